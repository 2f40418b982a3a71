import PyProof.Rows.All
import Wide.All
import OpenK.AllK
import Wide.FinOn
import HandS.ForMost
import HandS.ForExc
import HandS.IsInst
import HandS.Walk
import HandS.Defaults
import HandS.Comp
import HandS.Zip
import HandS.TupAny
import HandS.TupMul
import HandS.More
import HandS.Evl
import HandS.HeadHook2
import HandS.EndBits
import HandS.WordsExc
import HandS.ExcOwn
import HandS.TryOnly
import KE.LtData
import KE.GoesEnum
import KE.GoesMore
import KE.SortData
import HandS.Conv
import HandS.Deep
import HandS.Wide
import HandS.List
import PySem.Challenge.RW_likefill_k44_whole_made_of_least_rows
import KE.KStateDown
import HandS.Head0
import HandS.Head1
import HandS.Head2
import HandS.HeadEnd
import HandS.HeadHook1
set_option Elab.async false
set_option linter.all false
set_option maxRecDepth 100000
set_option maxHeartbeats 2000000
/-! G: typed judgements over the hand layer. A stable ground B that only grows, owned things of a def's own. -/
namespace G
open PySem L2

/-! ### semantic readings: what is wanted of a piece of text, by the model's own run -/
section
variable (X : Cx)
def WE (e : Expr) (Q : VK) (σ : L2.St) (H : Hp) : Prop := ∀ pins s, Inv X pins σ H s → wpAny (model X.prog X.w) X.A (eval e X.env) (EP X pins σ Q) X.xe s
def WT (e : Expr) (Q : Bool → Hp → Prop) (σ : L2.St) (H : Hp) : Prop := ∀ pins s, Inv X pins σ H s → wpAny (model X.prog X.w) X.A (isTrue e X.env (eval e X.env)) (TP X pins σ Q) X.xe s
def WW (e : Expr) (Q : Bool → Hp → Prop) (σ : L2.St) (H : Hp) : Prop := ∀ whole pins s, Inv X pins σ H s → wpAny (model X.prog X.w) X.A (isTrue e X.env whole) (TP X pins σ Q) X.xe s
def WA (es : List Expr) (Q : List V → Hp → Prop) (σ : L2.St) (H : Hp) : Prop := ∀ pos pins s, Inv X pins σ H s → wpAny (model X.prog X.w) X.A (spliced (backTo pos (starEach es X.env))) (AP X pins σ Q) X.xe s
def WS (ss : List Stmt) (D : Ends) (σ : L2.St) (H : Hp) : Prop := ∀ pins s, Inv X pins σ H s → wpAny (model X.prog X.w) X.A (execs ss X.env) (SP X pins D) X.xe s
def W1 (st : Stmt) (D : Ends) (σ : L2.St) (H : Hp) : Prop := ∀ pins s, Inv X pins σ H s → wpAny (model X.prog X.w) X.A (exec st X.env) (SP X pins D) X.xe s
end
section
variable {X : Cx} {e : Expr} {es : List Expr} {ss : List Stmt} {st : Stmt} {σ : L2.St} {H : Hp}
def tE (X : Cx) (e : Expr) : TE := fun σ H Q => WE X e Q σ H
def tT (X : Cx) (e : Expr) : TT := fun σ H Q => WT X e Q σ H
def tW (X : Cx) (e : Expr) : TT := fun σ H Q => WW X e Q σ H
def tA (X : Cx) (es : List Expr) : TA := fun σ H Q => WA X es Q σ H
def tS (X : Cx) (ss : List Stmt) : TS := fun D σ H => WS X ss D σ H
def t1 (X : Cx) (st : Stmt) : TS := fun D σ H => W1 X st D σ H
theorem pE : PE X e (tE X e) := ⟨fun pins s _ _ _ I h => h pins s I⟩
theorem pT : PT X e (tT X e) := ⟨fun pins s _ _ _ I h => h pins s I⟩
theorem pW : PW X e (tW X e) := ⟨fun wh pins s _ _ _ I h => h wh pins s I⟩
theorem pA : PA X es (tA X es) := ⟨fun pos pins s _ _ _ I h => h pos pins s I⟩
theorem pS : PSs X ss (tS X ss) := ⟨fun pins s _ _ _ I h => h pins s I⟩
theorem p1 : PS X st (t1 X st) := ⟨fun pins s _ _ _ I h => h pins s I⟩
theorem ofE {t : TE} (h : PE X e t) {Q : VK} (q : t σ H Q) : WE X e Q σ H := fun pins s I => h.run pins s σ H Q I q
theorem ofT {t : TT} (h : PT X e t) {Q} (q : t σ H Q) : WT X e Q σ H := fun pins s I => h.run pins s σ H Q I q
theorem ofW {t : TT} (h : PW X e t) {Q} (q : t σ H Q) : WW X e Q σ H := fun wh pins s I => h.run wh pins s σ H Q I q
theorem ofA {t : TA} (h : PA X es t) {Q} (q : t σ H Q) : WA X es Q σ H := fun pos pins s I => h.run pos pins s σ H Q I q
theorem ofS {t : TS} (h : PSs X ss t) {D} (q : t D σ H) : WS X ss D σ H := fun pins s I => h.run pins s σ H D I q
theorem of1 {t : TS} (h : PS X st t) {D} (q : t D σ H) : W1 X st D σ H := fun pins s I => h.run pins s σ H D I q
theorem WE.mono {Q Q' : VK} (h : WE X e Q σ H) (k : ∀ v H', Q v H' → Q' v H') : WE X e Q' σ H := fun pins s I => thn (h pins s I) fun _ _ ⟨v, H', I', r, q⟩ => ⟨v, H', I', r, k _ _ q⟩
theorem WT.mono {Q Q' : Bool → Hp → Prop} (h : WT X e Q σ H) (k : ∀ v H', Q v H' → Q' v H') : WT X e Q' σ H := fun pins s I => thn (h pins s I) fun _ _ ⟨H', I', q⟩ => ⟨H', I', k _ _ q⟩
theorem WW.mono {Q Q' : Bool → Hp → Prop} (h : WW X e Q σ H) (k : ∀ v H', Q v H' → Q' v H') : WW X e Q' σ H := fun wh pins s I => thn (h wh pins s I) fun _ _ ⟨H', I', q⟩ => ⟨H', I', k _ _ q⟩
theorem WA.mono {Q Q' : List V → Hp → Prop} (h : WA X es Q σ H) (k : ∀ v H', Q v H' → Q' v H') : WA X es Q' σ H := fun pos pins s I => thn (h pos pins s I) fun _ _ ⟨v, H', I', r, q⟩ => ⟨v, H', I', r, k _ _ q⟩
structure Ends.Le (D D' : Ends) : Prop where
  nx : ∀ σ H, D.nx σ H → D'.nx σ H
  rt : ∀ v H, D.rt v H → D'.rt v H
  bk : ∀ σ H, D.bk σ H → D'.bk σ H
  ct : ∀ σ H, D.ct σ H → D'.ct σ H
theorem SP.mono {pins : List (Addr × Obj)} {D D' : Ends} (l : Ends.Le D D') {f : Flow} {s : Shared} (h : SP X pins D f s) : SP X pins D' f s := by
  cases f with
  | next => obtain ⟨a, b, c, d⟩ := h; exact ⟨a, b, c, l.nx _ _ d⟩
  | brk => obtain ⟨a, b, c, d⟩ := h; exact ⟨a, b, c, l.bk _ _ d⟩
  | cont => obtain ⟨a, b, c, d⟩ := h; exact ⟨a, b, c, l.ct _ _ d⟩
  | ret u => obtain ⟨a, b, c, d, r, z⟩ := h; exact ⟨a, b, c, d, r, l.rt _ _ z⟩
theorem WS.mono {D D' : Ends} (h : WS X ss D σ H) (l : Ends.Le D D') : WS X ss D' σ H := fun pins s I => thn (h pins s I) fun _ _ q => SP.mono l q
theorem W1.mono {D D' : Ends} (h : W1 X st D σ H) (l : Ends.Le D D') : W1 X st D' σ H := fun pins s I => thn (h pins s I) fun _ _ q => SP.mono l q
theorem ws_cons {rest : List Stmt} {D : Ends} (h : W1 X st { D with nx := fun σ' H' => WS X rest D σ' H' } σ H) : WS X (st :: rest) D σ H := ofS (pss_cons p1 pS) h
theorem ws_nil {D : Ends} (h : D.nx σ H) : WS X [] D σ H := ofS pss_nil h
end

/-! ### the ground -/
/-- what is known of an address: exactly u stands there (or u, locked); or something for which φ holds (callees may change it) -/
inductive Kd where
  | ex (u : HO)
  | iv (φ : HO → Prop)
abbrev Bs := Addr → Option Kd
def Le (B B' : Bs) : Prop := ∀ a k, B a = some k → B' a = some k
theorem Le.refl (B : Bs) : Le B B := fun _ _ h => h
theorem Le.trans {A B C : Bs} (a : Le A B) (b : Le B C) : Le A C := fun x k h => b x k (a x k h)
theorem Le.free {B B' : Bs} (l : Le B B') {a : Addr} (h : B' a = none) : B a = none := by
  cases e : B a with
  | none => rfl
  | some k => rw [l a k e] at h; cases h
def put (B : Bs) (a : Addr) (k : Kd) : Bs := fun b => if b = a then some k else B b
theorem put_same {B : Bs} {a : Addr} {k : Kd} : put B a k a = some k := by unfold put; rw [if_pos rfl]
theorem put_ne {B : Bs} {a b : Addr} {k : Kd} (h : b ≠ a) : put B a k b = B b := by unfold put; rw [if_neg h]
theorem Le.put {B : Bs} {a : Addr} {k : Kd} (h : B a = none) : Le B (put B a k) := fun b u e => by
  rw [put_ne]
  · exact e
  · rintro rfl; rw [h] at e; cases e
/-- what may be locked while it is walked -/
def lk : HO → Bool
  | .dK _ => true
  | .dT _ => true
  | _ => false
def Rx (H : Hp) (a : Addr) (u : HO) : Prop := H a = some u ∨ (lk u = true ∧ ∃ o, H a = some (.frz o u))
theorem Rx.rd {H : Hp} {a : Addr} {u : HO} (h : Rx H a u) : Rd H a u := h.elim .inl fun z => .inr z.2
theorem Rx.hard {H : Hp} {a : Addr} {u : HO} (h : Rx H a u) (n : lk u = false) : H a = some u := h.elim id fun z => by rw [n] at z; cases z.1
structure Ok (B : Bs) (H : Hp) : Prop where
  ex : ∀ a u, B a = some (.ex u) → Rx H a u
  iv : ∀ a φ, B a = some (.iv φ) → ∃ o, H a = some o ∧ φ o ∧ ∀ vs, o ≠ .tup vs
theorem Ok.none {B : Bs} {H : Hp} (k : Ok B H) {a : Addr} (h : H a = none) : B a = none := by
  cases e : B a with
  | none => rfl
  | some d =>
    cases d with
    | ex u =>
      rcases k.ex a u e with z | ⟨_, o, z⟩ <;> (rw [h] at z; cases z)
    | iv φ =>
      obtain ⟨o, z, _⟩ := k.iv a φ e
      rw [h] at z; cases z
/-- an object that is no tuple stands there (own things are such) -/
def Hard (o : Option HO) : Prop := ∃ u, o = some u ∧ ∀ vs, u ≠ .tup vs
theorem Hard.ne {o : Option HO} (h : Hard o) : o ≠ none := by obtain ⟨u, e, _⟩ := h; rw [e]; simp
/-- nothing stands there, or a tuple that is laid as it is (tuples may be laid on the ground later) -/
def Soft (o : Option HO) (k : Kd) : Prop := o = none ∨ ∃ vs, o = some (.tup vs) ∧ k = .ex (.tup vs)
theorem Hard.no {o : Option HO} {k : Kd} (h : Hard o) (z : Soft o k) : False := by
  obtain ⟨u, e, n⟩ := h
  rcases z with z | ⟨vs, z, _⟩
  · rw [e] at z; cases z
  · rw [e] at z; cases z; exact n vs rfl
theorem hard_lst {vs : List V} : Hard (some (.lst vs)) := ⟨_, rfl, fun _ h => nomatch h⟩
/-- from the ground B under H to B' under H' -/
structure Stp (B : Bs) (H : Hp) (B' : Bs) (H' : Hp) : Prop where
  le : Le B B'
  ok : Ok B' H'
  keep : ∀ a o, H a = some o → (∀ φ, B a ≠ some (.iv φ)) → H' a = some o
  there : ∀ a, H a ≠ none → H' a ≠ none
  new : ∀ a, B a = none → ∀ k, B' a = some k → Soft (H a) k
theorem Stp.bnone {B B' : Bs} {H H' : Hp} (t : Stp B H B' H') {a : Addr} (h : H' a = none) : H a = none := by
  cases e : H a with
  | none => rfl
  | some o => exact absurd h (t.there a (by rw [e]; simp))
theorem Stp.refl {B : Bs} {H : Hp} (k : Ok B H) : Stp B H B H := ⟨Le.refl _, k, fun _ _ h _ => h, fun _ h => h, fun _ h _ n => by rw [h] at n; cases n⟩
theorem Stp.trans {B B1 B2 : Bs} {H H1 H2 : Hp} (a : Stp B H B1 H1) (b : Stp B1 H1 B2 H2) : Stp B H B2 H2 where
  le := a.le.trans b.le
  ok := b.ok
  keep := fun x o h n => b.keep x o (a.keep x o h n) fun φ e => by
    cases q : B x with
    | none =>
      rcases a.new x q _ e with this | ⟨vs, _, this⟩
      · rw [this] at h; cases h
      · cases this
    | some k =>
      have e2 := a.le x k q
      rw [e] at e2; cases e2
      exact n φ q
  there := fun x h => b.there x (a.there x h)
  new := fun x n1 k e => by
    cases q : B1 x with
    | none =>
      rcases b.new x q k e with z | ⟨vs, z, z2⟩
      · exact .inl (a.bnone z)
      · cases e2 : H x with
        | none => exact .inl rfl
        | some o =>
          have := a.keep x o e2 fun φ z => by rw [n1] at z; cases z
          rw [this] at z
          exact .inr ⟨vs, z, z2⟩
    | some k' =>
      have e2 := b.le x k' q
      rw [e] at e2; cases e2
      exact a.new x n1 k q

/-! ### predicates of values over the ground -/
structure Pr where
  r : Bs → V → Prop
  mono : ∀ B B' v, Le B B' → r B v → r B' v
/-- own: a value and the addresses of the objects that go with it -/
structure Oc where
  ad : V → Hp → List Addr
  r : Bs → Hp → V → Prop
  mono : ∀ B B' H v, Le B B' → r B H v → r B' H v
  ast : ∀ H H' v, (∀ a ∈ ad v H, H' a = H a) → ad v H' = ad v H
  rst : ∀ B H H' v, (∀ a ∈ ad v H, H' a = H a) → r B H v → r B H' v
/-- a slot: shared, a value over the ground; own: an object of the def's own -/
inductive Sl where
  | sh (r : Pr)
  | ow (c : Oc)
abbrev Gm := List (Option Sl)
/-- where a def entered -/
structure Base where
  B : Bs
  H : Hp
/-- an own value -/
structure Own (b : Base) (c : Oc) (v : V) (B : Bs) (H : Hp) : Prop where
  nb : ∀ a ∈ c.ad v H, B a = none
  nh : ∀ a ∈ c.ad v H, b.H a = none
  th : ∀ a ∈ c.ad v H, Hard (H a)
  at_ : c.r B H v
structure EnvOk (b : Base) (Γ : Gm) (σ : L2.St) (B : Bs) (H : Hp) : Prop where
  len : σ.length = Γ.length
  sh : ∀ (i : Nat) (r : Pr), Γ[i]? = some (some (.sh r)) → ∃ v, σ[i]? = some (some v) ∧ r.r B v
  ow : ∀ (i : Nat) (c : Oc), Γ[i]? = some (some (.ow c)) → ∃ v, σ[i]? = some (some v) ∧ Own b c v B H
  dis : ∀ (i j : Nat) (c c' : Oc) (v v' : V) (a : Addr), Γ[i]? = some (some (.ow c)) → Γ[j]? = some (some (.ow c')) → σ[i]? = some (some v) → σ[j]? = some (some v') → a ∈ c.ad v H → a ∈ c'.ad v' H → i = j
structure Sta (b : Base) (Γ : Gm) (σ : L2.St) (B : Bs) (H : Hp) : Prop where
  st : Stp b.B b.H B H
  env : EnvOk b Γ σ B H
section
variable {b : Base} {Γ : Gm} {σ : L2.St} {B B' : Bs} {H H' : Hp}
/-- what is evaluated leaves: the ground grows, the own things stay -/
structure Aft (b : Base) (Γ : Gm) (σ : L2.St) (B : Bs) (H : Hp) (B' : Bs) (H' : Hp) : Prop where
  t : Stp B H B' H'
  sta : Sta b Γ σ B' H'
theorem Aft.le (a : Aft b Γ σ B H B' H') : Le B B' := a.t.le
theorem Aft.th (a : Aft b Γ σ B H B' H') {x : Addr} (h : H' x = none) : H x = none := a.t.bnone h
theorem Sta.refl (s : Sta b Γ σ B H) : Aft b Γ σ B H B H := ⟨Stp.refl s.st.ok, s⟩
theorem Aft.trans {B1 B2 : Bs} {H1 H2 : Hp} (a : Aft b Γ σ B H B1 H1) (c : Aft b Γ σ B1 H1 B2 H2) : Aft b Γ σ B H B2 H2 := ⟨a.t.trans c.t, c.sta⟩
theorem Own.agree {c : Oc} {v : V} (k : Own b c v B H) (t : Stp B H B' H') : ∀ a ∈ c.ad v H, H' a = H a := fun a ha => by
  cases e : H a with
  | none => exact absurd e (k.th a ha).ne
  | some o => exact t.keep a o e fun φ z => by rw [k.nb a ha] at z; cases z
theorem Own.ad_eq {c : Oc} {v : V} (k : Own b c v B H) (t : Stp B H B' H') : c.ad v H' = c.ad v H := c.ast H H' v (k.agree t)
theorem Own.step {c : Oc} {v : V} (k : Own b c v B H) (t : Stp B H B' H') : Own b c v B' H' := by
  have e := k.ad_eq t
  have g := k.agree t
  refine ⟨fun a ha => ?_, fun a ha => k.nh a (e ▸ ha), fun a ha => by rw [g a (e ▸ ha)]; exact k.th a (e ▸ ha), c.mono _ _ _ _ t.le (c.rst _ _ _ _ g k.at_)⟩
  rw [e] at ha
  cases f : B' a with
  | none => rfl
  | some d => exact ((k.th a ha).no (t.new a (k.nb a ha) d f)).elim
/-- a step of the ground that leaves H's objects -/
theorem Sta.step (s : Sta b Γ σ B H) (t : Stp B H B' H') : Aft b Γ σ B H B' H' where
  t := t
  sta := {
    st := s.st.trans t
    env := {
      len := s.env.len
      sh := fun i r h => let ⟨v, e, k⟩ := s.env.sh i r h; ⟨v, e, r.mono _ _ _ t.le k⟩
      ow := fun i c h => let ⟨v, e, k⟩ := s.env.ow i c h; ⟨v, e, k.step t⟩
      dis := fun i j c c' v v' a h1 h2 h3 h4 h5 h6 => by
        obtain ⟨u, e, k⟩ := s.env.ow i c h1
        obtain ⟨u', e', k'⟩ := s.env.ow j c' h2
        rw [h3] at e; cases e
        rw [h4] at e'; cases e'
        rw [k.ad_eq t] at h5
        rw [k'.ad_eq t] at h6
        exact s.env.dis i j c c' v v' a h1 h2 h3 h4 h5 h6 } }
/-- a new object, laid on the ground -/
theorem Stp.lay {p : Addr} {u : HO} (k : Ok B H) (h : H p = none) : Stp B H (put B p (.ex u)) (upd H p u) where
  le := Le.put (k.none h)
  ok := {
    ex := fun a w e => by
      by_cases q : a = p
      · subst q; rw [put_same] at e; cases e; exact .inl upd_same
      · rw [put_ne q] at e
        rcases k.ex a w e with z | ⟨l, o, z⟩
        · exact .inl (by rw [upd_ne q]; exact z)
        · exact .inr ⟨l, o, by rw [upd_ne q]; exact z⟩
    iv := fun a φ e => by
      by_cases q : a = p
      · subst q; rw [put_same] at e; cases e
      · rw [put_ne q] at e
        obtain ⟨o, z, f⟩ := k.iv a φ e
        exact ⟨o, by rw [upd_ne q]; exact z, f⟩ }
  keep := fun a o e _ => by rw [upd_ne (ne_of_none e h)]; exact e
  there := fun a e => by
    by_cases q : a = p
    · subst q; rw [upd_same]; simp
    · rw [upd_ne q]; exact e
  new := fun a e k' n => by
    by_cases q : a = p
    · subst q; exact .inl h
    · rw [put_ne q, e] at n; cases n
/-- a new object beside the ground -/
theorem Stp.beside {p : Addr} {u : HO} (k : Ok B H) (h : H p = none) : Stp B H B (upd H p u) where
  le := Le.refl _
  ok := {
    ex := fun a w e => by
      have q : a ≠ p := by rintro rfl; rw [k.none h] at e; cases e
      rcases k.ex a w e with z | ⟨l, o, z⟩
      · exact .inl (by rw [upd_ne q]; exact z)
      · exact .inr ⟨l, o, by rw [upd_ne q]; exact z⟩
    iv := fun a φ e => by
      have q : a ≠ p := by rintro rfl; rw [k.none h] at e; cases e
      obtain ⟨o, z, f⟩ := k.iv a φ e
      exact ⟨o, by rw [upd_ne q]; exact z, f⟩ }
  keep := fun a o e _ => by rw [upd_ne (ne_of_none e h)]; exact e
  there := fun a e => by
    by_cases q : a = p
    · subst q; rw [upd_same]; simp
    · rw [upd_ne q]; exact e
  new := fun a e k' n => by rw [e] at n; cases n
theorem Sta.lay {p : Addr} {u : HO} (s : Sta b Γ σ B H) (h : H p = none) : Aft b Γ σ B H (put B p (.ex u)) (upd H p u) := s.step (Stp.lay s.st.ok h)
theorem Sta.beside {p : Addr} {u : HO} (s : Sta b Γ σ B H) (h : H p = none) : Aft b Γ σ B H B (upd H p u) := s.step (Stp.beside s.st.ok h)
/-- an object of one's own is laid on the ground -/
theorem Stp.give {p : Addr} {u : HO} (k : Ok B H) (hb : B p = none) (h : H p = some u) : Ok (put B p (.ex u)) H where
  ex := fun a w e => by
    by_cases q : a = p
    · subst q; rw [put_same] at e; cases e; exact .inl h
    · rw [put_ne q] at e; exact k.ex a w e
  iv := fun a φ e => by
    by_cases q : a = p
    · subst q; rw [put_same] at e; cases e
    · rw [put_ne q] at e; exact k.iv a φ e
theorem Stp.given {b : Base} {p : Addr} {u : HO} (s : Stp b.B b.H B H) (hb : B p = none) (nh : b.H p = none) (h : H p = some u) : Stp b.B b.H (put B p (.ex u)) H where
  le := s.le.trans (Le.put hb)
  ok := Stp.give s.ok hb h
  keep := s.keep
  there := s.there
  new := fun a e k' n => by
    by_cases q : a = p
    · subst q; exact .inl nh
    · rw [put_ne q] at n; exact s.new a e k' n
theorem Stp.handed {p : Addr} {u : HO} {B1 : Bs} {H1 : Hp} (s : Stp B H B1 H1) (hb : B1 p = none) (nh : H p = none) (h : H1 p = some u) : Stp B H (put B1 p (.ex u)) H1 where
  le := s.le.trans (Le.put hb)
  ok := Stp.give s.ok hb h
  keep := s.keep
  there := s.there
  new := fun a e k' n => by
    by_cases q : a = p
    · subst q; exact .inl nh
    · rw [put_ne q] at n; exact s.new a e k' n
/-- tuples that stand somewhere are laid on the ground -/
theorem Stp.tups {as : List Addr} (k : Ok B H) (h : ∀ a ∈ as, ∃ vs, H a = some (.tup vs)) : Stp B H (fun a => if a ∈ as ∧ B a = none then (match H a with
  | some o => some (.ex o)
  | none => none) else B a) H where
  le := fun a k e => by
    show (if _ then _ else _) = _
    rw [if_neg]
    · exact e
    · rintro ⟨_, z⟩; rw [e] at z; cases z
  ok := {
    ex := fun a u e => by
      by_cases q : a ∈ as ∧ B a = none
      · rw [if_pos q] at e
        obtain ⟨vs, z⟩ := h a q.1
        rw [z] at e
        cases e
        exact .inl z
      · rw [if_neg q] at e; exact k.ex a u e
    iv := fun a φ e => by
      by_cases q : a ∈ as ∧ B a = none
      · rw [if_pos q] at e
        obtain ⟨vs, z⟩ := h a q.1
        rw [z] at e
        cases e
      · rw [if_neg q] at e; exact k.iv a φ e }
  keep := fun a o e _ => e
  there := fun a e => e
  new := fun a e k' n => by
    by_cases q : a ∈ as ∧ B a = none
    · rw [if_pos q] at n
      obtain ⟨vs, z⟩ := h a q.1
      rw [z] at n
      cases n
      exact .inr ⟨vs, z, rfl⟩
    · rw [if_neg q, e] at n; cases n
abbrev Cells := List (Addr × HO)
def ads (cs : Cells) : List Addr := cs.map (·.1)
theorem mem_ads {cs : Cells} {a : Addr} {o : HO} (h : (a, o) ∈ cs) : a ∈ ads cs := List.mem_map.mpr ⟨_, h, rfl⟩
/-- the objects at some addresses, laid on the ground as they stand -/
def putH (B : Bs) (H : Hp) (as : List Addr) : Bs := fun a => if a ∈ as then (match H a with
  | some o => some (.ex o)
  | none => B a) else B a
theorem putH_out {B : Bs} {H : Hp} {as : List Addr} {a : Addr} (h : a ∉ as) : putH B H as a = B a := by unfold putH; rw [if_neg h]
theorem putH_in {B : Bs} {H : Hp} {as : List Addr} {a : Addr} {o : HO} (h : a ∈ as) (e : H a = some o) : putH B H as a = some (.ex o) := by unfold putH; rw [if_pos h, e]
theorem Le.putH {B : Bs} {H : Hp} {as : List Addr} (h : ∀ a ∈ as, B a = none) : Le B (putH B H as) := fun a k e => by
  rw [putH_out]
  · exact e
  · intro m; rw [h a m] at e; cases e
theorem putH_cases {B : Bs} {H : Hp} {as : List Addr} {a : Addr} {k : Kd} (e : putH B H as a = some k) : (∃ o, a ∈ as ∧ H a = some o ∧ k = .ex o) ∨ B a = some k := by
  unfold G.putH at e
  by_cases m : a ∈ as
  · rw [if_pos m] at e
    cases q : H a with
    | none => rw [q] at e; exact .inr e
    | some o => rw [q] at e; exact .inl ⟨o, m, rfl, (Option.some.inj e).symm⟩
  · rw [if_neg m] at e; exact .inr e
theorem Ok.putH {B : Bs} {H : Hp} {as : List Addr} (k : Ok B H) : Ok (putH B H as) H where
  ex := fun a u e => by
    rcases putH_cases e with ⟨o, _, h, q⟩ | q
    · cases q; exact .inl h
    · exact k.ex a u q
  iv := fun a φ e => by
    rcases putH_cases e with ⟨o, _, h, q⟩ | q
    · cases q
    · exact k.iv a φ q
theorem Stp.handedH {B1 : Bs} {H1 : Hp} {as : List Addr} (s : Stp B H B1 H1) (hb : ∀ a ∈ as, B1 a = none) (nh : ∀ a ∈ as, H a = none) : Stp B H (putH B1 H1 as) H1 where
  le := s.le.trans (Le.putH hb)
  ok := s.ok.putH
  keep := s.keep
  there := s.there
  new := fun a e k' n => by
    by_cases q : a ∈ as
    · exact .inl (nh a q)
    · rw [putH_out q] at n; exact s.new a e k' n
/-- an object of one's own is changed -/
theorem Stp.chg {b : Base} {p : Addr} {u : HO} (s : Stp b.B b.H B H) (hb : B p = none) (nh : b.H p = none) : Stp b.B b.H B (upd H p u) where
  le := s.le
  ok := {
    ex := fun a w e => by
      have q : a ≠ p := by rintro rfl; rw [hb] at e; cases e
      rcases s.ok.ex a w e with z | ⟨l, o, z⟩
      · exact .inl (by rw [upd_ne q]; exact z)
      · exact .inr ⟨l, o, by rw [upd_ne q]; exact z⟩
    iv := fun a φ e => by
      have q : a ≠ p := by rintro rfl; rw [hb] at e; cases e
      obtain ⟨o, z, f⟩ := s.ok.iv a φ e
      exact ⟨o, by rw [upd_ne q]; exact z, f⟩ }
  keep := fun a o e n => by
    rw [upd_ne (ne_of_none e nh)]
    exact s.keep a o e n
  there := fun a e => by
    by_cases q : a = p
    · subst q; rw [upd_same]; simp
    · rw [upd_ne q]; exact s.there a e
  new := s.new
end

/-! ### the context of a def -/
structure Gx where
  X : Cx
  b : Base
  W : WX
  k : Nat
structure Gx.Wf (g : Gx) : Prop where
  tk : Takes g.X g.W
  hr : g.X.calm = true → Room g.k g.X.A
  po : PassesOwn (model g.X.prog g.X.w) g.X.A g.X.env g.X.xe
  nd : g.X.N.Nodup
  bok : Ok g.b.B g.b.H

/-- an expression: from Γ to a value of P, Γ as it was -/
structure JE (g : Gx) (e : Expr) (Γ : Gm) (P : Pr) : Prop where
  run : g.Wf → ∀ σ B H, Sta g.b Γ σ B H → WE g.X e (fun v H' => ∃ B', Aft g.b Γ σ B H B' H' ∧ P.r B' v) σ H
/-- .. to a new object of one's own -/
structure JO (g : Gx) (e : Expr) (Γ : Gm) (c : Oc) : Prop where
  run : g.Wf → ∀ σ B H, Sta g.b Γ σ B H → WE g.X e (fun v H' => ∃ B', Aft g.b Γ σ B H B' H' ∧ Own g.b c v B' H' ∧ ∀ a ∈ c.ad v H', H a = none) σ H
/-- a test -/
structure JT (g : Gx) (e : Expr) (Γ : Gm) (c : Bool) : Prop where
  run : g.Wf → ∀ σ B H, Sta g.b Γ σ B H → WT g.X e (fun v H' => ∃ B', Aft g.b Γ σ B H B' H' ∧ v = c) σ H
structure JW (g : Gx) (e : Expr) (Γ : Gm) (c : Bool) : Prop where
  run : g.Wf → ∀ σ B H, Sta g.b Γ σ B H → WW g.X e (fun v H' => ∃ B', Aft g.b Γ σ B H B' H' ∧ v = c) σ H
/-- values by predicates -/
def F2 (B : Bs) : List V → List Pr → Prop
  | [], [] => True
  | v :: vs, r :: rs => r.r B v ∧ F2 B vs rs
  | _, _ => False
theorem F2.mono {B B' : Bs} (l : Le B B') : ∀ {vs : List V} {rs : List Pr}, F2 B vs rs → F2 B' vs rs
  | [], [], _ => trivial
  | _ :: _, r :: _, h => ⟨r.mono _ _ _ l h.1, F2.mono l h.2⟩
  | [], _ :: _, h => h.elim
  | _ :: _, [], h => h.elim
theorem F2.len {B : Bs} : ∀ {vs : List V} {rs : List Pr}, F2 B vs rs → vs.length = rs.length
  | [], [], _ => rfl
  | _ :: _, _ :: _, h => congrArg (· + 1) (F2.len h.2)
  | [], _ :: _, h => h.elim
  | _ :: _, [], h => h.elim
theorem F2.get {B : Bs} : ∀ {vs : List V} {rs : List Pr} {i : Nat} {r : Pr}, F2 B vs rs → rs[i]? = some r → ∃ v, vs[i]? = some v ∧ r.r B v
  | [], [], _, _, _, e => by simp at e
  | v :: _, r' :: _, 0, r, h, e => by
    have q : r' = r := by simpa using e
    subst q
    exact ⟨v, rfl, h.1⟩
  | _ :: vs, _ :: rs, i + 1, r, h, e => by
    obtain ⟨v, a, c⟩ := F2.get (i := i) (r := r) h.2 (by simpa using e)
    exact ⟨v, by simpa using a, c⟩
  | [], _ :: _, _, _, h, _ => h.elim
  | _ :: _, [], _, _, h, _ => h.elim
theorem F2.append {B : Bs} : ∀ {vs ws : List V} {rs qs : List Pr}, F2 B vs rs → F2 B ws qs → F2 B (vs ++ ws) (rs ++ qs)
  | [], _, [], _, _, h => h
  | _ :: _, _, _ :: _, _, h, k => ⟨h.1, F2.append h.2 k⟩
  | [], _, _ :: _, _, h, _ => h.elim
  | _ :: _, _, [], _, h, _ => h.elim
theorem F2.take {B : Bs} : ∀ {vs : List V} {rs : List Pr} (n : Nat), F2 B vs rs → F2 B (vs.take n) (rs.take n)
  | _, _, 0, _ => trivial
  | [], [], _ + 1, h => h
  | _ :: _, _ :: _, n + 1, h => ⟨h.1, F2.take n h.2⟩
  | [], _ :: _, _, h => h.elim
  | _ :: _, [], _, h => h.elim
theorem F2.drop {B : Bs} : ∀ {vs : List V} {rs : List Pr} (n : Nat), F2 B vs rs → F2 B (vs.drop n) (rs.drop n)
  | _, _, 0, h => h
  | [], [], _ + 1, h => h
  | _ :: _, _ :: _, n + 1, h => F2.drop n h.2
  | [], _ :: _, _, h => h.elim
  | _ :: _, [], _, h => h.elim
theorem F2.set {B : Bs} {x : V} {r : Pr} (k : r.r B x) : ∀ {vs : List V} {rs : List Pr} (n : Nat), F2 B vs rs → F2 B (vs.set n x) (rs.set n r)
  | [], [], _, h => h
  | _ :: _, _ :: _, 0, h => ⟨k, h.2⟩
  | _ :: _, _ :: _, n + 1, h => ⟨h.1, F2.set k n h.2⟩
  | [], _ :: _, _, h => h.elim
  | _ :: _, [], _, h => h.elim
theorem F2.one {B : Bs} {vs : List V} {P : Pr} (f : F2 B vs [P]) : ∃ v, vs = [v] ∧ P.r B v := by
  cases vs with
  | nil => exact f.elim
  | cons v vs =>
    cases vs with
    | nil => exact ⟨v, rfl, f.1⟩
    | cons _ _ => exact f.2.elim
theorem F2.two {B : Bs} {vs : List V} {P Q : Pr} (f : F2 B vs [P, Q]) : ∃ v u, vs = [v, u] ∧ P.r B v ∧ Q.r B u := by
  cases vs with
  | nil => exact f.elim
  | cons v vs =>
    obtain ⟨u, rfl, h⟩ := F2.one f.2
    exact ⟨v, u, rfl, f.1, h⟩
structure JA (g : Gx) (es : List Expr) (Γ : Gm) (Ps : List Pr) : Prop where
  run : g.Wf → ∀ σ B H, Sta g.b Γ σ B H → WA g.X es (fun vs H' => ∃ B', Aft g.b Γ σ B H B' H' ∧ F2 B' vs Ps) σ H
end G
set_option Elab.async false
set_option linter.all false
set_option maxRecDepth 100000
set_option maxHeartbeats 2000000
namespace G
open PySem L2

/-! ### the predicates -/
def rV (x : V) : Pr := ⟨fun _ v => v = x, fun _ _ _ _ h => h⟩
abbrev rI (i : Int) : Pr := rV (.int i)
abbrev rB (b : Bool) : Pr := rV (.bl b)
abbrev rS (s : Str) : Pr := rV (.str s)
abbrev rN : Pr := rV .non
/-- some a -/
def Pr.ex {ι : Type} (f : ι → Pr) : Pr := ⟨fun B v => ∃ a, (f a).r B v, fun _ _ _ l ⟨a, h⟩ => ⟨a, (f a).mono _ _ _ l h⟩⟩
/-- under φ -/
def Pr.gd (φ : Prop) (P : Pr) : Pr := ⟨fun B v => φ ∧ P.r B v, fun _ _ _ l ⟨a, h⟩ => ⟨a, P.mono _ _ _ l h⟩⟩
def Pr.or (P Q : Pr) : Pr := ⟨fun B v => P.r B v ∨ Q.r B v, fun _ _ _ l h => h.imp (P.mono _ _ _ l) (Q.mono _ _ _ l)⟩
abbrev Pr.exs {ι : Type} (φ : ι → Prop) (f : ι → Pr) : Pr := Pr.ex fun a => Pr.gd (φ a) (f a)
abbrev rIx (φ : Int → Prop) : Pr := Pr.exs φ rI
/-- a list, a tuple at p over the ground -/
def atL (K : PySem.W.Frag) (B : Bs) (p : Addr) (vs : List V) : Prop := B p = some (.ex (.lst vs))
def atT (K : PySem.W.Frag) (B : Bs) (p : Addr) (vs : List V) : Prop := B p = some (.ex (.tup vs)) ∨ ∃ (o : Obj) (its : Array Value) (n : Nat), K.lookup p = some o ∧ o.cls = .type "tuple" ∧ o.data = .seq its n ∧ its.size ≤ sizeLine ∧ Vals vs its.toList
theorem atL.mono {K : PySem.W.Frag} {B B' : Bs} {p : Addr} {vs : List V} (l : Le B B') (h : atL K B p vs) : atL K B' p vs := l _ _ h
theorem atT.mono {K : PySem.W.Frag} {B B' : Bs} {p : Addr} {vs : List V} (l : Le B B') (h : atT K B p vs) : atT K B' p vs := h.imp (l _ _) id
theorem atL.at_ {K : PySem.W.Frag} {B : Bs} {H : Hp} {p : Addr} {vs : List V} (k : Ok B H) (h : atL K B p vs) : H p = some (.lst vs) := (k.ex _ _ h).hard rfl
theorem atL.sq {K : PySem.W.Frag} {B : Bs} {H : Hp} {p : Addr} {vs : List V} (k : Ok B H) (h : atL K B p vs) : SqL K H p vs := SqL.of (h.at_ k)
theorem atT.sq {K : PySem.W.Frag} {B : Bs} {H : Hp} {p : Addr} {vs : List V} (k : Ok B H) (h : atT K B p vs) : SqT K H p vs := h.imp (fun z => (k.ex _ _ z).rd) id
def rLs (K : PySem.W.Frag) (rs : List Pr) : Pr := ⟨fun B v => ∃ p vs, v = .ref p ∧ atL K B p vs ∧ F2 B vs rs, fun _ _ _ l ⟨p, vs, e, h, k⟩ => ⟨p, vs, e, h.mono l, k.mono l⟩⟩
def rTs (K : PySem.W.Frag) (rs : List Pr) : Pr := ⟨fun B v => ∃ p vs, v = .ref p ∧ atT K B p vs ∧ F2 B vs rs, fun _ _ _ l ⟨p, vs, e, h, k⟩ => ⟨p, vs, e, h.mono l, k.mono l⟩⟩
/-- own: a list -/
def one (v : V) : List Addr := match v with
  | .ref p => [p]
  | _ => []
def oL (rs : List Pr) : Oc where
  ad := fun v _ => one v
  r := fun B H v => ∃ p vs, v = .ref p ∧ H p = some (.lst vs) ∧ F2 B vs rs
  mono := fun _ _ _ _ l ⟨p, vs, e, h, k⟩ => ⟨p, vs, e, h, k.mono l⟩
  ast := fun _ _ _ _ => rfl
  rst := fun B H H' v g ⟨p, vs, e, h, k⟩ => ⟨p, vs, e, by subst e; rw [g p (by simp [one])]; exact h, k⟩
theorem own_one {b : Base} {rs : List Pr} {v : V} {B : Bs} {H : Hp} (h : Own b (oL rs) v B H) : ∃ p vs, v = .ref p ∧ B p = none ∧ b.H p = none ∧ H p = some (.lst vs) ∧ F2 B vs rs := by
  obtain ⟨p, vs, e, e2, f⟩ := h.at_
  subst e
  exact ⟨p, vs, rfl, h.nb p (by simp [oL, one]), h.nh p (by simp [oL, one]), e2, f⟩
theorem mem_one {a p : Addr} : a ∈ one (.ref p) ↔ a = p := by simp [one]
theorem own_mk {b : Base} {rs : List Pr} {p : Addr} {vs : List V} {B : Bs} {H : Hp} (h1 : B p = none) (h2 : b.H p = none) (h3 : H p = some (.lst vs)) (f : F2 B vs rs) : Own b (oL rs) (.ref p) B H :=
  ⟨fun a ha => by rw [mem_one.mp ha]; exact h1, fun a ha => by rw [mem_one.mp ha]; exact h2, fun a ha => by rw [mem_one.mp ha, h3]; exact hard_lst, p, vs, rfl, h3, f⟩
theorem one_fresh {p : Addr} {H : Hp} (h : H p = none) : ∀ a ∈ one (.ref p), H a = none := fun a ha => by rw [mem_one.mp ha]; exact h

section
variable {g : Gx} {Γ : Gm} {P Q R : Pr} {e e1 e2 : Expr} {pos : Pos}

theorem JE.imp (h : JE g e Γ P) (k : ∀ B v, P.r B v → Q.r B v) : JE g e Γ Q := ⟨fun w σ B H s => (h.run w σ B H s).mono fun _ _ ⟨B', a, p⟩ => ⟨B', a, k _ _ p⟩⟩
theorem JE.to (h : JE g e Γ P) (k : P = Q) : JE g e Γ Q := k ▸ h
theorem JT.to {c d : Bool} (h : JT g e Γ c) (k : c = d) : JT g e Γ d := k ▸ h
theorem JE.exI {ι : Type} {f : ι → Pr} (a : ι) (h : JE g e Γ (f a)) : JE g e Γ (Pr.ex f) := h.imp fun _ _ z => ⟨a, z⟩
theorem JE.gdI {φ : Prop} (p : φ) (h : JE g e Γ P) : JE g e Γ (Pr.gd φ P) := h.imp fun _ _ z => ⟨p, z⟩

/-! ### names, constants -/
theorem x_var (i : Nat) {x : Str} (hx : Γ[i]? = some (some (.sh P)) := by rfl) (hN : g.X.N[i]? = some x := by rfl) (hv : Vis g.X.env.scope x := by first | exact Or.inl rfl | exact Or.inr (Or.inl rfl) | exact Or.inr (Or.inr rfl))
    (hd : (x == ("__debug__" : Str)) = false := by decide) (hcd : (x == ("__classdict__" : Str)) = false := by decide) : JE g (.Name x pos) Γ P :=
  ⟨fun w σ B H s => ofE (pe_var hN hv hd hcd) (by
    obtain ⟨v, a, c⟩ := s.env.sh i P hx
    exact ⟨v, a, B, s.refl, c⟩)⟩
theorem x_c {v : V} (h : PE g.X e (tC v)) : JE g e Γ (rV v) := ⟨fun w σ B H s => ofE h ⟨B, s.refl, rfl⟩⟩
theorem x_int {i j} : JE g (.Constant (.int i) j pos) Γ (rI i) := x_c pe_int
theorem x_bl {i j} : JE g (.Constant (.bool i) j pos) Γ (rB i) := x_c pe_bl
theorem x_str {i j} : JE g (.Constant (.str i) j pos) Γ (rS i) := x_c pe_str
theorem x_non {j} : JE g (.Constant .none j pos) Γ rN := x_c pe_non
/-- a constant of the module -/
theorem x_glob {x : Str} {v : V} (h : ∃ u, g.X.mg x = some u ∧ RelV v u) (hg : Gl g.X x := by rfl) (hd : (x == ("__debug__" : Str)) = false := by decide) : JE g (.Name x pos) Γ (rV v) := by
  obtain ⟨u, h1, h2⟩ := h
  exact x_c (pe_glob hg h1 h2 hd)

/-! ### operators -/
/-- a two-place operation, by values -/
def Op2 (X : Cx) (r : R2) (P Q R : Pr) : Prop := ∀ B H v u (K : VK), Ok B H → P.r B v → Q.r B u → (∀ z B' H', Stp B H B' H' → R.r B' z → K z H') → r v u H K
theorem op2_run {X : Cx} {r : R2} {b : Base} {σ : L2.St} {B : Bs} {H : Hp} (h : Op2 X r P Q R) (s : Sta b Γ σ B H) {v u : V} (p : P.r B v) (q : Q.r B u) {K : VK} (k : ∀ z B' H', Aft b Γ σ B H B' H' → R.r B' z → K z H') : r v u H K :=
  h B H v u K s.st.ok p q fun z B' H' t c => k z B' H' (s.step t) c
theorem x_op {op : Operator} {r : R2} (ho : OpR g.X (binaryOp op) r) (hv : Op2 g.X r P Q R) (h1 : JE g e1 Γ P) (h2 : JE g e2 Γ Q) : JE g (.BinOp e1 op e2 pos) Γ R :=
  ⟨fun w σ B H s => ofE (pe_op ho pE pE) ((h1.run w σ B H s).mono fun v H1 ⟨B1, a1, p⟩ => (h2.run w σ B1 H1 a1.sta).mono fun u H2 ⟨B2, a2, q⟩ =>
    op2_run hv a2.sta (P.mono _ _ _ a2.le p) q fun z B' H' a3 c => ⟨B', (a1.trans a2).trans a3, c⟩)⟩
theorem x_cmpV {op : CmpOp} {r : R2} (ho : OpR g.X (compareOp op) r) (hv : Op2 g.X r P Q R) (h1 : JE g e1 Γ P) (h2 : JE g e2 Γ Q) (hm : behindInMarks op e2 = false := by first | exact nomark _ | rfl) : JE g (.Compare e1 [op] [e2] pos) Γ R :=
  ⟨fun w σ B H s => ofE (pe_cmpR ho pE pE hm) ((h1.run w σ B H s).mono fun v H1 ⟨B1, a1, p⟩ => (h2.run w σ B1 H1 a1.sta).mono fun u H2 ⟨B2, a2, q⟩ =>
    op2_run hv a2.sta (P.mono _ _ _ a2.le p) q fun z B' H' a3 c => ⟨B', (a1.trans a2).trans a3, c⟩)⟩
theorem x_cmpT {op : CmpOp} {r : R2} {c : Bool} (ho : OpR g.X (compareOp op) r) (hv : Op2 g.X r P Q (rB c)) (h1 : JE g e1 Γ P) (h2 : JE g e2 Γ Q) (hm : behindInMarks op e2 = false := by first | exact nomark _ | rfl) : JT g (.Compare e1 [op] [e2] pos) Γ c :=
  ⟨fun w σ B H s => ofT (pt_cmpR ho pE pE hm) ((h1.run w σ B H s).mono fun v H1 ⟨B1, a1, p⟩ => (h2.run w σ B1 H1 a1.sta).mono fun u H2 ⟨B2, a2, q⟩ =>
    op2_run hv a2.sta (P.mono _ _ _ a2.le p) q fun z B' H' a3 c => ⟨_, c, B', (a1.trans a2).trans a3, rfl⟩)⟩
theorem o_I0 {X : Cx} {f : Int → Int → V} {i j : Int} : Op2 X (rI0 f) (rI i) (rI j) (rV (f i j)) := fun B H v u K k p q c => ⟨i, j, p, q, c _ B H (Stp.refl k) rfl⟩
theorem o_I {X : Cx} {C : Int → Int → Prop} {f : Int → Int → V} {i j : Int} (hc : C i j) : Op2 X (L2.rI C f) (rI i) (rI j) (rV (f i j)) := fun B H v u K k p q c => ⟨i, j, p, q, hc, c _ B H (Stp.refl k) rfl⟩
theorem x_add {i j : Int} (h1 : JE g e1 Γ (rI i)) (h2 : JE g e2 Γ (rI j)) : JE g (.BinOp e1 .Add e2 pos) Γ (rI (i + j)) := x_op op_add o_I0 h1 h2
theorem x_sub {i j : Int} (h1 : JE g e1 Γ (rI i)) (h2 : JE g e2 Γ (rI j)) : JE g (.BinOp e1 .Sub e2 pos) Γ (rI (i - j)) := x_op op_sub o_I0 h1 h2
theorem x_mul {i j : Int} (hc : CMul i j) (h1 : JE g e1 Γ (rI i)) (h2 : JE g e2 Γ (rI j)) : JE g (.BinOp e1 .Mult e2 pos) Γ (rI (i * j)) := x_op op_mul (o_I hc) h1 h2
theorem x_fdiv {i j : Int} (hc : CDiv i j) (h1 : JE g e1 Γ (rI i)) (h2 : JE g e2 Γ (rI j)) : JE g (.BinOp e1 .FloorDiv e2 pos) Γ (rI (i / j)) := x_op op_fdiv (o_I hc) h1 h2
theorem x_mod {i j : Int} (hc : 0 < j) (h1 : JE g e1 Γ (rI i)) (h2 : JE g e2 Γ (rI j)) : JE g (.BinOp e1 .Mod e2 pos) Γ (rI (i % j)) := x_op op_mod (o_I hc) h1 h2
theorem x_neg {i : Int} (h1 : JE g e1 Γ (rI i)) : JE g (.UnaryOp .USub e1 pos) Γ (rI (-i)) :=
  ⟨fun w σ B H s => ofE (pe_un un_neg pE) ((h1.run w σ B H s).mono fun v H1 ⟨B1, a1, p⟩ => ⟨i, p, B1, a1, rfl⟩)⟩
/-- ints by words of them -/
theorem o_I0x {X : Cx} {f : Int → Int → Int} {φ ψ : Int → Prop} : Op2 X (rI0 fun i j => .int (f i j)) (rIx φ) (rIx ψ) (rIx fun k => ∃ i j, φ i ∧ ψ j ∧ k = f i j) := fun B H v u K k ⟨i, a, p⟩ ⟨j, c, q⟩ t => ⟨i, j, p, q, t _ B H (Stp.refl k) ⟨_, ⟨i, j, a, c, rfl⟩, rfl⟩⟩
theorem o_Ix {X : Cx} {C : Int → Int → Prop} {f : Int → Int → Int} {φ ψ : Int → Prop} (hc : ∀ i j, φ i → ψ j → C i j) : Op2 X (L2.rI C fun i j => .int (f i j)) (rIx φ) (rIx ψ) (rIx fun k => ∃ i j, φ i ∧ ψ j ∧ k = f i j) := fun B H v u K k ⟨i, a, p⟩ ⟨j, c, q⟩ t => ⟨i, j, p, q, hc i j a c, t _ B H (Stp.refl k) ⟨_, ⟨i, j, a, c, rfl⟩, rfl⟩⟩
theorem JE.ix {i : Int} (h : JE g e Γ (rI i)) : JE g e Γ (rIx (· = i)) := h.imp fun _ _ z => ⟨i, rfl, z⟩
theorem JE.iw {φ ψ : Int → Prop} (h : JE g e Γ (rIx φ)) (k : ∀ i, φ i → ψ i) : JE g e Γ (rIx ψ) := h.imp fun _ _ ⟨i, a, z⟩ => ⟨i, k i a, z⟩
/-- an expression once its part is known: the general way -/
theorem x_addx {φ ψ : Int → Prop} (h1 : JE g e1 Γ (rIx φ)) (h2 : JE g e2 Γ (rIx ψ)) : JE g (.BinOp e1 .Add e2 pos) Γ (rIx fun k => ∃ i j, φ i ∧ ψ j ∧ k = i + j) := x_op op_add o_I0x h1 h2
theorem x_mulx {φ ψ : Int → Prop} (hc : ∀ i j, φ i → ψ j → CMul i j) (h1 : JE g e1 Γ (rIx φ)) (h2 : JE g e2 Γ (rIx ψ)) : JE g (.BinOp e1 .Mult e2 pos) Γ (rIx fun k => ∃ i j, φ i ∧ ψ j ∧ k = i * j) := x_op op_mul (o_Ix hc) h1 h2

/-! comparisons of ints -/
theorem x_lt {i j : Int} (h1 : JE g e1 Γ (rI i)) (h2 : JE g e2 Γ (rI j)) : JE g (.Compare e1 [.Lt] [e2] pos) Γ (rB (decide (i < j))) := x_cmpV op_lt o_I0 h1 h2
theorem x_le {i j : Int} (h1 : JE g e1 Γ (rI i)) (h2 : JE g e2 Γ (rI j)) : JE g (.Compare e1 [.LtE] [e2] pos) Γ (rB (decide (i ≤ j))) := x_cmpV op_le o_I0 h1 h2
theorem x_gt {i j : Int} (h1 : JE g e1 Γ (rI i)) (h2 : JE g e2 Γ (rI j)) : JE g (.Compare e1 [.Gt] [e2] pos) Γ (rB (decide (j < i))) := x_cmpV op_gt o_I0 h1 h2
theorem x_ge {i j : Int} (h1 : JE g e1 Γ (rI i)) (h2 : JE g e2 Γ (rI j)) : JE g (.Compare e1 [.GtE] [e2] pos) Γ (rB (decide (j ≤ i))) := x_cmpV op_ge o_I0 h1 h2
theorem t_lt {i j : Int} (h1 : JE g e1 Γ (rI i)) (h2 : JE g e2 Γ (rI j)) : JT g (.Compare e1 [.Lt] [e2] pos) Γ (decide (i < j)) := x_cmpT op_lt o_I0 h1 h2
theorem t_le {i j : Int} (h1 : JE g e1 Γ (rI i)) (h2 : JE g e2 Γ (rI j)) : JT g (.Compare e1 [.LtE] [e2] pos) Γ (decide (i ≤ j)) := x_cmpT op_le o_I0 h1 h2
theorem t_gt {i j : Int} (h1 : JE g e1 Γ (rI i)) (h2 : JE g e2 Γ (rI j)) : JT g (.Compare e1 [.Gt] [e2] pos) Γ (decide (j < i)) := x_cmpT op_gt o_I0 h1 h2
theorem t_ge {i j : Int} (h1 : JE g e1 Γ (rI i)) (h2 : JE g e2 Γ (rI j)) : JT g (.Compare e1 [.GtE] [e2] pos) Γ (decide (j ≤ i)) := x_cmpT op_ge o_I0 h1 h2
/-- a < b < c -/
theorem x_chain {op op' : CmpOp} {r r' : R2} {e3 : Expr} {T : Pr} {c d : Bool} (ho : OpR g.X (compareOp op) r) (ho' : OpR g.X (compareOp op') r') (hv : Op2 g.X r P Q (rB c)) (hv' : Op2 g.X r' Q T (rB d)) (h1 : JE g e1 Γ P) (h2 : JE g e2 Γ Q) (h3 : JE g e3 Γ T)
    (hm : lastMarks [op, op'] [e2, e3] = false := by with_unfolding_all rfl) : JE g (.Compare e1 [op, op'] [e2, e3] pos) Γ (rB (c && d)) :=
  ⟨fun w σ B H s => ofE (pe_chain ho ho' pE pE pE hm) ((h1.run w σ B H s).mono fun v H1 ⟨B1, a1, p⟩ => (h2.run w σ B1 H1 a1.sta).mono fun u H2 ⟨B2, a2, q⟩ =>
    op2_run hv a2.sta (P.mono _ _ _ a2.le p) q fun z B' H' a3 z1 => ⟨c, z1, by
      cases c with
      | true =>
        rw [if_pos rfl]
        exact (h3.run w σ B' H' a3.sta).mono fun t H4 ⟨B4, a4, q4⟩ => op2_run hv' a4.sta (Q.mono _ _ _ (a3.le.trans a4.le) q) q4 fun z B5 H5 a5 z2 => ⟨B5, ((a1.trans a2).trans a3).trans (a4.trans a5), z2⟩
      | false => rw [if_neg (by decide)]; exact ⟨B', (a1.trans a2).trans a3, rfl⟩⟩)⟩
theorem t_chain {op op' : CmpOp} {r r' : R2} {e3 : Expr} {T : Pr} {c d : Bool} (ho : OpR g.X (compareOp op) r) (ho' : OpR g.X (compareOp op') r') (hv : Op2 g.X r P Q (rB c)) (hv' : Op2 g.X r' Q T (rB d)) (h1 : JE g e1 Γ P) (h2 : JE g e2 Γ Q) (h3 : JE g e3 Γ T)
    (hm : lastMarks [op, op'] [e2, e3] = false := by with_unfolding_all rfl) : JT g (.Compare e1 [op, op'] [e2, e3] pos) Γ (c && d) :=
  ⟨fun w σ B H s => ofT (pt_chain ho ho' pE pE pE hm) ((h1.run w σ B H s).mono fun v H1 ⟨B1, a1, p⟩ => (h2.run w σ B1 H1 a1.sta).mono fun u H2 ⟨B2, a2, q⟩ =>
    op2_run hv a2.sta (P.mono _ _ _ a2.le p) q fun z B' H' a3 z1 => ⟨c, z1, by
      cases c with
      | true =>
        rw [if_pos rfl]
        exact (h3.run w σ B' H' a3.sta).mono fun t H4 ⟨B4, a4, q4⟩ => op2_run hv' a4.sta (Q.mono _ _ _ (a3.le.trans a4.le) q) q4 fun z B5 H5 a5 z2 => ⟨_, z2, B5, ((a1.trans a2).trans a3).trans (a4.trans a5), rfl⟩
      | false => rw [if_neg (by decide)]; exact ⟨_, rfl, B', (a1.trans a2).trans a3, rfl⟩⟩)⟩
/-- == of ints, bools, texts .. -/
theorem o_eq {X : Cx} {x y : V} (h : scal x y = true) : Op2 X rEq (rV x) (rV y) (rB (decide (x = y))) := fun B H v u K k p q c => by
  cases p; cases q
  exact ⟨h, c _ B H (Stp.refl k) rfl⟩
theorem o_ne {X : Cx} {x y : V} (h : scal x y = true) : Op2 X rNe (rV x) (rV y) (rB (!decide (x = y))) := fun B H v u K k p q c => by
  cases p; cases q
  exact ⟨h, c _ B H (Stp.refl k) rfl⟩
theorem dI {i j : Int} : decide (V.int i = V.int j) = decide (i = j) := by simp
theorem dS {i j : Str} : decide (V.str i = V.str j) = decide (i = j) := by simp
theorem dB {i j : Bool} : decide (V.bl i = V.bl j) = decide (i = j) := by simp
theorem x_eqI {i j : Int} (h1 : JE g e1 Γ (rI i)) (h2 : JE g e2 Γ (rI j)) : JE g (.Compare e1 [.Eq] [e2] pos) Γ (rB (decide (i = j))) := (x_cmpV op_eq (o_eq rfl) h1 h2).to (by rw [dI])
theorem x_neI {i j : Int} (h1 : JE g e1 Γ (rI i)) (h2 : JE g e2 Γ (rI j)) : JE g (.Compare e1 [.NotEq] [e2] pos) Γ (rB (!decide (i = j))) := (x_cmpV op_ne (o_ne rfl) h1 h2).to (by rw [dI])
theorem t_eqI {i j : Int} (h1 : JE g e1 Γ (rI i)) (h2 : JE g e2 Γ (rI j)) : JT g (.Compare e1 [.Eq] [e2] pos) Γ (decide (i = j)) := (x_cmpT op_eq (o_eq rfl) h1 h2).to (by rw [dI])
theorem t_neI {i j : Int} (h1 : JE g e1 Γ (rI i)) (h2 : JE g e2 Γ (rI j)) : JT g (.Compare e1 [.NotEq] [e2] pos) Γ (!decide (i = j)) := (x_cmpT op_ne (o_ne rfl) h1 h2).to (by rw [dI])
theorem x_eqS {i j : Str} (h1 : JE g e1 Γ (rS i)) (h2 : JE g e2 Γ (rS j)) : JE g (.Compare e1 [.Eq] [e2] pos) Γ (rB (decide (i = j))) := (x_cmpV op_eq (o_eq rfl) h1 h2).to (by rw [dS])
theorem x_neS {i j : Str} (h1 : JE g e1 Γ (rS i)) (h2 : JE g e2 Γ (rS j)) : JE g (.Compare e1 [.NotEq] [e2] pos) Γ (rB (!decide (i = j))) := (x_cmpV op_ne (o_ne rfl) h1 h2).to (by rw [dS])
theorem t_eqS {i j : Str} (h1 : JE g e1 Γ (rS i)) (h2 : JE g e2 Γ (rS j)) : JT g (.Compare e1 [.Eq] [e2] pos) Γ (decide (i = j)) := (x_cmpT op_eq (o_eq rfl) h1 h2).to (by rw [dS])
theorem t_neS {i j : Str} (h1 : JE g e1 Γ (rS i)) (h2 : JE g e2 Γ (rS j)) : JT g (.Compare e1 [.NotEq] [e2] pos) Γ (!decide (i = j)) := (x_cmpT op_ne (o_ne rfl) h1 h2).to (by rw [dS])
theorem t_eqB {i j : Bool} (h1 : JE g e1 Γ (rB i)) (h2 : JE g e2 Γ (rB j)) : JT g (.Compare e1 [.Eq] [e2] pos) Γ (decide (i = j)) := (x_cmpT op_eq (o_eq rfl) h1 h2).to (by rw [dB])
theorem t_neB {i j : Bool} (h1 : JE g e1 Γ (rB i)) (h2 : JE g e2 Γ (rB j)) : JT g (.Compare e1 [.NotEq] [e2] pos) Γ (!decide (i = j)) := (x_cmpT op_ne (o_ne rfl) h1 h2).to (by rw [dB])
/-- is None -/
theorem x_isN {i x : V} {j p'} (h1 : JE g e1 Γ (rV x)) : JE g (.Compare e1 [.Is] [.Constant .none j p'] pos) Γ (rB (decide (x = .non))) :=
  x_cmpV op_isN (fun B H v u K k p q c => by cases p; cases q; exact ⟨rfl, c _ B H (Stp.refl k) rfl⟩) h1 x_non
theorem t_isN {x : V} {j p'} (h1 : JE g e1 Γ (rV x)) : JT g (.Compare e1 [.Is] [.Constant .none j p'] pos) Γ (decide (x = .non)) :=
  x_cmpT op_isN (fun B H v u K k p q c => by cases p; cases q; exact ⟨rfl, c _ B H (Stp.refl k) rfl⟩) h1 x_non
theorem t_notN {x : V} {j p'} (h1 : JE g e1 Γ (rV x)) : JT g (.Compare e1 [.IsNot] [.Constant .none j p'] pos) Γ (!decide (x = .non)) :=
  x_cmpT op_notN (fun B H v u K k p q c => by cases p; cases q; exact ⟨rfl, c _ B H (Stp.refl k) rfl⟩) h1 x_non

/-! ### tests -/
/-- an expression that gives True or False -/
theorem t_val {c : Bool} (h : JE g e Γ (rB c)) (he : ∀ whole, isTrue e g.X.env whole = (do let v ← whole; standAt e.pos; holding [v] (truthy v)) := by intro _; rfl) : JT g e Γ c :=
  ⟨fun w σ B H s => ofT (pt_val pE he) ((h.run w σ B H s).mono fun v H1 ⟨B1, a1, p⟩ => ⟨c, p, B1, a1, rfl⟩)⟩
theorem t_not {c : Bool} (h : JT g e Γ c) : JT g (.UnaryOp .Not e pos) Γ (!c) :=
  ⟨fun w σ B H s => ofT (pt_not pT) ((h.run w σ B H s).mono fun v H1 ⟨B1, a1, p⟩ => ⟨B1, a1, by rw [p]⟩)⟩
theorem JW.t {c : Bool} (h : JW g e Γ c) : JT g e Γ c := ⟨fun w σ B H s pins s1 I => h.run w σ B H s _ pins s1 I⟩
theorem w_and1 {c : Bool} (h : JT g e Γ c) : JW g (.BoolOp .And [e] pos) Γ c := ⟨fun w σ B H s => ofW (pw_and1 pT) (h.run w σ B H s)⟩
theorem w_or1 {c : Bool} (h : JT g e Γ c) : JW g (.BoolOp .Or [e] pos) Γ c := ⟨fun w σ B H s => ofW (pw_or1 pT) (h.run w σ B H s)⟩
theorem w_and {c d : Bool} {rest : List Expr} (h : JT g e Γ c) (k : c = true → JW g (.BoolOp .And (e1 :: rest) pos) Γ d) : JW g (.BoolOp .And (e :: e1 :: rest) pos) Γ (c && d) :=
  ⟨fun w σ B H s => ofW (pw_and pT pW) ((h.run w σ B H s).mono fun v H1 ⟨B1, a1, p⟩ => by
    subst p
    cases v with
    | true => rw [if_pos rfl]; exact ((k rfl).run w σ B1 H1 a1.sta).mono fun u H2 ⟨B2, a2, q⟩ => ⟨B2, a1.trans a2, by rw [q]; rfl⟩
    | false => rw [if_neg (by decide)]; exact ⟨B1, a1, rfl⟩)⟩
theorem w_or {c d : Bool} {rest : List Expr} (h : JT g e Γ c) (k : c = false → JW g (.BoolOp .Or (e1 :: rest) pos) Γ d) : JW g (.BoolOp .Or (e :: e1 :: rest) pos) Γ (c || d) :=
  ⟨fun w σ B H s => ofW (pw_or pT pW) ((h.run w σ B H s).mono fun v H1 ⟨B1, a1, p⟩ => by
    subst p
    cases v with
    | false => rw [if_neg (by decide)]; exact ((k rfl).run w σ B1 H1 a1.sta).mono fun u H2 ⟨B2, a2, q⟩ => ⟨B2, a1.trans a2, by rw [q]; rfl⟩
    | true => rw [if_pos rfl]; exact ⟨B1, a1, rfl⟩)⟩
/-- .. as values -/
theorem x_one {op} (h : JE g e Γ P) : JE g (.BoolOp op [e] pos) Γ P := ⟨fun w σ B H s => ofE (pe_one pE) (h.run w σ B H s)⟩
theorem x_and {c d : Bool} {rest : List Expr} (h : JE g e Γ (rB c)) (k : c = true → JE g (.BoolOp .And (e1 :: rest) pos) Γ (rB d)) : JE g (.BoolOp .And (e :: e1 :: rest) pos) Γ (rB (c && d)) :=
  ⟨fun w σ B H s => ofE (pe_and pE pE) ((h.run w σ B H s).mono fun v H1 ⟨B1, a1, p⟩ => ⟨c, p, by
    cases c with
    | true => rw [if_pos rfl]; exact ((k rfl).run w σ B1 H1 a1.sta).mono fun u H2 ⟨B2, a2, q⟩ => ⟨B2, a1.trans a2, q⟩
    | false => rw [if_neg (by decide)]; exact ⟨B1, a1, rfl⟩⟩)⟩
theorem x_or {c d : Bool} {rest : List Expr} (h : JE g e Γ (rB c)) (k : c = false → JE g (.BoolOp .Or (e1 :: rest) pos) Γ (rB d)) : JE g (.BoolOp .Or (e :: e1 :: rest) pos) Γ (rB (c || d)) :=
  ⟨fun w σ B H s => ofE (pe_or pE pE) ((h.run w σ B H s).mono fun v H1 ⟨B1, a1, p⟩ => ⟨c, p, by
    cases c with
    | false => rw [if_neg (by decide)]; exact ((k rfl).run w σ B1 H1 a1.sta).mono fun u H2 ⟨B2, a2, q⟩ => ⟨B2, a1.trans a2, q⟩
    | true => rw [if_pos rfl]; exact ⟨B1, a1, rfl⟩⟩)⟩
theorem x_not {c : Bool} (h : JE g e Γ (rB c)) : JE g (.UnaryOp .Not e pos) Γ (rB (!c)) :=
  ⟨fun w σ B H s => ofE (pe_not pE) ((h.run w σ B H s).mono fun v H1 ⟨B1, a1, p⟩ => ⟨c, p, B1, a1, rfl⟩)⟩
theorem x_if {c : Bool} {P : Bool → Pr} (h : JT g e Γ c) (h1 : c = true → JE g e1 Γ (P true)) (h2 : c = false → JE g e2 Γ (P false)) : JE g (.IfExp e e1 e2 pos) Γ (P c) :=
  ⟨fun w σ B H s => ofE (pe_ifExp pT pE pE) ((h.run w σ B H s).mono fun v H1 ⟨B1, a1, p⟩ => by
    subst p
    cases v with
    | true => rw [if_pos rfl]; exact ((h1 rfl).run w σ B1 H1 a1.sta).mono fun u H2 ⟨B2, a2, q⟩ => ⟨B2, a1.trans a2, q⟩
    | false => rw [if_neg (by decide)]; exact ((h2 rfl).run w σ B1 H1 a1.sta).mono fun u H2 ⟨B2, a2, q⟩ => ⟨B2, a1.trans a2, q⟩)⟩

/-! ### argument lists, displays -/
theorem a_nil : JA g [] Γ [] := ⟨fun w σ B H s => ofA pa_nil ⟨B, s.refl, trivial⟩⟩
theorem a_cons {es : List Expr} {Ps : List Pr} (h : JE g e Γ P) (k : JA g es Γ Ps) (hs : starEach (e :: es) g.X.env = (false, eval e g.X.env) :: starEach es g.X.env := by rfl) : JA g (e :: es) Γ (P :: Ps) :=
  ⟨fun w σ B H s => ofA (pa_cons pE pA hs) ((h.run w σ B H s).mono fun v H1 ⟨B1, a1, p⟩ => (k.run w σ B1 H1 a1.sta).mono fun vs H2 ⟨B2, a2, q⟩ => ⟨B2, a1.trans a2, P.mono _ _ _ a2.le p, q⟩)⟩
theorem x_tup {es : List Expr} {Ps : List Pr} {k : Nat} (h : JA g es Γ Ps) (hl : Ps.length ≤ sizeLine := by exact Nat.le_of_ble_eq_true rfl) : JE g (.Tuple es k pos) Γ (rTs g.X.K Ps) :=
  ⟨fun w σ B H s => ofE (pe_tup pA) ((h.run w σ B H s).mono fun vs H1 ⟨B1, a1, p⟩ => ⟨by rw [p.len]; exact hl, fun q hq => ⟨_, a1.trans (a1.sta.lay hq), q, vs, rfl, .inl put_same, p.mono (a1.sta.lay (u := .tup vs) hq).le⟩⟩)⟩
theorem x_lst {es : List Expr} {Ps : List Pr} (h : JA g es Γ Ps) (hl : Ps.length ≤ sizeLine := by exact Nat.le_of_ble_eq_true rfl) : JE g (.List es pos) Γ (rLs g.X.K Ps) :=
  ⟨fun w σ B H s => ofE (pe_lst pA) ((h.run w σ B H s).mono fun vs H1 ⟨B1, a1, p⟩ => ⟨by rw [p.len]; exact hl, fun q hq => ⟨_, a1.trans (a1.sta.lay hq), q, vs, rfl, put_same, p.mono (a1.sta.lay (u := .lst vs) hq).le⟩⟩)⟩
theorem y_lst {es : List Expr} {Ps : List Pr} (h : JA g es Γ Ps) (hl : Ps.length ≤ sizeLine := by exact Nat.le_of_ble_eq_true rfl) : JO g (.List es pos) Γ (oL Ps) :=
  ⟨fun w σ B H s => ofE (pe_lst pA) ((h.run w σ B H s).mono fun vs H1 ⟨B1, a1, p⟩ => ⟨by rw [p.len]; exact hl, fun q hq =>
    ⟨_, a1.trans (a1.sta.beside hq), own_mk (a1.sta.st.ok.none hq) (a1.sta.st.bnone hq) upd_same p, one_fresh (a1.th hq)⟩⟩)⟩
/-- own things are handed on: their objects are laid on the ground -/
theorem JO.hand {c : Oc} (h : JO g e Γ c) (k : ∀ B H v, (∀ a ∈ c.ad v H, B a = none) → (∀ a ∈ c.ad v H, g.b.H a = none) → c.r B H v → P.r (putH B H (c.ad v H)) v) : JE g e Γ P :=
  ⟨fun w σ B H s => (h.run w σ B H s).mono fun v H1 ⟨B1, a1, o, hn⟩ => by
    have l : Le B1 (putH B1 H1 (c.ad v H1)) := Le.putH o.nb
    refine ⟨putH B1 H1 (c.ad v H1), ⟨a1.t.handedH o.nb hn, ⟨(s.st.trans a1.t).handedH o.nb o.nh, ⟨s.env.len, fun i r h => let ⟨v, e, k⟩ := a1.sta.env.sh i r h; ⟨v, e, r.mono _ _ _ l k⟩, fun i c' hc => ?_, a1.sta.env.dis⟩⟩⟩, k _ _ _ o.nb o.nh o.at_⟩
    obtain ⟨v0, e0, k0⟩ := s.env.ow i c' hc
    have k1 := k0.step a1.t
    have dj : ∀ a ∈ c'.ad v0 H1, a ∉ c.ad v H1 := fun a ha m => by
      rw [k0.ad_eq a1.t] at ha
      exact (k0.th a ha).ne (hn a m)
    exact ⟨v0, e0, fun a ha => by rw [putH_out (dj a ha)]; exact k1.nb a ha, k1.nh, k1.th, c'.mono _ _ _ _ l k1.at_⟩⟩
/-- a list that is new since the entry -/
def rLf (b : Base) (rs : List Pr) : Pr := ⟨fun B v => ∃ p vs, v = .ref p ∧ b.H p = none ∧ B p = some (.ex (.lst vs)) ∧ F2 B vs rs, fun _ _ _ l ⟨p, vs, e, n, h, k⟩ => ⟨p, vs, e, n, l _ _ h, k.mono l⟩⟩
theorem JO.fzF {Ps : List Pr} (h : JO g e Γ (oL Ps)) : JE g e Γ (rLf g.b Ps) :=
  h.hand fun B H v nb nh ⟨p, vs, e, hp, f⟩ => by
    subst e
    exact ⟨p, vs, rfl, nh p (mem_one.mpr rfl), putH_in (mem_one.mpr rfl) hp, f.mono (Le.putH nb)⟩
theorem rLf_le {K : PySem.W.Frag} {b : Base} {rs : List Pr} {B : Bs} {v : V} (h : (rLf b rs).r B v) : (rLs K rs).r B v := let ⟨p, vs, e, _, a, f⟩ := h; ⟨p, vs, e, a, f⟩
theorem JO.fz {Ps : List Pr} (h : JO g e Γ (oL Ps)) : JE g e Γ (rLs g.X.K Ps) :=
  h.hand fun B H v nb _ ⟨p, vs, e, hp, f⟩ => by
    subst e
    exact ⟨p, vs, rfl, putH_in (mem_one.mpr rfl) hp, f.mono (Le.putH nb)⟩
end
end G
set_option Elab.async false
set_option linter.all false
set_option maxRecDepth 100000
set_option maxHeartbeats 2000000
namespace G
open PySem L2

/-! ### what a def promises -/
def Res (b : Base) (S : Sl) (B : Bs) (H : Hp) (v : V) : Prop := match S with
  | .sh P => P.r B v
  | .ow c => Own b c v B H
structure Cs where
  as : List Pr
  rs : Base → Sl
  pre : Prop := True
  exc : Addr → Prop := fun _ => False
/-- a contract, one for each ghost -/
def spT {ι : Type} (φ : ι → Cs) : L2.Sp := fun vs H Q E => ∃ i B, (φ i).pre ∧ Ok B H ∧ F2 B vs (φ i).as ∧
  (∀ v B' H', Stp B H B' H' → Res ⟨B, H⟩ ((φ i).rs ⟨B, H⟩) B' H' v → Q v H') ∧ (∀ C d B' H', Stp B H B' H' → (φ i).exc C → E (.ref C) d H')
/-- the universe: the program, the world, the written part, the module's names, the base -/
structure Uv where
  P : Program
  w : World
  K : PySem.W.Frag
  mg : Str → Option Value
  base : Heap
structure UvOf (U : Uv) (X : Cx) : Prop where
  P : X.prog = U.P
  w : X.w = U.w
  K : X.K = U.K
  mg : X.mg = U.mg
  base : X.base = U.base
/-- the module's name x stands for a def that keeps its contract -/
structure Fd (U : Uv) (x : Str) (k : Nat) (ps : List Str) {ι : Type} (φ : ι → Cs) : Prop where
  ok : ∃ f fd, U.mg x = some (.ref f) ∧ PySem.W.keepIn U.K (.ref f) = true ∧ Binds U.K fd ps [] ∧ FnOk U.P U.w U.K U.mg U.base (L2.CX U.P U.w) k f fd ps (spT φ)
theorem Fd.mono {U : Uv} {x : Str} {j k : Nat} {ps : List Str} {ι : Type} {φ : ι → Cs} (h : Fd U x j ps φ) (l : j ≤ k) : Fd U x k ps φ := by
  obtain ⟨f, fd, a, b, c, d⟩ := h.ok
  exact ⟨f, fd, a, b, c, d.mono l⟩
/-- the contract entails another -/
def CsLe {ι κ : Type} (φ : ι → Cs) (ψ : κ → Cs) : Prop := ∀ j, (ψ j).pre → ∃ i, (φ i).pre ∧ (φ i).as = (ψ j).as ∧ (φ i).rs = (ψ j).rs ∧ ∀ C, (φ i).exc C → (ψ j).exc C
theorem Fd.imp {U : Uv} {x : Str} {k : Nat} {ps : List Str} {ι κ : Type} {φ : ι → Cs} {ψ : κ → Cs} (h : Fd U x k ps φ) (l : CsLe φ ψ) : Fd U x k ps ψ := by
  obtain ⟨f, fd, a, b, c, d⟩ := h.ok
  refine ⟨f, fd, a, b, c, d.imp fun vs H Q E ⟨j, B, p, o, q, r, s⟩ => ?_⟩
  obtain ⟨i, p', e1, e2, e3⟩ := l j p
  exact ⟨i, B, p', o, by rw [e1]; exact q, by rw [e2]; exact r, fun C d B' H' t z => s C d B' H' t (e3 C z)⟩

section
variable {g : Gx} {Γ : Gm} {P Q R : Pr} {e e1 e2 : Expr} {pos : Pos} {U : Uv}
/-- what an exception of class C, raised here, is wished to do: W takes it -/
def Lets (g : Gx) (Γ : Gm) (exc : Addr → Prop) : Prop := ∀ C d σ B H, exc C → Sta g.b Γ σ B H → g.W (.ref C) d σ H
theorem Lets.none : Lets g Γ (fun _ => False) := fun _ _ _ _ _ h => h.elim
theorem Res.up {b c : Base} {S : Sl} {B : Bs} {H : Hp} {v : V} (t : Stp b.B b.H c.B c.H) (h : Res c S B H v) : Res b S B H v := by
  cases S with
  | sh P => exact h
  | ow o =>
    exact ⟨h.nb, fun a ha => t.bnone (h.nh a ha), h.th, h.at_⟩
/-- the call's reading at work -/
theorem call_run {ι : Type} {φ : ι → Cs} {i : ι} {σ : L2.St} {B B1 : Bs} {H H1 : Hp} {vs : List V} (s : Sta g.b Γ σ B H) (a1 : Aft g.b Γ σ B H B1 H1) (p : (φ i).pre) (f : F2 B1 vs (φ i).as) (hx : Lets g Γ (φ i).exc) {K : VK}
    (k : ∀ v B' H', Aft g.b Γ σ B H B' H' → Res ⟨B1, H1⟩ ((φ i).rs ⟨B1, H1⟩) B' H' v → K v H') : spT φ (vs ++ []) H1 K (L2.WE g.W σ) := by
  rw [List.append_nil]
  refine ⟨i, B1, p, a1.sta.st.ok, f, fun v B' H' t r => k v B' H' (a1.trans (a1.sta.step t)) r, fun C d B' H' t z => ?_⟩
  exact hx C d σ B' H' z (a1.sta.step t).sta
theorem x_call {x : Str} {k : Nat} {ps : List Str} {ι : Type} {φ : ι → Cs} {es : List Expr} {p : Pos} (F : Fd U x k ps φ) (i : ι) (h : JA g (e :: es) Γ (φ i).as) (hs : ∀ b1, (φ i).rs b1 = .sh R := by exact fun _ => rfl) (hp : (φ i).pre := by trivial) (hx : Lets g Γ (φ i).exc := by exact Lets.none) (hk : k ≤ g.k := by exact Nat.le_of_ble_eq_true rfl)
    (hU : UvOf U g.X := by exact ⟨rfl, rfl, rfl, rfl, rfl⟩) (hg : Gl g.X x := by rfl) (hdb : (x == ("__debug__" : Str)) = false := by decide) (he : starEach (e :: es) g.X.env = (false, eval e g.X.env) :: starEach es g.X.env := by rfl) (hpl : (backTo pos (starEach es g.X.env)).any (·.1) = false := by rfl) (hcm : g.X.calm = true := by rfl) :
    JE g (.Call (.Name x p) (e :: es) [] pos) Γ R := by
  obtain ⟨f, fd, a, kp, c, d⟩ := F.ok
  obtain ⟨u1, u2, u3, u4, u5⟩ := hU
  refine ⟨fun w σ B H s => ?_⟩
  refine (ofE (pe_callS (E := L2.WE g.W) (by rw [u1, u2, u3, u4, u5]; exact d) ((w.hr hcm).mono hk) hg (by rw [u4]; exact a) (by rw [u3]; exact kp) (by rw [u3]; exact c) (by rw [← u1, ← u2]; exact fun σ => passAt w.tk σ) pA hdb he hpl) ?_)
  refine (h.run w σ B H s).mono fun vs H1 ⟨B1, a1, q⟩ => ?_
  have z := call_run (φ := φ) (i := i) s a1 hp q hx (K := fun v H' => ∃ B', Aft g.b Γ σ B H B' H' ∧ R.r B' v) fun v B' H' a r => ⟨B', a, by rw [hs] at r; exact r⟩
  rw [List.append_nil] at z
  exact z
/-- .. whose value is told of the state at the call -/
theorem x_callF {R : Base → Pr} {x : Str} {k : Nat} {ps : List Str} {ι : Type} {φ : ι → Cs} {es : List Expr} {p : Pos} (F : Fd U x k ps φ) (i : ι) (h : JA g (e :: es) Γ (φ i).as) (hs : ∀ b1, (φ i).rs b1 = .sh (R b1) := by exact fun _ => rfl) (hp : (φ i).pre := by trivial) (hx : Lets g Γ (φ i).exc := by exact Lets.none) (hk : k ≤ g.k := by exact Nat.le_of_ble_eq_true rfl)
    (hU : UvOf U g.X := by exact ⟨rfl, rfl, rfl, rfl, rfl⟩) (hg : Gl g.X x := by rfl) (hdb : (x == ("__debug__" : Str)) = false := by decide) (he : starEach (e :: es) g.X.env = (false, eval e g.X.env) :: starEach es g.X.env := by rfl) (hpl : (backTo pos (starEach es g.X.env)).any (·.1) = false := by rfl) (hcm : g.X.calm = true := by rfl) :
    JE g (.Call (.Name x p) (e :: es) [] pos) Γ (Pr.exs (fun b1 : Base => ∀ a, b1.H a = none → g.b.H a = none) R) := by
  obtain ⟨f, fd, a, kp, c, d⟩ := F.ok
  obtain ⟨u1, u2, u3, u4, u5⟩ := hU
  refine ⟨fun w σ B H s => ?_⟩
  refine (ofE (pe_callS (E := L2.WE g.W) (by rw [u1, u2, u3, u4, u5]; exact d) ((w.hr hcm).mono hk) hg (by rw [u4]; exact a) (by rw [u3]; exact kp) (by rw [u3]; exact c) (by rw [← u1, ← u2]; exact fun σ => passAt w.tk σ) pA hdb he hpl) ?_)
  refine (h.run w σ B H s).mono fun vs H1 ⟨B1, a1, q⟩ => ?_
  have z := call_run (φ := φ) (i := i) s a1 hp q hx (K := fun v H' => ∃ B', Aft g.b Γ σ B H B' H' ∧ (Pr.exs (fun b1 : Base => ∀ a, b1.H a = none → g.b.H a = none) R).r B' v) fun v B' H' a r => ⟨B', a, ⟨B1, H1⟩, fun x hx => a1.sta.st.bnone hx, by rw [hs] at r; exact r⟩
  rw [List.append_nil] at z
  exact z
theorem y_call {x : Str} {k : Nat} {ps : List Str} {ι : Type} {φ : ι → Cs} {es : List Expr} {p : Pos} {c : Oc} (F : Fd U x k ps φ) (i : ι) (h : JA g (e :: es) Γ (φ i).as) (hs : ∀ b1, (φ i).rs b1 = .ow c := by exact fun _ => rfl) (hp : (φ i).pre := by trivial) (hx : Lets g Γ (φ i).exc := by exact Lets.none) (hk : k ≤ g.k := by exact Nat.le_of_ble_eq_true rfl)
    (hU : UvOf U g.X := by exact ⟨rfl, rfl, rfl, rfl, rfl⟩) (hg : Gl g.X x := by rfl) (hdb : (x == ("__debug__" : Str)) = false := by decide) (he : starEach (e :: es) g.X.env = (false, eval e g.X.env) :: starEach es g.X.env := by rfl) (hpl : (backTo pos (starEach es g.X.env)).any (·.1) = false := by rfl) (hcm : g.X.calm = true := by rfl) :
    JO g (.Call (.Name x p) (e :: es) [] pos) Γ c := by
  obtain ⟨f, fd, a, kp, cc, d⟩ := F.ok
  obtain ⟨u1, u2, u3, u4, u5⟩ := hU
  refine ⟨fun w σ B H s => ?_⟩
  refine (ofE (pe_callS (E := L2.WE g.W) (by rw [u1, u2, u3, u4, u5]; exact d) ((w.hr hcm).mono hk) hg (by rw [u4]; exact a) (by rw [u3]; exact kp) (by rw [u3]; exact cc) (by rw [← u1, ← u2]; exact fun σ => passAt w.tk σ) pA hdb he hpl) ?_)
  refine (h.run w σ B H s).mono fun vs H1 ⟨B1, a1, q⟩ => ?_
  have z := call_run (φ := φ) (i := i) s a1 hp q hx (K := fun v H' => ∃ B', Aft g.b Γ σ B H B' H' ∧ Own g.b c v B' H' ∧ ∀ a ∈ c.ad v H', H a = none) fun v B' H' a r => by
    rw [hs] at r
    have r : Own ⟨B1, H1⟩ c v B' H' := r
    exact ⟨B', a, ⟨r.nb, fun x hx => a1.sta.st.bnone (r.nh x hx), r.th, r.at_⟩, fun x hx => a1.th (r.nh x hx)⟩
  rw [List.append_nil] at z
  exact z

/-! ### statements -/
/-- what is wanted behind a block that began over the ground B -/
structure En where
  nx : Bs → L2.St → Hp → Prop
  rt : VK
  bk : Bs → L2.St → Hp → Prop := fun _ _ _ => False
  ct : Bs → L2.St → Hp → Prop := fun _ _ _ => False
  anx : ∀ B B' σ H, Le B B' → nx B' σ H → nx B σ H := by exact fun _ _ _ _ _ h => h
  abk : ∀ B B' σ H, Le B B' → bk B' σ H → bk B σ H := by exact fun _ _ _ _ _ h => h
  act : ∀ B B' σ H, Le B B' → ct B' σ H → ct B σ H := by exact fun _ _ _ _ _ h => h
def En.at_ (D : En) (B : Bs) : Ends := ⟨D.nx B, D.rt, D.bk B, D.ct B⟩
theorem En.anti (D : En) {B B' : Bs} (l : Le B B') : Ends.Le (D.at_ B') (D.at_ B) := ⟨fun σ H => D.anx B B' σ H l, fun _ _ h => h, fun σ H => D.abk B B' σ H l, fun σ H => D.act B B' σ H l⟩
structure JS (g : Gx) (ss : List Stmt) (Γ : Gm) (D : En) : Prop where
  run : g.Wf → ∀ σ B H, Sta g.b Γ σ B H → WS g.X ss (D.at_ B) σ H
theorem JS.go {D : En} {ss : List Stmt} (h : JS g ss Γ D) (w : g.Wf) {σ : L2.St} {B B' : Bs} {H : Hp} (l : Le B B') (s : Sta g.b Γ σ B' H) : WS g.X ss (D.at_ B) σ H := (h.run w σ B' H s).mono (D.anti l)
def Nx (b : Base) (Γ : Gm) : Bs → L2.St → Hp → Prop := fun B σ H => ∃ B', Le B B' ∧ Sta b Γ σ B' H
theorem Nx.anti {b : Base} : ∀ B B' σ H, Le B B' → Nx b Γ B' σ H → Nx b Γ B σ H := fun _ _ _ _ l ⟨B', l', s⟩ => ⟨B', l.trans l', s⟩
/-- .. then the rest -/
def En.thn (D : En) (X : Cx) (rest : List Stmt) : En := { D with nx := fun B σ' H' => WS X rest (D.at_ B) σ' H', anx := fun _ _ _ _ l h => h.mono (D.anti l) }
def En.to (D : En) (b : Base) (Γ : Gm) : En := { D with nx := Nx b Γ, anx := Nx.anti }
def En.lp (D : En) (X : Cx) (rest : List Stmt) (b : Base) (Γ : Gm) : En := { D with nx := Nx b Γ, anx := Nx.anti, ct := Nx b Γ, act := Nx.anti, bk := fun B σ' H' => WS X rest (D.at_ B) σ' H', abk := fun _ _ _ _ l h => h.mono (D.anti l) }
def Rt (b : Base) (S : Sl) : VK := fun v H => ∃ B, Stp b.B b.H B H ∧ Res b S B H v
variable {D : En} {st : Stmt} {ss rest : List Stmt}
theorem set_get {α : Type} {l : List α} {i j : Nat} {x y : α} (h : (l.set i x)[j]? = some y) : (i = j ∧ x = y) ∨ (i ≠ j ∧ l[j]? = some y) := by
  by_cases e : i = j
  · subst e
    by_cases q : i < l.length
    · rw [List.getElem?_set_self q] at h
      exact .inl ⟨rfl, Option.some.inj h⟩
    · rw [List.getElem?_eq_none (by simpa using q)] at h; cases h
  · rw [List.getElem?_set_ne e] at h
    exact .inr ⟨e, h⟩
theorem Sta.setS {b : Base} {σ : L2.St} {B : Bs} {H : Hp} {i : Nat} {v : V} (s : Sta b Γ σ B H) (h : P.r B v) : Sta b (Γ.set i (some (.sh P))) (σ.set i (some v)) B H where
  st := s.st
  env := {
    len := by rw [List.length_set, List.length_set]; exact s.env.len
    sh := fun j r e => by
      rcases set_get e with ⟨q, z⟩ | ⟨q, z⟩
      · cases z; subst q
        refine ⟨v, ?_, h⟩
        have hl : i < Γ.length := by
          have := (List.getElem?_eq_some_iff.mp e).1
          simpa using this
        rw [List.getElem?_set_self (by rw [s.env.len]; exact hl)]
      · obtain ⟨u, a, c⟩ := s.env.sh j r z
        exact ⟨u, by rw [List.getElem?_set_ne q]; exact a, c⟩
    ow := fun j c e => by
      rcases set_get e with ⟨q, z⟩ | ⟨q, z⟩
      · cases z
      · obtain ⟨u, a, c⟩ := s.env.ow j c z
        exact ⟨u, by rw [List.getElem?_set_ne q]; exact a, c⟩
    dis := fun j l c c' v1 v2 p h1 h2 h3 h4 h5 h6 => by
      rcases set_get h1 with ⟨q1, z1⟩ | ⟨q1, z1⟩
      · cases z1
      · rcases set_get h2 with ⟨q2, z2⟩ | ⟨q2, z2⟩
        · cases z2
        · rw [List.getElem?_set_ne q1] at h3
          rw [List.getElem?_set_ne q2] at h4
          exact s.env.dis j l c c' v1 v2 p z1 z2 h3 h4 h5 h6 }
/-- these are no own things' places -/
def NotOwn (Γ : Gm) (σ : L2.St) (H : Hp) (as : List Addr) : Prop := ∀ (j : Nat) (c : Oc) (v : V) (a : Addr), Γ[j]? = some (some (.ow c)) → σ[j]? = some (some v) → a ∈ c.ad v H → a ∉ as
theorem Sta.setO {b : Base} {σ : L2.St} {B : Bs} {H : Hp} {i : Nat} {v : V} {c : Oc} (s : Sta b Γ σ B H) (o : Own b c v B H) (n : NotOwn Γ σ H (c.ad v H)) : Sta b (Γ.set i (some (.ow c))) (σ.set i (some v)) B H where
  st := s.st
  env := {
    len := by rw [List.length_set, List.length_set]; exact s.env.len
    sh := fun j r e => by
      rcases set_get e with ⟨q, z⟩ | ⟨q, z⟩
      · cases z
      · obtain ⟨u, a, c⟩ := s.env.sh j r z
        exact ⟨u, by rw [List.getElem?_set_ne q]; exact a, c⟩
    ow := fun j c' e => by
      rcases set_get e with ⟨q, z⟩ | ⟨q, z⟩
      · cases z; subst q
        have hl : i < Γ.length := by
          have := (List.getElem?_eq_some_iff.mp e).1
          simpa using this
        exact ⟨v, by rw [List.getElem?_set_self (by rw [s.env.len]; exact hl)], o⟩
      · obtain ⟨u, a, c⟩ := s.env.ow j c' z
        exact ⟨u, by rw [List.getElem?_set_ne q]; exact a, c⟩
    dis := fun j l c1 c2 v1 v2 q h1 h2 h3 h4 h5 h6 => by
      rcases set_get h1 with ⟨q1, z1⟩ | ⟨q1, z1⟩
      · rcases set_get h2 with ⟨q2, z2⟩ | ⟨q2, z2⟩
        · exact q1.symm.trans q2
        · subst q1
          rcases set_get h3 with ⟨_, w⟩ | ⟨w, _⟩
          · cases w; cases z1
            rw [List.getElem?_set_ne q2] at h4
            exact absurd h5 (n l c2 v2 q z2 h4 h6)
          · exact absurd rfl w
      · rcases set_get h2 with ⟨q2, z2⟩ | ⟨q2, z2⟩
        · subst q2
          rcases set_get h4 with ⟨_, w⟩ | ⟨w, _⟩
          · cases w; cases z2
            rw [List.getElem?_set_ne q1] at h3
            exact absurd h6 (n j c1 v1 q z1 h3 h5)
          · exact absurd rfl w
        · rw [List.getElem?_set_ne q1] at h3
          rw [List.getElem?_set_ne q2] at h4
          exact s.env.dis j l c1 c2 v1 v2 q z1 z2 h3 h4 h5 h6 }
/-- what was free ahead of an evaluation is no own thing's behind it -/
theorem Sta.notOwn {b : Base} {σ : L2.St} {B B' : Bs} {H H' : Hp} {as : List Addr} (s : Sta b Γ σ B H) (t : Stp B H B' H') (h : ∀ a ∈ as, H a = none) : NotOwn Γ σ H' as := fun j c v a e q ha m => by
  obtain ⟨v', e', o⟩ := s.env.ow j c e
  rw [q] at e'; cases e'
  rw [o.ad_eq t] at ha
  exact (o.th a ha).ne (h a m)
/-- a word of a slot opened -/
theorem s_ex (i : Nat) {ι : Type} {f : ι → Pr} (k : ∀ a, JS g ss (Γ.set i (some (.sh (f a)))) D) (hi : Γ[i]? = some (some (.sh (Pr.ex f))) := by rfl) : JS g ss Γ D :=
  ⟨fun w σ B H s => by
    obtain ⟨v, e, a, q⟩ := s.env.sh i _ hi
    have z := s.setS (i := i) (v := v) (P := f a) q
    have e2 : σ.set i (some v) = σ := by
      apply List.ext_getElem?
      intro j
      by_cases hj : i = j
      · subst hj
        rw [List.getElem?_set_self (List.getElem?_eq_some_iff.mp e).1, e]
      · rw [List.getElem?_set_ne hj]
    rw [e2] at z
    exact (k a).run w σ B H z⟩
theorem s_gd (i : Nat) {φ : Prop} (k : φ → JS g ss (Γ.set i (some (.sh P))) D) (hi : Γ[i]? = some (some (.sh (Pr.gd φ P))) := by rfl) : JS g ss Γ D :=
  ⟨fun w σ B H s => by
    obtain ⟨v, e, a, q⟩ := s.env.sh i _ hi
    have z := s.setS (i := i) (v := v) (P := P) q
    have e2 : σ.set i (some v) = σ := by
      apply List.ext_getElem?
      intro j
      by_cases hj : i = j
      · subst hj
        rw [List.getElem?_set_self (List.getElem?_eq_some_iff.mp e).1, e]
      · rw [List.getElem?_set_ne hj]
    rw [e2] at z
    exact (k a).run w σ B H z⟩
theorem s_exs (i : Nat) {ι : Type} {φ : ι → Prop} {f : ι → Pr} (k : ∀ a, φ a → JS g ss (Γ.set i (some (.sh (f a)))) D) (hi : Γ[i]? = some (some (.sh (Pr.exs φ f))) := by rfl) : JS g ss Γ D :=
  ⟨fun w σ B H s => by
    obtain ⟨v, e, a, p, q⟩ := s.env.sh i _ hi
    have z := s.setS (i := i) (v := v) (P := f a) q
    have e2 : σ.set i (some v) = σ := by
      apply List.ext_getElem?
      intro j
      by_cases hj : i = j
      · subst hj
        rw [List.getElem?_set_self (List.getElem?_eq_some_iff.mp e).1, e]
      · rw [List.getElem?_set_ne hj]
    rw [e2] at z
    exact (k a p).run w σ B H z⟩
/-- weaker slots -/
inductive SlLe : Option Sl → Option Sl → Prop where
  | none (s : Option Sl) : SlLe s none
  | refl (s : Option Sl) : SlLe s s
  | sh (P Q : Pr) (h : ∀ B v, P.r B v → Q.r B v) : SlLe (some (.sh P)) (some (.sh Q))
  | ow (c d : Oc) (h : ∀ B H v, c.r B H v → d.r B H v) (ha : ∀ v H a, a ∈ d.ad v H → a ∈ c.ad v H := by exact fun _ _ _ h => h) : SlLe (some (.ow c)) (some (.ow d))
def GmLe : Gm → Gm → Prop
  | [], [] => True
  | a :: l, b :: m => SlLe a b ∧ GmLe l m
  | _, _ => False
theorem GmLe.len : ∀ {l m : Gm}, GmLe l m → l.length = m.length
  | [], [], _ => rfl
  | _ :: _, _ :: _, h => congrArg (· + 1) (GmLe.len h.2)
  | [], _ :: _, h => h.elim
  | _ :: _, [], h => h.elim
theorem GmLe.refl : ∀ (l : Gm), GmLe l l
  | [] => trivial
  | a :: l => ⟨.refl a, GmLe.refl l⟩
theorem GmLe.get : ∀ {l m : Gm} {i : Nat} {b : Option Sl}, GmLe l m → m[i]? = some b → ∃ a, l[i]? = some a ∧ SlLe a b
  | [], [], _, _, _, e => by simp at e
  | a :: _, b' :: _, 0, b, h, e => by
    have q : b' = b := by simpa using e
    subst q
    exact ⟨a, rfl, h.1⟩
  | _ :: l, _ :: m, i + 1, b, h, e => by
    obtain ⟨a, x, y⟩ := GmLe.get (i := i) (b := b) h.2 (by simpa using e)
    exact ⟨a, by simpa using x, y⟩
  | [], _ :: _, _, _, h, _ => h.elim
  | _ :: _, [], _, _, h, _ => h.elim
theorem Sta.imp {b : Base} {Γ' : Gm} {σ : L2.St} {B : Bs} {H : Hp} (s : Sta b Γ σ B H) (l : GmLe Γ Γ') : Sta b Γ' σ B H where
  st := s.st
  env := {
    len := by rw [s.env.len, l.len]
    sh := fun i r e => by
      obtain ⟨a, x, y⟩ := l.get e
      cases y with
      | refl => exact s.env.sh i r x
      | sh P Q h =>
        obtain ⟨v, z, k⟩ := s.env.sh i _ x
        exact ⟨v, z, h _ _ k⟩
    ow := fun i c e => by
      obtain ⟨a, x, y⟩ := l.get e
      cases y with
      | refl => exact s.env.ow i c x
      | ow c' d h ha =>
        obtain ⟨v, z, k⟩ := s.env.ow i _ x
        exact ⟨v, z, fun a m => k.nb a (ha _ _ _ m), fun a m => k.nh a (ha _ _ _ m), fun a m => k.th a (ha _ _ _ m), h _ _ _ k.at_⟩
    dis := fun i j c c' v v' p h1 h2 h3 h4 h5 h6 => by
      obtain ⟨a, x, y⟩ := l.get h1
      obtain ⟨a', x', y'⟩ := l.get h2
      have o1 : ∃ d, a = some (.ow d) ∧ ∀ v H a, a ∈ c.ad v H → a ∈ d.ad v H := by cases y with
        | refl => exact ⟨_, rfl, fun _ _ _ h => h⟩
        | ow d _ _ ha => exact ⟨d, rfl, ha⟩
      have o2 : ∃ d, a' = some (.ow d) ∧ ∀ v H a, a ∈ c'.ad v H → a ∈ d.ad v H := by cases y' with
        | refl => exact ⟨_, rfl, fun _ _ _ h => h⟩
        | ow d _ _ ha => exact ⟨d, rfl, ha⟩
      obtain ⟨d, rfl, e1⟩ := o1
      obtain ⟨d', rfl, e2⟩ := o2
      exact s.env.dis i j d d' v v' p x x' h3 h4 (e1 _ _ _ h5) (e2 _ _ _ h6) }
theorem JS.imp {Γ' : Gm} (h : JS g ss Γ' D) (l : GmLe Γ Γ') : JS g ss Γ D := ⟨fun w σ B H s => h.run w σ B H (s.imp l)⟩

theorem s_nil (h : ∀ σ B H, Sta g.b Γ σ B H → D.nx B σ H) : JS g [] Γ D := ⟨fun w σ B H s => ws_nil (h σ B H s)⟩
theorem s_nx {Γ' : Gm} (l : GmLe Γ Γ') (h : D.nx = Nx g.b Γ') : JS g [] Γ D := s_nil fun σ B H s => by rw [h]; exact ⟨B, Le.refl _, s.imp l⟩
/-- one statement, then the rest -/
theorem js_cons (h : g.Wf → ∀ σ B H, Sta g.b Γ σ B H → W1 g.X st { D.at_ B with nx := fun σ' H' => WS g.X rest (D.at_ B) σ' H' } σ H) : JS g (st :: rest) Γ D := ⟨fun w σ B H s => ws_cons (h w σ B H s)⟩
theorem s_ret (h : JE g e Γ P) (k : ∀ v H, Rt g.b (.sh P) v H → D.rt v H) : JS g (.Return (some e) pos :: rest) Γ D :=
  js_cons fun w σ B H s => of1 (ps_ret pE) ((h.run w σ B H s).mono fun v H' ⟨B', a, p⟩ => k v H' ⟨B', a.sta.st, p⟩)
theorem s_retO {c : Oc} (h : JO g e Γ c) (k : ∀ v H, Rt g.b (.ow c) v H → D.rt v H) : JS g (.Return (some e) pos :: rest) Γ D :=
  js_cons fun w σ B H s => of1 (ps_ret pE) ((h.run w σ B H s).mono fun v H' ⟨B', a, o, n⟩ => k v H' ⟨B', a.sta.st, o⟩)
theorem s_retN (k : ∀ v H, Rt g.b (.sh rN) v H → D.rt v H) : JS g (.Return none pos :: rest) Γ D :=
  js_cons fun w σ B H s => of1 ps_retN (k _ _ ⟨B, s.st, rfl⟩)
/-- return x, x an own thing -/
theorem s_retV (i : Nat) {c : Oc} {x : Str} {p : Pos} (k : ∀ v H, Rt g.b (.ow c) v H → D.rt v H) (hx : Γ[i]? = some (some (.ow c)) := by rfl) (hN : g.X.N[i]? = some x := by rfl) (hv : Vis g.X.env.scope x := by first | exact Or.inl rfl | exact Or.inr (Or.inl rfl) | exact Or.inr (Or.inr rfl))
    (hd : (x == ("__debug__" : Str)) = false := by decide) (hcd : (x == ("__classdict__" : Str)) = false := by decide) : JS g (.Return (some (.Name x p)) pos :: rest) Γ D :=
  js_cons fun w σ B H s => of1 (ps_ret (pe_var hN hv hd hcd)) (by
    obtain ⟨q, e, o⟩ := s.env.ow i c hx
    exact ⟨_, e, k _ _ ⟨B, s.st, o⟩⟩)
theorem s_set (i : Nat) {x : Str} {p : Pos} (h : JE g e Γ P) (k : JS g rest (Γ.set i (some (.sh P))) D) (hN : g.X.N[i]? = some x := by rfl) (hl : Loc g.X.env.scope x := by first | exact Or.inl rfl | exact Or.inr rfl)
    (hs : swapsWith e (some (.Name x p)) pos.line g.X.env = pure false := by rfl) (hf : g.X.fn x = true ∨ g.X.env.scope.names.lookup x = some .local := by first | exact .inl rfl | exact .inr rfl) : JS g (.Assign [.Name x p] e pos :: rest) Γ D :=
  js_cons fun w σ B H s => of1 (ps_set w.nd hN hl pE hs hf) ((h.run w σ B H s).mono fun v H' ⟨B', a, q⟩ => k.go w a.le (a.sta.setS q))
theorem s_setO (i : Nat) {x : Str} {p : Pos} {c : Oc} (h : JO g e Γ c) (k : JS g rest (Γ.set i (some (.ow c))) D) (hN : g.X.N[i]? = some x := by rfl) (hl : Loc g.X.env.scope x := by first | exact Or.inl rfl | exact Or.inr rfl)
    (hs : swapsWith e (some (.Name x p)) pos.line g.X.env = pure false := by rfl) (hf : g.X.fn x = true ∨ g.X.env.scope.names.lookup x = some .local := by first | exact .inl rfl | exact .inr rfl) : JS g (.Assign [.Name x p] e pos :: rest) Γ D :=
  js_cons fun w σ B H s => of1 (ps_set w.nd hN hl pE hs hf) ((h.run w σ B H s).mono fun v H' ⟨B', a, o, n⟩ => k.go w a.le (a.sta.setO o (s.notOwn a.t n)))
theorem s_expr (h : JE g e Γ P) (k : JS g rest Γ D) (hs : swapsWith e none pos.line g.X.env = pure false := by rfl) : JS g (.Expr e pos :: rest) Γ D :=
  js_cons fun w σ B H s => of1 (ps_expr pE hs) ((h.run w σ B H s).mono fun v H' ⟨B', a, q⟩ => k.go w a.le a.sta)
/-- a call that refuses or hands on a word: opened -/
theorem s_exprG {φ : Prop} (h : JE g e Γ (Pr.gd φ P)) (k : φ → JS g rest Γ D) (hs : swapsWith e none pos.line g.X.env = pure false := by rfl) : JS g (.Expr e pos :: rest) Γ D :=
  js_cons fun w σ B H s => of1 (ps_expr pE hs) ((h.run w σ B H s).mono fun v H' ⟨B', a, q⟩ => (k q.1).go w a.le a.sta)
/-- the end of a branch: on with the rest -/
theorem s_then (k : JS g rest Γ D) : JS g [] Γ (D.thn g.X rest) := ⟨fun w σ B H s => ws_nil (k.run w σ B H s)⟩
theorem s_if {c : Bool} {a b : List Stmt} (h : JT g e Γ c) (h1 : c = true → JS g a Γ (D.thn g.X rest)) (h2 : c = false → JS g b Γ (D.thn g.X rest)) : JS g (.If e a b pos :: rest) Γ D :=
  js_cons fun w σ B H s => of1 (ps_if pT pS pS) ((h.run w σ B H s).mono fun v H' ⟨B', a, q⟩ => by
    subst q
    cases v with
    | true => rw [if_pos rfl]; exact (h1 rfl).go w a.le a.sta
    | false => rw [if_neg (by decide)]; exact (h2 rfl).go w a.le a.sta)
/-- an own thing is handed over to the ground -/
theorem Sta.hand {b : Base} {σ : L2.St} {B : Bs} {H : Hp} {i : Nat} {c : Oc} {R : Pr} (s : Sta b Γ σ B H) (h : Γ[i]? = some (some (.ow c))) (k : ∀ B H v, (∀ a ∈ c.ad v H, B a = none) → c.r B H v → R.r (putH B H (c.ad v H)) v) :
    ∃ v, σ[i]? = some (some v) ∧ Own b c v B H ∧ Le B (putH B H (c.ad v H)) ∧ Sta b (Γ.set i (some (.sh R))) σ (putH B H (c.ad v H)) H := by
  obtain ⟨v, e, o⟩ := s.env.ow i _ h
  have l : Le B (putH B H (c.ad v H)) := Le.putH o.nb
  refine ⟨v, e, o, l, s.st.handedH o.nb o.nh, ⟨by rw [List.length_set]; exact s.env.len, fun j r hj => ?_, fun j d hj => ?_, fun j m d d' v1 v2 q h1 h2 h3 h4 h5 h6 => ?_⟩⟩
  · rcases set_get hj with ⟨q, z⟩ | ⟨q, z⟩
    · cases z; subst q
      exact ⟨v, e, k _ _ _ o.nb o.at_⟩
    · obtain ⟨v, a, k⟩ := s.env.sh j r z
      exact ⟨v, a, r.mono _ _ _ l k⟩
  · rcases set_get hj with ⟨q, z⟩ | ⟨q, z⟩
    · cases z
    · obtain ⟨v', e3, k'⟩ := s.env.ow j d z
      have dj : ∀ a ∈ d.ad v' H, a ∉ c.ad v H := fun a ha m => q (s.env.dis i j c d v v' a h z e e3 m ha)
      exact ⟨v', e3, fun a ha => by rw [putH_out (dj a ha)]; exact k'.nb a ha, k'.nh, k'.th, d.mono _ _ _ _ l k'.at_⟩
  · rcases set_get h1 with ⟨q1, z1⟩ | ⟨q1, z1⟩
    · cases z1
    · rcases set_get h2 with ⟨q2, z2⟩ | ⟨q2, z2⟩
      · cases z2
      · exact s.env.dis j m d d' v1 v2 q z1 z2 h3 h4 h5 h6
theorem fz_oL {K : PySem.W.Frag} {rs : List Pr} : ∀ B H v, (∀ a ∈ (oL rs).ad v H, B a = none) → (oL rs).r B H v → (rLs K rs).r (putH B H ((oL rs).ad v H)) v := fun B H v nb ⟨p, vs, e, hp, f⟩ => by
  subst e
  exact ⟨p, vs, rfl, putH_in (mem_one.mpr rfl) hp, f.mono (Le.putH nb)⟩
theorem s_hand (i : Nat) {c : Oc} (R : Pr) (k : JS g ss (Γ.set i (some (.sh R))) D) (hk : ∀ B H v, (∀ a ∈ c.ad v H, B a = none) → c.r B H v → R.r (putH B H (c.ad v H)) v) (h : Γ[i]? = some (some (.ow c)) := by rfl) : JS g ss Γ D :=
  ⟨fun w σ B H s => by
    obtain ⟨v, _, _, l, z⟩ := s.hand h hk
    exact k.go w l z⟩
theorem s_fz (i : Nat) {rs : List Pr} (k : JS g ss (Γ.set i (some (.sh (rLs g.X.K rs)))) D) (h : Γ[i]? = some (some (.ow (oL rs))) := by rfl) : JS g ss Γ D := s_hand i (rLs g.X.K rs) k fz_oL h
/-- an own thing's word opened -/
def Oc.exs {ι : Type} (φ : ι → Prop) (f : ι → Oc) (d : ι) (ha : ∀ a v H, (f a).ad v H = (f d).ad v H := by exact fun _ _ _ => rfl) : Oc where
  ad := (f d).ad
  r := fun B H v => ∃ a, φ a ∧ (f a).r B H v
  mono := fun _ _ _ _ l ⟨a, p, h⟩ => ⟨a, p, (f a).mono _ _ _ _ l h⟩
  ast := (f d).ast
  rst := fun B H H' v h ⟨a, p, k⟩ => ⟨a, p, (f a).rst B H H' v (by rw [ha a]; exact h) k⟩
theorem sta_at {b : Base} {σ : L2.St} {B : Bs} {H : Hp} {i : Nat} {c c' : Oc} {v : V} (s : Sta b Γ σ B H) (h : Γ[i]? = some (some (.ow c))) (e : σ[i]? = some (some v)) (ha : ∀ a ∈ c'.ad v H, a ∈ c.ad v H) (hr : c'.r B H v) : Sta b (Γ.set i (some (.ow c'))) σ B H := by
  obtain ⟨v', e', o⟩ := s.env.ow i c h
  have ev : v' = v := by rw [e] at e'; simpa using e'.symm
  subst ev
  have n : ∀ (j : Nat) (d : Oc) (u : V), i ≠ j → Γ[j]? = some (some (.ow d)) → σ[j]? = some (some u) → ∀ a ∈ d.ad u H, a ∉ c'.ad v' H := fun j d u ne z q a ha1 m => by
    exact ne (s.env.dis i j c d v' u a h z e q (ha a m) ha1)
  refine ⟨s.st, ⟨by rw [List.length_set]; exact s.env.len, fun j r hj => ?_, fun j d hj => ?_, fun j m d d' v1 v2 q h1 h2 h3 h4 h5 h6 => ?_⟩⟩
  · rcases set_get hj with ⟨q, z⟩ | ⟨q, z⟩
    · cases z
    · exact s.env.sh j r z
  · rcases set_get hj with ⟨q, z⟩ | ⟨q, z⟩
    · cases z; subst q
      exact ⟨v', e, fun a m => o.nb a (ha a m), fun a m => o.nh a (ha a m), fun a m => o.th a (ha a m), hr⟩
    · exact s.env.ow j d z
  · rcases set_get h1 with ⟨q1, z1⟩ | ⟨q1, z1⟩
    · rcases set_get h2 with ⟨q2, z2⟩ | ⟨q2, z2⟩
      · exact q1.symm.trans q2
      · cases z1; subst q1
        rw [e] at h3; cases h3
        exact absurd h5 (n m d' v2 q2 z2 h4 q h6)
    · rcases set_get h2 with ⟨q2, z2⟩ | ⟨q2, z2⟩
      · cases z2; subst q2
        rw [e] at h4; cases h4
        exact absurd h6 (n j d v1 q1 z1 h3 q h5)
      · exact s.env.dis j m d d' v1 v2 q z1 z2 h3 h4 h5 h6
theorem s_exO (i : Nat) {ι : Type} {φ : ι → Prop} {f : ι → Oc} {d : ι} {ha : ∀ a v H, (f a).ad v H = (f d).ad v H} (k : ∀ a, φ a → JS g ss (Γ.set i (some (.ow (f a)))) D) (h : Γ[i]? = some (some (.ow (Oc.exs φ f d ha))) := by rfl) : JS g ss Γ D :=
  ⟨fun w σ B H s => by
    obtain ⟨v, e, o⟩ := s.env.ow i _ h
    obtain ⟨a, p, hr⟩ := o.at_
    exact (k a p).run w σ B H (sta_at s h e (fun x m => by rw [ha] at m; exact m) hr)⟩

/-! ### targets -/
def tG (X : Cx) (target : Expr) : TG := fun v σ H Q => ∀ pins s u, Inv X pins σ H s → RelV v u → wpAny (model X.prog X.w) X.A (assign target X.env u) (fun _ s' => ∃ σ' H', Inv X pins σ' H' s' ∧ Q σ' H') X.xe s
theorem pG {X : Cx} {target : Expr} : PG X target (tG X target) := ⟨fun pins s σ H v u Q I r h => h pins s u I r⟩
theorem ofG {X : Cx} {target : Expr} {t : TG} (h : PG X target t) {v : V} {σ : L2.St} {H : Hp} {Q} (q : t v σ H Q) : tG X target v σ H Q := fun pins s u I r => h.run pins s σ H v u Q I r q
/-- a value of P is given to a target, whose names are the slots sl -/
structure JG (g : Gx) (tg : Expr) (P : Pr) (Γ Γ' : Gm) (sl : List Nat) : Prop where
  run : g.Wf → ∀ σ B H v, Sta g.b Γ σ B H → P.r B v → ∀ Q : L2.St → Hp → Prop, (∀ σ', Sta g.b Γ' σ' B H → (∀ vs : List Nat, (∀ i ∈ sl, i ∈ vs) → wipe σ' vs = wipe σ vs) → Q σ' H) → tG g.X tg v σ H Q
def tGs (X : Cx) (ts : List Expr) : TGs := fun vs σ H Q => ∀ pins s us, Inv X pins σ H s → Vals vs us → wpAny (model X.prog X.w) X.A (assignInOrder ((assignEach ts X.env).map (·.2)) us) (fun _ s' => ∃ σ' H', Inv X pins σ' H' s' ∧ Q σ' H') X.xe s
theorem pGs {X : Cx} {ts : List Expr} : PGs X ts (tGs X ts) := ⟨fun pins s σ H vs us Q I r h => h pins s us I r⟩
theorem ofGs {X : Cx} {ts : List Expr} {t : TGs} (h : PGs X ts t) {vs : List V} {σ : L2.St} {H : Hp} {Q} (q : t vs σ H Q) : tGs X ts vs σ H Q := fun pins s us I r => h.run pins s σ H vs us Q I r q
structure JGs (g : Gx) (ts : List Expr) (Ps : List Pr) (Γ Γ' : Gm) (sl : List Nat) : Prop where
  run : g.Wf → ∀ σ B H vs, Sta g.b Γ σ B H → F2 B vs Ps → ∀ Q : L2.St → Hp → Prop, (∀ σ', Sta g.b Γ' σ' B H → (∀ vs : List Nat, (∀ i ∈ sl, i ∈ vs) → wipe σ' vs = wipe σ vs) → Q σ' H) → tGs g.X ts vs σ H Q
theorem wipe_set {σ : L2.St} {i : Nat} {x : Option V} : ∀ {vs : List Nat}, i ∈ vs → wipe (σ.set i x) vs = wipe σ vs
  | v :: vs, h => by
    unfold wipe
    by_cases q : i ∈ vs
    · rw [wipe_set q]
    · have e : i = v := by rcases List.mem_cons.mp h with z | z; exact z; exact absurd z q
      subst e
      apply List.ext_getElem?
      intro j
      by_cases hj : i = j
      · subst hj
        by_cases hl : i < σ.length
        · rw [List.getElem?_set_self (by rw [wipe_length, List.length_set]; exact hl), List.getElem?_set_self (by rw [wipe_length]; exact hl)]
        · rw [List.getElem?_eq_none (by rw [List.length_set, wipe_length, List.length_set]; omega), List.getElem?_eq_none (by rw [List.length_set, wipe_length]; omega)]
      · rw [List.getElem?_set_ne hj, List.getElem?_set_ne hj]
        by_cases m : j ∈ vs
        · have a1 : ∀ τ : L2.St, (wipe τ vs)[j]? = if j < τ.length then some none else none := fun τ => by
            have key : ∀ (ws : List Nat), j ∈ ws → (wipe τ ws)[j]? = if j < τ.length then some none else none := by
              intro ws
              induction ws with
              | nil => intro z; cases z
              | cons u us ih =>
                intro z
                unfold wipe
                by_cases e : u = j
                · subst e
                  by_cases hl : u < τ.length
                  · rw [List.getElem?_set_self (by rw [wipe_length]; exact hl), if_pos hl]
                  · rw [List.getElem?_eq_none (by rw [List.length_set, wipe_length]; omega), if_neg hl]
                · rw [List.getElem?_set_ne e]
                  rcases List.mem_cons.mp z with q | q
                  · exact absurd q.symm e
                  · exact ih q
            exact key vs m
          rw [a1, a1, List.length_set]
        · rw [wipe_out m, wipe_out m, List.getElem?_set_ne hj]
theorem g_name (i : Nat) {x : Str} (hN : g.X.N[i]? = some x := by rfl) (hl : Loc g.X.env.scope x := by first | exact Or.inl rfl | exact Or.inr rfl) (hf : g.X.fn x = true ∨ g.X.env.scope.names.lookup x = some .local := by first | exact .inl rfl | exact .inr rfl) :
    JG g (.Name x pos) P Γ (Γ.set i (some (.sh P))) [i] := ⟨fun w σ B H v s p Q q => ofG (pg_name w.nd hN hl hf) (q _ (s.setS p) fun vs h => wipe_set (h i (List.mem_cons_self ..)))⟩
theorem gs_nil : JGs g [] [] Γ Γ [] := ⟨fun w σ B H vs s f Q q => by
  cases vs with
  | nil => exact ofGs pgs_nil ⟨rfl, q σ s fun _ _ => rfl⟩
  | cons _ _ => exact f.elim⟩
theorem gs_cons {ts : List Expr} {Ps : List Pr} {Γ1 Γ2 : Gm} {s1 s2 : List Nat} (h : JG g e P Γ Γ1 s1) (k : JGs g ts Ps Γ1 Γ2 s2) (hs : (assignEach (e :: ts) g.X.env).map (·.2) = assign e g.X.env :: (assignEach ts g.X.env).map (·.2) := by rfl) : JGs g (e :: ts) (P :: Ps) Γ Γ2 (s1 ++ s2) :=
  ⟨fun w σ B H vs s f Q q => by
    cases vs with
    | nil => exact f.elim
    | cons v vs =>
      refine ofGs (pgs_cons pG pGs hs) ⟨v, vs, rfl, h.run w σ B H v s f.1 _ fun σ1 st1 w1 => ?_⟩
      exact k.run w σ1 B H vs st1 f.2 Q fun σ2 st2 w2 => q σ2 st2 fun us hu => (w2 us fun i hi => hu i (List.mem_append_right _ hi)).trans (w1 us fun i hi => hu i (List.mem_append_left _ hi))⟩
theorem g_tup {es : List Expr} {k : Nat} {Ps : List Pr} {Γ1 : Gm} {n : Nat} {sl : List Nat} (h : JGs g es Ps Γ Γ1 sl) (hl : Ps.length = n := by rfl) (hn : (assignEach es g.X.env).length = n := by rfl) (hst : (assignEach es g.X.env).findIdx? (·.1) = none := by rfl) (hcm : g.X.calm = true := by rfl) : JG g (.Tuple es k pos) (rTs g.X.K Ps) Γ Γ1 sl :=
  ⟨fun w σ B H v s ⟨p, vs, e, a, f⟩ Q q => ofG (pg_tup hcm pGs hn hst) ⟨p, vs, e, a.sq s.st.ok, by rw [f.len]; exact hl, h.run w σ B H vs s f Q q⟩⟩
theorem s_asg {tg : Expr} {Γ1 : Gm} {sl : List Nat} (h : JE g e Γ P) (hg : JG g tg P Γ Γ1 sl) (k : JS g rest Γ1 D) (hs : swapsWithSole [tg] e pos.line g.X.env = pure false := by rfl) (hw : swappedStores [tg] e g.X.env = pure none := by rfl)
    (h1 : (assignEach [tg] g.X.env).map (·.2) = [assign tg g.X.env] := by rfl) : JS g (.Assign [tg] e pos :: rest) Γ D :=
  js_cons fun w σ B H s => of1 (ps_asg pE pG hs hw h1) ((h.run w σ B H s).mono fun v H' ⟨B', a, q⟩ => hg.run w σ B' H' v a.sta q _ fun σ' s' _ => k.go w a.le s')

/-! ### built-ins -/
def Cb (r : List V → Hp → VK → Prop) (Ps : List Pr) (R : Pr) : Prop := ∀ B H vs (K : VK), Ok B H → F2 B vs Ps → (∀ z B' H', Stp B H B' H' → R.r B' z → K z H') → r vs H K
theorem x_cb {r : List V → Hp → VK → Prop} {id : String} {x : Str} {es : List Expr} {Ps : List Pr} {p : Pos} (hm : g.X.mg x = none) (hc : g.Wf → CallR g.X (.builtin id) r) (hv : bootBuiltins x = some (.builtin id)) (k : Cb r Ps R) (h : JA g (e :: es) Γ Ps)
    (hg : Gl g.X x := by rfl) (hn : x ≠ "__name__" := by decide) (hdb : (x == ("__debug__" : Str)) = false := by decide) (he : starEach (e :: es) g.X.env = (false, eval e g.X.env) :: starEach es g.X.env := by rfl) (hpl : (backTo pos (starEach es g.X.env)).any (·.1) = false := by rfl) : JE g (.Call (.Name x p) (e :: es) [] pos) Γ R :=
  ⟨fun w σ B H s => ofE (pe_callB (hc w) hg hm hv pA hn hdb he hpl) ((h.run w σ B H s).mono fun vs H1 ⟨B1, a1, f⟩ => k B1 H1 vs _ a1.sta.st.ok f fun z B' H' t c => ⟨B', a1.trans (a1.sta.step t), c⟩)⟩
theorem x_cty {r : List V → Hp → VK → Prop} {T : String} {x : Str} {es : List Expr} {Ps : List Pr} {p : Pos} (hm : g.X.mg x = none) (hc : g.Wf → CallR g.X (.type T) r) (hv : bootBuiltins x = some (.type T)) (k : Cb r Ps R) (h : JA g (e :: es) Γ Ps)
    (hg : Gl g.X x := by rfl) (hn : x ≠ "__name__" := by decide) (hdb : (x == ("__debug__" : Str)) = false := by decide) (he : starEach (e :: es) g.X.env = (false, eval e g.X.env) :: starEach es g.X.env := by rfl) (hpl : (backTo pos (starEach es g.X.env)).any (·.1) = false := by rfl) : JE g (.Call (.Name x p) (e :: es) [] pos) Γ R :=
  ⟨fun w σ B H s => ofE (pe_callTy (hc w) hg hm hv pA hn hdb he hpl) ((h.run w σ B H s).mono fun vs H1 ⟨B1, a1, f⟩ => k B1 H1 vs _ a1.sta.st.ok f fun z B' H' t c => ⟨B', a1.trans (a1.sta.step t), c⟩)⟩
end
end G
set_option Elab.async false
set_option linter.all false
set_option maxRecDepth 100000
set_option maxHeartbeats 2000000
namespace G
open PySem L2

section
variable {g : Gx} {Γ : Gm} {P Q R : Pr} {e e1 e2 : Expr} {pos : Pos} {D : En} {st : Stmt} {ss rest : List Stmt} {rs qs : List Pr}

/-! ### borrowing an own list for what does not lean on the ground -/
def Free (P : Pr) : Prop := ∀ B B' v, P.r B v → P.r B' v
theorem free_V {x : V} : Free (rV x) := fun _ _ _ h => h
theorem free_ex {ι : Type} {f : ι → Pr} (h : ∀ a, Free (f a)) : Free (Pr.ex f) := fun B B' v ⟨a, z⟩ => ⟨a, h a B B' v z⟩
theorem free_gd {φ : Prop} (h : Free P) : Free (Pr.gd φ P) := fun B B' v ⟨a, z⟩ => ⟨a, h B B' v z⟩
def delL (B : Bs) (as : List Addr) : Bs := fun b => if b ∈ as then none else B b
theorem borrow_back {b : Base} {σ : L2.St} {B B2 : Bs} {H H2 : Hp} {i : Nat} {v : V} {c : Oc} {r : Pr} (s : Sta b Γ σ B H) (h : Γ[i]? = some (some (.ow c))) (hv : σ[i]? = some (some v)) (o : Own b c v B H)
    (a : Aft b (Γ.set i (some (.sh r))) σ (putH B H (c.ad v H)) H B2 H2) : Aft b Γ σ B H (delL B2 (c.ad v H)) H2 := by
  have lB : Le B (delL B2 (c.ad v H)) := fun x k e => by
    have ne : x ∉ c.ad v H := fun m => by rw [o.nb x m] at e; cases e
    unfold delL
    rw [if_neg ne]
    exact a.le x k (by rw [putH_out ne]; exact e)
  have hl : Le (delL B2 (c.ad v H)) B2 := fun x k e => by
    unfold delL at e
    by_cases q : x ∈ c.ad v H
    · rw [if_pos q] at e; cases e
    · rw [if_neg q] at e; exact e
  have hd : ∀ x ∈ c.ad v H, delL B2 (c.ad v H) x = none := fun x m => by unfold delL; rw [if_pos m]
  have t : Stp B H (delL B2 (c.ad v H)) H2 := by
    refine ⟨lB, ⟨fun x u e => a.sta.st.ok.ex x u (hl x _ e), fun x φ e => a.sta.st.ok.iv x φ (hl x _ e)⟩, fun x u hu n => a.t.keep x u hu fun φ z => ?_, a.t.there, fun x n1 k n2 => ?_⟩
    · rcases putH_cases z with ⟨u', _, _, q⟩ | q
      · cases q
      · exact n φ q
    · have q : x ∉ c.ad v H := fun m => by rw [hd x m] at n2; cases n2
      exact a.t.new x (by rw [putH_out q]; exact n1) k (hl x k n2)
  exact s.step t
/-- an expression that reads the own thing in slot i and gives what does not lean on the ground -/
theorem x_borG (i : Nat) {c : Oc} (R : Pr) (h : JE g e (Γ.set i (some (.sh R))) P) (hf : Free P) (hk : ∀ B H v, (∀ a ∈ c.ad v H, B a = none) → c.r B H v → R.r (putH B H (c.ad v H)) v) (hi : Γ[i]? = some (some (.ow c)) := by rfl) : JE g e Γ P :=
  ⟨fun w σ B H s => by
    obtain ⟨v, e, o, l, s2⟩ := s.hand hi hk
    exact (h.run w σ _ H s2).mono fun u H' ⟨B', a, q⟩ => ⟨_, borrow_back s hi e o a, hf _ _ _ q⟩⟩
theorem x_bor (i : Nat) (h : JE g e (Γ.set i (some (.sh (rLs g.X.K rs)))) P) (hf : Free P) (hi : Γ[i]? = some (some (.ow (oL rs))) := by rfl) : JE g e Γ P := x_borG i (rLs g.X.K rs) h hf fz_oL hi
theorem t_borG (i : Nat) {c : Oc} {k : Bool} (R : Pr) (h : JT g e (Γ.set i (some (.sh R))) k) (hk : ∀ B H v, (∀ a ∈ c.ad v H, B a = none) → c.r B H v → R.r (putH B H (c.ad v H)) v) (hi : Γ[i]? = some (some (.ow c)) := by rfl) : JT g e Γ k :=
  ⟨fun w σ B H s => by
    obtain ⟨v, e, o, l, s2⟩ := s.hand hi hk
    exact (h.run w σ _ H s2).mono fun u H' ⟨B', a, q⟩ => ⟨_, borrow_back s hi e o a, q⟩⟩
theorem t_bor (i : Nat) {k : Bool} (h : JT g e (Γ.set i (some (.sh (rLs g.X.K rs)))) k) (hi : Γ[i]? = some (some (.ow (oL rs))) := by rfl) : JT g e Γ k := t_borG i (rLs g.X.K rs) h fz_oL hi
/-- .. and gives a new thing of one's own, whose word does not lean on the ground -/
def FreeO (c : Oc) : Prop := ∀ B B' H v, c.r B H v → c.r B' H v
theorem y_borG (i : Nat) {c d : Oc} (R : Pr) (h : JO g e (Γ.set i (some (.sh R))) d) (hf : FreeO d) (hk : ∀ B H v, (∀ a ∈ c.ad v H, B a = none) → c.r B H v → R.r (putH B H (c.ad v H)) v) (hi : Γ[i]? = some (some (.ow c)) := by rfl) : JO g e Γ d :=
  ⟨fun w σ B H s => by
    obtain ⟨v, e, o, l, s2⟩ := s.hand hi hk
    refine (h.run w σ _ H s2).mono fun u H' ⟨B', a, q, n⟩ => ⟨_, borrow_back s hi e o a, ⟨fun x hx => ?_, q.nh, q.th, hf _ _ _ _ q.at_⟩, n⟩
    unfold delL
    split
    · rfl
    · exact q.nb x hx⟩

/-! ### sequences -/
theorem x_lenL (hm : g.X.mg "len" = none) (h : JE g e Γ (rLs g.X.K rs)) {p : Pos} (hg : Gl g.X "len" := by rfl) (he : starEach [e] g.X.env = (false, eval e g.X.env) :: starEach [] g.X.env := by rfl) : JE g (.Call (.Name "len" p) [e] [] pos) Γ (rI rs.length) :=
  x_cb (r := fun xs H Q => ∃ p ys, xs = [.ref p] ∧ (SqL g.X.K H p ys ∨ SqT g.X.K H p ys) ∧ Q (.int ys.length) H) hm (fun _ => call_len_seq) PySem.boot_len
    (fun B H vs K k f c => by
      obtain ⟨v, rfl, p, ws, e, a, f2⟩ := f.one
      exact ⟨p, ws, by rw [e], .inl (a.sq k), c _ B H (Stp.refl k) (by rw [f2.len]; rfl)⟩) (a_cons h a_nil he) hg (by decide) (by decide) he rfl
theorem x_lenT (hm : g.X.mg "len" = none) (h : JE g e Γ (rTs g.X.K rs)) {p : Pos} (hg : Gl g.X "len" := by rfl) (he : starEach [e] g.X.env = (false, eval e g.X.env) :: starEach [] g.X.env := by rfl) : JE g (.Call (.Name "len" p) [e] [] pos) Γ (rI rs.length) :=
  x_cb (r := fun xs H Q => ∃ p ys, xs = [.ref p] ∧ (SqL g.X.K H p ys ∨ SqT g.X.K H p ys) ∧ Q (.int ys.length) H) hm (fun _ => call_len_seq) PySem.boot_len
    (fun B H vs K k f c => by
      obtain ⟨v, rfl, p, ws, e, a, f2⟩ := f.one
      exact ⟨p, ws, by rw [e], .inr (a.sq k), c _ B H (Stp.refl k) (by rw [f2.len]; rfl)⟩) (a_cons h a_nil he) hg (by decide) (by decide) he rfl
theorem x_lenS (hm : g.X.mg "len" = none) {z : Str} (hz : z.length ≤ sizeLine) (h : JE g e Γ (rS z)) {p : Pos} (hg : Gl g.X "len" := by rfl) (he : starEach [e] g.X.env = (false, eval e g.X.env) :: starEach [] g.X.env := by rfl) : JE g (.Call (.Name "len" p) [e] [] pos) Γ (rI z.length) :=
  x_cb (r := fun xs H Q => ∃ z, xs = [.str z] ∧ z.length ≤ sizeLine ∧ Q (.int z.length) H) hm (fun _ => call_len_str) PySem.boot_len
    (fun B H vs K k f c => by
      obtain ⟨v, rfl, e⟩ := f.one
      exact ⟨z, by rw [e], hz, c _ B H (Stp.refl k) rfl⟩) (a_cons h a_nil he) hg (by decide) (by decide) he rfl
theorem x_ix {r : R2} (hr : IxR g.X r) (hv : Op2 g.X r P Q R) (h1 : JE g e1 Γ P) (h2 : JE g e2 Γ Q) (hs : PlainIx e2 := by exact fun _ _ => rfl) : JE g (.Subscript e1 e2 pos) Γ R :=
  ⟨fun w σ B H s => ofE (pe_ix hr pE pE hs) ((h1.run w σ B H s).mono fun v H1 ⟨B1, a1, p⟩ => (h2.run w σ B1 H1 a1.sta).mono fun u H2 ⟨B2, a2, q⟩ =>
    op2_run hv a2.sta (P.mono _ _ _ a2.le p) q fun z B' H' a3 c => ⟨B', (a1.trans a2).trans a3, c⟩)⟩
theorem x_ixL {j : Int} (hj : atI rs j = some R) (h1 : JE g e1 Γ (rLs g.X.K rs)) (h2 : JE g e2 Γ (rI j)) (hs : PlainIx e2 := by exact fun _ _ => rfl) : JE g (.Subscript e1 e2 pos) Γ R :=
  x_ix (P := rLs g.X.K rs) (Q := rI j) ix_list (fun B H v u K k ⟨p, vs, e, a, f⟩ q c => by
    subst e; cases q
    have hl := f.len
    unfold atI at hj
    rw [← hl] at hj
    cases hn : ixN vs.length j with
    | none => rw [hn] at hj; cases hj
    | some m =>
      rw [hn] at hj
      obtain ⟨v, e, z⟩ := f.get (i := m) (r := R) hj
      exact ⟨p, vs, j, v, rfl, rfl, a.sq k, by unfold atI; rw [hn]; exact e, c v B H (Stp.refl k) z⟩) h1 h2 hs
theorem x_ixT {j : Int} (hj : atI rs j = some R) (h1 : JE g e1 Γ (rTs g.X.K rs)) (h2 : JE g e2 Γ (rI j)) (hs : PlainIx e2 := by exact fun _ _ => rfl) : JE g (.Subscript e1 e2 pos) Γ R :=
  x_ix (P := rTs g.X.K rs) (Q := rI j) ix_tup (fun B H v u K k ⟨p, vs, e, a, f⟩ q c => by
    subst e; cases q
    have hl := f.len
    unfold atI at hj
    rw [← hl] at hj
    cases hn : ixN vs.length j with
    | none => rw [hn] at hj; cases hj
    | some m =>
      rw [hn] at hj
      obtain ⟨v, e, z⟩ := f.get (i := m) (r := R) hj
      exact ⟨p, vs, j, v, rfl, rfl, a.sq k, by unfold atI; rw [hn]; exact e, c v B H (Stp.refl k) z⟩) h1 h2 hs
end
section
variable {g : Gx} {Γ : Gm} {P Q R : Pr} {e e1 e2 : Expr} {pos p2 : Pos} {D : En} {st : Stmt} {ss rest : List Stmt} {rs qs : List Pr}
inductive Part (g : Gx) (Γ : Gm) : Option Expr → Option Int → Prop where
  | no : Part g Γ none none
  | at_ {e : Expr} {i : Int} (h : JE g e Γ (rI i)) : Part g Γ (some e) (some i)
theorem part_run {o : Option Expr} {i : Option Int} (h : Part g Γ o i) (w : g.Wf) : ∃ t : L2.TO, PO g.X o t ∧ ∀ σ B H, Sta g.b Γ σ B H → ∀ K : Option Int → Hp → Prop, (∀ B' H', Aft g.b Γ σ B H B' H' → K i H') → t σ H K := by
  cases h with
  | no => exact ⟨_, po_none, fun σ B H s K k => k B H s.refl⟩
  | at_ h => exact ⟨_, po_some pE, fun σ B H s K k => (h.run w σ B H s).mono fun v H' ⟨B', a, q⟩ => ⟨_, q, k B' H' a⟩⟩
/-- what a slice of a value of P is, by values -/
def Slc (r : V → Option Int → Option Int → Hp → VK → Prop) (P R : Pr) (lo hi : Option Int) : Prop := ∀ B H v (K : VK), Ok B H → P.r B v → (∀ z B' H', Stp B H B' H' → R.r B' z → K z H') → r v lo hi H K
theorem x_sl {r : V → Option Int → Option Int → Hp → VK → Prop} {lo hi : Option Expr} {i j : Option Int} (hr : SlR g.X r) (hv : Slc r P R i j) (h : JE g e Γ P) (hl : Part g Γ lo i) (hh : Part g Γ hi j) : JE g (.Subscript e (.Slice lo hi none p2) pos) Γ R :=
  ⟨fun w σ B H s => by
    obtain ⟨tl, pl, kl⟩ := part_run hl w
    obtain ⟨th, ph, kh⟩ := part_run hh w
    refine ofE (pe_slice hr pE pl ph) ((h.run w σ B H s).mono fun v H1 ⟨B1, a1, p⟩ => ?_)
    refine kl σ B1 H1 a1.sta _ fun B2 H2 a2 => kh σ B2 H2 a2.sta _ fun B3 H3 a3 => ?_
    exact hv B3 H3 v _ a3.sta.st.ok (P.mono _ _ _ (a2.le.trans a3.le) p) fun z B' H' t c => ⟨B', ((a1.trans a2).trans a3).trans (a3.sta.step t), c⟩⟩
def cutP {α : Type} (xs : List α) (lo hi : Option Int) : List α := (xs.drop (HT.sIx xs.length 0 lo)).take (HT.sIx xs.length xs.length hi - HT.sIx xs.length 0 lo)
theorem F2.cut {B : Bs} {vs : List V} {rs : List Pr} (f : F2 B vs rs) (lo hi : Option Int) : F2 B (cutV vs lo hi) (cutP rs lo hi) := by
  unfold cutV cutP
  rw [f.len]
  exact (f.drop _).take _
theorem x_slL {lo hi : Option Expr} {i j : Option Int} (h : JE g e Γ (rLs g.X.K rs)) (hl : Part g Γ lo i) (hh : Part g Γ hi j) : JE g (.Subscript e (.Slice lo hi none p2) pos) Γ (rLs g.X.K (cutP rs i j)) :=
  x_sl (P := rLs g.X.K rs) sl_list (fun B H v K k ⟨p, vs, e, a, f⟩ c => ⟨p, vs, e, a.sq k, fun q hq => c _ _ _ (Stp.lay k hq) ⟨q, _, rfl, put_same, (f.cut i j).mono (Le.put (k.none hq))⟩⟩) h hl hh
theorem y_slL {lo hi : Option Expr} {i j : Option Int} (h : JE g e Γ (rLs g.X.K rs)) (hl : Part g Γ lo i) (hh : Part g Γ hi j) : JO g (.Subscript e (.Slice lo hi none p2) pos) Γ (oL (cutP rs i j)) :=
  ⟨fun w σ B H s => by
    obtain ⟨tl, pl, kl⟩ := part_run hl w
    obtain ⟨th, ph, kh⟩ := part_run hh w
    refine ofE (pe_slice sl_list pE pl ph) ((h.run w σ B H s).mono fun v H1 ⟨B1, a1, p, vs, e, a, f⟩ => ?_)
    refine kl σ B1 H1 a1.sta _ fun B2 H2 a2 => kh σ B2 H2 a2.sta _ fun B3 H3 a3 => ?_
    have l := a2.le.trans a3.le
    refine ⟨p, vs, e, (a.mono l).sq a3.sta.st.ok, fun q hq => ⟨B3, ((a1.trans a2).trans a3).trans (a3.sta.beside hq), own_mk (a3.sta.st.ok.none hq) (a3.sta.st.bnone hq) upd_same ((f.mono l).cut i j), one_fresh (a1.th (a2.th (a3.th hq)))⟩⟩⟩
theorem x_slT {lo hi : Option Expr} {i j : Option Int} (h : JE g e Γ (rTs g.X.K rs)) (hl : Part g Γ lo i) (hh : Part g Γ hi j) : JE g (.Subscript e (.Slice lo hi none p2) pos) Γ (rTs g.X.K (cutP rs i j)) :=
  x_sl (P := rTs g.X.K rs) sl_tupA (fun B H v K k ⟨p, vs, e, a, f⟩ c => by
    refine ⟨p, vs, e, a.sq k, fun q => ?_, fun _ q hq => c _ _ _ (Stp.lay k hq) ⟨q, _, rfl, .inl put_same, (f.cut i j).mono (Le.put (k.none hq))⟩⟩
    have e2 : cutP rs i j = rs := by
      unfold cutP
      rw [← f.len, q.1, q.2, List.drop_zero, Nat.sub_zero, List.take_of_length_le (by rw [f.len]; exact Nat.le_refl _)]
    exact c _ B H (Stp.refl k) ⟨p, vs, rfl, a, by rw [e2]; exact f⟩) h hl hh
theorem x_slS {lo hi : Option Expr} {i j : Option Int} {z : Str} (hz : z.length ≤ sizeLine) (h : JE g e Γ (rS z)) (hl : Part g Γ lo i) (hh : Part g Γ hi j) : JE g (.Subscript e (.Slice lo hi none p2) pos) Γ (rS (cutS z i j)) :=
  x_sl sl_str (fun B H v K k q c => by cases q; exact ⟨z, rfl, hz, c _ B H (Stp.refl k) rfl⟩) h hl hh

theorem bo_list : bootBuiltins "list" = some (.type "list") := by decide +kernel
theorem bo_tuple : bootBuiltins "tuple" = some (.type "tuple") := by decide +kernel
/-! ### list(x), tuple(x), + -/
theorem y_list (hm : g.X.mg "list" = none) (h : JE g e Γ P) (hP : ∀ B v, P.r B v → ∃ p vs, v = .ref p ∧ (atL g.X.K B p vs ∨ atT g.X.K B p vs) ∧ F2 B vs rs) {p : Pos} (hg : Gl g.X "list" := by rfl) (he : starEach [e] g.X.env = (false, eval e g.X.env) :: starEach [] g.X.env := by rfl) : JO g (.Call (.Name "list" p) [e] [] pos) Γ (oL rs) :=
  ⟨fun w σ B H s => ofE (pe_callTy call_list_of hg hm bo_list (pa_cons pE pA he) (by decide) (by decide) he rfl) ((h.run w σ B H s).mono fun v H1 ⟨B1, a1, q⟩ => ((a_nil (g := g) (Γ := Γ)).run w σ B1 H1 a1.sta).mono fun vs H2 ⟨B2, a2, f⟩ => by
    have ev : vs = [] := by
      cases vs with
      | nil => rfl
      | cons _ _ => exact f.elim
    subst ev
    obtain ⟨p, ws, e, a, f2⟩ := hP _ _ q
    refine ⟨p, ws, by rw [e], a.imp (fun z => (z.mono a2.le).sq a2.sta.st.ok) (fun z => (z.mono a2.le).sq a2.sta.st.ok), fun l hl => ?_⟩
    exact ⟨B2, (a1.trans a2).trans (a2.sta.beside hl), own_mk (a2.sta.st.ok.none hl) (a2.sta.st.bnone hl) upd_same (f2.mono a2.le), one_fresh (a1.th (a2.th hl))⟩)⟩
theorem y_listL (hm : g.X.mg "list" = none) (h : JE g e Γ (rLs g.X.K rs)) {p : Pos} (hg : Gl g.X "list" := by rfl) (he : starEach [e] g.X.env = (false, eval e g.X.env) :: starEach [] g.X.env := by rfl) : JO g (.Call (.Name "list" p) [e] [] pos) Γ (oL rs) :=
  y_list hm h (fun B v ⟨p, vs, e, a, f⟩ => ⟨p, vs, e, .inl a, f⟩) hg he
theorem y_listT (hm : g.X.mg "list" = none) (h : JE g e Γ (rTs g.X.K rs)) {p : Pos} (hg : Gl g.X "list" := by rfl) (he : starEach [e] g.X.env = (false, eval e g.X.env) :: starEach [] g.X.env := by rfl) : JO g (.Call (.Name "list" p) [e] [] pos) Γ (oL rs) :=
  y_list hm h (fun B v ⟨p, vs, e, a, f⟩ => ⟨p, vs, e, .inr a, f⟩) hg he
theorem x_tupL (hm : g.X.mg "tuple" = none) (h : JE g e Γ (rLs g.X.K rs)) {p : Pos} (hg : Gl g.X "tuple" := by rfl) (he : starEach [e] g.X.env = (false, eval e g.X.env) :: starEach [] g.X.env := by rfl) : JE g (.Call (.Name "tuple" p) [e] [] pos) Γ (rTs g.X.K rs) :=
  x_cty (r := fun xs H Q => ∃ p ys, xs = [.ref p] ∧ ((SqL g.X.K H p ys ∧ ∀ l, H l = none → Q (.ref l) (upd H l (.tup ys))) ∨ (SqT g.X.K H p ys ∧ Q (.ref p) H))) hm (fun _ => call_tuple_of) bo_tuple
    (fun B H vs K k f c => by
      obtain ⟨v, rfl, p, ws, e, a, f2⟩ := f.one
      exact ⟨p, ws, by rw [e], .inl ⟨a.sq k, fun l hl => c _ _ _ (Stp.lay k hl) ⟨l, ws, rfl, .inl put_same, f2.mono (Le.put (k.none hl))⟩⟩⟩) (a_cons h a_nil he) hg (by decide) (by decide) he rfl
theorem x_tupT (hm : g.X.mg "tuple" = none) (h : JE g e Γ (rTs g.X.K rs)) {p : Pos} (hg : Gl g.X "tuple" := by rfl) (he : starEach [e] g.X.env = (false, eval e g.X.env) :: starEach [] g.X.env := by rfl) : JE g (.Call (.Name "tuple" p) [e] [] pos) Γ (rTs g.X.K rs) :=
  x_cty (r := fun xs H Q => ∃ p ys, xs = [.ref p] ∧ ((SqL g.X.K H p ys ∧ ∀ l, H l = none → Q (.ref l) (upd H l (.tup ys))) ∨ (SqT g.X.K H p ys ∧ Q (.ref p) H))) hm (fun _ => call_tuple_of) bo_tuple
    (fun B H vs K k f c => by
      obtain ⟨v, rfl, p, ws, e, a, f2⟩ := f.one
      exact ⟨p, ws, by rw [e], .inr ⟨a.sq k, c _ B H (Stp.refl k) ⟨p, ws, rfl, a, f2⟩⟩⟩) (a_cons h a_nil he) hg (by decide) (by decide) he rfl
theorem x_catT (hl : rs.length + qs.length ≤ sizeLine) (h1 : JE g e1 Γ (rTs g.X.K rs)) (h2 : JE g e2 Γ (rTs g.X.K qs)) : JE g (.BinOp e1 .Add e2 pos) Γ (rTs g.X.K (rs ++ qs)) :=
  x_op (P := rTs g.X.K rs) (Q := rTs g.X.K qs) op_catA (fun B H v u K k ⟨p, vs, e, a, f⟩ ⟨p2, vs2, e2, a2, f2⟩ c => by
    subst e e2
    refine ⟨p, p2, vs, vs2, rfl, rfl, a.sq k, a2.sq k, by rw [f.len, f2.len]; exact hl, fun z => ?_, fun _ z => ?_, fun _ _ q hq => ?_⟩
    · subst z
      have : rs = [] := by have := f.len; cases rs with
        | nil => rfl
        | cons _ _ => cases this
      subst this
      exact c _ B H (Stp.refl k) ⟨p2, vs2, rfl, a2, f2⟩
    · subst z
      have : qs = [] := by have := f2.len; cases qs with
        | nil => rfl
        | cons _ _ => cases this
      subst this
      exact c _ B H (Stp.refl k) ⟨p, vs, rfl, a, by rw [List.append_nil]; exact f⟩
    · exact c _ _ _ (Stp.lay k hq) ⟨q, _, rfl, .inl put_same, (f.append f2).mono (Le.put (k.none hq))⟩) h1 h2
/-- a new list -/
theorem y_catL (hl : rs.length + qs.length ≤ sizeLine) (h1 : JE g e1 Γ (rLs g.X.K rs)) (h2 : JE g e2 Γ (rLs g.X.K qs)) : JO g (.BinOp e1 .Add e2 pos) Γ (oL (rs ++ qs)) :=
  ⟨fun w σ B H s => ofE (pe_op op_cat pE pE) ((h1.run w σ B H s).mono fun v H1 ⟨B1, a1, p, vs, e, a, f⟩ => (h2.run w σ B1 H1 a1.sta).mono fun u H2 ⟨B2, a2, p2, vs2, e2, b, f2⟩ => by
    have z := a.mono (K := g.X.K) a2.le
    refine ⟨p, p2, vs, vs2, e, e2, z.at_ a2.sta.st.ok, b.at_ a2.sta.st.ok, by rw [f.len, f2.len]; exact hl, fun q hq => ?_⟩
    exact ⟨B2, (a1.trans a2).trans (a2.sta.beside hq), own_mk (a2.sta.st.ok.none hq) (a2.sta.st.bnone hq) upd_same ((f.mono a2.le).append f2), one_fresh (a1.th (a2.th hq))⟩)⟩
/-- xs * k -/
theorem y_repL {k : Int} (h0 : 0 ≤ k) (hk : k < 2 ^ 63) (hl : rs.length * k.toNat ≤ sizeLine) (h1 : JE g e1 Γ (rLs g.X.K rs)) (h2 : JE g e2 Γ (rI k)) : JO g (.BinOp e1 .Mult e2 pos) Γ (oL (List.replicate k.toNat rs).flatten) :=
  ⟨fun w σ B H s => ofE (pe_op op_rep pE pE) ((h1.run w σ B H s).mono fun v H1 ⟨B1, a1, p, vs, e, a, f⟩ => (h2.run w σ B1 H1 a1.sta).mono fun u H2 ⟨B2, a2, e2⟩ => by
    have z := a.mono (K := g.X.K) a2.le
    refine ⟨p, k, vs, e, e2, z.at_ a2.sta.st.ok, by omega, hk, by rw [f.len]; exact hl, fun q hq => ?_⟩
    have rep : ∀ n : Nat, F2 B2 (List.replicate n vs).flatten (List.replicate n rs).flatten := fun n => by
      induction n with
      | zero => exact trivial
      | succ n ih =>
        rw [List.replicate_succ, List.replicate_succ, List.flatten_cons, List.flatten_cons]
        exact (f.mono a2.le).append ih
    exact ⟨B2, (a1.trans a2).trans (a2.sta.beside hq), own_mk (a2.sta.st.ok.none hq) (a2.sta.st.bnone hq) upd_same (rep _), one_fresh (a1.th (a2.th hq))⟩)⟩

/-! ### own lists changed -/
/-- an object of the own thing in slot i is changed -/
theorem Sta.chg {b : Base} {σ : L2.St} {B : Bs} {H : Hp} {i : Nat} {c c' : Oc} {v : V} {p : Addr} {u : HO} (s : Sta b Γ σ B H) (h : Γ[i]? = some (some (.ow c))) (hv : σ[i]? = some (some v)) (hp : p ∈ c.ad v H) (ha : ∀ a ∈ c'.ad v (upd H p u), a ∈ c.ad v H) (hc : c'.r B (upd H p u) v) (hu : ∀ vs, u ≠ .tup vs := by exact fun _ h => nomatch h) : Sta b (Γ.set i (some (.ow c'))) σ B (upd H p u) := by
  obtain ⟨v', e, o⟩ := s.env.ow i c h
  have ev : v' = v := by rw [hv] at e; simpa using e.symm
  subst ev
  have ag : ∀ (j : Nat) (d : Oc) (w : V), i ≠ j → Γ[j]? = some (some (.ow d)) → σ[j]? = some (some w) → ∀ a ∈ d.ad w H, upd H p u a = H a := fun j d w ne z q a m => by
    have : a ≠ p := by
      rintro rfl
      exact ne (s.env.dis i j c d v' w a h z e q hp m)
    rw [upd_ne this]
  have at' : ∀ a, Hard (H a) → Hard (upd H p u a) := fun a n => by
    by_cases q : a = p
    · subst q; rw [upd_same]; exact ⟨u, rfl, hu⟩
    · rw [upd_ne q]; exact n
  refine ⟨s.st.chg (o.nb p hp) (o.nh p hp), ⟨by rw [List.length_set]; exact s.env.len, fun j r hj => ?_, fun j d hj => ?_, fun j m d d' v1 v2 q h1 h2 h3 h4 h5 h6 => ?_⟩⟩
  · rcases set_get hj with ⟨q, z⟩ | ⟨q, z⟩
    · cases z
    · exact s.env.sh j r z
  · rcases set_get hj with ⟨q, z⟩ | ⟨q, z⟩
    · cases z; subst q
      exact ⟨v', e, fun a m => o.nb a (ha a m), fun a m => o.nh a (ha a m), fun a m => at' a (o.th a (ha a m)), hc⟩
    · obtain ⟨w, e3, k⟩ := s.env.ow j d z
      have g := ag j d w q z e3
      have ea := d.ast H (upd H p u) w g
      exact ⟨w, e3, fun a m => k.nb a (by rw [← ea]; exact m), fun a m => k.nh a (by rw [← ea]; exact m), fun a m => at' a (k.th a (by rw [← ea]; exact m)), d.rst _ _ _ _ g k.at_⟩
  · rcases set_get h1 with ⟨q1, z1⟩ | ⟨q1, z1⟩
    · rcases set_get h2 with ⟨q2, z2⟩ | ⟨q2, z2⟩
      · exact q1.symm.trans q2
      · cases z1; subst q1
        rw [e] at h3; cases h3
        rw [d'.ast H _ v2 (ag m d' v2 q2 z2 h4)] at h6
        exact s.env.dis i m c d' v' v2 q h z2 e h4 (ha q h5) h6
    · rcases set_get h2 with ⟨q2, z2⟩ | ⟨q2, z2⟩
      · cases z2; subst q2
        rw [e] at h4; cases h4
        rw [d.ast H _ v1 (ag j d v1 q1 z1 h3)] at h5
        exact s.env.dis j i d c v1 v' q z1 h h3 e h5 (ha q h6)
      · rw [d.ast H _ v1 (ag j d v1 q1 z1 h3)] at h5
        rw [d'.ast H _ v2 (ag m d' v2 q2 z2 h4)] at h6
        exact s.env.dis j m d d' v1 v2 q z1 z2 h3 h4 h5 h6
theorem Sta.chgL {b : Base} {σ : L2.St} {B : Bs} {H : Hp} {i : Nat} {p : Addr} {vs : List V} (s : Sta b Γ σ B H) (h : Γ[i]? = some (some (.ow (oL rs)))) (hv : σ[i]? = some (some (.ref p))) (f : F2 B vs qs) : Sta b (Γ.set i (some (.ow (oL qs)))) σ B (upd H p (.lst vs)) :=
  s.chg h hv (mem_one.mpr rfl) (fun a m => m) ⟨p, vs, rfl, upd_same, f⟩
/-- x.append(e), x own -/
theorem s_app (i : Nat) {x : Str} {p apos cpos : Pos} (h : JE g e Γ P) (hz : rs.length < sizeLine) (k : JS g rest (Γ.set i (some (.ow (oL (rs ++ [P]))))) D) (hi : Γ[i]? = some (some (.ow (oL rs))) := by rfl) (hN : g.X.N[i]? = some x := by rfl) (hv : Vis g.X.env.scope x := by first | exact Or.inl rfl | exact Or.inr (Or.inl rfl) | exact Or.inr (Or.inr rfl))
    (hd : (x == ("__debug__" : Str)) = false := by decide) (hcd : (x == ("__classdict__" : Str)) = false := by decide) (hline : (apos.endLine == cpos.line) = true := by rfl)
    (hfew : ((backTo cpos (starEach [e] g.X.env)).all (fun x => !x.1) && (backToKw cpos (keywordEach [] g.X.env)).all (fun x => x.1.isSome) && decide ([e].length + ([] : List Keyword).length + (if ([] : List Keyword).isEmpty then 0 else 1) < 30)) = true := by rfl)
    (he : starEach [e] g.X.env = (false, eval e g.X.env) :: starEach [] g.X.env := by rfl) (hs : swapsWith (.Call (.Attribute (.Name x p) "append" apos) [e] [] cpos) none pos.line g.X.env = pure false := by rfl) :
    JS g (.Expr (.Call (.Attribute (.Name x p) "append" apos) [e] [] cpos) pos :: rest) Γ D :=
  js_cons fun w σ B H s => of1 (ps_expr (pe_bm PySem.F.plainAttrs_list PySem.F.slot_list_append PySem.F.type_list_append mt_append (pe_var hN hv hd hcd) (pa_cons pE pa_nil he) (by rfl) hfew hline he rfl) hs) (by
    obtain ⟨v0, e, o⟩ := s.env.ow i _ hi
    obtain ⟨q, vs, e2, nb, nh, hu, f⟩ := own_one o
    subst e2
    refine ⟨_, e, .inl ⟨rfl, vs, SqL.of hu⟩, (h.run w σ B H s).mono fun v H1 ⟨B1, a1, p1⟩ => ?_⟩
    have hu1 : H1 q = some (.lst vs) := a1.t.keep q _ hu fun φ z => by rw [nb] at z; cases z
    refine ⟨q, vs, v, rfl, rfl, hu1, by rw [f.len]; exact hz, k.go w a1.le (a1.sta.chgL hi e ((f.mono a1.le).append ⟨p1, trivial⟩))⟩)
/-- x.extend(e), x own -/
theorem s_ext (i : Nat) {x : Str} {p apos cpos : Pos} (h : JE g e Γ (rLs g.X.K qs)) (hz : rs.length + qs.length ≤ sizeLine) (k : JS g rest (Γ.set i (some (.ow (oL (rs ++ qs))))) D) (hi : Γ[i]? = some (some (.ow (oL rs))) := by rfl) (hN : g.X.N[i]? = some x := by rfl) (hv : Vis g.X.env.scope x := by first | exact Or.inl rfl | exact Or.inr (Or.inl rfl) | exact Or.inr (Or.inr rfl))
    (hd : (x == ("__debug__" : Str)) = false := by decide) (hcd : (x == ("__classdict__" : Str)) = false := by decide) (hline : (apos.endLine == cpos.line) = true := by rfl)
    (hfew : ((backTo cpos (starEach [e] g.X.env)).all (fun x => !x.1) && (backToKw cpos (keywordEach [] g.X.env)).all (fun x => x.1.isSome) && decide ([e].length + ([] : List Keyword).length + (if ([] : List Keyword).isEmpty then 0 else 1) < 30)) = true := by rfl)
    (he : starEach [e] g.X.env = (false, eval e g.X.env) :: starEach [] g.X.env := by rfl) (hs : swapsWith (.Call (.Attribute (.Name x p) "extend" apos) [e] [] cpos) none pos.line g.X.env = pure false := by rfl) :
    JS g (.Expr (.Call (.Attribute (.Name x p) "extend" apos) [e] [] cpos) pos :: rest) Γ D :=
  js_cons fun w σ B H s => of1 (ps_expr (pe_bm PySem.F.plainAttrs_list PySem.F.slot_list_extend PySem.F.type_list_extend mt_extend (pe_var hN hv hd hcd) (pa_cons pE pa_nil he) (by rfl) hfew hline he rfl) hs) (by
    obtain ⟨v0, e, o⟩ := s.env.ow i _ hi
    obtain ⟨q, vs, e2, nb, nh, hu, f⟩ := own_one o
    subst e2
    refine ⟨_, e, .inl ⟨rfl, vs, SqL.of hu⟩, (h.run w σ B H s).mono fun v H1 ⟨B1, a1, p2, ws, e3, a, f2⟩ => ?_⟩
    have hu1 : H1 q = some (.lst vs) := a1.t.keep q _ hu fun φ z => by rw [nb] at z; cases z
    refine ⟨q, p2, vs, ws, rfl, by rw [e3], hu1, a.at_ a1.sta.st.ok, by rw [f.len, f2.len]; exact hz, k.go w a1.le (a1.sta.chgL hi e ((f.mono a1.le).append f2))⟩)
/-- x[j] = e, x own -/
theorem s_setL (i : Nat) {j : Nat} {x : Str} {p spos : Pos} (h : JE g e Γ P) (hj : JE g e1 Γ (rI (j : Int))) (hl : j < rs.length) (k : JS g rest (Γ.set i (some (.ow (oL (rs.set j P))))) D) (hi : Γ[i]? = some (some (.ow (oL rs))) := by rfl) (hN : g.X.N[i]? = some x := by rfl) (hv : Vis g.X.env.scope x := by first | exact Or.inl rfl | exact Or.inr (Or.inl rfl) | exact Or.inr (Or.inr rfl))
    (hd : (x == ("__debug__" : Str)) = false := by decide) (hcd : (x == ("__classdict__" : Str)) = false := by decide)
    (ha : ∀ v, assign (.Subscript (.Name x p) e1 spos) g.X.env v = (do
      let ov ← holding [v] (eval (.Name x p) g.X.env)
      let iv ← holding [v, ov] (eval e1 g.X.env)
      standAt spos
      holding [v, ov, iv] (setItem ov iv v)
      release [v, ov, iv] []) := by intro _; rfl)
    (hs : swapsWithSole [.Subscript (.Name x p) e1 spos] e pos.line g.X.env = pure false := by rfl) (hw : swappedStores [.Subscript (.Name x p) e1 spos] e g.X.env = pure none := by rfl)
    (h1 : (assignEach [.Subscript (.Name x p) e1 spos] g.X.env).map (·.2) = [assign (.Subscript (.Name x p) e1 spos) g.X.env] := by rfl) :
    JS g (.Assign [.Subscript (.Name x p) e1 spos] e pos :: rest) Γ D :=
  js_cons fun w σ B H s => of1 (ps_asg pE (pg_sub (pe_var hN hv hd hcd) pE set_list ha) hs hw h1) (by
    obtain ⟨v0, e, o⟩ := s.env.ow i _ hi
    obtain ⟨q, vs, e2, nb, nh, hu, f⟩ := own_one o
    subst e2
    refine (h.run w σ B H s).mono fun v H1 ⟨B1, a1, p1⟩ => ⟨_, e, (hj.run w σ B1 H1 a1.sta).mono fun jv H2 ⟨B2, a2, ej⟩ => ?_⟩
    have a12 := a1.trans a2
    have hu1 : H2 q = some (.lst vs) := a12.t.keep q _ hu fun φ z => by rw [nb] at z; cases z
    refine ⟨q, vs, (j : Int), j, rfl, ej, hu1, Evl.ixN_nat (by rw [f.len]; exact hl), k.go w a12.le (a12.sta.chgL hi e (F2.set (P.mono _ _ _ a2.le p1) j (f.mono a12.le)))⟩)
/-- x[j], x own -/
theorem x_ixO (i : Nat) {j : Int} {x : Str} {p : Pos} (hj : atI rs j = some R) (h2 : JE g e2 Γ (rI j)) (hi : Γ[i]? = some (some (.ow (oL rs))) := by rfl) (hN : g.X.N[i]? = some x := by rfl) (hv : Vis g.X.env.scope x := by first | exact Or.inl rfl | exact Or.inr (Or.inl rfl) | exact Or.inr (Or.inr rfl))
    (hd : (x == ("__debug__" : Str)) = false := by decide) (hcd : (x == ("__classdict__" : Str)) = false := by decide) (hs : PlainIx e2 := by exact fun _ _ => rfl) : JE g (.Subscript (.Name x p) e2 pos) Γ R :=
  ⟨fun w σ B H s => ofE (pe_ix ix_list (pe_var hN hv hd hcd) pE hs) (by
    obtain ⟨v0, e, o⟩ := s.env.ow i _ hi
    obtain ⟨q, vs, e2, nb, nh, hu, f⟩ := own_one o
    subst e2
    refine ⟨_, e, (h2.run w σ B H s).mono fun jv H1 ⟨B1, a1, ej⟩ => ?_⟩
    have hu1 : H1 q = some (.lst vs) := a1.t.keep q _ hu fun φ z => by rw [nb] at z; cases z
    unfold atI at hj
    rw [← f.len] at hj
    cases hn : ixN vs.length j with
    | none => rw [hn] at hj; cases hj
    | some m =>
      rw [hn] at hj
      obtain ⟨v, ev, z⟩ := f.get (i := m) (r := R) hj
      exact ⟨q, vs, j, v, rfl, ej, SqL.of hu1, by unfold atI; rw [hn]; exact ev, B1, a1, R.mono _ _ _ a1.le z⟩)⟩
end
end G
set_option Elab.async false
set_option linter.all false
set_option maxRecDepth 100000
set_option maxHeartbeats 2000000
namespace G
open PySem L2
section
variable {g : Gx} {Γ : Gm} {P Q R : Pr} {e e1 e2 tg : Expr} {pos p2 : Pos} {D : En} {st : Stmt} {ss rest : List Stmt} {rs qs : List Pr}

/-! ### what is walked -/
def tI (X : Cx) (tg iter : Expr) : TI := fun σ H R => ∀ pins s, Inv X pins σ H s → wpAny (model X.prog X.w) X.A (eval iter X.env) (fun v s1 => wpAny (model X.prog X.w) X.A (pyIter v) (PIE X pins σ tg R) X.xe s1) X.xe s
theorem pI {X : Cx} {iter : Expr} : PI X tg iter (tI X tg iter) := ⟨fun pins s σ H R I h => h pins s I⟩
theorem ofI {X : Cx} {iter : Expr} {t : TI} (h : PI X tg iter t) {σ : L2.St} {H : Hp} {R} (q : t σ H R) : tI X tg iter σ H R := fun pins s I => h.run pins s σ H R I q
/-- n items, the i-th of it i -/
def Gives (B1 : Bs) (n : Nat) (it : Nat → Pr) (J : It) : Prop := ∃ (Gw : Hp → Prop) (Y : Nat → Hp → V → Hp → Prop), Walk J n Gw Y ∧ (∀ B2 H2, Le B1 B2 → Ok B2 H2 → Gw H2) ∧
  ∀ i H2 x H3 B2, i < n → Le B1 B2 → Ok B2 H2 → Y i H2 x H3 → ∃ B3, Stp B2 H2 B3 H3 ∧ (it i).r B3 x
structure JI (g : Gx) (tg iter : Expr) (Γ : Gm) (n : Nat) (it : Nat → Pr) : Prop where
  run : g.Wf → ∀ σ B H, Sta g.b Γ σ B H → tI g.X tg iter σ H (fun J H1 => ∃ B1, Aft g.b Γ σ B H B1 H1 ∧ Gives B1 n it J)
theorem Gives.mono {B1 B2 : Bs} {n : Nat} {it : Nat → Pr} {J : It} (h : Gives B1 n it J) (l : Le B1 B2) : Gives B2 n it J := by
  obtain ⟨G, Y, w, a, b⟩ := h
  exact ⟨G, Y, w, fun B3 H3 l3 k => a B3 H3 (l.trans l3) k, fun i H2 x H3 B3 hi l3 k y => b i H2 x H3 B3 hi (l.trans l3) k y⟩
/-- the i-th of a list of predicates -/
def nth (rs : List Pr) (i : Nat) : Pr := rs.getD i rN
theorem nth_of {i : Nat} {r : Pr} (h : rs[i]? = some r) : nth rs i = r := by unfold nth; rw [List.getD_eq_getElem?_getD, h]; rfl
theorem F2.nth {B : Bs} {vs : List V} (f : F2 B vs rs) {i : Nat} {v : V} (h : vs[i]? = some v) : (nth rs i).r B v := by
  have hi : i < rs.length := by rw [← f.len]; exact (List.getElem?_eq_some_iff.mp h).1
  obtain ⟨u, e, k⟩ := f.get (List.getElem?_eq_getElem hi)
  rw [h] at e
  cases e
  rw [nth_of (List.getElem?_eq_getElem hi)]
  exact k
theorem i_list (h : JE g e Γ (rLs g.X.K rs)) : JI g tg e Γ rs.length (nth rs) :=
  ⟨fun w σ B H s => ofI (pi_list pE) ((h.run w σ B H s).mono fun v H1 ⟨B1, a1, p, vs, e, a, f⟩ => ⟨p, e, ⟨vs, a.sq a1.sta.st.ok⟩, B1, a1, _, _, f.len ▸ walk_list, fun B2 H2 l k => (a.mono l).sq k, fun i H2 x H3 B2 hi l k y => by
    obtain ⟨e2, e3⟩ := y
    subst e2
    exact ⟨B2, Stp.refl k, (f.mono l).nth e3⟩⟩)⟩
theorem i_tup (h : JE g e Γ (rTs g.X.K rs)) : JI g tg e Γ rs.length (nth rs) :=
  ⟨fun w σ B H s => ofI (pi_tup pE) ((h.run w σ B H s).mono fun v H1 ⟨B1, a1, p, vs, e, a, f⟩ => ⟨p, e, ⟨vs, a.sq a1.sta.st.ok⟩, B1, a1, _, _, f.len ▸ walk_tup, fun B2 H2 l k => (a.mono l).sq k, fun i H2 x H3 B2 hi l k y => by
    obtain ⟨e2, e3⟩ := y
    subst e2
    exact ⟨B2, Stp.refl k, (f.mono l).nth e3⟩⟩)⟩
theorem i_range1 {j : Int} {p : Pos} (hm : g.X.mg "range" = none) (h1 : -(2 ^ 62) ≤ j) (h2 : j < 2 ^ 62) (h : JE g e Γ (rI j)) (hg : Gl g.X "range" := by rfl) (hs : starEach [e] g.X.env = [(false, eval e g.X.env)] := by rfl) :
    JI g tg (.Call (.Name "range" p) [e] [] pos) Γ j.toNat (fun i => rI (i : Int)) :=
  ⟨fun w σ B H s => ofI (pi_range1 hg hm pA hs) (((a_cons h a_nil hs).run w σ B H s).mono fun vs H1 ⟨B1, a1, f⟩ => by
    obtain ⟨v, rfl, e⟩ := f.one
    refine ⟨j, by rw [e], h1, h2, B1, a1, _, _, walk_range, fun _ _ _ _ => trivial, fun i H2 x H3 B2 hi l k y => ?_⟩
    obtain ⟨e2, e3⟩ := y
    subst e2
    exact ⟨B2, Stp.refl k, by rw [e3]; show V.int (0 + (i : Int)) = _; rw [Int.zero_add]⟩)⟩
theorem i_range2 {j k : Int} {p : Pos} (hm : g.X.mg "range" = none) (hb : -(2 ^ 62) ≤ j ∧ j < 2 ^ 62 ∧ -(2 ^ 62) ≤ k ∧ k < 2 ^ 62) (h : JE g e Γ (rI j)) (h' : JE g e1 Γ (rI k)) (hg : Gl g.X "range" := by rfl) (hs : starEach [e, e1] g.X.env = [(false, eval e g.X.env), (false, eval e1 g.X.env)] := by rfl) (hs2 : starEach [e1] g.X.env = [(false, eval e1 g.X.env)] := by rfl) :
    JI g tg (.Call (.Name "range" p) [e, e1] [] pos) Γ (k - j).toNat (fun i => rI (j + (i : Int))) :=
  ⟨fun w σ B H s => ofI (pi_range2 hg hm pA hs hs2) (((a_cons h (a_cons h' a_nil hs2) (by rw [hs, hs2])).run w σ B H s).mono fun vs H1 ⟨B1, a1, f⟩ => by
    obtain ⟨v, u, rfl, e, e'⟩ := f.two
    refine ⟨j, k, by rw [e, e'], hb, B1, a1, _, _, walk_range, fun _ _ _ _ => trivial, fun i H2 x H3 B2 hi l kk y => ?_⟩
    obtain ⟨e2, e3⟩ := y
    subst e2
    exact ⟨B2, Stp.refl kk, e3⟩)⟩
/-- a new pair each turn -/
theorem gives_pair {B1 : Bs} {J : It} {n : Nat} {Gw : Hp → Prop} {f h : Nat → Option V} {p q : Nat → Pr} {K : PySem.W.Frag} (w : Walk J n Gw (YPair f h)) (hG : ∀ B2 H2, Le B1 B2 → Ok B2 H2 → Gw H2)
    (hp : ∀ i x B2, i < n → Le B1 B2 → f i = some x → (p i).r B2 x) (hq : ∀ i x B2, i < n → Le B1 B2 → h i = some x → (q i).r B2 x) : Gives B1 n (fun i => rTs K [p i, q i]) J :=
  ⟨Gw, _, w, hG, fun i H2 x H3 B2 hi l k y => by
    obtain ⟨T, a, c, e, hT, e3, ha, hc⟩ := y
    subst e3
    have lT : Le B2 (put B2 T (.ex (.tup [a, c]))) := Le.put (k.none hT)
    exact ⟨_, Stp.lay k hT, T, [a, c], e, .inl put_same, (p i).mono _ _ _ lT (hp i a B2 hi l ha), (q i).mono _ _ _ lT (hq i c B2 hi l hc), trivial⟩⟩
theorem i_zipL {elts : List Expr} {kk : Nat} {tpos p : Pos} (hm : g.X.mg "zip" = none) (h : JE g e Γ (rLs g.X.K rs)) (h' : JE g e1 Γ (rLs g.X.K qs)) (hg : Gl g.X "zip" := by rfl) (hs : starEach [e, e1] g.X.env = (false, eval e g.X.env) :: starEach [e1] g.X.env := by rfl) (hs2 : starEach [e1] g.X.env = (false, eval e1 g.X.env) :: starEach [] g.X.env := by rfl) (hpl : (backTo pos (starEach [e1] g.X.env)).any (·.1) = false := by rfl) :
    JI g (.Tuple elts kk tpos) (.Call (.Name "zip" p) [e, e1] [] pos) Γ (min rs.length qs.length) (fun i => rTs g.X.K [nth rs i, nth qs i]) :=
  ⟨fun w σ B H s => ofI (pi_zip hg hm pA hs hpl) (((a_cons h (a_cons h' a_nil hs2) hs).run w σ B H s).mono fun vs H1 ⟨B1, a1, f⟩ => by
    obtain ⟨v, u, rfl, ⟨p, xs, e, a, f1⟩, ⟨p', ys, e', a', f2⟩⟩ := f.two
    refine ⟨p, p', xs, ys, by rw [e, e'], a.sq a1.sta.st.ok, a'.sq a1.sta.st.ok, B1, a1, gives_pair (walk_zip (by rw [f1.len, f2.len])) (fun B2 H2 l k => ⟨(a.mono l).sq k, (a'.mono l).sq k⟩) (fun i x B2 hi l e => (f1.mono l).nth e) (fun i x B2 hi l e => (f2.mono l).nth e)⟩)⟩
theorem i_enum {elts : List Expr} {kk : Nat} {tpos p : Pos} (hm : g.X.mg "enumerate" = none) (h : JE g e Γ (rLs g.X.K rs)) (hg : Gl g.X "enumerate" := by rfl) (hs : starEach [e] g.X.env = [(false, eval e g.X.env)] := by rfl) :
    JI g (.Tuple elts kk tpos) (.Call (.Name "enumerate" p) [e] [] pos) Γ rs.length (fun i => rTs g.X.K [rI (i : Int), nth rs i]) :=
  ⟨fun w σ B H s => ofI (pi_enum hg hm pA hs) (((a_cons h a_nil hs).run w σ B H s).mono fun vs H1 ⟨B1, a1, f⟩ => by
    obtain ⟨v, rfl, p, xs, e, a, f1⟩ := f.one
    refine ⟨p, xs, by rw [e], a.sq a1.sta.st.ok, B1, a1, gives_pair (f1.len ▸ walk_enum) (fun B2 H2 l k => (a.mono l).sq k) (fun i x B2 hi l e => ?_) (fun i x B2 hi l e => (f1.mono l).nth e)⟩
    cases e
    rfl)⟩
theorem i_rev {p : Pos} (hm : g.X.mg "reversed" = none) (h : JE g e Γ (rLs g.X.K rs)) (hg : Gl g.X "reversed" := by rfl) (hs : starEach [e] g.X.env = [(false, eval e g.X.env)] := by rfl) :
    JI g tg (.Call (.Name "reversed" p) [e] [] pos) Γ rs.length (fun i => nth rs (rs.length - 1 - i)) :=
  ⟨fun w σ B H s => ofI (pi_reversed hg hm pA hs) (((a_cons h a_nil hs).run w σ B H s).mono fun vs H1 ⟨B1, a1, f⟩ => by
    obtain ⟨v, rfl, p, xs, e, a, f1⟩ := f.one
    refine ⟨p, xs, by rw [e], a.sq a1.sta.st.ok, B1, a1, _, _, by rw [← f1.len]; exact walk_rev, fun B2 H2 l k => ?_, fun i H2 x H3 B2 hi l k y => ?_⟩
    · exact (a.mono l).sq k
    · obtain ⟨e2, e3⟩ := y
      subst e2
      refine ⟨B2, Stp.refl k, ?_⟩
      have z := (f1.mono l).nth e3
      rw [f1.len] at z
      exact z)⟩
theorem i_str {z : Str} (h : JE g e Γ (rS z)) : JI g tg e Γ z.cps.size (fun i => rS ⟨#[z.cps.getD i 0]⟩) :=
  ⟨fun w σ B H s => ofI (pi_str pE) ((h.run w σ B H s).mono fun v H1 ⟨B1, a1, e⟩ => ⟨z, e, B1, a1, _, _, walk_str, fun _ _ _ _ => trivial, fun i H2 x H3 B2 hi l k y => by
    obtain ⟨e2, c, e3, e4⟩ := y
    subst e2
    refine ⟨B2, Stp.refl k, ?_⟩
    rw [e4]
    show V.str ⟨#[c]⟩ = V.str ⟨#[z.cps.getD i 0]⟩
    have : z.cps.getD i 0 = c := by
      rw [Array.getD_eq_getD_getElem?, e3]; rfl
    rw [this]⟩)⟩

/-! ### for -/
theorem s_for {iter : Expr} {body : List Stmt} {n : Nat} {it : Nat → Pr} (I : Nat → Gm) {I2 : Nat → Gm} {sl : List Nat} (hI : JI g tg iter Γ n it) (h0 : GmLe Γ (I 0)) (hg : ∀ i, i < n → JG g tg (it i) (I i) (I2 i) sl)
    (hb : ∀ i, i < n → JS g body (I2 i) (D.lp g.X rest g.b (I (i + 1)))) (hd : JS g rest (I n) D) (hs : ∀ x, foldedSetIterable iter g.X.env x = pure x := by intro _; rfl) (hcm : g.X.calm = true := by rfl) :
    JS g (.For tg iter body [] pos :: rest) Γ D :=
  js_cons fun w σ B H s => of1 (ps_for w.po hcm pI pG pS hs) (fun pins s1 I1 => by
    refine (hI.run w σ B H s) pins s1 I1 |> fun z => ?_
    refine thn z fun v s2 h2 => thn h2 fun itv s3 h3 => ?_
    obtain ⟨itA, fp, tn, J, H3, e1, e2, e3, e4, e5, B1, a1, Gw, Y, wk, kg, ky⟩ := h3
    refine ⟨itA, fp, tn, J, H3, e1, e2, e3, e4, e5, for_it wk (fun i σ' H' => ∃ B', Le B1 B' ∧ Sta g.b (I i) σ' B' H') ⟨B1, Le.refl _, a1.sta.imp h0⟩ (fun i σ' H' hi ⟨B', l, s'⟩ => kg B' H' l s'.st.ok) ?_ ?_⟩
    · intro i x σ' H' H'' hi ⟨B', l, s'⟩ y
      obtain ⟨B2, t, p⟩ := ky i H' x H'' B' hi l s'.st.ok y
      have a2 := s'.step t
      refine (hg i hi).run w σ' B2 H'' x a2.sta p _ fun σ2 s3 _ => ?_
      have l13 : Le B1 B2 := l.trans a2.le
      refine ((hb i hi).run w σ2 B2 H'' s3).mono ⟨fun σ4 H4 ⟨B4, l4, s4⟩ => ⟨B4, l13.trans l4, s4⟩, fun _ _ q => q, fun σ4 H4 q => WS.mono q (D.anti (a1.le.trans l13)), fun σ4 H4 ⟨B4, l4, s4⟩ => ⟨B4, l13.trans l4, s4⟩⟩
    · intro σ' H' ⟨B', l, s'⟩
      exact hd.go w (a1.le.trans l) s')

/-! ### while -/
theorem s_while {ι : Type} {body : List Stmt} (I : ι → Gm) (m : ι → Nat) (t : ι → Bool) (a0 : ι) (h0 : GmLe Γ (I a0)) (ht : ∀ a, JT g e (I a) (t a))
    (hb : ∀ a, t a = true → JS g body (I a) { D with nx := fun B σ' H' => ∃ a', m a' < m a ∧ Nx g.b (I a') B σ' H', anx := fun _ _ _ _ l ⟨a', h, z⟩ => ⟨a', h, Nx.anti _ _ _ _ l z⟩, ct := fun B σ' H' => ∃ a', m a' < m a ∧ Nx g.b (I a') B σ' H', act := fun _ _ _ _ l ⟨a', h, z⟩ => ⟨a', h, Nx.anti _ _ _ _ l z⟩, bk := fun B σ' H' => WS g.X rest (D.at_ B) σ' H', abk := fun _ _ _ _ l h => h.mono (D.anti l) })
    (hd : ∀ a, t a = false → JS g rest (I a) D) : JS g (.While e body [] pos :: rest) Γ D :=
  js_cons fun w σ B H s => of1 (ps_while w.po pT pS) (by
    refine ⟨fun n σ' H' => ∃ a B', n = m a ∧ Le B B' ∧ Sta g.b (I a) σ' B' H', ⟨_, a0, B, rfl, Le.refl _, s.imp h0⟩, ?_⟩
    rintro n σ' H' ⟨a, B', rfl, l, s'⟩
    refine ((ht a).run w σ' B' H' s').mono fun v H1 ⟨B1, a1, q⟩ => ?_
    subst q
    have l1 := l.trans a1.le
    cases hv : t a with
    | true =>
      rw [if_pos rfl]
      refine ⟨fun σ2 H2 => ∃ a', m a' < m a ∧ ∃ B2, Le B B2 ∧ Sta g.b (I a') σ2 B2 H2, fun σ2 H2 ⟨a', h, B2, l2, s2⟩ => ⟨m a', h, a', B2, rfl, l2, s2⟩, ?_⟩
      exact ((hb a hv).run w σ' B1 H1 a1.sta).mono ⟨fun σ4 H4 ⟨a', h, B4, l4, s4⟩ => ⟨a', h, B4, l1.trans l4, s4⟩, fun _ _ q => q, fun σ4 H4 q => WS.mono q (D.anti l1), fun σ4 H4 ⟨a', h, B4, l4, s4⟩ => ⟨a', h, B4, l1.trans l4, s4⟩⟩
    | false =>
      rw [if_neg Bool.false_ne_true]
      exact (hd a hv).go w l1 a1.sta)

/-! ### comprehensions -/
def wipeG (Γ : Gm) : List Nat → Gm
  | [] => Γ
  | v :: vs => (wipeG Γ vs).set v none
theorem wipeG_length (Γ : Gm) : ∀ vs : List Nat, (wipeG Γ vs).length = Γ.length
  | [] => rfl
  | v :: vs => by unfold wipeG; rw [List.length_set, wipeG_length Γ vs]
theorem wipeG_some {Γ : Gm} {i : Nat} {x : Sl} : ∀ {vs : List Nat}, (wipeG Γ vs)[i]? = some (some x) → Γ[i]? = some (some x) ∧ i ∉ vs
  | [], h => ⟨h, by simp⟩
  | v :: vs, h => by
    unfold wipeG at h
    rcases set_get h with ⟨_, z⟩ | ⟨q, z⟩
    · cases z
    · obtain ⟨a, b⟩ := wipeG_some z
      exact ⟨a, fun m => (List.mem_cons.mp m).elim (fun e => q e.symm) b⟩
theorem Sta.wipe {b : Base} {σ : L2.St} {B : Bs} {H : Hp} (s : Sta b Γ σ B H) (vs : List Nat) : Sta b (wipeG Γ vs) (L2.wipe σ vs) B H where
  st := s.st
  env := {
    len := by rw [wipe_length, wipeG_length]; exact s.env.len
    sh := fun i r h => by
      obtain ⟨a, n⟩ := wipeG_some h
      obtain ⟨v, e, k⟩ := s.env.sh i r a
      exact ⟨v, by rw [wipe_out n]; exact e, k⟩
    ow := fun i r h => by
      obtain ⟨a, n⟩ := wipeG_some h
      obtain ⟨v, e, k⟩ := s.env.ow i r a
      exact ⟨v, by rw [wipe_out n]; exact e, k⟩
    dis := fun i j c c' v v' p h1 h2 h3 h4 => by
      obtain ⟨a1, n1⟩ := wipeG_some h1
      obtain ⟨a2, n2⟩ := wipeG_some h2
      rw [wipe_out n1] at h3
      rw [wipe_out n2] at h4
      exact s.env.dis i j c c' v v' p a1 a2 h3 h4 }
theorem Stp.chg' {B0 B : Bs} {H0 H : Hp} {p : Addr} {u : HO} (s : Stp B0 H0 B H) (hb : B p = none) (nh : H0 p = none) : Stp B0 H0 B (upd H p u) := Stp.chg (b := ⟨B0, H0⟩) s hb nh
theorem wipe_wipe (σ : L2.St) (vs : List Nat) : L2.wipe (L2.wipe σ vs) vs = L2.wipe σ vs := by
  apply List.ext_getElem?
  intro j
  by_cases m : j ∈ vs
  · have key : ∀ (τ : L2.St) (ws : List Nat), j ∈ ws → (L2.wipe τ ws)[j]? = if j < τ.length then some none else none := by
      intro τ ws
      induction ws with
      | nil => intro z; cases z
      | cons u us ih =>
        intro z
        unfold L2.wipe
        by_cases e : u = j
        · subst e
          by_cases hl : u < τ.length
          · rw [List.getElem?_set_self (by rw [wipe_length]; exact hl), if_pos hl]
          · rw [List.getElem?_eq_none (by rw [List.length_set, wipe_length]; omega), if_neg hl]
        · rw [List.getElem?_set_ne e]
          rcases List.mem_cons.mp z with q | q
          · exact absurd q.symm e
          · exact ih q
    rw [key _ _ m, key _ _ m, wipe_length]
  · rw [wipe_out m]
/-- the context of a comprehension's block -/
abbrev Gx.blk (g : Gx) (s : Shared) (H : Hp) (scope : Scope) (C : Addr) (cl : List (Str × Addr)) (fp : List Addr) : Gx := ⟨g.X.blk s H scope (compEnvC scope cl C g.X.env) fp, g.b, fun _ _ _ _ => False, g.k⟩
theorem Gx.Wf.blk {g : Gx} (w : g.Wf) {s : Shared} {H : Hp} {scope : Scope} {C : Addr} {cl : List (Str × Addr)} {fp : List Addr} : (g.blk s H scope C cl fp).Wf := ⟨takes0, w.hr, PassesOwn.never, w.nd, w.bok⟩
/-- which turns give -/
def gv (n : Nat) (c : Nat → Bool) (q : Nat → Pr) : List Pr := ((List.range n).filter c).map q
theorem gv_succ (n : Nat) (c : Nat → Bool) (q : Nat → Pr) : gv (n + 1) c q = gv n c q ++ (if c n = true then [q n] else []) := by
  unfold gv
  rw [List.range_succ, List.filter_append, List.map_append]
  cases h : c n with
  | true => rw [List.filter_cons, if_pos h, if_pos rfl]; rfl
  | false => rw [List.filter_cons, if_neg (by rw [h]; decide), if_neg (by decide)]; rfl
theorem gv_len (n : Nat) (c : Nat → Bool) (q : Nat → Pr) : (gv n c q).length ≤ n := by
  unfold gv
  rw [List.length_map]
  have h := List.length_filter_le c (List.range n)
  rw [List.length_range] at h
  exact h
structure JTs (g : Gx) (ifs : List Expr) (Γ : Gm) (c : Bool) : Prop where
  run : g.Wf → ∀ σ B H, Sta g.b Γ σ B H → ∀ K : Bool → Hp → Prop, (∀ B' H', Aft g.b Γ σ B H B' H' → K c H') → ∀ pins s, Inv g.X pins σ H s → wpAny (model g.X.prog g.X.w) g.X.A (forIn ifs true fun c r => if r = true then do let ok ← isTrue c g.X.env (eval c g.X.env); pure (ForInStep.yield ok) else pure (ForInStep.yield r)) (TP g.X pins σ K) g.X.xe s
theorem ts_no : JTs g [] Γ true := ⟨fun w σ B H s K k pins st I => pts_nil.run pins st σ H K I (k B H s.refl)⟩
theorem ts_if {c : Bool} (h : JT g e Γ c) : JTs g [e] Γ c := ⟨fun w σ B H s K k pins st I => (pts_one pT).run pins st σ H K I ((h.run w σ B H s).mono fun v H' ⟨B', a, q⟩ => by rw [q]; exact k B' H' a)⟩
/-- the readings in a block, for whatever block -/
abbrev AnyB (scope : Scope) (g : Gx) (p : Gx → Prop) : Prop := ∀ (s : Shared) (H : Hp) (C : Addr) (cl : List (Str × Addr)) (fp : List Addr), p (g.blk s H scope C cl fp)
def bG (g : Gx) (scope : Scope) (tg : Expr) : TG := fun v σ H Q => ∀ s0 H0 C cl fp, tG (g.blk s0 H0 scope C cl fp).X tg v σ H Q
def bT (g : Gx) (scope : Scope) (ifs : List Expr) : L2.TT := fun σ H K => ∀ s0 H0 C cl fp, ∀ pins s, Inv (g.blk s0 H0 scope C cl fp).X pins σ H s → wpAny (model g.X.prog g.X.w) g.X.A (forIn ifs true fun c r => if r = true then do let ok ← isTrue c (g.blk s0 H0 scope C cl fp).X.env (eval c (g.blk s0 H0 scope C cl fp).X.env); pure (ForInStep.yield ok) else pure (ForInStep.yield r)) (TP (g.blk s0 H0 scope C cl fp).X pins σ K) (fun _ _ => False) s
def bE (g : Gx) (scope : Scope) (elt : Expr) : L2.TE := fun σ H Q => ∀ s0 H0 C cl fp, WE (g.blk s0 H0 scope C cl fp).X elt Q σ H
theorem y_lc {elt iter : Expr} {ifs : List Expr} {scope : Scope} (own : List (Str × Nat)) {n : Nat} {it : Nat → Pr} {Γ2 : Nat → Gm} (c : Nat → Bool) (q : Nat → Pr) {sl : List Nat} (hI : JI g tg iter Γ n it) (hn : n < sizeLine)
    (hg : AnyB scope g fun g' => ∀ i, i < n → JG g' tg (it i) (wipeG Γ (own.map (·.2))) (Γ2 i) sl) (hsl : ∀ i ∈ sl, i ∈ own.map (·.2) := by decide)
    (ht : AnyB scope g fun g' => ∀ i, i < n → JTs g' ifs (Γ2 i) (c i)) (he : AnyB scope g fun g' => ∀ i, i < n → c i = true → JE g' elt (Γ2 i) (q i))
    (ok : BlkOk g.X.N g.X.env.scope scope own) (hs : ∀ x, foldedSetIterable iter g.X.env x = pure x := by intro _; rfl) (hcm : g.X.calm = true := by rfl) : JO g (.ListComp elt [⟨tg, iter, ifs, 0⟩] scope pos) Γ (oL (gv n c q)) := by
  refine ⟨fun w σ B H s => ?_⟩
  refine ofE (pe_lc (own := own) (wi := tI g.X tg iter) (g := bG g scope tg) (tt := bT g scope ifs) (te := bE g scope elt)
    hcm w.nd pI ok (fun s0 H0 C cl fp => ⟨fun pins s σ H v u Q I r h => h s0 H0 C cl fp pins s u I r⟩) (fun s0 H0 C cl fp => ⟨fun pins s σ H Q I h => h s0 H0 C cl fp pins s I⟩) (fun s0 H0 C cl fp => ⟨fun pins s σ H Q I h => h s0 H0 C cl fp pins s I⟩) hs) ?_
  intro pins s1 I1
  refine thn (hI.run w σ B H s pins s1 I1) fun v s2 h2 => thn h2 fun itv s3 h3 => ?_
  obtain ⟨itA, fp, tn, J, H3, e1, e2, e3, e4, e5, B1, a1, Gw, Y, wk, kg, ky⟩ := h3
  refine ⟨itA, fp, tn, J, H3, e1, e2, e3, e4, e5, fun Dl hD => ?_⟩
  have hDn : H Dl = none := a1.th hD
  refine lc_it (g := bG g scope tg) (tt := bT g scope ifs) (te := bE g scope elt) (vs := own.map (·.2)) (σ := σ) (H1 := H3) (D := Dl) (Qd := fun H' => ∃ B', Aft g.b Γ σ B H B' H' ∧ Own g.b (oL (gv n c q)) (.ref Dl) B' H' ∧ ∀ a ∈ (oL (gv n c q)).ad (.ref Dl) H', H a = none) wk (fun i H' => ∃ B' acc, Stp B H B' H' ∧ Le B1 B' ∧ B' Dl = none ∧ H' Dl = some (.lst acc) ∧ F2 B' acc (gv i c q)) ?_ (fun i H' hi ⟨B', acc, t, l, _⟩ => kg B' H' l t.ok) ?_ ?_
  · exact ⟨B1, [], (a1.trans (a1.sta.beside hD)).t, Le.refl _, a1.sta.st.ok.none hD, upd_same, trivial⟩
  · intro i x H' H'' hi ⟨B', acc, t, l, nD, hacc, f⟩ y
    obtain ⟨B2, t2, p⟩ := ky i H' x H'' B' hi l t.ok y
    have tt2 : Stp B H B2 H'' := t.trans t2
    have nD2 : B2 Dl = none := by
      cases z : B2 Dl with
      | none => rfl
      | some k => exact (Hard.no (by rw [hacc]; exact hard_lst) (t2.new Dl nD k z)).elim
    have hacc2 : H'' Dl = some (.lst acc) := t2.keep Dl _ hacc fun φ z => by rw [nD] at z; cases z
    have sw := ((s.step tt2).sta).wipe (own.map (·.2))
    intro s0 H0 C cl fp'
    refine (hg s0 H0 C cl fp' i hi).run w.blk _ B2 H'' x sw p _ fun σ2 s4 hw => ?_
    refine ⟨?_, fun s0 H0 C cl fp' => ?_⟩
    · have z := hw (own.map (·.2)) hsl
      rw [z]
      exact wipe_wipe σ _
    · refine (ht s0 H0 C cl fp' i hi).run w.blk σ2 B2 H'' s4 _ fun B5 H5 a5 => ?_
      have nD5 : B5 Dl = none := by
        cases z : B5 Dl with
        | none => rfl
        | some k => exact (Hard.no (by rw [hacc2]; exact hard_lst) (a5.t.new Dl nD2 k z)).elim
      have hacc5 : H5 Dl = some (.lst acc) := a5.t.keep Dl _ hacc2 fun φ z => by rw [nD2] at z; cases z
      cases hc : c i with
      | true =>
        rw [if_pos rfl]
        intro s0 H0 C cl fp'
        refine ((he s0 H0 C cl fp' i hi hc).run w.blk σ2 B5 H5 a5.sta).mono fun y H6 ⟨B6, a6, py⟩ => ?_
        have nD6 : B6 Dl = none := by
          cases z : B6 Dl with
          | none => rfl
          | some k => exact (Hard.no (by rw [hacc5]; exact hard_lst) (a6.t.new Dl nD5 k z)).elim
        have hacc6 : H6 Dl = some (.lst acc) := a6.t.keep Dl _ hacc5 fun φ z => by rw [nD5] at z; cases z
        refine ⟨acc, hacc6, ?_, B6, acc ++ [y], (tt2.trans (a5.t.trans a6.t)).chg' nD6 hDn, l.trans (t2.le.trans (a5.le.trans a6.le)), nD6, upd_same, ?_⟩
        · rw [f.len]; exact Nat.lt_of_le_of_lt (gv_len i c q) (Nat.lt_trans hi hn)
        · rw [gv_succ, if_pos hc]
          exact (f.mono (t2.le.trans (a5.le.trans a6.le))).append ⟨py, trivial⟩
      | false =>
        rw [if_neg (by decide)]
        refine ⟨B5, acc, tt2.trans a5.t, l.trans (t2.le.trans a5.le), nD5, hacc5, ?_⟩
        rw [gv_succ, if_neg (by rw [hc]; decide), List.append_nil]
        exact f.mono (t2.le.trans a5.le)
  · intro H' ⟨B', acc, t, l, nD, hacc, f⟩
    exact ⟨B', s.step t, own_mk nD (s.st.bnone hDn) hacc f, one_fresh hDn⟩
theorem gv_all (n : Nat) (q : Nat → Pr) : gv n (fun _ => true) q = (List.range n).map q := by
  unfold gv
  rw [List.filter_eq_self.mpr (fun _ _ => rfl)]
/-- over a list of α: turn by turn what f makes of the item -/
theorem range_map {α β : Type} (xs : List α) (d : α) (f : α → β) (q : Nat → β) (h : ∀ i x, xs[i]? = some x → q i = f x) : (List.range xs.length).map q = xs.map f := by
  apply List.ext_getElem?
  intro i
  rw [List.getElem?_map, List.getElem?_map]
  by_cases hi : i < xs.length
  · rw [List.getElem?_range hi, List.getElem?_eq_getElem hi]
    exact congrArg some (h i _ (List.getElem?_eq_getElem hi))
  · rw [List.getElem?_eq_none (by simpa using hi), List.getElem?_eq_none (by simpa using hi)]
    rfl

/-! ### walks over lists of data -/
theorem JI.to {iter : Expr} {n m : Nat} {it it' : Nat → Pr} (h : JI g tg iter Γ n it) (e : n = m) (k : ∀ i, i < n → it i = it' i) : JI g tg iter Γ m it' := by
  subst e
  refine ⟨fun w σ B H s pins s1 I => ?_⟩
  refine thn (h.run w σ B H s pins s1 I) fun v s2 h2 => thn h2 fun itv s3 h3 => ?_
  obtain ⟨itA, fp, tn, J, H3, e1, e2, e3, e4, e5, B1, a1, Gw, Y, wk, kg, ky⟩ := h3
  exact ⟨itA, fp, tn, J, H3, e1, e2, e3, e4, e5, B1, a1, Gw, Y, wk, kg, fun i H2 x H3 B2 hi l kk y => by rw [← k i hi]; exact ky i H2 x H3 B2 hi l kk y⟩
/-- the items of xs, one behind another, each r x -/
abbrev JM {α : Type} (g : Gx) (tg iter : Expr) (Γ : Gm) (xs : List α) (r : α → Pr) : Prop := JI g tg iter Γ xs.length (nth (xs.map r))
section
variable {α β : Type} {xs : List α} {ys : List β} {r : α → Pr} {r' : β → Pr}
theorem nth_map {i : Nat} {x : α} (h : xs[i]? = some x) : nth (xs.map r) i = r x := nth_of (by rw [List.getElem?_map, h]; rfl)
theorem m_list (h : JE g e Γ (rLs g.X.K (xs.map r))) : JM g tg e Γ xs r := (i_list h).to (by rw [List.length_map]) fun _ _ => rfl
theorem m_tup (h : JE g e Γ (rTs g.X.K (xs.map r))) : JM g tg e Γ xs r := (i_tup h).to (by rw [List.length_map]) fun _ _ => rfl
theorem m_range1 {j : Int} {p : Pos} (hm : g.X.mg "range" = none) (h1 : -(2 ^ 62) ≤ j) (h2 : j < 2 ^ 62) (h : JE g e Γ (rI j)) (hg : Gl g.X "range" := by rfl) (hs : starEach [e] g.X.env = [(false, eval e g.X.env)] := by rfl) :
    JM g tg (.Call (.Name "range" p) [e] [] pos) Γ (List.range j.toNat) (fun i => rI (i : Int)) :=
  (i_range1 hm h1 h2 h hg hs).to (by rw [List.length_range]) fun i hi => by rw [nth_map (x := i) (by simp [List.getElem?_range hi])]
theorem m_range2 {j k : Int} {p : Pos} (hm : g.X.mg "range" = none) (hb : -(2 ^ 62) ≤ j ∧ j < 2 ^ 62 ∧ -(2 ^ 62) ≤ k ∧ k < 2 ^ 62) (h : JE g e Γ (rI j)) (h' : JE g e1 Γ (rI k)) (hg : Gl g.X "range" := by rfl) (hs : starEach [e, e1] g.X.env = [(false, eval e g.X.env), (false, eval e1 g.X.env)] := by rfl) (hs2 : starEach [e1] g.X.env = [(false, eval e1 g.X.env)] := by rfl) :
    JM g tg (.Call (.Name "range" p) [e, e1] [] pos) Γ (List.range (k - j).toNat) (fun i => rI (j + (i : Int))) :=
  (i_range2 hm hb h h' hg hs hs2).to (by rw [List.length_range]) fun i hi => by rw [nth_map (x := i) (by simp [List.getElem?_range hi])]
theorem m_zipL {elts : List Expr} {kk : Nat} {tpos p : Pos} (hm : g.X.mg "zip" = none) (h : JE g e Γ (rLs g.X.K (xs.map r))) (h' : JE g e1 Γ (rLs g.X.K (ys.map r'))) (hg : Gl g.X "zip" := by rfl) (hs : starEach [e, e1] g.X.env = (false, eval e g.X.env) :: starEach [e1] g.X.env := by rfl) (hs2 : starEach [e1] g.X.env = (false, eval e1 g.X.env) :: starEach [] g.X.env := by rfl) (hpl : (backTo pos (starEach [e1] g.X.env)).any (·.1) = false := by rfl) :
    JM g (.Tuple elts kk tpos) (.Call (.Name "zip" p) [e, e1] [] pos) Γ (xs.zip ys) (fun z => rTs g.X.K [r z.1, r' z.2]) :=
  (i_zipL hm h h' hg hs hs2 hpl).to (by rw [List.length_zip, List.length_map, List.length_map]) fun i hi => by
    rw [List.length_map, List.length_map] at hi
    have h1 : i < xs.length := by omega
    have h2 : i < ys.length := by omega
    rw [nth_map (x := xs[i]) (List.getElem?_eq_getElem h1), nth_map (x := ys[i]) (List.getElem?_eq_getElem h2), nth_map (x := (xs[i], ys[i]))]
    rw [List.getElem?_zip_eq_some]
    exact ⟨List.getElem?_eq_getElem h1, List.getElem?_eq_getElem h2⟩
theorem m_enum {elts : List Expr} {kk : Nat} {tpos p : Pos} (hm : g.X.mg "enumerate" = none) (h : JE g e Γ (rLs g.X.K (xs.map r))) (hg : Gl g.X "enumerate" := by rfl) (hs : starEach [e] g.X.env = [(false, eval e g.X.env)] := by rfl) :
    JM g (.Tuple elts kk tpos) (.Call (.Name "enumerate" p) [e] [] pos) Γ xs.zipIdx (fun z => rTs g.X.K [rI (z.2 : Int), r z.1]) :=
  (i_enum hm h hg hs).to (by rw [List.length_zipIdx, List.length_map]) fun i hi => by
    rw [List.length_map] at hi
    rw [nth_map (x := xs[i]) (List.getElem?_eq_getElem hi), nth_map (x := (xs[i], i))]
    simp [List.getElem?_zipIdx, List.getElem?_eq_getElem hi]
theorem m_rev {p : Pos} (hm : g.X.mg "reversed" = none) (h : JE g e Γ (rLs g.X.K (xs.map r))) (hg : Gl g.X "reversed" := by rfl) (hs : starEach [e] g.X.env = [(false, eval e g.X.env)] := by rfl) :
    JM g tg (.Call (.Name "reversed" p) [e] [] pos) Γ xs.reverse r :=
  (i_rev hm h hg hs).to (by rw [List.length_reverse, List.length_map]) fun i hi => by
    rw [List.length_map] at hi ⊢
    have h2 : xs.length - 1 - i < xs.length := by omega
    rw [nth_map (x := xs[xs.length - 1 - i]) (List.getElem?_eq_getElem h2), nth_map (x := xs[xs.length - 1 - i])]
    rw [List.getElem?_reverse hi, List.getElem?_eq_getElem h2]
/-- a comprehension over them -/
theorem y_lcM {elt iter : Expr} {ifs : List Expr} {scope : Scope} (own : List (Str × Nat)) {Γ2 : α → Gm} (c : α → Bool) (q : α → Pr) {sl : List Nat} (hI : JM g tg iter Γ xs r) (hn : xs.length < sizeLine)
    (hg : AnyB scope g fun g' => ∀ x, x ∈ xs → JG g' tg (r x) (wipeG Γ (own.map (·.2))) (Γ2 x) sl)
    (ht : AnyB scope g fun g' => ∀ x, x ∈ xs → JTs g' ifs (Γ2 x) (c x)) (he : AnyB scope g fun g' => ∀ x, x ∈ xs → c x = true → JE g' elt (Γ2 x) (q x))
    (hsl : ∀ i ∈ sl, i ∈ own.map (·.2) := by decide) (ok : BlkOk g.X.N g.X.env.scope scope own := by exact blkOk_by (by rfl)) (hs : ∀ x, foldedSetIterable iter g.X.env x = pure x := by intro _; rfl) (hcm : g.X.calm = true := by rfl) : JO g (.ListComp elt [⟨tg, iter, ifs, 0⟩] scope pos) Γ (oL ((xs.filter c).map q)) := by
  by_cases hne : xs = []
  · subst hne
    exact y_lc (hcm := hcm) (Γ2 := fun _ => Γ) (sl := sl) own (fun _ => true) (fun _ => rN) hI hn (fun _ _ _ _ _ i hi => absurd hi (Nat.not_lt_zero i)) hsl (fun _ _ _ _ _ i hi => absurd hi (Nat.not_lt_zero i)) (fun _ _ _ _ _ i hi => absurd hi (Nat.not_lt_zero i)) ok hs
  · obtain ⟨d, hd⟩ : ∃ d, d ∈ xs := List.exists_mem_of_ne_nil xs hne
    have mem : ∀ i, i < xs.length → xs.getD i d ∈ xs := fun i hi => by
      rw [List.getD_eq_getElem?_getD, List.getElem?_eq_getElem hi]
      exact List.getElem_mem hi
    have at_ : ∀ i, i < xs.length → xs[i]? = some (xs.getD i d) := fun i hi => by
      rw [List.getD_eq_getElem?_getD, List.getElem?_eq_getElem hi]; rfl
    have z := y_lc (hcm := hcm) (Γ2 := fun i => Γ2 (xs.getD i d)) (sl := sl) own (fun i => c (xs.getD i d)) (fun i => q (xs.getD i d)) hI hn (fun s H C cl fp i hi => by rw [nth_map (at_ i hi)]; exact hg s H C cl fp _ (mem i hi)) hsl (fun s H C cl fp i hi => ht s H C cl fp _ (mem i hi)) (fun s H C cl fp i hi hc => he s H C cl fp _ (mem i hi) hc) ok hs (pos := pos)
    have e : gv xs.length (fun i => c (xs.getD i d)) (fun i => q (xs.getD i d)) = (xs.filter c).map q := by
      have f1 : (List.range xs.length).map (fun i => xs.getD i d) = xs := by
        have := range_map xs d id (fun i => xs.getD i d) (fun i x h => by rw [List.getD_eq_getElem?_getD, h]; rfl)
        rw [this, List.map_id]
      unfold gv
      have f2 : (xs.filter c).map q = (((List.range xs.length).map (fun i => xs.getD i d)).filter c).map q := by rw [f1]
      rw [f2, List.filter_map, List.map_map]
      rfl
    rw [e] at z
    exact z
/-- a for over them: I by the turn's number -/
theorem s_forM {iter : Expr} {body : List Stmt} (I : Nat → Gm) {I2 : Nat → α → Gm} {sl : List Nat} (hI : JM g tg iter Γ xs r) (h0 : GmLe Γ (I 0)) (hg : ∀ i x, xs[i]? = some x → JG g tg (r x) (I i) (I2 i x) sl)
    (hb : ∀ i x, xs[i]? = some x → JS g body (I2 i x) (D.lp g.X rest g.b (I (i + 1)))) (hd : JS g rest (I xs.length) D) (hs : ∀ x, foldedSetIterable iter g.X.env x = pure x := by intro _; rfl) (hcm : g.X.calm = true := by rfl) :
    JS g (.For tg iter body [] pos :: rest) Γ D := by
  by_cases hne : xs = []
  · subst hne
    exact s_for (hcm := hcm) (I2 := fun _ => Γ) (sl := sl) I hI h0 (fun i hi => absurd hi (Nat.not_lt_zero i)) (fun i hi => absurd hi (Nat.not_lt_zero i)) hd hs
  · obtain ⟨d, hd'⟩ : ∃ d, d ∈ xs := List.exists_mem_of_ne_nil xs hne
    have at_ : ∀ i, i < xs.length → xs[i]? = some (xs.getD i d) := fun i hi => by
      rw [List.getD_eq_getElem?_getD, List.getElem?_eq_getElem hi]; rfl
    exact s_for (hcm := hcm) (I2 := fun i => I2 i (xs.getD i d)) (sl := sl) I hI h0 (fun i hi => by rw [nth_map (at_ i hi)]; exact hg i _ (at_ i hi)) (fun i hi => hb i _ (at_ i hi)) hd hs
/-- .. that folds a state -/
theorem s_fold {τ : Type} {iter : Expr} {body : List Stmt} (I : τ → Gm) (f : τ → α → τ) (t0 : τ) {I2 : τ → α → Gm} {sl : List Nat} (hI : JM g tg iter Γ xs r) (h0 : GmLe Γ (I t0)) (hg : ∀ t x, x ∈ xs → JG g tg (r x) (I t) (I2 t x) sl)
    (hb : ∀ t x, x ∈ xs → JS g body (I2 t x) (D.lp g.X rest g.b (I (f t x)))) (hd : JS g rest (I (xs.foldl f t0)) D) (hs : ∀ x, foldedSetIterable iter g.X.env x = pure x := by intro _; rfl) (hcm : g.X.calm = true := by rfl) :
    JS g (.For tg iter body [] pos :: rest) Γ D := by
  have step : ∀ i x, xs[i]? = some x → (xs.take (i + 1)).foldl f t0 = f ((xs.take i).foldl f t0) x := fun i x h => by
    have e : xs.take (i + 1) = xs.take i ++ [x] := by
      rw [List.take_succ, h]; rfl
    rw [e, List.foldl_append]
    rfl
  refine s_forM (hcm := hcm) (I := fun i => I ((xs.take i).foldl f t0)) (I2 := fun i x => I2 ((xs.take i).foldl f t0) x) (sl := sl) hI (by simpa using h0) (fun i x h => hg _ x (List.mem_of_getElem? h)) (fun i x h => ?_) (by rw [List.take_length]; exact hd) hs
  rw [step i x h]
  exact hb _ x (List.mem_of_getElem? h)
end
end
end G
set_option Elab.async false
set_option linter.all false
set_option maxRecDepth 100000
set_option maxHeartbeats 2000000
namespace G
open PySem L2
/-! ### a def -/
def outOf (exc : Addr → Prop) (b : Base) : WX := fun C d _ H => ∃ c, C = .ref c ∧ exc c ∧ ∃ B, Stp b.B b.H B H
def ret (b : Base) (S : Sl) : En := { nx := fun _ _ H => Rt b S .non H, rt := Rt b S }
def entry (ps : List Pr) (n : Nat) : Gm := (ps.map fun P => some (Sl.sh P)) ++ List.replicate (n - ps.length) none
theorem F2.at_map {B : Bs} : ∀ {vs : List V} {rs : List Pr}, F2 B vs rs → ∀ (i : Nat) (r : Pr), rs[i]? = some r → ∃ v, vs[i]? = some v ∧ r.r B v := fun f i r h => f.get h
theorem entry_sta {B : Bs} {H : Hp} {vs : List V} {rs : List Pr} {N : List Str} (k : Ok B H) (f : F2 B vs rs) : Sta ⟨B, H⟩ (entry rs N.length) (L2.start N vs) B H where
  st := Stp.refl k
  env := {
    len := by unfold entry L2.start; simp [f.len]
    sh := fun i r h => by
      unfold entry at h
      by_cases hi : i < rs.length
      · rw [List.getElem?_append_left (by simpa using hi), List.getElem?_map] at h
        cases e : rs[i]? with
        | none => rw [e] at h; cases h
        | some r' =>
          rw [e] at h
          have : r' = r := by simpa using h
          subst this
          obtain ⟨v, e2, q⟩ := f.get e
          refine ⟨v, ?_, q⟩
          unfold L2.start
          rw [List.getElem?_append_left (by rw [List.length_map, f.len]; exact hi), List.getElem?_map, e2]
          rfl
      · rw [List.getElem?_append_right (by simpa using hi)] at h
        have := List.mem_of_getElem? h
        rw [List.mem_replicate] at this
        cases this.2
    ow := fun i c h => by
      unfold entry at h
      by_cases hi : i < rs.length
      · rw [List.getElem?_append_left (by simpa using hi), List.getElem?_map] at h
        cases e : rs[i]? with
        | none => rw [e] at h; cases h
        | some r' => rw [e] at h; cases h
      · rw [List.getElem?_append_right (by simpa using hi)] at h
        have := List.mem_of_getElem? h
        rw [List.mem_replicate] at this
        cases this.2
    dis := fun i j c c' v v' p h => by
      unfold entry at h
      by_cases hi : i < rs.length
      · rw [List.getElem?_append_left (by simpa using hi), List.getElem?_map] at h
        cases e : rs[i]? with
        | none => rw [e] at h; cases h
        | some r' => rw [e] at h; cases h
      · rw [List.getElem?_append_right (by simpa using hi)] at h
        have := List.mem_of_getElem? h
        rw [List.mem_replicate] at this
        cases this.2 }
/-- the context of a def's body -/
abbrev gxOf (U : Uv) (N : List Str) (qual : Str) (scope : Scope) (f : Addr) (cd : Value) (A : Around) (outer : List Env) (s : Shared) (b : Base) (E : XK) (exc : Addr → Prop) (k : Nat) : Gx :=
  ⟨cxOf (L2.CX U.P U.w) U.P U.w U.K U.mg U.base N qual scope f cd A outer s b.H E, b, outOf exc b, k⟩
/-- THE RULE of a def: its body, for each ghost -/
theorem fd_ok {U : Uv} {x name qual : Str} {params : Arguments} {body : List Stmt} {scope : Scope} {f : Addr} {fd : FuncData} {N ps : List Str} {k : Nat} {ι : Type} {φ : ι → Cs} (hx : U.mg x = some (.ref f)) (F : FunD U.K name qual params body scope [] [] f fd) (S : FnScope N ps scope)
    (hb : ∀ (kV doc pm : Value) (an : Option Addr) (cdv ct : Value) (us : List Value), us.length = ps.length → bindArgs (PySem.W.fnOf name qual params body scope .none kV doc pm an cdv ct) ⟨us, []⟩ = pure (ps.zip us))
    (hl : ∀ i, (φ i).as.length = ps.length)
    (hbody : ∀ (i : ι) (cd : Value) (A : Around) (outer : List Env) (s : Shared) (b : Base) (E : XK), (φ i).pre → JS (gxOf U N qual scope f cd A outer s b E (φ i).exc k) body (entry (φ i).as N.length) (ret b ((φ i).rs b))) : Fd U x (k + 1) ps φ := by
  refine ⟨f, fd, hx, F.kp, F.bindsN hb, F.ok S (fun vs H Q E h => ?_) fun cdv A outer s H vs Q E hr h => ?_⟩
  · obtain ⟨i, B, _, _, f2, _⟩ := h
    rw [f2.len, hl]
  · obtain ⟨i, B, pre, ok, f2, kr, kx⟩ := h
    have j := hbody i cdv A outer s ⟨B, H⟩ E pre
    refine ⟨_, pS, ?_⟩
    have w : (gxOf U N qual scope f cdv A outer s ⟨B, H⟩ E (φ i).exc k).Wf := {
      tk := Takes.imp (takes_of (X := cxOf (L2.CX U.P U.w) U.P U.w U.K U.mg U.base N qual scope f cdv A outer s H E) rfl rfl rfl rfl) fun C d σ H' ⟨c, e, z, B', t⟩ => by
        subst e
        exact kx c d B' H' t z
      hr := fun _ => hr
      po := passes_of (X := cxOf (L2.CX U.P U.w) U.P U.w U.K U.mg U.base N qual scope f cdv A outer s H E) rfl
      nd := S.nd
      bok := ok }
    refine (j.run w (L2.start N vs) B H (entry_sta ok f2)).mono ⟨fun σ' H' ⟨B', t, r⟩ => kr _ B' H' t r, fun v H' ⟨B', t, r⟩ => kr v B' H' t r, fun _ _ z => z.elim, fun _ _ z => z.elim⟩
theorem lets_out {U : Uv} {N : List Str} {qual : Str} {scope : Scope} {f : Addr} {cd : Value} {A : Around} {outer : List Env} {s : Shared} {b : Base} {E : XK} {exc exc' : Addr → Prop} {k : Nat} {Γ : Gm} (h : ∀ c, exc' c → exc c) : Lets (gxOf U N qual scope f cd A outer s b E exc k) Γ exc' := fun C d σ B H z st => ⟨C, rfl, h C z, B, st.st⟩
/-- the end of a def: what is returned is what was said -/
theorem rt_ok {b : Base} {S : Sl} : ∀ v H, Rt b S v H → (ret b S).rt v H := fun _ _ h => h
theorem rt_imp {b : Base} {P Q : Pr} (h : ∀ B v, P.r B v → Q.r B v) : ∀ v H, Rt b (.sh P) v H → (ret b (.sh Q)).rt v H := fun v H ⟨B, t, r⟩ => ⟨B, t, h B v r⟩
theorem rt_eq {b : Base} {P Q : Pr} (h : P = Q) : ∀ v H, Rt b (.sh P) v H → (ret b (.sh Q)).rt v H := fun v H ⟨B, t, r⟩ => ⟨B, t, h ▸ r⟩
theorem rt_eqO {b : Base} {P Q : Oc} (h : P = Q) : ∀ v H, Rt b (.ow P) v H → (ret b (.ow Q)).rt v H := fun v H r => h ▸ r

/-! ### built-ins by their names -/
structure Bi (mg : Str → Option Value) : Prop where
  isi : mg "isinstance" = none
  len : mg "len" = none
  all : mg "all" = none
  any : mg "any" = none
  sum : mg "sum" = none
  min : mg "min" = none
  max : mg "max" = none
  range : mg "range" = none
  zip : mg "zip" = none
  enum : mg "enumerate" = none
  rev : mg "reversed" = none
  sorted : mg "sorted" = none
  list : mg "list" = none
  tuple : mg "tuple" = none
  dict : mg "dict" = none
  set : mg "set" = none
  str : mg "str" = none
  int : mg "int" = none
  bool : mg "bool" = none
  abs : mg "abs" = none
  repr : mg "repr" = none
section
variable {g : Gx} {Γ : Gm} {P Q R : Pr} {e e1 e2 : Expr} {pos : Pos} {rs : List Pr}
/-- a value's type -/
def TyP (K : PySem.W.Frag) (P : Pr) (t : String) : Prop := ∀ B H v, Ok B H → P.r B v → TyX K H v (.type t)
theorem ty_I {K : PySem.W.Frag} {i : Int} : TyP K (rI i) "int" := fun B H v k p => by cases p; exact .base (.int i)
theorem ty_B {K : PySem.W.Frag} {i : Bool} : TyP K (rB i) "bool" := fun B H v k p => by cases p; exact .base (.bl i)
theorem ty_S {K : PySem.W.Frag} {i : Str} : TyP K (rS i) "str" := fun B H v k p => by cases p; exact .base (.str i)
theorem ty_N {K : PySem.W.Frag} : TyP K rN "NoneType" := fun B H v k p => by cases p; exact .base .non
theorem ty_L {K : PySem.W.Frag} : TyP K (rLs K rs) "list" := fun B H v k ⟨p, vs, e, a, f⟩ => by subst e; exact .base (.lst (a.at_ k))
theorem ty_T {K : PySem.W.Frag} : TyP K (rTs K rs) "tuple" := fun B H v k ⟨p, vs, e, a, f⟩ => by
  subst e
  rcases a with a | ⟨o, its, n, h, c, _⟩
  · exact .base (.tup ((k.ex _ _ a).hard rfl))
  · exact .kTuple h c
theorem bo_isi : bootBuiltins "isinstance" = some (.builtin "isinstance") := by decide +kernel
/-! the types of built-in values -/
theorem k_int_int : kitB "int" "int" = some true := by decide +kernel
theorem k_int_bool : kitB "int" "bool" = some false := by decide +kernel
theorem k_int_str : kitB "int" "str" = some false := by decide +kernel
theorem k_int_list : kitB "int" "list" = some false := by decide +kernel
theorem k_int_tuple : kitB "int" "tuple" = some false := by decide +kernel
theorem k_int_dict : kitB "int" "dict" = some false := by decide +kernel
theorem k_bool_int : kitB "bool" "int" = some true := by decide +kernel
theorem k_bool_bool : kitB "bool" "bool" = some true := by decide +kernel
theorem k_bool_str : kitB "bool" "str" = some false := by decide +kernel
theorem k_bool_list : kitB "bool" "list" = some false := by decide +kernel
theorem k_bool_tuple : kitB "bool" "tuple" = some false := by decide +kernel
theorem k_bool_dict : kitB "bool" "dict" = some false := by decide +kernel
theorem k_str_int : kitB "str" "int" = some false := by decide +kernel
theorem k_str_bool : kitB "str" "bool" = some false := by decide +kernel
theorem k_str_str : kitB "str" "str" = some true := by decide +kernel
theorem k_str_list : kitB "str" "list" = some false := by decide +kernel
theorem k_str_tuple : kitB "str" "tuple" = some false := by decide +kernel
theorem k_str_dict : kitB "str" "dict" = some false := by decide +kernel
theorem k_NoneType_int : kitB "NoneType" "int" = some false := by decide +kernel
theorem k_NoneType_bool : kitB "NoneType" "bool" = some false := by decide +kernel
theorem k_NoneType_str : kitB "NoneType" "str" = some false := by decide +kernel
theorem k_NoneType_list : kitB "NoneType" "list" = some false := by decide +kernel
theorem k_NoneType_tuple : kitB "NoneType" "tuple" = some false := by decide +kernel
theorem k_NoneType_dict : kitB "NoneType" "dict" = some false := by decide +kernel
theorem k_list_int : kitB "list" "int" = some false := by decide +kernel
theorem k_list_bool : kitB "list" "bool" = some false := by decide +kernel
theorem k_list_str : kitB "list" "str" = some false := by decide +kernel
theorem k_list_list : kitB "list" "list" = some true := by decide +kernel
theorem k_list_tuple : kitB "list" "tuple" = some false := by decide +kernel
theorem k_list_dict : kitB "list" "dict" = some false := by decide +kernel
theorem k_tuple_int : kitB "tuple" "int" = some false := by decide +kernel
theorem k_tuple_bool : kitB "tuple" "bool" = some false := by decide +kernel
theorem k_tuple_str : kitB "tuple" "str" = some false := by decide +kernel
theorem k_tuple_list : kitB "tuple" "list" = some false := by decide +kernel
theorem k_tuple_tuple : kitB "tuple" "tuple" = some true := by decide +kernel
theorem k_tuple_dict : kitB "tuple" "dict" = some false := by decide +kernel
theorem k_dict_int : kitB "dict" "int" = some false := by decide +kernel
theorem k_dict_bool : kitB "dict" "bool" = some false := by decide +kernel
theorem k_dict_str : kitB "dict" "str" = some false := by decide +kernel
theorem k_dict_list : kitB "dict" "list" = some false := by decide +kernel
theorem k_dict_tuple : kitB "dict" "tuple" = some false := by decide +kernel
theorem k_dict_dict : kitB "dict" "dict" = some true := by decide +kernel
theorem k_float_int : kitB "float" "int" = some false := by decide +kernel
theorem k_float_bool : kitB "float" "bool" = some false := by decide +kernel
theorem k_float_str : kitB "float" "str" = some false := by decide +kernel
theorem k_float_list : kitB "float" "list" = some false := by decide +kernel
theorem k_float_tuple : kitB "float" "tuple" = some false := by decide +kernel
theorem k_float_dict : kitB "float" "dict" = some false := by decide +kernel
theorem k_bytes_int : kitB "bytes" "int" = some false := by decide +kernel
theorem k_bytes_bool : kitB "bytes" "bool" = some false := by decide +kernel
theorem k_bytes_str : kitB "bytes" "str" = some false := by decide +kernel
theorem k_bytes_list : kitB "bytes" "list" = some false := by decide +kernel
theorem k_bytes_tuple : kitB "bytes" "tuple" = some false := by decide +kernel
theorem k_bytes_dict : kitB "bytes" "dict" = some false := by decide +kernel
theorem k_set_int : kitB "set" "int" = some false := by decide +kernel
theorem k_set_bool : kitB "set" "bool" = some false := by decide +kernel
theorem k_set_str : kitB "set" "str" = some false := by decide +kernel
theorem k_set_list : kitB "set" "list" = some false := by decide +kernel
theorem k_set_tuple : kitB "set" "tuple" = some false := by decide +kernel
theorem k_set_dict : kitB "set" "dict" = some false := by decide +kernel
theorem bo_int : bootBuiltins "int" = some (.type "int") := by decide +kernel
theorem bo_bool : bootBuiltins "bool" = some (.type "bool") := by decide +kernel
theorem bo_str : bootBuiltins "str" = some (.type "str") := by decide +kernel
theorem bo_dict : bootBuiltins "dict" = some (.type "dict") := by decide +kernel
theorem bo_range : bootBuiltins "range" = some (.type "range") := by decide +kernel
theorem bo_zip : bootBuiltins "zip" = some (.type "zip") := by decide +kernel
theorem bo_set : bootBuiltins "set" = some (.type "set") := by decide +kernel
/-- isinstance(e, T) -/
theorem x_isi {t T : String} {c : Bool} {x : Str} {p p' : Pos} (b : Bi g.X.mg) (hP : TyP g.X.K P t) (hT : g.X.mg x = none) (hv : bootBuiltins x = some (.type T)) (hk : kitB t T = some c) (h : JE g e Γ P) (hg : Gl g.X "isinstance" := by rfl) (hg' : Gl g.X x := by rfl)
    (hn : x ≠ "__name__" := by decide) (hdb : (x == ("__debug__" : Str)) = false := by decide) (hs : starEach [e, .Name x p'] g.X.env = (false, eval e g.X.env) :: starEach [.Name x p'] g.X.env := by rfl) (hs2 : starEach [.Name x p'] g.X.env = (false, eval (.Name x p') g.X.env) :: starEach [] g.X.env := by rfl) (hpl : (backTo pos (starEach [.Name x p'] g.X.env)).any (·.1) = false := by rfl) :
    JE g (.Call (.Name "isinstance" p) [e, .Name x p'] [] pos) Γ (rB c) :=
  x_cb (r := rIsi g.X.K) (Ps := [P, rV (.ty T)]) b.isi (fun _ => call_isi) bo_isi (fun B H vs K k f q => by
    obtain ⟨v, u, rfl, h1, h2⟩ := f.two
    refine ⟨v, u, .type t, .type T, c, rfl, ?_, hP B H v k h1, kit_ty hk, q _ B H (Stp.refl k) rfl⟩
    cases h2
    exact .ty T) (a_cons h (a_cons (x_c (pe_bltn (v := .ty T) hg' hT hv rfl hn hdb)) a_nil hs2) hs) hg (by decide) (by decide) hs hpl
/-- isinstance(e, (T1, T2)) -/
theorem x_isi2 {t T T' : String} {c c' : Bool} {x y : Str} {p px py pt : Pos} {kk : Nat} (b : Bi g.X.mg) (hP : TyP g.X.K P t) (hT : g.X.mg x = none) (hT' : g.X.mg y = none) (hv : bootBuiltins x = some (.type T)) (hv' : bootBuiltins y = some (.type T')) (hk : kitB t T = some c) (hk' : kitB t T' = some c') (h : JE g e Γ P) (hg : Gl g.X "isinstance" := by rfl) (hgx : Gl g.X x := by rfl) (hgy : Gl g.X y := by rfl)
    (hn : x ≠ "__name__" := by decide) (hdb : (x == ("__debug__" : Str)) = false := by decide) (hn' : y ≠ "__name__" := by decide) (hdb' : (y == ("__debug__" : Str)) = false := by decide) (hs : starEach [e, .Tuple [.Name x px, .Name y py] kk pt] g.X.env = (false, eval e g.X.env) :: starEach [.Tuple [.Name x px, .Name y py] kk pt] g.X.env := by rfl) :
    JE g (.Call (.Name "isinstance" p) [e, .Tuple [.Name x px, .Name y py] kk pt] [] pos) Γ (rB (c || c')) :=
  ⟨fun w σ B H s => ofE (pe_callB call_isiT hg b.isi bo_isi (pa_cons pE (pa_cons (pe_tup (pa_cons (pe_bltn (v := .ty T) hgx hT hv rfl hn hdb) (pa_cons (pe_bltn (v := .ty T') hgy hT' hv' rfl hn' hdb') pa_nil))) pa_nil) hs) (by decide) (by decide) hs rfl) ((h.run w σ B H s).mono fun v H1 ⟨B1, a1, p1⟩ => by
    refine ⟨(by show 2 ≤ sizeLine; decide), fun q hq => ?_⟩
    have a2 := a1.sta.lay (u := .tup [.ty T, .ty T']) hq
    refine ⟨v, q, [.ty T, .ty T'], .type t, [.type T, .type T'], c || c', rfl, upd_same, .cons (.ty T) (.cons (.ty T') .nil), hP _ _ v a2.sta.st.ok (P.mono _ _ _ a2.le p1), ?_, _, a1.trans a2, rfl⟩
    refine kitAny_cons (kit_ty hk) (fun e => ?_) (fun e => by rw [e]; rfl)
    rw [e, Bool.false_or]
    refine kitAny_cons (kit_ty hk') (fun e => by rw [e]; rfl) (fun e => e))⟩
theorem F2.bools {B : Bs} : ∀ {vs : List V} {bs : List Bool}, F2 B vs (bs.map rB) → vs = bs.map V.bl
  | [], [], _ => rfl
  | v :: vs, b :: bs, h => by
    have e : v = V.bl b := h.1
    rw [e, F2.bools (vs := vs) (bs := bs) h.2]
    rfl
  | [], _ :: _, h => h.elim
  | _ :: _, [], h => h.elim
theorem F2.ints {B : Bs} : ∀ {vs : List V} {bs : List Int}, F2 B vs (bs.map rI) → vs = bs.map V.int
  | [], [], _ => rfl
  | v :: vs, b :: bs, h => by
    have e : v = V.int b := h.1
    rw [e, F2.ints (vs := vs) (bs := bs) h.2]
    rfl
  | [], _ :: _, h => h.elim
  | _ :: _, [], h => h.elim
theorem bo_all : bootBuiltins "all" = some (.builtin "all") := by decide +kernel
theorem bo_any : bootBuiltins "any" = some (.builtin "any") := by decide +kernel
theorem bo_sum : bootBuiltins "sum" = some (.builtin "sum") := by decide +kernel
theorem x_all {bs : List Bool} {p : Pos} (b : Bi g.X.mg) (h : JE g e Γ (rLs g.X.K (bs.map rB))) (hg : Gl g.X "all" := by rfl) (he : starEach [e] g.X.env = (false, eval e g.X.env) :: starEach [] g.X.env := by rfl) (hcm : g.X.calm = true := by rfl) : JE g (.Call (.Name "all" p) [e] [] pos) Γ (rB (bs.all id)) :=
  x_cb (r := rAll g.X.K) b.all (fun w => cr_all hcm) bo_all (fun B H vs K k f q => by
    obtain ⟨v, rfl, p, ws, e, a, f1⟩ := f.one
    exact ⟨p, bs, by rw [e], by rw [← f1.bools]; exact a.sq k, q _ B H (Stp.refl k) rfl⟩) (a_cons h a_nil he) hg (by decide) (by decide) he rfl
theorem x_any {bs : List Bool} {p : Pos} (b : Bi g.X.mg) (h : JE g e Γ (rLs g.X.K (bs.map rB))) (hg : Gl g.X "any" := by rfl) (he : starEach [e] g.X.env = (false, eval e g.X.env) :: starEach [] g.X.env := by rfl) (hcm : g.X.calm = true := by rfl) : JE g (.Call (.Name "any" p) [e] [] pos) Γ (rB (bs.any id)) :=
  x_cb (r := rAny g.X.K) b.any (fun w => cr_any hcm) bo_any (fun B H vs K k f q => by
    obtain ⟨v, rfl, p, ws, e, a, f1⟩ := f.one
    exact ⟨p, bs, by rw [e], by rw [← f1.bools]; exact a.sq k, q _ B H (Stp.refl k) rfl⟩) (a_cons h a_nil he) hg (by decide) (by decide) he rfl
theorem x_sum {bs : List Int} {p : Pos} (b : Bi g.X.mg) (h : JE g e Γ (rLs g.X.K (bs.map rI))) (hg : Gl g.X "sum" := by rfl) (he : starEach [e] g.X.env = (false, eval e g.X.env) :: starEach [] g.X.env := by rfl) (hcm : g.X.calm = true := by rfl) : JE g (.Call (.Name "sum" p) [e] [] pos) Γ (rI bs.sum) :=
  x_cb (r := rSum g.X.K) b.sum (fun w => cr_sum hcm) bo_sum (fun B H vs K k f q => by
    obtain ⟨v, rfl, p, ws, e, a, f1⟩ := f.one
    exact ⟨p, bs, by rw [e], by rw [← f1.ints]; exact a.sq k, q _ B H (Stp.refl k) rfl⟩) (a_cons h a_nil he) hg (by decide) (by decide) he rfl
end
end G
set_option Elab.async false
set_option linter.all false
set_option maxRecDepth 100000
set_option maxHeartbeats 2000000
namespace G
open PySem L2
/-- an own class of errors over ValueError -/
structure Xc (K : PySem.W.Frag) (mg : Str → Option Value) (x : Str) (C : Addr) : Prop where
  ex : PySem.W.excIn K C He.veBase "ValueError.__new__" = true
  kp : PySem.W.keepIn K (.ref C) = true
  sub : PySem.W.subIn K (.ref C) (.type "BaseException") = some true
  ty : PySem.W.typeIn K (.ref C) = some (.type "type")
  gl : mg x = some (.ref C)
section
variable {g : Gx} {Γ : Gm} {P Q R : Pr} {e e1 e2 : Expr} {pos : Pos} {rs : List Pr} {D : En} {rest : List Stmt}
theorem s_raise {x m : Str} {C : Addr} {j : Nat} {p p2 pos' : Pos} (X : Xc g.X.K g.X.mg x C) (hx : Lets g Γ (fun c => c = C)) (hg : Gl g.X x := by rfl) (hdb : (x == ("__debug__" : Str)) = false := by decide) (hs : starEach [.Constant (.str m) j p2] g.X.env = [(false, eval (.Constant (.str m) j p2) g.X.env)] := by rfl) (hcm : g.X.calm = true := by rfl) : JS g (.Raise (some (.Call (.Name x p) [.Constant (.str m) j p2] [] pos')) none pos :: rest) Γ D :=
  js_cons fun w σ B H s => of1 (ps_raise hcm w.tk (pmk_own PySem.F.excBase_ValueError X.ex X.gl X.kp (raises_own X.sub X.ty) hg hdb)) (hx C none σ B H rfl s)
end
end G
set_option Elab.async false
set_option linter.all false
set_option maxRecDepth 100000
set_option maxHeartbeats 2000000
namespace G
open PySem L2
/-! ### own: a list of own lists -/
/-- the values are lists of these -/
def RowsOk (B : Bs) (H : Hp) : List V → List (List Pr) → Prop
  | [], [] => True
  | v :: vs, rs :: rss => (∃ a ws, v = .ref a ∧ H a = some (.lst ws) ∧ F2 B ws rs) ∧ RowsOk B H vs rss
  | _, _ => False
theorem RowsOk.mono {B B' : Bs} {H : Hp} (l : Le B B') : ∀ {vs : List V} {rss : List (List Pr)}, RowsOk B H vs rss → RowsOk B' H vs rss
  | [], [], _ => trivial
  | _ :: _, _ :: _, h => ⟨let ⟨a, ws, e, q, f⟩ := h.1; ⟨a, ws, e, q, f.mono l⟩, RowsOk.mono l h.2⟩
  | [], _ :: _, h => h.elim
  | _ :: _, [], h => h.elim
theorem RowsOk.len {B : Bs} {H : Hp} : ∀ {vs : List V} {rss : List (List Pr)}, RowsOk B H vs rss → vs.length = rss.length
  | [], [], _ => rfl
  | _ :: _, _ :: _, h => congrArg (· + 1) (RowsOk.len h.2)
  | [], _ :: _, h => h.elim
  | _ :: _, [], h => h.elim
theorem RowsOk.agree {B : Bs} {H H' : Hp} : ∀ {vs : List V} {rss : List (List Pr)}, (∀ a ∈ vs.flatMap one, H' a = H a) → RowsOk B H vs rss → RowsOk B H' vs rss
  | [], [], _, _ => trivial
  | v :: vs, _ :: _, g, h => ⟨let ⟨a, ws, e, q, f⟩ := h.1; ⟨a, ws, e, by rw [g a (by rw [List.flatMap_cons, e]; simp [one])]; exact q, f⟩, RowsOk.agree (fun a m => g a (by rw [List.flatMap_cons]; exact List.mem_append_right _ m)) h.2⟩
  | [], _ :: _, _, h => h.elim
  | _ :: _, [], _, h => h.elim
theorem RowsOk.append {B : Bs} {H : Hp} : ∀ {vs us : List V} {rss qss : List (List Pr)}, RowsOk B H vs rss → RowsOk B H us qss → RowsOk B H (vs ++ us) (rss ++ qss)
  | [], _, [], _, _, h => h
  | _ :: _, _, _ :: _, _, h, k => ⟨h.1, RowsOk.append h.2 k⟩
  | [], _, _ :: _, _, h, _ => h.elim
  | _ :: _, _, [], _, h, _ => h.elim
def adLL (v : V) (H : Hp) : List Addr := match v with
  | .ref p => p :: (match H p with
    | some (.lst vs) => vs.flatMap one
    | _ => [])
  | _ => []
theorem adLL_at {p : Addr} {H : Hp} {vs : List V} (h : H p = some (.lst vs)) : adLL (.ref p) H = p :: vs.flatMap one := by unfold adLL; simp only [h]
theorem adLL_agree {v : V} {H H' : Hp} (g : ∀ a ∈ adLL v H, H' a = H a) : adLL v H' = adLL v H := by
  cases v with
  | ref p =>
    have e : H' p = H p := g p (by unfold adLL; exact List.mem_cons_self ..)
    unfold adLL
    simp only [e]
  | _ => rfl
def oLL (rss : List (List Pr)) : Oc where
  ad := adLL
  r := fun B H v => ∃ p vs, v = .ref p ∧ H p = some (.lst vs) ∧ p ∉ vs.flatMap one ∧ RowsOk B H vs rss
  mono := fun _ _ _ _ l ⟨p, vs, e, h, n, k⟩ => ⟨p, vs, e, h, n, k.mono l⟩
  ast := fun _ _ _ g => adLL_agree g
  rst := fun B H H' v g ⟨p, vs, e, h, n, k⟩ => by
    subst e
    rw [adLL_at h] at g
    exact ⟨p, vs, rfl, by rw [g p (List.mem_cons_self ..)]; exact h, n, k.agree fun a m => g a (List.mem_cons_of_mem _ m)⟩
/-- laid on the ground it is a list of lists -/
theorem fz_oLL {K : PySem.W.Frag} {rss : List (List Pr)} : ∀ B H v, (∀ a ∈ (oLL rss).ad v H, B a = none) → (oLL rss).r B H v → (rLs K (rss.map (rLs K))).r (putH B H ((oLL rss).ad v H)) v := fun B H v nb ⟨p, vs, e, hp, n, k⟩ => by
  subst e
  have ea : (oLL rss).ad (.ref p) H = p :: vs.flatMap one := adLL_at hp
  rw [ea] at nb ⊢
  refine ⟨p, vs, rfl, putH_in (List.mem_cons_self ..) hp, ?_⟩
  have l : Le B (putH B H (p :: vs.flatMap one)) := Le.putH nb
  have key : ∀ (us : List V) (qss : List (List Pr)), (∀ a ∈ us.flatMap one, a ∈ p :: vs.flatMap one) → RowsOk B H us qss → F2 (putH B H (p :: vs.flatMap one)) us (qss.map (rLs K)) := by
    intro us
    induction us with
    | nil =>
      intro qss _ h
      cases qss with
      | nil => exact trivial
      | cons _ _ => exact h.elim
    | cons u us ih =>
      intro qss g h
      cases qss with
      | nil => exact h.elim
      | cons q qss =>
        obtain ⟨⟨a, ws, e, hq, f⟩, h2⟩ := h
        refine ⟨⟨a, ws, e, putH_in (g a (by rw [List.flatMap_cons, e]; simp [one])) hq, f.mono l⟩, ih qss (fun a m => g a (by rw [List.flatMap_cons]; exact List.mem_append_right _ m)) h2⟩
  exact key vs rss (fun a m => List.mem_cons_of_mem _ m) k
section
variable {g : Gx} {Γ : Gm} {P Q R : Pr} {e e1 e2 tg : Expr} {pos p2 : Pos} {D : En} {st : Stmt} {ss rest : List Stmt} {rs qs : List Pr}
theorem free_F2 {B B' : Bs} : ∀ {vs : List V} {rs : List Pr}, (∀ r ∈ rs, Free r) → F2 B vs rs → F2 B' vs rs
  | [], [], _, _ => trivial
  | _ :: _, r :: _, h, k => ⟨h r (List.mem_cons_self ..) _ _ _ k.1, free_F2 (fun q m => h q (List.mem_cons_of_mem _ m)) k.2⟩
  | [], _ :: _, _, h => h.elim
  | _ :: _, [], _, h => h.elim
/-- objects that are new since the entry are taken back from the ground -/
theorem Stp.back {b : Base} {B : Bs} {H : Hp} {as : List Addr} (s : Stp b.B b.H B H) (n : ∀ a ∈ as, b.B a = none) : Stp b.B b.H (delL B as) H where
  le := fun x k e => by
    have ne : x ∉ as := fun m => by rw [n x m] at e; cases e
    unfold delL; rw [if_neg ne]; exact s.le x k e
  ok := ⟨fun x u e => by
      unfold delL at e
      by_cases q : x ∈ as
      · rw [if_pos q] at e; cases e
      · rw [if_neg q] at e; exact s.ok.ex x u e, fun x φ e => by
      unfold delL at e
      by_cases q : x ∈ as
      · rw [if_pos q] at e; cases e
      · rw [if_neg q] at e; exact s.ok.iv x φ e⟩
  keep := s.keep
  there := s.there
  new := fun x n1 k n2 => by
    refine s.new x n1 k ?_
    unfold delL at n2
    by_cases q : x ∈ as
    · rw [if_pos q] at n2; cases n2
    · rw [if_neg q] at n2; exact n2
/-- a list of lists that are all new since the entry may be handed back as one's own -/
theorem rt_own {b : Base} {rss : List (List Pr)} (hf : ∀ rs ∈ rss, ∀ r ∈ rs, Free r) : ∀ v H, Ok b.B b.H → Rt b (.ow (oL (rss.map (rLf b)))) v H → Rt b (.ow (oLL rss)) v H := fun v H ob ⟨B, t, o⟩ => by
  obtain ⟨p, vs, e, nb, nh, hp, f⟩ := own_one (b := b) o
  subst e
  have key : ∀ (us : List V) (qss : List (List Pr)), (∀ rs ∈ qss, ∀ r ∈ rs, Free r) → F2 B us (qss.map (rLf b)) → (∀ a ∈ us.flatMap one, b.H a = none ∧ (∃ ws, B a = some (.ex (.lst ws)))) ∧ ∀ B', RowsOk B' H us qss := by
    intro us
    induction us with
    | nil =>
      intro qss _ h
      cases qss with
      | nil => exact ⟨fun a m => (by cases m), fun _ => trivial⟩
      | cons _ _ => exact h.elim
    | cons u us ih =>
      intro qss g h
      cases qss with
      | nil => exact h.elim
      | cons q qss =>
        obtain ⟨⟨a, ws, e, hn, hB, hq⟩, h2⟩ := h
        obtain ⟨i1, i2⟩ := ih qss (fun rs m => g rs (List.mem_cons_of_mem _ m)) h2
        refine ⟨fun x m => ?_, fun B' => ⟨⟨a, ws, e, (t.ok.ex a _ hB).hard rfl, free_F2 (g q (List.mem_cons_self ..)) hq⟩, i2 B'⟩⟩
        rw [List.flatMap_cons, e] at m
        rcases List.mem_append.mp m with m | m
        · rw [mem_one.mp m]; exact ⟨hn, ws, hB⟩
        · exact i1 x m
  obtain ⟨k1, k2⟩ := key vs rss hf f
  have np : p ∉ vs.flatMap one := fun m => by
    obtain ⟨_, ws, z⟩ := k1 p m
    rw [nb] at z; cases z
  have ea : (oLL rss).ad (.ref p) H = p :: vs.flatMap one := adLL_at hp
  refine ⟨delL B (vs.flatMap one), t.back fun a m => ob.none (k1 a m).1, fun a ha => ?_, fun a ha => ?_, fun a ha => ?_, p, vs, rfl, hp, np, k2 _⟩
  · rw [ea] at ha
    unfold delL
    rcases List.mem_cons.mp ha with e | m
    · subst e; rw [if_neg np]; exact nb
    · rw [if_pos m]
  · rw [ea] at ha
    rcases List.mem_cons.mp ha with e | m
    · subst e; exact nh
    · exact (k1 a m).1
  · rw [ea] at ha
    rcases List.mem_cons.mp ha with e | m
    · subst e; rw [hp]; exact hard_lst
    · obtain ⟨_, ws, z⟩ := k1 a m
      rw [(t.ok.ex a _ z).hard rfl]; exact hard_lst

/-! ### a comprehension that gives new lists -/
theorem y_lcO {elt iter : Expr} {scope : Scope} (own : List (Str × Nat)) {n : Nat} {it : Nat → Pr} {Γ2 : Nat → Gm} (q : Nat → List Pr) {sl : List Nat} (hI : JI g tg iter Γ n it) (hn : n < sizeLine)
    (hg : AnyB scope g fun g' => ∀ i, i < n → JG g' tg (it i) (wipeG Γ (own.map (·.2))) (Γ2 i) sl) (he : AnyB scope g fun g' => ∀ i, i < n → JO g' elt (Γ2 i) (oL (q i)))
    (hsl : ∀ i ∈ sl, i ∈ own.map (·.2) := by decide) (ok : BlkOk g.X.N g.X.env.scope scope own := by exact blkOk_by (by rfl)) (hs : ∀ x, foldedSetIterable iter g.X.env x = pure x := by intro _; rfl) (hcm : g.X.calm = true := by rfl) : JO g (.ListComp elt [⟨tg, iter, [], 0⟩] scope pos) Γ (oLL ((List.range n).map q)) := by
  refine ⟨fun w σ B H s => ?_⟩
  refine ofE (pe_lc (own := own) (wi := tI g.X tg iter) (g := bG g scope tg) (tt := tYes) (te := bE g scope elt)
    hcm w.nd pI ok (fun s0 H0 C cl fp => ⟨fun pins s σ H v u Q I r h => h s0 H0 C cl fp pins s u I r⟩) (fun s0 H0 C cl fp => pts_nil) (fun s0 H0 C cl fp => ⟨fun pins s σ H Q I h => h s0 H0 C cl fp pins s I⟩) hs) ?_
  intro pins s1 I1
  refine thn (hI.run w σ B H s pins s1 I1) fun v s2 h2 => thn h2 fun itv s3 h3 => ?_
  obtain ⟨itA, fp, tn, J, H3, e1, e2, e3, e4, e5, B1, a1, Gw, Y, wk, kg, ky⟩ := h3
  refine ⟨itA, fp, tn, J, H3, e1, e2, e3, e4, e5, fun Dl hD => ?_⟩
  have hDn : H Dl = none := a1.th hD
  have agr : ∀ {B' B2 : Bs} {H' H2 : Hp} {as : List Addr}, Stp B' H' B2 H2 → (∀ a ∈ as, B' a = none) → (∀ a ∈ as, Hard (H' a)) → (∀ a ∈ as, H2 a = H' a) ∧ ∀ a ∈ as, B2 a = none := fun {B' B2 H' H2 as} t nB nH => by
    refine ⟨fun a m => ?_, fun a m => ?_⟩
    · cases e : H' a with
      | none => exact absurd e (nH a m).ne
      | some o => exact t.keep a o e fun φ z => by rw [nB a m] at z; cases z
    · cases z : B2 a with
      | none => rfl
      | some k => exact ((nH a m).no (t.new a (nB a m) k z)).elim
  refine lc_it (g := bG g scope tg) (tt := tYes) (te := bE g scope elt) (vs := own.map (·.2)) (σ := σ) (H1 := H3) (D := Dl) (Qd := fun H' => ∃ B', Aft g.b Γ σ B H B' H' ∧ Own g.b (oLL ((List.range n).map q)) (.ref Dl) B' H' ∧ ∀ a ∈ (oLL ((List.range n).map q)).ad (.ref Dl) H', H a = none)
    wk (fun i H' => ∃ B' acc, Stp B H B' H' ∧ Le B1 B' ∧ (∀ a ∈ Dl :: acc.flatMap one, B' a = none) ∧ (∀ a ∈ Dl :: acc.flatMap one, Hard (H' a)) ∧ (∀ a ∈ Dl :: acc.flatMap one, H a = none) ∧ H' Dl = some (.lst acc) ∧ Dl ∉ acc.flatMap one ∧ RowsOk B' H' acc ((List.range i).map q)) ?_ (fun i H' hi ⟨B', acc, t, l, _⟩ => kg B' H' l t.ok) ?_ ?_
  · refine ⟨B1, [], (a1.trans (a1.sta.beside hD)).t, Le.refl _, fun a m => ?_, fun a m => ?_, fun a m => ?_, upd_same, by simp, trivial⟩
    · have e : a = Dl := by simpa using m
      rw [e]; exact a1.sta.st.ok.none hD
    · have e : a = Dl := by simpa using m
      rw [e, upd_same]; exact hard_lst
    · have e : a = Dl := by simpa using m
      rw [e]; exact hDn
  · intro i x H' H'' hi ⟨B', acc, t, l, nB, nH, nH0, hacc, nD, f⟩ y
    obtain ⟨B2, t2, p⟩ := ky i H' x H'' B' hi l t.ok y
    obtain ⟨ag2, nB2⟩ := agr t2 nB nH
    have sw := ((s.step (t.trans t2)).sta).wipe (own.map (·.2))
    intro s0 H0 C cl fp'
    refine (hg s0 H0 C cl fp' i hi).run w.blk _ B2 H'' x sw p _ fun σ2 s4 hw => ?_
    refine ⟨by rw [hw (own.map (·.2)) hsl]; exact wipe_wipe σ _, ?_⟩
    simp only [tYes, if_true]
    intro s0 H0 C cl fp'
    refine ((he s0 H0 C cl fp' i hi).run w.blk σ2 B2 H'' s4).mono fun y H6 ⟨B6, a6, oy, ny⟩ => ?_
    obtain ⟨py, ws, ey, nby, nhy, hpy, fy⟩ := own_one oy
    subst ey
    have nH2 : ∀ a ∈ Dl :: acc.flatMap one, Hard (H'' a) := fun a m => by rw [ag2 a m]; exact nH a m
    obtain ⟨ag6, nB6⟩ := agr a6.t nB2 nH2
    have nH6 : ∀ a ∈ Dl :: acc.flatMap one, Hard (H6 a) := fun a m => by rw [ag6 a m]; exact nH2 a m
    have hacc6 : H6 Dl = some (.lst acc) := by rw [ag6 Dl (List.mem_cons_self ..), ag2 Dl (List.mem_cons_self ..)]; exact hacc
    have fy0 : H'' py = none := ny py (mem_one.mpr rfl)
    have pD : py ≠ Dl := by
      rintro rfl
      exact (nH2 _ (List.mem_cons_self ..)).ne fy0
    have py0 : H py = none := by
      have tt := t.trans t2
      exact tt.bnone fy0
    refine ⟨acc, hacc6, ?_, B6, acc ++ [.ref py], ((t.trans t2).trans a6.t).chg' (nB6 Dl (List.mem_cons_self ..)) hDn, l.trans (t2.le.trans a6.le), fun a m => ?_, fun a m => ?_, fun a m => ?_, upd_same, ?_, ?_⟩
    · rw [f.len, List.length_map, List.length_range]; exact Nat.lt_trans hi hn
    · rcases List.mem_cons.mp m with e | m
      · rw [e]; exact nB6 Dl (List.mem_cons_self ..)
      · rw [List.flatMap_append] at m
        rcases List.mem_append.mp m with m | m
        · exact nB6 a (List.mem_cons_of_mem _ m)
        · have e : a = py := by simpa [one] using m
          rw [e]; exact nby
    · by_cases q : a = Dl
      · subst q; rw [upd_same]; exact hard_lst
      · rw [upd_ne q]
        rcases List.mem_cons.mp m with e | m
        · exact absurd e q
        · rw [List.flatMap_append] at m
          rcases List.mem_append.mp m with m | m
          · exact nH6 a (List.mem_cons_of_mem _ m)
          · have e : a = py := by simpa [one] using m
            rw [e, hpy]; exact hard_lst
    · rcases List.mem_cons.mp m with e | m
      · rw [e]; exact hDn
      · rw [List.flatMap_append] at m
        rcases List.mem_append.mp m with m | m
        · exact nH0 a (List.mem_cons_of_mem _ m)
        · have e : a = py := by simpa [one] using m
          rw [e]; exact py0
    · rw [List.flatMap_append]
      intro m
      rcases List.mem_append.mp m with m | m
      · exact nD m
      · have e : Dl = py := by simpa [one] using m
        exact pD e.symm
    · rw [List.range_succ, List.map_append]
      refine RowsOk.append ?_ ⟨⟨py, ws, rfl, by rw [upd_ne pD]; exact hpy, fy⟩, trivial⟩
      refine RowsOk.agree (H := H') (fun a m => ?_) (f.mono (t2.le.trans a6.le))
      have ne : a ≠ Dl := fun e => nD (e ▸ m)
      rw [upd_ne ne, ag6 a (List.mem_cons_of_mem _ m), ag2 a (List.mem_cons_of_mem _ m)]
  · intro H' ⟨B', acc, t, l, nB, nH, nH0, hacc, nD, f⟩
    have ea : (oLL ((List.range n).map q)).ad (.ref Dl) H' = Dl :: acc.flatMap one := adLL_at hacc
    exact ⟨B', s.step t, ⟨fun a m => nB a (ea ▸ m), fun a m => s.st.bnone (nH0 a (ea ▸ m)), fun a m => nH a (ea ▸ m), Dl, acc, rfl, hacc, nD, f⟩, fun a m => nH0 a (ea ▸ m)⟩

/-- an expression that is the constant v -/
structure AnyX (g : Gx) (e : Expr) (v : V) : Prop where
  pe : PE g.X e (tC v)
/-! ### what was told is spoiled -/
theorem Sta.setN {b : Base} {σ : L2.St} {B : Bs} {H : Hp} {j : Nat} {v : V} (s : Sta b Γ σ B H) : Sta b (Γ.set j none) (σ.set j (some v)) B H where
  st := s.st
  env := {
    len := by rw [List.length_set, List.length_set]; exact s.env.len
    sh := fun i r e => by
      rcases set_get e with ⟨q, z⟩ | ⟨q, z⟩
      · cases z
      · obtain ⟨u, a, c⟩ := s.env.sh i r z
        exact ⟨u, by rw [List.getElem?_set_ne q]; exact a, c⟩
    ow := fun i c e => by
      rcases set_get e with ⟨q, z⟩ | ⟨q, z⟩
      · cases z
      · obtain ⟨u, a, c⟩ := s.env.ow i c z
        exact ⟨u, by rw [List.getElem?_set_ne q]; exact a, c⟩
    dis := fun i l c c' v1 v2 p h1 h2 h3 h4 => by
      rcases set_get h1 with ⟨q1, z1⟩ | ⟨q1, z1⟩
      · cases z1
      · rcases set_get h2 with ⟨q2, z2⟩ | ⟨q2, z2⟩
        · cases z2
        · rw [List.getElem?_set_ne q1] at h3
          rw [List.getElem?_set_ne q2] at h4
          exact s.env.dis i l c c' v1 v2 p z1 z2 h3 h4 }
/-- some list of these values, each a list of at most m things -/
def oJ2 (vs : List V) (m : Nat) : Oc where
  ad := fun v _ => one v ++ vs.flatMap one
  r := fun B H v => ∃ p, v = .ref p ∧ H p = some (.lst vs) ∧ p ∉ vs.flatMap one ∧ ∀ x ∈ vs, ∃ a ws, x = .ref a ∧ H a = some (.lst ws) ∧ ws.length ≤ m
  mono := fun _ _ _ _ _ h => h
  ast := fun _ _ _ _ => rfl
  rst := fun B H H' v g ⟨p, e, h, n, k⟩ => by
    subst e
    refine ⟨p, rfl, by rw [g p (List.mem_append_left _ (mem_one.mpr rfl))]; exact h, n, fun x hx => ?_⟩
    obtain ⟨a, ws, e, q, l⟩ := k x hx
    have ma : a ∈ vs.flatMap one := by
      rw [List.mem_flatMap]
      exact ⟨x, hx, by rw [e]; exact mem_one.mpr rfl⟩
    exact ⟨a, ws, e, by rw [g a (List.mem_append_right _ ma)]; exact q, l⟩
/-- some list of at most n things -/
def oJ (n : Nat) : Oc where
  ad := fun v _ => one v
  r := fun B H v => ∃ p vs, v = .ref p ∧ H p = some (.lst vs) ∧ vs.length ≤ n
  mono := fun _ _ _ _ _ h => h
  ast := fun _ _ _ _ => rfl
  rst := fun B H H' v g ⟨p, vs, e, h, n⟩ => by
    subst e
    exact ⟨p, vs, rfl, by rw [g p (mem_one.mpr rfl)]; exact h, n⟩
theorem s_spoil (i j : Nat) {rss : List (List Pr)} {m : Nat} {x y : Str} {v : V} {px py py2 apos cpos epos : Pos} (he : AnyX g e v) (hm : ∀ rs ∈ rss, rs.length ≤ m) (hz : m + rss.length < sizeLine)
    (k : JS g rest ((Γ.set j none).set i (some (.ow (oJ rss.length)))) D) (hij : i ≠ j) (hjl : j < Γ.length := by exact Nat.le_of_ble_eq_true rfl) (hi : Γ[i]? = some (some (.ow (oLL rss))) := by rfl) (hN : g.X.N[i]? = some x := by rfl) (hv : Vis g.X.env.scope x := by first | exact Or.inl rfl | exact Or.inr (Or.inl rfl) | exact Or.inr (Or.inr rfl))
    (hNy : g.X.N[j]? = some y := by rfl) (hly : Loc g.X.env.scope y := by first | exact Or.inl rfl | exact Or.inr rfl) (hfy : g.X.fn y = true ∨ g.X.env.scope.names.lookup y = some .local := by first | exact .inl rfl | exact .inr rfl)
    (hd : (x == ("__debug__" : Str)) = false := by decide) (hcd : (x == ("__classdict__" : Str)) = false := by decide) (hd' : (y == ("__debug__" : Str)) = false := by decide) (hcd' : (y == ("__classdict__" : Str)) = false := by decide) (hline : (apos.endLine == cpos.line) = true := by rfl)
    (hfew : ((backTo cpos (starEach [e] g.X.env)).all (fun x => !x.1) && (backToKw cpos (keywordEach [] g.X.env)).all (fun x => x.1.isSome) && decide ([e].length + ([] : List Keyword).length + (if ([] : List Keyword).isEmpty then 0 else 1) < 30)) = true := by rfl)
    (hst : starEach [e] g.X.env = (false, eval e g.X.env) :: starEach [] g.X.env := by rfl) (hs : swapsWith (.Call (.Attribute (.Name y py2) "append" apos) [e] [] cpos) none epos.line g.X.env = pure false := by rfl) (hcm : g.X.calm = true := by rfl) :
    JS g (.For (.Name y py) (.Name x px) [.Expr (.Call (.Attribute (.Name y py2) "append" apos) [e] [] cpos) epos] [] pos :: rest) Γ D := by
  obtain ⟨hpe⟩ := he
  refine js_cons fun w σ B H s => of1 (ps_for w.po hcm (pi_list (pe_var hN hv hd hcd)) (pg_name w.nd hNy hly hfy) (pss_one (ps_expr (pe_bm PySem.F.plainAttrs_list PySem.F.slot_list_append PySem.F.type_list_append mt_append (pe_var hNy (hly.elim Or.inl fun z => Or.inr (Or.inl z)) hd' hcd') (pa_cons hpe pa_nil hst) (by rfl) hfew hline hst rfl) hs)) (by intro _; rfl)) ?_
  obtain ⟨v0, ev, o⟩ := s.env.ow i _ hi
  obtain ⟨p, vs, e0, hp, np, rk⟩ := o.at_
  subst e0
  have hlen : vs.length = rss.length := rk.len
  have rows : ∀ (us : List V) (qss : List (List Pr)), (∀ rs ∈ qss, rs.length ≤ m) → RowsOk B H us qss → ∀ x ∈ us, ∃ a ws, x = .ref a ∧ H a = some (.lst ws) ∧ ws.length ≤ m := by
    intro us
    induction us with
    | nil => intro _ _ _ x hx; cases hx
    | cons u us ih =>
      intro qss hq h
      cases qss with
      | nil => exact h.elim
      | cons q qss =>
        obtain ⟨⟨a, ws, e, h1, f⟩, h2⟩ := h
        intro x hx
        rcases List.mem_cons.mp hx with z | z
        · rw [z]; exact ⟨a, ws, e, h1, by rw [f.len]; exact hq q (List.mem_cons_self ..)⟩
        · exact ih qss (fun rs r => hq rs (List.mem_cons_of_mem _ r)) h2 x z
  have ead : (oLL rss).ad (.ref p) H = p :: vs.flatMap one := adLL_at hp
  have s1 : Sta g.b (Γ.set i (some (.ow (oJ2 vs (m + 0))))) σ B H := sta_at s hi ev (fun a ha => by rw [ead]; exact ha) ⟨p, rfl, hp, np, rows vs rss hm rk⟩
  have hiΓ : i < Γ.length := (List.getElem?_eq_some_iff.mp hi).1
  -- between the turns
  let Δ : Nat → Gm := fun t => (Γ.set i (some (.ow (oJ2 vs (m + t))))).set j none
  have Δi : ∀ t, (Δ t)[i]? = some (some (.ow (oJ2 vs (m + t)))) := fun t => by
    show ((Γ.set i _).set j none)[i]? = _
    rw [List.getElem?_set_ne (Ne.symm hij), List.getElem?_set_self hiΓ]
  refine ⟨_, ev, p, rfl, ⟨vs, SqL.of hp⟩, for_list (K := g.X.K) (a := p) (xs := vs) (fun t σ' H' => ∃ B', Le B B' ∧ σ'[i]? = some (some (.ref p)) ∧ Sta g.b (Δ t) σ' B' H') ⟨B, Le.refl _, ev, ?_⟩ (fun t σ' H' ht ⟨B', l, e', s'⟩ => ?_) ?_ ?_⟩
  · refine s1.imp ?_
    have key : ∀ (L : Gm) (q : Nat), GmLe L (L.set q none) := by
      intro L
      induction L with
      | nil => intro q; exact trivial
      | cons a L ih =>
        intro q
        cases q with
        | zero => exact ⟨.none _, GmLe.refl _⟩
        | succ q => exact ⟨.refl _, ih q⟩
    exact key _ j
  · obtain ⟨u, eu, ou⟩ := s'.env.ow i _ (Δi t)
    obtain ⟨p', ep, hp', _⟩ := ou.at_
    rw [e'] at eu
    have : p' = p := by
      have := Option.some.inj (Option.some.inj eu)
      rw [ep] at this
      exact (V.ref.inj this).symm
    subst this
    exact SqL.of hp'
  · rintro t y0 σ' H' hy ⟨B', l, e', s'⟩
    have tl : t < vs.length := (List.getElem?_eq_some_iff.mp hy).1
    obtain ⟨u, eu, ou⟩ := s'.env.ow i _ (Δi t)
    have eu2 : u = .ref p := by rw [e'] at eu; exact (Option.some.inj (Option.some.inj eu)).symm
    subst eu2
    obtain ⟨p', ep, hp', np', rk'⟩ := ou.at_
    cases ep
    obtain ⟨a, ws, ey, ha, hwl⟩ := rk' y0 (List.mem_of_getElem? hy)
    subst ey
    have ma : a ∈ vs.flatMap one := by
      rw [List.mem_flatMap]
      exact ⟨_, List.mem_of_getElem? hy, mem_one.mpr rfl⟩
    have hap : a ≠ p := fun z => np' (z ▸ ma)
    have hjl : j < σ'.length := by
      rw [s'.env.len]
      show j < ((Γ.set i _).set j none).length
      rw [List.length_set, List.length_set]
      exact hjl
    show (∃ v, (σ'.set j (some (V.ref a)))[j]? = some (some v) ∧ _)
    refine ⟨.ref a, by rw [List.getElem?_set_self hjl], .inl ⟨rfl, ws, SqL.of ha⟩, ?_⟩
    refine ⟨a, ws, v, rfl, rfl, ha, by rw [hlen] at tl; omega, B', l, ?_, ?_⟩
    · rw [List.getElem?_set_ne (Ne.symm hij)]; exact e'
    · have s2 := (s'.setN (j := j) (v := .ref a))
      have e2 : (Δ t).set j none = Δ t := by
        show (((Γ.set i _).set j none).set j none) = _
        rw [List.set_set]
      rw [e2] at s2
      have s3 := s2.chg (c' := oJ2 vs (m + (t + 1))) (p := a) (u := .lst (ws ++ [v])) (Δi t) (by rw [List.getElem?_set_ne (Ne.symm hij)]; exact e') (List.mem_append_right _ ma) (fun x hx => hx) ⟨p, rfl, by rw [upd_ne (Ne.symm hap)]; exact hp', np', fun x hx => ?_⟩
      · have e3 : (Δ t).set i (some (.ow (oJ2 vs (m + (t + 1))))) = Δ (t + 1) := by
          show ((Γ.set i _).set j none).set i _ = _
          rw [List.set_comm _ _ (Ne.symm hij), List.set_set]
        rw [e3] at s3
        exact s3
      · obtain ⟨a', ws', ex, h', l'⟩ := rk' x hx
        by_cases q : a' = a
        · subst q
          exact ⟨a', ws ++ [v], ex, upd_same, by rw [List.length_append, List.length_singleton]; omega⟩
        · exact ⟨a', ws', ex, by rw [upd_ne q]; exact h', by omega⟩
  · rintro σ' H' ⟨B', l, e', s'⟩
    refine k.go w l ?_
    have s4 := sta_at (c' := oJ rss.length) s' (Δi vs.length) e' (fun x hx => List.mem_append_left _ hx) (by
      obtain ⟨u, eu, ou⟩ := s'.env.ow i _ (Δi vs.length)
      obtain ⟨p', ep, hp', _⟩ := ou.at_
      rw [e'] at eu
      have eu2 : u = .ref p := (Option.some.inj (Option.some.inj eu)).symm
      subst eu2
      cases ep
      exact ⟨p, vs, rfl, hp', by rw [hlen]; exact Nat.le_refl _⟩)
    have e5 : (Δ vs.length).set i (some (.ow (oJ rss.length))) = (Γ.set j none).set i (some (.ow (oJ rss.length))) := by
      show ((Γ.set i _).set j none).set i _ = _
      rw [List.set_comm _ _ (Ne.symm hij), List.set_set, List.set_comm _ _ hij]
    rw [e5] at s4
    exact s4
/-- .. and the list itself -/
theorem s_appJ (i : Nat) {n : Nat} {x : Str} {p apos cpos : Pos} (h : JE g e Γ P) (hz : n < sizeLine) (k : JS g rest (Γ.set i (some (.ow (oJ (n + 1))))) D) (hi : Γ[i]? = some (some (.ow (oJ n))) := by rfl) (hN : g.X.N[i]? = some x := by rfl) (hv : Vis g.X.env.scope x := by first | exact Or.inl rfl | exact Or.inr (Or.inl rfl) | exact Or.inr (Or.inr rfl))
    (hd : (x == ("__debug__" : Str)) = false := by decide) (hcd : (x == ("__classdict__" : Str)) = false := by decide) (hline : (apos.endLine == cpos.line) = true := by rfl)
    (hfew : ((backTo cpos (starEach [e] g.X.env)).all (fun x => !x.1) && (backToKw cpos (keywordEach [] g.X.env)).all (fun x => x.1.isSome) && decide ([e].length + ([] : List Keyword).length + (if ([] : List Keyword).isEmpty then 0 else 1) < 30)) = true := by rfl)
    (he : starEach [e] g.X.env = (false, eval e g.X.env) :: starEach [] g.X.env := by rfl) (hs : swapsWith (.Call (.Attribute (.Name x p) "append" apos) [e] [] cpos) none pos.line g.X.env = pure false := by rfl) :
    JS g (.Expr (.Call (.Attribute (.Name x p) "append" apos) [e] [] cpos) pos :: rest) Γ D :=
  js_cons fun w σ B H s => of1 (ps_expr (pe_bm PySem.F.plainAttrs_list PySem.F.slot_list_append PySem.F.type_list_append mt_append (pe_var hN hv hd hcd) (pa_cons pE pa_nil he) (by rfl) hfew hline he rfl) hs) (by
    obtain ⟨v0, e, o⟩ := s.env.ow i _ hi
    obtain ⟨q, vs, e2, hu, hl⟩ := o.at_
    subst e2
    refine ⟨_, e, .inl ⟨rfl, vs, SqL.of hu⟩, (h.run w σ B H s).mono fun v H1 ⟨B1, a1, p1⟩ => ?_⟩
    have hu1 : H1 q = some (.lst vs) := a1.t.keep q _ hu fun φ z => by rw [o.nb q (mem_one.mpr rfl)] at z; cases z
    exact ⟨q, vs, v, rfl, rfl, hu1, by omega, k.go w a1.le (a1.sta.chg hi e (mem_one.mpr rfl) (fun a m => m) ⟨q, vs ++ [v], rfl, upd_same, by rw [List.length_append, List.length_singleton]; omega⟩)⟩)
end
end G
set_option Elab.async false
set_option linter.all false
set_option maxRecDepth 100000
set_option maxHeartbeats 2000000
namespace G
open PySem L2
/-! ### data: == and < at any depth -/
def HasD (K : PySem.W.Frag) (P : Pr) (d : PyData) : Prop := ∀ B H v, Ok B H → P.r B v → Dp K H v d
def HasDs (K : PySem.W.Frag) : List Pr → List PyData → Prop
  | [], [] => True
  | P :: Ps, d :: ds => HasD K P d ∧ HasDs K Ps ds
  | _, _ => False
section
variable {K : PySem.W.Frag}
theorem hd_I {i : Int} : HasD K (rI i) (.int i) := fun B H v k p => by cases p; exact .int i
theorem hd_B {i : Bool} : HasD K (rB i) (.bool i) := fun B H v k p => by cases p; exact .bl i
theorem hd_S {i : Str} : HasD K (rS i) (.str i) := fun B H v k p => by cases p; exact .str i
theorem hd_N : HasD K rN .none := fun B H v k p => by cases p; exact .non
theorem hds_all {B : Bs} {H : Hp} (k : Ok B H) : ∀ {vs : List V} {Ps : List Pr} {ds : List PyData}, HasDs K Ps ds → F2 B vs Ps → DpAll K H vs ds
  | [], [], [], _, _ => .nil
  | v :: vs, P :: Ps, d :: ds, h, f => .cons (h.1 B H v k f.1) (hds_all k h.2 f.2)
  | [], _ :: _, _, _, f => f.elim
  | _ :: _, [], _, _, f => f.elim
  | [], [], _ :: _, h, _ => h.elim
  | _ :: _, _ :: _, [], h, _ => h.elim
theorem hd_L {rs : List Pr} {ds : List PyData} (h : HasDs K rs ds) : HasD K (rLs K rs) (.list ds) := fun B H v k ⟨p, vs, e, a, f⟩ => by
  subst e
  exact .lst (a.sq k) (hds_all k h f)
theorem hd_T {rs : List Pr} {ds : List PyData} (h : HasDs K rs ds) : HasD K (rTs K rs) (.tuple ds) := fun B H v k ⟨p, vs, e, a, f⟩ => by
  subst e
  exact .tup (a.sq k) (hds_all k h f)
theorem hds_map {α : Type} {r : α → Pr} {t : α → PyData} (h : ∀ a, HasD K (r a) (t a)) : ∀ xs : List α, HasDs K (xs.map r) (xs.map t)
  | [] => trivial
  | x :: xs => ⟨h x, hds_map h xs⟩
end
section
variable {g : Gx} {Γ : Gm} {P Q R : Pr} {e e1 e2 tg : Expr} {pos p2 : Pos} {D : En} {st : Stmt} {ss rest : List Stmt} {rs qs : List Pr}
theorem o_eqD {d d' : PyData} (h1 : HasD g.X.K P d) (h2 : HasD g.X.K Q d') (s1 : SeqAt.shaped d = true) (s2 : SeqAt.shaped d' = true) : Op2 g.X (rEqD g.X.K) P Q (rB (PyData.eqv d d')) := fun B H v u K k p q c => ⟨d, d', h1 B H v k p, h2 B H u k q, s1, s2, c _ B H (Stp.refl k) rfl⟩
theorem o_neD {d d' : PyData} (h1 : HasD g.X.K P d) (h2 : HasD g.X.K Q d') (s1 : SeqAt.shaped d = true) (s2 : SeqAt.shaped d' = true) : Op2 g.X (rNeD g.X.K) P Q (rB (!PyData.eqv d d')) := fun B H v u K k p q c => ⟨d, d', h1 B H v k p, h2 B H u k q, s1, s2, c _ B H (Stp.refl k) rfl⟩
/-- with the room that the context gives -/
theorem x_cmpW {op : CmpOp} {r : R2} (ho : g.Wf → OpR g.X (compareOp op) r) (hv : Op2 g.X r P Q R) (h1 : JE g e1 Γ P) (h2 : JE g e2 Γ Q) (hm : behindInMarks op e2 = false := by first | exact nomark _ | rfl) : JE g (.Compare e1 [op] [e2] pos) Γ R := ⟨fun w => (x_cmpV (ho w) hv h1 h2 hm).run w⟩
theorem t_cmpW {op : CmpOp} {r : R2} {c : Bool} (ho : g.Wf → OpR g.X (compareOp op) r) (hv : Op2 g.X r P Q (rB c)) (h1 : JE g e1 Γ P) (h2 : JE g e2 Γ Q) (hm : behindInMarks op e2 = false := by first | exact nomark _ | rfl) : JT g (.Compare e1 [op] [e2] pos) Γ c := ⟨fun w => (x_cmpT (ho w) hv h1 h2 hm).run w⟩
theorem x_eqD {d d' : PyData} (h1 : JE g e1 Γ P) (h2 : JE g e2 Γ Q) (k1 : HasD g.X.K P d) (k2 : HasD g.X.K Q d') (s1 : SeqAt.shaped d = true) (s2 : SeqAt.shaped d' = true) (hcm : g.X.calm = true := by rfl) : JE g (.Compare e1 [.Eq] [e2] pos) Γ (rB (PyData.eqv d d')) := x_cmpW (fun w => op_eqD (w.hr hcm).units) (o_eqD k1 k2 s1 s2) h1 h2
theorem t_eqD {d d' : PyData} (h1 : JE g e1 Γ P) (h2 : JE g e2 Γ Q) (k1 : HasD g.X.K P d) (k2 : HasD g.X.K Q d') (s1 : SeqAt.shaped d = true) (s2 : SeqAt.shaped d' = true) (hcm : g.X.calm = true := by rfl) : JT g (.Compare e1 [.Eq] [e2] pos) Γ (PyData.eqv d d') := t_cmpW (fun w => op_eqD (w.hr hcm).units) (o_eqD k1 k2 s1 s2) h1 h2
theorem x_neD {d d' : PyData} (h1 : JE g e1 Γ P) (h2 : JE g e2 Γ Q) (k1 : HasD g.X.K P d) (k2 : HasD g.X.K Q d') (s1 : SeqAt.shaped d = true) (s2 : SeqAt.shaped d' = true) (hcm : g.X.calm = true := by rfl) : JE g (.Compare e1 [.NotEq] [e2] pos) Γ (rB (!PyData.eqv d d')) := x_cmpW (fun w => op_neD (w.hr hcm).units) (o_neD k1 k2 s1 s2) h1 h2
theorem t_neD {d d' : PyData} (h1 : JE g e1 Γ P) (h2 : JE g e2 Γ Q) (k1 : HasD g.X.K P d) (k2 : HasD g.X.K Q d') (s1 : SeqAt.shaped d = true) (s2 : SeqAt.shaped d' = true) (hcm : g.X.calm = true := by rfl) : JT g (.Compare e1 [.NotEq] [e2] pos) Γ (!PyData.eqv d d') := t_cmpW (fun w => op_neD (w.hr hcm).units) (o_neD k1 k2 s1 s2) h1 h2
/-- < of data that are alike -/
def rLtD (K : PySem.W.Frag) : R2 := fun x y H Q => ∃ d d', Dp K H x d ∧ Dp K H y d' ∧ PySem.W.alike d d' = true ∧ d ≠ .none ∧ d.depth ≤ 64 ∧ Q (.bl (PySem.W.dataLt d d')) H
theorem op_ltD {X : Cx} (hu : X.A.units + 64 < cLine) : OpR X (compareOp .Lt) (rLtD X.K) := by
  intro pins s σ H x y v u Q I rx ry h
  obtain ⟨d, d', h1, h2, ha, hn, hdp, q⟩ := h
  obtain ⟨as, r1⟩ := Dp.reads I d x v h1 rx
  obtain ⟨bs, r2⟩ := Dp.reads I d' y u h2 ry
  exact PySem.W.rcLt_alike d d' X.A s v u as bs r1 r2 ha hn (by omega) _ _ _ _ ⟨.bl _, H, I, rfl, q⟩
theorem x_ltD {d d' : PyData} (h1 : JE g e1 Γ P) (h2 : JE g e2 Γ Q) (k1 : HasD g.X.K P d) (k2 : HasD g.X.K Q d') (ha : PySem.W.alike d d' = true) (hn : d ≠ .none) (hd : d.depth ≤ 64) (hcm : g.X.calm = true := by rfl) : JE g (.Compare e1 [.Lt] [e2] pos) Γ (rB (PySem.W.dataLt d d')) :=
  x_cmpW (fun w => op_ltD (w.hr hcm).units) (fun B H v u K k p q c => ⟨d, d', k1 B H v k p, k2 B H u k q, ha, hn, hd, c _ B H (Stp.refl k) rfl⟩) h1 h2
theorem t_ltD {d d' : PyData} (h1 : JE g e1 Γ P) (h2 : JE g e2 Γ Q) (k1 : HasD g.X.K P d) (k2 : HasD g.X.K Q d') (ha : PySem.W.alike d d' = true) (hn : d ≠ .none) (hd : d.depth ≤ 64) (hcm : g.X.calm = true := by rfl) : JT g (.Compare e1 [.Lt] [e2] pos) Γ (PySem.W.dataLt d d') :=
  t_cmpW (fun w => op_ltD (w.hr hcm).units) (fun B H v u K k p q c => ⟨d, d', k1 B H v k p, k2 B H u k q, ha, hn, hd, c _ B H (Stp.refl k) rfl⟩) h1 h2
/-- lists of whole numbers -/
theorem lt_ints : ∀ ns ms : List Int, PyProof.Rows.lexLt PyProof.Rows.itemOrd (PySem.W.keyToksAll (ns.map PyData.int)) (PySem.W.keyToksAll (ms.map PyData.int)) = HT.lexLt ns ms
  | [], [] => rfl
  | [], m :: ms => rfl
  | n :: ns, [] => rfl
  | n :: ns, m :: ms => by
    rw [HT.lexLt_cons, List.map_cons, List.map_cons]
    by_cases h : n = m
    · subst h
      rw [if_pos rfl, PySem.W.dataLt_all_yes rfl (by show (n == n) = true; simp)]
      exact lt_ints ns ms
    · rw [if_neg h, PySem.W.dataLt_all_no rfl (by show (n == m) = false; simpa using h), PySem.W.dataLt_int]

/-! ### the script, the pot -/
/-- the law's script -/
def rScr (K : PySem.W.Frag) (ns : List Int) : Pr := ⟨fun B v => ∃ a, v = .ref a ∧ ((∃ u, B a = some (.ex u) ∧ (u = .lst (ns.map V.int) ∨ ∃ o, u = .frz o (.lst (ns.map V.int)))) ∨ ∃ (o : Obj) (its : Array Value) (n : Nat), K.lookup a = some o ∧ o.cls = .type "list" ∧ o.dict = none ∧ o.data = .seq its n ∧ its.size ≤ sizeLine ∧ Vals (ns.map V.int) its.toList),
  fun _ _ _ l ⟨a, e, h⟩ => ⟨a, e, h.imp (fun ⟨u, b, c⟩ => ⟨u, l _ _ b, c⟩) id⟩⟩
theorem scr_sq {K : PySem.W.Frag} {ns : List Int} {B : Bs} {H : Hp} {v : V} (k : Ok B H) (h : (rScr K ns).r B v) : ∃ a, v = .ref a ∧ SqL K H a (ns.map V.int) := by
  obtain ⟨a, e, h⟩ := h
  refine ⟨a, e, ?_⟩
  rcases h with ⟨u, b, c⟩ | h
  · have z := k.ex a u b
    rcases c with c | ⟨o, c⟩
    · subst c; exact .inl (.inl (z.hard rfl))
    · subst c; exact .inl (.inr ⟨o, z.hard rfl⟩)
  · exact .inr h
theorem x_lenScr {ns : List Int} (hm : g.X.mg "len" = none) (h : JE g e Γ (rScr g.X.K ns)) {p : Pos} (hg : Gl g.X "len" := by rfl) (he : starEach [e] g.X.env = (false, eval e g.X.env) :: starEach [] g.X.env := by rfl) : JE g (.Call (.Name "len" p) [e] [] pos) Γ (rI ns.length) :=
  x_cb (r := fun xs H Q => ∃ p ys, xs = [.ref p] ∧ (SqL g.X.K H p ys ∨ SqT g.X.K H p ys) ∧ Q (.int ys.length) H) hm (fun _ => call_len_seq) PySem.boot_len
    (fun B H vs K k f c => by
      obtain ⟨v, rfl, h⟩ := f.one
      obtain ⟨a, e, q⟩ := scr_sq k h
      exact ⟨a, _, by rw [e], .inl q, c _ B H (Stp.refl k) (by rw [List.length_map]; rfl)⟩) (a_cons h a_nil he) hg (by decide) (by decide) he rfl
theorem x_ixScr {ns : List Int} {i : Nat} {z : Int} (hz : ns[i]? = some z) (h1 : JE g e1 Γ (rScr g.X.K ns)) (h2 : JE g e2 Γ (rI (i : Int))) (hs : PlainIx e2 := by exact fun _ _ => rfl) : JE g (.Subscript e1 e2 pos) Γ (rI z) :=
  x_ix (P := rScr g.X.K ns) (Q := rI (i : Int)) ix_list (fun B H v u K k h q c => by
    cases q
    obtain ⟨a, e, sq⟩ := scr_sq k h
    exact ⟨a, _, (i : Int), .int z, e, rfl, sq, atI_nat (by rw [List.getElem?_map, hz]; rfl), c _ B H (Stp.refl k) rfl⟩) h1 h2 hs
/-- a pot: two whole numbers, by words of them -/
def IsPot (φ ψ : Int → Prop) (o : HO) : Prop := ∃ a b, o = .lst [.int a, .int b] ∧ φ a ∧ ψ b
def rPot (φ ψ : Int → Prop) : Pr := ⟨fun B v => ∃ p, v = .ref p ∧ B p = some (.iv (IsPot φ ψ)), fun _ _ _ l ⟨p, e, h⟩ => ⟨p, e, l _ _ h⟩⟩
theorem x_pot0 {φ ψ : Int → Prop} (h1 : JE g e1 Γ (rPot φ ψ)) {j p} : JE g (.Subscript e1 (.Constant (.int 0) j p) pos) Γ (rIx φ) :=
  x_ix (P := rPot φ ψ) (Q := rI 0) ix_list (fun B H v u K k ⟨p, e, h⟩ q c => by
    cases q
    obtain ⟨o, ho, ⟨a, b, e2, ha, hb⟩, _⟩ := k.iv p _ h
    subst e2
    exact ⟨p, _, 0, .int a, e, rfl, SqL.of ho, rfl, c _ B H (Stp.refl k) ⟨a, ha, rfl⟩⟩) h1 x_int (fun _ _ => rfl)
theorem x_pot1 {φ ψ : Int → Prop} (h1 : JE g e1 Γ (rPot φ ψ)) {j p} : JE g (.Subscript e1 (.Constant (.int 1) j p) pos) Γ (rIx ψ) :=
  x_ix (P := rPot φ ψ) (Q := rI 1) ix_list (fun B H v u K k ⟨p, e, h⟩ q c => by
    cases q
    obtain ⟨o, ho, ⟨a, b, e2, ha, hb⟩, _⟩ := k.iv p _ h
    subst e2
    exact ⟨p, _, 1, .int b, e, rfl, SqL.of ho, rfl, c _ B H (Stp.refl k) ⟨b, hb, rfl⟩⟩) h1 x_int (fun _ _ => rfl)
/-- a thing of the ground that callees may change is changed, its word kept -/
theorem Stp.ivch {B : Bs} {H : Hp} {p : Addr} {φ : HO → Prop} {u : HO} (k : Ok B H) (h : B p = some (.iv φ)) (hu : φ u) (hn : ∀ vs, u ≠ .tup vs := by exact fun _ h => nomatch h) : Stp B H B (upd H p u) where
  le := Le.refl _
  ok := {
    ex := fun a w e => by
      have q : a ≠ p := by rintro rfl; rw [h] at e; cases e
      rcases k.ex a w e with z | ⟨l, o, z⟩
      · exact .inl (by rw [upd_ne q]; exact z)
      · exact .inr ⟨l, o, by rw [upd_ne q]; exact z⟩
    iv := fun a ψ e => by
      by_cases q : a = p
      · subst q; rw [h] at e; cases e; exact ⟨u, upd_same, hu, hn⟩
      · obtain ⟨o, z, f⟩ := k.iv a ψ e
        exact ⟨o, by rw [upd_ne q]; exact z, f⟩ }
  keep := fun a o e n => by
    have q : a ≠ p := by rintro rfl; exact n φ h
    rw [upd_ne q]; exact e
  there := fun a e => by
    by_cases q : a = p
    · subst q; rw [upd_same]; simp
    · rw [upd_ne q]; exact e
  new := fun a e k' n => by rw [e] at n; cases n
/-- pot[j] = e -/
theorem s_pot {φ ψ χ : Int → Prop} {j : Int} {jj : Nat} {pj spos : Pos} (hj : j = 0 ∧ (∀ a, χ a → φ a) ∨ j = 1 ∧ (∀ a, χ a → ψ a)) (h : JE g e Γ (rIx χ)) (h1 : JE g e1 Γ (rPot φ ψ)) (k : JS g rest Γ D)
    (ha : ∀ v, assign (.Subscript e1 (.Constant (.int j) jj pj) spos) g.X.env v = (do
      let ov ← holding [v] (eval e1 g.X.env)
      let iv ← holding [v, ov] (eval (.Constant (.int j) jj pj) g.X.env)
      standAt spos
      holding [v, ov, iv] (setItem ov iv v)
      release [v, ov, iv] []) := by intro _; rfl)
    (hs : swapsWithSole [.Subscript e1 (.Constant (.int j) jj pj) spos] e pos.line g.X.env = pure false := by rfl) (hw : swappedStores [.Subscript e1 (.Constant (.int j) jj pj) spos] e g.X.env = pure none := by rfl)
    (h1' : (assignEach [.Subscript e1 (.Constant (.int j) jj pj) spos] g.X.env).map (·.2) = [assign (.Subscript e1 (.Constant (.int j) jj pj) spos) g.X.env] := by rfl) :
    JS g (.Assign [.Subscript e1 (.Constant (.int j) jj pj) spos] e pos :: rest) Γ D :=
  js_cons fun w σ B H s => of1 (ps_asg pE (pg_sub pE pe_int set_list ha) hs hw h1') ((h.run w σ B H s).mono fun v H1 ⟨B1, a1, z, hz, ez⟩ => (h1.run w σ B1 H1 a1.sta).mono fun o H2 ⟨B2, a2, p, eo, hp⟩ => by
    obtain ⟨u, hu, ⟨a, b, e2, pa, pb⟩, _⟩ := a2.sta.st.ok.iv p _ hp
    subst e2
    have ez : v = .int z := ez
    subst ez
    rcases hj with ⟨rfl, hc⟩ | ⟨rfl, hc⟩
    · refine ⟨p, _, 0, 0, eo, rfl, hu, rfl, k.go w (a1.le.trans a2.le) (a2.sta.step (Stp.ivch a2.sta.st.ok hp ⟨z, b, rfl, hc z hz, pb⟩)).sta⟩
    · refine ⟨p, _, 1, 1, eo, rfl, hu, rfl, k.go w (a1.le.trans a2.le) (a2.sta.step (Stp.ivch a2.sta.st.ok hp ⟨a, z, rfl, pa, hc z hz⟩)).sta⟩)
/-- a list of two whole numbers of one's own becomes a pot -/
theorem s_mkpot (i : Nat) {φ ψ : Int → Prop} (k : JS g ss (Γ.set i (some (.sh (rPot φ ψ)))) D) (h : Γ[i]? = some (some (.ow (oL [rIx φ, rIx ψ]))) := by rfl) : JS g ss Γ D :=
  ⟨fun w σ B H s => by
    obtain ⟨v, e, o⟩ := s.env.ow i _ h
    obtain ⟨p, vs, e2, nb, nh, hp, f⟩ := own_one o
    subst e2
    obtain ⟨v1, v2, rfl, ⟨a, ha, ea⟩, ⟨b, hb, eb⟩⟩ := f.two
    have ea : v1 = .int a := ea
    have eb : v2 = .int b := eb
    subst ea eb
    have l : Le B (put B p (.iv (IsPot φ ψ))) := Le.put nb
    have ok : Ok (put B p (.iv (IsPot φ ψ))) H := ⟨fun x u e => by
      by_cases q : x = p
      · subst q; rw [put_same] at e; cases e
      · rw [put_ne q] at e; exact s.st.ok.ex x u e, fun x χ e => by
      by_cases q : x = p
      · subst q; rw [put_same] at e; cases e; exact ⟨_, hp, ⟨a, b, rfl, ha, hb⟩, fun _ h => nomatch h⟩
      · rw [put_ne q] at e; exact s.st.ok.iv x χ e⟩
    refine k.go w l (σ := σ) ⟨⟨s.st.le.trans l, ok, s.st.keep, s.st.there, fun x e k' n => ?_⟩, ⟨by rw [List.length_set]; exact s.env.len, fun j r hj => ?_, fun j d hj => ?_, fun j m d d' u1 u2 q h1 h2 h3 h4 h5 h6 => ?_⟩⟩
    · by_cases q : x = p
      · subst q; exact .inl nh
      · rw [put_ne q] at n; exact s.st.new x e k' n
    · rcases set_get hj with ⟨q, z⟩ | ⟨q, z⟩
      · cases z; subst q
        exact ⟨.ref p, e, p, rfl, put_same⟩
      · obtain ⟨v, a, k⟩ := s.env.sh j r z
        exact ⟨v, a, r.mono _ _ _ l k⟩
    · rcases set_get hj with ⟨q, z⟩ | ⟨q, z⟩
      · cases z
      · obtain ⟨v', e3, k'⟩ := s.env.ow j d z
        have dj : ∀ a ∈ d.ad v' H, a ≠ p := fun a ha z2 => by
          subst z2
          exact q (s.env.dis i j _ d _ v' a h z e e3 (mem_one.mpr rfl) ha)
        exact ⟨v', e3, fun a ha => by rw [put_ne (dj a ha)]; exact k'.nb a ha, k'.nh, k'.th, d.mono _ _ _ _ l k'.at_⟩
    · rcases set_get h1 with ⟨q1, z1⟩ | ⟨q1, z1⟩
      · cases z1
      · rcases set_get h2 with ⟨q2, z2⟩ | ⟨q2, z2⟩
        · cases z2
        · exact s.env.dis j m d d' u1 u2 q z1 z2 h3 h4 h5 h6⟩

/-! ### more -/
theorem s_retLL {rss : List (List Pr)} {D : En} (h : JO g e Γ (oL (rss.map (rLf g.b)))) (hf : ∀ rs ∈ rss, ∀ r ∈ rs, Free r) (k : ∀ v H, Rt g.b (.ow (oLL rss)) v H → D.rt v H) : JS g (.Return (some e) pos :: rest) Γ D :=
  ⟨fun w => (s_retO h fun v H r => k v H (rt_own hf v H w.bok r)).run w⟩
theorem F2.imp {B : Bs} {α : Type} {r r' : α → Pr} (h : ∀ a v, (r a).r B v → (r' a).r B v) : ∀ {vs : List V} {xs : List α}, F2 B vs (xs.map r) → F2 B vs (xs.map r')
  | [], [], _ => trivial
  | v :: vs, x :: xs, f => ⟨h x v f.1, F2.imp h (xs := xs) f.2⟩
  | [], _ :: _, f => f.elim
  | _ :: _, [], f => f.elim
theorem rLs_imp {K : PySem.W.Frag} {α : Type} {r r' : α → Pr} (h : ∀ a B v, (r a).r B v → (r' a).r B v) {xs : List α} {B : Bs} {v : V} (k : (rLs K (xs.map r)).r B v) : (rLs K (xs.map r')).r B v := let ⟨p, vs, e, a, f⟩ := k; ⟨p, vs, e, a, F2.imp (fun x v => h x B v) f⟩
theorem bo_max : bootBuiltins "max" = some (.builtin "max") := by decide +kernel
theorem bo_min : bootBuiltins "min" = some (.builtin "min") := by decide +kernel
theorem x_max2 {i j : Int} {p : Pos} (b : Bi g.X.mg) (h1 : JE g e1 Γ (rI i)) (h2 : JE g e2 Γ (rI j)) (hg : Gl g.X "max" := by rfl) (he : starEach [e1, e2] g.X.env = (false, eval e1 g.X.env) :: starEach [e2] g.X.env := by rfl) (he2 : starEach [e2] g.X.env = (false, eval e2 g.X.env) :: starEach [] g.X.env := by rfl) (hpl : (backTo pos (starEach [e2] g.X.env)).any (·.1) = false := by rfl) (hcm : g.X.calm = true := by rfl) : JE g (.Call (.Name "max" p) [e1, e2] [] pos) Γ (rI (if j > i then j else i)) :=
  x_cb (r := fun xs H Q => ∃ i j, xs = [.int i, .int j] ∧ Q (.int (if j > i then j else i)) H) b.max (fun w => call_max2 hcm) bo_max (fun B H vs K k f q => by
    obtain ⟨v, u, rfl, h1, h2⟩ := f.two
    cases h1; cases h2
    exact ⟨i, j, rfl, q _ B H (Stp.refl k) rfl⟩) (a_cons h1 (a_cons h2 a_nil he2) he) hg (by decide) (by decide) he hpl
theorem x_min2 {i j : Int} {p : Pos} (b : Bi g.X.mg) (h1 : JE g e1 Γ (rI i)) (h2 : JE g e2 Γ (rI j)) (hg : Gl g.X "min" := by rfl) (he : starEach [e1, e2] g.X.env = (false, eval e1 g.X.env) :: starEach [e2] g.X.env := by rfl) (he2 : starEach [e2] g.X.env = (false, eval e2 g.X.env) :: starEach [] g.X.env := by rfl) (hpl : (backTo pos (starEach [e2] g.X.env)).any (·.1) = false := by rfl) (hcm : g.X.calm = true := by rfl) : JE g (.Call (.Name "min" p) [e1, e2] [] pos) Γ (rI (if j < i then j else i)) :=
  x_cb (r := fun xs H Q => ∃ i j, xs = [.int i, .int j] ∧ Q (.int (if j < i then j else i)) H) b.min (fun w => call_min2 hcm) bo_min (fun B H vs K k f q => by
    obtain ⟨v, u, rfl, h1, h2⟩ := f.two
    cases h1; cases h2
    exact ⟨i, j, rfl, q _ B H (Stp.refl k) rfl⟩) (a_cons h1 (a_cons h2 a_nil he2) he) hg (by decide) (by decide) he hpl
theorem x_pow {i j : Int} (hc : CPow i j) (h1 : JE g e1 Γ (rI i)) (h2 : JE g e2 Γ (rI j)) : JE g (.BinOp e1 .Pow e2 pos) Γ (rI (i ^ j.toNat)) := x_op op_pow (o_I hc) h1 h2
/-! ints told by words only -/
theorem x_modx {φ : Int → Prop} {j : Int} (hj : 0 < j) (h1 : JE g e1 Γ (rIx φ)) (h2 : JE g e2 Γ (rI j)) : JE g (.BinOp e1 .Mod e2 pos) Γ (rIx fun r => 0 ≤ r ∧ r < j) :=
  x_op (P := rIx φ) (Q := rI j) op_mod (fun B H v u K k ⟨i, a, p⟩ q c => by
    cases q
    exact ⟨i, j, p, rfl, hj, c _ B H (Stp.refl k) ⟨_, ⟨Int.emod_nonneg i (by omega), Int.emod_lt_of_pos i hj⟩, rfl⟩⟩) h1 h2
theorem x_fdivx {φ ψ : Int → Prop} {j : Int} (hj : CDiv 0 j) (h : ∀ i, φ i → ψ (i / j)) (h1 : JE g e1 Γ (rIx φ)) (h2 : JE g e2 Γ (rI j)) : JE g (.BinOp e1 .FloorDiv e2 pos) Γ (rIx ψ) :=
  x_op (P := rIx φ) (Q := rI j) op_fdiv (fun B H v u K k ⟨i, a, p⟩ q c => by
    cases q
    exact ⟨i, j, p, rfl, hj, c _ B H (Stp.refl k) ⟨_, h i a, rfl⟩⟩) h1 h2
/-- a test of which nothing is known -/
structure JTx (g : Gx) (e : Expr) (Γ : Gm) : Prop where
  run : g.Wf → ∀ σ B H, Sta g.b Γ σ B H → WT g.X e (fun _ H' => ∃ B', Aft g.b Γ σ B H B' H') σ H
theorem s_ifx {a b : List Stmt} (h : JTx g e Γ) (h1 : JS g a Γ (D.thn g.X rest)) (h2 : JS g b Γ (D.thn g.X rest)) : JS g (.If e a b pos :: rest) Γ D :=
  js_cons fun w σ B H s => of1 (ps_if pT pS pS) ((h.run w σ B H s).mono fun v H' ⟨B', a⟩ => by
    cases v with
    | true => rw [if_pos rfl]; exact h1.go w a.le a.sta
    | false => rw [if_neg (by decide)]; exact h2.go w a.le a.sta)
theorem u_cmp {op : CmpOp} {r : R2} (ho : OpR g.X (compareOp op) r) (hv : Op2 g.X r P Q (Pr.ex rB)) (h1 : JE g e1 Γ P) (h2 : JE g e2 Γ Q) (hm : behindInMarks op e2 = false := by first | exact nomark _ | rfl) : JTx g (.Compare e1 [op] [e2] pos) Γ :=
  ⟨fun w σ B H s => ofT (pt_cmpR ho pE pE hm) ((h1.run w σ B H s).mono fun v H1 ⟨B1, a1, p⟩ => (h2.run w σ B1 H1 a1.sta).mono fun u H2 ⟨B2, a2, q⟩ =>
    op2_run hv a2.sta (P.mono _ _ _ a2.le p) q fun z B' H' a3 ⟨c, hc⟩ => ⟨c, hc, B', (a1.trans a2).trans a3⟩)⟩
theorem u_gt {φ : Int → Prop} {i : Int} (h1 : JE g e1 Γ (rIx φ)) (h2 : JE g e2 Γ (rI i)) : JTx g (.Compare e1 [.Gt] [e2] pos) Γ :=
  u_cmp (P := rIx φ) (Q := rI i) op_gt (fun B H v u K k ⟨z, hz, ez⟩ eu c => ⟨z, i, ez, eu, c _ B H (Stp.refl k) ⟨_, rfl⟩⟩) h1 h2
end
end G
set_option Elab.async false
set_option linter.all false
set_option maxRecDepth 100000
set_option maxHeartbeats 2000000
namespace G
open PySem L2
section
variable {g : Gx} {Γ : Gm} {P Q R : Pr} {e e1 e2 tg : Expr} {pos p2 : Pos} {D : En} {st : Stmt} {ss rest : List Stmt} {rs qs : List Pr}
/-- a walk whose length is known by words only -/
structure JIx (g : Gx) (tg iter : Expr) (Γ : Gm) (φ : Nat → Prop) (it : Nat → Pr) : Prop where
  run : g.Wf → ∀ σ B H, Sta g.b Γ σ B H → tI g.X tg iter σ H (fun J H1 => ∃ n, φ n ∧ ∃ B1, Aft g.b Γ σ B H B1 H1 ∧ Gives B1 n it J)
theorem i_range1x {ψ : Int → Prop} {p : Pos} (hm : g.X.mg "range" = none) (hb : ∀ j, ψ j → -(2 ^ 62) ≤ j ∧ j < 2 ^ 62) (h : JE g e Γ (rIx ψ)) (hg : Gl g.X "range" := by rfl) (hs : starEach [e] g.X.env = [(false, eval e g.X.env)] := by rfl) :
    JIx g tg (.Call (.Name "range" p) [e] [] pos) Γ (fun n => ∃ j, ψ j ∧ n = j.toNat) (fun i => rI (i : Int)) :=
  ⟨fun w σ B H s => ofI (pi_range1 hg hm pA hs) (((a_cons h a_nil hs).run w σ B H s).mono fun vs H1 ⟨B1, a1, f⟩ => by
    obtain ⟨v, rfl, j, hj, e⟩ := f.one
    refine ⟨j, by rw [e], (hb j hj).1, (hb j hj).2, j.toNat, ⟨j, hj, rfl⟩, B1, a1, _, _, walk_range, fun _ _ _ _ => trivial, fun i H2 x H3 B2 hi l k y => ?_⟩
    obtain ⟨e2, e3⟩ := y
    subst e2
    exact ⟨B2, Stp.refl k, by rw [e3]; show V.int (0 + (i : Int)) = _; rw [Int.zero_add]⟩)⟩
theorem y_lcx {elt iter : Expr} {ifs : List Expr} {scope : Scope} (own : List (Str × Nat)) {φ : Nat → Prop} {it : Nat → Pr} {Γ2 : Nat → Gm} (c : Nat → Bool) (q : Nat → Pr) {sl : List Nat} (hI : JIx g tg iter Γ φ it) (hn : ∀ n, φ n → n < sizeLine)
    (hg : AnyB scope g fun g' => ∀ i, JG g' tg (it i) (wipeG Γ (own.map (·.2))) (Γ2 i) sl) (hsl : ∀ i ∈ sl, i ∈ own.map (·.2) := by decide)
    (ht : AnyB scope g fun g' => ∀ i, JTs g' ifs (Γ2 i) (c i)) (he : AnyB scope g fun g' => ∀ i, c i = true → JE g' elt (Γ2 i) (q i))
    (ok : BlkOk g.X.N g.X.env.scope scope own) (hs : ∀ x, foldedSetIterable iter g.X.env x = pure x := by intro _; rfl) (hcm : g.X.calm = true := by rfl) : JO g (.ListComp elt [⟨tg, iter, ifs, 0⟩] scope pos) Γ (Oc.exs φ (fun n => oL (gv n c q)) 0) := by
  refine ⟨fun w σ B H s => ?_⟩
  refine ofE (pe_lc (own := own) (wi := tI g.X tg iter) (g := bG g scope tg) (tt := bT g scope ifs) (te := bE g scope elt)
    hcm w.nd pI ok (fun s0 H0 C cl fp => ⟨fun pins s σ H v u Q I r h => h s0 H0 C cl fp pins s u I r⟩) (fun s0 H0 C cl fp => ⟨fun pins s σ H Q I h => h s0 H0 C cl fp pins s I⟩) (fun s0 H0 C cl fp => ⟨fun pins s σ H Q I h => h s0 H0 C cl fp pins s I⟩) hs) ?_
  intro pins s1 I1
  refine thn (hI.run w σ B H s pins s1 I1) fun v s2 h2 => thn h2 fun itv s3 h3 => ?_
  obtain ⟨itA, fp, tn, J, H3, e1, e2, e3, e4, e5, n, hφ, B1, a1, Gw, Y, wk, kg, ky⟩ := h3
  refine ⟨itA, fp, tn, J, H3, e1, e2, e3, e4, e5, fun Dl hD => ?_⟩
  have hDn : H Dl = none := a1.th hD
  refine lc_it (g := bG g scope tg) (tt := bT g scope ifs) (te := bE g scope elt) (vs := own.map (·.2)) (σ := σ) (H1 := H3) (D := Dl) (Qd := fun H' => ∃ B', Aft g.b Γ σ B H B' H' ∧ Own g.b (Oc.exs φ (fun n => oL (gv n c q)) 0) (.ref Dl) B' H' ∧ ∀ a ∈ (Oc.exs φ (fun n => oL (gv n c q)) 0).ad (.ref Dl) H', H a = none) wk (fun i H' => ∃ B' acc, Stp B H B' H' ∧ Le B1 B' ∧ B' Dl = none ∧ H' Dl = some (.lst acc) ∧ F2 B' acc (gv i c q)) ?_ (fun i H' hi ⟨B', acc, t, l, _⟩ => kg B' H' l t.ok) ?_ ?_
  · exact ⟨B1, [], (a1.trans (a1.sta.beside hD)).t, Le.refl _, a1.sta.st.ok.none hD, upd_same, trivial⟩
  · intro i x H' H'' hi ⟨B', acc, t, l, nD, hacc, f⟩ y
    obtain ⟨B2, t2, p⟩ := ky i H' x H'' B' hi l t.ok y
    have tt2 : Stp B H B2 H'' := t.trans t2
    have nD2 : B2 Dl = none := by
      cases z : B2 Dl with
      | none => rfl
      | some k => exact (Hard.no (by rw [hacc]; exact hard_lst) (t2.new Dl nD k z)).elim
    have hacc2 : H'' Dl = some (.lst acc) := t2.keep Dl _ hacc fun φ z => by rw [nD] at z; cases z
    have sw := ((s.step tt2).sta).wipe (own.map (·.2))
    intro s0 H0 C cl fp'
    refine (hg s0 H0 C cl fp' i).run w.blk _ B2 H'' x sw p _ fun σ2 s4 hw => ?_
    refine ⟨?_, fun s0 H0 C cl fp' => ?_⟩
    · have z := hw (own.map (·.2)) hsl
      rw [z]
      exact wipe_wipe σ _
    · refine (ht s0 H0 C cl fp' i).run w.blk σ2 B2 H'' s4 _ fun B5 H5 a5 => ?_
      have nD5 : B5 Dl = none := by
        cases z : B5 Dl with
        | none => rfl
        | some k => exact (Hard.no (by rw [hacc2]; exact hard_lst) (a5.t.new Dl nD2 k z)).elim
      have hacc5 : H5 Dl = some (.lst acc) := a5.t.keep Dl _ hacc2 fun φ z => by rw [nD2] at z; cases z
      cases hc : c i with
      | true =>
        rw [if_pos rfl]
        intro s0 H0 C cl fp'
        refine ((he s0 H0 C cl fp' i hc).run w.blk σ2 B5 H5 a5.sta).mono fun y H6 ⟨B6, a6, py⟩ => ?_
        have nD6 : B6 Dl = none := by
          cases z : B6 Dl with
          | none => rfl
          | some k => exact (Hard.no (by rw [hacc5]; exact hard_lst) (a6.t.new Dl nD5 k z)).elim
        have hacc6 : H6 Dl = some (.lst acc) := a6.t.keep Dl _ hacc5 fun φ z => by rw [nD5] at z; cases z
        refine ⟨acc, hacc6, ?_, B6, acc ++ [y], (tt2.trans (a5.t.trans a6.t)).chg' nD6 hDn, l.trans (t2.le.trans (a5.le.trans a6.le)), nD6, upd_same, ?_⟩
        · rw [f.len]; exact Nat.lt_of_le_of_lt (gv_len i c q) (Nat.lt_trans hi (hn n hφ))
        · rw [gv_succ, if_pos hc]
          exact (f.mono (t2.le.trans (a5.le.trans a6.le))).append ⟨py, trivial⟩
      | false =>
        rw [if_neg (by decide)]
        refine ⟨B5, acc, tt2.trans a5.t, l.trans (t2.le.trans a5.le), nD5, hacc5, ?_⟩
        rw [gv_succ, if_neg (by rw [hc]; decide), List.append_nil]
        exact f.mono (t2.le.trans a5.le)
  · intro H' ⟨B', acc, t, l, nD, hacc, f⟩
    have o := own_mk nD (s.st.bnone hDn) hacc f
    exact ⟨B', s.step t, ⟨o.nb, o.nh, o.th, n, hφ, o.at_⟩, one_fresh hDn⟩
theorem F2.repl {B : Bs} {ψ : Int → Prop} : ∀ {n : Nat} {vs : List V}, F2 B vs (List.replicate n (rIx ψ)) → ∃ ns : List Int, ns.length = n ∧ (∀ x ∈ ns, ψ x) ∧ F2 B vs (ns.map rI)
  | 0, [], _ => ⟨[], rfl, by simp, trivial⟩
  | n + 1, v :: vs, f => by
    obtain ⟨j, hj, e⟩ := f.1
    obtain ⟨ns, a, b, c⟩ := F2.repl (n := n) (vs := vs) f.2
    exact ⟨j :: ns, by simp [a], by simpa [hj] using b, e, c⟩
  | 0, _ :: _, f => f.elim
  | _ + 1, [], f => f.elim
theorem gv_const (n : Nat) (P : Pr) : gv n (fun _ => true) (fun _ => P) = List.replicate n P := by
  rw [gv_all, List.map_const', List.length_range]
/-- ints of which words only are known, as many as the words on the number allow -/
theorem ints_x {φ : Nat → Prop} {ψ : Int → Prop} (h : JO g e Γ (Oc.exs φ (fun n => oL (gv n (fun _ => true) fun _ => rIx ψ)) 0)) :
    JE g e Γ (Pr.exs (fun ns : List Int => φ ns.length ∧ ∀ x ∈ ns, ψ x) fun ns => rLs g.X.K (ns.map rI)) :=
  h.hand fun B H v nb nh ⟨n, hn, hr⟩ => by
    have z := fz_oL (K := g.X.K) B H v nb hr
    rw [gv_const] at z
    obtain ⟨p, vs, e, a, f⟩ := z
    obtain ⟨ns, l, q, k⟩ := F2.repl f
    exact ⟨ns, ⟨by rw [l]; exact hn, q⟩, p, vs, e, a, k⟩
end
end G
set_option Elab.async false
set_option linter.all false
set_option maxRecDepth 100000
set_option maxHeartbeats 2000000
namespace G
open PySem L2
theorem cut1 {α : Type} (xs : List α) : cutP xs (some 1) none = xs.drop 1 := by
  unfold cutP
  have e1 : HT.sIx xs.length 0 (some 1) = min 1 xs.length := HT.sIx_nat _ _ 1
  rw [e1, HT.sIx_none]
  by_cases h : xs.length = 0
  · have : xs = [] := List.length_eq_zero_iff.mp h
    subst this; rfl
  · have e2 : min 1 xs.length = 1 := by omega
    rw [e2, List.take_of_length_le (by rw [List.length_drop]; omega)]
theorem dep_ints : ∀ xs : List Int, PyData.depthAll (xs.map .int) = 0
  | [] => by simp [PyData.depthAll]
  | x :: xs => by
    show PyData.depthAll (.int x :: xs.map .int) = 0
    rw [PyData.depthAll, dep_ints xs]
    simp [PyData.depth]
theorem alk_ints : ∀ xs ys : List Int, PySem.W.alikeAll (xs.map .int) (ys.map .int) = true
  | [], _ => by simp [PySem.W.alikeAll]
  | _ :: _, [] => by simp [PySem.W.alikeAll]
  | x :: xs, y :: ys => by
    show PySem.W.alikeAll (.int x :: xs.map .int) (.int y :: ys.map .int) = true
    rw [PySem.W.alikeAll, alk_ints xs ys]
    simp [PySem.W.alike]
def dIs (ns : List Int) : PyData := .list (ns.map PyData.int)
theorem canI (ns : List Int) : (dIs ns).canLay0 = true := by
  have h := PySem.W.ke_shaped_ints ns
  exact SeqAt.canLay_of_shaped h
theorem depI (ns : List Int) : (dIs ns).depth ≤ 1 := by
  unfold dIs
  rw [PyData.depth, dep_ints]
  exact Nat.le_refl _
theorem shapedR (rs : List (List Int)) : SeqAt.shaped (.list (rs.map dIs)) = true := by
  have a : PyData.canLayAll0 (rs.map dIs) = true := by
    induction rs with
    | nil => rfl
    | cons r rs ih => rw [List.map_cons, PyData.canLayAll0, canI, ih]; rfl
  have b : PyData.depthAll (rs.map dIs) ≤ 1 := by
    induction rs with
    | nil => simp [PyData.depthAll]
    | cons r rs ih =>
      rw [List.map_cons, PyData.depthAll]
      have := depI r
      exact Nat.max_le.mpr ⟨this, ih (by rw [List.map_cons, PyData.canLayAll0] at a; exact (Bool.and_eq_true_iff.mp a).2)⟩
  show (PyData.canLay0 (.list _) && decide _) = true
  rw [PyData.canLay0, a, PyData.depth]
  simp
  omega
section
variable {g : Gx} {Γ : Gm} {P Q R : Pr} {e e1 e2 tg : Expr} {pos p2 : Pos} {D : En} {st : Stmt} {ss rest : List Stmt} {rs qs : List Pr} {U : Uv}
theorem hd_is {ns : List Int} : HasD g.X.K (rLs g.X.K (ns.map G.rI)) (dIs ns) := hd_L (hds_map (fun _ => hd_I) ns)
theorem hd_rs {K : PySem.W.Frag} {rs : List (List Int)} : HasD K (rLs K ((rs.map (·.map G.rI)).map (rLs K))) (.list (rs.map dIs)) := by
  rw [List.map_map]
  exact hd_L (hds_map (r := fun ns : List Int => rLs K (ns.map G.rI)) (fun _ => hd_L (hds_map (fun _ => hd_I) _)) rs)
theorem x_ltIs {ns ms : List Int} (h1 : JE g e1 Γ (rLs g.X.K (ns.map G.rI))) (h2 : JE g e2 Γ (rLs g.X.K (ms.map G.rI))) (hcm : g.X.calm = true := by rfl) : JE g (.Compare e1 [.Lt] [e2] pos) Γ (rB (HT.lexLt ns ms)) :=
  (x_ltD (hcm := hcm) h1 h2 hd_is hd_is (by unfold dIs; show PySem.W.alike _ _ = true; rw [PySem.W.alike]; exact alk_ints _ _) (by unfold dIs; simp) (Nat.le_trans (depI _) (by decide))).to (by
    rw [← lt_ints]
    exact congrArg rB (PySem.W.dataLt_list _ _))
/-- an item whose place is known by words only -/
theorem x_ixLx {φ : Int → Prop} (hj : ∀ j, φ j → ∃ S, atI rs j = some S ∧ ∀ B v, S.r B v → R.r B v) (h1 : JE g e1 Γ (rLs g.X.K rs)) (h2 : JE g e2 Γ (rIx φ)) (hs : PlainIx e2 := by exact fun _ _ => rfl) : JE g (.Subscript e1 e2 pos) Γ R :=
  x_ix (P := rLs g.X.K rs) (Q := rIx φ) ix_list (fun B H v u K k ⟨p, vs, e, a, f⟩ ⟨j, pj, q⟩ c => by
    obtain ⟨S, hj, sr⟩ := hj j pj
    subst e; cases q
    have hl := f.len
    unfold atI at hj
    rw [← hl] at hj
    cases hn : ixN vs.length j with
    | none => rw [hn] at hj; cases hj
    | some m =>
      rw [hn] at hj
      obtain ⟨v, e, z⟩ := f.get (i := m) (r := S) hj
      exact ⟨p, vs, j, v, rfl, rfl, a.sq k, by unfold atI; rw [hn]; exact e, c v B H (Stp.refl k) (sr _ _ z)⟩) h1 h2 hs
/-- a call whose ghost is found with the arguments -/
theorem y_callx {x : Str} {k : Nat} {ps : List Str} {ι : Type} {φ : ι → Cs} {es : List Expr} {p : Pos} {c : Oc} {Ps : List Pr} (F : Fd U x k ps φ) (h : JA g (e :: es) Γ Ps) (hi : ∀ B vs, F2 B vs Ps → ∃ i, F2 B vs (φ i).as ∧ (φ i).pre ∧ ∀ b1, (φ i).rs b1 = .ow c) (hx : ∀ i, Lets g Γ (φ i).exc := by exact fun _ => Lets.none) (hk : k ≤ g.k := by exact Nat.le_of_ble_eq_true rfl)
    (hU : UvOf U g.X := by exact ⟨rfl, rfl, rfl, rfl, rfl⟩) (hg : Gl g.X x := by rfl) (hdb : (x == ("__debug__" : Str)) = false := by decide) (he : starEach (e :: es) g.X.env = (false, eval e g.X.env) :: starEach es g.X.env := by rfl) (hpl : (backTo pos (starEach es g.X.env)).any (·.1) = false := by rfl) (hcm : g.X.calm = true := by rfl) :
    JO g (.Call (.Name x p) (e :: es) [] pos) Γ c := by
  obtain ⟨f, fd, a, kp, cc, d⟩ := F.ok
  obtain ⟨u1, u2, u3, u4, u5⟩ := hU
  refine ⟨fun w σ B H s => ?_⟩
  refine (ofE (pe_callS (E := L2.WE g.W) (by rw [u1, u2, u3, u4, u5]; exact d) ((w.hr hcm).mono hk) hg (by rw [u4]; exact a) (by rw [u3]; exact kp) (by rw [u3]; exact cc) (by rw [← u1, ← u2]; exact fun σ => passAt w.tk σ) pA hdb he hpl) ?_)
  refine (h.run w σ B H s).mono fun vs H1 ⟨B1, a1, q⟩ => ?_
  obtain ⟨i, q', hp, hs⟩ := hi _ _ q
  have z := call_run (φ := φ) (i := i) s a1 hp q' (hx i) (K := fun v H' => ∃ B', Aft g.b Γ σ B H B' H' ∧ Own g.b c v B' H' ∧ ∀ a ∈ c.ad v H', H a = none) fun v B' H' a r => by
    rw [hs] at r
    have r : Own ⟨B1, H1⟩ c v B' H' := r
    exact ⟨B', a, ⟨r.nb, fun x hx => a1.sta.st.bnone (r.nh x hx), r.th, r.at_⟩, fun x hx => a1.th (r.nh x hx)⟩
  rw [List.append_nil] at z
  exact z
end
end G
set_option Elab.async false
set_option linter.all false
set_option maxRecDepth 100000
set_option maxHeartbeats 2000000
namespace G
open PySem L2
section
variable {g : Gx} {Γ : Gm} {P Q R : Pr} {e e1 e2 tg : Expr} {pos p2 : Pos} {D : En} {st : Stmt} {ss rest : List Stmt} {rs qs : List Pr}
structure JLc (g : Gx) (elt tg iter : Expr) (ifs : List Expr) (scope : Scope) (own : List (Str × Nat)) (Γ : Gm) (c : Oc) : Prop where
  ok : BlkOk g.X.N g.X.env.scope scope own
  run : g.Wf → ∀ σ B H, Sta g.b Γ σ B H → ∃ tt : L2.TT, (∀ (s : Shared) (H : Hp) (C : Addr) (cl : List (Str × Addr)) (fp : List Addr), PTs (g.blk s H scope C cl fp).X ifs tt) ∧ tLc (tI g.X tg iter) (bG g scope tg) tt (bE g scope elt) (own.map (·.2)) σ H fun v H' => ∃ B', Aft g.b Γ σ B H B' H' ∧ Own g.b c v B' H' ∧ ∀ a ∈ c.ad v H', H a = none
theorem tLc_mono {X : Cx} {iter : Expr} {gg : TG} {tt : L2.TT} {te : L2.TE} {vs : List Nat} {σ : L2.St} {H : Hp} {Q Q' : VK} (h : tLc (tI X tg iter) gg tt te vs σ H Q) (k : ∀ v H', Q v H' → Q' v H') : tLc (tI X tg iter) gg tt te vs σ H Q' := fun pins s I =>
  thn (h pins s I) fun v s2 h2 => thn h2 fun itv s3 ⟨itA, fp, tn, J, H3, e1, e2, e3, e4, e5, r⟩ => ⟨itA, fp, tn, J, H3, e1, e2, e3, e4, e5, fun D hD => let ⟨W, w0, w⟩ := r D hD; ⟨W, w0, fun i m H hw => (w i m H hw).imp (fun ⟨a, b⟩ => ⟨a, k _ _ b⟩) id⟩⟩
theorem JLc.y {elt iter : Expr} {ifs : List Expr} {scope : Scope} {own : List (Str × Nat)} {c : Oc} (h : JLc g elt tg iter ifs scope own Γ c) (hs : ∀ x, foldedSetIterable iter g.X.env x = pure x := by intro _; rfl) (hcm : g.X.calm = true := by rfl) : JO g (.ListComp elt [⟨tg, iter, ifs, 0⟩] scope pos) Γ c := by
  refine ⟨fun w σ B H s => ?_⟩
  obtain ⟨tt, ht, r⟩ := h.run w σ B H s
  exact ofE (pe_lc (own := own) (wi := tI g.X tg iter) (g := bG g scope tg) (tt := tt) (te := bE g scope elt)
    hcm w.nd pI h.ok (fun s0 H0 C cl fp => ⟨fun pins s σ H v u Q I r h => h s0 H0 C cl fp pins s u I r⟩) ht (fun s0 H0 C cl fp => ⟨fun pins s σ H Q I h => h s0 H0 C cl fp pins s I⟩) hs) r
/-- name = [..] on one line, the name a local -/
theorem s_lc (i : Nat) {x : Str} {py : Pos} {elt iter : Expr} {ifs : List Expr} {scope : Scope} {own : List (Str × Nat)} {spos : Pos} {c : Oc} (h : JLc g elt tg iter ifs scope own Γ c) (k : JS g rest (Γ.set i (some (.ow c))) D) (hN : g.X.N[i]? = some x := by rfl) (hl : g.X.env.scope.names.lookup x = some .local := by rfl)
    (hk : g.X.env.scope.kind = .function := by rfl) (hp : (py.line == pos.line) = true := by rfl) (ha : (scope.names.any fun (n, k) => n == x && (k == .local || k == .cell)) = false := by rfl)
    (hs : ∀ x, foldedSetIterable iter g.X.env x = pure x := by intro _; rfl) (hcm : g.X.calm = true := by rfl) : JS g (.Assign [.Name x py] (.ListComp elt [⟨tg, iter, ifs, 0⟩] scope pos) spos :: rest) Γ D :=
  js_cons fun w σ B H s => by
    obtain ⟨tt, ht, r⟩ := h.run w σ B H s
    exact of1 (ps_setLc (own := own) (wi := tI g.X tg iter) (g := bG g scope tg) (tt := tt) (te := bE g scope elt) hcm w.nd hN hl (sw_true hk hl hp ha) pI h.ok (fun s0 H0 C cl fp => ⟨fun pins s σ H v u Q I r h => h s0 H0 C cl fp pins s u I r⟩) ht (fun s0 H0 C cl fp => ⟨fun pins s σ H Q I h => h s0 H0 C cl fp pins s I⟩) hs)
      (tLc_mono r fun v H' ⟨B', a, o, n⟩ => k.go w a.le (a.sta.setO o (s.notOwn a.t n)))

theorem l_borG (i : Nat) {elt iter : Expr} {ifs : List Expr} {scope : Scope} {own : List (Str × Nat)} {c d : Oc} (R : Pr) (h : JLc g elt tg iter ifs scope own (Γ.set i (some (.sh R))) d) (hf : FreeO d) (hk : ∀ B H v, (∀ a ∈ c.ad v H, B a = none) → c.r B H v → R.r (putH B H (c.ad v H)) v) (hi : Γ[i]? = some (some (.ow c)) := by rfl) : JLc g elt tg iter ifs scope own Γ d :=
  ⟨h.ok, fun w σ B H s => by
    obtain ⟨v, e, o, l, s2⟩ := s.hand hi hk
    obtain ⟨tt, ht, r⟩ := h.run w σ _ H s2
    refine ⟨tt, ht, tLc_mono r fun u H' ⟨B', a, q, n⟩ => ⟨_, borrow_back s hi e o a, ⟨fun x hx => ?_, q.nh, q.th, hf _ _ _ _ q.at_⟩, n⟩⟩
    unfold delL
    split
    · rfl
    · exact q.nb x hx⟩

theorem l_lc {elt iter : Expr} {ifs : List Expr} {scope : Scope} (own : List (Str × Nat)) {n : Nat} {it : Nat → Pr} {Γ2 : Nat → Gm} (c : Nat → Bool) (q : Nat → Pr) {sl : List Nat} (hI : JI g tg iter Γ n it) (hn : n < sizeLine)
    (hg : AnyB scope g fun g' => ∀ i, i < n → JG g' tg (it i) (wipeG Γ (own.map (·.2))) (Γ2 i) sl) (hsl : ∀ i ∈ sl, i ∈ own.map (·.2) := by decide)
    (ht : AnyB scope g fun g' => ∀ i, i < n → JTs g' ifs (Γ2 i) (c i)) (he : AnyB scope g fun g' => ∀ i, i < n → c i = true → JE g' elt (Γ2 i) (q i))
    (ok : BlkOk g.X.N g.X.env.scope scope own) : JLc g elt tg iter ifs scope own Γ (oL (gv n c q)) := by
  refine ⟨ok, fun w σ B H s => ⟨bT g scope ifs, fun s0 H0 C cl fp => ⟨fun pins s σ H Q I h => h s0 H0 C cl fp pins s I⟩, ?_⟩⟩
  intro pins s1 I1
  refine thn (hI.run w σ B H s pins s1 I1) fun v s2 h2 => thn h2 fun itv s3 h3 => ?_
  obtain ⟨itA, fp, tn, J, H3, e1, e2, e3, e4, e5, B1, a1, Gw, Y, wk, kg, ky⟩ := h3
  refine ⟨itA, fp, tn, J, H3, e1, e2, e3, e4, e5, fun Dl hD => ?_⟩
  have hDn : H Dl = none := a1.th hD
  refine lc_it (g := bG g scope tg) (tt := bT g scope ifs) (te := bE g scope elt) (vs := own.map (·.2)) (σ := σ) (H1 := H3) (D := Dl) (Qd := fun H' => ∃ B', Aft g.b Γ σ B H B' H' ∧ Own g.b (oL (gv n c q)) (.ref Dl) B' H' ∧ ∀ a ∈ (oL (gv n c q)).ad (.ref Dl) H', H a = none) wk (fun i H' => ∃ B' acc, Stp B H B' H' ∧ Le B1 B' ∧ B' Dl = none ∧ H' Dl = some (.lst acc) ∧ F2 B' acc (gv i c q)) ?_ (fun i H' hi ⟨B', acc, t, l, _⟩ => kg B' H' l t.ok) ?_ ?_
  · exact ⟨B1, [], (a1.trans (a1.sta.beside hD)).t, Le.refl _, a1.sta.st.ok.none hD, upd_same, trivial⟩
  · intro i x H' H'' hi ⟨B', acc, t, l, nD, hacc, f⟩ y
    obtain ⟨B2, t2, p⟩ := ky i H' x H'' B' hi l t.ok y
    have tt2 : Stp B H B2 H'' := t.trans t2
    have nD2 : B2 Dl = none := by
      cases z : B2 Dl with
      | none => rfl
      | some k => exact (Hard.no (by rw [hacc]; exact hard_lst) (t2.new Dl nD k z)).elim
    have hacc2 : H'' Dl = some (.lst acc) := t2.keep Dl _ hacc fun φ z => by rw [nD] at z; cases z
    have sw := ((s.step tt2).sta).wipe (own.map (·.2))
    intro s0 H0 C cl fp'
    refine (hg s0 H0 C cl fp' i hi).run w.blk _ B2 H'' x sw p _ fun σ2 s4 hw => ?_
    refine ⟨?_, fun s0 H0 C cl fp' => ?_⟩
    · have z := hw (own.map (·.2)) hsl
      rw [z]
      exact wipe_wipe σ _
    · refine (ht s0 H0 C cl fp' i hi).run w.blk σ2 B2 H'' s4 _ fun B5 H5 a5 => ?_
      have nD5 : B5 Dl = none := by
        cases z : B5 Dl with
        | none => rfl
        | some k => exact (Hard.no (by rw [hacc2]; exact hard_lst) (a5.t.new Dl nD2 k z)).elim
      have hacc5 : H5 Dl = some (.lst acc) := a5.t.keep Dl _ hacc2 fun φ z => by rw [nD2] at z; cases z
      cases hc : c i with
      | true =>
        rw [if_pos rfl]
        intro s0 H0 C cl fp'
        refine ((he s0 H0 C cl fp' i hi hc).run w.blk σ2 B5 H5 a5.sta).mono fun y H6 ⟨B6, a6, py⟩ => ?_
        have nD6 : B6 Dl = none := by
          cases z : B6 Dl with
          | none => rfl
          | some k => exact (Hard.no (by rw [hacc5]; exact hard_lst) (a6.t.new Dl nD5 k z)).elim
        have hacc6 : H6 Dl = some (.lst acc) := a6.t.keep Dl _ hacc5 fun φ z => by rw [nD5] at z; cases z
        refine ⟨acc, hacc6, ?_, B6, acc ++ [y], (tt2.trans (a5.t.trans a6.t)).chg' nD6 hDn, l.trans (t2.le.trans (a5.le.trans a6.le)), nD6, upd_same, ?_⟩
        · rw [f.len]; exact Nat.lt_of_le_of_lt (gv_len i c q) (Nat.lt_trans hi hn)
        · rw [gv_succ, if_pos hc]
          exact (f.mono (t2.le.trans (a5.le.trans a6.le))).append ⟨py, trivial⟩
      | false =>
        rw [if_neg (by decide)]
        refine ⟨B5, acc, tt2.trans a5.t, l.trans (t2.le.trans a5.le), nD5, hacc5, ?_⟩
        rw [gv_succ, if_neg (by rw [hc]; decide), List.append_nil]
        exact f.mono (t2.le.trans a5.le)
  · intro H' ⟨B', acc, t, l, nD, hacc, f⟩
    exact ⟨B', s.step t, own_mk nD (s.st.bnone hDn) hacc f, one_fresh hDn⟩

theorem l_lcO {elt iter : Expr} {scope : Scope} (own : List (Str × Nat)) {n : Nat} {it : Nat → Pr} {Γ2 : Nat → Gm} (q : Nat → List Pr) {sl : List Nat} (hI : JI g tg iter Γ n it) (hn : n < sizeLine)
    (hg : AnyB scope g fun g' => ∀ i, i < n → JG g' tg (it i) (wipeG Γ (own.map (·.2))) (Γ2 i) sl) (he : AnyB scope g fun g' => ∀ i, i < n → JO g' elt (Γ2 i) (oL (q i)))
    (hsl : ∀ i ∈ sl, i ∈ own.map (·.2) := by decide) (ok : BlkOk g.X.N g.X.env.scope scope own := by exact blkOk_by (by rfl)) : JLc g elt tg iter [] scope own Γ (oLL ((List.range n).map q)) := by
  refine ⟨ok, fun w σ B H s => ⟨tYes, fun s0 H0 C cl fp => pts_nil, ?_⟩⟩
  intro pins s1 I1
  refine thn (hI.run w σ B H s pins s1 I1) fun v s2 h2 => thn h2 fun itv s3 h3 => ?_
  obtain ⟨itA, fp, tn, J, H3, e1, e2, e3, e4, e5, B1, a1, Gw, Y, wk, kg, ky⟩ := h3
  refine ⟨itA, fp, tn, J, H3, e1, e2, e3, e4, e5, fun Dl hD => ?_⟩
  have hDn : H Dl = none := a1.th hD
  have agr : ∀ {B' B2 : Bs} {H' H2 : Hp} {as : List Addr}, Stp B' H' B2 H2 → (∀ a ∈ as, B' a = none) → (∀ a ∈ as, Hard (H' a)) → (∀ a ∈ as, H2 a = H' a) ∧ ∀ a ∈ as, B2 a = none := fun {B' B2 H' H2 as} t nB nH => by
    refine ⟨fun a m => ?_, fun a m => ?_⟩
    · cases e : H' a with
      | none => exact absurd e (nH a m).ne
      | some o => exact t.keep a o e fun φ z => by rw [nB a m] at z; cases z
    · cases z : B2 a with
      | none => rfl
      | some k => exact ((nH a m).no (t.new a (nB a m) k z)).elim
  refine lc_it (g := bG g scope tg) (tt := tYes) (te := bE g scope elt) (vs := own.map (·.2)) (σ := σ) (H1 := H3) (D := Dl) (Qd := fun H' => ∃ B', Aft g.b Γ σ B H B' H' ∧ Own g.b (oLL ((List.range n).map q)) (.ref Dl) B' H' ∧ ∀ a ∈ (oLL ((List.range n).map q)).ad (.ref Dl) H', H a = none)
    wk (fun i H' => ∃ B' acc, Stp B H B' H' ∧ Le B1 B' ∧ (∀ a ∈ Dl :: acc.flatMap one, B' a = none) ∧ (∀ a ∈ Dl :: acc.flatMap one, Hard (H' a)) ∧ (∀ a ∈ Dl :: acc.flatMap one, H a = none) ∧ H' Dl = some (.lst acc) ∧ Dl ∉ acc.flatMap one ∧ RowsOk B' H' acc ((List.range i).map q)) ?_ (fun i H' hi ⟨B', acc, t, l, _⟩ => kg B' H' l t.ok) ?_ ?_
  · refine ⟨B1, [], (a1.trans (a1.sta.beside hD)).t, Le.refl _, fun a m => ?_, fun a m => ?_, fun a m => ?_, upd_same, by simp, trivial⟩
    · have e : a = Dl := by simpa using m
      rw [e]; exact a1.sta.st.ok.none hD
    · have e : a = Dl := by simpa using m
      rw [e, upd_same]; exact hard_lst
    · have e : a = Dl := by simpa using m
      rw [e]; exact hDn
  · intro i x H' H'' hi ⟨B', acc, t, l, nB, nH, nH0, hacc, nD, f⟩ y
    obtain ⟨B2, t2, p⟩ := ky i H' x H'' B' hi l t.ok y
    obtain ⟨ag2, nB2⟩ := agr t2 nB nH
    have sw := ((s.step (t.trans t2)).sta).wipe (own.map (·.2))
    intro s0 H0 C cl fp'
    refine (hg s0 H0 C cl fp' i hi).run w.blk _ B2 H'' x sw p _ fun σ2 s4 hw => ?_
    refine ⟨by rw [hw (own.map (·.2)) hsl]; exact wipe_wipe σ _, ?_⟩
    simp only [tYes, if_true]
    intro s0 H0 C cl fp'
    refine ((he s0 H0 C cl fp' i hi).run w.blk σ2 B2 H'' s4).mono fun y H6 ⟨B6, a6, oy, ny⟩ => ?_
    obtain ⟨py, ws, ey, nby, nhy, hpy, fy⟩ := own_one oy
    subst ey
    have nH2 : ∀ a ∈ Dl :: acc.flatMap one, Hard (H'' a) := fun a m => by rw [ag2 a m]; exact nH a m
    obtain ⟨ag6, nB6⟩ := agr a6.t nB2 nH2
    have nH6 : ∀ a ∈ Dl :: acc.flatMap one, Hard (H6 a) := fun a m => by rw [ag6 a m]; exact nH2 a m
    have hacc6 : H6 Dl = some (.lst acc) := by rw [ag6 Dl (List.mem_cons_self ..), ag2 Dl (List.mem_cons_self ..)]; exact hacc
    have fy0 : H'' py = none := ny py (mem_one.mpr rfl)
    have pD : py ≠ Dl := by
      rintro rfl
      exact (nH2 _ (List.mem_cons_self ..)).ne fy0
    have py0 : H py = none := by
      have tt := t.trans t2
      exact tt.bnone fy0
    refine ⟨acc, hacc6, ?_, B6, acc ++ [.ref py], ((t.trans t2).trans a6.t).chg' (nB6 Dl (List.mem_cons_self ..)) hDn, l.trans (t2.le.trans a6.le), fun a m => ?_, fun a m => ?_, fun a m => ?_, upd_same, ?_, ?_⟩
    · rw [f.len, List.length_map, List.length_range]; exact Nat.lt_trans hi hn
    · rcases List.mem_cons.mp m with e | m
      · rw [e]; exact nB6 Dl (List.mem_cons_self ..)
      · rw [List.flatMap_append] at m
        rcases List.mem_append.mp m with m | m
        · exact nB6 a (List.mem_cons_of_mem _ m)
        · have e : a = py := by simpa [one] using m
          rw [e]; exact nby
    · by_cases q : a = Dl
      · subst q; rw [upd_same]; exact hard_lst
      · rw [upd_ne q]
        rcases List.mem_cons.mp m with e | m
        · exact absurd e q
        · rw [List.flatMap_append] at m
          rcases List.mem_append.mp m with m | m
          · exact nH6 a (List.mem_cons_of_mem _ m)
          · have e : a = py := by simpa [one] using m
            rw [e, hpy]; exact hard_lst
    · rcases List.mem_cons.mp m with e | m
      · rw [e]; exact hDn
      · rw [List.flatMap_append] at m
        rcases List.mem_append.mp m with m | m
        · exact nH0 a (List.mem_cons_of_mem _ m)
        · have e : a = py := by simpa [one] using m
          rw [e]; exact py0
    · rw [List.flatMap_append]
      intro m
      rcases List.mem_append.mp m with m | m
      · exact nD m
      · have e : Dl = py := by simpa [one] using m
        exact pD e.symm
    · rw [List.range_succ, List.map_append]
      refine RowsOk.append ?_ ⟨⟨py, ws, rfl, by rw [upd_ne pD]; exact hpy, fy⟩, trivial⟩
      refine RowsOk.agree (H := H') (fun a m => ?_) (f.mono (t2.le.trans a6.le))
      have ne : a ≠ Dl := fun e => nD (e ▸ m)
      rw [upd_ne ne, ag6 a (List.mem_cons_of_mem _ m), ag2 a (List.mem_cons_of_mem _ m)]
  · intro H' ⟨B', acc, t, l, nB, nH, nH0, hacc, nD, f⟩
    have ea : (oLL ((List.range n).map q)).ad (.ref Dl) H' = Dl :: acc.flatMap one := adLL_at hacc
    exact ⟨B', s.step t, ⟨fun a m => nB a (ea ▸ m), fun a m => s.st.bnone (nH0 a (ea ▸ m)), fun a m => nH a (ea ▸ m), Dl, acc, rfl, hacc, nD, f⟩, fun a m => nH0 a (ea ▸ m)⟩


theorem l_lcx {elt iter : Expr} {ifs : List Expr} {scope : Scope} (own : List (Str × Nat)) {φ : Nat → Prop} {it : Nat → Pr} {Γ2 : Nat → Gm} (c : Nat → Bool) (q : Nat → Pr) {sl : List Nat} (hI : JIx g tg iter Γ φ it) (hn : ∀ n, φ n → n < sizeLine)
    (hg : AnyB scope g fun g' => ∀ i, JG g' tg (it i) (wipeG Γ (own.map (·.2))) (Γ2 i) sl) (hsl : ∀ i ∈ sl, i ∈ own.map (·.2) := by decide)
    (ht : AnyB scope g fun g' => ∀ i, JTs g' ifs (Γ2 i) (c i)) (he : AnyB scope g fun g' => ∀ i, c i = true → JE g' elt (Γ2 i) (q i))
    (ok : BlkOk g.X.N g.X.env.scope scope own) : JLc g elt tg iter ifs scope own Γ (Oc.exs φ (fun n => oL (gv n c q)) 0) := by
  refine ⟨ok, fun w σ B H s => ⟨bT g scope ifs, fun s0 H0 C cl fp => ⟨fun pins s σ H Q I h => h s0 H0 C cl fp pins s I⟩, ?_⟩⟩
  intro pins s1 I1
  refine thn (hI.run w σ B H s pins s1 I1) fun v s2 h2 => thn h2 fun itv s3 h3 => ?_
  obtain ⟨itA, fp, tn, J, H3, e1, e2, e3, e4, e5, n, hφ, B1, a1, Gw, Y, wk, kg, ky⟩ := h3
  refine ⟨itA, fp, tn, J, H3, e1, e2, e3, e4, e5, fun Dl hD => ?_⟩
  have hDn : H Dl = none := a1.th hD
  refine lc_it (g := bG g scope tg) (tt := bT g scope ifs) (te := bE g scope elt) (vs := own.map (·.2)) (σ := σ) (H1 := H3) (D := Dl) (Qd := fun H' => ∃ B', Aft g.b Γ σ B H B' H' ∧ Own g.b (Oc.exs φ (fun n => oL (gv n c q)) 0) (.ref Dl) B' H' ∧ ∀ a ∈ (Oc.exs φ (fun n => oL (gv n c q)) 0).ad (.ref Dl) H', H a = none) wk (fun i H' => ∃ B' acc, Stp B H B' H' ∧ Le B1 B' ∧ B' Dl = none ∧ H' Dl = some (.lst acc) ∧ F2 B' acc (gv i c q)) ?_ (fun i H' hi ⟨B', acc, t, l, _⟩ => kg B' H' l t.ok) ?_ ?_
  · exact ⟨B1, [], (a1.trans (a1.sta.beside hD)).t, Le.refl _, a1.sta.st.ok.none hD, upd_same, trivial⟩
  · intro i x H' H'' hi ⟨B', acc, t, l, nD, hacc, f⟩ y
    obtain ⟨B2, t2, p⟩ := ky i H' x H'' B' hi l t.ok y
    have tt2 : Stp B H B2 H'' := t.trans t2
    have nD2 : B2 Dl = none := by
      cases z : B2 Dl with
      | none => rfl
      | some k => exact (Hard.no (by rw [hacc]; exact hard_lst) (t2.new Dl nD k z)).elim
    have hacc2 : H'' Dl = some (.lst acc) := t2.keep Dl _ hacc fun φ z => by rw [nD] at z; cases z
    have sw := ((s.step tt2).sta).wipe (own.map (·.2))
    intro s0 H0 C cl fp'
    refine (hg s0 H0 C cl fp' i).run w.blk _ B2 H'' x sw p _ fun σ2 s4 hw => ?_
    refine ⟨?_, fun s0 H0 C cl fp' => ?_⟩
    · have z := hw (own.map (·.2)) hsl
      rw [z]
      exact wipe_wipe σ _
    · refine (ht s0 H0 C cl fp' i).run w.blk σ2 B2 H'' s4 _ fun B5 H5 a5 => ?_
      have nD5 : B5 Dl = none := by
        cases z : B5 Dl with
        | none => rfl
        | some k => exact (Hard.no (by rw [hacc2]; exact hard_lst) (a5.t.new Dl nD2 k z)).elim
      have hacc5 : H5 Dl = some (.lst acc) := a5.t.keep Dl _ hacc2 fun φ z => by rw [nD2] at z; cases z
      cases hc : c i with
      | true =>
        rw [if_pos rfl]
        intro s0 H0 C cl fp'
        refine ((he s0 H0 C cl fp' i hc).run w.blk σ2 B5 H5 a5.sta).mono fun y H6 ⟨B6, a6, py⟩ => ?_
        have nD6 : B6 Dl = none := by
          cases z : B6 Dl with
          | none => rfl
          | some k => exact (Hard.no (by rw [hacc5]; exact hard_lst) (a6.t.new Dl nD5 k z)).elim
        have hacc6 : H6 Dl = some (.lst acc) := a6.t.keep Dl _ hacc5 fun φ z => by rw [nD5] at z; cases z
        refine ⟨acc, hacc6, ?_, B6, acc ++ [y], (tt2.trans (a5.t.trans a6.t)).chg' nD6 hDn, l.trans (t2.le.trans (a5.le.trans a6.le)), nD6, upd_same, ?_⟩
        · rw [f.len]; exact Nat.lt_of_le_of_lt (gv_len i c q) (Nat.lt_trans hi (hn n hφ))
        · rw [gv_succ, if_pos hc]
          exact (f.mono (t2.le.trans (a5.le.trans a6.le))).append ⟨py, trivial⟩
      | false =>
        rw [if_neg (by decide)]
        refine ⟨B5, acc, tt2.trans a5.t, l.trans (t2.le.trans a5.le), nD5, hacc5, ?_⟩
        rw [gv_succ, if_neg (by rw [hc]; decide), List.append_nil]
        exact f.mono (t2.le.trans a5.le)
  · intro H' ⟨B', acc, t, l, nD, hacc, f⟩
    have o := own_mk nD (s.st.bnone hDn) hacc f
    exact ⟨B', s.step t, ⟨o.nb, o.nh, o.th, n, hφ, o.at_⟩, one_fresh hDn⟩

section
variable {α β : Type} {xs : List α} {ys : List β} {r : α → Pr} {r' : β → Pr}
theorem l_lcM {elt iter : Expr} {ifs : List Expr} {scope : Scope} (own : List (Str × Nat)) {Γ2 : α → Gm} (c : α → Bool) (q : α → Pr) {sl : List Nat} (hI : JM g tg iter Γ xs r) (hn : xs.length < sizeLine)
    (hg : AnyB scope g fun g' => ∀ x, x ∈ xs → JG g' tg (r x) (wipeG Γ (own.map (·.2))) (Γ2 x) sl)
    (ht : AnyB scope g fun g' => ∀ x, x ∈ xs → JTs g' ifs (Γ2 x) (c x)) (he : AnyB scope g fun g' => ∀ x, x ∈ xs → c x = true → JE g' elt (Γ2 x) (q x))
    (hsl : ∀ i ∈ sl, i ∈ own.map (·.2) := by decide) (ok : BlkOk g.X.N g.X.env.scope scope own := by exact blkOk_by (by rfl)) : JLc g elt tg iter ifs scope own Γ (oL ((xs.filter c).map q)) := by
  by_cases hne : xs = []
  · subst hne
    exact l_lc (Γ2 := fun _ => Γ) (sl := sl) own (fun _ => true) (fun _ => rN) hI hn (fun _ _ _ _ _ i hi => absurd hi (Nat.not_lt_zero i)) hsl (fun _ _ _ _ _ i hi => absurd hi (Nat.not_lt_zero i)) (fun _ _ _ _ _ i hi => absurd hi (Nat.not_lt_zero i)) ok
  · obtain ⟨d, hd⟩ : ∃ d, d ∈ xs := List.exists_mem_of_ne_nil xs hne
    have mem : ∀ i, i < xs.length → xs.getD i d ∈ xs := fun i hi => by
      rw [List.getD_eq_getElem?_getD, List.getElem?_eq_getElem hi]
      exact List.getElem_mem hi
    have at_ : ∀ i, i < xs.length → xs[i]? = some (xs.getD i d) := fun i hi => by
      rw [List.getD_eq_getElem?_getD, List.getElem?_eq_getElem hi]; rfl
    have z := l_lc (Γ2 := fun i => Γ2 (xs.getD i d)) (sl := sl) own (fun i => c (xs.getD i d)) (fun i => q (xs.getD i d)) hI hn (fun s H C cl fp i hi => by rw [nth_map (at_ i hi)]; exact hg s H C cl fp _ (mem i hi)) hsl (fun s H C cl fp i hi => ht s H C cl fp _ (mem i hi)) (fun s H C cl fp i hi hc => he s H C cl fp _ (mem i hi) hc) ok
    have e : gv xs.length (fun i => c (xs.getD i d)) (fun i => q (xs.getD i d)) = (xs.filter c).map q := by
      have f1 : (List.range xs.length).map (fun i => xs.getD i d) = xs := by
        have := range_map xs d id (fun i => xs.getD i d) (fun i x h => by rw [List.getD_eq_getElem?_getD, h]; rfl)
        rw [this, List.map_id]
      unfold gv
      have f2 : (xs.filter c).map q = (((List.range xs.length).map (fun i => xs.getD i d)).filter c).map q := by rw [f1]
      rw [f2, List.filter_map, List.map_map]
      rfl
    rw [e] at z
    exact z
end

end
end G
set_option Elab.async false
set_option linter.all false
set_option maxRecDepth 100000
set_option maxHeartbeats 2000000
namespace G
open PySem L2
theorem fn_ok {U : Uv} {name qual : Str} {params : Arguments} {body : List Stmt} {scope : Scope} {f : Addr} {fd : FuncData} {N ps : List Str} {k : Nat} {ι : Type} {φ : ι → Cs} (F : FunD U.K name qual params body scope [] [] f fd) (S : FnScope N ps scope)
    (hl : ∀ i, (φ i).as.length = ps.length)
    (hbody : ∀ (i : ι) (cd : Value) (A : Around) (outer : List Env) (s : Shared) (b : Base) (E : XK), (φ i).pre → JS (gxOf U N qual scope f cd A outer s b E (φ i).exc k) body (entry (φ i).as N.length) (ret b ((φ i).rs b))) : FnOk U.P U.w U.K U.mg U.base (L2.CX U.P U.w) (k + 1) f fd ps (spT φ) := by
  refine F.ok S (fun vs H Q E h => ?_) fun cdv A outer s H vs Q E hr h => ?_
  · obtain ⟨i, B, _, _, f2, _⟩ := h
    rw [f2.len, hl]
  · obtain ⟨i, B, pre, ok, f2, kr, kx⟩ := h
    have j := hbody i cdv A outer s ⟨B, H⟩ E pre
    refine ⟨_, pS, ?_⟩
    have w : (gxOf U N qual scope f cdv A outer s ⟨B, H⟩ E (φ i).exc k).Wf := {
      tk := Takes.imp (takes_of (X := cxOf (L2.CX U.P U.w) U.P U.w U.K U.mg U.base N qual scope f cdv A outer s H E) rfl rfl rfl rfl) fun C d σ H' ⟨c, e, z, B', t⟩ => by
        subst e
        exact kx c d B' H' t z
      hr := fun _ => hr
      po := passes_of (X := cxOf (L2.CX U.P U.w) U.P U.w U.K U.mg U.base N qual scope f cdv A outer s H E) rfl
      nd := S.nd
      bok := ok }
    refine (j.run w (L2.start N vs) B H (entry_sta ok f2)).mono ⟨fun σ' H' ⟨B', t, r⟩ => kr _ B' H' t r, fun v H' ⟨B', t, r⟩ => kr v B' H' t r, fun _ _ z => z.elim, fun _ _ z => z.elim⟩
/-- a def whose wish is that nothing is raised -/
theorem fn_calm {P : Program} {w : World} {K : PySem.W.Frag} {mg : Str → Option Value} {base : Heap} {k : Nat} {f : Addr} {fd : FuncData} {ps : List Str} {sp : Sp} (F : FnOk P w K mg base (L2.CX P w) k f fd ps sp) : FnOk P w K mg base L2.CX0 k f fd ps (fun vs H Q _ => sp vs H Q fun _ _ _ => False) :=
  ⟨fun vs H Q E h => F.len vs H Q _ h, fun A outer s H args us vs Q E hr he hb hv h => codeAny_mono (F.run A outer s H args us vs Q _ hr he hb hv h) fun r s' z => by
    cases r with
    | ok o => cases o <;> exact z
    | error e => obtain ⟨_, _, _, _, _, _, _, _, _, _, _, _, z⟩ := z; exact z⟩
/-- a contract on the script, read by the law's caller -/
theorem script_call {K : PySem.W.Frag} {φ : List Int → Cs} {ns : List Int} {H : Hp} {a : Addr} (has : (φ ns).as = [rScr K ns]) (hrs : ∀ b, (φ ns).rs b = .sh (rB true)) (hp : (φ ns).pre) (hx : (φ ns).exc = fun _ => False) (h : SqL K H a (ns.map V.int)) : spT φ [.ref a] H (fun v _ => v = .bl true) fun _ _ _ => False := by
  have key : ∀ B, Ok B H → (rScr K ns).r B (.ref a) → spT φ [.ref a] H (fun v _ => v = .bl true) fun _ _ _ => False := fun B ok r =>
    ⟨ns, B, hp, ok, by rw [has]; exact ⟨r, trivial⟩, fun v B' H' t z => by rw [hrs] at z; exact z, fun C d B' H' t z => by rw [hx] at z; exact z⟩
  have one : ∀ u, H a = some u → (u = .lst (ns.map V.int) ∨ ∃ o, u = .frz o (.lst (ns.map V.int))) → spT φ [.ref a] H (fun v _ => v = .bl true) fun _ _ _ => False := fun u hu hc => by
    refine key (put (fun _ => none) a (.ex u)) ⟨fun x w e => ?_, fun x χ e => ?_⟩ ⟨a, rfl, .inl ⟨u, put_same, hc⟩⟩
    · by_cases q : x = a
      · subst q; rw [put_same] at e; cases e; exact .inl hu
      · rw [put_ne q] at e; cases e
    · by_cases q : x = a
      · subst q; rw [put_same] at e; cases e
      · rw [put_ne q] at e; cases e
  rcases h with (z | ⟨o, z⟩) | z
  · exact one _ z (.inl rfl)
  · exact one _ z (.inr ⟨o, rfl⟩)
  · exact key (fun _ => none) ⟨fun x w e => (nomatch e), fun x χ e => (nomatch e)⟩ ⟨a, rfl, .inr z⟩
end G
set_option Elab.async false
set_option linter.all false
set_option maxRecDepth 100000
set_option maxHeartbeats 2000000
/-! zip of two sequences, each a list or a tuple -/
namespace G
open PySem L2 PyProof.Rows
def Sq (K : PySem.W.Frag) (t : Bool) (H : Hp) (a : Addr) (xs : List V) : Prop := if t then SqT K H a xs else SqL K H a xs
def IsQ (t : Bool) (h : Heap) (l : Addr) (its : Array Value) : Prop := if t then h.IsTuple l its else h.IsList l its
def ItQ (t : Bool) (h : Heap) (it l : Addr) (i : Nat) : Prop := if t then h.IsTupleIter it l i else h.IsListIter it l i
theorem draws_q {P : Program} {w : World} {A : Around} (hh : A.handled = none) (t : Bool) (it l : Addr) (ne : l ≠ it) (its : Array Value) :
    Draws P w A it [it, l] its.size (fun i v => its[i]? = some v) (fun i h => ItQ t h it l i ∧ IsQ t h l its) := by
  cases t with
  | true => exact Draws.tuple hh it l ne its
  | false => exact Draws.list hh it l ne its
section
variable {X : Cx} {pins : List (Addr × Obj)} {σ : L2.St} {H : Hp} {s : Shared} {a : Addr} {xs ys : List V} {t : Bool}
theorem inv_q (I : Inv X pins σ H s) (h : Sq X.K t H a xs) : ∃ its : List Value, Vals xs its ∧ IsQ t s.heap a its.toArray := by
  cases t with
  | true => obtain ⟨its, r, p, _⟩ := I.tuple h; exact ⟨its, r, p⟩
  | false => obtain ⟨its, r, p, _⟩ := I.list h; exact ⟨its, r, p.isList⟩
theorem inj_q (I : Inv X pins σ H s) (h : Sq X.K t H a xs) (k : Sq X.K t H a ys) : xs = ys := by
  cases t with
  | true => exact I.tuple_inj h k
  | false => exact I.list_inj h k
theorem IsQ.lt {h : Heap} {its : Array Value} (p : IsQ t h a its) : a < h.objs.size := by
  cases t with
  | true => obtain ⟨o, e, _⟩ := p; exact Heap.lt_size e
  | false => obtain ⟨o, e, _⟩ := p; exact Heap.lt_size e
theorem ItQ.move {h h' : Heap} {it l : Addr} {i : Nat} (p : ItQ t h it l i) (k : ∀ o, h.get? it = some o → h'.get? it = some o) : ItQ t h' it l i := by
  cases t with
  | true => exact Heap.IsTupleIter.at p k
  | false => exact Heap.IsListIter.at p k
theorem ItQ.obj {h : Heap} {it l : Addr} {i : Nat} (p : ItQ t h it l i) : ∃ o, h.get? it = some o ∧ ∀ v, o.data ≠ .cell v := by
  cases t with
  | true => obtain ⟨o, e, _, d⟩ := p; exact ⟨o, e, fun v q => by rw [d] at q; cases q⟩
  | false => obtain ⟨o, e, _, d⟩ := p; exact ⟨o, e, fun v q => by rw [d] at q; cases q⟩
end
/-- pairs of the i-th of one and the i-th of the other -/
def Itq (K : PySem.W.Frag) (t1 t2 : Bool) (a b : Addr) : It where
  go := fun i H => ∃ xs ys x y, Sq K t1 H a xs ∧ Sq K t2 H b ys ∧ xs[i]? = some x ∧ ys[i]? = some y
  yld := fun i H v H' => ∃ T x y, v = .ref T ∧ H T = none ∧ H' = upd H T (.tup [x, y]) ∧ (∀ xs, Sq K t1 H a xs → xs[i]? = some x) ∧ ∀ ys, Sq K t2 H b ys → ys[i]? = some y
  stop := fun i H => ∃ xs ys : List V, Sq K t1 H a xs ∧ Sq K t2 H b ys ∧ i ≤ xs.length ∧ i ≤ ys.length ∧ (i = xs.length ∨ i = ys.length)
theorem mem5 {c z TI TO i1 i2 : Addr} (h : c ∈ [z, TI, TO, i1, i2]) : c = z ∨ c = TI ∨ c = TO ∨ c = i1 ∨ c = i2 := by simpa using h
theorem turn_q {P : Program} {w : World} {K : PySem.W.Frag} {elts : List Expr} {kk : Nat} {tp : Pos} {t1 t2 : Bool} {a b z TI TO i1 i2 : Addr} (S : ZipSep2 z TI TO i1 i2 [i1, a] [i2, b]) (n1 : a ≠ i1) (n2 : b ≠ i2) :
    Turn P w K (.Tuple elts kk tp) (Itq K t1 t2 a b) [z, TI, TO, i1, i2] z (fun i h => IsZip h z TI TO .none ∧ IsTupOf2 h TI (.ref i1) (.ref i2) ∧ (∃ x y, IsTupOf2 h TO x y) ∧ ItQ t1 h i1 a i ∧ ItQ t2 h i2 b i) where
  mem := by simp
  obj := fun i h st c hc => by
    obtain ⟨sz, sI, ⟨x, y, sO⟩, s1, s2⟩ := st
    rcases mem5 hc with e | e | e | e | e <;> subst e
    · exact ⟨_, sz, fun v q => nomatch q⟩
    · exact ⟨_, sI, fun v q => nomatch q⟩
    · exact ⟨_, sO, fun v q => nomatch q⟩
    · exact s1.obj
    · exact s2.obj
  keep := fun i h h' st k => by
    obtain ⟨sz, sI, ⟨x, y, sO⟩, s1, s2⟩ := st
    have kz := k z (by simp)
    have kI := k TI (by simp)
    have kO := k TO (by simp)
    exact ⟨kz _ sz, kI _ sI, ⟨x, y, kO _ sO⟩, s1.move (k i1 (by simp)), s2.move (k i2 (by simp))⟩
  item := fun X e1 e2 e3 calm i pins s σ H E I hf st go => by
    subst e1; subst e2; subst e3
    obtain ⟨sz, sI, ⟨x0, y0, sO⟩, s1, s2⟩ := st
    obtain ⟨xs, ys, x, y, qa, qb, ex, ey⟩ := go
    obtain ⟨us, va, ha⟩ := inv_q I qa
    obtain ⟨ws, vb, hb⟩ := inv_q I qb
    obtain ⟨u, eu, ru⟩ := va.get ex
    obtain ⟨v, ev, rv⟩ := vb.get ey
    have lu : i < us.toArray.size := by rw [List.size_toArray]; exact (List.getElem?_eq_some_iff.mp eu).1
    have lv : i < ws.toArray.size := by rw [List.size_toArray]; exact (List.getElem?_eq_some_iff.mp ev).1
    have calmA : X.A.in1.handled = none := I.ok.hd calm
    have zlt : z < s.heap.objs.size := Heap.lt_size sz
    have small : ∀ c ∈ [z, TI, TO, i1, i2], c < s.heap.objs.size := fun c hc => by
      rcases mem5 hc with e | e | e | e | e <;> subst e
      · exact zlt
      · exact Heap.lt_size sI
      · exact Heap.lt_size sO
      · obtain ⟨o, e, _⟩ := s1.obj; exact Heap.lt_size e
      · obtain ⟨o, e, _⟩ := s2.obj; exact Heap.lt_size e
    refine wpAny_pyNext_zipD2_item S (draws_q calmA t1 i1 a n1 us.toArray) (draws_q calmA t2 i2 b n2 ws.toArray) sz sI sO ⟨s1, ha⟩ ⟨s2, hb⟩ lu lv fun x1 x2 h' tk p1 p2 z' O' s1' s2' hT hsz hk => ?_
    have e1 : x1 = u := by simpa [eu] using p1.symm
    have e2 : x2 = v := by simpa [ev] using p2.symm
    subst e1; subst e2
    refine ⟨_, rfl, wpAny_letOwnedTupleGo_zip (s := { s with heap := h', toks := tk }) z' fun h2 z2 sb => ?_⟩
    have back : ∀ c, c ∉ [z, TI, TO, i1, i2] → ∀ o, s.heap.get? c = some o → h2.get? c = some o := fun c hc o e => by
      have c1 : c ≠ z := fun q => hc (by rw [q]; simp)
      have c2 : c ≠ TO := fun q => hc (by rw [q]; simp)
      have c3 : c ≠ i1 := fun q => hc (by rw [q]; simp)
      have c4 : c ≠ i2 := fun q => hc (by rw [q]; simp)
      exact (sb.2 c c1).trans (hk c o c1 c2 c3 c4 e)
    have T2 : h2.get? s.heap.objs.size = some { cls := .type "tuple", data := .seq #[x1, x2] } := (sb.2 _ (Nat.ne_of_gt zlt)).trans hT
    have ok2 : ObjOk X.prog X.w (upd H s.heap.objs.size (.tup [x, y])) h2 s.heap.objs.size (.tup [x, y]) := by
      refine ⟨?_, [x1, x2], .cons ru (.cons rv .nil), ⟨_, T2, rfl, _, rfl⟩⟩
      show 2 ≤ sizeLine
      decide
    have J : Inv X pins σ (upd H s.heap.objs.size (.tup [x, y])) { s with heap := h2, toks := tk } := I.turnedNew (ch := [z, TI, TO, i1, i2]) (fun c o hc e => back c hc o e) hf (Nat.le_refl _) ok2
    refine ⟨.ref s.heap.objs.size, upd H s.heap.objs.size (.tup [x, y]), J, rfl, ?_, ?_, fun c hc => ?_⟩
    · exact ⟨_, x, y, rfl, I.hok.fresh (Nat.le_refl _), rfl, fun l q => (inj_q I qa q) ▸ ex, fun l q => (inj_q I qb q) ▸ ey⟩
    · have nI : TI ≠ i2 := S.TIi2
      refine ⟨z2, (sb.2 _ S.TIz).trans (hk _ _ S.TIz S.TITO S.TIi1 nI sI), ⟨x1, x2, (sb.2 _ S.TOz).trans O'⟩, s1'.1.move fun o e => ?_, s2'.1.move fun o e => ?_⟩
      · exact (sb.2 _ S.zi1.symm).trans e
      · exact (sb.2 _ S.zi2.symm).trans e
    · rw [upd_ne (Nat.ne_of_lt (small c hc))]
      exact (hf c hc).1
  done := fun X e1 e2 e3 calm i pins s σ H E I hf st stp => by
    subst e1; subst e2; subst e3
    obtain ⟨sz, sI, ⟨x0, y0, sO⟩, s1, s2⟩ := st
    obtain ⟨xs, ys, qa, qb, l1, l2, hor⟩ := stp
    obtain ⟨us, va, ha⟩ := inv_q I qa
    obtain ⟨ws, vb, hb⟩ := inv_q I qb
    have m1 : us.toArray.size = xs.length := by rw [List.size_toArray]; exact va.length.symm
    have m2 : ws.toArray.size = ys.length := by rw [List.size_toArray]; exact vb.length.symm
    have calmA : X.A.in1.handled = none := I.ok.hd calm
    refine wpAny_pyNext_zipD2_end S (draws_q calmA t1 i1 a n1 us.toArray) (draws_q calmA t2 i2 b n2 ws.toArray) sz sI sO ⟨s1, ha⟩ ⟨s2, hb⟩ (by omega) (by omega) (by omega) fun h' tk hk => ⟨rfl, ?_⟩
    refine I.turnedL (t' := tk) (ch := [z, TI, TO, i1, i2]) (fun c o hc e => ?_) hf
    have c1 : c ≠ z := fun q => hc (by rw [q]; simp)
    have c2 : c ≠ TO := fun q => hc (by rw [q]; simp)
    have c3 : c ≠ i1 := fun q => hc (by rw [q]; simp)
    have c4 : c ≠ i2 := fun q => hc (by rw [q]; simp)
    exact hk c o c1 c2 c3 c4 e
  self := fun A i s Q E st h => wpAny_pyIter_zip st.1 h
def iZipQ (K : PySem.W.Frag) (t1 t2 : Bool) (ta : TA) : TI := fun σ H R => ta σ H fun vs H1 => ∃ a b xs ys, vs = [.ref a, .ref b] ∧ Sq K t1 H1 a xs ∧ Sq K t2 H1 b ys ∧ R (Itq K t1 t2 a b) H1
theorem begins_q (t : Bool) (a : Addr) (its : Array Value) : ∃ o, Begins (.ref a) o (fun h => IsQ t h a its) ∧ ∀ h it, h.get? it = some o → ItQ t h it a 0 := by
  cases t with
  | true => exact ⟨_, begins_tuple a its, fun h it e => ⟨_, e, rfl, rfl⟩⟩
  | false => exact ⟨_, begins_list a its, fun h it e => ⟨_, e, rfl, rfl⟩⟩
theorem pi_q {X : Cx} {e e2 : Expr} {ta : TA} {p pos tp : Pos} {elts : List Expr} {kk : Nat} {t1 t2 : Bool} (hg : Gl X "zip") (hm : X.mg "zip" = none) (ha : PA X [e, e2] ta)
    (hs : starEach [e, e2] X.env = (false, eval e X.env) :: starEach [e2] X.env := by rfl) (hpl : (backTo pos (starEach [e2] X.env)).any (·.1) = false := by rfl) :
    PI X (.Tuple elts kk tp) (.Call (.Name "zip" p) [e, e2] [] pos) (iZipQ X.K t1 t2 ta) := by
  refine ⟨fun pins s σ H R I h => ?_⟩
  refine Call_ (ld_blt I hg hm boot_zip (callWith_type1 (thn (ha.run pos pins s σ H _ I h) fun us s1 ⟨vs, H1, J, rr, a, b, xs, ys, ex, qa, qb, q⟩ => ?_) hs hpl))
  subst ex
  obtain ⟨ua, ub, rfl, ra, rb⟩ : ∃ ua ub, us = [ua, ub] ∧ RelV (.ref a) ua ∧ RelV (.ref b) ub := by
    cases rr with
    | cons r rr => cases rr with
      | cons r' rr => cases rr; exact ⟨_, _, rfl, r, r'⟩
  cases ra; cases rb
  obtain ⟨us, va, ia⟩ := inv_q J qa
  obtain ⟨ws, vb, ib⟩ := inv_q J qb
  obtain ⟨o1, b1, k1⟩ := begins_q t1 a us.toArray
  obtain ⟨o2, b2, k2⟩ := begins_q t2 b ws.toArray
  refine zip_begins2 b1 b2 ia ib fun h' sz sI sO g1 g2 hsz hk => wpAny_pyIter_zip sz ?_
  have J2 : Inv X pins σ H1 { s1 with heap := h' } := J.kept (t' := s1.toks) hk
  have fresh : ∀ c, s1.heap.objs.size ≤ c → FpOk X pins H1 c := fun c hc => J.fpOk hc (J.hok.fresh hc)
  have la := ia.lt
  have lb := ib.lt
  refine ⟨_, _, _, Itq X.K t1 t2 a b, H1, rfl, J2, turn_q (t1 := t1) (t2 := t2) (zip_sep2 (N := s1.heap.objs.size) (fp1 := [a]) (fp2 := [b]) (by simpa using la) (by simpa using lb)) (Nat.ne_of_lt la) (fun z => ?_), ⟨sz, sI, ⟨_, _, sO⟩, k1 _ _ g1, k2 _ _ g2⟩, fun c hc => fresh c ?_, q⟩
  · have lb' : (b : Nat) < s1.heap.objs.size := lb
    have z' : (b : Nat) = s1.heap.objs.size + 1 := z
    rw [z'] at lb'
    exact absurd lb' (Nat.not_lt.mpr (Nat.le_succ _))
  · rcases mem5 hc with e | e | e | e | e <;> rw [e]
    · exact Nat.le_add_right _ _
    · exact Nat.le_add_right _ _
    · exact Nat.le_add_right _ _
    · exact Nat.le_refl _
    · exact Nat.le_add_right _ _
theorem walk_q {K : PySem.W.Frag} {t1 t2 : Bool} {a b : Addr} {xs ys : List V} {n : Nat} (hn : n = min xs.length ys.length) : Walk (Itq K t1 t2 a b) n (fun H => Sq K t1 H a xs ∧ Sq K t2 H b ys) (YPair (fun i => xs[i]?) (fun i => ys[i]?)) where
  goes := fun i H hi q => ⟨xs, ys, xs[i]'(by omega), ys[i]'(by omega), q.1, q.2, List.getElem?_eq_getElem _, List.getElem?_eq_getElem _⟩
  stops := fun H q => ⟨xs, ys, q.1, q.2, by omega, by omega, by omega⟩
  yields := fun i H v H' _ q ⟨T, x, y, e1, e2, e3, e4, e5⟩ => ⟨T, x, y, e1, e2, e3, e4 xs q.1, e5 ys q.2⟩
/-- a list, or a tuple -/
def rQ (K : PySem.W.Frag) (t : Bool) (rs : List Pr) : Pr := if t then rTs K rs else rLs K rs
theorem rQ_at {K : PySem.W.Frag} {t : Bool} {rs : List Pr} {B : Bs} {v : V} (h : (rQ K t rs).r B v) : ∃ p vs, v = .ref p ∧ F2 B vs rs ∧ ∀ B2 H2, Le B B2 → Ok B2 H2 → Sq K t H2 p vs := by
  cases t with
  | true => obtain ⟨p, vs, e, a, f⟩ := h; exact ⟨p, vs, e, f, fun B2 H2 l k => (a.mono l).sq k⟩
  | false => obtain ⟨p, vs, e, a, f⟩ := h; exact ⟨p, vs, e, f, fun B2 H2 l k => (a.mono l).sq k⟩
section
variable {g : Gx} {Γ : Gm} {P Q R : Pr} {e e1 e2 tg : Expr} {pos p2 : Pos} {D : En} {st : Stmt} {ss rest : List Stmt} {rs qs : List Pr}
theorem i_zipQ {t1 t2 : Bool} {elts : List Expr} {kk : Nat} {tp p : Pos} (hm : g.X.mg "zip" = none) (h : JE g e Γ (rQ g.X.K t1 rs)) (h' : JE g e1 Γ (rQ g.X.K t2 qs)) (hg : Gl g.X "zip" := by rfl) (hs : starEach [e, e1] g.X.env = (false, eval e g.X.env) :: starEach [e1] g.X.env := by rfl) (hs2 : starEach [e1] g.X.env = (false, eval e1 g.X.env) :: starEach [] g.X.env := by rfl) (hpl : (backTo pos (starEach [e1] g.X.env)).any (·.1) = false := by rfl) :
    JI g (.Tuple elts kk tp) (.Call (.Name "zip" p) [e, e1] [] pos) Γ (min rs.length qs.length) (fun i => rTs g.X.K [nth rs i, nth qs i]) :=
  ⟨fun w σ B H s => ofI (pi_q (t1 := t1) (t2 := t2) hg hm pA hs hpl) (((a_cons h (a_cons h' a_nil hs2) hs).run w σ B H s).mono fun vs H1 ⟨B1, a1, f⟩ => by
    obtain ⟨v, u, rfl, h1, h2⟩ := f.two
    obtain ⟨p, xs, rfl, f1, q1⟩ := rQ_at h1
    obtain ⟨p', ys, rfl, f2, q2⟩ := rQ_at h2
    exact ⟨p, p', xs, ys, rfl, q1 B1 H1 (Le.refl _) a1.sta.st.ok, q2 B1 H1 (Le.refl _) a1.sta.st.ok, B1, a1, gives_pair (walk_q (by rw [f1.len, f2.len])) (fun B2 H2 l k => ⟨q1 B2 H2 l k, q2 B2 H2 l k⟩) (fun i x B2 hi l e => (f1.mono l).nth e) (fun i x B2 hi l e => (f2.mono l).nth e)⟩)⟩
theorem m_zipQ {α β : Type} {xs : List α} {ys : List β} {r : α → Pr} {r' : β → Pr} {t1 t2 : Bool} {elts : List Expr} {kk : Nat} {tp p : Pos} (hm : g.X.mg "zip" = none) (h : JE g e Γ (rQ g.X.K t1 (xs.map r))) (h' : JE g e1 Γ (rQ g.X.K t2 (ys.map r'))) (hg : Gl g.X "zip" := by rfl) (hs : starEach [e, e1] g.X.env = (false, eval e g.X.env) :: starEach [e1] g.X.env := by rfl) (hs2 : starEach [e1] g.X.env = (false, eval e1 g.X.env) :: starEach [] g.X.env := by rfl) (hpl : (backTo pos (starEach [e1] g.X.env)).any (·.1) = false := by rfl) :
    JM g (.Tuple elts kk tp) (.Call (.Name "zip" p) [e, e1] [] pos) Γ (xs.zip ys) (fun z => rTs g.X.K [r z.1, r' z.2]) :=
  (i_zipQ hm h h' hg hs hs2 hpl).to (by rw [List.length_zip, List.length_map, List.length_map]) fun i hi => by
    rw [List.length_map, List.length_map] at hi
    have h1 : i < xs.length := by omega
    have h2 : i < ys.length := by omega
    rw [nth_map (x := xs[i]) (List.getElem?_eq_getElem h1), nth_map (x := ys[i]) (List.getElem?_eq_getElem h2), nth_map (x := (xs[i], ys[i]))]
    rw [List.getElem?_zip_eq_some]
    exact ⟨List.getElem?_eq_getElem h1, List.getElem?_eq_getElem h2⟩
/-! lists or tuples -/
theorem x_lenQ {p : Pos} {t : Bool} (b : Bi g.X.mg) (h : JE g e Γ (rQ g.X.K t rs)) (hg : Gl g.X "len" := by rfl) (he : starEach [e] g.X.env = (false, eval e g.X.env) :: starEach [] g.X.env := by rfl) : JE g (.Call (.Name "len" p) [e] [] pos) Γ (rI rs.length) := by
  cases t with
  | false => exact x_lenL b.len h hg he
  | true => exact x_lenT b.len h hg he
theorem m_Q {α : Type} {xs : List α} {r : α → Pr} {t : Bool} (h : JE g e Γ (rQ g.X.K t (xs.map r))) : JM g tg e Γ xs r := by
  cases t with
  | false => exact m_list h
  | true => exact m_tup h
theorem x_isiQ {p px py pt : Pos} {kk : Nat} {t : Bool} (b : Bi g.X.mg) (h : JE g e Γ (rQ g.X.K t rs)) (hg : Gl g.X "isinstance" := by rfl) (hgx : Gl g.X "list" := by rfl) (hgy : Gl g.X "tuple" := by rfl)
    (hs : starEach [e, .Tuple [.Name "list" px, .Name "tuple" py] kk pt] g.X.env = (false, eval e g.X.env) :: starEach [.Tuple [.Name "list" px, .Name "tuple" py] kk pt] g.X.env := by rfl) : JE g (.Call (.Name "isinstance" p) [e, .Tuple [.Name "list" px, .Name "tuple" py] kk pt] [] pos) Γ (rB true) := by
  cases t with
  | false => exact x_isi2 b ty_L b.list b.tuple bo_list bo_tuple k_list_list k_list_tuple h hg hgx hgy (by decide) (by decide) (by decide) (by decide) hs
  | true => exact x_isi2 b ty_T b.list b.tuple bo_list bo_tuple k_tuple_list k_tuple_tuple h hg hgx hgy (by decide) (by decide) (by decide) (by decide) hs
theorem y_listQ {t : Bool} (b : Bi g.X.mg) (h : JE g e Γ (rQ g.X.K t rs)) {p : Pos} (hg : Gl g.X "list" := by rfl) (he : starEach [e] g.X.env = (false, eval e g.X.env) :: starEach [] g.X.env := by rfl) : JO g (.Call (.Name "list" p) [e] [] pos) Γ (oL rs) := by
  cases t with
  | false => exact y_listL b.list h hg he
  | true => exact y_listT b.list h hg he
end
end G
set_option Elab.async false
set_option linter.all false
set_option maxRecDepth 100000
set_option maxHeartbeats 2000000
/-! try .. except X: , the body's word told anew from the try on -/
namespace G
open PySem L2
def noOwn : Gm → Bool
  | [] => true
  | some (.ow _) :: _ => false
  | _ :: l => noOwn l
theorem noOwn_at {c : Oc} : ∀ {Γ : Gm} {i : Nat}, noOwn Γ = true → Γ[i]? = some (some (.ow c)) → False
  | [], i, _, h => by simp at h
  | none :: l, 0, _, h => by simp at h
  | some (.sh _) :: l, 0, _, h => by simp at h
  | none :: l, i + 1, n, h => noOwn_at (Γ := l) (i := i) n (by simpa using h)
  | some (.sh _) :: l, i + 1, n, h => noOwn_at (Γ := l) (i := i) n (by simpa using h)
  | some (.ow _) :: l, _, n, _ => by cases n
section
variable {b b' : Base} {Γ : Gm} {σ : L2.St} {B : Bs} {H : Hp}
theorem Sta.rebase (s : Sta b Γ σ B H) (n : noOwn Γ = true) : Sta ⟨B, H⟩ Γ σ B H :=
  ⟨Stp.refl s.st.ok, s.env.len, s.env.sh, fun i c h => (noOwn_at n h).elim, fun i j c c' v v' a h => (noOwn_at n h).elim⟩
theorem Sta.up (s : Sta b' Γ σ B H) (t : Stp b.B b.H b'.B b'.H) : Sta b Γ σ B H :=
  ⟨t.trans s.st, s.env.len, s.env.sh, fun i c h => by
    obtain ⟨v, e, o⟩ := s.env.ow i c h
    exact ⟨v, e, o.nb, fun a ha => t.bnone (o.nh a ha), o.th, o.at_⟩, s.env.dis⟩
theorem Rt.up {S : Sl} {v : V} (t : Stp b.B b.H b'.B b'.H) (r : Rt b' S v H) : Rt b S v H := by
  obtain ⟨B, q, z⟩ := r
  exact ⟨B, t.trans q, Res.up t z⟩
end
section
variable {g : Gx} {Γ : Gm} {P Q R : Pr} {e e1 e2 tg : Expr} {pos p2 : Pos} {D : En} {st : Stmt} {ss rest : List Stmt} {rs qs : List Pr}
/-- the context of a try's body -/
abbrev Gx.try_ (g : Gx) (pn : List (Addr × Obj)) (xe : Value → Shared → Prop) (W : WX) (b' : Base) : Gx := ⟨g.X.tr pn xe, b', W, g.k⟩
/-- .. and of a suite -/
abbrev Gx.suite (g : Gx) (a : Addr) (pn : List (Addr × Obj)) : Gx := ⟨g.X.suite a pn, g.b, fun _ _ _ _ => False, g.k⟩
theorem Gx.Wf.suite (w : g.Wf) {a : Addr} {pn : List (Addr × Obj)} : (g.suite a pn).Wf := ⟨takes0, fun h => (nomatch h), PassesOwn.never, w.nd, w.bok⟩
theorem s_try {x : Str} {C : Addr} {body suite : List Stmt} {b0 : Stmt} {np hp : Pos} (T : Addr → Prop) (Γx : Gm) (hx : g.X.mg x = some (.ref C)) (hT : ∀ c, T c → PySem.W.exmOne g.X.K (.ref c) (.ref C) = some true)
    (hb : ∀ (pn : List (Addr × Obj)) (xe : Value → Shared → Prop) (W : WX) (b' : Base), g.Wf → Stp g.b.B g.b.H b'.B b'.H → (∀ exc Γ0, (∀ c, exc c → T c) → GmLe Γ0 Γx → Lets (g.try_ pn xe W b') Γ0 exc) → JS (g.try_ pn xe W b') body Γ (D.thn g.X rest))
    (hs : ∀ a pn, g.Wf → (∃ c, T c) → JS (g.suite a pn) (b0 :: suite) Γx (D.thn g.X rest)) (hst : g.X.stack = g.X.env :: g.X.outer := by rfl) (hf : g.X.env.frame = some g.X.env.locals := by rfl) (hn : noOwn Γ = true := by rfl) (hg : Gl g.X x := by rfl) (hdb : (x == ("__debug__" : Str)) = false := by decide) :
    JS g (.Try body [.ExceptHandler (some (.Name x np)) none (b0 :: suite) hp] [] [] pos :: rest) Γ D :=
  js_cons fun w σ B H s => by
    refine of1 (ps_try_only (tb := fun W D σ H => ∀ pn xe, Takes (g.X.tr pn xe) W → PassesOwn (model g.X.prog g.X.w) g.X.A g.X.env xe → WS (g.X.tr pn xe) body D σ H)
      (ts := fun a cls d D σ H => ∀ pn, WS (g.X.suite a pn) (b0 :: suite) D σ H) (Wout := g.W) hst hf ⟨hg, hdb, .inl hx⟩ w.tk (fun W pn xe tk po => ⟨fun pins s σ H D I h => h pn xe tk po pins s I⟩) (fun a oe cls d pn _ _ => ⟨fun pins s σ H D I h => h _ pins s I⟩)) ?_
    intro pn xe tk po
    refine (hb pn xe _ ⟨B, H⟩ w s.st ?_).go ⟨tk, w.hr, po, w.nd, s.st.ok⟩ (Le.refl _) (s.rebase hn)
    intro exc Γ0 hexc hle C' d σ1 B1 H1 z st
    refine ⟨true, hT _ (hexc _ z), fun _ a _ pn => ?_, fun q => (nomatch q)⟩
    exact (hs a pn w ⟨C', hexc _ z⟩).go w.suite st.st.le ((st.imp hle).up s.st)
/-- behind the try's body -/
theorem s_thenT {pn : List (Addr × Obj)} {xe : Value → Shared → Prop} {W : WX} {b' : Base} (t : Stp g.b.B g.b.H b'.B b'.H) (w : g.Wf) (k : JS g rest Γ D) : JS (g.try_ pn xe W b') [] Γ (D.thn g.X rest) :=
  ⟨fun _ σ B H s => ws_nil (k.run w σ B H (s.up t))⟩
theorem s_thenS {a : Addr} {pn : List (Addr × Obj)} (w : g.Wf) (k : JS g rest Γ D) : JS (g.suite a pn) [] Γ (D.thn g.X rest) :=
  ⟨fun _ σ B H s => ws_nil (k.run w σ B H s)⟩
theorem rt_up {b b' : Base} {S : Sl} (t : Stp b.B b.H b'.B b'.H) : ∀ v H, Rt b' S v H → (ret b S).rt v H := fun v H r => Rt.up t r
end
end G
set_option Elab.async false
set_option linter.all false
set_option maxRecDepth 100000
set_option maxHeartbeats 2000000
namespace G
open PySem L2
section
variable {g : Gx} {Γ : Gm} {P Q R : Pr} {e e1 e2 tg : Expr} {pos p2 : Pos} {D : En} {st : Stmt} {ss rest : List Stmt} {rs qs : List Pr} {U : Uv}
/-- an assignment of what is known by words: the words opened ahead of the target -/
theorem s_asgX {ι : Type} {φ : ι → Prop} {f : ι → Pr} (h : JE g e Γ (Pr.exs φ f)) (Γ1 : ι → Gm) {sl : List Nat} (hg : ∀ a, φ a → JG g tg (f a) Γ (Γ1 a) sl) (k : ∀ a, φ a → JS g rest (Γ1 a) D) (hs : swapsWithSole [tg] e pos.line g.X.env = pure false := by rfl) (hw : swappedStores [tg] e g.X.env = pure none := by rfl)
    (h1 : (assignEach [tg] g.X.env).map (·.2) = [assign tg g.X.env] := by rfl) : JS g (.Assign [tg] e pos :: rest) Γ D :=
  js_cons fun w σ B H s => of1 (ps_asg pE pG hs hw h1) ((h.run w σ B H s).mono fun v H' ⟨B', a, i, hi, q⟩ => (hg i hi).run w σ B' H' v a.sta q _ fun σ' s' _ => (k i hi).go w a.le s')
theorem x_intB {c : Bool} {p : Pos} (b : Bi g.X.mg) (hv : bootBuiltins "int" = some (.type "int")) (h : JE g e Γ (rB c)) (hg : Gl g.X "int" := by rfl) (he : starEach [e] g.X.env = (false, eval e g.X.env) :: starEach [] g.X.env := by rfl) : JE g (.Call (.Name "int" p) [e] [] pos) Γ (rI (if c then 1 else 0)) :=
  x_cty (r := fun xs H Q => (∃ i, xs = [.int i] ∧ Q (.int i) H) ∨ ∃ k, xs = [.bl k] ∧ Q (.int (if k then 1 else 0)) H) b.int (fun _ => call_int1) hv (fun B H vs K k f q => by
    obtain ⟨v, rfl, h⟩ := f.one
    cases h
    exact .inr ⟨c, rfl, q _ B H (Stp.refl k) rfl⟩) (a_cons h a_nil he) hg (by decide) (by decide) he rfl
/-- a call whose ghost is found with the arguments -/
theorem x_callx {x : Str} {k : Nat} {ps : List Str} {ι : Type} {φ : ι → Cs} {es : List Expr} {p : Pos} {Ps : List Pr} (F : Fd U x k ps φ) (h : JA g (e :: es) Γ Ps) (hi : ∀ B vs, F2 B vs Ps → ∃ i, F2 B vs (φ i).as ∧ (φ i).pre ∧ (∀ C, ¬ (φ i).exc C) ∧ ∃ S, (∀ b1, (φ i).rs b1 = .sh S) ∧ ∀ B2 v, S.r B2 v → R.r B2 v) (hk : k ≤ g.k := by exact Nat.le_of_ble_eq_true rfl)
    (hU : UvOf U g.X := by exact ⟨rfl, rfl, rfl, rfl, rfl⟩) (hg : Gl g.X x := by rfl) (hdb : (x == ("__debug__" : Str)) = false := by decide) (he : starEach (e :: es) g.X.env = (false, eval e g.X.env) :: starEach es g.X.env := by rfl) (hpl : (backTo pos (starEach es g.X.env)).any (·.1) = false := by rfl) (hcm : g.X.calm = true := by rfl) :
    JE g (.Call (.Name x p) (e :: es) [] pos) Γ R := by
  obtain ⟨f, fd, a, kp, cc, d⟩ := F.ok
  obtain ⟨u1, u2, u3, u4, u5⟩ := hU
  refine ⟨fun w σ B H s => ?_⟩
  refine (ofE (pe_callS (E := L2.WE g.W) (by rw [u1, u2, u3, u4, u5]; exact d) ((w.hr hcm).mono hk) hg (by rw [u4]; exact a) (by rw [u3]; exact kp) (by rw [u3]; exact cc) (by rw [← u1, ← u2]; exact fun σ => passAt w.tk σ) pA hdb he hpl) ?_)
  refine (h.run w σ B H s).mono fun vs H1 ⟨B1, a1, q⟩ => ?_
  obtain ⟨i, q', hp, hx, S, hs, hSR⟩ := hi _ _ q
  have z := call_run (φ := φ) (i := i) s a1 hp q' (fun C d σ B H z => (hx C z).elim) (K := fun v H' => ∃ B', Aft g.b Γ σ B H B' H' ∧ R.r B' v) fun v B' H' a r => by
    rw [hs] at r
    exact ⟨B', a, hSR _ _ r⟩
  rw [List.append_nil] at z
  exact z
theorem cutTake {α : Type} (xs : List α) (k : Nat) : cutP xs none (some (k : Int)) = xs.take k := by
  unfold cutP
  rw [HT.sIx_none, HT.sIx_nat, Nat.sub_zero, List.drop_zero]
  by_cases h : k ≤ xs.length
  · rw [Nat.min_eq_left h]
  · rw [Nat.min_eq_right (by omega), List.take_of_length_le (Nat.le_refl _), List.take_of_length_le (by omega)]
theorem cutDrop {α : Type} (xs : List α) (k : Nat) : cutP xs (some (k : Int)) none = xs.drop k := by
  unfold cutP
  rw [HT.sIx_nat, HT.sIx_none]
  by_cases h : k ≤ xs.length
  · rw [Nat.min_eq_left h, List.take_of_length_le (by rw [List.length_drop]; omega)]
  · rw [Nat.min_eq_right (by omega), List.drop_of_length_le (Nat.le_refl _), List.drop_of_length_le (by omega)]
    simp
/-- what is known of words only, told as a list of ints -/
theorem repl_x {K : PySem.W.Frag} {ψ : Int → Prop} {n : Nat} {B : Bs} {v : V} (h : (rLs K (List.replicate n (rIx ψ))).r B v) : (Pr.exs (fun ns : List Int => ns.length = n ∧ ∀ x ∈ ns, ψ x) fun ns => rLs K (ns.map G.rI)).r B v := by
  obtain ⟨p, vs, e, a, f⟩ := h
  obtain ⟨ns, l, q, k⟩ := F2.repl f
  exact ⟨ns, ⟨l, q⟩, p, vs, e, a, k⟩
end
end G
set_option Elab.async false
set_option linter.all false
set_option maxRecDepth 100000
set_option maxHeartbeats 2000000
namespace G
open PySem L2 PySem.W
/-! ### sorted of data -/
def rSortedD (K : PySem.W.Frag) : List V → Hp → VK → Prop := fun vs H Q => ∃ (a : Addr) (β : Type) (bs : List β) (f : β → V) (enc : β → PyData), vs = [V.ref a] ∧ SqL K H a (bs.map f) ∧ (∀ b ∈ bs, Dp K H (f b) (enc b)) ∧ AllAlike (bs.map enc) ∧ Sortable (bs.map enc) ∧ (∀ b ∈ bs, (enc b).depth ≤ 60) ∧
  ∀ p, H p = none → Q (.ref p) (upd H p (.lst ((bs.mergeSort (dataLe false enc)).map f)))
theorem each_of {β : Type} {f : β → V} : ∀ {bs : List β} {us : List Value}, Vals (bs.map f) us → EachIs (fun v b => RelV (f b) v) us bs
  | [], _, .nil => .nil
  | _ :: _, _, .cons h t => .cons h (each_of t)
theorem vals_each {β : Type} {f : β → V} : ∀ {bs : List β} {us : List Value}, EachIs (fun v b => RelV (f b) v) us bs → Vals (bs.map f) us
  | [], _, .nil => .nil
  | _ :: _, _, .cons h t => .cons h (vals_each t)
theorem each_dp {X : Cx} {pins : List (Addr × Obj)} {σ : L2.St} {H : Hp} {s : Shared} (I : Inv X pins σ H s) {β : Type} {f : β → V} {enc : β → PyData} : ∀ {bs : List β} {us : List Value}, Vals (bs.map f) us → (∀ b ∈ bs, Dp X.K H (f b) (enc b)) → EachIs (fun v b => ∃ as, Reads s.heap v (enc b) as) us bs
  | [], _, .nil, _ => .nil
  | b :: _, _, .cons h t, k => .cons (Dp.reads I _ _ _ (k b (List.mem_cons_self ..)) h) (each_dp I t fun c hc => k c (List.mem_cons_of_mem _ hc))
theorem cr_sortedD {X : Cx} (hu : X.A.units + 64 < cLine) : CallR X (.builtin "sorted") (rSortedD X.K) := by
  intro pins s σ H vs us Q I r h
  obtain ⟨a, β, bs, f, enc, rfl, hs, hd, hal, hk, hdp, q⟩ := h
  obtain ⟨its, rv, hl, hz⟩ := I.list hs
  rw [Vals.ref1 r]
  rw [List.length_map] at hz
  refine sorted_data (R := fun v b => RelV (f b) v) (enc := enc) hl.isList (each_of rv) (each_dp I rv hd) hal hk hz (fun b hb => by have := hdp b hb; omega) fun out ho eo => ?_
  obtain ⟨ep, he'⟩ := PyProof.Rows.sortedAll_at s.heap its out.toArray
  have hlen : ((bs.mergeSort (dataLe false enc)).map f).length ≤ sizeLine := by rw [List.length_map, List.length_mergeSort]; exact hz
  exact ⟨.ref _, upd H (s.heap.objs.size + 1) (.lst ((bs.mergeSort (dataLe false enc)).map f)), I.laid (t' := s.toks) (fun _ _ => PyProof.Rows.sortedAll_old) (Nat.le_succ _) ⟨hlen, out, ep, vals_each eo, he'⟩, rfl, q _ (I.hok.fresh (Nat.le_succ _))⟩
section
variable {g : Gx} {Γ : Gm} {P Q R : Pr} {e e1 e2 tg : Expr} {pos p2 : Pos} {D : En} {st : Stmt} {ss rest : List Stmt} {rs qs : List Pr}
theorem bo_sorted : bootBuiltins "sorted" = some (.builtin "sorted") := by decide +kernel
theorem F2.zip_mem {α : Type} {r : α → Pr} {B : Bs} : ∀ {vs : List V} {xs : List α}, F2 B vs (xs.map r) → ∀ p ∈ vs.zip xs, (r p.2).r B p.1
  | [], [], _, p, hp => by simp at hp
  | v :: vs, x :: xs, h, p, hp => by
    rcases List.mem_cons.mp (by simpa using hp : p ∈ (v, x) :: vs.zip xs) with e | hp
    · subst e; exact h.1
    · exact F2.zip_mem h.2 p hp
  | [], _ :: _, h, _, _ => h.elim
  | _ :: _, [], h, _, _ => h.elim
theorem F2.of_pairs {α : Type} {r : α → Pr} {B : Bs} : ∀ {ps : List (V × α)}, (∀ p ∈ ps, (r p.2).r B p.1) → F2 B (ps.map (·.1)) ((ps.map (·.2)).map r)
  | [], _ => trivial
  | p :: ps, h => ⟨h p (List.mem_cons_self ..), F2.of_pairs fun q hq => h q (List.mem_cons_of_mem _ hq)⟩
theorem y_sortedD {α : Type} {xs : List α} {r : α → Pr} {enc : α → PyData} {p : Pos} (b : Bi g.X.mg) (h : JE g e Γ (rLs g.X.K (xs.map r))) (hd : ∀ x ∈ xs, HasD g.X.K (r x) (enc x)) (hal : AllAlike (xs.map enc)) (hk : Sortable (xs.map enc)) (hdp : ∀ x ∈ xs, (enc x).depth ≤ 60)
    (hg : Gl g.X "sorted" := by rfl) (he : starEach [e] g.X.env = (false, eval e g.X.env) :: starEach [] g.X.env := by rfl) (hcm : g.X.calm = true := by rfl) : JO g (.Call (.Name "sorted" p) [e] [] pos) Γ (oL ((xs.mergeSort (dataLe false enc)).map r)) :=
  ⟨fun w σ B H s => ofE (pe_callB (cr_sortedD (w.hr hcm).units) hg b.sorted bo_sorted (pa_cons pE pA he) (by decide) (by decide) he rfl) ((h.run w σ B H s).mono fun v H1 ⟨B1, a1, q⟩ => ((a_nil (g := g) (Γ := Γ)).run w σ B1 H1 a1.sta).mono fun vs H2 ⟨B2, a2, f⟩ => by
    have ev : vs = [] := by
      cases vs with
      | nil => rfl
      | cons _ _ => exact f.elim
    subst ev
    obtain ⟨a, ws, e2, ha, f2⟩ := q
    subst e2
    have hlen : ws.length = xs.length := by rw [f2.len, List.length_map]
    have fz := (f2.mono a2.le).zip_mem
    have e1 : (ws.zip xs).map (fun z => z.1) = ws := List.map_fst_zip (by omega)
    have e2 : (ws.zip xs).map (fun z => z.2) = xs := List.map_snd_zip (by omega)
    have e3 : (ws.zip xs).map (fun z => enc z.2) = xs.map enc := by
      have : (ws.zip xs).map (fun z => enc z.2) = ((ws.zip xs).map (fun z => z.2)).map enc := by rw [List.map_map]; rfl
      rw [this, e2]
    refine ⟨a, V × α, ws.zip xs, fun z => z.1, fun z => enc z.2, rfl, by rw [e1]; exact (ha.mono a2.le).sq a2.sta.st.ok, fun z hz => hd z.2 (List.of_mem_zip hz).2 B2 H2 z.1 a2.sta.st.ok (fz z hz), by rw [e3]; exact hal, by rw [e3]; exact hk, fun z hz => hdp z.2 (List.of_mem_zip hz).2, fun l hl => ?_⟩
    have sm : ((ws.zip xs).mergeSort (dataLe false fun z => enc z.2)).map (fun z => z.2) = xs.mergeSort (dataLe false enc) := by
      have := sort_maps (r := dataLe false fun z : V × α => enc z.2) (fun z : V × α => z.2) (s := dataLe false enc) (l := ws.zip xs) (fun a _ b _ => rfl)
      rw [this, e2]
    refine ⟨B2, (a1.trans a2).trans (a2.sta.beside hl), ?_, one_fresh (a1.th (a2.th hl))⟩
    refine own_mk (a2.sta.st.ok.none hl) (a2.sta.st.bnone hl) upd_same ?_
    rw [← sm]
    exact F2.of_pairs fun z hz => fz z ((List.mergeSort_perm _ _).mem_iff.mp hz))⟩
/-! ### tuples of the ground -/
def rTg (rs : List Pr) : Pr := ⟨fun B v => ∃ p vs, v = .ref p ∧ B p = some (.ex (.tup vs)) ∧ F2 B vs rs, fun _ _ _ l ⟨p, vs, e, h, k⟩ => ⟨p, vs, e, l _ _ h, k.mono l⟩⟩
theorem rTg_le {K : PySem.W.Frag} {B : Bs} {v : V} (h : (rTg rs).r B v) : (rTs K rs).r B v := let ⟨p, vs, e, h, k⟩ := h; ⟨p, vs, e, .inl h, k⟩
theorem x_tupG {es : List Expr} {Ps : List Pr} {k : Nat} (h : JA g es Γ Ps) (hl : Ps.length ≤ sizeLine := by exact Nat.le_of_ble_eq_true rfl) : JE g (.Tuple es k pos) Γ (rTg Ps) :=
  ⟨fun w σ B H s => ofE (pe_tup pA) ((h.run w σ B H s).mono fun vs H1 ⟨B1, a1, f⟩ => ⟨by rw [f.len]; exact hl, fun q hq => ⟨_, a1.trans (a1.sta.lay hq), q, vs, rfl, put_same, f.mono (Le.put (a1.sta.st.ok.none hq))⟩⟩)⟩
theorem x_catG1 (hl : rs.length + qs.length ≤ sizeLine) (hq : qs ≠ []) (h1 : JE g e1 Γ (rTs g.X.K rs)) (h2 : JE g e2 Γ (rTg qs)) : JE g (.BinOp e1 .Add e2 pos) Γ (rTg (rs ++ qs)) :=
  x_op (P := rTs g.X.K rs) (Q := rTg qs) op_catA (fun B H v u K k ⟨p, vs, e, a, f⟩ ⟨p2, vs2, e2, a2, f2⟩ c => by
    subst e e2
    refine ⟨p, p2, vs, vs2, rfl, rfl, a.sq k, atT.sq (K := g.X.K) k (.inl a2), by rw [f.len, f2.len]; exact hl, fun z => ?_, fun _ z => ?_, fun _ _ q hq => ?_⟩
    · subst z
      have : rs = [] := by have := f.len; cases rs with
        | nil => rfl
        | cons _ _ => cases this
      subst this
      exact c _ B H (Stp.refl k) ⟨p2, vs2, rfl, a2, f2⟩
    · subst z
      have : qs = [] := by have := f2.len; cases qs with
        | nil => rfl
        | cons _ _ => cases this
      exact absurd this hq
    · exact c _ _ _ (Stp.lay k hq) ⟨q, _, rfl, put_same, (f.append f2).mono (Le.put (k.none hq))⟩) h1 h2
theorem x_catG2 (hl : rs.length + qs.length ≤ sizeLine) (hr : rs ≠ []) (h1 : JE g e1 Γ (rTg rs)) (h2 : JE g e2 Γ (rTs g.X.K qs)) : JE g (.BinOp e1 .Add e2 pos) Γ (rTg (rs ++ qs)) :=
  x_op (P := rTg rs) (Q := rTs g.X.K qs) op_catA (fun B H v u K k ⟨p, vs, e, a, f⟩ ⟨p2, vs2, e2, a2, f2⟩ c => by
    subst e e2
    refine ⟨p, p2, vs, vs2, rfl, rfl, atT.sq (K := g.X.K) k (.inl a), a2.sq k, by rw [f.len, f2.len]; exact hl, fun z => ?_, fun _ z => ?_, fun _ _ q hq => ?_⟩
    · subst z
      have : rs = [] := by have := f.len; cases rs with
        | nil => rfl
        | cons _ _ => cases this
      exact absurd this hr
    · subst z
      have : qs = [] := by have := f2.len; cases qs with
        | nil => rfl
        | cons _ _ => cases this
      subst this
      exact c _ B H (Stp.refl k) ⟨p, vs, rfl, a, by rw [List.append_nil]; exact f⟩
    · exact c _ _ _ (Stp.lay k hq) ⟨q, _, rfl, put_same, (f.append f2).mono (Le.put (k.none hq))⟩) h1 h2
/-! ### a dict with keys that are tuples of ints, one value -/
def keyI (k : List Int) : List L2.Key := k.map Sum.inl
def oDs (ks : List (List Int)) (x : V) : Oc where
  ad := fun v _ => one v
  r := fun B H v => ∃ p, v = .ref p ∧ H p = some (.dT (ks.map fun k => (keyI k, x)))
  mono := fun _ _ _ _ _ h => h
  ast := fun _ _ _ _ => rfl
  rst := fun B H H' v g ⟨p, e, h⟩ => ⟨p, e, by subst e; rw [g p (by simp [one])]; exact h⟩
theorem hard_dT {kvs : List (List L2.Key × V)} : Hard (some (.dT kvs)) := ⟨_, rfl, fun _ h => nomatch h⟩
theorem y_dnewT {x : V} : JO g (.Dict [] [] pos) Γ (oDs [] x) :=
  ⟨fun w σ B H s => ofE pe_dnewT fun p hp => ⟨B, s.beside hp, ⟨fun a ha => by rw [mem_one.mp ha]; exact s.st.ok.none hp, fun a ha => by rw [mem_one.mp ha]; exact s.st.bnone hp, fun a ha => by rw [mem_one.mp ha, upd_same]; exact hard_dT, p, rfl, upd_same⟩, one_fresh hp⟩⟩
theorem keyI_inj {j k : List Int} (h : keyI j = keyI k) : j = k := by
  have e : ∀ l : List Int, (keyI l).map (fun z => match z with
    | .inl i => i
    | .inr _ => 0) = l := fun l => by unfold keyI; rw [List.map_map]; exact List.map_id l
  rw [← e j, ← e k, h]
theorem putK_ints {ks : List (List Int)} {k : List Int} {x : V} : putK (ks.map fun k => (keyI k, x)) (keyI k) x = (if k ∈ ks then ks else ks ++ [k]).map fun k => (keyI k, x) := by
  unfold putK
  have e : ((ks.map fun k => (keyI k, x)).any fun kv => decide (kv.1 = keyI k)) = decide (k ∈ ks) := by
    rw [List.any_map, Bool.eq_iff_iff, List.any_eq_true, decide_eq_true_iff]
    constructor
    · rintro ⟨j, hj, q⟩
      have : keyI j = keyI k := by simpa using q
      rw [← keyI_inj this]; exact hj
    · intro h
      exact ⟨k, h, by simp⟩
  rw [e]
  by_cases h : k ∈ ks
  · rw [if_pos (by simpa using h), if_pos h, List.map_map]
    apply List.map_congr_left
    intro j _
    show (if keyI j = keyI k then (keyI j, x) else (keyI j, x)) = _
    split <;> rfl
  · rw [if_neg (by simpa using h), if_neg h, List.map_append]; rfl
theorem F2.int_list {B : Bs} : ∀ {vs : List V} {k : List Int}, F2 B vs (k.map G.rI) → vs = (keyI k).map kV
  | [], [], _ => rfl
  | v :: vs, i :: k, h => by
    have e : v = .int i := h.1
    rw [e, F2.int_list h.2]; rfl
  | [], _ :: _, h => h.elim
  | _ :: _, [], h => h.elim
theorem F2.of_key {B : Bs} : ∀ k : List Int, F2 B ((keyI k).map kV) (k.map G.rI)
  | [] => trivial
  | _ :: k => ⟨rfl, F2.of_key k⟩
/-- x[k] = v -/
theorem s_dputT (i : Nat) {ks : List (List Int)} {k : List Int} {z : V} {x : Str} {p spos : Pos} (hv' : JE g e Γ (rV z)) (hk : JE g e1 Γ (rTg (k.map G.rI))) (hl : ks.length < sizeLine) (kk : JS g rest (Γ.set i (some (.ow (oDs (if k ∈ ks then ks else ks ++ [k]) z)))) D) (hi : Γ[i]? = some (some (.ow (oDs ks z))) := by rfl) (hN : g.X.N[i]? = some x := by rfl) (hv : Vis g.X.env.scope x := by first | exact Or.inl rfl | exact Or.inr (Or.inl rfl) | exact Or.inr (Or.inr rfl))
    (hd : (x == ("__debug__" : Str)) = false := by decide) (hcd : (x == ("__classdict__" : Str)) = false := by decide) (hs : swapsWith e (some (.Subscript (.Name x p) e1 spos)) pos.line g.X.env = pure false := by rfl) (hcm : g.X.calm = true := by rfl) :
    JS g (.Assign [.Subscript (.Name x p) e1 spos] e pos :: rest) Γ D :=
  js_cons fun w σ B H s => of1 (ps_dput (by have := (w.hr hcm).units; omega) (pe_var hN hv hd hcd) pE pE hs) (by
    obtain ⟨v0, e, o⟩ := s.env.ow i _ hi
    obtain ⟨q, e2, hu⟩ := o.at_
    subst e2
    have nb := o.nb q (mem_one.mpr rfl)
    refine (hv'.run w σ B H s).mono fun v H1 ⟨B1, a1, p1⟩ => ⟨_, e, (hk.run w σ B1 H1 a1.sta).mono fun jv H2 ⟨B2, a2, b, vs, ej, hb, f⟩ => ?_⟩
    have a12 := a1.trans a2
    have hu1 : H2 q = some (.dT (ks.map fun k => (keyI k, z))) := a12.t.keep q _ hu fun φ z => by rw [nb] at z; cases z
    have p1 : v = z := p1
    subst p1 ej
    have hb2 : H2 b = some (.tup ((keyI k).map kV)) := by
      rw [← f.int_list]
      exact (a2.sta.st.ok.ex b _ hb).hard rfl
    refine ⟨q, _, rfl, DPut.t hu1 hb2 (by rw [List.length_map]; exact hl), kk.go w a12.le ?_⟩
    rw [putK_ints]
    exact a12.sta.chg hi e (mem_one.mpr rfl) (fun a m => m) ⟨q, rfl, upd_same⟩)
/-- list(x) -/
theorem y_listDT (i : Nat) {ks : List (List Int)} {z : V} {x : Str} {p px : Pos} (b : Bi g.X.mg) (hi : Γ[i]? = some (some (.ow (oDs ks z))) := by rfl) (hN : g.X.N[i]? = some x := by rfl) (hv : Vis g.X.env.scope x := by first | exact Or.inl rfl | exact Or.inr (Or.inl rfl) | exact Or.inr (Or.inr rfl))
    (hd : (x == ("__debug__" : Str)) = false := by decide) (hcd : (x == ("__classdict__" : Str)) = false := by decide) (hg : Gl g.X "list" := by rfl) (he : starEach [.Name x px] g.X.env = (false, eval (.Name x px) g.X.env) :: starEach [] g.X.env := by rfl) (hcm : g.X.calm = true := by rfl) :
    JO g (.Call (.Name "list" p) [.Name x px] [] pos) Γ (oL (ks.map fun k => rTg (k.map G.rI))) :=
  ⟨fun w σ B H s => ofE (pe_callTy (call_list_dT hcm) hg b.list bo_list (pa_cons (pe_var hN hv hd hcd) pa_nil he) (by decide) (by decide) he rfl) (by
    obtain ⟨v0, e, o⟩ := s.env.ow i _ hi
    obtain ⟨q, e2, hu⟩ := o.at_
    subst e2
    refine ⟨_, e, q, _, rfl, .inl hu, fun l bs hl hk => ?_⟩
    have key : ∀ (kvs : List (List Int)) (cs : List Addr), IsKeys H (kvs.map fun k => (keyI k, z)) cs → (∀ a ∈ cs, ∃ vs, H a = some (.tup vs)) ∧ ∀ B', (∀ a ∈ cs, ∀ vs, H a = some (.tup vs) → B' a = some (.ex (.tup vs))) → F2 B' (cs.map V.ref) (kvs.map fun k => rTg (k.map G.rI)) := by
      intro kvs
      induction kvs with
      | nil => intro cs h; cases h; exact ⟨fun a ha => (by cases ha), fun _ _ => trivial⟩
      | cons k kvs ih =>
        intro cs h
        cases h with
        | cons h1 h2 =>
          rename_i c cs'
          have h1 : H c = some (.tup ((keyI k).map kV)) := h1
          obtain ⟨i1, i2⟩ := ih _ h2
          refine ⟨fun a ha => ?_, fun B' hB => ⟨⟨c, _, rfl, hB c (List.mem_cons_self ..) _ h1, ?_⟩, i2 B' fun a ha => hB a (List.mem_cons_of_mem _ ha)⟩⟩
          · rcases List.mem_cons.mp ha with e | ha
            · subst e; exact ⟨_, h1⟩
            · exact i1 a ha
          · exact F2.of_key k
    obtain ⟨k1, k2⟩ := key ks bs hk
    have t := s.step (Stp.tups s.st.ok k1)
    refine ⟨_, t.trans (t.sta.beside hl), own_mk (t.sta.st.ok.none hl) (t.sta.st.bnone hl) upd_same (k2 _ fun a ha vs hvs => ?_), one_fresh hl⟩
    show (if _ then _ else _) = _
    cases eB : B a with
    | none => rw [if_pos ⟨ha, rfl⟩, hvs]
    | some kd =>
      rw [if_neg (by rintro ⟨_, z⟩; cases z)]
      cases kd with
      | ex u =>
        rcases s.st.ok.ex a u eB with z | ⟨_, o, z⟩
        · rw [hvs] at z; cases z; rfl
        · rw [hvs] at z; cases z
      | iv φ =>
        obtain ⟨o, z, _, n⟩ := s.st.ok.iv a φ eB
        rw [hvs] at z; cases z
        exact absurd rfl (n vs))⟩
end
end G
set_option Elab.async false
set_option linter.all false
set_option maxRecDepth 100000
set_option maxHeartbeats 2000000
namespace G
open PySem L2
section
variable {g : Gx} {Γ : Gm} {P Q R : Pr} {e e1 e2 tg : Expr} {pos p2 : Pos} {D : En} {st : Stmt} {ss rest : List Stmt} {rs qs : List Pr}
/-! ### borrowing for what leans on tuples alone -/
def TupLe (B B' : Bs) : Prop := ∀ a vs, B a = some (.ex (.tup vs)) → B' a = some (.ex (.tup vs))
def FreeT (P : Pr) : Prop := ∀ B B' v, TupLe B B' → P.r B v → P.r B' v
theorem Free.t (h : Free P) : FreeT P := fun B B' v _ k => h B B' v k
theorem ft_V {x : V} : FreeT (rV x) := free_V.t
theorem F2.tup {B B' : Bs} (l : TupLe B B') : ∀ {vs : List V} {rs : List Pr}, (∀ r ∈ rs, FreeT r) → F2 B vs rs → F2 B' vs rs
  | [], [], _, _ => trivial
  | _ :: _, r :: _, h, f => ⟨h r (List.mem_cons_self ..) _ _ _ l f.1, F2.tup l (fun q hq => h q (List.mem_cons_of_mem _ hq)) f.2⟩
  | [], _ :: _, _, f => f.elim
  | _ :: _, [], _, f => f.elim
theorem ft_T {K : PySem.W.Frag} (h : ∀ r ∈ rs, FreeT r) : FreeT (rTs K rs) := fun B B' v l ⟨p, vs, e, a, f⟩ => ⟨p, vs, e, a.imp (l _ _) id, F2.tup l h f⟩
theorem ft_Tg (h : ∀ r ∈ rs, FreeT r) : FreeT (rTg rs) := fun B B' v l ⟨p, vs, e, a, f⟩ => ⟨p, vs, e, l _ _ a, F2.tup l h f⟩
def FreeTO (c : Oc) : Prop := ∀ B B' H v, TupLe B B' → c.r B H v → c.r B' H v
theorem ft_oL (h : ∀ r ∈ rs, FreeT r) : FreeTO (oL rs) := fun B B' H v l ⟨p, vs, e, a, f⟩ => ⟨p, vs, e, a, F2.tup l h f⟩
theorem ft_map {α : Type} {r : α → Pr} {xs : List α} (h : ∀ x, FreeT (r x)) : ∀ q ∈ xs.map r, FreeT q := fun q hq => by
  obtain ⟨x, _, rfl⟩ := List.mem_map.mp hq
  exact h x
theorem delL_tup {b : Base} {c : Oc} {v : V} {B B2 : Bs} {H : Hp} (o : Own b c v B H) (l : Le (putH B H (c.ad v H)) B2) : TupLe B2 (delL B2 (c.ad v H)) := fun a vs h => by
  unfold delL
  by_cases q : a ∈ c.ad v H
  · exfalso
    obtain ⟨u, e, n⟩ := o.th a q
    have := l a _ (putH_in q e)
    rw [h] at this
    cases this
    exact n vs rfl
  · rw [if_neg q]; exact h
theorem x_borT (i : Nat) {c : Oc} (R : Pr) (h : JE g e (Γ.set i (some (.sh R))) P) (hf : FreeT P) (hk : ∀ B H v, (∀ a ∈ c.ad v H, B a = none) → c.r B H v → R.r (putH B H (c.ad v H)) v) (hi : Γ[i]? = some (some (.ow c)) := by rfl) : JE g e Γ P :=
  ⟨fun w σ B H s => by
    obtain ⟨v, e, o, l, s2⟩ := s.hand hi hk
    exact (h.run w σ _ H s2).mono fun u H' ⟨B', a, q⟩ => ⟨_, borrow_back s hi e o a, hf _ _ _ (delL_tup o a.le) q⟩⟩
theorem y_borT (i : Nat) {c d : Oc} (R : Pr) (h : JO g e (Γ.set i (some (.sh R))) d) (hf : FreeTO d) (hk : ∀ B H v, (∀ a ∈ c.ad v H, B a = none) → c.r B H v → R.r (putH B H (c.ad v H)) v) (hi : Γ[i]? = some (some (.ow c)) := by rfl) : JO g e Γ d :=
  ⟨fun w σ B H s => by
    obtain ⟨v, e, o, l, s2⟩ := s.hand hi hk
    refine (h.run w σ _ H s2).mono fun u H' ⟨B', a, q, n⟩ => ⟨_, borrow_back s hi e o a, ⟨fun x hx => ?_, q.nh, q.th, hf _ _ _ _ (delL_tup o a.le) q.at_⟩, n⟩
    unfold delL
    split
    · rfl
    · exact q.nb x hx⟩
theorem l_borT (i : Nat) {elt iter : Expr} {ifs : List Expr} {scope : Scope} {own : List (Str × Nat)} {c d : Oc} (R : Pr) (h : JLc g elt tg iter ifs scope own (Γ.set i (some (.sh R))) d) (hf : FreeTO d) (hk : ∀ B H v, (∀ a ∈ c.ad v H, B a = none) → c.r B H v → R.r (putH B H (c.ad v H)) v) (hi : Γ[i]? = some (some (.ow c)) := by rfl) : JLc g elt tg iter ifs scope own Γ d :=
  ⟨h.ok, fun w σ B H s => by
    obtain ⟨v, e, o, l, s2⟩ := s.hand hi hk
    obtain ⟨tt, ht, r⟩ := h.run w σ _ H s2
    refine ⟨tt, ht, tLc_mono r fun u H' ⟨B', a, q, n⟩ => ⟨_, borrow_back s hi e o a, ⟨fun x hx => ?_, q.nh, q.th, hf _ _ _ _ (delL_tup o a.le) q.at_⟩, n⟩⟩
    unfold delL
    split
    · rfl
    · exact q.nb x hx⟩
end
end G
set_option Elab.async false
set_option linter.all false
set_option maxRecDepth 100000
set_option maxHeartbeats 4000000
namespace G
open PySem PySem.Spec PyProof.Rows L2
/-! ### a tuple times a number -/
theorem tuple_mul1 (l : Addr) (items : Array Value) (n : Nat) (dd : Option Addr) (sl : Array (Option Value)) (u : Tok) :
    Meets (Builtin.«tuple.__mul__» ⟨[.ref l, .int 1 u], []⟩) (fun _ R s => s.heap.get? l = some { cls := .type "tuple", dict := dd, data := .seq items n, slots := sl } ∧
      R (.ok (.ret (Value.ref l))) s) :=
  .of_wp fun prog w A R s h => by
    obtain ⟨hp, g, d, tk, os⟩ := s
    obtain ⟨hl, h⟩ := h
    have f1 := AutoSeq1.idx_int
    have c1 : (items.isEmpty || (1 : Int) == 1) = true := by simp
    wp_walk using wpAny_loadPart' hl
    exact ⟨_, rfl, h⟩
def rRepA (K : PySem.W.Frag) : R2 := fun x y H Q => ∃ l k xs, x = .ref l ∧ y = .int k ∧ SqT K H l xs ∧ xs ≠ [] ∧ 1 ≤ k ∧ k ≤ 1000 ∧ xs.length ≤ 1000 ∧ (k = 1 → Q (.ref l) H) ∧ (2 ≤ k → ∀ p, H p = none → Q (.ref p) (upd H p (.tup (List.replicate k.toNat xs).flatten)))
theorem op_repA {X : Cx} : OpR X (binaryOp .Mult) (rRepA X.K) := by
  intro pins s σ H x y v u Q I rx ry h
  obtain ⟨l, k, xs, rfl, rfl, hT, hne, h1, h2, hz, q1, q2⟩ := h
  by_cases hk : k = 1
  · subst hk
    cases rx
    obtain ⟨t, rfl⟩ := ry
    obtain ⟨its, r, ⟨⟨cls, dd, data, sl⟩, ho, hc, n, hd⟩, hs⟩ := I.tuple hT
    simp only at hc hd
    subst hc hd
    refine wpAny_binaryOp_repeat_ref (T := "tuple") (U := "int") (by decide) ⟨_, ho, rfl⟩ (fun s' => typeIs_int s' 1 t) noFill_tuple_mul F.fills_int_mul F.slot_int_rmul repeat_tuple F.slot_int_index.lookup
      (call_meets F.slot_int_rmul (typeIs_int s 1 t) F.entry_int_rmul (F.args_int_rmul_2 _ _) (int_rmul_tuple 1 t l its.toArray n dd sl)
        ⟨ho, rfl, ⟨_, ho, rfl⟩, call_meets F.slot_tuple_mul ⟨_, ho, rfl⟩ F.entry_tuple_mul (F.args_tuple_mul_2 _ _) (tuple_mul1 l its.toArray n dd sl t) ⟨ho, ?_⟩⟩)
    exact ⟨.ref l, H, I, rfl, q1 rfl⟩
  · exact op_repT pins s σ H _ _ v u Q I rx ry ⟨l, k, xs, rfl, rfl, hT, hne, by omega, h2, hz, q2 (by omega)⟩
section
variable {g : Gx} {Γ : Gm} {P Q R : Pr} {e e1 e2 tg : Expr} {pos p2 : Pos} {D : En} {st : Stmt} {ss rest : List Stmt} {rs qs : List Pr}
theorem F2.rep {B : Bs} {vs : List V} {rs : List Pr} (f : F2 B vs rs) : ∀ n : Nat, F2 B (List.replicate n vs).flatten (List.replicate n rs).flatten
  | 0 => trivial
  | n + 1 => by
    rw [List.replicate_succ, List.replicate_succ, List.flatten_cons, List.flatten_cons]
    exact f.append (F2.rep f n)
theorem x_repT {k : Int} (h0 : 1 ≤ k) (hk : k ≤ 1000) (hne : rs ≠ []) (hl : rs.length ≤ 1000) (h1 : JE g e1 Γ (rTs g.X.K rs)) (h2 : JE g e2 Γ (rI k)) : JE g (.BinOp e1 .Mult e2 pos) Γ (rTs g.X.K (List.replicate k.toNat rs).flatten) :=
  x_op (P := rTs g.X.K rs) (Q := rI k) op_repA (fun B H v u K kk ⟨p, vs, e, a, f⟩ q c => by
    have q : u = .int k := q
    subst e q
    have hv : vs ≠ [] := by
      rintro rfl
      have := f.len
      cases rs with
      | nil => exact hne rfl
      | cons _ _ => cases this
    refine ⟨p, k, vs, rfl, rfl, a.sq kk, hv, h0, hk, by rw [f.len]; exact hl, fun z => ?_, fun _ q hq => ?_⟩
    · subst z
      refine c _ B H (Stp.refl kk) ⟨p, vs, rfl, a, ?_⟩
      have : (List.replicate (1 : Int).toNat rs).flatten = rs := by
        show (List.replicate 1 rs).flatten = rs
        simp
      rw [this]; exact f
    · exact c _ _ _ (Stp.lay kk hq) ⟨q, _, rfl, .inl put_same, (f.mono (Le.put (kk.none hq))).rep _⟩) h1 h2
/-- a comprehension of all, each by q -/
theorem y_mapM {α : Type} {xs : List α} {r : α → Pr} {elt iter : Expr} {scope : Scope} (own : List (Str × Nat)) {Γ2 : α → Gm} (q : α → Pr) {sl : List Nat} (hI : JM g tg iter Γ xs r) (hn : xs.length < sizeLine)
    (hg : AnyB scope g fun g' => ∀ x, x ∈ xs → JG g' tg (r x) (wipeG Γ (own.map (·.2))) (Γ2 x) sl) (he : AnyB scope g fun g' => ∀ x, x ∈ xs → JE g' elt (Γ2 x) (q x))
    (hsl : ∀ i ∈ sl, i ∈ own.map (·.2) := by decide) (ok : BlkOk g.X.N g.X.env.scope scope own := by exact blkOk_by (by rfl)) (hs : ∀ x, foldedSetIterable iter g.X.env x = pure x := by intro _; rfl) (hcm : g.X.calm = true := by rfl) : JO g (.ListComp elt [⟨tg, iter, [], 0⟩] scope pos) Γ (oL (xs.map q)) := by
  have := y_lcM (pos := pos) (xs := xs) (r := r) own (fun _ => true) q hI hn hg (fun s H C cl fp x hx => ts_no) (fun s H C cl fp x hx _ => he s H C cl fp x hx) hsl ok hs hcm
  rwa [List.filter_eq_self.mpr (fun _ _ => rfl)] at this
end
end G
set_option Elab.async false
set_option linter.all false
set_option maxRecDepth 100000
set_option maxHeartbeats 4000000
namespace G
open PySem L2
/-- the greatest of some ints that are not none -/
def lmax : List Int → Int
  | [] => 0
  | x :: xs => xs.foldl max x
theorem foldl_max (xs : List Int) : ∀ x : Int, (xs.foldl max x = x ∨ xs.foldl max x ∈ xs) ∧ x ≤ xs.foldl max x ∧ ∀ y ∈ xs, y ≤ xs.foldl max x := by
  induction xs with
  | nil => intro x; exact ⟨.inl rfl, Int.le_refl _, fun y hy => (by cases hy)⟩
  | cons z xs ih =>
    intro x
    rw [List.foldl_cons]
    obtain ⟨a, b, c⟩ := ih (max x z)
    refine ⟨?_, by omega, fun y hy => ?_⟩
    · rcases a with a | a
      · rw [a]
        rcases Int.le_total x z with q | q
        · rw [Int.max_eq_right q]; exact .inr (List.mem_cons_self ..)
        · rw [Int.max_eq_left q]; exact .inl rfl
      · exact .inr (List.mem_cons_of_mem _ a)
    · rcases List.mem_cons.mp hy with e | hy
      · subst e; omega
      · exact c y hy
theorem lmax_mem {ns : List Int} (h : ns ≠ []) : lmax ns ∈ ns := by
  cases ns with
  | nil => exact absurd rfl h
  | cons x xs =>
    rcases (foldl_max xs x).1 with e | e
    · show xs.foldl max x ∈ _; rw [e]; exact List.mem_cons_self ..
    · exact List.mem_cons_of_mem _ e
theorem lmax_ge {ns : List Int} {x : Int} (h : x ∈ ns) : x ≤ lmax ns := by
  cases ns with
  | nil => cases h
  | cons y xs =>
    rcases List.mem_cons.mp h with e | e
    · subst e; exact (foldl_max xs x).2.1
    · exact (foldl_max xs y).2.2 x e
section
variable {g : Gx} {Γ : Gm} {P Q R : Pr} {e e1 e2 tg : Expr} {pos p2 : Pos} {D : En} {st : Stmt} {ss rest : List Stmt} {rs qs : List Pr}
theorem x_maxL {ns : List Int} {p : Pos} (b : Bi g.X.mg) (hne : ns ≠ []) (h : JE g e Γ (rLs g.X.K (ns.map rI))) (hg : Gl g.X "max" := by rfl) (he : starEach [e] g.X.env = (false, eval e g.X.env) :: starEach [] g.X.env := by rfl) (hcm : g.X.calm = true := by rfl) : JE g (.Call (.Name "max" p) [e] [] pos) Γ (rI (lmax ns)) :=
  x_cb (r := rMax g.X.K) b.max (fun w => cr_max hcm) bo_max (fun B H vs K k f c => by
    obtain ⟨v, rfl, q, ws, e2, a, f2⟩ := f.one
    have := f2.ints
    subst this
    refine ⟨q, ns, by rw [e2], a.sq k, List.length_pos_iff.mpr hne, fun m h1 h2 => c _ B H (Stp.refl k) ?_⟩
    have : m = lmax ns := Int.le_antisymm (lmax_ge h1) (h2 _ (lmax_mem hne))
    rw [this]; rfl) (a_cons h a_nil he) hg (by decide) (by decide) he rfl
/-- x in xs, x not in xs: data -/
theorem o_inD {d : PyData} {ds : List PyData} (h1 : HasD g.X.K P d) (h2 : HasD g.X.K Q (.list ds)) (s1 : SeqAt.shaped d = true) (s2 : SeqAt.shaped (.list ds) = true) : Op2 g.X (rInD g.X.K) P Q (rB (ds.any fun z => PyData.eqv z d)) := fun B H v u K k p q c => ⟨d, ds, h1 B H v k p, h2 B H u k q, s1, s2, c _ B H (Stp.refl k) rfl⟩
theorem o_notInD {d : PyData} {ds : List PyData} (h1 : HasD g.X.K P d) (h2 : HasD g.X.K Q (.list ds)) (s1 : SeqAt.shaped d = true) (s2 : SeqAt.shaped (.list ds) = true) : Op2 g.X (rNotInD g.X.K) P Q (rB (!ds.any fun z => PyData.eqv z d)) := fun B H v u K k p q c => ⟨d, ds, h1 B H v k p, h2 B H u k q, s1, s2, c _ B H (Stp.refl k) rfl⟩
theorem Gx.Wf.u65 (w : g.Wf) (hcm : g.X.calm = true) : g.X.A.units + 65 < cLine := by have := (w.hr hcm).un; omega
theorem x_inD {d : PyData} {ds : List PyData} (h1 : JE g e1 Γ P) (h2 : JE g e2 Γ Q) (k1 : HasD g.X.K P d) (k2 : HasD g.X.K Q (.list ds)) (s1 : SeqAt.shaped d = true) (s2 : SeqAt.shaped (.list ds) = true) (hm : behindInMarks .In e2 = false := by rfl) (hcm : g.X.calm = true := by rfl) : JE g (.Compare e1 [.In] [e2] pos) Γ (rB (ds.any fun z => PyData.eqv z d)) := x_cmpW (fun w => op_inD (w.u65 hcm)) (o_inD k1 k2 s1 s2) h1 h2 hm
theorem t_inD {d : PyData} {ds : List PyData} (h1 : JE g e1 Γ P) (h2 : JE g e2 Γ Q) (k1 : HasD g.X.K P d) (k2 : HasD g.X.K Q (.list ds)) (s1 : SeqAt.shaped d = true) (s2 : SeqAt.shaped (.list ds) = true) (hm : behindInMarks .In e2 = false := by rfl) (hcm : g.X.calm = true := by rfl) : JT g (.Compare e1 [.In] [e2] pos) Γ (ds.any fun z => PyData.eqv z d) := t_cmpW (fun w => op_inD (w.u65 hcm)) (o_inD k1 k2 s1 s2) h1 h2 hm
theorem x_notInD {d : PyData} {ds : List PyData} (h1 : JE g e1 Γ P) (h2 : JE g e2 Γ Q) (k1 : HasD g.X.K P d) (k2 : HasD g.X.K Q (.list ds)) (s1 : SeqAt.shaped d = true) (s2 : SeqAt.shaped (.list ds) = true) (hm : behindInMarks .NotIn e2 = false := by rfl) (hcm : g.X.calm = true := by rfl) : JE g (.Compare e1 [.NotIn] [e2] pos) Γ (rB (!ds.any fun z => PyData.eqv z d)) := x_cmpW (fun w => op_notInD (w.u65 hcm)) (o_notInD k1 k2 s1 s2) h1 h2 hm
theorem t_notInD {d : PyData} {ds : List PyData} (h1 : JE g e1 Γ P) (h2 : JE g e2 Γ Q) (k1 : HasD g.X.K P d) (k2 : HasD g.X.K Q (.list ds)) (s1 : SeqAt.shaped d = true) (s2 : SeqAt.shaped (.list ds) = true) (hm : behindInMarks .NotIn e2 = false := by rfl) (hcm : g.X.calm = true := by rfl) : JT g (.Compare e1 [.NotIn] [e2] pos) Γ (!ds.any fun z => PyData.eqv z d) := t_cmpW (fun w => op_notInD (w.u65 hcm)) (o_notInD k1 k2 s1 s2) h1 h2 hm
/-- a new list of two whole numbers becomes a pot -/
theorem JO.pot {φ ψ : Int → Prop} (h : JO g e Γ (oL [rIx φ, rIx ψ])) : JE g e Γ (rPot φ ψ) :=
  ⟨fun w σ B H s => (h.run w σ B H s).mono fun v H' ⟨B', a, o, n⟩ => by
    obtain ⟨p, vs, e2, nb, nh, hp, f⟩ := own_one o
    subst e2
    obtain ⟨v1, v2, rfl, ⟨x, ha, ea⟩, ⟨y, hb, eb⟩⟩ := f.two
    have ea : v1 = .int x := ea
    have eb : v2 = .int y := eb
    subst ea eb
    have np : H p = none := n p (mem_one.mpr rfl)
    have l : Le B' (put B' p (.iv (IsPot φ ψ))) := Le.put nb
    have t : Stp B H (put B' p (.iv (IsPot φ ψ))) H' := {
      le := a.le.trans l
      ok := ⟨fun z u e => by
        by_cases q : z = p
        · subst q; rw [put_same] at e; cases e
        · rw [put_ne q] at e; exact a.sta.st.ok.ex z u e, fun z χ e => by
        by_cases q : z = p
        · subst q; rw [put_same] at e; cases e; exact ⟨_, hp, ⟨x, y, rfl, ha, hb⟩, fun _ h => nomatch h⟩
        · rw [put_ne q] at e; exact a.sta.st.ok.iv z χ e⟩
      keep := a.t.keep
      there := a.t.there
      new := fun z e k' m => by
        by_cases q : z = p
        · subst q; exact .inl np
        · rw [put_ne q] at m; exact a.t.new z e k' m }
    exact ⟨_, s.step t, p, rfl, put_same⟩⟩
/-- [a] + xs and such, laid on the ground -/
theorem x_catL (hl : rs.length + qs.length ≤ sizeLine) (h1 : JE g e1 Γ (rLs g.X.K rs)) (h2 : JE g e2 Γ (rLs g.X.K qs)) : JE g (.BinOp e1 .Add e2 pos) Γ (rLs g.X.K (rs ++ qs)) := (y_catL hl h1 h2).fz
end
end G
set_option Elab.async false
set_option linter.all false
set_option maxRecDepth 100000
set_option maxHeartbeats 4000000
namespace G
open PySem L2
/-! ### an own thing borrowed by a statement -/
def Pr.pin (v : Option V) (P : Pr) : Pr := ⟨fun B u => some u = v ∧ P.r B u, fun _ _ _ l ⟨a, h⟩ => ⟨a, P.mono _ _ _ l h⟩⟩
def pinS (v : Option V) : Option Sl → Option Sl
  | some (.sh P) => some (.sh (P.pin v))
  | s => s
def pins (f : Nat → Option V) : Nat → Gm → Gm
  | _, [] => []
  | k, s :: r => pinS (f k) s :: pins f (k + 1) r
theorem pins_get (f : Nat → Option V) : ∀ (Γ : Gm) (k i : Nat), (pins f k Γ)[i]? = (Γ[i]?).map (pinS (f (k + i)))
  | [], k, i => by simp [pins]
  | s :: r, k, 0 => by simp [pins]
  | s :: r, k, i + 1 => by
    have := pins_get f r (k + 1) i
    show (pins f (k + 1) r)[i]? = _
    rw [this]
    have : k + 1 + i = k + (i + 1) := by omega
    rw [this]; simp
theorem pins_len (f : Nat → Option V) : ∀ (Γ : Gm) (k : Nat), (pins f k Γ).length = Γ.length
  | [], k => rfl
  | s :: r, k => by simp [pins, pins_len f r]
/-- the slots of Δ are Γ's, or dropped -/
def Drop : Gm → Gm → Prop
  | [], [] => True
  | a :: Γ, b :: Δ => (b = a ∨ b = none) ∧ Drop Γ Δ
  | _, _ => False
theorem Drop.get : ∀ {Γ Δ : Gm}, Drop Γ Δ → ∀ {i : Nat} {x : Sl}, Δ[i]? = some (some x) → Γ[i]? = some (some x)
  | [], [], _, i, x, e => by simp at e
  | a :: Γ, b :: Δ, h, 0, x, e => by
    have e : b = some x := by simpa using e
    rcases h.1 with q | q
    · rw [e] at q; simpa using q.symm
    · rw [e] at q; cases q
  | a :: Γ, b :: Δ, h, i + 1, x, e => by simpa using Drop.get h.2 (i := i) (by simpa using e)
  | [], _ :: _, h, _, _, _ => h.elim
  | _ :: _, [], h, _, _, _ => h.elim
theorem Drop.refl : ∀ Γ : Gm, Drop Γ Γ
  | [] => trivial
  | _ :: r => ⟨.inl rfl, Drop.refl r⟩
section
variable {g : Gx} {Γ Δ : Gm} {P Q R : Pr} {e e1 e2 tg : Expr} {pos p2 : Pos} {D : En} {st : Stmt} {ss rest : List Stmt} {rs qs : List Pr}
theorem JE.unpin {v : Option V} (h : JE g e Γ (P.pin v)) : JE g e Γ P := h.imp fun _ _ z => z.2
/-- no other own thing -/
def OneOwn (i : Nat) (Γ : Gm) : Prop := ∀ j c, Γ[j]? = some (some (.ow c)) → j = i
def soleOwn : Nat → Nat → Gm → Bool
  | _, _, [] => true
  | i, k, some (.ow _) :: r => (i == k) && soleOwn i (k + 1) r
  | i, k, _ :: r => soleOwn i (k + 1) r
theorem soleOwn_ok : ∀ (i k : Nat) (Γ : Gm), soleOwn i k Γ = true → ∀ j c, Γ[j]? = some (some (.ow c)) → k + j = i
  | i, k, [], _, j, c, e => by simp at e
  | i, k, some (.ow d) :: r, h, 0, c, e => by
    simp only [soleOwn, Bool.and_eq_true, beq_iff_eq] at h
    omega
  | i, k, some (.ow d) :: r, h, j + 1, c, e => by
    simp only [soleOwn, Bool.and_eq_true, beq_iff_eq] at h
    have := soleOwn_ok i (k + 1) r h.2 j c (by simpa using e)
    omega
  | i, k, some (.sh d) :: r, h, 0, c, e => by simp at e
  | i, k, none :: r, h, 0, c, e => by simp at e
  | i, k, some (.sh d) :: r, h, j + 1, c, e => by
    have := soleOwn_ok i (k + 1) r h j c (by simpa using e)
    omega
  | i, k, none :: r, h, j + 1, c, e => by
    have := soleOwn_ok i (k + 1) r h j c (by simpa using e)
    omega
/-- what is known where an own thing is lent -/
structure Bor (g : Gx) (Γ : Gm) (i : Nat) (c : Oc) where
  σ : L2.St
  B : Bs
  H : Hp
  v : V
  s : Sta g.b Γ σ B H
  hi : Γ[i]? = some (some (.ow c))
  e : σ[i]? = some (some v)
  o : Own g.b c v B H
variable {i : Nat} {c : Oc}
def Bor.f (b : Bor g Γ i c) (j : Nat) : Option V := (b.σ[j]?).join
def Bor.B1 (b : Bor g Γ i c) : Bs := putH b.B b.H (c.ad b.v b.H)
def Bor.pr (b : Bor g Γ i c) (R : Pr) : Pr := ⟨fun B' u => R.r B' u ∧ Le b.B1 B', fun _ _ _ l ⟨h, k⟩ => ⟨R.mono _ _ _ l h, k.trans l⟩⟩
def Bor.en (b : Bor g Γ i c) (D : En) : En := { nx := fun _ => D.nx b.B, rt := D.rt, bk := fun _ => D.bk b.B, ct := fun _ => D.ct b.B }
abbrev Bor.gm (b : Bor g Γ i c) (R : Pr) (Δ : Gm) : Gm := pins b.f 0 (Δ.set i (some (.sh (b.pr R))))
theorem JE.lent {b : Bor g Γ i c} {v : Option V} (h : JE g e Δ ((b.pr R).pin v)) : JE g e Δ R := h.imp fun _ _ z => z.2.1
theorem s_bor (i : Nat) {c : Oc} (R : Pr) (h : ∀ b : Bor g Γ i c, JS g ss (b.gm R Γ) (b.en D)) (hk : ∀ B H v, (∀ a ∈ c.ad v H, B a = none) → c.r B H v → R.r (putH B H (c.ad v H)) v) (hi : Γ[i]? = some (some (.ow c)) := by rfl) : JS g ss Γ D :=
  ⟨fun w σ B H s => by
    obtain ⟨v0, e, o, l, s2⟩ := s.hand hi hk
    let b : Bor g Γ i c := ⟨σ, B, H, v0, s, hi, e, o⟩
    have il : i < Γ.length := (List.getElem?_eq_some_iff.mp hi).1
    have sl : ∀ {j : Nat} {x : Option Sl}, (b.gm R Γ)[j]? = some x → ∃ y, (Γ.set i (some (.sh (b.pr R))))[j]? = some y ∧ pinS (b.f j) y = x := fun {j x} hj => by
      rw [pins_get, Nat.zero_add] at hj
      cases q : (Γ.set i (some (.sh (b.pr R))))[j]? with
      | none => rw [q] at hj; cases hj
      | some y => rw [q] at hj; exact ⟨y, rfl, by simpa using hj⟩
    have own : ∀ {j : Nat} {d : Oc}, (b.gm R Γ)[j]? = some (some (.ow d)) → (Γ.set i (some (.sh R)))[j]? = some (some (.ow d)) := fun {j d} hj => by
      obtain ⟨y, q, z⟩ := sl hj
      cases y with
      | none => cases z
      | some y =>
        cases y with
        | sh P => cases z
        | ow d' =>
          cases z
          rcases set_get q with ⟨_, z⟩ | ⟨q1, z⟩
          · cases z
          · rw [List.getElem?_set_ne q1]; exact z
    have s3 : Sta g.b (b.gm R Γ) σ (putH B H (c.ad v0 H)) H := ⟨s2.st, {
      len := by rw [pins_len, List.length_set]; exact s.env.len
      sh := fun j r hj => by
        obtain ⟨y, q, z⟩ := sl hj
        cases y with
        | none => cases z
        | some y =>
          cases y with
          | ow d => cases z
          | sh P =>
            have zz : P.pin (b.f j) = r := by simpa [pinS] using z
            clear z
            subst zz
            rcases set_get q with ⟨q1, z⟩ | ⟨q1, z⟩
            · subst q1
              have zz : b.pr R = P := by simpa using z
              subst zz
              obtain ⟨u, e2, z⟩ := s2.env.sh i R (by rw [List.getElem?_set_self il])
              exact ⟨u, e2, by show some u = (σ[i]?).join; rw [e2]; rfl, z, Le.refl _⟩
            · obtain ⟨u, e2, z⟩ := s2.env.sh j P (by rw [List.getElem?_set_ne q1]; exact z)
              exact ⟨u, e2, by show some u = (σ[j]?).join; rw [e2]; rfl, z⟩
      ow := fun j d hj => s2.env.ow j d (own hj)
      dis := fun j m d d' v1 v2 a h1 h2 => s2.env.dis j m d d' v1 v2 a (own h1) (own h2) }⟩
    exact (h b).run w σ _ H s3⟩
theorem s_take (b : Bor g Γ i c) {R : Pr} (k : JS g rest (Δ.set i (some (.ow c))) D) (hd : Drop Γ Δ) (hl : ∀ B H v, c.r B H v → ∀ a ∈ c.ad v H, ∀ u, H a = some u → lk u = false) (hs : soleOwn i 0 Δ = true := by rfl) (hj : i < Δ.length := by exact Nat.le_of_ble_eq_true rfl) : JS g rest (b.gm R Δ) (b.en D) :=
  ⟨fun w σ' B' H' s' => by
    obtain ⟨u, eu, hp, _, le⟩ := s'.env.sh i ((b.pr R).pin (b.f i)) (by rw [pins_get, Nat.zero_add, List.getElem?_set_self hj]; rfl)
    have hp : some u = (b.σ[i]?).join := hp
    rw [b.e] at hp
    have hp : u = b.v := by simpa using hp
    subst hp
    have agree : ∀ a ∈ c.ad b.v b.H, H' a = b.H a := fun a ha => by
      obtain ⟨x, ex, _⟩ := b.o.th a ha
      have q := s'.st.ok.ex a x (le a _ (putH_in ha ex))
      rw [q.hard (hl _ _ _ b.o.at_ a ha x ex), ex]
    have ad' : c.ad b.v H' = c.ad b.v b.H := c.ast _ _ _ agree
    have lB : Le b.B (delL B' (c.ad b.v b.H)) := fun x k e => by
      have ne : x ∉ c.ad b.v b.H := fun m => by rw [b.o.nb x m] at e; cases e
      unfold delL
      rw [if_neg ne]
      exact le x k (by unfold Bor.B1; rw [putH_out ne]; exact e)
    have hl' : Le (delL B' (c.ad b.v b.H)) B' := fun x k e => by
      unfold delL at e
      by_cases q : x ∈ c.ad b.v b.H
      · rw [if_pos q] at e; cases e
      · rw [if_neg q] at e; exact e
    have st : Stp g.b.B g.b.H (delL B' (c.ad b.v b.H)) H' := {
      le := b.s.st.le.trans lB
      ok := ⟨fun x u e => s'.st.ok.ex x u (hl' x _ e), fun x φ e => s'.st.ok.iv x φ (hl' x _ e)⟩
      keep := s'.st.keep
      there := s'.st.there
      new := fun x n k e => s'.st.new x n k (hl' x k e) }
    have own : Own g.b c b.v (delL B' (c.ad b.v b.H)) H' := ⟨fun a ha => by rw [ad'] at ha; unfold delL; rw [if_pos ha], fun a ha => b.o.nh a (ad' ▸ ha), fun a ha => by rw [agree a (ad' ▸ ha)]; exact b.o.th a (ad' ▸ ha), c.mono _ _ _ _ lB (c.rst _ _ _ _ agree b.o.at_)⟩
    have sole : ∀ {j : Nat} {d : Oc}, (Δ.set i (some (.ow c)))[j]? = some (some (.ow d)) → j = i := fun {j d} hj => by
      rcases set_get hj with ⟨q, _⟩ | ⟨q, z⟩
      · exact q.symm
      · have := soleOwn_ok i 0 Δ hs j d z; omega
    refine (k.run w σ' _ H' ⟨st, ⟨?_, fun j r hjr => ?_, fun j d hjd => ?_, fun j m d d' v1 v2 a h1 h2 _ _ _ _ => (sole h1).trans (sole h2).symm⟩⟩).mono (D.anti lB)
    · have := s'.env.len; rw [pins_len, List.length_set] at this; rw [List.length_set]; exact this
    · rcases set_get hjr with ⟨q, z⟩ | ⟨q, z⟩
      · cases z
      · obtain ⟨u2, e2, hp2, _⟩ := s'.env.sh j (r.pin (b.f j)) (by rw [pins_get, Nat.zero_add, List.getElem?_set_ne q, z]; rfl)
        obtain ⟨u3, e3, h3⟩ := b.s.env.sh j r (hd.get z)
        have hp2 : some u2 = (b.σ[j]?).join := hp2
        rw [e3] at hp2
        have hp2 : u2 = u3 := by simpa using hp2
        subst hp2
        exact ⟨u2, e2, r.mono _ _ _ lB h3⟩
    · have q := sole hjd
      subst q
      rw [List.getElem?_set_self hj] at hjd
      cases hjd
      exact ⟨b.v, eu, own⟩⟩
/-- lists are not locked -/
theorem nl_oLL {rss : List (List Pr)} : ∀ B H v, (oLL rss).r B H v → ∀ a ∈ (oLL rss).ad v H, ∀ u, H a = some u → lk u = false := fun B H v ⟨p, vs, e, h, n, k⟩ a ha u hu => by
  subst e
  have ea : (oLL rss).ad (.ref p) H = p :: vs.flatMap one := adLL_at h
  rw [ea] at ha
  rcases List.mem_cons.mp ha with q | q
  · subst q; rw [h] at hu; cases hu; rfl
  · have key : ∀ {vs : List V} {rss : List (List Pr)}, RowsOk B H vs rss → ∀ a ∈ vs.flatMap one, ∀ u, H a = some u → lk u = false := by
      intro vs
      induction vs with
      | nil => intro rss _ a ha; simp at ha
      | cons v vs ih =>
        intro rss h a ha u hu
        cases rss with
        | nil => exact h.elim
        | cons rs rss =>
          obtain ⟨⟨a', ws, e, h1, _⟩, k⟩ := h
          subst e
          rw [List.flatMap_cons] at ha
          rcases List.mem_append.mp ha with m | m
          · rw [mem_one.mp m, h1] at hu; cases hu; rfl
          · exact ih k a m u hu
    exact key k a q u hu
theorem nl_oL {rs : List Pr} : ∀ B H v, (oL rs).r B H v → ∀ a ∈ (oL rs).ad v H, ∀ u, H a = some u → lk u = false := fun B H v ⟨p, vs, e, h, k⟩ a ha u hu => by
  subst e
  rw [mem_one.mp ha, h] at hu; cases hu; rfl
end
end G
set_option Elab.async false
set_option linter.all false
set_option maxRecDepth 100000
set_option maxHeartbeats 4000000
namespace G
open PySem L2
/-- the least of some ints that are not none -/
def lmin : List Int → Int
  | [] => 0
  | x :: xs => xs.foldl min x
theorem foldl_min (xs : List Int) : ∀ x : Int, (xs.foldl min x = x ∨ xs.foldl min x ∈ xs) ∧ xs.foldl min x ≤ x ∧ ∀ y ∈ xs, xs.foldl min x ≤ y := by
  induction xs with
  | nil => intro x; exact ⟨.inl rfl, Int.le_refl _, fun y hy => (by cases hy)⟩
  | cons z xs ih =>
    intro x
    rw [List.foldl_cons]
    obtain ⟨a, b, c⟩ := ih (min x z)
    refine ⟨?_, by omega, fun y hy => ?_⟩
    · rcases a with a | a
      · rw [a]
        rcases Int.le_total x z with q | q
        · rw [Int.min_eq_left q]; exact .inl rfl
        · rw [Int.min_eq_right q]; exact .inr (List.mem_cons_self ..)
      · exact .inr (List.mem_cons_of_mem _ a)
    · rcases List.mem_cons.mp hy with e | hy
      · subst e; omega
      · exact c y hy
theorem lmin_mem {ns : List Int} (h : ns ≠ []) : lmin ns ∈ ns := by
  cases ns with
  | nil => exact absurd rfl h
  | cons x xs =>
    rcases (foldl_min xs x).1 with e | e
    · show xs.foldl min x ∈ _; rw [e]; exact List.mem_cons_self ..
    · exact List.mem_cons_of_mem _ e
theorem lmin_le {ns : List Int} {x : Int} (h : x ∈ ns) : lmin ns ≤ x := by
  cases ns with
  | nil => cases h
  | cons y xs =>
    rcases List.mem_cons.mp h with e | e
    · subst e; exact (foldl_min xs x).2.1
    · exact (foldl_min xs y).2.2 x e
section
variable {g : Gx} {Γ : Gm} {P Q R : Pr} {e e1 e2 tg : Expr} {pos p2 : Pos} {D : En} {st : Stmt} {ss rest : List Stmt} {rs qs : List Pr}
theorem x_minL {ns : List Int} {p : Pos} (b : Bi g.X.mg) (hne : ns ≠ []) (h : JE g e Γ (rLs g.X.K (ns.map rI))) (hg : Gl g.X "min" := by rfl) (he : starEach [e] g.X.env = (false, eval e g.X.env) :: starEach [] g.X.env := by rfl) (hcm : g.X.calm = true := by rfl) : JE g (.Call (.Name "min" p) [e] [] pos) Γ (rI (lmin ns)) :=
  x_cb (r := rMin g.X.K) b.min (fun w => cr_min hcm) bo_min (fun B H vs K k f c => by
    obtain ⟨v, rfl, q, ws, e2, a, f2⟩ := f.one
    have := f2.ints
    subst this
    refine ⟨q, ns, by rw [e2], a.sq k, List.length_pos_iff.mpr hne, fun m h1 h2 => c _ B H (Stp.refl k) ?_⟩
    have : m = lmin ns := Int.le_antisymm (h2 _ (lmin_mem hne)) (lmin_le h1)
    rw [this]; rfl) (a_cons h a_nil he) hg (by decide) (by decide) he rfl
/-- // by a wide divisor, by words -/
theorem x_fdivWx {φ ψ : Int → Prop} {j : Int} (hj : CDivW 0 j) (h : ∀ i, φ i → ψ (i / j)) (h1 : JE g e1 Γ (rIx φ)) (h2 : JE g e2 Γ (rI j)) : JE g (.BinOp e1 .FloorDiv e2 pos) Γ (rIx ψ) :=
  (x_op op_fdivW (o_Ix (φ := φ) (ψ := fun k => k = j) (C := CDivW) (f := fun i j => i / j) fun i k _ e => by subst e; exact hj) h1 h2.ix).iw fun k ⟨i, l, p, e, q⟩ => by subst e q; exact h i p
end
end G
set_option Elab.async false
set_option linter.all false
set_option maxRecDepth 100000
set_option maxHeartbeats 4000000
namespace G
open PySem L2
section
variable {g : Gx} {Γ : Gm} {P Q R : Pr} {e e1 e2 tg : Expr} {pos p2 : Pos} {D : En} {st : Stmt} {ss rest : List Stmt} {rs qs : List Pr}
/-- bools of which words only are known -/
abbrev rBx (φ : Bool → Prop) : Pr := Pr.exs φ rB
theorem x_gtx {φ : Int → Prop} {i : Int} (h1 : JE g e1 Γ (rIx φ)) (h2 : JE g e2 Γ (rI i)) : JE g (.Compare e1 [.Gt] [e2] pos) Γ (rBx fun _ => True) :=
  x_cmpV (P := rIx φ) (Q := rI i) op_gt (fun B H v u K k ⟨z, hz, ez⟩ eu c => ⟨z, i, ez, eu, c _ B H (Stp.refl k) ⟨_, trivial, rfl⟩⟩) h1 h2
theorem x_eqIx {φ : Int → Prop} {i : Int} (h1 : JE g e1 Γ (rIx φ)) (h2 : JE g e2 Γ (rI i)) : JE g (.Compare e1 [.Eq] [e2] pos) Γ (rBx fun c => ∃ z, φ z ∧ c = decide (z = i)) :=
  x_cmpV (P := rIx φ) (Q := rI i) op_eq (fun B H v u K k ⟨z, hz, ez⟩ eu c => by
    have ez : v = .int z := ez
    have eu : u = .int i := eu
    subst ez eu
    exact ⟨rfl, c _ B H (Stp.refl k) ⟨decide (z = i), ⟨z, hz, rfl⟩, by show V.bl _ = V.bl _; rw [dI]⟩⟩) h1 h2
theorem x_orx {c : Bool} {rest : List Expr} {ψ : Bool → Prop} (h : JE g e Γ (rB c)) (k : JE g (.BoolOp .Or (e1 :: rest) pos) Γ (rBx ψ)) : JE g (.BoolOp .Or (e :: e1 :: rest) pos) Γ (rBx fun d => (c = true ∧ d = true) ∨ (c = false ∧ ψ d)) :=
  ⟨fun w σ B H s => ofE (pe_or pE pE) ((h.run w σ B H s).mono fun v H1 ⟨B1, a1, p⟩ => ⟨c, p, by
    cases c with
    | false => rw [if_neg (by decide)]; exact (k.run w σ B1 H1 a1.sta).mono fun u H2 ⟨B2, a2, d, hd, q⟩ => ⟨B2, a1.trans a2, d, .inr ⟨rfl, hd⟩, q⟩
    | true => rw [if_pos rfl]; exact ⟨B1, a1, true, .inl ⟨rfl, rfl⟩, rfl⟩⟩)⟩
theorem x_intBx {φ : Bool → Prop} {p : Pos} (b : Bi g.X.mg) (h : JE g e Γ (rBx φ)) (hg : Gl g.X "int" := by rfl) (he : starEach [e] g.X.env = (false, eval e g.X.env) :: starEach [] g.X.env := by rfl) : JE g (.Call (.Name "int" p) [e] [] pos) Γ (Pr.exs φ fun c => rI (if c then 1 else 0)) :=
  x_cty (r := fun xs H Q => (∃ i, xs = [.int i] ∧ Q (.int i) H) ∨ ∃ k, xs = [.bl k] ∧ Q (.int (if k then 1 else 0)) H) b.int (fun _ => call_int1) bo_int (fun B H vs K k f q => by
    obtain ⟨v, rfl, c, hc, h⟩ := f.one
    have h : v = .bl c := h
    subst h
    exact .inr ⟨c, rfl, q _ B H (Stp.refl k) ⟨c, hc, rfl⟩⟩) (a_cons h a_nil he) hg (by decide) (by decide) he rfl
/-- an own list of which words only are known: the words again -/
theorem slx_ow {ι : Type} {φ : ι → Prop} {f : ι → Oc} {d : ι} {ha : ∀ a v H, (f a).ad v H = (f d).ad v H} (a : ι) (p : φ a) : SlLe (some (.ow (f a))) (some (.ow (Oc.exs φ f d ha))) :=
  .ow _ _ (fun B H v h => ⟨a, p, h⟩) fun v H x hx => by
    have : x ∈ (f d).ad v H := hx
    rw [← ha a] at this; exact this
end
end G
set_option Elab.async false
set_option linter.all false
namespace M45
open HT
def stp (c : Int) (p : List Int × Int) : List (List Int × Int) := (List.range (p.2 / c + 1).toNat).map fun (m : Nat) => (p.1 ++ [(m : Int)], p.2 - (m : Int) * c)
def wn (bs : List (List Int × Int)) (c : Int) : List (List Int × Int) := bs.flatMap (stp c)
def begun (cs : List Int) (w : Int) : List (List Int × Int) := cs.foldl wn [([], w)]
def told (cs : List Int) (w : Int) : List (List Int) := ((begun cs w).filter fun p => decide (p.2 = 0)).map (·.1)
def dot (cs r : List Int) : Int := ((cs.zip r).map fun p => p.1 * p.2).sum
def Good (cs : List Int) : Prop := ∀ c ∈ cs, 1 ≤ c ∧ c ≤ 4
/-- what holds of all that is begun -/
structure Ok (cs : List Int) (w : Int) (p : List Int × Int) : Prop where
  len : p.1.length = cs.length
  nn : ∀ x ∈ p.1, 0 ≤ x
  dt : dot cs p.1 + p.2 = w
  rn : 0 ≤ p.2
theorem sum_app (a b : List Int) : (a ++ b).sum = a.sum + b.sum := by induction a with
  | nil => simp
  | cons x l ih => simp [ih]; omega
theorem dot_snoc {cs r : List Int} {c m : Int} (h : r.length = cs.length) : dot (cs ++ [c]) (r ++ [m]) = dot cs r + c * m := by
  unfold dot
  rw [List.zip_append h.symm, List.map_append, sum_app]
  simp
theorem begun_snoc (cs : List Int) (c w : Int) : begun (cs ++ [c]) w = wn (begun cs w) c := by
  unfold begun; rw [List.foldl_append]; rfl
theorem mem_stp {c : Int} {p q : List Int × Int} : q ∈ stp c p ↔ ∃ m : Nat, m < (p.2 / c + 1).toNat ∧ q = (p.1 ++ [(m : Int)], p.2 - (m : Int) * c) := by
  unfold stp
  rw [List.mem_map]
  constructor
  · rintro ⟨m, h, rfl⟩; exact ⟨m, List.mem_range.mp h, rfl⟩
  · rintro ⟨m, h, rfl⟩; exact ⟨m, List.mem_range.mpr h, rfl⟩
theorem le_of_div {r c : Int} {m : Nat} (hc : 1 ≤ c) (hr : 0 ≤ r) (h : m < (r / c + 1).toNat) : (m : Int) * c ≤ r := by
  have h1 : (m : Int) ≤ r / c := by omega
  have h2 : (m : Int) * c ≤ (r / c) * c := Int.mul_le_mul_of_nonneg_right h1 (by omega)
  have h3 : (r / c) * c ≤ r := Int.ediv_mul_le r (by omega)
  omega
theorem lt_div {r c : Int} {m : Nat} (hc : 1 ≤ c) (h : (m : Int) * c ≤ r) : m < (r / c + 1).toNat := by
  have h1 : (m : Int) ≤ r / c := (Int.le_ediv_iff_mul_le (by omega)).mpr h
  omega
theorem snoc_ind {α : Type} {P : List α → Prop} (h0 : P []) (h1 : ∀ l a, P l → P (l ++ [a])) : ∀ l, P l := by
  intro l
  have key : ∀ n, ∀ l : List α, l.length = n → P l := by
    intro n
    induction n with
    | zero => intro l h; have : l = [] := List.length_eq_zero_iff.mp h; subst this; exact h0
    | succ n ih =>
      intro l h
      have hne : l ≠ [] := by intro e; subst e; cases h
      have e := List.dropLast_concat_getLast hne
      rw [← e]
      exact h1 _ _ (ih _ (by rw [List.length_dropLast, h]; rfl))
  exact key _ l rfl
theorem ok_all {cs : List Int} {w : Int} (hw : 0 ≤ w) : Good cs → ∀ p ∈ begun cs w, Ok cs w p := by
  refine snoc_ind (P := fun cs => Good cs → ∀ p ∈ begun cs w, Ok cs w p) ?_ ?_ cs
  · intro _ p hp
    have e : p = ([], w) := by simpa [begun] using hp
    subst e
    exact ⟨rfl, by simp, by simp [dot], hw⟩
  · intro l c ih hg p hp
    rw [begun_snoc] at hp
    obtain ⟨q, hq, hp⟩ := List.mem_flatMap.mp hp
    obtain ⟨m, hm, rfl⟩ := mem_stp.mp hp
    have o := ih (fun x hx => hg x (List.mem_append_left _ hx)) q hq
    have hc := hg c (by simp)
    have hle := le_of_div hc.1 o.rn hm
    refine ⟨by simp [o.len], fun x hx => ?_, ?_, by show 0 ≤ q.2 - (m : Int) * c; omega⟩
    · rcases List.mem_append.mp hx with h | h
      · exact o.nn x h
      · have : x = (m : Int) := by simpa using h
        omega
    · show dot (l ++ [c]) (q.1 ++ [(m : Int)]) + (q.2 - (m : Int) * c) = w
      rw [dot_snoc o.len]
      have := o.dt
      have e : c * (m : Int) = (m : Int) * c := Int.mul_comm _ _
      omega
theorem begun_len {cs : List Int} {w : Int} (hw : 0 ≤ w) (hw' : w ≤ 24) : Good cs → (begun cs w).length ≤ 25 ^ cs.length := by
  refine snoc_ind (P := fun cs => Good cs → (begun cs w).length ≤ 25 ^ cs.length) ?_ ?_ cs
  · intro _; simp [begun]
  · intro l c ih hg
    have hl : Good l := fun x hx => hg x (List.mem_append_left _ hx)
    rw [begun_snoc, List.length_append, List.length_singleton, Nat.pow_succ]
    have key : ∀ bs : List (List Int × Int), (∀ p ∈ bs, Ok l w p) → (wn bs c).length ≤ bs.length * 25 := by
      intro bs
      induction bs with
      | nil => intro _; simp [wn]
      | cons b bs ihb =>
        intro h
        have o := h b (List.mem_cons_self ..)
        have hc := hg c (by simp)
        have i2 := ihb (fun p hp => h p (List.mem_cons_of_mem _ hp))
        unfold wn at i2 ⊢
        rw [List.flatMap_cons, List.length_append, List.length_cons]
        have : (stp c b).length ≤ 25 := by
          unfold stp
          rw [List.length_map, List.length_range]
          have h1 : b.2 / c ≤ b.2 := Int.ediv_le_self _ o.rn
          have h2 : 0 ≤ dot l b.1 := by
            unfold dot
            have hs : ∀ (xs ys : List Int), (∀ x ∈ xs, 1 ≤ x ∧ x ≤ 4) → (∀ y ∈ ys, 0 ≤ y) → 0 ≤ ((xs.zip ys).map fun p => p.1 * p.2).sum := by
              intro xs
              induction xs with
              | nil => intro ys _ _; simp
              | cons x xs ihx =>
                intro ys h1 h2
                cases ys with
                | nil => simp
                | cons y ys =>
                  simp only [List.zip_cons_cons, List.map_cons, List.sum_cons]
                  have a := ihx ys (fun z hz => h1 z (List.mem_cons_of_mem _ hz)) (fun z hz => h2 z (List.mem_cons_of_mem _ hz))
                  have b := Int.mul_nonneg (by have := h1 x (List.mem_cons_self ..); omega : (0 : Int) ≤ x) (h2 y (List.mem_cons_self ..))
                  omega
            exact hs l b.1 hl o.nn
          have := o.dt
          omega
        omega
    have := key (begun l w) (ok_all hw hl)
    have i := ih hl
    calc (wn (begun l w) c).length ≤ (begun l w).length * 25 := this
      _ ≤ 25 ^ l.length * 25 := Nat.mul_le_mul_right _ i
theorem told_ok {cs : List Int} {w : Int} (hw : 0 ≤ w) (hg : Good cs) : ∀ r ∈ told cs w, r.length = cs.length ∧ (∀ x ∈ r, 0 ≤ x) ∧ dot cs r = w := by
  intro r hr
  obtain ⟨p, hp, rfl⟩ := List.mem_map.mp hr
  obtain ⟨hp, h0⟩ := List.mem_filter.mp hp
  have o := ok_all hw hg p hp
  have e0 : p.2 = 0 := of_decide_eq_true h0
  exact ⟨o.len, o.nn, by have := o.dt; omega⟩

/-! rising -/
theorem lex_snoc_same {r : List Int} {a b : Int} (h : a < b) : lexLt (r ++ [a]) (r ++ [b]) = true := by
  induction r with
  | nil => show lexLt [a] [b] = true; rw [lexLt_cons, if_neg (by omega)]; simpa using h
  | cons x r ih => rw [List.cons_append, List.cons_append, lexLt_cons, if_pos rfl]; exact ih
theorem lex_snoc {r s : List Int} {a b : Int} (hl : r.length = s.length) (h : lexLt r s = true) : lexLt (r ++ [a]) (s ++ [b]) = true := by
  induction r generalizing s with
  | nil =>
    have : s = [] := by cases s with
      | nil => rfl
      | cons _ _ => cases hl
    subst this
    rw [lexLt_nil_nil] at h; cases h
  | cons x r ih =>
    cases s with
    | nil => cases hl
    | cons y s =>
      rw [List.cons_append, List.cons_append, lexLt_cons]
      rw [lexLt_cons] at h
      split
      · rename_i e; rw [if_pos e] at h; exact ih (by simpa using hl) h
      · rename_i e; rw [if_neg e] at h; exact h
theorem rising {cs : List Int} {w : Int} (hw : 0 ≤ w) : Good cs → (begun cs w).Pairwise fun p q => lexLt p.1 q.1 = true := by
  refine snoc_ind (P := fun cs => Good cs → (begun cs w).Pairwise fun p q => lexLt p.1 q.1 = true) ?_ ?_ cs
  · intro _; simp [begun]
  · intro l c ih hg
    have hl : Good l := fun x hx => hg x (List.mem_append_left _ hx)
    have ok := ok_all hw hl
    have pw := ih hl
    rw [begun_snoc]
    unfold wn
    generalize hb : begun l w = bs at ok pw
    clear hb
    induction bs with
    | nil => simp
    | cons b bs ihb =>
      rw [List.flatMap_cons, List.pairwise_append]
      rw [List.pairwise_cons] at pw
      refine ⟨?_, ihb (fun p hp => ok p (List.mem_cons_of_mem _ hp)) pw.2, ?_⟩
      · unfold stp
        rw [List.pairwise_map]
        exact List.Pairwise.imp (fun {a b} h => lex_snoc_same (by omega)) List.pairwise_lt_range
      · intro p hp q hq
        obtain ⟨m, _, rfl⟩ := mem_stp.mp hp
        obtain ⟨b', hb', hq⟩ := List.mem_flatMap.mp hq
        obtain ⟨m', _, rfl⟩ := mem_stp.mp hq
        exact lex_snoc ((ok b (List.mem_cons_self ..)).len.trans (ok b' (List.mem_cons_of_mem _ hb')).len.symm) (pw.1 b' hb')
theorem told_rising {cs : List Int} {w : Int} (hw : 0 ≤ w) (hg : Good cs) : (told cs w).Pairwise fun p q => lexLt p q = true := by
  unfold told
  rw [List.pairwise_map]
  exact (rising hw hg).filter _
theorem adj {rows : List (List Int)} (h : rows.Pairwise fun p q => lexLt p q = true) : ∀ z ∈ rows.zip (rows.drop 1), lexLt z.1 z.2 = true := by
  induction rows with
  | nil => simp
  | cons r rows ih =>
    rw [List.pairwise_cons] at h
    intro z hz
    cases rows with
    | nil => simp at hz
    | cons s rows =>
      simp only [List.drop_succ_cons, List.drop_zero, List.zip_cons_cons, List.mem_cons] at hz
      rcases hz with rfl | hz
      · exact h.1 s (List.mem_cons_self ..)
      · exact ih h.2 z (by simpa using hz)

/-! how many -/
def cnt (bs : List (List Int × Int)) (r : Int) : Nat := (bs.filter fun p => decide (p.2 = r)).length
def add (f : Nat → Nat) (c : Nat) (t : Nat) : Nat := if h : 1 ≤ c ∧ c ≤ t then f t + add f c (t - c) else f t
termination_by t
decreasing_by omega
def ways0 (t : Nat) : Nat := if t = 0 then 1 else 0
def ways (cs : List Int) : Nat → Nat := cs.foldl (fun f c => add f c.toNat) ways0
theorem ways_snoc (cs : List Int) (c : Int) : ways (cs ++ [c]) = add (ways cs) c.toNat := by unfold ways; rw [List.foldl_append]; rfl
theorem cnt_app (a b : List (List Int × Int)) (r : Int) : cnt (a ++ b) r = cnt a r + cnt b r := by unfold cnt; rw [List.filter_append, List.length_append]
theorem cnt_stp {c : Int} (hc : 1 ≤ c) {p : List Int × Int} (hp : 0 ≤ p.2) {r : Int} (hr : 0 ≤ r) : cnt (stp c p) r = (if p.2 = r then 1 else 0) + cnt (stp c p) (r + c) - 0 ∨ True := .inr trivial
theorem cnt_stp_eq {c : Int} (hc : 1 ≤ c) {p : List Int × Int} (hp : 0 ≤ p.2) {r : Int} (hr : 0 ≤ r) : cnt (stp c p) r = if r ≤ p.2 ∧ (p.2 - r) % c = 0 then 1 else 0 := by
  unfold cnt stp
  rw [List.filter_map, List.length_map]
  have e : ((List.range (p.2 / c + 1).toNat).filter ((fun q : List Int × Int => decide (q.2 = r)) ∘ fun (m : Nat) => (p.1 ++ [(m : Int)], p.2 - (m : Int) * c))) = (List.range (p.2 / c + 1).toNat).filter fun (m : Nat) => decide (p.2 - (m : Int) * c = r) := rfl
  rw [e]
  split
  · rename_i h
    obtain ⟨h1, h2⟩ := h
    -- the one m
    have hm : ∃ m : Nat, (m : Int) * c = p.2 - r := by
      refine ⟨((p.2 - r) / c).toNat, ?_⟩
      have h3 : 0 ≤ (p.2 - r) / c := Int.ediv_nonneg (by omega) (by omega)
      rw [Int.toNat_of_nonneg h3]
      have := Int.ediv_mul_add_emod (p.2 - r) c
      omega
    obtain ⟨m, hm⟩ := hm
    have hmr : m < (p.2 / c + 1).toNat := lt_div hc (by omega)
    have e2 : (List.range (p.2 / c + 1).toNat).filter (fun (k : Nat) => decide (p.2 - (k : Int) * c = r)) = (List.range (p.2 / c + 1).toNat).filter (fun k => decide (k = m)) := by
      apply List.filter_congr
      intro k _
      have : (p.2 - (k : Int) * c = r) ↔ k = m := by
        constructor
        · intro h
          have h4 : (k : Int) * c = (m : Int) * c := by omega
          have h5 := Int.eq_of_mul_eq_mul_right (by omega : c ≠ 0) h4
          omega
        · intro h; subst h; omega
      simp [this]
    rw [e2]
    have : ∀ n, m < n → ((List.range n).filter (fun k => decide (k = m))).length = 1 := by
      intro n
      induction n with
      | zero => intro h; omega
      | succ n ih =>
        intro h
        rw [List.range_succ, List.filter_append, List.length_append]
        by_cases q : n = m
        · subst q
          have : (List.range n).filter (fun k => decide (k = n)) = [] := by
            rw [List.filter_eq_nil_iff]
            intro a ha
            have := List.mem_range.mp ha
            simp; omega
          rw [this]; simp
        · have := ih (by omega)
          rw [this]
          simp [q]
    exact this _ hmr
  · rename_i h
    rw [List.length_eq_zero_iff, List.filter_eq_nil_iff]
    intro m hm
    have hmr := List.mem_range.mp hm
    have hle := le_of_div hc hp hmr
    simp only [decide_eq_true_eq]
    intro e
    apply h
    have hm0 : 0 ≤ (m : Int) * c := Int.mul_nonneg (by omega) (by omega)
    refine ⟨by omega, ?_⟩
    have : p.2 - r = (m : Int) * c := by omega
    rw [this]
    exact Int.mul_emod_left _ _
theorem cnt_wn {c : Int} (hc : 1 ≤ c) {bs : List (List Int × Int)} (hb : ∀ p ∈ bs, 0 ≤ p.2) {r : Int} (hr : 0 ≤ r) : cnt (wn bs c) r = cnt bs r + cnt (wn bs c) (r + c) := by
  induction bs with
  | nil => rfl
  | cons b bs ih =>
    have h0 := hb b (List.mem_cons_self ..)
    have i := ih (fun p hp => hb p (List.mem_cons_of_mem _ hp))
    have e : wn (b :: bs) c = stp c b ++ wn bs c := by unfold wn; rw [List.flatMap_cons]
    have e2 : b :: bs = [b] ++ bs := rfl
    rw [e, cnt_app, cnt_app, e2, cnt_app, cnt_stp_eq hc h0 hr, cnt_stp_eq hc h0 (by omega)]
    have k : (if r ≤ b.2 ∧ (b.2 - r) % c = 0 then 1 else 0) = cnt [b] r + (if r + c ≤ b.2 ∧ (b.2 - (r + c)) % c = 0 then 1 else 0) := by
      have em : (b.2 - (r + c)) % c = (b.2 - r) % c := by
        have : b.2 - (r + c) = (b.2 - r) - c := by omega
        rw [this, Int.sub_emod_right]
      rw [em]
      unfold cnt
      by_cases q : b.2 = r
      · subst q
        have : ¬ (b.2 + c ≤ b.2) := by omega
        simp [this]
      · have e3 : ([b].filter fun p => decide (p.2 = r)).length = 0 := by simp [q]
        rw [e3, Nat.zero_add]
        by_cases h1 : r + c ≤ b.2
        · have : r ≤ b.2 := by omega
          simp [h1, this]
        · have hne : ¬ (r ≤ b.2 ∧ (b.2 - r) % c = 0) := by
            rintro ⟨h2, h3⟩
            have h4 : 0 < b.2 - r := by omega
            have h5 : b.2 - r < c := by omega
            rw [Int.emod_eq_of_lt (by omega) h5] at h3
            omega
          rw [if_neg hne, if_neg (by rintro ⟨h2, _⟩; exact h1 h2)]
    omega
theorem cnt_big {cs : List Int} {w : Int} (hw : 0 ≤ w) (hg : Good cs) {r : Int} (h : w < r) : cnt (begun cs w) r = 0 := by
  unfold cnt
  rw [List.length_eq_zero_iff, List.filter_eq_nil_iff]
  intro p hp
  have o := ok_all hw hg p hp
  have h2 : 0 ≤ dot cs p.1 := by
    have hs : ∀ (xs ys : List Int), (∀ x ∈ xs, 1 ≤ x ∧ x ≤ 4) → (∀ y ∈ ys, 0 ≤ y) → 0 ≤ ((xs.zip ys).map fun p => p.1 * p.2).sum := by
      intro xs
      induction xs with
      | nil => intro ys _ _; simp
      | cons x xs ihx =>
        intro ys h1 h2
        cases ys with
        | nil => simp
        | cons y ys =>
          simp only [List.zip_cons_cons, List.map_cons, List.sum_cons]
          have a := ihx ys (fun z hz => h1 z (List.mem_cons_of_mem _ hz)) (fun z hz => h2 z (List.mem_cons_of_mem _ hz))
          have b := Int.mul_nonneg (by have := h1 x (List.mem_cons_self ..); omega : (0 : Int) ≤ x) (h2 y (List.mem_cons_self ..))
          omega
    exact hs cs p.1 hg o.nn
  have := o.dt
  simp only [decide_eq_true_eq]
  omega
theorem cnt_ways {cs : List Int} {w : Nat} : Good cs → ∀ t : Nat, t ≤ w → cnt (begun cs w) ((w : Int) - (t : Int)) = ways cs t := by
  refine snoc_ind (P := fun cs => Good cs → ∀ t : Nat, t ≤ w → cnt (begun cs w) ((w : Int) - (t : Int)) = ways cs t) ?_ ?_ cs
  · intro _ t ht
    show cnt [([], (w : Int))] _ = ways0 t
    unfold cnt ways0
    by_cases h : t = 0
    · subst h; simp
    · have : ¬ ((w : Int) = (w : Int) - (t : Int)) := by omega
      simp [h, this]
  · intro l c ih hg t
    have hl : Good l := fun x hx => hg x (List.mem_append_left _ hx)
    have hc := hg c (by simp)
    have ok := ok_all (w := (w : Int)) (by omega) hl
    rw [ways_snoc, begun_snoc]
    induction t using Nat.strongRecOn with
    | ind t iht =>
      intro ht
      rw [cnt_wn hc.1 (fun p hp => (ok p hp).rn) (by omega), ih hl t ht]
      unfold add
      by_cases h : 1 ≤ c.toNat ∧ c.toNat ≤ t
      · rw [dif_pos h]
        have e : (w : Int) - (t : Int) + c = (w : Int) - ((t - c.toNat : Nat) : Int) := by omega
        rw [e, iht (t - c.toNat) (by omega) (by omega)]
      · rw [dif_neg h]
        have : cnt (wn (begun l (w : Int)) c) ((w : Int) - (t : Int) + c) = 0 := by
          rw [← begun_snoc]
          exact cnt_big (by omega) hg (by omega)
        omega
theorem told_len {cs : List Int} {w : Nat} (hg : Good cs) : (told cs w).length = ways cs w := by
  have h := cnt_ways (cs := cs) (w := w) hg w (Nat.le_refl _)
  rw [Int.sub_self] at h
  unfold told
  rw [List.length_map]
  exact h
end M45
set_option Elab.async false
set_option linter.all false
set_option maxHeartbeats 1000000
/-! least rows: the plain law -/
namespace M42
open M45 (dot)
abbrev Row := List Int
def under (r s : Row) : Bool := (r.zip s).all fun z => decide (z.1 ≤ z.2)
def overSome (r : Row) (rs : List Row) : Bool := rs.any fun f => under f r
def withOne (r : Row) (i : Nat) : Row := r.set i (r.getD i 0 + 1)
/-- row r of length n, of numbers from 0 on -/
structure IsRow (n : Nat) (r : Row) : Prop where
  len : r.length = n
  nn : ∀ x ∈ r, 0 ≤ x
theorem under_iff {r s : Row} (h : r.length = s.length) : under r s = true ↔ ∀ i, r.getD i 0 ≤ s.getD i 0 := by
  unfold under
  induction r generalizing s with
  | nil =>
    cases s with
    | nil => simp
    | cons _ _ => cases h
  | cons x r ih =>
    cases s with
    | nil => cases h
    | cons y s =>
      have hl : r.length = s.length := by simpa using h
      rw [List.zip_cons_cons, List.all_cons, Bool.and_eq_true, ih hl]
      constructor
      · rintro ⟨h1, h2⟩ i
        cases i with
        | zero => simpa using h1
        | succ i => simpa using h2 i
      · intro k
        exact ⟨by simpa using k 0, fun i => by simpa using k (i + 1)⟩
theorem getD_set {r : Row} {i j : Nat} {v : Int} (h : i < r.length) : (r.set i v).getD j 0 = if i = j then v else r.getD j 0 := by
  rw [List.getD_eq_getElem?_getD, List.getElem?_set, List.getD_eq_getElem?_getD]
  by_cases q : i = j
  · subst q; rw [if_pos rfl, if_pos h, if_pos rfl]; rfl
  · rw [if_neg q, if_neg q]
theorem withOne_at {r : Row} {i j : Nat} (h : i < r.length) : (withOne r i).getD j 0 = r.getD j 0 + if i = j then 1 else 0 := by
  unfold withOne
  rw [getD_set h]
  by_cases q : i = j
  · subst q; simp
  · simp [q]
theorem withOne_len {r : Row} {i : Nat} : (withOne r i).length = r.length := by unfold withOne; rw [List.length_set]
theorem dot_cons (c : Int) (cs : List Int) (x : Int) (r : Row) : dot (c :: cs) (x :: r) = c * x + dot cs r := by
  unfold M45.dot; rw [List.zip_cons_cons, List.map_cons, List.sum_cons]
theorem dot_withOne {cs : List Int} {r : Row} {i : Nat} (hl : r.length = cs.length) (h : i < r.length) : dot cs (withOne r i) = dot cs r + cs.getD i 0 := by
  unfold withOne
  induction r generalizing cs i with
  | nil => simp at h
  | cons x r ih =>
    cases cs with
    | nil => cases hl
    | cons c cs =>
      cases i with
      | zero =>
        show dot (c :: cs) ((x + 1) :: r) = _
        rw [dot_cons, dot_cons]
        show c * (x + 1) + _ = c * x + _ + c
        rw [Int.mul_add]; omega
      | succ i =>
        have := ih (cs := cs) (i := i) (by simpa using hl) (by simpa using h)
        show dot (c :: cs) (x :: (r.set i (r.getD i 0 + 1))) = _
        rw [dot_cons, dot_cons, this]
        show _ = _ + _ + cs.getD i 0
        omega
theorem sum_withOne {r : Row} {i : Nat} (h : i < r.length) : (withOne r i).sum = r.sum + 1 := by
  unfold withOne
  induction r generalizing i with
  | nil => simp at h
  | cons x r ih =>
    cases i with
    | zero => show ((x + 1) :: r).sum = _; simp only [List.sum_cons]; omega
    | succ i =>
      have := ih (i := i) (by simpa using h)
      show (x :: (r.set i (r.getD i 0 + 1))).sum = _
      simp only [List.sum_cons]
      omega
theorem sum_nn {r : Row} (h : ∀ x ∈ r, 0 ≤ x) : 0 ≤ r.sum := by
  induction r with
  | nil => simp
  | cons x r ih =>
    have := ih fun y hy => h y (List.mem_cons_of_mem _ hy)
    have := h x (List.mem_cons_self ..)
    simp only [List.sum_cons]; omega
theorem getD_nn {r : Row} (h : ∀ x ∈ r, 0 ≤ x) (i : Nat) : 0 ≤ r.getD i 0 := by
  rw [List.getD_eq_getElem?_getD]
  cases e : r[i]? with
  | none => simp
  | some x => exact h x (List.mem_of_getElem? e)
/-- s - r -/
def sub (s r : Row) : Row := (s.zip r).map fun z => z.1 - z.2
theorem sub_len {s r : Row} (h : r.length = s.length) : (sub s r).length = s.length := by unfold sub; rw [List.length_map, List.length_zip]; omega
theorem sub_at {s r : Row} (h : r.length = s.length) (i : Nat) : (sub s r).getD i 0 = s.getD i 0 - r.getD i 0 := by
  unfold sub
  induction s generalizing r i with
  | nil =>
    cases r with
    | nil => simp
    | cons _ _ => cases h
  | cons y s ih =>
    cases r with
    | nil => cases h
    | cons x r =>
      cases i with
      | zero => simp
      | succ i => simpa using ih (r := r) (by simpa using h) i
theorem dot_sub {cs : List Int} {s r : Row} (h : r.length = s.length) : dot cs (sub s r) = dot cs s - dot cs r := by
  induction cs generalizing s r with
  | nil => simp [M45.dot]
  | cons c cs ih =>
    cases s with
    | nil =>
      cases r with
      | nil => simp [sub, M45.dot]
      | cons _ _ => cases h
    | cons y s =>
      cases r with
      | nil => cases h
      | cons x r =>
        have := ih (s := s) (r := r) (by simpa using h)
        show dot (c :: cs) ((y - x) :: sub s r) = _
        rw [dot_cons, dot_cons, dot_cons, this, Int.mul_sub]
        omega
theorem sum_sub {s r : Row} (h : r.length = s.length) : (sub s r).sum = s.sum - r.sum := by
  induction s generalizing r with
  | nil =>
    cases r with
    | nil => simp [sub]
    | cons _ _ => cases h
  | cons y s ih =>
    cases r with
    | nil => cases h
    | cons x r =>
      have := ih (r := r) (by simpa using h)
      show ((y - x) :: sub s r).sum = _
      simp only [List.sum_cons, this]
      omega
theorem row_ext {r s : Row} (h : r.length = s.length) (k : ∀ i, r.getD i 0 = s.getD i 0) : r = s := by
  apply List.ext_getElem h
  intro i h1 h2
  have := k i
  rw [List.getD_eq_getElem?_getD, List.getD_eq_getElem?_getD, List.getElem?_eq_getElem h1, List.getElem?_eq_getElem h2] at this
  exact this
theorem isRow_of {n : Nat} {r : Row} (h : r.length = n) (k : ∀ i, 0 ≤ r.getD i 0) : IsRow n r := ⟨h, fun x hx => by
  obtain ⟨i, hi, rfl⟩ := List.mem_iff_getElem.mp hx
  have := k i
  rw [List.getD_eq_getElem?_getD, List.getElem?_eq_getElem hi] at this
  exact this⟩
theorem sub_row {n : Nat} {s r : Row} (hs : IsRow n s) (hr : IsRow n r) (h : under r s = true) : IsRow n (sub s r) := by
  have hl : r.length = s.length := hr.len.trans hs.len.symm
  refine isRow_of ((sub_len hl).trans hs.len) fun i => ?_
  rw [sub_at hl]
  have := (under_iff hl).mp h i
  omega
theorem sub_under {n : Nat} {s r : Row} (hs : IsRow n s) (hr : IsRow n r) : under (sub s r) s = true := by
  have hl : r.length = s.length := hr.len.trans hs.len.symm
  rw [under_iff (sub_len hl)]
  intro i
  rw [sub_at hl]
  have := getD_nn hr.nn i
  omega
theorem under_refl (r : Row) : under r r = true := (under_iff rfl).mpr fun i => Int.le_refl _
theorem under_trans {n : Nat} {r s t : Row} (hr : r.length = n) (hs : s.length = n) (ht : t.length = n) (h : under r s = true) (k : under s t = true) : under r t = true :=
  (under_iff (hr.trans ht.symm)).mpr fun i => Int.le_trans ((under_iff (hr.trans hs.symm)).mp h i) ((under_iff (hs.trans ht.symm)).mp k i)
theorem under_sum {n : Nat} {r s : Row} (hr : IsRow n r) (hs : IsRow n s) (h : under r s = true) : r.sum ≤ s.sum := by
  have := sum_nn (sub_row hs hr h).nn
  rw [sum_sub (hr.len.trans hs.len.symm)] at this
  omega
theorem sum_zero {n : Nat} {r : Row} (hr : IsRow n r) (h : r.sum ≤ 0) : ∀ i, r.getD i 0 = 0 := by
  obtain ⟨hl, hn⟩ := hr
  clear hl
  induction r with
  | nil => intro i; simp
  | cons x r ih =>
    have h1 := hn x (List.mem_cons_self ..)
    have h2 := sum_nn fun y hy => hn y (List.mem_cons_of_mem _ hy)
    simp only [List.sum_cons] at h
    intro i
    cases i with
    | zero => show x = 0; omega
    | succ i => simpa using ih (by omega) (fun y hy => hn y (List.mem_cons_of_mem _ hy)) i
theorem under_eq {n : Nat} {r s : Row} (hr : IsRow n r) (hs : IsRow n s) (h : under r s = true) (k : s.sum ≤ r.sum) : r = s := by
  have hl : r.length = s.length := hr.len.trans hs.len.symm
  have z := sum_zero (sub_row hs hr h) (by rw [sum_sub hl]; omega)
  refine row_ext hl fun i => ?_
  have := z i
  rw [sub_at hl] at this
  omega
/-- where a sum is above 0, some item is, its count too, or both are below -/
theorem dot_pos {cs : List Int} {r : Row} (hl : r.length = cs.length) (hn : ∀ x ∈ r, 0 ≤ x) (h : 0 < dot cs r) : ∃ i, i < cs.length ∧ 0 < cs.getD i 0 ∧ 0 < r.getD i 0 := by
  induction cs generalizing r with
  | nil => simp [M45.dot] at h
  | cons c cs ih =>
    cases r with
    | nil => cases hl
    | cons x r =>
      rw [dot_cons] at h
      have hx := hn x (List.mem_cons_self ..)
      by_cases q : 0 < c * x
      · refine ⟨0, by simp, ?_, ?_⟩
        · show 0 < c
          by_cases hc : 0 < c
          · exact hc
          · have := Int.mul_nonneg (by omega : 0 ≤ -c) hx
            rw [Int.neg_mul] at this
            omega
        · show 0 < x
          by_cases hc : 0 < x
          · exact hc
          · have : x = 0 := by omega
            subst this
            simp at q
      · obtain ⟨i, h1, h2, h3⟩ := ih (by simpa using hl) (fun y hy => hn y (List.mem_cons_of_mem _ hy)) (by omega : 0 < dot cs r)
        exact ⟨i + 1, by simpa using h1, by simpa using h2, by simpa using h3⟩
end M42
set_option Elab.async false
set_option linter.all false
set_option maxHeartbeats 1000000
/-! least rows: the search -/
namespace M42
open M45 (dot)
def ded (xs : List Row) : List Row := xs.foldl (fun acc x => if x ∈ acc then acc else acc ++ [x]) []
def grown (cs : List Int) (n : Nat) (w : Int) (r : Row) : List Row :=
  if dot cs r < w then (List.range n).map (withOne r) else (List.range (cs.length - n)).map fun j => withOne r (n + j)
def nextRows (cs : List Int) (n : Nat) (w : Int) (rows : List Row) : List Row := ded (rows.flatMap (grown cs n w))
def kept (shut F rows : List Row) : List Row := rows.filter fun r => !overSome r shut && !overSome r F
def step (cs : List Int) (n : Nat) (w : Int) (shut : List Row) (z : List Row × List Row) : List Row × List Row :=
  (z.1 ++ (kept shut z.1 z.2).filter (fun r => decide (dot cs r = w)), nextRows cs n w ((kept shut z.1 z.2).filter fun r => !decide (dot cs r = w)))
/-- the left counts stand first and are above 0, the right ones are below -/
structure Sg (cs : List Int) (n : Nat) : Prop where
  le : n ≤ cs.length
  left : ∀ i, i < n → 1 ≤ cs.getD i 0
  right : ∀ i, n ≤ i → i < cs.length → cs.getD i 0 ≤ -1
/-- what is looked for -/
structure Dm (cs : List Int) (w : Int) (shut : List Row) (lo : Int) (m : Row) : Prop where
  row : IsRow cs.length m
  eq : dot cs m = w
  sh : ∀ s ∈ shut, under s m = false
  lo : lo ≤ m.sum
/-- .. and least -/
def Min (cs : List Int) (w : Int) (shut : List Row) (lo : Int) (m : Row) : Prop := Dm cs w shut lo m ∧ ∀ k, Dm cs w shut lo k → under k m = true → k = m
theorem min_of {cs : List Int} {w : Int} {shut : List Row} {lo : Int} : ∀ (j : Nat) {s : Row}, s.sum ≤ j → Dm cs w shut lo s → ∃ m, Min cs w shut lo m ∧ under m s = true := by
  intro j
  induction j with
  | zero =>
    intro s hs hd
    refine ⟨s, ⟨hd, fun k hk hu => ?_⟩, under_refl s⟩
    have := sum_nn hk.row.nn
    exact under_eq hk.row hd.row hu (by have := under_sum hk.row hd.row hu; have : s.sum ≤ 0 := hs; omega)
  | succ j ih =>
    intro s hs hd
    by_cases h : ∃ k, Dm cs w shut lo k ∧ under k s = true ∧ k ≠ s
    · obtain ⟨k, hk, hu, hne⟩ := h
      have lt : k.sum < s.sum := by
        have := under_sum hk.row hd.row hu
        by_cases q : s.sum ≤ k.sum
        · exact absurd (under_eq hk.row hd.row hu q) hne
        · omega
      obtain ⟨m, hm, hmk⟩ := ih (s := k) (by omega) hk
      exact ⟨m, hm, under_trans hm.1.row.len hk.row.len hd.row.len hmk hu⟩
    · exact ⟨s, ⟨hd, fun k hk hu => Classical.byContradiction fun q => h ⟨k, hk, hu, q⟩⟩, under_refl s⟩
theorem ded_fold (xs : List Row) : ∀ acc : List Row, acc.Nodup → (xs.foldl (fun acc x => if x ∈ acc then acc else acc ++ [x]) acc).Nodup ∧ ∀ r, r ∈ xs.foldl (fun acc x => if x ∈ acc then acc else acc ++ [x]) acc ↔ r ∈ acc ∨ r ∈ xs := by
  induction xs with
  | nil => intro acc h; exact ⟨h, fun r => by simp⟩
  | cons x xs ih =>
    intro acc h
    rw [List.foldl_cons]
    by_cases q : x ∈ acc
    · rw [if_pos q]
      refine ⟨(ih acc h).1, fun r => ?_⟩
      rw [(ih acc h).2, List.mem_cons]
      constructor
      · rintro (a | a)
        · exact .inl a
        · exact .inr (.inr a)
      · rintro (a | a | a)
        · exact .inl a
        · exact .inl (a ▸ q)
        · exact .inr a
    · rw [if_neg q]
      have hn : (acc ++ [x]).Nodup := by
        rw [List.nodup_append]
        refine ⟨h, by simp, fun a ha b hb => ?_⟩
        have : b = x := by simpa using hb
        subst this
        exact fun e => q (e ▸ ha)
      refine ⟨(ih _ hn).1, fun r => ?_⟩
      rw [(ih _ hn).2, List.mem_append]
      simp only [List.mem_cons, List.not_mem_nil, or_false]
      exact or_assoc
theorem ded_nodup (xs : List Row) : (ded xs).Nodup := (ded_fold xs [] List.nodup_nil).1
theorem mem_ded {xs : List Row} {r : Row} : r ∈ ded xs ↔ r ∈ xs := by
  unfold ded
  rw [(ded_fold xs [] List.nodup_nil).2]
  simp
theorem ded_len (xs : List Row) : (ded xs).length ≤ xs.length := by
  have key : ∀ (xs acc : List Row), (xs.foldl (fun acc x => if x ∈ acc then acc else acc ++ [x]) acc).length ≤ acc.length + xs.length := by
    intro xs
    induction xs with
    | nil => intro acc; simp
    | cons x xs ih =>
      intro acc
      rw [List.foldl_cons]
      split
      · have := ih acc; rw [List.length_cons]; omega
      · have := ih (acc ++ [x]); rw [List.length_append] at this; simp only [List.length_cons, List.length_nil] at this ⊢; omega
  simpa [ded] using key xs []
theorem overSome_iff {r : Row} {rs : List Row} : overSome r rs = false ↔ ∀ f ∈ rs, under f r = false := by
  unfold overSome
  rw [List.any_eq_false]
  simp
theorem mem_kept {shut F rows : List Row} {r : Row} : r ∈ kept shut F rows ↔ r ∈ rows ∧ (∀ s ∈ shut, under s r = false) ∧ ∀ f ∈ F, under f r = false := by
  unfold kept
  rw [List.mem_filter, Bool.and_eq_true, Bool.not_eq_true', Bool.not_eq_true', overSome_iff, overSome_iff]
/-- how a grown row comes of its row -/
theorem mem_grown {cs : List Int} {n : Nat} {w : Int} {r k : Row} (sg : Sg cs n) (hr : r.length = cs.length) (hw : dot cs r ≠ w) : k ∈ grown cs n w r ↔ ∃ i, i < cs.length ∧ k = withOne r i ∧ ((dot cs r < w ∧ i < n) ∨ (w < dot cs r ∧ n ≤ i)) := by
  unfold grown
  have := sg.le
  by_cases h : dot cs r < w
  · rw [if_pos h, List.mem_map]
    constructor
    · rintro ⟨i, hi, rfl⟩
      have := List.mem_range.mp hi
      exact ⟨i, by omega, rfl, .inl ⟨h, this⟩⟩
    · rintro ⟨i, hi, rfl, ⟨_, hn⟩ | ⟨hn, _⟩⟩
      · exact ⟨i, List.mem_range.mpr hn, rfl⟩
      · omega
  · rw [if_neg h, List.mem_map]
    constructor
    · rintro ⟨j, hj, rfl⟩
      have := List.mem_range.mp hj
      exact ⟨n + j, by omega, rfl, .inr ⟨by omega, by omega⟩⟩
    · rintro ⟨i, hi, rfl, ⟨hn, _⟩ | ⟨_, hn⟩⟩
      · omega
      · exact ⟨i - n, List.mem_range.mpr (by omega), by rw [Nat.add_sub_cancel' hn]⟩
theorem withOne_row {N : Nat} {r : Row} {i : Nat} (hr : IsRow N r) (h : i < N) : IsRow N (withOne r i) := isRow_of (withOne_len.trans hr.len) fun j => by
  rw [withOne_at (by rw [hr.len]; exact h)]
  have := getD_nn hr.nn j
  split <;> omega
theorem withOne_over {N : Nat} {r : Row} {i : Nat} (hr : IsRow N r) (h : i < N) : under r (withOne r i) = true := (under_iff withOne_len.symm).mpr fun j => by
  rw [withOne_at (by rw [hr.len]; exact h)]
  split <;> omega
theorem withOne_under {N : Nat} {r m : Row} {i : Nat} (hr : IsRow N r) (hm : IsRow N m) (h : i < N) (hu : under r m = true) (hi : r.getD i 0 < m.getD i 0) : under (withOne r i) m = true := by
  rw [under_iff (withOne_len.trans (hr.len.trans hm.len.symm))]
  intro j
  rw [withOne_at (by rw [hr.len]; exact h)]
  have := (under_iff (hr.len.trans hm.len.symm)).mp hu j
  split
  · rename_i e; subst e; omega
  · omega
end M42
set_option Elab.async false
set_option linter.all false
set_option maxHeartbeats 1000000
/-! least rows: what stands at each depth -/
namespace M42
open M45 (dot)
def leftSum (n : Nat) (r : Row) : Int := (r.take n).sum
theorem leftSum_withOne {n : Nat} {r : Row} {i : Nat} (h : i < r.length) : leftSum n (withOne r i) = leftSum n r + if i < n then 1 else 0 := by
  unfold leftSum
  by_cases q : i < n
  · rw [if_pos q]
    have e : (withOne r i).take n = withOne (r.take n) i := by
      unfold withOne
      rw [List.take_set]
      congr 1
      rw [List.getD_eq_getElem?_getD, List.getD_eq_getElem?_getD, List.getElem?_take_of_lt q]
    rw [e, sum_withOne (by rw [List.length_take]; omega)]
  · rw [if_neg q]
    have e : (withOne r i).take n = r.take n := by
      unfold withOne
      rw [List.take_set_of_le (by omega)]
    rw [e]; omega
/-- the rows ahead of r on its way -/
structure Path (cs : List Int) (n : Nat) (w lo Lb Hb : Int) (r : Row) (L : List Row) : Prop where
  len : (L.length : Int) + lo = r.sum
  rows : ∀ p ∈ L, IsRow cs.length p ∧ under p r = true ∧ p.sum < r.sum ∧ lo ≤ p.sum ∧ dot cs p ≠ w ∧ Lb ≤ dot cs p ∧ dot cs p ≤ Hb
  nd : (L.map (dot cs)).Nodup
  ls : leftSum n r = lo + ((L.filter fun p => decide (dot cs p < w)).length : Int)
  rng : Lb ≤ dot cs r ∧ dot cs r ≤ Hb
structure Inv (cs : List Int) (n : Nat) (w : Int) (shut : List Row) (lo Lb Hb d : Int) (z : List Row × List Row) : Prop where
  fd : ∀ f ∈ z.1, Min cs w shut lo f ∧ f.sum < d ∧ ∃ L, Path cs n w lo Lb Hb f L
  fnd : z.1.Nodup
  rw : ∀ r ∈ z.2, IsRow cs.length r ∧ r.sum = d ∧ ∃ L, Path cs n w lo Lb Hb r L
  rnd : z.2.Nodup
  comp : ∀ m, Min cs w shut lo m → m ∈ z.1 ∨ ∃ r ∈ z.2, under r m = true
/-- what the counts, the whole, the shut rows must be -/
structure Hyp (cs : List Int) (n : Nat) (w : Int) (shut : List Row) (lo Lb Hb : Int) : Prop where
  sg : Sg cs n
  lb : ∀ i, n ≤ i → i < cs.length → Lb ≤ w + 1 + cs.getD i 0
  hb : ∀ i, i < n → w - 1 + cs.getD i 0 ≤ Hb
  sh : (w = 0 ∧ shut = [] ∧ lo = 1) ∨ ∀ s, IsRow cs.length s → dot cs s = 0 → 0 < s.sum → ∃ f ∈ shut, under f s = true
  shr : ∀ s ∈ shut, s.length = cs.length
  lo0 : 0 ≤ lo
section
variable {cs : List Int} {n : Nat} {w : Int} {shut : List Row} {lo Lb Hb d : Int} {z : List Row × List Row}
theorem kept_min (v : Inv cs n w shut lo Lb Hb d z) (hd : lo ≤ d) {r : Row} (hr : r ∈ kept shut z.1 z.2) (hw : dot cs r = w) : Min cs w shut lo r := by
  obtain ⟨hr, hs, hf⟩ := mem_kept.mp hr
  obtain ⟨row, sum, _⟩ := v.rw r hr
  refine ⟨⟨row, hw, hs, by omega⟩, fun k hk hu => ?_⟩
  by_cases q : k.sum < d
  · exfalso
    obtain ⟨m, hm, hmk⟩ := min_of k.sum.toNat (by omega) hk
    have hmr := under_trans hm.1.row.len hk.row.len row.len hmk hu
    rcases v.comp m hm with h | ⟨r', h1, h2⟩
    · rw [hf m h] at hmr; cases hmr
    · obtain ⟨row', sum', _⟩ := v.rw r' h1
      have := under_sum row' hm.1.row h2
      have := under_sum hm.1.row hk.row hmk
      omega
  · exact under_eq hk.row row hu (by omega)
theorem kept_new (H : Hyp cs n w shut lo Lb Hb) (v : Inv cs n w shut lo Lb Hb d z) {r : Row} (hr : r ∈ kept shut z.1 z.2) {L : List Row} (P : Path cs n w lo Lb Hb r L) : dot cs r ∉ L.map (dot cs) := by
  intro hm
  obtain ⟨p, hp, he⟩ := List.mem_map.mp hm
  obtain ⟨hr, hs, hf⟩ := mem_kept.mp hr
  obtain ⟨row, sum, _⟩ := v.rw r hr
  obtain ⟨prow, pu, plt, plo, pne, _⟩ := P.rows p hp
  have hl : p.length = r.length := prow.len.trans row.len.symm
  have srow := sub_row row prow pu
  have sdot : dot cs (sub r p) = 0 := by rw [dot_sub hl]; omega
  have ssum : (sub r p).sum = r.sum - p.sum := sum_sub hl
  have su := sub_under row prow
  rcases H.sh with ⟨w0, sh0, lo1⟩ | h
  · have dm : Dm cs w shut lo (sub r p) := ⟨srow, by rw [sdot, w0], by rw [sh0]; simp, by omega⟩
    obtain ⟨m, hm, hms⟩ := min_of (sub r p).sum.toNat (by omega) dm
    have hmr := under_trans hm.1.row.len srow.len row.len hms su
    rcases v.comp m hm with h | ⟨r', h1, h2⟩
    · rw [hf m h] at hmr; cases hmr
    · obtain ⟨row', sum', _⟩ := v.rw r' h1
      have := under_sum row' hm.1.row h2
      have := under_sum hm.1.row srow hms
      omega
  · obtain ⟨f, hf1, hf2⟩ := h _ srow sdot (by omega)
    have := under_trans (H.shr f hf1) srow.len row.len hf2 su
    rw [hs f hf1] at this
    cases this
theorem grown_path (H : Hyp cs n w shut lo Lb Hb) {r : Row} (row : IsRow cs.length r) {L : List Row} (P : Path cs n w lo Lb Hb r L) (hnew : dot cs r ∉ L.map (dot cs)) (hw : dot cs r ≠ w) {i : Nat} (hi : i < cs.length) (hc : (dot cs r < w ∧ i < n) ∨ (w < dot cs r ∧ n ≤ i)) (hlo : lo ≤ r.sum) :
    Path cs n w lo Lb Hb (withOne r i) (L ++ [r]) := by
  have hil : i < r.length := by rw [row.len]; exact hi
  have up := withOne_over row hi
  have orow := withOne_row row hi
  have hs := sum_withOne hil
  have hdot := dot_withOne (cs := cs) row.len hil
  refine ⟨?_, fun p hp => ?_, ?_, ?_, ?_⟩
  · rw [List.length_append, hs]
    have := P.len
    simp only [List.length_cons, List.length_nil]
    omega
  · rcases List.mem_append.mp hp with h | h
    · obtain ⟨a, b, c, e, f, g1, g2⟩ := P.rows p h
      exact ⟨a, under_trans a.len row.len orow.len b up, by omega, e, f, g1, g2⟩
    · have : p = r := by simpa using h
      subst this
      exact ⟨row, up, by omega, hlo, hw, P.rng⟩
  · rw [List.map_append, List.nodup_append]
    refine ⟨P.nd, by simp, fun a ha b hb => ?_⟩
    have : b = dot cs r := by simpa using hb
    subst this
    exact fun e => hnew (e ▸ ha)
  · rw [leftSum_withOne hil, P.ls, List.filter_append, List.length_append]
    rcases hc with ⟨h1, h2⟩ | ⟨h1, h2⟩
    · have : [r].filter (fun p => decide (dot cs p < w)) = [r] := by simp [h1]
      rw [this, if_pos h2]
      simp only [List.length_cons, List.length_nil]
      omega
    · have : [r].filter (fun p => decide (dot cs p < w)) = [] := by
        have : ¬ dot cs r < w := by omega
        simp [this]
      rw [this, if_neg (by omega)]
      simp only [List.length_nil]
      omega
  · have := P.rng
    rcases hc with ⟨h1, h2⟩ | ⟨h1, h2⟩
    · have := H.hb i h2
      have := H.sg.left i h2
      omega
    · have := H.lb i h2 hi
      have := H.sg.right i h2 hi
      omega
end
end M42
set_option Elab.async false
set_option linter.all false
set_option maxHeartbeats 1000000
namespace M42
open M45 (dot)
section
variable {cs : List Int} {n : Nat} {w : Int} {shut : List Row} {lo Lb Hb d : Int} {z : List Row × List Row}
theorem comp_next (H : Hyp cs n w shut lo Lb Hb) (v : Inv cs n w shut lo Lb Hb d z) (hd : lo ≤ d) {m : Row} (hm : Min cs w shut lo m) : m ∈ (step cs n w shut z).1 ∨ ∃ r ∈ (step cs n w shut z).2, under r m = true := by
  by_cases hF : m ∈ z.1
  · exact .inl (List.mem_append_left _ hF)
  rcases v.comp m hm with h | ⟨r, h1, h2⟩
  · exact absurd h hF
  obtain ⟨row, sum, L, P⟩ := v.rw r h1
  have hsh : ∀ s ∈ shut, under s r = false := fun s hs => by
    cases e : under s r with
    | false => rfl
    | true =>
      have := under_trans (H.shr s hs) row.len hm.1.row.len e h2
      rw [hm.1.sh s hs] at this
      cases this
  have hk : r ∈ kept shut z.1 z.2 := by
    refine mem_kept.mpr ⟨h1, hsh, fun f hf => ?_⟩
    cases e : under f r with
    | false => rfl
    | true =>
      have fm := (v.fd f hf).1
      have := hm.2 f fm.1 (under_trans fm.1.row.len row.len hm.1.row.len e h2)
      subst this
      exact absurd hf hF
  by_cases hw : dot cs r = w
  · have := hm.2 r ⟨row, hw, hsh, by omega⟩ h2
    subst this
    exact .inl (List.mem_append_right _ (List.mem_filter.mpr ⟨hk, by simpa using hw⟩))
  · right
    have hl : r.length = m.length := row.len.trans hm.1.row.len.symm
    have srow := sub_row hm.1.row row h2
    have hdot : dot cs (sub m r) = w - dot cs r := by rw [dot_sub hl, hm.1.eq]
    have key : ∃ i, i < cs.length ∧ ((dot cs r < w ∧ i < n) ∨ (w < dot cs r ∧ n ≤ i)) ∧ r.getD i 0 < m.getD i 0 := by
      by_cases q : dot cs r < w
      · obtain ⟨i, hi, hc, hx⟩ := dot_pos srow.len srow.nn (by omega : 0 < dot cs (sub m r))
        refine ⟨i, hi, .inl ⟨q, ?_⟩, ?_⟩
        · by_cases q2 : i < n
          · exact q2
          · have := H.sg.right i (by omega) hi; omega
        · rw [sub_at hl] at hx; omega
      · have hneg : 0 < dot (cs.map (- ·)) (sub m r) := by
          have : ∀ (a : List Int) (b : Row), dot (a.map (- ·)) b = - dot a b := by
            intro a
            induction a with
            | nil => intro b; simp [M45.dot]
            | cons x a ih =>
              intro b
              cases b with
              | nil => simp [M45.dot]
              | cons y b => rw [List.map_cons, dot_cons, dot_cons, ih, Int.neg_mul]; omega
          rw [this]; omega
        obtain ⟨i, hi, hc, hx⟩ := dot_pos (by rw [List.length_map]; exact srow.len) srow.nn hneg
        rw [List.length_map] at hi
        have hc : 0 < - cs.getD i 0 := by
          rw [List.getD_eq_getElem?_getD, List.getElem?_map, List.getElem?_eq_getElem hi] at hc
          rw [List.getD_eq_getElem?_getD, List.getElem?_eq_getElem hi]
          exact hc
        refine ⟨i, hi, .inr ⟨by omega, ?_⟩, ?_⟩
        · by_cases q2 : i < n
          · have := H.sg.left i q2; omega
          · omega
        · rw [sub_at hl] at hx; omega
    obtain ⟨i, hi, hc, hx⟩ := key
    refine ⟨withOne r i, mem_ded.mpr (List.mem_flatMap.mpr ⟨r, List.mem_filter.mpr ⟨hk, by simpa using hw⟩, (mem_grown H.sg row.len hw).mpr ⟨i, hi, rfl, hc⟩⟩), withOne_under row hm.1.row hi h2 hx⟩
theorem step_inv (H : Hyp cs n w shut lo Lb Hb) (v : Inv cs n w shut lo Lb Hb d z) (hd : lo ≤ d) : Inv cs n w shut lo Lb Hb (d + 1) (step cs n w shut z) where
  fd := fun f hf => by
    rcases List.mem_append.mp hf with h | h
    · obtain ⟨a, b, c⟩ := v.fd f h
      exact ⟨a, by omega, c⟩
    · obtain ⟨hk, hw⟩ := List.mem_filter.mp h
      have hw : dot cs f = w := by simpa using hw
      obtain ⟨row, sum, L, P⟩ := v.rw f (mem_kept.mp hk).1
      exact ⟨kept_min v hd hk hw, by omega, L, P⟩
  fnd := by
    show (z.1 ++ _).Nodup
    rw [List.nodup_append]
    refine ⟨v.fnd, ((v.rnd.filter _).filter _), fun a ha b hb => ?_⟩
    obtain ⟨hk, _⟩ := List.mem_filter.mp hb
    have := (mem_kept.mp hk).2.2 a ha
    intro e
    subst e
    rw [under_refl] at this
    cases this
  rw := fun k hk => by
    obtain ⟨r, hr, hg⟩ := List.mem_flatMap.mp (mem_ded.mp hk)
    obtain ⟨hkept, hw⟩ := List.mem_filter.mp hr
    have hw : dot cs r ≠ w := by simpa using hw
    obtain ⟨row, sum, L, P⟩ := v.rw r (mem_kept.mp hkept).1
    obtain ⟨i, hi, rfl, hc⟩ := (mem_grown H.sg row.len hw).mp hg
    refine ⟨withOne_row row hi, ?_, L ++ [r], grown_path H row P (kept_new H v hkept P) hw hi hc (by omega)⟩
    rw [sum_withOne (by rw [row.len]; exact hi)]
    omega
  rnd := ded_nodup _
  comp := fun m hm => comp_next H v hd hm
end
end M42
set_option Elab.async false
set_option linter.all false
set_option maxHeartbeats 1000000
/-! least rows: the search ends -/
namespace M42
open M45 (dot)
theorem nodup_bound : ∀ (k : Nat) (a : Int) (l : List Int), l.Nodup → (∀ x ∈ l, a ≤ x ∧ x < a + k) → l.length ≤ k
  | 0, a, l, _, h => by
    cases l with
    | nil => simp
    | cons x l => have := h x (List.mem_cons_self ..); omega
  | k + 1, a, l, nd, h => by
    by_cases q : a + (k : Int) ∈ l
    · have := nodup_bound k a (l.erase (a + k)) (nd.erase _) fun x hx => by
        have e := (nd.mem_erase_iff).mp hx
        have := h x e.2
        have := e.1
        omega
      rw [List.length_erase_of_mem q] at this
      omega
    · have := nodup_bound k a l nd fun x hx => by
        have := h x hx
        have : x ≠ a + k := fun e => q (e ▸ hx)
        omega
      omega
section
variable {cs : List Int} {n : Nat} {w : Int} {shut : List Row} {lo Lb Hb d : Int} {z : List Row × List Row}
theorem Path.bound {r : Row} {L : List Row} (P : Path cs n w lo Lb Hb r L) : (L.length : Int) ≤ (Hb - Lb + 1).toNat := by
  have := nodup_bound (Hb - Lb + 1).toNat Lb (L.map (dot cs)) P.nd fun x hx => by
    obtain ⟨p, hp, rfl⟩ := List.mem_map.mp hx
    obtain ⟨_, _, _, _, _, h1, h2⟩ := P.rows p hp
    omega
  rw [List.length_map] at this
  omega
def st (cs : List Int) (n : Nat) (w : Int) (shut rows0 : List Row) : Nat → List Row × List Row
  | 0 => ([], rows0)
  | i + 1 => step cs n w shut (st cs n w shut rows0 i)
variable {rows0 : List Row}
theorem st_inv (H : Hyp cs n w shut lo Lb Hb) (h0 : Inv cs n w shut lo Lb Hb lo ([], rows0)) : ∀ i : Nat, Inv cs n w shut lo Lb Hb (lo + i) (st cs n w shut rows0 i)
  | 0 => by simpa [st] using h0
  | i + 1 => by
    have := step_inv H (st_inv H h0 i) (by omega)
    have e : lo + ((i + 1 : Nat) : Int) = lo + i + 1 := by omega
    rw [e]; exact this
theorem st_empty (H : Hyp cs n w shut lo Lb Hb) (h0 : Inv cs n w shut lo Lb Hb lo ([], rows0)) {i : Nat} (hi : (Hb - Lb + 1).toNat < i) : (st cs n w shut rows0 i).2 = [] := by
  cases e : (st cs n w shut rows0 i).2 with
  | nil => rfl
  | cons r rs =>
    obtain ⟨row, sum, L, P⟩ := (st_inv H h0 i).rw r (by rw [e]; exact List.mem_cons_self ..)
    have := P.len
    have := P.bound
    omega
theorem step_nil {F : List Row} : step cs n w shut (F, []) = (F, []) := by
  unfold step kept nextRows
  simp [ded]
theorem st_stay {i : Nat} (h : (st cs n w shut rows0 i).2 = []) : ∀ j, st cs n w shut rows0 (i + j) = st cs n w shut rows0 i
  | 0 => rfl
  | j + 1 => by
    show step cs n w shut (st cs n w shut rows0 (i + j)) = _
    rw [st_stay h j]
    have e : st cs n w shut rows0 i = ((st cs n w shut rows0 i).1, []) := Prod.ext rfl h
    rw [e, step_nil]
theorem st_same {i j : Nat} (h : (st cs n w shut rows0 i).2 = []) (k : (st cs n w shut rows0 j).2 = []) : (st cs n w shut rows0 i).1 = (st cs n w shut rows0 j).1 := by
  rcases Nat.le_total i j with q | q
  · obtain ⟨m, rfl⟩ := Nat.le.dest q; rw [st_stay h]
  · obtain ⟨m, rfl⟩ := Nat.le.dest q; rw [st_stay k]
theorem grown_len {r : Row} (hn : n ≤ 4) (hm : cs.length - n ≤ 4) : (grown cs n w r).length ≤ 4 := by
  unfold grown
  split <;> simp <;> omega
theorem flat_len : ∀ (l : List Row) (f : Row → List Row), (∀ x, (f x).length ≤ 4) → (l.flatMap f).length ≤ 4 * l.length
  | [], f, h => by simp
  | x :: l, f, h => by
    have := flat_len l f h
    have := h x
    rw [List.flatMap_cons, List.length_append, List.length_cons]; omega
theorem kept_len {F rows : List Row} : (kept shut F rows).length ≤ rows.length := List.length_filter_le _ _
theorem next_len {rows : List Row} (hn : n ≤ 4) (hm : cs.length - n ≤ 4) : (nextRows cs n w rows).length ≤ 4 * rows.length :=
  Nat.le_trans (ded_len _) (flat_len _ _ fun _ => grown_len hn hm)
theorem st_len (hn : n ≤ 4) (hm : cs.length - n ≤ 4) (h0 : rows0.length ≤ 4) : ∀ i, (st cs n w shut rows0 i).2.length ≤ 4 ^ (i + 1) ∧ (st cs n w shut rows0 i).1.length ≤ 4 ^ (i + 1)
  | 0 => ⟨by simpa [st] using h0, by simp [st]⟩
  | i + 1 => by
    obtain ⟨a, b⟩ := st_len hn hm h0 i
    have e : 4 ^ (i + 1 + 1) = 4 * 4 ^ (i + 1) := by rw [Nat.pow_succ]; omega
    constructor
    · rw [e]
      exact Nat.le_trans (next_len hn hm) (Nat.mul_le_mul_left 4 (Nat.le_trans (List.length_filter_le _ _) (Nat.le_trans kept_len a)))
    · show (_ ++ _ : List Row).length ≤ _
      rw [List.length_append, e]
      have k : ((kept shut (st cs n w shut rows0 i).1 (st cs n w shut rows0 i).2).filter fun r => decide (dot cs r = w)).length ≤ 4 ^ (i + 1) := Nat.le_trans (List.length_filter_le _ _) (Nat.le_trans kept_len a)
      exact Nat.le_trans (Nat.add_le_add b k) (by omega)
/-- what is found -/
def leastFrom (cs : List Int) (n : Nat) (w : Int) (shut rows0 : List Row) : List Row := (st cs n w shut rows0 9).1
structure Fine (cs : List Int) (n : Nat) (w : Int) (shut : List Row) (lo Lb Hb : Int) (rows0 : List Row) : Prop where
  H : Hyp cs n w shut lo Lb Hb
  h0 : Inv cs n w shut lo Lb Hb lo ([], rows0)
  hw : Hb - Lb ≤ 7
  hn : n ≤ 4
  hm : cs.length - n ≤ 4
  hr : rows0.length ≤ 4
theorem Fine.found (f : Fine cs n w shut lo Lb Hb rows0) {i : Nat} (h : (st cs n w shut rows0 i).2 = []) : (st cs n w shut rows0 i).1 = leastFrom cs n w shut rows0 :=
  st_same h (st_empty f.H f.h0 (by have := f.hw; omega))
theorem Fine.small (f : Fine cs n w shut lo Lb Hb rows0) {i : Nat} (h : (st cs n w shut rows0 i).2 ≠ []) : i ≤ 8 := by
  by_cases q : i ≤ 8
  · exact q
  · exact absurd (st_empty f.H f.h0 (by have := f.hw; omega)) h
theorem Fine.lens (f : Fine cs n w shut lo Lb Hb rows0) (i : Nat) : (st cs n w shut rows0 i).2.length ≤ 262144 ∧ (st cs n w shut rows0 i).1.length ≤ 1048576 := by
  have l := st_len (w := w) (shut := shut) f.hn f.hm f.hr
  have e : (st cs n w shut rows0 9).2 = [] := st_empty f.H f.h0 (by have := f.hw; omega)
  have l9 := (l 9).2
  have n10 : 4 ^ (9 + 1) = 1048576 := by decide
  by_cases q : i ≤ 8
  · have := l i
    have : 4 ^ (i + 1) ≤ 4 ^ 9 := Nat.pow_le_pow_right (by decide) (by omega)
    have : (4 : Nat) ^ 9 = 262144 := by decide
    omega
  · obtain ⟨m, hm⟩ := Nat.le.dest (show 9 ≤ i by omega)
    rw [← hm, st_stay e]
    rw [e]
    simp only [List.length_nil]
    omega
theorem Fine.mem (f : Fine cs n w shut lo Lb Hb rows0) {m : Row} : m ∈ leastFrom cs n w shut rows0 ↔ Min cs w shut lo m := by
  have v := st_inv f.H f.h0 9
  have e : (st cs n w shut rows0 9).2 = [] := st_empty f.H f.h0 (by have := f.hw; omega)
  constructor
  · intro h; exact (v.fd m h).1
  · intro h
    rcases v.comp m h with q | ⟨r, q, _⟩
    · exact q
    · rw [e] at q; cases q
theorem Fine.nodup (f : Fine cs n w shut lo Lb Hb rows0) : (leastFrom cs n w shut rows0).Nodup := (st_inv f.H f.h0 9).fnd
theorem Fine.path (f : Fine cs n w shut lo Lb Hb rows0) {m : Row} (h : m ∈ leastFrom cs n w shut rows0) : ∃ L, Path cs n w lo Lb Hb m L := ((st_inv f.H f.h0 9).fd m h).2.2
end
end M42
set_option Elab.async false
set_option linter.all false
set_option maxHeartbeats 1000000
/-! least rows: the pure equation -/
namespace M42
open M45 (dot)
def Cts (ns : List Int) : Prop := ns.length ≤ 4 ∧ ∀ n ∈ ns, 1 ≤ n ∧ n ≤ 4
def csOf (ns ms : List Int) : List Int := ns ++ ms.map (- ·)
theorem csOf_len {ns ms : List Int} : (csOf ns ms).length = ns.length + ms.length := by unfold csOf; simp
theorem cs_left {ns ms : List Int} {i : Nat} (h : i < ns.length) : (csOf ns ms).getD i 0 = ns[i] := by
  unfold csOf
  rw [List.getD_eq_getElem?_getD, List.getElem?_append_left h, List.getElem?_eq_getElem h]; rfl
theorem cs_right {ns ms : List Int} {i : Nat} (h1 : ns.length ≤ i) (h : i - ns.length < ms.length) : (csOf ns ms).getD i 0 = - ms[i - ns.length] := by
  unfold csOf
  rw [List.getD_eq_getElem?_getD, List.getElem?_append_right h1, List.getElem?_map, List.getElem?_eq_getElem h]; rfl
/-- the greatest of some counts, 0 of none -/
structure Gr (ns : List Int) (R : Int) : Prop where
  nn : 0 ≤ R
  le : R ≤ 4
  ub : ∀ x ∈ ns, x ≤ R
  z : R = 0 → ns = []
def zero (N : Nat) : Row := List.replicate N 0
theorem zero_at {N i : Nat} : (zero N).getD i 0 = 0 := by
  unfold zero
  rw [List.getD_eq_getElem?_getD, List.getElem?_replicate]; split <;> rfl
theorem zero_row {N : Nat} : IsRow N (zero N) := isRow_of (by simp [zero]) fun i => by rw [zero_at]; exact Int.le_refl _
theorem zero_sum {N : Nat} : (zero N).sum = 0 := by unfold zero; induction N with
  | zero => rfl
  | succ n ih => rw [List.replicate_succ, List.sum_cons, ih]; rfl
theorem dot_zero : ∀ (cs : List Int) (N : Nat), dot cs (zero N) = 0
  | [], N => by simp [M45.dot]
  | c :: cs, 0 => by simp [M45.dot, zero]
  | c :: cs, N + 1 => by
    show dot (c :: cs) (0 :: zero N) = 0
    rw [dot_cons, dot_zero cs N]; omega
def first (N n : Nat) : List Row := (List.range n).map (withOne (zero N))
theorem withOne_inj {N i j : Nat} (hi : i < N) (hj : j < N) (h : withOne (zero N) i = withOne (zero N) j) : i = j := by
  have e : (withOne (zero N) i).getD i 0 = (withOne (zero N) j).getD i 0 := by rw [h]
  rw [withOne_at (by rw [zero_row.len]; exact hi), withOne_at (by rw [zero_row.len]; exact hj), zero_at] at e
  by_cases q : j = i
  · exact q.symm
  · rw [if_pos rfl, if_neg q] at e; omega
theorem dot_nonneg : ∀ {cs : List Int} {r : Row}, (∀ i, i < cs.length → 0 ≤ cs.getD i 0 * r.getD i 0) → r.length = cs.length → 0 ≤ dot cs r
  | [], r, _, _ => by simp [M45.dot]
  | c :: cs, [], _, h => by cases h
  | c :: cs, x :: r, h, hl => by
    rw [dot_cons]
    have h0 : 0 ≤ c * x := by simpa using h 0 (by simp)
    have := dot_nonneg (cs := cs) (r := r) (fun i hi => by simpa using h (i + 1) (by simpa using hi)) (by simpa using hl)
    omega
theorem dot_neg : ∀ (a : List Int) (b : Row), dot (a.map (- ·)) b = - dot a b
  | [], b => by simp [M45.dot]
  | x :: a, [] => by simp [M45.dot]
  | x :: a, y :: b => by rw [List.map_cons, dot_cons, dot_cons, dot_neg a b, Int.neg_mul]; omega
section
variable {ns ms : List Int}
theorem sg_of (h1 : Cts ns) (h2 : Cts ms) : Sg (csOf ns ms) ns.length where
  le := by rw [csOf_len]; omega
  left := fun i hi => by rw [cs_left hi]; exact (h1.2 _ (List.getElem_mem hi)).1
  right := fun i h1 hi => by
    rw [csOf_len] at hi
    rw [cs_right h1 (by omega)]
    have := (h2.2 _ (List.getElem_mem (show i - ns.length < ms.length by omega))).1
    omega
/-- a row that holds and isn't nought has a left number and a right one -/
theorem has_left (h1 : Cts ns) (h2 : Cts ms) {m : Row} (hm : IsRow (csOf ns ms).length m) (h : dot (csOf ns ms) m = 0) (hs : 0 < m.sum) : ∃ i, i < ns.length ∧ 0 < m.getD i 0 := by
  apply Classical.byContradiction
  intro q
  have z : ∀ i, i < ns.length → m.getD i 0 = 0 := fun i hi => by
    have := getD_nn hm.nn i
    by_cases q2 : 0 < m.getD i 0
    · exact absurd ⟨i, hi, q2⟩ q
    · omega
  have sg := sg_of h1 h2
  obtain ⟨j, hj⟩ : ∃ j, m.getD j 0 ≠ 0 := by
    apply Classical.byContradiction
    intro q2
    have : m = zero (csOf ns ms).length := row_ext (by rw [hm.len]; simp [zero]) fun i => by
      rw [zero_at]
      by_cases q3 : m.getD i 0 = 0
      · exact q3
      · exact absurd ⟨i, q3⟩ q2
    rw [this, zero_sum] at hs
    omega
  have jl : j < (csOf ns ms).length := by
    by_cases q3 : j < (csOf ns ms).length
    · exact q3
    · exfalso; apply hj
      rw [List.getD_eq_getElem?_getD, List.getElem?_eq_none (by rw [hm.len]; omega)]; rfl
  have jn : ns.length ≤ j := by
    by_cases q3 : j < ns.length
    · exact absurd (z j q3) hj
    · omega
  have pos : 0 < m.getD j 0 := by have := getD_nn hm.nn j; omega
  -- one number out
  have hu : under (withOne (zero (csOf ns ms).length) j) m = true := withOne_under zero_row hm jl ((under_iff (by rw [zero_row.len, hm.len])).mpr fun i => by rw [zero_at]; exact getD_nn hm.nn i) (by rw [zero_at]; exact pos)
  have srow := sub_row hm (withOne_row zero_row jl) hu
  have sl : (withOne (zero (csOf ns ms).length) j).length = m.length := by rw [(withOne_row zero_row jl).len, hm.len]
  have sd := dot_sub (cs := csOf ns ms) sl
  rw [dot_withOne zero_row.len (by rw [zero_row.len]; exact jl), dot_zero, h] at sd
  have nn : 0 ≤ dot ((csOf ns ms).map (- ·)) (sub m (withOne (zero (csOf ns ms).length) j)) := by
    refine dot_nonneg (fun i hi => ?_) (by rw [List.length_map]; exact srow.len)
    rw [List.length_map] at hi
    have e : ((csOf ns ms).map (- ·)).getD i 0 = - (csOf ns ms).getD i 0 := by
      rw [List.getD_eq_getElem?_getD, List.getElem?_map, List.getElem?_eq_getElem hi, List.getD_eq_getElem?_getD, List.getElem?_eq_getElem hi]; rfl
    rw [e]
    by_cases q3 : i < ns.length
    · have : (sub m (withOne (zero (csOf ns ms).length) j)).getD i 0 = 0 := by
        rw [sub_at sl, z i q3, withOne_at (by rw [zero_row.len]; exact jl), zero_at, if_neg (by omega)]; rfl
      rw [this]; simp
    · have := sg.right i (by omega) hi
      exact Int.mul_nonneg (by omega) (getD_nn srow.nn i)
  rw [dot_neg, sd] at nn
  have := sg.right j jn jl
  omega
theorem fine_pure (h1 : Cts ns) (h2 : Cts ms) {L R : Int} (gl : Gr ns L) (gr : Gr ms R) : Fine (csOf ns ms) ns.length 0 [] 1 (1 - R) L (first (csOf ns ms).length ns.length) where
  H := {
    sg := sg_of h1 h2
    lb := fun i a b => by
      rw [csOf_len] at b
      rw [cs_right a (by omega)]
      have := gr.ub _ (List.getElem_mem (show i - ns.length < ms.length by omega))
      omega
    hb := fun i a => by
      rw [cs_left a]
      have := gl.ub _ (List.getElem_mem a)
      omega
    sh := .inl ⟨rfl, rfl, rfl⟩
    shr := fun s h => nomatch h
    lo0 := by omega }
  h0 := {
    fd := fun f h => nomatch h
    fnd := List.nodup_nil
    rw := fun r hr => by
      obtain ⟨i, hi, rfl⟩ := List.mem_map.mp hr
      have hi := List.mem_range.mp hi
      have il : i < (csOf ns ms).length := by rw [csOf_len]; omega
      have il' : i < (zero (csOf ns ms).length).length := by rw [zero_row.len]; exact il
      have hs : (withOne (zero (csOf ns ms).length) i).sum = 1 := by rw [sum_withOne il', zero_sum]; rfl
      have hd : dot (csOf ns ms) (withOne (zero (csOf ns ms).length) i) = ns[i] := by
        rw [dot_withOne zero_row.len il', dot_zero, cs_left hi]; omega
      have a := h1.2 _ (List.getElem_mem hi)
      have b := gl.ub _ (List.getElem_mem hi)
      have c := gr.nn
      refine ⟨withOne_row zero_row il, hs, [], ⟨by rw [hs]; rfl, (fun p hp => nomatch hp), List.nodup_nil, ?_, by rw [hd]; omega⟩⟩
      rw [leftSum_withOne il', if_pos hi]
      have : leftSum ns.length (zero (csOf ns ms).length) = 0 := by
        unfold leftSum zero
        rw [List.take_replicate]
        exact zero_sum
      rw [this]; rfl
    rnd := by
      show ((List.range ns.length).map _).Nodup
      rw [List.Nodup, List.pairwise_map]
      refine List.Pairwise.imp_of_mem ?_ (List.nodup_range (n := ns.length))
      intro i j hi hj ne e
      have hi := List.mem_range.mp hi
      have hj := List.mem_range.mp hj
      exact ne (withOne_inj (by rw [csOf_len]; omega) (by rw [csOf_len]; omega) e)
    comp := fun m hm => by
      right
      obtain ⟨i, hi, hp⟩ := has_left h1 h2 hm.1.row hm.1.eq (by have := hm.1.lo; omega)
      have il : i < (csOf ns ms).length := by rw [csOf_len]; omega
      refine ⟨_, List.mem_map.mpr ⟨i, List.mem_range.mpr hi, rfl⟩, withOne_under zero_row hm.1.row il ((under_iff (by rw [zero_row.len, hm.1.row.len])).mpr fun j => by rw [zero_at]; exact getD_nn hm.1.row.nn j) (by rw [zero_at]; exact hp)⟩ }
  hw := by have := gl.le; have := gr.le; omega
  hn := h1.1
  hm := by rw [csOf_len]; have := h2.1; omega
  hr := by unfold first; rw [List.length_map, List.length_range]; exact h1.1
end
end M42
set_option Elab.async false
set_option linter.all false
set_option maxHeartbeats 1000000
/-! least rows: the bounds -/
namespace M42
open M45 (dot)
theorem getD_le_sum {r : Row} (h : ∀ x ∈ r, 0 ≤ x) (i : Nat) : r.getD i 0 ≤ r.sum := by
  induction r generalizing i with
  | nil => simp
  | cons x r ih =>
    have h1 := h x (List.mem_cons_self ..)
    have h2 := sum_nn fun y hy => h y (List.mem_cons_of_mem _ hy)
    simp only [List.sum_cons]
    cases i with
    | zero => show x ≤ _; omega
    | succ i => have := ih (fun y hy => h y (List.mem_cons_of_mem _ hy)) i; show r.getD i 0 ≤ _; omega
theorem sum_split (n : Nat) (r : Row) : r.sum = (r.take n).sum + (r.drop n).sum := by
  rw [← List.sum_append, List.take_append_drop]
theorem count_neg {cs : List Int} {n : Nat} {w lo Lb Hb : Int} {r : Row} {L : List Row} (P : Path cs n w lo Lb Hb r L) (p : Row → Bool) (a : Int) (k : Nat) (h : ∀ x ∈ L, p x = true → a ≤ dot cs x ∧ dot cs x < a + k) : (L.filter p).length ≤ k := by
  have nd : ((L.filter p).map (dot cs)).Nodup := by
    have := P.nd
    rw [List.Nodup, List.pairwise_map] at this ⊢
    exact this.filter p
  have := nodup_bound k a ((L.filter p).map (dot cs)) nd fun x hx => by
    obtain ⟨q, hq, rfl⟩ := List.mem_map.mp hx
    obtain ⟨q1, q2⟩ := List.mem_filter.mp hq
    exact h q q1 q2
  rwa [List.length_map] at this
theorem filter_two {α : Type} (p : α → Bool) : ∀ l : List α, (l.filter p).length + (l.filter fun x => !p x).length = l.length
  | [] => rfl
  | x :: l => by
    have := filter_two p l
    cases e : p x <;> simp [List.filter_cons, e] <;> omega
section
variable {ns ms : List Int} {L R : Int}
theorem lambert (h1 : Cts ns) (h2 : Cts ms) (gl : Gr ns L) (gr : Gr ms R) {f : Row} (hf : f ∈ leastFrom (csOf ns ms) ns.length 0 [] (first (csOf ns ms).length ns.length)) : (∀ x ∈ f.take ns.length, x ≤ R) ∧ ∀ x ∈ f.drop ns.length, x ≤ L := by
  have F := fine_pure h1 h2 gl gr
  obtain ⟨K, P⟩ := F.path hf
  have M := F.mem.mp hf
  have row := M.1.row
  have tn : ∀ x ∈ f.take ns.length, 0 ≤ x := fun x hx => row.nn x (List.mem_of_mem_take hx)
  have dn : ∀ x ∈ f.drop ns.length, 0 ≤ x := fun x hx => row.nn x (List.mem_of_mem_drop hx)
  have e1 := P.ls
  have e2 := P.len
  have e3 := sum_split ns.length f
  have e4 := filter_two (fun p => decide (dot (csOf ns ms) p < 0)) K
  unfold leftSum at e1
  obtain ⟨i, hi, hp⟩ := has_left h1 h2 row M.1.eq (by have := M.1.lo; omega)
  have R1 : 1 ≤ R := by
    by_cases q : R = 0
    · have := gr.z q
      subst this
      exfalso
      have hd := M.1.eq
      have il : i < (csOf ns []).length := by rw [csOf_len]; omega
      have sg := sg_of h1 h2
      have hu : under (withOne (zero (csOf ns []).length) i) f = true := withOne_under zero_row row il ((under_iff (by rw [zero_row.len, row.len])).mpr fun j => by rw [zero_at]; exact getD_nn row.nn j) (by rw [zero_at]; exact hp)
      have sl : (withOne (zero (csOf ns []).length) i).length = f.length := by rw [(withOne_row zero_row il).len, row.len]
      have srow := sub_row row (withOne_row zero_row il) hu
      have sd := dot_sub (cs := csOf ns []) sl
      rw [dot_withOne zero_row.len (by rw [zero_row.len]; exact il), dot_zero, hd] at sd
      have nn : 0 ≤ dot (csOf ns []) (sub f (withOne (zero (csOf ns []).length) i)) := dot_nonneg (fun j hj => by
        rw [csOf_len] at hj
        exact Int.mul_nonneg (by have := sg.left j (by simpa using hj); omega) (getD_nn srow.nn j)) srow.len
      have := sg.left i hi
      omega
    · have := gr.nn; omega
  have a1 : (K.filter fun p => decide (dot (csOf ns ms) p < 0)).length ≤ (R - 1).toNat := count_neg P _ (1 - R) _ fun x hx hd => by
    obtain ⟨_, _, _, _, _, b1, b2⟩ := P.rows x hx
    have : dot (csOf ns ms) x < 0 := by simpa using hd
    omega
  have a2 : (K.filter fun p => !decide (dot (csOf ns ms) p < 0)).length ≤ L.toNat := count_neg P _ 1 _ fun x hx hd => by
    obtain ⟨_, _, _, _, b0, b1, b2⟩ := P.rows x hx
    have : ¬ dot (csOf ns ms) x < 0 := by simpa using hd
    have := gl.nn
    omega
  constructor
  · intro x hx
    obtain ⟨j, hj, rfl⟩ := List.mem_iff_getElem.mp hx
    have := getD_le_sum tn j
    rw [List.getD_eq_getElem?_getD, List.getElem?_eq_getElem hj] at this
    have : (f.take ns.length)[j] ≤ (f.take ns.length).sum := this
    omega
  · intro x hx
    obtain ⟨j, hj, rfl⟩ := List.mem_iff_getElem.mp hx
    have := getD_le_sum dn j
    rw [List.getD_eq_getElem?_getD, List.getElem?_eq_getElem hj] at this
    have : (f.drop ns.length)[j] ≤ (f.drop ns.length).sum := this
    have := gl.nn
    omega
end
end M42
set_option Elab.async false
set_option linter.all false
set_option maxHeartbeats 1000000
/-! least rows: the list of them -/
namespace M42
open M45 (dot)
open PySem PySem.W
def mx : List Int → Int
  | [] => 0
  | x :: xs => if x ≤ mx xs then mx xs else x
theorem mx_gr {ns : List Int} (h : Cts ns) : Gr ns (mx ns) := by
  obtain ⟨l, h⟩ := h
  clear l
  induction ns with
  | nil => exact ⟨by decide, by decide, fun x hx => (nomatch hx), fun _ => rfl⟩
  | cons x xs ih =>
    have i := ih fun y hy => h y (List.mem_cons_of_mem _ hy)
    have hx := h x (List.mem_cons_self ..)
    unfold mx
    refine ⟨?_, ?_, fun y hy => ?_, fun z => ?_⟩
    · have := i.nn; split <;> omega
    · have := i.le; split <;> omega
    · rcases List.mem_cons.mp hy with e | hy
      · subst e; split <;> omega
      · have := i.ub y hy; split <;> omega
    · exfalso; have := i.nn; revert z; split <;> omega
def dTp (r : List Int) : PyData := .tuple (r.map PyData.int)
def pure_ (ns ms : List Int) : List Row := leastFrom (csOf ns ms) ns.length 0 [] (first (csOf ns ms).length ns.length)
def pureRows (ns ms : List Int) : List Row := (pure_ ns ms).mergeSort (dataLe false dTp)
section
variable {ns ms : List Int}
theorem fine_of (h1 : Cts ns) (h2 : Cts ms) : Fine (csOf ns ms) ns.length 0 [] 1 (1 - mx ms) (mx ns) (first (csOf ns ms).length ns.length) := fine_pure h1 h2 (mx_gr h1) (mx_gr h2)
theorem mem_pure (h1 : Cts ns) (h2 : Cts ms) {m : Row} : m ∈ pureRows ns ms ↔ Min (csOf ns ms) 0 [] 1 m := by
  unfold pureRows
  rw [(List.mergeSort_perm _ _).mem_iff]
  exact (fine_of h1 h2).mem
theorem pure_bound (h1 : Cts ns) (h2 : Cts ms) {m : Row} (h : m ∈ pureRows ns ms) : (∀ x ∈ m.take ns.length, x ≤ mx ms) ∧ ∀ x ∈ m.drop ns.length, x ≤ mx ns := by
  unfold pureRows at h
  rw [(List.mergeSort_perm _ _).mem_iff] at h
  exact lambert h1 h2 (mx_gr h1) (mx_gr h2) h
theorem pure_len (h1 : Cts ns) (h2 : Cts ms) : (pureRows ns ms).length ≤ 1048576 := by
  unfold pureRows
  rw [List.length_mergeSort]
  exact ((fine_of h1 h2).lens 9).2
theorem pure_nodup (h1 : Cts ns) (h2 : Cts ms) : (pureRows ns ms).Nodup := ((List.mergeSort_perm _ _).nodup_iff).mpr (fine_of h1 h2).nodup
/-! the order of rows -/
theorem tup_lt (a b : List Int) : dataLt (dTp a) (dTp b) = decide (a < b) := by
  unfold dTp
  rw [dataLt_tuple]
  exact dataLt_ints a b
theorem le_iff (a b : List Int) : dataLe false dTp a b = !decide (b < a) := by
  rw [dataLe_eq]
  show (!dataLt (dTp b) (dTp a)) = _
  rw [tup_lt]
theorem rows_le (a b : List Int) : dataLe false dTp a b = decide (a ≤ b) := by
  rw [le_iff, Bool.eq_iff_iff]
  simp [List.not_lt]
theorem sorted_pw {l : List Row} : (l.mergeSort (dataLe false dTp)).Pairwise (· ≤ ·) := by
  have := List.pairwise_mergeSort (le := dataLe false dTp) (fun a b c h k => by
    rw [rows_le, decide_eq_true_iff] at *
    exact List.le_trans h k) (fun a b => by
    rw [rows_le, rows_le, Bool.or_eq_true, decide_eq_true_iff, decide_eq_true_iff]
    exact List.le_total a b) l
  exact this.imp fun h => by rwa [rows_le, decide_eq_true_iff] at h
theorem pw_lt {l : List Row} (h : l.Pairwise (· ≤ ·)) (n : l.Nodup) : l.Pairwise (· < ·) := by
  induction h with
  | nil => exact .nil
  | @cons a l ha _ ih =>
    rw [List.nodup_cons] at n
    refine .cons (fun b hb => ?_) (ih n.2)
    have h1 := ha b hb
    have h2 : a ≠ b := fun e => n.1 (e ▸ hb)
    rcases Decidable.em (a < b) with q | q
    · exact q
    · exact absurd (List.le_antisymm h1 (List.not_lt.mp q)) h2
theorem pure_up (h1 : Cts ns) (h2 : Cts ms) : (pureRows ns ms).Pairwise (· < ·) := pw_lt sorted_pw (pure_nodup h1 h2)
end
end M42
set_option Elab.async false
set_option linter.all false
set_option maxHeartbeats 1000000
/-! rows made of least rows -/
namespace M42
open M45 (dot)
open G (lmin lmin_mem lmin_le)
def times (one r : Row) : Int := lmin (((one.zip r).filter fun z => decide (0 < z.1)).map fun z => z.2 / z.1)
def less (m : Int) (one r : Row) : Row := (one.zip r).map fun z => z.2 - m * z.1
def axpy (m : Int) (acc row : Row) : Row := (acc.zip row).map fun z => z.1 + m * z.2
def made : List Row → Row → List Int
  | [], _ => []
  | one :: rows, r => times one r :: made rows (less (times one r) one r)
def left_ : List Row → Row → Row
  | [], r => r
  | one :: rows, r => left_ rows (less (times one r) one r)
def putAll (ps : List (Int × Row)) (acc : Row) : Row := ps.foldl (fun acc p => axpy p.1 acc p.2) acc
theorem less_len {m : Int} {one r : Row} (h : one.length = r.length) : (less m one r).length = r.length := by unfold less; rw [List.length_map, List.length_zip]; omega
theorem axpy_len {m : Int} {one r : Row} (h : one.length = r.length) : (axpy m one r).length = r.length := by unfold axpy; rw [List.length_map, List.length_zip]; omega
theorem less_at {m : Int} {one r : Row} (h : one.length = r.length) (i : Nat) : (less m one r).getD i 0 = r.getD i 0 - m * one.getD i 0 := by
  unfold less
  induction one generalizing r i with
  | nil => cases r with
    | nil => simp
    | cons _ _ => cases h
  | cons y one ih => cases r with
    | nil => cases h
    | cons x r =>
      cases i with
      | zero => simp
      | succ i => simpa using ih (r := r) (by simpa using h) i
theorem axpy_at {m : Int} {one r : Row} (h : one.length = r.length) (i : Nat) : (axpy m one r).getD i 0 = one.getD i 0 + m * r.getD i 0 := by
  unfold axpy
  induction one generalizing r i with
  | nil => cases r with
    | nil => simp
    | cons _ _ => cases h
  | cons y one ih => cases r with
    | nil => cases h
    | cons x r =>
      cases i with
      | zero => simp
      | succ i => simpa using ih (r := r) (by simpa using h) i
theorem dot_less {cs : List Int} {m : Int} {one r : Row} (h : one.length = r.length) : dot cs (less m one r) = dot cs r - m * dot cs one := by
  induction cs generalizing one r with
  | nil => simp [M45.dot]
  | cons c cs ih =>
    cases one with
    | nil => cases r with
      | nil => simp [less, M45.dot]
      | cons _ _ => cases h
    | cons y one => cases r with
      | nil => cases h
      | cons x r =>
        have := ih (one := one) (r := r) (by simpa using h)
        show dot (c :: cs) ((x - m * y) :: less m one r) = _
        rw [dot_cons, dot_cons, dot_cons, this, Int.mul_sub, Int.mul_add, Int.mul_left_comm c m y]
        omega
theorem dot_axpy {cs : List Int} {m : Int} {one r : Row} (h : one.length = r.length) : dot cs (axpy m one r) = dot cs one + m * dot cs r := by
  induction cs generalizing one r with
  | nil => simp [M45.dot]
  | cons c cs ih =>
    cases one with
    | nil => cases r with
      | nil => simp [axpy, M45.dot]
      | cons _ _ => cases h
    | cons y one => cases r with
      | nil => cases h
      | cons x r =>
        have := ih (one := one) (r := r) (by simpa using h)
        show dot (c :: cs) ((y + m * x) :: axpy m one r) = _
        rw [dot_cons, dot_cons, dot_cons, this, Int.mul_add, Int.mul_add, Int.mul_left_comm c m x]
        omega
/-- some number of a row that isn't nought -/
theorem pos_at {N : Nat} {m : Row} (hm : IsRow N m) (h : 0 < m.sum) : ∃ i, 0 < m.getD i 0 := by
  apply Classical.byContradiction
  intro q
  have : m = zero N := row_ext (by rw [hm.len]; simp [zero]) fun i => by
    rw [zero_at]
    have := getD_nn hm.nn i
    by_cases q3 : 0 < m.getD i 0
    · exact absurd ⟨i, q3⟩ q
    · omega
  rw [this, zero_sum] at h
  omega
theorem quot_mem {one r : Row} (h : one.length = r.length) {i : Nat} (hp : 0 < one.getD i 0) : r.getD i 0 / one.getD i 0 ∈ ((one.zip r).filter fun z => decide (0 < z.1)).map fun z => z.2 / z.1 := by
  have il : i < one.length := by
    by_cases q : i < one.length
    · exact q
    · rw [List.getD_eq_getElem?_getD, List.getElem?_eq_none (by omega)] at hp; simp at hp
  refine List.mem_map.mpr ⟨(one.getD i 0, r.getD i 0), List.mem_filter.mpr ⟨?_, decide_eq_true hp⟩, rfl⟩
  rw [List.getD_eq_getElem?_getD, List.getD_eq_getElem?_getD, List.getElem?_eq_getElem il, List.getElem?_eq_getElem (h ▸ il)]
  refine List.mem_iff_getElem?.mpr ⟨i, ?_⟩
  rw [List.getElem?_zip_eq_some]
  exact ⟨List.getElem?_eq_getElem il, List.getElem?_eq_getElem (h ▸ il)⟩
theorem quot_ne {N : Nat} {one r : Row} (h1 : IsRow N one) (h2 : IsRow N r) (hs : 0 < one.sum) : (((one.zip r).filter fun z => decide (0 < z.1)).map fun z => z.2 / z.1) ≠ [] := by
  obtain ⟨i, hi⟩ := pos_at h1 hs
  intro e
  have := quot_mem (h1.len.trans h2.len.symm) hi
  rw [e] at this
  cases this
theorem quot_of {one r : Row} {q : Int} (h : one.length = r.length) (hq : q ∈ ((one.zip r).filter fun z => decide (0 < z.1)).map fun z => z.2 / z.1) : ∃ i, 0 < one.getD i 0 ∧ q = r.getD i 0 / one.getD i 0 := by
  obtain ⟨z, hz, rfl⟩ := List.mem_map.mp hq
  obtain ⟨hz, hp⟩ := List.mem_filter.mp hz
  obtain ⟨i, hi⟩ := List.mem_iff_getElem?.mp hz
  rw [List.getElem?_zip_eq_some] at hi
  refine ⟨i, ?_, ?_⟩
  · rw [List.getD_eq_getElem?_getD, hi.1]; simpa using hp
  · rw [List.getD_eq_getElem?_getD, List.getD_eq_getElem?_getD, hi.1, hi.2]; rfl
section
variable {N : Nat} {one r : Row}
theorem times_nn (h1 : IsRow N one) (h2 : IsRow N r) (hs : 0 < one.sum) : 0 ≤ times one r := by
  obtain ⟨i, hi, e⟩ := quot_of (h1.len.trans h2.len.symm) (lmin_mem (quot_ne h1 h2 hs))
  show 0 ≤ lmin _
  rw [e]
  exact Int.ediv_nonneg (getD_nn h2.nn i) (by omega)
theorem less_row (h1 : IsRow N one) (h2 : IsRow N r) (hs : 0 < one.sum) : IsRow N (less (times one r) one r) := by
  have hl := h1.len.trans h2.len.symm
  refine isRow_of ((less_len hl).trans h2.len) fun i => ?_
  rw [less_at hl]
  by_cases hp : 0 < one.getD i 0
  · have := lmin_le (quot_mem hl hp)
    have h3 : times one r * one.getD i 0 ≤ (r.getD i 0 / one.getD i 0) * one.getD i 0 := Int.mul_le_mul_of_nonneg_right this (by omega)
    have := Int.ediv_mul_le (r.getD i 0) (show one.getD i 0 ≠ 0 by omega)
    omega
  · have := getD_nn h1.nn i
    have e : one.getD i 0 = 0 := by omega
    rw [e, Int.mul_zero]
    have := getD_nn h2.nn i
    omega
theorem less_not (h1 : IsRow N one) (h2 : IsRow N r) (hs : 0 < one.sum) : under one (less (times one r) one r) = false := by
  have hl := h1.len.trans h2.len.symm
  obtain ⟨i, hi, e⟩ := quot_of hl (lmin_mem (quot_ne h1 h2 hs))
  cases q : under one (less (times one r) one r) with
  | false => rfl
  | true =>
    exfalso
    have := (under_iff (by rw [less_len hl]; exact hl)).mp q i
    rw [less_at hl] at this
    have e : times one r = r.getD i 0 / one.getD i 0 := e
    rw [e] at this
    have h3 := Int.emod_lt_of_pos (r.getD i 0) hi
    have h4 := Int.emod_add_mul_ediv (r.getD i 0) (one.getD i 0)
    rw [Int.mul_comm] at h4
    omega
theorem less_under (h1 : IsRow N one) (h2 : IsRow N r) (hs : 0 < one.sum) : under (less (times one r) one r) r = true := by
  have hl := h1.len.trans h2.len.symm
  rw [under_iff (less_len hl)]
  intro i
  rw [less_at hl]
  have := Int.mul_nonneg (times_nn h1 h2 hs) (getD_nn h1.nn i)
  omega
end
theorem left_ok {N : Nat} {cs : List Int} : ∀ {rows : List Row} {r : Row}, (∀ o ∈ rows, IsRow N o ∧ dot cs o = 0 ∧ 0 < o.sum) → IsRow N r → dot cs r = 0 →
    IsRow N (left_ rows r) ∧ dot cs (left_ rows r) = 0 ∧ under (left_ rows r) r = true ∧ ∀ o ∈ rows, under o (left_ rows r) = false
  | [], r, _, hr, hd => ⟨hr, hd, under_refl r, fun o ho => by cases ho⟩
  | one :: rows, r, ho, hr, hd => by
    obtain ⟨h1, h2, h3⟩ := ho one (List.mem_cons_self ..)
    have lr := less_row h1 hr h3
    have ld : dot cs (less (times one r) one r) = 0 := by rw [dot_less (h1.len.trans hr.len.symm), hd, h2]; simp
    obtain ⟨a, b, c, d⟩ := left_ok (rows := rows) (fun o h => ho o (List.mem_cons_of_mem _ h)) lr ld
    refine ⟨a, b, under_trans a.len lr.len hr.len c (less_under h1 hr h3), fun o h => ?_⟩
    rcases List.mem_cons.mp h with e | h
    · subst e
      cases q : under o (left_ rows (less (times o r) o r)) with
      | false => exact q
      | true =>
        have := under_trans h1.len a.len lr.len q c
        rw [less_not h1 hr h3] at this
        cases this
    · exact d o h
theorem putAll_made {N : Nat} : ∀ {rows : List Row} {r acc : Row}, (∀ o ∈ rows, IsRow N o ∧ 0 < o.sum) → IsRow N r → acc.length = N →
    (putAll ((made rows r).zip rows) acc).length = N ∧ ∀ i, (putAll ((made rows r).zip rows) acc).getD i 0 + (left_ rows r).getD i 0 = acc.getD i 0 + r.getD i 0
  | [], r, acc, _, _, ha => ⟨ha, fun i => rfl⟩
  | one :: rows, r, acc, ho, hr, ha => by
    obtain ⟨h1, h3⟩ := ho one (List.mem_cons_self ..)
    have lr := less_row h1 hr h3
    have la : (axpy (times one r) acc one).length = N := (axpy_len (by rw [ha, h1.len])).trans h1.len
    obtain ⟨a, b⟩ := putAll_made (rows := rows) (r := less (times one r) one r) (acc := axpy (times one r) acc one) (fun o h => ho o (List.mem_cons_of_mem _ h)) lr la
    refine ⟨a, fun i => ?_⟩
    have := b i
    rw [less_at (h1.len.trans hr.len.symm), axpy_at (by rw [ha, h1.len])] at this
    show (putAll ((made rows (less (times one r) one r)).zip rows) (axpy (times one r) acc one)).getD i 0 + (left_ rows (less (times one r) one r)).getD i 0 = _
    omega
theorem made_len : ∀ (rows : List Row) (r : Row), (made rows r).length = rows.length
  | [], _ => rfl
  | _ :: rows, r => congrArg (· + 1) (made_len rows _)
theorem made_nn {N : Nat} : ∀ {rows : List Row} {r : Row}, (∀ o ∈ rows, IsRow N o ∧ 0 < o.sum) → IsRow N r → ∀ x ∈ made rows r, 0 ≤ x
  | [], _, _, _, x, hx => by cases hx
  | one :: rows, r, ho, hr, x, hx => by
    obtain ⟨h1, h3⟩ := ho one (List.mem_cons_self ..)
    rcases List.mem_cons.mp hx with e | e
    · subst e; exact times_nn h1 hr h3
    · exact made_nn (fun o h => ho o (List.mem_cons_of_mem _ h)) (less_row h1 hr h3) x e
theorem made_back {ns ms : List Int} (h1 : Cts ns) (h2 : Cts ms) {r : Row} (hr : IsRow (csOf ns ms).length r) (hd : dot (csOf ns ms) r = 0) : putAll ((made (pureRows ns ms) r).zip (pureRows ns ms)) (zero (csOf ns ms).length) = r := by
  have ho : ∀ o ∈ pureRows ns ms, IsRow (csOf ns ms).length o ∧ dot (csOf ns ms) o = 0 ∧ 0 < o.sum := fun o h => by
    have m := (mem_pure h1 h2).mp h
    exact ⟨m.1.row, m.1.eq, by have := m.1.lo; omega⟩
  obtain ⟨a, b, c, d⟩ := left_ok ho hr hd
  obtain ⟨e, f⟩ := putAll_made (rows := pureRows ns ms) (r := r) (acc := zero (csOf ns ms).length) (fun o h => ⟨(ho o h).1, (ho o h).2.2⟩) hr zero_row.len
  have z : (left_ (pureRows ns ms) r).sum ≤ 0 := by
    apply Classical.byContradiction
    intro q
    obtain ⟨m, hm, hu⟩ := min_of (w := 0) (shut := []) (lo := 1) (left_ (pureRows ns ms) r).sum.toNat (s := left_ (pureRows ns ms) r) (by omega) ⟨a, b, fun s hs => (nomatch hs), by omega⟩
    have := d m ((mem_pure h1 h2).mpr hm)
    rw [hu] at this
    cases this
  have z := sum_zero a z
  refine row_ext (by rw [e, hr.len]) fun i => ?_
  have := f i
  rw [z i, zero_at] at this
  omega
end M42
set_option Elab.async false
set_option linter.all false
set_option maxRecDepth 100000
set_option maxHeartbeats 4000000
namespace K44
open PySem L2 G
def top (i : Nat) : Stmt := PySem.Challenge.pw_likefill_k44_whole_made_of_least_rows.main.body.getD i (.Pass ⟨0, 0, 0, 0⟩)
abbrev s_is_whole : Stmt := top 7
abbrev s_is_counts : Stmt := top 8
abbrev s_want_equation : Stmt := top 9
abbrev s_want_row : Stmt := top 10
abbrev s_difference : Stmt := top 11
abbrev s_is_under : Stmt := top 12
abbrev s_is_over_some : Stmt := top 13
abbrev s_holds : Stmt := top 14
abbrev s_with_one : Stmt := top 15
abbrev s_grown : Stmt := top 16
abbrev s_next_rows : Stmt := top 17
abbrev s_least_from : Stmt := top 18
abbrev s_pure_rows : Stmt := top 19
abbrev s_least_of : Stmt := top 20
abbrev s_least_rows : Stmt := top 21
abbrev s_times_in : Stmt := top 22
abbrev s_made_of : Stmt := top 23
abbrev s_Lat : Stmt := top 25
abbrev s_Lpot : Stmt := top 26
abbrev s_Ltake : Stmt := top 27
abbrev s_Lcounts : Stmt := top 28
abbrev s_Lhanded : Stmt := top 29
abbrev s_Loften : Stmt := top 30
abbrev s_Lrow : Stmt := top 31
abbrev s_Lput : Stmt := top 32
abbrev s_Lis_whole : Stmt := top 33
abbrev s_Lrefused : Stmt := top 34
abbrev s_law : Stmt := top 35
abbrev FnP (U : Uv) (x : Str) (st : Stmt) (f : Addr) (fd : FuncData) : Prop := FunD U.K x x (defArgs st) (defBody st) (defScope st) [] [] f fd

section
variable {U : Uv}
def c_is_whole : Int → Cs := fun i => { as := [G.rI i], rs := fun _ => .sh (rB true) }
theorem f_is_whole {f : Addr} {fd : FuncData} (b : Bi U.mg) (hx : U.mg "is_whole" = some (.ref f)) (F : FnP U "is_whole" s_is_whole f fd) : Fd U "is_whole" 1 ["thing"] c_is_whole := by
  refine fd_ok (N := ["thing"]) hx F ⟨rfl, rfl, rfl, by decide +kernel, rfl, by decide +kernel, by decide +kernel⟩ (fun _ _ _ _ _ _ us hl => match us, hl with | [_], _ => rfl) (fun _ => rfl) fun i cd A outer s bb E _ => ?_
  exact s_ret (x_and (x_isi b ty_I b.int bo_int k_int_int (x_var 0)) fun _ => x_one (x_not (x_isi b ty_I b.bool bo_bool k_int_bool (x_var 0)))) (rt_eq rfl)
def Cts (ns : List Int) : Prop := ns.length ≤ 4 ∧ ∀ n ∈ ns, 1 ≤ n ∧ n ≤ 4
theorem small20 {n : Nat} (h : n ≤ 20) : n < sizeLine := Nat.lt_of_le_of_lt h (by decide)
theorem yes_map {α : Type} (xs : List α) (q : α → Pr) (c : α → Bool) (hc : ∀ x ∈ xs, c x = true) : (xs.filter c).map q = xs.map q := by rw [List.filter_eq_self.mpr hc]
def c_is_counts (K : PySem.W.Frag) : Bool × List Int → Cs := fun z => { as := [rQ K z.1 (z.2.map G.rI)], rs := fun _ => .sh (rB true), pre := Cts z.2 }
theorem f_is_counts {f : Addr} {fd : FuncData} (b : Bi U.mg) (hx : U.mg "is_counts" = some (.ref f)) (F : FnP U "is_counts" s_is_counts f fd) (W : Fd U "is_whole" 1 ["thing"] c_is_whole)
    (M : ∃ u, U.mg "MOST_COUNTS" = some u ∧ RelV (.int 4) u) (M' : ∃ u, U.mg "MOST_COUNT" = some u ∧ RelV (.int 4) u) : Fd U "is_counts" 2 ["thing"] (c_is_counts U.K) := by
  refine fd_ok (N := ["thing", "one"]) hx F ⟨rfl, rfl, rfl, by decide +kernel, rfl, by decide +kernel, by decide +kernel⟩ (fun _ _ _ _ _ _ us hl => match us, hl with | [_], _ => rfl) (fun _ => rfl) ?_
  rintro ⟨t, ns⟩ cd A outer s bb E ⟨hl, hn⟩
  replace hl : ns.length ≤ 4 := hl
  have fin : (ns.filter fun _ => true).map (fun _ => rB true) = (ns.map fun _ => true).map rB := by rw [yes_map _ _ _ (fun _ _ => rfl), List.map_map]; rfl
  have fin2 : (ns.map fun _ => true).all id = true := by simp
  refine s_if ((w_or (t_not (t_val (x_isiQ b (x_var 0)))) fun _ => w_or1 (t_gt (x_lenQ b (x_var 0)) (x_glob M))).t) (fun h => ?_) fun h => s_then ?_
  · exfalso
    simp at h
    omega
  · refine s_ret (x_all (bs := ns.map fun _ => true) b ?_) (rt_eq (by rw [fin2]))
    refine (y_lcM (xs := ns) (r := G.rI) [("one", 1)] (fun _ => true) (fun _ => rB true) (m_Q (x_var 0)) (small20 (by omega)) (fun _ _ _ _ _ x hx => g_name 1) (fun _ _ _ _ _ x hx => ts_no) (fun _ _ _ _ _ x hx _ => ?_)).fz.to (by rw [fin])
    refine (x_and (c := true) (x_call W x (a_cons (x_var 1) a_nil)) fun _ => x_one (x_chain op_le op_le o_I0 o_I0 x_int (x_var 1) (x_glob M'))).to ?_
    have := hn x hx
    simp [this]
def c_want_eq (K : PySem.W.Frag) : Bool × List Int × Bool × List Int → Cs := fun z => { as := [rQ K z.1 (z.2.1.map G.rI), rQ K z.2.2.1 (z.2.2.2.map G.rI)], rs := fun _ => .sh rN, pre := Cts z.2.1 ∧ Cts z.2.2.2 ∧ z.2.1.length + z.2.2.2.length ≠ 0 }
theorem f_want_eq {f : Addr} {fd : FuncData} (b : Bi U.mg) (hx : U.mg "want_equation" = some (.ref f)) (F : FnP U "want_equation" s_want_equation f fd) (W : Fd U "is_counts" 2 ["thing"] (c_is_counts U.K)) : Fd U "want_equation" 3 ["left", "right"] (c_want_eq U.K) := by
  refine fd_ok (N := ["left", "right"]) hx F ⟨rfl, rfl, rfl, by decide +kernel, rfl, by decide +kernel, by decide +kernel⟩ (fun _ _ _ _ _ _ us hl => match us, hl with | [_, _], _ => rfl) (fun _ => rfl) ?_
  rintro ⟨t1, ns, t2, ms⟩ cd A outer s bb E ⟨hn, hm, hne⟩
  replace hne : ns.length + ms.length ≠ 0 := hne
  refine s_if ((w_or (t_not (t_val (x_call W (t1, ns) (a_cons (x_var 0) a_nil) (fun _ => rfl) hn))) fun _ => w_or (t_not (t_val (x_call W (t2, ms) (a_cons (x_var 1) a_nil) (fun _ => rfl) hm))) fun _ => w_or1 (t_eqI (x_add (x_lenQ b (x_var 0)) (x_lenQ b (x_var 1))) x_int)).t) (fun h => ?_) fun h => s_then (s_nil fun σ B H st => ⟨B, st.st, rfl⟩)
  exfalso
  simp only [List.length_map, Bool.not_true, Bool.false_or, decide_eq_true_eq] at h
  omega

abbrev E3 : Type := Bool × List Int × Bool × List Int × Bool × List Int
def as3 (K : PySem.W.Frag) : E3 → List Pr := fun z => [rQ K z.1 (z.2.1.map G.rI), rQ K z.2.2.1 (z.2.2.2.1.map G.rI), rQ K z.2.2.2.2.1 (z.2.2.2.2.2.map G.rI)]
def fits (z : E3) : Prop := z.2.2.2.2.2.length = z.2.1.length + z.2.2.2.1.length
instance (z : E3) : Decidable (fits z) := inferInstanceAs (Decidable (_ = _))
def Pre3 (z : E3) : Prop := Cts z.2.1 ∧ Cts z.2.2.2.1 ∧ z.2.1.length + z.2.2.2.1.length ≠ 0 ∧ (∀ x ∈ z.2.2.2.2.2, 0 ≤ x) ∧ z.2.2.2.2.2.length ≤ 20

def c_want_row (K : PySem.W.Frag) (C : Addr) : E3 → Cs := fun z => { as := as3 K z, rs := fun _ => .sh (Pr.gd (fits z) rN), pre := Pre3 z, exc := fun c => c = C ∧ ¬ fits z }
theorem f_want_row {f C : Addr} {fd : FuncData} (b : Bi U.mg) (hx : U.mg "want_row" = some (.ref f)) (F : FnP U "want_row" s_want_row f fd) (W : Fd U "is_whole" 1 ["thing"] c_is_whole) (X : Xc U.K U.mg "NoRow" C) (hm : PySem.W.exmOne U.K (.ref C) (.ref C) = some true) : Fd U "want_row" 2 ["left", "right", "row"] (c_want_row U.K C) := by
  refine fd_ok (N := ["left", "right", "row", "one"]) hx F ⟨rfl, rfl, rfl, by decide +kernel, rfl, by decide +kernel, by decide +kernel⟩ (fun _ _ _ _ _ _ us hl => match us, hl with | [_, _, _], _ => rfl) (fun _ => rfl) ?_
  rintro ⟨t1, ns, t2, ms, t3, r⟩ cd A outer s bb E ⟨hn, hm, hne, hr, hl⟩
  replace hr : ∀ x ∈ r, 0 ≤ x := hr
  replace hl : r.length ≤ 20 := hl
  have e1 : (r.filter fun _ => true).map (fun _ => rB true) = (r.map fun _ => true).map rB := by rw [yes_map _ _ _ (fun _ _ => rfl), List.map_map]; rfl
  have e2 : (r.map fun _ => true).all id = true := by simp
  refine s_if ((w_or (t_not (t_val (x_isiQ b (x_var 2)))) fun _ => w_or1 (t_neI (x_lenQ b (x_var 2)) (x_add (x_lenQ b (x_var 0)) (x_lenQ b (x_var 1))))).t) (fun h => ?_) fun h => s_then ?_
  · refine s_raise X (fun C' d σ B H e st => lets_out (exc' := fun c => c = C) (fun c hc => ⟨hc, fun z => ?_⟩) C' d σ B H e st)
    simp only [List.length_map, Bool.not_true, Bool.false_or] at h
    have z : r.length = ns.length + ms.length := z
    rw [z] at h
    simp at h
  · simp only [List.length_map, Bool.not_true, Bool.false_or] at h
    have hfit : r.length = ns.length + ms.length := by simp at h; omega
    refine s_if (t_not (t_val (x_all (bs := r.map fun _ => true) b ((y_lcM (xs := r) (r := G.rI) [("one", 3)] (fun _ => true) (fun _ => rB true) (m_Q (x_var 2)) (small20 hl) (fun _ _ _ _ _ x hx => g_name 3) (fun _ _ _ _ _ x hx => ts_no) (fun _ _ _ _ _ x hx _ => ?_)).fz.to (by rw [e1]))))) (fun h => ?_) fun h => s_then (s_nil fun σ B H st => ⟨B, st.st, hfit, rfl⟩)
    · refine (x_and (c := true) (x_call W x (a_cons (x_var 3) a_nil)) fun _ => x_one (x_ge (x_var 3) x_int)).to ?_
      have := hr x hx
      simp [this]
    · rw [e2] at h; cases h

def dif (ns ms r : List Int) : Int := M45.dot (ns ++ ms.map (- ·)) r
def c_dif (K : PySem.W.Frag) : E3 → Cs := fun z => { as := as3 K z, rs := fun _ => .sh (G.rI (dif z.2.1 z.2.2.2.1 z.2.2.2.2.2)), pre := Pre3 z }
theorem f_dif {f : Addr} {fd : FuncData} (b : Bi U.mg) (hx : U.mg "difference" = some (.ref f)) (F : FnP U "difference" s_difference f fd) : Fd U "difference" 1 ["left", "right", "row"] (c_dif U.K) := by
  refine fd_ok (N := ["left", "right", "row", "counts", "one", "count"]) hx F ⟨rfl, rfl, rfl, by decide +kernel, rfl, by decide +kernel, by decide +kernel⟩ (fun _ _ _ _ _ _ us hl => match us, hl with | [_, _, _], _ => rfl) (fun _ => rfl) ?_
  rintro ⟨t1, ns, t2, ms, t3, r⟩ cd A outer s bb E ⟨hn, hm, hne, hr, hl⟩
  replace hn : Cts ns := hn
  replace hm : Cts ms := hm
  replace hl : r.length ≤ 20 := hl
  have sz : sizeLine = 16777216 := by decide
  have e1 : (ms.filter fun _ => true).map (fun x => G.rI (-x)) = (ms.map (- ·)).map G.rI := by rw [yes_map _ _ _ (fun _ _ => rfl), List.map_map]; rfl
  let cs : List Int := ns ++ ms.map (- ·)
  have hcs : ∀ c ∈ cs, -4 ≤ c ∧ c ≤ 4 := fun c hc => by
    rcases List.mem_append.mp hc with h | h
    · have := hn.2 c h; omega
    · obtain ⟨x, hx, rfl⟩ := List.mem_map.mp h
      have := hm.2 x hx
      show -4 ≤ -x ∧ -x ≤ 4
      omega
  refine s_set 3 (P := rLs U.K (cs.map G.rI)) ((y_catL (rs := ns.map G.rI) (qs := (ms.map (- ·)).map G.rI) ?_ (y_listQ b (x_var 0)).fz ((y_lcM (xs := ms) (r := G.rI) [("one", 4)] (fun _ => true) (fun x => G.rI (-x)) (m_Q (x_var 1)) (small20 (by have := hm.1; omega)) (fun _ _ _ _ _ x hx => g_name 4) (fun _ _ _ _ _ x hx => ts_no) (fun _ _ _ _ _ x hx _ => x_neg (x_var 4))).fz.to (by rw [e1]))).fz.to (by rw [← List.map_append]; rfl)) ?_
  · rw [List.length_map, List.length_map, List.length_map, sz]
    have := hn.1
    have := hm.1
    omega
  have e3 : ((cs.zip r).filter fun _ => true).map (fun z => G.rI (z.1 * z.2)) = ((cs.zip r).map fun z => z.1 * z.2).map G.rI := by
    rw [yes_map _ _ _ (fun _ _ => rfl), List.map_map]; rfl
  refine s_ret (x_sum (bs := (cs.zip r).map fun z => z.1 * z.2) b (((y_lcM (xs := cs.zip r) (r := fun z => rTs U.K [G.rI z.1, G.rI z.2]) [("count", 5), ("one", 4)] (fun _ => true) (fun z => G.rI (z.1 * z.2)) (m_zipQ (t1 := false) (r := G.rI) (r' := G.rI) b.zip (x_var 3) (x_var 2)) ?_ (fun _ _ _ _ _ x hx => g_tup (gs_cons (g_name 5) (gs_cons (g_name 4) gs_nil))) (fun _ _ _ _ _ x hx => ts_no) (fun _ _ _ _ _ x hx _ => x_mul ?_ (x_var 5) (x_var 4)))).fz.to (by rw [e3]))) (rt_eq rfl)
  · rw [List.length_zip]; omega
  · have := hcs x.1 (List.of_mem_zip hx).1
    exact .inl ⟨by omega, by omega⟩

def c_holds (K : PySem.W.Frag) (C : Addr) : E3 → Cs := fun z => { as := as3 K z, rs := fun _ => .sh (Pr.gd (fits z) (rB (decide (dif z.2.1 z.2.2.2.1 z.2.2.2.2.2 = 0)))), pre := Pre3 z, exc := fun c => c = C ∧ ¬ fits z }
theorem f_holds {f C : Addr} {fd : FuncData} (b : Bi U.mg) (hx : U.mg "holds" = some (.ref f)) (F : FnP U "holds" s_holds f fd) (We : Fd U "want_equation" 3 ["left", "right"] (c_want_eq U.K)) (Wr : Fd U "want_row" 2 ["left", "right", "row"] (c_want_row U.K C)) (Wd : Fd U "difference" 1 ["left", "right", "row"] (c_dif U.K)) : Fd U "holds" 4 ["left", "right", "row"] (c_holds U.K C) := by
  refine fd_ok (N := ["left", "right", "row"]) hx F ⟨rfl, rfl, rfl, by decide +kernel, rfl, by decide +kernel, by decide +kernel⟩ (fun _ _ _ _ _ _ us hl => match us, hl with | [_, _, _], _ => rfl) (fun _ => rfl) ?_
  rintro ⟨t1, ns, t2, ms, t3, r⟩ cd A outer s bb E hp
  refine s_expr (x_call We (t1, ns, t2, ms) (a_cons (x_var 0) (a_cons (x_var 1) a_nil)) (fun _ => rfl) ⟨hp.1, hp.2.1, hp.2.2.1⟩) ?_
  refine s_exprG (x_call Wr (t1, ns, t2, ms, t3, r) (a_cons (x_var 0) (a_cons (x_var 1) (a_cons (x_var 2) a_nil))) (fun _ => rfl) hp (lets_out fun c h => h)) fun hf => ?_
  exact s_ret (x_eqI (x_call Wd (t1, ns, t2, ms, t3, r) (a_cons (x_var 0) (a_cons (x_var 1) (a_cons (x_var 2) a_nil))) (fun _ => rfl) hp) x_int) (rt_imp fun B v h => ⟨hf, h⟩)

end
section
variable {U : Uv}
abbrev rRow (K : PySem.W.Frag) (r : List Int) : Pr := rTs K (r.map G.rI)
abbrev rRg (r : List Int) : Pr := rTg (r.map G.rI)
theorem ft_row {K : PySem.W.Frag} (r : List Int) : FreeT (rRow K r) := ft_T (ft_map fun _ => ft_V)
theorem rows_of {K : PySem.W.Frag} {rs : List (List Int)} {B : Bs} {v : V} (h : (rLs K (rs.map rRg)).r B v) : (rLs K (rs.map (rRow K))).r B v := rLs_imp (fun _ _ _ z => rTg_le z) h
theorem small_20 {n : Nat} (h : n ≤ 20) : n < sizeLine := Nat.lt_of_le_of_lt h (by decide)
theorem all_id {α : Type} (xs : List α) (f : α → Bool) : (xs.map f).all id = xs.all f := by rw [List.all_map]; rfl
theorem any_id {α : Type} (xs : List α) (f : α → Bool) : (xs.map f).any id = xs.any f := by rw [List.any_map]; rfl
def c_under (K : PySem.W.Frag) : List Int × List Int → Cs := fun z => { as := [rRow K z.1, rRow K z.2], rs := fun _ => .sh (rB (M42.under z.1 z.2)), pre := z.1.length ≤ 20 }
theorem f_under {f : Addr} {fd : FuncData} (b : Bi U.mg) (hx : U.mg "is_under" = some (.ref f)) (F : FnP U "is_under" s_is_under f fd) : Fd U "is_under" 1 ["one", "other"] (c_under U.K) := by
  refine fd_ok (N := ["one", "other", "a", "b"]) hx F ⟨rfl, rfl, rfl, by decide +kernel, rfl, by decide +kernel, by decide +kernel⟩ (fun _ _ _ _ _ _ us hl => match us, hl with | [_, _], _ => rfl) (fun _ => rfl) ?_
  rintro ⟨r, q⟩ cd A outer s bb E h
  replace h : r.length ≤ 20 := h
  refine s_ret (x_all (bs := (r.zip q).map fun z => decide (z.1 ≤ z.2)) b ((y_mapM (xs := r.zip q) (r := fun z => rTs U.K [G.rI z.1, G.rI z.2]) [("a", 2), ("b", 3)] (fun z => rB (decide (z.1 ≤ z.2))) (m_zipQ (t1 := true) (t2 := true) (r := G.rI) (r' := G.rI) b.zip (x_var 0) (x_var 1)) (small_20 ?_) (fun _ _ _ _ _ x hx => g_tup (gs_cons (g_name 2) (gs_cons (g_name 3) gs_nil))) (fun _ _ _ _ _ x hx => x_le (x_var 2) (x_var 3))).fz.to (by rw [List.map_map]; rfl))) (rt_eq (by rw [all_id]; rfl))
  rw [List.length_zip]; omega
def c_over (K : PySem.W.Frag) : List Int × List (List Int) → Cs := fun z => { as := [rRow K z.1, rLs K (z.2.map (rRow K))], rs := fun _ => .sh (rB (M42.overSome z.1 z.2)), pre := (∀ f ∈ z.2, f.length ≤ 20) ∧ z.2.length < sizeLine }
theorem f_over {f : Addr} {fd : FuncData} (b : Bi U.mg) (hx : U.mg "is_over_some" = some (.ref f)) (F : FnP U "is_over_some" s_is_over_some f fd) (W : Fd U "is_under" 1 ["one", "other"] (c_under U.K)) : Fd U "is_over_some" 2 ["row", "rows"] (c_over U.K) := by
  refine fd_ok (N := ["row", "rows", "one"]) hx F ⟨rfl, rfl, rfl, by decide +kernel, rfl, by decide +kernel, by decide +kernel⟩ (fun _ _ _ _ _ _ us hl => match us, hl with | [_, _], _ => rfl) (fun _ => rfl) ?_
  rintro ⟨r, rs⟩ cd A outer s bb E ⟨h1, h2⟩
  replace h1 : ∀ f ∈ rs, f.length ≤ 20 := h1
  exact s_ret (x_any (bs := rs.map fun f => M42.under f r) b ((y_mapM (xs := rs) (r := rRow U.K) [("one", 2)] (fun f => rB (M42.under f r)) (m_list (x_var 1)) h2 (fun _ _ _ _ _ x hx => g_name 2) (fun _ _ _ _ _ x hx => x_call W (x, r) (a_cons (x_var 2) (a_cons (x_var 0) a_nil)) (fun _ => rfl) (h1 x hx))).fz.to (by rw [List.map_map]; rfl))) (rt_eq (by rw [any_id]; rfl))
theorem set_take (r : List Int) (i : Nat) (v : Int) (h : i < r.length) : r.take i ++ [v] ++ r.drop (i + 1) = r.set i v := by
  rw [List.set_eq_take_append_cons_drop, if_pos h, List.append_assoc]; rfl
def c_with_one (K : PySem.W.Frag) : List Int × Nat → Cs := fun z => { as := [rRow K z.1, G.rI (z.2 : Int)], rs := fun _ => .sh (rRg (M42.withOne z.1 z.2)), pre := z.2 < z.1.length ∧ z.1.length ≤ 20 }
theorem f_with_one {f : Addr} {fd : FuncData} (b : Bi U.mg) (hx : U.mg "with_one" = some (.ref f)) (F : FnP U "with_one" s_with_one f fd) : Fd U "with_one" 1 ["row", "place"] (c_with_one U.K) := by
  refine fd_ok (N := ["row", "place"]) hx F ⟨rfl, rfl, rfl, by decide +kernel, rfl, by decide +kernel, by decide +kernel⟩ (fun _ _ _ _ _ _ us hl => match us, hl with | [_, _], _ => rfl) (fun _ => rfl) ?_
  rintro ⟨r, i⟩ cd A outer s bb E ⟨h1, h2⟩
  replace h1 : i < r.length := h1
  replace h2 : r.length ≤ 20 := h2
  have sz : sizeLine = 16777216 := by decide
  refine s_ret (x_catG2 (rs := (r.take i).map G.rI ++ [G.rI (r.getD i 0 + 1)]) (qs := (r.drop (i + 1)).map G.rI) ?_ ?_ (x_catG1 (rs := (r.take i).map G.rI) (qs := [G.rI (r.getD i 0 + 1)]) ?_ (by simp) ((x_slT (rs := r.map G.rI) (i := none) (j := some (i : Int)) (x_var 0) .no (.at_ (x_var 1))).to ?_) (x_tupG (a_cons (x_add (x_ixT (R := G.rI (r.getD i 0)) (j := (i : Int)) ?_ (x_var 0) (x_var 1)) x_int) a_nil)))
    ((x_slT (rs := r.map G.rI) (i := some ((i : Int) + 1)) (j := none) (x_var 0) (.at_ (x_add (x_var 1) x_int)) .no).to ?_)) (rt_eq ?_)
  · simp only [List.length_append, List.length_map, List.length_take, List.length_drop, List.length_cons, List.length_nil]; omega
  · simp
  · simp only [List.length_map, List.length_take, List.length_cons, List.length_nil]; omega
  · rw [cutTake, ← List.map_take]
  · refine atI_nat ?_
    rw [List.getElem?_map, List.getElem?_eq_getElem h1, List.getD_eq_getElem?_getD, List.getElem?_eq_getElem h1]; rfl
  · have : ((i : Int) + 1) = ((i + 1 : Nat) : Int) := by omega
    rw [this, cutDrop, ← List.map_drop]
  · show rTg _ = rTg _
    congr 1
    have e := set_take r i (r.getD i 0 + 1) h1
    unfold M42.withOne
    rw [← e, List.map_append, List.map_append]; rfl
abbrev E2 : Type := Bool × List Int × Bool × List Int
def as2 (K : PySem.W.Frag) (z : E2) : List Pr := [rQ K z.1 (z.2.1.map G.rI), rQ K z.2.2.1 (z.2.2.2.map G.rI)]
abbrev E2.cs (z : E2) : List Int := M42.csOf z.2.1 z.2.2.2
structure EqOk (z : E2) : Prop where
  l : Cts z.2.1
  r : Cts z.2.2.2
  n : z.2.1.length + z.2.2.2.length ≠ 0
theorem EqOk.len {z : E2} (h : EqOk z) : z.2.1.length + z.2.2.2.length ≤ 8 := by have := h.l.1; have := h.r.1; omega
structure RowOk (z : E2) (r : List Int) : Prop where
  len : r.length = z.2.1.length + z.2.2.2.length
  nn : ∀ x ∈ r, 0 ≤ x
theorem RowOk.of {z : E2} {r : List Int} (h : M42.IsRow z.cs.length r) : RowOk z r := ⟨by rw [h.len, M42.csOf_len], h.nn⟩
theorem pre3 {z : E2} (h : EqOk z) {r : List Int} (hr : RowOk z r) {t : Bool} : Pre3 (z.1, z.2.1, z.2.2.1, z.2.2.2, t, r) := ⟨h.l, h.r, h.n, hr.nn, by have := h.len; have := hr.len; show r.length ≤ 20; omega⟩
theorem dif_dot (z : E2) (r : List Int) : dif z.2.1 z.2.2.2 r = M45.dot z.cs r := rfl
def c_grown (K : PySem.W.Frag) : E2 × List Int × Int → Cs := fun z => { as := as2 K z.1 ++ [rRow K z.2.1, G.rI z.2.2], rs := fun _ => .sh (rLs K ((M42.grown z.1.cs z.1.2.1.length z.2.2 z.2.1).map rRg)), pre := EqOk z.1 ∧ RowOk z.1 z.2.1 }
theorem f_grown {f : Addr} {fd : FuncData} (b : Bi U.mg) (hx : U.mg "grown" = some (.ref f)) (F : FnP U "grown" s_grown f fd) (Wd : Fd U "difference" 1 ["left", "right", "row"] (c_dif U.K)) (Wo : Fd U "with_one" 1 ["row", "place"] (c_with_one U.K)) : Fd U "grown" 2 ["left", "right", "row", "whole"] (c_grown U.K) := by
  refine fd_ok (N := ["left", "right", "row", "whole", "place"]) hx F ⟨rfl, rfl, rfl, by decide +kernel, rfl, by decide +kernel, by decide +kernel⟩ (fun _ _ _ _ _ _ us hl => match us, hl with | [_, _, _, _], _ => rfl) (fun _ => rfl) ?_
  rintro ⟨⟨t1, ns, t2, ms⟩, r, w⟩ cd A outer s bb E ⟨h1, h2⟩
  have l8 : ns.length + ms.length ≤ 8 := h1.len
  have rl : r.length = ns.length + ms.length := h2.len
  have cl : (M42.csOf ns ms).length - ns.length = ms.length := by rw [M42.csOf_len]; omega
  refine s_if (t_lt (x_call Wd (t1, ns, t2, ms, true, r) (a_cons (x_var 0) (a_cons (x_var 1) (a_cons (x_var 2) a_nil))) (fun _ => rfl) (pre3 h1 h2)) (x_var 3)) (fun h => ?_) fun h => s_then ?_
  · have h : dif ns ms r < w := by simpa using h
    replace h : M45.dot (M42.csOf ns ms) r < w := h
    refine s_ret ((y_mapM (xs := List.range ((ns.map G.rI).length : Int).toNat) (r := fun i => G.rI (i : Int)) [("place", 4)] (fun i => rRg (M42.withOne r i)) (m_range1 b.range (by simp <;> omega) (by simp <;> omega) (x_lenQ b (x_var 0))) (small_20 (by simp <;> omega)) (fun _ _ _ _ _ x hx => g_name 4) (fun _ _ _ _ _ x hx => x_call Wo (r, x) (a_cons (x_var 2) (a_cons (x_var 4) a_nil)) (fun _ => rfl) ?_)).fz) (rt_eq ?_)
    · have := List.mem_range.mp hx
      simp at this
      exact ⟨by show x < r.length; omega, by show r.length ≤ 20; omega⟩
    · show rLs U.K _ = rLs U.K ((M42.grown (M42.csOf ns ms) ns.length w r).map rRg)
      unfold M42.grown
      rw [if_pos h, List.map_map, List.length_map, Int.toNat_natCast]; rfl
  · have h : ¬ dif ns ms r < w := by simpa using h
    replace h : ¬ M45.dot (M42.csOf ns ms) r < w := h
    refine s_ret ((y_mapM (xs := List.range ((ms.map G.rI).length : Int).toNat) (r := fun i => G.rI (i : Int)) [("place", 4)] (fun i => rRg (M42.withOne r (ns.length + i))) (m_range1 b.range (by simp <;> omega) (by simp <;> omega) (x_lenQ b (x_var 1))) (small_20 (by simp <;> omega)) (fun _ _ _ _ _ x hx => g_name 4) (fun _ _ _ _ _ x hx => x_call Wo (r, ns.length + x) (a_cons (x_var 2) (a_cons ((x_add (x_lenQ b (x_var 0)) (x_var 4)).to (by rw [List.length_map]; rfl)) a_nil)) (fun _ => rfl) ?_)).fz) (rt_eq ?_)
    · have := List.mem_range.mp hx
      simp at this
      exact ⟨by show ns.length + x < r.length; omega, by show r.length ≤ 20; omega⟩
    · show rLs U.K _ = rLs U.K ((M42.grown (M42.csOf ns ms) ns.length w r).map rRg)
      unfold M42.grown
      rw [if_neg h, List.map_map, List.length_map, Int.toNat_natCast, cl]; rfl
end

end K44
set_option Elab.async false
set_option linter.all false
set_option maxRecDepth 100000
set_option maxHeartbeats 4000000
namespace K44
open PySem L2 G
section
variable {U : Uv}
abbrev dput (acc : List (List Int)) (x : List Int) : List (List Int) := if x ∈ acc then acc else acc ++ [x]
theorem dput_len (xs : List (List Int)) : ∀ acc : List (List Int), (xs.foldl dput acc).length ≤ acc.length + xs.length := by
  induction xs with
  | nil => intro acc; simp
  | cons x xs ih =>
    intro acc
    rw [List.foldl_cons]
    have := ih (dput acc x)
    have : (dput acc x).length ≤ acc.length + 1 := by
      unfold dput
      split
      · omega
      · rw [List.length_append]; simp
    rw [List.length_cons]
    omega
theorem take_next {α : Type} {xs : List α} {i : Nat} {x : α} (h : xs[i]? = some x) : xs.take (i + 1) = xs.take i ++ [x] := by
  rw [List.take_succ, h]; rfl
structure Rows (z : E2) (rs : List (List Int)) : Prop where
  row : ∀ r ∈ rs, RowOk z r
  len : rs.length ≤ 1048576
def c_next (K : PySem.W.Frag) : E2 × List (List Int) × Int → Cs := fun z => { as := as2 K z.1 ++ [rLs K (z.2.1.map (rRow K)), G.rI z.2.2], rs := fun _ => .sh (rLs K ((M42.nextRows z.1.cs z.1.2.1.length z.2.2 z.2.1).map (rRow K))), pre := EqOk z.1 ∧ Rows z.1 z.2.1 }
theorem f_next {f : Addr} {fd : FuncData} (b : Bi U.mg) (hx : U.mg "next_rows" = some (.ref f)) (F : FnP U "next_rows" s_next_rows f fd) (Wg : Fd U "grown" 2 ["left", "right", "row", "whole"] (c_grown U.K)) : Fd U "next_rows" 3 ["left", "right", "rows", "whole"] (c_next U.K) := by
  refine fd_ok (N := ["left", "right", "rows", "whole", "found", "row", "one"]) hx F ⟨rfl, rfl, rfl, by decide +kernel, rfl, by decide +kernel, by decide +kernel⟩ (fun _ _ _ _ _ _ us hl => match us, hl with | [_, _, _, _], _ => rfl) (fun _ => rfl) ?_
  rintro ⟨⟨t1, ns, t2, ms⟩, rs, w⟩ cd A outer s bb E ⟨h1, h2⟩
  replace h2 : Rows (t1, ns, t2, ms) rs := h2
  have sz : sizeLine = 16777216 := by decide
  have hn : ns.length ≤ 4 := h1.l.1
  have hm : (M42.csOf ns ms).length - ns.length ≤ 4 := by rw [M42.csOf_len]; have : ms.length ≤ 4 := h1.r.1; omega
  let gr : List Int → List (List Int) := M42.grown (M42.csOf ns ms) ns.length w
  have g4 : ∀ r, (gr r).length ≤ 4 := fun r => M42.grown_len hn hm
  let A0 : Nat → List (List Int) := fun i => ((rs.take i).flatMap gr).foldl dput []
  have a4 : ∀ i, (A0 i).length ≤ 4 * 1048576 := fun i => by
    have a := dput_len ((rs.take i).flatMap gr) []
    have c := M42.flat_len (rs.take i) gr g4
    have d := h2.len
    rw [List.length_take] at c
    simp only [List.length_nil] at a
    show (((rs.take i).flatMap gr).foldl dput []).length ≤ _
    omega
  let Γ0 : List (List Int) → Option Sl → Option Sl → Gm := fun ks u v => [some (.sh (rQ U.K t1 (ns.map G.rI))), some (.sh (rQ U.K t2 (ms.map G.rI))), some (.sh (rLs U.K (rs.map (rRow U.K)))), some (.sh (G.rI w)), some (.ow (oDs ks (.bl true))), u, v]
  refine s_setO 4 (y_dnewT (x := .bl true)) ?_
  refine s_forM (xs := rs) (r := rRow U.K) (fun i => Γ0 (A0 i) none none) (m_list (x_var 2)) ⟨.refl _, .refl _, .refl _, .refl _, .refl _, .refl _, .refl _, trivial⟩ (fun i r hr => g_name 5) (fun i r hr => ?_) ?_
  · have hrow := h2.row r (List.mem_of_getElem? hr)
    refine s_forM (xs := gr r) (r := rRg) (fun j => Γ0 (((gr r).take j).foldl dput (A0 i)) (some (.sh (rRow U.K r))) none) (m_list (x_call Wg ((t1, ns, t2, ms), r, w) (a_cons (x_var 0) (a_cons (x_var 1) (a_cons (x_var 5) (a_cons (x_var 3) a_nil)))) (fun _ => rfl) ⟨h1, hrow⟩)) ⟨.refl _, .refl _, .refl _, .refl _, .refl _, .refl _, .refl _, trivial⟩ (fun j k hk => g_name 6) (fun j k hk => ?_) (s_nx ?_ rfl)
    · refine s_dputT 4 x_bl (x_var 6) ?_ (s_nx ?_ rfl)
      · have a := dput_len ((gr r).take j) (A0 i)
        have c := a4 i
        have d := g4 r
        rw [List.length_take] at a
        omega
      · refine ⟨.refl _, .refl _, .refl _, .refl _, ?_, .refl _, .none _, trivial⟩
        rw [take_next hk, List.foldl_append]
        exact .refl _
    · refine ⟨.refl _, .refl _, .refl _, .refl _, ?_, .none _, .refl _, trivial⟩
      have e : A0 (i + 1) = ((gr r).take (gr r).length).foldl dput (A0 i) := by
        show ((rs.take (i + 1)).flatMap gr).foldl dput [] = _
        rw [take_next hr, List.flatMap_append, List.foldl_append, List.take_length]
        simp only [List.flatMap_cons, List.flatMap_nil, List.append_nil]
        rfl
      rw [e]
      exact .refl _
  · refine s_ret ((y_listDT 4 b).fz) (rt_imp fun B v h => ?_)
    have e : A0 rs.length = M42.nextRows (M42.csOf ns ms) ns.length w rs := by
      show ((rs.take rs.length).flatMap gr).foldl dput [] = _
      rw [List.take_length]; rfl
    rw [e] at h
    exact rows_of h
/-! data of rows -/
theorem depT (r : List Int) : (M42.dTp r).depth ≤ 1 := by
  unfold M42.dTp
  rw [PyData.depth, G.dep_ints]
  exact Nat.le_refl _
theorem canT (r : List Int) : (M42.dTp r).canLay0 = true := by
  unfold M42.dTp
  rw [PyData.canLay0]
  induction r with
  | nil => rfl
  | cons x r ih => rw [List.map_cons, PyData.canLayAll0, ih]; rfl
theorem shapedT (rs : List (List Int)) : SeqAt.shaped (.list (rs.map M42.dTp)) = true := by
  have a : PyData.canLayAll0 (rs.map M42.dTp) = true := by
    induction rs with
    | nil => rfl
    | cons r rs ih => rw [List.map_cons, PyData.canLayAll0, canT, ih]; rfl
  have b : PyData.depthAll (rs.map M42.dTp) ≤ 1 := by
    clear a
    induction rs with
    | nil => simp [PyData.depthAll]
    | cons r rs ih =>
      rw [List.map_cons, PyData.depthAll]
      exact Nat.max_le.mpr ⟨depT r, ih⟩
  show (PyData.canLay0 (.list _) && decide _) = true
  rw [PyData.canLay0, a, PyData.depth]
  simp
  omega
theorem hd_row {K : PySem.W.Frag} (r : List Int) : HasD K (rRow K r) (M42.dTp r) := hd_T (hds_map (fun _ => hd_I) r)
theorem hd_rows {K : PySem.W.Frag} (rs : List (List Int)) : HasD K (rLs K (rs.map (rRow K))) (.list (rs.map M42.dTp)) := hd_L (hds_map (fun r => hd_row r) rs)
theorem eqv_nil (rs : List (List Int)) : (!PyData.eqv (.list (rs.map M42.dTp)) (.list [])) = decide (rs ≠ []) := by
  cases rs with
  | nil => simp [PyData.eqv, PyData.eqvAll]
  | cons r rs => simp [PyData.eqv, PyData.eqvAll]
def c_from (K : PySem.W.Frag) : E2 × List (List Int) × Int × List (List Int) → Cs := fun z => { as := as2 K z.1 ++ [rLs K (z.2.1.map (rRow K)), G.rI z.2.2.1, rLs K (z.2.2.2.map (rRow K))], rs := fun _ => .sh (rLs K ((M42.leastFrom z.1.cs z.1.2.1.length z.2.2.1 z.2.2.2 z.2.1).map (rRow K))), pre := EqOk z.1 ∧ z.2.2.2.length < sizeLine ∧ ∃ lo Lb Hb, M42.Fine z.1.cs z.1.2.1.length z.2.2.1 z.2.2.2 lo Lb Hb z.2.1 }
theorem f_from {f : Addr} {fd : FuncData} (b : Bi U.mg) (hx : U.mg "least_from" = some (.ref f)) (F : FnP U "least_from" s_least_from f fd) (Wo : Fd U "is_over_some" 2 ["row", "rows"] (c_over U.K)) (Wd : Fd U "difference" 1 ["left", "right", "row"] (c_dif U.K)) (Wn : Fd U "next_rows" 3 ["left", "right", "rows", "whole"] (c_next U.K)) : Fd U "least_from" 4 ["left", "right", "rows", "whole", "shut"] (c_from U.K) := by
  refine fd_ok (N := ["left", "right", "rows", "whole", "shut", "found", "row"]) hx F ⟨rfl, rfl, rfl, by decide +kernel, rfl, by decide +kernel, by decide +kernel⟩ (fun _ _ _ _ _ _ us hl => match us, hl with | [_, _, _, _, _], _ => rfl) (fun _ => rfl) ?_
  rintro ⟨⟨t1, ns, t2, ms⟩, rs, w, shut⟩ cd A outer s bb E ⟨h1, hsh, lo, Lb, Hb, h2⟩
  replace h2 : M42.Fine (M42.csOf ns ms) ns.length w shut lo Lb Hb rs := h2
  replace hsh : shut.length < sizeLine := hsh
  have l8 : ns.length + ms.length ≤ 8 := h1.len
  have sz : sizeLine = 16777216 := by decide
  let z : Nat → List (List Int) × List (List Int) := M42.st (M42.csOf ns ms) ns.length w shut rs
  have inv := M42.st_inv h2.H h2.h0
  have lens : ∀ i, (z i).2.length ≤ 262144 ∧ (z i).1.length ≤ 1048576 := h2.lens
  have rok : ∀ i, ∀ r ∈ (z i).2, RowOk (t1, ns, t2, ms) r := fun i r hr => RowOk.of ((inv i).rw r hr).1
  have fok : ∀ i, ∀ r ∈ (z i).1, r.length ≤ 20 := fun i r hr => by
    have := (((inv i).fd r hr).1).1.row.len
    rw [M42.csOf_len] at this; omega
  have sok : ∀ r ∈ shut, r.length ≤ 20 := fun r hr => by
    have := h2.H.shr r hr
    rw [M42.csOf_len] at this; omega
  let Γ0 : List (List Int) → List (List Int) → Gm := fun ks rows => [some (.sh (rQ U.K t1 (ns.map G.rI))), some (.sh (rQ U.K t2 (ms.map G.rI))), some (.sh (rLs U.K (rows.map (rRow U.K)))), some (.sh (G.rI w)), some (.sh (rLs U.K (shut.map (rRow U.K)))), some (.ow (oL (ks.map (rRow U.K)))), none]
  refine s_setO 5 (y_lst a_nil) ?_
  refine s_while (fun i : Nat => Γ0 (z i).1 (z i).2) (fun i => 10 - i) (fun i => decide ((z i).2 ≠ [])) 0 ⟨.refl _, .refl _, .refl _, .refl _, .refl _, .refl _, .refl _, trivial⟩ (fun i => (t_neD (x_var 2) (x_lst a_nil) (hd_rows _) (hd_L (ds := []) trivial) (shapedT _) rfl).to (eqv_nil _)) (fun i hi => ?_) (fun i hi => ?_)
  · have hi' : (z i).2 ≠ [] := by simpa using hi
    have i8 := h2.small hi'
    let kp : List (List Int) := M42.kept shut (z i).1 (z i).2
    have kpl : kp.length ≤ 262144 := Nat.le_trans (List.length_filter_le _ _) (lens i).1
    have kok : ∀ r ∈ kp, RowOk (t1, ns, t2, ms) r := fun r hr => rok i r (M42.mem_kept.mp hr).1
    refine s_lc 2 (c := oL (kp.map (rRow U.K))) (l_borT 5 (rLs U.K ((z i).1.map (rRow U.K))) (l_lcM (xs := (z i).2) (r := rRow U.K) [("row", 6)] (fun r => !M42.overSome r shut && !M42.overSome r (z i).1) (rRow U.K) (m_list (x_var 2)) (by have := (lens i).1; omega) (fun _ _ _ _ _ x hx => g_name 6) (fun _ _ _ _ _ x hx => ts_if ((w_and (t_not (t_val (x_call Wo (x, shut) (a_cons (x_var 6) (a_cons (x_var 4) a_nil)) (fun _ => rfl) ⟨sok, hsh⟩))) fun _ => w_and1 (t_not (t_val (x_call Wo (x, (z i).1) (a_cons (x_var 6) (a_cons (x_var 5) a_nil)) (fun _ => rfl) ⟨fok i, by have := (lens i).2; show (z i).1.length < _; omega⟩)))).t)) (fun _ _ _ _ _ x hx _ => x_var 6)) (ft_oL (ft_map ft_row)) fz_oL) ?_
    refine s_fz 2 ?_
    refine s_ext 5 (qs := (kp.filter fun r => decide (M45.dot (M42.csOf ns ms) r = w)).map (rRow U.K)) ((y_lcM (xs := kp) (r := rRow U.K) [("row", 6)] (fun r => decide (M45.dot (M42.csOf ns ms) r = w)) (rRow U.K) (m_list (x_var 2)) (by omega) (fun _ _ _ _ _ x hx => g_name 6) (fun _ _ _ _ _ x hx => ts_if (t_eqI (x_call Wd (t1, ns, t2, ms, true, x) (a_cons (x_var 0) (a_cons (x_var 1) (a_cons (x_var 6) a_nil))) (fun _ => rfl) (pre3 h1 (kok x hx))) (x_var 3))) (fun _ _ _ _ _ x hx _ => x_var 6)).fz) ?_ ?_
    · rw [List.length_map, List.length_map]
      have a := (lens i).2
      have c : (kp.filter fun r => decide (M45.dot (M42.csOf ns ms) r = w)).length ≤ kp.length := List.length_filter_le _ _
      show (z i).1.length + _ ≤ _
      omega
    refine s_set 2 (P := rLs U.K ((M42.nextRows (M42.csOf ns ms) ns.length w (kp.filter fun r => !decide (M45.dot (M42.csOf ns ms) r = w))).map (rRow U.K))) (x_call Wn ((t1, ns, t2, ms), kp.filter fun r => !decide (M45.dot (M42.csOf ns ms) r = w), w) (a_cons (x_var 0) (a_cons (x_var 1) (a_cons ((y_lcM (xs := kp) (r := rRow U.K) [("row", 6)] (fun r => !decide (M45.dot (M42.csOf ns ms) r = w)) (rRow U.K) (m_list (x_var 2)) (by omega) (fun _ _ _ _ _ x hx => g_name 6) (fun _ _ _ _ _ x hx => ts_if (t_neI (x_call Wd (t1, ns, t2, ms, true, x) (a_cons (x_var 0) (a_cons (x_var 1) (a_cons (x_var 6) a_nil))) (fun _ => rfl) (pre3 h1 (kok x hx))) (x_var 3))) (fun _ _ _ _ _ x hx _ => x_var 6)).fz) (a_cons (x_var 3) a_nil)))) (fun _ => rfl) ⟨h1, ⟨fun r hr => kok r (List.mem_filter.mp hr).1, ?_⟩⟩) ?_
    · have c : (kp.filter fun r => !decide (M45.dot (M42.csOf ns ms) r = w)).length ≤ kp.length := List.length_filter_le _ _
      show (kp.filter fun r => !decide (M45.dot (M42.csOf ns ms) r = w)).length ≤ _
      omega
    · refine s_nil fun σ B H st => ⟨i + 1, by omega, B, Le.refl _, st.imp ⟨.refl _, .refl _, ?_, .refl _, .refl _, ?_, .refl _, trivial⟩⟩
      · exact .refl _
      · rw [← List.map_append]; exact .refl _
  · have hi' : (z i).2 = [] := by simpa using hi
    refine s_fz 5 (s_ret (x_var 5) (rt_eq ?_))
    show rLs U.K ((z i).1.map (rRow U.K)) = rLs U.K ((M42.leastFrom (M42.csOf ns ms) ns.length w shut rs).map (rRow U.K))
    rw [← h2.found hi']
end

end K44
set_option Elab.async false
set_option linter.all false
set_option maxRecDepth 100000
set_option maxHeartbeats 4000000
namespace K44
open PySem L2 G
section
variable {U : Uv}
theorem rows_zero (N : Nat) : (List.replicate N [G.rI 0]).flatten = (M42.zero N).map G.rI := by
  unfold M42.zero
  induction N with
  | zero => rfl
  | succ n ih => rw [List.replicate_succ, List.flatten_cons, ih, List.replicate_succ]; rfl
theorem all_alike (rs : List (List Int)) : PySem.W.AllAlike (rs.map M42.dTp) := PySem.W.AllAlike.of fun b b' => PySem.W.alike_ints b b'
theorem alike_tp (b b' : List Int) : PySem.W.alike (M42.dTp b) (M42.dTp b') = true := by
  unfold M42.dTp
  rw [PySem.W.alike]
  exact PySem.W.alike_ints b b'
theorem pure_row {z : E2} (h : EqOk z) {m : List Int} (hm : m ∈ M42.pureRows z.2.1 z.2.2.2) : RowOk z m := RowOk.of ((M42.mem_pure h.l h.r).mp hm).1.row
def c_pure (K : PySem.W.Frag) : E2 → Cs := fun z => { as := as2 K z, rs := fun _ => .sh (rLs K ((M42.pureRows z.2.1 z.2.2.2).map (rRow K))), pre := EqOk z }
theorem f_pure {f : Addr} {fd : FuncData} (b : Bi U.mg) (hx : U.mg "pure_rows" = some (.ref f)) (F : FnP U "pure_rows" s_pure_rows f fd) (Wo : Fd U "with_one" 1 ["row", "place"] (c_with_one U.K)) (Wf : Fd U "least_from" 4 ["left", "right", "rows", "whole", "shut"] (c_from U.K)) : Fd U "pure_rows" 5 ["left", "right"] (c_pure U.K) := by
  refine fd_ok (N := ["left", "right", "nothing", "first", "place"]) hx F ⟨rfl, rfl, rfl, by decide +kernel, rfl, by decide +kernel, by decide +kernel⟩ (fun _ _ _ _ _ _ us hl => match us, hl with | [_, _], _ => rfl) (fun _ => rfl) ?_
  rintro ⟨t1, ns, t2, ms⟩ cd A outer s bb E h1
  have l8 : ns.length + ms.length ≤ 8 := h1.len
  have l0 : ns.length + ms.length ≠ 0 := h1.n
  have sz : sizeLine = 16777216 := by decide
  have ln : ((ns.map G.rI).length : Int) + ((ms.map G.rI).length : Int) = ((ns.length + ms.length : Nat) : Int) := by simp
  refine s_set 2 (P := rRow U.K (M42.zero (ns.length + ms.length))) ((x_repT (rs := [G.rI 0]) (k := ((ns.length + ms.length : Nat) : Int)) (by omega) (by omega) (by simp) (by simp) (x_tup (a_cons x_int a_nil)) ((x_add (x_lenQ b (x_var 0)) (x_lenQ b (x_var 1))).to (by rw [ln]))).to (by rw [Int.toNat_natCast, rows_zero]; rfl)) ?_
  refine s_lc 3 (own := [("place", 4)]) (c := oL ((M42.first (M42.csOf ns ms).length ns.length).map (rRow U.K))) ?_ ?_
  · have e : (M42.first (M42.csOf ns ms).length ns.length).map (rRow U.K) = ((List.range ((ns.map G.rI).length : Int).toNat).filter fun _ => true).map (fun i => rRow U.K (M42.withOne (M42.zero (ns.length + ms.length)) i)) := by
      unfold M42.first
      rw [M42.csOf_len, List.filter_eq_self.mpr (fun _ _ => rfl), List.map_map, List.length_map, Int.toNat_natCast]; rfl
    rw [e]
    refine l_lcM (xs := List.range ((ns.map G.rI).length : Int).toNat) (r := fun i => G.rI (i : Int)) [("place", 4)] (fun _ => true) (fun i => rRow U.K (M42.withOne (M42.zero (ns.length + ms.length)) i)) (m_range1 b.range (by simp <;> omega) (by simp <;> omega) (x_lenQ b (x_var 0))) (small_20 (by simp <;> omega)) (fun _ _ _ _ _ x hx => g_name 4) (fun _ _ _ _ _ x hx => ts_no) (fun _ _ _ _ _ x hx _ => (x_call Wo (M42.zero (ns.length + ms.length), x) (a_cons (x_var 2) (a_cons (x_var 4) a_nil)) (fun _ => rfl) ?_).imp fun B v z => rTg_le z)
    have := List.mem_range.mp hx
    rw [List.length_map, Int.toNat_natCast] at this
    have zl : (M42.zero (ns.length + ms.length)).length = ns.length + ms.length := M42.zero_row.len
    exact ⟨by show x < (M42.zero _).length; omega, by show (M42.zero _).length ≤ 20; omega⟩
  refine s_fz 3 ?_
  refine s_ret ((y_sortedD (xs := M42.pure_ ns ms) (r := rRow U.K) (enc := M42.dTp) b (x_call Wf ((t1, ns, t2, ms), M42.first (M42.csOf ns ms).length ns.length, 0, []) (a_cons (x_var 0) (a_cons (x_var 1) (a_cons (x_var 3) (a_cons x_int (a_cons (x_lst a_nil) a_nil))))) (fun _ => rfl) ⟨h1, by show (0 : Nat) < _; omega, 1, _, _, M42.fine_of h1.l h1.r⟩) (fun x _ => hd_row x) (PySem.W.AllAlike.of alike_tp) ?_ fun x _ => ?_).fz) (rt_eq rfl)
  · refine .inl fun d hd => ?_
    obtain ⟨m, hm, rfl⟩ := List.mem_map.mp hd
    have row := ((M42.fine_of h1.l h1.r).mem.mp hm).1.row
    have l := row.len
    rw [M42.csOf_len] at l
    cases m with
    | nil => simp at l; omega
    | cons x m => exact ⟨_, _, rfl⟩
  · have := depT x; omega
def c_of (K : PySem.W.Frag) : E2 → Cs := fun z => { as := as2 K z, rs := fun _ => .ow (oLL ((M42.pureRows z.2.1 z.2.2.2).map (·.map G.rI))), pre := EqOk z }
theorem f_of {f : Addr} {fd : FuncData} (b : Bi U.mg) (hx : U.mg "least_of" = some (.ref f)) (F : FnP U "least_of" s_least_of f fd) (Wp : Fd U "pure_rows" 5 ["left", "right"] (c_pure U.K)) : Fd U "least_of" 6 ["left", "right"] (c_of U.K) := by
  refine fd_ok (N := ["left", "right", "row"]) hx F ⟨rfl, rfl, rfl, by decide +kernel, rfl, by decide +kernel, by decide +kernel⟩ (fun _ _ _ _ _ _ us hl => match us, hl with | [_, _], _ => rfl) (fun _ => rfl) ?_
  rintro z cd A outer s bb E h1
  have sz : sizeLine = 16777216 := by decide
  have pl := M42.pure_len h1.l h1.r
  have e : (M42.pureRows z.2.1 z.2.2.2).map (fun r => rLf bb (r.map G.rI)) = ((M42.pureRows z.2.1 z.2.2.2).map (·.map G.rI)).map (rLf bb) := by rw [List.map_map]; rfl
  refine s_retLL (rss := (M42.pureRows z.2.1 z.2.2.2).map (·.map G.rI)) (e ▸ (y_mapM (xs := M42.pureRows z.2.1 z.2.2.2) (r := rRow U.K) [("row", 2)] (fun r => rLf bb (r.map G.rI)) (m_list (x_call Wp z (a_cons (x_var 0) (a_cons (x_var 1) a_nil)) (fun _ => rfl) h1)) (by omega) (fun _ _ _ _ _ x hx => g_name 2) (fun _ _ _ _ _ x hx => (y_listT b.list (x_var 2)).fzF))) ?_ rt_ok
  intro rs hrs r hr
  obtain ⟨m, _, rfl⟩ := List.mem_map.mp hrs
  obtain ⟨i, _, rfl⟩ := List.mem_map.mp hr
  exact free_V
theorem f_rows {f : Addr} {fd : FuncData} (b : Bi U.mg) (hx : U.mg "least_rows" = some (.ref f)) (F : FnP U "least_rows" s_least_rows f fd) (We : Fd U "want_equation" 3 ["left", "right"] (c_want_eq U.K)) (Wo : Fd U "least_of" 6 ["left", "right"] (c_of U.K)) : Fd U "least_rows" 7 ["left", "right"] (c_of U.K) := by
  refine fd_ok (N := ["left", "right"]) hx F ⟨rfl, rfl, rfl, by decide +kernel, rfl, by decide +kernel, by decide +kernel⟩ (fun _ _ _ _ _ _ us hl => match us, hl with | [_, _], _ => rfl) (fun _ => rfl) ?_
  rintro z cd A outer s bb E h1
  refine s_expr (x_call We z (a_cons (x_var 0) (a_cons (x_var 1) a_nil)) (fun _ => rfl) ⟨h1.l, h1.r, h1.n⟩) ?_
  exact s_retO (y_call Wo z (a_cons (x_var 0) (a_cons (x_var 1) a_nil)) (fun _ => rfl) h1) rt_ok
end

end K44
set_option Elab.async false
set_option linter.all false
set_option maxRecDepth 100000
set_option maxHeartbeats 4000000
namespace K44
open PySem L2 G
section
variable {U : Uv}
def c_times (K : PySem.W.Frag) : List Int × List Int → Cs := fun z => { as := [rRow K z.1, rLs K (z.2.map G.rI)], rs := fun _ => .sh (G.rI (M42.times z.1 z.2)), pre := z.1.length ≤ 20 ∧ (∀ x ∈ z.1, x ≤ 8) ∧ (((z.1.zip z.2).filter fun z => decide (0 < z.1)).map fun z => z.2 / z.1) ≠ [] }
theorem f_times {f : Addr} {fd : FuncData} (b : Bi U.mg) (hx : U.mg "times_in" = some (.ref f)) (F : FnP U "times_in" s_times_in f fd) : Fd U "times_in" 1 ["one", "row"] (c_times U.K) := by
  refine fd_ok (N := ["one", "row", "a", "b"]) hx F ⟨rfl, rfl, rfl, by decide +kernel, rfl, by decide +kernel, by decide +kernel⟩ (fun _ _ _ _ _ _ us hl => match us, hl with | [_, _], _ => rfl) (fun _ => rfl) ?_
  rintro ⟨o, r⟩ cd A outer s bb E ⟨h1, h2, h3⟩
  replace h1 : o.length ≤ 20 := h1
  replace h2 : ∀ x ∈ o, x ≤ 8 := h2
  refine s_ret (x_minL (ns := ((o.zip r).filter fun z => decide (0 < z.1)).map fun z => z.2 / z.1) b h3 ((y_lcM (xs := o.zip r) (r := fun z => rTs U.K [G.rI z.1, G.rI z.2]) [("a", 2), ("b", 3)] (fun z => decide (0 < z.1)) (fun z => G.rI (z.2 / z.1)) (m_zipQ (t1 := true) (t2 := false) (r := G.rI) (r' := G.rI) b.zip (x_var 0) (x_var 1)) (small_20 ?_) (fun _ _ _ _ _ x hx => g_tup (gs_cons (g_name 2) (gs_cons (g_name 3) gs_nil))) (fun _ _ _ _ _ x hx => ts_if (t_gt (x_var 2) x_int)) (fun _ _ _ _ _ x hx hc => x_fdiv ⟨by simpa using hc, ?_⟩ (x_var 3) (x_var 2))).fz.to (by rw [List.map_map]; rfl))) (rt_eq rfl)
  · rw [List.length_zip]; omega
  · have := h2 x.1 (List.of_mem_zip hx).1
    omega
theorem left_snoc : ∀ (xs : List (List Int)) (o r : List Int), M42.left_ (xs ++ [o]) r = M42.less (M42.times o (M42.left_ xs r)) o (M42.left_ xs r)
  | [], o, r => rfl
  | x :: xs, o, r => left_snoc xs o _
theorem made_snoc : ∀ (xs : List (List Int)) (o r : List Int), M42.made (xs ++ [o]) r = M42.made xs r ++ [M42.times o (M42.left_ xs r)]
  | [], o, r => rfl
  | x :: xs, o, r => by
    show M42.times x r :: M42.made (xs ++ [o]) _ = _
    rw [made_snoc xs o]; rfl
abbrev E2of (z : E3) : E2 := (z.1, z.2.1, z.2.2.1, z.2.2.2.1)
structure MadePre (z : E3) : Prop where
  p : Pre3 z
  f : fits z
theorem MadePre.eq {z : E3} (h : MadePre z) : EqOk (E2of z) := ⟨h.p.1, h.p.2.1, h.p.2.2.1⟩
theorem MadePre.row {z : E3} (h : MadePre z) : M42.IsRow (M42.csOf z.2.1 z.2.2.2.1).length z.2.2.2.2.2 := ⟨by rw [M42.csOf_len]; exact h.f, h.p.2.2.2.1⟩
def c_mades (K : PySem.W.Frag) (C : Addr) : E3 ⊕ E3 → Cs
  | .inl z => { as := as3 K z, rs := fun _ => .ow (oL ((M42.made (M42.pureRows z.2.1 z.2.2.2.1) z.2.2.2.2.2).map G.rI)), pre := MadePre z ∧ dif z.2.1 z.2.2.2.1 z.2.2.2.2.2 = 0 }
  | .inr z => { as := as3 K z, rs := fun _ => .sh (Pr.gd False rN), pre := MadePre z ∧ dif z.2.1 z.2.2.2.1 z.2.2.2.2.2 ≠ 0, exc := fun c => c = C }
theorem one_ok {z : E3} (h : MadePre z) : ∀ o ∈ M42.pureRows z.2.1 z.2.2.2.1, M42.IsRow (M42.csOf z.2.1 z.2.2.2.1).length o ∧ M45.dot (M42.csOf z.2.1 z.2.2.2.1) o = 0 ∧ 0 < o.sum := fun o ho => by
  have m := (M42.mem_pure h.eq.l h.eq.r).mp ho
  exact ⟨m.1.row, m.1.eq, by have := m.1.lo; omega⟩
theorem one_le {ns ms : List Int} (h1 : Cts ns) (h2 : Cts ms) : ∀ o ∈ M42.pureRows ns ms, ∀ x ∈ o, x ≤ 8 := fun o ho x hx => by
  obtain ⟨a, c⟩ := M42.pure_bound h1 h2 ho
  have g1 := (M42.mx_gr h1).le
  have g2 := (M42.mx_gr h2).le
  rw [← List.take_append_drop ns.length o] at hx
  rcases List.mem_append.mp hx with q | q
  · have := a x q; omega
  · have := c x q; omega
theorem f_mades {f C : Addr} {fd : FuncData} (b : Bi U.mg) (hx : U.mg "made_of" = some (.ref f)) (F : FnP U "made_of" s_made_of f fd) (Wh : Fd U "holds" 4 ["left", "right", "row"] (c_holds U.K C)) (Wp : Fd U "pure_rows" 5 ["left", "right"] (c_pure U.K)) (Wt : Fd U "times_in" 1 ["one", "row"] (c_times U.K)) (X : Xc U.K U.mg "NoRow" C) (hm : PySem.W.exmOne U.K (.ref C) (.ref C) = some true) : Fd U "made_of" 6 ["left", "right", "row"] (c_mades U.K C) := by
  refine fd_ok (N := ["left", "right", "row", "rest", "found", "one", "many", "a", "b"]) hx F ⟨rfl, rfl, rfl, by decide +kernel, rfl, by decide +kernel, by decide +kernel⟩ (fun _ _ _ _ _ _ us hl => match us, hl with | [_, _, _], _ => rfl) (fun z => by cases z <;> rfl) ?_
  rintro (⟨t1, ns, t2, ms, t3, r⟩ | ⟨t1, ns, t2, ms, t3, r⟩) cd A outer s bb E ⟨hp, hd⟩
  · have hr := hp.row
    have ho := one_ok hp
    have hle := one_le hp.eq.l hp.eq.r
    replace hr : M42.IsRow (M42.csOf ns ms).length r := hr
    replace hd : M45.dot (M42.csOf ns ms) r = 0 := hd
    have cl : (M42.csOf ns ms).length ≤ 8 := by rw [M42.csOf_len]; exact hp.eq.len
    have sz : sizeLine = 16777216 := by decide
    let rows := M42.pureRows ns ms
    replace ho : ∀ o ∈ rows, M42.IsRow (M42.csOf ns ms).length o ∧ M45.dot (M42.csOf ns ms) o = 0 ∧ 0 < o.sum := ho
    have pl : rows.length ≤ 1048576 := M42.pure_len hp.eq.l hp.eq.r
    have lok : ∀ i, M42.IsRow (M42.csOf ns ms).length (M42.left_ (rows.take i) r) := fun i => (M42.left_ok (fun o h => ho o (List.mem_of_mem_take h)) hr hd).1
    refine s_if (t_not (t_val ((x_call Wh (t1, ns, t2, ms, t3, r) (a_cons (x_var 0) (a_cons (x_var 1) (a_cons (x_var 2) a_nil))) (fun _ => rfl) hp.p (fun C' d σ B H z st => absurd hp.f z.2)).imp fun B v h => h.2))) (fun h => ?_) fun _ => s_then ?_
    · exfalso
      have : dif ns ms r = 0 := hd
      rw [this] at h
      simp at h
    refine s_setO 3 (y_listQ b (x_var 2)) ?_
    refine s_setO 4 (y_lst a_nil) ?_
    let Γ0 : List Int → List Int → Gm := fun rest found => [some (.sh (rQ U.K t1 (ns.map G.rI))), some (.sh (rQ U.K t2 (ms.map G.rI))), some (.sh (rQ U.K t3 (r.map G.rI))), some (.ow (oL (rest.map G.rI))), some (.ow (oL (found.map G.rI))), none, none, none, none]
    refine s_forM (xs := rows) (r := rRow U.K) (fun i => Γ0 (M42.left_ (rows.take i) r) (M42.made (rows.take i) r)) (m_list (x_call Wp (t1, ns, t2, ms) (a_cons (x_var 0) (a_cons (x_var 1) a_nil)) (fun _ => rfl) hp.eq)) ⟨.refl _, .refl _, .refl _, .refl _, .refl _, .refl _, .refl _, .refl _, .refl _, trivial⟩ (fun i o ho => g_name 5) (fun i o hi => ?_) ?_
    · have hmem := List.mem_of_getElem? hi
      obtain ⟨o1, o2, o3⟩ := ho o hmem
      have ol := o1.len
      have ll := (lok i).len
      refine s_set 6 (P := G.rI (M42.times o (M42.left_ (rows.take i) r))) (x_bor 3 (x_call Wt (o, M42.left_ (rows.take i) r) (a_cons (x_var 5) (a_cons (x_var 3) a_nil)) (fun _ => rfl) ⟨by show o.length ≤ 20; omega, hle o hmem, M42.quot_ne o1 (lok i) o3⟩) free_V) ?_
      have e3 : ((o.zip (M42.left_ (rows.take i) r)).filter fun _ => true).map (fun z => G.rI (z.2 - M42.times o (M42.left_ (rows.take i) r) * z.1)) = (M42.less (M42.times o (M42.left_ (rows.take i) r)) o (M42.left_ (rows.take i) r)).map G.rI := by
        rw [yes_map _ _ _ (fun _ _ => rfl)]; unfold M42.less; rw [List.map_map]; rfl
      have hmul : ∀ x ∈ o.zip (M42.left_ (rows.take i) r), CMul (M42.times o (M42.left_ (rows.take i) r)) x.1 := fun x hx => by
        have a := hle o hmem x.1 (List.of_mem_zip hx).1
        have c := o1.nn x.1 (List.of_mem_zip hx).1
        exact .inr ⟨by omega, by omega⟩
      refine s_lc 3 (own := [("a", 7), ("b", 8)]) (c := oL ((M42.less (M42.times o (M42.left_ (rows.take i) r)) o (M42.left_ (rows.take i) r)).map G.rI)) (l_borT 3 (rLs U.K ((M42.left_ (rows.take i) r).map G.rI)) ?_ (ft_oL (ft_map fun _ => ft_V)) fz_oL) ?_
      · rw [← e3]
        exact l_lcM (xs := o.zip (M42.left_ (rows.take i) r)) (r := fun z => rTs U.K [G.rI z.1, G.rI z.2]) [("a", 7), ("b", 8)] (fun _ => true) (fun z => G.rI (z.2 - M42.times o (M42.left_ (rows.take i) r) * z.1)) (m_zipQ (t1 := true) (t2 := false) (r := G.rI) (r' := G.rI) b.zip (x_var 5) (x_var 3)) (small_20 (by rw [List.length_zip]; omega)) (fun _ _ _ _ _ x hx => g_tup (gs_cons (g_name 7) (gs_cons (g_name 8) gs_nil))) (fun _ _ _ _ _ x hx => ts_no) (fun _ _ _ _ _ x hx _ => x_sub (x_var 8) (x_mul (hmul x hx) (x_var 6) (x_var 7)))
      refine s_app 4 (x_var 6) ?_ (s_nx ?_ rfl)
      · rw [List.length_map, M42.made_len, List.length_take]; omega
      · refine ⟨.refl _, .refl _, .refl _, ?_, ?_, .none _, .none _, .refl _, .refl _, trivial⟩
        · rw [take_next hi, left_snoc]; exact .refl _
        · rw [take_next hi, made_snoc, List.map_append]; exact .refl _
    · refine s_retV 4 (rt_eqO ?_)
      rw [List.take_length]
  · replace hd : dif ns ms r ≠ 0 := hd
    refine s_if (t_not (t_val ((x_call Wh (t1, ns, t2, ms, t3, r) (a_cons (x_var 0) (a_cons (x_var 1) (a_cons (x_var 2) a_nil))) (fun _ => rfl) hp.p (fun C' d σ B H z st => absurd hp.f z.2)).imp fun B v h => h.2))) (fun h => ?_) fun h => ?_
    · exact s_raise X (fun C' d σ B H e st => lets_out (exc' := fun c => c = C) (fun c hc => hc) C' d σ B H e st)
    · exfalso
      simp at h
      exact hd h
def c_made (K : PySem.W.Frag) : E3 → Cs := fun z => { as := as3 K z, rs := fun _ => .ow (oL ((M42.made (M42.pureRows z.2.1 z.2.2.2.1) z.2.2.2.2.2).map G.rI)), pre := MadePre z ∧ dif z.2.1 z.2.2.2.1 z.2.2.2.2.2 = 0 }
def c_madeN (K : PySem.W.Frag) (C : Addr) : E3 → Cs := fun z => { as := as3 K z, rs := fun _ => .sh (Pr.gd False rN), pre := MadePre z ∧ dif z.2.1 z.2.2.2.1 z.2.2.2.2.2 ≠ 0, exc := fun c => c = C }
theorem made_l {C : Addr} {K : PySem.W.Frag} : CsLe (c_mades K C) (c_made K) := fun z h => ⟨.inl z, h, rfl, rfl, fun _ q => q⟩
theorem made_r {C : Addr} {K : PySem.W.Frag} : CsLe (c_mades K C) (c_madeN K C) := fun z h => ⟨.inr z, h, rfl, rfl, fun _ q => q⟩
end

end K44
set_option Elab.async false
set_option linter.all false
set_option maxRecDepth 100000
set_option maxHeartbeats 4000000
namespace K44
open PySem L2 G
section
variable {U : Uv}
def c_at (K : PySem.W.Frag) : List Int × Nat → Cs := fun z => { as := [rScr K z.1, G.rI (z.2 : Int)], rs := fun _ => .sh (G.rI (z.1.getD z.2 0)) }
theorem f_at {f : Addr} {fd : FuncData} (b : Bi U.mg) (hx : U.mg "_law_at" = some (.ref f)) (F : FnP U "_law_at" s_Lat f fd) : Fd U "_law_at" 1 ["_law_script", "_law_k"] (c_at U.K) := by
  refine fd_ok (N := ["_law_script", "_law_k"]) hx F ⟨rfl, rfl, rfl, by decide +kernel, rfl, by decide +kernel, by decide +kernel⟩ (fun _ _ _ _ _ _ us hl => match us, hl with | [_, _], _ => rfl) (fun _ => rfl) ?_
  rintro ⟨ns, k⟩ cd A outer s bb E _
  refine s_if (t_lt (x_var 1) (x_lenScr b.len (x_var 0))) (fun h => ?_) fun h => s_then ?_
  · have h : (k : Int) < (ns.length : Int) := of_decide_eq_true h
    have hk : k < ns.length := by omega
    exact s_ret (x_ixScr (i := k) (z := ns[k]) (List.getElem?_eq_getElem hk) (x_var 0) (x_var 1)) (rt_eq (by show G.rI ns[k] = G.rI (ns.getD k 0); rw [List.getD_eq_getElem?_getD, List.getElem?_eq_getElem hk]; rfl))
  · have h : ¬ (k : Int) < (ns.length : Int) := of_decide_eq_false h
    exact s_ret x_int (rt_eq (by show G.rI 0 = G.rI (ns.getD k 0); rw [List.getD_eq_getElem?_getD, List.getElem?_eq_none (by omega)]; rfl))
end
section
variable {U : Uv}
abbrev p0 : Int → Prop := fun a => 0 ≤ a
abbrev p1 : Int → Prop := fun a => 0 ≤ a ∧ a < 2147483647
def c_pot : Int → Cs := fun z => { as := [G.rI z], rs := fun _ => .ow (oL [rIx p0, rIx p1]) }
theorem f_pot {f : Addr} {fd : FuncData} (b : Bi U.mg) (hx : U.mg "_law_pot" = some (.ref f)) (F : FnP U "_law_pot" s_Lpot f fd) : Fd U "_law_pot" 1 ["_law_cell"] c_pot := by
  refine fd_ok (N := ["_law_cell"]) hx F ⟨rfl, rfl, rfl, by decide +kernel, rfl, by decide +kernel, by decide +kernel⟩ (fun _ _ _ _ _ _ us hl => match us, hl with | [_], _ => rfl) (fun _ => rfl) ?_
  intro z cd A outer s bb E _
  refine s_retO (y_lst (a_cons ((x_max2 b x_int (x_sub (x_var 0) (x_pow ⟨by decide, by decide, by decide⟩ x_int x_int))).ix.iw ?_) (a_cons ((x_mod ?_ (x_add (x_mul ?_ (x_mod ?_ (x_var 0) x_int) x_int) x_int) x_int).ix.iw ?_) a_nil))) rt_ok
  · rintro i rfl
    show 0 ≤ _
    split <;> omega
  · decide
  · exact .inr ⟨by decide, by decide⟩
  · decide
  · rintro i rfl
    exact ⟨Int.emod_nonneg _ (by decide), Int.emod_lt_of_pos _ (by decide)⟩
end
section
variable {U : Uv}
def c_take : Int → Cs := fun z => { as := [rPot p0 p1, G.rI z], rs := fun _ => .sh (rIx fun r => 0 ≤ r ∧ r < z), pre := 1 ≤ z ∧ z < 1152921504606846976 }
theorem f_take {f : Addr} {fd : FuncData} (b : Bi U.mg) (hx : U.mg "_law_take" = some (.ref f)) (F : FnP U "_law_take" s_Ltake f fd) : Fd U "_law_take" 1 ["_law_pot_here", "_law_many"] c_take := by
  refine fd_ok (N := ["_law_pot_here", "_law_many", "_law_digit"]) hx F ⟨rfl, rfl, rfl, by decide +kernel, rfl, by decide +kernel, by decide +kernel⟩ (fun _ _ _ _ _ _ us hl => match us, hl with | [_, _], _ => rfl) (fun _ => rfl) ?_
  intro z cd A outer s bb E hz
  obtain ⟨h1, h2⟩ := hz
  refine s_ifx (u_gt (x_pot0 (x_var 0)) x_int) ?_ (s_then ?_)
  · refine s_set 2 (x_modx (j := z) (by omega) (x_pot0 (x_var 0)) (x_var 1)) ?_
    refine G.s_pot (χ := p0) (.inl ⟨rfl, fun _ h => h⟩) (x_fdivWx (j := z) (wide_div (b := 60) (by omega) (by omega) (by decide) (by decide)) (fun i hi => Int.ediv_nonneg hi (by omega)) (x_pot0 (x_var 0)) (x_var 1)) (x_var 0) ?_
    exact s_ret (x_var 2) (rt_eq rfl)
  · refine G.s_pot (χ := p1) (.inr ⟨rfl, fun _ h => h⟩) (((x_modx (j := 2147483629) (by decide) (x_addx (x_mulx ?_ (x_pot1 (x_var 0)) x_int.ix) x_int.ix) x_int)).iw ?_) (x_var 0) ?_
    · rintro i j hi rfl
      exact .inr ⟨by decide, by decide⟩
    · rintro i ⟨q1, q2⟩
      exact ⟨q1, by omega⟩
    · refine s_ret (x_modx (j := z) (by omega) (x_fdivx (φ := fun r => 0 ≤ r ∧ r < 2147483563) (ψ := p0) ⟨by decide, by decide⟩ (fun i hi => Int.ediv_nonneg hi.1 (by decide)) (x_modx (by decide) (x_mulx ?_ (x_pot1 (x_var 0)) (x_pot1 (x_var 0))) x_int) x_int) (x_var 1)) (rt_eq rfl)
      rintro i j hi hj
      exact .inr ⟨by have := hj.1; omega, by have := hj.2; omega⟩
end
section
variable {U : Uv}
def c_counts (K : PySem.W.Frag) : Nat → Cs := fun l => { as := [rPot p0 p1, G.rI (l : Int)], rs := fun _ => .sh (Pr.exs (fun ns : List Int => Cts ns ∧ l ≤ ns.length) fun ns => rLs K (ns.map G.rI)), pre := l ≤ 1 }
theorem f_counts {f : Addr} {fd : FuncData} (b : Bi U.mg) (hx : U.mg "_law_counts" = some (.ref f)) (F : FnP U "_law_counts" s_Lcounts f fd) (Wt : Fd U "_law_take" 1 ["_law_pot_here", "_law_many"] c_take) : Fd U "_law_counts" 2 ["_law_pot_here", "_law_least"] (c_counts U.K) := by
  refine fd_ok (N := ["_law_pot_here", "_law_least", "_law_k"]) hx F ⟨rfl, rfl, rfl, by decide +kernel, rfl, by decide +kernel, by decide +kernel⟩ (fun _ _ _ _ _ _ us hl => match us, hl with | [_, _], _ => rfl) (fun _ => rfl) ?_
  intro l cd A outer s bb E hl
  replace hl : l ≤ 1 := hl
  refine s_ret (ints_x (ψ := fun x => 1 ≤ x ∧ x ≤ 4) (y_lcx [("_law_k", 2)] (fun _ => true) (fun _ => rIx fun x => 1 ≤ x ∧ x ≤ 4) (i_range1x (ψ := fun x => (l : Int) ≤ x ∧ x ≤ 4) b.range (fun j hj => ⟨by omega, by omega⟩) ((x_addx (x_var 1).ix (x_call Wt (5 - (l : Int)) (a_cons (x_var 0) (a_cons (x_sub x_int (x_var 1)) a_nil)) (fun _ => rfl) ⟨by omega, by omega⟩)).iw ?_)) ?_ (fun _ _ _ _ _ i => g_name 2) (by decide) (fun _ _ _ _ _ i => ts_no) (fun _ _ _ _ _ i _ => (x_addx x_int.ix (x_call Wt 4 (a_cons (x_var 0) (a_cons x_int a_nil)) (fun _ => rfl) ⟨by decide, by decide⟩)).iw ?_) (blkOk_by (by rfl)))) (rt_imp ?_)
  · rintro k ⟨i, j, rfl, hj, rfl⟩
    have hj : 0 ≤ j ∧ j < 5 - (l : Int) := hj
    omega
  · rintro n ⟨j, hj, rfl⟩
    have : sizeLine = 16777216 := by decide
    omega
  · rintro k ⟨i, j, rfl, hj, rfl⟩
    have hj : 0 ≤ j ∧ j < 4 := hj
    omega
  · rintro B v ⟨ns, ⟨⟨j, hj, hlen⟩, hns⟩, r⟩
    exact ⟨ns, ⟨⟨by omega, hns⟩, by omega⟩, r⟩
end
section
variable {U : Uv}
def c_shaped (K : PySem.W.Frag) : List Int → Cs := fun ns => { as := [rPot p0 p1, rLs K (ns.map G.rI)], rs := fun _ => .sh (Pr.exs (fun _ : Bool => True) fun t => rQ K t (ns.map G.rI)) }
theorem f_shaped {f : Addr} {fd : FuncData} (b : Bi U.mg) (hx : U.mg "_law_handed" = some (.ref f)) (F : FnP U "_law_handed" s_Lhanded f fd) (Wt : Fd U "_law_take" 1 ["_law_pot_here", "_law_many"] c_take) : Fd U "_law_handed" 2 ["_law_pot_here", "_law_row_here"] (c_shaped U.K) := by
  refine fd_ok (N := ["_law_pot_here", "_law_row_here"]) hx F ⟨rfl, rfl, rfl, by decide +kernel, rfl, by decide +kernel, by decide +kernel⟩ (fun _ _ _ _ _ _ us hl => match us, hl with | [_, _], _ => rfl) (fun _ => rfl) ?_
  intro ns cd A outer s bb E _
  refine s_ret (x_ixLx (R := Pr.exs (fun _ : Bool => True) fun t => rQ U.K t (ns.map G.rI)) ?_ (x_lst (a_cons (y_listL b.list (x_var 1)).fz (a_cons (x_tupL b.tuple (x_var 1)) a_nil))) (x_call Wt 2 (a_cons (x_var 0) (a_cons x_int a_nil)) (fun _ => rfl) ⟨by decide, by decide⟩)) (rt_eq rfl)
  rintro j ⟨j0, j1⟩
  have j1 : j < 2 := j1
  obtain rfl | rfl : j = 0 ∨ j = 1 := by omega
  · exact ⟨_, rfl, fun B v h => ⟨false, trivial, h⟩⟩
  · exact ⟨_, rfl, fun B v h => ⟨true, trivial, h⟩⟩
end

section
variable {U : Uv}
abbrev rL (K : PySem.W.Frag) (r : List Int) : Pr := rLs K (r.map G.rI)
def rRR (K : PySem.W.Frag) (rows : List (List Int)) : Pr := rLs K (rows.map fun r => rLs K (r.map G.rI))
theorem fz_rows {K : PySem.W.Frag} {rows : List (List Int)} : ∀ B H v, (∀ a ∈ (oLL (rows.map (·.map G.rI))).ad v H, B a = none) → (oLL (rows.map (·.map G.rI))).r B H v → (rRR K rows).r (putH B H ((oLL (rows.map (·.map G.rI))).ad v H)) v := fun B H v nb h => by
  have z := fz_oLL (K := K) B H v nb h
  rw [List.map_map] at z
  exact z
def c_Lwhole : Int → Cs := fun i => { as := [G.rI i], rs := fun _ => .sh (rB true) }
theorem f_Lwhole {f : Addr} {fd : FuncData} (b : Bi U.mg) (hx : U.mg "_law_is_whole" = some (.ref f)) (F : FnP U "_law_is_whole" s_Lis_whole f fd) : Fd U "_law_is_whole" 1 ["_law_one"] c_Lwhole := by
  refine fd_ok (N := ["_law_one"]) hx F ⟨rfl, rfl, rfl, by decide +kernel, rfl, by decide +kernel, by decide +kernel⟩ (fun _ _ _ _ _ _ us hl => match us, hl with | [_], _ => rfl) (fun _ => rfl) fun i cd A outer s bb E _ => ?_
  exact s_ret (x_and (x_isi b ty_I b.int bo_int k_int_int (x_var 0)) fun _ => x_one (x_not (x_isi b ty_I b.bool bo_bool k_int_bool (x_var 0)))) (rt_eq rfl)
def c_often (K : PySem.W.Frag) : Unit → Cs := fun _ => { as := [rPot p0 p1], rs := fun _ => .sh (rIx p0) }
theorem f_often {f : Addr} {fd : FuncData} (b : Bi U.mg) (hx : U.mg "_law_often" = some (.ref f)) (F : FnP U "_law_often" s_Loften f fd) (Wt : Fd U "_law_take" 1 ["_law_pot_here", "_law_many"] c_take) : Fd U "_law_often" 2 ["_law_pot_here"] (c_often U.K) := by
  refine fd_ok (N := ["_law_pot_here", "_law_way"]) hx F ⟨rfl, rfl, rfl, by decide +kernel, rfl, by decide +kernel, by decide +kernel⟩ (fun _ _ _ _ _ _ us hl => match us, hl with | [_], _ => rfl) (fun _ => rfl) ?_
  intro _ cd A outer s bb E _
  refine s_set 1 (x_call Wt 8 (a_cons (x_var 0) (a_cons x_int a_nil)) (fun _ => rfl) ⟨by decide, by decide⟩) ?_
  refine s_exs 1 (φ := fun r : Int => 0 ≤ r ∧ r < 8) (f := G.rI) ?_
  rintro w ⟨w0, w8⟩
  refine s_if (t_gt (x_var 1) x_int) (fun _ => s_ret x_int (rt_imp fun B v h => ⟨0, by show (0 : Int) ≤ 0; omega, h⟩)) fun h => s_then ?_
  have h : w ≤ 2 := by simpa using h
  refine s_ret (x_ixLx (rs := [rIx p0, rIx p0, rIx p0]) (R := rIx p0) (φ := (· = w)) ?_ (x_lst (a_cons ((x_addx x_int.ix (x_call Wt 3 (a_cons (x_var 0) (a_cons x_int a_nil)) (fun _ => rfl) ⟨by decide, by decide⟩)).iw ?_) (a_cons ((x_call Wt 30 (a_cons (x_var 0) (a_cons x_int a_nil)) (fun _ => rfl) ⟨by decide, by decide⟩).iw ?_) (a_cons ((x_addx (x_mulx ?_ (x_call Wt (10 ^ (15 : Int).toNat) (a_cons (x_var 0) (a_cons (x_pow ⟨by decide, by decide, by decide⟩ x_int x_int) a_nil)) (fun _ => rfl) ⟨by decide, by decide⟩) (x_pow ⟨by decide, by decide, by decide⟩ x_int x_int).ix) x_int.ix).iw ?_) a_nil)))) (x_var 1).ix) rt_ok
  · rintro j rfl
    obtain rfl | rfl | rfl : j = 0 ∨ j = 1 ∨ j = 2 := by omega
    · exact ⟨_, rfl, fun _ _ h => h⟩
    · exact ⟨_, rfl, fun _ _ h => h⟩
    · exact ⟨_, rfl, fun _ _ h => h⟩
  · rintro k ⟨i, j, rfl, hj, rfl⟩
    have hj : 0 ≤ j ∧ j < 3 := hj
    show (0 : Int) ≤ _
    omega
  · rintro k hk
    exact hk.1
  · rintro i j hi rfl
    exact .inr ⟨by decide, by decide⟩
  · rintro k ⟨i, j, ⟨i', j', hi, rfl, rfl⟩, rfl, rfl⟩
    have h1 : 0 ≤ i' := hi.1
    show (0 : Int) ≤ _
    have := Int.mul_nonneg h1 (show (0 : Int) ≤ 10 ^ (15 : Int).toNat by decide)
    omega
structure HoldsR (ns ms r : List Int) : Prop where
  row : M42.IsRow (M42.csOf ns ms).length r
  dot : M45.dot (M42.csOf ns ms) r = 0
theorem dot_set {cs r : List Int} {i : Nat} {v : Int} (hl : r.length = cs.length) (h : i < r.length) : M45.dot cs (r.set i v) = M45.dot cs r + cs.getD i 0 * (v - r.getD i 0) := by
  induction r generalizing cs i with
  | nil => simp at h
  | cons x r ih =>
    cases cs with
    | nil => cases hl
    | cons c cs =>
      cases i with
      | zero =>
        show M45.dot (c :: cs) (v :: r) = _
        rw [M42.dot_cons, M42.dot_cons]
        show c * v + _ = c * x + _ + c * (v - x)
        rw [Int.mul_sub]; omega
      | succ i =>
        have := ih (cs := cs) (i := i) (by simpa using hl) (by simpa using h)
        show M45.dot (c :: cs) (x :: r.set i v) = _
        rw [M42.dot_cons, M42.dot_cons, this]
        show _ = _ + _ + cs.getD i 0 * (v - r.getD i 0)
        omega
/-- a pair of a left and a right number more -/
theorem holds_pair {ns ms r : List Int} (h : HoldsR ns ms r) (h1 : Cts ns) (h2 : Cts ms) {i j : Nat} {a c m : Int} (hi : ns[i]? = some a) (hj : ms[j]? = some c) (hm : 0 ≤ m) :
    HoldsR ns ms ((r.set i (r.getD i 0 + m * c)).set (ns.length + j) ((r.set i (r.getD i 0 + m * c)).getD (ns.length + j) 0 + m * a)) := by
  obtain ⟨row, d⟩ := h
  have len := row.len
  obtain ⟨il, ei⟩ := List.getElem?_eq_some_iff.mp hi
  obtain ⟨jl, ej⟩ := List.getElem?_eq_some_iff.mp hj
  have cl := M42.csOf_len (ns := ns) (ms := ms)
  have i' : i < r.length := by omega
  have j' : ns.length + j < r.length := by omega
  have ca := (h1.2 a (List.mem_of_getElem? hi)).1
  have cc := (h2.2 c (List.mem_of_getElem? hj)).1
  refine ⟨M42.isRow_of (by rw [List.length_set, List.length_set]; exact len) fun k => ?_, ?_⟩
  · rw [M42.getD_set (by rw [List.length_set]; exact j'), M42.getD_set i', M42.getD_set i']
    have n1 := M42.getD_nn row.nn k
    have n2 := M42.getD_nn row.nn i
    have n3 := M42.getD_nn row.nn (ns.length + j)
    have p1 := Int.mul_nonneg hm (show 0 ≤ a by omega)
    have p2 := Int.mul_nonneg hm (show 0 ≤ c by omega)
    split
    · split <;> omega
    · split <;> omega
  · rw [dot_set (by rw [List.length_set]; exact len) (by rw [List.length_set]; exact j'), dot_set len i', d, M42.cs_left il, M42.cs_right (by omega) (by omega), ei]
    have : ms[ns.length + j - ns.length] = c := by
      have e : ns.length + j - ns.length = j := by omega
      simp only [e]; exact ej
    rw [this]
    have e1 : r.getD i 0 + m * c - r.getD i 0 = m * c := by omega
    have e2 : (r.set i (r.getD i 0 + m * c)).getD (ns.length + j) 0 + m * a - (r.set i (r.getD i 0 + m * c)).getD (ns.length + j) 0 = m * a := by omega
    rw [e1, e2, Int.neg_mul, Int.mul_left_comm a m c, Int.mul_left_comm c m a, Int.mul_comm a c]
    omega
theorem holds_more {ns ms r o : List Int} (h : HoldsR ns ms r) (ho : HoldsR ns ms o) {m : Int} (hm : 0 ≤ m) : HoldsR ns ms (M42.axpy m r o) := by
  have hl := h.row.len.trans ho.row.len.symm
  refine ⟨M42.isRow_of ((M42.axpy_len hl).trans ho.row.len) fun i => ?_, ?_⟩
  · rw [M42.axpy_at hl]
    have := M42.getD_nn h.row.nn i
    have := Int.mul_nonneg hm (M42.getD_nn ho.row.nn i)
    omega
  · rw [M42.dot_axpy hl, h.dot, ho.dot]; simp
theorem holds_zero {ns ms : List Int} : HoldsR ns ms (M42.zero (ns.length + ms.length)) := ⟨by rw [M42.csOf_len]; exact M42.zero_row, M42.dot_zero _ _⟩
abbrev oX (ns ms : List Int) : Oc := Oc.exs (HoldsR ns ms) (fun r => oL (r.map G.rI)) []
theorem slR {ns ms r : List Int} (h : HoldsR ns ms r) : SlLe (some (.ow (oL (r.map G.rI)))) (some (.ow (oX ns ms))) := slx_ow (φ := HoldsR ns ms) (f := fun r => oL (r.map G.rI)) (d := []) r h
structure RowsR (ns ms : List Int) (rows : List (List Int)) : Prop where
  h1 : Cts ns
  h2 : Cts ms
  n : ns.length + ms.length ≠ 0
  ok : ∀ o ∈ rows, HoldsR ns ms o ∧ ∀ x ∈ o, x ≤ 8
def c_Lrow (K : PySem.W.Frag) : List Int × List Int × List (List Int) → Cs := fun z => { as := [rPot p0 p1, rL K z.1, rL K z.2.1, rRR K z.2.2], rs := fun _ => .sh (Pr.exs (HoldsR z.1 z.2.1) (rL K)), pre := RowsR z.1 z.2.1 z.2.2 }
theorem f_Lrow {f : Addr} {fd : FuncData} (b : Bi U.mg) (hx : U.mg "_law_row" = some (.ref f)) (F : FnP U "_law_row" s_Lrow f fd) (Wo : Fd U "_law_often" 2 ["_law_pot_here"] (c_often U.K)) : Fd U "_law_row" 3 ["_law_pot_here", "_law_left", "_law_right", "_law_least"] (c_Lrow U.K) := by
  refine fd_ok (N := ["_law_pot_here", "_law_left", "_law_right", "_law_least", "_law_found", "_law_i", "_law_a", "_law_j", "_law_b", "_law_many", "_law_row_here", "_law_one", "_law_other"]) hx F ⟨rfl, rfl, rfl, by decide +kernel, rfl, by decide +kernel, by decide +kernel⟩ (fun _ _ _ _ _ _ us hl => match us, hl with | [_, _, _, _], _ => rfl) (fun _ => rfl) ?_
  rintro ⟨ns, ms, rows⟩ cd A outer s bb E hp
  have h1 := hp.h1
  have h2 := hp.h2
  replace h1 : Cts ns := h1
  replace h2 : Cts ms := h2
  have a1 := h1.1
  have a2 := h2.1
  have sz : sizeLine = 16777216 := by decide
  have cl := M42.csOf_len (ns := ns) (ms := ms)
  have ln : ((ns.map G.rI).length : Int) + ((ms.map G.rI).length : Int) = ((ns.length + ms.length : Nat) : Int) := by simp
  refine s_setO 4 (c := oL ((M42.zero (ns.length + ms.length)).map G.rI)) ?_ ?_
  · have e : oL ((M42.zero (ns.length + ms.length)).map G.rI) = oL (List.replicate (((ns.length + ms.length : Nat) : Int)).toNat [G.rI 0]).flatten := by rw [Int.toNat_natCast, rows_zero]
    rw [e]
    exact y_repL (rs := [G.rI 0]) (by omega) (by omega) (by simp; omega) (x_lst (a_cons x_int a_nil)) ((x_add (x_lenL b.len (x_var 1)) (x_lenL b.len (x_var 2))).to (by rw [ln]))
  let Γ0 : Option Sl → Option Sl → Option Sl → Gm := fun fo i a => [some (.sh (rPot p0 p1)), some (.sh (rL U.K ns)), some (.sh (rL U.K ms)), some (.sh (rRR U.K rows)), fo, i, a, none, none, none, none, none, none]
  refine s_forM (xs := ns.zipIdx) (r := fun z => rTs U.K [G.rI (z.2 : Int), G.rI z.1]) (fun _ => Γ0 (some (.ow (oX ns ms))) none none) (m_enum (xs := ns) (r := G.rI) b.enum (x_var 1)) ⟨.refl _, .refl _, .refl _, .refl _, slR holds_zero, .refl _, .refl _, .refl _, .refl _, .refl _, .refl _, .refl _, .refl _, trivial⟩ (fun i x h => g_tup (gs_cons (g_name 5) (gs_cons (g_name 6) gs_nil))) (fun i x hx => ?_) ?_
  · obtain ⟨a, i'⟩ := x
    have ha : ns[i']? = some a := by simpa using List.mk_mem_zipIdx_iff_getElem?.mp (List.mem_of_getElem? hx)
    refine s_forM (xs := ms.zipIdx) (r := fun z => rTs U.K [G.rI (z.2 : Int), G.rI z.1]) (fun _ => Γ0 (some (.ow (oX ns ms))) (some (.sh (G.rI (i' : Int)))) (some (.sh (G.rI a)))) (m_enum (xs := ms) (r := G.rI) b.enum (x_var 2)) ⟨.refl _, .refl _, .refl _, .refl _, .refl _, .refl _, .refl _, .refl _, .refl _, .refl _, .refl _, .refl _, .refl _, trivial⟩ (fun j y h => g_tup (gs_cons (g_name 7) (gs_cons (g_name 8) gs_nil))) (fun j y hy => ?_) (s_nx (Γ' := Γ0 (some (.ow (oX ns ms))) none none) ⟨.refl _, .refl _, .refl _, .refl _, .refl _, .none _, .none _, .refl _, .refl _, .refl _, .refl _, .refl _, .refl _, trivial⟩ rfl)
    obtain ⟨c, j'⟩ := y
    have hc : ms[j']? = some c := by simpa using List.mk_mem_zipIdx_iff_getElem?.mp (List.mem_of_getElem? hy)
    obtain ⟨il, ei⟩ := List.getElem?_eq_some_iff.mp ha
    obtain ⟨jl, ej⟩ := List.getElem?_eq_some_iff.mp hc
    refine s_exO 4 (φ := HoldsR ns ms) (f := fun r => oL (r.map G.rI)) (d := []) ?_
    intro r hr
    have rl := hr.row.len
    refine s_set 9 (x_call Wo () (a_cons (x_var 0) a_nil)) ?_
    refine s_exs 9 (φ := p0) (f := G.rI) ?_
    intro m hm
    have hm : 0 ≤ m := hm
    have ca := h1.2 a (List.mem_of_getElem? ha)
    have cc := h2.2 c (List.mem_of_getElem? hc)
    refine s_setL 4 (rs := r.map G.rI) (j := i') (P := G.rI (r.getD i' 0 + m * c)) (x_add (x_ixO 4 (rs := r.map G.rI) (j := (i' : Int)) (R := G.rI (r.getD i' 0)) (atI_nat ?_) (x_var 5)) (x_mul (.inr ⟨by omega, by omega⟩) (x_var 9) (x_var 8))) (x_var 5) (by rw [List.length_map]; omega) ?_
    · rw [List.getElem?_map, List.getElem?_eq_getElem (by omega), List.getD_eq_getElem?_getD, List.getElem?_eq_getElem (by omega)]; rfl
    let r1 := r.set i' (r.getD i' 0 + m * c)
    have e1 : (r.map G.rI).set i' (G.rI (r.getD i' 0 + m * c)) = r1.map G.rI := List.map_set.symm
    rw [e1]
    refine s_setL 4 (rs := r1.map G.rI) (j := ns.length + j') (P := G.rI (r1.getD (ns.length + j') 0 + m * a)) (x_add (x_ixO 4 (rs := r1.map G.rI) (j := ((ns.length + j' : Nat) : Int)) (R := G.rI (r1.getD (ns.length + j') 0)) (atI_nat ?_) ((x_add (x_lenL b.len (x_var 1)) (x_var 7)).to (by rw [List.length_map]; rfl))) (x_mul (.inr ⟨by omega, by omega⟩) (x_var 9) (x_var 6))) ((x_add (x_lenL b.len (x_var 1)) (x_var 7)).to (by rw [List.length_map]; rfl)) (by rw [List.length_map, List.length_set]; omega) ?_
    · have l1 : ns.length + j' < r1.length := by rw [List.length_set]; omega
      rw [List.getElem?_map, List.getElem?_eq_getElem l1, List.getD_eq_getElem?_getD, List.getElem?_eq_getElem l1]; rfl
    have e2 : (r1.map G.rI).set (ns.length + j') (G.rI (r1.getD (ns.length + j') 0 + m * a)) = (r1.set (ns.length + j') (r1.getD (ns.length + j') 0 + m * a)).map G.rI := List.map_set.symm
    rw [e2]
    exact s_nx (Γ' := Γ0 (some (.ow (oX ns ms))) (some (.sh (G.rI (i' : Int)))) (some (.sh (G.rI a)))) ⟨.refl _, .refl _, .refl _, .refl _, slR (holds_pair hr h1 h2 ha hc hm), .refl _, .refl _, .none _, .none _, .none _, .refl _, .refl _, .refl _, trivial⟩ rfl
  refine s_forM (xs := rows) (r := rL U.K) (fun _ => Γ0 (some (.ow (oX ns ms))) none none) (m_list (x_var 3)) ⟨.refl _, .refl _, .refl _, .refl _, .refl _, .refl _, .refl _, .refl _, .refl _, .refl _, .refl _, .refl _, .refl _, trivial⟩ (fun i x h => g_name 10) (fun i o ho => ?_) ?_
  · obtain ⟨o1, o2⟩ := hp.ok o (List.mem_of_getElem? ho)
    replace o1 : HoldsR ns ms o := o1
    refine s_exO 4 (φ := HoldsR ns ms) (f := fun r => oL (r.map G.rI)) (d := []) ?_
    intro r hr
    have rl := hr.row.len
    refine s_set 9 (x_call Wo () (a_cons (x_var 0) a_nil)) ?_
    refine s_exs 9 (φ := p0) (f := G.rI) ?_
    intro m hm
    have hm : 0 ≤ m := hm
    have hmul : ∀ x ∈ r.zip o, CMul m x.2 := fun x hx => by
      have a := o2 x.2 (List.of_mem_zip hx).2
      have c := o1.row.nn x.2 (List.of_mem_zip hx).2
      exact .inr ⟨by omega, by omega⟩
    have e3 : ((r.zip o).filter fun _ => true).map (fun z => G.rI (z.1 + m * z.2)) = (M42.axpy m r o).map G.rI := by
      rw [yes_map _ _ _ (fun _ _ => rfl)]; unfold M42.axpy; rw [List.map_map]; rfl
    refine s_lc 4 (own := [("_law_one", 11), ("_law_other", 12)]) (c := oL ((M42.axpy m r o).map G.rI)) (l_borT 4 (rLs U.K (r.map G.rI)) ?_ (ft_oL (ft_map fun _ => ft_V)) fz_oL) ?_
    · rw [← e3]
      exact l_lcM (xs := r.zip o) (r := fun z => rTs U.K [G.rI z.1, G.rI z.2]) [("_law_one", 11), ("_law_other", 12)] (fun _ => true) (fun z => G.rI (z.1 + m * z.2)) (m_zipL (r := G.rI) (r' := G.rI) b.zip (x_var 4) (x_var 10)) (small_20 (by rw [List.length_zip]; omega)) (fun _ _ _ _ _ x hx => g_tup (gs_cons (g_name 11) (gs_cons (g_name 12) gs_nil))) (fun _ _ _ _ _ x hx => ts_no) (fun _ _ _ _ _ x hx _ => x_add (x_var 11) (x_mul (hmul x hx) (x_var 9) (x_var 12)))
    exact s_nx (Γ' := Γ0 (some (.ow (oX ns ms))) none none) ⟨.refl _, .refl _, .refl _, .refl _, slR (holds_more hr o1 hm), .refl _, .refl _, .refl _, .refl _, .none _, .none _, .refl _, .refl _, trivial⟩ rfl
  refine s_exO 4 (φ := HoldsR ns ms) (f := fun r => oL (r.map G.rI)) (d := []) ?_
  intro r hr
  exact s_fz 4 (s_ret (x_var 4) (rt_imp fun B v h => ⟨r, hr, h⟩))
end

end K44
set_option Elab.async false
set_option linter.all false
set_option maxRecDepth 100000
set_option maxHeartbeats 4000000
namespace K44
open PySem L2 G
section
variable {U : Uv}
theorem put_len {N : Nat} : ∀ (ps : List (Int × List Int)) (acc : List Int), acc.length = N → (∀ p ∈ ps, p.2.length = N) → (M42.putAll ps acc).length = N
  | [], acc, h, _ => h
  | p :: ps, acc, h, k => put_len ps _ (by rw [M42.axpy_len (by rw [h, k p (List.mem_cons_self ..)])]; exact k p (List.mem_cons_self ..)) fun q hq => k q (List.mem_cons_of_mem _ hq)
structure PutPre (z : List Int × List (List Int) × Nat) : Prop where
  n : z.2.2 ≤ 8
  l : z.2.1.length ≤ 1048576
  ok : ∀ o ∈ z.2.1, o.length = z.2.2 ∧ ∀ x ∈ o, 0 ≤ x ∧ x ≤ 8
def c_put (K : PySem.W.Frag) : List Int × List (List Int) × Nat → Cs := fun z => { as := [rL K z.1, rRR K z.2.1, G.rI (z.2.2 : Int)], rs := fun _ => .sh (rL K (M42.putAll (z.1.zip z.2.1) (M42.zero z.2.2))), pre := PutPre z }
theorem f_put {f : Addr} {fd : FuncData} (b : Bi U.mg) (hx : U.mg "_law_put" = some (.ref f)) (F : FnP U "_law_put" s_Lput f fd) : Fd U "_law_put" 1 ["_law_many", "_law_least", "_law_size"] (c_put U.K) := by
  refine fd_ok (N := ["_law_many", "_law_least", "_law_size", "_law_found", "_law_often_here", "_law_row_here", "_law_one", "_law_other"]) hx F ⟨rfl, rfl, rfl, by decide +kernel, rfl, by decide +kernel, by decide +kernel⟩ (fun _ _ _ _ _ _ us hl => match us, hl with | [_, _, _], _ => rfl) (fun _ => rfl) ?_
  rintro ⟨mk, rows, N⟩ cd A outer s bb E hp
  have hn := hp.n
  replace hn : N ≤ 8 := hn
  have ok := hp.ok
  replace ok : ∀ o ∈ rows, o.length = N ∧ ∀ x ∈ o, 0 ≤ x ∧ x ≤ 8 := ok
  have sz : sizeLine = 16777216 := by decide
  let ps := mk.zip rows
  have pl : ∀ i, (M42.putAll (ps.take i) (M42.zero N)).length = N := fun i => put_len _ _ M42.zero_row.len fun p hp => (ok p.2 (List.of_mem_zip (List.mem_of_mem_take hp)).2).1
  refine s_setO 3 (c := oL ((M42.zero N).map G.rI)) ?_ ?_
  · have e : oL ((M42.zero N).map G.rI) = oL (List.replicate ((N : Int)).toNat [G.rI 0]).flatten := by rw [Int.toNat_natCast, rows_zero]
    rw [e]
    exact y_repL (rs := [G.rI 0]) (by omega) (by omega) (by simp; omega) (x_lst (a_cons x_int a_nil)) (x_var 2)
  let Γ0 : List Int → Gm := fun r => [some (.sh (rL U.K mk)), some (.sh (rRR U.K rows)), some (.sh (G.rI (N : Int))), some (.ow (oL (r.map G.rI))), none, none, none, none]
  refine s_forM (xs := ps) (r := fun z => rTs U.K [G.rI z.1, rL U.K z.2]) (fun i => Γ0 (M42.putAll (ps.take i) (M42.zero N))) (m_zipL (xs := mk) (ys := rows) (r := G.rI) (r' := rL U.K) b.zip (x_var 0) (x_var 1)) ⟨.refl _, .refl _, .refl _, .refl _, .refl _, .refl _, .refl _, .refl _, trivial⟩ (fun i x h => g_tup (gs_cons (g_name 4) (gs_cons (g_name 5) gs_nil))) (fun i x hx => ?_) ?_
  · obtain ⟨m, o⟩ := x
    have hmem := (List.of_mem_zip (List.mem_of_getElem? hx)).2
    obtain ⟨o1, o2⟩ := ok o hmem
    let r := M42.putAll (ps.take i) (M42.zero N)
    have rl : r.length = N := pl i
    have hmul : ∀ x ∈ r.zip o, CMul m x.2 := fun x hx => by
      have a := o2 x.2 (List.of_mem_zip hx).2
      exact .inr ⟨by omega, by omega⟩
    have e3 : ((r.zip o).filter fun _ => true).map (fun z => G.rI (z.1 + m * z.2)) = (M42.axpy m r o).map G.rI := by
      rw [yes_map _ _ _ (fun _ _ => rfl)]; unfold M42.axpy; rw [List.map_map]; rfl
    refine s_lc 3 (own := [("_law_one", 6), ("_law_other", 7)]) (c := oL ((M42.axpy m r o).map G.rI)) (l_borT 3 (rLs U.K (r.map G.rI)) ?_ (ft_oL (ft_map fun _ => ft_V)) fz_oL) ?_
    · rw [← e3]
      exact l_lcM (xs := r.zip o) (r := fun z => rTs U.K [G.rI z.1, G.rI z.2]) [("_law_one", 6), ("_law_other", 7)] (fun _ => true) (fun z => G.rI (z.1 + m * z.2)) (m_zipL (r := G.rI) (r' := G.rI) b.zip (x_var 3) (x_var 5)) (small_20 (by rw [List.length_zip]; omega)) (fun _ _ _ _ _ x hx => g_tup (gs_cons (g_name 6) (gs_cons (g_name 7) gs_nil))) (fun _ _ _ _ _ x hx => ts_no) (fun _ _ _ _ _ x hx _ => x_add (x_var 6) (x_mul (hmul x hx) (x_var 4) (x_var 7)))
    refine s_nx (Γ' := Γ0 (M42.putAll (ps.take (i + 1)) (M42.zero N))) ⟨.refl _, .refl _, .refl _, ?_, .none _, .none _, .refl _, .refl _, trivial⟩ rfl
    have e : M42.putAll (ps.take (i + 1)) (M42.zero N) = M42.axpy m r o := by
      rw [take_next hx]
      unfold M42.putAll
      rw [List.foldl_append]; rfl
    rw [e]; exact .refl _
  · refine s_fz 3 (s_ret (x_var 3) (rt_eq ?_))
    rw [List.take_length]; rfl
def c_refused (K : PySem.W.Frag) : E3 → Cs := fun z => { as := as3 K z, rs := fun _ => .sh (rB true), pre := MadePre z ∧ dif z.2.1 z.2.2.2.1 z.2.2.2.2.2 ≠ 0 }
theorem f_refused {f C : Addr} {fd : FuncData} (b : Bi U.mg) (hx : U.mg "_law_refused" = some (.ref f)) (F : FnP U "_law_refused" s_Lrefused f fd) (Wm : Fd U "made_of" 6 ["left", "right", "row"] (c_mades U.K C)) (X : Xc U.K U.mg "NoRow" C) (hm : PySem.W.exmOne U.K (.ref C) (.ref C) = some true) : Fd U "_law_refused" 7 ["_law_left", "_law_right", "_law_row_here"] (c_refused U.K) := by
  refine fd_ok (N := ["_law_left", "_law_right", "_law_row_here"]) hx F ⟨rfl, rfl, rfl, by decide +kernel, rfl, by decide +kernel, by decide +kernel⟩ (fun _ _ _ _ _ _ us hl => match us, hl with | [_, _, _], _ => rfl) (fun _ => rfl) ?_
  rintro z cd A outer s bb E hp
  have Wr : Fd U "made_of" 6 ["left", "right", "row"] (c_madeN U.K C) := Wm.imp made_r
  refine s_try (fun c => c = C) [none, none, none] X.gl (fun c hc => by rw [hc]; exact hm) (fun pn xe W b' w t hL => ?_) (fun a pn w ⟨c, _⟩ => ?_)
  · exact s_exprG (φ := False) (P := rN) (x_call Wr z (a_cons (x_var 0) (a_cons (x_var 1) (a_cons (x_var 2) a_nil))) (fun _ => rfl) hp (hL _ _ (fun c hc => hc) ⟨.none _, .none _, .none _, trivial⟩)) fun h => h.elim
  · exact s_ret x_bl (rt_eq rfl)
def c_law (K : PySem.W.Frag) : List Int → Cs := fun z => { as := [rScr K z], rs := fun _ => .sh (rB true) }
abbrev rQs (K : PySem.W.Frag) (r : List Int) : Pr := Pr.exs (fun _ : Bool => True) fun t => rQ K t (r.map G.rI)
theorem F2_three {B : Bs} {P Q R : Pr} {vs : List V} (f : F2 B vs [P, Q, R]) : ∃ x y z, vs = [x, y, z] ∧ P.r B x ∧ Q.r B y ∧ R.r B z := by
  cases vs with
  | nil => exact f.elim
  | cons x vs =>
    obtain ⟨y, z, e, h1, h2⟩ := F2.two f.2
    exact ⟨x, y, z, by rw [e], f.1, h1, h2⟩
theorem f_law {f C : Addr} {fd : FuncData} (b : Bi U.mg) (F : FnP U "law" s_law f fd)
    (Wa : Fd U "_law_at" 1 ["_law_script", "_law_k"] (c_at U.K)) (Wp : Fd U "_law_pot" 1 ["_law_cell"] c_pot) (Wt : Fd U "_law_take" 1 ["_law_pot_here", "_law_many"] c_take) (Wc : Fd U "_law_counts" 2 ["_law_pot_here", "_law_least"] (c_counts U.K)) (Wl : Fd U "least_rows" 7 ["left", "right"] (c_of U.K)) (Wr : Fd U "_law_row" 3 ["_law_pot_here", "_law_left", "_law_right", "_law_least"] (c_Lrow U.K)) (Wms : Fd U "made_of" 6 ["left", "right", "row"] (c_mades U.K C)) (Wh : Fd U "_law_handed" 2 ["_law_pot_here", "_law_row_here"] (c_shaped U.K)) (Wi : Fd U "_law_is_whole" 1 ["_law_one"] c_Lwhole) (Wpt : Fd U "_law_put" 1 ["_law_many", "_law_least", "_law_size"] (c_put U.K)) (Wf : Fd U "_law_refused" 7 ["_law_left", "_law_right", "_law_row_here"] (c_refused U.K)) : FnOk U.P U.w U.K U.mg U.base (L2.CX U.P U.w) 8 f fd ["_law_script"] (spT (c_law U.K)) := by
  have Wm : Fd U "made_of" 6 ["left", "right", "row"] (c_made U.K) := Wms.imp made_l
  refine fn_ok (N := ["_law_script", "_law_pot_here", "_law_left", "_law_right", "_law_least", "_law_turn", "_law_row_here", "_law_many", "_law_held", "_law_place", "_law_one"]) F ⟨rfl, rfl, rfl, by decide +kernel, rfl, by decide +kernel, by decide +kernel⟩ (fun _ => rfl) ?_
  intro sc cd A outer s bb E _
  refine s_setO 1 (y_call Wp (sc.getD 0 0) (a_cons (x_call Wa (sc, 0) (a_cons (x_var 0) (a_cons x_int a_nil))) a_nil)) ?_
  refine s_mkpot 1 ?_
  refine s_set 2 (P := Pr.exs Cts (rL U.K)) (x_callx Wc (Ps := [rPot p0 p1, Pr.exs (fun _ : Bool => True) fun c => G.rI (if c then 1 else 0)]) (a_cons (x_var 1) (a_cons (x_intBx b (x_gtx (x_call Wt 4 (a_cons (x_var 1) (a_cons x_int a_nil)) (fun _ => rfl) ⟨by decide, by decide⟩) x_int)) a_nil)) ?_) ?_
  · intro B vs f
    obtain ⟨x, y, rfl, f1, c, _, f2⟩ := f.two
    refine ⟨if c then 1 else 0, ⟨f1, ?_, trivial⟩, ?_, fun _ h => h, _, fun _ => rfl, fun B2 v ⟨ns, hns, q⟩ => ⟨ns, hns.1, q⟩⟩
    · cases c <;> exact f2
    · show (if c then 1 else 0) ≤ 1; split <;> omega
  refine s_exs 2 (φ := Cts) (f := rL U.K) ?_
  intro ns hn
  refine s_set 3 (P := Pr.exs (fun ms : List Int => Cts ms ∧ ns.length + ms.length ≠ 0) (rL U.K)) (x_callx Wc (Ps := [rPot p0 p1, Pr.exs (fun d : Bool => ns = [] → d = true) fun c => G.rI (if c then 1 else 0)]) (a_cons (x_var 1) (a_cons ((x_intBx b (x_orx (x_eqD (d := dIs ns) (d' := dIs []) (x_var 2) (y_lst a_nil).fz hd_is (hd_is (ns := [])) (PySem.W.ke_shaped_ints _) (PySem.W.ke_shaped_ints _)) (x_one (x_gtx (x_call Wt 4 (a_cons (x_var 1) (a_cons x_int a_nil)) (fun _ => rfl) ⟨by decide, by decide⟩) x_int)))).imp ?_) a_nil)) ?_) ?_
  · rintro B v ⟨c, hc, q⟩
    refine ⟨c, fun e => ?_, q⟩
    subst e
    rcases hc with ⟨_, h⟩ | ⟨h, _⟩
    · exact h
    · cases h
  · intro B vs f
    obtain ⟨x, y, rfl, f1, c, hc, f2⟩ := f.two
    refine ⟨if c then 1 else 0, ⟨f1, ?_, trivial⟩, ?_, fun _ h => h, _, fun _ => rfl, fun B2 v ⟨ms, hms, q⟩ => ⟨ms, ⟨hms.1, ?_⟩, q⟩⟩
    · cases c <;> exact f2
    · show (if c then 1 else 0) ≤ 1; split <;> omega
    · have := hms.2
      by_cases e : ns = []
      · rw [hc e] at this
        simp at this
        omega
      · have := List.length_pos_iff.mpr e
        omega
  refine s_exs 3 (φ := fun ms : List Int => Cts ms ∧ ns.length + ms.length ≠ 0) (f := rL U.K) ?_
  rintro ms ⟨hm, hne⟩
  have hok : ∀ t1 t2, EqOk (t1, ns, t2, ms) := fun _ _ => ⟨hn, hm, hne⟩
  have sz : sizeLine = 16777216 := by decide
  have l1 := hn.1
  have l2 := hm.1
  have cl := M42.csOf_len (ns := ns) (ms := ms)
  let rows := M42.pureRows ns ms
  have pl : rows.length ≤ 1048576 := M42.pure_len hn hm
  have hle := one_le hn hm
  have hrows : ∀ o ∈ rows, HoldsR ns ms o ∧ ∀ x ∈ o, x ≤ 8 := fun o h => by
    have m := (M42.mem_pure hn hm).mp h
    exact ⟨⟨m.1.row, m.1.eq⟩, hle o h⟩
  have rok : RowsR ns ms rows := ⟨hn, hm, hne, hrows⟩
  refine s_set 4 (P := rRR U.K rows) ((y_call Wl (false, ns, false, ms) (a_cons (x_var 2) (a_cons (x_var 3) a_nil)) (fun _ => rfl) (hok false false)).hand fun B H v nb _ r => fz_rows B H v nb r) ?_
  let Γ0 : Gm := [some (.sh (rScr U.K sc)), some (.sh (rPot p0 p1)), some (.sh (rL U.K ns)), some (.sh (rL U.K ms)), some (.sh (rRR U.K rows)), none, none, none, none, none, none]
  refine s_forM (xs := List.range (3 : Int).toNat) (r := fun i => G.rI (i : Int)) (fun _ => Γ0) (m_range1 b.range (by decide) (by decide) x_int) ⟨.refl _, .refl _, .refl _, .refl _, .refl _, .refl _, .refl _, .refl _, .refl _, .refl _, .refl _, trivial⟩ (fun i k h => g_name 5) (fun i k h => ?_) (s_ret x_bl (rt_eq rfl))
  refine s_set 6 (x_call Wr (ns, ms, rows) (a_cons (x_var 1) (a_cons (x_var 2) (a_cons (x_var 3) (a_cons (x_var 4) a_nil)))) (fun _ => rfl) rok) ?_
  refine s_exs 6 (φ := HoldsR ns ms) (f := rL U.K) ?_
  intro r hr
  have rl : r.length = ns.length + ms.length := hr.row.len.trans cl
  have mp : ∀ t1 t2 t3, MadePre (t1, ns, t2, ms, t3, r) := fun _ _ _ => ⟨⟨hn, hm, hne, hr.row.nn, by show r.length ≤ 20; omega⟩, rl⟩
  let mk := M42.made rows r
  have mkl : mk.length = rows.length := M42.made_len _ _
  have mkn : ∀ x ∈ mk, 0 ≤ x := M42.made_nn (fun o ho => ⟨(hrows o ho).1.row, by have m := ((M42.mem_pure hn hm).mp ho).1.lo; omega⟩) hr.row
  have back : M42.putAll (mk.zip rows) (M42.zero (ns.length + ms.length)) = r := by
    have := M42.made_back hn hm hr.row hr.dot
    rwa [cl] at this
  refine s_setO 7 (c := oL (mk.map G.rI)) (y_callx Wm (Ps := [rQs U.K ns, rQs U.K ms, rQs U.K r]) (a_cons (x_call Wh ns (a_cons (x_var 1) (a_cons (x_var 2) a_nil))) (a_cons (x_call Wh ms (a_cons (x_var 1) (a_cons (x_var 3) a_nil))) (a_cons (x_call Wh r (a_cons (x_var 1) (a_cons (x_var 6) a_nil))) a_nil))) ?_) ?_
  · intro B vs f
    obtain ⟨x, y, z, rfl, ⟨t1, _, f1⟩, ⟨t2, _, f2⟩, ⟨t3, _, f3⟩⟩ := F2_three f
    exact ⟨(t1, ns, t2, ms, t3, r), ⟨f1, f2, f3, trivial⟩, ⟨mp t1 t2 t3, hr.dot⟩, fun _ => rfl⟩
  refine s_if (t_bor 7 ((w_or (t_not (t_val (x_isi b ty_L b.list bo_list k_list_list (x_var 7)))) fun _ => w_or1 (t_neI (x_lenL b.len (x_var 7)) (x_lenL b.len (x_var 4)))).t)) (fun h => ?_) fun _ => s_then ?_
  · exfalso
    rw [List.length_map, List.length_map, mkl] at h
    simp at h
  refine s_if (t_bor 7 ((w_or (c := false) ((t_not (t_val (x_all (bs := mk.map fun x => decide (0 ≤ x)) b ((y_mapM (xs := mk) (r := G.rI) [("_law_one", 10)] (fun x => rB (decide (0 ≤ x))) (m_list (x_var 7)) (by omega) (fun _ _ _ _ _ x hx => g_name 10) (fun _ _ _ _ _ x hx => (x_and (c := true) (x_call Wi x (a_cons (x_var 10) a_nil)) fun _ => x_one (x_ge (x_var 10) x_int)).to (by rw [Bool.true_and]))).fz.to (by rw [List.map_map]; rfl))))).to ?_) fun _ => w_or1 (t_neD (d := dIs r) (d' := dIs r) ((x_call Wpt (mk, rows, ns.length + ms.length) (a_cons (x_var 7) (a_cons (x_var 4) (a_cons ((x_lenL b.len (x_var 6)).to (by rw [List.length_map, rl])) a_nil))) (fun _ => rfl) ⟨by show ns.length + ms.length ≤ 8; omega, pl, fun o ho => ⟨(hrows o ho).1.row.len.trans cl, fun x hx => ⟨(hrows o ho).1.row.nn x hx, (hrows o ho).2 x hx⟩⟩⟩).to (by rw [back]; rfl)) (x_var 6) hd_is hd_is (PySem.W.ke_shaped_ints _) (PySem.W.ke_shaped_ints _))).t)) (fun h => ?_) fun _ => s_then ?_
  · rw [all_id]; simp; exact mkn
  · exfalso
    rw [SeqAt.eqv_refl _ (canI r)] at h
    cases h
  refine s_setO 8 (c := oL (mk.map G.rI)) (y_borT 7 (rLs U.K (mk.map G.rI)) (y_listL b.list (x_var 7)) (ft_oL (ft_map fun _ => ft_V)) fz_oL) ?_
  refine s_app 7 (rs := mk.map G.rI) (x_int) (by rw [List.length_map]; omega) ?_
  refine s_if (t_bor 8 (t_neD (d := dIs mk) (d' := dIs mk) (y_call Wm (false, ns, false, ms, false, r) (a_cons (x_var 2) (a_cons (x_var 3) (a_cons (x_var 6) a_nil))) (fun _ => rfl) ⟨mp false false false, hr.dot⟩).fz (x_var 8) hd_is hd_is (PySem.W.ke_shaped_ints _) (PySem.W.ke_shaped_ints _))) (fun h => ?_) fun _ => s_then ?_
  · exfalso
    rw [SeqAt.eqv_refl _ (canI mk)] at h
    cases h
  refine s_set 9 (x_call Wt ((r.map G.rI).length : Int) (a_cons (x_var 1) (a_cons (x_lenL b.len (x_var 6)) a_nil)) (fun _ => rfl) ⟨by rw [List.length_map]; omega, by rw [List.length_map]; omega⟩) ?_
  refine s_exs 9 (φ := fun p : Int => 0 ≤ p ∧ p < ((r.map G.rI).length : Int)) (f := G.rI) ?_
  rintro p ⟨hp0, hp1⟩
  obtain ⟨p, rfl⟩ : ∃ n : Nat, p = (n : Int) := ⟨p.toNat, by omega⟩
  rw [List.length_map] at hp1
  have p1 : p < r.length := by omega
  let r2 := r.set p (r.getD p 0 + 1)
  have r2d : dif ns ms r2 ≠ 0 := by
    show M45.dot (M42.csOf ns ms) r2 ≠ 0
    have : M45.dot (M42.csOf ns ms) r2 = _ := dot_set hr.row.len p1
    rw [this, hr.dot]
    have e : r.getD p 0 + 1 - r.getD p 0 = 1 := by omega
    rw [e]
    have sg := M42.sg_of hn hm
    by_cases q : p < ns.length
    · have := sg.left p q; omega
    · have := sg.right p (by omega) (by omega); omega
  have r2r : M42.IsRow (M42.csOf ns ms).length r2 := M42.withOne_row hr.row (by omega)
  have r2l : r2.length = ns.length + ms.length := r2r.len.trans cl
  have e4 : (r.take p).map G.rI ++ [G.rI (r.getD p 0 + 1)] ++ (r.drop (p + 1)).map G.rI = r2.map G.rI := by
    show _ = (r.set p (r.getD p 0 + 1)).map G.rI
    rw [← set_take r p (r.getD p 0 + 1) p1, List.map_append, List.map_append]; rfl
  refine s_if (t_not (t_val (x_call Wf (false, ns, false, ms, false, r2) (a_cons (x_var 2) (a_cons (x_var 3) (a_cons (P := rL U.K r2) ((x_catL (rs := (r.take p).map G.rI ++ [G.rI (r.getD p 0 + 1)]) (qs := (r.drop (p + 1)).map G.rI) ?_ (x_catL (rs := (r.take p).map G.rI) (qs := [G.rI (r.getD p 0 + 1)]) ?_ ((x_slL (rs := r.map G.rI) (i := none) (j := some (p : Int)) (x_var 6) .no (.at_ (x_var 9))).to ?_) (x_lst (a_cons (x_add (x_ixL (R := G.rI (r.getD p 0)) (j := (p : Int)) ?_ (x_var 6) (x_var 9)) x_int) a_nil))) ((x_slL (rs := r.map G.rI) (i := some ((p : Int) + 1)) (j := none) (x_var 6) (.at_ (x_add (x_var 9) x_int)) .no).to ?_)).to (by rw [e4]; rfl)) a_nil))) (fun _ => rfl) ⟨⟨⟨hn, hm, hne, r2r.nn, by show r2.length ≤ 20; omega⟩, r2l⟩, r2d⟩))) (fun h => ?_) fun _ => s_then (s_nx (Γ' := Γ0) ⟨.refl _, .refl _, .refl _, .refl _, .refl _, .none _, .none _, .none _, .none _, .none _, .refl _, trivial⟩ rfl)
  · simp only [List.length_append, List.length_map, List.length_take, List.length_drop, List.length_cons, List.length_nil]; omega
  · simp only [List.length_map, List.length_take, List.length_cons, List.length_nil]; omega
  · rw [cutTake, ← List.map_take]
  · refine atI_nat ?_
    rw [List.getElem?_map, List.getElem?_eq_getElem p1, List.getD_eq_getElem?_getD, List.getElem?_eq_getElem p1]; rfl
  · have : ((p : Int) + 1) = ((p + 1 : Nat) : Int) := by omega
    rw [this, cutDrop, ← List.map_drop]
  · cases h
end

end K44
set_option Elab.async false
set_option linter.all false
set_option maxRecDepth 100000
set_option maxHeartbeats 0
namespace K44
open PySem PySem.Spec PyProof.Rows L2 G
def d_is_whole : He.DefD := ⟨("is_whole", none), "is_whole", "is_whole", defArgs s_is_whole, defBody s_is_whole, defScope s_is_whole, [], []⟩
def d_is_counts : He.DefD := ⟨("is_counts", none), "is_counts", "is_counts", defArgs s_is_counts, defBody s_is_counts, defScope s_is_counts, [], []⟩
def d_want_equation : He.DefD := ⟨("want_equation", none), "want_equation", "want_equation", defArgs s_want_equation, defBody s_want_equation, defScope s_want_equation, [], []⟩
def d_want_row : He.DefD := ⟨("want_row", none), "want_row", "want_row", defArgs s_want_row, defBody s_want_row, defScope s_want_row, [], []⟩
def d_difference : He.DefD := ⟨("difference", none), "difference", "difference", defArgs s_difference, defBody s_difference, defScope s_difference, [], []⟩
def d_holds : He.DefD := ⟨("holds", none), "holds", "holds", defArgs s_holds, defBody s_holds, defScope s_holds, [], []⟩
def d_is_under : He.DefD := ⟨("is_under", none), "is_under", "is_under", defArgs s_is_under, defBody s_is_under, defScope s_is_under, [], []⟩
def d_is_over_some : He.DefD := ⟨("is_over_some", none), "is_over_some", "is_over_some", defArgs s_is_over_some, defBody s_is_over_some, defScope s_is_over_some, [], []⟩
def d_with_one : He.DefD := ⟨("with_one", none), "with_one", "with_one", defArgs s_with_one, defBody s_with_one, defScope s_with_one, [], []⟩
def d_grown : He.DefD := ⟨("grown", none), "grown", "grown", defArgs s_grown, defBody s_grown, defScope s_grown, [], []⟩
def d_next_rows : He.DefD := ⟨("next_rows", none), "next_rows", "next_rows", defArgs s_next_rows, defBody s_next_rows, defScope s_next_rows, [], []⟩
def d_least_from : He.DefD := ⟨("least_from", none), "least_from", "least_from", defArgs s_least_from, defBody s_least_from, defScope s_least_from, [], []⟩
def d_pure_rows : He.DefD := ⟨("pure_rows", none), "pure_rows", "pure_rows", defArgs s_pure_rows, defBody s_pure_rows, defScope s_pure_rows, [], []⟩
def d_least_of : He.DefD := ⟨("least_of", none), "least_of", "least_of", defArgs s_least_of, defBody s_least_of, defScope s_least_of, [], []⟩
def d_least_rows : He.DefD := ⟨("least_rows", none), "least_rows", "least_rows", defArgs s_least_rows, defBody s_least_rows, defScope s_least_rows, [], []⟩
def d_times_in : He.DefD := ⟨("times_in", none), "times_in", "times_in", defArgs s_times_in, defBody s_times_in, defScope s_times_in, [], []⟩
def d_made_of : He.DefD := ⟨("made_of", none), "made_of", "made_of", defArgs s_made_of, defBody s_made_of, defScope s_made_of, [], []⟩
def d__law_at : He.DefD := ⟨("_law_at", none), "_law_at", "_law_at", defArgs s_Lat, defBody s_Lat, defScope s_Lat, [], []⟩
def d__law_pot : He.DefD := ⟨("_law_pot", none), "_law_pot", "_law_pot", defArgs s_Lpot, defBody s_Lpot, defScope s_Lpot, [], []⟩
def d__law_take : He.DefD := ⟨("_law_take", none), "_law_take", "_law_take", defArgs s_Ltake, defBody s_Ltake, defScope s_Ltake, [], []⟩
def d__law_counts : He.DefD := ⟨("_law_counts", none), "_law_counts", "_law_counts", defArgs s_Lcounts, defBody s_Lcounts, defScope s_Lcounts, [], []⟩
def d__law_handed : He.DefD := ⟨("_law_handed", none), "_law_handed", "_law_handed", defArgs s_Lhanded, defBody s_Lhanded, defScope s_Lhanded, [], []⟩
def d__law_often : He.DefD := ⟨("_law_often", none), "_law_often", "_law_often", defArgs s_Loften, defBody s_Loften, defScope s_Loften, [], []⟩
def d__law_row : He.DefD := ⟨("_law_row", none), "_law_row", "_law_row", defArgs s_Lrow, defBody s_Lrow, defScope s_Lrow, [], []⟩
def d__law_put : He.DefD := ⟨("_law_put", none), "_law_put", "_law_put", defArgs s_Lput, defBody s_Lput, defScope s_Lput, [], []⟩
def d__law_is_whole : He.DefD := ⟨("_law_is_whole", none), "_law_is_whole", "_law_is_whole", defArgs s_Lis_whole, defBody s_Lis_whole, defScope s_Lis_whole, [], []⟩
def d__law_refused : He.DefD := ⟨("_law_refused", none), "_law_refused", "_law_refused", defArgs s_Lrefused, defBody s_Lrefused, defScope s_Lrefused, [], []⟩
def d_law : He.DefD := ⟨("law", none), "law", "law", defArgs s_law, defBody s_law, defScope s_law, [], []⟩
def fn : List He.DefD := ([d_is_whole, d_is_counts, d_want_equation, d_want_row, d_difference, d_holds, d_is_under, d_is_over_some, d_with_one, d_grown, d_next_rows, d_least_from, d_pure_rows, d_least_of, d_least_rows, d_times_in, d_made_of, d__law_at] : List He.DefD) ++ ([d__law_pot, d__law_take, d__law_counts, d__law_handed, d__law_often, d__law_row, d__law_put, d__law_is_whole, d__law_refused, d_law] : List He.DefD)
def fa : List He.Fa := ([.glo "is_whole", .glo "is_counts", .glo "want_equation", .glo "want_row", .glo "difference", .glo "holds", .glo "is_under", .glo "is_over_some", .glo "with_one", .glo "grown", .glo "next_rows", .glo "least_from", .glo "pure_rows", .glo "least_of", .glo "least_rows", .glo "times_in", .glo "made_of", .glo "_law_at"] : List He.Fa) ++ ([.glo "_law_pot", .glo "_law_take", .glo "_law_counts", .glo "_law_handed", .glo "_law_often", .glo "_law_row", .glo "_law_put", .glo "_law_is_whole", .glo "_law_refused", .glo "law", .int "MOST_COUNT" 4, .int "MOST_COUNTS" 4, .free "isinstance", .free "len", .free "all", .free "any", .free "sum", .free "min"] : List He.Fa) ++ ([.free "max", .free "range", .free "zip", .free "enumerate", .free "reversed", .free "sorted", .free "list", .free "tuple", .free "dict", .free "set", .free "str", .free "int", .free "bool", .free "abs", .free "repr", .glo "NoRow", .exc "NoRow", .exm "NoRow" "NoRow" true] : List He.Fa)
def loose : List Str := (["LikeError", "NoCounts", "NoRow", "MOST_COUNT", "MOST_COUNTS", "is_whole", "is_counts", "want_equation", "want_row", "difference", "is_under", "is_over_some", "holds", "with_one", "grown", "next_rows", "least_from", "pure_rows"] : List Str) ++ (["least_of", "least_rows", "times_in", "made_of", "_law_at", "_law_pot", "_law_take", "_law_counts", "_law_handed", "_law_often", "_law_row", "_law_put", "_law_is_whole", "_law_refused"] : List Str)
abbrev R : PySem.W.OpenRow := PySem.W.OpenLaw.row PySem.Challenge.rw_likefill_k44_whole_made_of_least_rows
abbrev hk : PySem.W.Hook := He.hookD 5 fa fn
def ob (s : PySem.W.SharedT) : He.AlD := He.obsDG 5 fa fn (HandSHeadRun.getT s)
theorem ob_eq (s : PySem.W.SharedT) : ob s = hk.obs s.abs := He.obsDG_eq (HandSHeadRun.getT_eq s)
theorem run (w : World) : HandSHeadRun.RunEq R (PySem.W.view R.prog [35]) hk ob 3000 loose w := by
  intro os
  kernel_rfl
theorem facts {P : Program} {w : World} {K : PySem.W.Frag} {h : Heap} {mg : Str → Option Value} {f : Addr} (X : K.In h) (Gn : h.Ns mainGlobals mg) (hfa : mg ("law" : Str) = some (.ref f)) (c : He.SaysD fa fn K) :
    ∃ fd : FuncData, (∀ (s : Shared) (v : Value), BindsTo s fd ⟨[v], []⟩ [("_law_script", v)]) ∧ ∀ base : Heap, K.In base → base.Ns mainGlobals mg → FnOk P w K mg base L2.CX0 8 f fd ["_law_script"] (fun vs H Q _ => spT (c_law K) vs H Q fun _ _ _ => False) := by
  obtain ⟨fd_is_whole, F_is_whole⟩ := c.def_ 0 (d := d_is_whole) rfl
  have g_is_whole := He.glo_ok X Gn (c.fact 0 (f := .glo "is_whole") rfl)
  obtain ⟨fd_is_counts, F_is_counts⟩ := c.def_ 1 (d := d_is_counts) rfl
  have g_is_counts := He.glo_ok X Gn (c.fact 1 (f := .glo "is_counts") rfl)
  obtain ⟨fd_want_equation, F_want_equation⟩ := c.def_ 2 (d := d_want_equation) rfl
  have g_want_equation := He.glo_ok X Gn (c.fact 2 (f := .glo "want_equation") rfl)
  obtain ⟨fd_want_row, F_want_row⟩ := c.def_ 3 (d := d_want_row) rfl
  have g_want_row := He.glo_ok X Gn (c.fact 3 (f := .glo "want_row") rfl)
  obtain ⟨fd_difference, F_difference⟩ := c.def_ 4 (d := d_difference) rfl
  have g_difference := He.glo_ok X Gn (c.fact 4 (f := .glo "difference") rfl)
  obtain ⟨fd_holds, F_holds⟩ := c.def_ 5 (d := d_holds) rfl
  have g_holds := He.glo_ok X Gn (c.fact 5 (f := .glo "holds") rfl)
  obtain ⟨fd_is_under, F_is_under⟩ := c.def_ 6 (d := d_is_under) rfl
  have g_is_under := He.glo_ok X Gn (c.fact 6 (f := .glo "is_under") rfl)
  obtain ⟨fd_is_over_some, F_is_over_some⟩ := c.def_ 7 (d := d_is_over_some) rfl
  have g_is_over_some := He.glo_ok X Gn (c.fact 7 (f := .glo "is_over_some") rfl)
  obtain ⟨fd_with_one, F_with_one⟩ := c.def_ 8 (d := d_with_one) rfl
  have g_with_one := He.glo_ok X Gn (c.fact 8 (f := .glo "with_one") rfl)
  obtain ⟨fd_grown, F_grown⟩ := c.def_ 9 (d := d_grown) rfl
  have g_grown := He.glo_ok X Gn (c.fact 9 (f := .glo "grown") rfl)
  obtain ⟨fd_next_rows, F_next_rows⟩ := c.def_ 10 (d := d_next_rows) rfl
  have g_next_rows := He.glo_ok X Gn (c.fact 10 (f := .glo "next_rows") rfl)
  obtain ⟨fd_least_from, F_least_from⟩ := c.def_ 11 (d := d_least_from) rfl
  have g_least_from := He.glo_ok X Gn (c.fact 11 (f := .glo "least_from") rfl)
  obtain ⟨fd_pure_rows, F_pure_rows⟩ := c.def_ 12 (d := d_pure_rows) rfl
  have g_pure_rows := He.glo_ok X Gn (c.fact 12 (f := .glo "pure_rows") rfl)
  obtain ⟨fd_least_of, F_least_of⟩ := c.def_ 13 (d := d_least_of) rfl
  have g_least_of := He.glo_ok X Gn (c.fact 13 (f := .glo "least_of") rfl)
  obtain ⟨fd_least_rows, F_least_rows⟩ := c.def_ 14 (d := d_least_rows) rfl
  have g_least_rows := He.glo_ok X Gn (c.fact 14 (f := .glo "least_rows") rfl)
  obtain ⟨fd_times_in, F_times_in⟩ := c.def_ 15 (d := d_times_in) rfl
  have g_times_in := He.glo_ok X Gn (c.fact 15 (f := .glo "times_in") rfl)
  obtain ⟨fd_made_of, F_made_of⟩ := c.def_ 16 (d := d_made_of) rfl
  have g_made_of := He.glo_ok X Gn (c.fact 16 (f := .glo "made_of") rfl)
  obtain ⟨fd__law_at, F__law_at⟩ := c.def_ 17 (d := d__law_at) rfl
  have g__law_at := He.glo_ok X Gn (c.fact 17 (f := .glo "_law_at") rfl)
  obtain ⟨fd__law_pot, F__law_pot⟩ := c.def_ 18 (d := d__law_pot) rfl
  have g__law_pot := He.glo_ok X Gn (c.fact 18 (f := .glo "_law_pot") rfl)
  obtain ⟨fd__law_take, F__law_take⟩ := c.def_ 19 (d := d__law_take) rfl
  have g__law_take := He.glo_ok X Gn (c.fact 19 (f := .glo "_law_take") rfl)
  obtain ⟨fd__law_counts, F__law_counts⟩ := c.def_ 20 (d := d__law_counts) rfl
  have g__law_counts := He.glo_ok X Gn (c.fact 20 (f := .glo "_law_counts") rfl)
  obtain ⟨fd__law_handed, F__law_handed⟩ := c.def_ 21 (d := d__law_handed) rfl
  have g__law_handed := He.glo_ok X Gn (c.fact 21 (f := .glo "_law_handed") rfl)
  obtain ⟨fd__law_often, F__law_often⟩ := c.def_ 22 (d := d__law_often) rfl
  have g__law_often := He.glo_ok X Gn (c.fact 22 (f := .glo "_law_often") rfl)
  obtain ⟨fd__law_row, F__law_row⟩ := c.def_ 23 (d := d__law_row) rfl
  have g__law_row := He.glo_ok X Gn (c.fact 23 (f := .glo "_law_row") rfl)
  obtain ⟨fd__law_put, F__law_put⟩ := c.def_ 24 (d := d__law_put) rfl
  have g__law_put := He.glo_ok X Gn (c.fact 24 (f := .glo "_law_put") rfl)
  obtain ⟨fd__law_is_whole, F__law_is_whole⟩ := c.def_ 25 (d := d__law_is_whole) rfl
  have g__law_is_whole := He.glo_ok X Gn (c.fact 25 (f := .glo "_law_is_whole") rfl)
  obtain ⟨fd__law_refused, F__law_refused⟩ := c.def_ 26 (d := d__law_refused) rfl
  have g__law_refused := He.glo_ok X Gn (c.fact 26 (f := .glo "_law_refused") rfl)
  obtain ⟨fd_law, F_law⟩ := c.def_ 27 (d := d_law) rfl
  have b : Bi mg := ⟨He.free_ok X Gn (c.fact 30 (f := .free "isinstance") rfl), He.free_ok X Gn (c.fact 31 (f := .free "len") rfl), He.free_ok X Gn (c.fact 32 (f := .free "all") rfl), He.free_ok X Gn (c.fact 33 (f := .free "any") rfl), He.free_ok X Gn (c.fact 34 (f := .free "sum") rfl), He.free_ok X Gn (c.fact 35 (f := .free "min") rfl), He.free_ok X Gn (c.fact 36 (f := .free "max") rfl), He.free_ok X Gn (c.fact 37 (f := .free "range") rfl), He.free_ok X Gn (c.fact 38 (f := .free "zip") rfl), He.free_ok X Gn (c.fact 39 (f := .free "enumerate") rfl), He.free_ok X Gn (c.fact 40 (f := .free "reversed") rfl), He.free_ok X Gn (c.fact 41 (f := .free "sorted") rfl), He.free_ok X Gn (c.fact 42 (f := .free "list") rfl), He.free_ok X Gn (c.fact 43 (f := .free "tuple") rfl), He.free_ok X Gn (c.fact 44 (f := .free "dict") rfl), He.free_ok X Gn (c.fact 45 (f := .free "set") rfl), He.free_ok X Gn (c.fact 46 (f := .free "str") rfl), He.free_ok X Gn (c.fact 47 (f := .free "int") rfl), He.free_ok X Gn (c.fact 48 (f := .free "bool") rfl), He.free_ok X Gn (c.fact 49 (f := .free "abs") rfl), He.free_ok X Gn (c.fact 50 (f := .free "repr") rfl)⟩
  obtain ⟨t_MOST_COUNT, i_MOST_COUNT⟩ := He.int_ok X Gn (c.fact 28 (f := .int "MOST_COUNT" 4) rfl)
  obtain ⟨t_MOST_COUNTS, i_MOST_COUNTS⟩ := He.int_ok X Gn (c.fact 29 (f := .int "MOST_COUNTS" 4) rfl)
  have e_NoRow := He.exc_ok (c.fact 52 (f := .exc "NoRow") rfl)
  have X_NoRow : Xc K mg "NoRow" (He.ga K "NoRow") := ⟨e_NoRow.1, e_NoRow.2.1, e_NoRow.2.2.1, e_NoRow.2.2.2, He.glo_ok X Gn (c.fact 51 (f := .glo "NoRow") rfl)⟩
  have m_NoRow := He.exm_ok (c.fact 53 (f := .exm "NoRow" "NoRow" true) rfl)
  have e := hfa.symm.trans (He.glo_ok X Gn (c.fact 27 (f := .glo "law") rfl))
  cases e
  have bb := FunD.bindsA (ps := ["_law_script"]) F_law fun _ _ _ _ _ _ us hl => match us, hl with | [_], _ => rfl
  refine ⟨fd_law, fun s v => bb s [v] rfl, fun base _ _ => ?_⟩
  let U : Uv := ⟨P, w, K, mg, base⟩
  have W_is_whole := f_is_whole (U := U) b g_is_whole F_is_whole 
  have W_is_counts := f_is_counts (U := U) b g_is_counts F_is_counts W_is_whole ⟨_, i_MOST_COUNTS, t_MOST_COUNTS, rfl⟩ ⟨_, i_MOST_COUNT, t_MOST_COUNT, rfl⟩
  have W_want_equation := f_want_eq (U := U) b g_want_equation F_want_equation W_is_counts
  have W_want_row := f_want_row (U := U) b g_want_row F_want_row W_is_whole X_NoRow m_NoRow
  have W_difference := f_dif (U := U) b g_difference F_difference 
  have W_holds := f_holds (U := U) b g_holds F_holds W_want_equation W_want_row W_difference
  have W_is_under := f_under (U := U) b g_is_under F_is_under 
  have W_is_over_some := f_over (U := U) b g_is_over_some F_is_over_some W_is_under
  have W_with_one := f_with_one (U := U) b g_with_one F_with_one 
  have W_grown := f_grown (U := U) b g_grown F_grown W_difference W_with_one
  have W_next_rows := f_next (U := U) b g_next_rows F_next_rows W_grown
  have W_least_from := f_from (U := U) b g_least_from F_least_from W_is_over_some W_difference W_next_rows
  have W_pure_rows := f_pure (U := U) b g_pure_rows F_pure_rows W_with_one W_least_from
  have W_least_of := f_of (U := U) b g_least_of F_least_of W_pure_rows
  have W_least_rows := f_rows (U := U) b g_least_rows F_least_rows W_want_equation W_least_of
  have W_times_in := f_times (U := U) b g_times_in F_times_in 
  have W_made_of := f_mades (U := U) b g_made_of F_made_of W_holds W_pure_rows W_times_in X_NoRow m_NoRow
  have W__law_at := f_at (U := U) b g__law_at F__law_at 
  have W__law_pot := f_pot (U := U) b g__law_pot F__law_pot 
  have W__law_take := f_take (U := U) b g__law_take F__law_take 
  have W__law_counts := f_counts (U := U) b g__law_counts F__law_counts W__law_take
  have W__law_handed := f_shaped (U := U) b g__law_handed F__law_handed W__law_take
  have W__law_often := f_often (U := U) b g__law_often F__law_often W__law_take
  have W__law_row := f_Lrow (U := U) b g__law_row F__law_row W__law_often
  have W__law_put := f_put (U := U) b g__law_put F__law_put 
  have W__law_is_whole := f_Lwhole (U := U) b g__law_is_whole F__law_is_whole 
  have W__law_refused := f_refused (U := U) b g__law_refused F__law_refused W_made_of X_NoRow m_NoRow
  exact fn_calm (f_law (U := U) b F_law W__law_at W__law_pot W__law_take W__law_counts W_least_rows W__law_row W_made_of W__law_handed W__law_is_whole W__law_put W__law_refused)
end K44
open PySem PySem.W PySem.Calls PyProof.Rows
theorem PySem.Challenge.cw_likefill_k44_whole_made_of_least_rows_holds : PySem.Challenge.rw_likefill_k44_whole_made_of_least_rows.Holds := by
  w_on; o_law
  refine HandSHeadRun.head_any (r := OpenLaw.row PySem.Challenge.rw_likefill_k44_whole_made_of_least_rows) (q := view (OpenLaw.row PySem.Challenge.rw_likefill_k44_whole_made_of_least_rows).prog [35]) (H := K44.hk) (ob := K44.ob) (M := 3000) (loose := K44.loose) (d := HandSHeadRun.topDef (OpenLaw.row PySem.Challenge.rw_likefill_k44_whole_made_of_least_rows).prog 35) (kwd := []) K44.ob_eq
    (by kernel_rfl) (fun s => by kernel_rfl) K44.run (by kernel_rfl) (by kernel_rfl) (by kernel_rfl) (by rfl) (by first | assumption | decide +kernel) (by decide +kernel) ⟨rfl, rfl, rfl, rfl, rfl, by decide +kernel⟩ ?hw ?hc
  case hw => w_witness2
  case hc =>
    refine L2.walk_ofE (l := PySem.Challenge.rw_likefill_k44_whole_made_of_least_rows) (n := 63) (k := 8) (x := "_law_script") (CX := L2.CX0) rfl (by decide) (by kernel_rfl) ⟨rfl, by decide, by decide⟩ ?F (fun _ _ _ _ z => z)
    intro w mg fa h Y Gn hmg0
    obtain ⟨KK, KX, c⟩ := Y
    have hmg : mg ("law" : PySem.Str) = some (.ref fa) := by
      have e : (HandSHeadRun.topDef (OpenLaw.row PySem.Challenge.rw_likefill_k44_whole_made_of_least_rows).prog 35).name = ("law" : PySem.Str) := by kernel_rfl
      rw [← e]
      exact hmg0
    obtain ⟨fd, hb, hF⟩ := K44.facts (P := (PySem.Challenge.rw_likefill_k44_whole_made_of_least_rows).prog) (w := w) KX Gn hmg c
    exact ⟨KK, fd, (fun vs H Q _ => G.spT (K44.c_law KK) vs H Q fun _ _ _ => False), KX, hb, fun H a ns hl _ hS => G.script_call (φ := K44.c_law KK) rfl (fun _ => rfl) trivial rfl hS, hF⟩

