import PyProof.Rows.All
import HandS.ExcCtx
import Wide.All
import OpenK.AllK
import Wide.FinOn
import HandS.ForMost
import HandS.ForExc
import HandS.IsInst
import HandS.Walk
import HandS.Defaults
import HandS.Comp
import HandS.Zip
import HandS.TupAny
import HandS.TupMul
import HandS.More
import HandS.Evl
import HandS.HeadHook2
import HandS.EndBits
import HandS.WordsExc
import HandS.ExcOwn
import HandS.TryOnly
import KE.LtData
import KE.GoesEnum
import KE.GoesMore
import KE.SortData
import HandS.Conv
import HandS.Deep
import HandS.Wide
import HandS.Strs
import KE.SortKeyHeap
import HandS.SortKw
import HandS.Keys
import HandS.Rev
import KE.DatumIndex
import HandS.HeadEnd
import HandS.Ends
import PyProof.ReprLen
import HandS.Set
import HandS.SetTxt0
import HandS.TupLe
import HandS.Flow
import HandS.HeadHook1
import HandS.Iter
import HandS.NoneIn
import KE.KRevIter
import HandS.RevTup
import HandS.Finally
import KE.KEqDict
import HandS.ListItems
import PyProof.RowDictHeap
import KE.DataEq
import HandS.HotCalls
import HandS.ExcIs
import PySem.Challenge.RW_likefill_k46_counts_refused
import KE.KStateDown
import HandS.Head0
import HandS.Head1
import HandS.Head2
set_option Elab.async false
set_option linter.all false
set_option maxRecDepth 100000
set_option maxHeartbeats 2000000
/-! G: typed judgements over the hand layer. A stable ground B that only grows, owned things of a def's own. -/
namespace G
open PySem L2
theorem nTakes0 {X : Cx} : L2N.Takes X (fun _ _ _ _ => False) := fun _ _ x => by
  obtain ⟨_, _, _, _, _, _, _, _, _, _, _, _, _, _, _, _, z⟩ := x
  exact z.elim

/-! ### semantic readings: what is wanted of a piece of text, by the model's own run -/
section
variable (X : Cx)
def WE (e : Expr) (Q : VK) (σ : L2.St) (H : Hp) : Prop := ∀ pins s, Inv X pins σ H s → wpAny (model X.prog X.w) X.A (eval e X.env) (EP X pins σ Q) X.xe s
def WT (e : Expr) (Q : Bool → Hp → Prop) (σ : L2.St) (H : Hp) : Prop := ∀ pins s, Inv X pins σ H s → wpAny (model X.prog X.w) X.A (isTrue e X.env (eval e X.env)) (TP X pins σ Q) X.xe s
def WW (e : Expr) (Q : Bool → Hp → Prop) (σ : L2.St) (H : Hp) : Prop := ∀ whole pins s, Inv X pins σ H s → wpAny (model X.prog X.w) X.A (isTrue e X.env whole) (TP X pins σ Q) X.xe s
def WA (es : List Expr) (Q : List V → Hp → Prop) (σ : L2.St) (H : Hp) : Prop := ∀ pos pins s, Inv X pins σ H s → wpAny (model X.prog X.w) X.A (spliced (backTo pos (starEach es X.env))) (AP X pins σ Q) X.xe s
def WS (ss : List Stmt) (D : Ends) (σ : L2.St) (H : Hp) : Prop := ∀ pins s, Inv X pins σ H s → wpAny (model X.prog X.w) X.A (execs ss X.env) (SP X pins D) X.xe s
def W1 (st : Stmt) (D : Ends) (σ : L2.St) (H : Hp) : Prop := ∀ pins s, Inv X pins σ H s → wpAny (model X.prog X.w) X.A (exec st X.env) (SP X pins D) X.xe s
end
section
variable {X : Cx} {e : Expr} {es : List Expr} {ss : List Stmt} {st : Stmt} {σ : L2.St} {H : Hp}
def tE (X : Cx) (e : Expr) : TE := fun σ H Q => WE X e Q σ H
def tT (X : Cx) (e : Expr) : TT := fun σ H Q => WT X e Q σ H
def tW (X : Cx) (e : Expr) : TT := fun σ H Q => WW X e Q σ H
def tA (X : Cx) (es : List Expr) : TA := fun σ H Q => WA X es Q σ H
def tS (X : Cx) (ss : List Stmt) : TS := fun D σ H => WS X ss D σ H
def t1 (X : Cx) (st : Stmt) : TS := fun D σ H => W1 X st D σ H
theorem pE : PE X e (tE X e) := ⟨fun pins s _ _ _ I h => h pins s I⟩
theorem pT : PT X e (tT X e) := ⟨fun pins s _ _ _ I h => h pins s I⟩
theorem pW : PW X e (tW X e) := ⟨fun wh pins s _ _ _ I h => h wh pins s I⟩
theorem pA : PA X es (tA X es) := ⟨fun pos pins s _ _ _ I h => h pos pins s I⟩
theorem pS : PSs X ss (tS X ss) := ⟨fun pins s _ _ _ I h => h pins s I⟩
theorem p1 : PS X st (t1 X st) := ⟨fun pins s _ _ _ I h => h pins s I⟩
theorem ofE {t : TE} (h : PE X e t) {Q : VK} (q : t σ H Q) : WE X e Q σ H := fun pins s I => h.run pins s σ H Q I q
theorem ofT {t : TT} (h : PT X e t) {Q} (q : t σ H Q) : WT X e Q σ H := fun pins s I => h.run pins s σ H Q I q
theorem ofW {t : TT} (h : PW X e t) {Q} (q : t σ H Q) : WW X e Q σ H := fun wh pins s I => h.run wh pins s σ H Q I q
theorem ofA {t : TA} (h : PA X es t) {Q} (q : t σ H Q) : WA X es Q σ H := fun pos pins s I => h.run pos pins s σ H Q I q
theorem ofS {t : TS} (h : PSs X ss t) {D} (q : t D σ H) : WS X ss D σ H := fun pins s I => h.run pins s σ H D I q
theorem of1 {t : TS} (h : PS X st t) {D} (q : t D σ H) : W1 X st D σ H := fun pins s I => h.run pins s σ H D I q
theorem WE.mono {Q Q' : VK} (h : WE X e Q σ H) (k : ∀ v H', Q v H' → Q' v H') : WE X e Q' σ H := fun pins s I => thn (h pins s I) fun _ _ ⟨v, H', I', r, q⟩ => ⟨v, H', I', r, k _ _ q⟩
theorem WT.mono {Q Q' : Bool → Hp → Prop} (h : WT X e Q σ H) (k : ∀ v H', Q v H' → Q' v H') : WT X e Q' σ H := fun pins s I => thn (h pins s I) fun _ _ ⟨H', I', q⟩ => ⟨H', I', k _ _ q⟩
theorem WW.mono {Q Q' : Bool → Hp → Prop} (h : WW X e Q σ H) (k : ∀ v H', Q v H' → Q' v H') : WW X e Q' σ H := fun wh pins s I => thn (h wh pins s I) fun _ _ ⟨H', I', q⟩ => ⟨H', I', k _ _ q⟩
theorem WA.mono {Q Q' : List V → Hp → Prop} (h : WA X es Q σ H) (k : ∀ v H', Q v H' → Q' v H') : WA X es Q' σ H := fun pos pins s I => thn (h pos pins s I) fun _ _ ⟨v, H', I', r, q⟩ => ⟨v, H', I', r, k _ _ q⟩
structure Ends.Le (D D' : Ends) : Prop where
  nx : ∀ σ H, D.nx σ H → D'.nx σ H
  rt : ∀ v H, D.rt v H → D'.rt v H
  bk : ∀ σ H, D.bk σ H → D'.bk σ H
  ct : ∀ σ H, D.ct σ H → D'.ct σ H
theorem SP.mono {pins : List (Addr × Obj)} {D D' : Ends} (l : Ends.Le D D') {f : Flow} {s : Shared} (h : SP X pins D f s) : SP X pins D' f s := by
  cases f with
  | next => obtain ⟨a, b, c, d⟩ := h; exact ⟨a, b, c, l.nx _ _ d⟩
  | brk => obtain ⟨a, b, c, d⟩ := h; exact ⟨a, b, c, l.bk _ _ d⟩
  | cont => obtain ⟨a, b, c, d⟩ := h; exact ⟨a, b, c, l.ct _ _ d⟩
  | ret u => obtain ⟨a, b, c, d, r, z⟩ := h; exact ⟨a, b, c, d, r, l.rt _ _ z⟩
theorem WS.mono {D D' : Ends} (h : WS X ss D σ H) (l : Ends.Le D D') : WS X ss D' σ H := fun pins s I => thn (h pins s I) fun _ _ q => SP.mono l q
theorem W1.mono {D D' : Ends} (h : W1 X st D σ H) (l : Ends.Le D D') : W1 X st D' σ H := fun pins s I => thn (h pins s I) fun _ _ q => SP.mono l q
theorem ws_cons {rest : List Stmt} {D : Ends} (h : W1 X st { D with nx := fun σ' H' => WS X rest D σ' H' } σ H) : WS X (st :: rest) D σ H := ofS (pss_cons p1 pS) h
theorem ws_nil {D : Ends} (h : D.nx σ H) : WS X [] D σ H := ofS pss_nil h
end

/-! ### the ground -/
/-- what is known of an address: exactly u stands there (or u, locked); or something for which φ holds (callees may change it) -/
inductive Kd where
  | ex (u : HO)
  | iv (φ : HO → Prop)
abbrev Bs := Addr → Option Kd
def Le (B B' : Bs) : Prop := ∀ a k, B a = some k → B' a = some k
theorem Le.refl (B : Bs) : Le B B := fun _ _ h => h
theorem Le.trans {A B C : Bs} (a : Le A B) (b : Le B C) : Le A C := fun x k h => b x k (a x k h)
theorem Le.free {B B' : Bs} (l : Le B B') {a : Addr} (h : B' a = none) : B a = none := by
  cases e : B a with
  | none => rfl
  | some k => rw [l a k e] at h; cases h
def put (B : Bs) (a : Addr) (k : Kd) : Bs := fun b => if b = a then some k else B b
theorem put_same {B : Bs} {a : Addr} {k : Kd} : put B a k a = some k := by unfold put; rw [if_pos rfl]
theorem put_ne {B : Bs} {a b : Addr} {k : Kd} (h : b ≠ a) : put B a k b = B b := by unfold put; rw [if_neg h]
theorem Le.put {B : Bs} {a : Addr} {k : Kd} (h : B a = none) : Le B (put B a k) := fun b u e => by
  rw [put_ne]
  · exact e
  · rintro rfl; rw [h] at e; cases e
/-- what may be locked while it is walked -/
def lk : HO → Bool
  | .dK _ => true
  | .dT _ => true
  | _ => false
def Rx (H : Hp) (a : Addr) (u : HO) : Prop := H a = some u ∨ (lk u = true ∧ ∃ o, H a = some (.frz o u))
theorem Rx.rd {H : Hp} {a : Addr} {u : HO} (h : Rx H a u) : Rd H a u := h.elim .inl fun z => .inr z.2
theorem Rx.hard {H : Hp} {a : Addr} {u : HO} (h : Rx H a u) (n : lk u = false) : H a = some u := h.elim id fun z => by rw [n] at z; cases z.1
structure Ok (B : Bs) (H : Hp) : Prop where
  ex : ∀ a u, B a = some (.ex u) → Rx H a u
  iv : ∀ a φ, B a = some (.iv φ) → ∃ o, H a = some o ∧ φ o ∧ ∀ vs, o ≠ .tup vs
theorem Ok.none {B : Bs} {H : Hp} (k : Ok B H) {a : Addr} (h : H a = none) : B a = none := by
  cases e : B a with
  | none => rfl
  | some d =>
    cases d with
    | ex u =>
      rcases k.ex a u e with z | ⟨_, o, z⟩ <;> (rw [h] at z; cases z)
    | iv φ =>
      obtain ⟨o, z, _⟩ := k.iv a φ e
      rw [h] at z; cases z
/-- an object that is no tuple stands there (own things are such) -/
def Hard (o : Option HO) : Prop := ∃ u, o = some u ∧ ∀ vs, u ≠ .tup vs
theorem Hard.ne {o : Option HO} (h : Hard o) : o ≠ none := by obtain ⟨u, e, _⟩ := h; rw [e]; simp
/-- nothing stands there, or a tuple that is laid as it is (tuples may be laid on the ground later) -/
def Soft (o : Option HO) (k : Kd) : Prop := o = none ∨ ∃ vs, o = some (.tup vs) ∧ k = .ex (.tup vs)
theorem Hard.no {o : Option HO} {k : Kd} (h : Hard o) (z : Soft o k) : False := by
  obtain ⟨u, e, n⟩ := h
  rcases z with z | ⟨vs, z, _⟩
  · rw [e] at z; cases z
  · rw [e] at z; cases z; exact n vs rfl
theorem hard_lst {vs : List V} : Hard (some (.lst vs)) := ⟨_, rfl, fun _ h => nomatch h⟩
/-- from the ground B under H to B' under H' -/
structure Stp (B : Bs) (H : Hp) (B' : Bs) (H' : Hp) : Prop where
  le : Le B B'
  ok : Ok B' H'
  keep : ∀ a o, H a = some o → (∀ φ, B a ≠ some (.iv φ)) → H' a = some o
  there : ∀ a, H a ≠ none → H' a ≠ none
  new : ∀ a, B a = none → ∀ k, B' a = some k → Soft (H a) k
theorem Stp.bnone {B B' : Bs} {H H' : Hp} (t : Stp B H B' H') {a : Addr} (h : H' a = none) : H a = none := by
  cases e : H a with
  | none => rfl
  | some o => exact absurd h (t.there a (by rw [e]; simp))
theorem Stp.refl {B : Bs} {H : Hp} (k : Ok B H) : Stp B H B H := ⟨Le.refl _, k, fun _ _ h _ => h, fun _ h => h, fun _ h _ n => by rw [h] at n; cases n⟩
theorem Stp.trans {B B1 B2 : Bs} {H H1 H2 : Hp} (a : Stp B H B1 H1) (b : Stp B1 H1 B2 H2) : Stp B H B2 H2 where
  le := a.le.trans b.le
  ok := b.ok
  keep := fun x o h n => b.keep x o (a.keep x o h n) fun φ e => by
    cases q : B x with
    | none =>
      rcases a.new x q _ e with this | ⟨vs, _, this⟩
      · rw [this] at h; cases h
      · cases this
    | some k =>
      have e2 := a.le x k q
      rw [e] at e2; cases e2
      exact n φ q
  there := fun x h => b.there x (a.there x h)
  new := fun x n1 k e => by
    cases q : B1 x with
    | none =>
      rcases b.new x q k e with z | ⟨vs, z, z2⟩
      · exact .inl (a.bnone z)
      · cases e2 : H x with
        | none => exact .inl rfl
        | some o =>
          have := a.keep x o e2 fun φ z => by rw [n1] at z; cases z
          rw [this] at z
          exact .inr ⟨vs, z, z2⟩
    | some k' =>
      have e2 := b.le x k' q
      rw [e] at e2; cases e2
      exact a.new x n1 k q

/-! ### predicates of values over the ground -/
structure Pr where
  r : Bs → V → Prop
  mono : ∀ B B' v, Le B B' → r B v → r B' v
/-- own: a value and the addresses of the objects that go with it -/
structure Oc where
  ad : V → Hp → List Addr
  r : Bs → Hp → V → Prop
  mono : ∀ B B' H v, Le B B' → r B H v → r B' H v
  ast : ∀ H H' v, (∀ a ∈ ad v H, H' a = H a) → ad v H' = ad v H
  rst : ∀ B H H' v, (∀ a ∈ ad v H, H' a = H a) → r B H v → r B H' v
/-- a slot: shared, a value over the ground; own: an object of the def's own -/
inductive Sl where
  | sh (r : Pr)
  | ow (c : Oc)
abbrev Gm := List (Option Sl)
/-- where a def entered -/
structure Base where
  B : Bs
  H : Hp
/-- an own value -/
structure Own (b : Base) (c : Oc) (v : V) (B : Bs) (H : Hp) : Prop where
  nb : ∀ a ∈ c.ad v H, B a = none
  nh : ∀ a ∈ c.ad v H, b.H a = none
  th : ∀ a ∈ c.ad v H, Hard (H a)
  at_ : c.r B H v
structure EnvOk (b : Base) (Γ : Gm) (σ : L2.St) (B : Bs) (H : Hp) : Prop where
  len : σ.length = Γ.length
  sh : ∀ (i : Nat) (r : Pr), Γ[i]? = some (some (.sh r)) → ∃ v, σ[i]? = some (some v) ∧ r.r B v
  ow : ∀ (i : Nat) (c : Oc), Γ[i]? = some (some (.ow c)) → ∃ v, σ[i]? = some (some v) ∧ Own b c v B H
  dis : ∀ (i j : Nat) (c c' : Oc) (v v' : V) (a : Addr), Γ[i]? = some (some (.ow c)) → Γ[j]? = some (some (.ow c')) → σ[i]? = some (some v) → σ[j]? = some (some v') → a ∈ c.ad v H → a ∈ c'.ad v' H → i = j
structure Sta (b : Base) (Γ : Gm) (σ : L2.St) (B : Bs) (H : Hp) : Prop where
  st : Stp b.B b.H B H
  env : EnvOk b Γ σ B H
section
variable {b : Base} {Γ : Gm} {σ : L2.St} {B B' : Bs} {H H' : Hp}
/-- what is evaluated leaves: the ground grows, the own things stay -/
structure Aft (b : Base) (Γ : Gm) (σ : L2.St) (B : Bs) (H : Hp) (B' : Bs) (H' : Hp) : Prop where
  t : Stp B H B' H'
  sta : Sta b Γ σ B' H'
theorem Aft.le (a : Aft b Γ σ B H B' H') : Le B B' := a.t.le
theorem Aft.th (a : Aft b Γ σ B H B' H') {x : Addr} (h : H' x = none) : H x = none := a.t.bnone h
theorem Sta.refl (s : Sta b Γ σ B H) : Aft b Γ σ B H B H := ⟨Stp.refl s.st.ok, s⟩
theorem Aft.trans {B1 B2 : Bs} {H1 H2 : Hp} (a : Aft b Γ σ B H B1 H1) (c : Aft b Γ σ B1 H1 B2 H2) : Aft b Γ σ B H B2 H2 := ⟨a.t.trans c.t, c.sta⟩
theorem Own.agree {c : Oc} {v : V} (k : Own b c v B H) (t : Stp B H B' H') : ∀ a ∈ c.ad v H, H' a = H a := fun a ha => by
  cases e : H a with
  | none => exact absurd e (k.th a ha).ne
  | some o => exact t.keep a o e fun φ z => by rw [k.nb a ha] at z; cases z
theorem Own.ad_eq {c : Oc} {v : V} (k : Own b c v B H) (t : Stp B H B' H') : c.ad v H' = c.ad v H := c.ast H H' v (k.agree t)
theorem Own.step {c : Oc} {v : V} (k : Own b c v B H) (t : Stp B H B' H') : Own b c v B' H' := by
  have e := k.ad_eq t
  have g := k.agree t
  refine ⟨fun a ha => ?_, fun a ha => k.nh a (e ▸ ha), fun a ha => by rw [g a (e ▸ ha)]; exact k.th a (e ▸ ha), c.mono _ _ _ _ t.le (c.rst _ _ _ _ g k.at_)⟩
  rw [e] at ha
  cases f : B' a with
  | none => rfl
  | some d => exact ((k.th a ha).no (t.new a (k.nb a ha) d f)).elim
/-- a step of the ground that leaves H's objects -/
theorem Sta.step (s : Sta b Γ σ B H) (t : Stp B H B' H') : Aft b Γ σ B H B' H' where
  t := t
  sta := {
    st := s.st.trans t
    env := {
      len := s.env.len
      sh := fun i r h => let ⟨v, e, k⟩ := s.env.sh i r h; ⟨v, e, r.mono _ _ _ t.le k⟩
      ow := fun i c h => let ⟨v, e, k⟩ := s.env.ow i c h; ⟨v, e, k.step t⟩
      dis := fun i j c c' v v' a h1 h2 h3 h4 h5 h6 => by
        obtain ⟨u, e, k⟩ := s.env.ow i c h1
        obtain ⟨u', e', k'⟩ := s.env.ow j c' h2
        rw [h3] at e; cases e
        rw [h4] at e'; cases e'
        rw [k.ad_eq t] at h5
        rw [k'.ad_eq t] at h6
        exact s.env.dis i j c c' v v' a h1 h2 h3 h4 h5 h6 } }
/-- a new object, laid on the ground -/
theorem Stp.lay {p : Addr} {u : HO} (k : Ok B H) (h : H p = none) : Stp B H (put B p (.ex u)) (upd H p u) where
  le := Le.put (k.none h)
  ok := {
    ex := fun a w e => by
      by_cases q : a = p
      · subst q; rw [put_same] at e; cases e; exact .inl upd_same
      · rw [put_ne q] at e
        rcases k.ex a w e with z | ⟨l, o, z⟩
        · exact .inl (by rw [upd_ne q]; exact z)
        · exact .inr ⟨l, o, by rw [upd_ne q]; exact z⟩
    iv := fun a φ e => by
      by_cases q : a = p
      · subst q; rw [put_same] at e; cases e
      · rw [put_ne q] at e
        obtain ⟨o, z, f⟩ := k.iv a φ e
        exact ⟨o, by rw [upd_ne q]; exact z, f⟩ }
  keep := fun a o e _ => by rw [upd_ne (ne_of_none e h)]; exact e
  there := fun a e => by
    by_cases q : a = p
    · subst q; rw [upd_same]; simp
    · rw [upd_ne q]; exact e
  new := fun a e k' n => by
    by_cases q : a = p
    · subst q; exact .inl h
    · rw [put_ne q, e] at n; cases n
/-- a new object beside the ground -/
theorem Stp.beside {p : Addr} {u : HO} (k : Ok B H) (h : H p = none) : Stp B H B (upd H p u) where
  le := Le.refl _
  ok := {
    ex := fun a w e => by
      have q : a ≠ p := by rintro rfl; rw [k.none h] at e; cases e
      rcases k.ex a w e with z | ⟨l, o, z⟩
      · exact .inl (by rw [upd_ne q]; exact z)
      · exact .inr ⟨l, o, by rw [upd_ne q]; exact z⟩
    iv := fun a φ e => by
      have q : a ≠ p := by rintro rfl; rw [k.none h] at e; cases e
      obtain ⟨o, z, f⟩ := k.iv a φ e
      exact ⟨o, by rw [upd_ne q]; exact z, f⟩ }
  keep := fun a o e _ => by rw [upd_ne (ne_of_none e h)]; exact e
  there := fun a e => by
    by_cases q : a = p
    · subst q; rw [upd_same]; simp
    · rw [upd_ne q]; exact e
  new := fun a e k' n => by rw [e] at n; cases n
theorem Sta.lay {p : Addr} {u : HO} (s : Sta b Γ σ B H) (h : H p = none) : Aft b Γ σ B H (put B p (.ex u)) (upd H p u) := s.step (Stp.lay s.st.ok h)
theorem Sta.beside {p : Addr} {u : HO} (s : Sta b Γ σ B H) (h : H p = none) : Aft b Γ σ B H B (upd H p u) := s.step (Stp.beside s.st.ok h)
/-- an object of one's own is laid on the ground -/
theorem Stp.give {p : Addr} {u : HO} (k : Ok B H) (hb : B p = none) (h : H p = some u) : Ok (put B p (.ex u)) H where
  ex := fun a w e => by
    by_cases q : a = p
    · subst q; rw [put_same] at e; cases e; exact .inl h
    · rw [put_ne q] at e; exact k.ex a w e
  iv := fun a φ e => by
    by_cases q : a = p
    · subst q; rw [put_same] at e; cases e
    · rw [put_ne q] at e; exact k.iv a φ e
theorem Stp.given {b : Base} {p : Addr} {u : HO} (s : Stp b.B b.H B H) (hb : B p = none) (nh : b.H p = none) (h : H p = some u) : Stp b.B b.H (put B p (.ex u)) H where
  le := s.le.trans (Le.put hb)
  ok := Stp.give s.ok hb h
  keep := s.keep
  there := s.there
  new := fun a e k' n => by
    by_cases q : a = p
    · subst q; exact .inl nh
    · rw [put_ne q] at n; exact s.new a e k' n
theorem Stp.handed {p : Addr} {u : HO} {B1 : Bs} {H1 : Hp} (s : Stp B H B1 H1) (hb : B1 p = none) (nh : H p = none) (h : H1 p = some u) : Stp B H (put B1 p (.ex u)) H1 where
  le := s.le.trans (Le.put hb)
  ok := Stp.give s.ok hb h
  keep := s.keep
  there := s.there
  new := fun a e k' n => by
    by_cases q : a = p
    · subst q; exact .inl nh
    · rw [put_ne q] at n; exact s.new a e k' n
/-- tuples that stand somewhere are laid on the ground -/
theorem Stp.tups {as : List Addr} (k : Ok B H) (h : ∀ a ∈ as, ∃ vs, H a = some (.tup vs)) : Stp B H (fun a => if a ∈ as ∧ B a = none then (match H a with
  | some o => some (.ex o)
  | none => none) else B a) H where
  le := fun a k e => by
    show (if _ then _ else _) = _
    rw [if_neg]
    · exact e
    · rintro ⟨_, z⟩; rw [e] at z; cases z
  ok := {
    ex := fun a u e => by
      by_cases q : a ∈ as ∧ B a = none
      · rw [if_pos q] at e
        obtain ⟨vs, z⟩ := h a q.1
        rw [z] at e
        cases e
        exact .inl z
      · rw [if_neg q] at e; exact k.ex a u e
    iv := fun a φ e => by
      by_cases q : a ∈ as ∧ B a = none
      · rw [if_pos q] at e
        obtain ⟨vs, z⟩ := h a q.1
        rw [z] at e
        cases e
      · rw [if_neg q] at e; exact k.iv a φ e }
  keep := fun a o e _ => e
  there := fun a e => e
  new := fun a e k' n => by
    by_cases q : a ∈ as ∧ B a = none
    · rw [if_pos q] at n
      obtain ⟨vs, z⟩ := h a q.1
      rw [z] at n
      cases n
      exact .inr ⟨vs, z, rfl⟩
    · rw [if_neg q, e] at n; cases n
abbrev Cells := List (Addr × HO)
def ads (cs : Cells) : List Addr := cs.map (·.1)
theorem mem_ads {cs : Cells} {a : Addr} {o : HO} (h : (a, o) ∈ cs) : a ∈ ads cs := List.mem_map.mpr ⟨_, h, rfl⟩
/-- the objects at some addresses, laid on the ground as they stand -/
def putH (B : Bs) (H : Hp) (as : List Addr) : Bs := fun a => if a ∈ as then (match H a with
  | some o => some (.ex o)
  | none => B a) else B a
theorem putH_out {B : Bs} {H : Hp} {as : List Addr} {a : Addr} (h : a ∉ as) : putH B H as a = B a := by unfold putH; rw [if_neg h]
theorem putH_in {B : Bs} {H : Hp} {as : List Addr} {a : Addr} {o : HO} (h : a ∈ as) (e : H a = some o) : putH B H as a = some (.ex o) := by unfold putH; rw [if_pos h, e]
theorem Le.putH {B : Bs} {H : Hp} {as : List Addr} (h : ∀ a ∈ as, B a = none) : Le B (putH B H as) := fun a k e => by
  rw [putH_out]
  · exact e
  · intro m; rw [h a m] at e; cases e
theorem putH_cases {B : Bs} {H : Hp} {as : List Addr} {a : Addr} {k : Kd} (e : putH B H as a = some k) : (∃ o, a ∈ as ∧ H a = some o ∧ k = .ex o) ∨ B a = some k := by
  unfold G.putH at e
  by_cases m : a ∈ as
  · rw [if_pos m] at e
    cases q : H a with
    | none => rw [q] at e; exact .inr e
    | some o => rw [q] at e; exact .inl ⟨o, m, rfl, (Option.some.inj e).symm⟩
  · rw [if_neg m] at e; exact .inr e
theorem Ok.putH {B : Bs} {H : Hp} {as : List Addr} (k : Ok B H) : Ok (putH B H as) H where
  ex := fun a u e => by
    rcases putH_cases e with ⟨o, _, h, q⟩ | q
    · cases q; exact .inl h
    · exact k.ex a u q
  iv := fun a φ e => by
    rcases putH_cases e with ⟨o, _, h, q⟩ | q
    · cases q
    · exact k.iv a φ q
theorem Stp.handedH {B1 : Bs} {H1 : Hp} {as : List Addr} (s : Stp B H B1 H1) (hb : ∀ a ∈ as, B1 a = none) (nh : ∀ a ∈ as, H a = none) : Stp B H (putH B1 H1 as) H1 where
  le := s.le.trans (Le.putH hb)
  ok := s.ok.putH
  keep := s.keep
  there := s.there
  new := fun a e k' n => by
    by_cases q : a ∈ as
    · exact .inl (nh a q)
    · rw [putH_out q] at n; exact s.new a e k' n
/-- an object of one's own is changed -/
theorem Stp.chg {b : Base} {p : Addr} {u : HO} (s : Stp b.B b.H B H) (hb : B p = none) (nh : b.H p = none) : Stp b.B b.H B (upd H p u) where
  le := s.le
  ok := {
    ex := fun a w e => by
      have q : a ≠ p := by rintro rfl; rw [hb] at e; cases e
      rcases s.ok.ex a w e with z | ⟨l, o, z⟩
      · exact .inl (by rw [upd_ne q]; exact z)
      · exact .inr ⟨l, o, by rw [upd_ne q]; exact z⟩
    iv := fun a φ e => by
      have q : a ≠ p := by rintro rfl; rw [hb] at e; cases e
      obtain ⟨o, z, f⟩ := s.ok.iv a φ e
      exact ⟨o, by rw [upd_ne q]; exact z, f⟩ }
  keep := fun a o e n => by
    rw [upd_ne (ne_of_none e nh)]
    exact s.keep a o e n
  there := fun a e => by
    by_cases q : a = p
    · subst q; rw [upd_same]; simp
    · rw [upd_ne q]; exact s.there a e
  new := s.new
end

/-! ### the context of a def -/
structure Gx where
  X : Cx
  b : Base
  W : WX
  k : Nat
structure Gx.Wf (g : Gx) : Prop where
  tk : L2N.Takes g.X g.W
  hr : g.X.calm = true → Room g.k g.X.A
  po : PassesOwn (model g.X.prog g.X.w) g.X.A g.X.env g.X.xe
  nd : g.X.N.Nodup
  bok : Ok g.b.B g.b.H

/-- an expression: from Γ to a value of P, Γ as it was -/
structure JE (g : Gx) (e : Expr) (Γ : Gm) (P : Pr) : Prop where
  run : g.Wf → ∀ σ B H, Sta g.b Γ σ B H → WE g.X e (fun v H' => ∃ B', Aft g.b Γ σ B H B' H' ∧ P.r B' v) σ H
/-- .. to a new object of one's own -/
structure JO (g : Gx) (e : Expr) (Γ : Gm) (c : Oc) : Prop where
  run : g.Wf → ∀ σ B H, Sta g.b Γ σ B H → WE g.X e (fun v H' => ∃ B', Aft g.b Γ σ B H B' H' ∧ Own g.b c v B' H' ∧ ∀ a ∈ c.ad v H', H a = none) σ H
/-- a test -/
structure JT (g : Gx) (e : Expr) (Γ : Gm) (c : Bool) : Prop where
  run : g.Wf → ∀ σ B H, Sta g.b Γ σ B H → WT g.X e (fun v H' => ∃ B', Aft g.b Γ σ B H B' H' ∧ v = c) σ H
structure JW (g : Gx) (e : Expr) (Γ : Gm) (c : Bool) : Prop where
  run : g.Wf → ∀ σ B H, Sta g.b Γ σ B H → WW g.X e (fun v H' => ∃ B', Aft g.b Γ σ B H B' H' ∧ v = c) σ H
/-- values by predicates -/
def F2 (B : Bs) : List V → List Pr → Prop
  | [], [] => True
  | v :: vs, r :: rs => r.r B v ∧ F2 B vs rs
  | _, _ => False
theorem F2.mono {B B' : Bs} (l : Le B B') : ∀ {vs : List V} {rs : List Pr}, F2 B vs rs → F2 B' vs rs
  | [], [], _ => trivial
  | _ :: _, r :: _, h => ⟨r.mono _ _ _ l h.1, F2.mono l h.2⟩
  | [], _ :: _, h => h.elim
  | _ :: _, [], h => h.elim
theorem F2.len {B : Bs} : ∀ {vs : List V} {rs : List Pr}, F2 B vs rs → vs.length = rs.length
  | [], [], _ => rfl
  | _ :: _, _ :: _, h => congrArg (· + 1) (F2.len h.2)
  | [], _ :: _, h => h.elim
  | _ :: _, [], h => h.elim
theorem F2.get {B : Bs} : ∀ {vs : List V} {rs : List Pr} {i : Nat} {r : Pr}, F2 B vs rs → rs[i]? = some r → ∃ v, vs[i]? = some v ∧ r.r B v
  | [], [], _, _, _, e => by simp at e
  | v :: _, r' :: _, 0, r, h, e => by
    have q : r' = r := by simpa using e
    subst q
    exact ⟨v, rfl, h.1⟩
  | _ :: vs, _ :: rs, i + 1, r, h, e => by
    obtain ⟨v, a, c⟩ := F2.get (i := i) (r := r) h.2 (by simpa using e)
    exact ⟨v, by simpa using a, c⟩
  | [], _ :: _, _, _, h, _ => h.elim
  | _ :: _, [], _, _, h, _ => h.elim
theorem F2.append {B : Bs} : ∀ {vs ws : List V} {rs qs : List Pr}, F2 B vs rs → F2 B ws qs → F2 B (vs ++ ws) (rs ++ qs)
  | [], _, [], _, _, h => h
  | _ :: _, _, _ :: _, _, h, k => ⟨h.1, F2.append h.2 k⟩
  | [], _, _ :: _, _, h, _ => h.elim
  | _ :: _, _, [], _, h, _ => h.elim
theorem F2.take {B : Bs} : ∀ {vs : List V} {rs : List Pr} (n : Nat), F2 B vs rs → F2 B (vs.take n) (rs.take n)
  | _, _, 0, _ => trivial
  | [], [], _ + 1, h => h
  | _ :: _, _ :: _, n + 1, h => ⟨h.1, F2.take n h.2⟩
  | [], _ :: _, _, h => h.elim
  | _ :: _, [], _, h => h.elim
theorem F2.drop {B : Bs} : ∀ {vs : List V} {rs : List Pr} (n : Nat), F2 B vs rs → F2 B (vs.drop n) (rs.drop n)
  | _, _, 0, h => h
  | [], [], _ + 1, h => h
  | _ :: _, _ :: _, n + 1, h => F2.drop n h.2
  | [], _ :: _, _, h => h.elim
  | _ :: _, [], _, h => h.elim
theorem F2.set {B : Bs} {x : V} {r : Pr} (k : r.r B x) : ∀ {vs : List V} {rs : List Pr} (n : Nat), F2 B vs rs → F2 B (vs.set n x) (rs.set n r)
  | [], [], _, h => h
  | _ :: _, _ :: _, 0, h => ⟨k, h.2⟩
  | _ :: _, _ :: _, n + 1, h => ⟨h.1, F2.set k n h.2⟩
  | [], _ :: _, _, h => h.elim
  | _ :: _, [], _, h => h.elim
theorem F2.one {B : Bs} {vs : List V} {P : Pr} (f : F2 B vs [P]) : ∃ v, vs = [v] ∧ P.r B v := by
  cases vs with
  | nil => exact f.elim
  | cons v vs =>
    cases vs with
    | nil => exact ⟨v, rfl, f.1⟩
    | cons _ _ => exact f.2.elim
theorem F2.two {B : Bs} {vs : List V} {P Q : Pr} (f : F2 B vs [P, Q]) : ∃ v u, vs = [v, u] ∧ P.r B v ∧ Q.r B u := by
  cases vs with
  | nil => exact f.elim
  | cons v vs =>
    obtain ⟨u, rfl, h⟩ := F2.one f.2
    exact ⟨v, u, rfl, f.1, h⟩
structure JA (g : Gx) (es : List Expr) (Γ : Gm) (Ps : List Pr) : Prop where
  run : g.Wf → ∀ σ B H, Sta g.b Γ σ B H → WA g.X es (fun vs H' => ∃ B', Aft g.b Γ σ B H B' H' ∧ F2 B' vs Ps) σ H
end G
set_option Elab.async false
set_option linter.all false
set_option maxRecDepth 100000
set_option maxHeartbeats 2000000
namespace G
open PySem L2

/-! ### the predicates -/
def rV (x : V) : Pr := ⟨fun _ v => v = x, fun _ _ _ _ h => h⟩
abbrev rI (i : Int) : Pr := rV (.int i)
abbrev rB (b : Bool) : Pr := rV (.bl b)
abbrev rS (s : Str) : Pr := rV (.str s)
abbrev rN : Pr := rV .non
/-- some a -/
def Pr.ex {ι : Type} (f : ι → Pr) : Pr := ⟨fun B v => ∃ a, (f a).r B v, fun _ _ _ l ⟨a, h⟩ => ⟨a, (f a).mono _ _ _ l h⟩⟩
/-- under φ -/
def Pr.gd (φ : Prop) (P : Pr) : Pr := ⟨fun B v => φ ∧ P.r B v, fun _ _ _ l ⟨a, h⟩ => ⟨a, P.mono _ _ _ l h⟩⟩
def Pr.or (P Q : Pr) : Pr := ⟨fun B v => P.r B v ∨ Q.r B v, fun _ _ _ l h => h.imp (P.mono _ _ _ l) (Q.mono _ _ _ l)⟩
abbrev Pr.exs {ι : Type} (φ : ι → Prop) (f : ι → Pr) : Pr := Pr.ex fun a => Pr.gd (φ a) (f a)
abbrev rIx (φ : Int → Prop) : Pr := Pr.exs φ rI
/-- a list, a tuple at p over the ground -/
def atL (K : PySem.W.Frag) (B : Bs) (p : Addr) (vs : List V) : Prop := B p = some (.ex (.lst vs))
def atT (K : PySem.W.Frag) (B : Bs) (p : Addr) (vs : List V) : Prop := B p = some (.ex (.tup vs)) ∨ ∃ (o : Obj) (its : Array Value) (n : Nat), K.lookup p = some o ∧ o.cls = .type "tuple" ∧ o.data = .seq its n ∧ its.size ≤ sizeLine ∧ Vals vs its.toList
theorem atL.mono {K : PySem.W.Frag} {B B' : Bs} {p : Addr} {vs : List V} (l : Le B B') (h : atL K B p vs) : atL K B' p vs := l _ _ h
theorem atT.mono {K : PySem.W.Frag} {B B' : Bs} {p : Addr} {vs : List V} (l : Le B B') (h : atT K B p vs) : atT K B' p vs := h.imp (l _ _) id
theorem atL.at_ {K : PySem.W.Frag} {B : Bs} {H : Hp} {p : Addr} {vs : List V} (k : Ok B H) (h : atL K B p vs) : H p = some (.lst vs) := (k.ex _ _ h).hard rfl
theorem atL.sq {K : PySem.W.Frag} {B : Bs} {H : Hp} {p : Addr} {vs : List V} (k : Ok B H) (h : atL K B p vs) : SqL K H p vs := SqL.of (h.at_ k)
theorem atT.sq {K : PySem.W.Frag} {B : Bs} {H : Hp} {p : Addr} {vs : List V} (k : Ok B H) (h : atT K B p vs) : SqT K H p vs := h.imp (fun z => (k.ex _ _ z).rd) id
def rLs (K : PySem.W.Frag) (rs : List Pr) : Pr := ⟨fun B v => ∃ p vs, v = .ref p ∧ atL K B p vs ∧ F2 B vs rs, fun _ _ _ l ⟨p, vs, e, h, k⟩ => ⟨p, vs, e, h.mono l, k.mono l⟩⟩
def rTs (K : PySem.W.Frag) (rs : List Pr) : Pr := ⟨fun B v => ∃ p vs, v = .ref p ∧ atT K B p vs ∧ F2 B vs rs, fun _ _ _ l ⟨p, vs, e, h, k⟩ => ⟨p, vs, e, h.mono l, k.mono l⟩⟩
/-- own: a list -/
def one (v : V) : List Addr := match v with
  | .ref p => [p]
  | _ => []
def oL (rs : List Pr) : Oc where
  ad := fun v _ => one v
  r := fun B H v => ∃ p vs, v = .ref p ∧ H p = some (.lst vs) ∧ F2 B vs rs
  mono := fun _ _ _ _ l ⟨p, vs, e, h, k⟩ => ⟨p, vs, e, h, k.mono l⟩
  ast := fun _ _ _ _ => rfl
  rst := fun B H H' v g ⟨p, vs, e, h, k⟩ => ⟨p, vs, e, by subst e; rw [g p (by simp [one])]; exact h, k⟩
theorem own_one {b : Base} {rs : List Pr} {v : V} {B : Bs} {H : Hp} (h : Own b (oL rs) v B H) : ∃ p vs, v = .ref p ∧ B p = none ∧ b.H p = none ∧ H p = some (.lst vs) ∧ F2 B vs rs := by
  obtain ⟨p, vs, e, e2, f⟩ := h.at_
  subst e
  exact ⟨p, vs, rfl, h.nb p (by simp [oL, one]), h.nh p (by simp [oL, one]), e2, f⟩
theorem mem_one {a p : Addr} : a ∈ one (.ref p) ↔ a = p := by simp [one]
theorem own_mk {b : Base} {rs : List Pr} {p : Addr} {vs : List V} {B : Bs} {H : Hp} (h1 : B p = none) (h2 : b.H p = none) (h3 : H p = some (.lst vs)) (f : F2 B vs rs) : Own b (oL rs) (.ref p) B H :=
  ⟨fun a ha => by rw [mem_one.mp ha]; exact h1, fun a ha => by rw [mem_one.mp ha]; exact h2, fun a ha => by rw [mem_one.mp ha, h3]; exact hard_lst, p, vs, rfl, h3, f⟩
theorem one_fresh {p : Addr} {H : Hp} (h : H p = none) : ∀ a ∈ one (.ref p), H a = none := fun a ha => by rw [mem_one.mp ha]; exact h

section
variable {g : Gx} {Γ : Gm} {P Q R : Pr} {e e1 e2 : Expr} {pos : Pos}

theorem JE.imp (h : JE g e Γ P) (k : ∀ B v, P.r B v → Q.r B v) : JE g e Γ Q := ⟨fun w σ B H s => (h.run w σ B H s).mono fun _ _ ⟨B', a, p⟩ => ⟨B', a, k _ _ p⟩⟩
theorem JE.to (h : JE g e Γ P) (k : P = Q) : JE g e Γ Q := k ▸ h
theorem JT.to {c d : Bool} (h : JT g e Γ c) (k : c = d) : JT g e Γ d := k ▸ h
theorem JE.exI {ι : Type} {f : ι → Pr} (a : ι) (h : JE g e Γ (f a)) : JE g e Γ (Pr.ex f) := h.imp fun _ _ z => ⟨a, z⟩
theorem JE.gdI {φ : Prop} (p : φ) (h : JE g e Γ P) : JE g e Γ (Pr.gd φ P) := h.imp fun _ _ z => ⟨p, z⟩

/-! ### names, constants -/
theorem x_var (i : Nat) {x : Str} (hx : Γ[i]? = some (some (.sh P)) := by rfl) (hN : g.X.N[i]? = some x := by rfl) (hv : Vis g.X.env.scope x := by first | exact Or.inl rfl | exact Or.inr (Or.inl rfl) | exact Or.inr (Or.inr rfl))
    (hd : (x == ("__debug__" : Str)) = false := by decide) (hcd : (x == ("__classdict__" : Str)) = false := by decide) : JE g (.Name x pos) Γ P :=
  ⟨fun w σ B H s => ofE (pe_var hN hv hd hcd) (by
    obtain ⟨v, a, c⟩ := s.env.sh i P hx
    exact ⟨v, a, B, s.refl, c⟩)⟩
theorem x_c {v : V} (h : PE g.X e (tC v)) : JE g e Γ (rV v) := ⟨fun w σ B H s => ofE h ⟨B, s.refl, rfl⟩⟩
theorem x_int {i j} : JE g (.Constant (.int i) j pos) Γ (rI i) := x_c pe_int
theorem x_bl {i j} : JE g (.Constant (.bool i) j pos) Γ (rB i) := x_c pe_bl
theorem x_str {i j} : JE g (.Constant (.str i) j pos) Γ (rS i) := x_c pe_str
theorem x_non {j} : JE g (.Constant .none j pos) Γ rN := x_c pe_non
/-- a constant of the module -/
theorem x_glob {x : Str} {v : V} (h : ∃ u, g.X.mg x = some u ∧ RelV v u) (hg : Gl g.X x := by rfl) (hd : (x == ("__debug__" : Str)) = false := by decide) : JE g (.Name x pos) Γ (rV v) := by
  obtain ⟨u, h1, h2⟩ := h
  exact x_c (pe_glob hg h1 h2 hd)

/-! ### operators -/
/-- a two-place operation, by values -/
def Op2 (X : Cx) (r : R2) (P Q R : Pr) : Prop := ∀ B H v u (K : VK), Ok B H → P.r B v → Q.r B u → (∀ z B' H', Stp B H B' H' → R.r B' z → K z H') → r v u H K
theorem op2_run {X : Cx} {r : R2} {b : Base} {σ : L2.St} {B : Bs} {H : Hp} (h : Op2 X r P Q R) (s : Sta b Γ σ B H) {v u : V} (p : P.r B v) (q : Q.r B u) {K : VK} (k : ∀ z B' H', Aft b Γ σ B H B' H' → R.r B' z → K z H') : r v u H K :=
  h B H v u K s.st.ok p q fun z B' H' t c => k z B' H' (s.step t) c
theorem x_op {op : Operator} {r : R2} (ho : OpR g.X (binaryOp op) r) (hv : Op2 g.X r P Q R) (h1 : JE g e1 Γ P) (h2 : JE g e2 Γ Q) : JE g (.BinOp e1 op e2 pos) Γ R :=
  ⟨fun w σ B H s => ofE (pe_op ho pE pE) ((h1.run w σ B H s).mono fun v H1 ⟨B1, a1, p⟩ => (h2.run w σ B1 H1 a1.sta).mono fun u H2 ⟨B2, a2, q⟩ =>
    op2_run hv a2.sta (P.mono _ _ _ a2.le p) q fun z B' H' a3 c => ⟨B', (a1.trans a2).trans a3, c⟩)⟩
theorem x_cmpV {op : CmpOp} {r : R2} (ho : OpR g.X (compareOp op) r) (hv : Op2 g.X r P Q R) (h1 : JE g e1 Γ P) (h2 : JE g e2 Γ Q) (hm : behindInMarks op e2 = false := by first | exact nomark _ | rfl) : JE g (.Compare e1 [op] [e2] pos) Γ R :=
  ⟨fun w σ B H s => ofE (pe_cmpR ho pE pE hm) ((h1.run w σ B H s).mono fun v H1 ⟨B1, a1, p⟩ => (h2.run w σ B1 H1 a1.sta).mono fun u H2 ⟨B2, a2, q⟩ =>
    op2_run hv a2.sta (P.mono _ _ _ a2.le p) q fun z B' H' a3 c => ⟨B', (a1.trans a2).trans a3, c⟩)⟩
theorem x_cmpT {op : CmpOp} {r : R2} {c : Bool} (ho : OpR g.X (compareOp op) r) (hv : Op2 g.X r P Q (rB c)) (h1 : JE g e1 Γ P) (h2 : JE g e2 Γ Q) (hm : behindInMarks op e2 = false := by first | exact nomark _ | rfl) : JT g (.Compare e1 [op] [e2] pos) Γ c :=
  ⟨fun w σ B H s => ofT (pt_cmpR ho pE pE hm) ((h1.run w σ B H s).mono fun v H1 ⟨B1, a1, p⟩ => (h2.run w σ B1 H1 a1.sta).mono fun u H2 ⟨B2, a2, q⟩ =>
    op2_run hv a2.sta (P.mono _ _ _ a2.le p) q fun z B' H' a3 c => ⟨_, c, B', (a1.trans a2).trans a3, rfl⟩)⟩
theorem o_I0 {X : Cx} {f : Int → Int → V} {i j : Int} : Op2 X (rI0 f) (rI i) (rI j) (rV (f i j)) := fun B H v u K k p q c => ⟨i, j, p, q, c _ B H (Stp.refl k) rfl⟩
theorem o_I {X : Cx} {C : Int → Int → Prop} {f : Int → Int → V} {i j : Int} (hc : C i j) : Op2 X (L2.rI C f) (rI i) (rI j) (rV (f i j)) := fun B H v u K k p q c => ⟨i, j, p, q, hc, c _ B H (Stp.refl k) rfl⟩
theorem x_add {i j : Int} (h1 : JE g e1 Γ (rI i)) (h2 : JE g e2 Γ (rI j)) : JE g (.BinOp e1 .Add e2 pos) Γ (rI (i + j)) := x_op op_add o_I0 h1 h2
theorem x_sub {i j : Int} (h1 : JE g e1 Γ (rI i)) (h2 : JE g e2 Γ (rI j)) : JE g (.BinOp e1 .Sub e2 pos) Γ (rI (i - j)) := x_op op_sub o_I0 h1 h2
theorem x_mul {i j : Int} (hc : CMul i j) (h1 : JE g e1 Γ (rI i)) (h2 : JE g e2 Γ (rI j)) : JE g (.BinOp e1 .Mult e2 pos) Γ (rI (i * j)) := x_op op_mul (o_I hc) h1 h2
theorem x_fdiv {i j : Int} (hc : CDiv i j) (h1 : JE g e1 Γ (rI i)) (h2 : JE g e2 Γ (rI j)) : JE g (.BinOp e1 .FloorDiv e2 pos) Γ (rI (i / j)) := x_op op_fdiv (o_I hc) h1 h2
theorem x_mod {i j : Int} (hc : 0 < j) (h1 : JE g e1 Γ (rI i)) (h2 : JE g e2 Γ (rI j)) : JE g (.BinOp e1 .Mod e2 pos) Γ (rI (i % j)) := x_op op_mod (o_I hc) h1 h2
theorem x_neg {i : Int} (h1 : JE g e1 Γ (rI i)) : JE g (.UnaryOp .USub e1 pos) Γ (rI (-i)) :=
  ⟨fun w σ B H s => ofE (pe_un un_neg pE) ((h1.run w σ B H s).mono fun v H1 ⟨B1, a1, p⟩ => ⟨i, p, B1, a1, rfl⟩)⟩
/-- ints by words of them -/
theorem o_I0x {X : Cx} {f : Int → Int → Int} {φ ψ : Int → Prop} : Op2 X (rI0 fun i j => .int (f i j)) (rIx φ) (rIx ψ) (rIx fun k => ∃ i j, φ i ∧ ψ j ∧ k = f i j) := fun B H v u K k ⟨i, a, p⟩ ⟨j, c, q⟩ t => ⟨i, j, p, q, t _ B H (Stp.refl k) ⟨_, ⟨i, j, a, c, rfl⟩, rfl⟩⟩
theorem o_Ix {X : Cx} {C : Int → Int → Prop} {f : Int → Int → Int} {φ ψ : Int → Prop} (hc : ∀ i j, φ i → ψ j → C i j) : Op2 X (L2.rI C fun i j => .int (f i j)) (rIx φ) (rIx ψ) (rIx fun k => ∃ i j, φ i ∧ ψ j ∧ k = f i j) := fun B H v u K k ⟨i, a, p⟩ ⟨j, c, q⟩ t => ⟨i, j, p, q, hc i j a c, t _ B H (Stp.refl k) ⟨_, ⟨i, j, a, c, rfl⟩, rfl⟩⟩
theorem JE.ix {i : Int} (h : JE g e Γ (rI i)) : JE g e Γ (rIx (· = i)) := h.imp fun _ _ z => ⟨i, rfl, z⟩
theorem JE.iw {φ ψ : Int → Prop} (h : JE g e Γ (rIx φ)) (k : ∀ i, φ i → ψ i) : JE g e Γ (rIx ψ) := h.imp fun _ _ ⟨i, a, z⟩ => ⟨i, k i a, z⟩
/-- an expression once its part is known: the general way -/
theorem x_addx {φ ψ : Int → Prop} (h1 : JE g e1 Γ (rIx φ)) (h2 : JE g e2 Γ (rIx ψ)) : JE g (.BinOp e1 .Add e2 pos) Γ (rIx fun k => ∃ i j, φ i ∧ ψ j ∧ k = i + j) := x_op op_add o_I0x h1 h2
theorem x_mulx {φ ψ : Int → Prop} (hc : ∀ i j, φ i → ψ j → CMul i j) (h1 : JE g e1 Γ (rIx φ)) (h2 : JE g e2 Γ (rIx ψ)) : JE g (.BinOp e1 .Mult e2 pos) Γ (rIx fun k => ∃ i j, φ i ∧ ψ j ∧ k = i * j) := x_op op_mul (o_Ix hc) h1 h2

/-! comparisons of ints -/
theorem x_lt {i j : Int} (h1 : JE g e1 Γ (rI i)) (h2 : JE g e2 Γ (rI j)) : JE g (.Compare e1 [.Lt] [e2] pos) Γ (rB (decide (i < j))) := x_cmpV op_lt o_I0 h1 h2
theorem x_le {i j : Int} (h1 : JE g e1 Γ (rI i)) (h2 : JE g e2 Γ (rI j)) : JE g (.Compare e1 [.LtE] [e2] pos) Γ (rB (decide (i ≤ j))) := x_cmpV op_le o_I0 h1 h2
theorem x_gt {i j : Int} (h1 : JE g e1 Γ (rI i)) (h2 : JE g e2 Γ (rI j)) : JE g (.Compare e1 [.Gt] [e2] pos) Γ (rB (decide (j < i))) := x_cmpV op_gt o_I0 h1 h2
theorem x_ge {i j : Int} (h1 : JE g e1 Γ (rI i)) (h2 : JE g e2 Γ (rI j)) : JE g (.Compare e1 [.GtE] [e2] pos) Γ (rB (decide (j ≤ i))) := x_cmpV op_ge o_I0 h1 h2
theorem t_lt {i j : Int} (h1 : JE g e1 Γ (rI i)) (h2 : JE g e2 Γ (rI j)) : JT g (.Compare e1 [.Lt] [e2] pos) Γ (decide (i < j)) := x_cmpT op_lt o_I0 h1 h2
theorem t_le {i j : Int} (h1 : JE g e1 Γ (rI i)) (h2 : JE g e2 Γ (rI j)) : JT g (.Compare e1 [.LtE] [e2] pos) Γ (decide (i ≤ j)) := x_cmpT op_le o_I0 h1 h2
theorem t_gt {i j : Int} (h1 : JE g e1 Γ (rI i)) (h2 : JE g e2 Γ (rI j)) : JT g (.Compare e1 [.Gt] [e2] pos) Γ (decide (j < i)) := x_cmpT op_gt o_I0 h1 h2
theorem t_ge {i j : Int} (h1 : JE g e1 Γ (rI i)) (h2 : JE g e2 Γ (rI j)) : JT g (.Compare e1 [.GtE] [e2] pos) Γ (decide (j ≤ i)) := x_cmpT op_ge o_I0 h1 h2
/-- a < b < c -/
theorem x_chain {op op' : CmpOp} {r r' : R2} {e3 : Expr} {T : Pr} {c d : Bool} (ho : OpR g.X (compareOp op) r) (ho' : OpR g.X (compareOp op') r') (hv : Op2 g.X r P Q (rB c)) (hv' : Op2 g.X r' Q T (rB d)) (h1 : JE g e1 Γ P) (h2 : JE g e2 Γ Q) (h3 : JE g e3 Γ T)
    (hm : lastMarks [op, op'] [e2, e3] = false := by with_unfolding_all rfl) : JE g (.Compare e1 [op, op'] [e2, e3] pos) Γ (rB (c && d)) :=
  ⟨fun w σ B H s => ofE (pe_chain ho ho' pE pE pE hm) ((h1.run w σ B H s).mono fun v H1 ⟨B1, a1, p⟩ => (h2.run w σ B1 H1 a1.sta).mono fun u H2 ⟨B2, a2, q⟩ =>
    op2_run hv a2.sta (P.mono _ _ _ a2.le p) q fun z B' H' a3 z1 => ⟨c, z1, by
      cases c with
      | true =>
        rw [if_pos rfl]
        exact (h3.run w σ B' H' a3.sta).mono fun t H4 ⟨B4, a4, q4⟩ => op2_run hv' a4.sta (Q.mono _ _ _ (a3.le.trans a4.le) q) q4 fun z B5 H5 a5 z2 => ⟨B5, ((a1.trans a2).trans a3).trans (a4.trans a5), z2⟩
      | false => rw [if_neg (by decide)]; exact ⟨B', (a1.trans a2).trans a3, rfl⟩⟩)⟩
theorem t_chain {op op' : CmpOp} {r r' : R2} {e3 : Expr} {T : Pr} {c d : Bool} (ho : OpR g.X (compareOp op) r) (ho' : OpR g.X (compareOp op') r') (hv : Op2 g.X r P Q (rB c)) (hv' : Op2 g.X r' Q T (rB d)) (h1 : JE g e1 Γ P) (h2 : JE g e2 Γ Q) (h3 : JE g e3 Γ T)
    (hm : lastMarks [op, op'] [e2, e3] = false := by with_unfolding_all rfl) : JT g (.Compare e1 [op, op'] [e2, e3] pos) Γ (c && d) :=
  ⟨fun w σ B H s => ofT (pt_chain ho ho' pE pE pE hm) ((h1.run w σ B H s).mono fun v H1 ⟨B1, a1, p⟩ => (h2.run w σ B1 H1 a1.sta).mono fun u H2 ⟨B2, a2, q⟩ =>
    op2_run hv a2.sta (P.mono _ _ _ a2.le p) q fun z B' H' a3 z1 => ⟨c, z1, by
      cases c with
      | true =>
        rw [if_pos rfl]
        exact (h3.run w σ B' H' a3.sta).mono fun t H4 ⟨B4, a4, q4⟩ => op2_run hv' a4.sta (Q.mono _ _ _ (a3.le.trans a4.le) q) q4 fun z B5 H5 a5 z2 => ⟨_, z2, B5, ((a1.trans a2).trans a3).trans (a4.trans a5), rfl⟩
      | false => rw [if_neg (by decide)]; exact ⟨_, rfl, B', (a1.trans a2).trans a3, rfl⟩⟩)⟩
/-- == of ints, bools, texts .. -/
theorem o_eq {X : Cx} {x y : V} (h : scal x y = true) : Op2 X rEq (rV x) (rV y) (rB (decide (x = y))) := fun B H v u K k p q c => by
  cases p; cases q
  exact ⟨h, c _ B H (Stp.refl k) rfl⟩
theorem o_ne {X : Cx} {x y : V} (h : scal x y = true) : Op2 X rNe (rV x) (rV y) (rB (!decide (x = y))) := fun B H v u K k p q c => by
  cases p; cases q
  exact ⟨h, c _ B H (Stp.refl k) rfl⟩
theorem dI {i j : Int} : decide (V.int i = V.int j) = decide (i = j) := by simp
theorem dS {i j : Str} : decide (V.str i = V.str j) = decide (i = j) := by simp
theorem dB {i j : Bool} : decide (V.bl i = V.bl j) = decide (i = j) := by simp
theorem x_eqI {i j : Int} (h1 : JE g e1 Γ (rI i)) (h2 : JE g e2 Γ (rI j)) : JE g (.Compare e1 [.Eq] [e2] pos) Γ (rB (decide (i = j))) := (x_cmpV op_eq (o_eq rfl) h1 h2).to (by rw [dI])
theorem x_neI {i j : Int} (h1 : JE g e1 Γ (rI i)) (h2 : JE g e2 Γ (rI j)) : JE g (.Compare e1 [.NotEq] [e2] pos) Γ (rB (!decide (i = j))) := (x_cmpV op_ne (o_ne rfl) h1 h2).to (by rw [dI])
theorem t_eqI {i j : Int} (h1 : JE g e1 Γ (rI i)) (h2 : JE g e2 Γ (rI j)) : JT g (.Compare e1 [.Eq] [e2] pos) Γ (decide (i = j)) := (x_cmpT op_eq (o_eq rfl) h1 h2).to (by rw [dI])
theorem t_neI {i j : Int} (h1 : JE g e1 Γ (rI i)) (h2 : JE g e2 Γ (rI j)) : JT g (.Compare e1 [.NotEq] [e2] pos) Γ (!decide (i = j)) := (x_cmpT op_ne (o_ne rfl) h1 h2).to (by rw [dI])
theorem x_eqS {i j : Str} (h1 : JE g e1 Γ (rS i)) (h2 : JE g e2 Γ (rS j)) : JE g (.Compare e1 [.Eq] [e2] pos) Γ (rB (decide (i = j))) := (x_cmpV op_eq (o_eq rfl) h1 h2).to (by rw [dS])
theorem x_neS {i j : Str} (h1 : JE g e1 Γ (rS i)) (h2 : JE g e2 Γ (rS j)) : JE g (.Compare e1 [.NotEq] [e2] pos) Γ (rB (!decide (i = j))) := (x_cmpV op_ne (o_ne rfl) h1 h2).to (by rw [dS])
theorem t_eqS {i j : Str} (h1 : JE g e1 Γ (rS i)) (h2 : JE g e2 Γ (rS j)) : JT g (.Compare e1 [.Eq] [e2] pos) Γ (decide (i = j)) := (x_cmpT op_eq (o_eq rfl) h1 h2).to (by rw [dS])
theorem t_neS {i j : Str} (h1 : JE g e1 Γ (rS i)) (h2 : JE g e2 Γ (rS j)) : JT g (.Compare e1 [.NotEq] [e2] pos) Γ (!decide (i = j)) := (x_cmpT op_ne (o_ne rfl) h1 h2).to (by rw [dS])
theorem t_eqB {i j : Bool} (h1 : JE g e1 Γ (rB i)) (h2 : JE g e2 Γ (rB j)) : JT g (.Compare e1 [.Eq] [e2] pos) Γ (decide (i = j)) := (x_cmpT op_eq (o_eq rfl) h1 h2).to (by rw [dB])
theorem t_neB {i j : Bool} (h1 : JE g e1 Γ (rB i)) (h2 : JE g e2 Γ (rB j)) : JT g (.Compare e1 [.NotEq] [e2] pos) Γ (!decide (i = j)) := (x_cmpT op_ne (o_ne rfl) h1 h2).to (by rw [dB])
/-- is None -/
theorem x_isN {i x : V} {j p'} (h1 : JE g e1 Γ (rV x)) : JE g (.Compare e1 [.Is] [.Constant .none j p'] pos) Γ (rB (decide (x = .non))) :=
  x_cmpV op_isN (fun B H v u K k p q c => by cases p; cases q; exact ⟨rfl, c _ B H (Stp.refl k) rfl⟩) h1 x_non
theorem t_isN {x : V} {j p'} (h1 : JE g e1 Γ (rV x)) : JT g (.Compare e1 [.Is] [.Constant .none j p'] pos) Γ (decide (x = .non)) :=
  x_cmpT op_isN (fun B H v u K k p q c => by cases p; cases q; exact ⟨rfl, c _ B H (Stp.refl k) rfl⟩) h1 x_non
theorem t_notN {x : V} {j p'} (h1 : JE g e1 Γ (rV x)) : JT g (.Compare e1 [.IsNot] [.Constant .none j p'] pos) Γ (!decide (x = .non)) :=
  x_cmpT op_notN (fun B H v u K k p q c => by cases p; cases q; exact ⟨rfl, c _ B H (Stp.refl k) rfl⟩) h1 x_non

/-! ### tests -/
/-- an expression that gives True or False -/
theorem t_val {c : Bool} (h : JE g e Γ (rB c)) (he : ∀ whole, isTrue e g.X.env whole = (do let v ← whole; standAt e.pos; holding [v] (truthy v)) := by intro _; rfl) : JT g e Γ c :=
  ⟨fun w σ B H s => ofT (pt_val pE he) ((h.run w σ B H s).mono fun v H1 ⟨B1, a1, p⟩ => ⟨c, p, B1, a1, rfl⟩)⟩
theorem t_not {c : Bool} (h : JT g e Γ c) : JT g (.UnaryOp .Not e pos) Γ (!c) :=
  ⟨fun w σ B H s => ofT (pt_not pT) ((h.run w σ B H s).mono fun v H1 ⟨B1, a1, p⟩ => ⟨B1, a1, by rw [p]⟩)⟩
theorem JW.t {c : Bool} (h : JW g e Γ c) : JT g e Γ c := ⟨fun w σ B H s pins s1 I => h.run w σ B H s _ pins s1 I⟩
theorem w_and1 {c : Bool} (h : JT g e Γ c) : JW g (.BoolOp .And [e] pos) Γ c := ⟨fun w σ B H s => ofW (pw_and1 pT) (h.run w σ B H s)⟩
theorem w_or1 {c : Bool} (h : JT g e Γ c) : JW g (.BoolOp .Or [e] pos) Γ c := ⟨fun w σ B H s => ofW (pw_or1 pT) (h.run w σ B H s)⟩
theorem w_and {c d : Bool} {rest : List Expr} (h : JT g e Γ c) (k : c = true → JW g (.BoolOp .And (e1 :: rest) pos) Γ d) : JW g (.BoolOp .And (e :: e1 :: rest) pos) Γ (c && d) :=
  ⟨fun w σ B H s => ofW (pw_and pT pW) ((h.run w σ B H s).mono fun v H1 ⟨B1, a1, p⟩ => by
    subst p
    cases v with
    | true => rw [if_pos rfl]; exact ((k rfl).run w σ B1 H1 a1.sta).mono fun u H2 ⟨B2, a2, q⟩ => ⟨B2, a1.trans a2, by rw [q]; rfl⟩
    | false => rw [if_neg (by decide)]; exact ⟨B1, a1, rfl⟩)⟩
theorem w_or {c d : Bool} {rest : List Expr} (h : JT g e Γ c) (k : c = false → JW g (.BoolOp .Or (e1 :: rest) pos) Γ d) : JW g (.BoolOp .Or (e :: e1 :: rest) pos) Γ (c || d) :=
  ⟨fun w σ B H s => ofW (pw_or pT pW) ((h.run w σ B H s).mono fun v H1 ⟨B1, a1, p⟩ => by
    subst p
    cases v with
    | false => rw [if_neg (by decide)]; exact ((k rfl).run w σ B1 H1 a1.sta).mono fun u H2 ⟨B2, a2, q⟩ => ⟨B2, a1.trans a2, by rw [q]; rfl⟩
    | true => rw [if_pos rfl]; exact ⟨B1, a1, rfl⟩)⟩
/-- .. as values -/
theorem x_one {op} (h : JE g e Γ P) : JE g (.BoolOp op [e] pos) Γ P := ⟨fun w σ B H s => ofE (pe_one pE) (h.run w σ B H s)⟩
theorem x_and {c d : Bool} {rest : List Expr} (h : JE g e Γ (rB c)) (k : c = true → JE g (.BoolOp .And (e1 :: rest) pos) Γ (rB d)) : JE g (.BoolOp .And (e :: e1 :: rest) pos) Γ (rB (c && d)) :=
  ⟨fun w σ B H s => ofE (pe_and pE pE) ((h.run w σ B H s).mono fun v H1 ⟨B1, a1, p⟩ => ⟨c, p, by
    cases c with
    | true => rw [if_pos rfl]; exact ((k rfl).run w σ B1 H1 a1.sta).mono fun u H2 ⟨B2, a2, q⟩ => ⟨B2, a1.trans a2, q⟩
    | false => rw [if_neg (by decide)]; exact ⟨B1, a1, rfl⟩⟩)⟩
theorem x_or {c d : Bool} {rest : List Expr} (h : JE g e Γ (rB c)) (k : c = false → JE g (.BoolOp .Or (e1 :: rest) pos) Γ (rB d)) : JE g (.BoolOp .Or (e :: e1 :: rest) pos) Γ (rB (c || d)) :=
  ⟨fun w σ B H s => ofE (pe_or pE pE) ((h.run w σ B H s).mono fun v H1 ⟨B1, a1, p⟩ => ⟨c, p, by
    cases c with
    | false => rw [if_neg (by decide)]; exact ((k rfl).run w σ B1 H1 a1.sta).mono fun u H2 ⟨B2, a2, q⟩ => ⟨B2, a1.trans a2, q⟩
    | true => rw [if_pos rfl]; exact ⟨B1, a1, rfl⟩⟩)⟩
theorem x_not {c : Bool} (h : JE g e Γ (rB c)) : JE g (.UnaryOp .Not e pos) Γ (rB (!c)) :=
  ⟨fun w σ B H s => ofE (pe_not pE) ((h.run w σ B H s).mono fun v H1 ⟨B1, a1, p⟩ => ⟨c, p, B1, a1, rfl⟩)⟩
theorem x_if {c : Bool} {P : Bool → Pr} (h : JT g e Γ c) (h1 : c = true → JE g e1 Γ (P true)) (h2 : c = false → JE g e2 Γ (P false)) : JE g (.IfExp e e1 e2 pos) Γ (P c) :=
  ⟨fun w σ B H s => ofE (pe_ifExp pT pE pE) ((h.run w σ B H s).mono fun v H1 ⟨B1, a1, p⟩ => by
    subst p
    cases v with
    | true => rw [if_pos rfl]; exact ((h1 rfl).run w σ B1 H1 a1.sta).mono fun u H2 ⟨B2, a2, q⟩ => ⟨B2, a1.trans a2, q⟩
    | false => rw [if_neg (by decide)]; exact ((h2 rfl).run w σ B1 H1 a1.sta).mono fun u H2 ⟨B2, a2, q⟩ => ⟨B2, a1.trans a2, q⟩)⟩

/-! ### argument lists, displays -/
theorem a_nil : JA g [] Γ [] := ⟨fun w σ B H s => ofA pa_nil ⟨B, s.refl, trivial⟩⟩
theorem a_cons {es : List Expr} {Ps : List Pr} (h : JE g e Γ P) (k : JA g es Γ Ps) (hs : starEach (e :: es) g.X.env = (false, eval e g.X.env) :: starEach es g.X.env := by rfl) : JA g (e :: es) Γ (P :: Ps) :=
  ⟨fun w σ B H s => ofA (pa_cons pE pA hs) ((h.run w σ B H s).mono fun v H1 ⟨B1, a1, p⟩ => (k.run w σ B1 H1 a1.sta).mono fun vs H2 ⟨B2, a2, q⟩ => ⟨B2, a1.trans a2, P.mono _ _ _ a2.le p, q⟩)⟩
theorem x_tup {es : List Expr} {Ps : List Pr} {k : Nat} (h : JA g es Γ Ps) (hl : Ps.length ≤ sizeLine := by exact Nat.le_of_ble_eq_true rfl) : JE g (.Tuple es k pos) Γ (rTs g.X.K Ps) :=
  ⟨fun w σ B H s => ofE (pe_tup pA) ((h.run w σ B H s).mono fun vs H1 ⟨B1, a1, p⟩ => ⟨by rw [p.len]; exact hl, fun q hq => ⟨_, a1.trans (a1.sta.lay hq), q, vs, rfl, .inl put_same, p.mono (a1.sta.lay (u := .tup vs) hq).le⟩⟩)⟩
theorem x_lst {es : List Expr} {Ps : List Pr} (h : JA g es Γ Ps) (hl : Ps.length ≤ sizeLine := by exact Nat.le_of_ble_eq_true rfl) : JE g (.List es pos) Γ (rLs g.X.K Ps) :=
  ⟨fun w σ B H s => ofE (pe_lst pA) ((h.run w σ B H s).mono fun vs H1 ⟨B1, a1, p⟩ => ⟨by rw [p.len]; exact hl, fun q hq => ⟨_, a1.trans (a1.sta.lay hq), q, vs, rfl, put_same, p.mono (a1.sta.lay (u := .lst vs) hq).le⟩⟩)⟩
theorem y_lst {es : List Expr} {Ps : List Pr} (h : JA g es Γ Ps) (hl : Ps.length ≤ sizeLine := by exact Nat.le_of_ble_eq_true rfl) : JO g (.List es pos) Γ (oL Ps) :=
  ⟨fun w σ B H s => ofE (pe_lst pA) ((h.run w σ B H s).mono fun vs H1 ⟨B1, a1, p⟩ => ⟨by rw [p.len]; exact hl, fun q hq =>
    ⟨_, a1.trans (a1.sta.beside hq), own_mk (a1.sta.st.ok.none hq) (a1.sta.st.bnone hq) upd_same p, one_fresh (a1.th hq)⟩⟩)⟩
/-- own things are handed on: their objects are laid on the ground -/
theorem JO.hand {c : Oc} (h : JO g e Γ c) (k : ∀ B H v, (∀ a ∈ c.ad v H, B a = none) → (∀ a ∈ c.ad v H, g.b.H a = none) → c.r B H v → P.r (putH B H (c.ad v H)) v) : JE g e Γ P :=
  ⟨fun w σ B H s => (h.run w σ B H s).mono fun v H1 ⟨B1, a1, o, hn⟩ => by
    have l : Le B1 (putH B1 H1 (c.ad v H1)) := Le.putH o.nb
    refine ⟨putH B1 H1 (c.ad v H1), ⟨a1.t.handedH o.nb hn, ⟨(s.st.trans a1.t).handedH o.nb o.nh, ⟨s.env.len, fun i r h => let ⟨v, e, k⟩ := a1.sta.env.sh i r h; ⟨v, e, r.mono _ _ _ l k⟩, fun i c' hc => ?_, a1.sta.env.dis⟩⟩⟩, k _ _ _ o.nb o.nh o.at_⟩
    obtain ⟨v0, e0, k0⟩ := s.env.ow i c' hc
    have k1 := k0.step a1.t
    have dj : ∀ a ∈ c'.ad v0 H1, a ∉ c.ad v H1 := fun a ha m => by
      rw [k0.ad_eq a1.t] at ha
      exact (k0.th a ha).ne (hn a m)
    exact ⟨v0, e0, fun a ha => by rw [putH_out (dj a ha)]; exact k1.nb a ha, k1.nh, k1.th, c'.mono _ _ _ _ l k1.at_⟩⟩
/-- a list that is new since the entry -/
def rLf (b : Base) (rs : List Pr) : Pr := ⟨fun B v => ∃ p vs, v = .ref p ∧ b.H p = none ∧ B p = some (.ex (.lst vs)) ∧ F2 B vs rs, fun _ _ _ l ⟨p, vs, e, n, h, k⟩ => ⟨p, vs, e, n, l _ _ h, k.mono l⟩⟩
theorem JO.fzF {Ps : List Pr} (h : JO g e Γ (oL Ps)) : JE g e Γ (rLf g.b Ps) :=
  h.hand fun B H v nb nh ⟨p, vs, e, hp, f⟩ => by
    subst e
    exact ⟨p, vs, rfl, nh p (mem_one.mpr rfl), putH_in (mem_one.mpr rfl) hp, f.mono (Le.putH nb)⟩
theorem rLf_le {K : PySem.W.Frag} {b : Base} {rs : List Pr} {B : Bs} {v : V} (h : (rLf b rs).r B v) : (rLs K rs).r B v := let ⟨p, vs, e, _, a, f⟩ := h; ⟨p, vs, e, a, f⟩
theorem JO.fz {Ps : List Pr} (h : JO g e Γ (oL Ps)) : JE g e Γ (rLs g.X.K Ps) :=
  h.hand fun B H v nb _ ⟨p, vs, e, hp, f⟩ => by
    subst e
    exact ⟨p, vs, rfl, putH_in (mem_one.mpr rfl) hp, f.mono (Le.putH nb)⟩
end
end G
set_option Elab.async false
set_option linter.all false
set_option maxRecDepth 100000
set_option maxHeartbeats 2000000
namespace G
open PySem L2

/-! ### what a def promises -/
def Res (b : Base) (S : Sl) (B : Bs) (H : Hp) (v : V) : Prop := match S with
  | .sh P => P.r B v
  | .ow c => Own b c v B H
structure Cs where
  as : List Pr
  rs : Base → Sl
  pre : Prop := True
  exc : Addr → Prop := fun _ => False
/-- a contract, one for each ghost -/
def spT {ι : Type} (φ : ι → Cs) : L2.Sp := fun vs H Q E => ∃ i B, (φ i).pre ∧ Ok B H ∧ F2 B vs (φ i).as ∧
  (∀ v B' H', Stp B H B' H' → Res ⟨B, H⟩ ((φ i).rs ⟨B, H⟩) B' H' v → Q v H') ∧ (∀ C d B' H', Stp B H B' H' → (φ i).exc C → d = none → E (.ref C) d H')
/-- the universe: the program, the world, the written part, the module's names, the base -/
structure Uv where
  P : Program
  w : World
  K : PySem.W.Frag
  mg : Str → Option Value
  base : Heap
structure UvOf (U : Uv) (X : Cx) : Prop where
  P : X.prog = U.P
  w : X.w = U.w
  K : X.K = U.K
  mg : X.mg = U.mg
  base : X.base = U.base
/-- the module's name x stands for a def that keeps its contract -/
structure Fd (U : Uv) (x : Str) (k : Nat) (ps : List Str) {ι : Type} (φ : ι → Cs) : Prop where
  ok : ∃ f fd, U.mg x = some (.ref f) ∧ PySem.W.keepIn U.K (.ref f) = true ∧ Binds U.K fd ps [] ∧ FnOk U.P U.w U.K U.mg U.base (L2N.CX U.P U.w) k f fd ps (spT φ)
theorem Fd.mono {U : Uv} {x : Str} {j k : Nat} {ps : List Str} {ι : Type} {φ : ι → Cs} (h : Fd U x j ps φ) (l : j ≤ k) : Fd U x k ps φ := by
  obtain ⟨f, fd, a, b, c, d⟩ := h.ok
  exact ⟨f, fd, a, b, c, d.mono l⟩
/-- the contract entails another -/
def CsLe {ι κ : Type} (φ : ι → Cs) (ψ : κ → Cs) : Prop := ∀ j, (ψ j).pre → ∃ i, (φ i).pre ∧ (φ i).as = (ψ j).as ∧ (φ i).rs = (ψ j).rs ∧ ∀ C, (φ i).exc C → (ψ j).exc C
theorem Fd.imp {U : Uv} {x : Str} {k : Nat} {ps : List Str} {ι κ : Type} {φ : ι → Cs} {ψ : κ → Cs} (h : Fd U x k ps φ) (l : CsLe φ ψ) : Fd U x k ps ψ := by
  obtain ⟨f, fd, a, b, c, d⟩ := h.ok
  refine ⟨f, fd, a, b, c, d.imp fun vs H Q E ⟨j, B, p, o, q, r, s⟩ => ?_⟩
  obtain ⟨i, p', e1, e2, e3⟩ := l j p
  exact ⟨i, B, p', o, by rw [e1]; exact q, by rw [e2]; exact r, fun C d B' H' t z => s C d B' H' t (e3 C z)⟩

section
variable {g : Gx} {Γ : Gm} {P Q R : Pr} {e e1 e2 : Expr} {pos : Pos} {U : Uv}
/-- what an exception of class C, raised here, is wished to do: W takes it -/
def Lets (g : Gx) (Γ : Gm) (exc : Addr → Prop) : Prop := ∀ C d σ B H, exc C → Sta g.b Γ σ B H → d = none → g.W (.ref C) d σ H
theorem Lets.none : Lets g Γ (fun _ => False) := fun _ _ _ _ _ h => h.elim
theorem Res.up {b c : Base} {S : Sl} {B : Bs} {H : Hp} {v : V} (t : Stp b.B b.H c.B c.H) (h : Res c S B H v) : Res b S B H v := by
  cases S with
  | sh P => exact h
  | ow o =>
    exact ⟨h.nb, fun a ha => t.bnone (h.nh a ha), h.th, h.at_⟩
/-- the call's reading at work -/
theorem call_run {ι : Type} {φ : ι → Cs} {i : ι} {σ : L2.St} {B B1 : Bs} {H H1 : Hp} {vs : List V} (s : Sta g.b Γ σ B H) (a1 : Aft g.b Γ σ B H B1 H1) (p : (φ i).pre) (f : F2 B1 vs (φ i).as) (hx : Lets g Γ (φ i).exc) {K : VK}
    (k : ∀ v B' H', Aft g.b Γ σ B H B' H' → Res ⟨B1, H1⟩ ((φ i).rs ⟨B1, H1⟩) B' H' v → K v H') : spT φ (vs ++ []) H1 K (L2.WE g.W σ) := by
  rw [List.append_nil]
  refine ⟨i, B1, p, a1.sta.st.ok, f, fun v B' H' t r => k v B' H' (a1.trans (a1.sta.step t)) r, fun C d B' H' t z => ?_⟩
  exact hx C d σ B' H' z (a1.sta.step t).sta
theorem x_call {x : Str} {k : Nat} {ps : List Str} {ι : Type} {φ : ι → Cs} {es : List Expr} {p : Pos} (F : Fd U x k ps φ) (i : ι) (h : JA g (e :: es) Γ (φ i).as) (hs : ∀ b1, (φ i).rs b1 = .sh R := by exact fun _ => rfl) (hp : (φ i).pre := by trivial) (hx : Lets g Γ (φ i).exc := by exact Lets.none) (hk : k ≤ g.k := by exact Nat.le_of_ble_eq_true rfl)
    (hU : UvOf U g.X := by exact ⟨rfl, rfl, rfl, rfl, rfl⟩) (hg : Gl g.X x := by rfl) (hdb : (x == ("__debug__" : Str)) = false := by decide) (he : starEach (e :: es) g.X.env = (false, eval e g.X.env) :: starEach es g.X.env := by rfl) (hpl : (backTo pos (starEach es g.X.env)).any (·.1) = false := by rfl) (hcm : g.X.calm = true := by rfl) :
    JE g (.Call (.Name x p) (e :: es) [] pos) Γ R := by
  obtain ⟨f, fd, a, kp, c, d⟩ := F.ok
  obtain ⟨u1, u2, u3, u4, u5⟩ := hU
  refine ⟨fun w σ B H s => ?_⟩
  refine (ofE (pe_callS (E := L2.WE g.W) (by rw [u1, u2, u3, u4, u5]; exact d) ((w.hr hcm).mono hk) hg (by rw [u4]; exact a) (by rw [u3]; exact kp) (by rw [u3]; exact c) (by rw [← u1, ← u2]; exact fun σ => L2N.passAt w.tk σ) pA hdb he hpl) ?_)
  refine (h.run w σ B H s).mono fun vs H1 ⟨B1, a1, q⟩ => ?_
  have z := call_run (φ := φ) (i := i) s a1 hp q hx (K := fun v H' => ∃ B', Aft g.b Γ σ B H B' H' ∧ R.r B' v) fun v B' H' a r => ⟨B', a, by rw [hs] at r; exact r⟩
  rw [List.append_nil] at z
  exact z
/-- .. whose value is told of the state at the call -/
theorem x_callF {R : Base → Pr} {x : Str} {k : Nat} {ps : List Str} {ι : Type} {φ : ι → Cs} {es : List Expr} {p : Pos} (F : Fd U x k ps φ) (i : ι) (h : JA g (e :: es) Γ (φ i).as) (hs : ∀ b1, (φ i).rs b1 = .sh (R b1) := by exact fun _ => rfl) (hp : (φ i).pre := by trivial) (hx : Lets g Γ (φ i).exc := by exact Lets.none) (hk : k ≤ g.k := by exact Nat.le_of_ble_eq_true rfl)
    (hU : UvOf U g.X := by exact ⟨rfl, rfl, rfl, rfl, rfl⟩) (hg : Gl g.X x := by rfl) (hdb : (x == ("__debug__" : Str)) = false := by decide) (he : starEach (e :: es) g.X.env = (false, eval e g.X.env) :: starEach es g.X.env := by rfl) (hpl : (backTo pos (starEach es g.X.env)).any (·.1) = false := by rfl) (hcm : g.X.calm = true := by rfl) :
    JE g (.Call (.Name x p) (e :: es) [] pos) Γ (Pr.exs (fun b1 : Base => ∀ a, b1.H a = none → g.b.H a = none) R) := by
  obtain ⟨f, fd, a, kp, c, d⟩ := F.ok
  obtain ⟨u1, u2, u3, u4, u5⟩ := hU
  refine ⟨fun w σ B H s => ?_⟩
  refine (ofE (pe_callS (E := L2.WE g.W) (by rw [u1, u2, u3, u4, u5]; exact d) ((w.hr hcm).mono hk) hg (by rw [u4]; exact a) (by rw [u3]; exact kp) (by rw [u3]; exact c) (by rw [← u1, ← u2]; exact fun σ => L2N.passAt w.tk σ) pA hdb he hpl) ?_)
  refine (h.run w σ B H s).mono fun vs H1 ⟨B1, a1, q⟩ => ?_
  have z := call_run (φ := φ) (i := i) s a1 hp q hx (K := fun v H' => ∃ B', Aft g.b Γ σ B H B' H' ∧ (Pr.exs (fun b1 : Base => ∀ a, b1.H a = none → g.b.H a = none) R).r B' v) fun v B' H' a r => ⟨B', a, ⟨B1, H1⟩, fun x hx => a1.sta.st.bnone hx, by rw [hs] at r; exact r⟩
  rw [List.append_nil] at z
  exact z
theorem y_call {x : Str} {k : Nat} {ps : List Str} {ι : Type} {φ : ι → Cs} {es : List Expr} {p : Pos} {c : Oc} (F : Fd U x k ps φ) (i : ι) (h : JA g (e :: es) Γ (φ i).as) (hs : ∀ b1, (φ i).rs b1 = .ow c := by exact fun _ => rfl) (hp : (φ i).pre := by trivial) (hx : Lets g Γ (φ i).exc := by exact Lets.none) (hk : k ≤ g.k := by exact Nat.le_of_ble_eq_true rfl)
    (hU : UvOf U g.X := by exact ⟨rfl, rfl, rfl, rfl, rfl⟩) (hg : Gl g.X x := by rfl) (hdb : (x == ("__debug__" : Str)) = false := by decide) (he : starEach (e :: es) g.X.env = (false, eval e g.X.env) :: starEach es g.X.env := by rfl) (hpl : (backTo pos (starEach es g.X.env)).any (·.1) = false := by rfl) (hcm : g.X.calm = true := by rfl) :
    JO g (.Call (.Name x p) (e :: es) [] pos) Γ c := by
  obtain ⟨f, fd, a, kp, cc, d⟩ := F.ok
  obtain ⟨u1, u2, u3, u4, u5⟩ := hU
  refine ⟨fun w σ B H s => ?_⟩
  refine (ofE (pe_callS (E := L2.WE g.W) (by rw [u1, u2, u3, u4, u5]; exact d) ((w.hr hcm).mono hk) hg (by rw [u4]; exact a) (by rw [u3]; exact kp) (by rw [u3]; exact cc) (by rw [← u1, ← u2]; exact fun σ => L2N.passAt w.tk σ) pA hdb he hpl) ?_)
  refine (h.run w σ B H s).mono fun vs H1 ⟨B1, a1, q⟩ => ?_
  have z := call_run (φ := φ) (i := i) s a1 hp q hx (K := fun v H' => ∃ B', Aft g.b Γ σ B H B' H' ∧ Own g.b c v B' H' ∧ ∀ a ∈ c.ad v H', H a = none) fun v B' H' a r => by
    rw [hs] at r
    have r : Own ⟨B1, H1⟩ c v B' H' := r
    exact ⟨B', a, ⟨r.nb, fun x hx => a1.sta.st.bnone (r.nh x hx), r.th, r.at_⟩, fun x hx => a1.th (r.nh x hx)⟩
  rw [List.append_nil] at z
  exact z

/-! ### statements -/
/-- what is wanted behind a block that began over the ground B -/
structure En where
  nx : Bs → L2.St → Hp → Prop
  rt : VK
  bk : Bs → L2.St → Hp → Prop := fun _ _ _ => False
  ct : Bs → L2.St → Hp → Prop := fun _ _ _ => False
  anx : ∀ B B' σ H, Le B B' → nx B' σ H → nx B σ H := by exact fun _ _ _ _ _ h => h
  abk : ∀ B B' σ H, Le B B' → bk B' σ H → bk B σ H := by exact fun _ _ _ _ _ h => h
  act : ∀ B B' σ H, Le B B' → ct B' σ H → ct B σ H := by exact fun _ _ _ _ _ h => h
def En.at_ (D : En) (B : Bs) : Ends := ⟨D.nx B, D.rt, D.bk B, D.ct B⟩
theorem En.anti (D : En) {B B' : Bs} (l : Le B B') : Ends.Le (D.at_ B') (D.at_ B) := ⟨fun σ H => D.anx B B' σ H l, fun _ _ h => h, fun σ H => D.abk B B' σ H l, fun σ H => D.act B B' σ H l⟩
structure JS (g : Gx) (ss : List Stmt) (Γ : Gm) (D : En) : Prop where
  run : g.Wf → ∀ σ B H, Sta g.b Γ σ B H → WS g.X ss (D.at_ B) σ H
theorem JS.go {D : En} {ss : List Stmt} (h : JS g ss Γ D) (w : g.Wf) {σ : L2.St} {B B' : Bs} {H : Hp} (l : Le B B') (s : Sta g.b Γ σ B' H) : WS g.X ss (D.at_ B) σ H := (h.run w σ B' H s).mono (D.anti l)
def Nx (b : Base) (Γ : Gm) : Bs → L2.St → Hp → Prop := fun B σ H => ∃ B', Le B B' ∧ Sta b Γ σ B' H
theorem Nx.anti {b : Base} : ∀ B B' σ H, Le B B' → Nx b Γ B' σ H → Nx b Γ B σ H := fun _ _ _ _ l ⟨B', l', s⟩ => ⟨B', l.trans l', s⟩
/-- .. then the rest -/
def En.thn (D : En) (X : Cx) (rest : List Stmt) : En := { D with nx := fun B σ' H' => WS X rest (D.at_ B) σ' H', anx := fun _ _ _ _ l h => h.mono (D.anti l) }
def En.to (D : En) (b : Base) (Γ : Gm) : En := { D with nx := Nx b Γ, anx := Nx.anti }
def En.lp (D : En) (X : Cx) (rest : List Stmt) (b : Base) (Γ : Gm) : En := { D with nx := Nx b Γ, anx := Nx.anti, ct := Nx b Γ, act := Nx.anti, bk := fun B σ' H' => WS X rest (D.at_ B) σ' H', abk := fun _ _ _ _ l h => h.mono (D.anti l) }
def Rt (b : Base) (S : Sl) : VK := fun v H => ∃ B, Stp b.B b.H B H ∧ Res b S B H v
variable {D : En} {st : Stmt} {ss rest : List Stmt}
theorem set_get {α : Type} {l : List α} {i j : Nat} {x y : α} (h : (l.set i x)[j]? = some y) : (i = j ∧ x = y) ∨ (i ≠ j ∧ l[j]? = some y) := by
  by_cases e : i = j
  · subst e
    by_cases q : i < l.length
    · rw [List.getElem?_set_self q] at h
      exact .inl ⟨rfl, Option.some.inj h⟩
    · rw [List.getElem?_eq_none (by simpa using q)] at h; cases h
  · rw [List.getElem?_set_ne e] at h
    exact .inr ⟨e, h⟩
theorem Sta.setS {b : Base} {σ : L2.St} {B : Bs} {H : Hp} {i : Nat} {v : V} (s : Sta b Γ σ B H) (h : P.r B v) : Sta b (Γ.set i (some (.sh P))) (σ.set i (some v)) B H where
  st := s.st
  env := {
    len := by rw [List.length_set, List.length_set]; exact s.env.len
    sh := fun j r e => by
      rcases set_get e with ⟨q, z⟩ | ⟨q, z⟩
      · cases z; subst q
        refine ⟨v, ?_, h⟩
        have hl : i < Γ.length := by
          have := (List.getElem?_eq_some_iff.mp e).1
          simpa using this
        rw [List.getElem?_set_self (by rw [s.env.len]; exact hl)]
      · obtain ⟨u, a, c⟩ := s.env.sh j r z
        exact ⟨u, by rw [List.getElem?_set_ne q]; exact a, c⟩
    ow := fun j c e => by
      rcases set_get e with ⟨q, z⟩ | ⟨q, z⟩
      · cases z
      · obtain ⟨u, a, c⟩ := s.env.ow j c z
        exact ⟨u, by rw [List.getElem?_set_ne q]; exact a, c⟩
    dis := fun j l c c' v1 v2 p h1 h2 h3 h4 h5 h6 => by
      rcases set_get h1 with ⟨q1, z1⟩ | ⟨q1, z1⟩
      · cases z1
      · rcases set_get h2 with ⟨q2, z2⟩ | ⟨q2, z2⟩
        · cases z2
        · rw [List.getElem?_set_ne q1] at h3
          rw [List.getElem?_set_ne q2] at h4
          exact s.env.dis j l c c' v1 v2 p z1 z2 h3 h4 h5 h6 }
/-- these are no own things' places -/
def NotOwn (Γ : Gm) (σ : L2.St) (H : Hp) (as : List Addr) : Prop := ∀ (j : Nat) (c : Oc) (v : V) (a : Addr), Γ[j]? = some (some (.ow c)) → σ[j]? = some (some v) → a ∈ c.ad v H → a ∉ as
theorem Sta.setO {b : Base} {σ : L2.St} {B : Bs} {H : Hp} {i : Nat} {v : V} {c : Oc} (s : Sta b Γ σ B H) (o : Own b c v B H) (n : NotOwn Γ σ H (c.ad v H)) : Sta b (Γ.set i (some (.ow c))) (σ.set i (some v)) B H where
  st := s.st
  env := {
    len := by rw [List.length_set, List.length_set]; exact s.env.len
    sh := fun j r e => by
      rcases set_get e with ⟨q, z⟩ | ⟨q, z⟩
      · cases z
      · obtain ⟨u, a, c⟩ := s.env.sh j r z
        exact ⟨u, by rw [List.getElem?_set_ne q]; exact a, c⟩
    ow := fun j c' e => by
      rcases set_get e with ⟨q, z⟩ | ⟨q, z⟩
      · cases z; subst q
        have hl : i < Γ.length := by
          have := (List.getElem?_eq_some_iff.mp e).1
          simpa using this
        exact ⟨v, by rw [List.getElem?_set_self (by rw [s.env.len]; exact hl)], o⟩
      · obtain ⟨u, a, c⟩ := s.env.ow j c' z
        exact ⟨u, by rw [List.getElem?_set_ne q]; exact a, c⟩
    dis := fun j l c1 c2 v1 v2 q h1 h2 h3 h4 h5 h6 => by
      rcases set_get h1 with ⟨q1, z1⟩ | ⟨q1, z1⟩
      · rcases set_get h2 with ⟨q2, z2⟩ | ⟨q2, z2⟩
        · exact q1.symm.trans q2
        · subst q1
          rcases set_get h3 with ⟨_, w⟩ | ⟨w, _⟩
          · cases w; cases z1
            rw [List.getElem?_set_ne q2] at h4
            exact absurd h5 (n l c2 v2 q z2 h4 h6)
          · exact absurd rfl w
      · rcases set_get h2 with ⟨q2, z2⟩ | ⟨q2, z2⟩
        · subst q2
          rcases set_get h4 with ⟨_, w⟩ | ⟨w, _⟩
          · cases w; cases z2
            rw [List.getElem?_set_ne q1] at h3
            exact absurd h6 (n j c1 v1 q z1 h3 h5)
          · exact absurd rfl w
        · rw [List.getElem?_set_ne q1] at h3
          rw [List.getElem?_set_ne q2] at h4
          exact s.env.dis j l c1 c2 v1 v2 q z1 z2 h3 h4 h5 h6 }
/-- what was free ahead of an evaluation is no own thing's behind it -/
theorem Sta.notOwn {b : Base} {σ : L2.St} {B B' : Bs} {H H' : Hp} {as : List Addr} (s : Sta b Γ σ B H) (t : Stp B H B' H') (h : ∀ a ∈ as, H a = none) : NotOwn Γ σ H' as := fun j c v a e q ha m => by
  obtain ⟨v', e', o⟩ := s.env.ow j c e
  rw [q] at e'; cases e'
  rw [o.ad_eq t] at ha
  exact (o.th a ha).ne (h a m)
/-- a word of a slot opened -/
theorem s_ex (i : Nat) {ι : Type} {f : ι → Pr} (k : ∀ a, JS g ss (Γ.set i (some (.sh (f a)))) D) (hi : Γ[i]? = some (some (.sh (Pr.ex f))) := by rfl) : JS g ss Γ D :=
  ⟨fun w σ B H s => by
    obtain ⟨v, e, a, q⟩ := s.env.sh i _ hi
    have z := s.setS (i := i) (v := v) (P := f a) q
    have e2 : σ.set i (some v) = σ := by
      apply List.ext_getElem?
      intro j
      by_cases hj : i = j
      · subst hj
        rw [List.getElem?_set_self (List.getElem?_eq_some_iff.mp e).1, e]
      · rw [List.getElem?_set_ne hj]
    rw [e2] at z
    exact (k a).run w σ B H z⟩
theorem s_gd (i : Nat) {φ : Prop} (k : φ → JS g ss (Γ.set i (some (.sh P))) D) (hi : Γ[i]? = some (some (.sh (Pr.gd φ P))) := by rfl) : JS g ss Γ D :=
  ⟨fun w σ B H s => by
    obtain ⟨v, e, a, q⟩ := s.env.sh i _ hi
    have z := s.setS (i := i) (v := v) (P := P) q
    have e2 : σ.set i (some v) = σ := by
      apply List.ext_getElem?
      intro j
      by_cases hj : i = j
      · subst hj
        rw [List.getElem?_set_self (List.getElem?_eq_some_iff.mp e).1, e]
      · rw [List.getElem?_set_ne hj]
    rw [e2] at z
    exact (k a).run w σ B H z⟩
theorem s_exs (i : Nat) {ι : Type} {φ : ι → Prop} {f : ι → Pr} (k : ∀ a, φ a → JS g ss (Γ.set i (some (.sh (f a)))) D) (hi : Γ[i]? = some (some (.sh (Pr.exs φ f))) := by rfl) : JS g ss Γ D :=
  ⟨fun w σ B H s => by
    obtain ⟨v, e, a, p, q⟩ := s.env.sh i _ hi
    have z := s.setS (i := i) (v := v) (P := f a) q
    have e2 : σ.set i (some v) = σ := by
      apply List.ext_getElem?
      intro j
      by_cases hj : i = j
      · subst hj
        rw [List.getElem?_set_self (List.getElem?_eq_some_iff.mp e).1, e]
      · rw [List.getElem?_set_ne hj]
    rw [e2] at z
    exact (k a p).run w σ B H z⟩
/-- weaker slots -/
inductive SlLe : Option Sl → Option Sl → Prop where
  | none (s : Option Sl) : SlLe s none
  | refl (s : Option Sl) : SlLe s s
  | sh (P Q : Pr) (h : ∀ B v, P.r B v → Q.r B v) : SlLe (some (.sh P)) (some (.sh Q))
  | ow (c d : Oc) (h : ∀ B H v, c.r B H v → d.r B H v) (ha : ∀ v H a, a ∈ d.ad v H → a ∈ c.ad v H := by exact fun _ _ _ h => h) : SlLe (some (.ow c)) (some (.ow d))
def GmLe : Gm → Gm → Prop
  | [], [] => True
  | a :: l, b :: m => SlLe a b ∧ GmLe l m
  | _, _ => False
theorem GmLe.len : ∀ {l m : Gm}, GmLe l m → l.length = m.length
  | [], [], _ => rfl
  | _ :: _, _ :: _, h => congrArg (· + 1) (GmLe.len h.2)
  | [], _ :: _, h => h.elim
  | _ :: _, [], h => h.elim
theorem GmLe.refl : ∀ (l : Gm), GmLe l l
  | [] => trivial
  | a :: l => ⟨.refl a, GmLe.refl l⟩
theorem GmLe.get : ∀ {l m : Gm} {i : Nat} {b : Option Sl}, GmLe l m → m[i]? = some b → ∃ a, l[i]? = some a ∧ SlLe a b
  | [], [], _, _, _, e => by simp at e
  | a :: _, b' :: _, 0, b, h, e => by
    have q : b' = b := by simpa using e
    subst q
    exact ⟨a, rfl, h.1⟩
  | _ :: l, _ :: m, i + 1, b, h, e => by
    obtain ⟨a, x, y⟩ := GmLe.get (i := i) (b := b) h.2 (by simpa using e)
    exact ⟨a, by simpa using x, y⟩
  | [], _ :: _, _, _, h, _ => h.elim
  | _ :: _, [], _, _, h, _ => h.elim
theorem Sta.imp {b : Base} {Γ' : Gm} {σ : L2.St} {B : Bs} {H : Hp} (s : Sta b Γ σ B H) (l : GmLe Γ Γ') : Sta b Γ' σ B H where
  st := s.st
  env := {
    len := by rw [s.env.len, l.len]
    sh := fun i r e => by
      obtain ⟨a, x, y⟩ := l.get e
      cases y with
      | refl => exact s.env.sh i r x
      | sh P Q h =>
        obtain ⟨v, z, k⟩ := s.env.sh i _ x
        exact ⟨v, z, h _ _ k⟩
    ow := fun i c e => by
      obtain ⟨a, x, y⟩ := l.get e
      cases y with
      | refl => exact s.env.ow i c x
      | ow c' d h ha =>
        obtain ⟨v, z, k⟩ := s.env.ow i _ x
        exact ⟨v, z, fun a m => k.nb a (ha _ _ _ m), fun a m => k.nh a (ha _ _ _ m), fun a m => k.th a (ha _ _ _ m), h _ _ _ k.at_⟩
    dis := fun i j c c' v v' p h1 h2 h3 h4 h5 h6 => by
      obtain ⟨a, x, y⟩ := l.get h1
      obtain ⟨a', x', y'⟩ := l.get h2
      have o1 : ∃ d, a = some (.ow d) ∧ ∀ v H a, a ∈ c.ad v H → a ∈ d.ad v H := by cases y with
        | refl => exact ⟨_, rfl, fun _ _ _ h => h⟩
        | ow d _ _ ha => exact ⟨d, rfl, ha⟩
      have o2 : ∃ d, a' = some (.ow d) ∧ ∀ v H a, a ∈ c'.ad v H → a ∈ d.ad v H := by cases y' with
        | refl => exact ⟨_, rfl, fun _ _ _ h => h⟩
        | ow d _ _ ha => exact ⟨d, rfl, ha⟩
      obtain ⟨d, rfl, e1⟩ := o1
      obtain ⟨d', rfl, e2⟩ := o2
      exact s.env.dis i j d d' v v' p x x' h3 h4 (e1 _ _ _ h5) (e2 _ _ _ h6) }
theorem JS.imp {Γ' : Gm} (h : JS g ss Γ' D) (l : GmLe Γ Γ') : JS g ss Γ D := ⟨fun w σ B H s => h.run w σ B H (s.imp l)⟩

theorem s_nil (h : ∀ σ B H, Sta g.b Γ σ B H → D.nx B σ H) : JS g [] Γ D := ⟨fun w σ B H s => ws_nil (h σ B H s)⟩
theorem s_nx {Γ' : Gm} (l : GmLe Γ Γ') (h : D.nx = Nx g.b Γ') : JS g [] Γ D := s_nil fun σ B H s => by rw [h]; exact ⟨B, Le.refl _, s.imp l⟩
/-- one statement, then the rest -/
theorem js_cons (h : g.Wf → ∀ σ B H, Sta g.b Γ σ B H → W1 g.X st { D.at_ B with nx := fun σ' H' => WS g.X rest (D.at_ B) σ' H' } σ H) : JS g (st :: rest) Γ D := ⟨fun w σ B H s => ws_cons (h w σ B H s)⟩
theorem s_ret (h : JE g e Γ P) (k : ∀ v H, Rt g.b (.sh P) v H → D.rt v H) : JS g (.Return (some e) pos :: rest) Γ D :=
  js_cons fun w σ B H s => of1 (ps_ret pE) ((h.run w σ B H s).mono fun v H' ⟨B', a, p⟩ => k v H' ⟨B', a.sta.st, p⟩)
theorem s_retO {c : Oc} (h : JO g e Γ c) (k : ∀ v H, Rt g.b (.ow c) v H → D.rt v H) : JS g (.Return (some e) pos :: rest) Γ D :=
  js_cons fun w σ B H s => of1 (ps_ret pE) ((h.run w σ B H s).mono fun v H' ⟨B', a, o, n⟩ => k v H' ⟨B', a.sta.st, o⟩)
theorem s_retN (k : ∀ v H, Rt g.b (.sh rN) v H → D.rt v H) : JS g (.Return none pos :: rest) Γ D :=
  js_cons fun w σ B H s => of1 ps_retN (k _ _ ⟨B, s.st, rfl⟩)
/-- return x, x an own thing -/
theorem s_retV (i : Nat) {c : Oc} {x : Str} {p : Pos} (k : ∀ v H, Rt g.b (.ow c) v H → D.rt v H) (hx : Γ[i]? = some (some (.ow c)) := by rfl) (hN : g.X.N[i]? = some x := by rfl) (hv : Vis g.X.env.scope x := by first | exact Or.inl rfl | exact Or.inr (Or.inl rfl) | exact Or.inr (Or.inr rfl))
    (hd : (x == ("__debug__" : Str)) = false := by decide) (hcd : (x == ("__classdict__" : Str)) = false := by decide) : JS g (.Return (some (.Name x p)) pos :: rest) Γ D :=
  js_cons fun w σ B H s => of1 (ps_ret (pe_var hN hv hd hcd)) (by
    obtain ⟨q, e, o⟩ := s.env.ow i c hx
    exact ⟨_, e, k _ _ ⟨B, s.st, o⟩⟩)
theorem s_set (i : Nat) {x : Str} {p : Pos} (h : JE g e Γ P) (k : JS g rest (Γ.set i (some (.sh P))) D) (hN : g.X.N[i]? = some x := by rfl) (hl : Loc g.X.env.scope x := by first | exact Or.inl rfl | exact Or.inr rfl)
    (hs : swapsWith e (some (.Name x p)) pos.line g.X.env = pure false := by rfl) (hf : g.X.fn x = true ∨ g.X.env.scope.names.lookup x = some .local := by first | exact .inl rfl | exact .inr rfl) : JS g (.Assign [.Name x p] e pos :: rest) Γ D :=
  js_cons fun w σ B H s => of1 (ps_set w.nd hN hl pE hs hf) ((h.run w σ B H s).mono fun v H' ⟨B', a, q⟩ => k.go w a.le (a.sta.setS q))
theorem s_setO (i : Nat) {x : Str} {p : Pos} {c : Oc} (h : JO g e Γ c) (k : JS g rest (Γ.set i (some (.ow c))) D) (hN : g.X.N[i]? = some x := by rfl) (hl : Loc g.X.env.scope x := by first | exact Or.inl rfl | exact Or.inr rfl)
    (hs : swapsWith e (some (.Name x p)) pos.line g.X.env = pure false := by rfl) (hf : g.X.fn x = true ∨ g.X.env.scope.names.lookup x = some .local := by first | exact .inl rfl | exact .inr rfl) : JS g (.Assign [.Name x p] e pos :: rest) Γ D :=
  js_cons fun w σ B H s => of1 (ps_set w.nd hN hl pE hs hf) ((h.run w σ B H s).mono fun v H' ⟨B', a, o, n⟩ => k.go w a.le (a.sta.setO o (s.notOwn a.t n)))
theorem s_expr (h : JE g e Γ P) (k : JS g rest Γ D) (hs : swapsWith e none pos.line g.X.env = pure false := by rfl) : JS g (.Expr e pos :: rest) Γ D :=
  js_cons fun w σ B H s => of1 (ps_expr pE hs) ((h.run w σ B H s).mono fun v H' ⟨B', a, q⟩ => k.go w a.le a.sta)
/-- a call that refuses or hands on a word: opened -/
theorem s_exprG {φ : Prop} (h : JE g e Γ (Pr.gd φ P)) (k : φ → JS g rest Γ D) (hs : swapsWith e none pos.line g.X.env = pure false := by rfl) : JS g (.Expr e pos :: rest) Γ D :=
  js_cons fun w σ B H s => of1 (ps_expr pE hs) ((h.run w σ B H s).mono fun v H' ⟨B', a, q⟩ => (k q.1).go w a.le a.sta)
/-- the end of a branch: on with the rest -/
theorem s_then (k : JS g rest Γ D) : JS g [] Γ (D.thn g.X rest) := ⟨fun w σ B H s => ws_nil (k.run w σ B H s)⟩
theorem s_if {c : Bool} {a b : List Stmt} (h : JT g e Γ c) (h1 : c = true → JS g a Γ (D.thn g.X rest)) (h2 : c = false → JS g b Γ (D.thn g.X rest)) : JS g (.If e a b pos :: rest) Γ D :=
  js_cons fun w σ B H s => of1 (ps_if pT pS pS) ((h.run w σ B H s).mono fun v H' ⟨B', a, q⟩ => by
    subst q
    cases v with
    | true => rw [if_pos rfl]; exact (h1 rfl).go w a.le a.sta
    | false => rw [if_neg (by decide)]; exact (h2 rfl).go w a.le a.sta)
/-- an own thing is handed over to the ground -/
theorem Sta.hand {b : Base} {σ : L2.St} {B : Bs} {H : Hp} {i : Nat} {c : Oc} {R : Pr} (s : Sta b Γ σ B H) (h : Γ[i]? = some (some (.ow c))) (k : ∀ B H v, (∀ a ∈ c.ad v H, B a = none) → c.r B H v → R.r (putH B H (c.ad v H)) v) :
    ∃ v, σ[i]? = some (some v) ∧ Own b c v B H ∧ Le B (putH B H (c.ad v H)) ∧ Sta b (Γ.set i (some (.sh R))) σ (putH B H (c.ad v H)) H := by
  obtain ⟨v, e, o⟩ := s.env.ow i _ h
  have l : Le B (putH B H (c.ad v H)) := Le.putH o.nb
  refine ⟨v, e, o, l, s.st.handedH o.nb o.nh, ⟨by rw [List.length_set]; exact s.env.len, fun j r hj => ?_, fun j d hj => ?_, fun j m d d' v1 v2 q h1 h2 h3 h4 h5 h6 => ?_⟩⟩
  · rcases set_get hj with ⟨q, z⟩ | ⟨q, z⟩
    · cases z; subst q
      exact ⟨v, e, k _ _ _ o.nb o.at_⟩
    · obtain ⟨v, a, k⟩ := s.env.sh j r z
      exact ⟨v, a, r.mono _ _ _ l k⟩
  · rcases set_get hj with ⟨q, z⟩ | ⟨q, z⟩
    · cases z
    · obtain ⟨v', e3, k'⟩ := s.env.ow j d z
      have dj : ∀ a ∈ d.ad v' H, a ∉ c.ad v H := fun a ha m => q (s.env.dis i j c d v v' a h z e e3 m ha)
      exact ⟨v', e3, fun a ha => by rw [putH_out (dj a ha)]; exact k'.nb a ha, k'.nh, k'.th, d.mono _ _ _ _ l k'.at_⟩
  · rcases set_get h1 with ⟨q1, z1⟩ | ⟨q1, z1⟩
    · cases z1
    · rcases set_get h2 with ⟨q2, z2⟩ | ⟨q2, z2⟩
      · cases z2
      · exact s.env.dis j m d d' v1 v2 q z1 z2 h3 h4 h5 h6
theorem fz_oL {K : PySem.W.Frag} {rs : List Pr} : ∀ B H v, (∀ a ∈ (oL rs).ad v H, B a = none) → (oL rs).r B H v → (rLs K rs).r (putH B H ((oL rs).ad v H)) v := fun B H v nb ⟨p, vs, e, hp, f⟩ => by
  subst e
  exact ⟨p, vs, rfl, putH_in (mem_one.mpr rfl) hp, f.mono (Le.putH nb)⟩
theorem s_hand (i : Nat) {c : Oc} (R : Pr) (k : JS g ss (Γ.set i (some (.sh R))) D) (hk : ∀ B H v, (∀ a ∈ c.ad v H, B a = none) → c.r B H v → R.r (putH B H (c.ad v H)) v) (h : Γ[i]? = some (some (.ow c)) := by rfl) : JS g ss Γ D :=
  ⟨fun w σ B H s => by
    obtain ⟨v, _, _, l, z⟩ := s.hand h hk
    exact k.go w l z⟩
theorem s_fz (i : Nat) {rs : List Pr} (k : JS g ss (Γ.set i (some (.sh (rLs g.X.K rs)))) D) (h : Γ[i]? = some (some (.ow (oL rs))) := by rfl) : JS g ss Γ D := s_hand i (rLs g.X.K rs) k fz_oL h
/-- an own thing's word opened -/
def Oc.exs {ι : Type} (φ : ι → Prop) (f : ι → Oc) (d : ι) (ha : ∀ a v H, (f a).ad v H = (f d).ad v H := by exact fun _ _ _ => rfl) : Oc where
  ad := (f d).ad
  r := fun B H v => ∃ a, φ a ∧ (f a).r B H v
  mono := fun _ _ _ _ l ⟨a, p, h⟩ => ⟨a, p, (f a).mono _ _ _ _ l h⟩
  ast := (f d).ast
  rst := fun B H H' v h ⟨a, p, k⟩ => ⟨a, p, (f a).rst B H H' v (by rw [ha a]; exact h) k⟩
theorem sta_at {b : Base} {σ : L2.St} {B : Bs} {H : Hp} {i : Nat} {c c' : Oc} {v : V} (s : Sta b Γ σ B H) (h : Γ[i]? = some (some (.ow c))) (e : σ[i]? = some (some v)) (ha : ∀ a ∈ c'.ad v H, a ∈ c.ad v H) (hr : c'.r B H v) : Sta b (Γ.set i (some (.ow c'))) σ B H := by
  obtain ⟨v', e', o⟩ := s.env.ow i c h
  have ev : v' = v := by rw [e] at e'; simpa using e'.symm
  subst ev
  have n : ∀ (j : Nat) (d : Oc) (u : V), i ≠ j → Γ[j]? = some (some (.ow d)) → σ[j]? = some (some u) → ∀ a ∈ d.ad u H, a ∉ c'.ad v' H := fun j d u ne z q a ha1 m => by
    exact ne (s.env.dis i j c d v' u a h z e q (ha a m) ha1)
  refine ⟨s.st, ⟨by rw [List.length_set]; exact s.env.len, fun j r hj => ?_, fun j d hj => ?_, fun j m d d' v1 v2 q h1 h2 h3 h4 h5 h6 => ?_⟩⟩
  · rcases set_get hj with ⟨q, z⟩ | ⟨q, z⟩
    · cases z
    · exact s.env.sh j r z
  · rcases set_get hj with ⟨q, z⟩ | ⟨q, z⟩
    · cases z; subst q
      exact ⟨v', e, fun a m => o.nb a (ha a m), fun a m => o.nh a (ha a m), fun a m => o.th a (ha a m), hr⟩
    · exact s.env.ow j d z
  · rcases set_get h1 with ⟨q1, z1⟩ | ⟨q1, z1⟩
    · rcases set_get h2 with ⟨q2, z2⟩ | ⟨q2, z2⟩
      · exact q1.symm.trans q2
      · cases z1; subst q1
        rw [e] at h3; cases h3
        exact absurd h5 (n m d' v2 q2 z2 h4 q h6)
    · rcases set_get h2 with ⟨q2, z2⟩ | ⟨q2, z2⟩
      · cases z2; subst q2
        rw [e] at h4; cases h4
        exact absurd h6 (n j d v1 q1 z1 h3 q h5)
      · exact s.env.dis j m d d' v1 v2 q z1 z2 h3 h4 h5 h6
theorem s_exO (i : Nat) {ι : Type} {φ : ι → Prop} {f : ι → Oc} {d : ι} {ha : ∀ a v H, (f a).ad v H = (f d).ad v H} (k : ∀ a, φ a → JS g ss (Γ.set i (some (.ow (f a)))) D) (h : Γ[i]? = some (some (.ow (Oc.exs φ f d ha))) := by rfl) : JS g ss Γ D :=
  ⟨fun w σ B H s => by
    obtain ⟨v, e, o⟩ := s.env.ow i _ h
    obtain ⟨a, p, hr⟩ := o.at_
    exact (k a p).run w σ B H (sta_at s h e (fun x m => by rw [ha] at m; exact m) hr)⟩

/-! ### targets -/
def tG (X : Cx) (target : Expr) : TG := fun v σ H Q => ∀ pins s u, Inv X pins σ H s → RelV v u → wpAny (model X.prog X.w) X.A (assign target X.env u) (fun _ s' => ∃ σ' H', Inv X pins σ' H' s' ∧ Q σ' H') X.xe s
theorem pG {X : Cx} {target : Expr} : PG X target (tG X target) := ⟨fun pins s σ H v u Q I r h => h pins s u I r⟩
theorem ofG {X : Cx} {target : Expr} {t : TG} (h : PG X target t) {v : V} {σ : L2.St} {H : Hp} {Q} (q : t v σ H Q) : tG X target v σ H Q := fun pins s u I r => h.run pins s σ H v u Q I r q
/-- a value of P is given to a target, whose names are the slots sl -/
structure JG (g : Gx) (tg : Expr) (P : Pr) (Γ Γ' : Gm) (sl : List Nat) : Prop where
  run : g.Wf → ∀ σ B H v, Sta g.b Γ σ B H → P.r B v → ∀ Q : L2.St → Hp → Prop, (∀ σ', Sta g.b Γ' σ' B H → (∀ vs : List Nat, (∀ i ∈ sl, i ∈ vs) → wipe σ' vs = wipe σ vs) → Q σ' H) → tG g.X tg v σ H Q
def tGs (X : Cx) (ts : List Expr) : TGs := fun vs σ H Q => ∀ pins s us, Inv X pins σ H s → Vals vs us → wpAny (model X.prog X.w) X.A (assignInOrder ((assignEach ts X.env).map (·.2)) us) (fun _ s' => ∃ σ' H', Inv X pins σ' H' s' ∧ Q σ' H') X.xe s
theorem pGs {X : Cx} {ts : List Expr} : PGs X ts (tGs X ts) := ⟨fun pins s σ H vs us Q I r h => h pins s us I r⟩
theorem ofGs {X : Cx} {ts : List Expr} {t : TGs} (h : PGs X ts t) {vs : List V} {σ : L2.St} {H : Hp} {Q} (q : t vs σ H Q) : tGs X ts vs σ H Q := fun pins s us I r => h.run pins s σ H vs us Q I r q
structure JGs (g : Gx) (ts : List Expr) (Ps : List Pr) (Γ Γ' : Gm) (sl : List Nat) : Prop where
  run : g.Wf → ∀ σ B H vs, Sta g.b Γ σ B H → F2 B vs Ps → ∀ Q : L2.St → Hp → Prop, (∀ σ', Sta g.b Γ' σ' B H → (∀ vs : List Nat, (∀ i ∈ sl, i ∈ vs) → wipe σ' vs = wipe σ vs) → Q σ' H) → tGs g.X ts vs σ H Q
theorem wipe_set {σ : L2.St} {i : Nat} {x : Option V} : ∀ {vs : List Nat}, i ∈ vs → wipe (σ.set i x) vs = wipe σ vs
  | v :: vs, h => by
    unfold wipe
    by_cases q : i ∈ vs
    · rw [wipe_set q]
    · have e : i = v := by rcases List.mem_cons.mp h with z | z; exact z; exact absurd z q
      subst e
      apply List.ext_getElem?
      intro j
      by_cases hj : i = j
      · subst hj
        by_cases hl : i < σ.length
        · rw [List.getElem?_set_self (by rw [wipe_length, List.length_set]; exact hl), List.getElem?_set_self (by rw [wipe_length]; exact hl)]
        · rw [List.getElem?_eq_none (by rw [List.length_set, wipe_length, List.length_set]; omega), List.getElem?_eq_none (by rw [List.length_set, wipe_length]; omega)]
      · rw [List.getElem?_set_ne hj, List.getElem?_set_ne hj]
        by_cases m : j ∈ vs
        · have a1 : ∀ τ : L2.St, (wipe τ vs)[j]? = if j < τ.length then some none else none := fun τ => by
            have key : ∀ (ws : List Nat), j ∈ ws → (wipe τ ws)[j]? = if j < τ.length then some none else none := by
              intro ws
              induction ws with
              | nil => intro z; cases z
              | cons u us ih =>
                intro z
                unfold wipe
                by_cases e : u = j
                · subst e
                  by_cases hl : u < τ.length
                  · rw [List.getElem?_set_self (by rw [wipe_length]; exact hl), if_pos hl]
                  · rw [List.getElem?_eq_none (by rw [List.length_set, wipe_length]; omega), if_neg hl]
                · rw [List.getElem?_set_ne e]
                  rcases List.mem_cons.mp z with q | q
                  · exact absurd q.symm e
                  · exact ih q
            exact key vs m
          rw [a1, a1, List.length_set]
        · rw [wipe_out m, wipe_out m, List.getElem?_set_ne hj]
theorem g_name (i : Nat) {x : Str} (hN : g.X.N[i]? = some x := by rfl) (hl : Loc g.X.env.scope x := by first | exact Or.inl rfl | exact Or.inr rfl) (hf : g.X.fn x = true ∨ g.X.env.scope.names.lookup x = some .local := by first | exact .inl rfl | exact .inr rfl) :
    JG g (.Name x pos) P Γ (Γ.set i (some (.sh P))) [i] := ⟨fun w σ B H v s p Q q => ofG (pg_name w.nd hN hl hf) (q _ (s.setS p) fun vs h => wipe_set (h i (List.mem_cons_self ..)))⟩
theorem gs_nil : JGs g [] [] Γ Γ [] := ⟨fun w σ B H vs s f Q q => by
  cases vs with
  | nil => exact ofGs pgs_nil ⟨rfl, q σ s fun _ _ => rfl⟩
  | cons _ _ => exact f.elim⟩
theorem gs_cons {ts : List Expr} {Ps : List Pr} {Γ1 Γ2 : Gm} {s1 s2 : List Nat} (h : JG g e P Γ Γ1 s1) (k : JGs g ts Ps Γ1 Γ2 s2) (hs : (assignEach (e :: ts) g.X.env).map (·.2) = assign e g.X.env :: (assignEach ts g.X.env).map (·.2) := by rfl) : JGs g (e :: ts) (P :: Ps) Γ Γ2 (s1 ++ s2) :=
  ⟨fun w σ B H vs s f Q q => by
    cases vs with
    | nil => exact f.elim
    | cons v vs =>
      refine ofGs (pgs_cons pG pGs hs) ⟨v, vs, rfl, h.run w σ B H v s f.1 _ fun σ1 st1 w1 => ?_⟩
      exact k.run w σ1 B H vs st1 f.2 Q fun σ2 st2 w2 => q σ2 st2 fun us hu => (w2 us fun i hi => hu i (List.mem_append_right _ hi)).trans (w1 us fun i hi => hu i (List.mem_append_left _ hi))⟩
theorem g_tup {es : List Expr} {k : Nat} {Ps : List Pr} {Γ1 : Gm} {n : Nat} {sl : List Nat} (h : JGs g es Ps Γ Γ1 sl) (hl : Ps.length = n := by rfl) (hn : (assignEach es g.X.env).length = n := by rfl) (hst : (assignEach es g.X.env).findIdx? (·.1) = none := by rfl) (hcm : g.X.calm = true := by rfl) : JG g (.Tuple es k pos) (rTs g.X.K Ps) Γ Γ1 sl :=
  ⟨fun w σ B H v s ⟨p, vs, e, a, f⟩ Q q => ofG (pg_tup hcm pGs hn hst) ⟨p, vs, e, a.sq s.st.ok, by rw [f.len]; exact hl, h.run w σ B H vs s f Q q⟩⟩
theorem s_asg {tg : Expr} {Γ1 : Gm} {sl : List Nat} (h : JE g e Γ P) (hg : JG g tg P Γ Γ1 sl) (k : JS g rest Γ1 D) (hs : swapsWithSole [tg] e pos.line g.X.env = pure false := by rfl) (hw : swappedStores [tg] e g.X.env = pure none := by rfl)
    (h1 : (assignEach [tg] g.X.env).map (·.2) = [assign tg g.X.env] := by rfl) : JS g (.Assign [tg] e pos :: rest) Γ D :=
  js_cons fun w σ B H s => of1 (ps_asg pE pG hs hw h1) ((h.run w σ B H s).mono fun v H' ⟨B', a, q⟩ => hg.run w σ B' H' v a.sta q _ fun σ' s' _ => k.go w a.le s')

/-! ### built-ins -/
def Cb (r : List V → Hp → VK → Prop) (Ps : List Pr) (R : Pr) : Prop := ∀ B H vs (K : VK), Ok B H → F2 B vs Ps → (∀ z B' H', Stp B H B' H' → R.r B' z → K z H') → r vs H K
theorem x_cb {r : List V → Hp → VK → Prop} {id : String} {x : Str} {es : List Expr} {Ps : List Pr} {p : Pos} (hm : g.X.mg x = none) (hc : g.Wf → CallR g.X (.builtin id) r) (hv : bootBuiltins x = some (.builtin id)) (k : Cb r Ps R) (h : JA g (e :: es) Γ Ps)
    (hg : Gl g.X x := by rfl) (hn : x ≠ "__name__" := by decide) (hdb : (x == ("__debug__" : Str)) = false := by decide) (he : starEach (e :: es) g.X.env = (false, eval e g.X.env) :: starEach es g.X.env := by rfl) (hpl : (backTo pos (starEach es g.X.env)).any (·.1) = false := by rfl) : JE g (.Call (.Name x p) (e :: es) [] pos) Γ R :=
  ⟨fun w σ B H s => ofE (pe_callB (hc w) hg hm hv pA hn hdb he hpl) ((h.run w σ B H s).mono fun vs H1 ⟨B1, a1, f⟩ => k B1 H1 vs _ a1.sta.st.ok f fun z B' H' t c => ⟨B', a1.trans (a1.sta.step t), c⟩)⟩
theorem x_cty {r : List V → Hp → VK → Prop} {T : String} {x : Str} {es : List Expr} {Ps : List Pr} {p : Pos} (hm : g.X.mg x = none) (hc : g.Wf → CallR g.X (.type T) r) (hv : bootBuiltins x = some (.type T)) (k : Cb r Ps R) (h : JA g (e :: es) Γ Ps)
    (hg : Gl g.X x := by rfl) (hn : x ≠ "__name__" := by decide) (hdb : (x == ("__debug__" : Str)) = false := by decide) (he : starEach (e :: es) g.X.env = (false, eval e g.X.env) :: starEach es g.X.env := by rfl) (hpl : (backTo pos (starEach es g.X.env)).any (·.1) = false := by rfl) : JE g (.Call (.Name x p) (e :: es) [] pos) Γ R :=
  ⟨fun w σ B H s => ofE (pe_callTy (hc w) hg hm hv pA hn hdb he hpl) ((h.run w σ B H s).mono fun vs H1 ⟨B1, a1, f⟩ => k B1 H1 vs _ a1.sta.st.ok f fun z B' H' t c => ⟨B', a1.trans (a1.sta.step t), c⟩)⟩
end
end G
set_option Elab.async false
set_option linter.all false
set_option maxRecDepth 100000
set_option maxHeartbeats 2000000
namespace G
open PySem L2

section
variable {g : Gx} {Γ : Gm} {P Q R : Pr} {e e1 e2 : Expr} {pos : Pos} {D : En} {st : Stmt} {ss rest : List Stmt} {rs qs : List Pr}

/-! ### borrowing an own list for what does not lean on the ground -/
def Free (P : Pr) : Prop := ∀ B B' v, P.r B v → P.r B' v
theorem free_V {x : V} : Free (rV x) := fun _ _ _ h => h
theorem free_ex {ι : Type} {f : ι → Pr} (h : ∀ a, Free (f a)) : Free (Pr.ex f) := fun B B' v ⟨a, z⟩ => ⟨a, h a B B' v z⟩
theorem free_gd {φ : Prop} (h : Free P) : Free (Pr.gd φ P) := fun B B' v ⟨a, z⟩ => ⟨a, h B B' v z⟩
def delL (B : Bs) (as : List Addr) : Bs := fun b => if b ∈ as then none else B b
theorem borrow_back {b : Base} {σ : L2.St} {B B2 : Bs} {H H2 : Hp} {i : Nat} {v : V} {c : Oc} {r : Pr} (s : Sta b Γ σ B H) (h : Γ[i]? = some (some (.ow c))) (hv : σ[i]? = some (some v)) (o : Own b c v B H)
    (a : Aft b (Γ.set i (some (.sh r))) σ (putH B H (c.ad v H)) H B2 H2) : Aft b Γ σ B H (delL B2 (c.ad v H)) H2 := by
  have lB : Le B (delL B2 (c.ad v H)) := fun x k e => by
    have ne : x ∉ c.ad v H := fun m => by rw [o.nb x m] at e; cases e
    unfold delL
    rw [if_neg ne]
    exact a.le x k (by rw [putH_out ne]; exact e)
  have hl : Le (delL B2 (c.ad v H)) B2 := fun x k e => by
    unfold delL at e
    by_cases q : x ∈ c.ad v H
    · rw [if_pos q] at e; cases e
    · rw [if_neg q] at e; exact e
  have hd : ∀ x ∈ c.ad v H, delL B2 (c.ad v H) x = none := fun x m => by unfold delL; rw [if_pos m]
  have t : Stp B H (delL B2 (c.ad v H)) H2 := by
    refine ⟨lB, ⟨fun x u e => a.sta.st.ok.ex x u (hl x _ e), fun x φ e => a.sta.st.ok.iv x φ (hl x _ e)⟩, fun x u hu n => a.t.keep x u hu fun φ z => ?_, a.t.there, fun x n1 k n2 => ?_⟩
    · rcases putH_cases z with ⟨u', _, _, q⟩ | q
      · cases q
      · exact n φ q
    · have q : x ∉ c.ad v H := fun m => by rw [hd x m] at n2; cases n2
      exact a.t.new x (by rw [putH_out q]; exact n1) k (hl x k n2)
  exact s.step t
/-- an expression that reads the own thing in slot i and gives what does not lean on the ground -/
theorem x_borG (i : Nat) {c : Oc} (R : Pr) (h : JE g e (Γ.set i (some (.sh R))) P) (hf : Free P) (hk : ∀ B H v, (∀ a ∈ c.ad v H, B a = none) → c.r B H v → R.r (putH B H (c.ad v H)) v) (hi : Γ[i]? = some (some (.ow c)) := by rfl) : JE g e Γ P :=
  ⟨fun w σ B H s => by
    obtain ⟨v, e, o, l, s2⟩ := s.hand hi hk
    exact (h.run w σ _ H s2).mono fun u H' ⟨B', a, q⟩ => ⟨_, borrow_back s hi e o a, hf _ _ _ q⟩⟩
theorem x_bor (i : Nat) (h : JE g e (Γ.set i (some (.sh (rLs g.X.K rs)))) P) (hf : Free P) (hi : Γ[i]? = some (some (.ow (oL rs))) := by rfl) : JE g e Γ P := x_borG i (rLs g.X.K rs) h hf fz_oL hi
theorem t_borG (i : Nat) {c : Oc} {k : Bool} (R : Pr) (h : JT g e (Γ.set i (some (.sh R))) k) (hk : ∀ B H v, (∀ a ∈ c.ad v H, B a = none) → c.r B H v → R.r (putH B H (c.ad v H)) v) (hi : Γ[i]? = some (some (.ow c)) := by rfl) : JT g e Γ k :=
  ⟨fun w σ B H s => by
    obtain ⟨v, e, o, l, s2⟩ := s.hand hi hk
    exact (h.run w σ _ H s2).mono fun u H' ⟨B', a, q⟩ => ⟨_, borrow_back s hi e o a, q⟩⟩
theorem t_bor (i : Nat) {k : Bool} (h : JT g e (Γ.set i (some (.sh (rLs g.X.K rs)))) k) (hi : Γ[i]? = some (some (.ow (oL rs))) := by rfl) : JT g e Γ k := t_borG i (rLs g.X.K rs) h fz_oL hi
/-- .. and gives a new thing of one's own, whose word does not lean on the ground -/
def FreeO (c : Oc) : Prop := ∀ B B' H v, c.r B H v → c.r B' H v
theorem y_borG (i : Nat) {c d : Oc} (R : Pr) (h : JO g e (Γ.set i (some (.sh R))) d) (hf : FreeO d) (hk : ∀ B H v, (∀ a ∈ c.ad v H, B a = none) → c.r B H v → R.r (putH B H (c.ad v H)) v) (hi : Γ[i]? = some (some (.ow c)) := by rfl) : JO g e Γ d :=
  ⟨fun w σ B H s => by
    obtain ⟨v, e, o, l, s2⟩ := s.hand hi hk
    refine (h.run w σ _ H s2).mono fun u H' ⟨B', a, q, n⟩ => ⟨_, borrow_back s hi e o a, ⟨fun x hx => ?_, q.nh, q.th, hf _ _ _ _ q.at_⟩, n⟩
    unfold delL
    split
    · rfl
    · exact q.nb x hx⟩

/-! ### sequences -/
theorem x_lenL (hm : g.X.mg "len" = none) (h : JE g e Γ (rLs g.X.K rs)) {p : Pos} (hg : Gl g.X "len" := by rfl) (he : starEach [e] g.X.env = (false, eval e g.X.env) :: starEach [] g.X.env := by rfl) : JE g (.Call (.Name "len" p) [e] [] pos) Γ (rI rs.length) :=
  x_cb (r := fun xs H Q => ∃ p ys, xs = [.ref p] ∧ (SqL g.X.K H p ys ∨ SqT g.X.K H p ys) ∧ Q (.int ys.length) H) hm (fun _ => call_len_seq) PySem.boot_len
    (fun B H vs K k f c => by
      obtain ⟨v, rfl, p, ws, e, a, f2⟩ := f.one
      exact ⟨p, ws, by rw [e], .inl (a.sq k), c _ B H (Stp.refl k) (by rw [f2.len]; rfl)⟩) (a_cons h a_nil he) hg (by decide) (by decide) he rfl
theorem x_lenT (hm : g.X.mg "len" = none) (h : JE g e Γ (rTs g.X.K rs)) {p : Pos} (hg : Gl g.X "len" := by rfl) (he : starEach [e] g.X.env = (false, eval e g.X.env) :: starEach [] g.X.env := by rfl) : JE g (.Call (.Name "len" p) [e] [] pos) Γ (rI rs.length) :=
  x_cb (r := fun xs H Q => ∃ p ys, xs = [.ref p] ∧ (SqL g.X.K H p ys ∨ SqT g.X.K H p ys) ∧ Q (.int ys.length) H) hm (fun _ => call_len_seq) PySem.boot_len
    (fun B H vs K k f c => by
      obtain ⟨v, rfl, p, ws, e, a, f2⟩ := f.one
      exact ⟨p, ws, by rw [e], .inr (a.sq k), c _ B H (Stp.refl k) (by rw [f2.len]; rfl)⟩) (a_cons h a_nil he) hg (by decide) (by decide) he rfl
theorem x_lenS (hm : g.X.mg "len" = none) {z : Str} (hz : z.length ≤ sizeLine) (h : JE g e Γ (rS z)) {p : Pos} (hg : Gl g.X "len" := by rfl) (he : starEach [e] g.X.env = (false, eval e g.X.env) :: starEach [] g.X.env := by rfl) : JE g (.Call (.Name "len" p) [e] [] pos) Γ (rI z.length) :=
  x_cb (r := fun xs H Q => ∃ z, xs = [.str z] ∧ z.length ≤ sizeLine ∧ Q (.int z.length) H) hm (fun _ => call_len_str) PySem.boot_len
    (fun B H vs K k f c => by
      obtain ⟨v, rfl, e⟩ := f.one
      exact ⟨z, by rw [e], hz, c _ B H (Stp.refl k) rfl⟩) (a_cons h a_nil he) hg (by decide) (by decide) he rfl
theorem x_ix {r : R2} (hr : IxR g.X r) (hv : Op2 g.X r P Q R) (h1 : JE g e1 Γ P) (h2 : JE g e2 Γ Q) (hs : PlainIx e2 := by exact fun _ _ => rfl) : JE g (.Subscript e1 e2 pos) Γ R :=
  ⟨fun w σ B H s => ofE (pe_ix hr pE pE hs) ((h1.run w σ B H s).mono fun v H1 ⟨B1, a1, p⟩ => (h2.run w σ B1 H1 a1.sta).mono fun u H2 ⟨B2, a2, q⟩ =>
    op2_run hv a2.sta (P.mono _ _ _ a2.le p) q fun z B' H' a3 c => ⟨B', (a1.trans a2).trans a3, c⟩)⟩
theorem x_ixL {j : Int} (hj : atI rs j = some R) (h1 : JE g e1 Γ (rLs g.X.K rs)) (h2 : JE g e2 Γ (rI j)) (hs : PlainIx e2 := by exact fun _ _ => rfl) : JE g (.Subscript e1 e2 pos) Γ R :=
  x_ix (P := rLs g.X.K rs) (Q := rI j) ix_list (fun B H v u K k ⟨p, vs, e, a, f⟩ q c => by
    subst e; cases q
    have hl := f.len
    unfold atI at hj
    rw [← hl] at hj
    cases hn : ixN vs.length j with
    | none => rw [hn] at hj; cases hj
    | some m =>
      rw [hn] at hj
      obtain ⟨v, e, z⟩ := f.get (i := m) (r := R) hj
      exact ⟨p, vs, j, v, rfl, rfl, a.sq k, by unfold atI; rw [hn]; exact e, c v B H (Stp.refl k) z⟩) h1 h2 hs
theorem x_ixT {j : Int} (hj : atI rs j = some R) (h1 : JE g e1 Γ (rTs g.X.K rs)) (h2 : JE g e2 Γ (rI j)) (hs : PlainIx e2 := by exact fun _ _ => rfl) : JE g (.Subscript e1 e2 pos) Γ R :=
  x_ix (P := rTs g.X.K rs) (Q := rI j) ix_tup (fun B H v u K k ⟨p, vs, e, a, f⟩ q c => by
    subst e; cases q
    have hl := f.len
    unfold atI at hj
    rw [← hl] at hj
    cases hn : ixN vs.length j with
    | none => rw [hn] at hj; cases hj
    | some m =>
      rw [hn] at hj
      obtain ⟨v, e, z⟩ := f.get (i := m) (r := R) hj
      exact ⟨p, vs, j, v, rfl, rfl, a.sq k, by unfold atI; rw [hn]; exact e, c v B H (Stp.refl k) z⟩) h1 h2 hs
end
section
variable {g : Gx} {Γ : Gm} {P Q R : Pr} {e e1 e2 : Expr} {pos p2 : Pos} {D : En} {st : Stmt} {ss rest : List Stmt} {rs qs : List Pr}
inductive Part (g : Gx) (Γ : Gm) : Option Expr → Option Int → Prop where
  | no : Part g Γ none none
  | at_ {e : Expr} {i : Int} (h : JE g e Γ (rI i)) : Part g Γ (some e) (some i)
theorem part_run {o : Option Expr} {i : Option Int} (h : Part g Γ o i) (w : g.Wf) : ∃ t : L2.TO, PO g.X o t ∧ ∀ σ B H, Sta g.b Γ σ B H → ∀ K : Option Int → Hp → Prop, (∀ B' H', Aft g.b Γ σ B H B' H' → K i H') → t σ H K := by
  cases h with
  | no => exact ⟨_, po_none, fun σ B H s K k => k B H s.refl⟩
  | at_ h => exact ⟨_, po_some pE, fun σ B H s K k => (h.run w σ B H s).mono fun v H' ⟨B', a, q⟩ => ⟨_, q, k B' H' a⟩⟩
/-- what a slice of a value of P is, by values -/
def Slc (r : V → Option Int → Option Int → Hp → VK → Prop) (P R : Pr) (lo hi : Option Int) : Prop := ∀ B H v (K : VK), Ok B H → P.r B v → (∀ z B' H', Stp B H B' H' → R.r B' z → K z H') → r v lo hi H K
theorem x_sl {r : V → Option Int → Option Int → Hp → VK → Prop} {lo hi : Option Expr} {i j : Option Int} (hr : SlR g.X r) (hv : Slc r P R i j) (h : JE g e Γ P) (hl : Part g Γ lo i) (hh : Part g Γ hi j) : JE g (.Subscript e (.Slice lo hi none p2) pos) Γ R :=
  ⟨fun w σ B H s => by
    obtain ⟨tl, pl, kl⟩ := part_run hl w
    obtain ⟨th, ph, kh⟩ := part_run hh w
    refine ofE (pe_slice hr pE pl ph) ((h.run w σ B H s).mono fun v H1 ⟨B1, a1, p⟩ => ?_)
    refine kl σ B1 H1 a1.sta _ fun B2 H2 a2 => kh σ B2 H2 a2.sta _ fun B3 H3 a3 => ?_
    exact hv B3 H3 v _ a3.sta.st.ok (P.mono _ _ _ (a2.le.trans a3.le) p) fun z B' H' t c => ⟨B', ((a1.trans a2).trans a3).trans (a3.sta.step t), c⟩⟩
def cutP {α : Type} (xs : List α) (lo hi : Option Int) : List α := (xs.drop (HT.sIx xs.length 0 lo)).take (HT.sIx xs.length xs.length hi - HT.sIx xs.length 0 lo)
theorem F2.cut {B : Bs} {vs : List V} {rs : List Pr} (f : F2 B vs rs) (lo hi : Option Int) : F2 B (cutV vs lo hi) (cutP rs lo hi) := by
  unfold cutV cutP
  rw [f.len]
  exact (f.drop _).take _
theorem x_slL {lo hi : Option Expr} {i j : Option Int} (h : JE g e Γ (rLs g.X.K rs)) (hl : Part g Γ lo i) (hh : Part g Γ hi j) : JE g (.Subscript e (.Slice lo hi none p2) pos) Γ (rLs g.X.K (cutP rs i j)) :=
  x_sl (P := rLs g.X.K rs) sl_list (fun B H v K k ⟨p, vs, e, a, f⟩ c => ⟨p, vs, e, a.sq k, fun q hq => c _ _ _ (Stp.lay k hq) ⟨q, _, rfl, put_same, (f.cut i j).mono (Le.put (k.none hq))⟩⟩) h hl hh
theorem y_slL {lo hi : Option Expr} {i j : Option Int} (h : JE g e Γ (rLs g.X.K rs)) (hl : Part g Γ lo i) (hh : Part g Γ hi j) : JO g (.Subscript e (.Slice lo hi none p2) pos) Γ (oL (cutP rs i j)) :=
  ⟨fun w σ B H s => by
    obtain ⟨tl, pl, kl⟩ := part_run hl w
    obtain ⟨th, ph, kh⟩ := part_run hh w
    refine ofE (pe_slice sl_list pE pl ph) ((h.run w σ B H s).mono fun v H1 ⟨B1, a1, p, vs, e, a, f⟩ => ?_)
    refine kl σ B1 H1 a1.sta _ fun B2 H2 a2 => kh σ B2 H2 a2.sta _ fun B3 H3 a3 => ?_
    have l := a2.le.trans a3.le
    refine ⟨p, vs, e, (a.mono l).sq a3.sta.st.ok, fun q hq => ⟨B3, ((a1.trans a2).trans a3).trans (a3.sta.beside hq), own_mk (a3.sta.st.ok.none hq) (a3.sta.st.bnone hq) upd_same ((f.mono l).cut i j), one_fresh (a1.th (a2.th (a3.th hq)))⟩⟩⟩
theorem x_slT {lo hi : Option Expr} {i j : Option Int} (h : JE g e Γ (rTs g.X.K rs)) (hl : Part g Γ lo i) (hh : Part g Γ hi j) : JE g (.Subscript e (.Slice lo hi none p2) pos) Γ (rTs g.X.K (cutP rs i j)) :=
  x_sl (P := rTs g.X.K rs) sl_tupA (fun B H v K k ⟨p, vs, e, a, f⟩ c => by
    refine ⟨p, vs, e, a.sq k, fun q => ?_, fun _ q hq => c _ _ _ (Stp.lay k hq) ⟨q, _, rfl, .inl put_same, (f.cut i j).mono (Le.put (k.none hq))⟩⟩
    have e2 : cutP rs i j = rs := by
      unfold cutP
      rw [← f.len, q.1, q.2, List.drop_zero, Nat.sub_zero, List.take_of_length_le (by rw [f.len]; exact Nat.le_refl _)]
    exact c _ B H (Stp.refl k) ⟨p, vs, rfl, a, by rw [e2]; exact f⟩) h hl hh
theorem x_slS {lo hi : Option Expr} {i j : Option Int} {z : Str} (hz : z.length ≤ sizeLine) (h : JE g e Γ (rS z)) (hl : Part g Γ lo i) (hh : Part g Γ hi j) : JE g (.Subscript e (.Slice lo hi none p2) pos) Γ (rS (cutS z i j)) :=
  x_sl sl_str (fun B H v K k q c => by cases q; exact ⟨z, rfl, hz, c _ B H (Stp.refl k) rfl⟩) h hl hh

theorem bo_list : bootBuiltins "list" = some (.type "list") := by decide +kernel
theorem bo_tuple : bootBuiltins "tuple" = some (.type "tuple") := by decide +kernel
/-! ### list(x), tuple(x), + -/
theorem y_list (hm : g.X.mg "list" = none) (h : JE g e Γ P) (hP : ∀ B v, P.r B v → ∃ p vs, v = .ref p ∧ (atL g.X.K B p vs ∨ atT g.X.K B p vs) ∧ F2 B vs rs) {p : Pos} (hg : Gl g.X "list" := by rfl) (he : starEach [e] g.X.env = (false, eval e g.X.env) :: starEach [] g.X.env := by rfl) : JO g (.Call (.Name "list" p) [e] [] pos) Γ (oL rs) :=
  ⟨fun w σ B H s => ofE (pe_callTy call_list_of hg hm bo_list (pa_cons pE pA he) (by decide) (by decide) he rfl) ((h.run w σ B H s).mono fun v H1 ⟨B1, a1, q⟩ => ((a_nil (g := g) (Γ := Γ)).run w σ B1 H1 a1.sta).mono fun vs H2 ⟨B2, a2, f⟩ => by
    have ev : vs = [] := by
      cases vs with
      | nil => rfl
      | cons _ _ => exact f.elim
    subst ev
    obtain ⟨p, ws, e, a, f2⟩ := hP _ _ q
    refine ⟨p, ws, by rw [e], a.imp (fun z => (z.mono a2.le).sq a2.sta.st.ok) (fun z => (z.mono a2.le).sq a2.sta.st.ok), fun l hl => ?_⟩
    exact ⟨B2, (a1.trans a2).trans (a2.sta.beside hl), own_mk (a2.sta.st.ok.none hl) (a2.sta.st.bnone hl) upd_same (f2.mono a2.le), one_fresh (a1.th (a2.th hl))⟩)⟩
theorem y_listL (hm : g.X.mg "list" = none) (h : JE g e Γ (rLs g.X.K rs)) {p : Pos} (hg : Gl g.X "list" := by rfl) (he : starEach [e] g.X.env = (false, eval e g.X.env) :: starEach [] g.X.env := by rfl) : JO g (.Call (.Name "list" p) [e] [] pos) Γ (oL rs) :=
  y_list hm h (fun B v ⟨p, vs, e, a, f⟩ => ⟨p, vs, e, .inl a, f⟩) hg he
theorem y_listT (hm : g.X.mg "list" = none) (h : JE g e Γ (rTs g.X.K rs)) {p : Pos} (hg : Gl g.X "list" := by rfl) (he : starEach [e] g.X.env = (false, eval e g.X.env) :: starEach [] g.X.env := by rfl) : JO g (.Call (.Name "list" p) [e] [] pos) Γ (oL rs) :=
  y_list hm h (fun B v ⟨p, vs, e, a, f⟩ => ⟨p, vs, e, .inr a, f⟩) hg he
theorem x_tupL (hm : g.X.mg "tuple" = none) (h : JE g e Γ (rLs g.X.K rs)) {p : Pos} (hg : Gl g.X "tuple" := by rfl) (he : starEach [e] g.X.env = (false, eval e g.X.env) :: starEach [] g.X.env := by rfl) : JE g (.Call (.Name "tuple" p) [e] [] pos) Γ (rTs g.X.K rs) :=
  x_cty (r := fun xs H Q => ∃ p ys, xs = [.ref p] ∧ ((SqL g.X.K H p ys ∧ ∀ l, H l = none → Q (.ref l) (upd H l (.tup ys))) ∨ (SqT g.X.K H p ys ∧ Q (.ref p) H))) hm (fun _ => call_tuple_of) bo_tuple
    (fun B H vs K k f c => by
      obtain ⟨v, rfl, p, ws, e, a, f2⟩ := f.one
      exact ⟨p, ws, by rw [e], .inl ⟨a.sq k, fun l hl => c _ _ _ (Stp.lay k hl) ⟨l, ws, rfl, .inl put_same, f2.mono (Le.put (k.none hl))⟩⟩⟩) (a_cons h a_nil he) hg (by decide) (by decide) he rfl
theorem x_tupT (hm : g.X.mg "tuple" = none) (h : JE g e Γ (rTs g.X.K rs)) {p : Pos} (hg : Gl g.X "tuple" := by rfl) (he : starEach [e] g.X.env = (false, eval e g.X.env) :: starEach [] g.X.env := by rfl) : JE g (.Call (.Name "tuple" p) [e] [] pos) Γ (rTs g.X.K rs) :=
  x_cty (r := fun xs H Q => ∃ p ys, xs = [.ref p] ∧ ((SqL g.X.K H p ys ∧ ∀ l, H l = none → Q (.ref l) (upd H l (.tup ys))) ∨ (SqT g.X.K H p ys ∧ Q (.ref p) H))) hm (fun _ => call_tuple_of) bo_tuple
    (fun B H vs K k f c => by
      obtain ⟨v, rfl, p, ws, e, a, f2⟩ := f.one
      exact ⟨p, ws, by rw [e], .inr ⟨a.sq k, c _ B H (Stp.refl k) ⟨p, ws, rfl, a, f2⟩⟩⟩) (a_cons h a_nil he) hg (by decide) (by decide) he rfl
theorem x_catT (hl : rs.length + qs.length ≤ sizeLine) (h1 : JE g e1 Γ (rTs g.X.K rs)) (h2 : JE g e2 Γ (rTs g.X.K qs)) : JE g (.BinOp e1 .Add e2 pos) Γ (rTs g.X.K (rs ++ qs)) :=
  x_op (P := rTs g.X.K rs) (Q := rTs g.X.K qs) op_catA (fun B H v u K k ⟨p, vs, e, a, f⟩ ⟨p2, vs2, e2, a2, f2⟩ c => by
    subst e e2
    refine ⟨p, p2, vs, vs2, rfl, rfl, a.sq k, a2.sq k, by rw [f.len, f2.len]; exact hl, fun z => ?_, fun _ z => ?_, fun _ _ q hq => ?_⟩
    · subst z
      have : rs = [] := by have := f.len; cases rs with
        | nil => rfl
        | cons _ _ => cases this
      subst this
      exact c _ B H (Stp.refl k) ⟨p2, vs2, rfl, a2, f2⟩
    · subst z
      have : qs = [] := by have := f2.len; cases qs with
        | nil => rfl
        | cons _ _ => cases this
      subst this
      exact c _ B H (Stp.refl k) ⟨p, vs, rfl, a, by rw [List.append_nil]; exact f⟩
    · exact c _ _ _ (Stp.lay k hq) ⟨q, _, rfl, .inl put_same, (f.append f2).mono (Le.put (k.none hq))⟩) h1 h2
/-- a new list -/
theorem y_catL (hl : rs.length + qs.length ≤ sizeLine) (h1 : JE g e1 Γ (rLs g.X.K rs)) (h2 : JE g e2 Γ (rLs g.X.K qs)) : JO g (.BinOp e1 .Add e2 pos) Γ (oL (rs ++ qs)) :=
  ⟨fun w σ B H s => ofE (pe_op op_cat pE pE) ((h1.run w σ B H s).mono fun v H1 ⟨B1, a1, p, vs, e, a, f⟩ => (h2.run w σ B1 H1 a1.sta).mono fun u H2 ⟨B2, a2, p2, vs2, e2, b, f2⟩ => by
    have z := a.mono (K := g.X.K) a2.le
    refine ⟨p, p2, vs, vs2, e, e2, z.at_ a2.sta.st.ok, b.at_ a2.sta.st.ok, by rw [f.len, f2.len]; exact hl, fun q hq => ?_⟩
    exact ⟨B2, (a1.trans a2).trans (a2.sta.beside hq), own_mk (a2.sta.st.ok.none hq) (a2.sta.st.bnone hq) upd_same ((f.mono a2.le).append f2), one_fresh (a1.th (a2.th hq))⟩)⟩
/-- xs * k -/
theorem y_repL {k : Int} (h0 : 0 ≤ k) (hk : k < 2 ^ 63) (hl : rs.length * k.toNat ≤ sizeLine) (h1 : JE g e1 Γ (rLs g.X.K rs)) (h2 : JE g e2 Γ (rI k)) : JO g (.BinOp e1 .Mult e2 pos) Γ (oL (List.replicate k.toNat rs).flatten) :=
  ⟨fun w σ B H s => ofE (pe_op op_rep pE pE) ((h1.run w σ B H s).mono fun v H1 ⟨B1, a1, p, vs, e, a, f⟩ => (h2.run w σ B1 H1 a1.sta).mono fun u H2 ⟨B2, a2, e2⟩ => by
    have z := a.mono (K := g.X.K) a2.le
    refine ⟨p, k, vs, e, e2, z.at_ a2.sta.st.ok, by omega, hk, by rw [f.len]; exact hl, fun q hq => ?_⟩
    have rep : ∀ n : Nat, F2 B2 (List.replicate n vs).flatten (List.replicate n rs).flatten := fun n => by
      induction n with
      | zero => exact trivial
      | succ n ih =>
        rw [List.replicate_succ, List.replicate_succ, List.flatten_cons, List.flatten_cons]
        exact (f.mono a2.le).append ih
    exact ⟨B2, (a1.trans a2).trans (a2.sta.beside hq), own_mk (a2.sta.st.ok.none hq) (a2.sta.st.bnone hq) upd_same (rep _), one_fresh (a1.th (a2.th hq))⟩)⟩

/-! ### own lists changed -/
/-- an object of the own thing in slot i is changed -/
theorem Sta.chg {b : Base} {σ : L2.St} {B : Bs} {H : Hp} {i : Nat} {c c' : Oc} {v : V} {p : Addr} {u : HO} (s : Sta b Γ σ B H) (h : Γ[i]? = some (some (.ow c))) (hv : σ[i]? = some (some v)) (hp : p ∈ c.ad v H) (ha : ∀ a ∈ c'.ad v (upd H p u), a ∈ c.ad v H) (hc : c'.r B (upd H p u) v) (hu : ∀ vs, u ≠ .tup vs := by exact fun _ h => nomatch h) : Sta b (Γ.set i (some (.ow c'))) σ B (upd H p u) := by
  obtain ⟨v', e, o⟩ := s.env.ow i c h
  have ev : v' = v := by rw [hv] at e; simpa using e.symm
  subst ev
  have ag : ∀ (j : Nat) (d : Oc) (w : V), i ≠ j → Γ[j]? = some (some (.ow d)) → σ[j]? = some (some w) → ∀ a ∈ d.ad w H, upd H p u a = H a := fun j d w ne z q a m => by
    have : a ≠ p := by
      rintro rfl
      exact ne (s.env.dis i j c d v' w a h z e q hp m)
    rw [upd_ne this]
  have at' : ∀ a, Hard (H a) → Hard (upd H p u a) := fun a n => by
    by_cases q : a = p
    · subst q; rw [upd_same]; exact ⟨u, rfl, hu⟩
    · rw [upd_ne q]; exact n
  refine ⟨s.st.chg (o.nb p hp) (o.nh p hp), ⟨by rw [List.length_set]; exact s.env.len, fun j r hj => ?_, fun j d hj => ?_, fun j m d d' v1 v2 q h1 h2 h3 h4 h5 h6 => ?_⟩⟩
  · rcases set_get hj with ⟨q, z⟩ | ⟨q, z⟩
    · cases z
    · exact s.env.sh j r z
  · rcases set_get hj with ⟨q, z⟩ | ⟨q, z⟩
    · cases z; subst q
      exact ⟨v', e, fun a m => o.nb a (ha a m), fun a m => o.nh a (ha a m), fun a m => at' a (o.th a (ha a m)), hc⟩
    · obtain ⟨w, e3, k⟩ := s.env.ow j d z
      have g := ag j d w q z e3
      have ea := d.ast H (upd H p u) w g
      exact ⟨w, e3, fun a m => k.nb a (by rw [← ea]; exact m), fun a m => k.nh a (by rw [← ea]; exact m), fun a m => at' a (k.th a (by rw [← ea]; exact m)), d.rst _ _ _ _ g k.at_⟩
  · rcases set_get h1 with ⟨q1, z1⟩ | ⟨q1, z1⟩
    · rcases set_get h2 with ⟨q2, z2⟩ | ⟨q2, z2⟩
      · exact q1.symm.trans q2
      · cases z1; subst q1
        rw [e] at h3; cases h3
        rw [d'.ast H _ v2 (ag m d' v2 q2 z2 h4)] at h6
        exact s.env.dis i m c d' v' v2 q h z2 e h4 (ha q h5) h6
    · rcases set_get h2 with ⟨q2, z2⟩ | ⟨q2, z2⟩
      · cases z2; subst q2
        rw [e] at h4; cases h4
        rw [d.ast H _ v1 (ag j d v1 q1 z1 h3)] at h5
        exact s.env.dis j i d c v1 v' q z1 h h3 e h5 (ha q h6)
      · rw [d.ast H _ v1 (ag j d v1 q1 z1 h3)] at h5
        rw [d'.ast H _ v2 (ag m d' v2 q2 z2 h4)] at h6
        exact s.env.dis j m d d' v1 v2 q z1 z2 h3 h4 h5 h6
theorem Sta.chgL {b : Base} {σ : L2.St} {B : Bs} {H : Hp} {i : Nat} {p : Addr} {vs : List V} (s : Sta b Γ σ B H) (h : Γ[i]? = some (some (.ow (oL rs)))) (hv : σ[i]? = some (some (.ref p))) (f : F2 B vs qs) : Sta b (Γ.set i (some (.ow (oL qs)))) σ B (upd H p (.lst vs)) :=
  s.chg h hv (mem_one.mpr rfl) (fun a m => m) ⟨p, vs, rfl, upd_same, f⟩
/-- x.append(e), x own -/
theorem s_app (i : Nat) {x : Str} {p apos cpos : Pos} (h : JE g e Γ P) (hz : rs.length < sizeLine) (k : JS g rest (Γ.set i (some (.ow (oL (rs ++ [P]))))) D) (hi : Γ[i]? = some (some (.ow (oL rs))) := by rfl) (hN : g.X.N[i]? = some x := by rfl) (hv : Vis g.X.env.scope x := by first | exact Or.inl rfl | exact Or.inr (Or.inl rfl) | exact Or.inr (Or.inr rfl))
    (hd : (x == ("__debug__" : Str)) = false := by decide) (hcd : (x == ("__classdict__" : Str)) = false := by decide) (hline : (apos.endLine == cpos.line) = true := by rfl)
    (hfew : ((backTo cpos (starEach [e] g.X.env)).all (fun x => !x.1) && (backToKw cpos (keywordEach [] g.X.env)).all (fun x => x.1.isSome) && decide ([e].length + ([] : List Keyword).length + (if ([] : List Keyword).isEmpty then 0 else 1) < 30)) = true := by rfl)
    (he : starEach [e] g.X.env = (false, eval e g.X.env) :: starEach [] g.X.env := by rfl) (hs : swapsWith (.Call (.Attribute (.Name x p) "append" apos) [e] [] cpos) none pos.line g.X.env = pure false := by rfl) :
    JS g (.Expr (.Call (.Attribute (.Name x p) "append" apos) [e] [] cpos) pos :: rest) Γ D :=
  js_cons fun w σ B H s => of1 (ps_expr (pe_bm PySem.F.plainAttrs_list PySem.F.slot_list_append PySem.F.type_list_append mt_append (pe_var hN hv hd hcd) (pa_cons pE pa_nil he) (by rfl) hfew hline he rfl) hs) (by
    obtain ⟨v0, e, o⟩ := s.env.ow i _ hi
    obtain ⟨q, vs, e2, nb, nh, hu, f⟩ := own_one o
    subst e2
    refine ⟨_, e, .inl ⟨rfl, vs, SqL.of hu⟩, (h.run w σ B H s).mono fun v H1 ⟨B1, a1, p1⟩ => ?_⟩
    have hu1 : H1 q = some (.lst vs) := a1.t.keep q _ hu fun φ z => by rw [nb] at z; cases z
    refine ⟨q, vs, v, rfl, rfl, hu1, by rw [f.len]; exact hz, k.go w a1.le (a1.sta.chgL hi e ((f.mono a1.le).append ⟨p1, trivial⟩))⟩)
/-- x.extend(e), x own -/
theorem s_ext (i : Nat) {x : Str} {p apos cpos : Pos} (h : JE g e Γ (rLs g.X.K qs)) (hz : rs.length + qs.length ≤ sizeLine) (k : JS g rest (Γ.set i (some (.ow (oL (rs ++ qs))))) D) (hi : Γ[i]? = some (some (.ow (oL rs))) := by rfl) (hN : g.X.N[i]? = some x := by rfl) (hv : Vis g.X.env.scope x := by first | exact Or.inl rfl | exact Or.inr (Or.inl rfl) | exact Or.inr (Or.inr rfl))
    (hd : (x == ("__debug__" : Str)) = false := by decide) (hcd : (x == ("__classdict__" : Str)) = false := by decide) (hline : (apos.endLine == cpos.line) = true := by rfl)
    (hfew : ((backTo cpos (starEach [e] g.X.env)).all (fun x => !x.1) && (backToKw cpos (keywordEach [] g.X.env)).all (fun x => x.1.isSome) && decide ([e].length + ([] : List Keyword).length + (if ([] : List Keyword).isEmpty then 0 else 1) < 30)) = true := by rfl)
    (he : starEach [e] g.X.env = (false, eval e g.X.env) :: starEach [] g.X.env := by rfl) (hs : swapsWith (.Call (.Attribute (.Name x p) "extend" apos) [e] [] cpos) none pos.line g.X.env = pure false := by rfl) :
    JS g (.Expr (.Call (.Attribute (.Name x p) "extend" apos) [e] [] cpos) pos :: rest) Γ D :=
  js_cons fun w σ B H s => of1 (ps_expr (pe_bm PySem.F.plainAttrs_list PySem.F.slot_list_extend PySem.F.type_list_extend mt_extend (pe_var hN hv hd hcd) (pa_cons pE pa_nil he) (by rfl) hfew hline he rfl) hs) (by
    obtain ⟨v0, e, o⟩ := s.env.ow i _ hi
    obtain ⟨q, vs, e2, nb, nh, hu, f⟩ := own_one o
    subst e2
    refine ⟨_, e, .inl ⟨rfl, vs, SqL.of hu⟩, (h.run w σ B H s).mono fun v H1 ⟨B1, a1, p2, ws, e3, a, f2⟩ => ?_⟩
    have hu1 : H1 q = some (.lst vs) := a1.t.keep q _ hu fun φ z => by rw [nb] at z; cases z
    refine ⟨q, p2, vs, ws, rfl, by rw [e3], hu1, a.at_ a1.sta.st.ok, by rw [f.len, f2.len]; exact hz, k.go w a1.le (a1.sta.chgL hi e ((f.mono a1.le).append f2))⟩)
/-- x[j] = e, x own -/
theorem s_setL (i : Nat) {j : Nat} {x : Str} {p spos : Pos} (h : JE g e Γ P) (hj : JE g e1 Γ (rI (j : Int))) (hl : j < rs.length) (k : JS g rest (Γ.set i (some (.ow (oL (rs.set j P))))) D) (hi : Γ[i]? = some (some (.ow (oL rs))) := by rfl) (hN : g.X.N[i]? = some x := by rfl) (hv : Vis g.X.env.scope x := by first | exact Or.inl rfl | exact Or.inr (Or.inl rfl) | exact Or.inr (Or.inr rfl))
    (hd : (x == ("__debug__" : Str)) = false := by decide) (hcd : (x == ("__classdict__" : Str)) = false := by decide)
    (ha : ∀ v, assign (.Subscript (.Name x p) e1 spos) g.X.env v = (do
      let ov ← holding [v] (eval (.Name x p) g.X.env)
      let iv ← holding [v, ov] (eval e1 g.X.env)
      standAt spos
      holding [v, ov, iv] (setItem ov iv v)
      release [v, ov, iv] []) := by intro _; rfl)
    (hs : swapsWithSole [.Subscript (.Name x p) e1 spos] e pos.line g.X.env = pure false := by rfl) (hw : swappedStores [.Subscript (.Name x p) e1 spos] e g.X.env = pure none := by rfl)
    (h1 : (assignEach [.Subscript (.Name x p) e1 spos] g.X.env).map (·.2) = [assign (.Subscript (.Name x p) e1 spos) g.X.env] := by rfl) :
    JS g (.Assign [.Subscript (.Name x p) e1 spos] e pos :: rest) Γ D :=
  js_cons fun w σ B H s => of1 (ps_asg pE (pg_sub (pe_var hN hv hd hcd) pE set_list ha) hs hw h1) (by
    obtain ⟨v0, e, o⟩ := s.env.ow i _ hi
    obtain ⟨q, vs, e2, nb, nh, hu, f⟩ := own_one o
    subst e2
    refine (h.run w σ B H s).mono fun v H1 ⟨B1, a1, p1⟩ => ⟨_, e, (hj.run w σ B1 H1 a1.sta).mono fun jv H2 ⟨B2, a2, ej⟩ => ?_⟩
    have a12 := a1.trans a2
    have hu1 : H2 q = some (.lst vs) := a12.t.keep q _ hu fun φ z => by rw [nb] at z; cases z
    refine ⟨q, vs, (j : Int), j, rfl, ej, hu1, Evl.ixN_nat (by rw [f.len]; exact hl), k.go w a12.le (a12.sta.chgL hi e (F2.set (P.mono _ _ _ a2.le p1) j (f.mono a12.le)))⟩)
/-- x[j], x own -/
theorem x_ixO (i : Nat) {j : Int} {x : Str} {p : Pos} (hj : atI rs j = some R) (h2 : JE g e2 Γ (rI j)) (hi : Γ[i]? = some (some (.ow (oL rs))) := by rfl) (hN : g.X.N[i]? = some x := by rfl) (hv : Vis g.X.env.scope x := by first | exact Or.inl rfl | exact Or.inr (Or.inl rfl) | exact Or.inr (Or.inr rfl))
    (hd : (x == ("__debug__" : Str)) = false := by decide) (hcd : (x == ("__classdict__" : Str)) = false := by decide) (hs : PlainIx e2 := by exact fun _ _ => rfl) : JE g (.Subscript (.Name x p) e2 pos) Γ R :=
  ⟨fun w σ B H s => ofE (pe_ix ix_list (pe_var hN hv hd hcd) pE hs) (by
    obtain ⟨v0, e, o⟩ := s.env.ow i _ hi
    obtain ⟨q, vs, e2, nb, nh, hu, f⟩ := own_one o
    subst e2
    refine ⟨_, e, (h2.run w σ B H s).mono fun jv H1 ⟨B1, a1, ej⟩ => ?_⟩
    have hu1 : H1 q = some (.lst vs) := a1.t.keep q _ hu fun φ z => by rw [nb] at z; cases z
    unfold atI at hj
    rw [← f.len] at hj
    cases hn : ixN vs.length j with
    | none => rw [hn] at hj; cases hj
    | some m =>
      rw [hn] at hj
      obtain ⟨v, ev, z⟩ := f.get (i := m) (r := R) hj
      exact ⟨q, vs, j, v, rfl, ej, SqL.of hu1, by unfold atI; rw [hn]; exact ev, B1, a1, R.mono _ _ _ a1.le z⟩)⟩
end
end G
set_option Elab.async false
set_option linter.all false
set_option maxRecDepth 100000
set_option maxHeartbeats 2000000
namespace G
open PySem L2
section
variable {g : Gx} {Γ : Gm} {P Q R : Pr} {e e1 e2 tg : Expr} {pos p2 : Pos} {D : En} {st : Stmt} {ss rest : List Stmt} {rs qs : List Pr}

/-! ### what is walked -/
def tI (X : Cx) (tg iter : Expr) : TI := fun σ H R => ∀ pins s, Inv X pins σ H s → wpAny (model X.prog X.w) X.A (eval iter X.env) (fun v s1 => wpAny (model X.prog X.w) X.A (pyIter v) (PIE X pins σ tg R) X.xe s1) X.xe s
theorem pI {X : Cx} {iter : Expr} : PI X tg iter (tI X tg iter) := ⟨fun pins s σ H R I h => h pins s I⟩
theorem ofI {X : Cx} {iter : Expr} {t : TI} (h : PI X tg iter t) {σ : L2.St} {H : Hp} {R} (q : t σ H R) : tI X tg iter σ H R := fun pins s I => h.run pins s σ H R I q
/-- n items, the i-th of it i -/
def Gives (B1 : Bs) (n : Nat) (it : Nat → Pr) (J : It) : Prop := ∃ (Gw : Hp → Prop) (Y : Nat → Hp → V → Hp → Prop), Walk J n Gw Y ∧ (∀ B2 H2, Le B1 B2 → Ok B2 H2 → Gw H2) ∧
  ∀ i H2 x H3 B2, i < n → Le B1 B2 → Ok B2 H2 → Y i H2 x H3 → ∃ B3, Stp B2 H2 B3 H3 ∧ (it i).r B3 x
structure JI (g : Gx) (tg iter : Expr) (Γ : Gm) (n : Nat) (it : Nat → Pr) : Prop where
  run : g.Wf → ∀ σ B H, Sta g.b Γ σ B H → tI g.X tg iter σ H (fun J H1 => ∃ B1, Aft g.b Γ σ B H B1 H1 ∧ Gives B1 n it J)
theorem Gives.mono {B1 B2 : Bs} {n : Nat} {it : Nat → Pr} {J : It} (h : Gives B1 n it J) (l : Le B1 B2) : Gives B2 n it J := by
  obtain ⟨G, Y, w, a, b⟩ := h
  exact ⟨G, Y, w, fun B3 H3 l3 k => a B3 H3 (l.trans l3) k, fun i H2 x H3 B3 hi l3 k y => b i H2 x H3 B3 hi (l.trans l3) k y⟩
/-- the i-th of a list of predicates -/
def nth (rs : List Pr) (i : Nat) : Pr := rs.getD i rN
theorem nth_of {i : Nat} {r : Pr} (h : rs[i]? = some r) : nth rs i = r := by unfold nth; rw [List.getD_eq_getElem?_getD, h]; rfl
theorem F2.nth {B : Bs} {vs : List V} (f : F2 B vs rs) {i : Nat} {v : V} (h : vs[i]? = some v) : (nth rs i).r B v := by
  have hi : i < rs.length := by rw [← f.len]; exact (List.getElem?_eq_some_iff.mp h).1
  obtain ⟨u, e, k⟩ := f.get (List.getElem?_eq_getElem hi)
  rw [h] at e
  cases e
  rw [nth_of (List.getElem?_eq_getElem hi)]
  exact k
theorem i_list (h : JE g e Γ (rLs g.X.K rs)) : JI g tg e Γ rs.length (nth rs) :=
  ⟨fun w σ B H s => ofI (pi_list pE) ((h.run w σ B H s).mono fun v H1 ⟨B1, a1, p, vs, e, a, f⟩ => ⟨p, e, ⟨vs, a.sq a1.sta.st.ok⟩, B1, a1, _, _, f.len ▸ walk_list, fun B2 H2 l k => (a.mono l).sq k, fun i H2 x H3 B2 hi l k y => by
    obtain ⟨e2, e3⟩ := y
    subst e2
    exact ⟨B2, Stp.refl k, (f.mono l).nth e3⟩⟩)⟩
theorem i_tup (h : JE g e Γ (rTs g.X.K rs)) : JI g tg e Γ rs.length (nth rs) :=
  ⟨fun w σ B H s => ofI (pi_tup pE) ((h.run w σ B H s).mono fun v H1 ⟨B1, a1, p, vs, e, a, f⟩ => ⟨p, e, ⟨vs, a.sq a1.sta.st.ok⟩, B1, a1, _, _, f.len ▸ walk_tup, fun B2 H2 l k => (a.mono l).sq k, fun i H2 x H3 B2 hi l k y => by
    obtain ⟨e2, e3⟩ := y
    subst e2
    exact ⟨B2, Stp.refl k, (f.mono l).nth e3⟩⟩)⟩
theorem i_range1 {j : Int} {p : Pos} (hm : g.X.mg "range" = none) (h1 : -(2 ^ 62) ≤ j) (h2 : j < 2 ^ 62) (h : JE g e Γ (rI j)) (hg : Gl g.X "range" := by rfl) (hs : starEach [e] g.X.env = [(false, eval e g.X.env)] := by rfl) :
    JI g tg (.Call (.Name "range" p) [e] [] pos) Γ j.toNat (fun i => rI (i : Int)) :=
  ⟨fun w σ B H s => ofI (pi_range1 hg hm pA hs) (((a_cons h a_nil hs).run w σ B H s).mono fun vs H1 ⟨B1, a1, f⟩ => by
    obtain ⟨v, rfl, e⟩ := f.one
    refine ⟨j, by rw [e], h1, h2, B1, a1, _, _, walk_range, fun _ _ _ _ => trivial, fun i H2 x H3 B2 hi l k y => ?_⟩
    obtain ⟨e2, e3⟩ := y
    subst e2
    exact ⟨B2, Stp.refl k, by rw [e3]; show V.int (0 + (i : Int)) = _; rw [Int.zero_add]⟩)⟩
theorem i_range2 {j k : Int} {p : Pos} (hm : g.X.mg "range" = none) (hb : -(2 ^ 62) ≤ j ∧ j < 2 ^ 62 ∧ -(2 ^ 62) ≤ k ∧ k < 2 ^ 62) (h : JE g e Γ (rI j)) (h' : JE g e1 Γ (rI k)) (hg : Gl g.X "range" := by rfl) (hs : starEach [e, e1] g.X.env = [(false, eval e g.X.env), (false, eval e1 g.X.env)] := by rfl) (hs2 : starEach [e1] g.X.env = [(false, eval e1 g.X.env)] := by rfl) :
    JI g tg (.Call (.Name "range" p) [e, e1] [] pos) Γ (k - j).toNat (fun i => rI (j + (i : Int))) :=
  ⟨fun w σ B H s => ofI (pi_range2 hg hm pA hs hs2) (((a_cons h (a_cons h' a_nil hs2) (by rw [hs, hs2])).run w σ B H s).mono fun vs H1 ⟨B1, a1, f⟩ => by
    obtain ⟨v, u, rfl, e, e'⟩ := f.two
    refine ⟨j, k, by rw [e, e'], hb, B1, a1, _, _, walk_range, fun _ _ _ _ => trivial, fun i H2 x H3 B2 hi l kk y => ?_⟩
    obtain ⟨e2, e3⟩ := y
    subst e2
    exact ⟨B2, Stp.refl kk, e3⟩)⟩
/-- a new pair each turn -/
theorem gives_pair {B1 : Bs} {J : It} {n : Nat} {Gw : Hp → Prop} {f h : Nat → Option V} {p q : Nat → Pr} {K : PySem.W.Frag} (w : Walk J n Gw (YPair f h)) (hG : ∀ B2 H2, Le B1 B2 → Ok B2 H2 → Gw H2)
    (hp : ∀ i x B2, i < n → Le B1 B2 → f i = some x → (p i).r B2 x) (hq : ∀ i x B2, i < n → Le B1 B2 → h i = some x → (q i).r B2 x) : Gives B1 n (fun i => rTs K [p i, q i]) J :=
  ⟨Gw, _, w, hG, fun i H2 x H3 B2 hi l k y => by
    obtain ⟨T, a, c, e, hT, e3, ha, hc⟩ := y
    subst e3
    have lT : Le B2 (put B2 T (.ex (.tup [a, c]))) := Le.put (k.none hT)
    exact ⟨_, Stp.lay k hT, T, [a, c], e, .inl put_same, (p i).mono _ _ _ lT (hp i a B2 hi l ha), (q i).mono _ _ _ lT (hq i c B2 hi l hc), trivial⟩⟩
theorem i_zipL {elts : List Expr} {kk : Nat} {tpos p : Pos} (hm : g.X.mg "zip" = none) (h : JE g e Γ (rLs g.X.K rs)) (h' : JE g e1 Γ (rLs g.X.K qs)) (hg : Gl g.X "zip" := by rfl) (hs : starEach [e, e1] g.X.env = (false, eval e g.X.env) :: starEach [e1] g.X.env := by rfl) (hs2 : starEach [e1] g.X.env = (false, eval e1 g.X.env) :: starEach [] g.X.env := by rfl) (hpl : (backTo pos (starEach [e1] g.X.env)).any (·.1) = false := by rfl) :
    JI g (.Tuple elts kk tpos) (.Call (.Name "zip" p) [e, e1] [] pos) Γ (min rs.length qs.length) (fun i => rTs g.X.K [nth rs i, nth qs i]) :=
  ⟨fun w σ B H s => ofI (pi_zip hg hm pA hs hpl) (((a_cons h (a_cons h' a_nil hs2) hs).run w σ B H s).mono fun vs H1 ⟨B1, a1, f⟩ => by
    obtain ⟨v, u, rfl, ⟨p, xs, e, a, f1⟩, ⟨p', ys, e', a', f2⟩⟩ := f.two
    refine ⟨p, p', xs, ys, by rw [e, e'], a.sq a1.sta.st.ok, a'.sq a1.sta.st.ok, B1, a1, gives_pair (walk_zip (by rw [f1.len, f2.len])) (fun B2 H2 l k => ⟨(a.mono l).sq k, (a'.mono l).sq k⟩) (fun i x B2 hi l e => (f1.mono l).nth e) (fun i x B2 hi l e => (f2.mono l).nth e)⟩)⟩
theorem i_enum {elts : List Expr} {kk : Nat} {tpos p : Pos} (hm : g.X.mg "enumerate" = none) (h : JE g e Γ (rLs g.X.K rs)) (hg : Gl g.X "enumerate" := by rfl) (hs : starEach [e] g.X.env = [(false, eval e g.X.env)] := by rfl) :
    JI g (.Tuple elts kk tpos) (.Call (.Name "enumerate" p) [e] [] pos) Γ rs.length (fun i => rTs g.X.K [rI (i : Int), nth rs i]) :=
  ⟨fun w σ B H s => ofI (pi_enum hg hm pA hs) (((a_cons h a_nil hs).run w σ B H s).mono fun vs H1 ⟨B1, a1, f⟩ => by
    obtain ⟨v, rfl, p, xs, e, a, f1⟩ := f.one
    refine ⟨p, xs, by rw [e], a.sq a1.sta.st.ok, B1, a1, gives_pair (f1.len ▸ walk_enum) (fun B2 H2 l k => (a.mono l).sq k) (fun i x B2 hi l e => ?_) (fun i x B2 hi l e => (f1.mono l).nth e)⟩
    cases e
    rfl)⟩
theorem i_rev {p : Pos} (hm : g.X.mg "reversed" = none) (h : JE g e Γ (rLs g.X.K rs)) (hg : Gl g.X "reversed" := by rfl) (hs : starEach [e] g.X.env = [(false, eval e g.X.env)] := by rfl) :
    JI g tg (.Call (.Name "reversed" p) [e] [] pos) Γ rs.length (fun i => nth rs (rs.length - 1 - i)) :=
  ⟨fun w σ B H s => ofI (pi_reversed hg hm pA hs) (((a_cons h a_nil hs).run w σ B H s).mono fun vs H1 ⟨B1, a1, f⟩ => by
    obtain ⟨v, rfl, p, xs, e, a, f1⟩ := f.one
    refine ⟨p, xs, by rw [e], a.sq a1.sta.st.ok, B1, a1, _, _, by rw [← f1.len]; exact walk_rev, fun B2 H2 l k => ?_, fun i H2 x H3 B2 hi l k y => ?_⟩
    · exact (a.mono l).sq k
    · obtain ⟨e2, e3⟩ := y
      subst e2
      refine ⟨B2, Stp.refl k, ?_⟩
      have z := (f1.mono l).nth e3
      rw [f1.len] at z
      exact z)⟩
theorem i_str {z : Str} (h : JE g e Γ (rS z)) : JI g tg e Γ z.cps.size (fun i => rS ⟨#[z.cps.getD i 0]⟩) :=
  ⟨fun w σ B H s => ofI (pi_str pE) ((h.run w σ B H s).mono fun v H1 ⟨B1, a1, e⟩ => ⟨z, e, B1, a1, _, _, walk_str, fun _ _ _ _ => trivial, fun i H2 x H3 B2 hi l k y => by
    obtain ⟨e2, c, e3, e4⟩ := y
    subst e2
    refine ⟨B2, Stp.refl k, ?_⟩
    rw [e4]
    show V.str ⟨#[c]⟩ = V.str ⟨#[z.cps.getD i 0]⟩
    have : z.cps.getD i 0 = c := by
      rw [Array.getD_eq_getD_getElem?, e3]; rfl
    rw [this]⟩)⟩

/-! ### for -/
theorem s_for {iter : Expr} {body : List Stmt} {n : Nat} {it : Nat → Pr} (I : Nat → Gm) {I2 : Nat → Gm} {sl : List Nat} (hI : JI g tg iter Γ n it) (h0 : GmLe Γ (I 0)) (hg : ∀ i, i < n → JG g tg (it i) (I i) (I2 i) sl)
    (hb : ∀ i, i < n → JS g body (I2 i) (D.lp g.X rest g.b (I (i + 1)))) (hd : JS g rest (I n) D) (hs : ∀ x, foldedSetIterable iter g.X.env x = pure x := by intro _; rfl) (hcm : g.X.calm = true := by rfl) :
    JS g (.For tg iter body [] pos :: rest) Γ D :=
  js_cons fun w σ B H s => of1 (ps_for w.po hcm pI pG pS hs) (fun pins s1 I1 => by
    refine (hI.run w σ B H s) pins s1 I1 |> fun z => ?_
    refine thn z fun v s2 h2 => thn h2 fun itv s3 h3 => ?_
    obtain ⟨itA, fp, tn, J, H3, e1, e2, e3, e4, e5, B1, a1, Gw, Y, wk, kg, ky⟩ := h3
    refine ⟨itA, fp, tn, J, H3, e1, e2, e3, e4, e5, for_it wk (fun i σ' H' => ∃ B', Le B1 B' ∧ Sta g.b (I i) σ' B' H') ⟨B1, Le.refl _, a1.sta.imp h0⟩ (fun i σ' H' hi ⟨B', l, s'⟩ => kg B' H' l s'.st.ok) ?_ ?_⟩
    · intro i x σ' H' H'' hi ⟨B', l, s'⟩ y
      obtain ⟨B2, t, p⟩ := ky i H' x H'' B' hi l s'.st.ok y
      have a2 := s'.step t
      refine (hg i hi).run w σ' B2 H'' x a2.sta p _ fun σ2 s3 _ => ?_
      have l13 : Le B1 B2 := l.trans a2.le
      refine ((hb i hi).run w σ2 B2 H'' s3).mono ⟨fun σ4 H4 ⟨B4, l4, s4⟩ => ⟨B4, l13.trans l4, s4⟩, fun _ _ q => q, fun σ4 H4 q => WS.mono q (D.anti (a1.le.trans l13)), fun σ4 H4 ⟨B4, l4, s4⟩ => ⟨B4, l13.trans l4, s4⟩⟩
    · intro σ' H' ⟨B', l, s'⟩
      exact hd.go w (a1.le.trans l) s')

/-! ### while -/
theorem s_while {ι : Type} {body : List Stmt} (I : ι → Gm) (m : ι → Nat) (t : ι → Bool) (a0 : ι) (h0 : GmLe Γ (I a0)) (ht : ∀ a, JT g e (I a) (t a))
    (hb : ∀ a, t a = true → JS g body (I a) { D with nx := fun B σ' H' => ∃ a', m a' < m a ∧ Nx g.b (I a') B σ' H', anx := fun _ _ _ _ l ⟨a', h, z⟩ => ⟨a', h, Nx.anti _ _ _ _ l z⟩, ct := fun B σ' H' => ∃ a', m a' < m a ∧ Nx g.b (I a') B σ' H', act := fun _ _ _ _ l ⟨a', h, z⟩ => ⟨a', h, Nx.anti _ _ _ _ l z⟩, bk := fun B σ' H' => WS g.X rest (D.at_ B) σ' H', abk := fun _ _ _ _ l h => h.mono (D.anti l) })
    (hd : ∀ a, t a = false → JS g rest (I a) D) : JS g (.While e body [] pos :: rest) Γ D :=
  js_cons fun w σ B H s => of1 (ps_while w.po pT pS) (by
    refine ⟨fun n σ' H' => ∃ a B', n = m a ∧ Le B B' ∧ Sta g.b (I a) σ' B' H', ⟨_, a0, B, rfl, Le.refl _, s.imp h0⟩, ?_⟩
    rintro n σ' H' ⟨a, B', rfl, l, s'⟩
    refine ((ht a).run w σ' B' H' s').mono fun v H1 ⟨B1, a1, q⟩ => ?_
    subst q
    have l1 := l.trans a1.le
    cases hv : t a with
    | true =>
      rw [if_pos rfl]
      refine ⟨fun σ2 H2 => ∃ a', m a' < m a ∧ ∃ B2, Le B B2 ∧ Sta g.b (I a') σ2 B2 H2, fun σ2 H2 ⟨a', h, B2, l2, s2⟩ => ⟨m a', h, a', B2, rfl, l2, s2⟩, ?_⟩
      exact ((hb a hv).run w σ' B1 H1 a1.sta).mono ⟨fun σ4 H4 ⟨a', h, B4, l4, s4⟩ => ⟨a', h, B4, l1.trans l4, s4⟩, fun _ _ q => q, fun σ4 H4 q => WS.mono q (D.anti l1), fun σ4 H4 ⟨a', h, B4, l4, s4⟩ => ⟨a', h, B4, l1.trans l4, s4⟩⟩
    | false =>
      rw [if_neg Bool.false_ne_true]
      exact (hd a hv).go w l1 a1.sta)

/-! ### comprehensions -/
def wipeG (Γ : Gm) : List Nat → Gm
  | [] => Γ
  | v :: vs => (wipeG Γ vs).set v none
theorem wipeG_length (Γ : Gm) : ∀ vs : List Nat, (wipeG Γ vs).length = Γ.length
  | [] => rfl
  | v :: vs => by unfold wipeG; rw [List.length_set, wipeG_length Γ vs]
theorem wipeG_some {Γ : Gm} {i : Nat} {x : Sl} : ∀ {vs : List Nat}, (wipeG Γ vs)[i]? = some (some x) → Γ[i]? = some (some x) ∧ i ∉ vs
  | [], h => ⟨h, by simp⟩
  | v :: vs, h => by
    unfold wipeG at h
    rcases set_get h with ⟨_, z⟩ | ⟨q, z⟩
    · cases z
    · obtain ⟨a, b⟩ := wipeG_some z
      exact ⟨a, fun m => (List.mem_cons.mp m).elim (fun e => q e.symm) b⟩
theorem Sta.wipe {b : Base} {σ : L2.St} {B : Bs} {H : Hp} (s : Sta b Γ σ B H) (vs : List Nat) : Sta b (wipeG Γ vs) (L2.wipe σ vs) B H where
  st := s.st
  env := {
    len := by rw [wipe_length, wipeG_length]; exact s.env.len
    sh := fun i r h => by
      obtain ⟨a, n⟩ := wipeG_some h
      obtain ⟨v, e, k⟩ := s.env.sh i r a
      exact ⟨v, by rw [wipe_out n]; exact e, k⟩
    ow := fun i r h => by
      obtain ⟨a, n⟩ := wipeG_some h
      obtain ⟨v, e, k⟩ := s.env.ow i r a
      exact ⟨v, by rw [wipe_out n]; exact e, k⟩
    dis := fun i j c c' v v' p h1 h2 h3 h4 => by
      obtain ⟨a1, n1⟩ := wipeG_some h1
      obtain ⟨a2, n2⟩ := wipeG_some h2
      rw [wipe_out n1] at h3
      rw [wipe_out n2] at h4
      exact s.env.dis i j c c' v v' p a1 a2 h3 h4 }
theorem Stp.chg' {B0 B : Bs} {H0 H : Hp} {p : Addr} {u : HO} (s : Stp B0 H0 B H) (hb : B p = none) (nh : H0 p = none) : Stp B0 H0 B (upd H p u) := Stp.chg (b := ⟨B0, H0⟩) s hb nh
theorem wipe_wipe (σ : L2.St) (vs : List Nat) : L2.wipe (L2.wipe σ vs) vs = L2.wipe σ vs := by
  apply List.ext_getElem?
  intro j
  by_cases m : j ∈ vs
  · have key : ∀ (τ : L2.St) (ws : List Nat), j ∈ ws → (L2.wipe τ ws)[j]? = if j < τ.length then some none else none := by
      intro τ ws
      induction ws with
      | nil => intro z; cases z
      | cons u us ih =>
        intro z
        unfold L2.wipe
        by_cases e : u = j
        · subst e
          by_cases hl : u < τ.length
          · rw [List.getElem?_set_self (by rw [wipe_length]; exact hl), if_pos hl]
          · rw [List.getElem?_eq_none (by rw [List.length_set, wipe_length]; omega), if_neg hl]
        · rw [List.getElem?_set_ne e]
          rcases List.mem_cons.mp z with q | q
          · exact absurd q.symm e
          · exact ih q
    rw [key _ _ m, key _ _ m, wipe_length]
  · rw [wipe_out m]
/-- the context of a comprehension's block -/
abbrev Gx.blk (g : Gx) (s : Shared) (H : Hp) (scope : Scope) (C : Addr) (cl : List (Str × Addr)) (fp : List Addr) : Gx := ⟨g.X.blk s H scope (compEnvC scope cl C g.X.env) fp, g.b, fun _ _ _ _ => False, g.k⟩
theorem Gx.Wf.blk {g : Gx} (w : g.Wf) {s : Shared} {H : Hp} {scope : Scope} {C : Addr} {cl : List (Str × Addr)} {fp : List Addr} : (g.blk s H scope C cl fp).Wf := ⟨nTakes0, w.hr, PassesOwn.never, w.nd, w.bok⟩
/-- which turns give -/
def gv (n : Nat) (c : Nat → Bool) (q : Nat → Pr) : List Pr := ((List.range n).filter c).map q
theorem gv_succ (n : Nat) (c : Nat → Bool) (q : Nat → Pr) : gv (n + 1) c q = gv n c q ++ (if c n = true then [q n] else []) := by
  unfold gv
  rw [List.range_succ, List.filter_append, List.map_append]
  cases h : c n with
  | true => rw [List.filter_cons, if_pos h, if_pos rfl]; rfl
  | false => rw [List.filter_cons, if_neg (by rw [h]; decide), if_neg (by decide)]; rfl
theorem gv_len (n : Nat) (c : Nat → Bool) (q : Nat → Pr) : (gv n c q).length ≤ n := by
  unfold gv
  rw [List.length_map]
  have h := List.length_filter_le c (List.range n)
  rw [List.length_range] at h
  exact h
structure JTs (g : Gx) (ifs : List Expr) (Γ : Gm) (c : Bool) : Prop where
  run : g.Wf → ∀ σ B H, Sta g.b Γ σ B H → ∀ K : Bool → Hp → Prop, (∀ B' H', Aft g.b Γ σ B H B' H' → K c H') → ∀ pins s, Inv g.X pins σ H s → wpAny (model g.X.prog g.X.w) g.X.A (forIn ifs true fun c r => if r = true then do let ok ← isTrue c g.X.env (eval c g.X.env); pure (ForInStep.yield ok) else pure (ForInStep.yield r)) (TP g.X pins σ K) g.X.xe s
theorem ts_no : JTs g [] Γ true := ⟨fun w σ B H s K k pins st I => pts_nil.run pins st σ H K I (k B H s.refl)⟩
theorem ts_if {c : Bool} (h : JT g e Γ c) : JTs g [e] Γ c := ⟨fun w σ B H s K k pins st I => (pts_one pT).run pins st σ H K I ((h.run w σ B H s).mono fun v H' ⟨B', a, q⟩ => by rw [q]; exact k B' H' a)⟩
/-- the readings in a block, for whatever block -/
abbrev AnyB (scope : Scope) (g : Gx) (p : Gx → Prop) : Prop := ∀ (s : Shared) (H : Hp) (C : Addr) (cl : List (Str × Addr)) (fp : List Addr), p (g.blk s H scope C cl fp)
def bG (g : Gx) (scope : Scope) (tg : Expr) : TG := fun v σ H Q => ∀ s0 H0 C cl fp, tG (g.blk s0 H0 scope C cl fp).X tg v σ H Q
def bT (g : Gx) (scope : Scope) (ifs : List Expr) : L2.TT := fun σ H K => ∀ s0 H0 C cl fp, ∀ pins s, Inv (g.blk s0 H0 scope C cl fp).X pins σ H s → wpAny (model g.X.prog g.X.w) g.X.A (forIn ifs true fun c r => if r = true then do let ok ← isTrue c (g.blk s0 H0 scope C cl fp).X.env (eval c (g.blk s0 H0 scope C cl fp).X.env); pure (ForInStep.yield ok) else pure (ForInStep.yield r)) (TP (g.blk s0 H0 scope C cl fp).X pins σ K) (fun _ _ => False) s
def bE (g : Gx) (scope : Scope) (elt : Expr) : L2.TE := fun σ H Q => ∀ s0 H0 C cl fp, WE (g.blk s0 H0 scope C cl fp).X elt Q σ H
theorem y_lc {elt iter : Expr} {ifs : List Expr} {scope : Scope} (own : List (Str × Nat)) {n : Nat} {it : Nat → Pr} {Γ2 : Nat → Gm} (c : Nat → Bool) (q : Nat → Pr) {sl : List Nat} (hI : JI g tg iter Γ n it) (hn : n < sizeLine)
    (hg : AnyB scope g fun g' => ∀ i, i < n → JG g' tg (it i) (wipeG Γ (own.map (·.2))) (Γ2 i) sl) (hsl : ∀ i ∈ sl, i ∈ own.map (·.2) := by decide)
    (ht : AnyB scope g fun g' => ∀ i, i < n → JTs g' ifs (Γ2 i) (c i)) (he : AnyB scope g fun g' => ∀ i, i < n → c i = true → JE g' elt (Γ2 i) (q i))
    (ok : BlkOk g.X.N g.X.env.scope scope own) (hs : ∀ x, foldedSetIterable iter g.X.env x = pure x := by intro _; rfl) (hcm : g.X.calm = true := by rfl) : JO g (.ListComp elt [⟨tg, iter, ifs, 0⟩] scope pos) Γ (oL (gv n c q)) := by
  refine ⟨fun w σ B H s => ?_⟩
  refine ofE (pe_lc (own := own) (wi := tI g.X tg iter) (g := bG g scope tg) (tt := bT g scope ifs) (te := bE g scope elt)
    hcm w.nd pI ok (fun s0 H0 C cl fp => ⟨fun pins s σ H v u Q I r h => h s0 H0 C cl fp pins s u I r⟩) (fun s0 H0 C cl fp => ⟨fun pins s σ H Q I h => h s0 H0 C cl fp pins s I⟩) (fun s0 H0 C cl fp => ⟨fun pins s σ H Q I h => h s0 H0 C cl fp pins s I⟩) hs) ?_
  intro pins s1 I1
  refine thn (hI.run w σ B H s pins s1 I1) fun v s2 h2 => thn h2 fun itv s3 h3 => ?_
  obtain ⟨itA, fp, tn, J, H3, e1, e2, e3, e4, e5, B1, a1, Gw, Y, wk, kg, ky⟩ := h3
  refine ⟨itA, fp, tn, J, H3, e1, e2, e3, e4, e5, fun Dl hD => ?_⟩
  have hDn : H Dl = none := a1.th hD
  refine lc_it (g := bG g scope tg) (tt := bT g scope ifs) (te := bE g scope elt) (vs := own.map (·.2)) (σ := σ) (H1 := H3) (D := Dl) (Qd := fun H' => ∃ B', Aft g.b Γ σ B H B' H' ∧ Own g.b (oL (gv n c q)) (.ref Dl) B' H' ∧ ∀ a ∈ (oL (gv n c q)).ad (.ref Dl) H', H a = none) wk (fun i H' => ∃ B' acc, Stp B H B' H' ∧ Le B1 B' ∧ B' Dl = none ∧ H' Dl = some (.lst acc) ∧ F2 B' acc (gv i c q)) ?_ (fun i H' hi ⟨B', acc, t, l, _⟩ => kg B' H' l t.ok) ?_ ?_
  · exact ⟨B1, [], (a1.trans (a1.sta.beside hD)).t, Le.refl _, a1.sta.st.ok.none hD, upd_same, trivial⟩
  · intro i x H' H'' hi ⟨B', acc, t, l, nD, hacc, f⟩ y
    obtain ⟨B2, t2, p⟩ := ky i H' x H'' B' hi l t.ok y
    have tt2 : Stp B H B2 H'' := t.trans t2
    have nD2 : B2 Dl = none := by
      cases z : B2 Dl with
      | none => rfl
      | some k => exact (Hard.no (by rw [hacc]; exact hard_lst) (t2.new Dl nD k z)).elim
    have hacc2 : H'' Dl = some (.lst acc) := t2.keep Dl _ hacc fun φ z => by rw [nD] at z; cases z
    have sw := ((s.step tt2).sta).wipe (own.map (·.2))
    intro s0 H0 C cl fp'
    refine (hg s0 H0 C cl fp' i hi).run w.blk _ B2 H'' x sw p _ fun σ2 s4 hw => ?_
    refine ⟨?_, fun s0 H0 C cl fp' => ?_⟩
    · have z := hw (own.map (·.2)) hsl
      rw [z]
      exact wipe_wipe σ _
    · refine (ht s0 H0 C cl fp' i hi).run w.blk σ2 B2 H'' s4 _ fun B5 H5 a5 => ?_
      have nD5 : B5 Dl = none := by
        cases z : B5 Dl with
        | none => rfl
        | some k => exact (Hard.no (by rw [hacc2]; exact hard_lst) (a5.t.new Dl nD2 k z)).elim
      have hacc5 : H5 Dl = some (.lst acc) := a5.t.keep Dl _ hacc2 fun φ z => by rw [nD2] at z; cases z
      cases hc : c i with
      | true =>
        rw [if_pos rfl]
        intro s0 H0 C cl fp'
        refine ((he s0 H0 C cl fp' i hi hc).run w.blk σ2 B5 H5 a5.sta).mono fun y H6 ⟨B6, a6, py⟩ => ?_
        have nD6 : B6 Dl = none := by
          cases z : B6 Dl with
          | none => rfl
          | some k => exact (Hard.no (by rw [hacc5]; exact hard_lst) (a6.t.new Dl nD5 k z)).elim
        have hacc6 : H6 Dl = some (.lst acc) := a6.t.keep Dl _ hacc5 fun φ z => by rw [nD5] at z; cases z
        refine ⟨acc, hacc6, ?_, B6, acc ++ [y], (tt2.trans (a5.t.trans a6.t)).chg' nD6 hDn, l.trans (t2.le.trans (a5.le.trans a6.le)), nD6, upd_same, ?_⟩
        · rw [f.len]; exact Nat.lt_of_le_of_lt (gv_len i c q) (Nat.lt_trans hi hn)
        · rw [gv_succ, if_pos hc]
          exact (f.mono (t2.le.trans (a5.le.trans a6.le))).append ⟨py, trivial⟩
      | false =>
        rw [if_neg (by decide)]
        refine ⟨B5, acc, tt2.trans a5.t, l.trans (t2.le.trans a5.le), nD5, hacc5, ?_⟩
        rw [gv_succ, if_neg (by rw [hc]; decide), List.append_nil]
        exact f.mono (t2.le.trans a5.le)
  · intro H' ⟨B', acc, t, l, nD, hacc, f⟩
    exact ⟨B', s.step t, own_mk nD (s.st.bnone hDn) hacc f, one_fresh hDn⟩
theorem gv_all (n : Nat) (q : Nat → Pr) : gv n (fun _ => true) q = (List.range n).map q := by
  unfold gv
  rw [List.filter_eq_self.mpr (fun _ _ => rfl)]
/-- over a list of α: turn by turn what f makes of the item -/
theorem range_map {α β : Type} (xs : List α) (d : α) (f : α → β) (q : Nat → β) (h : ∀ i x, xs[i]? = some x → q i = f x) : (List.range xs.length).map q = xs.map f := by
  apply List.ext_getElem?
  intro i
  rw [List.getElem?_map, List.getElem?_map]
  by_cases hi : i < xs.length
  · rw [List.getElem?_range hi, List.getElem?_eq_getElem hi]
    exact congrArg some (h i _ (List.getElem?_eq_getElem hi))
  · rw [List.getElem?_eq_none (by simpa using hi), List.getElem?_eq_none (by simpa using hi)]
    rfl

/-! ### walks over lists of data -/
theorem JI.to {iter : Expr} {n m : Nat} {it it' : Nat → Pr} (h : JI g tg iter Γ n it) (e : n = m) (k : ∀ i, i < n → it i = it' i) : JI g tg iter Γ m it' := by
  subst e
  refine ⟨fun w σ B H s pins s1 I => ?_⟩
  refine thn (h.run w σ B H s pins s1 I) fun v s2 h2 => thn h2 fun itv s3 h3 => ?_
  obtain ⟨itA, fp, tn, J, H3, e1, e2, e3, e4, e5, B1, a1, Gw, Y, wk, kg, ky⟩ := h3
  exact ⟨itA, fp, tn, J, H3, e1, e2, e3, e4, e5, B1, a1, Gw, Y, wk, kg, fun i H2 x H3 B2 hi l kk y => by rw [← k i hi]; exact ky i H2 x H3 B2 hi l kk y⟩
/-- the items of xs, one behind another, each r x -/
abbrev JM {α : Type} (g : Gx) (tg iter : Expr) (Γ : Gm) (xs : List α) (r : α → Pr) : Prop := JI g tg iter Γ xs.length (nth (xs.map r))
section
variable {α β : Type} {xs : List α} {ys : List β} {r : α → Pr} {r' : β → Pr}
theorem nth_map {i : Nat} {x : α} (h : xs[i]? = some x) : nth (xs.map r) i = r x := nth_of (by rw [List.getElem?_map, h]; rfl)
theorem m_list (h : JE g e Γ (rLs g.X.K (xs.map r))) : JM g tg e Γ xs r := (i_list h).to (by rw [List.length_map]) fun _ _ => rfl
theorem m_tup (h : JE g e Γ (rTs g.X.K (xs.map r))) : JM g tg e Γ xs r := (i_tup h).to (by rw [List.length_map]) fun _ _ => rfl
theorem m_range1 {j : Int} {p : Pos} (hm : g.X.mg "range" = none) (h1 : -(2 ^ 62) ≤ j) (h2 : j < 2 ^ 62) (h : JE g e Γ (rI j)) (hg : Gl g.X "range" := by rfl) (hs : starEach [e] g.X.env = [(false, eval e g.X.env)] := by rfl) :
    JM g tg (.Call (.Name "range" p) [e] [] pos) Γ (List.range j.toNat) (fun i => rI (i : Int)) :=
  (i_range1 hm h1 h2 h hg hs).to (by rw [List.length_range]) fun i hi => by rw [nth_map (x := i) (by simp [List.getElem?_range hi])]
theorem m_range2 {j k : Int} {p : Pos} (hm : g.X.mg "range" = none) (hb : -(2 ^ 62) ≤ j ∧ j < 2 ^ 62 ∧ -(2 ^ 62) ≤ k ∧ k < 2 ^ 62) (h : JE g e Γ (rI j)) (h' : JE g e1 Γ (rI k)) (hg : Gl g.X "range" := by rfl) (hs : starEach [e, e1] g.X.env = [(false, eval e g.X.env), (false, eval e1 g.X.env)] := by rfl) (hs2 : starEach [e1] g.X.env = [(false, eval e1 g.X.env)] := by rfl) :
    JM g tg (.Call (.Name "range" p) [e, e1] [] pos) Γ (List.range (k - j).toNat) (fun i => rI (j + (i : Int))) :=
  (i_range2 hm hb h h' hg hs hs2).to (by rw [List.length_range]) fun i hi => by rw [nth_map (x := i) (by simp [List.getElem?_range hi])]
theorem m_zipL {elts : List Expr} {kk : Nat} {tpos p : Pos} (hm : g.X.mg "zip" = none) (h : JE g e Γ (rLs g.X.K (xs.map r))) (h' : JE g e1 Γ (rLs g.X.K (ys.map r'))) (hg : Gl g.X "zip" := by rfl) (hs : starEach [e, e1] g.X.env = (false, eval e g.X.env) :: starEach [e1] g.X.env := by rfl) (hs2 : starEach [e1] g.X.env = (false, eval e1 g.X.env) :: starEach [] g.X.env := by rfl) (hpl : (backTo pos (starEach [e1] g.X.env)).any (·.1) = false := by rfl) :
    JM g (.Tuple elts kk tpos) (.Call (.Name "zip" p) [e, e1] [] pos) Γ (xs.zip ys) (fun z => rTs g.X.K [r z.1, r' z.2]) :=
  (i_zipL hm h h' hg hs hs2 hpl).to (by rw [List.length_zip, List.length_map, List.length_map]) fun i hi => by
    rw [List.length_map, List.length_map] at hi
    have h1 : i < xs.length := by omega
    have h2 : i < ys.length := by omega
    rw [nth_map (x := xs[i]) (List.getElem?_eq_getElem h1), nth_map (x := ys[i]) (List.getElem?_eq_getElem h2), nth_map (x := (xs[i], ys[i]))]
    rw [List.getElem?_zip_eq_some]
    exact ⟨List.getElem?_eq_getElem h1, List.getElem?_eq_getElem h2⟩
theorem m_enum {elts : List Expr} {kk : Nat} {tpos p : Pos} (hm : g.X.mg "enumerate" = none) (h : JE g e Γ (rLs g.X.K (xs.map r))) (hg : Gl g.X "enumerate" := by rfl) (hs : starEach [e] g.X.env = [(false, eval e g.X.env)] := by rfl) :
    JM g (.Tuple elts kk tpos) (.Call (.Name "enumerate" p) [e] [] pos) Γ xs.zipIdx (fun z => rTs g.X.K [rI (z.2 : Int), r z.1]) :=
  (i_enum hm h hg hs).to (by rw [List.length_zipIdx, List.length_map]) fun i hi => by
    rw [List.length_map] at hi
    rw [nth_map (x := xs[i]) (List.getElem?_eq_getElem hi), nth_map (x := (xs[i], i))]
    simp [List.getElem?_zipIdx, List.getElem?_eq_getElem hi]
theorem m_rev {p : Pos} (hm : g.X.mg "reversed" = none) (h : JE g e Γ (rLs g.X.K (xs.map r))) (hg : Gl g.X "reversed" := by rfl) (hs : starEach [e] g.X.env = [(false, eval e g.X.env)] := by rfl) :
    JM g tg (.Call (.Name "reversed" p) [e] [] pos) Γ xs.reverse r :=
  (i_rev hm h hg hs).to (by rw [List.length_reverse, List.length_map]) fun i hi => by
    rw [List.length_map] at hi ⊢
    have h2 : xs.length - 1 - i < xs.length := by omega
    rw [nth_map (x := xs[xs.length - 1 - i]) (List.getElem?_eq_getElem h2), nth_map (x := xs[xs.length - 1 - i])]
    rw [List.getElem?_reverse hi, List.getElem?_eq_getElem h2]
/-- a comprehension over them -/
theorem y_lcM {elt iter : Expr} {ifs : List Expr} {scope : Scope} (own : List (Str × Nat)) {Γ2 : α → Gm} (c : α → Bool) (q : α → Pr) {sl : List Nat} (hI : JM g tg iter Γ xs r) (hn : xs.length < sizeLine)
    (hg : AnyB scope g fun g' => ∀ x, x ∈ xs → JG g' tg (r x) (wipeG Γ (own.map (·.2))) (Γ2 x) sl)
    (ht : AnyB scope g fun g' => ∀ x, x ∈ xs → JTs g' ifs (Γ2 x) (c x)) (he : AnyB scope g fun g' => ∀ x, x ∈ xs → c x = true → JE g' elt (Γ2 x) (q x))
    (hsl : ∀ i ∈ sl, i ∈ own.map (·.2) := by decide) (ok : BlkOk g.X.N g.X.env.scope scope own := by exact blkOk_by (by rfl)) (hs : ∀ x, foldedSetIterable iter g.X.env x = pure x := by intro _; rfl) (hcm : g.X.calm = true := by rfl) : JO g (.ListComp elt [⟨tg, iter, ifs, 0⟩] scope pos) Γ (oL ((xs.filter c).map q)) := by
  by_cases hne : xs = []
  · subst hne
    exact y_lc (hcm := hcm) (Γ2 := fun _ => Γ) (sl := sl) own (fun _ => true) (fun _ => rN) hI hn (fun _ _ _ _ _ i hi => absurd hi (Nat.not_lt_zero i)) hsl (fun _ _ _ _ _ i hi => absurd hi (Nat.not_lt_zero i)) (fun _ _ _ _ _ i hi => absurd hi (Nat.not_lt_zero i)) ok hs
  · obtain ⟨d, hd⟩ : ∃ d, d ∈ xs := List.exists_mem_of_ne_nil xs hne
    have mem : ∀ i, i < xs.length → xs.getD i d ∈ xs := fun i hi => by
      rw [List.getD_eq_getElem?_getD, List.getElem?_eq_getElem hi]
      exact List.getElem_mem hi
    have at_ : ∀ i, i < xs.length → xs[i]? = some (xs.getD i d) := fun i hi => by
      rw [List.getD_eq_getElem?_getD, List.getElem?_eq_getElem hi]; rfl
    have z := y_lc (hcm := hcm) (Γ2 := fun i => Γ2 (xs.getD i d)) (sl := sl) own (fun i => c (xs.getD i d)) (fun i => q (xs.getD i d)) hI hn (fun s H C cl fp i hi => by rw [nth_map (at_ i hi)]; exact hg s H C cl fp _ (mem i hi)) hsl (fun s H C cl fp i hi => ht s H C cl fp _ (mem i hi)) (fun s H C cl fp i hi hc => he s H C cl fp _ (mem i hi) hc) ok hs (pos := pos)
    have e : gv xs.length (fun i => c (xs.getD i d)) (fun i => q (xs.getD i d)) = (xs.filter c).map q := by
      have f1 : (List.range xs.length).map (fun i => xs.getD i d) = xs := by
        have := range_map xs d id (fun i => xs.getD i d) (fun i x h => by rw [List.getD_eq_getElem?_getD, h]; rfl)
        rw [this, List.map_id]
      unfold gv
      have f2 : (xs.filter c).map q = (((List.range xs.length).map (fun i => xs.getD i d)).filter c).map q := by rw [f1]
      rw [f2, List.filter_map, List.map_map]
      rfl
    rw [e] at z
    exact z
/-- a for over them: I by the turn's number -/
theorem s_forM {iter : Expr} {body : List Stmt} (I : Nat → Gm) {I2 : Nat → α → Gm} {sl : List Nat} (hI : JM g tg iter Γ xs r) (h0 : GmLe Γ (I 0)) (hg : ∀ i x, xs[i]? = some x → JG g tg (r x) (I i) (I2 i x) sl)
    (hb : ∀ i x, xs[i]? = some x → JS g body (I2 i x) (D.lp g.X rest g.b (I (i + 1)))) (hd : JS g rest (I xs.length) D) (hs : ∀ x, foldedSetIterable iter g.X.env x = pure x := by intro _; rfl) (hcm : g.X.calm = true := by rfl) :
    JS g (.For tg iter body [] pos :: rest) Γ D := by
  by_cases hne : xs = []
  · subst hne
    exact s_for (hcm := hcm) (I2 := fun _ => Γ) (sl := sl) I hI h0 (fun i hi => absurd hi (Nat.not_lt_zero i)) (fun i hi => absurd hi (Nat.not_lt_zero i)) hd hs
  · obtain ⟨d, hd'⟩ : ∃ d, d ∈ xs := List.exists_mem_of_ne_nil xs hne
    have at_ : ∀ i, i < xs.length → xs[i]? = some (xs.getD i d) := fun i hi => by
      rw [List.getD_eq_getElem?_getD, List.getElem?_eq_getElem hi]; rfl
    exact s_for (hcm := hcm) (I2 := fun i => I2 i (xs.getD i d)) (sl := sl) I hI h0 (fun i hi => by rw [nth_map (at_ i hi)]; exact hg i _ (at_ i hi)) (fun i hi => hb i _ (at_ i hi)) hd hs
/-- .. that folds a state -/
theorem s_fold {τ : Type} {iter : Expr} {body : List Stmt} (I : τ → Gm) (f : τ → α → τ) (t0 : τ) {I2 : τ → α → Gm} {sl : List Nat} (hI : JM g tg iter Γ xs r) (h0 : GmLe Γ (I t0)) (hg : ∀ t x, x ∈ xs → JG g tg (r x) (I t) (I2 t x) sl)
    (hb : ∀ t x, x ∈ xs → JS g body (I2 t x) (D.lp g.X rest g.b (I (f t x)))) (hd : JS g rest (I (xs.foldl f t0)) D) (hs : ∀ x, foldedSetIterable iter g.X.env x = pure x := by intro _; rfl) (hcm : g.X.calm = true := by rfl) :
    JS g (.For tg iter body [] pos :: rest) Γ D := by
  have step : ∀ i x, xs[i]? = some x → (xs.take (i + 1)).foldl f t0 = f ((xs.take i).foldl f t0) x := fun i x h => by
    have e : xs.take (i + 1) = xs.take i ++ [x] := by
      rw [List.take_succ, h]; rfl
    rw [e, List.foldl_append]
    rfl
  refine s_forM (hcm := hcm) (I := fun i => I ((xs.take i).foldl f t0)) (I2 := fun i x => I2 ((xs.take i).foldl f t0) x) (sl := sl) hI (by simpa using h0) (fun i x h => hg _ x (List.mem_of_getElem? h)) (fun i x h => ?_) (by rw [List.take_length]; exact hd) hs
  rw [step i x h]
  exact hb _ x (List.mem_of_getElem? h)
end
end
end G
set_option Elab.async false
set_option linter.all false
set_option maxRecDepth 100000
set_option maxHeartbeats 2000000
namespace G
open PySem L2
/-! ### a def -/
def outOf (exc : Addr → Prop) (b : Base) : WX := fun C d _ H => d = none ∧ ∃ c, C = .ref c ∧ exc c ∧ ∃ B, Stp b.B b.H B H
def ret (b : Base) (S : Sl) : En := { nx := fun _ _ H => Rt b S .non H, rt := Rt b S }
def entry (ps : List Pr) (n : Nat) : Gm := (ps.map fun P => some (Sl.sh P)) ++ List.replicate (n - ps.length) none
theorem F2.at_map {B : Bs} : ∀ {vs : List V} {rs : List Pr}, F2 B vs rs → ∀ (i : Nat) (r : Pr), rs[i]? = some r → ∃ v, vs[i]? = some v ∧ r.r B v := fun f i r h => f.get h
theorem entry_sta {B : Bs} {H : Hp} {vs : List V} {rs : List Pr} {N : List Str} (k : Ok B H) (f : F2 B vs rs) : Sta ⟨B, H⟩ (entry rs N.length) (L2.start N vs) B H where
  st := Stp.refl k
  env := {
    len := by unfold entry L2.start; simp [f.len]
    sh := fun i r h => by
      unfold entry at h
      by_cases hi : i < rs.length
      · rw [List.getElem?_append_left (by simpa using hi), List.getElem?_map] at h
        cases e : rs[i]? with
        | none => rw [e] at h; cases h
        | some r' =>
          rw [e] at h
          have : r' = r := by simpa using h
          subst this
          obtain ⟨v, e2, q⟩ := f.get e
          refine ⟨v, ?_, q⟩
          unfold L2.start
          rw [List.getElem?_append_left (by rw [List.length_map, f.len]; exact hi), List.getElem?_map, e2]
          rfl
      · rw [List.getElem?_append_right (by simpa using hi)] at h
        have := List.mem_of_getElem? h
        rw [List.mem_replicate] at this
        cases this.2
    ow := fun i c h => by
      unfold entry at h
      by_cases hi : i < rs.length
      · rw [List.getElem?_append_left (by simpa using hi), List.getElem?_map] at h
        cases e : rs[i]? with
        | none => rw [e] at h; cases h
        | some r' => rw [e] at h; cases h
      · rw [List.getElem?_append_right (by simpa using hi)] at h
        have := List.mem_of_getElem? h
        rw [List.mem_replicate] at this
        cases this.2
    dis := fun i j c c' v v' p h => by
      unfold entry at h
      by_cases hi : i < rs.length
      · rw [List.getElem?_append_left (by simpa using hi), List.getElem?_map] at h
        cases e : rs[i]? with
        | none => rw [e] at h; cases h
        | some r' => rw [e] at h; cases h
      · rw [List.getElem?_append_right (by simpa using hi)] at h
        have := List.mem_of_getElem? h
        rw [List.mem_replicate] at this
        cases this.2 }
/-- the context of a def's body -/
abbrev gxOf (U : Uv) (N : List Str) (qual : Str) (scope : Scope) (f : Addr) (cd : Value) (A : Around) (outer : List Env) (s : Shared) (b : Base) (E : XK) (exc : Addr → Prop) (k : Nat) : Gx :=
  ⟨cxOf (L2N.CX U.P U.w) U.P U.w U.K U.mg U.base N qual scope f cd A outer s b.H E, b, outOf exc b, k⟩
/-- THE RULE of a def: its body, for each ghost -/
theorem fd_ok {U : Uv} {x name qual : Str} {params : Arguments} {body : List Stmt} {scope : Scope} {f : Addr} {fd : FuncData} {N ps : List Str} {k : Nat} {ι : Type} {φ : ι → Cs} (hx : U.mg x = some (.ref f)) (F : FunD U.K name qual params body scope [] [] f fd) (S : FnScope N ps scope)
    (hb : ∀ (kV doc pm : Value) (an : Option Addr) (cdv ct : Value) (us : List Value), us.length = ps.length → bindArgs (PySem.W.fnOf name qual params body scope .none kV doc pm an cdv ct) ⟨us, []⟩ = pure (ps.zip us))
    (hl : ∀ i, (φ i).as.length = ps.length)
    (hbody : ∀ (i : ι) (cd : Value) (A : Around) (outer : List Env) (s : Shared) (b : Base) (E : XK), (φ i).pre → JS (gxOf U N qual scope f cd A outer s b E (φ i).exc k) body (entry (φ i).as N.length) (ret b ((φ i).rs b))) : Fd U x (k + 1) ps φ := by
  refine ⟨f, fd, hx, F.kp, F.bindsN hb, F.ok S (fun vs H Q E h => ?_) fun cdv A outer s H vs Q E hr h => ?_⟩
  · obtain ⟨i, B, _, _, f2, _⟩ := h
    rw [f2.len, hl]
  · obtain ⟨i, B, pre, ok, f2, kr, kx⟩ := h
    have j := hbody i cdv A outer s ⟨B, H⟩ E pre
    refine ⟨_, pS, ?_⟩
    have w : (gxOf U N qual scope f cdv A outer s ⟨B, H⟩ E (φ i).exc k).Wf := {
      tk := L2N.Takes.imp (L2N.takes_of (X := cxOf (L2N.CX U.P U.w) U.P U.w U.K U.mg U.base N qual scope f cdv A outer s H E) rfl rfl rfl rfl) fun C d σ H' ⟨dn, c, e, z, B', t⟩ => by
        subst e
        exact kx c d B' H' t z dn
      hr := fun _ => hr
      po := passes_of (X := cxOf (L2N.CX U.P U.w) U.P U.w U.K U.mg U.base N qual scope f cdv A outer s H E) rfl
      nd := S.nd
      bok := ok }
    refine (j.run w (L2.start N vs) B H (entry_sta ok f2)).mono ⟨fun σ' H' ⟨B', t, r⟩ => kr _ B' H' t r, fun v H' ⟨B', t, r⟩ => kr v B' H' t r, fun _ _ z => z.elim, fun _ _ z => z.elim⟩
theorem lets_out {U : Uv} {N : List Str} {qual : Str} {scope : Scope} {f : Addr} {cd : Value} {A : Around} {outer : List Env} {s : Shared} {b : Base} {E : XK} {exc exc' : Addr → Prop} {k : Nat} {Γ : Gm} (h : ∀ c, exc' c → exc c) : Lets (gxOf U N qual scope f cd A outer s b E exc k) Γ exc' := fun C d σ B H z st dn => ⟨dn, C, rfl, h C z, B, st.st⟩
/-- the end of a def: what is returned is what was said -/
theorem rt_ok {b : Base} {S : Sl} : ∀ v H, Rt b S v H → (ret b S).rt v H := fun _ _ h => h
theorem rt_imp {b : Base} {P Q : Pr} (h : ∀ B v, P.r B v → Q.r B v) : ∀ v H, Rt b (.sh P) v H → (ret b (.sh Q)).rt v H := fun v H ⟨B, t, r⟩ => ⟨B, t, h B v r⟩
theorem rt_eq {b : Base} {P Q : Pr} (h : P = Q) : ∀ v H, Rt b (.sh P) v H → (ret b (.sh Q)).rt v H := fun v H ⟨B, t, r⟩ => ⟨B, t, h ▸ r⟩
theorem rt_eqO {b : Base} {P Q : Oc} (h : P = Q) : ∀ v H, Rt b (.ow P) v H → (ret b (.ow Q)).rt v H := fun v H r => h ▸ r

/-! ### built-ins by their names -/
structure Bi (mg : Str → Option Value) : Prop where
  isi : mg "isinstance" = none
  len : mg "len" = none
  all : mg "all" = none
  any : mg "any" = none
  sum : mg "sum" = none
  min : mg "min" = none
  max : mg "max" = none
  range : mg "range" = none
  zip : mg "zip" = none
  enum : mg "enumerate" = none
  rev : mg "reversed" = none
  sorted : mg "sorted" = none
  list : mg "list" = none
  tuple : mg "tuple" = none
  dict : mg "dict" = none
  set : mg "set" = none
  str : mg "str" = none
  int : mg "int" = none
  bool : mg "bool" = none
  abs : mg "abs" = none
  repr : mg "repr" = none
section
variable {g : Gx} {Γ : Gm} {P Q R : Pr} {e e1 e2 : Expr} {pos : Pos} {rs : List Pr}
/-- a value's type -/
def TyP (K : PySem.W.Frag) (P : Pr) (t : String) : Prop := ∀ B H v, Ok B H → P.r B v → TyX K H v (.type t)
theorem ty_I {K : PySem.W.Frag} {i : Int} : TyP K (rI i) "int" := fun B H v k p => by cases p; exact .base (.int i)
theorem ty_B {K : PySem.W.Frag} {i : Bool} : TyP K (rB i) "bool" := fun B H v k p => by cases p; exact .base (.bl i)
theorem ty_S {K : PySem.W.Frag} {i : Str} : TyP K (rS i) "str" := fun B H v k p => by cases p; exact .base (.str i)
theorem ty_N {K : PySem.W.Frag} : TyP K rN "NoneType" := fun B H v k p => by cases p; exact .base .non
theorem ty_L {K : PySem.W.Frag} : TyP K (rLs K rs) "list" := fun B H v k ⟨p, vs, e, a, f⟩ => by subst e; exact .base (.lst (a.at_ k))
theorem ty_T {K : PySem.W.Frag} : TyP K (rTs K rs) "tuple" := fun B H v k ⟨p, vs, e, a, f⟩ => by
  subst e
  rcases a with a | ⟨o, its, n, h, c, _⟩
  · exact .base (.tup ((k.ex _ _ a).hard rfl))
  · exact .kTuple h c
theorem bo_isi : bootBuiltins "isinstance" = some (.builtin "isinstance") := by decide +kernel
/-! the types of built-in values -/
theorem k_int_int : kitB "int" "int" = some true := by decide +kernel
theorem k_int_bool : kitB "int" "bool" = some false := by decide +kernel
theorem k_int_str : kitB "int" "str" = some false := by decide +kernel
theorem k_int_list : kitB "int" "list" = some false := by decide +kernel
theorem k_int_tuple : kitB "int" "tuple" = some false := by decide +kernel
theorem k_int_dict : kitB "int" "dict" = some false := by decide +kernel
theorem k_bool_int : kitB "bool" "int" = some true := by decide +kernel
theorem k_bool_bool : kitB "bool" "bool" = some true := by decide +kernel
theorem k_bool_str : kitB "bool" "str" = some false := by decide +kernel
theorem k_bool_list : kitB "bool" "list" = some false := by decide +kernel
theorem k_bool_tuple : kitB "bool" "tuple" = some false := by decide +kernel
theorem k_bool_dict : kitB "bool" "dict" = some false := by decide +kernel
theorem k_str_int : kitB "str" "int" = some false := by decide +kernel
theorem k_str_bool : kitB "str" "bool" = some false := by decide +kernel
theorem k_str_str : kitB "str" "str" = some true := by decide +kernel
theorem k_str_list : kitB "str" "list" = some false := by decide +kernel
theorem k_str_tuple : kitB "str" "tuple" = some false := by decide +kernel
theorem k_str_dict : kitB "str" "dict" = some false := by decide +kernel
theorem k_NoneType_int : kitB "NoneType" "int" = some false := by decide +kernel
theorem k_NoneType_bool : kitB "NoneType" "bool" = some false := by decide +kernel
theorem k_NoneType_str : kitB "NoneType" "str" = some false := by decide +kernel
theorem k_NoneType_list : kitB "NoneType" "list" = some false := by decide +kernel
theorem k_NoneType_tuple : kitB "NoneType" "tuple" = some false := by decide +kernel
theorem k_NoneType_dict : kitB "NoneType" "dict" = some false := by decide +kernel
theorem k_list_int : kitB "list" "int" = some false := by decide +kernel
theorem k_list_bool : kitB "list" "bool" = some false := by decide +kernel
theorem k_list_str : kitB "list" "str" = some false := by decide +kernel
theorem k_list_list : kitB "list" "list" = some true := by decide +kernel
theorem k_list_tuple : kitB "list" "tuple" = some false := by decide +kernel
theorem k_list_dict : kitB "list" "dict" = some false := by decide +kernel
theorem k_tuple_int : kitB "tuple" "int" = some false := by decide +kernel
theorem k_tuple_bool : kitB "tuple" "bool" = some false := by decide +kernel
theorem k_tuple_str : kitB "tuple" "str" = some false := by decide +kernel
theorem k_tuple_list : kitB "tuple" "list" = some false := by decide +kernel
theorem k_tuple_tuple : kitB "tuple" "tuple" = some true := by decide +kernel
theorem k_tuple_dict : kitB "tuple" "dict" = some false := by decide +kernel
theorem k_dict_int : kitB "dict" "int" = some false := by decide +kernel
theorem k_dict_bool : kitB "dict" "bool" = some false := by decide +kernel
theorem k_dict_str : kitB "dict" "str" = some false := by decide +kernel
theorem k_dict_list : kitB "dict" "list" = some false := by decide +kernel
theorem k_dict_tuple : kitB "dict" "tuple" = some false := by decide +kernel
theorem k_dict_dict : kitB "dict" "dict" = some true := by decide +kernel
theorem k_float_int : kitB "float" "int" = some false := by decide +kernel
theorem k_float_bool : kitB "float" "bool" = some false := by decide +kernel
theorem k_float_str : kitB "float" "str" = some false := by decide +kernel
theorem k_float_list : kitB "float" "list" = some false := by decide +kernel
theorem k_float_tuple : kitB "float" "tuple" = some false := by decide +kernel
theorem k_float_dict : kitB "float" "dict" = some false := by decide +kernel
theorem k_bytes_int : kitB "bytes" "int" = some false := by decide +kernel
theorem k_bytes_bool : kitB "bytes" "bool" = some false := by decide +kernel
theorem k_bytes_str : kitB "bytes" "str" = some false := by decide +kernel
theorem k_bytes_list : kitB "bytes" "list" = some false := by decide +kernel
theorem k_bytes_tuple : kitB "bytes" "tuple" = some false := by decide +kernel
theorem k_bytes_dict : kitB "bytes" "dict" = some false := by decide +kernel
theorem k_set_int : kitB "set" "int" = some false := by decide +kernel
theorem k_set_bool : kitB "set" "bool" = some false := by decide +kernel
theorem k_set_str : kitB "set" "str" = some false := by decide +kernel
theorem k_set_list : kitB "set" "list" = some false := by decide +kernel
theorem k_set_tuple : kitB "set" "tuple" = some false := by decide +kernel
theorem k_set_dict : kitB "set" "dict" = some false := by decide +kernel
theorem bo_int : bootBuiltins "int" = some (.type "int") := by decide +kernel
theorem bo_bool : bootBuiltins "bool" = some (.type "bool") := by decide +kernel
theorem bo_str : bootBuiltins "str" = some (.type "str") := by decide +kernel
theorem bo_dict : bootBuiltins "dict" = some (.type "dict") := by decide +kernel
theorem bo_range : bootBuiltins "range" = some (.type "range") := by decide +kernel
theorem bo_zip : bootBuiltins "zip" = some (.type "zip") := by decide +kernel
theorem bo_set : bootBuiltins "set" = some (.type "set") := by decide +kernel
/-- isinstance(e, T) -/
theorem x_isi {t T : String} {c : Bool} {x : Str} {p p' : Pos} (b : Bi g.X.mg) (hP : TyP g.X.K P t) (hT : g.X.mg x = none) (hv : bootBuiltins x = some (.type T)) (hk : kitB t T = some c) (h : JE g e Γ P) (hg : Gl g.X "isinstance" := by rfl) (hg' : Gl g.X x := by rfl)
    (hn : x ≠ "__name__" := by decide) (hdb : (x == ("__debug__" : Str)) = false := by decide) (hs : starEach [e, .Name x p'] g.X.env = (false, eval e g.X.env) :: starEach [.Name x p'] g.X.env := by rfl) (hs2 : starEach [.Name x p'] g.X.env = (false, eval (.Name x p') g.X.env) :: starEach [] g.X.env := by rfl) (hpl : (backTo pos (starEach [.Name x p'] g.X.env)).any (·.1) = false := by rfl) :
    JE g (.Call (.Name "isinstance" p) [e, .Name x p'] [] pos) Γ (rB c) :=
  x_cb (r := rIsi g.X.K) (Ps := [P, rV (.ty T)]) b.isi (fun _ => call_isi) bo_isi (fun B H vs K k f q => by
    obtain ⟨v, u, rfl, h1, h2⟩ := f.two
    refine ⟨v, u, .type t, .type T, c, rfl, ?_, hP B H v k h1, kit_ty hk, q _ B H (Stp.refl k) rfl⟩
    cases h2
    exact .ty T) (a_cons h (a_cons (x_c (pe_bltn (v := .ty T) hg' hT hv rfl hn hdb)) a_nil hs2) hs) hg (by decide) (by decide) hs hpl
/-- isinstance(e, (T1, T2)) -/
theorem x_isi2 {t T T' : String} {c c' : Bool} {x y : Str} {p px py pt : Pos} {kk : Nat} (b : Bi g.X.mg) (hP : TyP g.X.K P t) (hT : g.X.mg x = none) (hT' : g.X.mg y = none) (hv : bootBuiltins x = some (.type T)) (hv' : bootBuiltins y = some (.type T')) (hk : kitB t T = some c) (hk' : kitB t T' = some c') (h : JE g e Γ P) (hg : Gl g.X "isinstance" := by rfl) (hgx : Gl g.X x := by rfl) (hgy : Gl g.X y := by rfl)
    (hn : x ≠ "__name__" := by decide) (hdb : (x == ("__debug__" : Str)) = false := by decide) (hn' : y ≠ "__name__" := by decide) (hdb' : (y == ("__debug__" : Str)) = false := by decide) (hs : starEach [e, .Tuple [.Name x px, .Name y py] kk pt] g.X.env = (false, eval e g.X.env) :: starEach [.Tuple [.Name x px, .Name y py] kk pt] g.X.env := by rfl) :
    JE g (.Call (.Name "isinstance" p) [e, .Tuple [.Name x px, .Name y py] kk pt] [] pos) Γ (rB (c || c')) :=
  ⟨fun w σ B H s => ofE (pe_callB call_isiT hg b.isi bo_isi (pa_cons pE (pa_cons (pe_tup (pa_cons (pe_bltn (v := .ty T) hgx hT hv rfl hn hdb) (pa_cons (pe_bltn (v := .ty T') hgy hT' hv' rfl hn' hdb') pa_nil))) pa_nil) hs) (by decide) (by decide) hs rfl) ((h.run w σ B H s).mono fun v H1 ⟨B1, a1, p1⟩ => by
    refine ⟨(by show 2 ≤ sizeLine; decide), fun q hq => ?_⟩
    have a2 := a1.sta.lay (u := .tup [.ty T, .ty T']) hq
    refine ⟨v, q, [.ty T, .ty T'], .type t, [.type T, .type T'], c || c', rfl, upd_same, .cons (.ty T) (.cons (.ty T') .nil), hP _ _ v a2.sta.st.ok (P.mono _ _ _ a2.le p1), ?_, _, a1.trans a2, rfl⟩
    refine kitAny_cons (kit_ty hk) (fun e => ?_) (fun e => by rw [e]; rfl)
    rw [e, Bool.false_or]
    refine kitAny_cons (kit_ty hk') (fun e => by rw [e]; rfl) (fun e => e))⟩
theorem F2.bools {B : Bs} : ∀ {vs : List V} {bs : List Bool}, F2 B vs (bs.map rB) → vs = bs.map V.bl
  | [], [], _ => rfl
  | v :: vs, b :: bs, h => by
    have e : v = V.bl b := h.1
    rw [e, F2.bools (vs := vs) (bs := bs) h.2]
    rfl
  | [], _ :: _, h => h.elim
  | _ :: _, [], h => h.elim
theorem F2.ints {B : Bs} : ∀ {vs : List V} {bs : List Int}, F2 B vs (bs.map rI) → vs = bs.map V.int
  | [], [], _ => rfl
  | v :: vs, b :: bs, h => by
    have e : v = V.int b := h.1
    rw [e, F2.ints (vs := vs) (bs := bs) h.2]
    rfl
  | [], _ :: _, h => h.elim
  | _ :: _, [], h => h.elim
theorem bo_all : bootBuiltins "all" = some (.builtin "all") := by decide +kernel
theorem bo_any : bootBuiltins "any" = some (.builtin "any") := by decide +kernel
theorem bo_sum : bootBuiltins "sum" = some (.builtin "sum") := by decide +kernel
theorem x_all {bs : List Bool} {p : Pos} (b : Bi g.X.mg) (h : JE g e Γ (rLs g.X.K (bs.map rB))) (hg : Gl g.X "all" := by rfl) (he : starEach [e] g.X.env = (false, eval e g.X.env) :: starEach [] g.X.env := by rfl) (hcm : g.X.calm = true := by rfl) : JE g (.Call (.Name "all" p) [e] [] pos) Γ (rB (bs.all id)) :=
  x_cb (r := rAll g.X.K) b.all (fun w => cr_all hcm) bo_all (fun B H vs K k f q => by
    obtain ⟨v, rfl, p, ws, e, a, f1⟩ := f.one
    exact ⟨p, bs, by rw [e], by rw [← f1.bools]; exact a.sq k, q _ B H (Stp.refl k) rfl⟩) (a_cons h a_nil he) hg (by decide) (by decide) he rfl
theorem x_any {bs : List Bool} {p : Pos} (b : Bi g.X.mg) (h : JE g e Γ (rLs g.X.K (bs.map rB))) (hg : Gl g.X "any" := by rfl) (he : starEach [e] g.X.env = (false, eval e g.X.env) :: starEach [] g.X.env := by rfl) (hcm : g.X.calm = true := by rfl) : JE g (.Call (.Name "any" p) [e] [] pos) Γ (rB (bs.any id)) :=
  x_cb (r := rAny g.X.K) b.any (fun w => cr_any hcm) bo_any (fun B H vs K k f q => by
    obtain ⟨v, rfl, p, ws, e, a, f1⟩ := f.one
    exact ⟨p, bs, by rw [e], by rw [← f1.bools]; exact a.sq k, q _ B H (Stp.refl k) rfl⟩) (a_cons h a_nil he) hg (by decide) (by decide) he rfl
theorem x_sum {bs : List Int} {p : Pos} (b : Bi g.X.mg) (h : JE g e Γ (rLs g.X.K (bs.map rI))) (hg : Gl g.X "sum" := by rfl) (he : starEach [e] g.X.env = (false, eval e g.X.env) :: starEach [] g.X.env := by rfl) (hcm : g.X.calm = true := by rfl) : JE g (.Call (.Name "sum" p) [e] [] pos) Γ (rI bs.sum) :=
  x_cb (r := rSum g.X.K) b.sum (fun w => cr_sum hcm) bo_sum (fun B H vs K k f q => by
    obtain ⟨v, rfl, p, ws, e, a, f1⟩ := f.one
    exact ⟨p, bs, by rw [e], by rw [← f1.ints]; exact a.sq k, q _ B H (Stp.refl k) rfl⟩) (a_cons h a_nil he) hg (by decide) (by decide) he rfl
end
end G
set_option Elab.async false
set_option linter.all false
set_option maxRecDepth 100000
set_option maxHeartbeats 2000000
namespace G
open PySem L2
/-- an own class of errors over ValueError -/
structure Xc (K : PySem.W.Frag) (mg : Str → Option Value) (x : Str) (C : Addr) : Prop where
  ex : PySem.W.excIn K C He.veBase "ValueError.__new__" = true
  kp : PySem.W.keepIn K (.ref C) = true
  sub : PySem.W.subIn K (.ref C) (.type "BaseException") = some true
  ty : PySem.W.typeIn K (.ref C) = some (.type "type")
  gl : mg x = some (.ref C)
section
variable {g : Gx} {Γ : Gm} {P Q R : Pr} {e e1 e2 : Expr} {pos : Pos} {rs : List Pr} {D : En} {rest : List Stmt}
theorem s_raise {x m : Str} {C : Addr} {j : Nat} {p p2 pos' : Pos} (X : Xc g.X.K g.X.mg x C) (hx : Lets g Γ (fun c => c = C)) (hg : Gl g.X x := by rfl) (hdb : (x == ("__debug__" : Str)) = false := by decide) (hs : starEach [.Constant (.str m) j p2] g.X.env = [(false, eval (.Constant (.str m) j p2) g.X.env)] := by rfl) (hcm : g.X.calm = true := by rfl) : JS g (.Raise (some (.Call (.Name x p) [.Constant (.str m) j p2] [] pos')) none pos :: rest) Γ D :=
  js_cons fun w σ B H s => of1 (L2N.ps_raise hcm w.tk (L2N.pmk_own PySem.F.excBase_ValueError X.ex X.gl X.kp (raises_own X.sub X.ty) hg hdb)) (hx C none σ B H rfl s rfl)
end
end G
set_option Elab.async false
set_option linter.all false
set_option maxRecDepth 100000
set_option maxHeartbeats 2000000
namespace G
open PySem L2
/-! ### own: a list of own lists -/
/-- the values are lists of these -/
def RowsOk (B : Bs) (H : Hp) : List V → List (List Pr) → Prop
  | [], [] => True
  | v :: vs, rs :: rss => (∃ a ws, v = .ref a ∧ H a = some (.lst ws) ∧ F2 B ws rs) ∧ RowsOk B H vs rss
  | _, _ => False
theorem RowsOk.mono {B B' : Bs} {H : Hp} (l : Le B B') : ∀ {vs : List V} {rss : List (List Pr)}, RowsOk B H vs rss → RowsOk B' H vs rss
  | [], [], _ => trivial
  | _ :: _, _ :: _, h => ⟨let ⟨a, ws, e, q, f⟩ := h.1; ⟨a, ws, e, q, f.mono l⟩, RowsOk.mono l h.2⟩
  | [], _ :: _, h => h.elim
  | _ :: _, [], h => h.elim
theorem RowsOk.len {B : Bs} {H : Hp} : ∀ {vs : List V} {rss : List (List Pr)}, RowsOk B H vs rss → vs.length = rss.length
  | [], [], _ => rfl
  | _ :: _, _ :: _, h => congrArg (· + 1) (RowsOk.len h.2)
  | [], _ :: _, h => h.elim
  | _ :: _, [], h => h.elim
theorem RowsOk.agree {B : Bs} {H H' : Hp} : ∀ {vs : List V} {rss : List (List Pr)}, (∀ a ∈ vs.flatMap one, H' a = H a) → RowsOk B H vs rss → RowsOk B H' vs rss
  | [], [], _, _ => trivial
  | v :: vs, _ :: _, g, h => ⟨let ⟨a, ws, e, q, f⟩ := h.1; ⟨a, ws, e, by rw [g a (by rw [List.flatMap_cons, e]; simp [one])]; exact q, f⟩, RowsOk.agree (fun a m => g a (by rw [List.flatMap_cons]; exact List.mem_append_right _ m)) h.2⟩
  | [], _ :: _, _, h => h.elim
  | _ :: _, [], _, h => h.elim
theorem RowsOk.append {B : Bs} {H : Hp} : ∀ {vs us : List V} {rss qss : List (List Pr)}, RowsOk B H vs rss → RowsOk B H us qss → RowsOk B H (vs ++ us) (rss ++ qss)
  | [], _, [], _, _, h => h
  | _ :: _, _, _ :: _, _, h, k => ⟨h.1, RowsOk.append h.2 k⟩
  | [], _, _ :: _, _, h, _ => h.elim
  | _ :: _, _, [], _, h, _ => h.elim
def adLL (v : V) (H : Hp) : List Addr := match v with
  | .ref p => p :: (match H p with
    | some (.lst vs) => vs.flatMap one
    | _ => [])
  | _ => []
theorem adLL_at {p : Addr} {H : Hp} {vs : List V} (h : H p = some (.lst vs)) : adLL (.ref p) H = p :: vs.flatMap one := by unfold adLL; simp only [h]
theorem adLL_agree {v : V} {H H' : Hp} (g : ∀ a ∈ adLL v H, H' a = H a) : adLL v H' = adLL v H := by
  cases v with
  | ref p =>
    have e : H' p = H p := g p (by unfold adLL; exact List.mem_cons_self ..)
    unfold adLL
    simp only [e]
  | _ => rfl
def oLL (rss : List (List Pr)) : Oc where
  ad := adLL
  r := fun B H v => ∃ p vs, v = .ref p ∧ H p = some (.lst vs) ∧ p ∉ vs.flatMap one ∧ RowsOk B H vs rss
  mono := fun _ _ _ _ l ⟨p, vs, e, h, n, k⟩ => ⟨p, vs, e, h, n, k.mono l⟩
  ast := fun _ _ _ g => adLL_agree g
  rst := fun B H H' v g ⟨p, vs, e, h, n, k⟩ => by
    subst e
    rw [adLL_at h] at g
    exact ⟨p, vs, rfl, by rw [g p (List.mem_cons_self ..)]; exact h, n, k.agree fun a m => g a (List.mem_cons_of_mem _ m)⟩
/-- laid on the ground it is a list of lists -/
theorem fz_oLL {K : PySem.W.Frag} {rss : List (List Pr)} : ∀ B H v, (∀ a ∈ (oLL rss).ad v H, B a = none) → (oLL rss).r B H v → (rLs K (rss.map (rLs K))).r (putH B H ((oLL rss).ad v H)) v := fun B H v nb ⟨p, vs, e, hp, n, k⟩ => by
  subst e
  have ea : (oLL rss).ad (.ref p) H = p :: vs.flatMap one := adLL_at hp
  rw [ea] at nb ⊢
  refine ⟨p, vs, rfl, putH_in (List.mem_cons_self ..) hp, ?_⟩
  have l : Le B (putH B H (p :: vs.flatMap one)) := Le.putH nb
  have key : ∀ (us : List V) (qss : List (List Pr)), (∀ a ∈ us.flatMap one, a ∈ p :: vs.flatMap one) → RowsOk B H us qss → F2 (putH B H (p :: vs.flatMap one)) us (qss.map (rLs K)) := by
    intro us
    induction us with
    | nil =>
      intro qss _ h
      cases qss with
      | nil => exact trivial
      | cons _ _ => exact h.elim
    | cons u us ih =>
      intro qss g h
      cases qss with
      | nil => exact h.elim
      | cons q qss =>
        obtain ⟨⟨a, ws, e, hq, f⟩, h2⟩ := h
        refine ⟨⟨a, ws, e, putH_in (g a (by rw [List.flatMap_cons, e]; simp [one])) hq, f.mono l⟩, ih qss (fun a m => g a (by rw [List.flatMap_cons]; exact List.mem_append_right _ m)) h2⟩
  exact key vs rss (fun a m => List.mem_cons_of_mem _ m) k
section
variable {g : Gx} {Γ : Gm} {P Q R : Pr} {e e1 e2 tg : Expr} {pos p2 : Pos} {D : En} {st : Stmt} {ss rest : List Stmt} {rs qs : List Pr}
theorem free_F2 {B B' : Bs} : ∀ {vs : List V} {rs : List Pr}, (∀ r ∈ rs, Free r) → F2 B vs rs → F2 B' vs rs
  | [], [], _, _ => trivial
  | _ :: _, r :: _, h, k => ⟨h r (List.mem_cons_self ..) _ _ _ k.1, free_F2 (fun q m => h q (List.mem_cons_of_mem _ m)) k.2⟩
  | [], _ :: _, _, h => h.elim
  | _ :: _, [], _, h => h.elim
/-- objects that are new since the entry are taken back from the ground -/
theorem Stp.back {b : Base} {B : Bs} {H : Hp} {as : List Addr} (s : Stp b.B b.H B H) (n : ∀ a ∈ as, b.B a = none) : Stp b.B b.H (delL B as) H where
  le := fun x k e => by
    have ne : x ∉ as := fun m => by rw [n x m] at e; cases e
    unfold delL; rw [if_neg ne]; exact s.le x k e
  ok := ⟨fun x u e => by
      unfold delL at e
      by_cases q : x ∈ as
      · rw [if_pos q] at e; cases e
      · rw [if_neg q] at e; exact s.ok.ex x u e, fun x φ e => by
      unfold delL at e
      by_cases q : x ∈ as
      · rw [if_pos q] at e; cases e
      · rw [if_neg q] at e; exact s.ok.iv x φ e⟩
  keep := s.keep
  there := s.there
  new := fun x n1 k n2 => by
    refine s.new x n1 k ?_
    unfold delL at n2
    by_cases q : x ∈ as
    · rw [if_pos q] at n2; cases n2
    · rw [if_neg q] at n2; exact n2
/-- a list of lists that are all new since the entry may be handed back as one's own -/
theorem rt_own {b : Base} {rss : List (List Pr)} (hf : ∀ rs ∈ rss, ∀ r ∈ rs, Free r) : ∀ v H, Ok b.B b.H → Rt b (.ow (oL (rss.map (rLf b)))) v H → Rt b (.ow (oLL rss)) v H := fun v H ob ⟨B, t, o⟩ => by
  obtain ⟨p, vs, e, nb, nh, hp, f⟩ := own_one (b := b) o
  subst e
  have key : ∀ (us : List V) (qss : List (List Pr)), (∀ rs ∈ qss, ∀ r ∈ rs, Free r) → F2 B us (qss.map (rLf b)) → (∀ a ∈ us.flatMap one, b.H a = none ∧ (∃ ws, B a = some (.ex (.lst ws)))) ∧ ∀ B', RowsOk B' H us qss := by
    intro us
    induction us with
    | nil =>
      intro qss _ h
      cases qss with
      | nil => exact ⟨fun a m => (by cases m), fun _ => trivial⟩
      | cons _ _ => exact h.elim
    | cons u us ih =>
      intro qss g h
      cases qss with
      | nil => exact h.elim
      | cons q qss =>
        obtain ⟨⟨a, ws, e, hn, hB, hq⟩, h2⟩ := h
        obtain ⟨i1, i2⟩ := ih qss (fun rs m => g rs (List.mem_cons_of_mem _ m)) h2
        refine ⟨fun x m => ?_, fun B' => ⟨⟨a, ws, e, (t.ok.ex a _ hB).hard rfl, free_F2 (g q (List.mem_cons_self ..)) hq⟩, i2 B'⟩⟩
        rw [List.flatMap_cons, e] at m
        rcases List.mem_append.mp m with m | m
        · rw [mem_one.mp m]; exact ⟨hn, ws, hB⟩
        · exact i1 x m
  obtain ⟨k1, k2⟩ := key vs rss hf f
  have np : p ∉ vs.flatMap one := fun m => by
    obtain ⟨_, ws, z⟩ := k1 p m
    rw [nb] at z; cases z
  have ea : (oLL rss).ad (.ref p) H = p :: vs.flatMap one := adLL_at hp
  refine ⟨delL B (vs.flatMap one), t.back fun a m => ob.none (k1 a m).1, fun a ha => ?_, fun a ha => ?_, fun a ha => ?_, p, vs, rfl, hp, np, k2 _⟩
  · rw [ea] at ha
    unfold delL
    rcases List.mem_cons.mp ha with e | m
    · subst e; rw [if_neg np]; exact nb
    · rw [if_pos m]
  · rw [ea] at ha
    rcases List.mem_cons.mp ha with e | m
    · subst e; exact nh
    · exact (k1 a m).1
  · rw [ea] at ha
    rcases List.mem_cons.mp ha with e | m
    · subst e; rw [hp]; exact hard_lst
    · obtain ⟨_, ws, z⟩ := k1 a m
      rw [(t.ok.ex a _ z).hard rfl]; exact hard_lst

/-! ### a comprehension that gives new lists -/
theorem y_lcO {elt iter : Expr} {scope : Scope} (own : List (Str × Nat)) {n : Nat} {it : Nat → Pr} {Γ2 : Nat → Gm} (q : Nat → List Pr) {sl : List Nat} (hI : JI g tg iter Γ n it) (hn : n < sizeLine)
    (hg : AnyB scope g fun g' => ∀ i, i < n → JG g' tg (it i) (wipeG Γ (own.map (·.2))) (Γ2 i) sl) (he : AnyB scope g fun g' => ∀ i, i < n → JO g' elt (Γ2 i) (oL (q i)))
    (hsl : ∀ i ∈ sl, i ∈ own.map (·.2) := by decide) (ok : BlkOk g.X.N g.X.env.scope scope own := by exact blkOk_by (by rfl)) (hs : ∀ x, foldedSetIterable iter g.X.env x = pure x := by intro _; rfl) (hcm : g.X.calm = true := by rfl) : JO g (.ListComp elt [⟨tg, iter, [], 0⟩] scope pos) Γ (oLL ((List.range n).map q)) := by
  refine ⟨fun w σ B H s => ?_⟩
  refine ofE (pe_lc (own := own) (wi := tI g.X tg iter) (g := bG g scope tg) (tt := tYes) (te := bE g scope elt)
    hcm w.nd pI ok (fun s0 H0 C cl fp => ⟨fun pins s σ H v u Q I r h => h s0 H0 C cl fp pins s u I r⟩) (fun s0 H0 C cl fp => pts_nil) (fun s0 H0 C cl fp => ⟨fun pins s σ H Q I h => h s0 H0 C cl fp pins s I⟩) hs) ?_
  intro pins s1 I1
  refine thn (hI.run w σ B H s pins s1 I1) fun v s2 h2 => thn h2 fun itv s3 h3 => ?_
  obtain ⟨itA, fp, tn, J, H3, e1, e2, e3, e4, e5, B1, a1, Gw, Y, wk, kg, ky⟩ := h3
  refine ⟨itA, fp, tn, J, H3, e1, e2, e3, e4, e5, fun Dl hD => ?_⟩
  have hDn : H Dl = none := a1.th hD
  have agr : ∀ {B' B2 : Bs} {H' H2 : Hp} {as : List Addr}, Stp B' H' B2 H2 → (∀ a ∈ as, B' a = none) → (∀ a ∈ as, Hard (H' a)) → (∀ a ∈ as, H2 a = H' a) ∧ ∀ a ∈ as, B2 a = none := fun {B' B2 H' H2 as} t nB nH => by
    refine ⟨fun a m => ?_, fun a m => ?_⟩
    · cases e : H' a with
      | none => exact absurd e (nH a m).ne
      | some o => exact t.keep a o e fun φ z => by rw [nB a m] at z; cases z
    · cases z : B2 a with
      | none => rfl
      | some k => exact ((nH a m).no (t.new a (nB a m) k z)).elim
  refine lc_it (g := bG g scope tg) (tt := tYes) (te := bE g scope elt) (vs := own.map (·.2)) (σ := σ) (H1 := H3) (D := Dl) (Qd := fun H' => ∃ B', Aft g.b Γ σ B H B' H' ∧ Own g.b (oLL ((List.range n).map q)) (.ref Dl) B' H' ∧ ∀ a ∈ (oLL ((List.range n).map q)).ad (.ref Dl) H', H a = none)
    wk (fun i H' => ∃ B' acc, Stp B H B' H' ∧ Le B1 B' ∧ (∀ a ∈ Dl :: acc.flatMap one, B' a = none) ∧ (∀ a ∈ Dl :: acc.flatMap one, Hard (H' a)) ∧ (∀ a ∈ Dl :: acc.flatMap one, H a = none) ∧ H' Dl = some (.lst acc) ∧ Dl ∉ acc.flatMap one ∧ RowsOk B' H' acc ((List.range i).map q)) ?_ (fun i H' hi ⟨B', acc, t, l, _⟩ => kg B' H' l t.ok) ?_ ?_
  · refine ⟨B1, [], (a1.trans (a1.sta.beside hD)).t, Le.refl _, fun a m => ?_, fun a m => ?_, fun a m => ?_, upd_same, by simp, trivial⟩
    · have e : a = Dl := by simpa using m
      rw [e]; exact a1.sta.st.ok.none hD
    · have e : a = Dl := by simpa using m
      rw [e, upd_same]; exact hard_lst
    · have e : a = Dl := by simpa using m
      rw [e]; exact hDn
  · intro i x H' H'' hi ⟨B', acc, t, l, nB, nH, nH0, hacc, nD, f⟩ y
    obtain ⟨B2, t2, p⟩ := ky i H' x H'' B' hi l t.ok y
    obtain ⟨ag2, nB2⟩ := agr t2 nB nH
    have sw := ((s.step (t.trans t2)).sta).wipe (own.map (·.2))
    intro s0 H0 C cl fp'
    refine (hg s0 H0 C cl fp' i hi).run w.blk _ B2 H'' x sw p _ fun σ2 s4 hw => ?_
    refine ⟨by rw [hw (own.map (·.2)) hsl]; exact wipe_wipe σ _, ?_⟩
    simp only [tYes, if_true]
    intro s0 H0 C cl fp'
    refine ((he s0 H0 C cl fp' i hi).run w.blk σ2 B2 H'' s4).mono fun y H6 ⟨B6, a6, oy, ny⟩ => ?_
    obtain ⟨py, ws, ey, nby, nhy, hpy, fy⟩ := own_one oy
    subst ey
    have nH2 : ∀ a ∈ Dl :: acc.flatMap one, Hard (H'' a) := fun a m => by rw [ag2 a m]; exact nH a m
    obtain ⟨ag6, nB6⟩ := agr a6.t nB2 nH2
    have nH6 : ∀ a ∈ Dl :: acc.flatMap one, Hard (H6 a) := fun a m => by rw [ag6 a m]; exact nH2 a m
    have hacc6 : H6 Dl = some (.lst acc) := by rw [ag6 Dl (List.mem_cons_self ..), ag2 Dl (List.mem_cons_self ..)]; exact hacc
    have fy0 : H'' py = none := ny py (mem_one.mpr rfl)
    have pD : py ≠ Dl := by
      rintro rfl
      exact (nH2 _ (List.mem_cons_self ..)).ne fy0
    have py0 : H py = none := by
      have tt := t.trans t2
      exact tt.bnone fy0
    refine ⟨acc, hacc6, ?_, B6, acc ++ [.ref py], ((t.trans t2).trans a6.t).chg' (nB6 Dl (List.mem_cons_self ..)) hDn, l.trans (t2.le.trans a6.le), fun a m => ?_, fun a m => ?_, fun a m => ?_, upd_same, ?_, ?_⟩
    · rw [f.len, List.length_map, List.length_range]; exact Nat.lt_trans hi hn
    · rcases List.mem_cons.mp m with e | m
      · rw [e]; exact nB6 Dl (List.mem_cons_self ..)
      · rw [List.flatMap_append] at m
        rcases List.mem_append.mp m with m | m
        · exact nB6 a (List.mem_cons_of_mem _ m)
        · have e : a = py := by simpa [one] using m
          rw [e]; exact nby
    · by_cases q : a = Dl
      · subst q; rw [upd_same]; exact hard_lst
      · rw [upd_ne q]
        rcases List.mem_cons.mp m with e | m
        · exact absurd e q
        · rw [List.flatMap_append] at m
          rcases List.mem_append.mp m with m | m
          · exact nH6 a (List.mem_cons_of_mem _ m)
          · have e : a = py := by simpa [one] using m
            rw [e, hpy]; exact hard_lst
    · rcases List.mem_cons.mp m with e | m
      · rw [e]; exact hDn
      · rw [List.flatMap_append] at m
        rcases List.mem_append.mp m with m | m
        · exact nH0 a (List.mem_cons_of_mem _ m)
        · have e : a = py := by simpa [one] using m
          rw [e]; exact py0
    · rw [List.flatMap_append]
      intro m
      rcases List.mem_append.mp m with m | m
      · exact nD m
      · have e : Dl = py := by simpa [one] using m
        exact pD e.symm
    · rw [List.range_succ, List.map_append]
      refine RowsOk.append ?_ ⟨⟨py, ws, rfl, by rw [upd_ne pD]; exact hpy, fy⟩, trivial⟩
      refine RowsOk.agree (H := H') (fun a m => ?_) (f.mono (t2.le.trans a6.le))
      have ne : a ≠ Dl := fun e => nD (e ▸ m)
      rw [upd_ne ne, ag6 a (List.mem_cons_of_mem _ m), ag2 a (List.mem_cons_of_mem _ m)]
  · intro H' ⟨B', acc, t, l, nB, nH, nH0, hacc, nD, f⟩
    have ea : (oLL ((List.range n).map q)).ad (.ref Dl) H' = Dl :: acc.flatMap one := adLL_at hacc
    exact ⟨B', s.step t, ⟨fun a m => nB a (ea ▸ m), fun a m => s.st.bnone (nH0 a (ea ▸ m)), fun a m => nH a (ea ▸ m), Dl, acc, rfl, hacc, nD, f⟩, fun a m => nH0 a (ea ▸ m)⟩

/-- an expression that is the constant v -/
structure AnyX (g : Gx) (e : Expr) (v : V) : Prop where
  pe : PE g.X e (tC v)
/-! ### what was told is spoiled -/
theorem Sta.setN {b : Base} {σ : L2.St} {B : Bs} {H : Hp} {j : Nat} {v : V} (s : Sta b Γ σ B H) : Sta b (Γ.set j none) (σ.set j (some v)) B H where
  st := s.st
  env := {
    len := by rw [List.length_set, List.length_set]; exact s.env.len
    sh := fun i r e => by
      rcases set_get e with ⟨q, z⟩ | ⟨q, z⟩
      · cases z
      · obtain ⟨u, a, c⟩ := s.env.sh i r z
        exact ⟨u, by rw [List.getElem?_set_ne q]; exact a, c⟩
    ow := fun i c e => by
      rcases set_get e with ⟨q, z⟩ | ⟨q, z⟩
      · cases z
      · obtain ⟨u, a, c⟩ := s.env.ow i c z
        exact ⟨u, by rw [List.getElem?_set_ne q]; exact a, c⟩
    dis := fun i l c c' v1 v2 p h1 h2 h3 h4 => by
      rcases set_get h1 with ⟨q1, z1⟩ | ⟨q1, z1⟩
      · cases z1
      · rcases set_get h2 with ⟨q2, z2⟩ | ⟨q2, z2⟩
        · cases z2
        · rw [List.getElem?_set_ne q1] at h3
          rw [List.getElem?_set_ne q2] at h4
          exact s.env.dis i l c c' v1 v2 p z1 z2 h3 h4 }
/-- some list of these values, each a list of at most m things -/
def oJ2 (vs : List V) (m : Nat) : Oc where
  ad := fun v _ => one v ++ vs.flatMap one
  r := fun B H v => ∃ p, v = .ref p ∧ H p = some (.lst vs) ∧ p ∉ vs.flatMap one ∧ ∀ x ∈ vs, ∃ a ws, x = .ref a ∧ H a = some (.lst ws) ∧ ws.length ≤ m
  mono := fun _ _ _ _ _ h => h
  ast := fun _ _ _ _ => rfl
  rst := fun B H H' v g ⟨p, e, h, n, k⟩ => by
    subst e
    refine ⟨p, rfl, by rw [g p (List.mem_append_left _ (mem_one.mpr rfl))]; exact h, n, fun x hx => ?_⟩
    obtain ⟨a, ws, e, q, l⟩ := k x hx
    have ma : a ∈ vs.flatMap one := by
      rw [List.mem_flatMap]
      exact ⟨x, hx, by rw [e]; exact mem_one.mpr rfl⟩
    exact ⟨a, ws, e, by rw [g a (List.mem_append_right _ ma)]; exact q, l⟩
/-- some list of at most n things -/
def oJ (n : Nat) : Oc where
  ad := fun v _ => one v
  r := fun B H v => ∃ p vs, v = .ref p ∧ H p = some (.lst vs) ∧ vs.length ≤ n
  mono := fun _ _ _ _ _ h => h
  ast := fun _ _ _ _ => rfl
  rst := fun B H H' v g ⟨p, vs, e, h, n⟩ => by
    subst e
    exact ⟨p, vs, rfl, by rw [g p (mem_one.mpr rfl)]; exact h, n⟩
theorem s_spoil (i j : Nat) {rss : List (List Pr)} {m : Nat} {x y : Str} {v : V} {px py py2 apos cpos epos : Pos} (he : AnyX g e v) (hm : ∀ rs ∈ rss, rs.length ≤ m) (hz : m + rss.length < sizeLine)
    (k : JS g rest ((Γ.set j none).set i (some (.ow (oJ rss.length)))) D) (hij : i ≠ j) (hjl : j < Γ.length := by exact Nat.le_of_ble_eq_true rfl) (hi : Γ[i]? = some (some (.ow (oLL rss))) := by rfl) (hN : g.X.N[i]? = some x := by rfl) (hv : Vis g.X.env.scope x := by first | exact Or.inl rfl | exact Or.inr (Or.inl rfl) | exact Or.inr (Or.inr rfl))
    (hNy : g.X.N[j]? = some y := by rfl) (hly : Loc g.X.env.scope y := by first | exact Or.inl rfl | exact Or.inr rfl) (hfy : g.X.fn y = true ∨ g.X.env.scope.names.lookup y = some .local := by first | exact .inl rfl | exact .inr rfl)
    (hd : (x == ("__debug__" : Str)) = false := by decide) (hcd : (x == ("__classdict__" : Str)) = false := by decide) (hd' : (y == ("__debug__" : Str)) = false := by decide) (hcd' : (y == ("__classdict__" : Str)) = false := by decide) (hline : (apos.endLine == cpos.line) = true := by rfl)
    (hfew : ((backTo cpos (starEach [e] g.X.env)).all (fun x => !x.1) && (backToKw cpos (keywordEach [] g.X.env)).all (fun x => x.1.isSome) && decide ([e].length + ([] : List Keyword).length + (if ([] : List Keyword).isEmpty then 0 else 1) < 30)) = true := by rfl)
    (hst : starEach [e] g.X.env = (false, eval e g.X.env) :: starEach [] g.X.env := by rfl) (hs : swapsWith (.Call (.Attribute (.Name y py2) "append" apos) [e] [] cpos) none epos.line g.X.env = pure false := by rfl) (hcm : g.X.calm = true := by rfl) :
    JS g (.For (.Name y py) (.Name x px) [.Expr (.Call (.Attribute (.Name y py2) "append" apos) [e] [] cpos) epos] [] pos :: rest) Γ D := by
  obtain ⟨hpe⟩ := he
  refine js_cons fun w σ B H s => of1 (ps_for w.po hcm (pi_list (pe_var hN hv hd hcd)) (pg_name w.nd hNy hly hfy) (pss_one (ps_expr (pe_bm PySem.F.plainAttrs_list PySem.F.slot_list_append PySem.F.type_list_append mt_append (pe_var hNy (hly.elim Or.inl fun z => Or.inr (Or.inl z)) hd' hcd') (pa_cons hpe pa_nil hst) (by rfl) hfew hline hst rfl) hs)) (by intro _; rfl)) ?_
  obtain ⟨v0, ev, o⟩ := s.env.ow i _ hi
  obtain ⟨p, vs, e0, hp, np, rk⟩ := o.at_
  subst e0
  have hlen : vs.length = rss.length := rk.len
  have rows : ∀ (us : List V) (qss : List (List Pr)), (∀ rs ∈ qss, rs.length ≤ m) → RowsOk B H us qss → ∀ x ∈ us, ∃ a ws, x = .ref a ∧ H a = some (.lst ws) ∧ ws.length ≤ m := by
    intro us
    induction us with
    | nil => intro _ _ _ x hx; cases hx
    | cons u us ih =>
      intro qss hq h
      cases qss with
      | nil => exact h.elim
      | cons q qss =>
        obtain ⟨⟨a, ws, e, h1, f⟩, h2⟩ := h
        intro x hx
        rcases List.mem_cons.mp hx with z | z
        · rw [z]; exact ⟨a, ws, e, h1, by rw [f.len]; exact hq q (List.mem_cons_self ..)⟩
        · exact ih qss (fun rs r => hq rs (List.mem_cons_of_mem _ r)) h2 x z
  have ead : (oLL rss).ad (.ref p) H = p :: vs.flatMap one := adLL_at hp
  have s1 : Sta g.b (Γ.set i (some (.ow (oJ2 vs (m + 0))))) σ B H := sta_at s hi ev (fun a ha => by rw [ead]; exact ha) ⟨p, rfl, hp, np, rows vs rss hm rk⟩
  have hiΓ : i < Γ.length := (List.getElem?_eq_some_iff.mp hi).1
  -- between the turns
  let Δ : Nat → Gm := fun t => (Γ.set i (some (.ow (oJ2 vs (m + t))))).set j none
  have Δi : ∀ t, (Δ t)[i]? = some (some (.ow (oJ2 vs (m + t)))) := fun t => by
    show ((Γ.set i _).set j none)[i]? = _
    rw [List.getElem?_set_ne (Ne.symm hij), List.getElem?_set_self hiΓ]
  refine ⟨_, ev, p, rfl, ⟨vs, SqL.of hp⟩, for_list (K := g.X.K) (a := p) (xs := vs) (fun t σ' H' => ∃ B', Le B B' ∧ σ'[i]? = some (some (.ref p)) ∧ Sta g.b (Δ t) σ' B' H') ⟨B, Le.refl _, ev, ?_⟩ (fun t σ' H' ht ⟨B', l, e', s'⟩ => ?_) ?_ ?_⟩
  · refine s1.imp ?_
    have key : ∀ (L : Gm) (q : Nat), GmLe L (L.set q none) := by
      intro L
      induction L with
      | nil => intro q; exact trivial
      | cons a L ih =>
        intro q
        cases q with
        | zero => exact ⟨.none _, GmLe.refl _⟩
        | succ q => exact ⟨.refl _, ih q⟩
    exact key _ j
  · obtain ⟨u, eu, ou⟩ := s'.env.ow i _ (Δi t)
    obtain ⟨p', ep, hp', _⟩ := ou.at_
    rw [e'] at eu
    have : p' = p := by
      have := Option.some.inj (Option.some.inj eu)
      rw [ep] at this
      exact (V.ref.inj this).symm
    subst this
    exact SqL.of hp'
  · rintro t y0 σ' H' hy ⟨B', l, e', s'⟩
    have tl : t < vs.length := (List.getElem?_eq_some_iff.mp hy).1
    obtain ⟨u, eu, ou⟩ := s'.env.ow i _ (Δi t)
    have eu2 : u = .ref p := by rw [e'] at eu; exact (Option.some.inj (Option.some.inj eu)).symm
    subst eu2
    obtain ⟨p', ep, hp', np', rk'⟩ := ou.at_
    cases ep
    obtain ⟨a, ws, ey, ha, hwl⟩ := rk' y0 (List.mem_of_getElem? hy)
    subst ey
    have ma : a ∈ vs.flatMap one := by
      rw [List.mem_flatMap]
      exact ⟨_, List.mem_of_getElem? hy, mem_one.mpr rfl⟩
    have hap : a ≠ p := fun z => np' (z ▸ ma)
    have hjl : j < σ'.length := by
      rw [s'.env.len]
      show j < ((Γ.set i _).set j none).length
      rw [List.length_set, List.length_set]
      exact hjl
    show (∃ v, (σ'.set j (some (V.ref a)))[j]? = some (some v) ∧ _)
    refine ⟨.ref a, by rw [List.getElem?_set_self hjl], .inl ⟨rfl, ws, SqL.of ha⟩, ?_⟩
    refine ⟨a, ws, v, rfl, rfl, ha, by rw [hlen] at tl; omega, B', l, ?_, ?_⟩
    · rw [List.getElem?_set_ne (Ne.symm hij)]; exact e'
    · have s2 := (s'.setN (j := j) (v := .ref a))
      have e2 : (Δ t).set j none = Δ t := by
        show (((Γ.set i _).set j none).set j none) = _
        rw [List.set_set]
      rw [e2] at s2
      have s3 := s2.chg (c' := oJ2 vs (m + (t + 1))) (p := a) (u := .lst (ws ++ [v])) (Δi t) (by rw [List.getElem?_set_ne (Ne.symm hij)]; exact e') (List.mem_append_right _ ma) (fun x hx => hx) ⟨p, rfl, by rw [upd_ne (Ne.symm hap)]; exact hp', np', fun x hx => ?_⟩
      · have e3 : (Δ t).set i (some (.ow (oJ2 vs (m + (t + 1))))) = Δ (t + 1) := by
          show ((Γ.set i _).set j none).set i _ = _
          rw [List.set_comm _ _ (Ne.symm hij), List.set_set]
        rw [e3] at s3
        exact s3
      · obtain ⟨a', ws', ex, h', l'⟩ := rk' x hx
        by_cases q : a' = a
        · subst q
          exact ⟨a', ws ++ [v], ex, upd_same, by rw [List.length_append, List.length_singleton]; omega⟩
        · exact ⟨a', ws', ex, by rw [upd_ne q]; exact h', by omega⟩
  · rintro σ' H' ⟨B', l, e', s'⟩
    refine k.go w l ?_
    have s4 := sta_at (c' := oJ rss.length) s' (Δi vs.length) e' (fun x hx => List.mem_append_left _ hx) (by
      obtain ⟨u, eu, ou⟩ := s'.env.ow i _ (Δi vs.length)
      obtain ⟨p', ep, hp', _⟩ := ou.at_
      rw [e'] at eu
      have eu2 : u = .ref p := (Option.some.inj (Option.some.inj eu)).symm
      subst eu2
      cases ep
      exact ⟨p, vs, rfl, hp', by rw [hlen]; exact Nat.le_refl _⟩)
    have e5 : (Δ vs.length).set i (some (.ow (oJ rss.length))) = (Γ.set j none).set i (some (.ow (oJ rss.length))) := by
      show ((Γ.set i _).set j none).set i _ = _
      rw [List.set_comm _ _ (Ne.symm hij), List.set_set, List.set_comm _ _ hij]
    rw [e5] at s4
    exact s4
/-- .. and the list itself -/
theorem s_appJ (i : Nat) {n : Nat} {x : Str} {p apos cpos : Pos} (h : JE g e Γ P) (hz : n < sizeLine) (k : JS g rest (Γ.set i (some (.ow (oJ (n + 1))))) D) (hi : Γ[i]? = some (some (.ow (oJ n))) := by rfl) (hN : g.X.N[i]? = some x := by rfl) (hv : Vis g.X.env.scope x := by first | exact Or.inl rfl | exact Or.inr (Or.inl rfl) | exact Or.inr (Or.inr rfl))
    (hd : (x == ("__debug__" : Str)) = false := by decide) (hcd : (x == ("__classdict__" : Str)) = false := by decide) (hline : (apos.endLine == cpos.line) = true := by rfl)
    (hfew : ((backTo cpos (starEach [e] g.X.env)).all (fun x => !x.1) && (backToKw cpos (keywordEach [] g.X.env)).all (fun x => x.1.isSome) && decide ([e].length + ([] : List Keyword).length + (if ([] : List Keyword).isEmpty then 0 else 1) < 30)) = true := by rfl)
    (he : starEach [e] g.X.env = (false, eval e g.X.env) :: starEach [] g.X.env := by rfl) (hs : swapsWith (.Call (.Attribute (.Name x p) "append" apos) [e] [] cpos) none pos.line g.X.env = pure false := by rfl) :
    JS g (.Expr (.Call (.Attribute (.Name x p) "append" apos) [e] [] cpos) pos :: rest) Γ D :=
  js_cons fun w σ B H s => of1 (ps_expr (pe_bm PySem.F.plainAttrs_list PySem.F.slot_list_append PySem.F.type_list_append mt_append (pe_var hN hv hd hcd) (pa_cons pE pa_nil he) (by rfl) hfew hline he rfl) hs) (by
    obtain ⟨v0, e, o⟩ := s.env.ow i _ hi
    obtain ⟨q, vs, e2, hu, hl⟩ := o.at_
    subst e2
    refine ⟨_, e, .inl ⟨rfl, vs, SqL.of hu⟩, (h.run w σ B H s).mono fun v H1 ⟨B1, a1, p1⟩ => ?_⟩
    have hu1 : H1 q = some (.lst vs) := a1.t.keep q _ hu fun φ z => by rw [o.nb q (mem_one.mpr rfl)] at z; cases z
    exact ⟨q, vs, v, rfl, rfl, hu1, by omega, k.go w a1.le (a1.sta.chg hi e (mem_one.mpr rfl) (fun a m => m) ⟨q, vs ++ [v], rfl, upd_same, by rw [List.length_append, List.length_singleton]; omega⟩)⟩)
end
end G
set_option Elab.async false
set_option linter.all false
set_option maxRecDepth 100000
set_option maxHeartbeats 2000000
namespace G
open PySem L2
/-! ### data: == and < at any depth -/
def HasD (K : PySem.W.Frag) (P : Pr) (d : PyData) : Prop := ∀ B H v, Ok B H → P.r B v → Dp K H v d
def HasDs (K : PySem.W.Frag) : List Pr → List PyData → Prop
  | [], [] => True
  | P :: Ps, d :: ds => HasD K P d ∧ HasDs K Ps ds
  | _, _ => False
section
variable {K : PySem.W.Frag}
theorem hd_I {i : Int} : HasD K (rI i) (.int i) := fun B H v k p => by cases p; exact .int i
theorem hd_B {i : Bool} : HasD K (rB i) (.bool i) := fun B H v k p => by cases p; exact .bl i
theorem hd_S {i : Str} : HasD K (rS i) (.str i) := fun B H v k p => by cases p; exact .str i
theorem hd_N : HasD K rN .none := fun B H v k p => by cases p; exact .non
theorem hds_all {B : Bs} {H : Hp} (k : Ok B H) : ∀ {vs : List V} {Ps : List Pr} {ds : List PyData}, HasDs K Ps ds → F2 B vs Ps → DpAll K H vs ds
  | [], [], [], _, _ => .nil
  | v :: vs, P :: Ps, d :: ds, h, f => .cons (h.1 B H v k f.1) (hds_all k h.2 f.2)
  | [], _ :: _, _, _, f => f.elim
  | _ :: _, [], _, _, f => f.elim
  | [], [], _ :: _, h, _ => h.elim
  | _ :: _, _ :: _, [], h, _ => h.elim
theorem hd_L {rs : List Pr} {ds : List PyData} (h : HasDs K rs ds) : HasD K (rLs K rs) (.list ds) := fun B H v k ⟨p, vs, e, a, f⟩ => by
  subst e
  exact .lst (a.sq k) (hds_all k h f)
theorem hd_T {rs : List Pr} {ds : List PyData} (h : HasDs K rs ds) : HasD K (rTs K rs) (.tuple ds) := fun B H v k ⟨p, vs, e, a, f⟩ => by
  subst e
  exact .tup (a.sq k) (hds_all k h f)
theorem hds_map {α : Type} {r : α → Pr} {t : α → PyData} (h : ∀ a, HasD K (r a) (t a)) : ∀ xs : List α, HasDs K (xs.map r) (xs.map t)
  | [] => trivial
  | x :: xs => ⟨h x, hds_map h xs⟩
end
section
variable {g : Gx} {Γ : Gm} {P Q R : Pr} {e e1 e2 tg : Expr} {pos p2 : Pos} {D : En} {st : Stmt} {ss rest : List Stmt} {rs qs : List Pr}
theorem o_eqD {d d' : PyData} (h1 : HasD g.X.K P d) (h2 : HasD g.X.K Q d') (s1 : SeqAt.shaped d = true) (s2 : SeqAt.shaped d' = true) : Op2 g.X (rEqD g.X.K) P Q (rB (PyData.eqv d d')) := fun B H v u K k p q c => ⟨d, d', h1 B H v k p, h2 B H u k q, s1, s2, c _ B H (Stp.refl k) rfl⟩
theorem o_neD {d d' : PyData} (h1 : HasD g.X.K P d) (h2 : HasD g.X.K Q d') (s1 : SeqAt.shaped d = true) (s2 : SeqAt.shaped d' = true) : Op2 g.X (rNeD g.X.K) P Q (rB (!PyData.eqv d d')) := fun B H v u K k p q c => ⟨d, d', h1 B H v k p, h2 B H u k q, s1, s2, c _ B H (Stp.refl k) rfl⟩
/-- with the room that the context gives -/
theorem x_cmpW {op : CmpOp} {r : R2} (ho : g.Wf → OpR g.X (compareOp op) r) (hv : Op2 g.X r P Q R) (h1 : JE g e1 Γ P) (h2 : JE g e2 Γ Q) (hm : behindInMarks op e2 = false := by first | exact nomark _ | rfl) : JE g (.Compare e1 [op] [e2] pos) Γ R := ⟨fun w => (x_cmpV (ho w) hv h1 h2 hm).run w⟩
theorem t_cmpW {op : CmpOp} {r : R2} {c : Bool} (ho : g.Wf → OpR g.X (compareOp op) r) (hv : Op2 g.X r P Q (rB c)) (h1 : JE g e1 Γ P) (h2 : JE g e2 Γ Q) (hm : behindInMarks op e2 = false := by first | exact nomark _ | rfl) : JT g (.Compare e1 [op] [e2] pos) Γ c := ⟨fun w => (x_cmpT (ho w) hv h1 h2 hm).run w⟩
theorem x_eqD {d d' : PyData} (h1 : JE g e1 Γ P) (h2 : JE g e2 Γ Q) (k1 : HasD g.X.K P d) (k2 : HasD g.X.K Q d') (s1 : SeqAt.shaped d = true) (s2 : SeqAt.shaped d' = true) (hcm : g.X.calm = true := by rfl) : JE g (.Compare e1 [.Eq] [e2] pos) Γ (rB (PyData.eqv d d')) := x_cmpW (fun w => op_eqD (w.hr hcm).units) (o_eqD k1 k2 s1 s2) h1 h2
theorem t_eqD {d d' : PyData} (h1 : JE g e1 Γ P) (h2 : JE g e2 Γ Q) (k1 : HasD g.X.K P d) (k2 : HasD g.X.K Q d') (s1 : SeqAt.shaped d = true) (s2 : SeqAt.shaped d' = true) (hcm : g.X.calm = true := by rfl) : JT g (.Compare e1 [.Eq] [e2] pos) Γ (PyData.eqv d d') := t_cmpW (fun w => op_eqD (w.hr hcm).units) (o_eqD k1 k2 s1 s2) h1 h2
theorem x_neD {d d' : PyData} (h1 : JE g e1 Γ P) (h2 : JE g e2 Γ Q) (k1 : HasD g.X.K P d) (k2 : HasD g.X.K Q d') (s1 : SeqAt.shaped d = true) (s2 : SeqAt.shaped d' = true) (hcm : g.X.calm = true := by rfl) : JE g (.Compare e1 [.NotEq] [e2] pos) Γ (rB (!PyData.eqv d d')) := x_cmpW (fun w => op_neD (w.hr hcm).units) (o_neD k1 k2 s1 s2) h1 h2
theorem t_neD {d d' : PyData} (h1 : JE g e1 Γ P) (h2 : JE g e2 Γ Q) (k1 : HasD g.X.K P d) (k2 : HasD g.X.K Q d') (s1 : SeqAt.shaped d = true) (s2 : SeqAt.shaped d' = true) (hcm : g.X.calm = true := by rfl) : JT g (.Compare e1 [.NotEq] [e2] pos) Γ (!PyData.eqv d d') := t_cmpW (fun w => op_neD (w.hr hcm).units) (o_neD k1 k2 s1 s2) h1 h2
/-- < of data that are alike -/
def rLtD (K : PySem.W.Frag) : R2 := fun x y H Q => ∃ d d', Dp K H x d ∧ Dp K H y d' ∧ PySem.W.alike d d' = true ∧ d ≠ .none ∧ d.depth ≤ 64 ∧ Q (.bl (PySem.W.dataLt d d')) H
theorem op_ltD {X : Cx} (hu : X.A.units + 64 < cLine) : OpR X (compareOp .Lt) (rLtD X.K) := by
  intro pins s σ H x y v u Q I rx ry h
  obtain ⟨d, d', h1, h2, ha, hn, hdp, q⟩ := h
  obtain ⟨as, r1⟩ := Dp.reads I d x v h1 rx
  obtain ⟨bs, r2⟩ := Dp.reads I d' y u h2 ry
  exact PySem.W.rcLt_alike d d' X.A s v u as bs r1 r2 ha hn (by omega) _ _ _ _ ⟨.bl _, H, I, rfl, q⟩
theorem x_ltD {d d' : PyData} (h1 : JE g e1 Γ P) (h2 : JE g e2 Γ Q) (k1 : HasD g.X.K P d) (k2 : HasD g.X.K Q d') (ha : PySem.W.alike d d' = true) (hn : d ≠ .none) (hd : d.depth ≤ 64) (hcm : g.X.calm = true := by rfl) : JE g (.Compare e1 [.Lt] [e2] pos) Γ (rB (PySem.W.dataLt d d')) :=
  x_cmpW (fun w => op_ltD (w.hr hcm).units) (fun B H v u K k p q c => ⟨d, d', k1 B H v k p, k2 B H u k q, ha, hn, hd, c _ B H (Stp.refl k) rfl⟩) h1 h2
theorem t_ltD {d d' : PyData} (h1 : JE g e1 Γ P) (h2 : JE g e2 Γ Q) (k1 : HasD g.X.K P d) (k2 : HasD g.X.K Q d') (ha : PySem.W.alike d d' = true) (hn : d ≠ .none) (hd : d.depth ≤ 64) (hcm : g.X.calm = true := by rfl) : JT g (.Compare e1 [.Lt] [e2] pos) Γ (PySem.W.dataLt d d') :=
  t_cmpW (fun w => op_ltD (w.hr hcm).units) (fun B H v u K k p q c => ⟨d, d', k1 B H v k p, k2 B H u k q, ha, hn, hd, c _ B H (Stp.refl k) rfl⟩) h1 h2
/-- lists of whole numbers -/
theorem lt_ints : ∀ ns ms : List Int, PyProof.Rows.lexLt PyProof.Rows.itemOrd (PySem.W.keyToksAll (ns.map PyData.int)) (PySem.W.keyToksAll (ms.map PyData.int)) = HT.lexLt ns ms
  | [], [] => rfl
  | [], m :: ms => rfl
  | n :: ns, [] => rfl
  | n :: ns, m :: ms => by
    rw [HT.lexLt_cons, List.map_cons, List.map_cons]
    by_cases h : n = m
    · subst h
      rw [if_pos rfl, PySem.W.dataLt_all_yes rfl (by show (n == n) = true; simp)]
      exact lt_ints ns ms
    · rw [if_neg h, PySem.W.dataLt_all_no rfl (by show (n == m) = false; simpa using h), PySem.W.dataLt_int]

/-! ### the script, the pot -/
/-- the law's script -/
def rScr (K : PySem.W.Frag) (ns : List Int) : Pr := ⟨fun B v => ∃ a, v = .ref a ∧ ((∃ u, B a = some (.ex u) ∧ (u = .lst (ns.map V.int) ∨ ∃ o, u = .frz o (.lst (ns.map V.int)))) ∨ ∃ (o : Obj) (its : Array Value) (n : Nat), K.lookup a = some o ∧ o.cls = .type "list" ∧ o.dict = none ∧ o.data = .seq its n ∧ its.size ≤ sizeLine ∧ Vals (ns.map V.int) its.toList),
  fun _ _ _ l ⟨a, e, h⟩ => ⟨a, e, h.imp (fun ⟨u, b, c⟩ => ⟨u, l _ _ b, c⟩) id⟩⟩
theorem scr_sq {K : PySem.W.Frag} {ns : List Int} {B : Bs} {H : Hp} {v : V} (k : Ok B H) (h : (rScr K ns).r B v) : ∃ a, v = .ref a ∧ SqL K H a (ns.map V.int) := by
  obtain ⟨a, e, h⟩ := h
  refine ⟨a, e, ?_⟩
  rcases h with ⟨u, b, c⟩ | h
  · have z := k.ex a u b
    rcases c with c | ⟨o, c⟩
    · subst c; exact .inl (.inl (z.hard rfl))
    · subst c; exact .inl (.inr ⟨o, z.hard rfl⟩)
  · exact .inr h
theorem x_lenScr {ns : List Int} (hm : g.X.mg "len" = none) (h : JE g e Γ (rScr g.X.K ns)) {p : Pos} (hg : Gl g.X "len" := by rfl) (he : starEach [e] g.X.env = (false, eval e g.X.env) :: starEach [] g.X.env := by rfl) : JE g (.Call (.Name "len" p) [e] [] pos) Γ (rI ns.length) :=
  x_cb (r := fun xs H Q => ∃ p ys, xs = [.ref p] ∧ (SqL g.X.K H p ys ∨ SqT g.X.K H p ys) ∧ Q (.int ys.length) H) hm (fun _ => call_len_seq) PySem.boot_len
    (fun B H vs K k f c => by
      obtain ⟨v, rfl, h⟩ := f.one
      obtain ⟨a, e, q⟩ := scr_sq k h
      exact ⟨a, _, by rw [e], .inl q, c _ B H (Stp.refl k) (by rw [List.length_map]; rfl)⟩) (a_cons h a_nil he) hg (by decide) (by decide) he rfl
theorem x_ixScr {ns : List Int} {i : Nat} {z : Int} (hz : ns[i]? = some z) (h1 : JE g e1 Γ (rScr g.X.K ns)) (h2 : JE g e2 Γ (rI (i : Int))) (hs : PlainIx e2 := by exact fun _ _ => rfl) : JE g (.Subscript e1 e2 pos) Γ (rI z) :=
  x_ix (P := rScr g.X.K ns) (Q := rI (i : Int)) ix_list (fun B H v u K k h q c => by
    cases q
    obtain ⟨a, e, sq⟩ := scr_sq k h
    exact ⟨a, _, (i : Int), .int z, e, rfl, sq, atI_nat (by rw [List.getElem?_map, hz]; rfl), c _ B H (Stp.refl k) rfl⟩) h1 h2 hs
/-- a pot: two whole numbers, by words of them -/
def IsPot (φ ψ : Int → Prop) (o : HO) : Prop := ∃ a b, o = .lst [.int a, .int b] ∧ φ a ∧ ψ b
def rPot (φ ψ : Int → Prop) : Pr := ⟨fun B v => ∃ p, v = .ref p ∧ B p = some (.iv (IsPot φ ψ)), fun _ _ _ l ⟨p, e, h⟩ => ⟨p, e, l _ _ h⟩⟩
theorem x_pot0 {φ ψ : Int → Prop} (h1 : JE g e1 Γ (rPot φ ψ)) {j p} : JE g (.Subscript e1 (.Constant (.int 0) j p) pos) Γ (rIx φ) :=
  x_ix (P := rPot φ ψ) (Q := rI 0) ix_list (fun B H v u K k ⟨p, e, h⟩ q c => by
    cases q
    obtain ⟨o, ho, ⟨a, b, e2, ha, hb⟩, _⟩ := k.iv p _ h
    subst e2
    exact ⟨p, _, 0, .int a, e, rfl, SqL.of ho, rfl, c _ B H (Stp.refl k) ⟨a, ha, rfl⟩⟩) h1 x_int (fun _ _ => rfl)
theorem x_pot1 {φ ψ : Int → Prop} (h1 : JE g e1 Γ (rPot φ ψ)) {j p} : JE g (.Subscript e1 (.Constant (.int 1) j p) pos) Γ (rIx ψ) :=
  x_ix (P := rPot φ ψ) (Q := rI 1) ix_list (fun B H v u K k ⟨p, e, h⟩ q c => by
    cases q
    obtain ⟨o, ho, ⟨a, b, e2, ha, hb⟩, _⟩ := k.iv p _ h
    subst e2
    exact ⟨p, _, 1, .int b, e, rfl, SqL.of ho, rfl, c _ B H (Stp.refl k) ⟨b, hb, rfl⟩⟩) h1 x_int (fun _ _ => rfl)
/-- a thing of the ground that callees may change is changed, its word kept -/
theorem Stp.ivch {B : Bs} {H : Hp} {p : Addr} {φ : HO → Prop} {u : HO} (k : Ok B H) (h : B p = some (.iv φ)) (hu : φ u) (hn : ∀ vs, u ≠ .tup vs := by exact fun _ h => nomatch h) : Stp B H B (upd H p u) where
  le := Le.refl _
  ok := {
    ex := fun a w e => by
      have q : a ≠ p := by rintro rfl; rw [h] at e; cases e
      rcases k.ex a w e with z | ⟨l, o, z⟩
      · exact .inl (by rw [upd_ne q]; exact z)
      · exact .inr ⟨l, o, by rw [upd_ne q]; exact z⟩
    iv := fun a ψ e => by
      by_cases q : a = p
      · subst q; rw [h] at e; cases e; exact ⟨u, upd_same, hu, hn⟩
      · obtain ⟨o, z, f⟩ := k.iv a ψ e
        exact ⟨o, by rw [upd_ne q]; exact z, f⟩ }
  keep := fun a o e n => by
    have q : a ≠ p := by rintro rfl; exact n φ h
    rw [upd_ne q]; exact e
  there := fun a e => by
    by_cases q : a = p
    · subst q; rw [upd_same]; simp
    · rw [upd_ne q]; exact e
  new := fun a e k' n => by rw [e] at n; cases n
/-- pot[j] = e -/
theorem s_pot {φ ψ χ : Int → Prop} {j : Int} {jj : Nat} {pj spos : Pos} (hj : j = 0 ∧ (∀ a, χ a → φ a) ∨ j = 1 ∧ (∀ a, χ a → ψ a)) (h : JE g e Γ (rIx χ)) (h1 : JE g e1 Γ (rPot φ ψ)) (k : JS g rest Γ D)
    (ha : ∀ v, assign (.Subscript e1 (.Constant (.int j) jj pj) spos) g.X.env v = (do
      let ov ← holding [v] (eval e1 g.X.env)
      let iv ← holding [v, ov] (eval (.Constant (.int j) jj pj) g.X.env)
      standAt spos
      holding [v, ov, iv] (setItem ov iv v)
      release [v, ov, iv] []) := by intro _; rfl)
    (hs : swapsWithSole [.Subscript e1 (.Constant (.int j) jj pj) spos] e pos.line g.X.env = pure false := by rfl) (hw : swappedStores [.Subscript e1 (.Constant (.int j) jj pj) spos] e g.X.env = pure none := by rfl)
    (h1' : (assignEach [.Subscript e1 (.Constant (.int j) jj pj) spos] g.X.env).map (·.2) = [assign (.Subscript e1 (.Constant (.int j) jj pj) spos) g.X.env] := by rfl) :
    JS g (.Assign [.Subscript e1 (.Constant (.int j) jj pj) spos] e pos :: rest) Γ D :=
  js_cons fun w σ B H s => of1 (ps_asg pE (pg_sub pE pe_int set_list ha) hs hw h1') ((h.run w σ B H s).mono fun v H1 ⟨B1, a1, z, hz, ez⟩ => (h1.run w σ B1 H1 a1.sta).mono fun o H2 ⟨B2, a2, p, eo, hp⟩ => by
    obtain ⟨u, hu, ⟨a, b, e2, pa, pb⟩, _⟩ := a2.sta.st.ok.iv p _ hp
    subst e2
    have ez : v = .int z := ez
    subst ez
    rcases hj with ⟨rfl, hc⟩ | ⟨rfl, hc⟩
    · refine ⟨p, _, 0, 0, eo, rfl, hu, rfl, k.go w (a1.le.trans a2.le) (a2.sta.step (Stp.ivch a2.sta.st.ok hp ⟨z, b, rfl, hc z hz, pb⟩)).sta⟩
    · refine ⟨p, _, 1, 1, eo, rfl, hu, rfl, k.go w (a1.le.trans a2.le) (a2.sta.step (Stp.ivch a2.sta.st.ok hp ⟨a, z, rfl, pa, hc z hz⟩)).sta⟩)
/-- a list of two whole numbers of one's own becomes a pot -/
theorem s_mkpot (i : Nat) {φ ψ : Int → Prop} (k : JS g ss (Γ.set i (some (.sh (rPot φ ψ)))) D) (h : Γ[i]? = some (some (.ow (oL [rIx φ, rIx ψ]))) := by rfl) : JS g ss Γ D :=
  ⟨fun w σ B H s => by
    obtain ⟨v, e, o⟩ := s.env.ow i _ h
    obtain ⟨p, vs, e2, nb, nh, hp, f⟩ := own_one o
    subst e2
    obtain ⟨v1, v2, rfl, ⟨a, ha, ea⟩, ⟨b, hb, eb⟩⟩ := f.two
    have ea : v1 = .int a := ea
    have eb : v2 = .int b := eb
    subst ea eb
    have l : Le B (put B p (.iv (IsPot φ ψ))) := Le.put nb
    have ok : Ok (put B p (.iv (IsPot φ ψ))) H := ⟨fun x u e => by
      by_cases q : x = p
      · subst q; rw [put_same] at e; cases e
      · rw [put_ne q] at e; exact s.st.ok.ex x u e, fun x χ e => by
      by_cases q : x = p
      · subst q; rw [put_same] at e; cases e; exact ⟨_, hp, ⟨a, b, rfl, ha, hb⟩, fun _ h => nomatch h⟩
      · rw [put_ne q] at e; exact s.st.ok.iv x χ e⟩
    refine k.go w l (σ := σ) ⟨⟨s.st.le.trans l, ok, s.st.keep, s.st.there, fun x e k' n => ?_⟩, ⟨by rw [List.length_set]; exact s.env.len, fun j r hj => ?_, fun j d hj => ?_, fun j m d d' u1 u2 q h1 h2 h3 h4 h5 h6 => ?_⟩⟩
    · by_cases q : x = p
      · subst q; exact .inl nh
      · rw [put_ne q] at n; exact s.st.new x e k' n
    · rcases set_get hj with ⟨q, z⟩ | ⟨q, z⟩
      · cases z; subst q
        exact ⟨.ref p, e, p, rfl, put_same⟩
      · obtain ⟨v, a, k⟩ := s.env.sh j r z
        exact ⟨v, a, r.mono _ _ _ l k⟩
    · rcases set_get hj with ⟨q, z⟩ | ⟨q, z⟩
      · cases z
      · obtain ⟨v', e3, k'⟩ := s.env.ow j d z
        have dj : ∀ a ∈ d.ad v' H, a ≠ p := fun a ha z2 => by
          subst z2
          exact q (s.env.dis i j _ d _ v' a h z e e3 (mem_one.mpr rfl) ha)
        exact ⟨v', e3, fun a ha => by rw [put_ne (dj a ha)]; exact k'.nb a ha, k'.nh, k'.th, d.mono _ _ _ _ l k'.at_⟩
    · rcases set_get h1 with ⟨q1, z1⟩ | ⟨q1, z1⟩
      · cases z1
      · rcases set_get h2 with ⟨q2, z2⟩ | ⟨q2, z2⟩
        · cases z2
        · exact s.env.dis j m d d' u1 u2 q z1 z2 h3 h4 h5 h6⟩

/-! ### more -/
theorem s_retLL {rss : List (List Pr)} {D : En} (h : JO g e Γ (oL (rss.map (rLf g.b)))) (hf : ∀ rs ∈ rss, ∀ r ∈ rs, Free r) (k : ∀ v H, Rt g.b (.ow (oLL rss)) v H → D.rt v H) : JS g (.Return (some e) pos :: rest) Γ D :=
  ⟨fun w => (s_retO h fun v H r => k v H (rt_own hf v H w.bok r)).run w⟩
theorem F2.imp {B : Bs} {α : Type} {r r' : α → Pr} (h : ∀ a v, (r a).r B v → (r' a).r B v) : ∀ {vs : List V} {xs : List α}, F2 B vs (xs.map r) → F2 B vs (xs.map r')
  | [], [], _ => trivial
  | v :: vs, x :: xs, f => ⟨h x v f.1, F2.imp h (xs := xs) f.2⟩
  | [], _ :: _, f => f.elim
  | _ :: _, [], f => f.elim
theorem rLs_imp {K : PySem.W.Frag} {α : Type} {r r' : α → Pr} (h : ∀ a B v, (r a).r B v → (r' a).r B v) {xs : List α} {B : Bs} {v : V} (k : (rLs K (xs.map r)).r B v) : (rLs K (xs.map r')).r B v := let ⟨p, vs, e, a, f⟩ := k; ⟨p, vs, e, a, F2.imp (fun x v => h x B v) f⟩
theorem bo_max : bootBuiltins "max" = some (.builtin "max") := by decide +kernel
theorem bo_min : bootBuiltins "min" = some (.builtin "min") := by decide +kernel
theorem x_max2 {i j : Int} {p : Pos} (b : Bi g.X.mg) (h1 : JE g e1 Γ (rI i)) (h2 : JE g e2 Γ (rI j)) (hg : Gl g.X "max" := by rfl) (he : starEach [e1, e2] g.X.env = (false, eval e1 g.X.env) :: starEach [e2] g.X.env := by rfl) (he2 : starEach [e2] g.X.env = (false, eval e2 g.X.env) :: starEach [] g.X.env := by rfl) (hpl : (backTo pos (starEach [e2] g.X.env)).any (·.1) = false := by rfl) (hcm : g.X.calm = true := by rfl) : JE g (.Call (.Name "max" p) [e1, e2] [] pos) Γ (rI (if j > i then j else i)) :=
  x_cb (r := fun xs H Q => ∃ i j, xs = [.int i, .int j] ∧ Q (.int (if j > i then j else i)) H) b.max (fun w => call_max2 hcm) bo_max (fun B H vs K k f q => by
    obtain ⟨v, u, rfl, h1, h2⟩ := f.two
    cases h1; cases h2
    exact ⟨i, j, rfl, q _ B H (Stp.refl k) rfl⟩) (a_cons h1 (a_cons h2 a_nil he2) he) hg (by decide) (by decide) he hpl
theorem x_min2 {i j : Int} {p : Pos} (b : Bi g.X.mg) (h1 : JE g e1 Γ (rI i)) (h2 : JE g e2 Γ (rI j)) (hg : Gl g.X "min" := by rfl) (he : starEach [e1, e2] g.X.env = (false, eval e1 g.X.env) :: starEach [e2] g.X.env := by rfl) (he2 : starEach [e2] g.X.env = (false, eval e2 g.X.env) :: starEach [] g.X.env := by rfl) (hpl : (backTo pos (starEach [e2] g.X.env)).any (·.1) = false := by rfl) (hcm : g.X.calm = true := by rfl) : JE g (.Call (.Name "min" p) [e1, e2] [] pos) Γ (rI (if j < i then j else i)) :=
  x_cb (r := fun xs H Q => ∃ i j, xs = [.int i, .int j] ∧ Q (.int (if j < i then j else i)) H) b.min (fun w => call_min2 hcm) bo_min (fun B H vs K k f q => by
    obtain ⟨v, u, rfl, h1, h2⟩ := f.two
    cases h1; cases h2
    exact ⟨i, j, rfl, q _ B H (Stp.refl k) rfl⟩) (a_cons h1 (a_cons h2 a_nil he2) he) hg (by decide) (by decide) he hpl
theorem x_pow {i j : Int} (hc : CPow i j) (h1 : JE g e1 Γ (rI i)) (h2 : JE g e2 Γ (rI j)) : JE g (.BinOp e1 .Pow e2 pos) Γ (rI (i ^ j.toNat)) := x_op op_pow (o_I hc) h1 h2
/-! ints told by words only -/
theorem x_modx {φ : Int → Prop} {j : Int} (hj : 0 < j) (h1 : JE g e1 Γ (rIx φ)) (h2 : JE g e2 Γ (rI j)) : JE g (.BinOp e1 .Mod e2 pos) Γ (rIx fun r => 0 ≤ r ∧ r < j) :=
  x_op (P := rIx φ) (Q := rI j) op_mod (fun B H v u K k ⟨i, a, p⟩ q c => by
    cases q
    exact ⟨i, j, p, rfl, hj, c _ B H (Stp.refl k) ⟨_, ⟨Int.emod_nonneg i (by omega), Int.emod_lt_of_pos i hj⟩, rfl⟩⟩) h1 h2
theorem x_fdivx {φ ψ : Int → Prop} {j : Int} (hj : CDiv 0 j) (h : ∀ i, φ i → ψ (i / j)) (h1 : JE g e1 Γ (rIx φ)) (h2 : JE g e2 Γ (rI j)) : JE g (.BinOp e1 .FloorDiv e2 pos) Γ (rIx ψ) :=
  x_op (P := rIx φ) (Q := rI j) op_fdiv (fun B H v u K k ⟨i, a, p⟩ q c => by
    cases q
    exact ⟨i, j, p, rfl, hj, c _ B H (Stp.refl k) ⟨_, h i a, rfl⟩⟩) h1 h2
/-- a test of which nothing is known -/
structure JTx (g : Gx) (e : Expr) (Γ : Gm) : Prop where
  run : g.Wf → ∀ σ B H, Sta g.b Γ σ B H → WT g.X e (fun _ H' => ∃ B', Aft g.b Γ σ B H B' H') σ H
theorem s_ifx {a b : List Stmt} (h : JTx g e Γ) (h1 : JS g a Γ (D.thn g.X rest)) (h2 : JS g b Γ (D.thn g.X rest)) : JS g (.If e a b pos :: rest) Γ D :=
  js_cons fun w σ B H s => of1 (ps_if pT pS pS) ((h.run w σ B H s).mono fun v H' ⟨B', a⟩ => by
    cases v with
    | true => rw [if_pos rfl]; exact h1.go w a.le a.sta
    | false => rw [if_neg (by decide)]; exact h2.go w a.le a.sta)
theorem u_cmp {op : CmpOp} {r : R2} (ho : OpR g.X (compareOp op) r) (hv : Op2 g.X r P Q (Pr.ex rB)) (h1 : JE g e1 Γ P) (h2 : JE g e2 Γ Q) (hm : behindInMarks op e2 = false := by first | exact nomark _ | rfl) : JTx g (.Compare e1 [op] [e2] pos) Γ :=
  ⟨fun w σ B H s => ofT (pt_cmpR ho pE pE hm) ((h1.run w σ B H s).mono fun v H1 ⟨B1, a1, p⟩ => (h2.run w σ B1 H1 a1.sta).mono fun u H2 ⟨B2, a2, q⟩ =>
    op2_run hv a2.sta (P.mono _ _ _ a2.le p) q fun z B' H' a3 ⟨c, hc⟩ => ⟨c, hc, B', (a1.trans a2).trans a3⟩)⟩
theorem u_gt {φ : Int → Prop} {i : Int} (h1 : JE g e1 Γ (rIx φ)) (h2 : JE g e2 Γ (rI i)) : JTx g (.Compare e1 [.Gt] [e2] pos) Γ :=
  u_cmp (P := rIx φ) (Q := rI i) op_gt (fun B H v u K k ⟨z, hz, ez⟩ eu c => ⟨z, i, ez, eu, c _ B H (Stp.refl k) ⟨_, rfl⟩⟩) h1 h2
end
end G
set_option Elab.async false
set_option linter.all false
set_option maxRecDepth 100000
set_option maxHeartbeats 2000000
namespace G
open PySem L2
section
variable {g : Gx} {Γ : Gm} {P Q R : Pr} {e e1 e2 tg : Expr} {pos p2 : Pos} {D : En} {st : Stmt} {ss rest : List Stmt} {rs qs : List Pr}
/-- a walk whose length is known by words only -/
structure JIx (g : Gx) (tg iter : Expr) (Γ : Gm) (φ : Nat → Prop) (it : Nat → Pr) : Prop where
  run : g.Wf → ∀ σ B H, Sta g.b Γ σ B H → tI g.X tg iter σ H (fun J H1 => ∃ n, φ n ∧ ∃ B1, Aft g.b Γ σ B H B1 H1 ∧ Gives B1 n it J)
theorem i_range1x {ψ : Int → Prop} {p : Pos} (hm : g.X.mg "range" = none) (hb : ∀ j, ψ j → -(2 ^ 62) ≤ j ∧ j < 2 ^ 62) (h : JE g e Γ (rIx ψ)) (hg : Gl g.X "range" := by rfl) (hs : starEach [e] g.X.env = [(false, eval e g.X.env)] := by rfl) :
    JIx g tg (.Call (.Name "range" p) [e] [] pos) Γ (fun n => ∃ j, ψ j ∧ n = j.toNat) (fun i => rI (i : Int)) :=
  ⟨fun w σ B H s => ofI (pi_range1 hg hm pA hs) (((a_cons h a_nil hs).run w σ B H s).mono fun vs H1 ⟨B1, a1, f⟩ => by
    obtain ⟨v, rfl, j, hj, e⟩ := f.one
    refine ⟨j, by rw [e], (hb j hj).1, (hb j hj).2, j.toNat, ⟨j, hj, rfl⟩, B1, a1, _, _, walk_range, fun _ _ _ _ => trivial, fun i H2 x H3 B2 hi l k y => ?_⟩
    obtain ⟨e2, e3⟩ := y
    subst e2
    exact ⟨B2, Stp.refl k, by rw [e3]; show V.int (0 + (i : Int)) = _; rw [Int.zero_add]⟩)⟩
theorem y_lcx {elt iter : Expr} {ifs : List Expr} {scope : Scope} (own : List (Str × Nat)) {φ : Nat → Prop} {it : Nat → Pr} {Γ2 : Nat → Gm} (c : Nat → Bool) (q : Nat → Pr) {sl : List Nat} (hI : JIx g tg iter Γ φ it) (hn : ∀ n, φ n → n < sizeLine)
    (hg : AnyB scope g fun g' => ∀ i, JG g' tg (it i) (wipeG Γ (own.map (·.2))) (Γ2 i) sl) (hsl : ∀ i ∈ sl, i ∈ own.map (·.2) := by decide)
    (ht : AnyB scope g fun g' => ∀ i, JTs g' ifs (Γ2 i) (c i)) (he : AnyB scope g fun g' => ∀ i, c i = true → JE g' elt (Γ2 i) (q i))
    (ok : BlkOk g.X.N g.X.env.scope scope own) (hs : ∀ x, foldedSetIterable iter g.X.env x = pure x := by intro _; rfl) (hcm : g.X.calm = true := by rfl) : JO g (.ListComp elt [⟨tg, iter, ifs, 0⟩] scope pos) Γ (Oc.exs φ (fun n => oL (gv n c q)) 0) := by
  refine ⟨fun w σ B H s => ?_⟩
  refine ofE (pe_lc (own := own) (wi := tI g.X tg iter) (g := bG g scope tg) (tt := bT g scope ifs) (te := bE g scope elt)
    hcm w.nd pI ok (fun s0 H0 C cl fp => ⟨fun pins s σ H v u Q I r h => h s0 H0 C cl fp pins s u I r⟩) (fun s0 H0 C cl fp => ⟨fun pins s σ H Q I h => h s0 H0 C cl fp pins s I⟩) (fun s0 H0 C cl fp => ⟨fun pins s σ H Q I h => h s0 H0 C cl fp pins s I⟩) hs) ?_
  intro pins s1 I1
  refine thn (hI.run w σ B H s pins s1 I1) fun v s2 h2 => thn h2 fun itv s3 h3 => ?_
  obtain ⟨itA, fp, tn, J, H3, e1, e2, e3, e4, e5, n, hφ, B1, a1, Gw, Y, wk, kg, ky⟩ := h3
  refine ⟨itA, fp, tn, J, H3, e1, e2, e3, e4, e5, fun Dl hD => ?_⟩
  have hDn : H Dl = none := a1.th hD
  refine lc_it (g := bG g scope tg) (tt := bT g scope ifs) (te := bE g scope elt) (vs := own.map (·.2)) (σ := σ) (H1 := H3) (D := Dl) (Qd := fun H' => ∃ B', Aft g.b Γ σ B H B' H' ∧ Own g.b (Oc.exs φ (fun n => oL (gv n c q)) 0) (.ref Dl) B' H' ∧ ∀ a ∈ (Oc.exs φ (fun n => oL (gv n c q)) 0).ad (.ref Dl) H', H a = none) wk (fun i H' => ∃ B' acc, Stp B H B' H' ∧ Le B1 B' ∧ B' Dl = none ∧ H' Dl = some (.lst acc) ∧ F2 B' acc (gv i c q)) ?_ (fun i H' hi ⟨B', acc, t, l, _⟩ => kg B' H' l t.ok) ?_ ?_
  · exact ⟨B1, [], (a1.trans (a1.sta.beside hD)).t, Le.refl _, a1.sta.st.ok.none hD, upd_same, trivial⟩
  · intro i x H' H'' hi ⟨B', acc, t, l, nD, hacc, f⟩ y
    obtain ⟨B2, t2, p⟩ := ky i H' x H'' B' hi l t.ok y
    have tt2 : Stp B H B2 H'' := t.trans t2
    have nD2 : B2 Dl = none := by
      cases z : B2 Dl with
      | none => rfl
      | some k => exact (Hard.no (by rw [hacc]; exact hard_lst) (t2.new Dl nD k z)).elim
    have hacc2 : H'' Dl = some (.lst acc) := t2.keep Dl _ hacc fun φ z => by rw [nD] at z; cases z
    have sw := ((s.step tt2).sta).wipe (own.map (·.2))
    intro s0 H0 C cl fp'
    refine (hg s0 H0 C cl fp' i).run w.blk _ B2 H'' x sw p _ fun σ2 s4 hw => ?_
    refine ⟨?_, fun s0 H0 C cl fp' => ?_⟩
    · have z := hw (own.map (·.2)) hsl
      rw [z]
      exact wipe_wipe σ _
    · refine (ht s0 H0 C cl fp' i).run w.blk σ2 B2 H'' s4 _ fun B5 H5 a5 => ?_
      have nD5 : B5 Dl = none := by
        cases z : B5 Dl with
        | none => rfl
        | some k => exact (Hard.no (by rw [hacc2]; exact hard_lst) (a5.t.new Dl nD2 k z)).elim
      have hacc5 : H5 Dl = some (.lst acc) := a5.t.keep Dl _ hacc2 fun φ z => by rw [nD2] at z; cases z
      cases hc : c i with
      | true =>
        rw [if_pos rfl]
        intro s0 H0 C cl fp'
        refine ((he s0 H0 C cl fp' i hc).run w.blk σ2 B5 H5 a5.sta).mono fun y H6 ⟨B6, a6, py⟩ => ?_
        have nD6 : B6 Dl = none := by
          cases z : B6 Dl with
          | none => rfl
          | some k => exact (Hard.no (by rw [hacc5]; exact hard_lst) (a6.t.new Dl nD5 k z)).elim
        have hacc6 : H6 Dl = some (.lst acc) := a6.t.keep Dl _ hacc5 fun φ z => by rw [nD5] at z; cases z
        refine ⟨acc, hacc6, ?_, B6, acc ++ [y], (tt2.trans (a5.t.trans a6.t)).chg' nD6 hDn, l.trans (t2.le.trans (a5.le.trans a6.le)), nD6, upd_same, ?_⟩
        · rw [f.len]; exact Nat.lt_of_le_of_lt (gv_len i c q) (Nat.lt_trans hi (hn n hφ))
        · rw [gv_succ, if_pos hc]
          exact (f.mono (t2.le.trans (a5.le.trans a6.le))).append ⟨py, trivial⟩
      | false =>
        rw [if_neg (by decide)]
        refine ⟨B5, acc, tt2.trans a5.t, l.trans (t2.le.trans a5.le), nD5, hacc5, ?_⟩
        rw [gv_succ, if_neg (by rw [hc]; decide), List.append_nil]
        exact f.mono (t2.le.trans a5.le)
  · intro H' ⟨B', acc, t, l, nD, hacc, f⟩
    have o := own_mk nD (s.st.bnone hDn) hacc f
    exact ⟨B', s.step t, ⟨o.nb, o.nh, o.th, n, hφ, o.at_⟩, one_fresh hDn⟩
theorem F2.repl {B : Bs} {ψ : Int → Prop} : ∀ {n : Nat} {vs : List V}, F2 B vs (List.replicate n (rIx ψ)) → ∃ ns : List Int, ns.length = n ∧ (∀ x ∈ ns, ψ x) ∧ F2 B vs (ns.map rI)
  | 0, [], _ => ⟨[], rfl, by simp, trivial⟩
  | n + 1, v :: vs, f => by
    obtain ⟨j, hj, e⟩ := f.1
    obtain ⟨ns, a, b, c⟩ := F2.repl (n := n) (vs := vs) f.2
    exact ⟨j :: ns, by simp [a], by simpa [hj] using b, e, c⟩
  | 0, _ :: _, f => f.elim
  | _ + 1, [], f => f.elim
theorem gv_const (n : Nat) (P : Pr) : gv n (fun _ => true) (fun _ => P) = List.replicate n P := by
  rw [gv_all, List.map_const', List.length_range]
/-- ints of which words only are known, as many as the words on the number allow -/
theorem ints_x {φ : Nat → Prop} {ψ : Int → Prop} (h : JO g e Γ (Oc.exs φ (fun n => oL (gv n (fun _ => true) fun _ => rIx ψ)) 0)) :
    JE g e Γ (Pr.exs (fun ns : List Int => φ ns.length ∧ ∀ x ∈ ns, ψ x) fun ns => rLs g.X.K (ns.map rI)) :=
  h.hand fun B H v nb nh ⟨n, hn, hr⟩ => by
    have z := fz_oL (K := g.X.K) B H v nb hr
    rw [gv_const] at z
    obtain ⟨p, vs, e, a, f⟩ := z
    obtain ⟨ns, l, q, k⟩ := F2.repl f
    exact ⟨ns, ⟨by rw [l]; exact hn, q⟩, p, vs, e, a, k⟩
end
end G
set_option Elab.async false
set_option linter.all false
set_option maxRecDepth 100000
set_option maxHeartbeats 2000000
namespace G
open PySem L2
theorem cut1 {α : Type} (xs : List α) : cutP xs (some 1) none = xs.drop 1 := by
  unfold cutP
  have e1 : HT.sIx xs.length 0 (some 1) = min 1 xs.length := HT.sIx_nat _ _ 1
  rw [e1, HT.sIx_none]
  by_cases h : xs.length = 0
  · have : xs = [] := List.length_eq_zero_iff.mp h
    subst this; rfl
  · have e2 : min 1 xs.length = 1 := by omega
    rw [e2, List.take_of_length_le (by rw [List.length_drop]; omega)]
theorem dep_ints : ∀ xs : List Int, PyData.depthAll (xs.map .int) = 0
  | [] => by simp [PyData.depthAll]
  | x :: xs => by
    show PyData.depthAll (.int x :: xs.map .int) = 0
    rw [PyData.depthAll, dep_ints xs]
    simp [PyData.depth]
theorem alk_ints : ∀ xs ys : List Int, PySem.W.alikeAll (xs.map .int) (ys.map .int) = true
  | [], _ => by simp [PySem.W.alikeAll]
  | _ :: _, [] => by simp [PySem.W.alikeAll]
  | x :: xs, y :: ys => by
    show PySem.W.alikeAll (.int x :: xs.map .int) (.int y :: ys.map .int) = true
    rw [PySem.W.alikeAll, alk_ints xs ys]
    simp [PySem.W.alike]
def dIs (ns : List Int) : PyData := .list (ns.map PyData.int)
theorem canI (ns : List Int) : (dIs ns).canLay0 = true := by
  have h := PySem.W.ke_shaped_ints ns
  exact SeqAt.canLay_of_shaped h
theorem depI (ns : List Int) : (dIs ns).depth ≤ 1 := by
  unfold dIs
  rw [PyData.depth, dep_ints]
  exact Nat.le_refl _
theorem shapedR (rs : List (List Int)) : SeqAt.shaped (.list (rs.map dIs)) = true := by
  have a : PyData.canLayAll0 (rs.map dIs) = true := by
    induction rs with
    | nil => rfl
    | cons r rs ih => rw [List.map_cons, PyData.canLayAll0, canI, ih]; rfl
  have b : PyData.depthAll (rs.map dIs) ≤ 1 := by
    induction rs with
    | nil => simp [PyData.depthAll]
    | cons r rs ih =>
      rw [List.map_cons, PyData.depthAll]
      have := depI r
      exact Nat.max_le.mpr ⟨this, ih (by rw [List.map_cons, PyData.canLayAll0] at a; exact (Bool.and_eq_true_iff.mp a).2)⟩
  show (PyData.canLay0 (.list _) && decide _) = true
  rw [PyData.canLay0, a, PyData.depth]
  simp
  omega
section
variable {g : Gx} {Γ : Gm} {P Q R : Pr} {e e1 e2 tg : Expr} {pos p2 : Pos} {D : En} {st : Stmt} {ss rest : List Stmt} {rs qs : List Pr} {U : Uv}
theorem hd_is {ns : List Int} : HasD g.X.K (rLs g.X.K (ns.map G.rI)) (dIs ns) := hd_L (hds_map (fun _ => hd_I) ns)
theorem hd_rs {K : PySem.W.Frag} {rs : List (List Int)} : HasD K (rLs K ((rs.map (·.map G.rI)).map (rLs K))) (.list (rs.map dIs)) := by
  rw [List.map_map]
  exact hd_L (hds_map (r := fun ns : List Int => rLs K (ns.map G.rI)) (fun _ => hd_L (hds_map (fun _ => hd_I) _)) rs)
theorem x_ltIs {ns ms : List Int} (h1 : JE g e1 Γ (rLs g.X.K (ns.map G.rI))) (h2 : JE g e2 Γ (rLs g.X.K (ms.map G.rI))) (hcm : g.X.calm = true := by rfl) : JE g (.Compare e1 [.Lt] [e2] pos) Γ (rB (HT.lexLt ns ms)) :=
  (x_ltD (hcm := hcm) h1 h2 hd_is hd_is (by unfold dIs; show PySem.W.alike _ _ = true; rw [PySem.W.alike]; exact alk_ints _ _) (by unfold dIs; simp) (Nat.le_trans (depI _) (by decide))).to (by
    rw [← lt_ints]
    exact congrArg rB (PySem.W.dataLt_list _ _))
/-- an item whose place is known by words only -/
theorem x_ixLx {φ : Int → Prop} (hj : ∀ j, φ j → ∃ S, atI rs j = some S ∧ ∀ B v, S.r B v → R.r B v) (h1 : JE g e1 Γ (rLs g.X.K rs)) (h2 : JE g e2 Γ (rIx φ)) (hs : PlainIx e2 := by exact fun _ _ => rfl) : JE g (.Subscript e1 e2 pos) Γ R :=
  x_ix (P := rLs g.X.K rs) (Q := rIx φ) ix_list (fun B H v u K k ⟨p, vs, e, a, f⟩ ⟨j, pj, q⟩ c => by
    obtain ⟨S, hj, sr⟩ := hj j pj
    subst e; cases q
    have hl := f.len
    unfold atI at hj
    rw [← hl] at hj
    cases hn : ixN vs.length j with
    | none => rw [hn] at hj; cases hj
    | some m =>
      rw [hn] at hj
      obtain ⟨v, e, z⟩ := f.get (i := m) (r := S) hj
      exact ⟨p, vs, j, v, rfl, rfl, a.sq k, by unfold atI; rw [hn]; exact e, c v B H (Stp.refl k) (sr _ _ z)⟩) h1 h2 hs
/-- a call whose ghost is found with the arguments -/
theorem y_callx {x : Str} {k : Nat} {ps : List Str} {ι : Type} {φ : ι → Cs} {es : List Expr} {p : Pos} {c : Oc} {Ps : List Pr} (F : Fd U x k ps φ) (h : JA g (e :: es) Γ Ps) (hi : ∀ B vs, F2 B vs Ps → ∃ i, F2 B vs (φ i).as ∧ (φ i).pre ∧ ∀ b1, (φ i).rs b1 = .ow c) (hx : ∀ i, Lets g Γ (φ i).exc := by exact fun _ => Lets.none) (hk : k ≤ g.k := by exact Nat.le_of_ble_eq_true rfl)
    (hU : UvOf U g.X := by exact ⟨rfl, rfl, rfl, rfl, rfl⟩) (hg : Gl g.X x := by rfl) (hdb : (x == ("__debug__" : Str)) = false := by decide) (he : starEach (e :: es) g.X.env = (false, eval e g.X.env) :: starEach es g.X.env := by rfl) (hpl : (backTo pos (starEach es g.X.env)).any (·.1) = false := by rfl) (hcm : g.X.calm = true := by rfl) :
    JO g (.Call (.Name x p) (e :: es) [] pos) Γ c := by
  obtain ⟨f, fd, a, kp, cc, d⟩ := F.ok
  obtain ⟨u1, u2, u3, u4, u5⟩ := hU
  refine ⟨fun w σ B H s => ?_⟩
  refine (ofE (pe_callS (E := L2.WE g.W) (by rw [u1, u2, u3, u4, u5]; exact d) ((w.hr hcm).mono hk) hg (by rw [u4]; exact a) (by rw [u3]; exact kp) (by rw [u3]; exact cc) (by rw [← u1, ← u2]; exact fun σ => L2N.passAt w.tk σ) pA hdb he hpl) ?_)
  refine (h.run w σ B H s).mono fun vs H1 ⟨B1, a1, q⟩ => ?_
  obtain ⟨i, q', hp, hs⟩ := hi _ _ q
  have z := call_run (φ := φ) (i := i) s a1 hp q' (hx i) (K := fun v H' => ∃ B', Aft g.b Γ σ B H B' H' ∧ Own g.b c v B' H' ∧ ∀ a ∈ c.ad v H', H a = none) fun v B' H' a r => by
    rw [hs] at r
    have r : Own ⟨B1, H1⟩ c v B' H' := r
    exact ⟨B', a, ⟨r.nb, fun x hx => a1.sta.st.bnone (r.nh x hx), r.th, r.at_⟩, fun x hx => a1.th (r.nh x hx)⟩
  rw [List.append_nil] at z
  exact z
end
end G
set_option Elab.async false
set_option linter.all false
set_option maxRecDepth 100000
set_option maxHeartbeats 2000000
namespace G
open PySem L2
section
variable {g : Gx} {Γ : Gm} {P Q R : Pr} {e e1 e2 tg : Expr} {pos p2 : Pos} {D : En} {st : Stmt} {ss rest : List Stmt} {rs qs : List Pr}
structure JLc (g : Gx) (elt tg iter : Expr) (ifs : List Expr) (scope : Scope) (own : List (Str × Nat)) (Γ : Gm) (c : Oc) : Prop where
  ok : BlkOk g.X.N g.X.env.scope scope own
  run : g.Wf → ∀ σ B H, Sta g.b Γ σ B H → ∃ tt : L2.TT, (∀ (s : Shared) (H : Hp) (C : Addr) (cl : List (Str × Addr)) (fp : List Addr), PTs (g.blk s H scope C cl fp).X ifs tt) ∧ tLc (tI g.X tg iter) (bG g scope tg) tt (bE g scope elt) (own.map (·.2)) σ H fun v H' => ∃ B', Aft g.b Γ σ B H B' H' ∧ Own g.b c v B' H' ∧ ∀ a ∈ c.ad v H', H a = none
theorem tLc_mono {X : Cx} {iter : Expr} {gg : TG} {tt : L2.TT} {te : L2.TE} {vs : List Nat} {σ : L2.St} {H : Hp} {Q Q' : VK} (h : tLc (tI X tg iter) gg tt te vs σ H Q) (k : ∀ v H', Q v H' → Q' v H') : tLc (tI X tg iter) gg tt te vs σ H Q' := fun pins s I =>
  thn (h pins s I) fun v s2 h2 => thn h2 fun itv s3 ⟨itA, fp, tn, J, H3, e1, e2, e3, e4, e5, r⟩ => ⟨itA, fp, tn, J, H3, e1, e2, e3, e4, e5, fun D hD => let ⟨W, w0, w⟩ := r D hD; ⟨W, w0, fun i m H hw => (w i m H hw).imp (fun ⟨a, b⟩ => ⟨a, k _ _ b⟩) id⟩⟩
theorem JLc.y {elt iter : Expr} {ifs : List Expr} {scope : Scope} {own : List (Str × Nat)} {c : Oc} (h : JLc g elt tg iter ifs scope own Γ c) (hs : ∀ x, foldedSetIterable iter g.X.env x = pure x := by intro _; rfl) (hcm : g.X.calm = true := by rfl) : JO g (.ListComp elt [⟨tg, iter, ifs, 0⟩] scope pos) Γ c := by
  refine ⟨fun w σ B H s => ?_⟩
  obtain ⟨tt, ht, r⟩ := h.run w σ B H s
  exact ofE (pe_lc (own := own) (wi := tI g.X tg iter) (g := bG g scope tg) (tt := tt) (te := bE g scope elt)
    hcm w.nd pI h.ok (fun s0 H0 C cl fp => ⟨fun pins s σ H v u Q I r h => h s0 H0 C cl fp pins s u I r⟩) ht (fun s0 H0 C cl fp => ⟨fun pins s σ H Q I h => h s0 H0 C cl fp pins s I⟩) hs) r
/-- name = [..] on one line, the name a local -/
theorem s_lc (i : Nat) {x : Str} {py : Pos} {elt iter : Expr} {ifs : List Expr} {scope : Scope} {own : List (Str × Nat)} {spos : Pos} {c : Oc} (h : JLc g elt tg iter ifs scope own Γ c) (k : JS g rest (Γ.set i (some (.ow c))) D) (hN : g.X.N[i]? = some x := by rfl) (hl : g.X.env.scope.names.lookup x = some .local := by rfl)
    (hk : g.X.env.scope.kind = .function := by rfl) (hp : (py.line == pos.line) = true := by rfl) (ha : (scope.names.any fun (n, k) => n == x && (k == .local || k == .cell)) = false := by rfl)
    (hs : ∀ x, foldedSetIterable iter g.X.env x = pure x := by intro _; rfl) (hcm : g.X.calm = true := by rfl) : JS g (.Assign [.Name x py] (.ListComp elt [⟨tg, iter, ifs, 0⟩] scope pos) spos :: rest) Γ D :=
  js_cons fun w σ B H s => by
    obtain ⟨tt, ht, r⟩ := h.run w σ B H s
    exact of1 (ps_setLc (own := own) (wi := tI g.X tg iter) (g := bG g scope tg) (tt := tt) (te := bE g scope elt) hcm w.nd hN hl (sw_true hk hl hp ha) pI h.ok (fun s0 H0 C cl fp => ⟨fun pins s σ H v u Q I r h => h s0 H0 C cl fp pins s u I r⟩) ht (fun s0 H0 C cl fp => ⟨fun pins s σ H Q I h => h s0 H0 C cl fp pins s I⟩) hs)
      (tLc_mono r fun v H' ⟨B', a, o, n⟩ => k.go w a.le (a.sta.setO o (s.notOwn a.t n)))

theorem l_borG (i : Nat) {elt iter : Expr} {ifs : List Expr} {scope : Scope} {own : List (Str × Nat)} {c d : Oc} (R : Pr) (h : JLc g elt tg iter ifs scope own (Γ.set i (some (.sh R))) d) (hf : FreeO d) (hk : ∀ B H v, (∀ a ∈ c.ad v H, B a = none) → c.r B H v → R.r (putH B H (c.ad v H)) v) (hi : Γ[i]? = some (some (.ow c)) := by rfl) : JLc g elt tg iter ifs scope own Γ d :=
  ⟨h.ok, fun w σ B H s => by
    obtain ⟨v, e, o, l, s2⟩ := s.hand hi hk
    obtain ⟨tt, ht, r⟩ := h.run w σ _ H s2
    refine ⟨tt, ht, tLc_mono r fun u H' ⟨B', a, q, n⟩ => ⟨_, borrow_back s hi e o a, ⟨fun x hx => ?_, q.nh, q.th, hf _ _ _ _ q.at_⟩, n⟩⟩
    unfold delL
    split
    · rfl
    · exact q.nb x hx⟩

theorem l_lc {elt iter : Expr} {ifs : List Expr} {scope : Scope} (own : List (Str × Nat)) {n : Nat} {it : Nat → Pr} {Γ2 : Nat → Gm} (c : Nat → Bool) (q : Nat → Pr) {sl : List Nat} (hI : JI g tg iter Γ n it) (hn : n < sizeLine)
    (hg : AnyB scope g fun g' => ∀ i, i < n → JG g' tg (it i) (wipeG Γ (own.map (·.2))) (Γ2 i) sl) (hsl : ∀ i ∈ sl, i ∈ own.map (·.2) := by decide)
    (ht : AnyB scope g fun g' => ∀ i, i < n → JTs g' ifs (Γ2 i) (c i)) (he : AnyB scope g fun g' => ∀ i, i < n → c i = true → JE g' elt (Γ2 i) (q i))
    (ok : BlkOk g.X.N g.X.env.scope scope own) : JLc g elt tg iter ifs scope own Γ (oL (gv n c q)) := by
  refine ⟨ok, fun w σ B H s => ⟨bT g scope ifs, fun s0 H0 C cl fp => ⟨fun pins s σ H Q I h => h s0 H0 C cl fp pins s I⟩, ?_⟩⟩
  intro pins s1 I1
  refine thn (hI.run w σ B H s pins s1 I1) fun v s2 h2 => thn h2 fun itv s3 h3 => ?_
  obtain ⟨itA, fp, tn, J, H3, e1, e2, e3, e4, e5, B1, a1, Gw, Y, wk, kg, ky⟩ := h3
  refine ⟨itA, fp, tn, J, H3, e1, e2, e3, e4, e5, fun Dl hD => ?_⟩
  have hDn : H Dl = none := a1.th hD
  refine lc_it (g := bG g scope tg) (tt := bT g scope ifs) (te := bE g scope elt) (vs := own.map (·.2)) (σ := σ) (H1 := H3) (D := Dl) (Qd := fun H' => ∃ B', Aft g.b Γ σ B H B' H' ∧ Own g.b (oL (gv n c q)) (.ref Dl) B' H' ∧ ∀ a ∈ (oL (gv n c q)).ad (.ref Dl) H', H a = none) wk (fun i H' => ∃ B' acc, Stp B H B' H' ∧ Le B1 B' ∧ B' Dl = none ∧ H' Dl = some (.lst acc) ∧ F2 B' acc (gv i c q)) ?_ (fun i H' hi ⟨B', acc, t, l, _⟩ => kg B' H' l t.ok) ?_ ?_
  · exact ⟨B1, [], (a1.trans (a1.sta.beside hD)).t, Le.refl _, a1.sta.st.ok.none hD, upd_same, trivial⟩
  · intro i x H' H'' hi ⟨B', acc, t, l, nD, hacc, f⟩ y
    obtain ⟨B2, t2, p⟩ := ky i H' x H'' B' hi l t.ok y
    have tt2 : Stp B H B2 H'' := t.trans t2
    have nD2 : B2 Dl = none := by
      cases z : B2 Dl with
      | none => rfl
      | some k => exact (Hard.no (by rw [hacc]; exact hard_lst) (t2.new Dl nD k z)).elim
    have hacc2 : H'' Dl = some (.lst acc) := t2.keep Dl _ hacc fun φ z => by rw [nD] at z; cases z
    have sw := ((s.step tt2).sta).wipe (own.map (·.2))
    intro s0 H0 C cl fp'
    refine (hg s0 H0 C cl fp' i hi).run w.blk _ B2 H'' x sw p _ fun σ2 s4 hw => ?_
    refine ⟨?_, fun s0 H0 C cl fp' => ?_⟩
    · have z := hw (own.map (·.2)) hsl
      rw [z]
      exact wipe_wipe σ _
    · refine (ht s0 H0 C cl fp' i hi).run w.blk σ2 B2 H'' s4 _ fun B5 H5 a5 => ?_
      have nD5 : B5 Dl = none := by
        cases z : B5 Dl with
        | none => rfl
        | some k => exact (Hard.no (by rw [hacc2]; exact hard_lst) (a5.t.new Dl nD2 k z)).elim
      have hacc5 : H5 Dl = some (.lst acc) := a5.t.keep Dl _ hacc2 fun φ z => by rw [nD2] at z; cases z
      cases hc : c i with
      | true =>
        rw [if_pos rfl]
        intro s0 H0 C cl fp'
        refine ((he s0 H0 C cl fp' i hi hc).run w.blk σ2 B5 H5 a5.sta).mono fun y H6 ⟨B6, a6, py⟩ => ?_
        have nD6 : B6 Dl = none := by
          cases z : B6 Dl with
          | none => rfl
          | some k => exact (Hard.no (by rw [hacc5]; exact hard_lst) (a6.t.new Dl nD5 k z)).elim
        have hacc6 : H6 Dl = some (.lst acc) := a6.t.keep Dl _ hacc5 fun φ z => by rw [nD5] at z; cases z
        refine ⟨acc, hacc6, ?_, B6, acc ++ [y], (tt2.trans (a5.t.trans a6.t)).chg' nD6 hDn, l.trans (t2.le.trans (a5.le.trans a6.le)), nD6, upd_same, ?_⟩
        · rw [f.len]; exact Nat.lt_of_le_of_lt (gv_len i c q) (Nat.lt_trans hi hn)
        · rw [gv_succ, if_pos hc]
          exact (f.mono (t2.le.trans (a5.le.trans a6.le))).append ⟨py, trivial⟩
      | false =>
        rw [if_neg (by decide)]
        refine ⟨B5, acc, tt2.trans a5.t, l.trans (t2.le.trans a5.le), nD5, hacc5, ?_⟩
        rw [gv_succ, if_neg (by rw [hc]; decide), List.append_nil]
        exact f.mono (t2.le.trans a5.le)
  · intro H' ⟨B', acc, t, l, nD, hacc, f⟩
    exact ⟨B', s.step t, own_mk nD (s.st.bnone hDn) hacc f, one_fresh hDn⟩

theorem l_lcO {elt iter : Expr} {scope : Scope} (own : List (Str × Nat)) {n : Nat} {it : Nat → Pr} {Γ2 : Nat → Gm} (q : Nat → List Pr) {sl : List Nat} (hI : JI g tg iter Γ n it) (hn : n < sizeLine)
    (hg : AnyB scope g fun g' => ∀ i, i < n → JG g' tg (it i) (wipeG Γ (own.map (·.2))) (Γ2 i) sl) (he : AnyB scope g fun g' => ∀ i, i < n → JO g' elt (Γ2 i) (oL (q i)))
    (hsl : ∀ i ∈ sl, i ∈ own.map (·.2) := by decide) (ok : BlkOk g.X.N g.X.env.scope scope own := by exact blkOk_by (by rfl)) : JLc g elt tg iter [] scope own Γ (oLL ((List.range n).map q)) := by
  refine ⟨ok, fun w σ B H s => ⟨tYes, fun s0 H0 C cl fp => pts_nil, ?_⟩⟩
  intro pins s1 I1
  refine thn (hI.run w σ B H s pins s1 I1) fun v s2 h2 => thn h2 fun itv s3 h3 => ?_
  obtain ⟨itA, fp, tn, J, H3, e1, e2, e3, e4, e5, B1, a1, Gw, Y, wk, kg, ky⟩ := h3
  refine ⟨itA, fp, tn, J, H3, e1, e2, e3, e4, e5, fun Dl hD => ?_⟩
  have hDn : H Dl = none := a1.th hD
  have agr : ∀ {B' B2 : Bs} {H' H2 : Hp} {as : List Addr}, Stp B' H' B2 H2 → (∀ a ∈ as, B' a = none) → (∀ a ∈ as, Hard (H' a)) → (∀ a ∈ as, H2 a = H' a) ∧ ∀ a ∈ as, B2 a = none := fun {B' B2 H' H2 as} t nB nH => by
    refine ⟨fun a m => ?_, fun a m => ?_⟩
    · cases e : H' a with
      | none => exact absurd e (nH a m).ne
      | some o => exact t.keep a o e fun φ z => by rw [nB a m] at z; cases z
    · cases z : B2 a with
      | none => rfl
      | some k => exact ((nH a m).no (t.new a (nB a m) k z)).elim
  refine lc_it (g := bG g scope tg) (tt := tYes) (te := bE g scope elt) (vs := own.map (·.2)) (σ := σ) (H1 := H3) (D := Dl) (Qd := fun H' => ∃ B', Aft g.b Γ σ B H B' H' ∧ Own g.b (oLL ((List.range n).map q)) (.ref Dl) B' H' ∧ ∀ a ∈ (oLL ((List.range n).map q)).ad (.ref Dl) H', H a = none)
    wk (fun i H' => ∃ B' acc, Stp B H B' H' ∧ Le B1 B' ∧ (∀ a ∈ Dl :: acc.flatMap one, B' a = none) ∧ (∀ a ∈ Dl :: acc.flatMap one, Hard (H' a)) ∧ (∀ a ∈ Dl :: acc.flatMap one, H a = none) ∧ H' Dl = some (.lst acc) ∧ Dl ∉ acc.flatMap one ∧ RowsOk B' H' acc ((List.range i).map q)) ?_ (fun i H' hi ⟨B', acc, t, l, _⟩ => kg B' H' l t.ok) ?_ ?_
  · refine ⟨B1, [], (a1.trans (a1.sta.beside hD)).t, Le.refl _, fun a m => ?_, fun a m => ?_, fun a m => ?_, upd_same, by simp, trivial⟩
    · have e : a = Dl := by simpa using m
      rw [e]; exact a1.sta.st.ok.none hD
    · have e : a = Dl := by simpa using m
      rw [e, upd_same]; exact hard_lst
    · have e : a = Dl := by simpa using m
      rw [e]; exact hDn
  · intro i x H' H'' hi ⟨B', acc, t, l, nB, nH, nH0, hacc, nD, f⟩ y
    obtain ⟨B2, t2, p⟩ := ky i H' x H'' B' hi l t.ok y
    obtain ⟨ag2, nB2⟩ := agr t2 nB nH
    have sw := ((s.step (t.trans t2)).sta).wipe (own.map (·.2))
    intro s0 H0 C cl fp'
    refine (hg s0 H0 C cl fp' i hi).run w.blk _ B2 H'' x sw p _ fun σ2 s4 hw => ?_
    refine ⟨by rw [hw (own.map (·.2)) hsl]; exact wipe_wipe σ _, ?_⟩
    simp only [tYes, if_true]
    intro s0 H0 C cl fp'
    refine ((he s0 H0 C cl fp' i hi).run w.blk σ2 B2 H'' s4).mono fun y H6 ⟨B6, a6, oy, ny⟩ => ?_
    obtain ⟨py, ws, ey, nby, nhy, hpy, fy⟩ := own_one oy
    subst ey
    have nH2 : ∀ a ∈ Dl :: acc.flatMap one, Hard (H'' a) := fun a m => by rw [ag2 a m]; exact nH a m
    obtain ⟨ag6, nB6⟩ := agr a6.t nB2 nH2
    have nH6 : ∀ a ∈ Dl :: acc.flatMap one, Hard (H6 a) := fun a m => by rw [ag6 a m]; exact nH2 a m
    have hacc6 : H6 Dl = some (.lst acc) := by rw [ag6 Dl (List.mem_cons_self ..), ag2 Dl (List.mem_cons_self ..)]; exact hacc
    have fy0 : H'' py = none := ny py (mem_one.mpr rfl)
    have pD : py ≠ Dl := by
      rintro rfl
      exact (nH2 _ (List.mem_cons_self ..)).ne fy0
    have py0 : H py = none := by
      have tt := t.trans t2
      exact tt.bnone fy0
    refine ⟨acc, hacc6, ?_, B6, acc ++ [.ref py], ((t.trans t2).trans a6.t).chg' (nB6 Dl (List.mem_cons_self ..)) hDn, l.trans (t2.le.trans a6.le), fun a m => ?_, fun a m => ?_, fun a m => ?_, upd_same, ?_, ?_⟩
    · rw [f.len, List.length_map, List.length_range]; exact Nat.lt_trans hi hn
    · rcases List.mem_cons.mp m with e | m
      · rw [e]; exact nB6 Dl (List.mem_cons_self ..)
      · rw [List.flatMap_append] at m
        rcases List.mem_append.mp m with m | m
        · exact nB6 a (List.mem_cons_of_mem _ m)
        · have e : a = py := by simpa [one] using m
          rw [e]; exact nby
    · by_cases q : a = Dl
      · subst q; rw [upd_same]; exact hard_lst
      · rw [upd_ne q]
        rcases List.mem_cons.mp m with e | m
        · exact absurd e q
        · rw [List.flatMap_append] at m
          rcases List.mem_append.mp m with m | m
          · exact nH6 a (List.mem_cons_of_mem _ m)
          · have e : a = py := by simpa [one] using m
            rw [e, hpy]; exact hard_lst
    · rcases List.mem_cons.mp m with e | m
      · rw [e]; exact hDn
      · rw [List.flatMap_append] at m
        rcases List.mem_append.mp m with m | m
        · exact nH0 a (List.mem_cons_of_mem _ m)
        · have e : a = py := by simpa [one] using m
          rw [e]; exact py0
    · rw [List.flatMap_append]
      intro m
      rcases List.mem_append.mp m with m | m
      · exact nD m
      · have e : Dl = py := by simpa [one] using m
        exact pD e.symm
    · rw [List.range_succ, List.map_append]
      refine RowsOk.append ?_ ⟨⟨py, ws, rfl, by rw [upd_ne pD]; exact hpy, fy⟩, trivial⟩
      refine RowsOk.agree (H := H') (fun a m => ?_) (f.mono (t2.le.trans a6.le))
      have ne : a ≠ Dl := fun e => nD (e ▸ m)
      rw [upd_ne ne, ag6 a (List.mem_cons_of_mem _ m), ag2 a (List.mem_cons_of_mem _ m)]
  · intro H' ⟨B', acc, t, l, nB, nH, nH0, hacc, nD, f⟩
    have ea : (oLL ((List.range n).map q)).ad (.ref Dl) H' = Dl :: acc.flatMap one := adLL_at hacc
    exact ⟨B', s.step t, ⟨fun a m => nB a (ea ▸ m), fun a m => s.st.bnone (nH0 a (ea ▸ m)), fun a m => nH a (ea ▸ m), Dl, acc, rfl, hacc, nD, f⟩, fun a m => nH0 a (ea ▸ m)⟩


theorem l_lcx {elt iter : Expr} {ifs : List Expr} {scope : Scope} (own : List (Str × Nat)) {φ : Nat → Prop} {it : Nat → Pr} {Γ2 : Nat → Gm} (c : Nat → Bool) (q : Nat → Pr) {sl : List Nat} (hI : JIx g tg iter Γ φ it) (hn : ∀ n, φ n → n < sizeLine)
    (hg : AnyB scope g fun g' => ∀ i, JG g' tg (it i) (wipeG Γ (own.map (·.2))) (Γ2 i) sl) (hsl : ∀ i ∈ sl, i ∈ own.map (·.2) := by decide)
    (ht : AnyB scope g fun g' => ∀ i, JTs g' ifs (Γ2 i) (c i)) (he : AnyB scope g fun g' => ∀ i, c i = true → JE g' elt (Γ2 i) (q i))
    (ok : BlkOk g.X.N g.X.env.scope scope own) : JLc g elt tg iter ifs scope own Γ (Oc.exs φ (fun n => oL (gv n c q)) 0) := by
  refine ⟨ok, fun w σ B H s => ⟨bT g scope ifs, fun s0 H0 C cl fp => ⟨fun pins s σ H Q I h => h s0 H0 C cl fp pins s I⟩, ?_⟩⟩
  intro pins s1 I1
  refine thn (hI.run w σ B H s pins s1 I1) fun v s2 h2 => thn h2 fun itv s3 h3 => ?_
  obtain ⟨itA, fp, tn, J, H3, e1, e2, e3, e4, e5, n, hφ, B1, a1, Gw, Y, wk, kg, ky⟩ := h3
  refine ⟨itA, fp, tn, J, H3, e1, e2, e3, e4, e5, fun Dl hD => ?_⟩
  have hDn : H Dl = none := a1.th hD
  refine lc_it (g := bG g scope tg) (tt := bT g scope ifs) (te := bE g scope elt) (vs := own.map (·.2)) (σ := σ) (H1 := H3) (D := Dl) (Qd := fun H' => ∃ B', Aft g.b Γ σ B H B' H' ∧ Own g.b (Oc.exs φ (fun n => oL (gv n c q)) 0) (.ref Dl) B' H' ∧ ∀ a ∈ (Oc.exs φ (fun n => oL (gv n c q)) 0).ad (.ref Dl) H', H a = none) wk (fun i H' => ∃ B' acc, Stp B H B' H' ∧ Le B1 B' ∧ B' Dl = none ∧ H' Dl = some (.lst acc) ∧ F2 B' acc (gv i c q)) ?_ (fun i H' hi ⟨B', acc, t, l, _⟩ => kg B' H' l t.ok) ?_ ?_
  · exact ⟨B1, [], (a1.trans (a1.sta.beside hD)).t, Le.refl _, a1.sta.st.ok.none hD, upd_same, trivial⟩
  · intro i x H' H'' hi ⟨B', acc, t, l, nD, hacc, f⟩ y
    obtain ⟨B2, t2, p⟩ := ky i H' x H'' B' hi l t.ok y
    have tt2 : Stp B H B2 H'' := t.trans t2
    have nD2 : B2 Dl = none := by
      cases z : B2 Dl with
      | none => rfl
      | some k => exact (Hard.no (by rw [hacc]; exact hard_lst) (t2.new Dl nD k z)).elim
    have hacc2 : H'' Dl = some (.lst acc) := t2.keep Dl _ hacc fun φ z => by rw [nD] at z; cases z
    have sw := ((s.step tt2).sta).wipe (own.map (·.2))
    intro s0 H0 C cl fp'
    refine (hg s0 H0 C cl fp' i).run w.blk _ B2 H'' x sw p _ fun σ2 s4 hw => ?_
    refine ⟨?_, fun s0 H0 C cl fp' => ?_⟩
    · have z := hw (own.map (·.2)) hsl
      rw [z]
      exact wipe_wipe σ _
    · refine (ht s0 H0 C cl fp' i).run w.blk σ2 B2 H'' s4 _ fun B5 H5 a5 => ?_
      have nD5 : B5 Dl = none := by
        cases z : B5 Dl with
        | none => rfl
        | some k => exact (Hard.no (by rw [hacc2]; exact hard_lst) (a5.t.new Dl nD2 k z)).elim
      have hacc5 : H5 Dl = some (.lst acc) := a5.t.keep Dl _ hacc2 fun φ z => by rw [nD2] at z; cases z
      cases hc : c i with
      | true =>
        rw [if_pos rfl]
        intro s0 H0 C cl fp'
        refine ((he s0 H0 C cl fp' i hc).run w.blk σ2 B5 H5 a5.sta).mono fun y H6 ⟨B6, a6, py⟩ => ?_
        have nD6 : B6 Dl = none := by
          cases z : B6 Dl with
          | none => rfl
          | some k => exact (Hard.no (by rw [hacc5]; exact hard_lst) (a6.t.new Dl nD5 k z)).elim
        have hacc6 : H6 Dl = some (.lst acc) := a6.t.keep Dl _ hacc5 fun φ z => by rw [nD5] at z; cases z
        refine ⟨acc, hacc6, ?_, B6, acc ++ [y], (tt2.trans (a5.t.trans a6.t)).chg' nD6 hDn, l.trans (t2.le.trans (a5.le.trans a6.le)), nD6, upd_same, ?_⟩
        · rw [f.len]; exact Nat.lt_of_le_of_lt (gv_len i c q) (Nat.lt_trans hi (hn n hφ))
        · rw [gv_succ, if_pos hc]
          exact (f.mono (t2.le.trans (a5.le.trans a6.le))).append ⟨py, trivial⟩
      | false =>
        rw [if_neg (by decide)]
        refine ⟨B5, acc, tt2.trans a5.t, l.trans (t2.le.trans a5.le), nD5, hacc5, ?_⟩
        rw [gv_succ, if_neg (by rw [hc]; decide), List.append_nil]
        exact f.mono (t2.le.trans a5.le)
  · intro H' ⟨B', acc, t, l, nD, hacc, f⟩
    have o := own_mk nD (s.st.bnone hDn) hacc f
    exact ⟨B', s.step t, ⟨o.nb, o.nh, o.th, n, hφ, o.at_⟩, one_fresh hDn⟩

section
variable {α β : Type} {xs : List α} {ys : List β} {r : α → Pr} {r' : β → Pr}
theorem l_lcM {elt iter : Expr} {ifs : List Expr} {scope : Scope} (own : List (Str × Nat)) {Γ2 : α → Gm} (c : α → Bool) (q : α → Pr) {sl : List Nat} (hI : JM g tg iter Γ xs r) (hn : xs.length < sizeLine)
    (hg : AnyB scope g fun g' => ∀ x, x ∈ xs → JG g' tg (r x) (wipeG Γ (own.map (·.2))) (Γ2 x) sl)
    (ht : AnyB scope g fun g' => ∀ x, x ∈ xs → JTs g' ifs (Γ2 x) (c x)) (he : AnyB scope g fun g' => ∀ x, x ∈ xs → c x = true → JE g' elt (Γ2 x) (q x))
    (hsl : ∀ i ∈ sl, i ∈ own.map (·.2) := by decide) (ok : BlkOk g.X.N g.X.env.scope scope own := by exact blkOk_by (by rfl)) : JLc g elt tg iter ifs scope own Γ (oL ((xs.filter c).map q)) := by
  by_cases hne : xs = []
  · subst hne
    exact l_lc (Γ2 := fun _ => Γ) (sl := sl) own (fun _ => true) (fun _ => rN) hI hn (fun _ _ _ _ _ i hi => absurd hi (Nat.not_lt_zero i)) hsl (fun _ _ _ _ _ i hi => absurd hi (Nat.not_lt_zero i)) (fun _ _ _ _ _ i hi => absurd hi (Nat.not_lt_zero i)) ok
  · obtain ⟨d, hd⟩ : ∃ d, d ∈ xs := List.exists_mem_of_ne_nil xs hne
    have mem : ∀ i, i < xs.length → xs.getD i d ∈ xs := fun i hi => by
      rw [List.getD_eq_getElem?_getD, List.getElem?_eq_getElem hi]
      exact List.getElem_mem hi
    have at_ : ∀ i, i < xs.length → xs[i]? = some (xs.getD i d) := fun i hi => by
      rw [List.getD_eq_getElem?_getD, List.getElem?_eq_getElem hi]; rfl
    have z := l_lc (Γ2 := fun i => Γ2 (xs.getD i d)) (sl := sl) own (fun i => c (xs.getD i d)) (fun i => q (xs.getD i d)) hI hn (fun s H C cl fp i hi => by rw [nth_map (at_ i hi)]; exact hg s H C cl fp _ (mem i hi)) hsl (fun s H C cl fp i hi => ht s H C cl fp _ (mem i hi)) (fun s H C cl fp i hi hc => he s H C cl fp _ (mem i hi) hc) ok
    have e : gv xs.length (fun i => c (xs.getD i d)) (fun i => q (xs.getD i d)) = (xs.filter c).map q := by
      have f1 : (List.range xs.length).map (fun i => xs.getD i d) = xs := by
        have := range_map xs d id (fun i => xs.getD i d) (fun i x h => by rw [List.getD_eq_getElem?_getD, h]; rfl)
        rw [this, List.map_id]
      unfold gv
      have f2 : (xs.filter c).map q = (((List.range xs.length).map (fun i => xs.getD i d)).filter c).map q := by rw [f1]
      rw [f2, List.filter_map, List.map_map]
      rfl
    rw [e] at z
    exact z
end

end
end G
set_option Elab.async false
set_option linter.all false
set_option maxRecDepth 100000
set_option maxHeartbeats 2000000
namespace G
open PySem L2
theorem fn_ok {U : Uv} {name qual : Str} {params : Arguments} {body : List Stmt} {scope : Scope} {f : Addr} {fd : FuncData} {N ps : List Str} {k : Nat} {ι : Type} {φ : ι → Cs} (F : FunD U.K name qual params body scope [] [] f fd) (S : FnScope N ps scope)
    (hl : ∀ i, (φ i).as.length = ps.length)
    (hbody : ∀ (i : ι) (cd : Value) (A : Around) (outer : List Env) (s : Shared) (b : Base) (E : XK), (φ i).pre → JS (gxOf U N qual scope f cd A outer s b E (φ i).exc k) body (entry (φ i).as N.length) (ret b ((φ i).rs b))) : FnOk U.P U.w U.K U.mg U.base (L2N.CX U.P U.w) (k + 1) f fd ps (spT φ) := by
  refine F.ok S (fun vs H Q E h => ?_) fun cdv A outer s H vs Q E hr h => ?_
  · obtain ⟨i, B, _, _, f2, _⟩ := h
    rw [f2.len, hl]
  · obtain ⟨i, B, pre, ok, f2, kr, kx⟩ := h
    have j := hbody i cdv A outer s ⟨B, H⟩ E pre
    refine ⟨_, pS, ?_⟩
    have w : (gxOf U N qual scope f cdv A outer s ⟨B, H⟩ E (φ i).exc k).Wf := {
      tk := L2N.Takes.imp (L2N.takes_of (X := cxOf (L2N.CX U.P U.w) U.P U.w U.K U.mg U.base N qual scope f cdv A outer s H E) rfl rfl rfl rfl) fun C d σ H' ⟨dn, c, e, z, B', t⟩ => by
        subst e
        exact kx c d B' H' t z dn
      hr := fun _ => hr
      po := passes_of (X := cxOf (L2N.CX U.P U.w) U.P U.w U.K U.mg U.base N qual scope f cdv A outer s H E) rfl
      nd := S.nd
      bok := ok }
    refine (j.run w (L2.start N vs) B H (entry_sta ok f2)).mono ⟨fun σ' H' ⟨B', t, r⟩ => kr _ B' H' t r, fun v H' ⟨B', t, r⟩ => kr v B' H' t r, fun _ _ z => z.elim, fun _ _ z => z.elim⟩
/-- a def whose wish is that nothing is raised -/
theorem fn_calm {P : Program} {w : World} {K : PySem.W.Frag} {mg : Str → Option Value} {base : Heap} {k : Nat} {f : Addr} {fd : FuncData} {ps : List Str} {sp : Sp} (F : FnOk P w K mg base (L2N.CX P w) k f fd ps sp) : FnOk P w K mg base L2.CX0 k f fd ps (fun vs H Q _ => sp vs H Q fun _ _ _ => False) :=
  ⟨fun vs H Q E h => F.len vs H Q _ h, fun A outer s H args us vs Q E hr he hb hv h => codeAny_mono (F.run A outer s H args us vs Q _ hr he hb hv h) fun r s' z => by
    cases r with
    | ok o => cases o <;> exact z
    | error e => obtain ⟨_, _, _, _, _, _, _, _, _, _, _, _, z⟩ := z; exact z⟩
/-- a contract on the script, read by the law's caller -/
theorem script_call {K : PySem.W.Frag} {φ : List Int → Cs} {ns : List Int} {H : Hp} {a : Addr} (has : (φ ns).as = [rScr K ns]) (hrs : ∀ b, (φ ns).rs b = .sh (rB true)) (hp : (φ ns).pre) (hx : (φ ns).exc = fun _ => False) (h : SqL K H a (ns.map V.int)) : spT φ [.ref a] H (fun v _ => v = .bl true) fun _ _ _ => False := by
  have key : ∀ B, Ok B H → (rScr K ns).r B (.ref a) → spT φ [.ref a] H (fun v _ => v = .bl true) fun _ _ _ => False := fun B ok r =>
    ⟨ns, B, hp, ok, by rw [has]; exact ⟨r, trivial⟩, fun v B' H' t z => by rw [hrs] at z; exact z, fun C d B' H' t z => by rw [hx] at z; exact False.elim z⟩
  have one : ∀ u, H a = some u → (u = .lst (ns.map V.int) ∨ ∃ o, u = .frz o (.lst (ns.map V.int))) → spT φ [.ref a] H (fun v _ => v = .bl true) fun _ _ _ => False := fun u hu hc => by
    refine key (put (fun _ => none) a (.ex u)) ⟨fun x w e => ?_, fun x χ e => ?_⟩ ⟨a, rfl, .inl ⟨u, put_same, hc⟩⟩
    · by_cases q : x = a
      · subst q; rw [put_same] at e; cases e; exact .inl hu
      · rw [put_ne q] at e; cases e
    · by_cases q : x = a
      · subst q; rw [put_same] at e; cases e
      · rw [put_ne q] at e; cases e
  rcases h with (z | ⟨o, z⟩) | z
  · exact one _ z (.inl rfl)
  · exact one _ z (.inr ⟨o, rfl⟩)
  · exact key (fun _ => none) ⟨fun x w e => (nomatch e), fun x χ e => (nomatch e)⟩ ⟨a, rfl, .inr z⟩
end G
set_option Elab.async false
set_option linter.all false
set_option maxRecDepth 100000
set_option maxHeartbeats 2000000
/-! zip of two sequences, each a list or a tuple -/
namespace G
open PySem L2 PyProof.Rows
def Sq (K : PySem.W.Frag) (t : Bool) (H : Hp) (a : Addr) (xs : List V) : Prop := if t then SqT K H a xs else SqL K H a xs
def IsQ (t : Bool) (h : Heap) (l : Addr) (its : Array Value) : Prop := if t then h.IsTuple l its else h.IsList l its
def ItQ (t : Bool) (h : Heap) (it l : Addr) (i : Nat) : Prop := if t then h.IsTupleIter it l i else h.IsListIter it l i
theorem draws_q {P : Program} {w : World} {A : Around} (hh : A.handled = none) (t : Bool) (it l : Addr) (ne : l ≠ it) (its : Array Value) :
    Draws P w A it [it, l] its.size (fun i v => its[i]? = some v) (fun i h => ItQ t h it l i ∧ IsQ t h l its) := by
  cases t with
  | true => exact Draws.tuple hh it l ne its
  | false => exact Draws.list hh it l ne its
section
variable {X : Cx} {pins : List (Addr × Obj)} {σ : L2.St} {H : Hp} {s : Shared} {a : Addr} {xs ys : List V} {t : Bool}
theorem inv_q (I : Inv X pins σ H s) (h : Sq X.K t H a xs) : ∃ its : List Value, Vals xs its ∧ IsQ t s.heap a its.toArray := by
  cases t with
  | true => obtain ⟨its, r, p, _⟩ := I.tuple h; exact ⟨its, r, p⟩
  | false => obtain ⟨its, r, p, _⟩ := I.list h; exact ⟨its, r, p.isList⟩
theorem inj_q (I : Inv X pins σ H s) (h : Sq X.K t H a xs) (k : Sq X.K t H a ys) : xs = ys := by
  cases t with
  | true => exact I.tuple_inj h k
  | false => exact I.list_inj h k
theorem IsQ.lt {h : Heap} {its : Array Value} (p : IsQ t h a its) : a < h.objs.size := by
  cases t with
  | true => obtain ⟨o, e, _⟩ := p; exact Heap.lt_size e
  | false => obtain ⟨o, e, _⟩ := p; exact Heap.lt_size e
theorem ItQ.move {h h' : Heap} {it l : Addr} {i : Nat} (p : ItQ t h it l i) (k : ∀ o, h.get? it = some o → h'.get? it = some o) : ItQ t h' it l i := by
  cases t with
  | true => exact Heap.IsTupleIter.at p k
  | false => exact Heap.IsListIter.at p k
theorem ItQ.obj {h : Heap} {it l : Addr} {i : Nat} (p : ItQ t h it l i) : ∃ o, h.get? it = some o ∧ ∀ v, o.data ≠ .cell v := by
  cases t with
  | true => obtain ⟨o, e, _, d⟩ := p; exact ⟨o, e, fun v q => by rw [d] at q; cases q⟩
  | false => obtain ⟨o, e, _, d⟩ := p; exact ⟨o, e, fun v q => by rw [d] at q; cases q⟩
end
/-- pairs of the i-th of one and the i-th of the other -/
def Itq (K : PySem.W.Frag) (t1 t2 : Bool) (a b : Addr) : It where
  go := fun i H => ∃ xs ys x y, Sq K t1 H a xs ∧ Sq K t2 H b ys ∧ xs[i]? = some x ∧ ys[i]? = some y
  yld := fun i H v H' => ∃ T x y, v = .ref T ∧ H T = none ∧ H' = upd H T (.tup [x, y]) ∧ (∀ xs, Sq K t1 H a xs → xs[i]? = some x) ∧ ∀ ys, Sq K t2 H b ys → ys[i]? = some y
  stop := fun i H => ∃ xs ys : List V, Sq K t1 H a xs ∧ Sq K t2 H b ys ∧ i ≤ xs.length ∧ i ≤ ys.length ∧ (i = xs.length ∨ i = ys.length)
theorem mem5 {c z TI TO i1 i2 : Addr} (h : c ∈ [z, TI, TO, i1, i2]) : c = z ∨ c = TI ∨ c = TO ∨ c = i1 ∨ c = i2 := by simpa using h
theorem turn_q {P : Program} {w : World} {K : PySem.W.Frag} {elts : List Expr} {kk : Nat} {tp : Pos} {t1 t2 : Bool} {a b z TI TO i1 i2 : Addr} (S : ZipSep2 z TI TO i1 i2 [i1, a] [i2, b]) (n1 : a ≠ i1) (n2 : b ≠ i2) :
    Turn P w K (.Tuple elts kk tp) (Itq K t1 t2 a b) [z, TI, TO, i1, i2] z (fun i h => IsZip h z TI TO .none ∧ IsTupOf2 h TI (.ref i1) (.ref i2) ∧ (∃ x y, IsTupOf2 h TO x y) ∧ ItQ t1 h i1 a i ∧ ItQ t2 h i2 b i) where
  mem := by simp
  obj := fun i h st c hc => by
    obtain ⟨sz, sI, ⟨x, y, sO⟩, s1, s2⟩ := st
    rcases mem5 hc with e | e | e | e | e <;> subst e
    · exact ⟨_, sz, fun v q => nomatch q⟩
    · exact ⟨_, sI, fun v q => nomatch q⟩
    · exact ⟨_, sO, fun v q => nomatch q⟩
    · exact s1.obj
    · exact s2.obj
  keep := fun i h h' st k => by
    obtain ⟨sz, sI, ⟨x, y, sO⟩, s1, s2⟩ := st
    have kz := k z (by simp)
    have kI := k TI (by simp)
    have kO := k TO (by simp)
    exact ⟨kz _ sz, kI _ sI, ⟨x, y, kO _ sO⟩, s1.move (k i1 (by simp)), s2.move (k i2 (by simp))⟩
  item := fun X e1 e2 e3 calm i pins s σ H E I hf st go => by
    subst e1; subst e2; subst e3
    obtain ⟨sz, sI, ⟨x0, y0, sO⟩, s1, s2⟩ := st
    obtain ⟨xs, ys, x, y, qa, qb, ex, ey⟩ := go
    obtain ⟨us, va, ha⟩ := inv_q I qa
    obtain ⟨ws, vb, hb⟩ := inv_q I qb
    obtain ⟨u, eu, ru⟩ := va.get ex
    obtain ⟨v, ev, rv⟩ := vb.get ey
    have lu : i < us.toArray.size := by rw [List.size_toArray]; exact (List.getElem?_eq_some_iff.mp eu).1
    have lv : i < ws.toArray.size := by rw [List.size_toArray]; exact (List.getElem?_eq_some_iff.mp ev).1
    have calmA : X.A.in1.handled = none := I.ok.hd calm
    have zlt : z < s.heap.objs.size := Heap.lt_size sz
    have small : ∀ c ∈ [z, TI, TO, i1, i2], c < s.heap.objs.size := fun c hc => by
      rcases mem5 hc with e | e | e | e | e <;> subst e
      · exact zlt
      · exact Heap.lt_size sI
      · exact Heap.lt_size sO
      · obtain ⟨o, e, _⟩ := s1.obj; exact Heap.lt_size e
      · obtain ⟨o, e, _⟩ := s2.obj; exact Heap.lt_size e
    refine wpAny_pyNext_zipD2_item S (draws_q calmA t1 i1 a n1 us.toArray) (draws_q calmA t2 i2 b n2 ws.toArray) sz sI sO ⟨s1, ha⟩ ⟨s2, hb⟩ lu lv fun x1 x2 h' tk p1 p2 z' O' s1' s2' hT hsz hk => ?_
    have e1 : x1 = u := by simpa [eu] using p1.symm
    have e2 : x2 = v := by simpa [ev] using p2.symm
    subst e1; subst e2
    refine ⟨_, rfl, wpAny_letOwnedTupleGo_zip (s := { s with heap := h', toks := tk }) z' fun h2 z2 sb => ?_⟩
    have back : ∀ c, c ∉ [z, TI, TO, i1, i2] → ∀ o, s.heap.get? c = some o → h2.get? c = some o := fun c hc o e => by
      have c1 : c ≠ z := fun q => hc (by rw [q]; simp)
      have c2 : c ≠ TO := fun q => hc (by rw [q]; simp)
      have c3 : c ≠ i1 := fun q => hc (by rw [q]; simp)
      have c4 : c ≠ i2 := fun q => hc (by rw [q]; simp)
      exact (sb.2 c c1).trans (hk c o c1 c2 c3 c4 e)
    have T2 : h2.get? s.heap.objs.size = some { cls := .type "tuple", data := .seq #[x1, x2] } := (sb.2 _ (Nat.ne_of_gt zlt)).trans hT
    have ok2 : ObjOk X.prog X.w (upd H s.heap.objs.size (.tup [x, y])) h2 s.heap.objs.size (.tup [x, y]) := by
      refine ⟨?_, [x1, x2], .cons ru (.cons rv .nil), ⟨_, T2, rfl, _, rfl⟩⟩
      show 2 ≤ sizeLine
      decide
    have J : Inv X pins σ (upd H s.heap.objs.size (.tup [x, y])) { s with heap := h2, toks := tk } := I.turnedNew (ch := [z, TI, TO, i1, i2]) (fun c o hc e => back c hc o e) hf (Nat.le_refl _) ok2
    refine ⟨.ref s.heap.objs.size, upd H s.heap.objs.size (.tup [x, y]), J, rfl, ?_, ?_, fun c hc => ?_⟩
    · exact ⟨_, x, y, rfl, I.hok.fresh (Nat.le_refl _), rfl, fun l q => (inj_q I qa q) ▸ ex, fun l q => (inj_q I qb q) ▸ ey⟩
    · have nI : TI ≠ i2 := S.TIi2
      refine ⟨z2, (sb.2 _ S.TIz).trans (hk _ _ S.TIz S.TITO S.TIi1 nI sI), ⟨x1, x2, (sb.2 _ S.TOz).trans O'⟩, s1'.1.move fun o e => ?_, s2'.1.move fun o e => ?_⟩
      · exact (sb.2 _ S.zi1.symm).trans e
      · exact (sb.2 _ S.zi2.symm).trans e
    · rw [upd_ne (Nat.ne_of_lt (small c hc))]
      exact (hf c hc).1
  done := fun X e1 e2 e3 calm i pins s σ H E I hf st stp => by
    subst e1; subst e2; subst e3
    obtain ⟨sz, sI, ⟨x0, y0, sO⟩, s1, s2⟩ := st
    obtain ⟨xs, ys, qa, qb, l1, l2, hor⟩ := stp
    obtain ⟨us, va, ha⟩ := inv_q I qa
    obtain ⟨ws, vb, hb⟩ := inv_q I qb
    have m1 : us.toArray.size = xs.length := by rw [List.size_toArray]; exact va.length.symm
    have m2 : ws.toArray.size = ys.length := by rw [List.size_toArray]; exact vb.length.symm
    have calmA : X.A.in1.handled = none := I.ok.hd calm
    refine wpAny_pyNext_zipD2_end S (draws_q calmA t1 i1 a n1 us.toArray) (draws_q calmA t2 i2 b n2 ws.toArray) sz sI sO ⟨s1, ha⟩ ⟨s2, hb⟩ (by omega) (by omega) (by omega) fun h' tk hk => ⟨rfl, ?_⟩
    refine I.turnedL (t' := tk) (ch := [z, TI, TO, i1, i2]) (fun c o hc e => ?_) hf
    have c1 : c ≠ z := fun q => hc (by rw [q]; simp)
    have c2 : c ≠ TO := fun q => hc (by rw [q]; simp)
    have c3 : c ≠ i1 := fun q => hc (by rw [q]; simp)
    have c4 : c ≠ i2 := fun q => hc (by rw [q]; simp)
    exact hk c o c1 c2 c3 c4 e
  self := fun A i s Q E st h => wpAny_pyIter_zip st.1 h
def iZipQ (K : PySem.W.Frag) (t1 t2 : Bool) (ta : TA) : TI := fun σ H R => ta σ H fun vs H1 => ∃ a b xs ys, vs = [.ref a, .ref b] ∧ Sq K t1 H1 a xs ∧ Sq K t2 H1 b ys ∧ R (Itq K t1 t2 a b) H1
theorem begins_q (t : Bool) (a : Addr) (its : Array Value) : ∃ o, Begins (.ref a) o (fun h => IsQ t h a its) ∧ ∀ h it, h.get? it = some o → ItQ t h it a 0 := by
  cases t with
  | true => exact ⟨_, begins_tuple a its, fun h it e => ⟨_, e, rfl, rfl⟩⟩
  | false => exact ⟨_, begins_list a its, fun h it e => ⟨_, e, rfl, rfl⟩⟩
theorem pi_q {X : Cx} {e e2 : Expr} {ta : TA} {p pos tp : Pos} {elts : List Expr} {kk : Nat} {t1 t2 : Bool} (hg : Gl X "zip") (hm : X.mg "zip" = none) (ha : PA X [e, e2] ta)
    (hs : starEach [e, e2] X.env = (false, eval e X.env) :: starEach [e2] X.env := by rfl) (hpl : (backTo pos (starEach [e2] X.env)).any (·.1) = false := by rfl) :
    PI X (.Tuple elts kk tp) (.Call (.Name "zip" p) [e, e2] [] pos) (iZipQ X.K t1 t2 ta) := by
  refine ⟨fun pins s σ H R I h => ?_⟩
  refine Call_ (ld_blt I hg hm boot_zip (callWith_type1 (thn (ha.run pos pins s σ H _ I h) fun us s1 ⟨vs, H1, J, rr, a, b, xs, ys, ex, qa, qb, q⟩ => ?_) hs hpl))
  subst ex
  obtain ⟨ua, ub, rfl, ra, rb⟩ : ∃ ua ub, us = [ua, ub] ∧ RelV (.ref a) ua ∧ RelV (.ref b) ub := by
    cases rr with
    | cons r rr => cases rr with
      | cons r' rr => cases rr; exact ⟨_, _, rfl, r, r'⟩
  cases ra; cases rb
  obtain ⟨us, va, ia⟩ := inv_q J qa
  obtain ⟨ws, vb, ib⟩ := inv_q J qb
  obtain ⟨o1, b1, k1⟩ := begins_q t1 a us.toArray
  obtain ⟨o2, b2, k2⟩ := begins_q t2 b ws.toArray
  refine zip_begins2 b1 b2 ia ib fun h' sz sI sO g1 g2 hsz hk => wpAny_pyIter_zip sz ?_
  have J2 : Inv X pins σ H1 { s1 with heap := h' } := J.kept (t' := s1.toks) hk
  have fresh : ∀ c, s1.heap.objs.size ≤ c → FpOk X pins H1 c := fun c hc => J.fpOk hc (J.hok.fresh hc)
  have la := ia.lt
  have lb := ib.lt
  refine ⟨_, _, _, Itq X.K t1 t2 a b, H1, rfl, J2, turn_q (t1 := t1) (t2 := t2) (zip_sep2 (N := s1.heap.objs.size) (fp1 := [a]) (fp2 := [b]) (by simpa using la) (by simpa using lb)) (Nat.ne_of_lt la) (fun z => ?_), ⟨sz, sI, ⟨_, _, sO⟩, k1 _ _ g1, k2 _ _ g2⟩, fun c hc => fresh c ?_, q⟩
  · have lb' : (b : Nat) < s1.heap.objs.size := lb
    have z' : (b : Nat) = s1.heap.objs.size + 1 := z
    rw [z'] at lb'
    exact absurd lb' (Nat.not_lt.mpr (Nat.le_succ _))
  · rcases mem5 hc with e | e | e | e | e <;> rw [e]
    · exact Nat.le_add_right _ _
    · exact Nat.le_add_right _ _
    · exact Nat.le_add_right _ _
    · exact Nat.le_refl _
    · exact Nat.le_add_right _ _
theorem walk_q {K : PySem.W.Frag} {t1 t2 : Bool} {a b : Addr} {xs ys : List V} {n : Nat} (hn : n = min xs.length ys.length) : Walk (Itq K t1 t2 a b) n (fun H => Sq K t1 H a xs ∧ Sq K t2 H b ys) (YPair (fun i => xs[i]?) (fun i => ys[i]?)) where
  goes := fun i H hi q => ⟨xs, ys, xs[i]'(by omega), ys[i]'(by omega), q.1, q.2, List.getElem?_eq_getElem _, List.getElem?_eq_getElem _⟩
  stops := fun H q => ⟨xs, ys, q.1, q.2, by omega, by omega, by omega⟩
  yields := fun i H v H' _ q ⟨T, x, y, e1, e2, e3, e4, e5⟩ => ⟨T, x, y, e1, e2, e3, e4 xs q.1, e5 ys q.2⟩
/-- a list, or a tuple -/
def rQ (K : PySem.W.Frag) (t : Bool) (rs : List Pr) : Pr := if t then rTs K rs else rLs K rs
theorem rQ_at {K : PySem.W.Frag} {t : Bool} {rs : List Pr} {B : Bs} {v : V} (h : (rQ K t rs).r B v) : ∃ p vs, v = .ref p ∧ F2 B vs rs ∧ ∀ B2 H2, Le B B2 → Ok B2 H2 → Sq K t H2 p vs := by
  cases t with
  | true => obtain ⟨p, vs, e, a, f⟩ := h; exact ⟨p, vs, e, f, fun B2 H2 l k => (a.mono l).sq k⟩
  | false => obtain ⟨p, vs, e, a, f⟩ := h; exact ⟨p, vs, e, f, fun B2 H2 l k => (a.mono l).sq k⟩
section
variable {g : Gx} {Γ : Gm} {P Q R : Pr} {e e1 e2 tg : Expr} {pos p2 : Pos} {D : En} {st : Stmt} {ss rest : List Stmt} {rs qs : List Pr}
theorem i_zipQ {t1 t2 : Bool} {elts : List Expr} {kk : Nat} {tp p : Pos} (hm : g.X.mg "zip" = none) (h : JE g e Γ (rQ g.X.K t1 rs)) (h' : JE g e1 Γ (rQ g.X.K t2 qs)) (hg : Gl g.X "zip" := by rfl) (hs : starEach [e, e1] g.X.env = (false, eval e g.X.env) :: starEach [e1] g.X.env := by rfl) (hs2 : starEach [e1] g.X.env = (false, eval e1 g.X.env) :: starEach [] g.X.env := by rfl) (hpl : (backTo pos (starEach [e1] g.X.env)).any (·.1) = false := by rfl) :
    JI g (.Tuple elts kk tp) (.Call (.Name "zip" p) [e, e1] [] pos) Γ (min rs.length qs.length) (fun i => rTs g.X.K [nth rs i, nth qs i]) :=
  ⟨fun w σ B H s => ofI (pi_q (t1 := t1) (t2 := t2) hg hm pA hs hpl) (((a_cons h (a_cons h' a_nil hs2) hs).run w σ B H s).mono fun vs H1 ⟨B1, a1, f⟩ => by
    obtain ⟨v, u, rfl, h1, h2⟩ := f.two
    obtain ⟨p, xs, rfl, f1, q1⟩ := rQ_at h1
    obtain ⟨p', ys, rfl, f2, q2⟩ := rQ_at h2
    exact ⟨p, p', xs, ys, rfl, q1 B1 H1 (Le.refl _) a1.sta.st.ok, q2 B1 H1 (Le.refl _) a1.sta.st.ok, B1, a1, gives_pair (walk_q (by rw [f1.len, f2.len])) (fun B2 H2 l k => ⟨q1 B2 H2 l k, q2 B2 H2 l k⟩) (fun i x B2 hi l e => (f1.mono l).nth e) (fun i x B2 hi l e => (f2.mono l).nth e)⟩)⟩
theorem m_zipQ {α β : Type} {xs : List α} {ys : List β} {r : α → Pr} {r' : β → Pr} {t1 t2 : Bool} {elts : List Expr} {kk : Nat} {tp p : Pos} (hm : g.X.mg "zip" = none) (h : JE g e Γ (rQ g.X.K t1 (xs.map r))) (h' : JE g e1 Γ (rQ g.X.K t2 (ys.map r'))) (hg : Gl g.X "zip" := by rfl) (hs : starEach [e, e1] g.X.env = (false, eval e g.X.env) :: starEach [e1] g.X.env := by rfl) (hs2 : starEach [e1] g.X.env = (false, eval e1 g.X.env) :: starEach [] g.X.env := by rfl) (hpl : (backTo pos (starEach [e1] g.X.env)).any (·.1) = false := by rfl) :
    JM g (.Tuple elts kk tp) (.Call (.Name "zip" p) [e, e1] [] pos) Γ (xs.zip ys) (fun z => rTs g.X.K [r z.1, r' z.2]) :=
  (i_zipQ hm h h' hg hs hs2 hpl).to (by rw [List.length_zip, List.length_map, List.length_map]) fun i hi => by
    rw [List.length_map, List.length_map] at hi
    have h1 : i < xs.length := by omega
    have h2 : i < ys.length := by omega
    rw [nth_map (x := xs[i]) (List.getElem?_eq_getElem h1), nth_map (x := ys[i]) (List.getElem?_eq_getElem h2), nth_map (x := (xs[i], ys[i]))]
    rw [List.getElem?_zip_eq_some]
    exact ⟨List.getElem?_eq_getElem h1, List.getElem?_eq_getElem h2⟩
/-! lists or tuples -/
theorem x_lenQ {p : Pos} {t : Bool} (b : Bi g.X.mg) (h : JE g e Γ (rQ g.X.K t rs)) (hg : Gl g.X "len" := by rfl) (he : starEach [e] g.X.env = (false, eval e g.X.env) :: starEach [] g.X.env := by rfl) : JE g (.Call (.Name "len" p) [e] [] pos) Γ (rI rs.length) := by
  cases t with
  | false => exact x_lenL b.len h hg he
  | true => exact x_lenT b.len h hg he
theorem m_Q {α : Type} {xs : List α} {r : α → Pr} {t : Bool} (h : JE g e Γ (rQ g.X.K t (xs.map r))) : JM g tg e Γ xs r := by
  cases t with
  | false => exact m_list h
  | true => exact m_tup h
theorem x_isiQ {p px py pt : Pos} {kk : Nat} {t : Bool} (b : Bi g.X.mg) (h : JE g e Γ (rQ g.X.K t rs)) (hg : Gl g.X "isinstance" := by rfl) (hgx : Gl g.X "list" := by rfl) (hgy : Gl g.X "tuple" := by rfl)
    (hs : starEach [e, .Tuple [.Name "list" px, .Name "tuple" py] kk pt] g.X.env = (false, eval e g.X.env) :: starEach [.Tuple [.Name "list" px, .Name "tuple" py] kk pt] g.X.env := by rfl) : JE g (.Call (.Name "isinstance" p) [e, .Tuple [.Name "list" px, .Name "tuple" py] kk pt] [] pos) Γ (rB true) := by
  cases t with
  | false => exact x_isi2 b ty_L b.list b.tuple bo_list bo_tuple k_list_list k_list_tuple h hg hgx hgy (by decide) (by decide) (by decide) (by decide) hs
  | true => exact x_isi2 b ty_T b.list b.tuple bo_list bo_tuple k_tuple_list k_tuple_tuple h hg hgx hgy (by decide) (by decide) (by decide) (by decide) hs
theorem y_listQ {t : Bool} (b : Bi g.X.mg) (h : JE g e Γ (rQ g.X.K t rs)) {p : Pos} (hg : Gl g.X "list" := by rfl) (he : starEach [e] g.X.env = (false, eval e g.X.env) :: starEach [] g.X.env := by rfl) : JO g (.Call (.Name "list" p) [e] [] pos) Γ (oL rs) := by
  cases t with
  | false => exact y_listL b.list h hg he
  | true => exact y_listT b.list h hg he
end
end G
set_option Elab.async false
set_option linter.all false
set_option maxRecDepth 100000
set_option maxHeartbeats 2000000
/-! try .. except X: , the body's word told anew from the try on -/
namespace G
open PySem L2
def noOwn : Gm → Bool
  | [] => true
  | some (.ow _) :: _ => false
  | _ :: l => noOwn l
theorem noOwn_at {c : Oc} : ∀ {Γ : Gm} {i : Nat}, noOwn Γ = true → Γ[i]? = some (some (.ow c)) → False
  | [], i, _, h => by simp at h
  | none :: l, 0, _, h => by simp at h
  | some (.sh _) :: l, 0, _, h => by simp at h
  | none :: l, i + 1, n, h => noOwn_at (Γ := l) (i := i) n (by simpa using h)
  | some (.sh _) :: l, i + 1, n, h => noOwn_at (Γ := l) (i := i) n (by simpa using h)
  | some (.ow _) :: l, _, n, _ => by cases n
section
variable {b b' : Base} {Γ : Gm} {σ : L2.St} {B : Bs} {H : Hp}
theorem Sta.rebase (s : Sta b Γ σ B H) (n : noOwn Γ = true) : Sta ⟨B, H⟩ Γ σ B H :=
  ⟨Stp.refl s.st.ok, s.env.len, s.env.sh, fun i c h => (noOwn_at n h).elim, fun i j c c' v v' a h => (noOwn_at n h).elim⟩
theorem Sta.up (s : Sta b' Γ σ B H) (t : Stp b.B b.H b'.B b'.H) : Sta b Γ σ B H :=
  ⟨t.trans s.st, s.env.len, s.env.sh, fun i c h => by
    obtain ⟨v, e, o⟩ := s.env.ow i c h
    exact ⟨v, e, o.nb, fun a ha => t.bnone (o.nh a ha), o.th, o.at_⟩, s.env.dis⟩
theorem Rt.up {S : Sl} {v : V} (t : Stp b.B b.H b'.B b'.H) (r : Rt b' S v H) : Rt b S v H := by
  obtain ⟨B, q, z⟩ := r
  exact ⟨B, t.trans q, Res.up t z⟩
end
section
variable {g : Gx} {Γ : Gm} {P Q R : Pr} {e e1 e2 tg : Expr} {pos p2 : Pos} {D : En} {st : Stmt} {ss rest : List Stmt} {rs qs : List Pr}
/-- the context of a try's body -/
abbrev Gx.try_ (g : Gx) (pn : List (Addr × Obj)) (xe : Value → Shared → Prop) (W : WX) (b' : Base) : Gx := ⟨g.X.tr pn xe, b', W, g.k⟩
/-- .. and of a suite -/
abbrev Gx.suite (g : Gx) (a : Addr) (pn : List (Addr × Obj)) : Gx := ⟨g.X.suite a pn, g.b, fun _ _ _ _ => False, g.k⟩
theorem Gx.Wf.suite (w : g.Wf) {a : Addr} {pn : List (Addr × Obj)} : (g.suite a pn).Wf := ⟨nTakes0, fun h => (nomatch h), PassesOwn.never, w.nd, w.bok⟩
/-- behind the try's body -/
theorem s_thenT {pn : List (Addr × Obj)} {xe : Value → Shared → Prop} {W : WX} {b' : Base} (t : Stp g.b.B g.b.H b'.B b'.H) (w : g.Wf) (k : JS g rest Γ D) : JS (g.try_ pn xe W b') [] Γ (D.thn g.X rest) :=
  ⟨fun _ σ B H s => ws_nil (k.run w σ B H (s.up t))⟩
theorem s_thenS {a : Addr} {pn : List (Addr × Obj)} (w : g.Wf) (k : JS g rest Γ D) : JS (g.suite a pn) [] Γ (D.thn g.X rest) :=
  ⟨fun _ σ B H s => ws_nil (k.run w σ B H s)⟩
theorem rt_up {b b' : Base} {S : Sl} (t : Stp b.B b.H b'.B b'.H) : ∀ v H, Rt b' S v H → (ret b S).rt v H := fun v H r => Rt.up t r
end
end G
set_option Elab.async false
set_option linter.all false
set_option maxRecDepth 100000
set_option maxHeartbeats 2000000
namespace G
open PySem L2
section
variable {g : Gx} {Γ : Gm} {P Q R : Pr} {e e1 e2 tg : Expr} {pos p2 : Pos} {D : En} {st : Stmt} {ss rest : List Stmt} {rs qs : List Pr} {U : Uv}
/-- an assignment of what is known by words: the words opened ahead of the target -/
theorem s_asgX {ι : Type} {φ : ι → Prop} {f : ι → Pr} (h : JE g e Γ (Pr.exs φ f)) (Γ1 : ι → Gm) {sl : List Nat} (hg : ∀ a, φ a → JG g tg (f a) Γ (Γ1 a) sl) (k : ∀ a, φ a → JS g rest (Γ1 a) D) (hs : swapsWithSole [tg] e pos.line g.X.env = pure false := by rfl) (hw : swappedStores [tg] e g.X.env = pure none := by rfl)
    (h1 : (assignEach [tg] g.X.env).map (·.2) = [assign tg g.X.env] := by rfl) : JS g (.Assign [tg] e pos :: rest) Γ D :=
  js_cons fun w σ B H s => of1 (ps_asg pE pG hs hw h1) ((h.run w σ B H s).mono fun v H' ⟨B', a, i, hi, q⟩ => (hg i hi).run w σ B' H' v a.sta q _ fun σ' s' _ => (k i hi).go w a.le s')
theorem x_intB {c : Bool} {p : Pos} (b : Bi g.X.mg) (hv : bootBuiltins "int" = some (.type "int")) (h : JE g e Γ (rB c)) (hg : Gl g.X "int" := by rfl) (he : starEach [e] g.X.env = (false, eval e g.X.env) :: starEach [] g.X.env := by rfl) : JE g (.Call (.Name "int" p) [e] [] pos) Γ (rI (if c then 1 else 0)) :=
  x_cty (r := fun xs H Q => (∃ i, xs = [.int i] ∧ Q (.int i) H) ∨ ∃ k, xs = [.bl k] ∧ Q (.int (if k then 1 else 0)) H) b.int (fun _ => call_int1) hv (fun B H vs K k f q => by
    obtain ⟨v, rfl, h⟩ := f.one
    cases h
    exact .inr ⟨c, rfl, q _ B H (Stp.refl k) rfl⟩) (a_cons h a_nil he) hg (by decide) (by decide) he rfl
/-- a call whose ghost is found with the arguments -/
theorem x_callx {x : Str} {k : Nat} {ps : List Str} {ι : Type} {φ : ι → Cs} {es : List Expr} {p : Pos} {Ps : List Pr} (F : Fd U x k ps φ) (h : JA g (e :: es) Γ Ps) (hi : ∀ B vs, F2 B vs Ps → ∃ i, F2 B vs (φ i).as ∧ (φ i).pre ∧ (∀ C, ¬ (φ i).exc C) ∧ ∃ S, (∀ b1, (φ i).rs b1 = .sh S) ∧ ∀ B2 v, S.r B2 v → R.r B2 v) (hk : k ≤ g.k := by exact Nat.le_of_ble_eq_true rfl)
    (hU : UvOf U g.X := by exact ⟨rfl, rfl, rfl, rfl, rfl⟩) (hg : Gl g.X x := by rfl) (hdb : (x == ("__debug__" : Str)) = false := by decide) (he : starEach (e :: es) g.X.env = (false, eval e g.X.env) :: starEach es g.X.env := by rfl) (hpl : (backTo pos (starEach es g.X.env)).any (·.1) = false := by rfl) (hcm : g.X.calm = true := by rfl) :
    JE g (.Call (.Name x p) (e :: es) [] pos) Γ R := by
  obtain ⟨f, fd, a, kp, cc, d⟩ := F.ok
  obtain ⟨u1, u2, u3, u4, u5⟩ := hU
  refine ⟨fun w σ B H s => ?_⟩
  refine (ofE (pe_callS (E := L2.WE g.W) (by rw [u1, u2, u3, u4, u5]; exact d) ((w.hr hcm).mono hk) hg (by rw [u4]; exact a) (by rw [u3]; exact kp) (by rw [u3]; exact cc) (by rw [← u1, ← u2]; exact fun σ => L2N.passAt w.tk σ) pA hdb he hpl) ?_)
  refine (h.run w σ B H s).mono fun vs H1 ⟨B1, a1, q⟩ => ?_
  obtain ⟨i, q', hp, hx, S, hs, hSR⟩ := hi _ _ q
  have z := call_run (φ := φ) (i := i) s a1 hp q' (fun C d σ B H z => (hx C z).elim) (K := fun v H' => ∃ B', Aft g.b Γ σ B H B' H' ∧ R.r B' v) fun v B' H' a r => by
    rw [hs] at r
    exact ⟨B', a, hSR _ _ r⟩
  rw [List.append_nil] at z
  exact z
theorem cutTake {α : Type} (xs : List α) (k : Nat) : cutP xs none (some (k : Int)) = xs.take k := by
  unfold cutP
  rw [HT.sIx_none, HT.sIx_nat, Nat.sub_zero, List.drop_zero]
  by_cases h : k ≤ xs.length
  · rw [Nat.min_eq_left h]
  · rw [Nat.min_eq_right (by omega), List.take_of_length_le (Nat.le_refl _), List.take_of_length_le (by omega)]
theorem cutDrop {α : Type} (xs : List α) (k : Nat) : cutP xs (some (k : Int)) none = xs.drop k := by
  unfold cutP
  rw [HT.sIx_nat, HT.sIx_none]
  by_cases h : k ≤ xs.length
  · rw [Nat.min_eq_left h, List.take_of_length_le (by rw [List.length_drop]; omega)]
  · rw [Nat.min_eq_right (by omega), List.drop_of_length_le (Nat.le_refl _), List.drop_of_length_le (by omega)]
    simp
/-- what is known of words only, told as a list of ints -/
theorem repl_x {K : PySem.W.Frag} {ψ : Int → Prop} {n : Nat} {B : Bs} {v : V} (h : (rLs K (List.replicate n (rIx ψ))).r B v) : (Pr.exs (fun ns : List Int => ns.length = n ∧ ∀ x ∈ ns, ψ x) fun ns => rLs K (ns.map G.rI)).r B v := by
  obtain ⟨p, vs, e, a, f⟩ := h
  obtain ⟨ns, l, q, k⟩ := F2.repl f
  exact ⟨ns, ⟨l, q⟩, p, vs, e, a, k⟩
end
end G
set_option Elab.async false
set_option linter.all false
set_option maxRecDepth 100000
set_option maxHeartbeats 2000000
namespace G
open PySem L2 PySem.W
/-! ### sorted of data -/
def rSortedD (K : PySem.W.Frag) : List V → Hp → VK → Prop := fun vs H Q => ∃ (a : Addr) (β : Type) (bs : List β) (f : β → V) (enc : β → PyData), vs = [V.ref a] ∧ SqL K H a (bs.map f) ∧ (∀ b ∈ bs, Dp K H (f b) (enc b)) ∧ AllAlike (bs.map enc) ∧ Sortable (bs.map enc) ∧ (∀ b ∈ bs, (enc b).depth ≤ 60) ∧
  ∀ p, H p = none → Q (.ref p) (upd H p (.lst ((bs.mergeSort (dataLe false enc)).map f)))
theorem each_of {β : Type} {f : β → V} : ∀ {bs : List β} {us : List Value}, Vals (bs.map f) us → EachIs (fun v b => RelV (f b) v) us bs
  | [], _, .nil => .nil
  | _ :: _, _, .cons h t => .cons h (each_of t)
theorem vals_each {β : Type} {f : β → V} : ∀ {bs : List β} {us : List Value}, EachIs (fun v b => RelV (f b) v) us bs → Vals (bs.map f) us
  | [], _, .nil => .nil
  | _ :: _, _, .cons h t => .cons h (vals_each t)
theorem each_dp {X : Cx} {pins : List (Addr × Obj)} {σ : L2.St} {H : Hp} {s : Shared} (I : Inv X pins σ H s) {β : Type} {f : β → V} {enc : β → PyData} : ∀ {bs : List β} {us : List Value}, Vals (bs.map f) us → (∀ b ∈ bs, Dp X.K H (f b) (enc b)) → EachIs (fun v b => ∃ as, Reads s.heap v (enc b) as) us bs
  | [], _, .nil, _ => .nil
  | b :: _, _, .cons h t, k => .cons (Dp.reads I _ _ _ (k b (List.mem_cons_self ..)) h) (each_dp I t fun c hc => k c (List.mem_cons_of_mem _ hc))
theorem cr_sortedD {X : Cx} (hu : X.A.units + 64 < cLine) : CallR X (.builtin "sorted") (rSortedD X.K) := by
  intro pins s σ H vs us Q I r h
  obtain ⟨a, β, bs, f, enc, rfl, hs, hd, hal, hk, hdp, q⟩ := h
  obtain ⟨its, rv, hl, hz⟩ := I.list hs
  rw [Vals.ref1 r]
  rw [List.length_map] at hz
  refine sorted_data (R := fun v b => RelV (f b) v) (enc := enc) hl.isList (each_of rv) (each_dp I rv hd) hal hk hz (fun b hb => by have := hdp b hb; omega) fun out ho eo => ?_
  obtain ⟨ep, he'⟩ := PyProof.Rows.sortedAll_at s.heap its out.toArray
  have hlen : ((bs.mergeSort (dataLe false enc)).map f).length ≤ sizeLine := by rw [List.length_map, List.length_mergeSort]; exact hz
  exact ⟨.ref _, upd H (s.heap.objs.size + 1) (.lst ((bs.mergeSort (dataLe false enc)).map f)), I.laid (t' := s.toks) (fun _ _ => PyProof.Rows.sortedAll_old) (Nat.le_succ _) ⟨hlen, out, ep, vals_each eo, he'⟩, rfl, q _ (I.hok.fresh (Nat.le_succ _))⟩
section
variable {g : Gx} {Γ : Gm} {P Q R : Pr} {e e1 e2 tg : Expr} {pos p2 : Pos} {D : En} {st : Stmt} {ss rest : List Stmt} {rs qs : List Pr}
theorem bo_sorted : bootBuiltins "sorted" = some (.builtin "sorted") := by decide +kernel
theorem F2.zip_mem {α : Type} {r : α → Pr} {B : Bs} : ∀ {vs : List V} {xs : List α}, F2 B vs (xs.map r) → ∀ p ∈ vs.zip xs, (r p.2).r B p.1
  | [], [], _, p, hp => by simp at hp
  | v :: vs, x :: xs, h, p, hp => by
    rcases List.mem_cons.mp (by simpa using hp : p ∈ (v, x) :: vs.zip xs) with e | hp
    · subst e; exact h.1
    · exact F2.zip_mem h.2 p hp
  | [], _ :: _, h, _, _ => h.elim
  | _ :: _, [], h, _, _ => h.elim
theorem F2.of_pairs {α : Type} {r : α → Pr} {B : Bs} : ∀ {ps : List (V × α)}, (∀ p ∈ ps, (r p.2).r B p.1) → F2 B (ps.map (·.1)) ((ps.map (·.2)).map r)
  | [], _ => trivial
  | p :: ps, h => ⟨h p (List.mem_cons_self ..), F2.of_pairs fun q hq => h q (List.mem_cons_of_mem _ hq)⟩
theorem y_sortedD {α : Type} {xs : List α} {r : α → Pr} {enc : α → PyData} {p : Pos} (b : Bi g.X.mg) (h : JE g e Γ (rLs g.X.K (xs.map r))) (hd : ∀ x ∈ xs, HasD g.X.K (r x) (enc x)) (hal : AllAlike (xs.map enc)) (hk : Sortable (xs.map enc)) (hdp : ∀ x ∈ xs, (enc x).depth ≤ 60)
    (hg : Gl g.X "sorted" := by rfl) (he : starEach [e] g.X.env = (false, eval e g.X.env) :: starEach [] g.X.env := by rfl) (hcm : g.X.calm = true := by rfl) : JO g (.Call (.Name "sorted" p) [e] [] pos) Γ (oL ((xs.mergeSort (dataLe false enc)).map r)) :=
  ⟨fun w σ B H s => ofE (pe_callB (cr_sortedD (w.hr hcm).units) hg b.sorted bo_sorted (pa_cons pE pA he) (by decide) (by decide) he rfl) ((h.run w σ B H s).mono fun v H1 ⟨B1, a1, q⟩ => ((a_nil (g := g) (Γ := Γ)).run w σ B1 H1 a1.sta).mono fun vs H2 ⟨B2, a2, f⟩ => by
    have ev : vs = [] := by
      cases vs with
      | nil => rfl
      | cons _ _ => exact f.elim
    subst ev
    obtain ⟨a, ws, e2, ha, f2⟩ := q
    subst e2
    have hlen : ws.length = xs.length := by rw [f2.len, List.length_map]
    have fz := (f2.mono a2.le).zip_mem
    have e1 : (ws.zip xs).map (fun z => z.1) = ws := List.map_fst_zip (by omega)
    have e2 : (ws.zip xs).map (fun z => z.2) = xs := List.map_snd_zip (by omega)
    have e3 : (ws.zip xs).map (fun z => enc z.2) = xs.map enc := by
      have : (ws.zip xs).map (fun z => enc z.2) = ((ws.zip xs).map (fun z => z.2)).map enc := by rw [List.map_map]; rfl
      rw [this, e2]
    refine ⟨a, V × α, ws.zip xs, fun z => z.1, fun z => enc z.2, rfl, by rw [e1]; exact (ha.mono a2.le).sq a2.sta.st.ok, fun z hz => hd z.2 (List.of_mem_zip hz).2 B2 H2 z.1 a2.sta.st.ok (fz z hz), by rw [e3]; exact hal, by rw [e3]; exact hk, fun z hz => hdp z.2 (List.of_mem_zip hz).2, fun l hl => ?_⟩
    have sm : ((ws.zip xs).mergeSort (dataLe false fun z => enc z.2)).map (fun z => z.2) = xs.mergeSort (dataLe false enc) := by
      have := sort_maps (r := dataLe false fun z : V × α => enc z.2) (fun z : V × α => z.2) (s := dataLe false enc) (l := ws.zip xs) (fun a _ b _ => rfl)
      rw [this, e2]
    refine ⟨B2, (a1.trans a2).trans (a2.sta.beside hl), ?_, one_fresh (a1.th (a2.th hl))⟩
    refine own_mk (a2.sta.st.ok.none hl) (a2.sta.st.bnone hl) upd_same ?_
    rw [← sm]
    exact F2.of_pairs fun z hz => fz z ((List.mergeSort_perm _ _).mem_iff.mp hz))⟩
/-! ### tuples of the ground -/
def rTg (rs : List Pr) : Pr := ⟨fun B v => ∃ p vs, v = .ref p ∧ B p = some (.ex (.tup vs)) ∧ F2 B vs rs, fun _ _ _ l ⟨p, vs, e, h, k⟩ => ⟨p, vs, e, l _ _ h, k.mono l⟩⟩
theorem rTg_le {K : PySem.W.Frag} {B : Bs} {v : V} (h : (rTg rs).r B v) : (rTs K rs).r B v := let ⟨p, vs, e, h, k⟩ := h; ⟨p, vs, e, .inl h, k⟩
theorem x_tupG {es : List Expr} {Ps : List Pr} {k : Nat} (h : JA g es Γ Ps) (hl : Ps.length ≤ sizeLine := by exact Nat.le_of_ble_eq_true rfl) : JE g (.Tuple es k pos) Γ (rTg Ps) :=
  ⟨fun w σ B H s => ofE (pe_tup pA) ((h.run w σ B H s).mono fun vs H1 ⟨B1, a1, f⟩ => ⟨by rw [f.len]; exact hl, fun q hq => ⟨_, a1.trans (a1.sta.lay hq), q, vs, rfl, put_same, f.mono (Le.put (a1.sta.st.ok.none hq))⟩⟩)⟩
theorem x_catG1 (hl : rs.length + qs.length ≤ sizeLine) (hq : qs ≠ []) (h1 : JE g e1 Γ (rTs g.X.K rs)) (h2 : JE g e2 Γ (rTg qs)) : JE g (.BinOp e1 .Add e2 pos) Γ (rTg (rs ++ qs)) :=
  x_op (P := rTs g.X.K rs) (Q := rTg qs) op_catA (fun B H v u K k ⟨p, vs, e, a, f⟩ ⟨p2, vs2, e2, a2, f2⟩ c => by
    subst e e2
    refine ⟨p, p2, vs, vs2, rfl, rfl, a.sq k, atT.sq (K := g.X.K) k (.inl a2), by rw [f.len, f2.len]; exact hl, fun z => ?_, fun _ z => ?_, fun _ _ q hq => ?_⟩
    · subst z
      have : rs = [] := by have := f.len; cases rs with
        | nil => rfl
        | cons _ _ => cases this
      subst this
      exact c _ B H (Stp.refl k) ⟨p2, vs2, rfl, a2, f2⟩
    · subst z
      have : qs = [] := by have := f2.len; cases qs with
        | nil => rfl
        | cons _ _ => cases this
      exact absurd this hq
    · exact c _ _ _ (Stp.lay k hq) ⟨q, _, rfl, put_same, (f.append f2).mono (Le.put (k.none hq))⟩) h1 h2
theorem x_catG2 (hl : rs.length + qs.length ≤ sizeLine) (hr : rs ≠ []) (h1 : JE g e1 Γ (rTg rs)) (h2 : JE g e2 Γ (rTs g.X.K qs)) : JE g (.BinOp e1 .Add e2 pos) Γ (rTg (rs ++ qs)) :=
  x_op (P := rTg rs) (Q := rTs g.X.K qs) op_catA (fun B H v u K k ⟨p, vs, e, a, f⟩ ⟨p2, vs2, e2, a2, f2⟩ c => by
    subst e e2
    refine ⟨p, p2, vs, vs2, rfl, rfl, atT.sq (K := g.X.K) k (.inl a), a2.sq k, by rw [f.len, f2.len]; exact hl, fun z => ?_, fun _ z => ?_, fun _ _ q hq => ?_⟩
    · subst z
      have : rs = [] := by have := f.len; cases rs with
        | nil => rfl
        | cons _ _ => cases this
      exact absurd this hr
    · subst z
      have : qs = [] := by have := f2.len; cases qs with
        | nil => rfl
        | cons _ _ => cases this
      subst this
      exact c _ B H (Stp.refl k) ⟨p, vs, rfl, a, by rw [List.append_nil]; exact f⟩
    · exact c _ _ _ (Stp.lay k hq) ⟨q, _, rfl, put_same, (f.append f2).mono (Le.put (k.none hq))⟩) h1 h2
/-! ### a dict with keys that are tuples of ints, one value -/
def keyI (k : List Int) : List L2.Key := k.map Sum.inl
def oDs (ks : List (List Int)) (x : V) : Oc where
  ad := fun v _ => one v
  r := fun B H v => ∃ p, v = .ref p ∧ H p = some (.dT (ks.map fun k => (keyI k, x)))
  mono := fun _ _ _ _ _ h => h
  ast := fun _ _ _ _ => rfl
  rst := fun B H H' v g ⟨p, e, h⟩ => ⟨p, e, by subst e; rw [g p (by simp [one])]; exact h⟩
theorem hard_dT {kvs : List (List L2.Key × V)} : Hard (some (.dT kvs)) := ⟨_, rfl, fun _ h => nomatch h⟩
theorem y_dnewT {x : V} : JO g (.Dict [] [] pos) Γ (oDs [] x) :=
  ⟨fun w σ B H s => ofE pe_dnewT fun p hp => ⟨B, s.beside hp, ⟨fun a ha => by rw [mem_one.mp ha]; exact s.st.ok.none hp, fun a ha => by rw [mem_one.mp ha]; exact s.st.bnone hp, fun a ha => by rw [mem_one.mp ha, upd_same]; exact hard_dT, p, rfl, upd_same⟩, one_fresh hp⟩⟩
theorem keyI_inj {j k : List Int} (h : keyI j = keyI k) : j = k := by
  have e : ∀ l : List Int, (keyI l).map (fun z => match z with
    | .inl i => i
    | .inr _ => 0) = l := fun l => by unfold keyI; rw [List.map_map]; exact List.map_id l
  rw [← e j, ← e k, h]
theorem putK_ints {ks : List (List Int)} {k : List Int} {x : V} : putK (ks.map fun k => (keyI k, x)) (keyI k) x = (if k ∈ ks then ks else ks ++ [k]).map fun k => (keyI k, x) := by
  unfold putK
  have e : ((ks.map fun k => (keyI k, x)).any fun kv => decide (kv.1 = keyI k)) = decide (k ∈ ks) := by
    rw [List.any_map, Bool.eq_iff_iff, List.any_eq_true, decide_eq_true_iff]
    constructor
    · rintro ⟨j, hj, q⟩
      have : keyI j = keyI k := by simpa using q
      rw [← keyI_inj this]; exact hj
    · intro h
      exact ⟨k, h, by simp⟩
  rw [e]
  by_cases h : k ∈ ks
  · rw [if_pos (by simpa using h), if_pos h, List.map_map]
    apply List.map_congr_left
    intro j _
    show (if keyI j = keyI k then (keyI j, x) else (keyI j, x)) = _
    split <;> rfl
  · rw [if_neg (by simpa using h), if_neg h, List.map_append]; rfl
theorem F2.int_list {B : Bs} : ∀ {vs : List V} {k : List Int}, F2 B vs (k.map G.rI) → vs = (keyI k).map kV
  | [], [], _ => rfl
  | v :: vs, i :: k, h => by
    have e : v = .int i := h.1
    rw [e, F2.int_list h.2]; rfl
  | [], _ :: _, h => h.elim
  | _ :: _, [], h => h.elim
theorem F2.of_key {B : Bs} : ∀ k : List Int, F2 B ((keyI k).map kV) (k.map G.rI)
  | [] => trivial
  | _ :: k => ⟨rfl, F2.of_key k⟩
/-- x[k] = v -/
theorem s_dputT (i : Nat) {ks : List (List Int)} {k : List Int} {z : V} {x : Str} {p spos : Pos} (hv' : JE g e Γ (rV z)) (hk : JE g e1 Γ (rTg (k.map G.rI))) (hl : ks.length < sizeLine) (kk : JS g rest (Γ.set i (some (.ow (oDs (if k ∈ ks then ks else ks ++ [k]) z)))) D) (hi : Γ[i]? = some (some (.ow (oDs ks z))) := by rfl) (hN : g.X.N[i]? = some x := by rfl) (hv : Vis g.X.env.scope x := by first | exact Or.inl rfl | exact Or.inr (Or.inl rfl) | exact Or.inr (Or.inr rfl))
    (hd : (x == ("__debug__" : Str)) = false := by decide) (hcd : (x == ("__classdict__" : Str)) = false := by decide) (hs : swapsWith e (some (.Subscript (.Name x p) e1 spos)) pos.line g.X.env = pure false := by rfl) (hcm : g.X.calm = true := by rfl) :
    JS g (.Assign [.Subscript (.Name x p) e1 spos] e pos :: rest) Γ D :=
  js_cons fun w σ B H s => of1 (ps_dput (by have := (w.hr hcm).units; omega) (pe_var hN hv hd hcd) pE pE hs) (by
    obtain ⟨v0, e, o⟩ := s.env.ow i _ hi
    obtain ⟨q, e2, hu⟩ := o.at_
    subst e2
    have nb := o.nb q (mem_one.mpr rfl)
    refine (hv'.run w σ B H s).mono fun v H1 ⟨B1, a1, p1⟩ => ⟨_, e, (hk.run w σ B1 H1 a1.sta).mono fun jv H2 ⟨B2, a2, b, vs, ej, hb, f⟩ => ?_⟩
    have a12 := a1.trans a2
    have hu1 : H2 q = some (.dT (ks.map fun k => (keyI k, z))) := a12.t.keep q _ hu fun φ z => by rw [nb] at z; cases z
    have p1 : v = z := p1
    subst p1 ej
    have hb2 : H2 b = some (.tup ((keyI k).map kV)) := by
      rw [← f.int_list]
      exact (a2.sta.st.ok.ex b _ hb).hard rfl
    refine ⟨q, _, rfl, DPut.t hu1 hb2 (by rw [List.length_map]; exact hl), kk.go w a12.le ?_⟩
    rw [putK_ints]
    exact a12.sta.chg hi e (mem_one.mpr rfl) (fun a m => m) ⟨q, rfl, upd_same⟩)
/-- list(x) -/
theorem y_listDT (i : Nat) {ks : List (List Int)} {z : V} {x : Str} {p px : Pos} (b : Bi g.X.mg) (hi : Γ[i]? = some (some (.ow (oDs ks z))) := by rfl) (hN : g.X.N[i]? = some x := by rfl) (hv : Vis g.X.env.scope x := by first | exact Or.inl rfl | exact Or.inr (Or.inl rfl) | exact Or.inr (Or.inr rfl))
    (hd : (x == ("__debug__" : Str)) = false := by decide) (hcd : (x == ("__classdict__" : Str)) = false := by decide) (hg : Gl g.X "list" := by rfl) (he : starEach [.Name x px] g.X.env = (false, eval (.Name x px) g.X.env) :: starEach [] g.X.env := by rfl) (hcm : g.X.calm = true := by rfl) :
    JO g (.Call (.Name "list" p) [.Name x px] [] pos) Γ (oL (ks.map fun k => rTg (k.map G.rI))) :=
  ⟨fun w σ B H s => ofE (pe_callTy (call_list_dT hcm) hg b.list bo_list (pa_cons (pe_var hN hv hd hcd) pa_nil he) (by decide) (by decide) he rfl) (by
    obtain ⟨v0, e, o⟩ := s.env.ow i _ hi
    obtain ⟨q, e2, hu⟩ := o.at_
    subst e2
    refine ⟨_, e, q, _, rfl, .inl hu, fun l bs hl hk => ?_⟩
    have key : ∀ (kvs : List (List Int)) (cs : List Addr), IsKeys H (kvs.map fun k => (keyI k, z)) cs → (∀ a ∈ cs, ∃ vs, H a = some (.tup vs)) ∧ ∀ B', (∀ a ∈ cs, ∀ vs, H a = some (.tup vs) → B' a = some (.ex (.tup vs))) → F2 B' (cs.map V.ref) (kvs.map fun k => rTg (k.map G.rI)) := by
      intro kvs
      induction kvs with
      | nil => intro cs h; cases h; exact ⟨fun a ha => (by cases ha), fun _ _ => trivial⟩
      | cons k kvs ih =>
        intro cs h
        cases h with
        | cons h1 h2 =>
          rename_i c cs'
          have h1 : H c = some (.tup ((keyI k).map kV)) := h1
          obtain ⟨i1, i2⟩ := ih _ h2
          refine ⟨fun a ha => ?_, fun B' hB => ⟨⟨c, _, rfl, hB c (List.mem_cons_self ..) _ h1, ?_⟩, i2 B' fun a ha => hB a (List.mem_cons_of_mem _ ha)⟩⟩
          · rcases List.mem_cons.mp ha with e | ha
            · subst e; exact ⟨_, h1⟩
            · exact i1 a ha
          · exact F2.of_key k
    obtain ⟨k1, k2⟩ := key ks bs hk
    have t := s.step (Stp.tups s.st.ok k1)
    refine ⟨_, t.trans (t.sta.beside hl), own_mk (t.sta.st.ok.none hl) (t.sta.st.bnone hl) upd_same (k2 _ fun a ha vs hvs => ?_), one_fresh hl⟩
    show (if _ then _ else _) = _
    cases eB : B a with
    | none => rw [if_pos ⟨ha, rfl⟩, hvs]
    | some kd =>
      rw [if_neg (by rintro ⟨_, z⟩; cases z)]
      cases kd with
      | ex u =>
        rcases s.st.ok.ex a u eB with z | ⟨_, o, z⟩
        · rw [hvs] at z; cases z; rfl
        · rw [hvs] at z; cases z
      | iv φ =>
        obtain ⟨o, z, _, n⟩ := s.st.ok.iv a φ eB
        rw [hvs] at z; cases z
        exact absurd rfl (n vs))⟩
end
end G
set_option Elab.async false
set_option linter.all false
set_option maxRecDepth 100000
set_option maxHeartbeats 2000000
namespace G
open PySem L2
section
variable {g : Gx} {Γ : Gm} {P Q R : Pr} {e e1 e2 tg : Expr} {pos p2 : Pos} {D : En} {st : Stmt} {ss rest : List Stmt} {rs qs : List Pr}
/-! ### borrowing for what leans on tuples alone -/
def TupLe (B B' : Bs) : Prop := ∀ a vs, B a = some (.ex (.tup vs)) → B' a = some (.ex (.tup vs))
def FreeT (P : Pr) : Prop := ∀ B B' v, TupLe B B' → P.r B v → P.r B' v
theorem Free.t (h : Free P) : FreeT P := fun B B' v _ k => h B B' v k
theorem ft_V {x : V} : FreeT (rV x) := free_V.t
theorem F2.tup {B B' : Bs} (l : TupLe B B') : ∀ {vs : List V} {rs : List Pr}, (∀ r ∈ rs, FreeT r) → F2 B vs rs → F2 B' vs rs
  | [], [], _, _ => trivial
  | _ :: _, r :: _, h, f => ⟨h r (List.mem_cons_self ..) _ _ _ l f.1, F2.tup l (fun q hq => h q (List.mem_cons_of_mem _ hq)) f.2⟩
  | [], _ :: _, _, f => f.elim
  | _ :: _, [], _, f => f.elim
theorem ft_T {K : PySem.W.Frag} (h : ∀ r ∈ rs, FreeT r) : FreeT (rTs K rs) := fun B B' v l ⟨p, vs, e, a, f⟩ => ⟨p, vs, e, a.imp (l _ _) id, F2.tup l h f⟩
theorem ft_Tg (h : ∀ r ∈ rs, FreeT r) : FreeT (rTg rs) := fun B B' v l ⟨p, vs, e, a, f⟩ => ⟨p, vs, e, l _ _ a, F2.tup l h f⟩
def FreeTO (c : Oc) : Prop := ∀ B B' H v, TupLe B B' → c.r B H v → c.r B' H v
theorem ft_oL (h : ∀ r ∈ rs, FreeT r) : FreeTO (oL rs) := fun B B' H v l ⟨p, vs, e, a, f⟩ => ⟨p, vs, e, a, F2.tup l h f⟩
theorem ft_map {α : Type} {r : α → Pr} {xs : List α} (h : ∀ x, FreeT (r x)) : ∀ q ∈ xs.map r, FreeT q := fun q hq => by
  obtain ⟨x, _, rfl⟩ := List.mem_map.mp hq
  exact h x
theorem delL_tup {b : Base} {c : Oc} {v : V} {B B2 : Bs} {H : Hp} (o : Own b c v B H) (l : Le (putH B H (c.ad v H)) B2) : TupLe B2 (delL B2 (c.ad v H)) := fun a vs h => by
  unfold delL
  by_cases q : a ∈ c.ad v H
  · exfalso
    obtain ⟨u, e, n⟩ := o.th a q
    have := l a _ (putH_in q e)
    rw [h] at this
    cases this
    exact n vs rfl
  · rw [if_neg q]; exact h
theorem x_borT (i : Nat) {c : Oc} (R : Pr) (h : JE g e (Γ.set i (some (.sh R))) P) (hf : FreeT P) (hk : ∀ B H v, (∀ a ∈ c.ad v H, B a = none) → c.r B H v → R.r (putH B H (c.ad v H)) v) (hi : Γ[i]? = some (some (.ow c)) := by rfl) : JE g e Γ P :=
  ⟨fun w σ B H s => by
    obtain ⟨v, e, o, l, s2⟩ := s.hand hi hk
    exact (h.run w σ _ H s2).mono fun u H' ⟨B', a, q⟩ => ⟨_, borrow_back s hi e o a, hf _ _ _ (delL_tup o a.le) q⟩⟩
theorem y_borT (i : Nat) {c d : Oc} (R : Pr) (h : JO g e (Γ.set i (some (.sh R))) d) (hf : FreeTO d) (hk : ∀ B H v, (∀ a ∈ c.ad v H, B a = none) → c.r B H v → R.r (putH B H (c.ad v H)) v) (hi : Γ[i]? = some (some (.ow c)) := by rfl) : JO g e Γ d :=
  ⟨fun w σ B H s => by
    obtain ⟨v, e, o, l, s2⟩ := s.hand hi hk
    refine (h.run w σ _ H s2).mono fun u H' ⟨B', a, q, n⟩ => ⟨_, borrow_back s hi e o a, ⟨fun x hx => ?_, q.nh, q.th, hf _ _ _ _ (delL_tup o a.le) q.at_⟩, n⟩
    unfold delL
    split
    · rfl
    · exact q.nb x hx⟩
theorem l_borT (i : Nat) {elt iter : Expr} {ifs : List Expr} {scope : Scope} {own : List (Str × Nat)} {c d : Oc} (R : Pr) (h : JLc g elt tg iter ifs scope own (Γ.set i (some (.sh R))) d) (hf : FreeTO d) (hk : ∀ B H v, (∀ a ∈ c.ad v H, B a = none) → c.r B H v → R.r (putH B H (c.ad v H)) v) (hi : Γ[i]? = some (some (.ow c)) := by rfl) : JLc g elt tg iter ifs scope own Γ d :=
  ⟨h.ok, fun w σ B H s => by
    obtain ⟨v, e, o, l, s2⟩ := s.hand hi hk
    obtain ⟨tt, ht, r⟩ := h.run w σ _ H s2
    refine ⟨tt, ht, tLc_mono r fun u H' ⟨B', a, q, n⟩ => ⟨_, borrow_back s hi e o a, ⟨fun x hx => ?_, q.nh, q.th, hf _ _ _ _ (delL_tup o a.le) q.at_⟩, n⟩⟩
    unfold delL
    split
    · rfl
    · exact q.nb x hx⟩
end
end G
set_option Elab.async false
set_option linter.all false
set_option maxRecDepth 100000
set_option maxHeartbeats 4000000
namespace G
open PySem PySem.Spec PyProof.Rows L2
/-! ### a tuple times a number -/
theorem tuple_mul1 (l : Addr) (items : Array Value) (n : Nat) (dd : Option Addr) (sl : Array (Option Value)) (u : Tok) :
    Meets (Builtin.«tuple.__mul__» ⟨[.ref l, .int 1 u], []⟩) (fun _ R s => s.heap.get? l = some { cls := .type "tuple", dict := dd, data := .seq items n, slots := sl } ∧
      R (.ok (.ret (Value.ref l))) s) :=
  .of_wp fun prog w A R s h => by
    obtain ⟨hp, g, d, tk, os⟩ := s
    obtain ⟨hl, h⟩ := h
    have f1 := AutoSeq1.idx_int
    have c1 : (items.isEmpty || (1 : Int) == 1) = true := by simp
    wp_walk using wpAny_loadPart' hl
    exact ⟨_, rfl, h⟩
def rRepA (K : PySem.W.Frag) : R2 := fun x y H Q => ∃ l k xs, x = .ref l ∧ y = .int k ∧ SqT K H l xs ∧ xs ≠ [] ∧ 1 ≤ k ∧ k ≤ 1000 ∧ xs.length ≤ 1000 ∧ (k = 1 → Q (.ref l) H) ∧ (2 ≤ k → ∀ p, H p = none → Q (.ref p) (upd H p (.tup (List.replicate k.toNat xs).flatten)))
theorem op_repA {X : Cx} : OpR X (binaryOp .Mult) (rRepA X.K) := by
  intro pins s σ H x y v u Q I rx ry h
  obtain ⟨l, k, xs, rfl, rfl, hT, hne, h1, h2, hz, q1, q2⟩ := h
  by_cases hk : k = 1
  · subst hk
    cases rx
    obtain ⟨t, rfl⟩ := ry
    obtain ⟨its, r, ⟨⟨cls, dd, data, sl⟩, ho, hc, n, hd⟩, hs⟩ := I.tuple hT
    simp only at hc hd
    subst hc hd
    refine wpAny_binaryOp_repeat_ref (T := "tuple") (U := "int") (by decide) ⟨_, ho, rfl⟩ (fun s' => typeIs_int s' 1 t) noFill_tuple_mul F.fills_int_mul F.slot_int_rmul repeat_tuple F.slot_int_index.lookup
      (call_meets F.slot_int_rmul (typeIs_int s 1 t) F.entry_int_rmul (F.args_int_rmul_2 _ _) (int_rmul_tuple 1 t l its.toArray n dd sl)
        ⟨ho, rfl, ⟨_, ho, rfl⟩, call_meets F.slot_tuple_mul ⟨_, ho, rfl⟩ F.entry_tuple_mul (F.args_tuple_mul_2 _ _) (tuple_mul1 l its.toArray n dd sl t) ⟨ho, ?_⟩⟩)
    exact ⟨.ref l, H, I, rfl, q1 rfl⟩
  · exact op_repT pins s σ H _ _ v u Q I rx ry ⟨l, k, xs, rfl, rfl, hT, hne, by omega, h2, hz, q2 (by omega)⟩
section
variable {g : Gx} {Γ : Gm} {P Q R : Pr} {e e1 e2 tg : Expr} {pos p2 : Pos} {D : En} {st : Stmt} {ss rest : List Stmt} {rs qs : List Pr}
theorem F2.rep {B : Bs} {vs : List V} {rs : List Pr} (f : F2 B vs rs) : ∀ n : Nat, F2 B (List.replicate n vs).flatten (List.replicate n rs).flatten
  | 0 => trivial
  | n + 1 => by
    rw [List.replicate_succ, List.replicate_succ, List.flatten_cons, List.flatten_cons]
    exact f.append (F2.rep f n)
theorem x_repT {k : Int} (h0 : 1 ≤ k) (hk : k ≤ 1000) (hne : rs ≠ []) (hl : rs.length ≤ 1000) (h1 : JE g e1 Γ (rTs g.X.K rs)) (h2 : JE g e2 Γ (rI k)) : JE g (.BinOp e1 .Mult e2 pos) Γ (rTs g.X.K (List.replicate k.toNat rs).flatten) :=
  x_op (P := rTs g.X.K rs) (Q := rI k) op_repA (fun B H v u K kk ⟨p, vs, e, a, f⟩ q c => by
    have q : u = .int k := q
    subst e q
    have hv : vs ≠ [] := by
      rintro rfl
      have := f.len
      cases rs with
      | nil => exact hne rfl
      | cons _ _ => cases this
    refine ⟨p, k, vs, rfl, rfl, a.sq kk, hv, h0, hk, by rw [f.len]; exact hl, fun z => ?_, fun _ q hq => ?_⟩
    · subst z
      refine c _ B H (Stp.refl kk) ⟨p, vs, rfl, a, ?_⟩
      have : (List.replicate (1 : Int).toNat rs).flatten = rs := by
        show (List.replicate 1 rs).flatten = rs
        simp
      rw [this]; exact f
    · exact c _ _ _ (Stp.lay kk hq) ⟨q, _, rfl, .inl put_same, (f.mono (Le.put (kk.none hq))).rep _⟩) h1 h2
/-- a comprehension of all, each by q -/
theorem y_mapM {α : Type} {xs : List α} {r : α → Pr} {elt iter : Expr} {scope : Scope} (own : List (Str × Nat)) {Γ2 : α → Gm} (q : α → Pr) {sl : List Nat} (hI : JM g tg iter Γ xs r) (hn : xs.length < sizeLine)
    (hg : AnyB scope g fun g' => ∀ x, x ∈ xs → JG g' tg (r x) (wipeG Γ (own.map (·.2))) (Γ2 x) sl) (he : AnyB scope g fun g' => ∀ x, x ∈ xs → JE g' elt (Γ2 x) (q x))
    (hsl : ∀ i ∈ sl, i ∈ own.map (·.2) := by decide) (ok : BlkOk g.X.N g.X.env.scope scope own := by exact blkOk_by (by rfl)) (hs : ∀ x, foldedSetIterable iter g.X.env x = pure x := by intro _; rfl) (hcm : g.X.calm = true := by rfl) : JO g (.ListComp elt [⟨tg, iter, [], 0⟩] scope pos) Γ (oL (xs.map q)) := by
  have := y_lcM (pos := pos) (xs := xs) (r := r) own (fun _ => true) q hI hn hg (fun s H C cl fp x hx => ts_no) (fun s H C cl fp x hx _ => he s H C cl fp x hx) hsl ok hs hcm
  rwa [List.filter_eq_self.mpr (fun _ _ => rfl)] at this
end
end G
set_option Elab.async false
set_option linter.all false
set_option maxRecDepth 100000
set_option maxHeartbeats 4000000
namespace G
open PySem L2
/-- the greatest of some ints that are not none -/
def lmax : List Int → Int
  | [] => 0
  | x :: xs => xs.foldl max x
theorem foldl_max (xs : List Int) : ∀ x : Int, (xs.foldl max x = x ∨ xs.foldl max x ∈ xs) ∧ x ≤ xs.foldl max x ∧ ∀ y ∈ xs, y ≤ xs.foldl max x := by
  induction xs with
  | nil => intro x; exact ⟨.inl rfl, Int.le_refl _, fun y hy => (by cases hy)⟩
  | cons z xs ih =>
    intro x
    rw [List.foldl_cons]
    obtain ⟨a, b, c⟩ := ih (max x z)
    refine ⟨?_, by omega, fun y hy => ?_⟩
    · rcases a with a | a
      · rw [a]
        rcases Int.le_total x z with q | q
        · rw [Int.max_eq_right q]; exact .inr (List.mem_cons_self ..)
        · rw [Int.max_eq_left q]; exact .inl rfl
      · exact .inr (List.mem_cons_of_mem _ a)
    · rcases List.mem_cons.mp hy with e | hy
      · subst e; omega
      · exact c y hy
theorem lmax_mem {ns : List Int} (h : ns ≠ []) : lmax ns ∈ ns := by
  cases ns with
  | nil => exact absurd rfl h
  | cons x xs =>
    rcases (foldl_max xs x).1 with e | e
    · show xs.foldl max x ∈ _; rw [e]; exact List.mem_cons_self ..
    · exact List.mem_cons_of_mem _ e
theorem lmax_ge {ns : List Int} {x : Int} (h : x ∈ ns) : x ≤ lmax ns := by
  cases ns with
  | nil => cases h
  | cons y xs =>
    rcases List.mem_cons.mp h with e | e
    · subst e; exact (foldl_max xs x).2.1
    · exact (foldl_max xs y).2.2 x e
section
variable {g : Gx} {Γ : Gm} {P Q R : Pr} {e e1 e2 tg : Expr} {pos p2 : Pos} {D : En} {st : Stmt} {ss rest : List Stmt} {rs qs : List Pr}
theorem x_maxL {ns : List Int} {p : Pos} (b : Bi g.X.mg) (hne : ns ≠ []) (h : JE g e Γ (rLs g.X.K (ns.map rI))) (hg : Gl g.X "max" := by rfl) (he : starEach [e] g.X.env = (false, eval e g.X.env) :: starEach [] g.X.env := by rfl) (hcm : g.X.calm = true := by rfl) : JE g (.Call (.Name "max" p) [e] [] pos) Γ (rI (lmax ns)) :=
  x_cb (r := rMax g.X.K) b.max (fun w => cr_max hcm) bo_max (fun B H vs K k f c => by
    obtain ⟨v, rfl, q, ws, e2, a, f2⟩ := f.one
    have := f2.ints
    subst this
    refine ⟨q, ns, by rw [e2], a.sq k, List.length_pos_iff.mpr hne, fun m h1 h2 => c _ B H (Stp.refl k) ?_⟩
    have : m = lmax ns := Int.le_antisymm (lmax_ge h1) (h2 _ (lmax_mem hne))
    rw [this]; rfl) (a_cons h a_nil he) hg (by decide) (by decide) he rfl
/-- x in xs, x not in xs: data -/
theorem o_inD {d : PyData} {ds : List PyData} (h1 : HasD g.X.K P d) (h2 : HasD g.X.K Q (.list ds)) (s1 : SeqAt.shaped d = true) (s2 : SeqAt.shaped (.list ds) = true) : Op2 g.X (rInD g.X.K) P Q (rB (ds.any fun z => PyData.eqv z d)) := fun B H v u K k p q c => ⟨d, ds, h1 B H v k p, h2 B H u k q, s1, s2, c _ B H (Stp.refl k) rfl⟩
theorem o_notInD {d : PyData} {ds : List PyData} (h1 : HasD g.X.K P d) (h2 : HasD g.X.K Q (.list ds)) (s1 : SeqAt.shaped d = true) (s2 : SeqAt.shaped (.list ds) = true) : Op2 g.X (rNotInD g.X.K) P Q (rB (!ds.any fun z => PyData.eqv z d)) := fun B H v u K k p q c => ⟨d, ds, h1 B H v k p, h2 B H u k q, s1, s2, c _ B H (Stp.refl k) rfl⟩
theorem Gx.Wf.u65 (w : g.Wf) (hcm : g.X.calm = true) : g.X.A.units + 65 < cLine := by have := (w.hr hcm).un; omega
theorem x_inD {d : PyData} {ds : List PyData} (h1 : JE g e1 Γ P) (h2 : JE g e2 Γ Q) (k1 : HasD g.X.K P d) (k2 : HasD g.X.K Q (.list ds)) (s1 : SeqAt.shaped d = true) (s2 : SeqAt.shaped (.list ds) = true) (hm : behindInMarks .In e2 = false := by rfl) (hcm : g.X.calm = true := by rfl) : JE g (.Compare e1 [.In] [e2] pos) Γ (rB (ds.any fun z => PyData.eqv z d)) := x_cmpW (fun w => op_inD (w.u65 hcm)) (o_inD k1 k2 s1 s2) h1 h2 hm
theorem t_inD {d : PyData} {ds : List PyData} (h1 : JE g e1 Γ P) (h2 : JE g e2 Γ Q) (k1 : HasD g.X.K P d) (k2 : HasD g.X.K Q (.list ds)) (s1 : SeqAt.shaped d = true) (s2 : SeqAt.shaped (.list ds) = true) (hm : behindInMarks .In e2 = false := by rfl) (hcm : g.X.calm = true := by rfl) : JT g (.Compare e1 [.In] [e2] pos) Γ (ds.any fun z => PyData.eqv z d) := t_cmpW (fun w => op_inD (w.u65 hcm)) (o_inD k1 k2 s1 s2) h1 h2 hm
theorem x_notInD {d : PyData} {ds : List PyData} (h1 : JE g e1 Γ P) (h2 : JE g e2 Γ Q) (k1 : HasD g.X.K P d) (k2 : HasD g.X.K Q (.list ds)) (s1 : SeqAt.shaped d = true) (s2 : SeqAt.shaped (.list ds) = true) (hm : behindInMarks .NotIn e2 = false := by rfl) (hcm : g.X.calm = true := by rfl) : JE g (.Compare e1 [.NotIn] [e2] pos) Γ (rB (!ds.any fun z => PyData.eqv z d)) := x_cmpW (fun w => op_notInD (w.u65 hcm)) (o_notInD k1 k2 s1 s2) h1 h2 hm
theorem t_notInD {d : PyData} {ds : List PyData} (h1 : JE g e1 Γ P) (h2 : JE g e2 Γ Q) (k1 : HasD g.X.K P d) (k2 : HasD g.X.K Q (.list ds)) (s1 : SeqAt.shaped d = true) (s2 : SeqAt.shaped (.list ds) = true) (hm : behindInMarks .NotIn e2 = false := by rfl) (hcm : g.X.calm = true := by rfl) : JT g (.Compare e1 [.NotIn] [e2] pos) Γ (!ds.any fun z => PyData.eqv z d) := t_cmpW (fun w => op_notInD (w.u65 hcm)) (o_notInD k1 k2 s1 s2) h1 h2 hm
/-- a new list of two whole numbers becomes a pot -/
theorem JO.pot {φ ψ : Int → Prop} (h : JO g e Γ (oL [rIx φ, rIx ψ])) : JE g e Γ (rPot φ ψ) :=
  ⟨fun w σ B H s => (h.run w σ B H s).mono fun v H' ⟨B', a, o, n⟩ => by
    obtain ⟨p, vs, e2, nb, nh, hp, f⟩ := own_one o
    subst e2
    obtain ⟨v1, v2, rfl, ⟨x, ha, ea⟩, ⟨y, hb, eb⟩⟩ := f.two
    have ea : v1 = .int x := ea
    have eb : v2 = .int y := eb
    subst ea eb
    have np : H p = none := n p (mem_one.mpr rfl)
    have l : Le B' (put B' p (.iv (IsPot φ ψ))) := Le.put nb
    have t : Stp B H (put B' p (.iv (IsPot φ ψ))) H' := {
      le := a.le.trans l
      ok := ⟨fun z u e => by
        by_cases q : z = p
        · subst q; rw [put_same] at e; cases e
        · rw [put_ne q] at e; exact a.sta.st.ok.ex z u e, fun z χ e => by
        by_cases q : z = p
        · subst q; rw [put_same] at e; cases e; exact ⟨_, hp, ⟨x, y, rfl, ha, hb⟩, fun _ h => nomatch h⟩
        · rw [put_ne q] at e; exact a.sta.st.ok.iv z χ e⟩
      keep := a.t.keep
      there := a.t.there
      new := fun z e k' m => by
        by_cases q : z = p
        · subst q; exact .inl np
        · rw [put_ne q] at m; exact a.t.new z e k' m }
    exact ⟨_, s.step t, p, rfl, put_same⟩⟩
/-- [a] + xs and such, laid on the ground -/
theorem x_catL (hl : rs.length + qs.length ≤ sizeLine) (h1 : JE g e1 Γ (rLs g.X.K rs)) (h2 : JE g e2 Γ (rLs g.X.K qs)) : JE g (.BinOp e1 .Add e2 pos) Γ (rLs g.X.K (rs ++ qs)) := (y_catL hl h1 h2).fz
end
end G
set_option Elab.async false
set_option linter.all false
set_option maxRecDepth 100000
set_option maxHeartbeats 4000000
namespace G
open PySem L2
/-! ### an own thing borrowed by a statement -/
def Pr.pin (v : Option V) (P : Pr) : Pr := ⟨fun B u => some u = v ∧ P.r B u, fun _ _ _ l ⟨a, h⟩ => ⟨a, P.mono _ _ _ l h⟩⟩
def pinS (v : Option V) : Option Sl → Option Sl
  | some (.sh P) => some (.sh (P.pin v))
  | s => s
def pins (f : Nat → Option V) : Nat → Gm → Gm
  | _, [] => []
  | k, s :: r => pinS (f k) s :: pins f (k + 1) r
theorem pins_get (f : Nat → Option V) : ∀ (Γ : Gm) (k i : Nat), (pins f k Γ)[i]? = (Γ[i]?).map (pinS (f (k + i)))
  | [], k, i => by simp [pins]
  | s :: r, k, 0 => by simp [pins]
  | s :: r, k, i + 1 => by
    have := pins_get f r (k + 1) i
    show (pins f (k + 1) r)[i]? = _
    rw [this]
    have : k + 1 + i = k + (i + 1) := by omega
    rw [this]; simp
theorem pins_len (f : Nat → Option V) : ∀ (Γ : Gm) (k : Nat), (pins f k Γ).length = Γ.length
  | [], k => rfl
  | s :: r, k => by simp [pins, pins_len f r]
/-- the slots of Δ are Γ's, or dropped -/
def Drop : Gm → Gm → Prop
  | [], [] => True
  | a :: Γ, b :: Δ => (b = a ∨ b = none) ∧ Drop Γ Δ
  | _, _ => False
theorem Drop.get : ∀ {Γ Δ : Gm}, Drop Γ Δ → ∀ {i : Nat} {x : Sl}, Δ[i]? = some (some x) → Γ[i]? = some (some x)
  | [], [], _, i, x, e => by simp at e
  | a :: Γ, b :: Δ, h, 0, x, e => by
    have e : b = some x := by simpa using e
    rcases h.1 with q | q
    · rw [e] at q; simpa using q.symm
    · rw [e] at q; cases q
  | a :: Γ, b :: Δ, h, i + 1, x, e => by simpa using Drop.get h.2 (i := i) (by simpa using e)
  | [], _ :: _, h, _, _, _ => h.elim
  | _ :: _, [], h, _, _, _ => h.elim
theorem Drop.refl : ∀ Γ : Gm, Drop Γ Γ
  | [] => trivial
  | _ :: r => ⟨.inl rfl, Drop.refl r⟩
section
variable {g : Gx} {Γ Δ : Gm} {P Q R : Pr} {e e1 e2 tg : Expr} {pos p2 : Pos} {D : En} {st : Stmt} {ss rest : List Stmt} {rs qs : List Pr}
theorem JE.unpin {v : Option V} (h : JE g e Γ (P.pin v)) : JE g e Γ P := h.imp fun _ _ z => z.2
/-- no other own thing -/
def OneOwn (i : Nat) (Γ : Gm) : Prop := ∀ j c, Γ[j]? = some (some (.ow c)) → j = i
def soleOwn : Nat → Nat → Gm → Bool
  | _, _, [] => true
  | i, k, some (.ow _) :: r => (i == k) && soleOwn i (k + 1) r
  | i, k, _ :: r => soleOwn i (k + 1) r
theorem soleOwn_ok : ∀ (i k : Nat) (Γ : Gm), soleOwn i k Γ = true → ∀ j c, Γ[j]? = some (some (.ow c)) → k + j = i
  | i, k, [], _, j, c, e => by simp at e
  | i, k, some (.ow d) :: r, h, 0, c, e => by
    simp only [soleOwn, Bool.and_eq_true, beq_iff_eq] at h
    omega
  | i, k, some (.ow d) :: r, h, j + 1, c, e => by
    simp only [soleOwn, Bool.and_eq_true, beq_iff_eq] at h
    have := soleOwn_ok i (k + 1) r h.2 j c (by simpa using e)
    omega
  | i, k, some (.sh d) :: r, h, 0, c, e => by simp at e
  | i, k, none :: r, h, 0, c, e => by simp at e
  | i, k, some (.sh d) :: r, h, j + 1, c, e => by
    have := soleOwn_ok i (k + 1) r h j c (by simpa using e)
    omega
  | i, k, none :: r, h, j + 1, c, e => by
    have := soleOwn_ok i (k + 1) r h j c (by simpa using e)
    omega
/-- what is known where an own thing is lent -/
structure Bor (g : Gx) (Γ : Gm) (i : Nat) (c : Oc) where
  σ : L2.St
  B : Bs
  H : Hp
  v : V
  s : Sta g.b Γ σ B H
  hi : Γ[i]? = some (some (.ow c))
  e : σ[i]? = some (some v)
  o : Own g.b c v B H
variable {i : Nat} {c : Oc}
def Bor.f (b : Bor g Γ i c) (j : Nat) : Option V := (b.σ[j]?).join
def Bor.B1 (b : Bor g Γ i c) : Bs := putH b.B b.H (c.ad b.v b.H)
def Bor.pr (b : Bor g Γ i c) (R : Pr) : Pr := ⟨fun B' u => R.r B' u ∧ Le b.B1 B', fun _ _ _ l ⟨h, k⟩ => ⟨R.mono _ _ _ l h, k.trans l⟩⟩
def Bor.en (b : Bor g Γ i c) (D : En) : En := { nx := fun _ => D.nx b.B, rt := D.rt, bk := fun _ => D.bk b.B, ct := fun _ => D.ct b.B }
abbrev Bor.gm (b : Bor g Γ i c) (R : Pr) (Δ : Gm) : Gm := pins b.f 0 (Δ.set i (some (.sh (b.pr R))))
theorem JE.lent {b : Bor g Γ i c} {v : Option V} (h : JE g e Δ ((b.pr R).pin v)) : JE g e Δ R := h.imp fun _ _ z => z.2.1
theorem s_bor (i : Nat) {c : Oc} (R : Pr) (h : ∀ b : Bor g Γ i c, JS g ss (b.gm R Γ) (b.en D)) (hk : ∀ B H v, (∀ a ∈ c.ad v H, B a = none) → c.r B H v → R.r (putH B H (c.ad v H)) v) (hi : Γ[i]? = some (some (.ow c)) := by rfl) : JS g ss Γ D :=
  ⟨fun w σ B H s => by
    obtain ⟨v0, e, o, l, s2⟩ := s.hand hi hk
    let b : Bor g Γ i c := ⟨σ, B, H, v0, s, hi, e, o⟩
    have il : i < Γ.length := (List.getElem?_eq_some_iff.mp hi).1
    have sl : ∀ {j : Nat} {x : Option Sl}, (b.gm R Γ)[j]? = some x → ∃ y, (Γ.set i (some (.sh (b.pr R))))[j]? = some y ∧ pinS (b.f j) y = x := fun {j x} hj => by
      rw [pins_get, Nat.zero_add] at hj
      cases q : (Γ.set i (some (.sh (b.pr R))))[j]? with
      | none => rw [q] at hj; cases hj
      | some y => rw [q] at hj; exact ⟨y, rfl, by simpa using hj⟩
    have own : ∀ {j : Nat} {d : Oc}, (b.gm R Γ)[j]? = some (some (.ow d)) → (Γ.set i (some (.sh R)))[j]? = some (some (.ow d)) := fun {j d} hj => by
      obtain ⟨y, q, z⟩ := sl hj
      cases y with
      | none => cases z
      | some y =>
        cases y with
        | sh P => cases z
        | ow d' =>
          cases z
          rcases set_get q with ⟨_, z⟩ | ⟨q1, z⟩
          · cases z
          · rw [List.getElem?_set_ne q1]; exact z
    have s3 : Sta g.b (b.gm R Γ) σ (putH B H (c.ad v0 H)) H := ⟨s2.st, {
      len := by rw [pins_len, List.length_set]; exact s.env.len
      sh := fun j r hj => by
        obtain ⟨y, q, z⟩ := sl hj
        cases y with
        | none => cases z
        | some y =>
          cases y with
          | ow d => cases z
          | sh P =>
            have zz : P.pin (b.f j) = r := by simpa [pinS] using z
            clear z
            subst zz
            rcases set_get q with ⟨q1, z⟩ | ⟨q1, z⟩
            · subst q1
              have zz : b.pr R = P := by simpa using z
              subst zz
              obtain ⟨u, e2, z⟩ := s2.env.sh i R (by rw [List.getElem?_set_self il])
              exact ⟨u, e2, by show some u = (σ[i]?).join; rw [e2]; rfl, z, Le.refl _⟩
            · obtain ⟨u, e2, z⟩ := s2.env.sh j P (by rw [List.getElem?_set_ne q1]; exact z)
              exact ⟨u, e2, by show some u = (σ[j]?).join; rw [e2]; rfl, z⟩
      ow := fun j d hj => s2.env.ow j d (own hj)
      dis := fun j m d d' v1 v2 a h1 h2 => s2.env.dis j m d d' v1 v2 a (own h1) (own h2) }⟩
    exact (h b).run w σ _ H s3⟩
theorem s_take (b : Bor g Γ i c) {R : Pr} (k : JS g rest (Δ.set i (some (.ow c))) D) (hd : Drop Γ Δ) (hl : ∀ B H v, c.r B H v → ∀ a ∈ c.ad v H, ∀ u, H a = some u → lk u = false) (hs : soleOwn i 0 Δ = true := by rfl) (hj : i < Δ.length := by exact Nat.le_of_ble_eq_true rfl) : JS g rest (b.gm R Δ) (b.en D) :=
  ⟨fun w σ' B' H' s' => by
    obtain ⟨u, eu, hp, _, le⟩ := s'.env.sh i ((b.pr R).pin (b.f i)) (by rw [pins_get, Nat.zero_add, List.getElem?_set_self hj]; rfl)
    have hp : some u = (b.σ[i]?).join := hp
    rw [b.e] at hp
    have hp : u = b.v := by simpa using hp
    subst hp
    have agree : ∀ a ∈ c.ad b.v b.H, H' a = b.H a := fun a ha => by
      obtain ⟨x, ex, _⟩ := b.o.th a ha
      have q := s'.st.ok.ex a x (le a _ (putH_in ha ex))
      rw [q.hard (hl _ _ _ b.o.at_ a ha x ex), ex]
    have ad' : c.ad b.v H' = c.ad b.v b.H := c.ast _ _ _ agree
    have lB : Le b.B (delL B' (c.ad b.v b.H)) := fun x k e => by
      have ne : x ∉ c.ad b.v b.H := fun m => by rw [b.o.nb x m] at e; cases e
      unfold delL
      rw [if_neg ne]
      exact le x k (by unfold Bor.B1; rw [putH_out ne]; exact e)
    have hl' : Le (delL B' (c.ad b.v b.H)) B' := fun x k e => by
      unfold delL at e
      by_cases q : x ∈ c.ad b.v b.H
      · rw [if_pos q] at e; cases e
      · rw [if_neg q] at e; exact e
    have st : Stp g.b.B g.b.H (delL B' (c.ad b.v b.H)) H' := {
      le := b.s.st.le.trans lB
      ok := ⟨fun x u e => s'.st.ok.ex x u (hl' x _ e), fun x φ e => s'.st.ok.iv x φ (hl' x _ e)⟩
      keep := s'.st.keep
      there := s'.st.there
      new := fun x n k e => s'.st.new x n k (hl' x k e) }
    have own : Own g.b c b.v (delL B' (c.ad b.v b.H)) H' := ⟨fun a ha => by rw [ad'] at ha; unfold delL; rw [if_pos ha], fun a ha => b.o.nh a (ad' ▸ ha), fun a ha => by rw [agree a (ad' ▸ ha)]; exact b.o.th a (ad' ▸ ha), c.mono _ _ _ _ lB (c.rst _ _ _ _ agree b.o.at_)⟩
    have sole : ∀ {j : Nat} {d : Oc}, (Δ.set i (some (.ow c)))[j]? = some (some (.ow d)) → j = i := fun {j d} hj => by
      rcases set_get hj with ⟨q, _⟩ | ⟨q, z⟩
      · exact q.symm
      · have := soleOwn_ok i 0 Δ hs j d z; omega
    refine (k.run w σ' _ H' ⟨st, ⟨?_, fun j r hjr => ?_, fun j d hjd => ?_, fun j m d d' v1 v2 a h1 h2 _ _ _ _ => (sole h1).trans (sole h2).symm⟩⟩).mono (D.anti lB)
    · have := s'.env.len; rw [pins_len, List.length_set] at this; rw [List.length_set]; exact this
    · rcases set_get hjr with ⟨q, z⟩ | ⟨q, z⟩
      · cases z
      · obtain ⟨u2, e2, hp2, _⟩ := s'.env.sh j (r.pin (b.f j)) (by rw [pins_get, Nat.zero_add, List.getElem?_set_ne q, z]; rfl)
        obtain ⟨u3, e3, h3⟩ := b.s.env.sh j r (hd.get z)
        have hp2 : some u2 = (b.σ[j]?).join := hp2
        rw [e3] at hp2
        have hp2 : u2 = u3 := by simpa using hp2
        subst hp2
        exact ⟨u2, e2, r.mono _ _ _ lB h3⟩
    · have q := sole hjd
      subst q
      rw [List.getElem?_set_self hj] at hjd
      cases hjd
      exact ⟨b.v, eu, own⟩⟩
/-- lists are not locked -/
theorem nl_oLL {rss : List (List Pr)} : ∀ B H v, (oLL rss).r B H v → ∀ a ∈ (oLL rss).ad v H, ∀ u, H a = some u → lk u = false := fun B H v ⟨p, vs, e, h, n, k⟩ a ha u hu => by
  subst e
  have ea : (oLL rss).ad (.ref p) H = p :: vs.flatMap one := adLL_at h
  rw [ea] at ha
  rcases List.mem_cons.mp ha with q | q
  · subst q; rw [h] at hu; cases hu; rfl
  · have key : ∀ {vs : List V} {rss : List (List Pr)}, RowsOk B H vs rss → ∀ a ∈ vs.flatMap one, ∀ u, H a = some u → lk u = false := by
      intro vs
      induction vs with
      | nil => intro rss _ a ha; simp at ha
      | cons v vs ih =>
        intro rss h a ha u hu
        cases rss with
        | nil => exact h.elim
        | cons rs rss =>
          obtain ⟨⟨a', ws, e, h1, _⟩, k⟩ := h
          subst e
          rw [List.flatMap_cons] at ha
          rcases List.mem_append.mp ha with m | m
          · rw [mem_one.mp m, h1] at hu; cases hu; rfl
          · exact ih k a m u hu
    exact key k a q u hu
theorem nl_oL {rs : List Pr} : ∀ B H v, (oL rs).r B H v → ∀ a ∈ (oL rs).ad v H, ∀ u, H a = some u → lk u = false := fun B H v ⟨p, vs, e, h, k⟩ a ha u hu => by
  subst e
  rw [mem_one.mp ha, h] at hu; cases hu; rfl
end
end G
set_option Elab.async false
set_option linter.all false
set_option maxRecDepth 100000
set_option maxHeartbeats 4000000
namespace G
open PySem L2
/-- the least of some ints that are not none -/
def lmin : List Int → Int
  | [] => 0
  | x :: xs => xs.foldl min x
theorem foldl_min (xs : List Int) : ∀ x : Int, (xs.foldl min x = x ∨ xs.foldl min x ∈ xs) ∧ xs.foldl min x ≤ x ∧ ∀ y ∈ xs, xs.foldl min x ≤ y := by
  induction xs with
  | nil => intro x; exact ⟨.inl rfl, Int.le_refl _, fun y hy => (by cases hy)⟩
  | cons z xs ih =>
    intro x
    rw [List.foldl_cons]
    obtain ⟨a, b, c⟩ := ih (min x z)
    refine ⟨?_, by omega, fun y hy => ?_⟩
    · rcases a with a | a
      · rw [a]
        rcases Int.le_total x z with q | q
        · rw [Int.min_eq_left q]; exact .inl rfl
        · rw [Int.min_eq_right q]; exact .inr (List.mem_cons_self ..)
      · exact .inr (List.mem_cons_of_mem _ a)
    · rcases List.mem_cons.mp hy with e | hy
      · subst e; omega
      · exact c y hy
theorem lmin_mem {ns : List Int} (h : ns ≠ []) : lmin ns ∈ ns := by
  cases ns with
  | nil => exact absurd rfl h
  | cons x xs =>
    rcases (foldl_min xs x).1 with e | e
    · show xs.foldl min x ∈ _; rw [e]; exact List.mem_cons_self ..
    · exact List.mem_cons_of_mem _ e
theorem lmin_le {ns : List Int} {x : Int} (h : x ∈ ns) : lmin ns ≤ x := by
  cases ns with
  | nil => cases h
  | cons y xs =>
    rcases List.mem_cons.mp h with e | e
    · subst e; exact (foldl_min xs x).2.1
    · exact (foldl_min xs y).2.2 x e
section
variable {g : Gx} {Γ : Gm} {P Q R : Pr} {e e1 e2 tg : Expr} {pos p2 : Pos} {D : En} {st : Stmt} {ss rest : List Stmt} {rs qs : List Pr}
theorem x_minL {ns : List Int} {p : Pos} (b : Bi g.X.mg) (hne : ns ≠ []) (h : JE g e Γ (rLs g.X.K (ns.map rI))) (hg : Gl g.X "min" := by rfl) (he : starEach [e] g.X.env = (false, eval e g.X.env) :: starEach [] g.X.env := by rfl) (hcm : g.X.calm = true := by rfl) : JE g (.Call (.Name "min" p) [e] [] pos) Γ (rI (lmin ns)) :=
  x_cb (r := rMin g.X.K) b.min (fun w => cr_min hcm) bo_min (fun B H vs K k f c => by
    obtain ⟨v, rfl, q, ws, e2, a, f2⟩ := f.one
    have := f2.ints
    subst this
    refine ⟨q, ns, by rw [e2], a.sq k, List.length_pos_iff.mpr hne, fun m h1 h2 => c _ B H (Stp.refl k) ?_⟩
    have : m = lmin ns := Int.le_antisymm (h2 _ (lmin_mem hne)) (lmin_le h1)
    rw [this]; rfl) (a_cons h a_nil he) hg (by decide) (by decide) he rfl
/-- // by a wide divisor, by words -/
theorem x_fdivWx {φ ψ : Int → Prop} {j : Int} (hj : CDivW 0 j) (h : ∀ i, φ i → ψ (i / j)) (h1 : JE g e1 Γ (rIx φ)) (h2 : JE g e2 Γ (rI j)) : JE g (.BinOp e1 .FloorDiv e2 pos) Γ (rIx ψ) :=
  (x_op op_fdivW (o_Ix (φ := φ) (ψ := fun k => k = j) (C := CDivW) (f := fun i j => i / j) fun i k _ e => by subst e; exact hj) h1 h2.ix).iw fun k ⟨i, l, p, e, q⟩ => by subst e q; exact h i p
end
end G
set_option Elab.async false
set_option linter.all false
set_option maxRecDepth 100000
set_option maxHeartbeats 4000000
namespace G
open PySem L2
section
variable {g : Gx} {Γ : Gm} {P Q R : Pr} {e e1 e2 tg : Expr} {pos p2 : Pos} {D : En} {st : Stmt} {ss rest : List Stmt} {rs qs : List Pr}
/-- bools of which words only are known -/
abbrev rBx (φ : Bool → Prop) : Pr := Pr.exs φ rB
theorem x_gtx {φ : Int → Prop} {i : Int} (h1 : JE g e1 Γ (rIx φ)) (h2 : JE g e2 Γ (rI i)) : JE g (.Compare e1 [.Gt] [e2] pos) Γ (rBx fun _ => True) :=
  x_cmpV (P := rIx φ) (Q := rI i) op_gt (fun B H v u K k ⟨z, hz, ez⟩ eu c => ⟨z, i, ez, eu, c _ B H (Stp.refl k) ⟨_, trivial, rfl⟩⟩) h1 h2
theorem x_eqIx {φ : Int → Prop} {i : Int} (h1 : JE g e1 Γ (rIx φ)) (h2 : JE g e2 Γ (rI i)) : JE g (.Compare e1 [.Eq] [e2] pos) Γ (rBx fun c => ∃ z, φ z ∧ c = decide (z = i)) :=
  x_cmpV (P := rIx φ) (Q := rI i) op_eq (fun B H v u K k ⟨z, hz, ez⟩ eu c => by
    have ez : v = .int z := ez
    have eu : u = .int i := eu
    subst ez eu
    exact ⟨rfl, c _ B H (Stp.refl k) ⟨decide (z = i), ⟨z, hz, rfl⟩, by show V.bl _ = V.bl _; rw [dI]⟩⟩) h1 h2
theorem x_orx {c : Bool} {rest : List Expr} {ψ : Bool → Prop} (h : JE g e Γ (rB c)) (k : JE g (.BoolOp .Or (e1 :: rest) pos) Γ (rBx ψ)) : JE g (.BoolOp .Or (e :: e1 :: rest) pos) Γ (rBx fun d => (c = true ∧ d = true) ∨ (c = false ∧ ψ d)) :=
  ⟨fun w σ B H s => ofE (pe_or pE pE) ((h.run w σ B H s).mono fun v H1 ⟨B1, a1, p⟩ => ⟨c, p, by
    cases c with
    | false => rw [if_neg (by decide)]; exact (k.run w σ B1 H1 a1.sta).mono fun u H2 ⟨B2, a2, d, hd, q⟩ => ⟨B2, a1.trans a2, d, .inr ⟨rfl, hd⟩, q⟩
    | true => rw [if_pos rfl]; exact ⟨B1, a1, true, .inl ⟨rfl, rfl⟩, rfl⟩⟩)⟩
theorem x_intBx {φ : Bool → Prop} {p : Pos} (b : Bi g.X.mg) (h : JE g e Γ (rBx φ)) (hg : Gl g.X "int" := by rfl) (he : starEach [e] g.X.env = (false, eval e g.X.env) :: starEach [] g.X.env := by rfl) : JE g (.Call (.Name "int" p) [e] [] pos) Γ (Pr.exs φ fun c => rI (if c then 1 else 0)) :=
  x_cty (r := fun xs H Q => (∃ i, xs = [.int i] ∧ Q (.int i) H) ∨ ∃ k, xs = [.bl k] ∧ Q (.int (if k then 1 else 0)) H) b.int (fun _ => call_int1) bo_int (fun B H vs K k f q => by
    obtain ⟨v, rfl, c, hc, h⟩ := f.one
    have h : v = .bl c := h
    subst h
    exact .inr ⟨c, rfl, q _ B H (Stp.refl k) ⟨c, hc, rfl⟩⟩) (a_cons h a_nil he) hg (by decide) (by decide) he rfl
/-- an own list of which words only are known: the words again -/
theorem slx_ow {ι : Type} {φ : ι → Prop} {f : ι → Oc} {d : ι} {ha : ∀ a v H, (f a).ad v H = (f d).ad v H} (a : ι) (p : φ a) : SlLe (some (.ow (f a))) (some (.ow (Oc.exs φ f d ha))) :=
  .ow _ _ (fun B H v h => ⟨a, p, h⟩) fun v H x hx => by
    have : x ∈ (f d).ad v H := hx
    rw [← ha a] at this; exact this
end
end G
set_option Elab.async false
set_option linter.all false
set_option maxRecDepth 100000
set_option maxHeartbeats 4000000
namespace G
open PySem L2
/-! ### methods -/
structure Md (U : Uv) (C : Addr) (m : Str) (k : Nat) (ps : List Str) {ι : Type} (φ : ι → Cs) : Prop where
  ok : ∃ f fd, Cls U.K C ∧ Meth U.K C m f ∧ Binds U.K fd ps [] ∧ FnOk U.P U.w U.K U.mg U.base (L2N.CX U.P U.w) k f fd ps (spT φ)
theorem Md.mono {U : Uv} {C : Addr} {m : Str} {j k : Nat} {ps : List Str} {ι : Type} {φ : ι → Cs} (h : Md U C m j ps φ) (l : j ≤ k) : Md U C m k ps φ := by
  obtain ⟨f, fd, a, c, d, e⟩ := h.ok
  exact ⟨f, fd, a, c, d, e.mono l⟩
theorem md_ok {U : Uv} {C : Addr} {m qual : Str} {params : Arguments} {body : List Stmt} {scope : Scope} {f : Addr} {fd : FuncData} {N ps : List Str} {k : Nat} {ι : Type} {φ : ι → Cs} (hc : Cls U.K C) (hm : Meth U.K C m f) (F : FunD U.K m qual params body scope [] [] f fd) (S : FnScope N ps scope)
    (hb : ∀ (kV doc pm : Value) (an : Option Addr) (cdv ct : Value) (us : List Value), us.length = ps.length → bindArgs (PySem.W.fnOf m qual params body scope .none kV doc pm an cdv ct) ⟨us, []⟩ = pure (ps.zip us))
    (hl : ∀ i, (φ i).as.length = ps.length)
    (hbody : ∀ (i : ι) (cd : Value) (A : Around) (outer : List Env) (s : Shared) (b : Base) (E : XK), (φ i).pre → JS (gxOf U N qual scope f cd A outer s b E (φ i).exc k) body (entry (φ i).as N.length) (ret b ((φ i).rs b))) : Md U C m (k + 1) ps φ :=
  ⟨f, fd, hc, hm, F.bindsN hb, fn_ok F S hl hbody⟩
def noE : XK := fun _ _ _ => False
theorem passes_no {X : Cx} : Passes (L2N.CX X.prog X.w) X noE := fun pins σ H s e s' I ⟨_, _, _, _, _, _, _, _, _, _, _, _, h⟩ => h.elim
section
variable {U : Uv} {g : Gx} {Γ : Gm} {P Q R S : Pr} {e e1 e2 o tg : Expr} {pos p2 apos : Pos} {D : En} {st : Stmt} {ss rest : List Stmt} {rs qs : List Pr}
/-- an instance of C, without m among its own names -/
def IsIns (C : Addr) (m : Str) (S : Pr) : Prop := ∀ B H v, Ok B H → S.r B v → ∃ a dx fs, v = .ref a ∧ H a = some (.ins C dx fs) ∧ fs.lookup m = none
theorem x_meth {C : Addr} {m : Str} {k : Nat} {ps : List Str} {ι : Type} {φ : ι → Cs} {es : List Expr} (F : Md U C m k ps φ) (i : ι) {Ps : List Pr} (ho : JE g o Γ S) (hS : IsIns C m S) (h : JA g (e :: es) Γ Ps) (has : (φ i).as = S :: Ps := by rfl) (hs : ∀ b1, (φ i).rs b1 = .sh R := by exact fun _ => rfl) (hp : (φ i).pre := by trivial) (hx : ∀ C, ¬ (φ i).exc C := by exact fun _ h => h) (hk : k ≤ g.k := by exact Nat.le_of_ble_eq_true rfl)
    (hU : UvOf U g.X := by exact ⟨rfl, rfl, rfl, rfl, rfl⟩) (hst : starEach (e :: es) g.X.env = (false, eval e g.X.env) :: starEach es g.X.env := by rfl) (hpl : (backTo pos (starEach es g.X.env)).any (·.1) = false := by rfl) {pl : Sem Bool}
    (ht : eval (.Call (.Attribute o m apos) (e :: es) [] pos) g.X.env = (do
      let ov ← eval o g.X.env
      standAt apos.atName
      let (f, first) ← holding [ov] (getMethod ov m pl)
      callWith pos f first (backTo pos (starEach (e :: es) g.X.env)) (backToKw pos (keywordEach [] g.X.env))) := by rfl) (hcm : g.X.calm = true := by rfl) :
    JE g (.Call (.Attribute o m apos) (e :: es) [] pos) Γ R := by
  obtain ⟨f, fd, c, me, bi, d⟩ := F.ok
  obtain ⟨u1, u2, u3, u4, u5⟩ := hU
  refine ⟨fun w σ B H s => ?_⟩
  refine (ofE (pe_meth (E := noE) (dvs := []) (ds := []) pE (by rw [u3]; exact c) (by rw [u3]; exact me) (by rw [u1, u2, u3, u4, u5]; exact d) ((w.hr hcm).mono hk) (by rw [u3]; exact bi) .nil (by rw [← u1, ← u2]; exact passes_no) pA hst hpl ht) ?_)
  refine (ho.run w σ B H s).mono fun x H1 ⟨B1, a1, q1⟩ => ?_
  obtain ⟨a, dx, fs, ex, ha, hf⟩ := hS B1 H1 x a1.sta.st.ok q1
  refine ⟨a, dx, fs, ex, ha, hf, (h.run w σ B1 H1 a1.sta).mono fun vs H2 ⟨B2, a2, q⟩ => ?_⟩
  rw [List.append_nil]
  refine ⟨i, B2, hp, a2.sta.st.ok, by rw [has]; exact ⟨S.mono _ _ _ a2.le q1, q⟩, fun v B' H' t r => ⟨B', (a1.trans a2).trans (a2.sta.step t), by rw [hs] at r; exact r⟩, fun C d B' H' t z => (hx C z).elim⟩
theorem x_meth0 {C : Addr} {m : Str} {k : Nat} {ps : List Str} {ι : Type} {φ : ι → Cs} (F : Md U C m k ps φ) (i : ι) (ho : JE g o Γ S) (hS : IsIns C m S) (has : (φ i).as = [S] := by rfl) (hs : ∀ b1, (φ i).rs b1 = .sh R := by exact fun _ => rfl) (hp : (φ i).pre := by trivial) (hx : ∀ C, ¬ (φ i).exc C := by exact fun _ h => h) (hk : k ≤ g.k := by exact Nat.le_of_ble_eq_true rfl)
    (hU : UvOf U g.X := by exact ⟨rfl, rfl, rfl, rfl, rfl⟩) {pl : Sem Bool}
    (ht : eval (.Call (.Attribute o m apos) [] [] pos) g.X.env = (do
      let ov ← eval o g.X.env
      standAt apos.atName
      let (f, first) ← holding [ov] (getMethod ov m pl)
      callWith pos f first (backTo pos (starEach [] g.X.env)) (backToKw pos (keywordEach [] g.X.env))) := by rfl) (hcm : g.X.calm = true := by rfl) :
    JE g (.Call (.Attribute o m apos) [] [] pos) Γ R := by
  obtain ⟨f, fd, c, me, bi, d⟩ := F.ok
  obtain ⟨u1, u2, u3, u4, u5⟩ := hU
  refine ⟨fun w σ B H s => ?_⟩
  refine (ofE (pe_meth0 (E := noE) (dvs := []) (ds := []) pE (by rw [u3]; exact c) (by rw [u3]; exact me) (by rw [u1, u2, u3, u4, u5]; exact d) ((w.hr hcm).mono hk) (by rw [u3]; exact bi) .nil (by rw [← u1, ← u2]; exact passes_no) ht) ?_)
  refine (ho.run w σ B H s).mono fun x H1 ⟨B1, a1, q1⟩ => ?_
  obtain ⟨a, dx, fs, ex, ha, hf⟩ := hS B1 H1 x a1.sta.st.ok q1
  refine ⟨a, dx, fs, ex, ha, hf, ?_⟩
  show spT φ ([x] ++ []) H1 _ _
  rw [List.append_nil]
  refine ⟨i, B1, hp, a1.sta.st.ok, by rw [has]; exact ⟨q1, trivial⟩, fun v B' H' t r => ⟨B', a1.trans (a1.sta.step t), by rw [hs] at r; exact r⟩, fun C d B' H' t z => (hx C z).elim⟩
/-! ### fields, dicts of the ground -/
def rDk (kvs : List (L2.Key × V)) : Pr := ⟨fun B v => ∃ p, v = .ref p ∧ B p = some (.ex (.dK kvs)), fun _ _ _ l ⟨p, e, h⟩ => ⟨p, e, l _ _ h⟩⟩
/-- a field's value -/
def HasF (K : PySem.W.Frag) (f : Str) (S R : Pr) : Prop := ∀ B H v, Ok B H → S.r B v → ∃ a C dx fs u, v = .ref a ∧ H a = some (.ins C dx fs) ∧ Cls K C ∧ NoAttr K C f ∧ fs.lookup f = some u ∧ R.r B u
theorem x_fld {f : Str} (h : JE g e Γ S) (k : HasF g.X.K f S R) (hb : attributeBase e f g.X.env (eval e g.X.env) = eval e g.X.env := by rfl) : JE g (.Attribute e f pos) Γ R :=
  ⟨fun w σ B H s => ofE (pe_fld pE hb) ((h.run w σ B H s).mono fun v H1 ⟨B1, a1, q⟩ => by
    obtain ⟨a, C, dx, fs, u, e1, e2, e3, e4, e5, e6⟩ := k B1 H1 v a1.sta.st.ok q
    exact ⟨a, C, dx, fs, u, e1, e2, e3, e4, e5, B1, a1, e6⟩)⟩
theorem rDk_rd {kvs : List (L2.Key × V)} {B : Bs} {H : Hp} {p : Addr} (k : Ok B H) (h : B p = some (.ex (.dK kvs))) : Rd H p (.dK kvs) := (k.ex _ _ h).rd
theorem x_dget1 {kvs : List (L2.Key × V)} {z : L2.Key} {cpos : Pos} (h : JE g o Γ (rDk kvs)) (hk : JE g e Γ (rV (kV z))) (m : M1 g.X o "get" apos e cpos := by exact ⟨rfl, rfl, rfl, rfl⟩) (hcm : g.X.calm = true := by rfl) : JE g (.Call (.Attribute o "get" apos) [e] [] cpos) Γ (rV ((valV kvs z).getD .non)) :=
  ⟨fun w σ B H s => ofE (pe_dget1 (by have := (w.hr hcm).units; omega) pE pE m) ((h.run w σ B H s).mono fun v H1 ⟨B1, a1, p, e, hp⟩ => ⟨p, e, .inl ⟨kvs, rDk_rd a1.sta.st.ok hp⟩, (hk.run w σ B1 H1 a1.sta).mono fun u H2 ⟨B2, a2, q⟩ => ⟨valV kvs z, .inl ⟨kvs, z, rDk_rd a2.sta.st.ok (a2.le _ _ hp), q, rfl⟩, B2, a1.trans a2, rfl⟩⟩)⟩
theorem x_dget2 {kvs : List (L2.Key × V)} {z : L2.Key} {y : V} {cpos : Pos} (h : JE g o Γ (rDk kvs)) (hk : JE g e Γ (rV (kV z))) (hy : JE g e1 Γ (rV y)) (m : M2 g.X o "get" apos e e1 cpos := by exact ⟨rfl, rfl, rfl, rfl⟩) (hcm : g.X.calm = true := by rfl) : JE g (.Call (.Attribute o "get" apos) [e, e1] [] cpos) Γ (rV ((valV kvs z).getD y)) :=
  ⟨fun w σ B H s => ofE (pe_dget2 (by have := (w.hr hcm).units; omega) pE pE pE m) ((h.run w σ B H s).mono fun v H1 ⟨B1, a1, p, e, hp⟩ => ⟨p, e, .inl ⟨kvs, rDk_rd a1.sta.st.ok hp⟩, (hk.run w σ B1 H1 a1.sta).mono fun u H2 ⟨B2, a2, q⟩ => (hy.run w σ B2 H2 a2.sta).mono fun u2 H3 ⟨B3, a3, q3⟩ => ⟨valV kvs z, .inl ⟨kvs, z, rDk_rd a3.sta.st.ok ((a2.le.trans a3.le) _ _ hp), q, rfl⟩, B3, (a1.trans a2).trans a3, by
    have q3 : u2 = y := q3
    rw [q3]; rfl⟩⟩)⟩
/-- d[k], there -/
theorem x_dix {kvs : List (L2.Key × V)} {z : L2.Key} {y : V} (h : JE g o Γ (rDk kvs)) (hk : JE g e Γ (rV (kV z))) (hz : valV kvs z = some y) (hs : NoSl e := by exact fun _ _ => rfl) (hcm : g.X.calm = true := by rfl) : JE g (.Subscript o e pos) Γ (rV y) :=
  ⟨fun w σ B H s => ofE (pe_dget (by have := (w.hr hcm).units; omega) pE pE hs) ((h.run w σ B H s).mono fun v H1 ⟨B1, a1, p, e, hp⟩ => (hk.run w σ B1 H1 a1.sta).mono fun u H2 ⟨B2, a2, q⟩ => ⟨p, y, e, .inl ⟨kvs, z, rDk_rd a2.sta.st.ok (a2.le _ _ hp), q, hz.symm⟩, B2, a1.trans a2, rfl⟩)⟩
/-- k in d, k not in d -/
theorem op_inDk {X : Cx} {kvs : List (L2.Key × V)} {z : L2.Key} : True := trivial
end
end G
set_option Elab.async false
set_option linter.all false
set_option maxRecDepth 100000
set_option maxHeartbeats 4000000
/-! ### set(xs) of texts, any number of them -/
namespace GS
open PySem PySem.Spec PyProof.Rows
/-- each once -/
def once (ys : List Str) : List Str := ys.foldl (fun acc y => if acc.any (· == y) then acc else acc ++ [y]) []
theorem once_snoc (ys : List Str) (y : Str) : once (ys ++ [y]) = if (once ys).any (· == y) then once ys else once ys ++ [y] := by unfold once; rw [List.foldl_append]; rfl
theorem once_any (ys : List Str) : ∀ k : Str, (once ys).any (· == k) = ys.any (· == k) := by
  have key : ∀ (m : Nat) (ys : List Str), ys.length = m → ∀ k : Str, (once ys).any (· == k) = ys.any (· == k) := by
    intro m
    induction m with
    | zero => intro ys h k; rw [List.eq_nil_of_length_eq_zero h]; rfl
    | succ m ih =>
      intro ys h k
      obtain ⟨zs, z, rfl⟩ : ∃ zs z, ys = zs ++ [z] := ⟨ys.dropLast, ys.getLast (by intro e; rw [e] at h; cases h), (List.dropLast_concat_getLast _).symm⟩
      have hz : zs.length = m := by rw [List.length_append] at h; simpa using h
      rw [once_snoc, List.any_append, ← ih zs hz k]
      by_cases q : (once zs).any (· == z) = true
      · rw [if_pos q]
        by_cases e : z = k
        · subst e; rw [q]; rfl
        · have : (z == k) = false := beq_eq_false_iff_ne.mpr e
          simp [this]
      · rw [if_neg q, List.any_append]
  exact key _ ys rfl
theorem once_le (ys : List Str) : (once ys).length ≤ ys.length := by
  have key : ∀ (zs acc : List Str), (zs.foldl (fun acc y => if acc.any (· == y) then acc else acc ++ [y]) acc).length ≤ acc.length + zs.length := by
    intro zs
    induction zs with
    | nil => intro acc; simp
    | cons z zs ih =>
      intro acc
      rw [List.foldl_cons, List.length_cons]
      split
      · have := ih acc; omega
      · have := ih (acc ++ [z]); rw [List.length_append] at this; simp only [List.length_cons, List.length_nil] at this; omega
  simpa [once] using key ys []
theorem once_nodup {ys : List Str} (h : ys.Nodup) : once ys = ys := by
  have key : ∀ (m : Nat) (ys : List Str), ys.length = m → ys.Nodup → once ys = ys := by
    intro m
    induction m with
    | zero => intro ys h _; rw [List.eq_nil_of_length_eq_zero h]; rfl
    | succ m ih =>
      intro ys h nd
      obtain ⟨zs, z, rfl⟩ : ∃ zs z, ys = zs ++ [z] := ⟨ys.dropLast, ys.getLast (by intro e; rw [e] at h; cases h), (List.dropLast_concat_getLast _).symm⟩
      have hz : zs.length = m := by rw [List.length_append] at h; simpa using h
      have nz := (List.nodup_append.mp nd)
      rw [once_snoc, ih zs hz nz.1, if_neg]
      intro q
      obtain ⟨y, hy, e⟩ := List.any_eq_true.mp q
      exact nz.2.2 y hy z (by simp) (eq_of_beq e)
  exact key _ ys rfl h
section
variable {pr : Program} {wo : World} {Ar : Around} {Rr : Result → Shared → Prop} {It : Addr} {fps wrs : List Addr} {Gg : Array GenState → Array GenState → Prop} {len : Nat} {Pv : Nat → Value → Prop} {Ss : Nat → Shared → Prop}
/-- what the set at z holds after the first i of ys -/
abbrev Holds (pr : Program) (wo : World) (h : Heap) (z : Addr) (ys : List Str) (i : Nat) : Prop := h.SetOf (PySem.strKind pr wo) z (fun k => (ys.take i).any (· == k)) (once (ys.take i)).length
theorem Holds.up {h h' : Heap} {z : Addr} {ys : List Str} {i : Nat} (q : Holds pr wo h z ys i) (k : ∀ o, h.get? z = some o → h'.get? z = some o) : Holds pr wo h' z ys i := by
  obtain ⟨o, es, ep, tb, ho, more⟩ := q
  exact ⟨o, es, ep, tb, k o ho, more⟩
theorem turns (Wk : WalksS pr wo Ar.in1 It fps wrs Gg len Pv Ss) (z : Addr) (nz : z ∉ fps) (ys : List Str) (hl : ys.length = len) (hb : len + 1 < scanBound) (hv : ∀ i v, Pv i v → ∃ t, v = .str (ys.getD i Str.empty) t) :
    ∀ (left i : Nat) (st : Shared), len = i + left → Ss i st → Holds pr wo st.heap z ys i → (∀ st', Moved (z :: wrs) Gg st st' → Holds pr wo st'.heap z ys len → Rr (.ok (.ret .none)) st') →
      codeAny (model pr wo) Ar (.builtin "set.update.loop" ⟨[.ref z, .ref It], []⟩) Rr st
  | 0, i, st, e, hs, hh, hr => by
    obtain rfl : len = i := by omega
    have nw : z ∉ wrs := fun h => nz (Wk.sub _ h)
    refine codeAny_builtin PyProof.Rows.F.entry_set_update_loop (by
      rw [Around.under_plainId PyProof.Rows.F.plain_set_update_loop _]
      exact wpAny_bind (m := pyNext (.ref It)) (Wk.done st _ _ hs fun st1 mv => (wpAny_pure (hr st1 (mv.mono fun b hb => .tail _ hb) (hh.up fun o ho => mv.heap z o nw ho)) : wpAny _ Ar.in1 (ret Value.none) _ _ st1)))
  | left + 1, i, st, e, hs, hh, hr => by
    have nw : z ∉ wrs := fun h => nz (Wk.sub _ h)
    have il : i < len := by omega
    refine codeAny_builtin PyProof.Rows.F.entry_set_update_loop ?_
    rw [Around.under_plainId PyProof.Rows.F.plain_set_update_loop _]
    refine wpAny_bind (m := pyNext (.ref It)) (Wk.item i st _ _ il hs fun v st1 hp hs1 mv => ?_)
    obtain ⟨tk, rfl⟩ := hv i v hp
    have h1 : Holds pr wo st1.heap z ys i := hh.up fun o ho => mv.heap z o nw ho
    have hy : ys.take (i + 1) = ys.take i ++ [ys.getD i Str.empty] := by
      rw [List.take_succ, List.getD_eq_getElem?_getD]
      rw [List.getElem?_eq_getElem (by omega)]; rfl
    have room : (once (ys.take i)).length + 1 < scanBound := by have := once_le (ys.take i); rw [List.length_take] at this; omega
    refine wpAny_bind (m := holding [Value.str (ys.getD i Str.empty) tk] (setAdd z (.str (ys.getD i Str.empty) tk))) (wpAny_holding (wpAny_holding (wpAny_bind ((PySem.strKind pr wo).pyHash (k := ys.getD i Str.empty) (strKind_is _ _ _ _)
      (wpAny_setAddHashed_of (knd := PySem.strKind pr wo) (s := { st1 with toks := st1.toks + 1 }) (strKind_is _ _ _ _) rfl h1 room fun hp2 same h2 => ?_)))))
    have h3 : Holds pr wo hp2 z ys (i + 1) := SetOf_congr h2 (fun k => by
        rw [hy, List.any_append]
        congr 1
        by_cases q : k = ys.getD i Str.empty
        · rw [q]; simp
        · have : (ys.getD i Str.empty == k) = false := beq_eq_false_iff_ne.mpr fun z => q z.symm
          simp only [List.any_cons, List.any_nil, Bool.or_false, this, decide_eq_false q]) (by
        rw [hy, once_snoc, once_any]
        split <;> simp)
    refine wpAny_pure ⟨plainId_quiet PyProof.Rows.F.plain_set_update_loop _, turns Wk z nz ys hl hb hv left (i + 1) _ (by omega) (Wk.frame _ st1 _ _ hs1 (Nat.le_succ _) fun b hb o ho => ?_) h3 fun st2 mv2 h4 => hr st2 (Moved.trans Wk.gtrans ((mv.mono fun b hb => .tail _ hb).then_heap (Nat.le_succ _) fun b o nb ho => ?_) mv2) h4⟩
    · exact (same.2 b fun q => nz (q ▸ hb)).trans ho
    · exact (same.2 b fun q => nb (q ▸ List.mem_cons_self ..)).trans ho
end
section
variable {pr : Program} {wo : World} {Ar : Around} {Ex : Value → Shared → Prop} {st : Shared}
theorem at_str : ∀ {us : List Value} {ys : List Str}, StrsAre us ys → ∀ (i : Nat) (v : Value), us[i]? = some v → ∃ t, v = .str (ys.getD i Str.empty) t
  | _, _, .cons y t r, 0, v, e => ⟨t, by simpa using e.symm⟩
  | _, _, .cons y t r, i + 1, v, e => by
    obtain ⟨u, h⟩ := at_str r i v (by simpa using e)
    exact ⟨u, by simpa using h⟩
theorem size_str : ∀ {us : List Value} {ys : List Str}, StrsAre us ys → us.length = ys.length
  | _, _, .nil => rfl
  | _, _, .cons y t r => congrArg (· + 1) (size_str r)
theorem set_texts {l : Addr} {its : Array Value} {ys : List Str} {Qw : Value → Shared → Prop} (calm : Ar.handled = none) (hl : st.heap.IsList l its) (hi : StrsAre its.toList ys) (hb : ys.length + 1 < scanBound)
    (hq : ∀ (h' : Heap) (tk : Nat), Holds pr wo h' st.heap.objs.size ys ys.length → (∀ b o, b < st.heap.objs.size → st.heap.get? b = some o → h'.get? b = some o) → Qw (.ref st.heap.objs.size) { st with heap := h', toks := tk }) :
    wpAny (model pr wo) Ar (call (.type "set") [.ref l]) Qw Ex st := by
  have hlen : its.size = ys.length := by rw [← size_str hi, Array.length_toList]
  obtain ⟨cc, tl, hm⟩ := PySem.F.called_set.mro
  have q1 := PySem.F.called_set.made
  have q2 := PySem.F.called_set.sub
  have q3 := PySem.F.called_set.notType
  have q4 := PySem.F.called_set.canCreate
  have q5 := PySem.F.typeCall_set_1 (.ref l)
  refine wpAny_call (codeAny_of_tree (show wpAny _ _ (callAny (.type "set") _) _ _ _ from wpAny_pure ⟨Code.quiet_builtin _ (by decide +kernel), codeAny_builtin PySem.F.entry_type_call ?_⟩))
  rw [Around.under_plain (weight_type_call_type "set" [.ref l] []) rfl]
  repeat (any_goals (first | assumption | wp_step))
  refine codeAny_mono (code_set_new_1 (.ref l) (E := Ex) (Q₁ := fun ob st1 => ∃ led : Bool, ob = .ref st.heap.objs.size ∧ st1 = { st with heap := st.heap.push { cls := .type "set", dict := none, data := .set #[] 0 (.fresh 0 0 led) } }) fun led => ⟨led, rfl, rfl⟩) fun res st1 hres => ?_
  match res, hres with
  | .error _, hres => exact hres
  | .ok (.ret ob), ⟨led, e1, e2⟩ =>
    subst e1 e2
    have at0 : (st.heap.push { cls := .type "set", dict := none, data := .set #[] 0 (.fresh 0 0 led) }).get? st.heap.objs.size = some { cls := .type "set", dict := none, data := .set #[] 0 (.fresh 0 0 led) } := Heap.get?_push_size _ rfl
    have ty0 : Shared.TypeIs { st with heap := st.heap.push { cls := .type "set", dict := none, data := .set #[] 0 (.fresh 0 0 led) } } (.ref st.heap.objs.size) "set" := ⟨_, at0, rfl⟩
    have q6 := PySem.F.called_set.init.lookup
    have q7 := PySem.F.called_set.init.bind (.ref st.heap.objs.size)
    repeat (any_goals (first | assumption | wp_step))
    refine codeAny_mono (codeAny_call_builtin (R := wants (fun r st2 => r = .none ∧ ∃ h' tk, st2 = { st with heap := h', toks := tk } ∧ Holds pr wo h' st.heap.objs.size ys ys.length ∧ ∀ b o, b < st.heap.objs.size → st.heap.get? b = some o → h'.get? b = some o) Ex) PySem.F.called_set.init.plain PySem.F.entry_set_init (check_set_init_1 ty0 ?_)) fun r2 st2 hr2 => ?_
    · obtain ⟨⟨oc, od, oda, osl⟩, ho, hc, nn, hd⟩ := hl
      simp only at hc hd
      subst hc hd
      have lS : l < st.heap.objs.size := Heap.lt_size ho
      have ho1 : (st.heap.push { cls := .type "set", dict := none, data := .set #[] 0 (.fresh 0 0 led) }).get? l = some { cls := .type "list", dict := od, data := .seq its nn, slots := osl } := Heap.get?_push_of_some _ ho
      have l1 : (st.heap.push { cls := .type "set", dict := none, data := .set #[] 0 (.fresh 0 0 led) }).IsList l its := ⟨_, ho1, rfl, nn, rfl⟩
      have q8 := PySem.F.sub_list_set
      have q9 := PySem.F.sub_list_frozenset
      have qa : (Value.type "list" == Value.type "dict") = false := by decide
      unfold Builtin.«set.__init__» noKeywords Builtin.Frozenset.updateFrom
      generalize eI : pyIter = iter
      wp_walk
      subst eI
      have calm3 : Ar.in1.in1.in1.handled = none := by simp [calm]
      have ps : (st.heap.push { cls := .type "set", dict := none, data := .set #[] 0 (.fresh 0 0 led) }).objs.size = st.heap.objs.size + 1 := Heap.size_push ..
      have nI : l ≠ (st.heap.push { cls := .type "set", dict := none, data := .set #[] 0 (.fresh 0 0 led) }).objs.size := by rw [ps]; exact Nat.ne_of_lt (Nat.lt_succ_of_lt lS)
      have nS : st.heap.objs.size ∉ [(st.heap.push { cls := .type "set", dict := none, data := .set #[] 0 (.fresh 0 0 led) }).objs.size, l] := by
        rw [ps]
        simp only [List.mem_cons, List.not_mem_nil, or_false, not_or]
        exact ⟨Nat.ne_of_lt (Nat.lt_succ_self _), Nat.ne_of_gt lS⟩
      refine wpAny_pyIter_list l1 (wpAny_bind (wpAny_runValue (turns ((Walks.list calm3 _ l nI its).toS) st.heap.objs.size nS ys hlen.symm (by rw [hlen]; exact hb) (fun i v hv => at_str hi i v (by rw [Array.getElem?_toList]; exact hv)) its.size 0 _ (by omega) ⟨⟨_, Heap.get?_push_size _ rfl, rfl, rfl⟩, l1.push _⟩ ?_ ?_)))
      · exact SetOf_congr ((setObjOf_fresh (knd := PySem.strKind pr wo) led).setOf (Heap.get?_push_of_some _ at0) (by unfold scanBound; omega)) (fun _ => rfl) rfl
      · rintro ⟨h', g', d', tk', os'⟩ mv hold
        have e1 : g' = st.gens := mv.gens
        have e2 : d' = st.drawn := mv.drawn
        have e3 : os' = st.os := mv.os
        subst e1 e2 e3
        rw [hlen] at hold
        refine wpAny_pure (show wpAny _ _ (ret Value.none) _ _ _ from wpAny_pure ⟨rfl, h', tk', rfl, hold, fun b o hb ho => mv.heap b o ?_ (Heap.get?_push_of_some _ (Heap.get?_push_of_some _ ho))⟩)
        rw [ps]
        simp only [List.mem_cons, List.not_mem_nil, or_false, not_or]
        exact ⟨Nat.ne_of_lt hb, Nat.ne_of_lt (Nat.lt_succ_of_lt hb)⟩
    · match r2, hr2 with
      | .error _, hr2 => exact hr2
      | .ok (.ret r), ⟨e1, h', tk, e2, hold, kp⟩ =>
        subst e1 e2
        repeat (any_goals (first | assumption | wp_step))
        exact hq _ _ hold kp
end
end GS
set_option Elab.async false
set_option linter.all false
set_option maxRecDepth 100000
set_option maxHeartbeats 4000000
namespace G
open PySem PySem.Spec PyProof.Rows L2
/-- len(set(xs)), texts -/
def tLenTexts (K : PySem.W.Frag) (ta : TE) : TE := fun σ H Q => ta σ H fun x H1 => ∃ (l : Addr) (ys : List Str), x = .ref l ∧ SqL K H1 l (ys.map V.str) ∧ ys.length ≤ 4000 ∧ Q (.int ((GS.once ys).length : Nat)) H1
theorem pe_lenTexts {X : Cx} {a : Expr} {ta : TE} {p p2 q pos : Pos} (hg : Gl X "len") (hm : X.mg "len" = none) (hg2 : Gl X "set") (hm2 : X.mg "set" = none) (ha : PE X a ta) (hc : X.calm = true)
    (na : starEach [a] X.env = (false, eval a X.env) :: starEach [] X.env) : PE X (.Call (.Name "len" p) [.Call (.Name "set" p2) [a] [] q] [] pos) (tLenTexts X.K ta) := by
  refine ⟨fun pins s σ H Q I h => Call_ (ld_blt I hg hm boot_len (callWith_builtin1 (args_cons (Call_ (ld_blt I hg2 hm2 boot_set (callWith_type1 (args_cons (thn (ha.run pins s σ H _ I h) fun v s1 ⟨x, H1, I1, r1, l, ys, e, hq, hl, q1⟩ => args_nil ?_) na) na rfl))) rfl) rfl rfl))⟩
  subst e
  cases r1
  obtain ⟨its, r, pl, hz⟩ := I1.list hq
  refine GS.set_texts (I1.ok.hd hc) pl.isList (by simpa using strsAre_of r) (by unfold scanBound; omega) fun h' tk hS kp => args_nil ?_
  unfold GS.Holds at hS
  rw [List.take_length] at hS
  obtain ⟨o, es, ep, t, ho, hex, hd, _, _, _, hf, hn⟩ := hS
  have le := GS.once_le ys
  have I2 : Inv X pins σ H1 { s1 with heap := h', toks := tk } := I1.kept fun b o e => kp b o (Heap.lt_size e) e
  exact call_len_set ho hex hd hf (by rw [hn]; omega) ⟨.int (GS.once ys).length, H1, I2.tok _, ⟨_, by rw [hn]⟩, q1⟩
section
variable {g : Gx} {Γ : Gm} {P Q R : Pr} {e e1 e2 o tg : Expr} {pos p2 apos : Pos} {D : En} {st : Stmt} {ss rest : List Stmt} {rs qs : List Pr}
theorem F2.strs {B : Bs} : ∀ {vs : List V} {bs : List Str}, F2 B vs (bs.map rS) → vs = bs.map V.str
  | [], [], _ => rfl
  | v :: vs, x :: xs, h => by
    have e : v = .str x := h.1
    rw [e, F2.strs h.2]; rfl
  | [], _ :: _, h => h.elim
  | _ :: _, [], h => h.elim
theorem x_lenTexts {ys : List Str} {p p3 q : Pos} (b : Bi g.X.mg) (hl : ys.length ≤ 4000) (h : JE g e Γ (rLs g.X.K (ys.map rS))) (hg : Gl g.X "len" := by rfl) (hg2 : Gl g.X "set" := by rfl) (na : starEach [e] g.X.env = (false, eval e g.X.env) :: starEach [] g.X.env := by rfl) (hcm : g.X.calm = true := by rfl) :
    JE g (.Call (.Name "len" p) [.Call (.Name "set" p3) [e] [] q] [] pos) Γ (rI ((GS.once ys).length : Nat)) :=
  ⟨fun w σ B H s => ofE (pe_lenTexts hg b.len hg2 b.set pE hcm na) ((h.run w σ B H s).mono fun v H1 ⟨B1, a1, l, vs, e2, hl2, f⟩ => ⟨l, ys, e2, by rw [← f.strs]; exact hl2.sq a1.sta.st.ok, hl, B1, a1, rfl⟩)⟩
/-! ### texts -/
theorem x_addS {i j : Str} (hl : i.length + j.length ≤ sizeLine) (h1 : JE g e1 Γ (rS i)) (h2 : JE g e2 Γ (rS j)) : JE g (.BinOp e1 .Add e2 pos) Γ (rS (i ++ j)) :=
  x_op op_add_str (fun B H v u K k p q c => ⟨i, j, p, q, hl, c _ B H (Stp.refl k) rfl⟩) h1 h2
theorem x_ixS {z : Str} {i : Int} {c : Nat} (h0 : 0 ≤ i) (h1 : i < 2 ^ 63) (hi : i < z.length) (hc : z.cps[i.toNat]? = some c) (a : JE g e1 Γ (rS z)) (b : JE g e2 Γ (rI i)) (hs : PlainIxT e2 := by exact fun _ _ => rfl) : JE g (.Subscript e1 e2 pos) Γ (rS ⟨#[c]⟩) :=
  ⟨fun w σ B H s => ofE (pe_item_str pE pE hs) ((a.run w σ B H s).mono fun v H1 ⟨B1, a1, p⟩ => (b.run w σ B1 H1 a1.sta).mono fun u H2 ⟨B2, a2, q⟩ => ⟨z, i, c, p, q, h0, h1, hi, hc, B2, a1.trans a2, rfl⟩)⟩
theorem x_inSign {c : Nat} {z : Str} (h1 : JE g e1 Γ (rS ⟨#[c]⟩)) (h2 : JE g e2 Γ (rS z)) (hm : behindInMarks .In e2 = false := by rfl) : JE g (.Compare e1 [.In] [e2] pos) Γ (rB (decide (c ∈ z.cps.toList))) :=
  x_cmpV op_in_sign (fun B H v u K k p q d => ⟨c, z, p, q, d _ B H (Stp.refl k) rfl⟩) h1 h2 hm
/-- x in xs, x not in xs: texts in a list -/
theorem inV_strs (x : Str) (ys : List Str) : inV (.str x) (ys.map V.str) = decide (x ∈ ys) := by
  induction ys with
  | nil => rfl
  | cons y ys ih =>
    unfold inV at ih ⊢
    rw [List.map_cons, List.any_cons, ih]
    show (y == x || decide (x ∈ ys)) = decide (x ∈ y :: ys)
    by_cases q : x = y
    · subst q; simp
    · have : (y == x) = false := beq_eq_false_iff_ne.mpr fun e => q e.symm
      rw [this]; simp [q]
theorem o_inTexts {X : Cx} {x : Str} {ys : List Str} (neg : Bool) : Op2 X (rIn X.K neg) (rS x) (rLs X.K (ys.map rS)) (rB (if neg then !decide (x ∈ ys) else decide (x ∈ ys))) := fun B H v u K k p ⟨q, vs, e, a, f⟩ c => by
  have p : v = .str x := p
  have := f.strs
  subst p e this
  refine ⟨q, _, rfl, .inl (a.sq k), rfl, flat_strs ys, c _ B H (Stp.refl k) ?_⟩
  rw [inV_strs]; rfl
theorem x_inTexts {x : Str} {ys : List Str} (h1 : JE g e1 Γ (rS x)) (h2 : JE g e2 Γ (rLs g.X.K (ys.map rS))) (hm : behindInMarks .In e2 = false := by rfl) : JE g (.Compare e1 [.In] [e2] pos) Γ (rB (decide (x ∈ ys))) := x_cmpV op_in_seq (o_inTexts false) h1 h2 hm
theorem t_inTexts {x : Str} {ys : List Str} (h1 : JE g e1 Γ (rS x)) (h2 : JE g e2 Γ (rLs g.X.K (ys.map rS))) (hm : behindInMarks .In e2 = false := by rfl) : JT g (.Compare e1 [.In] [e2] pos) Γ (decide (x ∈ ys)) := x_cmpT op_in_seq (o_inTexts false) h1 h2 hm
theorem t_notInTexts {x : Str} {ys : List Str} (h1 : JE g e1 Γ (rS x)) (h2 : JE g e2 Γ (rLs g.X.K (ys.map rS))) (hm : behindInMarks .NotIn e2 = false := by rfl) : JT g (.Compare e1 [.NotIn] [e2] pos) Γ (!decide (x ∈ ys)) := x_cmpT op_notIn_seq (o_inTexts true) h1 h2 hm
end
end G
set_option Elab.async false
set_option linter.all false
set_option maxRecDepth 100000
set_option maxHeartbeats 4000000
namespace G
open PySem L2
section
variable {g : Gx} {Γ : Gm} {P Q R : Pr} {e e1 e2 o tg : Expr} {pos p2 apos : Pos} {D : En} {st : Stmt} {ss rest : List Stmt} {rs qs : List Pr}
/-! ### dict(pairs) -/
def rPair (K : PySem.W.Frag) (kv : L2.Key × V) : Pr := rTs K [rV (kV kv.1), rV kv.2]
theorem pairs_at {K : PySem.W.Frag} {B : Bs} {H : Hp} (k : Ok B H) : ∀ {vs : List V} {kvs : List (L2.Key × V)}, F2 B vs (kvs.map (rPair K)) → ∃ ps : List Addr, vs = ps.map V.ref ∧ Paired (fun p kv => SqT K H p [kV kv.1, kv.2]) ps kvs
  | [], [], _ => ⟨[], rfl, .nil⟩
  | v :: vs, kv :: kvs, h => by
    obtain ⟨ps, e, q⟩ := pairs_at k h.2
    obtain ⟨p, ws, e1, a, f⟩ := h.1
    obtain ⟨x, y, rfl, f1, f2⟩ := f.two
    have f1 : x = kV kv.1 := f1
    have f2 : y = kv.2 := f2
    subst e1 f1 f2
    exact ⟨p :: ps, by rw [e]; rfl, .cons (a.sq k) q⟩
  | [], _ :: _, h => h.elim
  | _ :: _, [], h => h.elim
theorem x_dictP {kvs : List (L2.Key × V)} {p : Pos} (b : Bi g.X.mg) (h : JE g e Γ (rLs g.X.K (kvs.map (rPair g.X.K)))) (hg : Gl g.X "dict" := by rfl) (he : starEach [e] g.X.env = (false, eval e g.X.env) :: starEach [] g.X.env := by rfl) (hcm : g.X.calm = true := by rfl) : JE g (.Call (.Name "dict" p) [e] [] pos) Γ (rDk (mergeK [] kvs)) :=
  ⟨fun w σ B H s => ofE (pe_callTy (call_dictP hcm) hg b.dict bo_dict (pa_cons pE pA he) (by decide) (by decide) he rfl) ((h.run w σ B H s).mono fun v H1 ⟨B1, a1, q⟩ => ((a_nil (g := g) (Γ := Γ)).run w σ B1 H1 a1.sta).mono fun vs H2 ⟨B2, a2, f⟩ => by
    have ev : vs = [] := by
      cases vs with
      | nil => rfl
      | cons _ _ => exact f.elim
    subst ev
    obtain ⟨a, ws, e2, ha, f2⟩ := q
    obtain ⟨ps, e3, pr⟩ := pairs_at a2.sta.st.ok (f2.mono a2.le)
    subst e2 e3
    exact ⟨a, ps, kvs, rfl, (ha.mono a2.le).sq a2.sta.st.ok, pr, fun l hl => ⟨_, (a1.trans a2).trans (a2.sta.lay hl), l, rfl, put_same⟩⟩)⟩
theorem merge_nodup {κ : Type} {kvs : List (L2.Key × V)} (h : (kvs.map (·.1)).Nodup) : mergeK [] kvs = kvs := by
  have key : ∀ (more acc : List (L2.Key × V)), ((acc ++ more).map (·.1)).Nodup → more.foldl (fun acc kv => putK acc kv.1 kv.2) acc = acc ++ more := by
    intro more
    induction more with
    | nil => intro acc _; simp
    | cons kv more ih =>
      intro acc nd
      rw [List.foldl_cons]
      have e : putK acc kv.1 kv.2 = acc ++ [kv] := by
        unfold putK
        rw [if_neg]
        intro q
        obtain ⟨x, hx, hq⟩ := List.any_eq_true.mp q
        rw [List.map_append, List.nodup_append] at nd
        exact nd.2.2 x.1 (List.mem_map.mpr ⟨x, hx, rfl⟩) kv.1 (by simp) (by simpa using hq)
      rw [e, ih _ (by rw [List.append_assoc]; exact nd), List.append_assoc]; rfl
  exact key kvs [] (by simpa using h)
/-! ### own lists: pop at a place, insert -/
/-- y = x.pop(e) -/
theorem s_popAt (i j : Nat) {z : Nat} {x y : Str} {p py : Pos} {cpos : Pos} (h : JE g e Γ (rI (z : Int))) (hz : z < 2 ^ 62) (hr : rs[z]? = some R) (k : JS g rest ((Γ.set i (some (.ow (oL (rs.eraseIdx z))))).set j (some (.sh R))) D) (hi : Γ[i]? = some (some (.ow (oL rs))) := by rfl) (hN : g.X.N[i]? = some x := by rfl) (hNy : g.X.N[j]? = some y := by rfl) (hv : Vis g.X.env.scope x := by first | exact Or.inl rfl | exact Or.inr (Or.inl rfl) | exact Or.inr (Or.inr rfl))
    (hl : Loc g.X.env.scope y := by first | exact Or.inl rfl | exact Or.inr rfl)
    (hd : (x == ("__debug__" : Str)) = false := by decide) (hcd : (x == ("__classdict__" : Str)) = false := by decide) (hline : (apos.endLine == cpos.line) = true := by rfl)
    (hfew : ((backTo cpos (starEach [e] g.X.env)).all (fun x => !x.1) && (backToKw cpos (keywordEach [] g.X.env)).all (fun x => x.1.isSome) && decide ([e].length + ([] : List Keyword).length + (if ([] : List Keyword).isEmpty then 0 else 1) < 30)) = true := by rfl)
    (he : starEach [e] g.X.env = (false, eval e g.X.env) :: starEach [] g.X.env := by rfl) (hs : swapsWith (.Call (.Attribute (.Name x p) "pop" apos) [e] [] cpos) (some (.Name y py)) pos.line g.X.env = pure false := by rfl) (hf : g.X.fn y = true ∨ g.X.env.scope.names.lookup y = some .local := by first | exact .inl rfl | exact .inr rfl) :
    JS g (.Assign [.Name y py] (.Call (.Attribute (.Name x p) "pop" apos) [e] [] cpos) pos :: rest) Γ D :=
  js_cons fun w σ B H s => of1 (ps_set w.nd hNy hl (pe_bm PySem.F.plainAttrs_list PySem.F.slot_list_pop PySem.F.type_list_pop mt_popAt (pe_var hN hv hd hcd) (pa_cons pE pa_nil he) (by rfl) hfew hline he rfl) hs hf) (by
    obtain ⟨v0, e, o⟩ := s.env.ow i _ hi
    obtain ⟨q, vs, e2, nb, nh, hu, f⟩ := own_one o
    subst e2
    refine ⟨_, e, .inl ⟨rfl, vs, SqL.of hu⟩, (h.run w σ B H s).mono fun v H1 ⟨B1, a1, p1⟩ => ?_⟩
    have hu1 : H1 q = some (.lst vs) := a1.t.keep q _ hu fun φ z => by rw [nb] at z; cases z
    have p1 : v = .int z := p1
    subst p1
    obtain ⟨u, eu, ru⟩ := (f.mono a1.le).get hr
    have zl : z < vs.length := (List.getElem?_eq_some_iff.mp eu).1
    refine ⟨q, vs, z, z, u, rfl, rfl, hu1, by omega, by omega, ?_, eu, ?_⟩
    · have a0 : ¬ ((z : Int) < 0) := by omega
      have a1 : (z : Int) < vs.length := by omega
      unfold seqIndex?
      simp [a0, a1, zl]
    · have er : F2 B1 (vs.eraseIdx z) (rs.eraseIdx z) := by
        rw [List.eraseIdx_eq_take_drop_succ, List.eraseIdx_eq_take_drop_succ]
        exact ((f.mono a1.le).take z).append ((f.mono a1.le).drop (z + 1))
      exact k.go w a1.le ((a1.sta.chgL hi e er).setS ru))
/-- x.insert(e, e1) -/
theorem s_insert (i : Nat) {z : Nat} {x : Str} {p cpos : Pos} (h : JE g e Γ (rI (z : Int))) (h1 : JE g e1 Γ P) (hz : z < 2 ^ 62) (hl : rs.length < sizeLine) (k : JS g rest (Γ.set i (some (.ow (oL (rs.take z ++ [P] ++ rs.drop z))))) D) (hi : Γ[i]? = some (some (.ow (oL rs))) := by rfl) (hN : g.X.N[i]? = some x := by rfl) (hv : Vis g.X.env.scope x := by first | exact Or.inl rfl | exact Or.inr (Or.inl rfl) | exact Or.inr (Or.inr rfl))
    (hd : (x == ("__debug__" : Str)) = false := by decide) (hcd : (x == ("__classdict__" : Str)) = false := by decide) (hline : (apos.endLine == cpos.line) = true := by rfl)
    (hfew : ((backTo cpos (starEach [e, e1] g.X.env)).all (fun x => !x.1) && (backToKw cpos (keywordEach [] g.X.env)).all (fun x => x.1.isSome) && decide ([e, e1].length + ([] : List Keyword).length + (if ([] : List Keyword).isEmpty then 0 else 1) < 30)) = true := by rfl)
    (he : starEach [e, e1] g.X.env = (false, eval e g.X.env) :: starEach [e1] g.X.env := by rfl) (he1 : starEach [e1] g.X.env = (false, eval e1 g.X.env) :: starEach [] g.X.env := by rfl) (hpl : (backTo cpos (starEach [e1] g.X.env)).any (·.1) = false := by rfl) (hs : swapsWith (.Call (.Attribute (.Name x p) "insert" apos) [e, e1] [] cpos) none pos.line g.X.env = pure false := by rfl) :
    JS g (.Expr (.Call (.Attribute (.Name x p) "insert" apos) [e, e1] [] cpos) pos :: rest) Γ D :=
  js_cons fun w σ B H s => of1 (ps_expr (pe_bm PySem.F.plainAttrs_list PySem.F.slot_list_insert PySem.F.type_list_insert mt_insert (pe_var hN hv hd hcd) (pa_cons pE (pa_cons pE pa_nil he1) he) (by rfl) hfew hline he hpl) hs) (by
    obtain ⟨v0, e, o⟩ := s.env.ow i _ hi
    obtain ⟨q, vs, e2, nb, nh, hu, f⟩ := own_one o
    subst e2
    refine ⟨_, e, .inl ⟨rfl, vs, SqL.of hu⟩, (h.run w σ B H s).mono fun v H1 ⟨B1, a1, p1⟩ => (h1.run w σ B1 H1 a1.sta).mono fun u H2 ⟨B2, a2, p2⟩ => ?_⟩
    have a12 := a1.trans a2
    have hu1 : H2 q = some (.lst vs) := a12.t.keep q _ hu fun φ z => by rw [nb] at z; cases z
    have p1 : v = .int z := p1
    subst p1
    have f2 := f.mono a12.le
    refine ⟨q, vs, z, u, rfl, rfl, hu1, by rw [f.len]; exact hl, by omega, by omega, k.go w a12.le (a12.sta.chgL hi e ?_)⟩
    rw [Int.toNat_natCast]
    exact ((f2.take z).append (show F2 B2 [u] [P] from ⟨p2, trivial⟩)).append (f2.drop z))
/-! ### a new instance, by its __init__ -/
def oIns (C x dx : Addr) (fs : List (Str × Pr)) : Oc where
  ad := fun _ _ => [x, dx]
  r := fun B H v => v = .ref x ∧ dx ≠ x ∧ H dx = some (.own x) ∧ ∃ vs, H x = some (.ins C dx ((fs.map Prod.fst).zip vs)) ∧ F2 B vs (fs.map Prod.snd)
  mono := fun _ _ _ _ l ⟨e, n, h1, vs, h2, f⟩ => ⟨e, n, h1, vs, h2, f.mono l⟩
  ast := fun _ _ _ _ => rfl
  rst := fun B H H' v g ⟨e, n, h1, vs, h2, f⟩ => ⟨e, n, by rw [g dx (by simp)]; exact h1, vs, by rw [g x (by simp)]; exact h2, f⟩
end
/-- the contract of an __init__: the arguments behind self, what the new instance is -/
def spI (C : Addr) {ι : Type} (φ : ι → Cs) (R : ι → Pr) : L2.Sp := fun vs H Q E => ∃ i B H1 x dx us, (φ i).pre ∧ Ok B H1 ∧ F2 B us (φ i).as ∧ vs = .ref x :: us ∧ H1 x = none ∧ H1 dx = none ∧ dx ≠ x ∧ H = upd (upd H1 dx (.own x)) x (.ins C dx []) ∧
  (∀ B' H', Stp B H1 B' H' → (R i).r B' (.ref x) → Q .non H') ∧ ∀ c d B' H', Stp B H1 B' H' → (φ i).exc c → d = none → E (.ref c) d H'
structure Mkr (U : Uv) (x : Str) (k : Nat) (ps : List Str) {ι : Type} (φ : ι → Cs) (R : ι → Pr) : Prop where
  ok : ∃ C f fd, U.mg x = some (.ref C) ∧ Mk U.K C f ∧ Binds U.K fd (("self" : Str) :: ps) [] ∧ FnOk U.P U.w U.K U.mg U.base (L2N.CX U.P U.w) k f fd (("self" : Str) :: ps) (spI C φ R)
theorem initSta {B : Bs} {H1 : Hp} {C x dx : Addr} {us : List V} {rs : List Pr} {N : List Str} (k : Ok B H1) (f : F2 B us rs) (hx : H1 x = none) (hd : H1 dx = none) (ne : dx ≠ x) : Sta ⟨B, H1⟩ (some (.ow (oIns C x dx [])) :: entry rs (N.length - 1)) (L2.start N (.ref x :: us)) B (upd (upd H1 dx (.own x)) x (.ins C dx [])) := by
  have s1 : Stp B H1 B (upd H1 dx (.own x)) := Stp.beside k hd
  have hx2 : upd H1 dx (.own x) x = none := by rw [upd_ne ne.symm]; exact hx
  have s2 : Stp B H1 B (upd (upd H1 dx (.own x)) x (.ins C dx [])) := s1.trans (Stp.beside s1.ok hx2)
  have e0 := entry_sta (N := N.drop 1) k f
  have st : L2.start N (.ref x :: us) = some (.ref x) :: L2.start (N.drop 1) us := by
    unfold L2.start
    simp only [List.map_cons, List.cons_append, List.length_cons, List.length_drop]
    congr 3
    omega
  have en : (N.drop 1).length = N.length - 1 := by simp
  rw [st]
  rw [en] at e0
  have own : Own ⟨B, H1⟩ (oIns C x dx []) (.ref x) B (upd (upd H1 dx (.own x)) x (.ins C dx [])) := by
    refine ⟨fun a ha => ?_, fun a ha => ?_, fun a ha => ?_, rfl, ne, by rw [upd_ne ne, upd_same], [], upd_same, trivial⟩
    all_goals
      have ha : a = x ∨ a = dx := by simpa [oIns] using ha
    · rcases ha with rfl | rfl
      · exact k.none hx
      · exact k.none hd
    · rcases ha with rfl | rfl
      · exact hx
      · exact hd
    · rcases ha with rfl | rfl
      · rw [upd_same]; exact ⟨_, rfl, fun _ h => nomatch h⟩
      · rw [upd_ne ne, upd_same]; exact ⟨_, rfl, fun _ h => nomatch h⟩
  have noow : ∀ (i : Nat) (c : Oc), (entry rs (N.length - 1))[i]? = some (some (.ow c)) → False := fun i c h => by
    unfold entry at h
    have := List.mem_of_getElem? h
    rcases List.mem_append.mp this with q | q
    · obtain ⟨P, _, z⟩ := List.mem_map.mp q; cases z
    · have := (List.mem_replicate.mp q).2; cases this
  refine ⟨s2, ⟨by simpa using e0.env.len, fun i r h => ?_, fun i c h => ?_, fun i j c c' v v' a h1 h2 _ _ _ _ => ?_⟩⟩
  · cases i with
    | zero => simp at h
    | succ i =>
      obtain ⟨v, a, q⟩ := e0.env.sh i r (by simpa using h)
      exact ⟨v, by simpa using a, q⟩
  · cases i with
    | zero =>
      have h : oIns C x dx [] = c := by simpa using h
      subst h
      exact ⟨.ref x, rfl, own⟩
    | succ i => exact (noow i c (by simpa using h)).elim
  · cases i with
    | zero => cases j with
      | zero => rfl
      | succ j => exact (noow j c' (by simpa using h2)).elim
    | succ i => exact (noow i c (by simpa using h1)).elim
/-- what is wanted behind an __init__: the instance, on the ground -/
def retI (b : Base) (x : Addr) (R : Pr) : En := { nx := fun _ _ H => ∃ B, Stp b.B b.H B H ∧ R.r B (.ref x), rt := fun _ _ => False }
theorem init_ok {U : Uv} {x qual : Str} {params : Arguments} {body : List Stmt} {scope : Scope} {C f : Addr} {fd : FuncData} {N ps : List Str} {k : Nat} {ι : Type} {φ : ι → Cs} {R : ι → Pr} (hx : U.mg x = some (.ref C)) (hm : Mk U.K C f) (F : FunD U.K "__init__" qual params body scope [] [] f fd) (S : FnScope N (("self" : Str) :: ps) scope)
    (hb : ∀ (kV doc pm : Value) (an : Option Addr) (cdv ct : Value) (us : List Value), us.length = (("self" : Str) :: ps).length → bindArgs (PySem.W.fnOf "__init__" qual params body scope .none kV doc pm an cdv ct) ⟨us, []⟩ = pure ((("self" : Str) :: ps).zip us))
    (hl : ∀ i, (φ i).as.length = ps.length)
    (hbody : ∀ (i : ι) (cd : Value) (A : Around) (outer : List Env) (s : Shared) (b : Base) (H0 : Hp) (x dx : Addr) (E : XK), (φ i).pre → JS ⟨cxOf (L2N.CX U.P U.w) U.P U.w U.K U.mg U.base N qual scope f cd A outer s H0 E, b, outOf (φ i).exc b, k⟩ body (some (.ow (oIns C x dx [])) :: entry (φ i).as (N.length - 1)) (retI b x (R i))) : Mkr U x (k + 1) ps φ R := by
  refine ⟨C, f, fd, hx, hm, F.bindsN hb, F.ok S (fun vs H Q E h => ?_) fun cdv A outer s H vs Q E hr h => ?_⟩
  · obtain ⟨i, B, H1, x, dx, us, _, _, f2, e, _⟩ := h
    rw [e, List.length_cons, List.length_cons, f2.len, hl]
  · obtain ⟨i, B, H1, z, dx, us, pre, ok, f2, e1, e2, e3, e4, e5, kr, kx⟩ := h
    have j := hbody i cdv A outer s ⟨B, H1⟩ H z dx E pre
    refine ⟨_, pS, ?_⟩
    have w : (Gx.mk (cxOf (L2N.CX U.P U.w) U.P U.w U.K U.mg U.base N qual scope f cdv A outer s H E) ⟨B, H1⟩ (outOf (φ i).exc ⟨B, H1⟩) k).Wf := {
      tk := L2N.Takes.imp (L2N.takes_of (X := cxOf (L2N.CX U.P U.w) U.P U.w U.K U.mg U.base N qual scope f cdv A outer s H E) rfl rfl rfl rfl) fun C d σ H' ⟨dn, c, e, z, B', t⟩ => by
        subst e
        exact kx c d B' H' t z dn
      hr := fun _ => hr
      po := passes_of (X := cxOf (L2N.CX U.P U.w) U.P U.w U.K U.mg U.base N qual scope f cdv A outer s H E) rfl
      nd := S.nd
      bok := ok }
    subst e1 e5
    refine (j.run w (L2.start N (.ref z :: us)) B _ (initSta ok f2 e2 e3 e4)).mono ⟨fun σ' H' ⟨B', t, r⟩ => kr B' H' t r, fun v H' h => h.elim, fun _ _ z => z.elim, fun _ _ z => z.elim⟩
section
variable {U : Uv} {g : Gx} {Γ : Gm} {P Q : Pr} {e e1 e2 o tg : Expr} {pos p2 apos : Pos} {D : En} {st : Stmt} {ss rest : List Stmt} {rs qs : List Pr}
theorem x_make {x : Str} {k : Nat} {ps : List Str} {ι : Type} {φ : ι → Cs} {R : ι → Pr} {es : List Expr} {p : Pos} (F : Mkr U x k ps φ R) (i : ι) (h : JA g (e :: es) Γ (φ i).as) (hp : (φ i).pre := by trivial) (hx : ∀ C, ¬ (φ i).exc C := by exact fun _ h => h) (hk : k + 1 ≤ g.k := by exact Nat.le_of_ble_eq_true rfl)
    (hU : UvOf U g.X := by exact ⟨rfl, rfl, rfl, rfl, rfl⟩) (hg : Gl g.X x := by rfl) (hdb : (x == ("__debug__" : Str)) = false := by decide) (he : starEach (e :: es) g.X.env = (false, eval e g.X.env) :: starEach es g.X.env := by rfl) (hpl : (backTo pos (starEach es g.X.env)).any (·.1) = false := by rfl) (hcm : g.X.calm = true := by rfl) :
    JE g (.Call (.Name x p) (e :: es) [] pos) Γ (R i) := by
  obtain ⟨C, f, fd, a, mk, bi, d⟩ := F.ok
  obtain ⟨u1, u2, u3, u4, u5⟩ := hU
  refine ⟨fun w σ B H s => ?_⟩
  refine (ofE (pe_make (E := noE) (dvs := []) (ds := []) (by rw [u3]; exact mk) (by rw [u1, u2, u3, u4, u5]; exact d) ((w.hr hcm).mono hk) hg (by rw [u4]; exact a) (by rw [u3]; exact bi) .nil (by rw [← u1, ← u2]; exact passes_no) pA hdb he hpl) ?_)
  refine (h.run w σ B H s).mono fun vs H1 ⟨B1, a1, q⟩ => fun z dx hz hd ne => ?_
  rw [List.append_nil]
  exact ⟨i, B1, H1, z, dx, vs, hp, a1.sta.st.ok, q, rfl, hz, hd, ne, rfl, fun B' H' t r => ⟨rfl, B', a1.trans (a1.sta.step t), r⟩, fun c d B' H' t z => (hx c z).elim⟩
/-- self.f = e: a new field -/
theorem s_fldO (i : Nat) {C x dx : Addr} {fs : List (Str × Pr)} {f self : Str} {p pos' : Pos} (h : JE g e Γ P) (hc : Cls g.X.K C) (hn : NoAttr g.X.K C f) (hf : f ∉ fs.map Prod.fst) (hl : fs.length < 100) (k : JS g rest (Γ.set i (some (.ow (oIns C x dx (fs ++ [(f, P)]))))) D) (hi : Γ[i]? = some (some (.ow (oIns C x dx fs))) := by rfl) (hN : g.X.N[i]? = some self := by rfl) (hv : Vis g.X.env.scope self := by first | exact Or.inl rfl | exact Or.inr (Or.inl rfl) | exact Or.inr (Or.inr rfl))
    (hd : (self == ("__debug__" : Str)) = false := by decide) (hcd : (self == ("__classdict__" : Str)) = false := by decide) (hs : swapsWith e (some (.Attribute (.Name self p) f pos')) pos.line g.X.env = pure false := by rfl) :
    JS g (.Assign [.Attribute (.Name self p) f pos'] e pos :: rest) Γ D :=
  js_cons fun w σ B H s => of1 (ps_fld (pe_var hN hv hd hcd) pE hs) (by
    obtain ⟨v0, e, o⟩ := s.env.ow i _ hi
    refine (h.run w σ B H s).mono fun v H1 ⟨B1, a1, p1⟩ => ⟨v0, e, ?_⟩
    have o1 := o.step a1.t
    obtain ⟨e2, ne, h1, vs, h2, f2⟩ := o1.at_
    have vl : vs.length = fs.length := by rw [f2.len, List.length_map]
    have put : putF f v ((fs.map Prod.fst).zip vs) = ((fs ++ [(f, P)]).map Prod.fst).zip (vs ++ [v]) := by
      clear h2 f2
      have key : ∀ (ns : List Str) (us : List V), ns.length = us.length → f ∉ ns → putF f v (ns.zip us) = (ns ++ [f]).zip (us ++ [v]) := by
        intro ns
        induction ns with
        | nil => intro us hl _; cases us with
          | nil => rfl
          | cons _ _ => cases hl
        | cons n ns ih => intro us hl hm; cases us with
          | nil => cases hl
          | cons u us =>
            have : ¬ n = f := fun e => hm (e ▸ List.mem_cons_self ..)
            have i := ih us (by simpa using hl) fun q => hm (List.mem_cons_of_mem _ q)
            show putF f v ((n, u) :: ns.zip us) = (n, u) :: (ns ++ [f]).zip (us ++ [v])
            rw [← i]
            show (if n = f then _ else _) = _
            rw [if_neg this]
      rw [List.map_append]
      exact key _ _ (by rw [List.length_map]; exact vl.symm) hf
    refine ⟨x, C, dx, _, e2, h2, hc, hn, by rw [List.length_zip, List.length_map]; omega, k.go w a1.le ?_⟩
    rw [put]
    subst e2
    refine a1.sta.chg hi e (by simp [oIns]) (fun a m => m) ⟨rfl, ne, by rw [upd_ne ne]; exact h1, vs ++ [v], upd_same, ?_⟩
    rw [List.map_append]
    exact f2.append ⟨p1, trivial⟩)
/-- the instance is laid on the ground, at the __init__'s end -/
theorem s_initEnd (i : Nat) {C x dx : Addr} {fs : List (Str × Pr)} {R : Pr} (hR : ∀ B vs, B x = some (.ex (.ins C dx ((fs.map Prod.fst).zip vs))) → B dx = some (.ex (.own x)) → F2 B vs (fs.map Prod.snd) → R.r B (.ref x)) (hi : Γ[i]? = some (some (.ow (oIns C x dx fs))) := by rfl) : JS g [] Γ (retI g.b x R) :=
  s_nil fun σ B H s => by
    obtain ⟨v, e, o⟩ := s.env.ow i _ hi
    obtain ⟨e2, ne, h1, vs, h2, f2⟩ := o.at_
    have t := s.st.handedH o.nb o.nh
    refine ⟨_, t, hR _ vs (putH_in (by simp [oIns]) h2) (putH_in (by simp [oIns]) h1) (f2.mono (Le.putH o.nb))⟩
end
end G
set_option Elab.async false
set_option linter.all false
set_option maxRecDepth 100000
set_option maxHeartbeats 4000000
namespace G
open PySem PySem.Spec PyProof.Rows L2 PySem.W
/-! ### sorted(xs, key=f), f a def of the module -/
section
variable {X : Cx} {pins : List (Addr × Obj)} {σ : L2.St} {H : Hp} {s : Shared}
/-- a def called from below, that never refuses -/
theorem call_calm {Ar : Around} {fa : Addr} {fd : FuncData} {ps : List Str} {k : Nat} {sp : L2.Sp} {Qv : VK} {us : List Value} {ws : List V} (F : FnOk X.prog X.w X.K X.mg X.base (L2N.CX X.prog X.w) k fa fd ps sp) (room : Room k Ar) (en : Env0 X.prog X.w X.K X.mg X.base Ar X.stack s H)
    (bnd : Binds X.K fd ps []) (I : Inv X pins σ H s) (rv : Vals ws us) (q : sp ws H Qv noE) : wpAny (model X.prog X.w) Ar (call (.ref fa) us) (EP X pins σ Qv) (fun _ _ => False) s := by
  have hlen : us.length = ps.length := by rw [← rv.length]; exact F.len _ _ _ _ q
  have bd : BindsTo s fd ⟨us, []⟩ (ps.zip us) := by
    have z := bnd s us I.kIn (by rw [List.append_nil]; exact hlen)
    rw [List.append_nil] at z
    exact z
  refine wpAny_call (codeAny_mono (F.run Ar X.stack s H ⟨us, []⟩ us ws Qv noE room en bd rv q) fun r s2 hr => ?_)
  match r, hr with
  | .ok (.ret _), hr => exact I.after hr
  | .error _, hr => exact (let ⟨_, _, _, _, _, _, _, _, _, _, _, _, h⟩ := hr; h.elim)
/-- an address let go -/
def hole (h : Heap) (c : Addr) : Heap := h.update c fun o => { o with data := .freed }
theorem hole_other {h : Heap} {c d : Addr} (n : d ≠ c) : (hole h c).get? d = h.get? d := (Heap.SameBut.update h c _).2 d n
theorem hole_at {h : Heap} {c : Addr} : (hole h c).get? c = none := by
  unfold hole Heap.update Heap.get?
  obtain ⟨objs, l⟩ := h
  show (match (objs.modify c _)[c]? with
    | some ⟨_, _, .freed, _⟩ => none
    | o => o) = none
  rw [Array.getElem?_modify]
  cases objs[c]? with
  | none => simp
  | some o => simp
theorem each_keysD (I : Inv X pins σ H s) : ∀ {ks : List V} {us : List Value} {ds : List PyData}, Vals ks us → DpAll X.K H ks ds → EachIs (fun v d => ∃ as, Reads s.heap v d as) us ds
  | [], _, [], .nil, _ => .nil
  | _ :: _, _, _ :: _, .cons h t, .cons a c => .cons (Dp.reads I _ _ _ a h) (each_keysD I t c)
theorem sort_by_run {β : Type} {bs : List β} {f : β → V} {enc : β → PyData} {l fa : Addr} {fd : FuncData} {ps : List Str} {k : Nat} {sp : L2.Sp} {Qv : VK} (J : Nat → Hp → List V → Prop)
    (F : FnOk X.prog X.w X.K X.mg X.base (L2N.CX X.prog X.w) k fa fd ps sp) (room : Room (k + 2) X.A) (bnd : Binds X.K fd ps []) (I : Inv X pins σ H s) (hs : SqL X.K H l (bs.map f)) (hal : AllAlike (bs.map enc)) (hk : Sortable (bs.map enc)) (hdp : ∀ b ∈ bs, (enc b).depth ≤ 190)
    (j0 : J 0 H []) (turn : ∀ i b H1 ks, bs[i]? = some b → J i H1 ks → sp [f b] H1 (fun v H2 => J (i + 1) H2 (ks ++ [v])) noE) (data : ∀ H1 ks, J bs.length H1 ks → DpAll X.K H1 ks (bs.map enc))
    (q : ∀ H1 ks p, J bs.length H1 ks → H p = none → H1 p = none → Qv (.ref p) (upd H1 p (.lst ((bs.mergeSort (dataLe false enc)).map f)))) :
    wpAny (model X.prog X.w) X.A (call (.builtin "sorted") [.ref l] [(Str.ofString "key", .ref fa)]) (EP X pins σ Qv) X.xe s := by
  obtain ⟨its, rv, hl, hz⟩ := I.list hs
  rw [List.length_map] at hz
  have hil : its.length = bs.length := by rw [← rv.length, List.length_map]
  have room2 : Room k X.A.in1.in1 := (show Room (k + 1) X.A.in1 from Room.in1 room).in1
  refine sorted_of_sort hl.isList (by rw [hil]; exact hz) (ksk_s1 _ _) (fun _ => ksk_l1 _ _) fun E' => ?_
  rw [ksk_t1]
  generalize hb : s.heap.objs.size + 1 = box
  have h0 : (copyHeap s.heap its).get? box = some (seqObj "list" its.toArray 0) := by rw [← hb]; exact copyHeap_at s.heap its
  obtain ⟨ep, h1⟩ : ∃ ep, ((copyHeap s.heap its).update box (Obj.mapSeq fun _ => (#[] : Array Value))).get? box = some (seqObj "list" #[] ep) := ⟨_, get?_update_seq h0 fun _ => #[]⟩
  unfold ksk_tree
  refine wpAny_bind (listItems_at h0 rfl ?_)
  refine wpAny_bind (listUpdate_at h0 rfl ?_ (by rw [List.size_toArray, hil]; exact hz) (Nat.zero_le _))
  refine wpAny_bind (seqEpoch_at h1 rfl ?_)
  refine wpAny_bind (wpAny_newTuple ?_ (by show its.length ≤ _; rw [hil]; exact hz))
  refine wpAny_bind (wpAny_newList ?_ (Nat.zero_le _))
  refine wpAny_holding ?_
  have hc : (((copyHeap s.heap its).update box (Obj.mapSeq fun _ => (#[] : Array Value))).push (seqObj "tuple" its.toArray 0)).objs.size = (copyHeap s.heap its).objs.size + 1 := by rw [size_push', Heap.size_update]
  have lb : box < (copyHeap s.heap its).objs.size := Heap.lt_size h0
  generalize hS : (((copyHeap s.heap its).update box (Obj.mapSeq fun _ => (#[] : Array Value))).push (seqObj "tuple" its.toArray 0)).objs.size = st
  have neb : st ≠ box := by rw [hc] at hS; omega
  generalize hh : (((copyHeap s.heap its).update box (Obj.mapSeq fun _ => (#[] : Array Value))).push (seqObj "tuple" its.toArray 0)).push (seqObj "list" #[] 0) = hp
  have a1 : hp.get? st = some (seqObj "list" #[] 0) := by rw [← hh, ← hS]; exact Heap.get?_push_size _ rfl
  have a2 : hp.get? box = some (seqObj "list" #[] ep) := by rw [← hh]; exact Heap.get?_push_of_some _ (Heap.get?_push_of_some _ h1)
  have a3 : ∀ c o, s.heap.get? c = some o → hp.get? c = some o := fun c o e => by rw [← hh, ← hb]; exact sorting_copy_old e
  have lo1 : s.heap.objs.size ≤ box := by omega
  have lo2 : s.heap.objs.size ≤ st := by omega
  have f1 : FpOk X pins H box := I.fpOk lo1 (I.hok.fresh lo1)
  have f2 : FpOk X pins H st := I.fpOk lo2 (I.hok.fresh lo2)
  unfold ksk_rest
  refine wpAny_bind (wpAny_rule ?_)
  rw [List.forIn_toArray]
  refine wpAny_bind (ksk_fold (fun i t => ∃ H1 ks kA n, Inv X pins σ H1 t ∧ H1 st = none ∧ H1 box = none ∧ t.heap.get? st = some (seqObj "list" kA n) ∧ t.heap.get? box = some (seqObj "list" #[] ep) ∧ kA.size = i ∧ Vals ks kA.toList ∧ J i H1 ks) its 0 _
    ⟨H, [], #[], 0, I.kept a3, f2.1, f1.1, a1, a2, rfl, .nil, j0⟩ ?_ ?_)
  · rintro i x t hx ⟨H1, ks, kA, n, I1, n1, n2, b1, b2, hsz, rk, j⟩
    rw [Nat.zero_add] at j hsz ⊢
    have li : i < its.length := (List.getElem?_eq_some_iff.mp hx).1
    have hbi : bs[i]? = some (bs[i]'(by omega)) := List.getElem?_eq_getElem _
    have rx : RelV (f (bs[i]'(by omega))) x := by
      obtain ⟨u, hu, r⟩ := rv.get (i := i) (by rw [List.getElem?_map, hbi]; rfl)
      rw [hx] at hu
      cases hu
      exact r
    have I2 : Inv X (pins ++ pinsAt [st, box] t.heap) σ H1 t := I1.pinned (fun c hc' => by
      rcases List.mem_cons.mp hc' with e | hc'
      · rw [e]; exact ⟨n1, f2.2⟩
      · rw [List.mem_singleton.mp hc']; exact ⟨n2, f1.2⟩) (fun c hc' => by
      rcases List.mem_cons.mp hc' with e | hc'
      · rw [e]; exact ⟨_, b1, fun v z => by cases z⟩
      · rw [List.mem_singleton.mp hc']; exact ⟨_, b2, fun v z => by cases z⟩)
    refine wpAny_bind (wpAny_attempt (wpAny_mono (call_calm F room2 I1.env0.in1.in1 bnd I2 (.cons rx .nil) (turn i _ H1 ks hbi j)) (fun v t2 hv => ?_) fun _ _ z => z.elim))
    obtain ⟨v', H2, I3, rvv, j2⟩ := hv
    have p1 := I3.pin (st, _) (List.mem_append_right _ (List.mem_append_right _ (mem_pinsAt (List.mem_cons_self ..) b1)))
    have p2 := I3.pin (box, _) (List.mem_append_right _ (List.mem_append_right _ (mem_pinsAt (List.mem_cons_of_mem _ (List.mem_singleton.mpr rfl)) b2)))
    have I4 := I3.unpinned
    obtain ⟨n', c1⟩ : ∃ n', (t2.heap.update st (Obj.mapSeq (·.push v))).get? st = some (seqObj "list" (kA.push v) n') := ⟨_, get?_update_seq p1.1 (·.push v)⟩
    have sb := Heap.SameBut.update t2.heap st (Obj.mapSeq (·.push v))
    refine wpAny_bind (listUpdate_at p1.1 rfl ?_ (by omega) (by rw [Array.size_push]; omega))
    refine wpAny_pure ⟨rfl, H2, ks ++ [v'], kA.push v, n', ?_, p1.2.1, p2.2.1, c1, (sb.2 box (Ne.symm neb)).trans p2.1, by rw [Array.size_push, hsz], by rw [Array.toList_push]; exact rk.append (.cons rvv .nil), j2⟩
    exact I4.turnedL (ch := [st]) (fun c o hc' e => (sb.2 c (fun z => hc' (by rw [z]; exact List.mem_singleton.mpr rfl))).trans e) fun c hc' => by
      rw [List.mem_singleton.mp hc']
      exact ⟨p1.2.1, f2.2⟩
  · rintro t ⟨H1, ks, kA, n, I1, n1, n2, b1, b2, hsz, rk, j⟩
    rw [Nat.zero_add] at hsz j
    rw [hil] at j
    have hkz : EachIs (fun v d => ∃ as, Reads t.heap v d as) kA.toList (bs.map enc) := each_keysD I1 rk (data H1 ks j)
    refine wpAny_bind (listItems_at b1 rfl ?_)
    have S : SortsAt X.prog X.w X.A.in1.in1 t (dataKind t.heap (bs.map enc)) kA.toList := SortsAt.data hkz hal hk fun d hd => by
      obtain ⟨b, hb', e⟩ := List.mem_map.mp hd
      have h1 := hdp b hb'
      have h2 := room2.un
      rw [← e]
      omega
    refine keyH_end (κ := dataKind t.heap (bs.map enc)) (h₁ := hole t.heap st) (fun c o _ e => ?_) hole_at b1 b2 neb S hsz (by rw [hil]; exact hz) fun h3 tk3 c3 k3 n3 => ?_
    · by_cases z : c = st
      · rw [z, hole_at] at e; cases e
      · rw [hole_other z] at e; exact e
    · refine ⟨rfl, ?_⟩
      have ko : KeyedOut false (bs.map enc) its (sortVals (dataKind t.heap (bs.map enc)) false kA.toList its) := ⟨t.heap, kA.toList, hal, rfl, hkz⟩
      have eo := keyedOut_each (R := fun v b => RelV (f b) v) enc ko (each_of rv)
      have hlen : ((bs.mergeSort (dataLe false enc)).map f).length ≤ sizeLine := by rw [List.length_map, List.length_mergeSort]; exact hz
      have I5 : Inv X pins σ H1 { t with heap := h3, toks := tk3 } := I1.turnedL (ch := [st, box]) (fun c o hc' e => k3 c o (fun z => hc' (by rw [z]; simp)) (by rw [hole_other (fun z => hc' (by rw [z]; simp))]; exact e)) fun c hc' => by
        rcases List.mem_cons.mp hc' with e | hc'
        · rw [e]; exact ⟨n1, f2.2⟩
        · rw [List.mem_singleton.mp hc']; exact ⟨n2, f1.2⟩
      have I6 := I5.take (h' := h3) (t' := tk3) (it := box) (o := .lst ((bs.mergeSort (dataLe false enc)).map f)) (fun _ _ _ e => e) ⟨n2, f1.2⟩ ⟨hlen, _, c3, vals_each eo, n3⟩
      exact ⟨.ref box, _, I6, rfl, q H1 ks box j f1.1 n2⟩
end
def rSortBy (X : Cx) (sp : L2.Sp) (fa : Addr) : List V → List V → Hp → VK → Prop := fun us zs H Q => ∃ (l : Addr) (β : Type) (bs : List β) (f : β → V) (enc : β → PyData) (J : Nat → Hp → List V → Prop),
  us = [.ref l] ∧ zs = [.ref fa] ∧ SqL X.K H l (bs.map f) ∧ AllAlike (bs.map enc) ∧ Sortable (bs.map enc) ∧ (∀ b ∈ bs, (enc b).depth ≤ 190) ∧ J 0 H [] ∧
  (∀ i b H1 ks, bs[i]? = some b → J i H1 ks → sp [f b] H1 (fun v H2 => J (i + 1) H2 (ks ++ [v])) noE) ∧ (∀ H1 ks, J bs.length H1 ks → DpAll X.K H1 ks (bs.map enc)) ∧
  (∀ H1 ks p, J bs.length H1 ks → H p = none → H1 p = none → Q (.ref p) (upd H1 p (.lst ((bs.mergeSort (dataLe false enc)).map f))))
theorem cr_sortBy {X : Cx} {fa : Addr} {fd : FuncData} {ps : List Str} {k : Nat} {sp : L2.Sp} (F : FnOk X.prog X.w X.K X.mg X.base (L2N.CX X.prog X.w) k fa fd ps sp) (room : Room (k + 2) X.A) (bnd : Binds X.K fd ps []) : CallRK X (.builtin "sorted") [Str.ofString "key"] (rSortBy X sp fa) := by
  intro pins s σ H us zs vs ws Q I r rz h
  obtain ⟨l, β, bs, f, enc, J, rfl, rfl, hs, hal, hk, hdp, j0, turn, data, q⟩ := h
  obtain rfl := Vals.ref1 r
  obtain ⟨w1, rfl, e1⟩ := vals1 rz
  obtain rfl : w1 = Value.ref fa := e1
  exact sort_by_run J F room bnd I hs hal hk hdp j0 turn data q
section
variable {g : Gx} {Γ : Gm} {P Q R : Pr} {e e1 e2 tg : Expr} {pos p2 : Pos} {rs qs : List Pr} {U : Uv}
theorem y_sortBy {α : Type} {xs : List α} {r R : α → Pr} {enc : α → PyData} {p pk pn : Pos} {x : Str} {k : Nat} {ps : List Str} {ι : Type} {φ : ι → Cs} (F : Fd U x k ps φ) (i : α → ι) (b : Bi g.X.mg) (h : JE g e Γ (rLs g.X.K (xs.map r)))
    (has : ∀ a ∈ xs, (φ (i a)).as = [r a]) (hrs : ∀ a ∈ xs, ∀ b1, (φ (i a)).rs b1 = .sh (R a)) (hpre : ∀ a ∈ xs, (φ (i a)).pre) (hex : ∀ a ∈ xs, ∀ C, ¬ (φ (i a)).exc C)
    (hd : ∀ a ∈ xs, HasD g.X.K (R a) (enc a)) (hal : AllAlike (xs.map enc)) (hk : Sortable (xs.map enc)) (hdp : ∀ a ∈ xs, (enc a).depth ≤ 190) (hkk : k + 2 ≤ g.k := by exact Nat.le_of_ble_eq_true rfl)
    (hU : UvOf U g.X := by exact ⟨rfl, rfl, rfl, rfl, rfl⟩) (hg : Gl g.X "sorted" := by rfl) (hgx : Gl g.X x := by rfl) (hdb : (x == ("__debug__" : Str)) = false := by decide) (he : starEach [e] g.X.env = (false, eval e g.X.env) :: starEach [] g.X.env := by rfl)
    (hall : (backToKw pos (keywordEach [⟨some "key", .Name x pn, pk⟩] g.X.env)).all (·.1.isSome) = true := by rfl) (hnone : (backToKw pos (keywordEach [⟨some "key", .Name x pn, pk⟩] g.X.env)).any (·.1.isNone) = false := by rfl) (hks : (backToKw pos (keywordEach [⟨some "key", .Name x pn, pk⟩] g.X.env)).filterMap (·.1) = [Str.ofString "key"] := by rfl)
    (hbe : backTo pos (starEach [e] g.X.env) = (false, eval e g.X.env) :: backTo pos (starEach [] g.X.env) := by rfl) (hpl : (backTo pos (starEach [e] g.X.env)).any (·.1) = false := by rfl)
    (hcm : g.X.calm = true := by rfl) : JO g (.Call (.Name "sorted" p) [e] [⟨some "key", .Name x pn, pk⟩] pos) Γ (oL ((xs.mergeSort (dataLe false enc)).map r)) := by
  obtain ⟨fa, fd, hm, kp, bd, ok⟩ := F.ok
  obtain ⟨u1, u2, u3, u4, u5⟩ := hU
  refine ⟨fun w σ B H s => ?_⟩
  refine ofE (pe_callBK (cr_sortBy (by rw [u1, u2, u3, u4, u5]; exact ok) ((w.hr hcm).mono hkk) (by rw [u3]; exact bd)) hg b.sorted bo_sorted (pa_cons pE pA he) (pk_cons (pe_glob (v := .ref fa) hgx (by rw [u4]; exact hm) rfl hdb) pk_nil) (by decide) (by decide) hbe hpl hall hnone hks) ?_
  refine (h.run w σ B H s).mono fun v H1 ⟨B1, a1, q⟩ => ((a_nil (g := g) (Γ := Γ)).run w σ B1 H1 a1.sta).mono fun vs H2 ⟨B2, a2, f⟩ => ?_
  have ev : vs = [] := by
    cases vs with
    | nil => rfl
    | cons _ _ => exact f.elim
  subst ev
  obtain ⟨a, ws, e2, ha, f2⟩ := q
  subst e2
  have hlen : ws.length = xs.length := by rw [f2.len, List.length_map]
  have fz := (f2.mono a2.le).zip_mem
  have m1 : (ws.zip xs).map (fun z => z.1) = ws := List.map_fst_zip (by omega)
  have m2 : (ws.zip xs).map (fun z => z.2) = xs := List.map_snd_zip (by omega)
  have m3 : (ws.zip xs).map (fun z => enc z.2) = xs.map enc := by
    have : (ws.zip xs).map (fun z => enc z.2) = ((ws.zip xs).map (fun z => z.2)).map enc := by rw [List.map_map]; rfl
    rw [this, m2]
  have len2 : (ws.zip xs).length = xs.length := by rw [← m2, List.length_map, m2]
  refine ⟨a, V × α, ws.zip xs, fun z => z.1, fun z => enc z.2, fun i H' ks => ∃ B', Aft g.b Γ σ B2 H2 B' H' ∧ F2 B' ks ((xs.take i).map R), rfl, rfl, by rw [m1]; exact (ha.mono a2.le).sq a2.sta.st.ok, by rw [m3]; exact hal, by rw [m3]; exact hk, fun z hz => hdp z.2 (List.of_mem_zip hz).2, ⟨B2, a2.sta.refl, trivial⟩, ?_, ?_, ?_⟩
  · rintro j z H' ks hz ⟨B', af, fk⟩
    have zm := List.mem_of_getElem? hz
    have z2 := (List.of_mem_zip zm).2
    refine ⟨i z.2, B', hpre _ z2, af.sta.st.ok, ?_, fun v B3 H3 t r => ⟨B3, af.trans (af.sta.step t), ?_⟩, fun C d B3 H3 _ ex => (hex _ z2 C ex).elim⟩
    · rw [has _ z2]
      exact ⟨(r z.2).mono _ _ _ af.le (fz z zm), trivial⟩
    · rw [hrs _ z2] at r
      have : xs.take (j + 1) = xs.take j ++ [z.2] := by
        rw [List.take_add_one]
        have : xs[j]? = some z.2 := by rw [← m2, List.getElem?_map, hz]; rfl
        rw [this]; rfl
      rw [this, List.map_append]
      exact (fk.mono t.le).append ⟨r, trivial⟩
  · rintro H' ks ⟨B', af, fk⟩
    rw [len2, List.take_length] at fk
    rw [m3]
    have key : ∀ (ys : List α), (∀ y ∈ ys, y ∈ xs) → HasDs g.X.K (ys.map R) (ys.map enc) := by
      intro ys
      induction ys with
      | nil => intro _; exact trivial
      | cons y ys ih => intro hy; exact ⟨hd y (hy y (List.mem_cons_self ..)), ih fun c hc => hy c (List.mem_cons_of_mem _ hc)⟩
    exact hds_all af.sta.st.ok (key xs fun _ h => h) fk
  · rintro H' ks p' ⟨B', af, fk⟩ hp0 hp1
    have sm : ((ws.zip xs).mergeSort (dataLe false fun z => enc z.2)).map (fun z => z.2) = xs.mergeSort (dataLe false enc) := by
      have := sort_maps (r := dataLe false fun z : V × α => enc z.2) (fun z : V × α => z.2) (s := dataLe false enc) (l := ws.zip xs) (fun a _ b _ => rfl)
      rw [this, m2]
    refine ⟨B', ((a1.trans a2).trans af).trans (af.sta.beside hp1), ?_, one_fresh (a1.th (a2.th hp0))⟩
    refine own_mk (af.sta.st.ok.none hp1) (af.sta.st.bnone hp1) upd_same ?_
    rw [← sm]
    exact F2.of_pairs fun z hz => (r z.2).mono _ _ _ af.le (fz z ((List.mergeSort_perm _ _).mem_iff.mp hz))
end
end G
set_option Elab.async false
set_option linter.all false
set_option maxRecDepth 100000
set_option maxHeartbeats 2000000
namespace G
open PySem PySem.W PyProof.Rows
/-! ### terms, as handed in (lists, tuples), and flat (tuples alone) -/
inductive Tm where
  | lf (s : Str)
  | nd (t : Bool) (n : Str) (ps : List Tm)
inductive Fm where
  | lf (s : Str)
  | nd (n : Str) (ps : List Fm)
theorem Tm.ind {p : Tm → Prop} (h1 : ∀ s, p (.lf s)) (h2 : ∀ t n ps, (∀ q ∈ ps, p q) → p (.nd t n ps)) : ∀ x, p x
  | .lf s => h1 s
  | .nd t n ps => h2 t n ps fun q _ => Tm.ind h1 h2 q
theorem Fm.ind {p : Fm → Prop} (h1 : ∀ s, p (.lf s)) (h2 : ∀ n ps, (∀ q ∈ ps, p q) → p (.nd n ps)) : ∀ x, p x
  | .lf s => h1 s
  | .nd n ps => h2 n ps fun q _ => Fm.ind h1 h2 q
mutual
def Fm.dec : (a b : Fm) → Decidable (a = b)
  | .lf a, .lf b => if h : a = b then .isTrue (by rw [h]) else .isFalse fun e => h (by cases e; rfl)
  | .lf _, .nd _ _ => .isFalse nofun
  | .nd _ _, .lf _ => .isFalse nofun
  | .nd n ps, .nd m qs =>
    if h : n = m then
      match Fm.decs ps qs with
      | .isTrue e => .isTrue (by rw [h, e])
      | .isFalse e => .isFalse fun z => e (by cases z; rfl)
    else .isFalse fun e => h (by cases e; rfl)
def Fm.decs : (a b : List Fm) → Decidable (a = b)
  | [], [] => .isTrue rfl
  | [], _ :: _ => .isFalse nofun
  | _ :: _, [] => .isFalse nofun
  | a :: as, b :: bs =>
    match Fm.dec a b with
    | .isTrue h =>
      match Fm.decs as bs with
      | .isTrue e => .isTrue (by rw [h, e])
      | .isFalse e => .isFalse fun z => e (by cases z; rfl)
    | .isFalse h => .isFalse fun z => h (by cases z; rfl)
end
instance : DecidableEq Fm := Fm.dec
/-- a wish begins with the mark -/
def isMark (s : Str) : Bool := s.cps[0]? == some 63
def Fm.sort : Fm → Nat
  | .lf s => if isMark s then 0 else 1
  | .nd _ _ => 2
mutual
def Fm.rk : Fm → PyData
  | .lf s => .tuple [.int (if isMark s then 0 else 1), .str s]
  | .nd n ps => .tuple (.int 2 :: .str n :: .int ((ps.length : Int) + 1) :: Fm.rks ps)
def Fm.rks : List Fm → List PyData
  | [] => []
  | p :: ps => p.rk :: Fm.rks ps
end
theorem Fm.rks_map : ∀ ps : List Fm, Fm.rks ps = ps.map Fm.rk
  | [] => by rw [Fm.rks]; rfl
  | p :: ps => by rw [Fm.rks, Fm.rks_map ps]; rfl
def sLt (a b : Str) : Bool := dataLt (.str a) (.str b)
mutual
/-- one is ahead of another one, as the law goes through them -/
def Fm.ahead : Fm → Fm → Bool
  | .lf a, .lf b => if isMark a = isMark b then sLt a b else isMark a
  | .lf _, .nd _ _ => true
  | .nd _ _, .lf _ => false
  | .nd n ps, .nd m qs => if n = m then (if ps.length = qs.length then Fm.aheads ps qs else decide (ps.length < qs.length)) else sLt n m
def Fm.aheads : List Fm → List Fm → Bool
  | [], _ => false
  | _ :: _, [] => false
  | p :: ps, q :: qs => if p = q then Fm.aheads ps qs else Fm.ahead p q
end
mutual
theorem Fm.rk_alike : ∀ a b : Fm, alike a.rk b.rk = true
  | .lf a, .lf b => by simp [Fm.rk, alike, alikeAll]
  | .lf a, .nd n ps => by simp [Fm.rk, alike, alikeAll]
  | .nd n ps, .lf b => by simp [Fm.rk, alike, alikeAll]
  | .nd n ps, .nd m qs => by
    have := Fm.rks_alike ps qs
    simp [Fm.rk, alike, alikeAll, this]
theorem Fm.rks_alike : ∀ a b : List Fm, alikeAll (Fm.rks a) (Fm.rks b) = true
  | [], _ => by rw [Fm.rks, alikeAll]
  | p :: ps, [] => by rw [Fm.rks, Fm.rks, alikeAll]
  | p :: ps, q :: qs => by
    rw [Fm.rks, Fm.rks, alikeAll, Fm.rk_alike p q, Fm.rks_alike ps qs]; rfl
end
mutual
theorem Fm.rk_eqv : ∀ a b : Fm, PyData.eqv a.rk b.rk = decide (a = b)
  | .lf a, .lf b => by
    by_cases h : a = b
    · subst h; simp [Fm.rk, PyData.eqv, PyData.eqvAll]
    · simp [Fm.rk, PyData.eqv, PyData.eqvAll, h]
  | .lf a, .nd n ps => by simp [Fm.rk, PyData.eqv, PyData.eqvAll]
  | .nd n ps, .lf b => by simp [Fm.rk, PyData.eqv, PyData.eqvAll]
  | .nd n ps, .nd m qs => by
    have := Fm.rks_eqv ps qs
    by_cases h : n = m
    · by_cases h2 : ps = qs
      · subst h h2; simp [Fm.rk, PyData.eqv, PyData.eqvAll, this]
      · simp [Fm.rk, PyData.eqv, PyData.eqvAll, this, h2]
    · simp [Fm.rk, PyData.eqv, PyData.eqvAll, h]
theorem Fm.rks_eqv : ∀ a b : List Fm, PyData.eqvAll (Fm.rks a) (Fm.rks b) = decide (a = b)
  | [], [] => by rw [Fm.rks, PyData.eqvAll]; simp
  | [], _ :: _ => by rw [Fm.rks, Fm.rks, PyData.eqvAll]; simp
  | _ :: _, [] => by rw [Fm.rks, Fm.rks, PyData.eqvAll]; simp
  | p :: ps, q :: qs => by
    rw [Fm.rks, Fm.rks, PyData.eqvAll, Fm.rk_eqv p q, Fm.rks_eqv ps qs]
    by_cases h : p = q <;> by_cases h2 : ps = qs <;> simp [h, h2]
end
theorem sLt_self (a : Str) : sLt a a = false := PyProof.Rows.lex_irrefl _
mutual
theorem Fm.rk_lt : ∀ a b : Fm, dataLt a.rk b.rk = a.ahead b
  | .lf a, .lf b => by
    rw [Fm.rk, Fm.rk, Fm.ahead, dataLt_pair (by simp [alike]) (by simp [alike])]
    cases isMark a <;> cases isMark b <;> simp [PyData.eqv, dataLt_int]
    all_goals
      by_cases h : a = b
      · subst h; rw [sLt_self]; simp
      · simp [h, sLt]
  | .lf a, .nd n ps => by
    rw [Fm.rk, Fm.rk, Fm.ahead, dataLt_tuple, dataLt_cons (by simp [alike])]
    cases isMark a <;> simp [PyData.eqv, dataLt_int]
  | .nd n ps, .lf b => by
    rw [Fm.rk, Fm.rk, Fm.ahead, dataLt_tuple, dataLt_cons (by simp [alike])]
    cases isMark b <;> simp [PyData.eqv, dataLt_int]
  | .nd n ps, .nd m qs => by
    have h := Fm.rks_lt ps qs
    rw [Fm.rk, Fm.rk, Fm.ahead, dataLt_tuple, dataLt_cons (by simp [alike]), if_pos (by simp [PyData.eqv]), dataLt_cons (by simp [alike]), dataLt_cons (by simp [alike])]
    by_cases h1 : n = m
    · subst h1
      rw [if_pos (by simp [PyData.eqv]), if_pos rfl]
      by_cases h2 : ps.length = qs.length
      · rw [if_pos (by simp [PyData.eqv, h2]), if_pos h2]
        exact h h2
      · rw [if_neg (by simp [PyData.eqv]; omega), if_neg h2, dataLt_int]
        simp only [decide_eq_decide]; omega
    · rw [if_neg (by simp [PyData.eqv, h1]), if_neg h1]
      rfl
theorem Fm.rks_lt : ∀ a b : List Fm, a.length = b.length → PyProof.Rows.lexLt itemOrd (keyToksAll (Fm.rks a)) (keyToksAll (Fm.rks b)) = Fm.aheads a b
  | [], [], _ => by rw [Fm.rks, Fm.aheads]; exact PyProof.Rows.lex_irrefl _
  | [], _ :: _, h => by simp at h
  | _ :: _, [], h => by simp at h
  | p :: ps, q :: qs, h => by
    rw [Fm.rks, Fm.rks, Fm.aheads, dataLt_cons (Fm.rk_alike p q), Fm.rk_eqv, Fm.rk_lt p q, Fm.rks_lt ps qs (by simpa using h)]
    by_cases e : p = q <;> simp [e]
end
/-! the order -/
theorem Fm.irr (a : Fm) : a.ahead a = false := by rw [← Fm.rk_lt]; exact PyProof.Rows.lex_irrefl _
end G
set_option Elab.async false
set_option linter.all false
set_option maxRecDepth 100000
set_option maxHeartbeats 2000000
namespace G
open PySem PySem.W PyProof.Rows
theorem Fm.rk_inj {a b : Fm} (h : keyToks a.rk = keyToks b.rk) : a = b := by
  by_cases e : a = b
  · exact e
  · have z := (toks_eqv a.rk b.rk (Fm.rk_alike a b)).2 (by rw [Fm.rk_eqv]; exact decide_eq_false e) [] [Sum.inl 0]
    rw [h, lex_pre, PyProof.Rows.lex_irrefl] at z
    exact absurd z (by decide)
theorem Fm.trans {a b c : Fm} (h1 : a.ahead b = true) (h2 : b.ahead c = true) : a.ahead c = true := by
  rw [← Fm.rk_lt] at *
  exact PyProof.Rows.lex_trans _ _ _ h1 h2
theorem Fm.total {a b : Fm} (h1 : a.ahead b = false) (h2 : b.ahead a = false) : a = b := by
  rw [← Fm.rk_lt] at *
  exact Fm.rk_inj (PyProof.Rows.lex_total _ _ h1 h2)
theorem Fm.neg {a b c : Fm} (h1 : b.ahead a = false) (h2 : c.ahead b = false) : c.ahead a = false := by
  cases h : c.ahead a with
  | false => rfl
  | true =>
    rw [← Fm.rk_lt] at h1 h2 h
    rcases PyProof.Rows.lex_negTrans _ (keyToks b.rk) _ h with z | z
    · rw [show PyProof.Rows.lexLt itemOrd (keyToks c.rk) (keyToks b.rk) = dataLt c.rk b.rk from rfl, h2] at z; cases z
    · rw [show PyProof.Rows.lexLt itemOrd (keyToks b.rk) (keyToks a.rk) = dataLt b.rk a.rk from rfl, h1] at z; cases z
/-! ### putting in order -/
def Fm.place (p : Fm) (xs : List Fm) : Nat := xs.findIdx p.ahead
def insF (xs : List Fm) (p : Fm) : List Fm := xs.take (p.place xs) ++ [p] ++ xs.drop (p.place xs)
def sortF (xs : List Fm) : List Fm := xs.mergeSort (dataLe false Fm.rk)
abbrev InOrder (xs : List Fm) : Prop := xs.Pairwise fun a b => b.ahead a = false
theorem dataLe_ahead (a b : Fm) : dataLe false Fm.rk a b = !b.ahead a := by
  rw [dataLe_eq, ← Fm.rk_lt]; rfl
theorem sortF_order (xs : List Fm) : InOrder (sortF xs) := by
  have h := List.pairwise_mergeSort (le := dataLe false Fm.rk) (fun a b c h1 h2 => by
    rw [dataLe_ahead, Bool.not_eq_true'] at *
    exact Fm.neg h1 h2) (fun a b => by
    rw [dataLe_ahead, dataLe_ahead]
    cases h1 : b.ahead a with
    | false => rfl
    | true =>
      cases h2 : a.ahead b with
      | false => rfl
      | true => have := Fm.trans h1 h2; rw [Fm.irr] at this; cases this) xs
  exact h.imp fun {a b} z => by rw [dataLe_ahead, Bool.not_eq_true'] at z; exact z
theorem sortF_perm (xs : List Fm) : (sortF xs).Perm xs := List.mergeSort_perm _ _
theorem insF_perm (xs : List Fm) (p : Fm) : (insF xs p).Perm (xs ++ [p]) := by
  unfold insF
  have : (xs.take (p.place xs) ++ [p] ++ xs.drop (p.place xs)).Perm (xs.take (p.place xs) ++ xs.drop (p.place xs) ++ [p]) := by
    rw [List.append_assoc, List.append_assoc]
    exact List.Perm.append_left _ List.perm_append_comm
  rwa [List.take_append_drop] at this
theorem insF_order {xs : List Fm} {p : Fm} (h : InOrder xs) : InOrder (insF xs p) := by
  unfold insF
  have hx : (xs.take (p.place xs) ++ xs.drop (p.place xs)).Pairwise fun a b : Fm => b.ahead a = false := by rw [List.take_append_drop]; exact h
  obtain ⟨o1, o2, o3⟩ := List.pairwise_append.mp hx
  have a1 : ∀ a ∈ xs.take (p.place xs), p.ahead a = false := fun a ha => by
    obtain ⟨i, hi, e⟩ := List.mem_take_iff_getElem.mp ha
    have hi' : i < p.place xs := by omega
    have := List.not_of_lt_findIdx hi'
    rw [← e]
    simpa using this
  have a2 : ∀ b ∈ xs.drop (p.place xs), b.ahead p = false := fun b hb => by
    obtain ⟨i, hi, e⟩ := List.mem_drop_iff_getElem.mp hb
    have hl : p.place xs < xs.length := by omega
    have hy : p.ahead (xs[p.place xs]) = true := List.findIdx_getElem (w := hl)
    have hb' : b.ahead (xs[p.place xs]) = false := by
      cases i with
      | zero => simp only [Nat.add_zero] at e; rw [← e]; exact Fm.irr _
      | succ i =>
        have := List.pairwise_iff_getElem.mp h (p.place xs) (p.place xs + (i + 1)) hl (by omega) (by omega)
        rw [← e]; exact this
    cases q : b.ahead p with
    | false => rfl
    | true => rw [Fm.trans q hy] at hb'; cases hb'
  refine List.pairwise_append.mpr ⟨List.pairwise_append.mpr ⟨o1, List.pairwise_singleton _ _, fun a ha b hb => by rw [List.mem_singleton.mp hb]; exact a1 a ha⟩, o2, fun a ha b hb => ?_⟩
  rcases List.mem_append.mp ha with ha | ha
  · exact o3 a ha b hb
  · rw [List.mem_singleton.mp ha]; exact a2 b hb
theorem order_unique : ∀ {xs ys : List Fm}, InOrder xs → InOrder ys → xs.Perm ys → xs = ys
  | [], ys, _, _, h => (List.nil_perm.mp h).symm
  | x :: xs, [], _, _, h => by have := h.length_eq; simp at this
  | x :: xs, y :: ys, h1, h2, h => by
    obtain ⟨a1, a2⟩ := List.pairwise_cons.mp h1
    obtain ⟨b1, b2⟩ := List.pairwise_cons.mp h2
    have e : x = y := by
      have mx : x ∈ y :: ys := h.mem_iff.mp (List.mem_cons_self ..)
      have my : y ∈ x :: xs := h.mem_iff.mpr (List.mem_cons_self ..)
      rcases List.mem_cons.mp mx with e | mx
      · exact e
      · rcases List.mem_cons.mp my with e | my
        · exact e.symm
        · exact Fm.total (b1 x mx) (a1 y my)
    subst e
    rw [order_unique a2 b2 (List.perm_cons x |>.mp h)]
theorem ins_order : ∀ (xs acc : List Fm), InOrder acc → InOrder (xs.foldl insF acc)
  | [], _, h => h
  | x :: xs, acc, h => ins_order xs _ (insF_order h)
theorem ins_perm : ∀ (xs acc : List Fm), (xs.foldl insF acc).Perm (acc ++ xs)
  | [], acc => by rw [List.foldl_nil, List.append_nil]
  | x :: xs, acc => by
    have h := (ins_perm xs (insF acc x)).trans ((insF_perm acc x).append_right xs)
    rw [List.append_assoc] at h
    exact h
theorem ins_sort (xs : List Fm) : xs.foldl insF [] = sortF xs := order_unique (ins_order xs [] List.Pairwise.nil) (sortF_order xs) ((ins_perm xs []).trans (sortF_perm xs).symm)
/-! ### flat forms -/
def under (n o : Str) : Fm → List Fm
  | .nd m ps => if m = n then ps else [.nd m ps]
  | .lf s => if s = o then [] else [.lf s]
def mkSum (n o : Str) : List Fm → Fm
  | [] => .lf o
  | [x] => x
  | x :: y :: xs => .nd n (sortF (x :: y :: xs))
mutual
def Tm.flat (sm : List (Str × Str)) : Tm → Fm
  | .lf s => .lf s
  | .nd _ n ps => match sm.lookup n with
    | none => .nd n (Tm.flats sm ps)
    | some o => mkSum n o ((Tm.flats sm ps).flatMap (under n o))
def Tm.flats (sm : List (Str × Str)) : List Tm → List Fm
  | [] => []
  | p :: ps => p.flat sm :: Tm.flats sm ps
end
theorem Tm.flats_map (sm : List (Str × Str)) : ∀ ps : List Tm, Tm.flats sm ps = ps.map (Tm.flat sm)
  | [] => by rw [Tm.flats]; rfl
  | p :: ps => by rw [Tm.flats, Tm.flats_map sm ps]; rfl
mutual
def Tm.deep : Tm → Nat
  | .lf _ => 0
  | .nd _ _ ps => Tm.deeps ps + 1
def Tm.deeps : List Tm → Nat
  | [] => 0
  | p :: ps => max p.deep (Tm.deeps ps)
end
mutual
def Fm.deep : Fm → Nat
  | .lf _ => 0
  | .nd _ ps => Fm.deeps ps + 1
def Fm.deeps : List Fm → Nat
  | [] => 0
  | p :: ps => max p.deep (Fm.deeps ps)
end
theorem Tm.deeps_le {ps : List Tm} {d : Nat} : Tm.deeps ps ≤ d ↔ ∀ p ∈ ps, p.deep ≤ d := by
  induction ps with
  | nil => simp [Tm.deeps]
  | cons p ps ih => rw [Tm.deeps, Nat.max_le, ih]; simp
theorem Fm.deeps_le {ps : List Fm} {d : Nat} : Fm.deeps ps ≤ d ↔ ∀ p ∈ ps, p.deep ≤ d := by
  induction ps with
  | nil => simp [Fm.deeps]
  | cons p ps ih => rw [Fm.deeps, Nat.max_le, ih]; simp
mutual
def Tm.wt : Tm → Nat
  | .lf _ => 1
  | .nd _ _ ps => Tm.wts ps + 1
def Tm.wts : List Tm → Nat
  | [] => 0
  | p :: ps => p.wt + Tm.wts ps
end
mutual
def Fm.wt : Fm → Nat
  | .lf _ => 1
  | .nd _ ps => Fm.wts ps + 1
def Fm.wts : List Fm → Nat
  | [] => 0
  | p :: ps => p.wt + Fm.wts ps
end
theorem Fm.wts_sum : ∀ ps : List Fm, Fm.wts ps = (ps.map Fm.wt).sum
  | [] => by rw [Fm.wts]; rfl
  | p :: ps => by rw [Fm.wts, Fm.wts_sum ps]; rfl
theorem Fm.wts_append (ps qs : List Fm) : Fm.wts (ps ++ qs) = Fm.wts ps + Fm.wts qs := by rw [Fm.wts_sum, Fm.wts_sum, Fm.wts_sum, List.map_append, List.sum_append]
theorem Fm.wts_perm {ps qs : List Fm} (h : ps.Perm qs) : Fm.wts ps = Fm.wts qs := by rw [Fm.wts_sum, Fm.wts_sum]; exact (h.map Fm.wt).sum_nat
theorem Fm.wt_pos : ∀ a : Fm, 1 ≤ a.wt
  | .lf _ => by rw [Fm.wt]; exact Nat.le_refl _
  | .nd _ _ => by rw [Fm.wt]; omega
theorem Tm.wt_pos : ∀ a : Tm, 1 ≤ a.wt
  | .lf _ => by rw [Tm.wt]; exact Nat.le_refl _
  | .nd _ _ _ => by rw [Tm.wt]; omega
theorem Fm.len_wts : ∀ ps : List Fm, ps.length ≤ Fm.wts ps
  | [] => Nat.zero_le _
  | p :: ps => by have := Fm.len_wts ps; have := p.wt_pos; rw [Fm.wts, List.length_cons]; omega
theorem Tm.len_wts : ∀ ps : List Tm, ps.length ≤ Tm.wts ps
  | [] => Nat.zero_le _
  | p :: ps => by have := Tm.len_wts ps; have := p.wt_pos; rw [Tm.wts, List.length_cons]; omega
theorem Tm.wts_mem {ps : List Tm} {p : Tm} (h : p ∈ ps) : p.wt ≤ Tm.wts ps := by
  induction ps with
  | nil => cases h
  | cons q ps ih =>
    rw [Tm.wts]
    rcases List.mem_cons.mp h with e | h
    · subst e; omega
    · have := ih h; omega
theorem Fm.wts_mem {ps : List Fm} {p : Fm} (h : p ∈ ps) : p.wt ≤ Fm.wts ps := by
  induction ps with
  | nil => cases h
  | cons q ps ih =>
    rw [Fm.wts]
    rcases List.mem_cons.mp h with e | h
    · subst e; omega
    · have := ih h; omega
theorem under_wt (n o : Str) (x : Fm) : Fm.wts (under n o x) ≤ x.wt := by
  cases x with
  | lf s =>
    rw [under]
    split
    · rw [Fm.wts]; omega
    · rw [Fm.wts, Fm.wts]; omega
  | nd m ps =>
    rw [under]
    split
    · rw [Fm.wt]; omega
    · rw [Fm.wts, Fm.wts]; omega
theorem under_deep {n o : Str} {x y : Fm} (h : y ∈ under n o x) : y.deep ≤ x.deep := by
  cases x with
  | lf s =>
    rw [under] at h
    split at h
    · cases h
    · rw [List.mem_singleton.mp h]; exact Nat.le_refl _
  | nd m ps =>
    rw [under] at h
    split at h
    · rw [Fm.deep]
      exact Nat.le_succ_of_le (Fm.deeps_le.mp (Nat.le_refl _) y h)
    · rw [List.mem_singleton.mp h]; exact Nat.le_refl _
theorem flat_under_wt (n o : Str) : ∀ qs : List Fm, Fm.wts (qs.flatMap (under n o)) ≤ Fm.wts qs
  | [] => Nat.le_refl _
  | q :: qs => by
    rw [List.flatMap_cons, Fm.wts_append, Fm.wts]
    have := flat_under_wt n o qs
    have := under_wt n o q
    omega
theorem mkSum_wt (n o : Str) (xs : List Fm) : (mkSum n o xs).wt ≤ Fm.wts xs + 1 := by
  match xs with
  | [] => rw [mkSum, Fm.wt]; omega
  | [x] => rw [mkSum, Fm.wts]; omega
  | x :: y :: zs => rw [mkSum, Fm.wt, Fm.wts_perm (sortF_perm _)]; exact Nat.le_refl _
theorem mkSum_deep {n o : Str} {xs : List Fm} {d : Nat} (h : ∀ x ∈ xs, x.deep ≤ d) : (mkSum n o xs).deep ≤ d + 1 := by
  match xs, h with
  | [], _ => rw [mkSum, Fm.deep]; omega
  | [x], h => rw [mkSum]; have := h x (List.mem_singleton.mpr rfl); omega
  | x :: y :: zs, h =>
    rw [mkSum, Fm.deep]
    exact Nat.succ_le_succ (Fm.deeps_le.mpr fun p hp => h p ((sortF_perm _).mem_iff.mp hp))
mutual
theorem Tm.flat_wt (sm : List (Str × Str)) : ∀ t : Tm, (t.flat sm).wt ≤ t.wt
  | .lf s => by rw [Tm.flat, Fm.wt, Tm.wt]; exact Nat.le_refl _
  | .nd t n ps => by
    have h := Tm.flats_wt sm ps
    rw [Tm.flat, Tm.wt]
    cases sm.lookup n with
    | none => show (Fm.nd n (Tm.flats sm ps)).wt ≤ _; rw [Fm.wt]; omega
    | some o =>
      have h1 := mkSum_wt n o ((Tm.flats sm ps).flatMap (under n o))
      have h2 := flat_under_wt n o (Tm.flats sm ps)
      show (mkSum n o ((Tm.flats sm ps).flatMap (under n o))).wt ≤ _
      omega
theorem Tm.flats_wt (sm : List (Str × Str)) : ∀ ts : List Tm, Fm.wts (Tm.flats sm ts) ≤ Tm.wts ts
  | [] => by rw [Tm.flats, Fm.wts, Tm.wts]; exact Nat.le_refl _
  | t :: ts => by
    have h1 := Tm.flat_wt sm t
    have h2 := Tm.flats_wt sm ts
    rw [Tm.flats, Fm.wts, Tm.wts]; omega
end
theorem Tm.flat_deep (sm : List (Str × Str)) : ∀ t : Tm, (t.flat sm).deep ≤ t.deep := by
  refine Tm.ind (fun s => ?_) (fun t n ps ih => ?_)
  · rw [Tm.flat, Fm.deep]; exact Nat.zero_le _
  · have h : ∀ p ∈ Tm.flats sm ps, p.deep ≤ Tm.deeps ps := fun p hp => by
      rw [Tm.flats_map] at hp
      obtain ⟨q, hq, e⟩ := List.mem_map.mp hp
      rw [← e]
      exact Nat.le_trans (ih q hq) (Tm.deeps_le.mp (Nat.le_refl _) q hq)
    rw [Tm.flat, Tm.deep]
    cases sm.lookup n with
    | none =>
      show (Fm.nd n (Tm.flats sm ps)).deep ≤ _
      rw [Fm.deep]
      exact Nat.succ_le_succ (Fm.deeps_le.mpr h)
    | some o =>
      refine mkSum_deep fun x hx => ?_
      obtain ⟨q, hq, hx⟩ := List.mem_flatMap.mp hx
      exact Nat.le_trans (under_deep hx) (h q hq)
end G
set_option Elab.async false
set_option linter.all false
set_option maxRecDepth 100000
set_option maxHeartbeats 4000000
namespace G
open PySem PySem.W PyProof.Rows L2
/-! ### terms as values -/
mutual
def rM (K : PySem.W.Frag) : Tm → Pr
  | .lf s => rS s
  | .nd t n ps => rQ K t (rS n :: rMs K ps)
def rMs (K : PySem.W.Frag) : List Tm → List Pr
  | [] => []
  | p :: ps => rM K p :: rMs K ps
end
mutual
def rF (K : PySem.W.Frag) : Fm → Pr
  | .lf s => rS s
  | .nd n ps => rTs K (rS n :: rFs K ps)
def rFs (K : PySem.W.Frag) : List Fm → List Pr
  | [] => []
  | p :: ps => rF K p :: rFs K ps
end
mutual
def rR (K : PySem.W.Frag) : Fm → Pr
  | .lf s => rTs K [rI (if isMark s then 0 else 1), rS s]
  | .nd n ps => rTs K (rI 2 :: rS n :: rI ((ps.length : Int) + 1) :: rRs K ps)
def rRs (K : PySem.W.Frag) : List Fm → List Pr
  | [] => []
  | p :: ps => rR K p :: rRs K ps
end
theorem rMs_map (K : PySem.W.Frag) : ∀ ps : List Tm, rMs K ps = ps.map (rM K)
  | [] => by rw [rMs]; rfl
  | p :: ps => by rw [rMs, rMs_map K ps]; rfl
theorem rFs_map (K : PySem.W.Frag) : ∀ ps : List Fm, rFs K ps = ps.map (rF K)
  | [] => by rw [rFs]; rfl
  | p :: ps => by rw [rFs, rFs_map K ps]; rfl
theorem rRs_map (K : PySem.W.Frag) : ∀ ps : List Fm, rRs K ps = ps.map (rR K)
  | [] => by rw [rRs]; rfl
  | p :: ps => by rw [rRs, rRs_map K ps]; rfl
theorem rM_lf {K : PySem.W.Frag} {s : Str} : rM K (.lf s) = rS s := by rw [rM]
theorem rM_nd {K : PySem.W.Frag} {t : Bool} {n : Str} {ps : List Tm} : rM K (.nd t n ps) = rQ K t (rS n :: ps.map (rM K)) := by rw [rM, rMs_map]
theorem rF_lf {K : PySem.W.Frag} {s : Str} : rF K (.lf s) = rS s := by rw [rF]
theorem rF_nd {K : PySem.W.Frag} {n : Str} {ps : List Fm} : rF K (.nd n ps) = rTs K (rS n :: ps.map (rF K)) := by rw [rF, rFs_map]
theorem rR_lf {K : PySem.W.Frag} {s : Str} : rR K (.lf s) = rTs K [rI (if isMark s then 0 else 1), rS s] := by rw [rR]
theorem rR_nd {K : PySem.W.Frag} {n : Str} {ps : List Fm} : rR K (.nd n ps) = rTs K (rI 2 :: rS n :: rI ((ps.length : Int) + 1) :: ps.map (rR K)) := by rw [rR, rRs_map]
/-! a flat term as one handed in -/
mutual
def Fm.tm : Fm → Tm
  | .lf s => .lf s
  | .nd n ps => .nd true n (Fm.tms ps)
def Fm.tms : List Fm → List Tm
  | [] => []
  | p :: ps => p.tm :: Fm.tms ps
end
mutual
theorem rM_tm (K : PySem.W.Frag) : ∀ f : Fm, rM K f.tm = rF K f
  | .lf s => by rw [Fm.tm, rM, rF]
  | .nd n ps => by rw [Fm.tm, rM, rF, rM_tms K ps]; rfl
theorem rM_tms (K : PySem.W.Frag) : ∀ fs : List Fm, rMs K (Fm.tms fs) = rFs K fs
  | [] => by rw [Fm.tms, rMs, rFs]
  | f :: fs => by rw [Fm.tms, rMs, rFs, rM_tm K f, rM_tms K fs]
end
/-! ### as data -/
mutual
def Tm.data : Tm → PyData
  | .lf s => .str s
  | .nd t n ps => if t then .tuple (.str n :: Tm.datas ps) else .list (.str n :: Tm.datas ps)
def Tm.datas : List Tm → List PyData
  | [] => []
  | p :: ps => p.data :: Tm.datas ps
end
mutual
def Fm.data : Fm → PyData
  | .lf s => .str s
  | .nd n ps => .tuple (.str n :: Fm.datas ps)
def Fm.datas : List Fm → List PyData
  | [] => []
  | p :: ps => p.data :: Fm.datas ps
end
section
variable {K : PySem.W.Frag}
theorem hd_Q {t : Bool} {rs : List Pr} {ds : List PyData} (h : HasDs K rs ds) : HasD K (rQ K t rs) (if t then .tuple ds else .list ds) := by
  cases t with
  | true => exact hd_T h
  | false => exact hd_L h
mutual
theorem hd_M : ∀ t : Tm, HasD K (rM K t) t.data
  | .lf s => by rw [rM, Tm.data]; exact hd_S
  | .nd t n ps => by rw [rM, Tm.data]; exact hd_Q ⟨hd_S, hd_Ms ps⟩
theorem hd_Ms : ∀ ts : List Tm, HasDs K (rMs K ts) (Tm.datas ts)
  | [] => by rw [rMs, Tm.datas]; trivial
  | t :: ts => by rw [rMs, Tm.datas]; exact ⟨hd_M t, hd_Ms ts⟩
end
mutual
theorem hd_F : ∀ t : Fm, HasD K (rF K t) t.data
  | .lf s => by rw [rF, Fm.data]; exact hd_S
  | .nd n ps => by rw [rF, Fm.data]; exact hd_T ⟨hd_S, hd_Fs ps⟩
theorem hd_Fs : ∀ ts : List Fm, HasDs K (rFs K ts) (Fm.datas ts)
  | [] => by rw [rFs, Fm.datas]; trivial
  | t :: ts => by rw [rFs, Fm.datas]; exact ⟨hd_F t, hd_Fs ts⟩
end
mutual
theorem hd_R : ∀ t : Fm, HasD K (rR K t) t.rk
  | .lf s => by rw [rR, Fm.rk]; exact hd_T ⟨hd_I, hd_S, trivial⟩
  | .nd n ps => by rw [rR, Fm.rk]; exact hd_T ⟨hd_I, hd_S, hd_I, hd_Rs ps⟩
theorem hd_Rs : ∀ ts : List Fm, HasDs K (rRs K ts) (Fm.rks ts)
  | [] => by rw [rRs, Fm.rks]; trivial
  | t :: ts => by rw [rRs, Fm.rks]; exact ⟨hd_R t, hd_Rs ts⟩
end
end
/-! texts that are texts -/
def okS (s : Str) : Bool := PyData.strOk s && decide (s.length ≤ 100)
mutual
def Tm.txt : Tm → Bool
  | .lf s => okS s
  | .nd _ n ps => okS n && Tm.txts ps
def Tm.txts : List Tm → Bool
  | [] => true
  | p :: ps => p.txt && Tm.txts ps
end
mutual
def Fm.txt : Fm → Bool
  | .lf s => okS s
  | .nd n ps => okS n && Fm.txts ps
def Fm.txts : List Fm → Bool
  | [] => true
  | p :: ps => p.txt && Fm.txts ps
end
theorem Tm.txts_all {ps : List Tm} : Tm.txts ps = true ↔ ∀ p ∈ ps, p.txt = true := by
  induction ps with
  | nil => simp [Tm.txts]
  | cons p ps ih => rw [Tm.txts, Bool.and_eq_true, ih]; simp
theorem Fm.txts_all {ps : List Fm} : Fm.txts ps = true ↔ ∀ p ∈ ps, p.txt = true := by
  induction ps with
  | nil => simp [Fm.txts]
  | cons p ps ih => rw [Fm.txts, Bool.and_eq_true, ih]; simp
theorem okS_lay {s : Str} (h : okS s = true) : PyData.strOk s = true := (Bool.and_eq_true_iff.mp h).1
theorem okS_len {s : Str} (h : okS s = true) : s.length ≤ 100 := of_decide_eq_true (Bool.and_eq_true_iff.mp h).2
mutual
theorem Tm.lay : ∀ t : Tm, t.txt = true → t.data.canLay0 = true
  | .lf s, h => by rw [Tm.txt] at h; rw [Tm.data, PyData.canLay0]; exact okS_lay h
  | .nd t n ps, h => by
    rw [Tm.txt, Bool.and_eq_true] at h
    have z := Tm.lays ps h.2
    rw [Tm.data]
    cases t <;> simp [PyData.canLay0, PyData.canLayAll0, z, okS_lay h.1]
theorem Tm.lays : ∀ ts : List Tm, Tm.txts ts = true → PyData.canLayAll0 (Tm.datas ts) = true
  | [], _ => by rw [Tm.datas, PyData.canLayAll0]
  | t :: ts, h => by
    rw [Tm.txts, Bool.and_eq_true] at h
    rw [Tm.datas, PyData.canLayAll0, Tm.lay t h.1, Tm.lays ts h.2]; rfl
end
mutual
theorem Fm.lay : ∀ t : Fm, t.txt = true → t.data.canLay0 = true
  | .lf s, h => by rw [Fm.txt] at h; rw [Fm.data, PyData.canLay0]; exact okS_lay h
  | .nd n ps, h => by
    rw [Fm.txt, Bool.and_eq_true] at h
    have z := Fm.lays ps h.2
    rw [Fm.data]
    simp [PyData.canLay0, PyData.canLayAll0, z, okS_lay h.1]
theorem Fm.lays : ∀ ts : List Fm, Fm.txts ts = true → PyData.canLayAll0 (Fm.datas ts) = true
  | [], _ => by rw [Fm.datas, PyData.canLayAll0]
  | t :: ts, h => by
    rw [Fm.txts, Bool.and_eq_true] at h
    rw [Fm.datas, PyData.canLayAll0, Fm.lay t h.1, Fm.lays ts h.2]; rfl
end
mutual
theorem Tm.dep : ∀ t : Tm, t.data.depth = t.deep
  | .lf s => by rw [Tm.data, Tm.deep, PyData.depth]
  | .nd t n ps => by
    have z := Tm.deps ps
    rw [Tm.data, Tm.deep]
    cases t <;> simp [PyData.depth, PyData.depthAll, z]
theorem Tm.deps : ∀ ts : List Tm, PyData.depthAll (Tm.datas ts) = Tm.deeps ts
  | [] => by rw [Tm.datas, PyData.depthAll, Tm.deeps]
  | t :: ts => by rw [Tm.datas, PyData.depthAll, Tm.deeps, Tm.dep t, Tm.deps ts]
end
mutual
theorem Fm.dep : ∀ t : Fm, t.data.depth = t.deep
  | .lf s => by rw [Fm.data, Fm.deep, PyData.depth]
  | .nd n ps => by
    have z := Fm.deps ps
    rw [Fm.data, Fm.deep]
    simp [PyData.depth, PyData.depthAll, z]
theorem Fm.deps : ∀ ts : List Fm, PyData.depthAll (Fm.datas ts) = Fm.deeps ts
  | [] => by rw [Fm.datas, PyData.depthAll, Fm.deeps]
  | t :: ts => by rw [Fm.datas, PyData.depthAll, Fm.deeps, Fm.dep t, Fm.deps ts]
end
mutual
theorem Fm.rdep : ∀ t : Fm, t.rk.depth ≤ t.deep + 1
  | .lf s => by rw [Fm.rk, Fm.deep]; simp [PyData.depth, PyData.depthAll]
  | .nd n ps => by
    have z := Fm.rdeps ps
    rw [Fm.rk, Fm.deep]
    simp [PyData.depth, PyData.depthAll]
    omega
theorem Fm.rdeps : ∀ ts : List Fm, PyData.depthAll (Fm.rks ts) ≤ Fm.deeps ts + 1
  | [] => by rw [Fm.rks, PyData.depthAll]; omega
  | t :: ts => by rw [Fm.rks, PyData.depthAll, Fm.deeps]; have := Fm.rdep t; have := Fm.rdeps ts; omega
end
end G
set_option Elab.async false
set_option linter.all false
set_option maxRecDepth 100000
set_option maxHeartbeats 4000000
namespace G
open PySem PySem.W PyProof.Rows L2
mutual
theorem Fm.eqv : ∀ a b : Fm, PyData.eqv a.data b.data = decide (a = b)
  | .lf a, .lf b => by
    by_cases h : a = b
    · subst h; simp [Fm.data, PyData.eqv]
    · simp [Fm.data, PyData.eqv, h]
  | .lf a, .nd n ps => by simp [Fm.data, PyData.eqv]
  | .nd n ps, .lf b => by simp [Fm.data, PyData.eqv]
  | .nd n ps, .nd m qs => by
    have := Fm.eqvs ps qs
    by_cases h : n = m
    · by_cases h2 : ps = qs
      · subst h h2; simp [Fm.data, PyData.eqv, PyData.eqvAll, this]
      · simp [Fm.data, PyData.eqv, PyData.eqvAll, this, h2]
    · simp [Fm.data, PyData.eqv, PyData.eqvAll, h]
theorem Fm.eqvs : ∀ a b : List Fm, PyData.eqvAll (Fm.datas a) (Fm.datas b) = decide (a = b)
  | [], [] => by rw [Fm.datas, PyData.eqvAll]; simp
  | [], _ :: _ => by rw [Fm.datas, Fm.datas, PyData.eqvAll]; simp
  | _ :: _, [] => by rw [Fm.datas, Fm.datas, PyData.eqvAll]; simp
  | p :: ps, q :: qs => by
    rw [Fm.datas, Fm.datas, PyData.eqvAll, Fm.eqv p q, Fm.eqvs ps qs]
    by_cases h : p = q <;> by_cases h2 : ps = qs <;> simp [h, h2]
end
theorem Fm.shaped {a : Fm} (h : a.txt = true) (d : a.deep ≤ 60) : SeqAt.shaped a.data = true := by
  show (PyData.canLay0 a.data && decide (a.data.depth ≤ 64)) = true
  rw [Fm.lay a h, Fm.dep]; simp; omega
theorem Tm.shaped {a : Tm} (h : a.txt = true) (d : a.deep ≤ 60) : SeqAt.shaped a.data = true := by
  show (PyData.canLay0 a.data && decide (a.data.depth ≤ 64)) = true
  rw [Tm.lay a h, Tm.dep]; simp; omega
/-! texts stay texts -/
theorem under_txt {n o : Str} {x y : Fm} (hx : x.txt = true) (h : y ∈ under n o x) : y.txt = true := by
  cases x with
  | lf s =>
    rw [under] at h
    split at h
    · cases h
    · rw [List.mem_singleton.mp h]; exact hx
  | nd m ps =>
    rw [under] at h
    split at h
    · rw [Fm.txt, Bool.and_eq_true] at hx
      exact Fm.txts_all.mp hx.2 y h
    · rw [List.mem_singleton.mp h]; exact hx
theorem mkSum_txt {n o : Str} {xs : List Fm} (hn : okS n = true) (ho : okS o = true) (h : ∀ x ∈ xs, x.txt = true) : (mkSum n o xs).txt = true := by
  match xs, h with
  | [], _ => rw [mkSum, Fm.txt]; exact ho
  | [x], h => rw [mkSum]; exact h x (List.mem_singleton.mpr rfl)
  | x :: y :: zs, h =>
    rw [mkSum, Fm.txt, hn, Bool.true_and]
    exact Fm.txts_all.mpr fun p hp => h p ((sortF_perm _).mem_iff.mp hp)
/-- the sums' noughts are texts -/
def SmOk (sm : List (Str × Str)) : Prop := ∀ p ∈ sm, okS p.1 = true ∧ okS p.2 = true
theorem SmOk.at_ {sm : List (Str × Str)} (k : SmOk sm) {n o : Str} (h : sm.lookup n = some o) : okS o = true := by
  induction sm with
  | nil => cases h
  | cons p sm ih =>
    obtain ⟨a, c⟩ := p
    rw [List.lookup_cons] at h
    by_cases e : n = a
    · subst e
      simp at h
      subst h
      exact (k _ (List.mem_cons_self ..)).2
    · have : (n == a) = false := beq_eq_false_iff_ne.mpr e
      rw [this] at h
      exact ih (fun q hq => k q (List.mem_cons_of_mem _ hq)) h
theorem Tm.flat_txt {sm : List (Str × Str)} (k : SmOk sm) : ∀ t : Tm, t.txt = true → (t.flat sm).txt = true := by
  refine Tm.ind (fun s h => ?_) (fun t n ps ih h => ?_)
  · rw [Tm.flat, Fm.txt]; rw [Tm.txt] at h; exact h
  · rw [Tm.txt, Bool.and_eq_true] at h
    have hp : ∀ p ∈ Tm.flats sm ps, p.txt = true := fun p hp => by
      rw [Tm.flats_map] at hp
      obtain ⟨q, hq, e⟩ := List.mem_map.mp hp
      rw [← e]
      exact ih q hq (Tm.txts_all.mp h.2 q hq)
    rw [Tm.flat]
    cases e : sm.lookup n with
    | none =>
      show (Fm.nd n (Tm.flats sm ps)).txt = true
      rw [Fm.txt, h.1, Bool.true_and]
      exact Fm.txts_all.mpr hp
    | some o =>
      refine mkSum_txt h.1 (k.at_ e) fun x hx => ?_
      obtain ⟨q, hq, hx⟩ := List.mem_flatMap.mp hx
      exact under_txt (hp q hq) hx
/-! ### signs -/
def fxK (fx : List (Str × Nat)) : List (L2.Key × V) := fx.map fun p => (Sum.inr p.1, V.int (p.2 : Int))
def smK (sm : List (Str × Str)) : List (L2.Key × V) := sm.map fun p => (Sum.inr p.1, V.str p.2)
theorem val_fx (fx : List (Str × Nat)) (s : Str) : valV (fxK fx) (Sum.inr s) = (fx.lookup s).map fun n => V.int (n : Int) := by
  induction fx with
  | nil => rfl
  | cons p fx ih =>
    obtain ⟨a, c⟩ := p
    unfold valV fxK at ih ⊢
    rw [List.map_cons, List.find?_cons, List.lookup_cons]
    by_cases e : s = a
    · subst e; simp
    · have h1 : (s == a) = false := beq_eq_false_iff_ne.mpr e
      have h2 : decide ((Sum.inr a : L2.Key) = Sum.inr s) = false := decide_eq_false fun z => e (Sum.inr.inj z).symm
      rw [h1]
      simp only [h2]
      exact ih
theorem val_sm (sm : List (Str × Str)) (s : Str) : valV (smK sm) (Sum.inr s) = (sm.lookup s).map V.str := by
  induction sm with
  | nil => rfl
  | cons p sm ih =>
    obtain ⟨a, c⟩ := p
    unfold valV smK at ih ⊢
    rw [List.map_cons, List.find?_cons, List.lookup_cons]
    by_cases e : s = a
    · subst e; simp
    · have h1 : (s == a) = false := beq_eq_false_iff_ne.mpr e
      have h2 : decide ((Sum.inr a : L2.Key) = Sum.inr s) = false := decide_eq_false fun z => e (Sum.inr.inj z).symm
      rw [h1]
      simp only [h2]
      exact ih
def rSg (C : Addr) (fx : List (Str × Nat)) (sm : List (Str × Str)) : Pr := ⟨fun B v => ∃ a dx p q, v = .ref a ∧ B a = some (.ex (.ins C dx [("parts_of", .ref p), ("nought_of", .ref q)])) ∧ B p = some (.ex (.dK (fxK fx))) ∧ B q = some (.ex (.dK (smK sm))), fun _ _ _ l ⟨a, dx, p, q, e, h1, h2, h3⟩ => ⟨a, dx, p, q, e, l _ _ h1, l _ _ h2, l _ _ h3⟩⟩
theorem sg_ins {C : Addr} {fx : List (Str × Nat)} {sm : List (Str × Str)} {m : Str} (h : ("parts_of" : Str) ≠ m) (h2 : ("nought_of" : Str) ≠ m) : IsIns C m (rSg C fx sm) := fun B H v k ⟨a, dx, p, q, e, h1, _, _⟩ => ⟨a, dx, _, e, (k.ex _ _ h1).hard rfl, by
  have e1 : (m == ("parts_of" : Str)) = false := beq_eq_false_iff_ne.mpr (Ne.symm h)
  have e2 : (m == ("nought_of" : Str)) = false := beq_eq_false_iff_ne.mpr (Ne.symm h2)
  rw [List.lookup_cons, e1]
  show List.lookup m _ = none
  rw [List.lookup_cons, e2]; rfl⟩
theorem sg_fx {K : PySem.W.Frag} {C : Addr} {fx : List (Str × Nat)} {sm : List (Str × Str)} (hC : Cls K C) (hn : NoAttr K C "parts_of") : HasF K "parts_of" (rSg C fx sm) (rDk (fxK fx)) := fun B H v k ⟨a, dx, p, q, e, h1, h2, _⟩ => ⟨a, C, dx, _, _, e, (k.ex _ _ h1).hard rfl, hC, hn, rfl, p, rfl, h2⟩
theorem sg_sm {K : PySem.W.Frag} {C : Addr} {fx : List (Str × Nat)} {sm : List (Str × Str)} (hC : Cls K C) (hn : NoAttr K C "nought_of") : HasF K "nought_of" (rSg C fx sm) (rDk (smK sm)) := fun B H v k ⟨a, dx, p, q, e, h1, _, h3⟩ => ⟨a, C, dx, _, _, e, (k.ex _ _ h1).hard rfl, hC, hn, rfl, q, rfl, h3⟩
def manyV (fx : List (Str × Nat)) (s : Str) : V := ((fx.lookup s).map fun n => V.int (n : Int)).getD .non
def noughtV (sm : List (Str × Str)) (s : Str) : V := ((sm.lookup s).map V.str).getD .non
/-! ### what terms are -/
def figures : Str := "abcdefghijklmnopqrstuvwxyz0123456789"
def isWish (s : Str) : Bool := isMark s && (decide (2 ≤ s.length) && decide (s.length ≤ 9)) && (s.cps.toList.drop 1).all fun c => decide (c ∈ figures.cps.toList)
def hasParts (fx : List (Str × Nat)) (sm : List (Str × Str)) (n : Str) (k : Nat) : Bool := match sm.lookup n with
  | some _ => decide (2 ≤ k)
  | none => decide (1 ≤ k) && decide (fx.lookup n = some k)
mutual
def Tm.ok (fx : List (Str × Nat)) (sm : List (Str × Str)) : Tm → Bool
  | .lf s => isWish s || decide (fx.lookup s = some 0)
  | .nd _ n ps => hasParts fx sm n ps.length && Tm.oks fx sm ps
def Tm.oks (fx : List (Str × Nat)) (sm : List (Str × Str)) : List Tm → Bool
  | [] => true
  | p :: ps => p.ok fx sm && Tm.oks fx sm ps
end
theorem Tm.oks_map (fx : List (Str × Nat)) (sm : List (Str × Str)) : ∀ ps : List Tm, Tm.oks fx sm ps = (ps.map (Tm.ok fx sm)).all id
  | [] => by rw [Tm.oks]; rfl
  | p :: ps => by rw [Tm.oks, Tm.oks_map fx sm ps]; rfl
theorem cutS_eq (z : Str) (i j : Option Int) : cutS z i j = ⟨(cutP z.cps.toList i j).toArray⟩ := by
  unfold cutS cutP
  rw [show z.length = z.cps.toList.length from (Array.length_toList).symm]
theorem str_eq {a b : Str} : a = b ↔ a.cps.toList = b.cps.toList := ⟨fun h => by rw [h], str_of_cps⟩
theorem cut_mark (s : Str) : decide (cutS s none (some 1) = ("?" : Str)) = isMark s := by
  have e : cutS s none (some 1) = ⟨(s.cps.toList.take 1).toArray⟩ := by
    rw [cutS_eq]
    exact congrArg (fun l => Str.mk (List.toArray l)) (cutTake s.cps.toList 1)
  have e2 : ("?" : Str).cps.toList = [63] := by decide
  rw [e, Bool.eq_iff_iff, decide_eq_true_iff, str_eq, e2]
  unfold isMark
  rw [beq_iff_eq, ← Array.getElem?_toList]
  cases s.cps.toList with
  | nil => simp
  | cons c cs => simp
end G
set_option Elab.async false
set_option linter.all false
set_option maxRecDepth 100000
set_option maxHeartbeats 4000000
namespace G
open PySem PySem.W PyProof.Rows L2
section
variable {U : Uv} {g : Gx} {Γ : Gm} {P Q R S : Pr} {e e1 e2 o tg : Expr} {pos p2 apos : Pos} {D : En} {st : Stmt} {ss rest : List Stmt} {rs qs : List Pr}
/-- the signs of a text, one behind another -/
theorem m_str {z : Str} (h : JE g e Γ (rS z)) : JM g tg e Γ z.cps.toList (fun c => rS ⟨#[c]⟩) := (i_str h).to (by rw [Array.length_toList]) fun i hi => by
  rw [nth_map (x := z.cps[i]) (by rw [Array.getElem?_toList]; exact Array.getElem?_eq_getElem hi)]
  rw [Array.getD_eq_getD_getElem?, Array.getElem?_eq_getElem hi]
  rfl
theorem x_slQ {t : Bool} {lo hi : Option Expr} {i j : Option Int} (h : JE g e Γ (rQ g.X.K t rs)) (hl : Part g Γ lo i) (hh : Part g Γ hi j) : JE g (.Subscript e (.Slice lo hi none p2) pos) Γ (rQ g.X.K t (cutP rs i j)) := by
  cases t with
  | true => exact x_slT h hl hh
  | false => exact x_slL h hl hh
theorem x_tail {t : Bool} {j : Nat} {pj : Pos} (h : JE g e Γ (rQ g.X.K t (P :: rs))) : JE g (.Subscript e (.Slice (some (.Constant (.int 1) j pj)) none none p2) pos) Γ (rQ g.X.K t rs) := (x_slQ h (.at_ x_int) .no).to (congrArg (rQ g.X.K t) (cutDrop (P :: rs) 1))
theorem x_tailT {j : Nat} {pj : Pos} (h : JE g e Γ (rTs g.X.K (P :: rs))) : JE g (.Subscript e (.Slice (some (.Constant (.int 1) j pj)) none none p2) pos) Γ (rTs g.X.K rs) := (x_slT h (.at_ x_int) .no).to (congrArg (rTs g.X.K) (cutDrop (P :: rs) 1))
theorem x_ixQ {t : Bool} {j : Int} (hj : atI rs j = some R) (h1 : JE g e1 Γ (rQ g.X.K t rs)) (h2 : JE g e2 Γ (rI j)) (hs : PlainIx e2 := by exact fun _ _ => rfl) : JE g (.Subscript e1 e2 pos) Γ R := by
  cases t with
  | true => exact x_ixT hj h1 h2 hs
  | false => exact x_ixL hj h1 h2 hs
theorem at_0 {r : Pr} : atI (r :: rs) 0 = some r := by
  unfold atI
  rw [show ixN (r :: rs).length 0 = some 0 from by
    unfold ixN
    simp]
  rfl
/-- a scalar == a scalar -/
theorem x_eqV {x y : V} (h : scal x y = true) (h1 : JE g e1 Γ (rV x)) (h2 : JE g e2 Γ (rV y)) : JE g (.Compare e1 [.Eq] [e2] pos) Γ (rB (decide (x = y))) := x_cmpV op_eq (o_eq h) h1 h2
theorem t_eqV {x y : V} (h : scal x y = true) (h1 : JE g e1 Γ (rV x)) (h2 : JE g e2 Γ (rV y)) : JT g (.Compare e1 [.Eq] [e2] pos) Γ (decide (x = y)) := x_cmpT op_eq (o_eq h) h1 h2
theorem x_isiT {p px : Pos} (b : Bi g.X.mg) (h : JE g e Γ (rTs g.X.K rs)) (hg : Gl g.X "isinstance" := by rfl) (hg' : Gl g.X "tuple" := by rfl) (hs : starEach [e, .Name "tuple" px] g.X.env = (false, eval e g.X.env) :: starEach [.Name "tuple" px] g.X.env := by rfl) (hs2 : starEach [.Name "tuple" px] g.X.env = (false, eval (.Name "tuple" px) g.X.env) :: starEach [] g.X.env := by rfl) (hpl : (backTo pos (starEach [.Name "tuple" px] g.X.env)).any (·.1) = false := by rfl) :
    JE g (.Call (.Name "isinstance" p) [e, .Name "tuple" px] [] pos) Γ (rB true) := x_isi b ty_T b.tuple bo_tuple k_tuple_tuple h hg hg' (by decide) (by decide) hs hs2 hpl
theorem x_isiS {c : Bool} {T : String} {x : Str} {s : Str} {p px : Pos} (b : Bi g.X.mg) (hT : g.X.mg x = none) (hv : bootBuiltins x = some (.type T)) (hk : kitB "str" T = some c) (h : JE g e Γ (rS s)) (hg : Gl g.X "isinstance" := by rfl) (hg' : Gl g.X x := by rfl) (hn : x ≠ "__name__" := by decide) (hdb : (x == ("__debug__" : Str)) = false := by decide) (hs : starEach [e, .Name x px] g.X.env = (false, eval e g.X.env) :: starEach [.Name x px] g.X.env := by rfl) (hs2 : starEach [.Name x px] g.X.env = (false, eval (.Name x px) g.X.env) :: starEach [] g.X.env := by rfl) (hpl : (backTo pos (starEach [.Name x px] g.X.env)).any (·.1) = false := by rfl) :
    JE g (.Call (.Name "isinstance" p) [e, .Name x px] [] pos) Γ (rB c) := x_isi b ty_S hT hv hk h hg hg' hn hdb hs hs2 hpl
theorem ty_Q {K : PySem.W.Frag} {t : Bool} : TyP K (rQ K t rs) (if t then "tuple" else "list") := by
  cases t with
  | true => exact ty_T
  | false => exact ty_L
/-- isinstance(xs, str) of a list or a tuple -/
theorem x_isiQS {t : Bool} {p px : Pos} (b : Bi g.X.mg) (h : JE g e Γ (rQ g.X.K t rs)) (hg : Gl g.X "isinstance" := by rfl) (hg' : Gl g.X "str" := by rfl) (hs : starEach [e, .Name "str" px] g.X.env = (false, eval e g.X.env) :: starEach [.Name "str" px] g.X.env := by rfl) (hs2 : starEach [.Name "str" px] g.X.env = (false, eval (.Name "str" px) g.X.env) :: starEach [] g.X.env := by rfl) (hpl : (backTo pos (starEach [.Name "str" px] g.X.env)).any (·.1) = false := by rfl) :
    JE g (.Call (.Name "isinstance" p) [e, .Name "str" px] [] pos) Γ (rB false) := by
  cases t with
  | true => exact x_isi b ty_T b.str bo_str k_tuple_str h hg hg' (by decide) (by decide) hs hs2 hpl
  | false => exact x_isi b ty_L b.str bo_str k_list_str h hg hg' (by decide) (by decide) hs hs2 hpl
/-- a comprehension of all, each by q, given to a local -/
theorem l_mapM {α : Type} {xs : List α} {r : α → Pr} {elt iter : Expr} {scope : Scope} (own : List (Str × Nat)) {Γ2 : α → Gm} (q : α → Pr) {sl : List Nat} (hI : JM g tg iter Γ xs r) (hn : xs.length < sizeLine)
    (hg : AnyB scope g fun g' => ∀ x, x ∈ xs → JG g' tg (r x) (wipeG Γ (own.map (·.2))) (Γ2 x) sl) (he : AnyB scope g fun g' => ∀ x, x ∈ xs → JE g' elt (Γ2 x) (q x))
    (hsl : ∀ i ∈ sl, i ∈ own.map (·.2) := by decide) (ok : BlkOk g.X.N g.X.env.scope scope own := by exact blkOk_by (by rfl)) : JLc g elt tg iter [] scope own Γ (oL (xs.map q)) := by
  have := l_lcM (xs := xs) (r := r) own (fun _ => true) q hI hn hg (fun s H C cl fp x hx => ts_no) (fun s H C cl fp x hx _ => he s H C cl fp x hx) hsl ok
  rwa [List.filter_eq_self.mpr (fun _ _ => rfl)] at this
end
end G
set_option Elab.async false
set_option linter.all false
set_option maxRecDepth 100000
set_option maxHeartbeats 4000000
namespace G
open PySem PySem.W PyProof.Rows L2
section
variable {U : Uv} {g : Gx} {Γ : Gm} {P Q R S : Pr} {e e1 e2 o tg : Expr} {pos p2 apos : Pos} {D : En} {st : Stmt} {ss rest : List Stmt} {rs qs : List Pr}
theorem bo_abs : bootBuiltins "abs" = some (.builtin "abs") := by decide +kernel
theorem x_abs {i : Int} {p : Pos} (b : Bi g.X.mg) (h : JE g e Γ (rI i)) (hg : Gl g.X "abs" := by rfl) (he : starEach [e] g.X.env = (false, eval e g.X.env) :: starEach [] g.X.env := by rfl) : JE g (.Call (.Name "abs" p) [e] [] pos) Γ (G.rI (if i < 0 then -i else i)) :=
  x_cb (r := fun xs H Q => ∃ i, xs = [.int i] ∧ Q (.int (if i < 0 then -i else i)) H) b.abs (fun _ => call_abs) bo_abs
    (fun B H vs K k f c => by
      obtain ⟨v, rfl, e⟩ := f.one
      exact ⟨i, by rw [e], c _ B H (Stp.refl k) rfl⟩) (a_cons h a_nil he) hg (by decide) (by decide) he rfl
/-! ### a loop whose state is known by words -/
def NxE (b : Base) {ι : Type} (φ : ι → Prop) (I : ι → Gm) : Bs → L2.St → Hp → Prop := fun B σ H => ∃ a, φ a ∧ Nx b (I a) B σ H
theorem NxE.anti {b : Base} {ι : Type} {φ : ι → Prop} {I : ι → Gm} : ∀ B B' σ H, Le B B' → NxE b φ I B' σ H → NxE b φ I B σ H := fun _ _ _ _ l ⟨a, p, z⟩ => ⟨a, p, Nx.anti _ _ _ _ l z⟩
def En.lpE (D : En) (X : Cx) (rest : List Stmt) (b : Base) {ι : Type} (φ : ι → Prop) (I : ι → Gm) : En := { D with nx := NxE b φ I, anx := NxE.anti, ct := NxE b φ I, act := NxE.anti, bk := fun B σ' H' => WS X rest (D.at_ B) σ' H', abk := fun _ _ _ _ l h => h.mono (D.anti l) }
theorem s_nxE {ι : Type} {φ : ι → Prop} {I : ι → Gm} (a : ι) (p : φ a) (l : GmLe Γ (I a)) (h : D.nx = NxE g.b φ I) : JS g [] Γ D := s_nil fun σ B H s => by rw [h]; exact ⟨a, p, B, Le.refl _, s.imp l⟩
theorem JI.x {iter : Expr} {n : Nat} {it : Nat → Pr} (h : JI g tg iter Γ n it) : JIx g tg iter Γ (· = n) it := ⟨fun w σ B H s pins s1 I => by
  refine thn (h.run w σ B H s pins s1 I) fun v s2 h2 => thn h2 fun itv s3 h3 => ?_
  obtain ⟨itA, fp, tn, J, H3, e1, e2, e3, e4, e5, B1, a1, gv⟩ := h3
  exact ⟨itA, fp, tn, J, H3, e1, e2, e3, e4, e5, n, rfl, B1, a1, gv⟩⟩
theorem s_forE {iter : Expr} {body : List Stmt} {ψ : Nat → Prop} {it : Nat → Pr} {ι : Type} (φ : Nat → ι → Prop) (I : ι → Gm) {I2 : Nat → ι → Gm} {sl : List Nat} (hI : JIx g tg iter Γ ψ it) (a0 : ι) (p0 : φ 0 a0) (h0 : GmLe Γ (I a0)) (hg : ∀ i a, (∃ n, ψ n ∧ i < n) → JG g tg (it i) (I a) (I2 i a) sl)
    (hb : ∀ i a, (∃ n, ψ n ∧ i < n) → φ i a → JS g body (I2 i a) (D.lpE g.X rest g.b (φ (i + 1)) I)) (hd : ∀ n a, ψ n → φ n a → JS g rest (I a) D) (hs : ∀ x, foldedSetIterable iter g.X.env x = pure x := by intro _; rfl) (hcm : g.X.calm = true := by rfl) :
    JS g (.For tg iter body [] pos :: rest) Γ D :=
  js_cons fun w σ B H s => of1 (ps_for w.po hcm pI pG pS hs) (fun pins s1 I1 => by
    refine thn ((hI.run w σ B H s) pins s1 I1) fun v s2 h2 => thn h2 fun itv s3 h3 => ?_
    obtain ⟨itA, fp, tn, J, H3, e1, e2, e3, e4, e5, n, hn, B1, a1, Gw, Y, wk, kg, ky⟩ := h3
    refine ⟨itA, fp, tn, J, H3, e1, e2, e3, e4, e5, for_it wk (fun i σ' H' => ∃ a, φ i a ∧ ∃ B', Le B1 B' ∧ Sta g.b (I a) σ' B' H') ⟨a0, p0, B1, Le.refl _, a1.sta.imp h0⟩ (fun i σ' H' hi ⟨a, _, B', l, s'⟩ => kg B' H' l s'.st.ok) ?_ ?_⟩
    · intro i x σ' H' H'' hi ⟨a, pa, B', l, s'⟩ y
      obtain ⟨B2, t, p⟩ := ky i H' x H'' B' hi l s'.st.ok y
      have a2 := s'.step t
      refine (hg i a ⟨n, hn, hi⟩).run w σ' B2 H'' x a2.sta p _ fun σ2 s3 _ => ?_
      have l13 : Le B1 B2 := l.trans a2.le
      refine ((hb i a ⟨n, hn, hi⟩ pa).run w σ2 B2 H'' s3).mono ⟨fun σ4 H4 ⟨c, pc, B4, l4, s4⟩ => ⟨c, pc, B4, l13.trans l4, s4⟩, fun _ _ q => q, fun σ4 H4 q => WS.mono q (D.anti (a1.le.trans l13)), fun σ4 H4 ⟨c, pc, B4, l4, s4⟩ => ⟨c, pc, B4, l13.trans l4, s4⟩⟩
    · intro σ' H' ⟨a, pa, B', l, s'⟩
      exact (hd n a hn pa).go w (a1.le.trans l) s')
/-! ### tests known by words -/
structure JTp (g : Gx) (e : Expr) (Γ : Gm) (φ : Bool → Prop) : Prop where
  run : g.Wf → ∀ σ B H, Sta g.b Γ σ B H → WT g.X e (fun v H' => ∃ B', Aft g.b Γ σ B H B' H' ∧ φ v) σ H
structure JWp (g : Gx) (e : Expr) (Γ : Gm) (φ : Bool → Prop) : Prop where
  run : g.Wf → ∀ σ B H, Sta g.b Γ σ B H → WW g.X e (fun v H' => ∃ B', Aft g.b Γ σ B H B' H' ∧ φ v) σ H
theorem JTx.p (h : JTx g e Γ) : JTp g e Γ fun _ => True := ⟨fun w σ B H s => (h.run w σ B H s).mono fun v H1 ⟨B1, a1⟩ => ⟨B1, a1, trivial⟩⟩
theorem JWp.t {φ : Bool → Prop} (h : JWp g e Γ φ) : JTp g e Γ φ := ⟨fun w σ B H s pins s1 I => h.run w σ B H s _ pins s1 I⟩
theorem wp_and1 {φ : Bool → Prop} (h : JTp g e Γ φ) : JWp g (.BoolOp .And [e] pos) Γ φ := ⟨fun w σ B H s => ofW (pw_and1 pT) (h.run w σ B H s)⟩
theorem wp_or1 {φ : Bool → Prop} (h : JTp g e Γ φ) : JWp g (.BoolOp .Or [e] pos) Γ φ := ⟨fun w σ B H s => ofW (pw_or1 pT) (h.run w σ B H s)⟩
theorem wp_and {c : Bool} {φ : Bool → Prop} {rest : List Expr} (h : JT g e Γ c) (k : c = true → JWp g (.BoolOp .And (e1 :: rest) pos) Γ φ) : JWp g (.BoolOp .And (e :: e1 :: rest) pos) Γ (fun d => (c = false ∧ d = false) ∨ (c = true ∧ φ d)) :=
  ⟨fun w σ B H s => ofW (pw_and pT pW) ((h.run w σ B H s).mono fun v H1 ⟨B1, a1, p⟩ => by
    subst p
    cases v with
    | true => rw [if_pos rfl]; exact ((k rfl).run w σ B1 H1 a1.sta).mono fun u H2 ⟨B2, a2, q⟩ => ⟨B2, a1.trans a2, .inr ⟨rfl, q⟩⟩
    | false => rw [if_neg (by decide)]; exact ⟨B1, a1, .inl ⟨rfl, rfl⟩⟩)⟩
theorem wp_or {c : Bool} {φ : Bool → Prop} {rest : List Expr} (h : JT g e Γ c) (k : c = false → JWp g (.BoolOp .Or (e1 :: rest) pos) Γ φ) : JWp g (.BoolOp .Or (e :: e1 :: rest) pos) Γ (fun d => (c = true ∧ d = true) ∨ (c = false ∧ φ d)) :=
  ⟨fun w σ B H s => ofW (pw_or pT pW) ((h.run w σ B H s).mono fun v H1 ⟨B1, a1, p⟩ => by
    subst p
    cases v with
    | false => rw [if_neg (by decide)]; exact ((k rfl).run w σ B1 H1 a1.sta).mono fun u H2 ⟨B2, a2, q⟩ => ⟨B2, a1.trans a2, .inr ⟨rfl, q⟩⟩
    | true => rw [if_pos rfl]; exact ⟨B1, a1, .inl ⟨rfl, rfl⟩⟩)⟩
theorem s_ifp {φ : Bool → Prop} {a b : List Stmt} (h : JTp g e Γ φ) (h1 : φ true → JS g a Γ (D.thn g.X rest)) (h2 : φ false → JS g b Γ (D.thn g.X rest)) : JS g (.If e a b pos :: rest) Γ D :=
  js_cons fun w σ B H s => of1 (ps_if pT pS pS) ((h.run w σ B H s).mono fun v H' ⟨B', a, p⟩ => by
    cases v with
    | true => rw [if_pos rfl]; exact (h1 p).go w a.le a.sta
    | false => rw [if_neg (by decide)]; exact (h2 p).go w a.le a.sta)
theorem u_eq {φ : Int → Prop} {i : Int} (h1 : JE g e1 Γ (rIx φ)) (h2 : JE g e2 Γ (G.rI i)) : JTx g (.Compare e1 [.Eq] [e2] pos) Γ :=
  u_cmp (P := rIx φ) (Q := G.rI i) op_eq (fun B H v u K k ⟨z, hz, ez⟩ eu c => by
    have ez : v = .int z := ez
    have eu : u = .int i := eu
    subst ez eu
    exact ⟨rfl, c _ B H (Stp.refl k) ⟨_, rfl⟩⟩) h1 h2
/-! ### things known by words, all at once -/
theorem F2.choose {α ι : Type} {φ : α → ι → Prop} {f : α → ι → Pr} {B : Bs} : ∀ {vs : List V} {xs : List α}, F2 B vs (xs.map fun x => Pr.exs (φ x) (f x)) → ∃ zs : List ι, zs.length = xs.length ∧ (∀ p ∈ xs.zip zs, φ p.1 p.2) ∧ F2 B vs ((xs.zip zs).map fun p => f p.1 p.2)
  | [], [], _ => ⟨[], rfl, fun p hp => by simp at hp, trivial⟩
  | v :: vs, x :: xs, h => by
    obtain ⟨⟨z, pz, rz⟩, h2⟩ := h
    obtain ⟨zs, l, all, f2⟩ := F2.choose h2
    refine ⟨z :: zs, by rw [List.length_cons, List.length_cons, l], fun p hp => ?_, rz, f2⟩
    rcases List.mem_cons.mp (by simpa using hp : p ∈ (x, z) :: xs.zip zs) with e | hp
    · rw [e]; exact pz
    · exact all p hp
  | [], _ :: _, h => h.elim
  | _ :: _, [], h => h.elim
theorem s_chooseO (i : Nat) {α ι : Type} {φ : α → ι → Prop} {f : α → ι → Pr} {xs : List α} (k : ∀ zs : List ι, zs.length = xs.length → (∀ p ∈ xs.zip zs, φ p.1 p.2) → JS g ss (Γ.set i (some (.ow (oL ((xs.zip zs).map fun p => f p.1 p.2))))) D) (h : Γ[i]? = some (some (.ow (oL (xs.map fun x => Pr.exs (φ x) (f x))))) := by rfl) : JS g ss Γ D :=
  ⟨fun w σ B H s => by
    obtain ⟨v, e, o⟩ := s.env.ow i _ h
    obtain ⟨p, vs, e2, hp, f2⟩ := o.at_
    obtain ⟨zs, l, all, f3⟩ := F2.choose f2
    exact (k zs l all).run w σ B H (sta_at s h e (fun x m => m) ⟨p, vs, e2, hp, f3⟩)⟩
theorem x_ixSx {z : Str} {φ : Int → Prop} (hz : z.length ≤ 1000) (hφ : ∀ j, φ j → 0 ≤ j ∧ j < z.length) (a : JE g e1 Γ (rS z)) (b : JE g e2 Γ (rIx φ)) (hs : PlainIxT e2 := by exact fun _ _ => rfl) : JE g (.Subscript e1 e2 pos) Γ (Pr.exs (fun c : Nat => c ∈ z.cps.toList) fun c => rS ⟨#[c]⟩) :=
  ⟨fun w σ B H s => ofE (pe_item_str pE pE hs) ((a.run w σ B H s).mono fun v H1 ⟨B1, a1, p⟩ => (b.run w σ B1 H1 a1.sta).mono fun u H2 ⟨B2, a2, j, hj, q⟩ => by
    obtain ⟨h0, h1⟩ := hφ j hj
    have hl : j.toNat < z.cps.size := by
      have : (z.cps.size : Int) = (z.length : Int) := rfl
      omega
    exact ⟨z, j, z.cps[j.toNat], p, q, h0, by omega, h1, Array.getElem?_eq_getElem hl, B2, a1.trans a2, z.cps[j.toNat], Array.mem_toList_iff.mpr (Array.getElem_mem hl), rfl⟩)⟩
theorem x_addSx {s : Str} {ι : Type} {φ : ι → Prop} {f : ι → Str} (hl : ∀ c, φ c → s.length + (f c).length ≤ sizeLine) (h1 : JE g e1 Γ (rS s)) (h2 : JE g e2 Γ (Pr.exs φ fun c => rS (f c))) : JE g (.BinOp e1 .Add e2 pos) Γ (Pr.exs φ fun c => rS (s ++ f c)) :=
  x_op op_add_str (P := rS s) (Q := Pr.exs φ fun c => rS (f c)) (fun B H v u K k p ⟨c, hc, q⟩ d => ⟨s, f c, p, q, hl c hc, d _ B H (Stp.refl k) ⟨c, hc, rfl⟩⟩) h1 h2
/-- y = x.pop(e), the place known by words only -/
theorem s_popX (i j : Nat) {φ : Int → Prop} {x y : Str} {p py : Pos} {cpos : Pos} (h : JE g e Γ (rIx φ)) (hφ : ∀ z, φ z → 0 ≤ z ∧ z < rs.length) (hlen : rs.length < 1000000) (k : ∀ (z : Nat) R, rs[z]? = some R → JS g rest ((Γ.set i (some (.ow (oL (rs.eraseIdx z))))).set j (some (.sh R))) D) (hi : Γ[i]? = some (some (.ow (oL rs))) := by rfl) (hN : g.X.N[i]? = some x := by rfl) (hNy : g.X.N[j]? = some y := by rfl) (hv : Vis g.X.env.scope x := by first | exact Or.inl rfl | exact Or.inr (Or.inl rfl) | exact Or.inr (Or.inr rfl))
    (hl : Loc g.X.env.scope y := by first | exact Or.inl rfl | exact Or.inr rfl)
    (hd : (x == ("__debug__" : Str)) = false := by decide) (hcd : (x == ("__classdict__" : Str)) = false := by decide) (hline : (apos.endLine == cpos.line) = true := by rfl)
    (hfew : ((backTo cpos (starEach [e] g.X.env)).all (fun x => !x.1) && (backToKw cpos (keywordEach [] g.X.env)).all (fun x => x.1.isSome) && decide ([e].length + ([] : List Keyword).length + (if ([] : List Keyword).isEmpty then 0 else 1) < 30)) = true := by rfl)
    (he : starEach [e] g.X.env = (false, eval e g.X.env) :: starEach [] g.X.env := by rfl) (hs : swapsWith (.Call (.Attribute (.Name x p) "pop" apos) [e] [] cpos) (some (.Name y py)) pos.line g.X.env = pure false := by rfl) (hf : g.X.fn y = true ∨ g.X.env.scope.names.lookup y = some .local := by first | exact .inl rfl | exact .inr rfl) :
    JS g (.Assign [.Name y py] (.Call (.Attribute (.Name x p) "pop" apos) [e] [] cpos) pos :: rest) Γ D :=
  js_cons fun w σ B H s => of1 (ps_set w.nd hNy hl (pe_bm PySem.F.plainAttrs_list PySem.F.slot_list_pop PySem.F.type_list_pop mt_popAt (pe_var hN hv hd hcd) (pa_cons pE pa_nil he) (by rfl) hfew hline he rfl) hs hf) (by
    obtain ⟨v0, e, o⟩ := s.env.ow i _ hi
    obtain ⟨q, vs, e2, nb, nh, hu, f⟩ := own_one o
    subst e2
    refine ⟨_, e, .inl ⟨rfl, vs, SqL.of hu⟩, (h.run w σ B H s).mono fun v H1 ⟨B1, a1, zi, pz, p1⟩ => ?_⟩
    obtain ⟨z0, z1⟩ := hφ zi pz
    obtain ⟨z, rfl⟩ : ∃ z : Nat, zi = (z : Int) := ⟨zi.toNat, by omega⟩
    have zr : z < rs.length := by omega
    have hu1 : H1 q = some (.lst vs) := a1.t.keep q _ hu fun φ z => by rw [nb] at z; cases z
    have p1 : v = .int z := p1
    subst p1
    have hr : rs[z]? = some rs[z] := List.getElem?_eq_getElem zr
    obtain ⟨u, eu, ru⟩ := (f.mono a1.le).get hr
    have zl : z < vs.length := (List.getElem?_eq_some_iff.mp eu).1
    refine ⟨q, vs, z, z, u, rfl, rfl, hu1, by omega, by omega, ?_, eu, ?_⟩
    · have b0 : ¬ ((z : Int) < 0) := by omega
      have b1 : (z : Int) < vs.length := by omega
      unfold seqIndex?
      simp [b0, b1, zl]
    · have er : F2 B1 (vs.eraseIdx z) (rs.eraseIdx z) := by
        rw [List.eraseIdx_eq_take_drop_succ, List.eraseIdx_eq_take_drop_succ]
        exact ((f.mono a1.le).take z).append ((f.mono a1.le).drop (z + 1))
      exact (k z _ hr).go w a1.le ((a1.sta.chgL hi e er).setS ru))
end
end G
set_option Elab.async false
set_option linter.all false
set_option maxRecDepth 100000
set_option maxHeartbeats 4000000
namespace G
open PySem PySem.W PyProof.Rows L2
section
variable {U : Uv} {g : Gx} {Γ : Gm} {P Q R S : Pr} {e e1 e2 o tg : Expr} {pos p2 apos : Pos} {D : En} {st : Stmt} {ss rest : List Stmt} {rs qs : List Pr}
theorem JT.p {c : Bool} (h : JT g e Γ c) : JTp g e Γ (· = c) := ⟨fun w σ B H s => h.run w σ B H s⟩
/-- branches that come together, what they left known by words -/
def En.jn (D : En) (b : Base) {ι : Type} (φ : ι → Prop) (I : ι → Gm) : En := { D with nx := NxE b φ I, anx := NxE.anti }
theorem s_ifJ {ψ : Bool → Prop} {a b : List Stmt} {ι : Type} (φ : ι → Prop) (I : ι → Gm) (h : JTp g e Γ ψ) (h1 : ψ true → JS g a Γ (D.jn g.b φ I)) (h2 : ψ false → JS g b Γ (D.jn g.b φ I)) (k : ∀ i, φ i → JS g rest (I i) D) : JS g (.If e a b pos :: rest) Γ D := by
  have fin : ∀ {f : L2.St → Hp → Prop} {ss : List Stmt}, JS g ss Γ (D.jn g.b φ I) → JS g ss Γ (D.thn g.X rest) := fun {_ ss} z => ⟨fun w σ B H s => (z.run w σ B H s).mono ⟨fun σ' H' ⟨i, pi, B', l, s'⟩ => (k i pi).go w l s', fun _ _ q => q, fun _ _ q => q, fun _ _ q => q⟩⟩
  exact s_ifp h (fun p => fin (f := fun _ _ => True) (h1 p)) fun p => fin (f := fun _ _ => True) (h2 p)
/-- x.append(e), e known by words -/
theorem s_appX (i : Nat) {ι : Type} {φ : ι → Prop} {f : ι → Pr} {x : Str} {p apos cpos : Pos} (h : JE g e Γ (Pr.exs φ f)) (hz : rs.length < sizeLine) (k : ∀ a, φ a → JS g rest (Γ.set i (some (.ow (oL (rs ++ [f a]))))) D) (hi : Γ[i]? = some (some (.ow (oL rs))) := by rfl) (hN : g.X.N[i]? = some x := by rfl) (hv : Vis g.X.env.scope x := by first | exact Or.inl rfl | exact Or.inr (Or.inl rfl) | exact Or.inr (Or.inr rfl))
    (hd : (x == ("__debug__" : Str)) = false := by decide) (hcd : (x == ("__classdict__" : Str)) = false := by decide) (hline : (apos.endLine == cpos.line) = true := by rfl)
    (hfew : ((backTo cpos (starEach [e] g.X.env)).all (fun x => !x.1) && (backToKw cpos (keywordEach [] g.X.env)).all (fun x => x.1.isSome) && decide ([e].length + ([] : List Keyword).length + (if ([] : List Keyword).isEmpty then 0 else 1) < 30)) = true := by rfl)
    (he : starEach [e] g.X.env = (false, eval e g.X.env) :: starEach [] g.X.env := by rfl) (hs : swapsWith (.Call (.Attribute (.Name x p) "append" apos) [e] [] cpos) none pos.line g.X.env = pure false := by rfl) :
    JS g (.Expr (.Call (.Attribute (.Name x p) "append" apos) [e] [] cpos) pos :: rest) Γ D :=
  js_cons fun w σ B H s => of1 (ps_expr (pe_bm PySem.F.plainAttrs_list PySem.F.slot_list_append PySem.F.type_list_append mt_append (pe_var hN hv hd hcd) (pa_cons pE pa_nil he) (by rfl) hfew hline he rfl) hs) (by
    obtain ⟨v0, e, o⟩ := s.env.ow i _ hi
    obtain ⟨q, vs, e2, nb, nh, hu, f2⟩ := own_one o
    subst e2
    refine ⟨_, e, .inl ⟨rfl, vs, SqL.of hu⟩, (h.run w σ B H s).mono fun v H1 ⟨B1, a1, a, pa, p1⟩ => ?_⟩
    have hu1 : H1 q = some (.lst vs) := a1.t.keep q _ hu fun φ z => by rw [nb] at z; cases z
    exact ⟨q, vs, v, rfl, rfl, hu1, by rw [f2.len]; exact hz, (k a pa).go w a1.le (a1.sta.chgL hi e ((f2.mono a1.le).append ⟨p1, trivial⟩))⟩)
end
end G
set_option Elab.async false
set_option linter.all false
set_option maxRecDepth 100000
set_option maxHeartbeats 4000000
namespace G
open PySem PySem.W PyProof.Rows L2
section
variable {U : Uv} {g : Gx} {Γ : Gm} {P Q R S : Pr} {e e1 e2 o tg : Expr} {pos p2 apos : Pos} {D : En} {st : Stmt} {ss rest : List Stmt} {rs qs : List Pr}
/-- k in d, k not in d: a dict of the ground -/
def rInDk (kvs : List (L2.Key × V)) (neg : Bool) : R2 := fun x y H Q => ∃ a z, y = .ref a ∧ x = kV z ∧ Rd H a (.dK kvs) ∧ Q (.bl (if neg then !(valV kvs z).isSome else (valV kvs z).isSome)) H
theorem op_inDk1 {X : Cx} {kvs : List (L2.Key × V)} (hu : X.A.units + 1 < cLine) : OpR X (compareOp .In) (rInDk kvs false) := by
  intro pins s σ H x y u w Q I rx ry h
  obtain ⟨a, z, rfl, rfl, e, q⟩ := h
  obtain rfl : w = Value.ref a := ry
  exact d_in hu I (.inl ⟨kvs, z, e, rfl, rfl⟩) rx fun s' I' => ⟨.bl (valV kvs z).isSome, H, I', rfl, q⟩
theorem op_notInDk1 {X : Cx} {kvs : List (L2.Key × V)} (hu : X.A.units + 1 < cLine) : OpR X (compareOp .NotIn) (rInDk kvs true) := by
  intro pins s σ H x y u w Q I rx ry h
  obtain ⟨a, z, rfl, rfl, e, q⟩ := h
  obtain rfl : w = Value.ref a := ry
  exact d_notIn hu I (.inl ⟨kvs, z, e, rfl, rfl⟩) rx fun s' I' => ⟨.bl (!(valV kvs z).isSome), H, I', rfl, q⟩
theorem o_inDk {X : Cx} {kvs : List (L2.Key × V)} {z : L2.Key} (neg : Bool) : Op2 X (rInDk kvs neg) (rV (kV z)) (rDk kvs) (rB (if neg then !(valV kvs z).isSome else (valV kvs z).isSome)) := fun B H v u K k p ⟨q, e, hq⟩ c => ⟨q, z, e, p, rDk_rd k hq, c _ B H (Stp.refl k) rfl⟩
theorem t_notInDk {kvs : List (L2.Key × V)} {z : L2.Key} (h1 : JE g e1 Γ (rV (kV z))) (h2 : JE g e2 Γ (rDk kvs)) (hm : behindInMarks .NotIn e2 = false := by rfl) (hcm : g.X.calm = true := by rfl) : JT g (.Compare e1 [.NotIn] [e2] pos) Γ (!(valV kvs z).isSome) := t_cmpW (fun w => op_notInDk1 (by have := (w.hr hcm).units; omega)) (o_inDk true) h1 h2 hm
theorem t_inDk {kvs : List (L2.Key × V)} {z : L2.Key} (h1 : JE g e1 Γ (rV (kV z))) (h2 : JE g e2 Γ (rDk kvs)) (hm : behindInMarks .In e2 = false := by rfl) (hcm : g.X.calm = true := by rfl) : JT g (.Compare e1 [.In] [e2] pos) Γ ((valV kvs z).isSome) := t_cmpW (fun w => op_inDk1 (by have := (w.hr hcm).units; omega)) (o_inDk false) h1 h2 hm
/-- texts by their order -/
theorem x_ltS {a c : Str} (h1 : JE g e1 Γ (rS a)) (h2 : JE g e2 Γ (rS c)) (hcm : g.X.calm = true := by rfl) : JE g (.Compare e1 [.Lt] [e2] pos) Γ (rB (sLt a c)) := x_ltD (hcm := hcm) h1 h2 hd_S hd_S (by simp [PySem.W.alike]) (by simp) (by simp [PyData.depth])
end
mutual
theorem ft_F {K : PySem.W.Frag} : ∀ t : Fm, FreeT (rF K t)
  | .lf s => by rw [rF]; exact ft_V
  | .nd n ps => by
    rw [rF]
    exact ft_T fun r hr => by
      rcases List.mem_cons.mp hr with e | hr
      · rw [e]; exact ft_V
      · exact ft_Fs ps r hr
theorem ft_Fs {K : PySem.W.Frag} : ∀ ts : List Fm, ∀ r ∈ rFs K ts, FreeT r
  | [], r, hr => by rw [rFs] at hr; cases hr
  | t :: ts, r, hr => by
    rw [rFs] at hr
    rcases List.mem_cons.mp hr with e | hr
    · rw [e]; exact ft_F t
    · exact ft_Fs ts r hr
end
/-! flat terms of terms: no empty text, no empty list of parts -/
mutual
def Fm.gd : Fm → Bool
  | .lf s => decide (s ≠ ("" : Str))
  | .nd _ ps => decide (ps ≠ []) && Fm.gds ps
def Fm.gds : List Fm → Bool
  | [] => true
  | p :: ps => p.gd && Fm.gds ps
end
theorem Fm.gds_all {ps : List Fm} : Fm.gds ps = true ↔ ∀ p ∈ ps, p.gd = true := by
  induction ps with
  | nil => simp [Fm.gds]
  | cons p ps ih => rw [Fm.gds, Bool.and_eq_true, ih]; simp
theorem under_gd {n o : Str} {x y : Fm} (hx : x.gd = true) (h : y ∈ under n o x) : y.gd = true := by
  cases x with
  | lf s =>
    rw [under] at h
    split at h
    · cases h
    · rw [List.mem_singleton.mp h]; exact hx
  | nd m ps =>
    rw [under] at h
    split at h
    · rw [Fm.gd, Bool.and_eq_true] at hx
      exact Fm.gds_all.mp hx.2 y h
    · rw [List.mem_singleton.mp h]; exact hx
theorem under_some {n : Str} {x : Fm} (hx : x.gd = true) : under n "" x ≠ [] := by
  cases x with
  | lf s =>
    rw [Fm.gd, decide_eq_true_iff] at hx
    rw [under, if_neg hx]; simp
  | nd m ps =>
    rw [Fm.gd, Bool.and_eq_true, decide_eq_true_iff] at hx
    rw [under]
    split
    · exact hx.1
    · simp
theorem mkSum_gd {n o : Str} {xs : List Fm} (h : ∀ x ∈ xs, x.gd = true) (he : xs = [] → o ≠ ("" : Str)) : (mkSum n o xs).gd = true := by
  match xs, h, he with
  | [], _, he => rw [mkSum, Fm.gd]; exact decide_eq_true (he rfl)
  | [x], h, _ => rw [mkSum]; exact h x (List.mem_singleton.mpr rfl)
  | x :: y :: zs, h, _ =>
    rw [mkSum, Fm.gd, Bool.and_eq_true]
    refine ⟨decide_eq_true fun e => ?_, Fm.gds_all.mpr fun p hp => h p ((sortF_perm _).mem_iff.mp hp)⟩
    have := (sortF_perm (x :: y :: zs)).length_eq
    rw [e] at this
    simp at this
/-- a term's flat form is such, where no wish and no name is empty -/
theorem Tm.flat_gd {fx : List (Str × Nat)} {sm : List (Str × Str)} (hn : ∀ s, fx.lookup s = some 0 → s ≠ ("" : Str)) : ∀ t : Tm, t.ok fx sm = true → (t.flat sm).gd = true := by
  refine Tm.ind (fun s h => ?_) (fun t n ps ih h => ?_)
  · rw [Tm.flat, Fm.gd]
    rw [Tm.ok, Bool.or_eq_true, decide_eq_true_iff] at h
    refine decide_eq_true fun e => ?_
    rcases h with h | h
    · rw [e] at h; exact absurd h (by decide +kernel)
    · exact hn s h e
  · rw [Tm.ok, Bool.and_eq_true, Tm.oks_map, List.all_map, List.all_eq_true] at h
    obtain ⟨h1, h2⟩ := h
    have hp : ∀ p ∈ Tm.flats sm ps, p.gd = true := fun p hp => by
      rw [Tm.flats_map] at hp
      obtain ⟨q, hq, e⟩ := List.mem_map.mp hp
      rw [← e]
      exact ih q hq (h2 q hq)
    have hne : ps ≠ [] := fun e => by
      subst e
      unfold hasParts at h1
      split at h1 <;> simp at h1
    rw [Tm.flat]
    cases e : sm.lookup n with
    | none =>
      show (Fm.nd n (Tm.flats sm ps)).gd = true
      rw [Fm.gd, Bool.and_eq_true]
      refine ⟨decide_eq_true fun e => hne ?_, Fm.gds_all.mpr hp⟩
      rw [Tm.flats_map] at e
      exact List.map_eq_nil_iff.mp e
    | some o =>
      refine mkSum_gd (fun x hx => ?_) fun hx ho => ?_
      · obtain ⟨q, hq, hx⟩ := List.mem_flatMap.mp hx
        exact under_gd (hp q hq) hx
      · subst ho
        cases ps with
        | nil => exact hne rfl
        | cons p ps =>
          rw [Tm.flats, List.flatMap_cons, List.append_eq_nil_iff] at hx
          exact under_some (hp _ (by rw [Tm.flats]; exact List.mem_cons_self ..)) hx.1
theorem Fm.aheads_self : ∀ ps : List Fm, Fm.aheads ps ps = false
  | [] => by rw [Fm.aheads]
  | p :: ps => by rw [Fm.aheads, if_pos rfl]; exact Fm.aheads_self ps
theorem Fm.aheads_drop : ∀ (i : Nat) (ps qs : List Fm), ps.take i = qs.take i → Fm.aheads ps qs = Fm.aheads (ps.drop i) (qs.drop i)
  | 0, _, _, _ => rfl
  | i + 1, [], qs, h => by
    have : qs = [] := by
      cases qs with
      | nil => rfl
      | cons _ _ => simp at h
    subst this; rfl
  | i + 1, p :: ps, [], h => by simp at h
  | i + 1, p :: ps, q :: qs, h => by
    rw [List.take_succ_cons, List.take_succ_cons, List.cons.injEq] at h
    rw [Fm.aheads, if_pos h.1]
    exact Fm.aheads_drop i ps qs h.2
end G
set_option Elab.async false
set_option linter.all false
set_option maxRecDepth 100000
set_option maxHeartbeats 4000000
namespace G
open PySem PySem.W PyProof.Rows L2
section
variable {U : Uv} {g : Gx} {Γ : Gm} {P Q R S : Pr} {e e1 e2 o tg : Expr} {pos p2 apos : Pos} {D : En} {st : Stmt} {ss rest : List Stmt} {rs qs : List Pr}
/-- tuple(reversed(xs)), xs a list -/
theorem x_tupRev {p p3 pos2 : Pos} (b : Bi g.X.mg) (h : JE g e Γ (rLs g.X.K rs)) (hg : Gl g.X "tuple" := by rfl) (hg2 : Gl g.X "reversed" := by rfl) (hs : starEach [e] g.X.env = (false, eval e g.X.env) :: starEach [] g.X.env := by rfl)
    (hs2 : starEach [.Call (.Name "reversed" p3) [e] [] pos2] g.X.env = (false, eval (.Call (.Name "reversed" p3) [e] [] pos2) g.X.env) :: starEach [] g.X.env := by rfl) (hcm : g.X.calm = true := by rfl) : JE g (.Call (.Name "tuple" p) [.Call (.Name "reversed" p3) [e] [] pos2] [] pos) Γ (rTs g.X.K rs.reverse) :=
  ⟨fun w σ B H s => ofE (RT.pe_tupRev hcm hg b.tuple hg2 b.rev pE hs hs2) ((h.run w σ B H s).mono fun v H1 ⟨B1, a1, p, vs, e, a, f⟩ => by
    refine ⟨p, vs, e, a.sq a1.sta.st.ok, fun q hq => ?_⟩
    have f2 : F2 B1 vs.reverse rs.reverse := by
      have key : ∀ (vs : List V) (rs : List Pr), F2 B1 vs rs → F2 B1 vs.reverse rs.reverse := by
        intro vs
        induction vs with
        | nil => intro rs h; cases rs with
          | nil => exact h
          | cons _ _ => exact h.elim
        | cons v vs ih => intro rs h; cases rs with
          | nil => exact h.elim
          | cons r rs => rw [List.reverse_cons, List.reverse_cons]; exact (ih rs h.2).append ⟨h.1, trivial⟩
      exact key vs rs f
    exact ⟨_, a1.trans (a1.sta.lay hq), q, _, rfl, .inl put_same, f2.mono (Le.put (a1.sta.st.ok.none hq))⟩)⟩
/-- x[j] = e, e known by words -/
theorem s_setLX (i : Nat) {ι : Type} {φ : ι → Prop} {F : ι → Pr} {j : Nat} {x : Str} {p spos : Pos} (h : JE g e Γ (Pr.exs φ F)) (hj : JE g e1 Γ (rI (j : Int))) (hl : j < rs.length) (k : ∀ a, φ a → JS g rest (Γ.set i (some (.ow (oL (rs.set j (F a)))))) D) (hi : Γ[i]? = some (some (.ow (oL rs))) := by rfl) (hN : g.X.N[i]? = some x := by rfl) (hv : Vis g.X.env.scope x := by first | exact Or.inl rfl | exact Or.inr (Or.inl rfl) | exact Or.inr (Or.inr rfl))
    (hd : (x == ("__debug__" : Str)) = false := by decide) (hcd : (x == ("__classdict__" : Str)) = false := by decide)
    (ha : ∀ v, assign (.Subscript (.Name x p) e1 spos) g.X.env v = (do
      let ov ← holding [v] (eval (.Name x p) g.X.env)
      let iv ← holding [v, ov] (eval e1 g.X.env)
      standAt spos
      holding [v, ov, iv] (setItem ov iv v)
      release [v, ov, iv] []) := by intro _; rfl)
    (hs : swapsWithSole [.Subscript (.Name x p) e1 spos] e pos.line g.X.env = pure false := by rfl) (hw : swappedStores [.Subscript (.Name x p) e1 spos] e g.X.env = pure none := by rfl)
    (h1 : (assignEach [.Subscript (.Name x p) e1 spos] g.X.env).map (·.2) = [assign (.Subscript (.Name x p) e1 spos) g.X.env] := by rfl) :
    JS g (.Assign [.Subscript (.Name x p) e1 spos] e pos :: rest) Γ D :=
  js_cons fun w σ B H s => of1 (ps_asg pE (pg_sub (pe_var hN hv hd hcd) pE set_list ha) hs hw h1) (by
    obtain ⟨v0, e, o⟩ := s.env.ow i _ hi
    obtain ⟨q, vs, e2, nb, nh, hu, f⟩ := own_one o
    subst e2
    refine (h.run w σ B H s).mono fun v H1 ⟨B1, a1, a, pa, p1⟩ => ⟨_, e, (hj.run w σ B1 H1 a1.sta).mono fun jv H2 ⟨B2, a2, ej⟩ => ?_⟩
    have a12 := a1.trans a2
    have hu1 : H2 q = some (.lst vs) := a12.t.keep q _ hu fun φ z => by rw [nb] at z; cases z
    refine ⟨q, vs, (j : Int), j, rfl, ej, hu1, Evl.ixN_nat (by rw [f.len]; exact hl), (k a pa).go w a12.le (a12.sta.chgL hi e (F2.set ((F a).mono _ _ _ a2.le p1) j (f.mono a12.le)))⟩)
/-- x, y = e1, e2 -/
theorem s_par (i j : Nat) {x y : Str} {px py pt pt2 : Pos} {kt k2 : Nat} (h1 : JE g e1 Γ P) (h2 : JE g e2 Γ Q) (hij : i ≠ j) (k : JS g rest ((Γ.set i (some (.sh P))).set j (some (.sh Q))) D) (hN : g.X.N[i]? = some x := by rfl) (hNy : g.X.N[j]? = some y := by rfl)
    (hx : g.X.env.scope.names.lookup x = some .local := by rfl) (hy : g.X.env.scope.names.lookup y = some .local := by rfl) (he : starEach [e1, e2] g.X.env = (false, eval e1 g.X.env) :: starEach [e2] g.X.env := by rfl) (he2 : starEach [e2] g.X.env = (false, eval e2 g.X.env) :: starEach [] g.X.env := by rfl)
    (hw : swappedStores [.Tuple [.Name x px, .Name y py] kt pt] (.Tuple [e1, e2] k2 pt2) g.X.env = pure (some [x, y]) := by rfl) (hs : swapsWithSole [.Tuple [.Name x px, .Name y py] kt pt] (.Tuple [e1, e2] k2 pt2) pos.line g.X.env = pure false := by rfl) (hcm : g.X.calm = true := by rfl) :
    JS g (.Assign [.Tuple [.Name x px, .Name y py] kt pt] (.Tuple [e1, e2] k2 pt2) pos :: rest) Γ D :=
  js_cons fun w σ B H s => of1 (ps_par hcm w.nd hN hNy hij hx hy pA hw hs) (((a_cons h1 (a_cons h2 a_nil he2) he).run w σ B H s).mono fun vs H1 ⟨B1, a1, f⟩ => by
    obtain ⟨v, u, e, r1, r2⟩ := f.two
    exact ⟨v, u, e, k.go w a1.le ((a1.sta.setS r1).setS r2)⟩)
end
end G
set_option Elab.async false
set_option linter.all false
set_option maxRecDepth 100000
set_option maxHeartbeats 4000000
namespace G
open PySem PySem.W PyProof.Rows L2
section
variable {U : Uv} {g : Gx} {Γ : Gm} {P Q R S : Pr} {e e1 e2 o tg : Expr} {pos p2 apos : Pos} {D : En} {st : Stmt} {ss rest : List Stmt} {rs qs : List Pr}
/-! ### a list of one whole number, which callees may change -/
def IsCnt (φ : Int → Prop) (o : HO) : Prop := ∃ a, o = .lst [.int a] ∧ φ a
def rCnt (φ : Int → Prop) : Pr := ⟨fun B v => ∃ p, v = .ref p ∧ B p = some (.iv (IsCnt φ)), fun _ _ _ l ⟨p, e, h⟩ => ⟨p, e, l _ _ h⟩⟩
theorem x_cnt {φ : Int → Prop} (h1 : JE g e1 Γ (rCnt φ)) {j p} : JE g (.Subscript e1 (.Constant (.int 0) j p) pos) Γ (rIx φ) :=
  x_ix (P := rCnt φ) (Q := rI 0) ix_list (fun B H v u K k ⟨p, e, h⟩ q c => by
    cases q
    obtain ⟨o, ho, ⟨a, e2, ha⟩, _⟩ := k.iv p _ h
    subst e2
    exact ⟨p, _, 0, .int a, e, rfl, SqL.of ho, rfl, c _ B H (Stp.refl k) ⟨a, ha, rfl⟩⟩) h1 x_int (fun _ _ => rfl)
/-- cnt[0] = e -/
theorem s_cnt {φ χ : Int → Prop} {jj : Nat} {pj spos : Pos} (hc : ∀ a, χ a → φ a) (h : JE g e Γ (rIx χ)) (h1 : JE g e1 Γ (rCnt φ)) (k : JS g rest Γ D)
    (ha : ∀ v, assign (.Subscript e1 (.Constant (.int 0) jj pj) spos) g.X.env v = (do
      let ov ← holding [v] (eval e1 g.X.env)
      let iv ← holding [v, ov] (eval (.Constant (.int 0) jj pj) g.X.env)
      standAt spos
      holding [v, ov, iv] (setItem ov iv v)
      release [v, ov, iv] []) := by intro _; rfl)
    (hs : swapsWithSole [.Subscript e1 (.Constant (.int 0) jj pj) spos] e pos.line g.X.env = pure false := by rfl) (hw : swappedStores [.Subscript e1 (.Constant (.int 0) jj pj) spos] e g.X.env = pure none := by rfl)
    (h1' : (assignEach [.Subscript e1 (.Constant (.int 0) jj pj) spos] g.X.env).map (·.2) = [assign (.Subscript e1 (.Constant (.int 0) jj pj) spos) g.X.env] := by rfl) :
    JS g (.Assign [.Subscript e1 (.Constant (.int 0) jj pj) spos] e pos :: rest) Γ D :=
  js_cons fun w σ B H s => of1 (ps_asg pE (pg_sub pE pe_int set_list ha) hs hw h1') ((h.run w σ B H s).mono fun v H1 ⟨B1, a1, z, hz, ez⟩ => (h1.run w σ B1 H1 a1.sta).mono fun o H2 ⟨B2, a2, p, eo, hp⟩ => by
    obtain ⟨u, hu, ⟨a, e2, pa⟩, _⟩ := a2.sta.st.ok.iv p _ hp
    subst e2
    have ez : v = .int z := ez
    subst ez
    exact ⟨p, _, 0, 0, eo, rfl, hu, rfl, k.go w (a1.le.trans a2.le) (a2.sta.step (Stp.ivch a2.sta.st.ok hp ⟨z, rfl, hc z hz⟩)).sta⟩)
/-- a new list of one whole number, given to callees to change -/
theorem JO.cnt {φ : Int → Prop} (h : JO g e Γ (oL [rIx φ])) : JE g e Γ (rCnt φ) :=
  ⟨fun w σ B H s => (h.run w σ B H s).mono fun v H' ⟨B', a, o, n⟩ => by
    obtain ⟨p, vs, e2, nb, nh, hp, f⟩ := own_one o
    subst e2
    obtain ⟨v1, rfl, x, ha, ea⟩ := f.one
    have ea : v1 = .int x := ea
    subst ea
    have np : H p = none := n p (mem_one.mpr rfl)
    have l : Le B' (put B' p (.iv (IsCnt φ))) := Le.put nb
    have t : Stp B H (put B' p (.iv (IsCnt φ))) H' := {
      le := a.le.trans l
      ok := ⟨fun z u e => by
        by_cases q : z = p
        · subst q; rw [put_same] at e; cases e
        · rw [put_ne q] at e; exact a.sta.st.ok.ex z u e, fun z χ e => by
        by_cases q : z = p
        · subst q; rw [put_same] at e; cases e; exact ⟨_, hp, ⟨x, rfl, ha⟩, fun _ h => nomatch h⟩
        · rw [put_ne q] at e; exact a.sta.st.ok.iv z χ e⟩
      keep := a.t.keep
      there := a.t.there
      new := fun z e k' m => by
        by_cases q : z = p
        · subst q; exact .inl np
        · rw [put_ne q] at m; exact a.t.new z e k' m }
    exact ⟨_, s.step t, p, rfl, put_same⟩⟩
/-- x.insert(e, e1), the place known by words only -/
theorem s_insertX (i : Nat) {φ : Int → Prop} {x : Str} {p cpos : Pos} (h : JE g e Γ (rIx φ)) (h1 : JE g e1 Γ P) (hφ : ∀ z, φ z → 0 ≤ z ∧ z ≤ rs.length) (hl : rs.length < sizeLine) (k : ∀ z : Nat, z ≤ rs.length → JS g rest (Γ.set i (some (.ow (oL (rs.take z ++ [P] ++ rs.drop z))))) D) (hi : Γ[i]? = some (some (.ow (oL rs))) := by rfl) (hN : g.X.N[i]? = some x := by rfl) (hv : Vis g.X.env.scope x := by first | exact Or.inl rfl | exact Or.inr (Or.inl rfl) | exact Or.inr (Or.inr rfl))
    (hd : (x == ("__debug__" : Str)) = false := by decide) (hcd : (x == ("__classdict__" : Str)) = false := by decide) (hline : (apos.endLine == cpos.line) = true := by rfl)
    (hfew : ((backTo cpos (starEach [e, e1] g.X.env)).all (fun x => !x.1) && (backToKw cpos (keywordEach [] g.X.env)).all (fun x => x.1.isSome) && decide ([e, e1].length + ([] : List Keyword).length + (if ([] : List Keyword).isEmpty then 0 else 1) < 30)) = true := by rfl)
    (he : starEach [e, e1] g.X.env = (false, eval e g.X.env) :: starEach [e1] g.X.env := by rfl) (he1 : starEach [e1] g.X.env = (false, eval e1 g.X.env) :: starEach [] g.X.env := by rfl) (hpl : (backTo cpos (starEach [e1] g.X.env)).any (·.1) = false := by rfl) (hs : swapsWith (.Call (.Attribute (.Name x p) "insert" apos) [e, e1] [] cpos) none pos.line g.X.env = pure false := by rfl) :
    JS g (.Expr (.Call (.Attribute (.Name x p) "insert" apos) [e, e1] [] cpos) pos :: rest) Γ D :=
  js_cons fun w σ B H s => of1 (ps_expr (pe_bm PySem.F.plainAttrs_list PySem.F.slot_list_insert PySem.F.type_list_insert mt_insert (pe_var hN hv hd hcd) (pa_cons pE (pa_cons pE pa_nil he1) he) (by rfl) hfew hline he hpl) hs) (by
    obtain ⟨v0, e, o⟩ := s.env.ow i _ hi
    obtain ⟨q, vs, e2, nb, nh, hu, f⟩ := own_one o
    subst e2
    refine ⟨_, e, .inl ⟨rfl, vs, SqL.of hu⟩, (h.run w σ B H s).mono fun v H1 ⟨B1, a1, zi, pz, p1⟩ => (h1.run w σ B1 H1 a1.sta).mono fun u H2 ⟨B2, a2, p2⟩ => ?_⟩
    obtain ⟨z0, z1⟩ := hφ zi pz
    obtain ⟨z, rfl⟩ : ∃ z : Nat, zi = (z : Int) := ⟨zi.toNat, by omega⟩
    have a12 := a1.trans a2
    have hu1 : H2 q = some (.lst vs) := a12.t.keep q _ hu fun φ z => by rw [nb] at z; cases z
    have p1 : v = .int z := p1
    subst p1
    have f2 := f.mono a12.le
    have sz : sizeLine = 16777216 := by decide
    refine ⟨q, vs, z, u, rfl, rfl, hu1, by rw [f.len]; exact hl, by omega, by omega, (k z (by omega)).go w a12.le (a12.sta.chgL hi e ?_)⟩
    rw [Int.toNat_natCast]
    exact ((f2.take z).append (show F2 B2 [u] [P] from ⟨p2, trivial⟩)).append (f2.drop z))
end
end G
set_option Elab.async false
set_option linter.all false
set_option maxRecDepth 100000
set_option maxHeartbeats 4000000
namespace G
open PySem PySem.Spec PySem.W PyProof.Rows L2
/-! ### defs that are told nothing is being shown (no repr under way): for repr of lists and tuples -/
structure FnG (P : Program) (w : World) (K : PySem.W.Frag) (mg : Str → Option Value) (base : Heap) (CX : CXT) (k : Nat) (f : Addr) (fd : FuncData) (ps : List Str) (sp : Sp) : Prop where
  len : ∀ ws H Q E, sp ws H Q E → ws.length = ps.length
  run : ∀ (A : Around) (outer : List Env) (st : Shared) (H : Hp) (as : Args) (us : List Value) (ws : List V) (Q : VK) (E : XK), Room k A → A.guards = some [] → Env0 P w K mg base A outer st H → BindsTo st fd as (ps.zip us) → Vals ws us → sp ws H Q E →
    codeAny (model P w) A (.call (.ref f) as) (CR CX outer P w H st Q E) st
theorem fng_body {P : Program} {w : World} {K : PySem.W.Frag} {mg : Str → Option Value} {base : Heap} {CX : CXT} {name qual : Str} {params : Arguments} {body : List Stmt} {scope : Scope} {f : Addr} {fd : FuncData} {N ps : List Str} {k : Nat} {sp : Sp} (F : FunD K name qual params body scope [] [] f fd) (S : FnScope N ps scope)
    (len : ∀ ws H Q E, sp ws H Q E → ws.length = ps.length)
    (hbody : ∀ (cdv : Value) (A : Around) (outer : List Env) (st : Shared) (H : Hp) (ws : List V) (Q : VK) (E : XK), Room k (A.deeper (envOfC qual scope st.heap.objs.size f cdv)) → A.guards = some [] → sp ws H Q E →
      ∃ t, PSs (cxOf CX P w K mg base N qual scope f cdv A outer st H E) body t ∧ t { nx := fun _ H' => Q .non H', rt := Q } (L2.start N ws) H) : FnG P w K mg base CX (k + 1) f fd ps sp := by
  obtain ⟨oc, od, dV, kV, doc, pm, an, cdv, ct, osl, rfl, lk, hcd, _, _⟩ := F.ex
  refine ⟨len, fun A outer st H as us ws Q E room gd en bd rv q => ?_⟩
  have wl := len _ _ _ _ q
  have kin : K.In st.heap := en.mod.kin.keeps fun b o e => (en.bs b o e).1
  have nol : st.heap.NoLimit := en.mod.nolimit.keeps fun b o e => (en.bs b o e).1
  have kinds : ∀ y ∈ ps.zip us, scope.names.lookup y.1 = some .local ∨ (scope.names.lookup y.1 = some .cell ∧ ((cellsFrom (st.heap.objs.size + 1) scope.names []).lookup y.1).isSome = true) := fun ⟨n, v⟩ hy =>
    (S.par n (List.of_mem_zip hy).1).imp id fun z => ⟨z, PySem.W.cellsFrom_some _ _ _ (.inl z)⟩
  refine codeAny_call_function room.depth (kin _ _ lk) rfl S.co S.gen rfl (PySem.W.codeRec_of kin hcd) (bd _ _ _ _ ?_)
  refine wpAny_newFunctionEnv_cells S.kind kinds fun env he s1 inn => ?_
  subst he
  refine ⟨nol.keeps inn.toInCall.keep, codeAny_func ?_⟩
  obtain ⟨t, ht, hq⟩ := hbody cdv A outer st H ws Q E (room.deeper _) gd q
  have J := inv_start (CX := CX) (E := E) S room.hd en wl rv inn
  refine wpAny_mono (ht.run [] s1 (L2.start N ws) H _ J hq) (fun fl s2 z => ?_) fun _ _ z => z
  match fl, z with
  | .ret u, ⟨v, σ', H', J', r', q'⟩ => exact ⟨v, H', J'.os, J'.bare, J'.base, J'.hok, r', q'⟩
  | .next, ⟨σ', H', J', q'⟩ => exact ⟨V.non, H', J'.os, J'.bare, J'.base, J'.hok, rfl, q'⟩
  | .brk, ⟨_, _, _, q'⟩ => exact q'.elim
  | .cont, ⟨_, _, _, q'⟩ => exact q'.elim
theorem fng_ok {U : Uv} {name qual : Str} {params : Arguments} {body : List Stmt} {scope : Scope} {f : Addr} {fd : FuncData} {N ps : List Str} {k : Nat} {ι : Type} {φ : ι → Cs} (F : FunD U.K name qual params body scope [] [] f fd) (S : FnScope N ps scope)
    (hl : ∀ i, (φ i).as.length = ps.length)
    (hbody : ∀ (i : ι) (cd : Value) (A : Around) (outer : List Env) (s : Shared) (b : Base) (E : XK), A.guards = some [] → (φ i).pre → JS (gxOf U N qual scope f cd A outer s b E (φ i).exc k) body (entry (φ i).as N.length) (ret b ((φ i).rs b))) : FnG U.P U.w U.K U.mg U.base (L2N.CX U.P U.w) (k + 1) f fd ps (spT φ) := by
  refine fng_body F S (fun vs H Q E ⟨i, B, _, _, f2, _⟩ => by rw [f2.len, hl]) fun cdv A outer s H vs Q E hr gd ⟨i, B, pre, ok, f2, kr, kx⟩ => ?_
  have j := hbody i cdv A outer s ⟨B, H⟩ E gd pre
  have w : (gxOf U N qual scope f cdv A outer s ⟨B, H⟩ E (φ i).exc k).Wf := {
    tk := L2N.Takes.imp (L2N.takes_of (X := cxOf (L2N.CX U.P U.w) U.P U.w U.K U.mg U.base N qual scope f cdv A outer s H E) rfl rfl rfl rfl) fun C d σ H' ⟨dn, c, e, z, B', t⟩ => by
      subst e
      exact kx c d B' H' t z dn
    hr := fun _ => hr
    po := passes_of (X := cxOf (L2N.CX U.P U.w) U.P U.w U.K U.mg U.base N qual scope f cdv A outer s H E) rfl
    nd := S.nd
    bok := ok }
  exact ⟨_, pS, (j.run w (L2.start N vs) B H (entry_sta ok f2)).mono ⟨fun σ' H' ⟨B', t, r⟩ => kr _ B' H' t r, fun v H' ⟨B', t, r⟩ => kr v B' H' t r, fun _ _ z => z.elim, fun _ _ z => z.elim⟩⟩
/-! ### the law's own call -/
theorem law_callG {P : Program} {w : World} {K : PySem.W.Frag} {mg mb : Str → Option Value} {k : Nat} {fa a : Addr} {fd : FuncData} {x : Str} {sp : Sp} {s1 : Shared} {us : List Value} {ns : List Int}
    (kin : K.In s1.heap) (hns : s1.heap.Ns mainGlobals mg) (hb : s1.heap.Ns builtinsNs mb) (hbb : ∀ x : Str, x ≠ "__name__" → mb x = bootBuiltins x) (hlim : s1.heap.NoLimit) (hg : s1.gens = #[])
    (ha : s1.heap.get? a = some { cls := .type "list", data := .seq us.toArray }) (hi : IntsAre us ns) (hl : ns.length ≤ sizeLine) (room : Room k callerA)
    (F : ∀ base : Heap, K.In base → base.Ns mainGlobals mg → FnG P w K mg base (L2N.CX P w) k fa fd [x] sp) (bnd : ∀ (s : Shared) (u : Value), BindsTo s fd ⟨[u], []⟩ [(x, u)])
    (hsp : ∀ H : Hp, Only H → SqL K H a (ns.map V.int) → sp [.ref a] H (fun v _ => v = .bl true) noE) :
    codeAny (model P w) callerA (.call (.ref fa) ⟨[.ref a], []⟩) (fun r s' => r = .ok (.ret (.bool true)) ∧ OldK s1.heap s'.heap ∧ s'.os = s1.os ∧ AllBare s'.gens) s1 := by
  have vv := vals_ints hi
  have ul := hi.length
  have main : ∀ H : Hp, Only H → SqL K H a (ns.map V.int) → HOk P w H s1.heap → (∀ b, H b ≠ none → b = a) → (H a ≠ none → K.lookup a = none) →
      codeAny (model P w) callerA (.call (.ref fa) ⟨[.ref a], []⟩) (fun r s' => r = .ok (.ret (.bool true)) ∧ OldK s1.heap s'.heap ∧ s'.os = s1.os ∧ AllBare s'.gens) s1 := by
    intro H only sq hok alone away
    have free : ∀ {b : Addr}, b ≠ a → H b = none := fun {b} n => Classical.byContradiction fun z => n (alone b z)
    have stay : ∀ {b : Addr} {o : Obj}, s1.heap.get? b = some o → H b = none → (hidT s1.heap H).get? b = some o := fun e n => hidT_get e n
    have nsT : ∀ {b : Addr} {m : Str → Option Value}, s1.heap.Ns b m → (hidT s1.heap H).Ns b m := fun {b m} ⟨o, es, ep, e, d, r⟩ => ⟨o, es, ep, stay e (free fun z => by
      subst z
      rw [ha] at e
      cases e
      cases (show Data.seq us.toArray _ = Data.dict es ep from d)), d, r⟩
    have kinT : K.In (hidT s1.heap H) := fun b o e => stay (kin b o e) (Classical.byContradiction fun z => by
      have q := alone b z
      subst q
      rw [away z] at e
      cases e)
    have modT : Mod K mg (hidT s1.heap H) := ⟨kinT, nsT hns, ⟨mb, nsT hb, hbb⟩, let ⟨mc, h1, h2⟩ := hlim; ⟨mc, nsT h1, h2⟩⟩
    have en : Env0 P w K mg (hidT s1.heap H) callerA [] s1 H := ⟨rfl, modT, fun _ _ e => of_hidT e, Nat.le_of_eq (hidT_size _ _), trivial, fun b z => (List.not_mem_nil (show b ∈ ([] : List Addr) from z)).elim, hok, .of_eq hg⟩
    refine codeAny_mono ((F _ kinT (nsT hns)).run callerA [] s1 H ⟨[.ref a], []⟩ [.ref a] [.ref a] _ _ room rfl en (bnd s1 (.ref a)) (.cons rfl .nil) (hsp H only sq)) fun r s2 h => ?_
    match r, h with
    | .error _, h => exact (let ⟨_, _, _, _, _, _, _, _, _, _, _, _, z⟩ := h; z.elim)
    | .ok (.ret u), ⟨v, H2, os, bare, un, hok2, rv, q⟩ =>
      have q : v = .bl true := q
      subst q
      obtain rfl : u = Value.bool true := rv
      refine ⟨rfl, OldK.of_keep fun b o e => ?_, os, bare⟩
      rcases only b with z | ⟨ob, xs, z⟩
      · exact un.keep b o e z (fun m => List.not_mem_nil (show b ∈ ([] : List Addr) from m)) List.not_mem_nil
      · have e1 := (hok b _ z).1
        have e2 := (hok2 b _ (un.frzs b ob _ z)).1
        rw [e] at e1
        cases e1
        exact e2
  cases hk : K.lookup a with
  | some o =>
    have e := kin a o hk
    rw [ha] at e
    cases e
    exact main (fun _ => none) (fun _ => .inl rfl) (.inr ⟨_, us.toArray, _, hk, rfl, rfl, rfl, by rw [List.size_toArray, ul]; exact hl, by simpa using vv⟩) (fun b u z => by cases (show (none : Option HO) = some u from z)) (fun b z => absurd rfl z) fun z => absurd rfl z
  | none =>
    let H0 : Hp := fun b => if b = a then some (.frz { cls := .type "list", data := .seq us.toArray } (.lst (ns.map V.int))) else none
    have at_a : H0 a = some (.frz { cls := .type "list", data := .seq us.toArray } (.lst (ns.map V.int))) := if_pos rfl
    have off : ∀ b, b ≠ a → H0 b = none := fun b n => if_neg n
    refine main H0 (fun b => ?_) (.inl (.inr ⟨_, at_a⟩)) (fun b u z => ?_) (fun b z => Classical.byContradiction fun n => z (off b n)) fun _ => hk
    · by_cases n : b = a
      · subst n; exact .inr ⟨_, _, at_a⟩
      · exact .inl (off b n)
    · by_cases n : b = a
      · subst n
        rw [at_a] at z
        cases z
        exact ⟨ha, by rw [List.length_map]; exact hl, us, _, vv, ha⟩
      · rw [off b n] at z; cases z
end G
set_option Elab.async false
set_option linter.all false
set_option maxRecDepth 100000
set_option maxHeartbeats 4000000
namespace G
open PySem PySem.Spec PySem.W PyProof.Rows L2
/-! ### repr of data of any depth, where nothing is being shown -/
mutual
theorem dp_nodict {K : PySem.W.Frag} {H : Hp} : ∀ {d : PyData} {v : V}, Dp K H v d → d.hasDict = false
  | .none, _, _ => rfl
  | .bool _, _, _ => rfl
  | .int _, _, _ => rfl
  | .str _, _, _ => rfl
  | .list ds, _, h => by
    cases h with
    | lst _ ha => rw [PyData.hasDict]; exact dps_nodict ha
  | .tuple ds, _, h => by
    cases h with
    | tup _ ha => rw [PyData.hasDict]; exact dps_nodict ha
  | .dict _, _, h => by cases h
theorem dps_nodict {K : PySem.W.Frag} {H : Hp} : ∀ {ds : List PyData} {vs : List V}, DpAll K H vs ds → PyData.hasDictAll ds = false
  | [], _, _ => rfl
  | d :: ds, _, h => by
    cases h with
    | cons a b => rw [PyData.hasDictAll, dp_nodict a, dps_nodict b]; rfl
end
theorem call_reprD {X : Cx} (hg : X.A.guards = some []) : CallR X (.builtin "repr") (fun xs H Q => ∃ v d, xs = [v] ∧ Dp X.K H v d ∧ d.showable = true ∧ d.shown.length ≤ sizeLine ∧ X.A.units + (d.depth + 1) < cLine ∧ Q (.str d.shown) H) := by
  intro pins s σ H xs us Q I r h
  obtain ⟨v, d, rfl, hd, hs, hz, hu, q⟩ := h
  obtain ⟨u, rfl, rv⟩ := vals1 r
  obtain ⟨as, rd⟩ := Dp.reads I d v u hd rv
  have key : ∀ a : Addr, u = .ref a → wpAny (model X.prog X.w) X.A (call (.builtin "repr") [u]) (EP X pins σ Q) X.xe s := fun a e => by
    subst e
    exact repr_of_reads' rd hs (fun z => by rw [dp_nodict hd] at z; cases z) hg hu (fun _ _ e => e) (fun h' t tk hk => ⟨.str d.shown, H, I.kept hk, ⟨_, rfl⟩, q⟩) hz
  cases hd with
  | non => cases rv; rw [PyData.shown] at q; exact P.repr_of_none ⟨.str "None", H, I.tok _, ⟨_, rfl⟩, q⟩
  | bl b => cases rv; rw [PyData.shown] at q; exact P.repr_of_bool ⟨.str (if b then "True" else "False"), H, I.tok _, ⟨_, rfl⟩, q⟩
  | int i =>
    obtain ⟨t, rfl⟩ := rv
    rw [PyData.shown] at q
    exact P.repr_of_int (by simpa [PyData.showable] using hs) ⟨.str (toString i), H, I.tok _, ⟨_, rfl⟩, q⟩
  | str x =>
    obtain ⟨t, rfl⟩ := rv
    rw [PyData.shown] at q hz
    exact P.repr_of_str ⟨.str (reprText x), H, I.tok _, ⟨_, rfl⟩, q⟩ hz
  | lst _ _ => exact key _ (by cases rv; rfl)
  | tup _ _ => exact key _ (by cases rv; rfl)
section
variable {g : Gx} {Γ : Gm} {e : Expr} {pos : Pos} {P : Pr}
theorem bo_repr : bootBuiltins "repr" = some (.builtin "repr") := by decide +kernel
theorem x_repr {d : PyData} {p : Pos} (hm : g.X.mg "repr" = none) (hgd : g.X.A.guards = some []) (h : JE g e Γ P) (hd : HasD g.X.K P d) (hs : d.showable = true) (hz : d.shown.length ≤ sizeLine) (hdp : d.depth ≤ 60) (hg : Gl g.X "repr" := by rfl) (he : starEach [e] g.X.env = (false, eval e g.X.env) :: starEach [] g.X.env := by rfl) (hcm : g.X.calm = true := by rfl) :
    JE g (.Call (.Name "repr" p) [e] [] pos) Γ (G.rS d.shown) := by
  refine ⟨fun w => ?_⟩
  exact (x_cb (r := fun xs H Q => ∃ v d', xs = [v] ∧ Dp g.X.K H v d' ∧ d'.showable = true ∧ d'.shown.length ≤ sizeLine ∧ g.X.A.units + (d'.depth + 1) < cLine ∧ Q (.str d'.shown) H) hm (fun _ => call_reprD hgd) bo_repr
    (fun B H vs K k f c => by
      obtain ⟨v, rfl, e⟩ := f.one
      exact ⟨v, d, rfl, hd B H v k e, hs, hz, by have := (w.hr hcm).units; omega, c _ B H (Stp.refl k) rfl⟩) (a_cons h a_nil he) hg (by decide) (by decide) he rfl).run w
end
end G
namespace G
open PySem PySem.Spec PySem.W PyProof.Rows L2
/-- a law's end where nothing is being shown at the call -/
theorem walk_ofG {l : PySem.W.OpenLaw} {n k : Nat} {q : Program} {loose : List Str} {XP : (Str → Option Value) → Heap → Prop} {YP : World → Heap → Prop} {d : DefRec} {x : Str}
    (hn : l.most = some n) (hn2 : n ≤ sizeLine) (hdf : d.params.defaults = []) (hr : Room k callerA)
    (F : ∀ (w : World) (mg : Str → Option Value) (fa : Addr) (h : Heap), YP w h → h.Ns mainGlobals mg → mg d.name = some (.ref fa) →
      ∃ (K : PySem.W.Frag) (fd : FuncData) (sp : Sp), K.In h ∧ (∀ (s : Shared) (u : Value), BindsTo s fd ⟨[u], []⟩ [(x, u)]) ∧
        (∀ (H : Hp) (a : Addr) (ns : List Int), ns.length ≤ n → Only H → SqL K H a (ns.map V.int) → sp [.ref a] H (fun v _ => v = .bl true) noE) ∧
        ∀ base : Heap, K.In base → base.Ns mainGlobals mg → FnG l.prog w K mg base (L2N.CX l.prog w) k fa fd [x] sp) :
    PySem.W.WalkO q loose XP YP l.row.toRowW d [] (fun f vs => PySem.call f vs) := by
  refine Att.attach_call hn hdf fun w s₀ s₁ mg mb fa o pm cd doc a vs ns G Y ho hd hcd hmg hobj hints hlen hg => ?_
  obtain ⟨K, fd, sp, KX, hb, hsp, hF⟩ := F w mg fa _ Y G.T.g hmg
  exact law_callG KX G.T.g G.T.b G.T.builtins G.T.nolimit hg hobj hints (Nat.le_trans hlen hn2) hr hF hb fun H hO hS => hsp H a ns hlen hO hS
end G
set_option Elab.async false
set_option linter.all false
set_option maxRecDepth 100000
set_option maxHeartbeats 2000000
namespace G
open PySem PySem.W PyProof.Rows
/-! ### what a flat form is: sums' parts in order, none of them the nought or of the same sum -/
mutual
def Fm.nf (sm : List (Str × Str)) : Fm → Prop
  | .lf _ => True
  | .nd n ps => Fm.nfs sm ps ∧ ∀ o, sm.lookup n = some o → 2 ≤ ps.length ∧ InOrder ps ∧ ∀ p ∈ ps, under n o p = [p]
def Fm.nfs (sm : List (Str × Str)) : List Fm → Prop
  | [] => True
  | p :: ps => p.nf sm ∧ Fm.nfs sm ps
end
theorem Fm.nfs_all {sm : List (Str × Str)} {ps : List Fm} : Fm.nfs sm ps ↔ ∀ p ∈ ps, p.nf sm := by
  induction ps with
  | nil => simp [Fm.nfs]
  | cons p ps ih => rw [Fm.nfs, ih]; simp
/-- a part of a found list -/
def Prt (sm : List (Str × Str)) (n o : Str) (x : Fm) : Prop := x.nf sm ∧ under n o x = [x]
theorem under_prt {sm : List (Str × Str)} {n o : Str} (h : sm.lookup n = some o) {x y : Fm} (hx : x.nf sm) (hy : y ∈ under n o x) : Prt sm n o y := by
  cases x with
  | lf s =>
    rw [under] at hy
    split at hy
    · cases hy
    · rename_i hs
      rw [List.mem_singleton.mp hy]
      exact ⟨by rw [Fm.nf]; trivial, by rw [under, if_neg hs]⟩
  | nd m ps =>
    rw [under] at hy
    split at hy
    · rename_i hm
      subst hm
      rw [Fm.nf] at hx
      exact ⟨Fm.nfs_all.mp hx.1 y hy, (hx.2 o h).2.2 y hy⟩
    · rename_i hm
      rw [List.mem_singleton.mp hy]
      exact ⟨hx, by rw [under, if_neg hm]⟩
theorem mkSum_nf {sm : List (Str × Str)} {n o : Str} (h : sm.lookup n = some o) {xs : List Fm} (hx : ∀ x ∈ xs, Prt sm n o x) : (mkSum n o xs).nf sm := by
  match xs, hx with
  | [], _ => rw [mkSum, Fm.nf]; trivial
  | [x], hx => rw [mkSum]; exact (hx x (List.mem_singleton.mpr rfl)).1
  | x :: y :: zs, hx =>
    rw [mkSum, Fm.nf]
    have pm := sortF_perm (x :: y :: zs)
    refine ⟨Fm.nfs_all.mpr fun p hp => (hx p (pm.mem_iff.mp hp)).1, fun o' ho' => ?_⟩
    rw [h] at ho'
    cases ho'
    exact ⟨by rw [pm.length_eq]; simp, sortF_order _, fun p hp => (hx p (pm.mem_iff.mp hp)).2⟩
theorem Tm.flat_nf (sm : List (Str × Str)) : ∀ t : Tm, (t.flat sm).nf sm := by
  refine Tm.ind (fun s => ?_) (fun t n ps ih => ?_)
  · rw [Tm.flat, Fm.nf]; trivial
  · have h : ∀ p ∈ Tm.flats sm ps, p.nf sm := fun p hp => by
      rw [Tm.flats_map] at hp
      obtain ⟨q, hq, e⟩ := List.mem_map.mp hp
      rw [← e]; exact ih q hq
    rw [Tm.flat]
    cases e : sm.lookup n with
    | none =>
      show (Fm.nd n (Tm.flats sm ps)).nf sm
      rw [Fm.nf]
      exact ⟨Fm.nfs_all.mpr h, fun o ho => by rw [e] at ho; cases ho⟩
    | some o =>
      refine mkSum_nf e fun x hx => ?_
      obtain ⟨q, hq, hx⟩ := List.mem_flatMap.mp hx
      exact under_prt e (h q hq) hx
theorem sortF_eq {xs ys : List Fm} (h : xs.Perm ys) : sortF xs = sortF ys := order_unique (sortF_order _) (sortF_order _) (((sortF_perm xs).trans h).trans (sortF_perm ys).symm)
theorem sortF_id {xs : List Fm} (h : InOrder xs) : sortF xs = xs := order_unique (sortF_order _) h (sortF_perm xs)
theorem mkSum_perm {n o : Str} {xs ys : List Fm} (h : xs.Perm ys) : mkSum n o xs = mkSum n o ys := by
  have l := h.length_eq
  match xs, ys, l, h with
  | [], [], _, _ => rfl
  | [x], [y], _, h => rw [List.singleton_perm_singleton.mp h]
  | x :: x' :: xs, y :: y' :: ys, _, h => rw [mkSum, mkSum, sortF_eq h]
theorem under_mkSum {sm : List (Str × Str)} {n o : Str} {xs : List Fm} (hx : ∀ x ∈ xs, Prt sm n o x) : (under n o (mkSum n o xs)).Perm xs := by
  match xs, hx with
  | [], _ => rw [mkSum, under, if_pos rfl]
  | [x], hx => rw [mkSum, (hx x (List.mem_singleton.mpr rfl)).2]
  | x :: y :: zs, _ => rw [mkSum, under, if_pos rfl]; exact sortF_perm _
/-- a flat form opened and put together is itself -/
theorem mkSum_under {sm : List (Str × Str)} {n o : Str} (h : sm.lookup n = some o) {x : Fm} (hx : x.nf sm) : mkSum n o (under n o x) = x := by
  cases x with
  | lf s =>
    rw [under]
    by_cases e : s = o
    · rw [if_pos e, mkSum, e]
    · rw [if_neg e, mkSum]
  | nd m ps =>
    rw [under]
    by_cases e : m = n
    · subst e
      rw [if_pos rfl]
      rw [Fm.nf] at hx
      obtain ⟨h2, ho, _⟩ := hx.2 o h
      match ps, h2, ho with
      | p :: q :: ps, _, ho => rw [mkSum, sortF_id ho]
    · rw [if_neg e, mkSum]
/-- a nought set beside, ahead or behind -/
theorem flat_beside {sm : List (Str × Str)} {n o : Str} (h : sm.lookup n = some o) (b : Bool) (t : Tm) : (Tm.nd b n [t, .lf o]).flat sm = t.flat sm ∧ (Tm.nd b n [.lf o, t]).flat sm = t.flat sm := by
  have u : under n o (.lf o) = [] := by rw [under, if_pos rfl]
  constructor
  · rw [Tm.flat, h]
    show mkSum n o ((Tm.flats sm [t, .lf o]).flatMap (under n o)) = _
    rw [Tm.flats, Tm.flats, Tm.flats, Tm.flat, List.flatMap_cons, List.flatMap_cons, u, List.flatMap_nil, List.append_nil, List.append_nil]
    exact mkSum_under h (Tm.flat_nf sm t)
  · rw [Tm.flat, h]
    show mkSum n o ((Tm.flats sm [.lf o, t]).flatMap (under n o)) = _
    rw [Tm.flats, Tm.flats, Tm.flats, Tm.flat, List.flatMap_cons, List.flatMap_cons, u, List.flatMap_nil, List.append_nil, List.nil_append]
    exact mkSum_under h (Tm.flat_nf sm t)
theorem flats_perm {sm : List (Str × Str)} {ps qs : List Tm} (h : ps.Perm qs) : (Tm.flats sm ps).Perm (Tm.flats sm qs) := by rw [Tm.flats_map, Tm.flats_map]; exact h.map _
/-- parts of a sum exchanged -/
theorem flat_perm {sm : List (Str × Str)} {n o : Str} (h : sm.lookup n = some o) {b c : Bool} {ps qs : List Tm} (hp : (Tm.flats sm ps).Perm (Tm.flats sm qs)) : (Tm.nd b n ps).flat sm = (Tm.nd c n qs).flat sm := by
  rw [Tm.flat, Tm.flat, h]
  exact mkSum_perm (hp.flatMap_right _)
/-- some parts of a sum put into brackets -/
theorem flat_bracket {sm : List (Str × Str)} {n o : Str} (h : sm.lookup n = some o) {b c d : Bool} {ps qs : List Tm} : (Tm.nd b n (.nd c n ps :: qs)).flat sm = (Tm.nd d n (ps ++ qs)).flat sm := by
  have e : (Tm.nd c n ps).flat sm = mkSum n o ((Tm.flats sm ps).flatMap (under n o)) := by rw [Tm.flat, h]
  rw [Tm.flat, Tm.flat, h]
  show mkSum n o ((Tm.flats sm (.nd c n ps :: qs)).flatMap (under n o)) = mkSum n o ((Tm.flats sm (ps ++ qs)).flatMap (under n o))
  rw [Tm.flats, e, List.flatMap_cons]
  have e2 : Tm.flats sm (ps ++ qs) = Tm.flats sm ps ++ Tm.flats sm qs := by rw [Tm.flats_map, Tm.flats_map, Tm.flats_map, List.map_append]
  rw [e2, List.flatMap_append]
  refine mkSum_perm (List.Perm.append_right _ (under_mkSum (sm := sm) fun x hx => ?_))
  obtain ⟨q, hq, hx⟩ := List.mem_flatMap.mp hx
  rw [Tm.flats_map] at hq
  obtain ⟨p, _, ep⟩ := List.mem_map.mp hq
  exact under_prt h (ep ▸ Tm.flat_nf sm p) hx
/-- flat forms of flat forms -/
theorem Fm.flat_tm (sm : List (Str × Str)) : ∀ f : Fm, f.nf sm → f.tm.flat sm = f := by
  refine Fm.ind (fun s _ => ?_) (fun n ps ih h => ?_)
  · rw [Fm.tm, Tm.flat]
  · rw [Fm.nf] at h
    have tms : ∀ qs : List Fm, (∀ q ∈ qs, q.tm.flat sm = q) → Tm.flats sm (Fm.tms qs) = qs := by
      intro qs
      induction qs with
      | nil => intro _; rw [Fm.tms, Tm.flats]
      | cons q qs ih2 => intro hq; rw [Fm.tms, Tm.flats, hq q (List.mem_cons_self ..), ih2 fun r hr => hq r (List.mem_cons_of_mem _ hr)]
    have e := tms ps fun q hq => ih q hq (Fm.nfs_all.mp h.1 q hq)
    rw [Fm.tm, Tm.flat, e]
    cases hn : sm.lookup n with
    | none => rfl
    | some o =>
      obtain ⟨h2, ho, hu⟩ := h.2 o hn
      have fm : ps.flatMap (under n o) = ps := by
        have key : ∀ qs : List Fm, (∀ p ∈ qs, under n o p = [p]) → qs.flatMap (under n o) = qs := by
          intro qs
          induction qs with
          | nil => intro _; rfl
          | cons q qs ih2 => intro hq; rw [List.flatMap_cons, hq q (List.mem_cons_self ..), ih2 fun r hr => hq r (List.mem_cons_of_mem _ hr)]; rfl
        exact key ps hu
      show mkSum n o (ps.flatMap (under n o)) = .nd n ps
      rw [fm]
      match ps, h2, ho with
      | p :: q :: ps, _, ho => rw [mkSum, sortF_id ho]
end G
set_option Elab.async false
set_option linter.all false
set_option maxRecDepth 100000
set_option maxHeartbeats 2000000
namespace G
open PySem PySem.W PyProof.Rows
/-! ### a term made of lists alone, or of tuples alone -/
mutual
def Tm.as (l : Bool) : Tm → Tm
  | .lf s => .lf s
  | .nd _ n ps => .nd (!l) n (Tm.asL l ps)
def Tm.asL (l : Bool) : List Tm → List Tm
  | [] => []
  | p :: ps => p.as l :: Tm.asL l ps
end
theorem Tm.asL_map (l : Bool) : ∀ ps : List Tm, Tm.asL l ps = ps.map (Tm.as l)
  | [] => by rw [Tm.asL]; rfl
  | p :: ps => by rw [Tm.asL, Tm.asL_map l ps]; rfl
mutual
theorem Tm.as_flat (sm : List (Str × Str)) (l : Bool) : ∀ t : Tm, (t.as l).flat sm = t.flat sm
  | .lf s => by rw [Tm.as]
  | .nd t n ps => by rw [Tm.as, Tm.flat, Tm.flat, Tm.asL_flat sm l ps]
theorem Tm.asL_flat (sm : List (Str × Str)) (l : Bool) : ∀ ts : List Tm, Tm.flats sm (Tm.asL l ts) = Tm.flats sm ts
  | [] => by rw [Tm.asL]
  | p :: ps => by rw [Tm.asL, Tm.flats, Tm.flats, Tm.as_flat sm l p, Tm.asL_flat sm l ps]
end
mutual
theorem Tm.as_deep (l : Bool) : ∀ t : Tm, (t.as l).deep = t.deep
  | .lf s => by rw [Tm.as]
  | .nd t n ps => by rw [Tm.as, Tm.deep, Tm.deep, Tm.asL_deep l ps]
theorem Tm.asL_deep (l : Bool) : ∀ ts : List Tm, Tm.deeps (Tm.asL l ts) = Tm.deeps ts
  | [] => by rw [Tm.asL]
  | p :: ps => by rw [Tm.asL, Tm.deeps, Tm.deeps, Tm.as_deep l p, Tm.asL_deep l ps]
end
mutual
theorem Tm.as_wt (l : Bool) : ∀ t : Tm, (t.as l).wt = t.wt
  | .lf s => by rw [Tm.as]
  | .nd t n ps => by rw [Tm.as, Tm.wt, Tm.wt, Tm.asL_wt l ps]
theorem Tm.asL_wt (l : Bool) : ∀ ts : List Tm, Tm.wts (Tm.asL l ts) = Tm.wts ts
  | [] => by rw [Tm.asL]
  | p :: ps => by rw [Tm.asL, Tm.wts, Tm.wts, Tm.as_wt l p, Tm.asL_wt l ps]
end
mutual
theorem Tm.as_txt (l : Bool) : ∀ t : Tm, (t.as l).txt = t.txt
  | .lf s => by rw [Tm.as]
  | .nd t n ps => by rw [Tm.as, Tm.txt, Tm.txt, Tm.asL_txt l ps]
theorem Tm.asL_txt (l : Bool) : ∀ ts : List Tm, Tm.txts (Tm.asL l ts) = Tm.txts ts
  | [] => by rw [Tm.asL]
  | p :: ps => by rw [Tm.asL, Tm.txts, Tm.txts, Tm.as_txt l p, Tm.asL_txt l ps]
end
mutual
theorem Tm.as_ok (fx : List (Str × Nat)) (sm : List (Str × Str)) (l : Bool) : ∀ t : Tm, (t.as l).ok fx sm = t.ok fx sm
  | .lf s => by rw [Tm.as]
  | .nd t n ps => by rw [Tm.as, Tm.ok, Tm.ok, Tm.asL_ok fx sm l ps, Tm.asL_map, List.length_map]
theorem Tm.asL_ok (fx : List (Str × Nat)) (sm : List (Str × Str)) (l : Bool) : ∀ ts : List Tm, Tm.oks fx sm (Tm.asL l ts) = Tm.oks fx sm ts
  | [] => by rw [Tm.asL]
  | p :: ps => by rw [Tm.asL, Tm.oks, Tm.oks, Tm.as_ok fx sm l p, Tm.asL_ok fx sm l ps]
end
/-! ### the room that a term's repr takes -/
mutual
theorem Tm.showable : ∀ t : Tm, t.data.showable = true
  | .lf s => by rw [Tm.data, PyData.showable]
  | .nd t n ps => by
    rw [Tm.data]
    have h := Tm.showables ps
    cases t <;> simp [PyData.showable, PyData.showableAll, h]
theorem Tm.showables : ∀ ts : List Tm, PyData.showableAll (Tm.datas ts) = true
  | [] => by rw [Tm.datas, PyData.showableAll]
  | p :: ps => by rw [Tm.datas, PyData.showableAll, Tm.showable p, Tm.showables ps]; rfl
end
end G
set_option Elab.async false
set_option linter.all false
set_option maxRecDepth 100000
set_option maxHeartbeats 2000000
namespace G
open PySem PySem.W PyProof.Rows
/-! ### how long a term's repr is -/
mutual
theorem Tm.short (B : Nat) : ∀ t : Tm, t.data.intsShort B = true
  | .lf s => by rw [Tm.data]; simp [PyData.intsShort]
  | .nd t n ps => by
    have h := Tm.shorts B ps
    rw [Tm.data]
    cases t <;> simp [PyData.intsShort, PyData.intsShortAll, h]
theorem Tm.shorts (B : Nat) : ∀ ts : List Tm, PyData.intsShortAll B (Tm.datas ts) = true
  | [] => by rw [Tm.datas]; simp [PyData.intsShortAll]
  | p :: ps => by rw [Tm.datas]; simp [PyData.intsShortAll, Tm.short B p, Tm.shorts B ps]
end
mutual
theorem Tm.weight_le : ∀ t : Tm, t.txt = true → t.data.weight + 1 ≤ 102 * t.wt
  | .lf s, h => by
    rw [Tm.txt] at h
    have := okS_len h
    have e : s.length = s.cps.size := rfl
    rw [Tm.data, Tm.wt, PyData.weight]; omega
  | .nd t n ps, h => by
    rw [Tm.txt, Bool.and_eq_true] at h
    have h1 := okS_len h.1
    have h2 := Tm.weights_le ps h.2
    have e : n.length = n.cps.size := rfl
    have w : (PyData.str n).weight = n.cps.size := by rw [PyData.weight]
    rw [Tm.data, Tm.wt]
    cases t
    · rw [if_neg (by decide), PyData.weight, PyData.weightAll, w]; omega
    · rw [if_pos rfl, PyData.weight, PyData.weightAll, w]; omega
theorem Tm.weights_le : ∀ ts : List Tm, Tm.txts ts = true → PyData.weightAll (Tm.datas ts) ≤ 102 * Tm.wts ts
  | [], _ => by rw [Tm.datas, PyData.weightAll]; exact Nat.zero_le _
  | p :: ps, h => by
    rw [Tm.txts, Bool.and_eq_true] at h
    have h1 := Tm.weight_le p h.1
    have h2 := Tm.weights_le ps h.2
    rw [Tm.datas, PyData.weightAll, Tm.wts]; omega
end
theorem Tm.shown_fits {t : Tm} (h : t.txt = true) (hw : t.wt ≤ 10000) : t.data.shown.length ≤ sizeLine := by
  have l := PyData.leavesShort_of_canLay0 13 t.data (Tm.lay t h) (Tm.short 13 t)
  have w := Tm.weight_le t h
  have e : (2 : Nat) ^ 20 = 1048576 := by decide
  exact PyData.shown_fits (B := 13) (by decide) (by decide) l (by omega)
end G
set_option Elab.async false
set_option linter.all false
set_option maxRecDepth 100000
set_option maxHeartbeats 400000
namespace G
open PySem PySem.Spec PyProof.Rows L2
variable {g : Gx} {Γ : Gm} {D : En} {rest : List Stmt} {pos apos : Pos} {rs : List Pr} {R : Pr}
/-- y = x.pop() -/
theorem s_popLast (i j : Nat) {x y : Str} {p py : Pos} {cpos : Pos} (hr : rs[rs.length - 1]? = some R) (k : JS g rest ((Γ.set i (some (.ow (oL rs.dropLast)))).set j (some (.sh R))) D) (hi : Γ[i]? = some (some (.ow (oL rs))) := by rfl) (hN : g.X.N[i]? = some x := by rfl) (hNy : g.X.N[j]? = some y := by rfl) (hv : Vis g.X.env.scope x := by first | exact Or.inl rfl | exact Or.inr (Or.inl rfl) | exact Or.inr (Or.inr rfl))
    (hl : Loc g.X.env.scope y := by first | exact Or.inl rfl | exact Or.inr rfl)
    (hd : (x == ("__debug__" : Str)) = false := by decide) (hcd : (x == ("__classdict__" : Str)) = false := by decide) (hline : (apos.endLine == cpos.line) = true := by rfl)
    (hs : swapsWith (.Call (.Attribute (.Name x p) "pop" apos) [] [] cpos) (some (.Name y py)) pos.line g.X.env = pure false := by rfl) (hf : g.X.fn y = true ∨ g.X.env.scope.names.lookup y = some .local := by first | exact .inl rfl | exact .inr rfl) :
    JS g (.Assign [.Name y py] (.Call (.Attribute (.Name x p) "pop" apos) [] [] cpos) pos :: rest) Γ D :=
  js_cons fun w σ B H s => of1 (ps_set w.nd hNy hl (pe_bm0 PySem.F.plainAttrs_list PySem.F.slot_list_pop PySem.F.type_list_pop mt_pop (pe_var hN hv hd hcd) (by rfl) hline) hs hf) (by
    obtain ⟨v0, e, o⟩ := s.env.ow i _ hi
    obtain ⟨q, vs, e2, nb, nh, hu, f⟩ := own_one o
    subst e2
    have ln := f.len
    obtain ⟨u, eu, ru⟩ := f.get hr
    refine ⟨_, e, .inl ⟨rfl, vs, SqL.of hu⟩, ?_⟩
    refine ⟨q, vs, u, rfl, rfl, hu, by rw [ln]; exact eu, ?_⟩
    have er : F2 B vs.dropLast rs.dropLast := by
      rw [List.dropLast_eq_take, List.dropLast_eq_take, ln]
      exact f.take _
    exact k.go w (Le.refl _) ((s.chgL hi e er).setS ru))
end G
set_option Elab.async false
set_option linter.all false
set_option maxRecDepth 100000
set_option maxHeartbeats 4000000
namespace G
open PySem PySem.W PyProof.Rows L2
/-! ### a def whose first argument is an own thing of the caller's, that it changes -/
/-- a step that may change what stands at F -/
structure StpX (F : Addr → Prop) (B : Bs) (H : Hp) (B' : Bs) (H' : Hp) : Prop where
  le : Le B B'
  ok : Ok B' H'
  keep : ∀ a o, ¬ F a → H a = some o → (∀ φ, B a ≠ some (.iv φ)) → H' a = some o
  there : ∀ a, ¬ F a → H a ≠ none → H' a ≠ none
  new : ∀ a, ¬ F a → B a = none → ∀ k, B' a = some k → Soft (H a) k
structure CsO (τ : Type) where
  as : List Pr
  bf : τ
  rs : Pr
  af : τ → Prop
  pre : Prop := True
def spO {τ : Type} (oc : τ → Oc) {ι : Type} (φ : ι → CsO τ) : L2.Sp := fun vs H Q E => ∃ i B v us, vs = v :: us ∧ (φ i).pre ∧ Ok B H ∧ F2 B us (φ i).as ∧ (∀ a ∈ (oc (φ i).bf).ad v H, B a = none ∧ Hard (H a)) ∧ (oc (φ i).bf).r B H v ∧
  ∀ u B' H' t', (φ i).af t' → StpX (· ∈ (oc (φ i).bf).ad v H) B H B' H' → (∀ a ∈ (oc t').ad v H', B' a = none ∧ Hard (H' a) ∧ (a ∈ (oc (φ i).bf).ad v H ∨ H a = none)) → (oc t').r B' H' v → (φ i).rs.r B' u → Q u H'
structure MdO (U : Uv) (C : Addr) (m : Str) (k : Nat) (ps : List Str) {τ : Type} (oc : τ → Oc) {ι : Type} (φ : ι → CsO τ) : Prop where
  ok : ∃ f fd, Cls U.K C ∧ Meth U.K C m f ∧ Binds U.K fd (("self" : Str) :: ps) [] ∧ FnOk U.P U.w U.K U.mg U.base (L2N.CX U.P U.w) k f fd (("self" : Str) :: ps) (spO oc φ)
def without (H : Hp) (F : List Addr) : Hp := fun a => if a ∈ F then none else H a
theorem without_in {H : Hp} {F : List Addr} {a : Addr} (h : a ∈ F) : without H F a = none := if_pos h
theorem without_out {H : Hp} {F : List Addr} {a : Addr} (h : a ∉ F) : without H F a = H a := if_neg h
theorem without_ok {B : Bs} {H : Hp} {F : List Addr} (k : Ok B H) (n : ∀ a ∈ F, B a = none) : Ok B (without H F) where
  ex := fun a u e => by
    have : a ∉ F := fun m => by rw [n a m] at e; cases e
    have z := k.ex a u e
    unfold Rx at *
    rw [without_out this]; exact z
  iv := fun a φ e => by
    have : a ∉ F := fun m => by rw [n a m] at e; cases e
    rw [without_out this]; exact k.iv a φ e
theorem without_stp {B : Bs} {H : Hp} {F : List Addr} (k : Ok B H) (n : ∀ a ∈ F, B a = none) : Stp B (without H F) B H where
  le := Le.refl _
  ok := k
  keep := fun a o e _ => by
    by_cases m : a ∈ F
    · rw [without_in m] at e; cases e
    · rw [without_out m] at e; exact e
  there := fun a e => by
    by_cases m : a ∈ F
    · rw [without_in m] at e; exact absurd rfl e
    · rw [without_out m] at e; exact e
  new := fun a h k' e => by rw [h] at e; cases e
/-- back from the callee's heap -/
theorem stpX_of {B B' : Bs} {H H' : Hp} {F : List Addr} (t : Stp B (without H F) B' H') : StpX (· ∈ F) B H B' H' where
  le := t.le
  ok := t.ok
  keep := fun a o n e q => t.keep a o (by rw [without_out n]; exact e) q
  there := fun a n e => t.there a (by rw [without_out n]; exact e)
  new := fun a n h k e => by have := t.new a h k e; rwa [without_out n] at this
theorem ownSta {B : Bs} {H : Hp} {c : Oc} {v : V} {us : List V} {rs : List Pr} {N : List Str} (k : Ok B H) (f : F2 B us rs) (n : ∀ a ∈ c.ad v H, B a = none ∧ Hard (H a)) (r : c.r B H v) :
    Sta ⟨B, without H (c.ad v H)⟩ (some (.ow c) :: entry rs (N.length - 1)) (L2.start N (v :: us)) B H := by
  have s2 := without_stp k fun a m => (n a m).1
  have e0 := entry_sta (N := N.drop 1) k f
  have st : L2.start N (v :: us) = some v :: L2.start (N.drop 1) us := by
    unfold L2.start
    simp only [List.map_cons, List.cons_append, List.length_cons, List.length_drop]
    congr 3
    omega
  have en : (N.drop 1).length = N.length - 1 := by simp
  rw [st]
  rw [en] at e0
  have own : Own ⟨B, without H (c.ad v H)⟩ c v B H := ⟨fun a m => (n a m).1, fun a m => without_in m, fun a m => (n a m).2, r⟩
  have noow : ∀ (i : Nat) (c : Oc), (entry rs (N.length - 1))[i]? = some (some (.ow c)) → False := fun i c h => by
    unfold entry at h
    have := List.mem_of_getElem? h
    rcases List.mem_append.mp this with q | q
    · obtain ⟨P, _, z⟩ := List.mem_map.mp q; cases z
    · have := (List.mem_replicate.mp q).2; cases this
  refine ⟨s2, ⟨by simpa using e0.env.len, fun i r h => ?_, fun i c h => ?_, fun i j c c' v v' a h1 h2 _ _ _ _ => ?_⟩⟩
  · cases i with
    | zero => simp at h
    | succ i =>
      obtain ⟨v, a, q⟩ := e0.env.sh i r (by simpa using h)
      exact ⟨v, by simpa using a, q⟩
  · cases i with
    | zero =>
      simp only [List.getElem?_cons_zero, Option.some.injEq, Sl.ow.injEq] at h
      subst h
      exact ⟨_, rfl, own⟩
    | succ i => exact (noow i c (by simpa using h)).elim
  · cases i with
    | zero => cases j with
      | zero => rfl
      | succ j => exact (noow j c' (by simpa using h2)).elim
    | succ i => exact (noow i c (by simpa using h1)).elim
/-- what is wanted at a return: the own thing as it is then -/
def retS {τ : Type} (b : Base) (oc : τ → Oc) (af : τ → Prop) (R : Pr) : En := { nx := fun _ _ _ => False, rt := fun u H => ∃ B t v, Stp b.B b.H B H ∧ af t ∧ Own b (oc t) v B H ∧ R.r B u }
theorem mdO_ok {U : Uv} {C : Addr} {m qual : Str} {params : Arguments} {body : List Stmt} {scope : Scope} {f : Addr} {fd : FuncData} {N ps : List Str} {k : Nat} {τ : Type} {oc : τ → Oc} {ι : Type} {φ : ι → CsO τ} (hc : Cls U.K C) (hm : Meth U.K C m f) (F : FunD U.K m qual params body scope [] [] f fd) (S : FnScope N (("self" : Str) :: ps) scope)
    (hb : ∀ (kV doc pm : Value) (an : Option Addr) (cdv ct : Value) (us : List Value), us.length = (("self" : Str) :: ps).length → bindArgs (PySem.W.fnOf m qual params body scope .none kV doc pm an cdv ct) ⟨us, []⟩ = pure ((("self" : Str) :: ps).zip us))
    (hl : ∀ i, (φ i).as.length = ps.length)
    (hself : ∀ i t B H v B0 H0 v0, (φ i).af t → (oc (φ i).bf).r B0 H0 v0 → (oc t).r B H v → v = v0)
    (hbody : ∀ (i : ι) (cd : Value) (A : Around) (outer : List Env) (s : Shared) (b : Base) (H0 : Hp) (E : XK), (φ i).pre → JS ⟨cxOf (L2N.CX U.P U.w) U.P U.w U.K U.mg U.base N qual scope f cd A outer s H0 E, b, outOf (fun _ => False) b, k⟩ body (some (.ow (oc (φ i).bf)) :: entry (φ i).as (N.length - 1)) (retS b oc (φ i).af (φ i).rs)) : MdO U C m (k + 1) ps oc φ := by
  refine ⟨f, fd, hc, hm, F.bindsN hb, F.ok S (fun vs H Q E h => ?_) fun cdv A outer s H vs Q E hr h => ?_⟩
  · obtain ⟨i, B, v, us, e, _, _, f2, _⟩ := h
    rw [e, List.length_cons, List.length_cons, f2.len, hl]
  · obtain ⟨i, B, v, us, e1, pre, ok, f2, n, r, kr⟩ := h
    have j := hbody i cdv A outer s ⟨B, without H ((oc (φ i).bf).ad v H)⟩ H E pre
    refine ⟨_, pS, ?_⟩
    have w : (Gx.mk (cxOf (L2N.CX U.P U.w) U.P U.w U.K U.mg U.base N qual scope f cdv A outer s H E) ⟨B, without H ((oc (φ i).bf).ad v H)⟩ (outOf (fun _ => False) ⟨B, without H ((oc (φ i).bf).ad v H)⟩) k).Wf := {
      tk := L2N.Takes.imp (L2N.takes_of (X := cxOf (L2N.CX U.P U.w) U.P U.w U.K U.mg U.base N qual scope f cdv A outer s H E) rfl rfl rfl rfl) fun C d σ H' ⟨dn, c, e, z, B', t⟩ => z.elim
      hr := fun _ => hr
      po := passes_of (X := cxOf (L2N.CX U.P U.w) U.P U.w U.K U.mg U.base N qual scope f cdv A outer s H E) rfl
      nd := S.nd
      bok := without_ok ok fun a m => (n a m).1 }
    subst e1
    refine (j.run w (L2.start N (v :: us)) B H (ownSta ok f2 n r)).mono ⟨fun σ' H' z => z.elim, fun u H' ⟨B', t, v', st, af, o, q⟩ => ?_, fun _ _ z => z.elim, fun _ _ z => z.elim⟩
    have ev := hself i t _ _ _ _ _ _ af r o.at_
    subst ev
    refine kr u B' H' t af (stpX_of st) (fun a m => ⟨o.nb a m, o.th a m, ?_⟩) o.at_ q
    by_cases z : a ∈ (oc (φ i).bf).ad v' H
    · exact .inl z
    · have : without H ((oc (φ i).bf).ad v' H) a = none := o.nh a m
      exact .inr (by rwa [without_out z] at this)
section
variable {b : Base} {Γ : Gm} {σ : L2.St} {B B' : Bs} {H H' : Hp}
theorem Sta.chgX {i : Nat} {c c' : Oc} {v : V} (s : Sta b Γ σ B H) (h : Γ[i]? = some (some (.ow c))) (e : σ[i]? = some (some v)) (t : StpX (· ∈ c.ad v H) B H B' H') (n : ∀ a ∈ c'.ad v H', B' a = none ∧ Hard (H' a) ∧ (a ∈ c.ad v H ∨ H a = none)) (r : c'.r B' H' v) :
    Sta b (Γ.set i (some (.ow c'))) σ B' H' := by
  obtain ⟨v', e2, o⟩ := s.env.ow i c h
  have ev : v' = v := by rw [e] at e2; simpa using e2.symm
  subst ev
  have out : ∀ (j : Nat) (d : Oc) (w : V), i ≠ j → Γ[j]? = some (some (.ow d)) → σ[j]? = some (some w) → ∀ a ∈ d.ad w H, a ∉ c.ad v' H := fun j d w ne z q a m m2 => ne (s.env.dis i j c d v' w a h z e q m2 m)
  have ag : ∀ (j : Nat) (d : Oc) (w : V), i ≠ j → Γ[j]? = some (some (.ow d)) → σ[j]? = some (some w) → Own b d w B H → ∀ a ∈ d.ad w H, H' a = H a := fun j d w ne z q k a m => by
    obtain ⟨u, hu, _⟩ := k.th a m
    rw [hu]
    exact t.keep a u (out j d w ne z q a m) hu fun φ z => by rw [k.nb a m] at z; cases z
  have nbn : ∀ a ∈ c.ad v' H, b.H a = none := fun a m => o.nh a m
  refine ⟨⟨s.st.le.trans t.le, t.ok, fun a u hu iv => ?_, fun a hu => ?_, fun a hb k hk => ?_⟩, ⟨by rw [List.length_set]; exact s.env.len, fun j r' hj => ?_, fun j d hj => ?_, fun j m d d' v1 v2 q h1 h2 h3 h4 h5 h6 => ?_⟩⟩
  · have na : a ∉ c.ad v' H := fun m => by rw [nbn a m] at hu; cases hu
    refine t.keep a u na (s.st.keep a u hu iv) fun φ z => ?_
    cases e3 : b.B a with
    | none =>
      rcases s.st.new a e3 _ z with q | ⟨vs, _, q⟩
      · rw [q] at hu; cases hu
      · cases q
    | some k =>
      have := s.st.le a k e3
      rw [z] at this
      cases this
      exact iv φ e3
  · have na : a ∉ c.ad v' H := fun m => hu (nbn a m)
    exact t.there a na (s.st.there a hu)
  · by_cases na : a ∈ c.ad v' H
    · exact .inl (nbn a na)
    · cases e3 : B a with
      | some k2 =>
        have := t.le a k2 e3
        rw [hk] at this
        cases this
        exact s.st.new a hb k e3
      | none =>
        rcases t.new a na e3 k hk with q | ⟨vs, q, q2⟩
        · exact .inl (s.st.bnone q)
        · cases e4 : b.H a with
          | none => exact .inl rfl
          | some u =>
            have := s.st.keep a u e4 fun φ z => by rw [hb] at z; cases z
            rw [q] at this
            cases this
            exact .inr ⟨vs, rfl, q2⟩
  · rcases set_get hj with ⟨q, z⟩ | ⟨q, z⟩
    · cases z
    · obtain ⟨w, e3, k⟩ := s.env.sh j r' z
      exact ⟨w, e3, r'.mono _ _ _ t.le k⟩
  · rcases set_get hj with ⟨q, z⟩ | ⟨q, z⟩
    · cases z; subst q
      refine ⟨v', e, fun a m => (n a m).1, fun a m => ?_, fun a m => (n a m).2.1, r⟩
      rcases (n a m).2.2 with z | z
      · exact nbn a z
      · exact s.st.bnone z
    · obtain ⟨w, e3, k⟩ := s.env.ow j d z
      have g := ag j d w q z e3 k
      have ea := d.ast H H' w g
      refine ⟨w, e3, fun a m => ?_, fun a m => k.nh a (by rw [← ea]; exact m), fun a m => ?_, d.rst _ _ _ _ g (d.mono _ _ _ _ t.le k.at_)⟩
      · rw [ea] at m
        cases hk : B' a with
        | none => rfl
        | some kk => exact ((k.th a m).no (t.new a (out j d w q z e3 a m) (k.nb a m) kk hk)).elim
      · rw [ea] at m
        rw [g a m]; exact k.th a m
  · have other : ∀ (j : Nat) (d : Oc) (v1 : V), i ≠ j → Γ[j]? = some (some (.ow d)) → σ[j]? = some (some v1) → q ∈ c'.ad v' H' → q ∈ d.ad v1 H' → False := fun j d v1 ne z e3 m1 m2 => by
      obtain ⟨w, e4, k⟩ := s.env.ow j d z
      rw [e3] at e4; cases e4
      have g := ag j d v1 ne z e3 k
      rw [d.ast H H' v1 g] at m2
      rcases (n q m1).2.2 with y | y
      · exact out j d v1 ne z e3 q m2 y
      · exact (k.th q m2).ne y
    rcases set_get h1 with ⟨q1, z1⟩ | ⟨q1, z1⟩
    · rcases set_get h2 with ⟨q2, z2⟩ | ⟨q2, z2⟩
      · exact q1.symm.trans q2
      · cases z1; subst q1
        rw [e] at h3; cases h3
        exact (other m d' v2 q2 z2 h4 h5 h6).elim
    · rcases set_get h2 with ⟨q2, z2⟩ | ⟨q2, z2⟩
      · cases z2; subst q2
        rw [e] at h4; cases h4
        exact (other j d v1 q1 z1 h3 h6 h5).elim
      · obtain ⟨w1, e3, k1⟩ := s.env.ow j d z1
        obtain ⟨w2, e4, k2⟩ := s.env.ow m d' z2
        rw [h3] at e3; cases e3
        rw [h4] at e4; cases e4
        rw [d.ast H _ v1 (ag j d v1 q1 z1 h3 k1)] at h5
        rw [d'.ast H _ v2 (ag m d' v2 q2 z2 h4 k2)] at h6
        exact s.env.dis j m d d' v1 v2 q z1 z2 h3 h4 h5 h6
/-- a call with an own thing -/
theorem callO_run {τ : Type} {oc : τ → Oc} {ι : Type} {φ : ι → CsO τ} (j : ι) {i : Nat} {v : V} {us : List V} {Q : VK} {E : XK} (s : Sta b Γ σ B H) (h : Γ[i]? = some (some (.ow (oc (φ j).bf)))) (e : σ[i]? = some (some v)) (pre : (φ j).pre) (f : F2 B us (φ j).as)
    (k : ∀ u B' H' t, (φ j).af t → Le B B' → Sta b (Γ.set i (some (.ow (oc t)))) σ B' H' → (φ j).rs.r B' u → Q u H') : spO oc φ (v :: us) H Q E := by
  obtain ⟨v', e2, o⟩ := s.env.ow i _ h
  have ev : v' = v := by rw [e] at e2; simpa using e2.symm
  subst ev
  exact ⟨j, B, v', us, rfl, pre, s.st.ok, f, fun a m => ⟨o.nb a m, o.th a m⟩, o.at_, fun u B' H' t af st n r q => k u B' H' t af st.le (s.chgX h e st n r) q⟩
end
section
variable {g : Gx} {Γ : Gm} {P : Pr} {e : Expr} {pos : Pos} {rest : List Stmt} {b : Base} {R : Pr}
theorem s_retS {τ : Type} {oc : τ → Oc} {af : τ → Prop} (i : Nat) (t : τ) (h : JE g e Γ P) (ht : af t) (k : ∀ B v, P.r B v → R.r B v) (hi : Γ[i]? = some (some (.ow (oc t))) := by rfl) : JS g (.Return (some e) pos :: rest) Γ (retS g.b oc af R) :=
  js_cons fun w σ B H s => of1 (ps_ret pE) ((h.run w σ B H s).mono fun u H' ⟨B', a, p⟩ => by
    obtain ⟨v, e2, o⟩ := a.sta.env.ow i _ hi
    exact ⟨B', t, v, a.sta.st, ht, o, k _ _ p⟩)
end
end G
set_option Elab.async false
set_option linter.all false
set_option maxRecDepth 100000
set_option maxHeartbeats 4000000
namespace G
open PySem PySem.Spec PySem.W PyProof.Rows L2
/-! ### a list beside an empty one; a sign not in a text -/
def rNil (K : PySem.W.Frag) (neg : Bool) : R2 := fun x y H Q => ∃ a b xs, x = .ref a ∧ y = .ref b ∧ SqL K H a xs ∧ SqL K H b [] ∧ Q (.bl (if neg then !decide (xs = []) else decide (xs = []))) H
theorem op_eqNil {X : Cx} (hu : X.A.units + 64 < cLine) : OpR X (compareOp .Eq) (rNil X.K false) := by
  intro pins s σ H x y v u Q I rx ry h
  obtain ⟨a, b, xs, rfl, rfl, ha, hb, q⟩ := h
  cases rx
  cases ry
  obtain ⟨its, r, p, z⟩ := I.list ha
  obtain ⟨its2, r2, p2, z2⟩ := I.list hb
  have l1 := r.length
  have l2 := r2.length
  cases xs with
  | nil =>
    exact op_eqD hu pins s σ H (.ref a) (.ref b) _ _ Q I rfl rfl ⟨.list [], .list [], .lst ha .nil, .lst hb .nil, rfl, rfl, q⟩
  | cons x xs =>
    exact (SeqAt.RcAt.lists_lengths p.isList p2.isList (by rw [List.size_toArray, List.size_toArray, ← l1, ← l2]; rfl) (by omega)) _ _ _ _ ⟨.bl _, H, I, rfl, by simpa using q⟩
theorem op_neNil {X : Cx} (hu : X.A.units + 64 < cLine) : OpR X (compareOp .NotEq) (rNil X.K true) := by
  intro pins s σ H x y v u Q I rx ry h
  obtain ⟨a, b, xs, rfl, rfl, ha, hb, q⟩ := h
  cases rx
  cases ry
  obtain ⟨its, r, p, z⟩ := I.list ha
  obtain ⟨its2, r2, p2, z2⟩ := I.list hb
  have l1 := r.length
  have l2 := r2.length
  cases xs with
  | nil =>
    exact op_neD hu pins s σ H (.ref a) (.ref b) _ _ Q I rfl rfl ⟨.list [], .list [], .lst ha .nil, .lst hb .nil, rfl, rfl, q⟩
  | cons x xs =>
    exact (SeqAt.RcNeAt.lists_lengths p.isList p2.isList (by rw [List.size_toArray, List.size_toArray, ← l1, ← l2]; rfl) (by omega)) _ _ _ _ ⟨.bl _, H, I, rfl, by simpa using q⟩
section
variable {g : Gx} {Γ : Gm} {P Q R : Pr} {e e1 e2 : Expr} {pos p2 : Pos} {rs : List Pr}
theorem o_nil {X : Cx} (neg : Bool) : Op2 X (rNil X.K neg) (rLs X.K rs) (rLs X.K []) (rB (if neg then !decide (rs = []) else decide (rs = []))) := fun B H v u K k ⟨p, vs, e, a, f⟩ ⟨p2, vs2, e2, a2, f2⟩ c => by
  have z : vs2 = [] := by
    cases vs2 with
    | nil => rfl
    | cons _ _ => exact f2.elim
  subst z
  have w : decide (vs = []) = decide (rs = []) := by
    apply decide_eq_decide.mpr
    have := f.len
    rw [← List.length_eq_zero_iff, ← List.length_eq_zero_iff, this]
  exact ⟨p, p2, vs, e, e2, a.sq k, a2.sq k, by rw [w]; exact c _ B H (Stp.refl k) rfl⟩
theorem t_neNil (h1 : JE g e1 Γ (rLs g.X.K rs)) (h2 : JE g e2 Γ (rLs g.X.K [])) (hcm : g.X.calm = true := by rfl) (hm : behindInMarks .NotEq e2 = false := by rfl) : JT g (.Compare e1 [.NotEq] [e2] pos) Γ (!decide (rs = [])) :=
  t_cmpW (fun w => op_neNil (by have := w.u65 hcm; omega)) (o_nil true) h1 h2 hm
theorem t_eqNil (h1 : JE g e1 Γ (rLs g.X.K rs)) (h2 : JE g e2 Γ (rLs g.X.K [])) (hcm : g.X.calm = true := by rfl) (hm : behindInMarks .Eq e2 = false := by rfl) : JT g (.Compare e1 [.Eq] [e2] pos) Γ (decide (rs = [])) :=
  t_cmpW (fun w => op_eqNil (by have := w.u65 hcm; omega)) (o_nil false) h1 h2 hm
theorem t_notInSign {c : Nat} {z : Str} (h1 : JE g e1 Γ (rS ⟨#[c]⟩)) (h2 : JE g e2 Γ (rS z)) (hm : behindInMarks .NotIn e2 = false := by rfl) : JT g (.Compare e1 [.NotIn] [e2] pos) Γ (!decide (c ∈ z.cps.toList)) :=
  x_cmpT op_notIn_sign (fun B H v u K k p q d => ⟨c, z, p, q, d _ B H (Stp.refl k) rfl⟩) h1 h2 hm
/-! ### join -/
theorem x_join {o : Expr} {a : Str} {ys : List Str} {apos cpos : Pos} (h : JE g o Γ (rS a)) (h1 : JE g e1 Γ (rLs g.X.K (ys.map rS))) (hz : (ys.map (·.length)).sum + ys.length * a.length ≤ 16777216)
    (hbase : attributeBase o "join" g.X.env (eval o g.X.env) = eval o g.X.env := by rfl) (hline : (apos.endLine == cpos.line) = true := by rfl) (hs : starEach [e1] g.X.env = (false, eval e1 g.X.env) :: starEach [] g.X.env := by rfl) :
    JE g (.Call (.Attribute o "join" apos) [e1] [] cpos) Γ (rS (PySem.Txt.join a ys)) :=
  ⟨fun w σ B H s => ofE (pe_join pE pE hs hbase hline) ((h.run w σ B H s).mono fun v H1 ⟨B1, a1, p1⟩ => ⟨⟨a, p1⟩, (h1.run w σ B1 H1 a1.sta).mono fun u H2 ⟨B2, a2, p, vs, e2, q, f⟩ => by
    have f := f.strs
    subst e2 f
    exact ⟨a, p, ys, p1, rfl, .inl (q.sq a2.sta.st.ok), hz, B2, a1.trans a2, rfl⟩⟩)⟩
end
end G
set_option Elab.async false
set_option linter.all false
set_option maxRecDepth 100000
set_option maxHeartbeats 2000000
namespace G
open PySem PySem.W PyProof.Rows
/-! ### a term's flat form is a term -/
theorem Fm.tms_map : ∀ fs : List Fm, Fm.tms fs = fs.map Fm.tm
  | [] => by rw [Fm.tms]; rfl
  | p :: ps => by rw [Fm.tms, Fm.tms_map ps]; rfl
mutual
theorem Fm.tm_deep : ∀ f : Fm, f.tm.deep = f.deep
  | .lf s => by rw [Fm.tm, Tm.deep, Fm.deep]
  | .nd n ps => by rw [Fm.tm, Tm.deep, Fm.deep, Fm.tms_deep ps]
theorem Fm.tms_deep : ∀ fs : List Fm, Tm.deeps (Fm.tms fs) = Fm.deeps fs
  | [] => by rw [Fm.tms, Tm.deeps, Fm.deeps]
  | p :: ps => by rw [Fm.tms, Tm.deeps, Fm.deeps, Fm.tm_deep p, Fm.tms_deep ps]
end
mutual
theorem Fm.tm_wt : ∀ f : Fm, f.tm.wt = f.wt
  | .lf s => by rw [Fm.tm, Tm.wt, Fm.wt]
  | .nd n ps => by rw [Fm.tm, Tm.wt, Fm.wt, Fm.tms_wt ps]
theorem Fm.tms_wt : ∀ fs : List Fm, Tm.wts (Fm.tms fs) = Fm.wts fs
  | [] => by rw [Fm.tms, Tm.wts, Fm.wts]
  | p :: ps => by rw [Fm.tms, Tm.wts, Fm.wts, Fm.tm_wt p, Fm.tms_wt ps]
end
mutual
theorem Fm.tm_txt : ∀ f : Fm, f.tm.txt = f.txt
  | .lf s => by rw [Fm.tm, Tm.txt, Fm.txt]
  | .nd n ps => by rw [Fm.tm, Tm.txt, Fm.txt, Fm.tms_txt ps]
theorem Fm.tms_txt : ∀ fs : List Fm, Tm.txts (Fm.tms fs) = Fm.txts fs
  | [] => by rw [Fm.tms, Tm.txts, Fm.txts]
  | p :: ps => by rw [Fm.tms, Tm.txts, Fm.txts, Fm.tm_txt p, Fm.tms_txt ps]
end
section
variable {fx : List (Str × Nat)} {sm : List (Str × Str)}
theorem Fm.tm_ok_nd {n : Str} {ps : List Fm} : (Fm.nd n ps).tm.ok fx sm = true ↔ hasParts fx sm n ps.length = true ∧ ∀ p ∈ ps, p.tm.ok fx sm = true := by
  rw [Fm.tm, Tm.ok, Bool.and_eq_true, Tm.oks_map, Fm.tms_map, List.length_map, List.map_map, List.all_map, List.all_eq_true]
  exact Iff.rfl
theorem Tm.flat_ok (hn : ∀ s, fx.lookup s = some 0 → s ≠ ("" : Str)) (ho : ∀ n o, sm.lookup n = some o → o = ("" : Str) ∨ fx.lookup o = some 0) : ∀ t : Tm, t.ok fx sm = true → (t.flat sm).tm.ok fx sm = true := by
  refine Tm.ind (fun s h => ?_) (fun t n ps ih h => ?_)
  · rw [Tm.flat, Fm.tm]; exact h
  · have gd := fun p => Tm.flat_gd hn (fx := fx) (sm := sm) p
    rw [Tm.ok, Bool.and_eq_true, Tm.oks_map, List.all_map, List.all_eq_true] at h
    obtain ⟨h1, h2⟩ := h
    have hp : ∀ p ∈ Tm.flats sm ps, p.tm.ok fx sm = true ∧ p.gd = true := fun p hp => by
      rw [Tm.flats_map] at hp
      obtain ⟨q, hq, e⟩ := List.mem_map.mp hp
      rw [← e]
      exact ⟨ih q hq (h2 q hq), gd q (h2 q hq)⟩
    rw [Tm.flat]
    cases e : sm.lookup n with
    | none =>
      show (Fm.nd n (Tm.flats sm ps)).tm.ok fx sm = true
      refine Fm.tm_ok_nd.mpr ⟨?_, fun p q => (hp p q).1⟩
      rw [Tm.flats_map, List.length_map]; exact h1
    | some o =>
      show (mkSum n o ((Tm.flats sm ps).flatMap (under n o))).tm.ok fx sm = true
      have hx : ∀ x ∈ (Tm.flats sm ps).flatMap (under n o), x.tm.ok fx sm = true := fun x hx => by
        obtain ⟨q, hq, hx⟩ := List.mem_flatMap.mp hx
        have qo := (hp q hq).1
        cases q with
        | lf s =>
          rw [under] at hx
          split at hx
          · cases hx
          · rw [List.mem_singleton.mp hx]; exact qo
        | nd m qs =>
          rw [under] at hx
          split at hx
          · exact (Fm.tm_ok_nd.mp qo).2 x hx
          · rw [List.mem_singleton.mp hx]; exact qo
      have he : (Tm.flats sm ps).flatMap (under n o) = [] → o ≠ ("" : Str) := fun hx ho => by
        subst ho
        cases ps with
        | nil =>
          unfold hasParts at h1
          rw [e] at h1
          simp at h1
        | cons p ps =>
          rw [Tm.flats, List.flatMap_cons, List.append_eq_nil_iff] at hx
          exact under_some (hp _ (by rw [Tm.flats]; exact List.mem_cons_self ..)).2 hx.1
      generalize (Tm.flats sm ps).flatMap (under n o) = xs at hx he ⊢
      match xs, hx, he with
      | [], _, he =>
        rw [mkSum, Fm.tm, Tm.ok, Bool.or_eq_true, decide_eq_true_iff]
        exact .inr ((ho n o e).resolve_left (he rfl))
      | [x], hx, _ => rw [mkSum]; exact hx x (List.mem_singleton.mpr rfl)
      | x :: y :: zs, hx, _ =>
        rw [mkSum]
        have pm := sortF_perm (x :: y :: zs)
        refine Fm.tm_ok_nd.mpr ⟨?_, fun p hp => hx p (pm.mem_iff.mp hp)⟩
        unfold hasParts
        rw [e, pm.length_eq]
        simp
/-- other noughts of the same sums -/
theorem lookup_names : ∀ {a c : List (Str × Str)}, a.map (·.1) = c.map (·.1) → ∀ n, (a.lookup n).isSome = (c.lookup n).isSome
  | [], [], _, _ => rfl
  | [], _ :: _, h, _ => by simp at h
  | _ :: _, [], h, _ => by simp at h
  | (x, y) :: a, (z, w) :: c, h, n => by
    rw [List.map_cons, List.map_cons, List.cons.injEq] at h
    have h1 : x = z := h.1
    subst h1
    rw [List.lookup_cons, List.lookup_cons]
    cases (n == x) with
    | true => rfl
    | false => exact lookup_names h.2 n
theorem hasParts_names {a c : List (Str × Str)} (h : a.map (·.1) = c.map (·.1)) (n : Str) (k : Nat) : hasParts fx a n k = hasParts fx c n k := by
  have := lookup_names h n
  unfold hasParts
  cases e : a.lookup n <;> cases e2 : c.lookup n <;> rw [e, e2] at this <;> first | rfl | cases this
theorem Tm.ok_names {a c : List (Str × Str)} (h : a.map (·.1) = c.map (·.1)) : ∀ t : Tm, t.ok fx a = t.ok fx c := by
  refine Tm.ind (fun s => by rw [Tm.ok, Tm.ok]) (fun t n ps ih => ?_)
  rw [Tm.ok, Tm.ok, hasParts_names h, Tm.oks_map, Tm.oks_map, List.map_congr_left ih]
end
end G
set_option Elab.async false
set_option linter.all false
set_option maxRecDepth 100000
set_option maxHeartbeats 4000000
namespace G
open PySem PySem.Spec PySem.W PyProof.Rows L2
/-! ### a reader of texts: its own instance, its list of lists -/
abbrev Stk : Type := List (Str × List Tm)
structure RdS where
  x : Addr
  dx : Addr
  l : Addr
  as : List Addr
  at_ : Nat
  st : Stk
def RdS.ads (t : RdS) : List Addr := t.x :: t.dx :: t.l :: t.as
def rRow (K : PySem.W.Frag) (e : Str × List Tm) : List Pr := rS e.1 :: e.2.map (rM K)
def StOk (K : PySem.W.Frag) (B : Bs) (H : Hp) : List Addr → Stk → Prop
  | [], [] => True
  | a :: as, e :: st => (∃ vs, H a = some (.lst vs) ∧ F2 B vs (rRow K e)) ∧ StOk K B H as st
  | _, _ => False
theorem StOk.mono {K : PySem.W.Frag} {B B' : Bs} {H : Hp} (l : Le B B') : ∀ {as : List Addr} {st : Stk}, StOk K B H as st → StOk K B' H as st
  | [], [], _ => trivial
  | _ :: _, _ :: _, ⟨⟨vs, h, f⟩, k⟩ => ⟨⟨vs, h, f.mono l⟩, StOk.mono l k⟩
theorem StOk.agree {K : PySem.W.Frag} {B : Bs} {H H' : Hp} : ∀ {as : List Addr} {st : Stk}, (∀ a ∈ as, H' a = H a) → StOk K B H as st → StOk K B H' as st
  | [], [], _, _ => trivial
  | a :: _, _ :: _, g, ⟨⟨vs, h, f⟩, k⟩ => ⟨⟨vs, by rw [g a (List.mem_cons_self ..)]; exact h, f⟩, StOk.agree (fun b m => g b (List.mem_cons_of_mem _ m)) k⟩
theorem StOk.len {K : PySem.W.Frag} {B : Bs} {H : Hp} : ∀ {as : List Addr} {st : Stk}, StOk K B H as st → as.length = st.length
  | [], [], _ => rfl
  | _ :: _, _ :: _, ⟨_, k⟩ => by rw [List.length_cons, List.length_cons, StOk.len k]
theorem StOk.lst {K : PySem.W.Frag} {B : Bs} {H : Hp} : ∀ {as : List Addr} {st : Stk}, StOk K B H as st → ∀ a ∈ as, ∃ vs, H a = some (.lst vs)
  | [], [], _, _, m => nomatch m
  | a :: _, _ :: _, ⟨⟨vs, h, _⟩, k⟩, b, m => by
    rcases List.mem_cons.mp m with rfl | m
    · exact ⟨vs, h⟩
    · exact StOk.lst k b m
def rdF (z : Str) (n : Nat) (l : Addr) : List (Str × V) := [("text", .str z), ("at", .int n), ("lists", .ref l)]
def oRd (K : PySem.W.Frag) (C : Addr) (z : Str) (t : RdS) : Oc where
  ad := fun _ _ => t.ads
  r := fun B H v => v = .ref t.x ∧ t.ads.Nodup ∧ H t.dx = some (.own t.x) ∧ H t.x = some (.ins C t.dx (rdF z t.at_ t.l)) ∧ H t.l = some (.lst (t.as.reverse.map V.ref)) ∧ StOk K B H t.as t.st
  mono := fun _ _ _ _ l ⟨e, n, h1, h2, h3, k⟩ => ⟨e, n, h1, h2, h3, k.mono l⟩
  ast := fun _ _ _ _ => rfl
  rst := fun B H H' v g ⟨e, n, h1, h2, h3, k⟩ => ⟨e, n, by rw [g _ (by simp [RdS.ads])]; exact h1, by rw [g _ (by simp [RdS.ads])]; exact h2, by rw [g _ (by simp [RdS.ads])]; exact h3, k.agree fun a m => g a (by simp [RdS.ads, m])⟩
/-- as it is lent -/
def rRd (K : PySem.W.Frag) (C : Addr) (z : Str) (n : Nat) (st : Stk) : Pr := ⟨fun B v => ∃ x dx l, v = .ref x ∧ B x = some (.ex (.ins C dx (rdF z n l))) ∧ (rLs K (st.reverse.map fun e => rLs K (rRow K e))).r B (.ref l),
  fun _ _ _ l ⟨x, dx, q, e, h, k⟩ => ⟨x, dx, q, e, l _ _ h, (rLs K _).mono _ _ _ l k⟩⟩
theorem lend_rows {K : PySem.W.Frag} {B B' : Bs} {H : Hp} (l : Le B B') : ∀ {as : List Addr} {st : Stk}, StOk K B H as st → (∀ a ∈ as, ∀ o, H a = some o → B' a = some (.ex o)) → F2 B' (as.map V.ref) (st.map fun e => rLs K (rRow K e))
  | [], [], _, _ => trivial
  | a :: _, _ :: _, ⟨⟨vs, h, f⟩, k⟩, g => ⟨⟨a, vs, rfl, g a (List.mem_cons_self ..) _ h, f.mono l⟩, lend_rows l k fun b m => g b (List.mem_cons_of_mem _ m)⟩
theorem F2.rev {B : Bs} : ∀ {vs : List V} {rs : List Pr}, F2 B vs rs → F2 B vs.reverse rs.reverse
  | [], [], _ => trivial
  | v :: vs, r :: rs, h => by
    rw [List.reverse_cons, List.reverse_cons]
    exact (F2.rev h.2).append ⟨h.1, trivial⟩
  | [], _ :: _, h => h.elim
  | _ :: _, [], h => h.elim
theorem lend_rd {K : PySem.W.Frag} {C : Addr} {z : Str} {t : RdS} : ∀ B H v, (∀ a ∈ (oRd K C z t).ad v H, B a = none) → (oRd K C z t).r B H v → (rRd K C z t.at_ t.st).r (putH B H ((oRd K C z t).ad v H)) v := fun B H v nb ⟨e, n, h1, h2, h3, k⟩ => by
  refine ⟨t.x, t.dx, t.l, e, putH_in (by simp [oRd, RdS.ads]) h2, t.l, _, rfl, putH_in (by simp [oRd, RdS.ads]) h3, ?_⟩
  rw [List.map_reverse, List.map_reverse]
  exact (lend_rows (Le.putH nb) k fun a m o ho => putH_in (by simp [oRd, RdS.ads, m]) ho).rev
structure RdC (U : Uv) (C : Addr) : Prop where
  cls : Cls U.K C
  n1 : NoAttr U.K C "text"
  n2 : NoAttr U.K C "at"
  n3 : NoAttr U.K C "lists"
section
variable {K : PySem.W.Frag} {C : Addr} {z : Str} {n : Nat} {st : Stk}
theorem rd_ins {m : Str} (h : ("text" : Str) ≠ m) (h2 : ("at" : Str) ≠ m) (h3 : ("lists" : Str) ≠ m) (l : Addr) : (rdF z n l).lookup m = none := by
  unfold rdF
  rw [List.lookup_cons, beq_eq_false_iff_ne.mpr h.symm]
  show List.lookup m [_, _] = none
  rw [List.lookup_cons, beq_eq_false_iff_ne.mpr h2.symm]
  show List.lookup m [_] = none
  rw [List.lookup_cons, beq_eq_false_iff_ne.mpr h3.symm]
  rfl
theorem rd_isIns {m : Str} (h : ("text" : Str) ≠ m) (h2 : ("at" : Str) ≠ m) (h3 : ("lists" : Str) ≠ m) : IsIns C m (rRd K C z n st) := fun B H v k ⟨x, dx, l, e, h1, _⟩ => ⟨x, dx, _, e, (k.ex _ _ h1).hard rfl, rd_ins h h2 h3 l⟩
theorem rd_text (hC : Cls K C) (hn : NoAttr K C "text") : HasF K "text" (rRd K C z n st) (rS z) := fun B H v k ⟨x, dx, l, e, h1, _⟩ => ⟨x, C, dx, _, .str z, e, (k.ex _ _ h1).hard rfl, hC, hn, rfl, rfl⟩
theorem rd_at (hC : Cls K C) (hn : NoAttr K C "at") : HasF K "at" (rRd K C z n st) (G.rI (n : Int)) := fun B H v k ⟨x, dx, l, e, h1, _⟩ => ⟨x, C, dx, _, .int n, e, (k.ex _ _ h1).hard rfl, hC, hn, rfl, rfl⟩
theorem rd_lists (hC : Cls K C) (hn : NoAttr K C "lists") : HasF K "lists" (rRd K C z n st) (rLs K (st.reverse.map fun e => rLs K (rRow K e))) := fun B H v k ⟨x, dx, l, e, h1, h2⟩ => ⟨x, C, dx, _, .ref l, e, (k.ex _ _ h1).hard rfl, hC, hn, rfl, h2⟩
end
section
variable {B B1 B2 : Bs} {H H1 H2 : Hp} {F : Addr → Prop}
theorem StpX.chg {p : Addr} {u : HO} (t : Stp B H B1 H1) (hp : F p) (hb : B1 p = none) : StpX F B H B1 (upd H1 p u) where
  le := t.le
  ok := {
    ex := fun a w e => by
      have ne : a ≠ p := fun q => by rw [q, hb] at e; cases e
      have z := t.ok.ex a w e
      unfold Rx at *
      rw [upd_ne ne]; exact z
    iv := fun a φ e => by
      have ne : a ≠ p := fun q => by rw [q, hb] at e; cases e
      rw [upd_ne ne]; exact t.ok.iv a φ e }
  keep := fun a o n e q => by
    have ne : a ≠ p := fun z => n (z ▸ hp)
    rw [upd_ne ne]; exact t.keep a o e q
  there := fun a n e => by
    have ne : a ≠ p := fun z => n (z ▸ hp)
    rw [upd_ne ne]; exact t.there a e
  new := fun a _ h k e => t.new a h k e
end
section
variable {U : Uv} {g : Gx} {Γ : Gm} {P Q R : Pr} {e e1 e2 : Expr} {pos p2 apos : Pos} {D : En} {rest : List Stmt} {C : Addr} {z : Str} {t : RdS}
theorem rd_nd (h : t.ads.Nodup) : t.x ≠ t.dx ∧ t.x ≠ t.l ∧ t.x ∉ t.as ∧ t.dx ≠ t.l ∧ t.dx ∉ t.as ∧ t.l ∉ t.as ∧ t.as.Nodup := by
  unfold RdS.ads at h
  simp only [List.nodup_cons, List.mem_cons, not_or] at h
  exact ⟨h.1.1, h.1.2.1, h.1.2.2, h.2.1.1, h.2.1.2, h.2.2.1, h.2.2.2⟩
theorem atI_last {α : Type} (xs : List α) (x : α) : atI (xs ++ [x]) (-1) = some x := by
  have : ixN (xs ++ [x]).length (-1) = some xs.length := by
    unfold ixN
    rw [List.length_append, List.length_singleton, if_neg (by omega), if_pos (by omega)]
    congr 1
    omega
  unfold atI
  rw [this]
  show (xs ++ [x])[xs.length]? = some x
  rw [List.getElem?_append_right (Nat.le_refl _), Nat.sub_self]; rfl
/-- self.at = e -/
theorem s_rdAt (i : Nat) {n : Nat} {self : Str} {p pos' : Pos} (h : JE g e Γ (G.rI (n : Int))) (hc : Cls g.X.K C) (hn : NoAttr g.X.K C "at") (k : JS g rest (Γ.set i (some (.ow (oRd g.X.K C z { t with at_ := n })))) D) (hi : Γ[i]? = some (some (.ow (oRd g.X.K C z t))) := by rfl) (hN : g.X.N[i]? = some self := by rfl) (hv : Vis g.X.env.scope self := by first | exact Or.inl rfl | exact Or.inr (Or.inl rfl) | exact Or.inr (Or.inr rfl))
    (hd : (self == ("__debug__" : Str)) = false := by decide) (hcd : (self == ("__classdict__" : Str)) = false := by decide) (hs : swapsWith e (some (.Attribute (.Name self p) "at" pos')) pos.line g.X.env = pure false := by rfl) :
    JS g (.Assign [.Attribute (.Name self p) "at" pos'] e pos :: rest) Γ D :=
  js_cons fun w σ B H s => of1 (ps_fld (pe_var hN hv hd hcd) pE hs) (by
    obtain ⟨v0, e, o⟩ := s.env.ow i _ hi
    refine (h.run w σ B H s).mono fun v H1 ⟨B1, a1, p1⟩ => ⟨v0, e, ?_⟩
    have p1 : v = .int n := p1
    subst p1
    have o1 := o.step a1.t
    obtain ⟨e2, nd, h1, h2, h3, f2⟩ := o1.at_
    obtain ⟨n1, n2, n3, n4, n5, n6, n7⟩ := rd_nd nd
    refine ⟨t.x, C, t.dx, _, e2, h2, hc, hn, by show 3 < 1000; decide, k.go w a1.le ?_⟩
    subst e2
    refine a1.sta.chg hi e (by simp [oRd, RdS.ads]) (fun a m => m) ⟨rfl, nd, by rw [upd_ne n1.symm]; exact h1, upd_same, by rw [upd_ne n2.symm]; exact h3, f2.agree fun a m => upd_ne fun q => n3 (q ▸ m)⟩)
/-- self.lists.append([e]) -/
theorem s_rdPush (i : Nat) {w0 : Str} {self : Str} {p p3 apos cpos : Pos} (h : JO g e Γ (oL [rS w0])) (hc : Cls g.X.K C) (hn : NoAttr g.X.K C "lists") (hz : t.st.length < sizeLine) (k : ∀ a, JS g rest (Γ.set i (some (.ow (oRd g.X.K C z { t with as := a :: t.as, st := (w0, []) :: t.st })))) D) (hi : Γ[i]? = some (some (.ow (oRd g.X.K C z t))) := by rfl) (hN : g.X.N[i]? = some self := by rfl) (hv : Vis g.X.env.scope self := by first | exact Or.inl rfl | exact Or.inr (Or.inl rfl) | exact Or.inr (Or.inr rfl))
    (hd : (self == ("__debug__" : Str)) = false := by decide) (hcd : (self == ("__classdict__" : Str)) = false := by decide) (hline : (apos.endLine == cpos.line) = true := by rfl)
    (hb : attributeBase (.Name self p) "lists" g.X.env (eval (.Name self p) g.X.env) = eval (.Name self p) g.X.env := by rfl) (hb2 : attributeBase (.Attribute (.Name self p) "lists" p3) "append" g.X.env (eval (.Attribute (.Name self p) "lists" p3) g.X.env) = eval (.Attribute (.Name self p) "lists" p3) g.X.env := by rfl)
    (hfew : ((backTo cpos (starEach [e] g.X.env)).all (fun x => !x.1) && (backToKw cpos (keywordEach [] g.X.env)).all (fun x => x.1.isSome) && decide ([e].length + ([] : List Keyword).length + (if ([] : List Keyword).isEmpty then 0 else 1) < 30)) = true := by rfl)
    (he : starEach [e] g.X.env = (false, eval e g.X.env) :: starEach [] g.X.env := by rfl) (hs : swapsWith (.Call (.Attribute (.Attribute (.Name self p) "lists" p3) "append" apos) [e] [] cpos) none pos.line g.X.env = pure false := by rfl) :
    JS g (.Expr (.Call (.Attribute (.Attribute (.Name self p) "lists" p3) "append" apos) [e] [] cpos) pos :: rest) Γ D :=
  js_cons fun w σ B H s => of1 (ps_expr (pe_bm PySem.F.plainAttrs_list PySem.F.slot_list_append PySem.F.type_list_append mt_append (pe_fld (pe_var hN hv hd hcd) hb) (pa_cons pE pa_nil he) hb2 hfew hline he rfl) hs) (by
    obtain ⟨v0, e, o⟩ := s.env.ow i _ hi
    obtain ⟨e2, nd, h1, h2, h3, f2⟩ := id o.at_
    obtain ⟨n1, n2, n3, n4, n5, n6, n7⟩ := rd_nd nd
    subst e2
    refine ⟨_, e, t.x, C, t.dx, _, .ref t.l, rfl, h2, hc, hn, rfl, .inl ⟨rfl, _, SqL.of h3⟩, (h.run w σ B H s).mono fun v H1 ⟨B1, a1, ow, fr⟩ => ?_⟩
    have o1 := o.step a1.t
    obtain ⟨_, _, g1, g2, g3, q2⟩ := o1.at_
    obtain ⟨a, vs, ev, nb, nh, ha, f⟩ := own_one ow
    subst ev
    have fa : H a = none := fr a (mem_one.mpr rfl)
    have ne : ∀ b ∈ t.ads, b ≠ a := fun b m q => (o.th b m).ne (q ▸ fa)
    refine ⟨t.l, _, .ref a, rfl, rfl, g3, by rw [List.length_map, List.length_reverse, q2.len]; exact hz, (k a).go w a1.le ?_⟩
    refine s.chgX hi e (StpX.chg a1.t (by simp [oRd, RdS.ads]) (o1.nb _ (by simp [oRd, RdS.ads]))) (fun b m => ?_) ⟨rfl, ?_, ?_, ?_, ?_, ?_⟩
    · have m : b ∈ t.x :: t.dx :: t.l :: a :: t.as := m
      by_cases q : b = a
      · subst q
        refine ⟨nb, ?_, .inr fa⟩
        rw [upd_ne (ne t.l (by simp [RdS.ads])).symm, ha]
        exact hard_lst
      · have m2 : b ∈ t.ads := by
          simp only [List.mem_cons] at m
          unfold RdS.ads
          simp only [List.mem_cons]
          rcases m with m | m | m | m | m
          · exact .inl m
          · exact .inr (.inl m)
          · exact .inr (.inr (.inl m))
          · exact absurd m q
          · exact .inr (.inr (.inr m))
        refine ⟨o1.nb b m2, ?_, .inl m2⟩
        by_cases q : b = t.l
        · subst q; rw [upd_same]; exact hard_lst
        · rw [upd_ne q]; exact o1.th b m2
    · show (t.x :: t.dx :: t.l :: a :: t.as).Nodup
      have k1 := ne t.x (by simp [RdS.ads])
      have k2 := ne t.dx (by simp [RdS.ads])
      have k3 := ne t.l (by simp [RdS.ads])
      have k4 : a ∉ t.as := fun m => ne a (by simp [RdS.ads, m]) rfl
      simp only [List.nodup_cons, List.mem_cons, not_or]
      exact ⟨⟨n1, n2, k1, n3⟩, ⟨n4, k2, n5⟩, ⟨k3, n6⟩, k4, n7⟩
    · rw [upd_ne n4]; exact g1
    · rw [upd_ne n2]; exact g2
    · show upd H1 t.l _ t.l = _
      rw [upd_same]
      simp
    · refine ⟨⟨vs, ?_, f⟩, q2.agree fun b m => upd_ne fun q => n6 (q ▸ m)⟩
      rw [upd_ne (ne t.l (by simp [RdS.ads])).symm]; exact ha)
/-- self.lists[-1].append(e) -/
theorem s_rdAdd (i : Nat) {q0 : Tm} {w0 : Str} {ps : List Tm} {st : Stk} {a0 : Addr} {as : List Addr} {self : Str} {p p3 ps1 apos cpos : Pos} {ix : Expr} (h : JE g e Γ (rM g.X.K q0)) (hix : JE g ix Γ (G.rI (-1))) (ht : t.st = (w0, ps) :: st) (hta : t.as = a0 :: as) (hc : Cls g.X.K C) (hn : NoAttr g.X.K C "lists") (hz : ps.length + 1 < sizeLine) (k : JS g rest (Γ.set i (some (.ow (oRd g.X.K C z { t with st := (w0, ps ++ [q0]) :: st })))) D) (hi : Γ[i]? = some (some (.ow (oRd g.X.K C z t))) := by rfl) (hN : g.X.N[i]? = some self := by rfl) (hv : Vis g.X.env.scope self := by first | exact Or.inl rfl | exact Or.inr (Or.inl rfl) | exact Or.inr (Or.inr rfl))
    (hd : (self == ("__debug__" : Str)) = false := by decide) (hcd : (self == ("__classdict__" : Str)) = false := by decide) (hline : (apos.endLine == cpos.line) = true := by rfl) (hsx : PlainIx ix := by exact fun _ _ => rfl)
    (hb : attributeBase (.Name self p) "lists" g.X.env (eval (.Name self p) g.X.env) = eval (.Name self p) g.X.env := by rfl) (hb2 : attributeBase (.Subscript (.Attribute (.Name self p) "lists" p3) ix ps1) "append" g.X.env (eval (.Subscript (.Attribute (.Name self p) "lists" p3) ix ps1) g.X.env) = eval (.Subscript (.Attribute (.Name self p) "lists" p3) ix ps1) g.X.env := by rfl)
    (hfew : ((backTo cpos (starEach [e] g.X.env)).all (fun x => !x.1) && (backToKw cpos (keywordEach [] g.X.env)).all (fun x => x.1.isSome) && decide ([e].length + ([] : List Keyword).length + (if ([] : List Keyword).isEmpty then 0 else 1) < 30)) = true := by rfl)
    (he : starEach [e] g.X.env = (false, eval e g.X.env) :: starEach [] g.X.env := by rfl) (hs : swapsWith (.Call (.Attribute (.Subscript (.Attribute (.Name self p) "lists" p3) ix ps1) "append" apos) [e] [] cpos) none pos.line g.X.env = pure false := by rfl) :
    JS g (.Expr (.Call (.Attribute (.Subscript (.Attribute (.Name self p) "lists" p3) ix ps1) "append" apos) [e] [] cpos) pos :: rest) Γ D :=
  js_cons fun w σ B H s => of1 (ps_expr (pe_bm PySem.F.plainAttrs_list PySem.F.slot_list_append PySem.F.type_list_append mt_append (pe_ix ix_list (pe_fld (pe_var hN hv hd hcd) hb) pE hsx) (pa_cons pE pa_nil he) hb2 hfew hline he rfl) hs) (by
    obtain ⟨v0, e, o0⟩ := s.env.ow i _ hi
    obtain ⟨e2, nd, h1, h2, h3, f2⟩ := id o0.at_
    subst e2
    refine ⟨_, e, t.x, C, t.dx, _, .ref t.l, rfl, h2, hc, hn, rfl, (hix.run w σ B H s).mono fun vi H0 ⟨B0, ax, px⟩ => ?_⟩
    have px : vi = .int (-1) := px
    subst px
    have o := o0.step ax.t
    obtain ⟨_, _, h1, h2, h3, f2⟩ := id o.at_
    obtain ⟨n1, n2, n3, n4, n5, n6, n7⟩ := rd_nd nd
    rw [ht, hta] at f2
    obtain ⟨⟨vs, ha, f⟩, f3⟩ := f2
    rw [hta] at n3 n5 n6 n7
    simp only [List.mem_cons, not_or] at n3 n5 n6
    have m0 : a0 ∈ t.ads := by simp [RdS.ads, hta]
    refine ⟨t.l, _, -1, .ref a0, rfl, rfl, SqL.of h3, ?_, .inl ⟨rfl, _, SqL.of ha⟩, (h.run w σ B0 H0 ax.sta).mono fun v H1 ⟨B1, a1, p1⟩ => ?_⟩
    · rw [hta, List.reverse_cons, List.map_append]
      exact atI_last _ _
    have o1 := o.step a1.t
    obtain ⟨_, _, g1, g2, g3, q2⟩ := o1.at_
    rw [ht, hta] at q2
    obtain ⟨⟨vs2, ha2, fx2⟩, q3⟩ := q2
    refine ⟨a0, vs2, v, rfl, rfl, ha2, by rw [fx2.len]; show ((ps.map _).length + 1 < sizeLine); rw [List.length_map]; exact hz, k.go w (ax.le.trans a1.le) ?_⟩
    refine a1.sta.chg hi e (by simp [oRd, RdS.ads, hta]) (fun a m => m) ⟨rfl, nd, by rw [upd_ne n5.1]; exact g1, by rw [upd_ne n3.1]; exact g2, by rw [upd_ne n6.1]; exact g3, ?_⟩
    show StOk _ _ _ t.as ((w0, ps ++ [q0]) :: st)
    rw [hta]
    refine ⟨⟨vs2 ++ [v], upd_same, ?_⟩, q3.agree fun b m => upd_ne fun q => (List.nodup_cons.mp n7).1 (q ▸ m)⟩
    have : rRow g.X.K (w0, ps ++ [q0]) = rRow g.X.K (w0, ps) ++ [rM g.X.K q0] := by unfold rRow; rw [List.map_append]; rfl
    rw [this]
    exact fx2.append ⟨p1, trivial⟩)
/-- y = tuple(self.lists.pop() + e) -/
theorem s_rdPop (i j : Nat) {q0 : Tm} {w0 : Str} {ps : List Tm} {st : Stk} {a0 : Addr} {as : List Addr} {self y : Str} {p p3 py pt apos cpos pc pb : Pos} (hm : g.X.mg "tuple" = none) (ht : t.st = (w0, ps) :: st) (hta : t.as = a0 :: as) (h : JO g e (Γ.set i (some (.ow (oRd g.X.K C z { t with as := as, st := st })))) (oL [rM g.X.K q0])) (hc : Cls g.X.K C) (hn : NoAttr g.X.K C "lists") (hz : ps.length + 2 ≤ sizeLine)
    (k : JS g rest ((Γ.set i (some (.ow (oRd g.X.K C z { t with as := as, st := st })))).set j (some (.sh (rM g.X.K (.nd true w0 (ps ++ [q0])))))) D) (hi : Γ[i]? = some (some (.ow (oRd g.X.K C z t))) := by rfl) (hN : g.X.N[i]? = some self := by rfl) (hv : Vis g.X.env.scope self := by first | exact Or.inl rfl | exact Or.inr (Or.inl rfl) | exact Or.inr (Or.inr rfl))
    (hNy : g.X.N[j]? = some y := by rfl) (hl : Loc g.X.env.scope y := by first | exact Or.inl rfl | exact Or.inr rfl) (hf : g.X.fn y = true ∨ g.X.env.scope.names.lookup y = some .local := by first | exact .inl rfl | exact .inr rfl)
    (hd : (self == ("__debug__" : Str)) = false := by decide) (hcd : (self == ("__classdict__" : Str)) = false := by decide) (hline : (apos.endLine == cpos.line) = true := by rfl) (hg : Gl g.X "tuple" := by rfl)
    (hb : attributeBase (.Name self p) "lists" g.X.env (eval (.Name self p) g.X.env) = eval (.Name self p) g.X.env := by rfl) (hb2 : attributeBase (.Attribute (.Name self p) "lists" p3) "pop" g.X.env (eval (.Attribute (.Name self p) "lists" p3) g.X.env) = eval (.Attribute (.Name self p) "lists" p3) g.X.env := by rfl)
    (he : starEach [.BinOp (.Call (.Attribute (.Attribute (.Name self p) "lists" p3) "pop" apos) [] [] cpos) .Add e pb] g.X.env = (false, eval (.BinOp (.Call (.Attribute (.Attribute (.Name self p) "lists" p3) "pop" apos) [] [] cpos) .Add e pb) g.X.env) :: starEach [] g.X.env := by rfl)
    (hs : swapsWith (.Call (.Name "tuple" pt) [.BinOp (.Call (.Attribute (.Attribute (.Name self p) "lists" p3) "pop" apos) [] [] cpos) .Add e pb] [] pc) (some (.Name y py)) pos.line g.X.env = pure false := by rfl) :
    JS g (.Assign [.Name y py] (.Call (.Name "tuple" pt) [.BinOp (.Call (.Attribute (.Attribute (.Name self p) "lists" p3) "pop" apos) [] [] cpos) .Add e pb] [] pc) pos :: rest) Γ D :=
  js_cons fun w σ B H s => of1 (ps_set w.nd hNy hl (pe_callTy call_tuple_of hg hm bo_tuple (pa_cons (pe_op op_cat (pe_bm0 PySem.F.plainAttrs_list PySem.F.slot_list_pop PySem.F.type_list_pop mt_pop (pe_fld (pe_var hN hv hd hcd) hb) hb2 hline) pE) pa_nil he) (by decide) (by decide) he rfl) hs hf) (by
    obtain ⟨v0, e, o⟩ := s.env.ow i _ hi
    obtain ⟨e2, nd, h1, h2, h3, f2⟩ := id o.at_
    obtain ⟨n1, n2, n3, n4, n5, n6, n7⟩ := rd_nd nd
    subst e2
    rw [ht, hta] at f2
    obtain ⟨⟨vs, ha, f⟩, f3⟩ := f2
    rw [hta] at n3 n5 n6 n7
    simp only [List.mem_cons, not_or] at n3 n5 n6
    have ml : t.l ∈ t.ads := by simp [RdS.ads]
    have m0 : a0 ∈ t.ads := by simp [RdS.ads, hta]
    refine ⟨_, e, t.x, C, t.dx, _, .ref t.l, rfl, h2, hc, hn, rfl, .inl ⟨rfl, _, SqL.of h3⟩, t.l, _, .ref a0, rfl, rfl, h3, ?_, ?_⟩
    · rw [hta]; simp
    have s1 : Sta g.b (Γ.set i (some (.ow (oRd g.X.K C z { t with as := as, st := st })))) σ B (upd H t.l (.lst (((t.as.reverse).map V.ref).dropLast))) := by
      refine s.chg hi e (by simp [oRd, RdS.ads]) (fun a m => ?_) ⟨rfl, ?_, by rw [upd_ne n4]; exact h1, by rw [upd_ne n2]; exact h2, ?_, f3.agree fun b m => upd_ne fun q => n6.2 (q ▸ m)⟩
      · have m : a ∈ t.x :: t.dx :: t.l :: as := m
        show a ∈ t.x :: t.dx :: t.l :: t.as
        rw [hta]
        simp only [List.mem_cons] at m ⊢
        rcases m with m | m | m | m
        · exact .inl m
        · exact .inr (.inl m)
        · exact .inr (.inr (.inl m))
        · exact .inr (.inr (.inr (.inr m)))
      · show (t.x :: t.dx :: t.l :: as).Nodup
        simp only [List.nodup_cons, List.mem_cons, not_or]
        exact ⟨⟨n1, n2, n3.2⟩, ⟨n4, n5.2⟩, n6.2, (List.nodup_cons.mp n7).2⟩
      · show upd H t.l _ t.l = _
        rw [upd_same, hta]
        simp
    have ha1 : upd H t.l (.lst (((t.as.reverse).map V.ref).dropLast)) a0 = some (.lst vs) := by rw [upd_ne (fun q => n6.1 q.symm)]; exact ha
    refine (h.run w σ B _ s1).mono fun v H2 ⟨B2, a2, ow, fr⟩ => ?_
    have ha2 : H2 a0 = some (.lst vs) := a2.t.keep a0 _ ha1 fun φ q => by rw [o.nb a0 m0] at q; cases q
    obtain ⟨b0, us, ev, nb, nh, hb0, fu⟩ := own_one ow
    obtain ⟨u, eu, pu⟩ := fu.one
    subst ev eu
    have f := f.mono a2.le
    refine ⟨a0, b0, vs, [u], rfl, rfl, ha2, hb0, by rw [f.len]; show (ps.map _).length + 1 + 1 ≤ sizeLine; rw [List.length_map]; omega, fun r hr => ?_⟩
    refine ⟨r, vs ++ [u], rfl, .inl ⟨SqL.of upd_same, fun l hl => ?_⟩⟩
    have a3 := a2.sta.beside (u := .lst (vs ++ [u])) hr
    have a4 := a3.sta.lay (u := .tup (vs ++ [u])) hl
    refine k.go w ((a2.le.trans a3.le).trans a4.le) (a4.sta.setS ?_)
    rw [rM_nd]
    refine ⟨l, vs ++ [u], rfl, .inl put_same, ?_⟩
    have : rS w0 :: (ps ++ [q0]).map (rM g.X.K) = rRow g.X.K (w0, ps) ++ [rM g.X.K q0] := by unfold rRow; rw [List.map_append]; rfl
    rw [this]
    exact (f.append (show F2 B2 [u] [rM g.X.K q0] from ⟨pu, trivial⟩)).mono a4.le)
end
end G
set_option Elab.async false
set_option linter.all false
set_option maxRecDepth 100000
set_option maxHeartbeats 4000000
namespace G
open PySem PySem.Spec PySem.W PyProof.Rows L2
/-! ### a new instance that stays its maker's own -/
def spOI (C : Addr) {τ : Type} (oc : τ → Oc) {ι : Type} (as : ι → List Pr) (pre : ι → Prop) (af : ι → Addr → τ → Prop) : L2.Sp := fun vs H Q E => ∃ i B H1 x dx us, pre i ∧ Ok B H1 ∧ F2 B us (as i) ∧ vs = .ref x :: us ∧ H1 x = none ∧ H1 dx = none ∧ dx ≠ x ∧ H = upd (upd H1 dx (.own x)) x (.ins C dx []) ∧
  ∀ B' H' t, af i x t → Stp B H1 B' H' → (∀ a ∈ (oc t).ad (.ref x) H', B' a = none ∧ Hard (H' a) ∧ H1 a = none) → (oc t).r B' H' (.ref x) → Q .non H'
structure MkO (U : Uv) (x : Str) (k : Nat) (ps : List Str) (C : Addr) {τ : Type} (oc : τ → Oc) {ι : Type} (as : ι → List Pr) (pre : ι → Prop) (af : ι → Addr → τ → Prop) : Prop where
  ok : ∃ f fd, U.mg x = some (.ref C) ∧ Mk U.K C f ∧ Binds U.K fd (("self" : Str) :: ps) [] ∧ FnOk U.P U.w U.K U.mg U.base (L2N.CX U.P U.w) k f fd (("self" : Str) :: ps) (spOI C oc as pre af)
def retOI {τ : Type} (b : Base) (oc : τ → Oc) (x : Addr) (af : τ → Prop) : En := { nx := fun _ _ H => ∃ B t, Stp b.B b.H B H ∧ af t ∧ Own b (oc t) (.ref x) B H, rt := fun _ _ => False }
theorem initO_ok {U : Uv} {x qual : Str} {params : Arguments} {body : List Stmt} {scope : Scope} {C f : Addr} {fd : FuncData} {N ps : List Str} {k : Nat} {τ : Type} {oc : τ → Oc} {ι : Type} {as : ι → List Pr} {pre : ι → Prop} {af : ι → Addr → τ → Prop} (hx : U.mg x = some (.ref C)) (hm : Mk U.K C f) (F : FunD U.K "__init__" qual params body scope [] [] f fd) (S : FnScope N (("self" : Str) :: ps) scope)
    (hb : ∀ (kV doc pm : Value) (an : Option Addr) (cdv ct : Value) (us : List Value), us.length = (("self" : Str) :: ps).length → bindArgs (PySem.W.fnOf "__init__" qual params body scope .none kV doc pm an cdv ct) ⟨us, []⟩ = pure ((("self" : Str) :: ps).zip us))
    (hl : ∀ i, (as i).length = ps.length)
    (hbody : ∀ (i : ι) (cd : Value) (A : Around) (outer : List Env) (s : Shared) (b : Base) (H0 : Hp) (x dx : Addr) (E : XK), pre i → JS ⟨cxOf (L2N.CX U.P U.w) U.P U.w U.K U.mg U.base N qual scope f cd A outer s H0 E, b, outOf (fun _ => False) b, k⟩ body (some (.ow (oIns C x dx [])) :: entry (as i) (N.length - 1)) (retOI b oc x (af i x))) : MkO U x (k + 1) ps C oc as pre af := by
  refine ⟨f, fd, hx, hm, F.bindsN hb, F.ok S (fun vs H Q E h => ?_) fun cdv A outer s H vs Q E hr h => ?_⟩
  · obtain ⟨i, B, H1, x, dx, us, _, _, f2, e, _⟩ := h
    rw [e, List.length_cons, List.length_cons, f2.len, hl]
  · obtain ⟨i, B, H1, z, dx, us, pre, ok, f2, e1, e2, e3, e4, e5, kr⟩ := h
    have j := hbody i cdv A outer s ⟨B, H1⟩ H z dx E pre
    refine ⟨_, pS, ?_⟩
    have w : (Gx.mk (cxOf (L2N.CX U.P U.w) U.P U.w U.K U.mg U.base N qual scope f cdv A outer s H E) ⟨B, H1⟩ (outOf (fun _ => False) ⟨B, H1⟩) k).Wf := {
      tk := L2N.Takes.imp (L2N.takes_of (X := cxOf (L2N.CX U.P U.w) U.P U.w U.K U.mg U.base N qual scope f cdv A outer s H E) rfl rfl rfl rfl) fun C d σ H' ⟨dn, c, e, z, B', t⟩ => z.elim
      hr := fun _ => hr
      po := passes_of (X := cxOf (L2N.CX U.P U.w) U.P U.w U.K U.mg U.base N qual scope f cdv A outer s H E) rfl
      nd := S.nd
      bok := ok }
    subst e1 e5
    exact (j.run w (L2.start N (.ref z :: us)) B _ (initSta ok f2 e2 e3 e4)).mono ⟨fun σ' H' ⟨B', t, st, af, o⟩ => kr B' H' t af st (fun a m => ⟨o.nb a m, o.th a m, o.nh a m⟩) o.at_, fun v H' h => h.elim, fun _ _ z => z.elim, fun _ _ z => z.elim⟩
section
variable {U : Uv} {g : Gx} {Γ : Gm} {P Q R : Pr} {e e1 e2 : Expr} {pos p2 apos : Pos} {D : En} {rest : List Stmt} {C : Addr} {z : Str}
/-- self.lists = [], the last field of a reader -/
theorem s_rdInit (i : Nat) {x dx : Addr} {self : Str} {p pos' : Pos} (h : JO g e Γ (oL [])) (hc : Cls g.X.K C) (hn : NoAttr g.X.K C "lists") (k : ∀ l, JS g rest (Γ.set i (some (.ow (oRd g.X.K C z ⟨x, dx, l, [], 0, []⟩)))) D) (hi : Γ[i]? = some (some (.ow (oIns C x dx [("text", rS z), ("at", G.rI 0)]))) := by rfl) (hN : g.X.N[i]? = some self := by rfl) (hv : Vis g.X.env.scope self := by first | exact Or.inl rfl | exact Or.inr (Or.inl rfl) | exact Or.inr (Or.inr rfl))
    (hd : (self == ("__debug__" : Str)) = false := by decide) (hcd : (self == ("__classdict__" : Str)) = false := by decide) (hs : swapsWith e (some (.Attribute (.Name self p) "lists" pos')) pos.line g.X.env = pure false := by rfl) :
    JS g (.Assign [.Attribute (.Name self p) "lists" pos'] e pos :: rest) Γ D :=
  js_cons fun w σ B H s => of1 (ps_fld (pe_var hN hv hd hcd) pE hs) (by
    obtain ⟨v0, e, o⟩ := s.env.ow i _ hi
    refine (h.run w σ B H s).mono fun v H1 ⟨B1, a1, ow, fr⟩ => ⟨v0, e, ?_⟩
    have o1 := o.step a1.t
    obtain ⟨e2, ne, g1, vs, g2, f2⟩ := id o1.at_
    obtain ⟨u1, u2, evs, q1, q2⟩ := f2.two
    have q1 : u1 = .str z := q1
    have q2 : u2 = .int 0 := q2
    subst evs q1 q2 e2
    obtain ⟨l, ws, ev, nb, nh, hl, fl⟩ := own_one ow
    have : ws = [] := by
      cases ws with
      | nil => rfl
      | cons _ _ => exact fl.elim
    subst ev this
    have fl : H l = none := fr l (mem_one.mpr rfl)
    have n1 : x ≠ l := fun q => (o.th x (by simp [oIns])).ne (q ▸ fl)
    have n2 : dx ≠ l := fun q => (o.th dx (by simp [oIns])).ne (q ▸ fl)
    refine ⟨x, C, dx, _, rfl, g2, hc, hn, by simp, (k l).go w a1.le ?_⟩
    refine s.chgX hi e (StpX.chg a1.t (by simp [oIns]) (o1.nb x (by simp [oIns]))) (fun b m => ?_) ⟨rfl, ?_, by rw [upd_ne ne]; exact g1, upd_same, by rw [upd_ne n1.symm]; exact hl, trivial⟩
    · have m : b = x ∨ b = dx ∨ b = l := by simpa [oRd, RdS.ads] using m
      rcases m with rfl | rfl | rfl
      · exact ⟨o1.nb _ (by simp [oIns]), by rw [upd_same]; exact ⟨_, rfl, fun _ h => nomatch h⟩, .inl (by simp [oIns])⟩
      · exact ⟨o1.nb _ (by simp [oIns]), by rw [upd_ne ne]; exact o1.th _ (by simp [oIns]), .inl (by simp [oIns])⟩
      · exact ⟨nb, by rw [upd_ne n1.symm, hl]; exact hard_lst, .inr fl⟩
    · show [x, dx, l].Nodup
      simp only [List.nodup_cons, List.mem_cons, List.not_mem_nil, not_or, or_false, not_false_iff, and_true, List.nodup_nil]
      exact ⟨⟨ne.symm, n1⟩, n2⟩)
theorem s_initEndO {τ : Type} {oc : τ → Oc} {af : τ → Prop} {x : Addr} (i : Nat) (t : τ) (ht : af t) (hv : ∀ B H v, (oc t).r B H v → v = .ref x) (hi : Γ[i]? = some (some (.ow (oc t))) := by rfl) : JS g [] Γ (retOI g.b oc x af) :=
  s_nil fun σ B H s => by
    obtain ⟨v, e, o⟩ := s.env.ow i _ hi
    have := hv _ _ _ o.at_
    subst this
    exact ⟨B, t, s.st, ht, o⟩
/-- y = self.m2(self.m1()) -/
theorem s_callO2 {τ : Type} {oc : τ → Oc} (i j : Nat) {m1 m2 : Str} {k1 k2 : Nat} {ι1 ι2 : Type} {φ1 : ι1 → CsO τ} {φ2 : ι2 → CsO τ} {ps2 : List Str} (F1 : MdO U C m1 k1 [] oc φ1) (F2' : MdO U C m2 k2 ps2 oc φ2) (c1 : ι1) {self y : Str} {pa pb py apos1 apos2 cpos1 cpos2 : Pos}
    (has1 : (φ1 c1).as = [] ) (hp1 : (φ1 c1).pre) (hins : ∀ t B H v m, m = m1 ∨ m = m2 → (oc t).r B H v → ∃ a dx fs, v = .ref a ∧ H a = some (.ins C dx fs) ∧ fs.lookup m = none)
    (k : ∀ t1, (φ1 c1).af t1 → ∃ c2, (φ2 c2).bf = t1 ∧ (φ2 c2).as = [(φ1 c1).rs] ∧ (φ2 c2).pre ∧ ∀ t2, (φ2 c2).af t2 → JS g rest ((Γ.set i (some (.ow (oc t2)))).set j (some (.sh (φ2 c2).rs))) D)
    (hi : Γ[i]? = some (some (.ow (oc (φ1 c1).bf))) := by rfl) (hk1 : k1 ≤ g.k := by exact Nat.le_of_ble_eq_true rfl) (hk2 : k2 ≤ g.k := by exact Nat.le_of_ble_eq_true rfl) (hU : UvOf U g.X := by exact ⟨rfl, rfl, rfl, rfl, rfl⟩)
    (hN : g.X.N[i]? = some self := by rfl) (hv : Vis g.X.env.scope self := by first | exact Or.inl rfl | exact Or.inr (Or.inl rfl) | exact Or.inr (Or.inr rfl))
    (hNy : g.X.N[j]? = some y := by rfl) (hl : Loc g.X.env.scope y := by first | exact Or.inl rfl | exact Or.inr rfl) (hf : g.X.fn y = true ∨ g.X.env.scope.names.lookup y = some .local := by first | exact .inl rfl | exact .inr rfl)
    (hd : (self == ("__debug__" : Str)) = false := by decide) (hcd : (self == ("__classdict__" : Str)) = false := by decide)
    {pl1 pl2 : Sem Bool}
    (ht1 : eval (.Call (.Attribute (.Name self pa) m1 apos1) [] [] cpos1) g.X.env = (do
      let ov ← eval (.Name self pa) g.X.env
      standAt apos1.atName
      let (f, first) ← holding [ov] (getMethod ov m1 pl1)
      callWith cpos1 f first (backTo cpos1 (starEach [] g.X.env)) (backToKw cpos1 (keywordEach [] g.X.env))) := by rfl)
    (ht2 : eval (.Call (.Attribute (.Name self pb) m2 apos2) [.Call (.Attribute (.Name self pa) m1 apos1) [] [] cpos1] [] cpos2) g.X.env = (do
      let ov ← eval (.Name self pb) g.X.env
      standAt apos2.atName
      let (f, first) ← holding [ov] (getMethod ov m2 pl2)
      callWith cpos2 f first (backTo cpos2 (starEach [.Call (.Attribute (.Name self pa) m1 apos1) [] [] cpos1] g.X.env)) (backToKw cpos2 (keywordEach [] g.X.env))) := by rfl)
    (hst : starEach [.Call (.Attribute (.Name self pa) m1 apos1) [] [] cpos1] g.X.env = (false, eval (.Call (.Attribute (.Name self pa) m1 apos1) [] [] cpos1) g.X.env) :: starEach [] g.X.env := by rfl) (hcm : g.X.calm = true := by rfl)
    (hs : swapsWith (.Call (.Attribute (.Name self pb) m2 apos2) [.Call (.Attribute (.Name self pa) m1 apos1) [] [] cpos1] [] cpos2) (some (.Name y py)) pos.line g.X.env = pure false := by rfl) :
    JS g (.Assign [.Name y py] (.Call (.Attribute (.Name self pb) m2 apos2) [.Call (.Attribute (.Name self pa) m1 apos1) [] [] cpos1] [] cpos2) pos :: rest) Γ D := by
  obtain ⟨f1, fd1, cl, me1, bi1, d1⟩ := F1.ok
  obtain ⟨f2, fd2, _, me2, bi2, d2⟩ := F2'.ok
  obtain ⟨u1, u2, u3, u4, u5⟩ := hU
  refine js_cons fun w σ B H s => ?_
  refine of1 (ps_set w.nd hNy hl (pe_meth (E := noE) (dvs := []) (ds := []) (pe_var hN hv hd hcd) (by rw [u3]; exact cl) (by rw [u3]; exact me2) (by rw [u1, u2, u3, u4, u5]; exact d2) ((w.hr hcm).mono hk2) (by rw [u3]; exact bi2) .nil (by rw [← u1, ← u2]; exact passes_no)
    (pa_cons (pe_meth0 (E := noE) (dvs := []) (ds := []) (pe_var hN hv hd hcd) (by rw [u3]; exact cl) (by rw [u3]; exact me1) (by rw [u1, u2, u3, u4, u5]; exact d1) ((w.hr hcm).mono hk1) (by rw [u3]; exact bi1) .nil (by rw [← u1, ← u2]; exact passes_no) ht1) pa_nil hst) hst rfl ht2) hs hf) ?_
  obtain ⟨v, e, o⟩ := s.env.ow i _ hi
  obtain ⟨a, dx, fs, ev, ha, hlk⟩ := hins _ _ _ _ m2 (.inr rfl) o.at_
  obtain ⟨a', dx', fs', ev', ha', hlk'⟩ := hins _ _ _ _ m1 (.inl rfl) o.at_
  refine ⟨v, e, a, dx, fs, ev, ha, hlk, ?_⟩
  refine ⟨_, e, a', dx', fs', ev', ha', hlk', ?_⟩
  refine callO_run (E := noE) (us := []) c1 s hi e hp1 (by rw [has1]; trivial) fun u B1 H1 t1 af1 l1 s1 r1 => ?_
  obtain ⟨c2, eb, ea, hp2, kk⟩ := k t1 af1
  have il : i < Γ.length := by
    have := (List.getElem?_eq_some_iff.mp hi).1
    exact this
  refine callO_run (E := noE) (us := [u]) c2 s1 (by rw [List.getElem?_set_self il, eb]) e hp2 (by rw [ea]; exact ⟨r1, trivial⟩) fun u2 B2 H2 t2 af2 l2 s2 r2 => ?_
  rw [List.set_set] at s2
  exact (kk t2 af2).go w (l1.trans l2) (s2.setS r2)
/-- C(e).m(), the new instance nobody else's -/
theorem x_newCall {τ : Type} {oc : τ → Oc} {x m : Str} {k1 k2 : Nat} {ps : List Str} {ι1 ι2 : Type} {as : ι1 → List Pr} {pre : ι1 → Prop} {af : ι1 → Addr → τ → Prop} {φ : ι2 → CsO τ} (M : MkO U x k1 ps C oc as pre af) (F : MdO U C m k2 [] oc φ) (i : ι1) {p mpos apos cpos : Pos} (h : JA g [e] Γ (as i)) (hp : pre i)
    (hins : ∀ t B H v, (oc t).r B H v → ∃ a dx fs, v = .ref a ∧ H a = some (.ins C dx fs) ∧ fs.lookup m = none)
    (k : ∀ y t, af i y t → ∃ c, (φ c).bf = t ∧ (φ c).as = [] ∧ (φ c).pre ∧ (φ c).rs = R)
    (hk1 : k1 + 1 ≤ g.k := by exact Nat.le_of_ble_eq_true rfl) (hk2 : k2 ≤ g.k := by exact Nat.le_of_ble_eq_true rfl) (hU : UvOf U g.X := by exact ⟨rfl, rfl, rfl, rfl, rfl⟩) (hg : Gl g.X x := by rfl) (hdb : (x == ("__debug__" : Str)) = false := by decide) (he : starEach [e] g.X.env = (false, eval e g.X.env) :: starEach [] g.X.env := by rfl)
    {pl : Sem Bool}
    (ht : eval (.Call (.Attribute (.Call (.Name x p) [e] [] mpos) m apos) [] [] cpos) g.X.env = (do
      let ov ← eval (.Call (.Name x p) [e] [] mpos) g.X.env
      standAt apos.atName
      let (f, first) ← holding [ov] (getMethod ov m pl)
      callWith cpos f first (backTo cpos (starEach [] g.X.env)) (backToKw cpos (keywordEach [] g.X.env))) := by rfl) (hcm : g.X.calm = true := by rfl) :
    JE g (.Call (.Attribute (.Call (.Name x p) [e] [] mpos) m apos) [] [] cpos) Γ R := by
  obtain ⟨f1, fd1, ax, mk, bi1, d1⟩ := M.ok
  obtain ⟨f2, fd2, cl, me2, bi2, d2⟩ := F.ok
  obtain ⟨u1, u2, u3, u4, u5⟩ := hU
  refine ⟨fun w σ B H s => ?_⟩
  refine (ofE (pe_meth0 (E := noE) (dvs := []) (ds := []) (pe_make (E := noE) (dvs := []) (ds := []) (by rw [u3]; exact mk) (by rw [u1, u2, u3, u4, u5]; exact d1) ((w.hr hcm).mono hk1) hg (by rw [u4]; exact ax) (by rw [u3]; exact bi1) .nil (by rw [← u1, ← u2]; exact passes_no) pA hdb he rfl)
    (by rw [u3]; exact cl) (by rw [u3]; exact me2) (by rw [u1, u2, u3, u4, u5]; exact d2) ((w.hr hcm).mono hk2) (by rw [u3]; exact bi2) .nil (by rw [← u1, ← u2]; exact passes_no) ht) ?_)
  refine (h.run w σ B H s).mono fun vs H1 ⟨B1, a1, q⟩ => fun y dx hy hd ne => ?_
  rw [List.append_nil]
  refine ⟨i, B1, H1, y, dx, vs, hp, a1.sta.st.ok, q, rfl, hy, hd, ne, rfl, fun B2 H2 t af2 st n r => ⟨rfl, ?_⟩⟩
  obtain ⟨a, dx', fs, ev, ha, hlk⟩ := hins _ _ _ _ r
  refine ⟨a, dx', fs, ev, ha, hlk, ?_⟩
  obtain ⟨c, eb, ea, hp2, er⟩ := k y t af2
  show spO oc φ ([.ref y] ++ []) H2 _ noE
  rw [List.append_nil]
  refine ⟨c, B2, .ref y, [], rfl, hp2, st.ok, by rw [ea]; trivial, by rw [eb]; exact fun a m => ⟨(n a m).1, (n a m).2.1⟩, by rw [eb]; exact r, fun u B3 H3 t3 af3 st3 n3 r3 rr => ⟨B3, ?_, by rw [← er]; exact rr⟩⟩
  rw [eb] at st3
  have fr : ∀ a ∈ (oc t).ad (.ref y) H2, H1 a = none := fun a m => (n a m).2.2
  have tt : Stp B1 H1 B3 H3 := {
    le := st.le.trans st3.le
    ok := st3.ok
    keep := fun a o e iv => by
      have na : a ∉ (oc t).ad (.ref y) H2 := fun m => by rw [fr a m] at e; cases e
      refine st3.keep a o na (st.keep a o e iv) fun φ q => ?_
      cases e3 : B1 a with
      | none =>
        rcases st.new a e3 _ q with q2 | ⟨vs, _, q2⟩
        · rw [q2] at e; cases e
        · cases q2
      | some kk =>
        have := st.le a kk e3
        rw [q] at this
        cases this
        exact iv φ e3
    there := fun a e => by
      have na : a ∉ (oc t).ad (.ref y) H2 := fun m => e (fr a m)
      exact st3.there a na (st.there a e)
    new := fun a hb kk hk => by
      by_cases na : a ∈ (oc t).ad (.ref y) H2
      · exact .inl (fr a na)
      · cases e3 : B2 a with
        | some k2 =>
          have := st3.le a k2 e3
          rw [hk] at this
          cases this
          exact st.new a hb kk e3
        | none =>
          rcases st3.new a na e3 kk hk with q | ⟨ws, q, q2⟩
          · exact .inl (st.bnone q)
          · cases e4 : H1 a with
            | none => exact .inl rfl
            | some u0 =>
              have := st.keep a u0 e4 fun φ z => by rw [hb] at z; cases z
              rw [q] at this
              cases this
              exact .inr ⟨ws, rfl, q2⟩ }
  exact a1.trans (a1.sta.step tt)
end
end G
set_option Elab.async false
set_option linter.all false
set_option maxRecDepth 100000
set_option maxHeartbeats 4000000
namespace G
open PySem PySem.W PyProof.Rows
/-! ### how a text is read -/
def isWc (c : Nat) : Bool := decide (c ∈ figures.cps.toList) || decide (c = 63)
def wEnd (cs : List Nat) (i : Nat) : Nat := i + ((cs.drop i).takeWhile isWc).length
def cutC (cs : List Nat) (i j : Nat) : Str := ⟨((cs.drop i).take (j - i)).toArray⟩
inductive RdW (cs : List Nat) : Nat → Stk → Str → Nat → Stk → Prop
  | stop {i : Nat} {st : Stk} : cs[wEnd cs i]? ≠ some 40 → RdW cs i st (cutC cs i (wEnd cs i)) (wEnd cs i) st
  | op {i j : Nat} {st st' : Stk} {w : Str} : cs[wEnd cs i]? = some 40 → RdW cs (wEnd cs i + 1) ((cutC cs i (wEnd cs i), []) :: st) w j st' → RdW cs i st w j st'
inductive RdCl (cs : List Nat) : Tm → Nat → Stk → Tm → Nat → Stk → Prop
  | stop {p : Tm} {i : Nat} {st : Stk} : (st ≠ [] → cs[i]? ≠ some 41) → RdCl cs p i st p i st
  | cl {p p' : Tm} {n : Str} {ps : List Tm} {i j : Nat} {st st' : Stk} : cs[i]? = some 41 → RdCl cs (.nd true n (ps ++ [p])) (i + 1) st p' j st' → RdCl cs p i ((n, ps) :: st) p' j st'
inductive RdX (cs : List Nat) : Tm → Nat → Stk → Option Tm → Prop
  | bad {p : Tm} {i : Nat} {st : Stk} : (st ≠ [] → cs[i]? ≠ some 44) → (st ≠ [] ∨ i < cs.length) → RdX cs p i st none
  | good {p : Tm} {i : Nat} : cs.length ≤ i → RdX cs p i [] (some p)
  | more {p p2 : Tm} {n w : Str} {ps : List Tm} {i j k : Nat} {st st1 st2 : Stk} {r : Option Tm} : cs[i]? = some 44 → RdW cs (i + 1) ((n, ps ++ [p]) :: st) w j st1 → RdCl cs (.lf w) j st1 p2 k st2 → RdX cs p2 k st2 r → RdX cs p i ((n, ps) :: st) r
def RdHave (cs : List Nat) (p : Tm) (i : Nat) (st : Stk) (r : Option Tm) : Prop := ∃ p2 j st2, RdCl cs p i st p2 j st2 ∧ RdX cs p2 j st2 r
def RdGo (cs : List Nat) (i : Nat) (st : Stk) (r : Option Tm) : Prop := ∃ w j st1, RdW cs i st w j st1 ∧ RdHave cs (.lf w) j st1 r
section
variable {cs : List Nat} {i : Nat} {st : Stk} {r : Option Tm} {p : Tm} {n : Str} {ps : List Tm}
theorem go_word (h : cs[wEnd cs i]? ≠ some 40) (k : RdHave cs (.lf (cutC cs i (wEnd cs i))) (wEnd cs i) st r) : RdGo cs i st r := ⟨_, _, _, .stop h, k⟩
theorem go_open (h : cs[wEnd cs i]? = some 40) (k : RdGo cs (wEnd cs i + 1) ((cutC cs i (wEnd cs i), []) :: st) r) : RdGo cs i st r := let ⟨w, j, s1, a, b⟩ := k; ⟨w, j, s1, .op h a, b⟩
theorem have_close (h : cs[i]? = some 41) (k : RdHave cs (.nd true n (ps ++ [p])) (i + 1) st r) : RdHave cs p i ((n, ps) :: st) r := let ⟨a, b, c, d, e⟩ := k; ⟨a, b, c, .cl h d, e⟩
theorem have_comma (h : cs[i]? = some 44) (k : RdGo cs (i + 1) ((n, ps ++ [p]) :: st) r) : RdHave cs p i ((n, ps) :: st) r := let ⟨w, j, s1, a, p2, b, c, d, e⟩ := k; ⟨p, i, _, .stop (fun _ => by rw [h]; decide), .more h a d e⟩
theorem have_end (h : cs.length ≤ i) : RdHave cs p i [] (some p) := ⟨p, i, [], .stop (fun h => absurd rfl h), .good h⟩
end
/-! ### what is written -/
mutual
def Tm.wr : Tm → List Nat
  | .lf s => s.cps.toList
  | .nd _ n ps => n.cps.toList ++ 40 :: (Tm.wrs ps ++ [41])
def Tm.wrs : List Tm → List Nat
  | [] => []
  | [p] => p.wr
  | p :: q :: ps => p.wr ++ 44 :: Tm.wrs (q :: ps)
end
def isWord (s : Str) : Bool := s.cps.toList.all isWc
mutual
def Tm.wd : Tm → Bool
  | .lf s => isWord s
  | .nd _ n ps => isWord n && (decide (ps ≠ []) && Tm.wds ps)
def Tm.wds : List Tm → Bool
  | [] => true
  | p :: ps => p.wd && Tm.wds ps
end
theorem wEnd_at {cs : List Nat} {i : Nat} {w suf : List Nat} (h : cs.drop i = w ++ suf) (hw : w.all isWc = true) (hs : ∀ c, suf.head? = some c → isWc c = false) : wEnd cs i = i + w.length ∧ cutC cs i (wEnd cs i) = ⟨w.toArray⟩ := by
  have e : (cs.drop i).takeWhile isWc = w := by
    rw [h, List.takeWhile_append_of_pos (fun x hx => List.all_eq_true.mp hw x hx)]
    cases suf with
    | nil => simp
    | cons c suf => rw [List.takeWhile_cons, hs c rfl]; simp
  refine ⟨by unfold wEnd; rw [e], ?_⟩
  unfold cutC wEnd
  rw [e, h, Nat.add_sub_cancel_left, List.take_left]
theorem drop_more {cs : List Nat} {i : Nat} {w suf : List Nat} (h : cs.drop i = w ++ suf) : cs.drop (i + w.length) = suf := by
  rw [← List.drop_drop, h, List.drop_left]
theorem drop_head {cs : List Nat} {i : Nat} {c : Nat} {suf : List Nat} (h : cs.drop i = c :: suf) : cs[i]? = some c ∧ cs.drop (i + 1) = suf := by
  constructor
  · have : (cs.drop i)[0]? = some c := by rw [h]; rfl
    rwa [List.getElem?_drop, Nat.add_zero] at this
  · have := drop_more (w := [c]) (suf := suf) h
    exact this
theorem str_back (s : Str) : (⟨s.cps.toList.toArray⟩ : Str) = s := by cases s; simp
/-- behind a term: no word goes on there, no list is opened -/
def Behind (suf : List Nat) : Prop := ∀ c, suf.head? = some c → isWc c = false ∧ c ≠ 40
mutual
theorem rd_term {cs : List Nat} : ∀ (t : Tm) (i : Nat) (suf : List Nat) (st : Stk) (r : Option Tm), t.wd = true → cs.drop i = t.wr ++ suf → Behind suf → RdHave cs (t.as false) (i + t.wr.length) st r → RdGo cs i st r
  | .lf s, i, suf, st, r, hw, h, hb, k => by
    rw [Tm.wd] at hw
    rw [Tm.wr] at h k
    obtain ⟨e1, e2⟩ := wEnd_at h hw fun c hc => (hb c hc).1
    refine go_word ?_ ?_
    · rw [e1]
      intro q
      have := drop_more h
      cases suf with
      | nil =>
        have z : (cs.drop (i + s.cps.toList.length))[0]? = some 40 := by rw [List.getElem?_drop, Nat.add_zero]; exact q
        rw [this] at z; cases z
      | cons c suf =>
        rw [(drop_head this).1] at q
        cases q
        exact (hb 40 rfl).2 rfl
    · rw [e2, e1, str_back]
      rw [Tm.as] at k
      exact k
  | .nd t n ps, i, suf, st, r, hw, h, hb, k => by
    rw [Tm.wd, Bool.and_eq_true, Bool.and_eq_true] at hw
    rw [Tm.wr, List.append_assoc] at h
    have h' : cs.drop i = n.cps.toList ++ (40 :: (Tm.wrs ps ++ [41]) ++ suf) := h
    obtain ⟨e1, e2⟩ := wEnd_at h' hw.1 fun c hc => by
      have : c = 40 := by simpa using hc.symm
      subst this; decide
    have h2 := drop_more h'
    obtain ⟨e3, h3⟩ := drop_head (suf := Tm.wrs ps ++ [41] ++ suf) h2
    refine go_open (by rw [e1]; exact e3) ?_
    rw [e2, e1, str_back]
    refine rd_terms ps (i + n.cps.toList.length + 1) suf st r n [] hw.2.2 (of_decide_eq_true hw.2.1) (by rw [h3, List.append_assoc]; rfl) ?_
    rw [Tm.as] at k
    rw [List.nil_append]
    have el : i + n.cps.toList.length + 1 + (Tm.wrs ps).length + 1 = i + (Tm.nd t n ps).wr.length := by
      rw [Tm.wr]
      simp only [List.length_append, List.length_cons, List.length_nil]
      omega
    rw [el]
    exact k
theorem rd_terms {cs : List Nat} : ∀ (ps : List Tm) (i : Nat) (suf : List Nat) (st : Stk) (r : Option Tm) (n : Str) (dn : List Tm), Tm.wds ps = true → ps ≠ [] → cs.drop i = Tm.wrs ps ++ 41 :: suf → RdHave cs (.nd true n (dn ++ Tm.asL false ps)) (i + (Tm.wrs ps).length + 1) st r → RdGo cs i ((n, dn) :: st) r
  | [], _, _, _, _, _, _, _, ne, _, _ => absurd rfl ne
  | [p], i, suf, st, r, n, dn, hw, _, h, k => by
    rw [Tm.wds, Bool.and_eq_true] at hw
    rw [Tm.wrs] at h k
    refine rd_term p i (41 :: suf) _ r hw.1 h (fun c hc => by
      have : c = 41 := by simpa using hc.symm
      subst this; decide) (have_close (drop_head (drop_more h)).1 ?_)
    rw [Tm.asL, Tm.asL] at k
    exact k
  | p :: q :: ps, i, suf, st, r, n, dn, hw, _, h, k => by
    rw [Tm.wds, Bool.and_eq_true] at hw
    rw [Tm.wrs, List.append_assoc] at h
    have h' : cs.drop i = p.wr ++ (44 :: (Tm.wrs (q :: ps) ++ 41 :: suf)) := h
    obtain ⟨e1, h2⟩ := drop_head (drop_more h')
    refine rd_term p i (44 :: (Tm.wrs (q :: ps) ++ 41 :: suf)) _ r hw.1 h' (fun c hc => by
      have : c = 44 := by simpa using hc.symm
      subst this; decide) (have_comma e1 ?_)
    refine rd_terms (q :: ps) (i + p.wr.length + 1) suf st r n (dn ++ [p.as false]) hw.2 (by simp) h2 ?_
    rw [Tm.asL] at k
    have el : i + p.wr.length + 1 + (Tm.wrs (q :: ps)).length + 1 = i + (Tm.wrs (p :: q :: ps)).length + 1 := by
      rw [Tm.wrs]
      simp only [List.length_append, List.length_cons]
      omega
    rw [el, List.append_assoc]
    exact k
end
theorem rd_written {t : Tm} (h : t.wd = true) : RdGo t.wr 0 [] (some (t.as false)) := rd_term t 0 [] [] _ h (by simp) (fun c hc => by cases hc) (have_end (by simp))
/-- where a reader may stand -/
def RdOk (cs : List Nat) (i : Nat) (st : Stk) : Prop := i ≤ cs.length ∧ st.length ≤ i ∧ ∀ e ∈ st, e.2.length ≤ i
end G
set_option Elab.async false
set_option linter.all false
set_option maxRecDepth 100000
set_option maxHeartbeats 4000000
namespace G
open PySem PySem.Spec PySem.W PyProof.Rows L2
/-! ### calls of defs that are promised that nothing is being shown -/
structure FdG (U : Uv) (x : Str) (k : Nat) (ps : List Str) {ι : Type} (φ : ι → Cs) : Prop where
  ok : ∃ f fd, U.mg x = some (.ref f) ∧ PySem.W.keepIn U.K (.ref f) = true ∧ Binds U.K fd ps [] ∧ FnG U.P U.w U.K U.mg U.base (L2N.CX U.P U.w) k f fd ps (spT φ)
theorem fdG_ok {U : Uv} {x name qual : Str} {params : Arguments} {body : List Stmt} {scope : Scope} {f : Addr} {fd : FuncData} {N ps : List Str} {k : Nat} {ι : Type} {φ : ι → Cs} (hx : U.mg x = some (.ref f)) (F : FunD U.K name qual params body scope [] [] f fd) (S : FnScope N ps scope)
    (hb : ∀ (kV doc pm : Value) (an : Option Addr) (cdv ct : Value) (us : List Value), us.length = ps.length → bindArgs (PySem.W.fnOf name qual params body scope .none kV doc pm an cdv ct) ⟨us, []⟩ = pure (ps.zip us))
    (hl : ∀ i, (φ i).as.length = ps.length)
    (hbody : ∀ (i : ι) (cd : Value) (A : Around) (outer : List Env) (s : Shared) (b : Base) (E : XK), A.guards = some [] → (φ i).pre → JS (gxOf U N qual scope f cd A outer s b E (φ i).exc k) body (entry (φ i).as N.length) (ret b ((φ i).rs b))) : FdG U x (k + 1) ps φ :=
  ⟨f, fd, hx, F.kp, F.bindsN hb, fng_ok F S hl hbody⟩
section
variable {X : Cx} {k : Nat} {f : Addr} {fd : FuncData} {ps : List Str} {sp : Sp} {dvs : List V} {ds : List Value} {x : Str} {p pos : Pos} {e : Expr} {es : List Expr} {t : TA}
theorem run_fnG {pins : List (Addr × Obj)} {σ : L2.St} {H : Hp} {s : Shared} {Q : VK} {us : List Value} {vs : List V} (F : FnG X.prog X.w X.K X.mg X.base (L2N.CX X.prog X.w) k f fd ps sp) (hr : Room k X.A) (hgd : X.A.guards = some []) (hb : Binds X.K fd ps ds) (hd : Vals dvs ds)
    (I : Inv X pins σ H s) (r : Vals vs us) (h : sp (vs ++ dvs) H Q noE) : wpAny (model X.prog X.w) X.A (call (.ref f) us) (EP X pins σ Q) X.xe s := by
  have r2 : Vals (vs ++ dvs) (us ++ ds) := r.append hd
  have hl : (us ++ ds).length = ps.length := by rw [← r2.length]; exact F.len _ _ _ _ h
  refine wpAny_call (codeAny_mono (F.run X.A X.stack s H ⟨us, []⟩ (us ++ ds) (vs ++ dvs) Q noE hr hgd I.env0 (hb s us I.kIn hl) r2 h) fun r s' hq => ?_)
  cases r with
  | error e => exact passes_no pins σ H s e s' I hq
  | ok fl =>
    cases fl with
    | ret u => exact I.after hq
    | next => exact False.elim hq
    | brk => exact False.elim hq
    | cont => exact False.elim hq
theorem pe_callG (F : FnG X.prog X.w X.K X.mg X.base (L2N.CX X.prog X.w) k f fd ps sp) (hr : Room k X.A) (hgd : X.A.guards = some []) (hg : Gl X x) (hm : X.mg x = some (.ref f)) (hk : PySem.W.keepIn X.K (.ref f) = true) (hb : Binds X.K fd ps ds) (hd : Vals dvs ds)
    (ha : PA X (e :: es) t) (hdb : (x == ("__debug__" : Str)) = false := by decide) (he : starEach (e :: es) X.env = (false, eval e X.env) :: starEach es X.env := by rfl) (hpl : (backTo pos (starEach es X.env)).any (·.1) = false := by rfl) :
    PE X (.Call (.Name x p) (e :: es) [] pos) (tCall sp dvs noE t) := by
  refine ⟨fun pins s σ H Q I h => ?_⟩
  refine wpAny_Call_Name_kw (ld_glob I hg hm ?_ hdb)
  refine PySem.W.callWith_K (h₀ := X.base) I.ok.mod.kin hk (thn (ha.run pos pins s σ H _ I h) fun us s1 ⟨vs, H1, I1, r, q⟩ => ⟨I1.kIn, ?_⟩) he hpl
  exact run_fnG F hr hgd hb hd I1 r q
end
section
variable {g : Gx} {Γ : Gm} {P Q R : Pr} {e e1 e2 : Expr} {pos : Pos} {U : Uv}
theorem x_callG {x : Str} {k : Nat} {ps : List Str} {ι : Type} {φ : ι → Cs} {es : List Expr} {p : Pos} (F : FdG U x k ps φ) (hgd : g.X.A.guards = some []) (i : ι) (h : JA g (e :: es) Γ (φ i).as) (hs : ∀ b1, (φ i).rs b1 = .sh R := by exact fun _ => rfl) (hp : (φ i).pre := by trivial) (hx : ∀ C, ¬ (φ i).exc C := by exact fun _ h => h) (hk : k ≤ g.k := by exact Nat.le_of_ble_eq_true rfl)
    (hU : UvOf U g.X := by exact ⟨rfl, rfl, rfl, rfl, rfl⟩) (hg : Gl g.X x := by rfl) (hdb : (x == ("__debug__" : Str)) = false := by decide) (he : starEach (e :: es) g.X.env = (false, eval e g.X.env) :: starEach es g.X.env := by rfl) (hpl : (backTo pos (starEach es g.X.env)).any (·.1) = false := by rfl) (hcm : g.X.calm = true := by rfl) :
    JE g (.Call (.Name x p) (e :: es) [] pos) Γ R := by
  obtain ⟨f, fd, a, kp, c, d⟩ := F.ok
  obtain ⟨u1, u2, u3, u4, u5⟩ := hU
  refine ⟨fun w σ B H s => ?_⟩
  refine (ofE (pe_callG (dvs := []) (ds := []) (by rw [u1, u2, u3, u4, u5]; exact d) ((w.hr hcm).mono hk) hgd hg (by rw [u4]; exact a) (by rw [u3]; exact kp) (by rw [u3]; exact c) .nil pA hdb he hpl) ?_)
  refine (h.run w σ B H s).mono fun vs H1 ⟨B1, a1, q⟩ => ?_
  rw [List.append_nil]
  exact ⟨i, B1, hp, a1.sta.st.ok, q, fun v B' H' t r => ⟨B', a1.trans (a1.sta.step t), by rw [hs] at r; exact r⟩, fun C d B' H' t z => (hx C z).elim⟩
end
end G
set_option Elab.async false
set_option linter.all false
set_option maxRecDepth 100000
set_option maxHeartbeats 4000000
/-! ### sorted(set(xs)), xs texts: the set's own order does not show -/
namespace GS
open PySem PySem.Spec PyProof.Rows L2 PySem.Froz PySem.W
/-- the set at z holds the texts l, each once, in whatever order its table has them -/
structure SetX (pr : Program) (wo : World) (h : Heap) (z : Addr) (l : List Str) (D : SD) : Prop where
  ob : h.get? z = some (sObj "set" D)
  tx : TxOk pr wo D l
  ri : Ris D.2.2.place.toList
  le : wo.params.followText "set-order" = true ∨ D.2.2.led = true
  nd : l.Nodup
section
variable {pr : Program} {wo : World} {Ar : Around} {Ex : Value → Shared → Prop} {st : Shared}
theorem tail_more {ep : Nat} {xs : Array (Int × Value)} {tb : SetTable} {wd : Bool} (r : Ris tb.place.toList) : Ris (tailTx ep xs tb wd).2.2.place.toList ∧ (tailTx ep xs tb wd).2.2.led = tb.led := by
  unfold tailTx
  by_cases c : (!wd && tb.tooFull) = true
  · rw [if_pos c]; exact ⟨relayAll_ris tb xs _, relayAll_led tb xs _⟩
  · rw [if_neg c]; exact ⟨r, rfl⟩
theorem add_more {D : SD} {n : Int} {v : Value} (r : Ris D.2.2.place.toList) : Ris (addTx n v D).2.2.place.toList ∧ (addTx n v D).2.2.led = D.2.2.led := by
  have r1 := layNew_ris D.2.2 D.1 n v r
  have l1 := layNew_led D.2.2 D.1 n v
  unfold addTx
  generalize layNew D.2.2 D.1 n v = L at r1 l1 ⊢
  by_cases c : L.2.1.plain = true
  · rw [if_pos c]
    have := tail_more (ep := D.2.1) (xs := L.1) (tb := { L.2.1 with plain := false }) (wd := L.2.2.1) r1
    exact ⟨this.1, this.2.trans l1⟩
  · rw [if_neg c]
    have := tail_more (ep := D.2.1) (xs := L.1) (tb := L.2.1) (wd := L.2.2.1) r1
    exact ⟨this.1, this.2.trans l1⟩
/-- a text that is there already -/
theorem add_there {z : Addr} {D : SD} {l : List Str} {k : Str} {u : Tok} {Qb : Bool → Shared → Prop} (hz : st.heap.get? z = some (sObj "set" D)) (F : TxOk pr wo D l) (hk : k ∈ l) (hb : l.length < scanBound) (hq : Qb false st) : wpAny (model pr wo) Ar (setAddHashed z (.str k u) (hashStr wo k)) Qb Ex st := by
  obtain ⟨xs, ep, tb⟩ := D
  have dd : (sObj "set" (xs, ep, tb)).data = .set xs ep tb := rfl
  have fi : tb.fits xs.size = true := F.fit
  have el : ElemsOf (strKind pr wo) xs.toList := F.el
  have si : xs.size = l.length := F.sz
  have bo : xs.size < scanBound := by omega
  have ky : (strKind pr wo).is k (.str k u) = true := is_str k u
  obtain ⟨j, hj⟩ : ∃ j, List.findIdx? (fun e => (strKind pr wo).is k e.2) xs.toList = some j := by
    cases hr : List.findIdx? (fun e => (strKind pr wo).is k e.2) xs.toList with
    | some j => exact ⟨j, rfl⟩
    | none =>
      obtain ⟨e, he, q⟩ := (F.mem k).mp hk
      have := List.findIdx?_eq_none_iff.mp hr e he
      rw [q] at this; cases this
  unfold setAddHashed setAddHashedIn
  refine wpAny_holding (wpAny_bind (wpAny_setState_of hz dd fi ?_))
  dsimp only
  rw [byScan_of rfl bo el]
  simp only [↓reduceIte]
  unfold setAddByScan
  refine wpAny_bind (wpAny_bind (wpAny_rule (wpAny_bind (wpAny_setScan_of (knd := strKind pr wo) (k := k) ky hz dd fi el ?_))))
  rw [hj]
  dsimp only
  exact wpAny_pure (wpAny_pure hq)
end
section
variable {pr : Program} {wo : World} {Ar : Around} {Rr : Result → Shared → Prop} {It : Addr} {fps wrs : List Addr} {Gg : Array GenState → Array GenState → Prop} {len : Nat} {Pv : Nat → Value → Prop} {Ss : Nat → Shared → Prop}
abbrev Got (pr : Program) (wo : World) (h : Heap) (z : Addr) (ys : List Str) (i : Nat) : Prop := ∃ D l, SetX pr wo h z l D ∧ l.Perm (once (ys.take i))
theorem Got.up {h h' : Heap} {z : Addr} {ys : List Str} {i : Nat} (q : Got pr wo h z ys i) (k : ∀ o, h.get? z = some o → h'.get? z = some o) : Got pr wo h' z ys i :=
  let ⟨D, l, x, p⟩ := q; ⟨D, l, ⟨k _ x.ob, x.tx, x.ri, x.le, x.nd⟩, p⟩
theorem turnsX (Wk : WalksS pr wo Ar.in1 It fps wrs Gg len Pv Ss) (z : Addr) (nz : z ∉ fps) (ys : List Str) (hl : ys.length = len) (hb : len + 1 < scanBound) (hv : ∀ i v, Pv i v → ∃ t, v = .str (ys.getD i Str.empty) t) :
    ∀ (left i : Nat) (st : Shared), len = i + left → Ss i st → Got pr wo st.heap z ys i → (∀ st', Moved (z :: wrs) Gg st st' → Got pr wo st'.heap z ys len → Rr (.ok (.ret .none)) st') → codeAny (model pr wo) Ar (.builtin "set.update.loop" ⟨[.ref z, .ref It], []⟩) Rr st
  | 0, i, st, e, hs, hh, hr => by
    obtain rfl : len = i := by omega
    have nw : z ∉ wrs := fun h => nz (Wk.sub _ h)
    refine codeAny_builtin PyProof.Rows.F.entry_set_update_loop (by
      rw [Around.under_plainId PyProof.Rows.F.plain_set_update_loop _]
      exact wpAny_bind (m := pyNext (.ref It)) (Wk.done st _ _ hs fun st1 mv => (wpAny_pure (hr st1 (mv.mono fun b hb => .tail _ hb) (hh.up fun o ho => mv.heap z o nw ho)) : wpAny _ Ar.in1 (ret Value.none) _ _ st1)))
  | left + 1, i, st, e, hs, hh, hr => by
    have nw : z ∉ wrs := fun h => nz (Wk.sub _ h)
    have il : i < len := by omega
    refine codeAny_builtin PyProof.Rows.F.entry_set_update_loop ?_
    rw [Around.under_plainId PyProof.Rows.F.plain_set_update_loop _]
    refine wpAny_bind (m := pyNext (.ref It)) (Wk.item i st _ _ il hs fun v st1 hp hs1 mv => ?_)
    obtain ⟨tk, rfl⟩ := hv i v hp
    obtain ⟨D, l, X1, pl⟩ := (hh.up fun o ho => mv.heap z o nw ho : Got pr wo st1.heap z ys i)
    have hy : ys.take (i + 1) = ys.take i ++ [ys.getD i Str.empty] := by
      rw [List.take_succ, List.getD_eq_getElem?_getD, List.getElem?_eq_getElem (by omega)]; rfl
    have ll : l.length ≤ i := by
      have := once_le (ys.take i)
      rw [List.length_take] at this
      rw [pl.length_eq]; omega
    have an : (once (ys.take i)).any (· == ys.getD i Str.empty) = decide (ys.getD i Str.empty ∈ l) := by
      rw [Bool.eq_iff_iff, List.any_eq_true, decide_eq_true_eq, pl.mem_iff]
      exact ⟨fun ⟨x, hx, q⟩ => (eq_of_beq q) ▸ hx, fun hm => ⟨_, hm, by simp⟩⟩
    refine wpAny_bind (m := holding [Value.str (ys.getD i Str.empty) tk] (setAdd z (.str (ys.getD i Str.empty) tk))) (wpAny_holding (wpAny_holding (wpAny_bind ((PySem.strKind pr wo).pyHash (k := ys.getD i Str.empty) (strKind_is _ _ _ _) ?_))))
    by_cases hm : ys.getD i Str.empty ∈ l
    · refine add_there (st := { st1 with toks := st1.toks + 1 }) X1.ob X1.tx hm (by omega) ?_
      have h3 : Got pr wo st1.heap z ys (i + 1) := ⟨D, l, X1, by rw [hy, once_snoc, an, if_pos (decide_eq_true hm)]; exact pl⟩
      refine wpAny_pure ⟨plainId_quiet PyProof.Rows.F.plain_set_update_loop _, turnsX Wk z nz ys hl hb hv left (i + 1) _ (by omega) (Wk.frame _ st1 _ _ hs1 (Nat.le_succ _) fun b hb o ho => ho) h3 fun st2 mv2 h4 => hr st2 (Moved.trans Wk.gtrans ((mv.mono fun b hb => .tail _ hb).then_heap (Nat.le_succ _) fun b o nb ho => ho) mv2) h4⟩
    · refine add_x (s := { st1 with toks := st1.toks + 1 }) X1.ob X1.tx hm (by omega) ?_
      have mo := add_more (n := hashStr wo (ys.getD i Str.empty)) (v := .str (ys.getD i Str.empty) tk) X1.ri
      have h3 : Got pr wo (st1.heap.update z fun _ => sObj "set" (addTx (hashStr wo (ys.getD i Str.empty)) (.str (ys.getD i Str.empty) tk) D)) z ys (i + 1) := by
        refine ⟨_, _ :: l, ⟨get_upd _ X1.ob rfl, add_ok tk X1.tx, mo.1, X1.le.imp id fun q => mo.2.trans q, List.nodup_cons.mpr ⟨hm, X1.nd⟩⟩, ?_⟩
        rw [hy, once_snoc, an, if_neg (by simpa using hm)]
        exact (List.Perm.cons _ pl).trans (List.perm_append_singleton _ _).symm
      have oth : ∀ b o, b ≠ z → st1.heap.get? b = some o → (st1.heap.update z fun _ => sObj "set" (addTx (hashStr wo (ys.getD i Str.empty)) (.str (ys.getD i Str.empty) tk) D)).get? b = some o := fun b o nb ho => ((Heap.SameBut.update st1.heap z _).2 b nb).trans ho
      refine wpAny_pure ⟨plainId_quiet PyProof.Rows.F.plain_set_update_loop _, turnsX Wk z nz ys hl hb hv left (i + 1) _ (by omega) (Wk.frame _ st1 _ _ hs1 (Nat.le_succ _) fun b hb o ho => ?_) h3 fun st2 mv2 h4 => hr st2 (Moved.trans Wk.gtrans ((mv.mono fun b hb => .tail _ hb).then_heap (Nat.le_succ _) fun b o nb ho => ?_) mv2) h4⟩
      · exact oth b o (fun q => nz (q ▸ hb)) ho
      · exact oth b o (fun q => nb (q ▸ List.mem_cons_self ..)) ho
end
section
variable {pr : Program} {wo : World} {Ar : Around} {Ex : Value → Shared → Prop} {st : Shared}
abbrev newSet (wo : World) : Obj := { cls := .type "set", dict := none, data := .set #[] 0 (.fresh 0 0 (!wo.params.followText "set-order")) }
theorem set_new_led (x : Value) {Q1 : Value → Shared → Prop} (h : Q1 (.ref st.heap.objs.size) { st with heap := st.heap.push (newSet wo) }) : codeAny (model pr wo) Ar (.call (.builtin "set.__new__") ⟨[.type "set", x], []⟩) (wants Q1 Ex) st := by
  refine codeAny_of_tree (show wpAny _ Ar.in1 (do checkBuiltinCall "set.__new__" ⟨[.type "set", x], []⟩; again (.builtin "set.__new__" ⟨[.type "set", x], []⟩)) _ _ st from ?_)
  refine wpAny_bind (wpAny_of_eq (PySem.F.newCall_set_1 x) (wpAny_pure ⟨plainId_quiet PySem.F.plain_set_new _, codeAny_builtin PySem.F.entry_set_new ?_⟩))
  rw [Around.under_plainId PySem.F.plain_set_new _]
  unfold Builtin.«set.__new__» Builtin.Frozenset.newClass
  have sb := sub_set_self
  obtain ⟨hp, g0, d0, tk, os0⟩ := st
  dsimp only
  wp_walk
  refine wpAny_askSetting (wpAny_pure ?_)
  dsimp only
  simp only [newObj]
  exact wpAny_bind (wpAny_alloc (wpAny_pure (wpAny_pure h)))
theorem setX_new {h : Heap} : Got pr wo (h.push (newSet wo)) h.objs.size ys 0 := by
  refine ⟨(#[], 0, .fresh 0 0 (!wo.params.followText "set-order")), [], ⟨Heap.get?_push_size _ rfl, TxOk.nil rfl, List.Pairwise.nil, ?_, List.nodup_nil⟩, List.Perm.refl _⟩
  show _ ∨ (!wo.params.followText "set-order") = true
  cases wo.params.followText "set-order"
  · exact .inr rfl
  · exact .inl rfl
theorem set_textsX {l : Addr} {its : Array Value} {ys : List Str} {Qw : Value → Shared → Prop} (calm : Ar.handled = none) (hl : st.heap.IsList l its) (hi : StrsAre its.toList ys) (hb : ys.length + 1 < scanBound)
    (hq : ∀ (h' : Heap) (tk : Nat), Got pr wo h' st.heap.objs.size ys ys.length → (∀ b o, b < st.heap.objs.size → st.heap.get? b = some o → h'.get? b = some o) → Qw (.ref st.heap.objs.size) { st with heap := h', toks := tk }) :
    wpAny (model pr wo) Ar (call (.type "set") [.ref l]) Qw Ex st := by
  have hlen : its.size = ys.length := by rw [← size_str hi, Array.length_toList]
  obtain ⟨cc, tl, hm⟩ := PySem.F.called_set.mro
  have q1 := PySem.F.called_set.made
  have q2 := PySem.F.called_set.sub
  have q3 := PySem.F.called_set.notType
  have q4 := PySem.F.called_set.canCreate
  have q5 := PySem.F.typeCall_set_1 (.ref l)
  refine wpAny_call (codeAny_of_tree (show wpAny _ _ (callAny (.type "set") _) _ _ _ from wpAny_pure ⟨Code.quiet_builtin _ (by decide +kernel), codeAny_builtin PySem.F.entry_type_call ?_⟩))
  rw [Around.under_plain (weight_type_call_type "set" [.ref l] []) rfl]
  repeat (any_goals (first | assumption | wp_step))
  refine codeAny_mono (set_new_led (.ref l) (Ex := Ex) (Q1 := fun ob st1 => ob = .ref st.heap.objs.size ∧ st1 = { st with heap := st.heap.push (newSet wo) }) ⟨rfl, rfl⟩) fun res st1 hres => ?_
  match res, hres with
  | .error _, hres => exact hres
  | .ok (.ret ob), ⟨e1, e2⟩ =>
    subst e1 e2
    have at0 : (st.heap.push (newSet wo)).get? st.heap.objs.size = some (newSet wo) := Heap.get?_push_size _ rfl
    have ty0 : Shared.TypeIs { st with heap := st.heap.push (newSet wo) } (.ref st.heap.objs.size) "set" := ⟨_, at0, rfl⟩
    have q6 := PySem.F.called_set.init.lookup
    have q7 := PySem.F.called_set.init.bind (.ref st.heap.objs.size)
    repeat (any_goals (first | assumption | wp_step))
    refine codeAny_mono (codeAny_call_builtin (R := wants (fun r st2 => r = .none ∧ ∃ h' tk, st2 = { st with heap := h', toks := tk } ∧ Got pr wo h' st.heap.objs.size ys ys.length ∧ ∀ b o, b < st.heap.objs.size → st.heap.get? b = some o → h'.get? b = some o) Ex) PySem.F.called_set.init.plain PySem.F.entry_set_init (check_set_init_1 ty0 ?_)) fun r2 st2 hr2 => ?_
    · obtain ⟨⟨oc, od, oda, osl⟩, ho, hc, nn, hd⟩ := hl
      simp only at hc hd
      subst hc hd
      have lS : l < st.heap.objs.size := Heap.lt_size ho
      have ho1 : (st.heap.push (newSet wo)).get? l = some { cls := .type "list", dict := od, data := .seq its nn, slots := osl } := Heap.get?_push_of_some _ ho
      have l1 : (st.heap.push (newSet wo)).IsList l its := ⟨_, ho1, rfl, nn, rfl⟩
      have q8 := PySem.F.sub_list_set
      have q9 := PySem.F.sub_list_frozenset
      have qa : (Value.type "list" == Value.type "dict") = false := by decide
      unfold Builtin.«set.__init__» noKeywords Builtin.Frozenset.updateFrom
      generalize eI : pyIter = iter
      wp_walk
      subst eI
      have calm3 : Ar.in1.in1.in1.handled = none := by simp [calm]
      have ps : (st.heap.push (newSet wo)).objs.size = st.heap.objs.size + 1 := Heap.size_push ..
      have nI : l ≠ (st.heap.push (newSet wo)).objs.size := by rw [ps]; exact Nat.ne_of_lt (Nat.lt_succ_of_lt lS)
      have nS : st.heap.objs.size ∉ [(st.heap.push (newSet wo)).objs.size, l] := by
        rw [ps]
        simp only [List.mem_cons, List.not_mem_nil, or_false, not_or]
        exact ⟨Nat.ne_of_lt (Nat.lt_succ_self _), Nat.ne_of_gt lS⟩
      refine wpAny_pyIter_list l1 (wpAny_bind (wpAny_runValue (turnsX ((Walks.list calm3 _ l nI its).toS) st.heap.objs.size nS ys hlen.symm (by rw [hlen]; exact hb) (fun i v hv => at_str hi i v (by rw [Array.getElem?_toList]; exact hv)) its.size 0 _ (by omega) ⟨⟨_, Heap.get?_push_size _ rfl, rfl, rfl⟩, l1.push _⟩ ?_ ?_)))
      · exact setX_new.up fun o ho => Heap.get?_push_of_some _ ho
      · rintro ⟨h', g', d', tk', os'⟩ mv hold
        have e1 : g' = st.gens := mv.gens
        have e2 : d' = st.drawn := mv.drawn
        have e3 : os' = st.os := mv.os
        subst e1 e2 e3
        rw [hlen] at hold
        refine wpAny_pure (show wpAny _ _ (ret Value.none) _ _ _ from wpAny_pure ⟨rfl, h', tk', rfl, hold, fun b o hb ho => mv.heap b o ?_ (Heap.get?_push_of_some _ (Heap.get?_push_of_some _ ho))⟩)
        rw [ps]
        simp only [List.mem_cons, List.not_mem_nil, or_false, not_or]
        exact ⟨Nat.ne_of_lt hb, Nat.ne_of_lt (Nat.lt_succ_of_lt hb)⟩
    · match r2, hr2 with
      | .error _, hr2 => exact hr2
      | .ok (.ret r), ⟨e1, h', tk, e2, hold, kp⟩ =>
        subst e1 e2
        repeat (any_goals (first | assumption | wp_step))
        exact hq _ _ hold kp
/-! ### sorted(z), z such a set -/
theorem perm_of {l m : List Str} (nd : l.Nodup) (sub : ∀ x ∈ l, x ∈ m) (le : m.length ≤ l.length) : l.Perm m := by
  induction l generalizing m with
  | nil => rw [List.eq_nil_of_length_eq_zero (Nat.le_zero.mp le)]
  | cons a l ih =>
    obtain ⟨na, nd⟩ := List.nodup_cons.mp nd
    have ma := sub a (List.mem_cons_self ..)
    have pe := List.perm_cons_erase ma
    refine ((ih (m := m.erase a) nd (fun x hx => ?_) ?_).cons a).trans pe.symm
    · rcases List.mem_cons.mp (pe.mem_iff.mp (sub x (List.mem_cons_of_mem _ hx))) with q | q
      · exact absurd (q ▸ hx) na
      · exact q
    · have := pe.length_eq
      rw [List.length_cons] at this le
      omega
def strOf (v : Value) : Str := match v with | .str k _ => k | _ => Str.empty
theorem each_strs : ∀ {vs : List Value}, (∀ v ∈ vs, ∃ k t, v = .str k t) → EachIs (fun v b => RelV (.str b) v) vs (vs.map strOf)
  | [], _ => .nil
  | v :: vs, h => by
    obtain ⟨k, t, rfl⟩ := h v (List.mem_cons_self ..)
    exact .cons ⟨t, rfl⟩ (each_strs fun u hu => h u (List.mem_cons_of_mem _ hu))
theorem each_reads {h : Heap} {a : Addr} : ∀ {vs : List Value}, (∀ v ∈ vs, ∃ k t, v = .str k t) → EachIs (fun v b => ∃ as, Reads h v (PyData.str b) as ∧ a ∉ as) vs (vs.map strOf)
  | [], _ => .nil
  | v :: vs, hv => by
    obtain ⟨k, t, rfl⟩ := hv v (List.mem_cons_self ..)
    exact .cons ⟨[], .str k t, nofun⟩ (each_reads fun u hu => hv u (List.mem_cons_of_mem _ hu))
theorem sorted_setX {z : Addr} {ys : List Str} {Qw : Value → Shared → Prop} (calm : Ar.handled = none) (hu : Ar.units + 8 < cLine) (G : Got pr wo st.heap z ys ys.length) (hb : ys.length + 1 < scanBound)
    (hq : ∀ (st1 : Shared) (p : Addr) (out : List Value) (c : Nat) (zs : List Str), (∀ b o, st.heap.get? b = some o → st1.heap.get? b = some o) → st1.gens = st.gens → st1.os = st.os → st.heap.objs.size ≤ p →
      st1.heap.get? p = some (seqObj "list" out.toArray c) → EachIs (fun v b => RelV (.str b) v) out (zs.mergeSort (PySem.W.dataLe false PyData.str)) → zs.Perm (once ys) → Qw (.ref p) st1) :
    wpAny (model pr wo) Ar (call (.builtin "sorted") [.ref z]) Qw Ex st := by
  obtain ⟨⟨xs, ep, tb⟩, l, X1, pl⟩ := G
  rw [List.take_length] at pl
  have F := X1.tx
  have el : ElemsOf (strKind pr wo) xs.toList := F.el
  have si : xs.size = l.length := F.sz
  have ol := once_le ys
  have ll : l.length ≤ ys.length := by rw [pl.length_eq]; exact ol
  have si2 : (xs, ep, tb).1.size = l.length := si
  refine Calls.call_function_entry PyProof.Rows.kind_sorted PyProof.Rows.plain_sorted PyProof.Rows.entry_sorted (PyProof.Rows.args_sorted1 _) ?_
  unfold Builtin.«sorted»
  refine wpAny_bind (m := checkCount "sorted" 1 1 _) (wpAny_pure ?_)
  refine wpAny_bind (collect_set (A := Ar.in1) (by simp [calm]) ⟨_, X1.ob, rfl, rfl⟩ F.fit (by omega) X1.ri X1.le fun st1 vs k1 hz g1 o1 pm => ?_)
  have av : ∀ v ∈ vs, ∃ k t, v = .str k t := fun v hv => by
    obtain ⟨e, he, q⟩ := List.mem_map.mp (pm.mem_iff.mp hv)
    obtain ⟨⟨k, hk, _⟩, _⟩ := el e he
    obtain ⟨t, ht⟩ := Value.isStrOf_shape hk
    exact ⟨k, t, by rw [← q]; exact ht⟩
  have vl : vs.length = l.length := by rw [pm.length_eq, List.length_map, Array.length_toList]; exact si
  have pz : l.Perm (vs.map strOf) := perm_of X1.nd (fun k hk => by
    obtain ⟨e, he, q⟩ := (F.mem k).mp hk
    obtain ⟨t, ht⟩ := Value.isStrOf_shape q
    exact List.mem_map.mpr ⟨e.2, pm.mem_iff.mpr (List.mem_map.mpr ⟨e, he, rfl⟩), by rw [ht]; rfl⟩) (by rw [List.length_map, vl]; exact Nat.le_refl _)
  have sz : sizeLine = 16777216 := by decide
  have sb : scanBound ≤ sizeLine := by decide
  refine wpAny_bind (wpAny_newList ?_ (by rw [vl]; omega))
  have hoL : (st1.heap.push (seqObj "list" vs.toArray 0)).get? st1.heap.objs.size = some (seqObj "list" vs.toArray 0) := Heap.get?_push_size _ rfl
  refine wpAny_bind (wpAny_holding (PySem.W.list_sort_data (R := fun v b => RelV (.str b) v) (enc := PyData.str) (bs := vs.map strOf) hoL (each_strs av) (each_reads av) (PySem.W.AllAlike.of fun x y => rfl) (PySem.W.Sortable.others fun b => ⟨nofun, nofun⟩) (by rw [List.length_map, vl]; omega) (fun b hb => by show Ar.units + 1 + 1 + 0 < cLine; omega) fun out ho eo => ?_))
  obtain ⟨c, hc⟩ := sortedHeap_at (vs := vs) (out := out.toArray) hoL
  refine wpAny_pure ⟨_, rfl, hq { st1 with heap := sortedHeap (st1.heap.push (seqObj "list" vs.toArray 0)) st1.heap.objs.size vs out.toArray } st1.heap.objs.size out c (vs.map strOf) (fun b u e => ?_) g1 o1 hz hc eo (pz.symm.trans pl)⟩
  have q := k1 b u e
  have lt := Heap.lt_size q
  show (sortedHeap (st1.heap.push (seqObj "list" vs.toArray 0)) st1.heap.objs.size vs out.toArray).get? b = some u
  rw [sortedHeap_old (Nat.ne_of_lt lt) (by rw [size_push']; exact Nat.lt_succ_of_lt lt)]
  exact Heap.get?_push_of_some _ q
end
end GS
set_option Elab.async false
set_option linter.all false
set_option maxRecDepth 100000
set_option maxHeartbeats 4000000
namespace G
open PySem PySem.Spec PySem.W PyProof.Rows L2
/-! ### texts in order -/
def strLe : Str → Str → Bool := PySem.W.dataLe false PyData.str
theorem strLe_eq (a b : Str) : strLe a b = !sLt b a := by
  unfold strLe PySem.W.dataLe sLt
  rfl
theorem ahead_nil (a b : Str) : (Fm.nd a []).ahead (.nd b []) = sLt a b := by
  rw [Fm.ahead]
  by_cases h : a = b
  · subst h; rw [if_pos rfl, if_pos rfl, Fm.aheads, sLt_self]
  · rw [if_neg h]
theorem strLe_trans (a b c : Str) (h1 : strLe a b = true) (h2 : strLe b c = true) : strLe a c = true := by
  rw [strLe_eq, Bool.not_eq_true', ← ahead_nil] at *
  exact Fm.neg h1 h2
theorem strLe_total (a b : Str) : (strLe a b || strLe b a) = true := by
  rw [strLe_eq, strLe_eq]
  cases h1 : sLt b a with
  | false => rfl
  | true =>
    cases h2 : sLt a b with
    | false => rfl
    | true =>
      rw [← ahead_nil] at h1 h2
      have := Fm.trans h1 h2
      rw [Fm.irr] at this; cases this
theorem strLe_anti (a b : Str) (h1 : strLe a b = true) (h2 : strLe b a = true) : a = b := by
  rw [strLe_eq, Bool.not_eq_true', ← ahead_nil] at *
  have := Fm.total h2 h1
  cases this; rfl
def sortS (ys : List Str) : List Str := ys.mergeSort strLe
theorem sortS_perm {xs ys : List Str} (h : xs.Perm ys) : sortS xs = sortS ys := by
  have s1 : (sortS xs).Pairwise fun a b => strLe a b = true := List.pairwise_mergeSort (fun a b c => strLe_trans a b c) (fun a b => strLe_total a b) xs
  have s2 : (sortS ys).Pairwise fun a b => strLe a b = true := List.pairwise_mergeSort (fun a b c => strLe_trans a b c) (fun a b => strLe_total a b) ys
  have p : (sortS xs).Perm (sortS ys) := ((List.mergeSort_perm xs _).trans h).trans (List.mergeSort_perm ys _).symm
  exact p.eq_of_pairwise (fun a b _ _ => strLe_anti a b) s1 s2
theorem F2.of_strs {B : Bs} : ∀ ys : List Str, F2 B (ys.map V.str) (ys.map rS)
  | [] => trivial
  | _ :: ys => ⟨rfl, F2.of_strs ys⟩
def rSortedS (K : PySem.W.Frag) (ta : TE) : TE := fun σ H Q => ta σ H fun x H1 => ∃ (l : Addr) (ys : List Str), x = .ref l ∧ SqL K H1 l (ys.map V.str) ∧ ys.length ≤ 4000 ∧ ∀ p, H1 p = none → Q (.ref p) (upd H1 p (.lst ((sortS (GS.once ys)).map V.str)))
theorem vals_out {out : List Value} {zs : List Str} (h : EachIs (fun v b => RelV (.str b) v) out zs) : Vals (zs.map V.str) out := vals_each (f := V.str) h
/-- sorted(set(xs)) -/
theorem pe_sortedS {X : Cx} {a : Expr} {ta : TE} {p p2 q pos : Pos} (hg : Gl X "sorted") (hm : X.mg "sorted" = none) (hg2 : Gl X "set") (hm2 : X.mg "set" = none) (ha : PE X a ta) (hc : X.calm = true) (hu : X.A.units + 8 < cLine)
    (na : starEach [a] X.env = (false, eval a X.env) :: starEach [] X.env) : PE X (.Call (.Name "sorted" p) [.Call (.Name "set" p2) [a] [] q] [] pos) (rSortedS X.K ta) := by
  refine ⟨fun pins s σ H Q I h => Call_ (ld_blt I hg hm bo_sorted (callWith_builtin1 (args_cons (Call_ (ld_blt I hg2 hm2 boot_set (callWith_type1 (args_cons (thn (ha.run pins s σ H _ I h) fun v s1 ⟨x, H1, I1, r1, l, ys, e, hq, hl, q1⟩ => args_nil ?_) na) na rfl))) rfl) rfl rfl))⟩
  subst e
  cases r1
  obtain ⟨its, r, pl, hz⟩ := I1.list hq
  refine GS.set_textsX (I1.ok.hd hc) pl.isList (by simpa using strsAre_of r) (by unfold scanBound; omega) fun h' tk hS kp => args_nil ?_
  have I2 : Inv X pins σ H1 { s1 with heap := h', toks := tk } := I1.kept fun b o e => kp b o (Heap.lt_size e) e
  refine GS.sorted_setX (I2.ok.hd hc) hu hS (by unfold scanBound; omega) fun st1 p out c zs k1 g1 o1 hp hg he pm => ?_
  have le := GS.once_le ys
  have ez : zs.mergeSort (PySem.W.dataLe false PyData.str) = sortS (GS.once ys) := sortS_perm pm
  have sz : sizeLine = 16777216 := by decide
  have hlen : ((sortS (GS.once ys)).map V.str).length ≤ sizeLine := by
    rw [List.length_map]; unfold sortS; rw [List.length_mergeSort]; omega
  have fr : H1 p = none := I2.hok.fresh hp
  have J : Inv X pins σ (upd H1 p (.lst ((sortS (GS.once ys)).map V.str))) { ({ s1 with heap := h', toks := tk } : Shared) with heap := st1.heap, gens := st1.gens, drawn := st1.drawn, toks := st1.toks } :=
    I2.call (ch := []) (Un.laid k1 hp fr) (I2.hok.laid k1 hp ⟨hlen, out, c, by rw [← ez]; exact vals_out he, hg⟩) (by rw [g1]; exact I2.bare) (fun _ z => nomatch z)
  have J : Inv X pins σ (upd H1 p (.lst ((sortS (GS.once ys)).map V.str))) { s1 with heap := st1.heap, gens := st1.gens, drawn := st1.drawn, toks := st1.toks } := J
  have e : st1 = { s1 with heap := st1.heap, gens := st1.gens, drawn := st1.drawn, toks := st1.toks } := by
    cases st1
    cases s1
    cases o1
    rfl
  rw [e]
  exact ⟨.ref p, _, J, rfl, q1 p fr⟩
section
variable {g : Gx} {Γ : Gm} {e : Expr} {pos : Pos}
theorem y_sortedS {ys : List Str} {p p2 q : Pos} (b : Bi g.X.mg) (hl : ys.length ≤ 4000) (h : JE g e Γ (rLs g.X.K (ys.map rS))) (hg : Gl g.X "sorted" := by rfl) (hg2 : Gl g.X "set" := by rfl) (he : starEach [e] g.X.env = (false, eval e g.X.env) :: starEach [] g.X.env := by rfl) (hcm : g.X.calm = true := by rfl) :
    JO g (.Call (.Name "sorted" p) [.Call (.Name "set" p2) [e] [] q] [] pos) Γ (oL ((sortS (GS.once ys)).map rS)) :=
  ⟨fun w σ B H s => ofE (pe_sortedS hg b.sorted hg2 b.set pE hcm (by have := w.u65 hcm; omega) he) ((h.run w σ B H s).mono fun v H1 ⟨B1, a1, l, vs, e2, hq, f⟩ => by
    have f := f.strs
    subst e2 f
    exact ⟨l, ys, rfl, hq.sq a1.sta.st.ok, hl, fun r hr => ⟨B1, a1.trans (a1.sta.beside hr), own_mk (a1.sta.st.ok.none hr) (a1.sta.st.bnone hr) upd_same (F2.of_strs _), one_fresh (a1.th hr)⟩⟩)⟩
end
end G
set_option Elab.async false
set_option linter.all false
set_option maxRecDepth 100000
set_option maxHeartbeats 4000000
namespace G
open PySem PySem.W PyProof.Rows
/-! ### leaves, wishes -/
mutual
def Tm.lvs : Tm → List Str
  | .lf s => [s]
  | .nd _ _ ps => Tm.lvsL ps
def Tm.lvsL : List Tm → List Str
  | [] => []
  | p :: ps => p.lvs ++ Tm.lvsL ps
end
theorem Tm.lvsL_map : ∀ ps : List Tm, Tm.lvsL ps = ps.flatMap Tm.lvs
  | [] => rfl
  | p :: ps => by rw [Tm.lvsL, List.flatMap_cons, Tm.lvsL_map ps]
mutual
theorem Tm.lvs_len : ∀ t : Tm, t.lvs.length ≤ t.wt
  | .lf s => by rw [Tm.lvs, Tm.wt]; exact Nat.le_refl _
  | .nd _ _ ps => by rw [Tm.lvs, Tm.wt]; have := Tm.lvsL_len ps; omega
theorem Tm.lvsL_len : ∀ ps : List Tm, (Tm.lvsL ps).length ≤ Tm.wts ps
  | [] => Nat.zero_le _
  | p :: ps => by rw [Tm.lvsL, Tm.wts, List.length_append]; have := Tm.lvs_len p; have := Tm.lvsL_len ps; omega
end
mutual
theorem Tm.lvs_txt : ∀ t : Tm, t.txt = true → ∀ s ∈ t.lvs, okS s = true
  | .lf s, h, x, hx => by
    rw [Tm.lvs] at hx
    rw [Tm.txt] at h
    rw [List.mem_singleton.mp hx]; exact h
  | .nd _ n ps, h, x, hx => by
    rw [Tm.txt, Bool.and_eq_true] at h
    rw [Tm.lvs] at hx
    exact Tm.lvsL_txt ps h.2 x hx
theorem Tm.lvsL_txt : ∀ ps : List Tm, Tm.txts ps = true → ∀ s ∈ Tm.lvsL ps, okS s = true
  | [], _, x, hx => nomatch hx
  | p :: ps, h, x, hx => by
    rw [Tm.txts, Bool.and_eq_true] at h
    rw [Tm.lvsL] at hx
    rcases List.mem_append.mp hx with q | q
    · exact Tm.lvs_txt p h.1 x q
    · exact Tm.lvsL_txt ps h.2 x q
end
mutual
theorem Tm.lvs_some {fx : List (Str × Nat)} {sm : List (Str × Str)} (hn : ∀ s, fx.lookup s = some 0 → s ≠ ("" : Str)) : ∀ t : Tm, t.ok fx sm = true → ∀ s ∈ t.lvs, s ≠ ("" : Str)
  | .lf s, h, x, hx => by
    rw [Tm.lvs] at hx
    rw [List.mem_singleton.mp hx]
    rw [Tm.ok, Bool.or_eq_true] at h
    rcases h with h | h
    · rintro rfl
      exact absurd h (by decide +kernel)
    · exact hn s (of_decide_eq_true h)
  | .nd _ n ps, h, x, hx => by
    rw [Tm.ok, Bool.and_eq_true] at h
    rw [Tm.lvs] at hx
    exact Tm.lvsL_some hn ps h.2 x hx
theorem Tm.lvsL_some {fx : List (Str × Nat)} {sm : List (Str × Str)} (hn : ∀ s, fx.lookup s = some 0 → s ≠ ("" : Str)) : ∀ ps : List Tm, Tm.oks fx sm ps = true → ∀ s ∈ Tm.lvsL ps, s ≠ ("" : Str)
  | [], _, x, hx => nomatch hx
  | p :: ps, h, x, hx => by
    rw [Tm.oks, Bool.and_eq_true] at h
    rw [Tm.lvsL] at hx
    rcases List.mem_append.mp hx with q | q
    · exact Tm.lvs_some hn p h.1 x q
    · exact Tm.lvsL_some hn ps h.2 x q
end
def Tm.wishes (t : Tm) : List Str := sortS (GS.once (t.lvs.filter isMark))
theorem firsts (p : Str → Bool) : ∀ (m : Nat) (xs : List Str), xs.length = m → (xs.zipIdx.filter fun z => p z.1 && !decide (z.1 ∈ xs.take z.2)).map (·.1) = GS.once (xs.filter p)
  | 0, xs, h => by rw [List.eq_nil_of_length_eq_zero h]; rfl
  | m + 1, xs, h => by
    obtain ⟨ys, y, rfl⟩ : ∃ ys y, xs = ys ++ [y] := ⟨xs.dropLast, xs.getLast (by intro e; rw [e] at h; cases h), (List.dropLast_concat_getLast _).symm⟩
    have hy : ys.length = m := by rw [List.length_append] at h; simpa using h
    have ih := firsts p m ys hy
    have e1 : (ys ++ [y]).zipIdx = ys.zipIdx ++ [(y, ys.length)] := by rw [List.zipIdx_append]; simp
    have e2 : (ys.zipIdx.filter fun z => p z.1 && !decide (z.1 ∈ (ys ++ [y]).take z.2)) = ys.zipIdx.filter fun z => p z.1 && !decide (z.1 ∈ ys.take z.2) := by
      refine List.filter_congr fun z hz => ?_
      have hl : z.2 < ys.length := (List.mem_zipIdx hz).2.1 |> fun q => by simpa using q
      rw [List.take_append_of_le_length (Nat.le_of_lt hl)]
    have e3 : (ys ++ [y]).take ys.length = ys := List.take_left
    rw [e1, List.filter_append, List.map_append, e2, ih, List.filter_append]
    cases hp : p y with
    | false =>
      rw [List.filter_cons_of_neg (by simp [hp]), List.filter_cons_of_neg (by simp [hp])]
      simp
    | true =>
      rw [show [y].filter p = [y] from by simp [hp], GS.once_snoc, GS.once_any]
      have e4 : (ys.filter p).any (· == y) = decide (y ∈ ys) := by
        rw [Bool.eq_iff_iff, List.any_eq_true, decide_eq_true_eq]
        exact ⟨fun ⟨x, hx, q⟩ => (eq_of_beq q) ▸ (List.mem_filter.mp hx).1, fun hm => ⟨y, List.mem_filter.mpr ⟨hm, hp⟩, by simp⟩⟩
      rw [e4]
      by_cases hm : y ∈ ys
      · rw [List.filter_cons_of_neg (by simp [hp, e3, hm]), if_pos (decide_eq_true hm)]
        simp
      · rw [List.filter_cons_of_pos (by simp [hp, e3, hm]), if_neg (by simp [hm])]
        simp
end G
set_option Elab.async false
set_option linter.all false
set_option maxRecDepth 100000
set_option maxHeartbeats 4000000
namespace G
open PySem PySem.Spec PySem.W PyProof.Rows L2
/-! ### xs[lo::st] of a list, by its places -/
def picks {α : Type} (xs : List α) (lo hi st : Option Int) : List α := ((sliceRange (sliceBounds lo hi st xs.length).1 (sliceBounds lo hi st xs.length).2.1 (sliceBounds lo hi st xs.length).2.2).filterMap fun k => xs[k]?)
theorem picks_rel {xs : List V} {us : List Value} (h : Vals xs us) (ks : List Nat) : Vals (ks.filterMap fun k => xs[k]?) (ks.filterMap fun k => us[k]?) := by
  have at_ : ∀ {xs : List V} {us : List Value}, Vals xs us → ∀ k : Nat, (xs[k]? = none ∧ us[k]? = none) ∨ ∃ x u, xs[k]? = some x ∧ us[k]? = some u ∧ RelV x u := by
    intro xs us h
    induction h with
    | nil => intro k; exact .inl ⟨rfl, rfl⟩
    | cons r _ ih => intro k; cases k with
      | zero => exact .inr ⟨_, _, rfl, rfl, r⟩
      | succ k => simpa using ih k
  induction ks with
  | nil => exact .nil
  | cons k ks ih =>
    rcases at_ h k with ⟨a, b⟩ | ⟨x, u, a, b, r⟩
    · rw [List.filterMap_cons_none a, List.filterMap_cons_none b]; exact ih
    · rw [List.filterMap_cons_some a, List.filterMap_cons_some b]; exact .cons r ih
theorem picks_f2 {B : Bs} {vs : List V} {rs : List Pr} (f : F2 B vs rs) (ks : List Nat) : F2 B (ks.filterMap fun k => vs[k]?) (ks.filterMap fun k => rs[k]?) := by
  have ln := f.len
  induction ks with
  | nil => exact trivial
  | cons k ks ih =>
    cases hr : rs[k]? with
    | none =>
      have : vs[k]? = none := by rw [List.getElem?_eq_none_iff] at hr ⊢; omega
      rw [List.filterMap_cons_none hr, List.filterMap_cons_none this]; exact ih
    | some r =>
      obtain ⟨v, hv, q⟩ := f.get hr
      rw [List.filterMap_cons_some hr, List.filterMap_cons_some hv]; exact ⟨q, ih⟩
theorem picks_len {α : Type} (xs : List α) (ks : List Nat) : (ks.filterMap fun k => xs[k]?).length ≤ ks.length := List.length_filterMap_le _ _
section
variable {X : Cx} {e st : Expr} {te : TE} {lo hi : Option Expr} {tl th ts : TO} {p2 pos : Pos}
def tSl3 (K : PySem.W.Frag) (te : TE) (tl th ts : TO) : TE := fun σ H Q => te σ H fun x H1 => tl σ H1 fun l H2 => th σ H2 fun u H3 => ts σ H3 fun c H4 => ∃ a xs, x = .ref a ∧ SqL K H4 a xs ∧ c ≠ some 0 ∧ (picks xs l u c).length ≤ sizeLine ∧ ∀ p, H4 p = none → Q (.ref p) (upd H4 p (.lst (picks xs l u c)))
theorem pe_slice3 (he : PE X e te) (hl : PO X lo tl) (hu : PO X hi th) (hs : PO X (some st) ts) : PE X (.Subscript e (.Slice lo hi (some st) p2) pos) (tSl3 X.K te tl th ts) := by
  refine ⟨fun pins s σ H Q I h => ?_⟩
  refine Subscript_ (thn (he.run pins s σ H _ I h) fun v s1 ⟨x, H1, I1, r1, q1⟩ => ?_)
  refine wpAny_Slice (thn (hl.run pins s1 σ H1 _ I1 q1) fun vl s2 ⟨l, H2, I2, pl, q2⟩ => thn (hu.run pins s2 σ H2 _ I2 q2) fun vu s3 ⟨u, H3, I3, pu, q3⟩ => thn (hs.run pins s3 σ H3 _ I3 q3) fun vc s4 ⟨c, H4, I4, pc, q4⟩ => ?_)
  obtain ⟨a, xs, e1, hx, c0, hz, q⟩ := q4
  subst e1
  cases r1
  have I5 : Inv X pins σ H4 { s4 with heap := s4.heap.push { cls := .type "slice", data := .fields #[vl, vu, vc] } } := I4.kept (t' := s4.toks) fun b ob q => Heap.get?_push_of_some _ q
  obtain ⟨its, rv, ht, hz2⟩ := I5.list hx
  have ln := rv.length
  show wpAny (model X.prog X.w) X.A (subscriptTail e (.Slice lo hi (some st) p2) (.ref a) (.ref s4.heap.objs.size)) (EP X pins σ Q) X.xe { s4 with heap := s4.heap.push { cls := .type "slice", data := .fields #[vl, vu, vc] } }
  refine tail_any (T := "list") (ops := [.ref a, .ref s4.heap.objs.size]) ht.isList.typeIs slot_list_getitem.lookup ?_ (by with_unfolding_all rfl)
  refine wpAny_getItem_list_slice ht.isList (Heap.IsSliceOf.new ..) pl pu pc c0 ?_ (by rw [List.size_toArray]; omega)
  have ep : slicePick its.toArray l u c = (((sliceRange (sliceBounds l u c xs.length).1 (sliceBounds l u c xs.length).2.1 (sliceBounds l u c xs.length).2.2).filterMap fun k => its[k]?)).toArray := by
    unfold slicePick
    rw [List.size_toArray, ← ln]
    simp
  rw [ep]
  refine ⟨.ref _, _, I5.laid (t' := s4.toks) (o := .lst (picks xs l u c)) (fun b ob q => Heap.get?_push_of_some _ q) (Nat.le_refl _) ?_, rfl, q _ (I5.hok.fresh (Nat.le_refl _))⟩
  exact ⟨hz, _, 0, picks_rel rv _, Heap.get?_push_size _ rfl⟩
end
section
variable {g : Gx} {Γ : Gm} {P Q R : Pr} {e e1 e2 : Expr} {pos p2 : Pos} {rs : List Pr}
theorem y_slL3 {lo hi : Option Expr} {st : Expr} {i j k : Option Int} (h : JE g e Γ (rLs g.X.K rs)) (hl : Part g Γ lo i) (hh : Part g Γ hi j) (hs : Part g Γ (some st) k) (hk : k ≠ some 0) (hz : (picks rs i j k).length ≤ sizeLine) : JO g (.Subscript e (.Slice lo hi (some st) p2) pos) Γ (oL (picks rs i j k)) :=
  ⟨fun w σ B H s => by
    obtain ⟨tl, pl, ql⟩ := part_run hl w
    obtain ⟨th, ph, qh⟩ := part_run hh w
    obtain ⟨ts, ps, qs⟩ := part_run hs w
    refine ofE (pe_slice3 pE pl ph ps) ((h.run w σ B H s).mono fun v H1 ⟨B1, a1, p, vs, e, a, f⟩ => ?_)
    refine ql σ B1 H1 a1.sta _ fun B2 H2 a2 => qh σ B2 H2 a2.sta _ fun B3 H3 a3 => qs σ B3 H3 a3.sta _ fun B4 H4 a4 => ?_
    have l14 := (a2.le.trans a3.le).trans a4.le
    have ln := f.len
    have f4 := picks_f2 (f.mono l14) (sliceRange (sliceBounds i j k vs.length).1 (sliceBounds i j k vs.length).2.1 (sliceBounds i j k vs.length).2.2)
    have ep : picks rs i j k = (sliceRange (sliceBounds i j k vs.length).1 (sliceBounds i j k vs.length).2.1 (sliceBounds i j k vs.length).2.2).filterMap fun k => rs[k]? := by unfold picks; rw [ln]
    refine ⟨p, vs, e, (a.mono l14).sq a4.sta.st.ok, hk, by rw [show (picks vs i j k).length = (picks rs i j k).length from by rw [ep]; exact f4.len]; exact hz, fun q hq => ?_⟩
    exact ⟨B4, (((a1.trans a2).trans a3).trans a4).trans (a4.sta.beside hq), own_mk (a4.sta.st.ok.none hq) (a4.sta.st.bnone hq) upd_same (by rw [ep]; exact f4), one_fresh (a1.th (a2.th (a3.th (a4.th hq))))⟩⟩
theorem picks_back {α : Type} (xs : List α) (x : α) (y : α) : picks (xs ++ [x, y]) (some (-2)) none (some (-1)) = (xs ++ [x]).reverse := by
  have len : (xs ++ [x, y]).length = xs.length + 2 := by simp
  have eb : sliceBounds (some (-2)) none (some (-1)) (xs.length + 2) = ((xs.length : Int), -1, -1) := by
    unfold sliceBounds
    simp only [Option.getD_some]
    refine Prod.ext ?_ (Prod.ext ?_ rfl)
    · show (max (-1) (min ((-2 : Int) + ((xs.length + 2 : Nat) : Int)) (((xs.length + 2 : Nat) : Int) - 1)) : Int) = _
      omega
    · rfl
  unfold picks
  rw [len, eb]
  show ((sliceRange (xs.length : Int) (-1) (-1)).filterMap fun k => (xs ++ [x, y])[k]?) = _
  have er : sliceRange (xs.length : Int) (-1) (-1) = (List.range (xs.length + 1)).map fun k => xs.length - k := by
    unfold sliceRange
    have c : (if (-1 : Int) > 0 then (if (xs.length : Int) < -1 then (-1 - (xs.length : Int) + -1 - 1) / -1 else 0) else (if (xs.length : Int) > -1 then ((xs.length : Int) - -1 - -1 - 1) / - -1 else 0)).toNat = xs.length + 1 := by
      rw [if_neg (by decide), if_pos (by omega)]
      rw [show (- -1 : Int) = 1 from by decide, Int.ediv_one]
      omega
    show (List.range ((if (-1 : Int) > 0 then (if (xs.length : Int) < -1 then (-1 - (xs.length : Int) + -1 - 1) / -1 else 0) else (if (xs.length : Int) > -1 then ((xs.length : Int) - -1 - -1 - 1) / - -1 else 0)).toNat)).map (fun k : Nat => ((xs.length : Int) + -1 * (k : Int)).toNat) = _
    rw [c]
    refine List.map_congr_left fun k hk => ?_
    have := List.mem_range.mp hk
    omega
  rw [er, List.filterMap_map]
  have key : ∀ m, m ≤ xs.length + 1 → ((List.range m).filterMap ((fun k => (xs ++ [x, y])[k]?) ∘ fun k => xs.length - k)) = ((xs ++ [x]).reverse).take m := by
    intro m
    induction m with
    | zero => intro _; rfl
    | succ m ih =>
      intro hm
      rw [List.range_succ, List.filterMap_append, ih (by omega), List.take_succ]
      congr 1
      have lt : xs.length - m < (xs ++ [x]).length := by simp; omega
      have e1 : (xs ++ [x, y])[xs.length - m]? = (xs ++ [x])[xs.length - m]? := by
        rw [show xs ++ [x, y] = (xs ++ [x]) ++ [y] from by simp, List.getElem?_append_left lt]
      have e2 : ((xs ++ [x]).reverse)[m]? = (xs ++ [x])[xs.length - m]? := by
        rw [List.getElem?_reverse (by simp; omega)]
        congr 1
        simp
      rw [e2, List.filterMap_cons]
      show (match (xs ++ [x, y])[xs.length - m]? with | none => _ | some b => _) = _
      rw [e1, List.getElem?_eq_getElem lt]; rfl
  rw [key _ (Nat.le_refl _), List.take_of_length_le (by simp)]
/-! ### script or [7] -/
theorem tru_ints {K : PySem.W.Frag} {B : Bs} {H : Hp} {ns : List Int} {v : V} (k : Ok B H) (h : (rScr K ns).r B v) : TruV K v H (!decide (ns = [])) := by
  obtain ⟨a, e, sq⟩ := scr_sq k h
  subst e
  refine .inl ⟨_, sq, ?_⟩
  cases ns with
  | nil => rfl
  | cons _ _ => simp
theorem x_orScr {ns ms : List Int} (h : JE g e Γ (rScr g.X.K ns)) (k : JE g (.BoolOp .Or [e1] pos) Γ (rScr g.X.K ms)) : JE g (.BoolOp .Or [e, e1] pos) Γ (rScr g.X.K (if ns = [] then ms else ns)) :=
  ⟨fun w σ B H s => ofE (pe_orT pE pE) ((h.run w σ B H s).mono fun v H1 ⟨B1, a1, p⟩ => ⟨_, tru_ints a1.sta.st.ok p, by
    by_cases q : ns = []
    · subst q
      simp only [decide_true, Bool.not_true, Bool.false_eq_true, if_false]
      exact (k.run w σ B1 H1 a1.sta).mono fun u H2 ⟨B2, a2, q⟩ => ⟨B2, a1.trans a2, q⟩
    · simp only [decide_eq_false q, Bool.not_false, if_true]
      exact ⟨B1, a1, by rw [if_neg q]; exact p⟩⟩)⟩
theorem scr_lst {K : PySem.W.Frag} {ns : List Int} {B : Bs} {v : V} (h : (rLs K (ns.map rI)).r B v) : (rScr K ns).r B v := by
  obtain ⟨p, vs, e, a, f⟩ := h
  have := f.ints
  subst this
  exact ⟨p, e, .inl ⟨_, a, .inl rfl⟩⟩
theorem x_slScr {ns : List Int} {hi : Option Expr} {j : Option Int} (h : JE g e Γ (rScr g.X.K ns)) (hh : Part g Γ hi j) : JE g (.Subscript e (.Slice none hi none p2) pos) Γ (rLs g.X.K ((cutP ns none j).map rI)) :=
  x_sl (P := rScr g.X.K ns) sl_list (fun B H v K k h c => by
    obtain ⟨a, e, sq⟩ := scr_sq k h
    subst e
    refine ⟨a, _, rfl, sq, fun q hq => c _ _ _ (Stp.lay k hq) ⟨q, _, rfl, put_same, ?_⟩⟩
    have e2 : cutV (ns.map V.int) none j = (cutP ns none j).map V.int := by
      unfold cutV cutP
      rw [List.length_map, List.map_take, List.map_drop]
    rw [e2]
    have : ∀ ms : List Int, F2 (put B q (.ex (.lst ((cutP ns none j).map V.int)))) (ms.map V.int) (ms.map rI) := by
      intro ms
      induction ms with
      | nil => trivial
      | cons m ms ih => exact ⟨rfl, ih⟩
    exact this _) h .no hh
/-! ### is not True -/
theorem t_notTrue {c d : Bool} {j : Option Str} {p : Pos} {jj : Nat} (h1 : JE g e1 Γ (rB c)) : JT g (.Compare e1 [.IsNot] [.Constant (.bool d) jj p] pos) Γ (!decide (c = d)) :=
  x_cmpT op_isnot_bl (fun B H v u K k q1 q2 c' => ⟨c, d, q1, q2, c' _ B H (Stp.refl k) rfl⟩) h1 x_bl (by rfl)
end
end G
set_option Elab.async false
set_option linter.all false
set_option maxRecDepth 100000
set_option maxHeartbeats 4000000
namespace G
open PySem PySem.W PyProof.Rows
/-! ### terms with two parts in each sum -/
def twos (n : Str) : List Tm → Tm
  | [] => .lf n
  | [p] => p
  | p :: q :: ps => .nd true n [p, twos n (q :: ps)]
mutual
def Tm.pair (sm : List (Str × Str)) : Tm → Tm
  | .lf s => .lf s
  | .nd _ n ps => match sm.lookup n with
    | none => .nd true n (Tm.pairs sm ps)
    | some _ => twos n (Tm.pairs sm ps)
def Tm.pairs (sm : List (Str × Str)) : List Tm → List Tm
  | [] => []
  | p :: ps => p.pair sm :: Tm.pairs sm ps
end
theorem Tm.pairs_map (sm : List (Str × Str)) : ∀ ps : List Tm, Tm.pairs sm ps = ps.map (Tm.pair sm)
  | [] => rfl
  | p :: ps => by rw [Tm.pairs, Tm.pairs_map sm ps]; rfl
theorem twos_ind {C : List Tm → Tm → Prop} (n : Str) (h1 : ∀ p, C [p] p) (h2 : ∀ p q ps t, t = twos n (q :: ps) → C (q :: ps) t → C (p :: q :: ps) (.nd true n [p, t])) : ∀ ps, ps ≠ [] → C ps (twos n ps)
  | [], h => absurd rfl h
  | [p], _ => h1 p
  | p :: q :: ps, _ => h2 p q ps _ rfl (twos_ind n h1 h2 (q :: ps) (by simp))
theorem twos_txt {n : Str} (hn : okS n = true) {ps : List Tm} (h : ps ≠ []) (k : ∀ p ∈ ps, p.txt = true) : (twos n ps).txt = true :=
  twos_ind (C := fun ps t => (∀ p ∈ ps, p.txt = true) → t.txt = true) n (fun p k => k p (List.mem_singleton.mpr rfl)) (fun p q ps t _ ih k => by
    rw [Tm.txt, Tm.txts, Tm.txts, Tm.txts, hn, k p (List.mem_cons_self ..), ih fun x hx => k x (List.mem_cons_of_mem _ hx)]; rfl) ps h k
theorem twos_wt {n : Str} {ps : List Tm} (h : ps ≠ []) : (twos n ps).wt + 1 = Tm.wts ps + ps.length :=
  twos_ind (C := fun ps t => t.wt + 1 = Tm.wts ps + ps.length) n (fun p => by rw [Tm.wts, Tm.wts]; rfl) (fun p q ps t _ ih => by
    have e1 : Tm.wts [p, t] = p.wt + t.wt := by rw [Tm.wts, Tm.wts, Tm.wts, Nat.add_zero]
    have e2 : Tm.wts (p :: q :: ps) = p.wt + Tm.wts (q :: ps) := by rw [Tm.wts]
    rw [Tm.wt, e1, e2, List.length_cons (a := p)]
    omega) ps h
theorem twos_lvs {n : Str} {ps : List Tm} (h : ps ≠ []) : (twos n ps).lvs = Tm.lvsL ps :=
  twos_ind (C := fun ps t => t.lvs = Tm.lvsL ps) n (fun p => by rw [Tm.lvsL, Tm.lvsL, List.append_nil]) (fun p q ps t _ ih => by
    rw [Tm.lvs, Tm.lvsL, Tm.lvsL, Tm.lvsL, ih]; simp [Tm.lvsL]) ps h
theorem twos_ok {fx : List (Str × Nat)} {sm : List (Str × Str)} {n o : Str} (hn : sm.lookup n = some o) {ps : List Tm} (h : ps ≠ []) (k : ∀ p ∈ ps, p.ok fx sm = true) : (twos n ps).ok fx sm = true :=
  twos_ind (C := fun ps t => (∀ p ∈ ps, p.ok fx sm = true) → t.ok fx sm = true) n (fun p k => k p (List.mem_singleton.mpr rfl)) (fun p q ps t _ ih k => by
    rw [Tm.ok, Tm.oks, Tm.oks, Tm.oks, k p (List.mem_cons_self ..), ih fun x hx => k x (List.mem_cons_of_mem _ hx)]
    unfold hasParts
    rw [hn]; rfl) ps h k
theorem twos_deep {n : Str} {D : Nat} {ps : List Tm} (h : ps ≠ []) (k : ∀ p ∈ ps, p.deep + ps.length ≤ D + 1) : (twos n ps).deep ≤ D :=
  twos_ind (C := fun ps t => ∀ D, (∀ p ∈ ps, p.deep + ps.length ≤ D + 1) → t.deep ≤ D) n (fun p D k => by have := k p (List.mem_singleton.mpr rfl); rw [List.length_singleton] at this; omega) (fun p q ps t _ ih D k => by
    rw [Tm.deep, Tm.deeps, Tm.deeps, Tm.deeps]
    have a := k p (List.mem_cons_self ..)
    rw [List.length_cons, List.length_cons] at a
    have c := ih (D - 1) fun x hx => by
      have := k x (List.mem_cons_of_mem _ hx)
      rw [List.length_cons] at this
      omega
    omega) ps h D k
theorem twos_as {n : Str} (l : Bool) {ps : List Tm} (h : ps ≠ []) (k : ∀ p ∈ ps, p.as false = p) : (twos n ps).as false = twos n ps :=
  twos_ind (C := fun ps t => (∀ p ∈ ps, p.as false = p) → t.as false = t) n (fun p k => k p (List.mem_singleton.mpr rfl)) (fun p q ps t _ ih k => by
    rw [Tm.as, Tm.asL, Tm.asL, Tm.asL, k p (List.mem_cons_self ..), ih fun x hx => k x (List.mem_cons_of_mem _ hx)]; rfl) ps h k
theorem twos_pair {sm : List (Str × Str)} {n o : Str} (hn : sm.lookup n = some o) {ps : List Tm} (h : ps ≠ []) (k : ∀ p ∈ ps, p.pair sm = p) : (twos n ps).pair sm = twos n ps :=
  twos_ind (C := fun ps t => (∀ p ∈ ps, p.pair sm = p) → t.pair sm = t) n (fun p k => k p (List.mem_singleton.mpr rfl)) (fun p q ps t _ ih k => by
    rw [Tm.pair, hn, Tm.pairs, Tm.pairs, Tm.pairs, k p (List.mem_cons_self ..), ih fun x hx => k x (List.mem_cons_of_mem _ hx)]; rfl) ps h k
theorem twos_flat {sm : List (Str × Str)} {n o : Str} (hn : sm.lookup n = some o) {ps : List Tm} (h : 2 ≤ ps.length) : (twos n ps).flat sm = (Tm.nd true n ps).flat sm := by
  have key : ∀ ps : List Tm, ps ≠ [] → (2 ≤ ps.length → (twos n ps).flat sm = (Tm.nd true n ps).flat sm) := fun ps hp =>
    twos_ind (C := fun ps t => 2 ≤ ps.length → t.flat sm = (Tm.nd true n ps).flat sm) n (fun p h => by simp at h) (fun p q ps t et ih _ => by
      cases ps with
      | nil =>
        subst et
        rfl
      | cons r ps =>
        have e := ih (by simp)
        have s1 : (Tm.nd true n [p, t]).flat sm = (Tm.nd true n [.nd true n (q :: r :: ps), p]).flat sm := by
          refine flat_perm hn ?_
          rw [Tm.flats, Tm.flats, Tm.flats, Tm.flats, Tm.flats, Tm.flats, e]
          exact List.Perm.swap ..
        rw [s1, flat_bracket hn (d := true)]
        exact flat_perm hn (flats_perm (List.perm_append_singleton p (q :: r :: ps)))) ps hp
  exact key ps (by intro e; rw [e] at h; simp at h) h
section
variable {fx : List (Str × Nat)} {sm : List (Str × Str)}
theorem ok_parts {b : Bool} {n : Str} {ps : List Tm} (h : (Tm.nd b n ps).ok fx sm = true) : ps ≠ [] ∧ (∀ o, sm.lookup n = some o → 2 ≤ ps.length) ∧ ∀ p ∈ ps, p.ok fx sm = true := by
  rw [Tm.ok, Bool.and_eq_true] at h
  obtain ⟨h1, h2⟩ := h
  unfold hasParts at h1
  refine ⟨fun e => ?_, fun o eo => ?_, fun p hp => ?_⟩
  · subst e
    cases q : sm.lookup n with
    | none => rw [q] at h1; simp at h1
    | some o => rw [q] at h1; simp at h1
  · rw [eo] at h1; exact of_decide_eq_true h1
  · rw [Tm.oks_map, List.all_map, List.all_eq_true] at h2
    exact h2 p hp
theorem pairs_ne {ps : List Tm} (h : ps ≠ []) : Tm.pairs sm ps ≠ [] := by
  rw [Tm.pairs_map]; simpa using h
theorem Tm.pair_txt : ∀ t : Tm, t.ok fx sm = true → t.txt = true → (t.pair sm).txt = true := Tm.ind (fun s _ h => h) fun b n ps ih hk h => by
  obtain ⟨h0, h1, h2⟩ := ok_parts hk
  rw [Tm.txt, Bool.and_eq_true] at h
  have all : ∀ p ∈ Tm.pairs sm ps, p.txt = true := fun p hp => by
    rw [Tm.pairs_map] at hp
    obtain ⟨q, hq, e⟩ := List.mem_map.mp hp
    rw [← e]; exact ih q hq (h2 q hq) (Tm.txts_all.mp h.2 q hq)
  rw [Tm.pair]
  cases sm.lookup n with
  | none =>
    show (Tm.nd true n (Tm.pairs sm ps)).txt = true
    rw [Tm.txt, h.1, Tm.txts_all.mpr all]; rfl
  | some o => exact twos_txt h.1 (pairs_ne h0) all
theorem Tm.pair_ok : ∀ t : Tm, t.ok fx sm = true → (t.pair sm).ok fx sm = true := Tm.ind (fun s h => h) fun b n ps ih hk => by
  obtain ⟨h0, h1, h2⟩ := ok_parts hk
  have all : ∀ p ∈ Tm.pairs sm ps, p.ok fx sm = true := fun p hp => by
    rw [Tm.pairs_map] at hp
    obtain ⟨q, hq, e⟩ := List.mem_map.mp hp
    rw [← e]; exact ih q hq (h2 q hq)
  rw [Tm.pair]
  cases q : sm.lookup n with
  | none =>
    show (Tm.nd true n (Tm.pairs sm ps)).ok fx sm = true
    rw [Tm.ok, Bool.and_eq_true] at hk ⊢
    refine ⟨by rw [Tm.pairs_map, List.length_map]; exact hk.1, ?_⟩
    rw [Tm.oks_map, List.all_map, List.all_eq_true]
    exact all
  | some o => exact twos_ok q (pairs_ne h0) all
theorem Tm.pair_lvs : ∀ t : Tm, t.ok fx sm = true → (t.pair sm).lvs = t.lvs := Tm.ind (fun s _ => rfl) fun b n ps ih hk => by
  obtain ⟨h0, h1, h2⟩ := ok_parts hk
  have e : Tm.lvsL (Tm.pairs sm ps) = Tm.lvsL ps := by
    rw [Tm.pairs_map, Tm.lvsL_map, Tm.lvsL_map, List.flatMap_map]
    have : ∀ qs : List Tm, (∀ q ∈ qs, (q.pair sm).lvs = q.lvs) → qs.flatMap (fun a => (a.pair sm).lvs) = qs.flatMap Tm.lvs := by
      intro qs
      induction qs with
      | nil => intro _; rfl
      | cons q qs ih2 => intro hq; rw [List.flatMap_cons, List.flatMap_cons, hq q (List.mem_cons_self ..), ih2 fun x hx => hq x (List.mem_cons_of_mem _ hx)]
    exact this ps fun q hq => ih q hq (h2 q hq)
  rw [Tm.pair]
  cases sm.lookup n with
  | none =>
    show (Tm.nd true n (Tm.pairs sm ps)).lvs = _
    rw [Tm.lvs, Tm.lvs, e]
  | some o =>
    show (twos n (Tm.pairs sm ps)).lvs = _
    rw [twos_lvs (pairs_ne h0), e, Tm.lvs]
theorem Tm.pair_flat : ∀ t : Tm, t.ok fx sm = true → (t.pair sm).flat sm = t.flat sm := Tm.ind (fun s _ => rfl) fun b n ps ih hk => by
  obtain ⟨h0, h1, h2⟩ := ok_parts hk
  have e : Tm.flats sm (Tm.pairs sm ps) = Tm.flats sm ps := by
    rw [Tm.pairs_map, Tm.flats_map, Tm.flats_map, List.map_map]
    exact List.map_congr_left fun q hq => ih q hq (h2 q hq)
  rw [Tm.pair]
  cases q : sm.lookup n with
  | none =>
    show (Tm.nd true n (Tm.pairs sm ps)).flat sm = _
    rw [Tm.flat, Tm.flat, q, e]
  | some o =>
    show (twos n (Tm.pairs sm ps)).flat sm = _
    rw [twos_flat q (by rw [Tm.pairs_map, List.length_map]; exact h1 o q), Tm.flat, Tm.flat, q, e]
theorem Tm.pair_as : ∀ t : Tm, t.ok fx sm = true → (t.pair sm).as false = t.pair sm := Tm.ind (fun s _ => rfl) fun b n ps ih hk => by
  obtain ⟨h0, h1, h2⟩ := ok_parts hk
  have all : ∀ p ∈ Tm.pairs sm ps, p.as false = p := fun p hp => by
    rw [Tm.pairs_map] at hp
    obtain ⟨q, hq, e⟩ := List.mem_map.mp hp
    rw [← e]; exact ih q hq (h2 q hq)
  have e : Tm.asL false (Tm.pairs sm ps) = Tm.pairs sm ps := by
    rw [Tm.asL_map]
    conv => rhs; rw [← List.map_id (Tm.pairs sm ps)]
    exact List.map_congr_left fun q hq => all q hq
  rw [Tm.pair]
  cases sm.lookup n with
  | none =>
    show (Tm.nd true n (Tm.pairs sm ps)).as false = Tm.nd true n (Tm.pairs sm ps)
    rw [Tm.as, e]; rfl
  | some o => exact twos_as false (pairs_ne h0) all
theorem Tm.pair_pair : ∀ t : Tm, t.ok fx sm = true → (t.pair sm).pair sm = t.pair sm := Tm.ind (fun s _ => rfl) fun b n ps ih hk => by
  obtain ⟨h0, h1, h2⟩ := ok_parts hk
  have all : ∀ p ∈ Tm.pairs sm ps, p.pair sm = p := fun p hp => by
    rw [Tm.pairs_map] at hp
    obtain ⟨q, hq, e⟩ := List.mem_map.mp hp
    rw [← e]; exact ih q hq (h2 q hq)
  have e : Tm.pairs sm (Tm.pairs sm ps) = Tm.pairs sm ps := by
    rw [Tm.pairs_map sm (Tm.pairs sm ps)]
    conv => rhs; rw [← List.map_id (Tm.pairs sm ps)]
    exact List.map_congr_left fun q hq => all q hq
  rw [Tm.pair]
  cases q : sm.lookup n with
  | none =>
    show (Tm.nd true n (Tm.pairs sm ps)).pair sm = Tm.nd true n (Tm.pairs sm ps)
    rw [Tm.pair, q, e]
  | some o => exact twos_pair q (pairs_ne h0) all
theorem Tm.pair_wt : ∀ t : Tm, t.ok fx sm = true → (t.pair sm).wt + 1 ≤ 2 * t.wt := Tm.ind (fun s _ => by rw [Tm.pair, Tm.wt]; decide) fun b n ps ih hk => by
  obtain ⟨h0, h1, h2⟩ := ok_parts hk
  have s : Tm.wts (Tm.pairs sm ps) + ps.length ≤ 2 * Tm.wts ps := by
    rw [Tm.pairs_map]
    have : ∀ qs : List Tm, (∀ q ∈ qs, (q.pair sm).wt + 1 ≤ 2 * q.wt) → Tm.wts (qs.map (Tm.pair sm)) + qs.length ≤ 2 * Tm.wts qs := by
      intro qs
      induction qs with
      | nil => intro _; exact Nat.le_refl _
      | cons q qs ih2 =>
        intro hq
        have a := hq q (List.mem_cons_self ..)
        have c := ih2 fun x hx => hq x (List.mem_cons_of_mem _ hx)
        rw [List.map_cons, Tm.wts, Tm.wts, List.length_cons]
        omega
    exact this ps fun q hq => ih q hq (h2 q hq)
  have l1 : 1 ≤ ps.length := List.length_pos_iff.mpr h0
  rw [Tm.pair, Tm.wt]
  cases sm.lookup n with
  | none =>
    show (Tm.nd true n (Tm.pairs sm ps)).wt + 1 ≤ _
    rw [Tm.wt]; omega
  | some o =>
    show (twos n (Tm.pairs sm ps)).wt + 1 ≤ _
    have := twos_wt (n := n) (pairs_ne (sm := sm) h0)
    rw [this, Tm.pairs_map, List.length_map, ← Tm.pairs_map]
    omega
theorem lvs_pos : ∀ t : Tm, t.ok fx sm = true → 1 ≤ t.lvs.length := Tm.ind (fun s _ => Nat.le_refl _) fun b n ps ih hk => by
  obtain ⟨h0, h1, h2⟩ := ok_parts hk
  cases ps with
  | nil => exact absurd rfl h0
  | cons p ps =>
    rw [Tm.lvs, Tm.lvsL, List.length_append]
    have := ih p (List.mem_cons_self ..) (h2 p (List.mem_cons_self ..))
    omega
theorem lvsL_ge {ps : List Tm} (h : ∀ p ∈ ps, 1 ≤ p.lvs.length) {q : Tm} (hq : q ∈ ps) : q.lvs.length + ps.length ≤ (Tm.lvsL ps).length + 1 := by
  induction ps with
  | nil => cases hq
  | cons p ps ih =>
    have hl : ps.length ≤ (Tm.lvsL ps).length := by
      clear ih hq
      induction ps with
      | nil => exact Nat.le_refl _
      | cons r ps ih =>
        rw [Tm.lvsL, List.length_append, List.length_cons]
        have := h r (by simp)
        have := ih fun x hx => h x (by rcases List.mem_cons.mp hx with rfl | hx <;> simp_all)
        omega
    rw [Tm.lvsL, List.length_append, List.length_cons]
    have p1 := h p (List.mem_cons_self ..)
    rcases List.mem_cons.mp hq with rfl | hq
    · omega
    · have := ih (fun x hx => h x (List.mem_cons_of_mem _ hx)) hq
      omega
theorem Tm.pair_deep : ∀ t : Tm, t.ok fx sm = true → (t.pair sm).deep + 1 ≤ t.lvs.length + t.deep := Tm.ind (fun s _ => by rw [Tm.pair, Tm.deep, Tm.lvs]; exact Nat.le_refl _) fun b n ps ih hk => by
  obtain ⟨h0, h1, h2⟩ := ok_parts hk
  have bd : ∀ p ∈ Tm.pairs sm ps, p.deep + ps.length ≤ (Tm.lvsL ps).length + Tm.deeps ps := fun p hp => by
    rw [Tm.pairs_map] at hp
    obtain ⟨q, hq, e⟩ := List.mem_map.mp hp
    rw [← e]
    have a := ih q hq (h2 q hq)
    have c := lvsL_ge (fun x hx => lvs_pos x (h2 x hx)) hq
    have d := Tm.deeps_le.mp (Nat.le_refl _) q hq
    omega
  have l1 : 1 ≤ ps.length := List.length_pos_iff.mpr h0
  rw [Tm.pair, Tm.deep, Tm.lvs]
  cases sm.lookup n with
  | none =>
    show (Tm.nd true n (Tm.pairs sm ps)).deep + 1 ≤ _
    rw [Tm.deep]
    have : Tm.deeps (Tm.pairs sm ps) + 1 ≤ (Tm.lvsL ps).length + Tm.deeps ps := by
      have : Tm.deeps (Tm.pairs sm ps) ≤ (Tm.lvsL ps).length + Tm.deeps ps - 1 := Tm.deeps_le.mpr fun p hp => by have := bd p hp; omega
      cases ps with
      | nil => exact absurd rfl h0
      | cons p ps =>
        have := bd (p.pair sm) (by rw [Tm.pairs]; exact List.mem_cons_self ..)
        omega
    omega
  | some o =>
    show (twos n (Tm.pairs sm ps)).deep + 1 ≤ _
    have : (twos n (Tm.pairs sm ps)).deep ≤ (Tm.lvsL ps).length + Tm.deeps ps := twos_deep (pairs_ne h0) fun p hp => by
      have := bd p hp
      rw [Tm.pairs_map, List.length_map]; omega
    omega
end
mutual
theorem Tm.as_pair (sm : List (Str × Str)) (l : Bool) : ∀ t : Tm, (t.as l).pair sm = t.pair sm
  | .lf s => by rw [Tm.as]
  | .nd b n ps => by rw [Tm.as, Tm.pair, Tm.pair, Tm.asL_pair sm l ps]
theorem Tm.asL_pair (sm : List (Str × Str)) (l : Bool) : ∀ ts : List Tm, Tm.pairs sm (Tm.asL l ts) = Tm.pairs sm ts
  | [] => by rw [Tm.asL]
  | p :: ps => by rw [Tm.asL, Tm.pairs, Tm.pairs, Tm.as_pair sm l p, Tm.asL_pair sm l ps]
end
end G
set_option Elab.async false
set_option linter.all false
set_option maxRecDepth 100000
set_option maxHeartbeats 4000000
namespace G
open PySem L2
section
variable {g : Gx} {Γ : Gm} {P Q R : Pr} {e e1 e2 tg : Expr} {pos p2 : Pos} {D : En} {st : Stmt} {ss rest : List Stmt} {rs qs : List Pr}
/-- [e for i in range(n)], n known by words only: what is known of i stands -/
theorem l_lcb {elt iter : Expr} {ifs : List Expr} {scope : Scope} (own : List (Str × Nat)) {φ : Nat → Prop} {it : Nat → Pr} {Γ2 : Nat → Gm} (c : Nat → Bool) (q : Nat → Pr) {sl : List Nat} (hI : JIx g tg iter Γ φ it) (hn : ∀ n, φ n → n < sizeLine)
    (hg : AnyB scope g fun g' => ∀ i, (∃ n, φ n ∧ i < n) → JG g' tg (it i) (wipeG Γ (own.map (·.2))) (Γ2 i) sl) (hsl : ∀ i ∈ sl, i ∈ own.map (·.2) := by decide)
    (ht : AnyB scope g fun g' => ∀ i, (∃ n, φ n ∧ i < n) → JTs g' ifs (Γ2 i) (c i)) (he : AnyB scope g fun g' => ∀ i, (∃ n, φ n ∧ i < n) → c i = true → JE g' elt (Γ2 i) (q i))
    (ok : BlkOk g.X.N g.X.env.scope scope own := by exact blkOk_by (by rfl)) : JLc g elt tg iter ifs scope own Γ (Oc.exs φ (fun n => oL (gv n c q)) 0) := by
  refine ⟨ok, fun w σ B H s => ⟨bT g scope ifs, fun s0 H0 C cl fp => ⟨fun pins s σ H Q I h => h s0 H0 C cl fp pins s I⟩, ?_⟩⟩
  intro pins s1 I1
  refine thn (hI.run w σ B H s pins s1 I1) fun v s2 h2 => thn h2 fun itv s3 h3 => ?_
  obtain ⟨itA, fp, tn, J, H3, e1, e2, e3, e4, e5, n, hφ, B1, a1, Gw, Y, wk, kg, ky⟩ := h3
  refine ⟨itA, fp, tn, J, H3, e1, e2, e3, e4, e5, fun Dl hD => ?_⟩
  have hDn : H Dl = none := a1.th hD
  refine lc_it (g := bG g scope tg) (tt := bT g scope ifs) (te := bE g scope elt) (vs := own.map (·.2)) (σ := σ) (H1 := H3) (D := Dl) (Qd := fun H' => ∃ B', Aft g.b Γ σ B H B' H' ∧ Own g.b (Oc.exs φ (fun n => oL (gv n c q)) 0) (.ref Dl) B' H' ∧ ∀ a ∈ (Oc.exs φ (fun n => oL (gv n c q)) 0).ad (.ref Dl) H', H a = none) wk (fun i H' => ∃ B' acc, Stp B H B' H' ∧ Le B1 B' ∧ B' Dl = none ∧ H' Dl = some (.lst acc) ∧ F2 B' acc (gv i c q)) ?_ (fun i H' hi ⟨B', acc, t, l, _⟩ => kg B' H' l t.ok) ?_ ?_
  · exact ⟨B1, [], (a1.trans (a1.sta.beside hD)).t, Le.refl _, a1.sta.st.ok.none hD, upd_same, trivial⟩
  · intro i x H' H'' hi ⟨B', acc, t, l, nD, hacc, f⟩ y
    obtain ⟨B2, t2, p⟩ := ky i H' x H'' B' hi l t.ok y
    have tt2 : Stp B H B2 H'' := t.trans t2
    have nD2 : B2 Dl = none := by
      cases z : B2 Dl with
      | none => rfl
      | some k => exact (Hard.no (by rw [hacc]; exact hard_lst) (t2.new Dl nD k z)).elim
    have hacc2 : H'' Dl = some (.lst acc) := t2.keep Dl _ hacc fun φ z => by rw [nD] at z; cases z
    have sw := ((s.step tt2).sta).wipe (own.map (·.2))
    intro s0 H0 C cl fp'
    refine (hg s0 H0 C cl fp' i ⟨n, hφ, hi⟩).run w.blk _ B2 H'' x sw p _ fun σ2 s4 hw => ?_
    refine ⟨?_, fun s0 H0 C cl fp' => ?_⟩
    · have z := hw (own.map (·.2)) hsl
      rw [z]
      exact wipe_wipe σ _
    · refine (ht s0 H0 C cl fp' i ⟨n, hφ, hi⟩).run w.blk σ2 B2 H'' s4 _ fun B5 H5 a5 => ?_
      have nD5 : B5 Dl = none := by
        cases z : B5 Dl with
        | none => rfl
        | some k => exact (Hard.no (by rw [hacc2]; exact hard_lst) (a5.t.new Dl nD2 k z)).elim
      have hacc5 : H5 Dl = some (.lst acc) := a5.t.keep Dl _ hacc2 fun φ z => by rw [nD2] at z; cases z
      cases hc : c i with
      | true =>
        rw [if_pos rfl]
        intro s0 H0 C cl fp'
        refine ((he s0 H0 C cl fp' i ⟨n, hφ, hi⟩ hc).run w.blk σ2 B5 H5 a5.sta).mono fun y H6 ⟨B6, a6, py⟩ => ?_
        have nD6 : B6 Dl = none := by
          cases z : B6 Dl with
          | none => rfl
          | some k => exact (Hard.no (by rw [hacc5]; exact hard_lst) (a6.t.new Dl nD5 k z)).elim
        have hacc6 : H6 Dl = some (.lst acc) := a6.t.keep Dl _ hacc5 fun φ z => by rw [nD5] at z; cases z
        refine ⟨acc, hacc6, ?_, B6, acc ++ [y], (tt2.trans (a5.t.trans a6.t)).chg' nD6 hDn, l.trans (t2.le.trans (a5.le.trans a6.le)), nD6, upd_same, ?_⟩
        · rw [f.len]; exact Nat.lt_of_le_of_lt (gv_len i c q) (Nat.lt_trans hi (hn n hφ))
        · rw [gv_succ, if_pos hc]
          exact (f.mono (t2.le.trans (a5.le.trans a6.le))).append ⟨py, trivial⟩
      | false =>
        rw [if_neg (by decide)]
        refine ⟨B5, acc, tt2.trans a5.t, l.trans (t2.le.trans a5.le), nD5, hacc5, ?_⟩
        rw [gv_succ, if_neg (by rw [hc]; decide), List.append_nil]
        exact f.mono (t2.le.trans a5.le)
  · intro H' ⟨B', acc, t, l, nD, hacc, f⟩
    have o := own_mk nD (s.st.bnone hDn) hacc f
    exact ⟨B', s.step t, ⟨o.nb, o.nh, o.th, n, hφ, o.at_⟩, one_fresh hDn⟩

end
end G
set_option Elab.async false
set_option linter.all false
set_option maxRecDepth 100000
set_option maxHeartbeats 4000000
/-! plain: terms with two parts in each sum, single steps on them -/
namespace G
open PySem PySem.W PyProof.Rows
mutual
/-- all tuples, each sum of two parts -/
def Tm.two (sm : List (Str × Str)) : Tm → Bool
  | .lf _ => true
  | .nd b n ps => (b && (decide (sm.lookup n = none) || decide (ps.length = 2))) && Tm.twoL sm ps
def Tm.twoL (sm : List (Str × Str)) : List Tm → Bool
  | [] => true
  | p :: ps => p.two sm && Tm.twoL sm ps
end
theorem Tm.twoL_all {sm : List (Str × Str)} : ∀ {ps : List Tm}, Tm.twoL sm ps = true ↔ ∀ p ∈ ps, p.two sm = true
  | [] => by rw [Tm.twoL]; simp
  | p :: ps => by rw [Tm.twoL, Bool.and_eq_true, Tm.twoL_all (ps := ps)]; simp
theorem two_nd {sm : List (Str × Str)} {b : Bool} {n : Str} {ps : List Tm} : (Tm.nd b n ps).two sm = true ↔ b = true ∧ (sm.lookup n = none ∨ ps.length = 2) ∧ ∀ p ∈ ps, p.two sm = true := by
  rw [Tm.two, Bool.and_eq_true, Bool.and_eq_true, Bool.or_eq_true, decide_eq_true_eq, decide_eq_true_eq, Tm.twoL_all, and_assoc]
theorem twos_two {sm : List (Str × Str)} {n : Str} : ∀ {ps : List Tm}, ps ≠ [] → (∀ p ∈ ps, p.two sm = true) → (twos n ps).two sm = true := fun {ps} h k =>
  twos_ind (C := fun ps t => (∀ p ∈ ps, p.two sm = true) → t.two sm = true) n (fun p k => k p (List.mem_singleton.mpr rfl)) (fun p q ps t _ ih k => two_nd.mpr ⟨rfl, .inr rfl, fun x hx => by
    rcases List.mem_cons.mp hx with rfl | hx
    · exact k _ (List.mem_cons_self ..)
    · rw [List.mem_singleton.mp hx]; exact ih fun y hy => k y (List.mem_cons_of_mem _ hy)⟩) ps h k
section
variable {fx : List (Str × Nat)} {sm : List (Str × Str)}
theorem Tm.pair_two : ∀ t : Tm, t.ok fx sm = true → (t.pair sm).two sm = true := Tm.ind (fun s _ => by rw [Tm.pair, Tm.two]) fun b n ps ih hk => by
  obtain ⟨h0, h1, h2⟩ := ok_parts hk
  have all : ∀ p ∈ Tm.pairs sm ps, p.two sm = true := fun p hp => by
    rw [Tm.pairs_map] at hp
    obtain ⟨q, hq, e⟩ := List.mem_map.mp hp
    rw [← e]; exact ih q hq (h2 q hq)
  rw [Tm.pair]
  cases e : sm.lookup n with
  | none => exact two_nd.mpr ⟨rfl, .inl e, all⟩
  | some o => exact twos_two (pairs_ne h0) all
theorem Tm.two_pair : ∀ t : Tm, t.two sm = true → t.pair sm = t := Tm.ind (fun s _ => by rw [Tm.pair]) fun b n ps ih hk => by
  obtain ⟨h0, h1, h2⟩ := two_nd.mp hk
  have e : Tm.pairs sm ps = ps := by
    rw [Tm.pairs_map]
    conv => rhs; rw [← List.map_id ps]
    exact List.map_congr_left fun p hp => ih p hp (h2 p hp)
  rw [Tm.pair, e]
  cases q : sm.lookup n with
  | none => show Tm.nd true n ps = _; rw [h0]
  | some o =>
    show twos n ps = _
    rcases h1 with h1 | h1
    · rw [q] at h1; cases h1
    · match ps, h1 with
      | [x, y], _ => rw [twos, twos, h0]
theorem Tm.two_as : ∀ t : Tm, t.two sm = true → t.as false = t := Tm.ind (fun s _ => by rw [Tm.as]) fun b n ps ih hk => by
  obtain ⟨h0, h1, h2⟩ := two_nd.mp hk
  have e : Tm.asL false ps = ps := by
    rw [Tm.asL_map]
    conv => rhs; rw [← List.map_id ps]
    exact List.map_congr_left fun p hp => ih p hp (h2 p hp)
  rw [Tm.as, e, h0]; rfl
end
/-- what stands at a place -/
def Tm.sub : List Nat → Tm → Option Tm
  | [], t => some t
  | _ :: _, .lf _ => none
  | k :: pl, .nd _ _ ps => match ps[k]? with
    | none => none
    | some p => Tm.sub pl p
/-- something else put there -/
def Tm.put : List Nat → Tm → Tm → Tm
  | [], q, _ => q
  | _ :: _, _, .lf s => .lf s
  | k :: pl, q, .nd _ n ps => match ps[k]? with
    | none => .nd true n ps
    | some p => .nd true n (ps.set k (Tm.put pl q p))
inductive StK | turn | left | right | drop | add
def StK.back : StK → StK
  | .turn => .turn
  | .left => .right
  | .right => .left
  | .drop => .add
  | .add => .drop
def isLf (o : Str) : Tm → Bool
  | .lf s => decide (s = o)
  | .nd _ _ _ => false
/-- a sum of two parts -/
def Tm.halves (n : Str) : Tm → Option (Tm × Tm)
  | .nd _ m [a, b] => if m = n then some (a, b) else none
  | _ => none
def chg (n o : Str) : StK → Tm → Option Tm
  | .turn, t => (t.halves n).map fun z => .nd true n [z.2, z.1]
  | .left, t => (t.halves n).bind fun z => (z.2.halves n).map fun y => .nd true n [.nd true n [z.1, y.1], y.2]
  | .right, t => (t.halves n).bind fun z => (z.1.halves n).map fun y => .nd true n [y.1, .nd true n [y.2, z.2]]
  | .drop, t => (t.halves n).bind fun z => if isLf o z.2 then some z.1 else none
  | .add, t => if o = ("" : Str) then none else some (.nd true n [t, .lf o])
def Tm.step (n o : Str) (k : StK) (pl : List Nat) (t : Tm) : Option Tm := (Tm.sub pl t).bind fun x => (chg n o k x).map fun y => Tm.put pl y t
theorem halves_eq {n : Str} {t : Tm} {z : Tm × Tm} (h : t.halves n = some z) : ∃ b, t = .nd b n [z.1, z.2] := by
  match t, h with
  | .nd b m [x, y], h =>
    rw [Tm.halves] at h
    by_cases e : m = n
    · rw [if_pos e] at h; cases h; exact ⟨b, by rw [e]⟩
    · rw [if_neg e] at h; cases h
  | .lf _, h => cases h
  | .nd _ _ [], h => cases h
  | .nd _ _ [_], h => cases h
  | .nd _ _ (_ :: _ :: _ :: _), h => cases h
theorem halves_nd {n : Str} {b : Bool} {x y : Tm} : (Tm.nd b n [x, y]).halves n = some (x, y) := by rw [Tm.halves, if_pos rfl]
/-- what is asked of a term under way -/
structure Gd (fx : List (Str × Nat)) (sm : List (Str × Str)) (t : Tm) : Prop where
  ok : t.ok fx sm = true
  txt : t.txt = true
  two : t.two sm = true
section
variable {fx : List (Str × Nat)} {sm : List (Str × Str)} {n o : Str}
theorem ok_nd {b : Bool} {ps : List Tm} : (Tm.nd b n ps).ok fx sm = true ↔ hasParts fx sm n ps.length = true ∧ ∀ p ∈ ps, p.ok fx sm = true := by
  rw [Tm.ok, Bool.and_eq_true, Tm.oks_map, List.all_map, List.all_eq_true]; rfl
theorem txt_nd {b : Bool} {ps : List Tm} : (Tm.nd b n ps).txt = true ↔ okS n = true ∧ ∀ p ∈ ps, p.txt = true := by
  rw [Tm.txt, Bool.and_eq_true, Tm.txts_all]
theorem Gd.parts {b : Bool} {ps : List Tm} (h : Gd fx sm (.nd b n ps)) {p : Tm} (hp : p ∈ ps) : Gd fx sm p := ⟨(ok_nd.mp h.ok).2 p hp, (txt_nd.mp h.txt).2 p hp, (two_nd.mp h.two).2.2 p hp⟩
theorem Gd.of {x y : Tm} (hn : sm.lookup n = some o) (tn : okS n = true) (h1 : Gd fx sm x) (h2 : Gd fx sm y) : Gd fx sm (.nd true n [x, y]) := by
  have mem : ∀ p ∈ [x, y], Gd fx sm p := fun p hp => by
    rcases List.mem_cons.mp hp with rfl | hp
    · exact h1
    · rw [List.mem_singleton.mp hp]; exact h2
  exact ⟨ok_nd.mpr ⟨by unfold hasParts; rw [hn]; rfl, fun p hp => (mem p hp).ok⟩, txt_nd.mpr ⟨tn, fun p hp => (mem p hp).txt⟩, two_nd.mpr ⟨rfl, .inr rfl, fun p hp => (mem p hp).two⟩⟩
theorem Gd.halves {t : Tm} {z : Tm × Tm} (h : Gd fx sm t) (e : t.halves n = some z) : Gd fx sm z.1 ∧ Gd fx sm z.2 ∧ t = .nd true n [z.1, z.2] := by
  obtain ⟨b, e⟩ := halves_eq e
  subst e
  have hb : b = true := (two_nd.mp h.two).1
  exact ⟨h.parts (List.mem_cons_self ..), h.parts (List.mem_cons_of_mem _ (List.mem_singleton.mpr rfl)), by rw [hb]⟩
theorem isLf_eq {t : Tm} (h : isLf o t = true) : t = .lf o := by
  cases t with
  | lf s => rw [of_decide_eq_true h]
  | nd b m ps => cases h
/-- a step, undone -/
theorem chg_back {k : StK} {t t' : Tm} (h : Gd fx sm t) (e : chg n o k t = some t') (hd : k = .drop → ¬ o = ("" : Str)) : chg n o k.back t' = some t := by
  cases k with
  | turn =>
    obtain ⟨z, e1, e2⟩ := Option.map_eq_some_iff.mp e
    subst e2
    rw [(h.halves e1).2.2]
    show ((Tm.nd true n [z.2, z.1]).halves n).map _ = _
    rw [halves_nd]; rfl
  | left =>
    obtain ⟨z, e1, e2⟩ := Option.bind_eq_some_iff.mp e
    obtain ⟨y, e3, e4⟩ := Option.map_eq_some_iff.mp e2
    subst e4
    have hz := h.halves e1
    rw [hz.2.2, (hz.2.1.halves e3).2.2]
    show ((Tm.nd true n [.nd true n [z.1, y.1], y.2]).halves n).bind _ = _
    rw [halves_nd]
    show ((Tm.nd true n [z.1, y.1]).halves n).map _ = _
    rw [halves_nd]; rfl
  | right =>
    obtain ⟨z, e1, e2⟩ := Option.bind_eq_some_iff.mp e
    obtain ⟨y, e3, e4⟩ := Option.map_eq_some_iff.mp e2
    subst e4
    have hz := h.halves e1
    rw [hz.2.2, (hz.1.halves e3).2.2]
    show ((Tm.nd true n [y.1, .nd true n [y.2, z.2]]).halves n).bind _ = _
    rw [halves_nd]
    show ((Tm.nd true n [y.2, z.2]).halves n).map _ = _
    rw [halves_nd]; rfl
  | drop =>
    obtain ⟨z, e1, e2⟩ := Option.bind_eq_some_iff.mp e
    have hz := h.halves e1
    by_cases q : isLf o z.2 = true
    · rw [if_pos q] at e2
      cases e2
      show (if o = ("" : Str) then none else some (Tm.nd true n [z.1, .lf o])) = _
      rw [if_neg (hd rfl), hz.2.2, isLf_eq q]
    · rw [if_neg q] at e2; cases e2
  | add =>
    by_cases q : o = ("" : Str)
    · have e : (if o = ("" : Str) then none else some (Tm.nd true n [t, .lf o])) = some t' := e
      rw [if_pos q] at e; cases e
    · have e : (if o = ("" : Str) then none else some (Tm.nd true n [t, .lf o])) = some t' := e
      rw [if_neg q] at e
      cases e
      show ((Tm.nd true n [t, .lf o]).halves n).bind _ = _
      rw [halves_nd]
      show (if isLf o (.lf o) = true then some t else none) = _
      rw [if_pos (by show decide (o = o) = true; simp)]
theorem chg_gd {k : StK} {t t' : Tm} (hn : sm.lookup n = some o) (tn : okS n = true) (hb : ¬ o = ("" : Str) → fx.lookup o = some 0 ∧ okS o = true) (h : Gd fx sm t) (e : chg n o k t = some t') : Gd fx sm t' := by
  cases k with
  | turn =>
    obtain ⟨z, e1, e2⟩ := Option.map_eq_some_iff.mp e
    subst e2
    have hz := h.halves e1
    exact Gd.of hn tn hz.2.1 hz.1
  | left =>
    obtain ⟨z, e1, e2⟩ := Option.bind_eq_some_iff.mp e
    obtain ⟨y, e3, e4⟩ := Option.map_eq_some_iff.mp e2
    subst e4
    have hz := h.halves e1
    have hy := hz.2.1.halves e3
    exact Gd.of hn tn (Gd.of hn tn hz.1 hy.1) hy.2.1
  | right =>
    obtain ⟨z, e1, e2⟩ := Option.bind_eq_some_iff.mp e
    obtain ⟨y, e3, e4⟩ := Option.map_eq_some_iff.mp e2
    subst e4
    have hz := h.halves e1
    have hy := hz.1.halves e3
    exact Gd.of hn tn hy.1 (Gd.of hn tn hy.2.1 hz.2.1)
  | drop =>
    obtain ⟨z, e1, e2⟩ := Option.bind_eq_some_iff.mp e
    have hz := h.halves e1
    by_cases q : isLf o z.2 = true
    · rw [if_pos q] at e2
      cases e2
      exact hz.1
    · rw [if_neg q] at e2; cases e2
  | add =>
    have e : (if o = ("" : Str) then none else some (Tm.nd true n [t, .lf o])) = some t' := e
    by_cases q : o = ("" : Str)
    · rw [if_pos q] at e; cases e
    · rw [if_neg q] at e
      cases e
      exact Gd.of hn tn h ⟨by rw [Tm.ok, (hb q).1]; simp, by rw [Tm.txt]; exact (hb q).2, by rw [Tm.two]⟩
theorem chg_flat {k : StK} {t t' : Tm} (hn : sm.lookup n = some o) (h : Gd fx sm t) (e : chg n o k t = some t') : t'.flat sm = t.flat sm := by
  cases k with
  | turn =>
    obtain ⟨z, e1, e2⟩ := Option.map_eq_some_iff.mp e
    subst e2
    rw [(h.halves e1).2.2]
    exact flat_perm hn (flats_perm (List.Perm.swap ..))
  | left =>
    obtain ⟨z, e1, e2⟩ := Option.bind_eq_some_iff.mp e
    obtain ⟨y, e3, e4⟩ := Option.map_eq_some_iff.mp e2
    subst e4
    have hz := h.halves e1
    rw [hz.2.2, (hz.2.1.halves e3).2.2, flat_bracket hn (d := true)]
    rw [flat_perm hn (b := true) (c := true) (ps := [z.1, .nd true n [y.1, y.2]]) (qs := [.nd true n [y.1, y.2], z.1]) (flats_perm (List.Perm.swap ..)), flat_bracket hn (d := true)]
    exact flat_perm hn (flats_perm (List.perm_append_singleton z.1 [y.1, y.2]).symm)
  | right =>
    obtain ⟨z, e1, e2⟩ := Option.bind_eq_some_iff.mp e
    obtain ⟨y, e3, e4⟩ := Option.map_eq_some_iff.mp e2
    subst e4
    have hz := h.halves e1
    rw [hz.2.2, (hz.1.halves e3).2.2, flat_bracket hn (d := true)]
    rw [flat_perm hn (b := true) (c := true) (ps := [y.1, .nd true n [y.2, z.2]]) (qs := [.nd true n [y.2, z.2], y.1]) (flats_perm (List.Perm.swap ..)), flat_bracket hn (d := true)]
    exact flat_perm hn (flats_perm (List.perm_append_singleton y.1 [y.2, z.2]))
  | drop =>
    obtain ⟨z, e1, e2⟩ := Option.bind_eq_some_iff.mp e
    have hz := h.halves e1
    by_cases q : isLf o z.2 = true
    · rw [if_pos q] at e2
      cases e2
      rw [hz.2.2, isLf_eq q]
      exact (flat_beside hn true z.1).1.symm
    · rw [if_neg q] at e2; cases e2
  | add =>
    have e : (if o = ("" : Str) then none else some (Tm.nd true n [t, .lf o])) = some t' := e
    by_cases q : o = ("" : Str)
    · rw [if_pos q] at e; cases e
    · rw [if_neg q] at e
      cases e
      exact (flat_beside hn true t).1
end
section
variable {fx : List (Str × Nat)} {sm : List (Str × Str)}
theorem sub_lf {k : Nat} {pl : List Nat} {s : Str} {x : Tm} : Tm.sub (k :: pl) (.lf s) = some x → False := fun h => by cases h
theorem sub_nd {k : Nat} {pl : List Nat} {b : Bool} {n : Str} {ps : List Tm} {x : Tm} (h : Tm.sub (k :: pl) (.nd b n ps) = some x) : ∃ p, ps[k]? = some p ∧ Tm.sub pl p = some x := by
  rw [Tm.sub] at h
  cases q : ps[k]? with
  | none => rw [q] at h; cases h
  | some p => rw [q] at h; exact ⟨p, rfl, h⟩
theorem put_nd {k : Nat} {pl : List Nat} {b : Bool} {n : Str} {ps : List Tm} {p y : Tm} (h : ps[k]? = some p) : Tm.put (k :: pl) y (.nd b n ps) = .nd true n (ps.set k (Tm.put pl y p)) := by
  rw [Tm.put, h]
theorem Gd.sub : ∀ {pl : List Nat} {t x : Tm}, Gd fx sm t → Tm.sub pl t = some x → Gd fx sm x
  | [], t, x, h, e => by rw [Tm.sub] at e; cases e; exact h
  | k :: pl, .lf s, x, h, e => (sub_lf e).elim
  | k :: pl, .nd b n ps, x, h, e => by
    obtain ⟨p, hp, e2⟩ := sub_nd e
    exact Gd.sub (h.parts (List.mem_of_getElem? hp)) e2
theorem mem_set {ps : List Tm} {k : Nat} {q x : Tm} (h : x ∈ ps.set k q) : x ∈ ps ∨ x = q := List.mem_or_eq_of_mem_set h
theorem Gd.put : ∀ {pl : List Nat} {t x y : Tm}, Gd fx sm t → Tm.sub pl t = some x → Gd fx sm y → Gd fx sm (Tm.put pl y t)
  | [], t, x, y, h, e, g => by rw [Tm.put]; exact g
  | k :: pl, .lf s, x, y, h, e, g => (sub_lf e).elim
  | k :: pl, .nd b n ps, x, y, h, e, g => by
    obtain ⟨p, hp, e2⟩ := sub_nd e
    have ih := Gd.put (h.parts (List.mem_of_getElem? hp)) e2 g
    have all : ∀ q ∈ ps.set k (Tm.put pl y p), Gd fx sm q := fun q hq => by
      rcases mem_set hq with hq | rfl
      · exact h.parts hq
      · exact ih
    rw [put_nd hp]
    refine ⟨ok_nd.mpr ⟨by rw [List.length_set]; exact (ok_nd.mp h.ok).1, fun q hq => (all q hq).ok⟩, txt_nd.mpr ⟨(txt_nd.mp h.txt).1, fun q hq => (all q hq).txt⟩, two_nd.mpr ⟨rfl, ?_, fun q hq => (all q hq).two⟩⟩
    rw [List.length_set]
    exact (two_nd.mp h.two).2.1
theorem sub_put : ∀ {pl : List Nat} {t x y : Tm}, Tm.sub pl t = some x → Tm.sub pl (Tm.put pl y t) = some y
  | [], t, x, y, e => by rw [Tm.put, Tm.sub]
  | k :: pl, .lf s, x, y, e => (sub_lf e).elim
  | k :: pl, .nd b n ps, x, y, e => by
    obtain ⟨p, hp, e2⟩ := sub_nd e
    have hk := (List.getElem?_eq_some_iff.mp hp).1
    rw [put_nd hp, Tm.sub, List.getElem?_set_self hk]
    exact sub_put e2
theorem put_put : ∀ {pl : List Nat} {t x y : Tm}, t.two sm = true → Tm.sub pl t = some x → Tm.put pl x (Tm.put pl y t) = t
  | [], t, x, y, h, e => by rw [Tm.sub] at e; cases e; rw [Tm.put]
  | k :: pl, .lf s, x, y, h, e => (sub_lf e).elim
  | k :: pl, .nd b n ps, x, y, h, e => by
    obtain ⟨p, hp, e2⟩ := sub_nd e
    obtain ⟨hk, ek⟩ := List.getElem?_eq_some_iff.mp hp
    obtain ⟨h0, h1, h2⟩ := two_nd.mp h
    rw [put_nd hp, put_nd (p := Tm.put pl y p) (by rw [List.getElem?_set_self hk]), List.set_set, put_put (h2 p (List.mem_of_getElem? hp)) e2, h0, ← ek, List.set_getElem_self]
theorem flats_set {ps : List Tm} {k : Nat} {p q : Tm} (hp : ps[k]? = some p) (e : q.flat sm = p.flat sm) : Tm.flats sm (ps.set k q) = Tm.flats sm ps := by
  obtain ⟨hk, ek⟩ := List.getElem?_eq_some_iff.mp hp
  rw [Tm.flats_map, Tm.flats_map, List.map_set, e, ← ek]
  have : (ps.map (Tm.flat sm))[k]'(by rw [List.length_map]; exact hk) = (ps[k]).flat sm := List.getElem_map ..
  rw [← this, List.set_getElem_self]
theorem put_flat : ∀ {pl : List Nat} {t x y : Tm}, Tm.sub pl t = some x → y.flat sm = x.flat sm → (Tm.put pl y t).flat sm = t.flat sm
  | [], t, x, y, e, h => by rw [Tm.sub] at e; cases e; rw [Tm.put]; exact h
  | k :: pl, .lf s, x, y, e, h => (sub_lf e).elim
  | k :: pl, .nd b n ps, x, y, e, h => by
    obtain ⟨p, hp, e2⟩ := sub_nd e
    have ih := put_flat e2 h
    rw [put_nd hp, Tm.flat, Tm.flat, flats_set hp ih]
theorem deeps_mem {ps : List Tm} {p : Tm} (h : p ∈ ps) : p.deep ≤ Tm.deeps ps := Tm.deeps_le.mp (Nat.le_refl _) p h
theorem put_deep : ∀ {pl : List Nat} {t x y : Tm}, Tm.sub pl t = some x → y.deep ≤ x.deep + 1 → (Tm.put pl y t).deep ≤ t.deep + 1
  | [], t, x, y, e, h => by rw [Tm.sub] at e; cases e; rw [Tm.put]; exact h
  | k :: pl, .lf s, x, y, e, h => (sub_lf e).elim
  | k :: pl, .nd b n ps, x, y, e, h => by
    obtain ⟨p, hp, e2⟩ := sub_nd e
    have ih := put_deep e2 h
    have mp := deeps_mem (List.mem_of_getElem? hp)
    rw [put_nd hp, Tm.deep, Tm.deep]
    refine Nat.succ_le_succ (Tm.deeps_le.mpr fun q hq => ?_)
    rcases mem_set hq with hq | rfl
    · have := deeps_mem hq; omega
    · omega
theorem wts_set : ∀ {ps : List Tm} {k : Nat} {p q : Tm}, ps[k]? = some p → Tm.wts (ps.set k q) + p.wt = Tm.wts ps + q.wt
  | [], k, p, q, h => by simp at h
  | a :: ps, 0, p, q, h => by
    have h : a = p := by simpa using h
    subst h
    rw [List.set_cons_zero, Tm.wts, Tm.wts]; omega
  | a :: ps, k + 1, p, q, h => by
    have h : ps[k]? = some p := by simpa using h
    have := wts_set (q := q) h
    rw [List.set_cons_succ, Tm.wts, Tm.wts]; omega
theorem put_wt : ∀ {pl : List Nat} {t x y : Tm}, Tm.sub pl t = some x → (Tm.put pl y t).wt + x.wt = t.wt + y.wt
  | [], t, x, y, e => by rw [Tm.sub] at e; cases e; rw [Tm.put]; omega
  | k :: pl, .lf s, x, y, e => (sub_lf e).elim
  | k :: pl, .nd b n ps, x, y, e => by
    obtain ⟨p, hp, e2⟩ := sub_nd e
    have ih := put_wt (y := y) e2
    have := wts_set (q := Tm.put pl y p) hp
    rw [put_nd hp, Tm.wt, Tm.wt]; omega
section
variable {n o : Str}
theorem deep2 {b : Bool} {x y : Tm} : (Tm.nd b n [x, y]).deep = max x.deep y.deep + 1 := by
  rw [Tm.deep, Tm.deeps, Tm.deeps, Tm.deeps]; omega
theorem wt2 {b : Bool} {x y : Tm} : (Tm.nd b n [x, y]).wt = x.wt + y.wt + 1 := by
  rw [Tm.wt, Tm.wts, Tm.wts, Tm.wts]; omega
theorem chg_size {k : StK} {t t' : Tm} (e : chg n o k t = some t') : t'.deep ≤ t.deep + 1 ∧ t'.wt ≤ t.wt + 2 := by
  cases k with
  | turn =>
    obtain ⟨z, e1, e2⟩ := Option.map_eq_some_iff.mp e
    subst e2
    obtain ⟨b, e1⟩ := halves_eq e1
    subst e1
    rw [deep2, deep2, wt2, wt2]; omega
  | left =>
    obtain ⟨z, e1, e2⟩ := Option.bind_eq_some_iff.mp e
    obtain ⟨y, e3, e4⟩ := Option.map_eq_some_iff.mp e2
    subst e4
    obtain ⟨b, e1⟩ := halves_eq e1
    obtain ⟨c, e3⟩ := halves_eq e3
    subst e1
    rw [e3, deep2, deep2, deep2, deep2, wt2, wt2, wt2, wt2]; omega
  | right =>
    obtain ⟨z, e1, e2⟩ := Option.bind_eq_some_iff.mp e
    obtain ⟨y, e3, e4⟩ := Option.map_eq_some_iff.mp e2
    subst e4
    obtain ⟨b, e1⟩ := halves_eq e1
    obtain ⟨c, e3⟩ := halves_eq e3
    subst e1
    rw [e3, deep2, deep2, deep2, deep2, wt2, wt2, wt2, wt2]; omega
  | drop =>
    obtain ⟨z, e1, e2⟩ := Option.bind_eq_some_iff.mp e
    obtain ⟨b, e1⟩ := halves_eq e1
    subst e1
    by_cases q : isLf o z.2 = true
    · rw [if_pos q] at e2
      cases e2
      rw [deep2, wt2]; omega
    · rw [if_neg q] at e2; cases e2
  | add =>
    have e : (if o = ("" : Str) then none else some (Tm.nd true n [t, .lf o])) = some t' := e
    by_cases q : o = ("" : Str)
    · rw [if_pos q] at e; cases e
    · rw [if_neg q] at e
      cases e
      rw [deep2, wt2, Tm.deep, Tm.wt]; omega
/-- a step keeps all that is asked, and can be undone -/
theorem step_all {k : StK} {pl : List Nat} {t t' : Tm} (hn : sm.lookup n = some o) (tn : okS n = true) (hb : ¬ o = ("" : Str) → fx.lookup o = some 0 ∧ okS o = true) (hd : k = .drop → ¬ o = ("" : Str)) (h : Gd fx sm t) (e : t.step n o k pl = some t') :
    Gd fx sm t' ∧ t'.flat sm = t.flat sm ∧ t'.deep ≤ t.deep + 1 ∧ t'.wt ≤ t.wt + 2 ∧ t'.step n o k.back pl = some t := by
  obtain ⟨x, e1, e2⟩ := Option.bind_eq_some_iff.mp e
  obtain ⟨y, e3, e4⟩ := Option.map_eq_some_iff.mp e2
  subst e4
  have hx := h.sub e1
  have hy := chg_gd hn tn hb hx e3
  have sz := chg_size e3
  have pw := put_wt (y := y) e1
  refine ⟨h.put e1 hy, put_flat e1 (chg_flat hn hx e3), put_deep e1 sz.1, by omega, ?_⟩
  unfold Tm.step
  rw [sub_put e1]
  show (chg n o k.back y).map _ = _
  rw [chg_back hx e3 hd]
  show some (Tm.put pl x (Tm.put pl y t)) = some t
  rw [put_put h.two e1]
/-- a drop is of a nought -/
theorem drop_nought {t t' : Tm} (h : Gd fx sm t) (ne : ∀ s : Str, (Tm.lf s).ok fx sm = true → s ≠ ("" : Str)) {pl : List Nat} (e : t.step n o .drop pl = some t') : ¬ o = ("" : Str) := by
  obtain ⟨x, e1, e2⟩ := Option.bind_eq_some_iff.mp e
  obtain ⟨y, e3, e4⟩ := Option.map_eq_some_iff.mp e2
  obtain ⟨z, e5, e6⟩ := Option.bind_eq_some_iff.mp e3
  have hz := (h.sub e1).halves e5
  by_cases q : isLf o z.2 = true
  · have := hz.2.1.ok
    rw [isLf_eq q] at this
    exact ne o this
  · rw [if_neg q] at e6; cases e6
end
end
end G
set_option Elab.async false
set_option linter.all false
set_option maxRecDepth 100000
set_option maxHeartbeats 4000000
/-! terms up to 63 deep are compared -/
namespace G
open PySem PySem.W L2
theorem Fm.shaped4 {a : Fm} (h : a.txt = true) (d : a.deep ≤ 63) : SeqAt.shaped a.data = true := by
  show (PyData.canLay0 a.data && decide (a.data.depth ≤ 64)) = true
  rw [Fm.lay a h, Fm.dep]; simp; omega
theorem Tm.shaped4 {a : Tm} (h : a.txt = true) (d : a.deep ≤ 63) : SeqAt.shaped a.data = true := by
  show (PyData.canLay0 a.data && decide (a.data.depth ≤ 64)) = true
  rw [Tm.lay a h, Tm.dep]; simp; omega
end G
set_option Elab.async false
set_option linter.all false
set_option maxRecDepth 100000
set_option maxHeartbeats 4000000
/-! tables of the module that are tuples: a hook of them, their words -/
namespace G
open PySem PySem.Spec PySem.W PyProof.Rows L2
/-! ### the hook: facts, defs, tuples -/
abbrev Tbz : Type := Str × List He.Dv
abbrev AlZ : Type := He.AlD × Bool
def obsZ (fa : List He.Fa) (fn : List He.DefD) (tz : List Tbz) (K : PySem.W.Frag) : AlZ := (He.obsD fa fn K, tz.all fun t => He.tupB K t.1 t.2)
def obsZG (n : Nat) (fa : List He.Fa) (fn : List He.DefD) (tz : List Tbz) (g : Addr → Option Obj) : AlZ := obsZ fa fn tz (He.frG g (He.asD g n))
def SaysZ (fa : List He.Fa) (fn : List He.DefD) (tz : List Tbz) (K : PySem.W.Frag) : Prop := obsZ fa fn tz K = (He.valD fn, true)
def hookZ (n : Nat) (fa : List He.Fa) (fn : List He.DefD) (tz : List Tbz) : PySem.W.Hook where
  α := AlZ
  obs := fun s => obsZG n fa fn tz s.heap.get?
  val := fun _ => (He.valD fn, true)
  says := fun _ h => ∃ K : PySem.W.Frag, K.In h ∧ SaysZ fa fn tz K
  of := fun _ _ e => ⟨_, He.frG_in, e⟩
  keeps := fun _ _ _ ⟨K, hK, c⟩ k => ⟨K, PySem.W.Frag.In.keeps hK k, c⟩
theorem obsZG_eq {n : Nat} {fa : List He.Fa} {fn : List He.DefD} {tz : List Tbz} {g : Addr → Option Obj} {s : Shared} (h : ∀ a, g a = s.heap.get? a) : obsZG n fa fn tz g = (hookZ n fa fn tz).obs s := by
  have e : g = s.heap.get? := funext h
  rw [e] <;> rfl
theorem SaysZ.d {fa : List He.Fa} {fn : List He.DefD} {tz : List Tbz} {K : PySem.W.Frag} (c : SaysZ fa fn tz K) : He.SaysD fa fn K := congrArg (fun z : AlZ => z.1) c
theorem SaysZ.tab {fa : List He.Fa} {fn : List He.DefD} {tz : List Tbz} {K : PySem.W.Frag} (c : SaysZ fa fn tz K) (i : Nat) {t : Tbz} (h : tz[i]? = some t := by rfl) : He.tupB K t.1 t.2 = true := by
  have e : (tz.all fun t => He.tupB K t.1 t.2) = true := congrArg (fun z : AlZ => z.2) c
  exact List.all_eq_true.mp e t (List.mem_of_getElem? h)
/-- the module's name x is a tuple of these -/
def Tbl (U : Uv) (x : Str) (xs : List V) : Prop := ∃ a, U.mg x = some (.ref a) ∧ ∃ (o : Obj) (its : Array Value) (n : Nat), U.K.lookup a = some o ∧ o.cls = .type "tuple" ∧ o.data = .seq its n ∧ its.size ≤ sizeLine ∧ Vals xs its.toList
theorem tbl_of {U : Uv} {x : Str} {vs : List He.Dv} (hx : U.mg x = some (.ref (He.ga U.K x))) (h : He.tupB U.K x vs = true) : Tbl U x (vs.map (He.Dv.v U.K)) := by
  refine ⟨_, hx, ?_⟩
  rcases He.tupB_ok h (fun _ => none) with q | q
  · exfalso
    rcases q with q | ⟨o, q⟩ <;> cases q
  · exact q
theorem f2_vals {B : Bs} : ∀ xs : List V, F2 B xs (xs.map rV)
  | [] => trivial
  | _ :: xs => ⟨rfl, f2_vals xs⟩
section
variable {U : Uv} {g : Gx} {Γ : Gm} {P Q R : Pr} {e e1 e2 : Expr} {pos : Pos}
theorem x_tbl {x : Str} {xs : List V} (T : Tbl U x xs) (hU : UvOf U g.X) (hg : Gl g.X x := by rfl) (hd : (x == ("__debug__" : Str)) = false := by decide) : JE g (.Name x pos) Γ (rTs g.X.K (xs.map rV)) := by
  obtain ⟨a, ha, q⟩ := T
  obtain ⟨u1, u2, u3, u4, u5⟩ := hU
  refine (x_glob (v := .ref a) ⟨.ref a, by rw [u4]; exact ha, rfl⟩ hg hd).imp fun B v h => ?_
  have h : v = .ref a := h
  subst h
  exact ⟨a, xs, rfl, .inr (by rw [u3]; exact q), f2_vals xs⟩
/-- a text among the texts of a tuple -/
theorem o_inTextsT {X : Cx} {x : Str} {ys : List Str} (neg : Bool) : Op2 X (rIn X.K neg) (rS x) (rTs X.K (ys.map rS)) (rB (if neg then !decide (x ∈ ys) else decide (x ∈ ys))) := fun B H v u K k p ⟨q, vs, e, a, f⟩ c => by
  have p : v = .str x := p
  have := f.strs
  subst p e this
  refine ⟨q, _, rfl, .inr (a.sq k), rfl, flat_strs ys, c _ B H (Stp.refl k) ?_⟩
  rw [inV_strs]; rfl
theorem t_notInTextsT {x : Str} {ys : List Str} (h1 : JE g e1 Γ (rS x)) (h2 : JE g e2 Γ (rTs g.X.K (ys.map rS))) (hm : behindInMarks .NotIn e2 = false := by rfl) : JT g (.Compare e1 [.NotIn] [e2] pos) Γ (!decide (x ∈ ys)) := x_cmpT op_notIn_seq (o_inTextsT true) h1 h2 hm
theorem x_tblS {x : Str} {ys : List Str} (T : Tbl U x (ys.map V.str)) (hU : UvOf U g.X) (hg : Gl g.X x := by rfl) (hd : (x == ("__debug__" : Str)) = false := by decide) : JE g (.Name x pos) Γ (rTs g.X.K (ys.map rS)) :=
  (x_tbl T hU hg hd).to (by rw [List.map_map]; rfl)
theorem x_notN {x : V} {j p'} (h1 : JE g e1 Γ (rV x)) : JE g (.Compare e1 [.IsNot] [.Constant .none j p'] pos) Γ (rB (!decide (x = .non))) :=
  x_cmpV op_notN (fun B H v u K k p q c => by cases p; cases q; exact ⟨rfl, c _ B H (Stp.refl k) rfl⟩) h1 x_non
end
end G
set_option Elab.async false
set_option linter.all false
set_option maxRecDepth 100000
set_option maxHeartbeats 4000000
/-! for k in d, d a dict of the ground: locked while the loop runs -/
namespace G
open PySem PySem.Spec PyProof.Rows L2
/-- the base, a thing locked -/
def lkB (b : Base) (d : Addr) (od : Obj) (u : HO) : Base := ⟨put b.B d (.ex u), upd b.H d (.frz od u)⟩
section
variable {b : Base} {Γ Γ' : Gm} {σ σ' : L2.St} {B B' : Bs} {H H' : Hp} {d : Addr} {od : Obj} {u u' : HO}
theorem Own.swap {b' : Base} {c : Oc} {v : V} {w : HO} (k : Own b c v B H) (hB : B d ≠ none) (nh : ∀ a, a ≠ d → b.H a = none → b'.H a = none) : Own b' c v B (upd H d w) ∧ c.ad v (upd H d w) = c.ad v H := by
  have nd : ∀ a ∈ c.ad v H, a ≠ d := fun a ha e => hB (e ▸ k.nb a ha)
  have ag : ∀ a ∈ c.ad v H, upd H d w a = H a := fun a ha => upd_ne (nd a ha)
  have e : c.ad v (upd H d w) = c.ad v H := c.ast _ _ _ ag
  exact ⟨⟨fun a ha => k.nb a (e ▸ ha), fun a ha => nh a (nd a (e ▸ ha)) (k.nh a (e ▸ ha)), fun a ha => by rw [ag a (e ▸ ha)]; exact k.th a (e ▸ ha), c.rst _ _ _ _ ag k.at_⟩, e⟩
theorem EnvOk.swap {b' : Base} {w : HO} (k : EnvOk b Γ σ B H) (hB : B d ≠ none) (nh : ∀ a, a ≠ d → b.H a = none → b'.H a = none) : EnvOk b' Γ σ B (upd H d w) where
  len := k.len
  sh := k.sh
  ow := fun i c h => by
    obtain ⟨v, e, o⟩ := k.ow i c h
    exact ⟨v, e, (o.swap hB nh).1⟩
  dis := fun i j c c' v v' a h1 h2 h3 h4 h5 h6 => by
    obtain ⟨x, e, o⟩ := k.ow i c h1
    obtain ⟨x', e', o'⟩ := k.ow j c' h2
    rw [h3] at e; cases e
    rw [h4] at e'; cases e'
    rw [(o.swap (b' := b') (w := w) hB nh).2] at h5
    rw [(o'.swap (b' := b') (w := w) hB nh).2] at h6
    exact k.dis i j c c' v v' a h1 h2 h3 h4 h5 h6
theorem ok_swap {w : HO} (k : Ok B H) (hB : B d = some (.ex u)) (hw : w = u ∨ (lk u = true ∧ ∃ o, w = .frz o u)) : Ok B (upd H d w) where
  ex := fun a x e => by
    by_cases q : a = d
    · subst q
      rw [hB] at e; cases e
      rcases hw with rfl | ⟨l, o, rfl⟩
      · exact .inl upd_same
      · exact .inr ⟨l, o, upd_same⟩
    · rcases k.ex a x e with z | ⟨l, o, z⟩
      · exact .inl (by rw [upd_ne q]; exact z)
      · exact .inr ⟨l, o, by rw [upd_ne q]; exact z⟩
  iv := fun a φ e => by
    by_cases q : a = d
    · subst q; rw [hB] at e; cases e
    · obtain ⟨o, z, f⟩ := k.iv a φ e
      exact ⟨o, by rw [upd_ne q]; exact z, f⟩
theorem lock_sta (s : Sta b Γ σ B H) (hB : B d = some (.ex u)) (hl : lk u = true) : Sta (lkB b d od u) Γ σ B (upd H d (.frz od u)) where
  st := {
    le := fun a k e => by
      by_cases q : a = d
      · subst q
        have e : put b.B a (.ex u) a = some k := e
        rw [put_same] at e; rw [hB]; exact e
      · have e : put b.B d (.ex u) a = some k := e
        rw [put_ne q] at e; exact s.st.le a k e
    ok := ok_swap s.st.ok hB (.inr ⟨hl, od, rfl⟩)
    keep := fun a o e n => by
      have e : upd b.H d (.frz od u) a = some o := e
      by_cases q : a = d
      · subst q; rw [upd_same] at e ⊢; exact e
      · rw [upd_ne q] at e ⊢
        exact s.st.keep a o e fun φ z => n φ (by show put b.B d (.ex u) a = _; rw [put_ne q]; exact z)
    there := fun a e => by
      by_cases q : a = d
      · subst q; rw [upd_same]; simp
      · rw [upd_ne q]
        exact s.st.there a (by have e : upd b.H d (.frz od u) a ≠ none := e; rw [upd_ne q] at e; exact e)
    new := fun a e k n => by
      have e : put b.B d (.ex u) a = none := e
      show Soft (upd b.H d (.frz od u) a) k
      by_cases q : a = d
      · subst q; rw [put_same] at e; cases e
      · rw [put_ne q] at e; rw [upd_ne q]; exact s.st.new a e k n }
  env := s.env.swap (by rw [hB]; simp) fun a q e => by show upd b.H d (.frz od u) a = none; rw [upd_ne q]; exact e
theorem lkd_at (s : Sta (lkB b d od u) Γ σ B H) : H d = some (.frz od u) ∧ B d = some (.ex u) :=
  by
  refine ⟨s.st.keep d _ upd_same fun φ e => ?_, s.st.le d _ put_same⟩
  have e : put b.B d (.ex u) d = some (.iv φ) := e
  rw [put_same] at e
  cases e
theorem unlock_sta (s0 : Sta b Γ σ B H) (hB : B d = some (.ex u)) (hH : H d = some u') (hu : u' = u ∨ (lk u = true ∧ ∃ o, u' = .frz o u)) (s : Sta (lkB b d od u) Γ' σ' B' H') : Sta b Γ' σ' B' (upd H' d u') where
  st := {
    le := fun a k e => by
      by_cases q : a = d
      · subst q
        have := s0.st.le a k e
        rw [hB] at this
        rw [(lkd_at s).2]; exact this
      · exact s.st.le a k (by show put b.B d (.ex u) a = _; rw [put_ne q]; exact e)
    ok := ok_swap s.st.ok (lkd_at s).2 hu
    keep := fun a o e n => by
      by_cases q : a = d
      · subst q
        have := s0.st.keep a o e n
        rw [hH] at this
        rw [upd_same]; exact this
      · rw [upd_ne q]
        exact s.st.keep a o (by show upd b.H d (.frz od u) a = _; rw [upd_ne q]; exact e) fun φ z => n φ (by have z : put b.B d (.ex u) a = _ := z; rw [put_ne q] at z; exact z)
    there := fun a e => by
      by_cases q : a = d
      · subst q; rw [upd_same]; simp
      · rw [upd_ne q]
        exact s.st.there a (by show upd b.H d (.frz od u) a ≠ none; rw [upd_ne q]; exact e)
    new := fun a e k n => by
      by_cases q : a = d
      · subst q
        rw [(lkd_at s).2] at n; cases n
        exact s0.st.new a e _ hB
      · have := s.st.new a (by show put b.B d (.ex u) a = none; rw [put_ne q]; exact e) k n
        have this : Soft (upd b.H d (.frz od u) a) k := this
        rw [upd_ne q] at this; exact this }
  env := s.env.swap (by rw [(lkd_at s).2]; simp) fun a q e => by
    have e : upd b.H d (.frz od u) a = none := e
    rw [upd_ne q] at e; exact e
end
/-- the context of the loop's body: nothing is let out -/
abbrev Gx.lkd (g : Gx) (b' : Base) : Gx := ⟨g.X, b', fun _ _ _ _ => False, g.k⟩
def lpK (b' : Base) (Γ : Gm) : En := { nx := Nx b' Γ, anx := Nx.anti, rt := fun _ _ => False, ct := Nx b' Γ, act := Nx.anti }
section
variable {g : Gx} {Γ : Gm} {D : En} {rest : List Stmt} {pos : Pos}
theorem s_forK {tg : Expr} {x : Str} {p : Pos} {body : List Stmt} {kvs : List (L2.Key × V)} (i : Nat) (I : Nat → Gm) {I2 : Nat → Gm} {sl : List Nat} (h0 : GmLe Γ (I 0))
    (hg : ∀ b' j kv, kvs[j]? = some kv → JG (g.lkd b') tg (rV (kV kv.1)) (I j) (I2 j) sl) (hb : ∀ b' j kv, kvs[j]? = some kv → JS (g.lkd b') body (I2 j) (lpK b' (I (j + 1)))) (hd : JS g rest (I kvs.length) D)
    (hx : Γ[i]? = some (some (.sh (rDk kvs))) := by rfl) (hN : g.X.N[i]? = some x := by rfl) (hv : Vis g.X.env.scope x := by first | exact Or.inl rfl | exact Or.inr (Or.inl rfl) | exact Or.inr (Or.inr rfl))
    (hdb : (x == ("__debug__" : Str)) = false := by decide) (hcd : (x == ("__classdict__" : Str)) = false := by decide) (hs : ∀ y, foldedSetIterable (.Name x p) g.X.env y = pure y := by intro _; rfl) (hcm : g.X.calm = true := by rfl) :
    JS g (.For tg (.Name x p) body [] pos :: rest) Γ D :=
  js_cons fun w σ B H s => by
    obtain ⟨v, ev, d, rfl, hB⟩ := s.env.sh i _ hx
    have core : ∀ (od : Obj) (u' : HO) (D' : Ends), H d = some u' → (u' = .dK kvs ∨ (lk (.dK kvs) = true ∧ ∃ o, u' = .frz o (.dK kvs))) → (∀ σ' B' H', Le B B' → Sta (lkB g.b d od (.dK kvs)) (I kvs.length) σ' B' H' → D'.nx σ' H') →
        tFor (iKeys fun σ H Q => ∃ v, σ[i]? = some (some v) ∧ Q v H) (tG g.X tg) (fun D σ H => WS g.X body D σ H) D' σ (upd H d (.frz od (.dK kvs))) := by
      intro od u' D' hH hu fin
      have s1 := lock_sta (od := od) s hB rfl
      have bok : Ok (lkB g.b d od (.dK kvs)).B (lkB g.b d od (.dK kvs)).H := by
        refine ⟨fun a z e => ?_, fun a φ e => ?_⟩
        · by_cases q : a = d
          · subst q
            have e : put g.b.B a (.ex (.dK kvs)) a = some (.ex z) := e
            rw [put_same] at e; cases e
            exact .inr ⟨rfl, od, upd_same⟩
          · have e : put g.b.B d (.ex (.dK kvs)) a = some (.ex z) := e
            rw [put_ne q] at e
            rcases w.bok.ex a z e with y | ⟨l, o, y⟩
            · exact .inl (by show upd g.b.H d _ a = _; rw [upd_ne q]; exact y)
            · exact .inr ⟨l, o, by show upd g.b.H d _ a = _; rw [upd_ne q]; exact y⟩
        · by_cases q : a = d
          · subst q
            have e : put g.b.B a (.ex (.dK kvs)) a = some (.iv φ) := e
            rw [put_same] at e; cases e
          · have e : put g.b.B d (.ex (.dK kvs)) a = some (.iv φ) := e
            rw [put_ne q] at e
            obtain ⟨o, y, f⟩ := w.bok.iv a φ e
            exact ⟨o, by show upd g.b.H d _ a = _; rw [upd_ne q]; exact y, f⟩
      have w' : (g.lkd (lkB g.b d od (.dK kvs))).Wf := ⟨nTakes0, w.hr, w.po, w.nd, bok⟩
      refine ⟨.ref d, ev, d, od, rfl, .inl ⟨kvs, upd_same, for_it walk_keys (fun j σ' H' => ∃ B', Le B B' ∧ Sta (lkB g.b d od (.dK kvs)) (I j) σ' B' H') ⟨B, Le.refl _, s1.imp h0⟩ (fun j σ' H' hj ⟨B', l, s'⟩ => (lkd_at s').1) ?_ ?_⟩⟩
      · intro j x σ' H' H'' hj ⟨B', l, s'⟩ y
        obtain ⟨e1, k, v, hk, e2⟩ := y
        subst e1 e2
        refine (hg _ j (k, v) hk).run w' σ' B' H'' (kV k) s' rfl _ fun σ2 s3 _ => ?_
        exact ((hb _ j (k, v) hk).run w' σ2 B' H'' s3).mono ⟨fun σ4 H4 ⟨B4, l4, s4⟩ => ⟨B4, l.trans l4, s4⟩, fun _ _ q => q.elim, fun _ _ q => q.elim, fun σ4 H4 ⟨B4, l4, s4⟩ => ⟨B4, l.trans l4, s4⟩⟩
      · intro σ' H' ⟨B', l, s'⟩
        exact fin σ' B' H' l s'
    rcases s.st.ok.ex d _ hB with hH | ⟨_, od, hH⟩
    · refine of1 (ps_lock (ps_for w.po hcm (pi_keys (pe_var hN hv hdb hcd)) pG pS hs)) ⟨d, .dK kvs, hH, trivial, fun od => core od _ _ hH (.inl rfl) fun σ' B' H' l s' => ⟨(lkd_at s').1, ?_⟩⟩
      exact hd.go w l (unlock_sta s hB hH (.inl rfl) s')
    · have e : H = upd H d (.frz od (.dK kvs)) := by
        funext a
        by_cases q : a = d
        · subst q; rw [upd_same]; exact hH
        · rw [upd_ne q]
      refine of1 (ps_for w.po hcm (pi_keys (pe_var hN hv hdb hcd)) pG pS hs) ?_
      rw [e]
      refine core od _ _ hH (.inr ⟨rfl, od, rfl⟩) fun σ' B' H' l s' => ?_
      have z := unlock_sta s hB hH (.inr ⟨rfl, od, rfl⟩) s'
      have e2 : upd H' d (.frz od (.dK kvs)) = H' := by
        funext a
        by_cases q : a = d
        · subst q; rw [upd_same]; exact (lkd_at s').1.symm
        · rw [upd_ne q]
      rw [e2] at z
      exact hd.go w l z
end
end G
set_option Elab.async false
set_option linter.all false
set_option maxRecDepth 100000
set_option maxHeartbeats 4000000
/-! enumerate over a tuple; a list unpacked -/
namespace PySem
open Sem (wp)
theorem F.newCall_enum_1 (a : Value) : checkBuiltinCall "enumerate.__new__" ⟨[.type "enumerate", a], []⟩ = pure () := by kernel_rfl
theorem meets_enumerate_new1 {v : Value} {o : Obj} {H : Heap → Prop} (B : Begins v o H) :
    Meets (Builtin.«enumerate.__new__» ⟨[.type "enumerate", v], []⟩) (fun _ R s => H s.heap ∧
      R (.ok (.ret (.ref (s.heap.push o).objs.size))) { s with heap := (s.heap.push o).push { cls := .type "enumerate", data := .fields #[.none, .bool false, .ref s.heap.objs.size, rawInt 0, .none, .none] } }) :=
  .of_wp fun prog w A R s h => by
    obtain ⟨hp, g, d, tk, os⟩ := s; obtain ⟨h1, h⟩ := h
    have hsub := sub_enumerate
    have q1 : ∀ {A' : Around} {E : Value → Shared → Prop} {Q : Value → Shared → Prop}, Q (.ref hp.objs.size) ⟨hp.push o, g, d, tk, os⟩ → wpAny (model prog w) A' (pyIter v) Q E ⟨hp, g, d, tk, os⟩ :=
      fun q => B.iter prog w _ _ ⟨hp, g, d, tk, os⟩ _ h1 q
    wp_walk using q1
    refine wpAny_stack_any fun st => wpAny_pure ?_
    split
    · rename_i c _ _ _ _ _
      cases (c == Value.type "enumerate")
      · wp_walk using q1
        exact ⟨_, rfl, h⟩
      · wp_walk using q1
        exact ⟨_, rfl, h⟩
    · wp_walk using q1
      exact ⟨_, rfl, h⟩
section
variable {prog : Program} {w : World} {A : Around} {E : Value → Shared → Prop} {s : Shared}
theorem enum_begins1 {v : Value} {o : Obj} {H : Heap → Prop} {Q : Value → Shared → Prop} (B : Begins v o H) (h1 : H s.heap)
    (h : ∀ h', IsEnum h' (s.heap.objs.size + 1) s.heap.objs.size 0 .none → h'.get? s.heap.objs.size = some o → h'.objs.size = s.heap.objs.size + 2 →
      (∀ b o, s.heap.get? b = some o → h'.get? b = some o) → Q (.ref (s.heap.objs.size + 1)) { s with heap := h' }) :
    wpAny (model prog w) A (call (.type "enumerate") [v]) Q E s := by
  refine callType_new F.called_enumerate (by decide) (F.typeCall_enumerate_1 _) (F.newCall_enumerate_1 _) (fun obj => F.args_object_init_2 obj _) F.entry_enumerate_new
    (meets_enumerate_new1 B) ⟨h1, ?_⟩
  have hz : (s.heap.push o).objs.size = s.heap.objs.size + 1 := Heap.size_push ..
  show _ ∧ _
  rw [hz]
  have he : IsEnum ((s.heap.push o).push { cls := .type "enumerate", data := .fields #[.none, .bool false, .ref s.heap.objs.size, rawInt 0, .none, .none] }) (s.heap.objs.size + 1) s.heap.objs.size 0 .none := by
    have := Heap.get?_push_size (s.heap.push o) (o := { cls := .type "enumerate", data := .fields #[.none, .bool false, .ref s.heap.objs.size, rawInt 0, .none, .none] }) rfl
    rw [hz] at this; exact this
  refine ⟨⟨_, he, rfl⟩, h _ he (Heap.get?_push_of_some _ (Heap.get?_push_size _ B.free)) (by rw [Heap.size_push, hz]) fun b o x => Heap.get?_push_of_some _ (Heap.get?_push_of_some _ x)⟩
end
end PySem
namespace G
open PySem PySem.Spec PyProof.Rows L2
/-- the tuple at a, each item in a new pair -/
def IteT (K : PySem.W.Frag) (a : Addr) : It :=
  ⟨fun i H => ∃ (xs : List V) (x : V), SqT K H a xs ∧ xs[i]? = some x, fun i H v H' => ∃ T x, v = .ref T ∧ H T = none ∧ H' = upd H T (.tup [.int (i : Nat), x]) ∧ ∀ xs, SqT K H a xs → xs[i]? = some x, fun i H => ∃ xs : List V, SqT K H a xs ∧ xs.length = i⟩
theorem turn_enumT {P : Program} {w : World} {K : PySem.W.Frag} {elts : List Expr} {kk : Nat} {tpos : Pos} {a e it : Addr} (ne : a ≠ it) (nea : a ≠ e) :
    Turn P w K (.Tuple elts kk tpos) (IteT K a) [e, it] e (fun i h => (∃ old, IsEnum h e it ((i : Nat) : Int) old) ∧ h.IsTupleIter it a i ∧ e ≠ it) where
  mem := by simp
  obj := fun i h st b hb => by
    obtain ⟨⟨old, he⟩, ⟨o, ho, hc, hd⟩, _⟩ := st
    have e' : b = e ∨ b = it := by simpa using hb
    rcases e' with z | z
    · rw [z]; exact ⟨_, he, fun v q => nomatch q⟩
    · rw [z]; exact ⟨o, ho, fun v q => by rw [hd] at q; cases q⟩
  keep := fun i h h' st k => let ⟨⟨old, he⟩, hi, hne⟩ := st; ⟨⟨old, k e (by simp) _ he⟩, hi.at fun o q => k it (by simp) o q, hne⟩
  item := by
    intro X hP hw hK hc i pins s σ H E I hf st hg
    subst hP hw hK
    obtain ⟨⟨old, he⟩, hit, hne⟩ := st
    obtain ⟨xs, x, hq, hx⟩ := hg
    obtain ⟨its, rv, p, hz⟩ := I.tuple hq
    obtain ⟨u, hu, ru⟩ := rv.get hx
    have hel : e < s.heap.objs.size := Heap.lt_size he
    have hil : it < s.heap.objs.size := by obtain ⟨_, q, _⟩ := hit; exact Heap.lt_size q
    have lu : i < its.toArray.size := by rw [List.size_toArray]; exact (List.getElem?_eq_some_iff.mp hu).1
    have calmA : X.A.in1.handled = none := I.ok.hd hc
    refine wpAny_pyNext_enum_itemD (Draws.tuple calmA it a ne its.toArray) he ⟨hit, p⟩ lu hne (by simp [hne, Ne.symm nea]) fun x1 h' tk hP1 ho hit' hT hsz hk => ?_
    have ex : x1 = u := by simpa [hu] using hP1.symm
    subst ex
    refine ⟨_, rfl, wpAny_letOwnedTupleGo_enum (s := { s with heap := h', toks := tk + 1 }) ho fun h'' he' sb => ?_⟩
    have hT2 : h''.get? s.heap.objs.size = some { cls := .type "tuple", data := .seq #[.int i tk, x1] } := (sb.2 _ (Nat.ne_of_gt hel)).trans hT
    have new : ObjOk X.prog X.w (upd H s.heap.objs.size (.tup [.int (i : Nat), x])) h'' s.heap.objs.size (.tup [.int (i : Nat), x]) :=
      ⟨by show 2 ≤ sizeLine; decide, [.int i tk, x1], .cons ⟨_, rfl⟩ (.cons ru .nil), ⟨_, hT2, rfl, _, rfl⟩⟩
    have I1 : Inv X pins σ (upd H s.heap.objs.size (.tup [.int (i : Nat), x])) { s with heap := h'', toks := tk + 1 } :=
      I.turnedNew (ch := [e, it]) (fun b ob hb q => (sb.2 b (fun z => hb (by simp [z]))).trans (hk b ob (fun z => hb (by simp [z])) (fun z => hb (by simp [z])) q)) hf (Nat.le_refl _) new
    refine ⟨.ref s.heap.objs.size, _, I1, rfl, ⟨_, x, rfl, I.hok.fresh (Nat.le_refl _), rfl, fun ys hy => by rw [I.tuple_inj hy hq]; exact hx⟩, ⟨⟨x1, ?_⟩, hit'.1.at fun o q => (sb.2 it (Ne.symm hne)).trans q, hne⟩, fun b hb => ?_⟩
    · have e1 : ((i + 1 : Nat) : Int) = (i : Int) + 1 := by omega
      rw [e1]; exact he'
    · have hb' : b < s.heap.objs.size := by
        have e' : b = e ∨ b = it := by simpa using hb
        rcases e' with z | z
        · rw [z]; exact hel
        · rw [z]; exact hil
      rw [upd_ne (Nat.ne_of_lt hb')]
      exact (hf b hb).1
  done := by
    intro X hP hw hK hc i pins s σ H E I hf st hg
    subst hP hw hK
    obtain ⟨⟨old, he⟩, hit, hne⟩ := st
    obtain ⟨xs, hq, hx⟩ := hg
    obtain ⟨its, rv, p, hz⟩ := I.tuple hq
    obtain ⟨f0, f1, f2, f3, f4, f5⟩ := hf it (by simp)
    have hl := rv.length
    have calmA : X.A.in1.handled = none := I.ok.hd hc
    have en : i = its.toArray.size := by rw [List.size_toArray]; omega
    exact wpAny_pyNext_enum_endD (Draws.tuple calmA it a ne its.toArray) he ⟨en ▸ hit, p⟩ fun h' eb => ⟨rfl, I.turned (t' := s.toks) (fun b o hb q => eb b o hb q) f0 f1 f3 f4 f5⟩
  self := fun A i s Q E st h => let ⟨⟨_, he⟩, _⟩ := st; wpAny_pyIter_enum he h
def iEnumT (K : PySem.W.Frag) (ta : TA) : TI := fun σ H R => ta σ H fun vs H1 => ∃ a xs, vs = [.ref a] ∧ SqT K H1 a xs ∧ R (IteT K a) H1
theorem pi_enumT {X : Cx} {e : Expr} {ta : TA} {p pos tpos : Pos} {elts : List Expr} {kk : Nat} (hg : Gl X "enumerate") (hm : X.mg "enumerate" = none) (ha : PA X [e] ta) (hs : starEach [e] X.env = [(false, eval e X.env)] := by rfl) :
    PI X (.Tuple elts kk tpos) (.Call (.Name "enumerate" p) [e] [] pos) (iEnumT X.K ta) := by
  refine ⟨fun pins s σ H R I h => ?_⟩
  refine Call_ (ld_blt I hg hm boot_enumerate (PyProof.Rows.callWith_type1 (thn (ha.run pos pins s σ H _ I h) fun us s1 ⟨vs, H1, I1, r1, q1⟩ => ?_) hs rfl))
  obtain ⟨a, xs, ex, hq, q⟩ := q1
  subst ex
  cases r1 with
  | cons r rr =>
    cases rr
    cases r
    obtain ⟨its, rv, p', hz⟩ := I1.tuple hq
    have la : a < s1.heap.objs.size := by obtain ⟨o, e, _⟩ := p'; exact Heap.lt_size e
    refine enum_begins1 (begins_tuple a its.toArray) p' fun h' he hit hsz hk => wpAny_pyIter_enum he ?_
    have I2 : Inv X pins σ H1 { s1 with heap := h' } := I1.kept (t' := s1.toks) hk
    refine ⟨s1.heap.objs.size + 1, [s1.heap.objs.size + 1, s1.heap.objs.size], _, _, H1, rfl, I2, turn_enumT (a := a) (e := s1.heap.objs.size + 1) (it := s1.heap.objs.size) (Nat.ne_of_lt la) (Nat.ne_of_lt (Nat.lt_succ_of_lt la)), ⟨⟨.none, he⟩, ⟨_, hit, rfl, rfl⟩, Nat.succ_ne_self _⟩, fun b hb => ?_, q⟩
    have e' : b = s1.heap.objs.size + 1 ∨ b = s1.heap.objs.size := by simpa using hb
    have hle : s1.heap.objs.size ≤ b := by
      rcases e' with z | z
      · rw [z]; exact Nat.le_add_right _ _
      · rw [z]; exact Nat.le_refl _
    exact I1.fpOk hle (I1.hok.fresh hle)
theorem walk_enumT {K : PySem.W.Frag} {a : Addr} {xs : List V} : Walk (IteT K a) xs.length (fun H => SqT K H a xs) (YPair (fun i => some (.int (i : Nat))) (fun i => xs[i]?)) := by
  refine ⟨fun i _ hi q => ⟨xs, xs[i], q, by simp [hi]⟩, fun _ q => ⟨xs, q, rfl⟩, fun i H v H' _ q y => ?_⟩
  obtain ⟨T, x, h1, h2, h3, h4⟩ := y
  exact ⟨T, .int (i : Nat), x, h1, h2, h3, rfl, h4 xs q⟩
section
variable {g : Gx} {Γ : Gm} {P Q R : Pr} {e e1 e2 tg : Expr} {pos p2 : Pos} {D : En} {rest : List Stmt} {rs qs : List Pr}
theorem i_enumT {elts : List Expr} {kk : Nat} {tpos p : Pos} (hm : g.X.mg "enumerate" = none) (h : JE g e Γ (rTs g.X.K rs)) (hg : Gl g.X "enumerate" := by rfl) (hs : starEach [e] g.X.env = [(false, eval e g.X.env)] := by rfl) :
    JI g (.Tuple elts kk tpos) (.Call (.Name "enumerate" p) [e] [] pos) Γ rs.length (fun i => rTs g.X.K [G.rI (i : Int), nth rs i]) :=
  ⟨fun w σ B H s => ofI (pi_enumT hg hm pA hs) (((a_cons h a_nil hs).run w σ B H s).mono fun vs H1 ⟨B1, a1, f⟩ => by
    obtain ⟨v, rfl, p, xs, e, a, f1⟩ := f.one
    refine ⟨p, xs, by rw [e], a.sq a1.sta.st.ok, B1, a1, gives_pair (f1.len ▸ walk_enumT) (fun B2 H2 l k => (a.mono l).sq k) (fun i x B2 hi l e => ?_) (fun i x B2 hi l e => (f1.mono l).nth e)⟩
    cases e
    rfl)⟩
theorem m_enumT {α : Type} {xs : List α} {r : α → Pr} {elts : List Expr} {kk : Nat} {tpos p : Pos} (hm : g.X.mg "enumerate" = none) (h : JE g e Γ (rTs g.X.K (xs.map r))) (hg : Gl g.X "enumerate" := by rfl) (hs : starEach [e] g.X.env = [(false, eval e g.X.env)] := by rfl) :
    JM g (.Tuple elts kk tpos) (.Call (.Name "enumerate" p) [e] [] pos) Γ xs.zipIdx (fun z => rTs g.X.K [G.rI (z.2 : Int), r z.1]) :=
  (i_enumT hm h hg hs).to (by rw [List.length_zipIdx, List.length_map]) fun i hi => by
    rw [List.length_map] at hi
    rw [nth_map (x := xs[i]) (List.getElem?_eq_getElem hi), nth_map (x := (xs[i], i))]
    rw [List.getElem?_zipIdx, List.getElem?_eq_getElem hi]; simp
theorem g_unl {es : List Expr} {k : Nat} {Ps : List Pr} {Γ1 : Gm} {n : Nat} {sl : List Nat} (h : JGs g es Ps Γ Γ1 sl) (hl : Ps.length = n := by rfl) (hn : (assignEach es g.X.env).length = n := by rfl) (hst : (assignEach es g.X.env).findIdx? (·.1) = none := by rfl) (hcm : g.X.calm = true := by rfl) : JG g (.Tuple es k pos) (rLs g.X.K Ps) Γ Γ1 sl :=
  ⟨fun w σ B H v s ⟨p, vs, e, a, f⟩ Q q => ofG (pg_unl hcm pGs hn hst) ⟨p, vs, e, a.sq s.st.ok, by rw [f.len]; exact hl, h.run w σ B H vs s f Q q⟩⟩
theorem g_unQ {t : Bool} {es : List Expr} {k : Nat} {Ps : List Pr} {Γ1 : Gm} {n : Nat} {sl : List Nat} (h : JGs g es Ps Γ Γ1 sl) (hl : Ps.length = n := by rfl) (hn : (assignEach es g.X.env).length = n := by rfl) (hst : (assignEach es g.X.env).findIdx? (·.1) = none := by rfl) (hcm : g.X.calm = true := by rfl) : JG g (.Tuple es k pos) (rQ g.X.K t Ps) Γ Γ1 sl := by
  cases t with
  | true => exact g_tup h hl hn hst hcm
  | false => exact g_unl h hl hn hst hcm
end
end G
set_option Elab.async false
set_option linter.all false
set_option maxRecDepth 100000
set_option maxHeartbeats 4000000
/-! what reversed things draw; zip of two iterators -/
namespace PySem
open Sem (wp)
open PySem.Spec PyProof.Rows L2 RT
section
variable {prog : Program} {w : World} {A : Around} {E : Value → Shared → Prop} {s : Shared}
theorem nextOf_rev_item {it l : Addr} {i : Nat} {items : Array Value} {x : Value} {Q : Value → Shared → Prop} (hit : s.heap.IsRevIter it l (i : Int)) (hl : s.heap.IsList l items) (hx : items[i]? = some x)
    (hQ : ∀ h', h'.IsRevIter it l ((i : Int) - 1) → Heap.SameBut it s.heap h' → Q x { s with heap := h' }) : wpAny (model prog w) A (Builtin.SmallTypes.nextOf (.ref it)) Q E s := by
  obtain ⟨o, ho, hc, hd⟩ := id hit
  obtain ⟨ol, hol, _, nl, hdl⟩ := hl
  unfold Builtin.SmallTypes.nextOf
  refine wpAny_bind (wpAny_callSpecial?_slot (name := Str.ofString "__next__") hit.typeIs F.slot_lri_next
    (wpAny_call_entry F.slot_lri_next hit.typeIs F.entry_lri_next ?_ (F.args_lri_next_1 _)))
  unfold Builtin.«list_reverseiterator.__next__»
  refine wpAny_bind (wpAny_of_eq (a := (Value.ref it, [])) rfl ?_)
  try dsimp only
  refine wpAny_bind (wpAny_field ho hd (x := rawInt (i : Int)) rfl ?_)
  show wpAny _ _ (if (i : Int) < 0 then _ else _) _ _ s
  rw [if_neg (by omega)]
  show wpAny _ _ (field (.ref it) 0 >>= _) _ _ s
  refine wpAny_bind (wpAny_field ho hd (x := .ref l) rfl ?_)
  show wpAny _ _ (seqItems? (.ref l) >>= _) _ _ s
  refine wpAny_bind (wpAny_seqItems hol hdl ?_)
  simp only [Int.toNat_natCast, hx]
  refine wpAny_bind (wpAny_setField ho hd (by simp) ?_)
  first
  | refine wpAny_pure ⟨x, rfl, wpAny_pure (hQ _ ?_ (Heap.SameBut.update ..))⟩
  | refine wpAny_bind (wpAny_pure (wpAny_pure ⟨x, rfl, wpAny_pure (hQ _ ?_ (Heap.SameBut.update ..))⟩))
  exact ⟨_, Heap.get?_update_self _ ho (Obj.isFreed_of_fields (Obj.data_mapFields hd _)), (Obj.cls_mapFields ..).trans hc, by
    rw [Obj.data_mapFields hd]; simp⟩
theorem nextOf_rev_end {it l : Addr} {Q : Value → Shared → Prop} (hh : A.handled = none) (hit : s.heap.IsRevIter it l (-1))
    (hE : ∀ h' e, Heap.ExtBut it s.heap h' → (∃ o, h'.get? e = some o ∧ o.cls = .type "StopIteration") → E (.ref e) { s with heap := h' }) : wpAny (model prog w) A (Builtin.SmallTypes.nextOf (.ref it)) Q E s := by
  obtain ⟨o, ho, hc, hd⟩ := id hit
  unfold Builtin.SmallTypes.nextOf
  refine wpAny_bind (wpAny_callSpecial?_slot (name := Str.ofString "__next__") hit.typeIs F.slot_lri_next
    (wpAny_call_entry F.slot_lri_next hit.typeIs F.entry_lri_next ?_ (F.args_lri_next_1 _)))
  unfold Builtin.«list_reverseiterator.__next__»
  refine wpAny_bind (wpAny_of_eq (a := (Value.ref it, [])) rfl ?_)
  try dsimp only
  refine wpAny_bind (wpAny_field ho hd (x := rawInt (-1)) rfl ?_)
  show wpAny _ _ (if (-1 : Int) < 0 then _ else _) _ _ s
  rw [if_pos (by decide)]
  refine wpAny_bind (wpAny_rule ?_)
  first
  | show wpAny _ _ (newExc (.type "StopIteration") [] >>= _) _ _ _
  | (refine wpAny_bind ?_; show wpAny _ _ (newExc (.type "StopIteration") [] >>= _) _ _ _)
  refine wpAny_bind ?_
  simp only [newExc, newTuple]
  refine wpAny_bind (wpAny_newObj_type ?_ (by size_fits))
  refine wpAny_bind (m := firstArgMember _ _) (wpAny_of_eq (a := Value.none) (by first | rfl | (simp only [firstArgMember]; rfl)) ?_)
  refine wpAny_newObj_type ?_ (by size_fits)
  simp only [raiseNew]
  refine wpAny_bind (wpAny_handled ?_)
  first | rw [show A.in1.handled = none from hh] | rw [hh]
  refine wpAny_bind (wpAny_pure (wpAny_throw ?_))
  exact hE _ _ (((Heap.ExtBut.refl _ _).push _).push _) ⟨_, Heap.get?_push_size _ rfl, rfl⟩
theorem nextOf_rt_item {it t : Addr} {i : Nat} {items : Array Value} {x : Value} {Q : Value → Shared → Prop} (hit : IsRt s.heap it t (i : Int)) (ht : IsTup s.heap t items) (hx : items[i]? = some x) (hsz : items.size ≤ sizeLine)
    (hQ : ∀ h', IsRt h' it t ((i : Int) - 1) → Heap.SameBut it s.heap h' → Q x { s with heap := h', toks := s.toks + 1 }) : wpAny (model prog w) A (Builtin.SmallTypes.nextOf (.ref it)) Q E s := by
  obtain ⟨o, ho, hc, hd⟩ := id hit
  have hi : i < items.size := (Array.getElem?_eq_some_iff.mp hx).1
  have hT : s.TypeIs (.ref t) "tuple" := IsTup.typeOf' ht
  rw [sizeLine_eq] at hsz
  unfold Builtin.SmallTypes.nextOf
  refine wpAny_bind (wpAny_callSpecial?_slot (name := Str.ofString "__next__") hit.typeIs slot_rt_next
    (wpAny_call_entry slot_rt_next hit.typeIs entry_rt_next ?_ (args_rt_next _)))
  unfold Builtin.«reversed.__next__»
  refine wpAny_bind (wpAny_of_eq (a := (Value.ref it, [])) rfl ?_)
  try dsimp only
  refine wpAny_bind (wpAny_field ho hd (x := .ref t) rfl ?_)
  try dsimp only
  refine wpAny_bind (wpAny_field ho hd (x := rawInt (i : Int)) rfl ?_)
  show wpAny _ _ (if (i : Int) < 0 then _ else _) _ _ s
  rw [if_neg (by omega)]
  try dsimp only
  refine wpAny_bind (wpAny_specialOf hT get_tuple ?_)
  try dsimp only
  try rw [if_neg (by decide)]
  try dsimp only
  refine wpAny_bind (wpAny_mkInt ?_)
  refine wpAny_bind (wpAny_attempt ?_)
  have fin : seqIndex? (i : Int) items.size = some i := seqIndex_of (by omega) (by omega)
  refine PyProof.Rows.getItem_tuple (s := { s with toks := s.toks + 1 }) ht (by omega) (by omega) fin hx ?_
  try dsimp only
  refine wpAny_bind (wpAny_field (s := { s with toks := s.toks + 1 }) ho hd (x := rawInt (i : Int)) rfl ?_)
  try dsimp only
  refine wpAny_bind (wpAny_setField (s := { s with toks := s.toks + 1 }) ho hd (by simp) ?_)
  first
  | refine wpAny_pure ⟨x, rfl, wpAny_pure (hQ _ ?_ (Heap.SameBut.update ..))⟩
  | refine wpAny_bind (wpAny_pure (wpAny_pure ⟨x, rfl, wpAny_pure (hQ _ ?_ (Heap.SameBut.update ..))⟩))
  exact ⟨_, Heap.get?_update_self _ ho (Obj.isFreed_of_fields (Obj.data_mapFields hd _)), (Obj.cls_mapFields ..).trans hc, by
    rw [Obj.data_mapFields hd]; simp⟩
theorem nextOf_rt_end {it t : Addr} {Q : Value → Shared → Prop} (hh : A.handled = none) (hit : IsRt s.heap it t (-1))
    (hE : ∀ h' e, Heap.ExtBut it s.heap h' → (∃ o, h'.get? e = some o ∧ o.cls = .type "StopIteration") → E (.ref e) { s with heap := h' }) : wpAny (model prog w) A (Builtin.SmallTypes.nextOf (.ref it)) Q E s := by
  obtain ⟨o, ho, hc, hd⟩ := id hit
  unfold Builtin.SmallTypes.nextOf
  refine wpAny_bind (wpAny_callSpecial?_slot (name := Str.ofString "__next__") hit.typeIs slot_rt_next
    (wpAny_call_entry slot_rt_next hit.typeIs entry_rt_next ?_ (args_rt_next _)))
  unfold Builtin.«reversed.__next__»
  refine wpAny_bind (wpAny_of_eq (a := (Value.ref it, [])) rfl ?_)
  try dsimp only
  refine wpAny_bind (wpAny_field ho hd (x := .ref t) rfl ?_)
  try dsimp only
  refine wpAny_bind (wpAny_field ho hd (x := rawInt (-1)) rfl ?_)
  show wpAny _ _ (if (-1 : Int) < 0 then _ else _) _ _ s
  rw [if_pos (by decide)]
  try dsimp only
  refine wpAny_bind (wpAny_rule ?_)
  refine wpAny_bind ?_
  wp_delta
  refine wpAny_bind (wpAny_setField ho hd (by simp) ?_)
  have ho2 := Heap.get?_update_self (Obj.mapFields (·.setIfInBounds 1 (rawInt (-1)))) ho (Obj.isFreed_of_fields (Obj.data_mapFields hd _))
  refine wpAny_setField (s := { s with heap := s.heap.update it (Obj.mapFields (·.setIfInBounds 1 (rawInt (-1)))) }) ho2 (Obj.data_mapFields hd _) (by simp) ?_
  try dsimp only
  first
  | show wpAny _ _ (newExc (.type "StopIteration") [] >>= _) _ _ _
  | (refine wpAny_bind ?_; show wpAny _ _ (newExc (.type "StopIteration") [] >>= _) _ _ _)
  | (refine wpAny_bind ?_; wp_delta; show wpAny _ _ (newExc (.type "StopIteration") [] >>= _) _ _ _)
  refine wpAny_bind ?_
  simp only [newExc, newTuple]
  refine wpAny_bind (wpAny_newObj_type ?_ (by size_fits))
  refine wpAny_bind (m := firstArgMember _ _) (wpAny_of_eq (a := Value.none) (by first | rfl | (simp only [firstArgMember]; rfl)) ?_)
  refine wpAny_newObj_type ?_ (by size_fits)
  simp only [raiseNew]
  refine wpAny_bind (wpAny_handled ?_)
  first | rw [show A.in1.handled = none from hh] | rw [hh]
  refine wpAny_bind (wpAny_pure (wpAny_throw ?_))
  refine hE _ _ ?_ ⟨_, Heap.get?_push_size _ rfl, rfl⟩
  refine ((?_ : Heap.ExtBut it s.heap _).push _).push _
  exact fun b ob hb e => (Heap.get?_update_other _ _ (Ne.symm hb)).trans ((Heap.get?_update_other _ _ (Ne.symm hb)).trans e)
end
end PySem
namespace G
open PySem PySem.Spec PyProof.Rows L2 RT
def ItR (t : Bool) (h : Heap) (it l : Addr) (i : Int) : Prop := if t then IsRt h it l i else h.IsRevIter it l i
theorem ItR.at {t : Bool} {h h' : Heap} {it l : Addr} {i : Int} (x : ItR t h it l i) (e : ∀ o, h.get? it = some o → h'.get? it = some o) : ItR t h' it l i := by
  cases t with
  | true => exact IsRt.at x e
  | false => exact Heap.IsRevIter.at x e
theorem ItR.obj {t : Bool} {h : Heap} {it l : Addr} {i : Int} (x : ItR t h it l i) : ∃ o, h.get? it = some o ∧ ∀ v, o.data ≠ .cell v := by
  cases t with
  | true => obtain ⟨o, e, _, d⟩ := x; exact ⟨o, e, fun v q => by rw [d] at q; cases q⟩
  | false => obtain ⟨o, e, _, d⟩ := x; exact ⟨o, e, fun v q => by rw [d] at q; cases q⟩
theorem draws_r {P : Program} {w : World} {A : Around} (hh : A.handled = none) (t : Bool) (it l : Addr) (ne : l ≠ it) (its : Array Value) (hsz : its.size ≤ sizeLine) :
    Draws P w A it [it, l] its.size (fun i v => its[its.size - 1 - i]? = some v) (fun i h => i ≤ its.size ∧ ItR t h it l ((its.size : Int) - 1 - (i : Nat)) ∧ IsQ t h l its) where
  live := fun _ _ st => let ⟨o, ho, _⟩ := st.2.1.obj; ⟨o, ho⟩
  frame := fun _ _ _ st hk => ⟨st.1, st.2.1.at fun o e => hk it (by simp) o e, by
    cases t with
    | true => exact Heap.IsTuple.at st.2.2 fun o e => hk l (by simp) o e
    | false => exact Heap.IsList.at st.2.2 fun o e => hk l (by simp) o e⟩
  item := fun i s Q E hi st hQ => by
    obtain ⟨h0, hit, hl⟩ := st
    have e1 : (its.size : Int) - 1 - (i : Int) = ((its.size - 1 - i : Nat) : Int) := by omega
    have e2 : ((its.size - 1 - i : Nat) : Int) - 1 = (its.size : Int) - 1 - ((i + 1 : Nat) : Int) := by omega
    have lx : its.size - 1 - i < its.size := by omega
    rw [e1] at hit
    cases t with
    | true =>
      refine nextOf_rt_item hit hl (x := its[its.size - 1 - i]) (by simp [lx]) hsz fun h' hit' hs' => ?_
      rw [e2] at hit'
      exact hQ _ h' (s.toks + 1) (by simp [lx]) ⟨by omega, hit', Heap.IsTuple.extBut hl hs'.extBut ne⟩ hs'
    | false =>
      refine nextOf_rev_item hit hl (x := its[its.size - 1 - i]) (by simp [lx]) fun h' hit' hs' => ?_
      rw [e2] at hit'
      exact hQ _ h' s.toks (by simp [lx]) ⟨by omega, hit', Heap.IsList.extBut hl hs'.extBut ne⟩ hs'
  done := fun s Q E st hE => by
    obtain ⟨h0, hit, hl⟩ := st
    rw [show (its.size : Int) - 1 - ((its.size : Nat) : Int) = -1 from by omega] at hit
    cases t with
    | true => exact nextOf_rt_end hh hit hE
    | false => exact nextOf_rev_end hh hit hE
end G
set_option Elab.async false
set_option linter.all false
set_option maxRecDepth 100000
set_option maxHeartbeats 4000000
/-! zip(reversed(xs), reversed(ys)), each a list or a tuple -/
namespace PySem
open Sem (wp)
/-- iter(v) is v -/
structure Stays (v : Value) (H : Heap → Prop) : Prop where
  iter : ∀ (prog : Program) (w : World) (A : Around) (E : Value → Shared → Prop) (s : Shared) (Q : Value → Shared → Prop), H s.heap → Q v s → wpAny (model prog w) A (pyIter v) Q E s
abbrev giT2 (h : Heap) (v1 v2 : Value) : Heap := h.push { cls := .type "tuple", data := .seq #[v1, v2] }
abbrev giO2 (h : Heap) (v1 v2 : Value) : Heap := (giT2 h v1 v2).push { cls := .type "tuple", data := .seq #[.none, .none] }
abbrev giZ2 (h : Heap) (v1 v2 : Value) : Heap := (giO2 h v1 v2).push { cls := .type "zip", data := .fields #[.none, .bool false, .bool false, .ref h.objs.size, .ref (giT2 h v1 v2).objs.size] }
theorem meets_zip_newI {v1 v2 : Value} {H1 H2 : Heap → Prop} (B1 : Stays v1 H1) (B2 : Stays v2 H2) :
    Meets (Builtin.«zip.__new__» ⟨[.type "zip", v1, v2], []⟩) (fun _ R s => (H1 s.heap ∧ H2 s.heap) ∧
      R (.ok (.ret (.ref (giO2 s.heap v1 v2).objs.size))) { s with heap := giZ2 s.heap v1 v2 }) :=
  .of_wp fun prog w A R s h => by
    obtain ⟨hp, g, d, tk, os⟩ := s; obtain ⟨⟨h1, h2⟩, h⟩ := h
    have hsub := sub_zip
    have q1 : ∀ {A' : Around} {E : Value → Shared → Prop} {Q : Value → Shared → Prop}, Q v1 ⟨hp, g, d, tk, os⟩ → wpAny (model prog w) A' (pyIter v1) Q E ⟨hp, g, d, tk, os⟩ :=
      fun q => B1.iter prog w _ _ ⟨hp, g, d, tk, os⟩ _ h1 q
    have q2 : ∀ {A' : Around} {E : Value → Shared → Prop} {Q : Value → Shared → Prop}, Q v2 ⟨hp, g, d, tk, os⟩ → wpAny (model prog w) A' (pyIter v2) Q E ⟨hp, g, d, tk, os⟩ :=
      fun q => B2.iter prog w _ _ ⟨hp, g, d, tk, os⟩ _ h2 q
    wp_walk using q1, q2
    exact ⟨_, rfl, h⟩
section
variable {prog : Program} {w : World} {A : Around} {E : Value → Shared → Prop} {s : Shared}
theorem zip_beginsI {v1 v2 : Value} {H1 H2 : Heap → Prop} {Q : Value → Shared → Prop} (B1 : Stays v1 H1) (B2 : Stays v2 H2) (h1 : H1 s.heap) (h2 : H2 s.heap)
    (h : ∀ h', IsZip h' (s.heap.objs.size + 2) s.heap.objs.size (s.heap.objs.size + 1) .none → IsTupOf2 h' s.heap.objs.size v1 v2 →
      IsTupOf2 h' (s.heap.objs.size + 1) .none .none → h'.objs.size = s.heap.objs.size + 3 →
      (∀ c o, s.heap.get? c = some o → h'.get? c = some o) → Q (.ref (s.heap.objs.size + 2)) { s with heap := h' }) :
    wpAny (model prog w) A (call (.type "zip") [v1, v2]) Q E s := by
  refine callType_new F.called_zip (by decide) (F.typeCall_zip_2 _ _) (F.newCall_zip_2 _ _) (fun obj => F.args_object_init_3 obj _ _) F.entry_zip_new
    (meets_zip_newI B1 B2) ⟨⟨h1, h2⟩, ?_⟩
  have zT : (giT2 s.heap v1 v2).objs.size = s.heap.objs.size + 1 := by rw [Heap.size_push]
  have zO : (giO2 s.heap v1 v2).objs.size = s.heap.objs.size + 2 := by rw [Heap.size_push, zT]
  have zZ : (giZ2 s.heap v1 v2).objs.size = s.heap.objs.size + 3 := by rw [Heap.size_push, zO]
  have gZ : (giZ2 s.heap v1 v2).get? (giO2 s.heap v1 v2).objs.size = some { cls := .type "zip", data := .fields #[.none, .bool false, .bool false, .ref s.heap.objs.size, .ref (giT2 s.heap v1 v2).objs.size] } := Heap.get?_push_size _ rfl
  have gO : (giZ2 s.heap v1 v2).get? (giT2 s.heap v1 v2).objs.size = some { cls := .type "tuple", data := .seq #[.none, .none] } := Heap.get?_push_of_some _ (Heap.get?_push_size _ rfl)
  have gT : (giZ2 s.heap v1 v2).get? s.heap.objs.size = some { cls := .type "tuple", data := .seq #[v1, v2] } := Heap.get?_push_of_some _ (Heap.get?_push_of_some _ (Heap.get?_push_size _ rfl))
  rw [zO, zT] at gZ
  rw [zT] at gO
  show _ ∧ _
  rw [zO]
  exact ⟨⟨_, gZ, rfl⟩, h _ gZ gT gO zZ fun c o e => Heap.get?_push_of_some _ (Heap.get?_push_of_some _ (Heap.get?_push_of_some _ e))⟩
end
end PySem
namespace G
open PySem PySem.Spec PyProof.Rows L2 RT
theorem stays_r (t : Bool) (it l : Addr) (i : Int) : Stays (.ref it) fun h => ItR t h it l i := ⟨fun prog w A E s Q h q => by
  cases t with
  | true => exact iter_rt h q
  | false => exact wpAny_pyIter_revIter h q⟩
/-- pairs from the end -/
def Itr (K : PySem.W.Frag) (t1 t2 : Bool) (a b : Addr) (m n : Nat) : It where
  go := fun i H => ∃ xs ys x y, Sq K t1 H a xs ∧ Sq K t2 H b ys ∧ xs.length = m ∧ ys.length = n ∧ i < m ∧ i < n ∧ xs[m - 1 - i]? = some x ∧ ys[n - 1 - i]? = some y
  yld := fun i H v H' => ∃ T x y, v = .ref T ∧ H T = none ∧ H' = upd H T (.tup [x, y]) ∧ (∀ xs, Sq K t1 H a xs → xs[m - 1 - i]? = some x) ∧ ∀ ys, Sq K t2 H b ys → ys[n - 1 - i]? = some y
  stop := fun i H => ∃ xs ys : List V, Sq K t1 H a xs ∧ Sq K t2 H b ys ∧ xs.length = m ∧ ys.length = n ∧ i ≤ m ∧ i ≤ n ∧ (i = m ∨ i = n)
theorem turn_r {P : Program} {w : World} {K : PySem.W.Frag} {elts : List Expr} {kk : Nat} {tp : Pos} {t1 t2 : Bool} {a b z TI TO i1 i2 : Addr} {m n : Nat} (hm : m ≤ sizeLine) (hn : n ≤ sizeLine) (S : ZipSep2 z TI TO i1 i2 [i1, a] [i2, b]) (n1 : a ≠ i1) (n2 : b ≠ i2) :
    Turn P w K (.Tuple elts kk tp) (Itr K t1 t2 a b m n) [z, TI, TO, i1, i2] z (fun i h => IsZip h z TI TO .none ∧ IsTupOf2 h TI (.ref i1) (.ref i2) ∧ (∃ x y, IsTupOf2 h TO x y) ∧ ItR t1 h i1 a ((m : Int) - 1 - (i : Nat)) ∧ ItR t2 h i2 b ((n : Int) - 1 - (i : Nat))) where
  mem := by simp
  obj := fun i h st c hc => by
    obtain ⟨sz, sI, ⟨x, y, sO⟩, s1, s2⟩ := st
    rcases mem5 hc with e | e | e | e | e <;> subst e
    · exact ⟨_, sz, fun v q => nomatch q⟩
    · exact ⟨_, sI, fun v q => nomatch q⟩
    · exact ⟨_, sO, fun v q => nomatch q⟩
    · exact s1.obj
    · exact s2.obj
  keep := fun i h h' st k => by
    obtain ⟨sz, sI, ⟨x, y, sO⟩, s1, s2⟩ := st
    have kz := k z (by simp)
    have kI := k TI (by simp)
    have kO := k TO (by simp)
    exact ⟨kz _ sz, kI _ sI, ⟨x, y, kO _ sO⟩, s1.at (k i1 (by simp)), s2.at (k i2 (by simp))⟩
  item := fun X e1 e2 e3 calm i pins s σ H E I hf st go => by
    subst e1; subst e2; subst e3
    obtain ⟨sz, sI, ⟨x0, y0, sO⟩, s1, s2⟩ := st
    obtain ⟨xs, ys, x, y, qa, qb, lm, ln, im, jn, ex, ey⟩ := go
    obtain ⟨us, va, ha⟩ := inv_q I qa
    obtain ⟨ws, vb, hb⟩ := inv_q I qb
    obtain ⟨u, eu, ru⟩ := va.get ex
    obtain ⟨v, ev, rv⟩ := vb.get ey
    have m1 : us.toArray.size = m := by rw [List.size_toArray]; rw [← lm]; exact va.length.symm
    have m2 : ws.toArray.size = n := by rw [List.size_toArray]; rw [← ln]; exact vb.length.symm
    have calmA : X.A.in1.handled = none := I.ok.hd calm
    have zlt : z < s.heap.objs.size := Heap.lt_size sz
    have small : ∀ c ∈ [z, TI, TO, i1, i2], c < s.heap.objs.size := fun c hc => by
      rcases mem5 hc with e | e | e | e | e <;> subst e
      · exact zlt
      · exact Heap.lt_size sI
      · exact Heap.lt_size sO
      · obtain ⟨o, e, _⟩ := s1.obj; exact Heap.lt_size e
      · obtain ⟨o, e, _⟩ := s2.obj; exact Heap.lt_size e
    refine wpAny_pyNext_zipD2_item S (draws_r calmA t1 i1 a n1 us.toArray (by omega)) (draws_r calmA t2 i2 b n2 ws.toArray (by omega)) sz sI sO ⟨show i ≤ us.toArray.size from by omega, by rw [m1]; exact s1, ha⟩ ⟨show i ≤ ws.toArray.size from by omega, by rw [m2]; exact s2, hb⟩ (by omega) (by omega) fun x1 x2 h' tk p1 p2 z' O' s1' s2' hT hsz hk => ?_
    rw [m1] at p1 s1'
    rw [m2] at p2 s2'
    have e1 : x1 = u := by
      rw [List.getElem?_toArray, eu] at p1
      exact (Option.some.inj p1).symm
    have e2 : x2 = v := by
      rw [List.getElem?_toArray, ev] at p2
      exact (Option.some.inj p2).symm
    subst e1; subst e2
    refine ⟨_, rfl, wpAny_letOwnedTupleGo_zip (s := { s with heap := h', toks := tk }) z' fun h2 z2 sb => ?_⟩
    have back : ∀ c, c ∉ [z, TI, TO, i1, i2] → ∀ o, s.heap.get? c = some o → h2.get? c = some o := fun c hc o e => by
      have c1 : c ≠ z := fun q => hc (by rw [q]; simp)
      have c2 : c ≠ TO := fun q => hc (by rw [q]; simp)
      have c3 : c ≠ i1 := fun q => hc (by rw [q]; simp)
      have c4 : c ≠ i2 := fun q => hc (by rw [q]; simp)
      exact (sb.2 c c1).trans (hk c o c1 c2 c3 c4 e)
    have T2 : h2.get? s.heap.objs.size = some { cls := .type "tuple", data := .seq #[x1, x2] } := (sb.2 _ (Nat.ne_of_gt zlt)).trans hT
    have ok2 : ObjOk X.prog X.w (upd H s.heap.objs.size (.tup [x, y])) h2 s.heap.objs.size (.tup [x, y]) := by
      refine ⟨?_, [x1, x2], .cons ru (.cons rv .nil), ⟨_, T2, rfl, _, rfl⟩⟩
      show 2 ≤ sizeLine
      decide
    have J : Inv X pins σ (upd H s.heap.objs.size (.tup [x, y])) { s with heap := h2, toks := tk } := I.turnedNew (ch := [z, TI, TO, i1, i2]) (fun c o hc e => back c hc o e) hf (Nat.le_refl _) ok2
    refine ⟨.ref s.heap.objs.size, upd H s.heap.objs.size (.tup [x, y]), J, rfl, ?_, ?_, fun c hc => ?_⟩
    · exact ⟨_, x, y, rfl, I.hok.fresh (Nat.le_refl _), rfl, fun l q => (inj_q I qa q) ▸ ex, fun l q => (inj_q I qb q) ▸ ey⟩
    · have nI : TI ≠ i2 := S.TIi2
      refine ⟨z2, (sb.2 _ S.TIz).trans (hk _ _ S.TIz S.TITO S.TIi1 nI sI), ⟨x1, x2, (sb.2 _ S.TOz).trans O'⟩, s1'.2.1.at fun o e => ?_, s2'.2.1.at fun o e => ?_⟩
      · exact (sb.2 _ S.zi1.symm).trans e
      · exact (sb.2 _ S.zi2.symm).trans e
    · rw [upd_ne (Nat.ne_of_lt (small c hc))]
      exact (hf c hc).1
  done := fun X e1 e2 e3 calm i pins s σ H E I hf st stp => by
    subst e1; subst e2; subst e3
    obtain ⟨sz, sI, ⟨x0, y0, sO⟩, s1, s2⟩ := st
    obtain ⟨xs, ys, qa, qb, lm, ln, l1, l2, hor⟩ := stp
    obtain ⟨us, va, ha⟩ := inv_q I qa
    obtain ⟨ws, vb, hb⟩ := inv_q I qb
    have m1 : us.toArray.size = m := by rw [List.size_toArray]; rw [← lm]; exact va.length.symm
    have m2 : ws.toArray.size = n := by rw [List.size_toArray]; rw [← ln]; exact vb.length.symm
    have calmA : X.A.in1.handled = none := I.ok.hd calm
    refine wpAny_pyNext_zipD2_end S (draws_r calmA t1 i1 a n1 us.toArray (by omega)) (draws_r calmA t2 i2 b n2 ws.toArray (by omega)) sz sI sO ⟨show i ≤ us.toArray.size from by omega, by rw [m1]; exact s1, ha⟩ ⟨show i ≤ ws.toArray.size from by omega, by rw [m2]; exact s2, hb⟩ (by omega) (by omega) (by omega) fun h' tk hk => ⟨rfl, ?_⟩
    refine I.turnedL (t' := tk) (ch := [z, TI, TO, i1, i2]) (fun c o hc e => ?_) hf
    have c1 : c ≠ z := fun q => hc (by rw [q]; simp)
    have c2 : c ≠ TO := fun q => hc (by rw [q]; simp)
    have c3 : c ≠ i1 := fun q => hc (by rw [q]; simp)
    have c4 : c ≠ i2 := fun q => hc (by rw [q]; simp)
    exact hk c o c1 c2 c3 c4 e
  self := fun A i s Q E st h => wpAny_pyIter_zip st.1 h
theorem walk_r {K : PySem.W.Frag} {t1 t2 : Bool} {a b : Addr} {xs ys : List V} {k : Nat} (hn : k = min xs.length ys.length) : Walk (Itr K t1 t2 a b xs.length ys.length) k (fun H => Sq K t1 H a xs ∧ Sq K t2 H b ys) (YPair (fun i => xs[xs.length - 1 - i]?) (fun i => ys[ys.length - 1 - i]?)) where
  goes := fun i H hi q => ⟨xs, ys, xs[xs.length - 1 - i]'(by omega), ys[ys.length - 1 - i]'(by omega), q.1, q.2, rfl, rfl, by omega, by omega, List.getElem?_eq_getElem _, List.getElem?_eq_getElem _⟩
  stops := fun H q => ⟨xs, ys, q.1, q.2, rfl, rfl, by omega, by omega, by omega⟩
  yields := fun i H v H' _ q ⟨T, x, y, e1, e2, e3, e4, e5⟩ => ⟨T, x, y, e1, e2, e3, e4 xs q.1, e5 ys q.2⟩
end G
set_option Elab.async false
set_option linter.all false
set_option maxRecDepth 100000
set_option maxHeartbeats 4000000
/-! zip(reversed(xs), reversed(ys)): its words -/
namespace G
open PySem PySem.Spec PyProof.Rows L2 RT
section
variable {X : Cx} {pins : List (Addr × Obj)} {σ : L2.St} {H : Hp} {s : Shared}
theorem pin_on {p : Addr × Obj} (I : Inv X pins σ H s) (h : s.heap.get? p.1 = some p.2 ∧ H p.1 = none ∧ p.1 ≠ X.env.locals ∧ p.1 ∉ X.fs ∧ ∀ v, p.2.data ≠ .cell v) : Inv X (p :: pins) σ H s :=
  ⟨I.ok, I.os, I.bare, I.base, I.loc, I.cell, I.free, I.freeC, fun q hq => by
    rcases List.mem_append.mp hq with hq | hq
    · exact I.pin q (List.mem_append_left _ hq)
    · rcases List.mem_cons.mp hq with rfl | hq
      · exact h
      · exact I.pin q (List.mem_append_right _ hq), I.hok, I.len⟩
theorem pin_off {p : Addr × Obj} (I : Inv X (p :: pins) σ H s) : Inv X pins σ H s :=
  ⟨I.ok, I.os, I.bare, I.base, I.loc, I.cell, I.free, I.freeC, fun q hq => by
    rcases List.mem_append.mp hq with hq | hq
    · exact I.pin q (List.mem_append_left _ hq)
    · exact I.pin q (List.mem_append_right _ (List.mem_cons_of_mem _ hq)), I.hok, I.len⟩
theorem pin_at {p : Addr × Obj} (I : Inv X (p :: pins) σ H s) : s.heap.get? p.1 = some p.2 ∧ H p.1 = none := by
  have := I.pin p (List.mem_append_right _ (List.mem_cons_self ..))
  exact ⟨this.1, this.2.1⟩
theorem IsQ.seq {t : Bool} {h : Heap} {a : Addr} {its : Array Value} (p : IsQ t h a its) : ∃ o n, h.get? a = some o ∧ o.data = .seq its n := by
  cases t with
  | true => obtain ⟨o, e, _, n, d⟩ := p; exact ⟨o, n, e, d⟩
  | false => obtain ⟨o, e, _, n, d⟩ := p; exact ⟨o, n, e, d⟩
theorem sq_len {K : PySem.W.Frag} {t : Bool} {a : Addr} {xs : List V} (I : Inv X pins σ H s) (h : Sq X.K t H a xs) : xs.length ≤ sizeLine := by
  cases t with
  | true => obtain ⟨its, r, p, z⟩ := I.tuple h; exact z
  | false => obtain ⟨its, r, p, z⟩ := I.list h; exact z
/-- reversed(x): an iterator, pinned -/
theorem call_r {t : Bool} {a : Addr} {xs : List V} {E : Value → Shared → Prop} {Q : Value → Shared → Prop} (I : Inv X pins σ H s) (h : Sq X.K t H a xs)
    (q : ∀ (s' : Shared) (o : Obj), Inv X ((s.heap.objs.size, o) :: pins) σ H s' → FpOk X pins H s.heap.objs.size → (∃ vs, o.data = .fields vs) → s'.heap.get? s.heap.objs.size = some o → ItR t s'.heap s.heap.objs.size a ((xs.length : Int) - 1) → s'.heap.objs.size = s.heap.objs.size + 1 → Q (.ref s.heap.objs.size) s') :
    wpAny (model X.prog X.w) X.A (call (.type "reversed") [.ref a]) Q E s := by
  have fr := I.hok.fresh (Nat.le_refl s.heap.objs.size)
  have fp := I.fpOk (Nat.le_refl _) fr
  cases t with
  | false =>
    obtain ⟨its, rv, p', hz⟩ := I.list h
    have e1 : ((its.toArray.size : Nat) : Int) - 1 = (xs.length : Int) - 1 := by rw [List.size_toArray, rv.length]
    refine call_reversed_list p'.isList ?_
    rw [e1]
    have I' : Inv X pins σ H { s with heap := s.heap.push (revObj a ((xs.length : Int) - 1)) } := I.kept (t' := s.toks) fun b ob q => Heap.get?_push_of_some _ q
    have g : (s.heap.push (revObj a ((xs.length : Int) - 1))).get? s.heap.objs.size = some (revObj a ((xs.length : Int) - 1)) := Heap.get?_push_size _ rfl
    exact q _ _ (pin_on I' ⟨g, fr, fp.2.1, fp.2.2.1, fun v z => nomatch z⟩) fp ⟨_, rfl⟩ g ⟨_, g, rfl, rfl⟩ (Heap.size_push ..)
  | true =>
    obtain ⟨its, rv, p', hz⟩ := I.tuple h
    have hn := line63
    have hl := rv.length
    have e1 : ((its.toArray.size : Nat) : Int) - 1 = (xs.length : Int) - 1 := by rw [List.size_toArray, rv.length]
    refine call_reversed_tup p' (fun A E Q k => len_tuple p' (by simp only [List.size_toArray] <;> omega) k) ?_
    rw [e1]
    have I' : Inv X pins σ H { s with heap := s.heap.push (rtObj a ((xs.length : Int) - 1)), toks := s.toks + 1 + 1 } := I.kept (t' := s.toks + 1 + 1) fun b ob q => Heap.get?_push_of_some _ q
    have g : (s.heap.push (rtObj a ((xs.length : Int) - 1))).get? s.heap.objs.size = some (rtObj a ((xs.length : Int) - 1)) := Heap.get?_push_size _ rfl
    exact q _ _ (pin_on I' ⟨g, fr, fp.2.1, fp.2.2.1, fun v z => nomatch z⟩) fp ⟨_, rfl⟩ g ⟨_, g, rfl, rfl⟩ (Heap.size_push ..)
end
def iZr (K : PySem.W.Frag) (t1 t2 : Bool) (te1 te2 : TE) : TI := fun σ H R => te1 σ H fun v H1 => ∃ a xs, v = .ref a ∧ Sq K t1 H1 a xs ∧ te2 σ H1 fun u H2 => ∃ b ys, u = .ref b ∧ Sq K t1 H2 a xs ∧ Sq K t2 H2 b ys ∧ R (Itr K t1 t2 a b xs.length ys.length) H2
theorem pi_zr {X : Cx} {e1 e2 : Expr} {te1 te2 : TE} {p p1 p2 q1 q2 pos tp : Pos} {elts : List Expr} {kk : Nat} {t1 t2 : Bool} (hg : Gl X "zip") (hm : X.mg "zip" = none) (hgr : Gl X "reversed") (hmr : X.mg "reversed" = none) (he1 : PE X e1 te1) (he2 : PE X e2 te2)
    (hs : starEach [.Call (.Name "reversed" p1) [e1] [] q1, .Call (.Name "reversed" p2) [e2] [] q2] X.env = (false, eval (.Call (.Name "reversed" p1) [e1] [] q1) X.env) :: starEach [.Call (.Name "reversed" p2) [e2] [] q2] X.env)
    (hs2 : starEach [.Call (.Name "reversed" p2) [e2] [] q2] X.env = (false, eval (.Call (.Name "reversed" p2) [e2] [] q2) X.env) :: starEach [] X.env)
    (ha1 : starEach [e1] X.env = (false, eval e1 X.env) :: starEach [] X.env) (ha2 : starEach [e2] X.env = (false, eval e2 X.env) :: starEach [] X.env) (hpl : (backTo pos (starEach [.Call (.Name "reversed" p2) [e2] [] q2] X.env)).any (·.1) = false) :
    PI X (.Tuple elts kk tp) (.Call (.Name "zip" p) [.Call (.Name "reversed" p1) [e1] [] q1, .Call (.Name "reversed" p2) [e2] [] q2] [] pos) (iZr X.K t1 t2 te1 te2) := by
  refine ⟨fun pins s σ H R I h => ?_⟩
  refine Call_ (ld_blt I hg hm boot_zip (callWith_type1 (args_cons (Call_ (ld_blt I hgr hmr PyProof.Rows.boot_reversed (PyProof.Rows.callWith_type1 (args_cons (thn (he1.run pins s σ H _ I h) fun u s1 ⟨v, H1, I1, r1, z1⟩ => args_nil ?_) ha1) ha1 rfl))) hs) hs hpl))
  obtain ⟨a, xs, ev, qa, z1⟩ := z1
  subst ev
  obtain rfl : u = Value.ref a := r1
  refine call_r I1 qa fun s2 o1 J1 fp1 fl1 g1 it1 sz1 => ?_
  refine args_cons (Call_ (ld_blt J1 hgr hmr PyProof.Rows.boot_reversed (PyProof.Rows.callWith_type1 (args_cons (thn (he2.run _ s2 σ H1 _ J1 z1) fun u s3 ⟨v, H2, I2, r2, z2⟩ => args_nil ?_) ha2) ha2 rfl))) hs2
  obtain ⟨b, ys, ev, qa2, qb, z2⟩ := z2
  subst ev
  obtain rfl : u = Value.ref b := r2
  refine call_r I2 qb fun s4 o2 J2 fp2 fl2 g2 it2 sz2 => args_nil ?_
  have J3 := pin_off J2
  have J4 := pin_off J3
  obtain ⟨g3, n3⟩ := pin_at J3
  obtain ⟨g3', _⟩ := pin_at I2
  have it1' : ItR t1 s4.heap s1.heap.objs.size a ((xs.length : Int) - 1) := it1.at fun o e => by rw [g1] at e; cases e; exact g3
  obtain ⟨us, va, ha⟩ := inv_q J4 qa2
  obtain ⟨ws, vb, hb⟩ := inv_q J4 qb
  have la := ha.lt
  have lb := hb.lt
  obtain ⟨us3, va3, ha3⟩ := inv_q I2 qa2
  obtain ⟨ws3, vb3, hb3⟩ := inv_q I2 qb
  have la3 := ha3.lt
  have lb3 := hb3.lt
  obtain ⟨vs1, f1⟩ := fl1
  have l1 : s1.heap.objs.size < s3.heap.objs.size := Heap.lt_size g3'
  have ne1a : a ≠ s1.heap.objs.size := fun e => by
    obtain ⟨o, n, e2, d⟩ := ha3.seq
    rw [e, g3'] at e2; cases e2
    rw [f1] at d; cases d
  have ne1b : b ≠ s1.heap.objs.size := fun e => by
    obtain ⟨o, n, e2, d⟩ := hb3.seq
    rw [e, g3'] at e2; cases e2
    rw [f1] at d; cases d
  have ne2a : a ≠ s3.heap.objs.size := Nat.ne_of_lt la3
  have ne2b : b ≠ s3.heap.objs.size := Nat.ne_of_lt lb3
  have l14 : s1.heap.objs.size < s4.heap.objs.size := Heap.lt_size g3
  have l24 : s3.heap.objs.size < s4.heap.objs.size := Heap.lt_size g2
  refine zip_beginsI (stays_r t1 _ a _) (stays_r t2 _ b _) it1' it2 fun h' sz sI sO hsz hk => wpAny_pyIter_zip sz ?_
  have J5 : Inv X pins σ H2 { s4 with heap := h' } := J4.kept (t' := s4.toks) hk
  have fresh : ∀ c, s4.heap.objs.size ≤ c → FpOk X pins H2 c := fun c hc => J4.fpOk hc (J4.hok.fresh hc)
  have sep : ZipSep2 (s4.heap.objs.size + 2) s4.heap.objs.size (s4.heap.objs.size + 1) s1.heap.objs.size s3.heap.objs.size [s1.heap.objs.size, a] [s3.heap.objs.size, b] := by
    have x1 : (s1.heap.objs.size : Nat) < s4.heap.objs.size := l14
    have x2 : (s3.heap.objs.size : Nat) < s4.heap.objs.size := l24
    have x3 : (a : Nat) < s4.heap.objs.size := la
    have x4 : (b : Nat) < s4.heap.objs.size := lb
    have x5 : (s1.heap.objs.size : Nat) < s3.heap.objs.size := l1
    have two : ∀ {c x y : Addr}, c ≠ x → c ≠ y → c ∉ [x, y] := fun h1 h2 hm => by
      rcases List.mem_cons.mp hm with e | hm
      · exact h1 e
      · exact h2 (List.mem_singleton.mp hm)
    have gt : ∀ {c d : Nat}, d < c → (c : Addr) ≠ (d : Addr) := fun h e => by
      have e : (_ : Nat) = _ := e
      omega
    exact { TIz := fun e => by have e : (s4.heap.objs.size : Nat) = s4.heap.objs.size + 2 := e; omega, TOz := fun e => by have e : (s4.heap.objs.size + 1 : Nat) = s4.heap.objs.size + 2 := e; omega, TITO := fun e => by have e : (s4.heap.objs.size : Nat) = s4.heap.objs.size + 1 := e; omega,
            TIi1 := gt x1, mem1 := List.mem_cons_self .., zf1 := two (gt (by omega)) (gt (Nat.lt_of_lt_of_le la (Nat.le_add_right _ 2))), Tf1 := two (gt (by omega)) (gt (Nat.lt_of_lt_of_le la (Nat.le_add_right _ 1))),
            TIi2 := gt x2, mem2 := List.mem_cons_self .., zf2 := two (gt (by omega)) (gt (Nat.lt_of_lt_of_le lb (Nat.le_add_right _ 2))), Tf2 := two (gt (by omega)) (gt (Nat.lt_of_lt_of_le lb (Nat.le_add_right _ 1))),
            sep1_2 := two (fun e => gt x5 e.symm) (fun e => ne1b e.symm), sep2_1 := two (gt x5) (fun e => ne2a e.symm) }
  refine ⟨_, _, _, Itr X.K t1 t2 a b xs.length ys.length, H2, rfl, J5, turn_r (t1 := t1) (t2 := t2) (sq_len (K := X.K) J4 qa2) (sq_len (K := X.K) J4 qb) sep ne1a ne2b, ⟨sz, sI, ⟨_, _, sO⟩, ?_, ?_⟩, fun c hc => ?_, z2⟩
  · rw [show (xs.length : Int) - 1 - ((0 : Nat) : Int) = (xs.length : Int) - 1 from by omega]
    exact it1'.at fun o e => hk _ o e
  · rw [show (ys.length : Int) - 1 - ((0 : Nat) : Int) = (ys.length : Int) - 1 from by omega]
    exact it2.at fun o e => hk _ o e
  · rcases mem5 hc with e | e | e | e | e
    · rw [e]; exact fresh _ (Nat.le_add_right _ _)
    · rw [e]; exact fresh _ (Nat.le_refl _)
    · rw [e]; exact fresh _ (Nat.le_add_right _ _)
    · rw [e]; exact ⟨n3, fp1.2⟩
    · rw [e]
      refine ⟨fp2.1, fp2.2.1, fp2.2.2.1, fp2.2.2.2.1, fp2.2.2.2.2.1, fun p hp => ?_⟩
      rcases List.mem_append.mp hp with hp | hp
      · exact fp2.2.2.2.2.2 p (List.mem_append_left _ hp)
      · exact fp2.2.2.2.2.2 p (List.mem_append_right _ (List.mem_cons_of_mem _ hp))
end G
set_option Elab.async false
set_option linter.all false
set_option maxRecDepth 100000
set_option maxHeartbeats 4000000
namespace G
open PySem PySem.Spec PyProof.Rows L2 RT
section
variable {g : Gx} {Γ : Gm} {P Q R : Pr} {e e1 e2 tg : Expr} {pos p2 : Pos} {D : En} {rest : List Stmt} {rs qs : List Pr}
theorem i_zr {t1 t2 : Bool} {elts : List Expr} {kk : Nat} {tp p p1 p3 q1 q3 : Pos} (hm : g.X.mg "zip" = none) (hmr : g.X.mg "reversed" = none) (h : JE g e1 Γ (rQ g.X.K t1 rs)) (h' : JE g e2 Γ (rQ g.X.K t2 qs)) (hg : Gl g.X "zip" := by rfl) (hgr : Gl g.X "reversed" := by rfl)
    (hs : starEach [.Call (.Name "reversed" p1) [e1] [] q1, .Call (.Name "reversed" p3) [e2] [] q3] g.X.env = (false, eval (.Call (.Name "reversed" p1) [e1] [] q1) g.X.env) :: starEach [.Call (.Name "reversed" p3) [e2] [] q3] g.X.env := by rfl)
    (hs2 : starEach [.Call (.Name "reversed" p3) [e2] [] q3] g.X.env = (false, eval (.Call (.Name "reversed" p3) [e2] [] q3) g.X.env) :: starEach [] g.X.env := by rfl)
    (ha1 : starEach [e1] g.X.env = (false, eval e1 g.X.env) :: starEach [] g.X.env := by rfl) (ha2 : starEach [e2] g.X.env = (false, eval e2 g.X.env) :: starEach [] g.X.env := by rfl) (hpl : (backTo pos (starEach [.Call (.Name "reversed" p3) [e2] [] q3] g.X.env)).any (·.1) = false := by rfl) :
    JI g (.Tuple elts kk tp) (.Call (.Name "zip" p) [.Call (.Name "reversed" p1) [e1] [] q1, .Call (.Name "reversed" p3) [e2] [] q3] [] pos) Γ (min rs.length qs.length) (fun i => rTs g.X.K [nth rs (rs.length - 1 - i), nth qs (qs.length - 1 - i)]) :=
  ⟨fun w σ B H s => ofI (pi_zr (t1 := t1) (t2 := t2) hg hm hgr hmr pE pE hs hs2 ha1 ha2 hpl) ((h.run w σ B H s).mono fun v H1 ⟨B1, a1, x1⟩ => by
    obtain ⟨p, xs, rfl, f1, s1⟩ := rQ_at x1
    refine ⟨p, xs, rfl, s1 B1 H1 (Le.refl _) a1.sta.st.ok, (h'.run w σ B1 H1 a1.sta).mono fun u H2 ⟨B2, a2, x2⟩ => ?_⟩
    obtain ⟨q, ys, rfl, f2, s2⟩ := rQ_at x2
    refine ⟨q, ys, rfl, s1 B2 H2 a2.le a2.sta.st.ok, s2 B2 H2 (Le.refl _) a2.sta.st.ok, B2, a1.trans a2, ?_⟩
    exact gives_pair (walk_r (by rw [f1.len, f2.len])) (fun B3 H3 l k => ⟨s1 B3 H3 (a2.le.trans l) k, s2 B3 H3 l k⟩) (fun i x B3 hi l ex => by
      have z := (f1.mono (a2.le.trans l)).nth ex
      rw [f1.len] at z; exact z) (fun i x B3 hi l ex => by
      have z := (f2.mono l).nth ex
      rw [f2.len] at z; exact z))⟩
theorem m_zr {α β : Type} {xs : List α} {ys : List β} {r : α → Pr} {r' : β → Pr} {t1 t2 : Bool} {elts : List Expr} {kk : Nat} {tp p p1 p3 q1 q3 : Pos} (hm : g.X.mg "zip" = none) (hmr : g.X.mg "reversed" = none) (h : JE g e1 Γ (rQ g.X.K t1 (xs.map r))) (h' : JE g e2 Γ (rQ g.X.K t2 (ys.map r'))) (hg : Gl g.X "zip" := by rfl) (hgr : Gl g.X "reversed" := by rfl)
    (hs : starEach [.Call (.Name "reversed" p1) [e1] [] q1, .Call (.Name "reversed" p3) [e2] [] q3] g.X.env = (false, eval (.Call (.Name "reversed" p1) [e1] [] q1) g.X.env) :: starEach [.Call (.Name "reversed" p3) [e2] [] q3] g.X.env := by rfl)
    (hs2 : starEach [.Call (.Name "reversed" p3) [e2] [] q3] g.X.env = (false, eval (.Call (.Name "reversed" p3) [e2] [] q3) g.X.env) :: starEach [] g.X.env := by rfl)
    (ha1 : starEach [e1] g.X.env = (false, eval e1 g.X.env) :: starEach [] g.X.env := by rfl) (ha2 : starEach [e2] g.X.env = (false, eval e2 g.X.env) :: starEach [] g.X.env := by rfl) (hpl : (backTo pos (starEach [.Call (.Name "reversed" p3) [e2] [] q3] g.X.env)).any (·.1) = false := by rfl) :
    JM g (.Tuple elts kk tp) (.Call (.Name "zip" p) [.Call (.Name "reversed" p1) [e1] [] q1, .Call (.Name "reversed" p3) [e2] [] q3] [] pos) Γ (xs.reverse.zip ys.reverse) (fun z => rTs g.X.K [r z.1, r' z.2]) :=
  (i_zr hm hmr h h' hg hgr hs hs2 ha1 ha2 hpl).to (by rw [List.length_zip, List.length_map, List.length_map, List.length_reverse, List.length_reverse]) fun i hi => by
    rw [List.length_map, List.length_map] at hi
    have h1 : i < xs.length := by omega
    have h2 : i < ys.length := by omega
    have g1 : xs.reverse[i]? = some (xs[xs.length - 1 - i]) := by rw [List.getElem?_reverse h1, List.getElem?_eq_getElem]
    have g2 : ys.reverse[i]? = some (ys[ys.length - 1 - i]) := by rw [List.getElem?_reverse h2, List.getElem?_eq_getElem]
    rw [List.length_map, List.length_map, nth_map (x := xs[xs.length - 1 - i]) (List.getElem?_eq_getElem (by omega)), nth_map (x := ys[ys.length - 1 - i]) (List.getElem?_eq_getElem (by omega)), nth_map (x := (xs[xs.length - 1 - i], ys[ys.length - 1 - i]))]
    rw [List.getElem?_zip_eq_some]
    exact ⟨g1, g2⟩
end
end G
set_option Elab.async false
set_option linter.all false
set_option maxRecDepth 100000
set_option maxHeartbeats 4000000
/-! xs[::-1], xs a tuple -/
namespace HT
open PySem PySem.Spec PyProof.Rows
section
variable {prog : Program} {w : World} {A : Around} {E : Value → Shared → Prop} {s : Shared}
theorem sliceApplied_rev {sl : Addr} {vs : Value} {n : Nat} {Q : Int × Int × Nat → Shared → Prop} (hs : s.heap.IsSliceOf sl .none .none vs) (pv : IsPart vs (some (-1)))
    (h : Q ((n : Int) - 1, -1, n) s) : wpAny (model prog w) A (Builtin.Slice.sliceApplied (.ref sl) (pure (n : Int))) Q E s := by
  obtain ⟨os, hos, hcs, hds⟩ := id hs
  unfold Builtin.Slice.sliceApplied Builtin.Slice.sliceFields
  refine wpAny_bind (wpAny_bind (wpAny_field hos hds (x := .none) rfl (wpAny_bind (wpAny_field hos hds (x := .none) rfl (wpAny_bind (wpAny_field hos hds (x := vs) rfl (wpAny_pure ?_)))))))
  refine wpAny_bind (slicePart_ pv ?_)
  show wpAny _ _ (if ((-1 : Int) == 0) = true then _ else _) _ _ s
  rw [if_neg (by decide)]
  refine wpAny_bind (slicePart_none (wpAny_bind (slicePart_none (wpAny_bind (wpAny_pure ?_)))))
  show wpAny _ _ (pure ((n : Int) - 1, (-1 : Int), Builtin.Slice.slicePlaces ((n : Int) - 1) (-1) (-1))) _ _ s
  have e : Builtin.Slice.slicePlaces ((n : Int) - 1) (-1) (-1) = n := by
    unfold Builtin.Slice.slicePlaces
    rw [if_neg (by decide)]
    by_cases q : n = 0
    · subst q; rfl
    · rw [if_pos (by omega), show (- -1 : Int) = 1 from by decide, Int.ediv_one]
      omega
  rw [e]
  exact wpAny_pure h
theorem getItem_tuple_rev {t sl : Addr} {items : Array Value} {vs : Value} {Q : Value → Shared → Prop} (ht : IsTup s.heap t items) (hs : s.heap.IsSliceOf sl .none .none vs) (pv : IsPart vs (some (-1)))
    (h : Q (.ref s.heap.objs.size) { s with heap := s.heap.push { cls := .type "tuple", data := .seq items.toList.reverse.toArray } })
    (hsz : items.size ≤ sizeLine) : wpAny (model prog w) A (getItem (.ref t) (.ref sl)) Q E s := by
  have htake : sizeOk (.seq items.toList.reverse.toArray) := by
    show items.toList.reverse.toArray.size ≤ sizeLine
    rw [List.size_toArray, List.length_reverse, Array.length_toList]
    exact hsz
  obtain ⟨os, hos, hcs, hds⟩ := id hs
  have hTs : s.TypeIs (.ref sl) "slice" := ⟨os, hos, hcs⟩
  unfold getItem
  try with_reducible refine wpAny_holding ?_
  first | refine wpAny_bind (wpAny_pure ?_) | skip
  refine wpAny_bind (wpAny_sequenceKey ht.typeIs (by decide) ?_)
  refine wpAny_bind (wpAny_callSpecial?_slot (name := Str.ofString "__getitem__") ht.typeIs PyProof.Rows.slot_tuple_getitem
    (wpAny_call_entry PyProof.Rows.slot_tuple_getitem ht.typeIs entry_tuple_getitem ?_ (args_tuple_getitem _ _)))
  show wpAny _ _ (Builtin.Tuple.tupleItemsOf (.ref t) >>= _) _ _ s
  refine wpAny_bind (tupleItemsOf_ ht ?_)
  refine wpAny_bind (wpAny_typeOf hTs ?_)
  rw [if_pos (by decide)]
  refine wpAny_bind (sliceApplied_rev hs pv ?_)
  have hno : ¬ ((((items.size : Int) - 1) == 0 && (-1 : Int) == 1 && items.size == items.size) = true) := by
    intro q
    rw [Bool.and_eq_true, Bool.and_eq_true] at q
    exact absurd q.1.2 (by decide)
  show wpAny _ _ (if (((items.size : Int) - 1) == 0 && (-1 : Int) == 1 && items.size == items.size) = true then _ else _) _ _ s
  have pk : ((List.range items.size).filterMap fun (m : Nat) => items[((items.size : Int) - 1 + (m : Int) * -1).toNat]?).toArray = items.toList.reverse.toArray := by
    have z := pick_gen items.toList.reverse.toArray 0 items.size
    rw [show ((items.toList.reverse.toArray.toList.drop 0).take items.size).toArray = items.toList.reverse.toArray from by
      rw [List.drop_zero, List.take_of_length_le (by simp)]] at z
    rw [← z]
    congr 1
    have cg : ∀ (l : List Nat) (f g : Nat → Option Value), (∀ m ∈ l, f m = g m) → l.filterMap f = l.filterMap g := by
      intro l f g
      induction l with
      | nil => intro _; rfl
      | cons a l ih =>
        intro h
        have e := h a (List.mem_cons_self ..)
        have r := ih fun m hm => h m (List.mem_cons_of_mem _ hm)
        rw [List.filterMap_cons, List.filterMap_cons, e, r]
    refine cg _ _ _ fun m hm => ?_
    have hm := List.mem_range.mp hm
    have e1 : ((items.size : Int) - 1 + (m : Int) * -1).toNat = items.size - 1 - m := by omega
    have e2 : (((0 : Nat) : Int) + (m : Int) * 1).toNat = m := by omega
    have e3 : items.toList.reverse.toArray[m]? = items.toList.reverse[m]? := List.getElem?_toArray
    rw [e1, e2, e3, List.getElem?_reverse (by rw [Array.length_toList]; exact hm), Array.length_toList, Array.getElem?_toList]
  rw [if_neg hno, pk]
  first
    | exact wpAny_bind (m := Builtin.Tuple.tupleExact _) (wpAny_newObj_type (wpAny_pure ⟨_, rfl, wpAny_pure h⟩) htake)
    | exact wpAny_bind (m := Builtin.Tuple.tupleExact _) (wpAny_newObj_type (wpAny_bind (wpAny_pure (wpAny_pure ⟨_, rfl, wpAny_pure h⟩))) htake)
    | exact wpAny_bind (wpAny_bind (m := Builtin.Tuple.tupleExact _) (wpAny_newObj_type (wpAny_pure (wpAny_pure ⟨_, rfl, wpAny_pure h⟩)) htake))
    | exact wpAny_bind (wpAny_bind (m := Builtin.Tuple.tupleExact _) (wpAny_newObj_type (wpAny_pure ⟨_, rfl, wpAny_pure h⟩) htake))
end
end HT
set_option Elab.async false
set_option linter.all false
set_option maxRecDepth 100000
set_option maxHeartbeats 4000000
namespace G
open PySem PySem.Spec PySem.W PyProof.Rows L2
section
variable {X : Cx} {e st : Expr} {te : TE} {ts : TO} {p2 pos : Pos}
def tRevT (K : PySem.W.Frag) (te : TE) (ts : TO) : TE := fun σ H Q => te σ H fun x H1 => ts σ H1 fun c H4 => ∃ a xs, x = .ref a ∧ SqT K H4 a xs ∧ c = some (-1) ∧ ∀ p, H4 p = none → Q (.ref p) (upd H4 p (.tup xs.reverse))
theorem pe_revT (he : PE X e te) (hs : PO X (some st) ts) : PE X (.Subscript e (.Slice none none (some st) p2) pos) (tRevT X.K te ts) := by
  refine ⟨fun pins s σ H Q I h => ?_⟩
  refine Subscript_ (thn (he.run pins s σ H _ I h) fun v s1 ⟨x, H1, I1, r1, q1⟩ => ?_)
  refine wpAny_Slice (wpAny_pure (wpAny_pure (thn (hs.run pins s1 σ H1 _ I1 q1) fun vc s4 ⟨c, H4, I4, pc, q4⟩ => ?_)))
  obtain ⟨a, xs, e1, hx, c0, q⟩ := q4
  subst e1 c0
  cases r1
  have I5 : Inv X pins σ H4 { s4 with heap := s4.heap.push { cls := .type "slice", data := .fields #[.none, .none, vc] } } := I4.kept (t' := s4.toks) fun b ob q => Heap.get?_push_of_some _ q
  obtain ⟨its, rv, ht, hz⟩ := I5.tuple hx
  have ln := rv.length
  show wpAny (model X.prog X.w) X.A (subscriptTail e (.Slice none none (some st) p2) (.ref a) (.ref s4.heap.objs.size)) (EP X pins σ Q) X.xe { s4 with heap := s4.heap.push { cls := .type "slice", data := .fields #[.none, .none, vc] } }
  refine tail_any (T := "tuple") (ops := [.ref a, .ref s4.heap.objs.size]) ht.typeIs PyProof.Rows.slot_tuple_getitem.lookup ?_ (by with_unfolding_all rfl)
  refine HT.getItem_tuple_rev ht (Heap.IsSliceOf.new ..) pc ?_ (by rw [List.size_toArray]; omega)
  refine ⟨.ref _, _, I5.laid (t' := s4.toks) (o := .tup xs.reverse) (fun b ob q => Heap.get?_push_of_some _ q) (Nat.le_refl _) ?_, rfl, q _ (I5.hok.fresh (Nat.le_refl _))⟩
  exact ⟨by rw [List.length_reverse]; exact hz, _, rv.reverse, IsTup.new _ _⟩
end
section
variable {g : Gx} {Γ : Gm} {P Q R : Pr} {e e1 e2 : Expr} {pos p2 : Pos} {rs : List Pr}
theorem x_slTrev {st : Expr} (h : JE g e Γ (rTs g.X.K rs)) (hs : JE g st Γ (rI (-1))) : JE g (.Subscript e (.Slice none none (some st) p2) pos) Γ (rTs g.X.K rs.reverse) :=
  ⟨fun w σ B H s => by
    obtain ⟨ts, ps, qs⟩ := part_run (.at_ hs) w
    refine ofE (pe_revT pE ps) ((h.run w σ B H s).mono fun v H1 ⟨B1, a1, p, vs, e, a, f⟩ => ?_)
    refine qs σ B1 H1 a1.sta _ fun B4 H4 a4 => ?_
    refine ⟨p, vs, e, (a.mono a4.le).sq a4.sta.st.ok, rfl, fun q hq => ?_⟩
    exact ⟨_, (a1.trans a4).trans (a4.sta.lay hq), q, _, rfl, .inl put_same, (f.mono a4.le).rev.mono (Le.put (a4.sta.st.ok.none hq))⟩⟩
end
end G
set_option Elab.async false
set_option linter.all false
set_option maxRecDepth 100000
set_option maxHeartbeats 4000000
/-! break; a written dict of texts -/
namespace G
open PySem PySem.Spec PySem.W PyProof.Rows L2
section
variable {g : Gx} {Γ : Gm} {D : En} {rest : List Stmt} {pos : Pos}
theorem s_brk {D D' : En} {after : List Stmt} (k : JS g after Γ D) (h : D'.bk = fun B σ H => WS g.X after (D.at_ B) σ H := by rfl) : JS g (.Break pos :: rest) Γ D' := js_cons fun w σ B H s => of1 ps_break (by
  show D'.bk B σ H
  rw [h]
  exact k.run w σ B H s)
/-- a for with break: what stands behind it is shown once -/
theorem s_forEB {tg iter : Expr} {body : List Stmt} {ψ : Nat → Prop} {it : Nat → Pr} {ι : Type} (φ : Nat → ι → Prop) (I : ι → Gm) {I2 : Nat → ι → Gm} {sl : List Nat} (hI : JIx g tg iter Γ ψ it) (a0 : ι) (p0 : φ 0 a0) (h0 : GmLe Γ (I a0)) (hg : ∀ i a, (∃ n, ψ n ∧ i < n) → JG g tg (it i) (I a) (I2 i a) sl)
    (hb : ∀ i a, (∃ n, ψ n ∧ i < n) → φ i a → JS g rest (I a) D → JS g body (I2 i a) (D.lpE g.X rest g.b (φ (i + 1)) I)) (hd : ∀ n a, φ n a → JS g rest (I a) D) (hs : ∀ x, foldedSetIterable iter g.X.env x = pure x := by intro _; rfl) (hcm : g.X.calm = true := by rfl) :
    JS g (.For tg iter body [] pos :: rest) Γ D := s_forE φ I hI a0 p0 h0 hg (fun i a hn p => hb i a hn p (hd i a p)) (fun n a _ p => hd n a p) hs hcm
def JPs (g : Gx) (pos : Pos) (ks : List (Option Expr)) (vs : List Expr) (kvs : List (L2.Key × V)) : Prop := ∃ trs, PPs g.X pos ks vs trs ∧ ∀ σ H (Q : List (V × V) → Hp → Prop), Q (kvs.map fun kv => (kV kv.1, kv.2)) H → tPairs trs σ H Q
theorem ps_no : JPs g pos [] [] [] := ⟨_, pps_nil, fun σ H Q q => q⟩
theorem ps_S {ks : List (Option Expr)} {vs : List Expr} {kvs : List (L2.Key × V)} {a c : Str} {j j2 : Nat} {p p2 : Pos} (h : JPs g pos ks vs kvs) : JPs g pos (some (.Constant (.str a) j p) :: ks) (.Constant (.str c) j2 p2 :: vs) ((Sum.inr a, .str c) :: kvs) := by
  obtain ⟨trs, hp, hq⟩ := h
  exact ⟨_, pps_cons pe_str pe_str hp, fun σ H Q q => hq σ H _ q⟩
theorem x_disp {ks : List (Option Expr)} {vs : List Expr} {kvs : List (L2.Key × V)} (h : JPs g pos ks vs kvs) (hall : ks.all (·.isSome) = true := by rfl) (hl : ks.length = vs.length := by rfl) (h0 : ks ≠ [] := by intro z; cases z) (h15 : ks.length ≤ 15 := by decide) (hk : kvs.length ≤ 15 := by exact Nat.le_of_ble_eq_true rfl) : JE g (.Dict ks vs pos) Γ (rDk (mergeK [] kvs)) := by
  obtain ⟨trs, hp, hq⟩ := h
  refine ⟨fun w σ B H s => ofE (pe_disp hp hall hl h0 h15) fun p hn => hq σ _ _ ⟨upd_same, kvs, rfl, hk, ?_⟩⟩
  have e : upd (upd H p (.dK [])) p (.dK (mergeK [] kvs)) = upd H p (.dK (mergeK [] kvs)) := by
    funext a
    by_cases q : a = p
    · subst q; rw [upd_same, upd_same]
    · rw [upd_ne q, upd_ne q, upd_ne q]
  rw [e]
  exact ⟨_, s.lay hn, p, rfl, put_same⟩
end
end G
set_option Elab.async false
set_option linter.all false
set_option maxRecDepth 100000
set_option maxHeartbeats 4000000
/-! dicts whose keys are known and whose values are of known kinds: one's own, or on the ground -/
namespace G
open PySem PySem.Spec PySem.W PyProof.Rows L2
abbrev Kp : Type := L2.Key × Pr
def DR (B : Bs) : List (L2.Key × V) → List Kp → Prop
  | [], [] => True
  | kv :: kvs, p :: ps => (kv.1 = p.1 ∧ p.2.r B kv.2) ∧ DR B kvs ps
  | _, _ => False
theorem DR.mono {B B' : Bs} (l : Le B B') : ∀ {kvs : List (L2.Key × V)} {ps : List Kp}, DR B kvs ps → DR B' kvs ps
  | [], [], _ => trivial
  | _ :: _, p :: _, ⟨⟨a, b⟩, c⟩ => ⟨⟨a, p.2.mono _ _ _ l b⟩, DR.mono l c⟩
  | [], _ :: _, h => h.elim
  | _ :: _, [], h => h.elim
theorem DR.len {B : Bs} : ∀ {kvs : List (L2.Key × V)} {ps : List Kp}, DR B kvs ps → kvs.length = ps.length
  | [], [], _ => rfl
  | _ :: _, _ :: _, ⟨_, c⟩ => congrArg (· + 1) (DR.len c)
  | [], _ :: _, h => h.elim
  | _ :: _, [], h => h.elim
def lookP (ps : List Kp) (z : L2.Key) : Option Pr := (ps.find? fun p => decide (p.1 = z)).map (·.2)
def hasK (ps : List Kp) (z : L2.Key) : Bool := ps.any fun p => decide (p.1 = z)
def putP (ps : List Kp) (z : L2.Key) (P : Pr) : List Kp := if hasK ps z = true then ps.map (fun p => if p.1 = z then (p.1, P) else p) else ps ++ [(z, P)]
def mergeP (ps qs : List Kp) : List Kp := qs.foldl (fun acc p => putP acc p.1 p.2) ps
theorem DR.val {B : Bs} (z : L2.Key) : ∀ {kvs : List (L2.Key × V)} {ps : List Kp}, DR B kvs ps → (∃ v P, valV kvs z = some v ∧ lookP ps z = some P ∧ P.r B v) ∨ (valV kvs z = none ∧ lookP ps z = none)
  | [], [], _ => .inr ⟨rfl, rfl⟩
  | kv :: kvs, p :: ps, ⟨⟨a, b⟩, c⟩ => by
    by_cases e : kv.1 = z
    · refine .inl ⟨kv.2, p.2, valV_pos e, ?_, b⟩
      unfold lookP
      rw [List.find?_cons, show decide (p.1 = z) = true from decide_eq_true (a ▸ e)]; rfl
    · have e2 : lookP (p :: ps) z = lookP ps z := by
        unfold lookP
        rw [List.find?_cons, show decide (p.1 = z) = false from decide_eq_false (a ▸ e)]
      rw [valV_neg e, e2]
      exact DR.val z c
  | [], _ :: _, h => h.elim
  | _ :: _, [], h => h.elim
theorem DR.app {B : Bs} : ∀ {kvs kws : List (L2.Key × V)} {ps qs : List Kp}, DR B kvs ps → DR B kws qs → DR B (kvs ++ kws) (ps ++ qs)
  | [], _, [], _, _, h => h
  | _ :: _, _, _ :: _, _, ⟨a, c⟩, h => ⟨a, DR.app c h⟩
  | [], _, _ :: _, _, h, _ => h.elim
  | _ :: _, _, [], _, h, _ => h.elim
theorem DR.any {B : Bs} (z : L2.Key) : ∀ {kvs : List (L2.Key × V)} {ps : List Kp}, DR B kvs ps → (kvs.any fun kv => decide (kv.1 = z)) = hasK ps z
  | [], [], _ => rfl
  | kv :: kvs, p :: ps, ⟨⟨a, b⟩, c⟩ => by
    unfold hasK
    rw [List.any_cons, List.any_cons, a, DR.any z c]; rfl
  | [], _ :: _, h => h.elim
  | _ :: _, [], h => h.elim
theorem DR.put {B : Bs} {kvs : List (L2.Key × V)} {ps : List Kp} (h : DR B kvs ps) (z : L2.Key) {v : V} {P : Pr} (hv : P.r B v) : DR B (putK kvs z v) (putP ps z P) := by
  unfold putK putP
  rw [h.any z]
  by_cases q : hasK ps z = true
  · rw [if_pos q, if_pos q]
    clear q
    have key : ∀ (kvs : List (L2.Key × V)) (ps : List Kp), DR B kvs ps → DR B (kvs.map fun kv => if kv.1 = z then (kv.1, v) else kv) (ps.map fun p => if p.1 = z then (p.1, P) else p) := by
      intro kvs
      induction kvs with
      | nil => intro ps h; cases ps with
        | nil => exact h
        | cons _ _ => exact h.elim
      | cons kv kvs ih => intro ps h; cases ps with
        | nil => exact h.elim
        | cons p ps =>
          obtain ⟨⟨a, b⟩, c⟩ := h
          rw [List.map_cons, List.map_cons]
          refine ⟨?_, ih ps c⟩
          by_cases e : kv.1 = z
          · rw [if_pos e, if_pos (a ▸ e)]; exact ⟨a, hv⟩
          · rw [if_neg e, if_neg (a ▸ e)]; exact ⟨a, b⟩
    exact key kvs ps h
  · rw [if_neg q, if_neg q]
    exact h.app ⟨⟨rfl, hv⟩, trivial⟩
theorem DR.merge {B : Bs} : ∀ {kws : List (L2.Key × V)} {qs : List Kp}, DR B kws qs → ∀ {kvs : List (L2.Key × V)} {ps : List Kp}, DR B kvs ps → DR B (mergeK kvs kws) (mergeP ps qs)
  | [], [], _, _, _, h => h
  | kw :: kws, q :: qs, ⟨⟨a, b⟩, c⟩, kvs, ps, h => by
    show DR B (mergeK (putK kvs kw.1 kw.2) kws) (mergeP (putP ps q.1 q.2) qs)
    rw [a]
    exact DR.merge c (h.put _ b)
  | [], _ :: _, h, _, _, _ => h.elim
  | _ :: _, [], h, _, _, _ => h.elim
theorem DR.keys {B : Bs} : ∀ {kvs : List (L2.Key × V)} {ps : List Kp}, DR B kvs ps → kvs.map (·.1) = ps.map (·.1)
  | [], [], _ => rfl
  | kv :: kvs, p :: ps, ⟨⟨a, b⟩, c⟩ => by rw [List.map_cons, List.map_cons, a, DR.keys c]
  | [], _ :: _, h => h.elim
  | _ :: _, [], h => h.elim
theorem putP_len (ps : List Kp) (z : L2.Key) (P : Pr) : (putP ps z P).length ≤ ps.length + 1 := by
  unfold putP
  split
  · rw [List.length_map]; omega
  · rw [List.length_append, List.length_singleton]; exact Nat.le_refl _
/-- a dict of the ground -/
def rDP (ps : List Kp) : Pr := ⟨fun B v => ∃ d kvs, v = .ref d ∧ B d = some (.ex (.dK kvs)) ∧ DR B kvs ps, fun _ _ _ l ⟨d, kvs, e, h, k⟩ => ⟨d, kvs, e, l _ _ h, k.mono l⟩⟩
/-- one's own dict -/
def oDP (ps : List Kp) : Oc where
  ad := fun v _ => one v
  r := fun B H v => ∃ d kvs, v = .ref d ∧ H d = some (.dK kvs) ∧ DR B kvs ps
  mono := fun _ _ _ _ l ⟨d, kvs, e, h, k⟩ => ⟨d, kvs, e, h, k.mono l⟩
  ast := fun _ _ _ _ => rfl
  rst := fun B H H' v g ⟨d, kvs, e, h, k⟩ => ⟨d, kvs, e, by subst e; rw [g d (by simp [one])]; exact h, k⟩
theorem hard_dK {kvs : List (L2.Key × V)} : Hard (some (.dK kvs)) := ⟨_, rfl, fun _ h => nomatch h⟩
theorem fz_oDP {ps : List Kp} : ∀ B H v, (∀ a ∈ (oDP ps).ad v H, B a = none) → (oDP ps).r B H v → (rDP ps).r (putH B H ((oDP ps).ad v H)) v := fun B H v nb ⟨d, kvs, e, h, k⟩ => by
  subst e
  exact ⟨d, kvs, rfl, putH_in (mem_one.mpr rfl) h, k.mono (Le.putH nb)⟩
theorem rd_ground {K : List (L2.Key × V)} {B : Bs} {H : Hp} {d : Addr} (k : Ok B H) (h : B d = some (.ex (.dK K))) : Rd H d (.dK K) := rDk_rd k h
section
variable {U : Uv} {g : Gx} {Γ : Gm} {P Q R S : Pr} {e e1 e2 o tg : Expr} {pos p2 apos : Pos} {D : En} {st : Stmt} {ss rest : List Stmt} {ps qs : List Kp}
theorem y_dnew : JO g (.Dict [] [] pos) Γ (oDP []) :=
  ⟨fun w σ B H s => ofE pe_dnewK fun p hp => ⟨B, s.beside hp, ⟨fun a ha => by rw [mem_one.mp ha]; exact s.st.ok.none hp, fun a ha => by rw [mem_one.mp ha]; exact s.st.bnone hp, fun a ha => by rw [mem_one.mp ha, upd_same]; exact hard_dK, p, [], rfl, upd_same, trivial⟩, one_fresh hp⟩⟩
theorem JO.fzD (h : JO g e Γ (oDP ps)) : JE g e Γ (rDP ps) := h.hand fun B H v nb nh r => fz_oDP B H v nb r
theorem x_dnew : JE g (.Dict [] [] pos) Γ (rDP []) := y_dnew.fzD
theorem own_d {b : Base} {v : V} {B : Bs} {H : Hp} (h : Own b (oDP ps) v B H) : ∃ d kvs, v = .ref d ∧ B d = none ∧ b.H d = none ∧ H d = some (.dK kvs) ∧ DR B kvs ps := by
  obtain ⟨d, kvs, e, hd, k⟩ := h.at_
  subst e
  exact ⟨d, kvs, rfl, h.nb d (mem_one.mpr rfl), h.nh d (mem_one.mpr rfl), hd, k⟩
/-- x[k] = e, x own -/
theorem s_dput (i : Nat) {z : L2.Key} {x : Str} {p spos : Pos} (h : JE g e Γ P) (hk : JE g e1 Γ (rV (kV z))) (hl : ps.length < sizeLine) (kk : JS g rest (Γ.set i (some (.ow (oDP (putP ps z P))))) D) (hi : Γ[i]? = some (some (.ow (oDP ps))) := by rfl) (hN : g.X.N[i]? = some x := by rfl) (hv : Vis g.X.env.scope x := by first | exact Or.inl rfl | exact Or.inr (Or.inl rfl) | exact Or.inr (Or.inr rfl))
    (hd : (x == ("__debug__" : Str)) = false := by decide) (hcd : (x == ("__classdict__" : Str)) = false := by decide) (hs : swapsWith e (some (.Subscript (.Name x p) e1 spos)) pos.line g.X.env = pure false := by rfl) (hcm : g.X.calm = true := by rfl) :
    JS g (.Assign [.Subscript (.Name x p) e1 spos] e pos :: rest) Γ D :=
  js_cons fun w σ B H s => of1 (ps_dput (by have := (w.hr hcm).units; omega) (pe_var hN hv hd hcd) pE pE hs) (by
    obtain ⟨v0, e, o⟩ := s.env.ow i _ hi
    obtain ⟨d, kvs, e2, nb, nh, hu, k⟩ := own_d o
    subst e2
    refine (h.run w σ B H s).mono fun v H1 ⟨B1, a1, p1⟩ => ⟨_, e, (hk.run w σ B1 H1 a1.sta).mono fun jv H2 ⟨B2, a2, ej⟩ => ?_⟩
    have a12 := a1.trans a2
    have hu1 : H2 d = some (.dK kvs) := a12.t.keep d _ hu fun φ z => by rw [nb] at z; cases z
    have ej : jv = kV z := ej
    subst ej
    refine ⟨d, _, rfl, DPut.k hu1 (by rw [k.len]; exact hl), kk.go w a12.le ?_⟩
    exact a12.sta.chg hi e (mem_one.mpr rfl) (fun a m => m) ⟨d, _, rfl, upd_same, (k.mono a12.le).put z (P.mono _ _ _ a2.le p1)⟩)
/-- x.get(k, e), x own -/
theorem x_dgetO2 (i : Nat) {z : L2.Key} {x : Str} {p cpos : Pos} (hk : JE g e Γ (rV (kV z))) (hy : JE g e1 Γ Q) (hR : (lookP ps z).getD Q = R) (hi : Γ[i]? = some (some (.ow (oDP ps))) := by rfl) (hN : g.X.N[i]? = some x := by rfl) (hv : Vis g.X.env.scope x := by first | exact Or.inl rfl | exact Or.inr (Or.inl rfl) | exact Or.inr (Or.inr rfl))
    (hd : (x == ("__debug__" : Str)) = false := by decide) (hcd : (x == ("__classdict__" : Str)) = false := by decide) (m : M2 g.X (.Name x p) "get" apos e e1 cpos := by exact ⟨rfl, rfl, rfl, rfl⟩) (hcm : g.X.calm = true := by rfl) : JE g (.Call (.Attribute (.Name x p) "get" apos) [e, e1] [] cpos) Γ R :=
  ⟨fun w σ B H s => ofE (pe_dget2 (by have := (w.hr hcm).units; omega) (pe_var hN hv hd hcd) pE pE m) (by
    obtain ⟨v0, ev, o⟩ := s.env.ow i _ hi
    obtain ⟨d, kvs, e2, nb, nh, hu, k⟩ := own_d o
    subst e2
    refine ⟨_, ev, d, rfl, .inl ⟨kvs, .inl hu⟩, (hk.run w σ B H s).mono fun y H1 ⟨B1, a1, ey⟩ => (hy.run w σ B1 H1 a1.sta).mono fun u H2 ⟨B2, a2, q⟩ => ?_⟩
    have a12 := a1.trans a2
    have hu1 : H2 d = some (.dK kvs) := a12.t.keep d _ hu fun φ z => by rw [nb] at z; cases z
    have ey : y = kV z := ey
    subst ey
    refine ⟨_, DGet.k (k := z) hu1, B2, a12, ?_⟩
    rcases (k.mono a12.le).val z with ⟨v, P', h1, h2, h3⟩ | ⟨h1, h2⟩
    · rw [h2] at hR; rw [h1, ← hR]; exact h3
    · rw [h2] at hR; rw [h1, ← hR]; exact q)⟩
/-- o.get(k, e), a dict of the ground -/
theorem x_dgetP2 {z : L2.Key} {cpos : Pos} (h : JE g o Γ (rDP ps)) (hk : JE g e Γ (rV (kV z))) (hy : JE g e1 Γ Q) (hR : (lookP ps z).getD Q = R) (m : M2 g.X o "get" apos e e1 cpos := by exact ⟨rfl, rfl, rfl, rfl⟩) (hcm : g.X.calm = true := by rfl) : JE g (.Call (.Attribute o "get" apos) [e, e1] [] cpos) Γ R :=
  ⟨fun w σ B H s => ofE (pe_dget2 (by have := (w.hr hcm).units; omega) pE pE pE m) ((h.run w σ B H s).mono fun v H1 ⟨B1, a1, d, kvs, e, hd, k⟩ => by
    subst e
    refine ⟨d, rfl, .inl ⟨kvs, rd_ground a1.sta.st.ok hd⟩, (hk.run w σ B1 H1 a1.sta).mono fun y H2 ⟨B2, a2, ey⟩ => (hy.run w σ B2 H2 a2.sta).mono fun u H3 ⟨B3, a3, q⟩ => ?_⟩
    have a23 := a2.trans a3
    have ey : y = kV z := ey
    subst ey
    refine ⟨_, .inl ⟨kvs, z, rd_ground a3.sta.st.ok (a23.le _ _ hd), rfl, rfl⟩, B3, a1.trans a23, ?_⟩
    rcases (k.mono a23.le).val z with ⟨v, P', h1, h2, h3⟩ | ⟨h1, h2⟩
    · rw [h2] at hR; rw [h1, ← hR]; exact h3
    · rw [h2] at hR; rw [h1, ← hR]; exact q)⟩
theorem x_dixP {z : L2.Key} (h : JE g o Γ (rDP ps)) (hk : JE g e Γ (rV (kV z))) (hz : lookP ps z = some R) (hs : NoSl e := by exact fun _ _ => rfl) (hcm : g.X.calm = true := by rfl) : JE g (.Subscript o e pos) Γ R :=
  ⟨fun w σ B H s => ofE (pe_dget (by have := (w.hr hcm).units; omega) pE pE hs) ((h.run w σ B H s).mono fun v H1 ⟨B1, a1, d, kvs, e, hd, k⟩ => (hk.run w σ B1 H1 a1.sta).mono fun u H2 ⟨B2, a2, q⟩ => by
    subst e
    have q : u = kV z := q
    subst q
    rcases (k.mono a2.le).val z with ⟨v, P', h1, h2, h3⟩ | ⟨h1, h2⟩
    · rw [hz] at h2; cases h2
      exact ⟨d, v, rfl, .inl ⟨kvs, z, rd_ground a2.sta.st.ok (a2.le _ _ hd), rfl, h1.symm⟩, B2, a1.trans a2, h3⟩
    · rw [hz] at h2; cases h2)⟩
def rInP (neg : Bool) : R2 := fun x y H Q => ∃ a z kvs, y = .ref a ∧ x = kV z ∧ Rd H a (.dK kvs) ∧ Q (.bl (if neg then !(valV kvs z).isSome else (valV kvs z).isSome)) H
theorem op_inP1 {X : Cx} (hu : X.A.units + 1 < cLine) : OpR X (compareOp .In) (rInP false) := fun pins s σ H x y v u Q I r1 r2 h => by
  obtain ⟨a, z, kvs, e1, e2, rd, q⟩ := h
  exact op_inDk1 (kvs := kvs) hu pins s σ H x y v u Q I r1 r2 ⟨a, z, e1, e2, rd, q⟩
theorem op_notInP1 {X : Cx} (hu : X.A.units + 1 < cLine) : OpR X (compareOp .NotIn) (rInP true) := fun pins s σ H x y v u Q I r1 r2 h => by
  obtain ⟨a, z, kvs, e1, e2, rd, q⟩ := h
  exact op_notInDk1 (kvs := kvs) hu pins s σ H x y v u Q I r1 r2 ⟨a, z, e1, e2, rd, q⟩
theorem o_inKp {X : Cx} {z : L2.Key} (neg : Bool) : Op2 X (rInP neg) (rV (kV z)) (rDP ps) (rB (if neg then !(lookP ps z).isSome else (lookP ps z).isSome)) := fun B H v u K k p ⟨d, kvs, e, hd, dr⟩ c => by
  have p : v = kV z := p
  subst p
  refine ⟨d, z, kvs, e, rfl, rd_ground k hd, c _ B H (Stp.refl k) ?_⟩
  rcases dr.val z with ⟨v, P', h1, h2, h3⟩ | ⟨h1, h2⟩ <;> (rw [h1, h2]; rfl)
theorem t_notInP {z : L2.Key} (h1 : JE g e1 Γ (rV (kV z))) (h2 : JE g e2 Γ (rDP ps)) (hm : behindInMarks .NotIn e2 = false := by rfl) (hcm : g.X.calm = true := by rfl) : JT g (.Compare e1 [.NotIn] [e2] pos) Γ (!(lookP ps z).isSome) := t_cmpW (fun w => op_notInP1 (by have := (w.hr hcm).units; omega)) (o_inKp true) h1 h2 hm
theorem t_inP {z : L2.Key} (h1 : JE g e1 Γ (rV (kV z))) (h2 : JE g e2 Γ (rDP ps)) (hm : behindInMarks .In e2 = false := by rfl) (hcm : g.X.calm = true := by rfl) : JT g (.Compare e1 [.In] [e2] pos) Γ ((lookP ps z).isSome) := t_cmpW (fun w => op_inP1 (by have := (w.hr hcm).units; omega)) (o_inKp false) h1 h2 hm
theorem ty_D {K : PySem.W.Frag} : TyP K (rDP ps) "dict" := fun B H v k ⟨d, kvs, e, hd, dr⟩ => by
  subst e
  rcases rd_ground k hd with z | ⟨o, z⟩
  · exact .base (.dK z)
  · exact .fDict z
end
end G
set_option Elab.async false
set_option linter.all false
set_option maxRecDepth 100000
set_option maxHeartbeats 4000000
/-! loops over dicts of the ground: locked while they run -/
namespace G
open PySem PySem.Spec PyProof.Rows L2
section
variable {g : Gx} {Γ : Gm} {D : En} {rest : List Stmt} {pos : Pos}
theorem s_forKP {tg : Expr} {x : Str} {p : Pos} {body : List Stmt} {ps : List Kp} (i : Nat) (I : Nat → Gm) {I2 : Nat → Gm} {sl : List Nat} (h0 : GmLe Γ (I 0))
    (hg : ∀ b' j z, (ps.map (·.1))[j]? = some z → JG (g.lkd b') tg (rV (kV z)) (I j) (I2 j) sl) (hb : ∀ b' j z, (ps.map (·.1))[j]? = some z → JS (g.lkd b') body (I2 j) (lpK b' (I (j + 1)))) (hd : JS g rest (I ps.length) D)
    (hx : Γ[i]? = some (some (.sh (rDP ps))) := by rfl) (hN : g.X.N[i]? = some x := by rfl) (hv : Vis g.X.env.scope x := by first | exact Or.inl rfl | exact Or.inr (Or.inl rfl) | exact Or.inr (Or.inr rfl))
    (hdb : (x == ("__debug__" : Str)) = false := by decide) (hcd : (x == ("__classdict__" : Str)) = false := by decide) (hs : ∀ y, foldedSetIterable (.Name x p) g.X.env y = pure y := by intro _; rfl) (hcm : g.X.calm = true := by rfl) :
    JS g (.For tg (.Name x p) body [] pos :: rest) Γ D :=
  js_cons fun w σ B H s => by
    obtain ⟨v, ev, d, kvs, rfl, hB, dr⟩ := s.env.sh i _ hx
    have ln := dr.len
    have ky : ∀ {j : Nat} {k : L2.Key} {v : V}, kvs[j]? = some (k, v) → (ps.map (·.1))[j]? = some k := fun {j k v} h => by rw [← dr.keys, List.getElem?_map, h]; rfl
    rw [← ln] at hd
    have core : ∀ (od : Obj) (u' : HO) (D' : Ends), H d = some u' → (u' = .dK kvs ∨ (lk (.dK kvs) = true ∧ ∃ o, u' = .frz o (.dK kvs))) → (∀ σ' B' H', Le B B' → Sta (lkB g.b d od (.dK kvs)) (I kvs.length) σ' B' H' → D'.nx σ' H') →
        tFor (iKeys fun σ H Q => ∃ v, σ[i]? = some (some v) ∧ Q v H) (tG g.X tg) (fun D σ H => WS g.X body D σ H) D' σ (upd H d (.frz od (.dK kvs))) := by
      intro od u' D' hH hu fin
      have s1 := lock_sta (od := od) s hB rfl
      have bok : Ok (lkB g.b d od (.dK kvs)).B (lkB g.b d od (.dK kvs)).H := by
        refine ⟨fun a z e => ?_, fun a φ e => ?_⟩
        · by_cases q : a = d
          · subst q
            have e : put g.b.B a (.ex (.dK kvs)) a = some (.ex z) := e
            rw [put_same] at e; cases e
            exact .inr ⟨rfl, od, upd_same⟩
          · have e : put g.b.B d (.ex (.dK kvs)) a = some (.ex z) := e
            rw [put_ne q] at e
            rcases w.bok.ex a z e with y | ⟨l, o, y⟩
            · exact .inl (by show upd g.b.H d _ a = _; rw [upd_ne q]; exact y)
            · exact .inr ⟨l, o, by show upd g.b.H d _ a = _; rw [upd_ne q]; exact y⟩
        · by_cases q : a = d
          · subst q
            have e : put g.b.B a (.ex (.dK kvs)) a = some (.iv φ) := e
            rw [put_same] at e; cases e
          · have e : put g.b.B d (.ex (.dK kvs)) a = some (.iv φ) := e
            rw [put_ne q] at e
            obtain ⟨o, y, f⟩ := w.bok.iv a φ e
            exact ⟨o, by show upd g.b.H d _ a = _; rw [upd_ne q]; exact y, f⟩
      have w' : (g.lkd (lkB g.b d od (.dK kvs))).Wf := ⟨nTakes0, w.hr, w.po, w.nd, bok⟩
      refine ⟨.ref d, ev, d, od, rfl, .inl ⟨kvs, upd_same, for_it walk_keys (fun j σ' H' => ∃ B', Le B B' ∧ Sta (lkB g.b d od (.dK kvs)) (I j) σ' B' H') ⟨B, Le.refl _, s1.imp h0⟩ (fun j σ' H' hj ⟨B', l, s'⟩ => (lkd_at s').1) ?_ ?_⟩⟩
      · intro j x σ' H' H'' hj ⟨B', l, s'⟩ y
        obtain ⟨e1, k, v, hk, e2⟩ := y
        subst e1 e2
        refine (hg _ j k (ky hk)).run w' σ' B' H'' (kV k) s' rfl _ fun σ2 s3 _ => ?_
        exact ((hb _ j k (ky hk)).run w' σ2 B' H'' s3).mono ⟨fun σ4 H4 ⟨B4, l4, s4⟩ => ⟨B4, l.trans l4, s4⟩, fun _ _ q => q.elim, fun _ _ q => q.elim, fun σ4 H4 ⟨B4, l4, s4⟩ => ⟨B4, l.trans l4, s4⟩⟩
      · intro σ' H' ⟨B', l, s'⟩
        exact fin σ' B' H' l s'
    rcases s.st.ok.ex d _ hB with hH | ⟨_, od, hH⟩
    · refine of1 (ps_lock (ps_for w.po hcm (pi_keys (pe_var hN hv hdb hcd)) pG pS hs)) ⟨d, .dK kvs, hH, trivial, fun od => core od _ _ hH (.inl rfl) fun σ' B' H' l s' => ⟨(lkd_at s').1, ?_⟩⟩
      exact hd.go w l (unlock_sta s hB hH (.inl rfl) s')
    · have e : H = upd H d (.frz od (.dK kvs)) := by
        funext a
        by_cases q : a = d
        · subst q; rw [upd_same]; exact hH
        · rw [upd_ne q]
      refine of1 (ps_for w.po hcm (pi_keys (pe_var hN hv hdb hcd)) pG pS hs) ?_
      rw [e]
      refine core od _ _ hH (.inr ⟨rfl, od, rfl⟩) fun σ' B' H' l s' => ?_
      have z := unlock_sta s hB hH (.inr ⟨rfl, od, rfl⟩) s'
      have e2 : upd H' d (.frz od (.dK kvs)) = H' := by
        funext a
        by_cases q : a = d
        · subst q; rw [upd_same]; exact (lkd_at s').1.symm
        · rw [upd_ne q]
      rw [e2] at z
      exact hd.go w l z
end
section
variable {B B' : Bs} {H H' : Hp} {d : Addr} {od : Obj} {u u' : HO}
theorem stp_unlock (hB : B d = some (.ex u)) (hH : H d = some u') (hu : u' = u ∨ (lk u = true ∧ ∃ o, u' = .frz o u)) (t : Stp B (upd H d (.frz od u)) B' H') : Stp B H B' (upd H' d u') where
  le := t.le
  ok := ok_swap t.ok (t.le _ _ hB) hu
  keep := fun a o e n => by
    by_cases q : a = d
    · subst q
      rw [upd_same, ← e, hH]
    · rw [upd_ne q]
      exact t.keep a o (by rw [upd_ne q]; exact e) n
  there := fun a e => by
    by_cases q : a = d
    · subst q; rw [upd_same]; simp
    · rw [upd_ne q]
      exact t.there a (by rw [upd_ne q]; exact e)
  new := fun a e k n => by
    by_cases q : a = d
    · subst q; rw [hB] at e; cases e
    · have := t.new a e k n
      rw [upd_ne q] at this
      exact this
end
/-- a dict that is locked in the base -/
def rLk (b' : Base) (ps : List Kp) : Pr := ⟨fun B v => ∃ d kvs od, v = .ref d ∧ b'.B d = some (.ex (.dK kvs)) ∧ b'.H d = some (.frz od (.dK kvs)) ∧ DR B kvs ps, fun _ _ _ l ⟨d, kvs, od, e, h1, h2, k⟩ => ⟨d, kvs, od, e, h1, h2, k.mono l⟩⟩
section
variable {g : Gx} {Γ : Gm} {P Q R : Pr} {e e1 e2 tg : Expr} {pos p2 : Pos} {D : En} {rest : List Stmt} {ps : List Kp}
theorem x_ofLk (h : JE g e Γ (rLk g.b ps)) : JE g e Γ (rDP ps) :=
  ⟨fun w σ B H s => (h.run w σ B H s).mono fun v H1 ⟨B1, a1, d, kvs, od, e, hB, hH, dr⟩ => ⟨B1, a1, d, kvs, e, a1.sta.st.le _ _ hB, dr⟩⟩
theorem wf_lk (w : g.Wf) {B : Bs} {H : Hp} {σ : L2.St} {d : Addr} {kvs : List (L2.Key × V)} (od : Obj) : (g.lkd (lkB g.b d od (.dK kvs))).Wf := by
  refine ⟨nTakes0, w.hr, w.po, w.nd, fun a z e => ?_, fun a φ e => ?_⟩
  · by_cases q : a = d
    · subst q
      have e : put g.b.B a (.ex (.dK kvs)) a = some (.ex z) := e
      rw [put_same] at e; cases e
      exact .inr ⟨rfl, od, upd_same⟩
    · have e : put g.b.B d (.ex (.dK kvs)) a = some (.ex z) := e
      rw [put_ne q] at e
      rcases w.bok.ex a z e with y | ⟨l, o, y⟩
      · exact .inl (by show upd g.b.H d _ a = _; rw [upd_ne q]; exact y)
      · exact .inr ⟨l, o, by show upd g.b.H d _ a = _; rw [upd_ne q]; exact y⟩
  · by_cases q : a = d
    · subst q
      have e : put g.b.B a (.ex (.dK kvs)) a = some (.iv φ) := e
      rw [put_same] at e; cases e
    · have e : put g.b.B d (.ex (.dK kvs)) a = some (.iv φ) := e
      rw [put_ne q] at e
      obtain ⟨o, y, f⟩ := w.bok.iv a φ e
      exact ⟨o, by show upd g.b.H d _ a = _; rw [upd_ne q]; exact y, f⟩

/-- what a walk draws, where what is drawn from may stand by the base -/
def Gives2 (b : Base) (B1 : Bs) (n : Nat) (it : Nat → Pr) (J : It) : Prop := ∃ (Gw : Hp → Prop) (Y : Nat → Hp → V → Hp → Prop), Walk J n Gw Y ∧ (∀ B2 H2, Le B1 B2 → Stp b.B b.H B2 H2 → Gw H2) ∧
  ∀ i H2 x H3 B2, i < n → Le B1 B2 → Stp b.B b.H B2 H2 → Y i H2 x H3 → ∃ B3, Stp B2 H2 B3 H3 ∧ (it i).r B3 x
structure JI2 (g : Gx) (tg iter : Expr) (Γ : Gm) (n : Nat) (it : Nat → Pr) : Prop where
  run : g.Wf → ∀ σ B H, Sta g.b Γ σ B H → tI g.X tg iter σ H (fun J H1 => ∃ B1, Aft g.b Γ σ B H B1 H1 ∧ Gives2 g.b B1 n it J)
theorem y_lc2 {elt iter : Expr} {ifs : List Expr} {scope : Scope} (own : List (Str × Nat)) {n : Nat} {it : Nat → Pr} {Γ2 : Nat → Gm} (c : Nat → Bool) (q : Nat → Pr) {sl : List Nat} (hI : JI2 g tg iter Γ n it) (hn : n < sizeLine)
    (hg : AnyB scope g fun g' => ∀ i, i < n → JG g' tg (it i) (wipeG Γ (own.map (·.2))) (Γ2 i) sl) (hsl : ∀ i ∈ sl, i ∈ own.map (·.2) := by decide)
    (ht : AnyB scope g fun g' => ∀ i, i < n → JTs g' ifs (Γ2 i) (c i)) (he : AnyB scope g fun g' => ∀ i, i < n → c i = true → JE g' elt (Γ2 i) (q i))
    (ok : BlkOk g.X.N g.X.env.scope scope own) (hs : ∀ x, foldedSetIterable iter g.X.env x = pure x := by intro _; rfl) (hcm : g.X.calm = true := by rfl) : JO g (.ListComp elt [⟨tg, iter, ifs, 0⟩] scope pos) Γ (oL (gv n c q)) := by
  refine ⟨fun w σ B H s => ?_⟩
  refine ofE (pe_lc (own := own) (wi := tI g.X tg iter) (g := bG g scope tg) (tt := bT g scope ifs) (te := bE g scope elt)
    hcm w.nd pI ok (fun s0 H0 C cl fp => ⟨fun pins s σ H v u Q I r h => h s0 H0 C cl fp pins s u I r⟩) (fun s0 H0 C cl fp => ⟨fun pins s σ H Q I h => h s0 H0 C cl fp pins s I⟩) (fun s0 H0 C cl fp => ⟨fun pins s σ H Q I h => h s0 H0 C cl fp pins s I⟩) hs) ?_
  intro pins s1 I1
  refine thn (hI.run w σ B H s pins s1 I1) fun v s2 h2 => thn h2 fun itv s3 h3 => ?_
  obtain ⟨itA, fp, tn, J, H3, e1, e2, e3, e4, e5, B1, a1, Gw, Y, wk, kg, ky⟩ := h3
  refine ⟨itA, fp, tn, J, H3, e1, e2, e3, e4, e5, fun Dl hD => ?_⟩
  have hDn : H Dl = none := a1.th hD
  refine lc_it (g := bG g scope tg) (tt := bT g scope ifs) (te := bE g scope elt) (vs := own.map (·.2)) (σ := σ) (H1 := H3) (D := Dl) (Qd := fun H' => ∃ B', Aft g.b Γ σ B H B' H' ∧ Own g.b (oL (gv n c q)) (.ref Dl) B' H' ∧ ∀ a ∈ (oL (gv n c q)).ad (.ref Dl) H', H a = none) wk (fun i H' => ∃ B' acc, Stp B H B' H' ∧ Le B1 B' ∧ B' Dl = none ∧ H' Dl = some (.lst acc) ∧ F2 B' acc (gv i c q)) ?_ (fun i H' hi ⟨B', acc, t, l, _⟩ => kg B' H' l (s.st.trans t)) ?_ ?_
  · exact ⟨B1, [], (a1.trans (a1.sta.beside hD)).t, Le.refl _, a1.sta.st.ok.none hD, upd_same, trivial⟩
  · intro i x H' H'' hi ⟨B', acc, t, l, nD, hacc, f⟩ y
    obtain ⟨B2, t2, p⟩ := ky i H' x H'' B' hi l (s.st.trans t) y
    have tt2 : Stp B H B2 H'' := t.trans t2
    have nD2 : B2 Dl = none := by
      cases z : B2 Dl with
      | none => rfl
      | some k => exact (Hard.no (by rw [hacc]; exact hard_lst) (t2.new Dl nD k z)).elim
    have hacc2 : H'' Dl = some (.lst acc) := t2.keep Dl _ hacc fun φ z => by rw [nD] at z; cases z
    have sw := ((s.step tt2).sta).wipe (own.map (·.2))
    intro s0 H0 C cl fp'
    refine (hg s0 H0 C cl fp' i hi).run w.blk _ B2 H'' x sw p _ fun σ2 s4 hw => ?_
    refine ⟨?_, fun s0 H0 C cl fp' => ?_⟩
    · have z := hw (own.map (·.2)) hsl
      rw [z]
      exact wipe_wipe σ _
    · refine (ht s0 H0 C cl fp' i hi).run w.blk σ2 B2 H'' s4 _ fun B5 H5 a5 => ?_
      have nD5 : B5 Dl = none := by
        cases z : B5 Dl with
        | none => rfl
        | some k => exact (Hard.no (by rw [hacc2]; exact hard_lst) (a5.t.new Dl nD2 k z)).elim
      have hacc5 : H5 Dl = some (.lst acc) := a5.t.keep Dl _ hacc2 fun φ z => by rw [nD2] at z; cases z
      cases hc : c i with
      | true =>
        rw [if_pos rfl]
        intro s0 H0 C cl fp'
        refine ((he s0 H0 C cl fp' i hi hc).run w.blk σ2 B5 H5 a5.sta).mono fun y H6 ⟨B6, a6, py⟩ => ?_
        have nD6 : B6 Dl = none := by
          cases z : B6 Dl with
          | none => rfl
          | some k => exact (Hard.no (by rw [hacc5]; exact hard_lst) (a6.t.new Dl nD5 k z)).elim
        have hacc6 : H6 Dl = some (.lst acc) := a6.t.keep Dl _ hacc5 fun φ z => by rw [nD5] at z; cases z
        refine ⟨acc, hacc6, ?_, B6, acc ++ [y], (tt2.trans (a5.t.trans a6.t)).chg' nD6 hDn, l.trans (t2.le.trans (a5.le.trans a6.le)), nD6, upd_same, ?_⟩
        · rw [f.len]; exact Nat.lt_of_le_of_lt (gv_len i c q) (Nat.lt_trans hi hn)
        · rw [gv_succ, if_pos hc]
          exact (f.mono (t2.le.trans (a5.le.trans a6.le))).append ⟨py, trivial⟩
      | false =>
        rw [if_neg (by decide)]
        refine ⟨B5, acc, tt2.trans a5.t, l.trans (t2.le.trans a5.le), nD5, hacc5, ?_⟩
        rw [gv_succ, if_neg (by rw [hc]; decide), List.append_nil]
        exact f.mono (t2.le.trans a5.le)
  · intro H' ⟨B', acc, t, l, nD, hacc, f⟩
    exact ⟨B', s.step t, own_mk nD (s.st.bnone hDn) hacc f, one_fresh hDn⟩
section
variable {α β : Type} {xs : List α} {r : α → Pr}
theorem y_lcM2 {elt iter : Expr} {ifs : List Expr} {scope : Scope} (own : List (Str × Nat)) {Γ2 : α → Gm} (c : α → Bool) (q : α → Pr) {sl : List Nat} (hI : JI2 g tg iter Γ xs.length (nth (xs.map r))) (hn : xs.length < sizeLine)
    (hg : AnyB scope g fun g' => ∀ x, x ∈ xs → JG g' tg (r x) (wipeG Γ (own.map (·.2))) (Γ2 x) sl)
    (ht : AnyB scope g fun g' => ∀ x, x ∈ xs → JTs g' ifs (Γ2 x) (c x)) (he : AnyB scope g fun g' => ∀ x, x ∈ xs → c x = true → JE g' elt (Γ2 x) (q x))
    (hsl : ∀ i ∈ sl, i ∈ own.map (·.2) := by decide) (ok : BlkOk g.X.N g.X.env.scope scope own := by exact blkOk_by (by rfl)) (hs : ∀ x, foldedSetIterable iter g.X.env x = pure x := by intro _; rfl) (hcm : g.X.calm = true := by rfl) : JO g (.ListComp elt [⟨tg, iter, ifs, 0⟩] scope pos) Γ (oL ((xs.filter c).map q)) := by
  by_cases hne : xs = []
  · subst hne
    exact y_lc2 (hcm := hcm) (Γ2 := fun _ => Γ) (sl := sl) own (fun _ => true) (fun _ => rN) hI hn (fun _ _ _ _ _ i hi => absurd hi (Nat.not_lt_zero i)) hsl (fun _ _ _ _ _ i hi => absurd hi (Nat.not_lt_zero i)) (fun _ _ _ _ _ i hi => absurd hi (Nat.not_lt_zero i)) ok hs
  · obtain ⟨d, hd⟩ : ∃ d, d ∈ xs := List.exists_mem_of_ne_nil xs hne
    have mem : ∀ i, i < xs.length → xs.getD i d ∈ xs := fun i hi => by
      rw [List.getD_eq_getElem?_getD, List.getElem?_eq_getElem hi]
      exact List.getElem_mem hi
    have at_ : ∀ i, i < xs.length → xs[i]? = some (xs.getD i d) := fun i hi => by
      rw [List.getD_eq_getElem?_getD, List.getElem?_eq_getElem hi]; rfl
    have z := y_lc2 (hcm := hcm) (Γ2 := fun i => Γ2 (xs.getD i d)) (sl := sl) own (fun i => c (xs.getD i d)) (fun i => q (xs.getD i d)) hI hn (fun s H C cl fp i hi => by rw [nth_map (at_ i hi)]; exact hg s H C cl fp _ (mem i hi)) hsl (fun s H C cl fp i hi => ht s H C cl fp _ (mem i hi)) (fun s H C cl fp i hi hc => he s H C cl fp _ (mem i hi) hc) ok hs (pos := pos)
    have e : gv xs.length (fun i => c (xs.getD i d)) (fun i => q (xs.getD i d)) = (xs.filter c).map q := by
      have f1 : (List.range xs.length).map (fun i => xs.getD i d) = xs := by
        have := range_map xs d id (fun i => xs.getD i d) (fun i x h => by rw [List.getD_eq_getElem?_getD, h]; rfl)
        rw [this, List.map_id]
      unfold gv
      have f2 : (xs.filter c).map q = (((List.range xs.length).map (fun i => xs.getD i d)).filter c).map q := by rw [f1]
      rw [f2, List.filter_map, List.map_map]
      rfl
    rw [e] at z
    exact z
/-- the keys of a locked dict -/
theorem i_keysL (h : JE g e Γ (rLk g.b ps)) : JI2 g tg e Γ (ps.map (·.1)).length (nth ((ps.map (·.1)).map fun z => rV (kV z))) :=
  ⟨fun w σ B H s => ofI (pi_keys pE) ((h.run w σ B H s).mono fun v H1 ⟨B1, a1, d, kvs, od, e, hB, hH, dr⟩ => by
    have fz : ∀ B2 H2, Stp g.b.B g.b.H B2 H2 → H2 d = some (.frz od (.dK kvs)) := fun B2 H2 t => t.keep d _ hH fun φ z => by rw [hB] at z; cases z
    have ln : (ps.map fun p => p.1).length = kvs.length := by rw [List.length_map, dr.len]
    refine ⟨d, od, e, .inl ⟨kvs, fz _ _ a1.sta.st, B1, a1, fun H => H d = some (.frz od (.dK kvs)), fun i H x H' => H' = H ∧ ∃ k v, kvs[i]? = some (k, v) ∧ x = kV k, by rw [ln]; exact walk_keys, fun B2 H2 l t => fz _ _ t, fun i H2 x H3 B2 hi l t y => ?_⟩⟩
    obtain ⟨e1, k, v, hk, e2⟩ := y
    subst e1 e2
    refine ⟨B2, Stp.refl t.ok, ?_⟩
    have ek : (ps.map (·.1))[i]? = some k := by rw [← dr.keys, List.getElem?_map, hk]; rfl
    rw [nth_map ek]
    exact rfl)⟩
end
theorem own_unlock {b : Base} {c : Oc} {v : V} {B' : Bs} {H H' : Hp} {d : Addr} {od : Obj} {u u' : HO} (hB : B' d ≠ none) (o : Own (lkB b d od u) c v B' H') (f : ∀ a ∈ c.ad v H', upd H d (.frz od u) a = none) : Own b c v B' (upd H' d u') ∧ ∀ a ∈ c.ad v (upd H' d u'), H a = none := by
  have z := o.swap (b' := b) (w := u') hB fun a q e => by
    have e : upd b.H d (.frz od u) a = none := e
    rw [upd_ne q] at e; exact e
  refine ⟨z.1, fun a ha => ?_⟩
  rw [z.2] at ha
  have := f a ha
  by_cases q : a = d
  · subst q; rw [upd_same] at this; cases this
  · rw [upd_ne q] at this; exact this
/-- e runs while the dict in slot i is locked -/
theorem y_lock (i : Nat) {c : Oc} (h : ∀ b', JO (g.lkd b') e (Γ.set i (some (.sh (rLk b' ps)))) c) (hx : Γ[i]? = some (some (.sh (rDP ps))) := by rfl) : JO g e Γ c :=
  ⟨fun w σ B H s => by
    obtain ⟨v, ev, d, kvs, rfl, hB, dr⟩ := s.env.sh i _ hx
    have core : ∀ (od : Obj) (u' : HO), H d = some u' → (u' = .dK kvs ∨ (lk (.dK kvs) = true ∧ ∃ o, u' = .frz o (.dK kvs))) → WE g.X e (fun v H' => H' d = some (.frz od (.dK kvs)) ∧ ∃ B', Aft g.b Γ σ B H B' (upd H' d u') ∧ Own g.b c v B' (upd H' d u') ∧ ∀ a ∈ c.ad v (upd H' d u'), H a = none) σ (upd H d (.frz od (.dK kvs))) := by
      intro od u' hH hu
      have s1 := lock_sta (od := od) s hB rfl
      have s2 := s1.setS (i := i) (P := rLk (lkB g.b d od (.dK kvs)) ps) (v := .ref d) ⟨d, kvs, od, rfl, put_same, upd_same, dr⟩
      have es : σ.set i (some (.ref d)) = σ := by
        apply List.ext_getElem?
        intro j
        by_cases q : i = j
        · subst q
          rw [List.getElem?_set_self (List.getElem?_eq_some_iff.mp ev).1, ev]
        · rw [List.getElem?_set_ne q]
      rw [es] at s2
      refine ((h (lkB g.b d od (.dK kvs))).run (wf_lk (B := B) (H := H) (σ := σ) w od) σ B _ s2).mono fun v H' ⟨B', a', o', f'⟩ => ?_
      have hd' := lkd_at a'.sta
      have t := stp_unlock (od := od) hB hH hu a'.t
      have oz := own_unlock (H := H) (u' := u') (by rw [hd'.2]; simp) o' f'
      exact ⟨hd'.1, B', s.step t, oz.1, oz.2⟩
    rcases s.st.ok.ex d _ hB with hH | ⟨_, od, hH⟩
    · exact ofE (pe_lock pE) ⟨d, .dK kvs, hH, trivial, fun od => (core od _ hH (.inl rfl)).mono fun v H' q => q⟩
    · have e0 : H = upd H d (.frz od (.dK kvs)) := by
        funext a
        by_cases q : a = d
        · subst q; rw [upd_same]; exact hH
        · rw [upd_ne q]
      have z := core od _ hH (.inr ⟨rfl, od, rfl⟩)
      rw [← e0] at z
      refine z.mono fun v H' ⟨f, B', q⟩ => ?_
      have e2 : upd H' d (.frz od (.dK kvs)) = H' := by
        funext a
        by_cases q : a = d
        · subst q; rw [upd_same]; exact f.symm
        · rw [upd_ne q]
      rw [e2] at q
      exact ⟨B', q⟩⟩
end
end G
set_option Elab.async false
set_option linter.all false
set_option maxRecDepth 100000
set_option maxHeartbeats 4000000
/-! dicts made of pairs, their keys as a list, compared, shown -/
namespace G
open PySem PySem.Spec PySem.W PyProof.Rows L2
/-! ### list(d) -/
def rKeysL : List V → Hp → VK → Prop := fun xs H Q => ∃ d kvs, xs = [.ref d] ∧ Rd H d (.dK kvs) ∧ ∀ q, H q = none → Q (.ref q) (upd H q (.lst ((kvs.map (·.1)).map kV)))
theorem call_keysL {X : Cx} (hc : X.calm = true) : CallR X (.type "list") rKeysL := by
  intro pins s σ H xs us Q I r h
  obtain ⟨d, kvs, e, hk, q⟩ := h
  subst e
  obtain ⟨u, eu, rx⟩ := vals1 r
  subst eu
  obtain rfl : u = Value.ref d := rx
  obtain ⟨z, lo, vs, rk, hd⟩ := dk_rd I.hok hk
  obtain ⟨ep, hat⟩ := hd.dictAt
  have hl : kvs.length = vs.length := Paired.length rk
  refine PySem.W.kdl_call (PySem.W.kdl_dict (knd := mixKind X.prog X.w) (kvs := vs) (ep := ep) lo) (I.ok.hd hc) hat (by omega) fun h2 tk acc c hkeep hS hacc => ?_
  have el : acc.toList.length = acc.size := Array.length_toList
  refine ⟨.ref s.heap.objs.size, _, I.laid (t' := tk) (o := .lst ((kvs.map (·.1)).map kV)) hkeep (Nat.le_refl _) ⟨by rw [List.length_map, List.length_map]; exact z, acc.toList, c, ?_, ?_⟩, rfl, q _ (I.hok.fresh (Nat.le_refl _))⟩
  · refine vals_of_at (by rw [List.length_map, List.length_map, el, hacc.1, hl]) fun j x w h1 h3 => ?_
    obtain ⟨k, y, hky, hi⟩ := hacc.2 j w (by rw [← Array.getElem?_toList]; exact h3)
    have e1 : (kvs.map (·.1))[j]? = some k := by rw [KV.keys rk, List.getElem?_map, hky]; rfl
    rw [List.getElem?_map, e1] at h1
    cases h1
    exact keyIs_rel hi
  · rw [Array.toArray_toList]; exact hS
section
variable {U : Uv} {g : Gx} {Γ : Gm} {P Q R S : Pr} {e e1 e2 o tg : Expr} {pos p2 apos : Pos} {D : En} {st : Stmt} {ss rest : List Stmt} {ps qs : List Kp}
theorem f2_keys {B : Bs} : ∀ ks : List L2.Key, F2 B (ks.map kV) (ks.map fun z => rV (kV z))
  | [] => trivial
  | _ :: ks => ⟨rfl, f2_keys ks⟩
theorem y_keysL {p : Pos} (b : Bi g.X.mg) (h : JE g e Γ (rDP ps)) (hg : Gl g.X "list" := by rfl) (he : starEach [e] g.X.env = (false, eval e g.X.env) :: starEach [] g.X.env := by rfl) (hcm : g.X.calm = true := by rfl) : JO g (.Call (.Name "list" p) [e] [] pos) Γ (oL ((ps.map (·.1)).map fun z => rV (kV z))) :=
  ⟨fun w σ B H s => ofE (pe_callTy (call_keysL hcm) hg b.list bo_list (pa_cons pE pA he) (by decide) (by decide) he rfl) ((h.run w σ B H s).mono fun v H1 ⟨B1, a1, d, kvs, e, hd, dr⟩ => ((a_nil (g := g) (Γ := Γ)).run w σ B1 H1 a1.sta).mono fun vs H2 ⟨B2, a2, f⟩ => by
    have ev : vs = [] := by
      cases vs with
      | nil => rfl
      | cons _ _ => exact f.elim
    subst ev
    refine ⟨d, kvs, by rw [e], rd_ground a2.sta.st.ok (a2.le _ _ hd), fun l hl => ?_⟩
    refine ⟨B2, (a1.trans a2).trans (a2.sta.beside hl), own_mk (a2.sta.st.ok.none hl) (a2.sta.st.bnone hl) upd_same (by rw [dr.keys]; exact f2_keys _), one_fresh (a1.th (a2.th hl))⟩)⟩
/-! ### dict(xs), xs a list of pairs -/
def rPp (K : PySem.W.Frag) (p : Kp) : Pr := rTs K [rV (kV p.1), p.2]
theorem pairs_dr {K : PySem.W.Frag} {B : Bs} {H : Hp} (k : Ok B H) : ∀ {vs : List V} {ps : List Kp}, F2 B vs (ps.map (rPp K)) → ∃ (as : List Addr) (kvs : List (L2.Key × V)), vs = as.map V.ref ∧ Paired (fun p kv => SqT K H p [kV kv.1, kv.2]) as kvs ∧ DR B kvs ps
  | [], [], _ => ⟨[], [], rfl, .nil, trivial⟩
  | v :: vs, p :: ps, ⟨⟨a, ws, e, h, f⟩, fs⟩ => by
    obtain ⟨as, kvs, e2, pr, dr⟩ := pairs_dr k fs
    obtain ⟨x, y, e3, h1, h2⟩ := f.two
    have h1 : x = kV p.1 := h1
    subst e e2 e3 h1
    exact ⟨a :: as, (p.1, y) :: kvs, rfl, .cons (h.sq k) pr, ⟨rfl, h2⟩, dr⟩
  | [], _ :: _, h => h.elim
  | _ :: _, [], h => h.elim
theorem y_dictPP {p : Pos} (b : Bi g.X.mg) (h : JE g e Γ (rLs g.X.K (ps.map (rPp g.X.K)))) (hg : Gl g.X "dict" := by rfl) (he : starEach [e] g.X.env = (false, eval e g.X.env) :: starEach [] g.X.env := by rfl) (hcm : g.X.calm = true := by rfl) : JO g (.Call (.Name "dict" p) [e] [] pos) Γ (oDP (mergeP [] ps)) :=
  ⟨fun w σ B H s => ofE (pe_callTy (call_dictP hcm) hg b.dict bo_dict (pa_cons pE pA he) (by decide) (by decide) he rfl) ((h.run w σ B H s).mono fun v H1 ⟨B1, a1, q⟩ => ((a_nil (g := g) (Γ := Γ)).run w σ B1 H1 a1.sta).mono fun vs H2 ⟨B2, a2, f⟩ => by
    have ev : vs = [] := by
      cases vs with
      | nil => rfl
      | cons _ _ => exact f.elim
    subst ev
    obtain ⟨a, ws, e2, ha, f2⟩ := q
    obtain ⟨as, kvs, e3, pr, dr⟩ := pairs_dr a2.sta.st.ok (f2.mono a2.le)
    subst e2 e3
    refine ⟨a, as, kvs, rfl, (ha.mono a2.le).sq a2.sta.st.ok, pr, fun l hl => ?_⟩
    have nl : ∀ x ∈ (oDP (mergeP [] ps)).ad (.ref l) (upd H2 l (.dK (mergeK [] kvs))), x = l := fun x hx => mem_one.mp hx
    refine ⟨B2, (a1.trans a2).trans (a2.sta.beside hl), ⟨fun x hx => by rw [nl x hx]; exact a2.sta.st.ok.none hl, fun x hx => by rw [nl x hx]; exact a2.sta.st.bnone hl, fun x hx => by rw [nl x hx, upd_same]; exact hard_dK, l, _, rfl, upd_same, DR.merge dr trivial⟩, fun x hx => by rw [nl x hx]; exact a1.th (a2.th hl)⟩)⟩
theorem mergeP_nodup (h : (ps.map (·.1)).Nodup) : mergeP [] ps = ps := by
  have key : ∀ (qs acc : List Kp), ((acc ++ qs).map (·.1)).Nodup → qs.foldl (fun acc p => putP acc p.1 p.2) acc = acc ++ qs := by
    intro qs
    induction qs with
    | nil => intro acc _; rw [List.append_nil]; rfl
    | cons q qs ih =>
      intro acc h
      have no : hasK acc q.1 = false := by
        rw [Bool.eq_false_iff]
        intro hh
        obtain ⟨x, hx, e⟩ := List.any_eq_true.mp hh
        rw [List.map_append, List.map_cons] at h
        have := (List.nodup_append.mp h).2.2 x.1 (List.mem_map_of_mem hx) q.1 (List.mem_cons_self ..)
        exact this (of_decide_eq_true e)
      have e1 : putP acc q.1 q.2 = acc ++ [q] := by unfold putP; rw [no, if_neg (by decide)]
      rw [List.foldl_cons, e1, ih (acc ++ [q]) (by rw [List.append_assoc]; exact h), List.append_assoc]; rfl
  exact key ps [] (by rw [List.nil_append]; exact h)
/-! ### d.clear() -/
theorem s_dclear (i : Nat) {x : Str} {p cpos : Pos} (kk : JS g rest (Γ.set i (some (.ow (oDP [])))) D) (hi : Γ[i]? = some (some (.ow (oDP ps))) := by rfl) (hN : g.X.N[i]? = some x := by rfl) (hv : Vis g.X.env.scope x := by first | exact Or.inl rfl | exact Or.inr (Or.inl rfl) | exact Or.inr (Or.inr rfl))
    (hd : (x == ("__debug__" : Str)) = false := by decide) (hcd : (x == ("__classdict__" : Str)) = false := by decide) (hbase : attributeBase (.Name x p) "clear" g.X.env (eval (.Name x p) g.X.env) = eval (.Name x p) g.X.env := by rfl) (hline : (apos.endLine == cpos.line) = true := by rfl) (hs : swapsWith (.Call (.Attribute (.Name x p) "clear" apos) [] [] cpos) none pos.line g.X.env = pure false := by rfl) :
    JS g (.Expr (.Call (.Attribute (.Name x p) "clear" apos) [] [] cpos) pos :: rest) Γ D :=
  js_cons fun w σ B H s => of1 (ps_expr (pe_dclear (pe_var hN hv hd hcd) hbase hline) hs) (by
    obtain ⟨v0, e, o⟩ := s.env.ow i _ hi
    obtain ⟨d, kvs, e2, nb, nh, hu, k⟩ := own_d o
    subst e2
    exact ⟨_, e, .inr (.inr (.inl ⟨rfl, .inl ⟨kvs, hu⟩⟩)), d, kvs, rfl, rfl, hu, kk.go w (Le.refl _) (s.chg hi e (mem_one.mpr rfl) (fun a m => m) ⟨d, [], rfl, upd_same, trivial⟩)⟩)
end
end G
set_option Elab.async false
set_option linter.all false
set_option maxRecDepth 100000
set_option maxHeartbeats 4000000
/-! dicts compared (their values data without dicts), shown -/
namespace G
open PySem PySem.Spec PySem.W PyProof.Rows L2
def SameD (K : PySem.W.Frag) (H : Hp) (kvs kws : List (L2.Key × V)) : Prop := kvs.length = kws.length ∧ ∀ p ∈ kvs, ∃ u d d', valV kws p.1 = some u ∧ Dp K H p.2 d ∧ Dp K H u d' ∧ SeqAt.shaped d = true ∧ SeqAt.shaped d' = true ∧ PyData.eqv d d' = true
def rDD (K : PySem.W.Frag) (neg : Bool) : R2 := fun x y H Q => ∃ a b kvs kws, x = .ref a ∧ y = .ref b ∧ Rd H a (.dK kvs) ∧ Rd H b (.dK kws) ∧ SameD K H kvs kws ∧ Q (.bl (!neg)) H
theorem shaped_dep {d : PyData} (h : SeqAt.shaped d = true) : d.canLay0 = true ∧ d.depth ≤ 64 := by
  have h : (d.canLay0 && decide (d.depth ≤ 64)) = true := h
  rw [Bool.and_eq_true] at h
  exact ⟨h.1, of_decide_eq_true h.2⟩
theorem hits_dd {X : Cx} {pins : List (Addr × Obj)} {σ : L2.St} {H : Hp} {s : Shared} (I : Inv X pins σ H s) (hu : X.A.units + 66 < cLine) {kws : List (L2.Key × V)} {kb : List (L2.Key × Value)} (rb : KV kws kb) : ∀ {kvs : List (L2.Key × V)} {ka : List (L2.Key × Value)}, KV kvs ka →
    (∀ p ∈ kvs, ∃ u d d', valV kws p.1 = some u ∧ Dp X.K H p.2 d ∧ Dp X.K H u d' ∧ SeqAt.shaped d = true ∧ SeqAt.shaped d' = true ∧ PyData.eqv d d' = true) → PySem.W.KeqHits X.A.in1 s kb ka true := by
  intro kvs ka r
  unfold KV at r
  induction r with
  | nil => intro _; exact .nil
  | cons h _ ih =>
    rename_i p q xs ys _
    intro hp
    obtain ⟨u, d, d', h1, h2, h3, h4, h5, h6⟩ := hp p (List.mem_cons_self ..)
    have rest := ih fun x hx => hp x (List.mem_cons_of_mem _ hx)
    obtain ⟨k, v⟩ := q
    obtain ⟨e1, e2⟩ := h
    have e1 : p.1 = k := e1
    have e2 : RelV p.2 v := e2
    have rv := rb.val p.1
    rw [h1, e1] at rv
    cases hy : valueAt kb k with
    | none => rw [hy] at rv; exact rv.elim
    | some y =>
      rw [hy] at rv
      have ry : RelV u y := rv
      obtain ⟨as, r1⟩ := Dp.reads I d p.2 v h2 e2
      obtain ⟨bs, r2⟩ := Dp.reads I d' u y h3 ry
      obtain ⟨c1, d1⟩ := shaped_dep h4
      obtain ⟨c2, d2⟩ := shaped_dep h5
      have eq := SeqAt.eqAt_reads d d' X.A.in1 s v y as bs r1 r2 c1 c2 (by show X.A.units + 1 + _ < cLine; omega)
      rw [h6] at eq
      exact .hit (e := true) (b := true) hy eq rest
theorem op_eqDD {X : Cx} (hu : X.A.units + 66 < cLine) : OpR X (compareOp .Eq) (rDD X.K false) := by
  intro pins s σ H x y v u Q I rx ry h
  obtain ⟨a, b, kvs, kws, rfl, rfl, ea, eb, ⟨hl, hp⟩, q⟩ := h
  obtain rfl : v = Value.ref a := rx
  obtain rfl : u = Value.ref b := ry
  obtain ⟨_, ya, va, ra, da⟩ := dk_rd I.hok ea
  obtain ⟨_, yb, vb, rb, db⟩ := dk_rd I.hok eb
  have l1 : kvs.length = va.length := Paired.length ra
  have l2 : kws.length = vb.length := Paired.length rb
  refine PySem.W.keq_eq (knd := mixKind X.prog X.w) (r := true) ya yb da db (by omega) (fun _ => hits_dd I hu rb ra hp) ⟨.bl _, H, I, rfl, ?_⟩
  rw [← l1, ← l2, hl, beq_self_eq_true]; exact q
theorem op_neDD {X : Cx} (hu : X.A.units + 66 < cLine) : OpR X (compareOp .NotEq) (rDD X.K true) := by
  intro pins s σ H x y v u Q I rx ry h
  obtain ⟨a, b, kvs, kws, rfl, rfl, ea, eb, ⟨hl, hp⟩, q⟩ := h
  obtain rfl : v = Value.ref a := rx
  obtain rfl : u = Value.ref b := ry
  obtain ⟨_, ya, va, ra, da⟩ := dk_rd I.hok ea
  obtain ⟨_, yb, vb, rb, db⟩ := dk_rd I.hok eb
  have l1 : kvs.length = va.length := Paired.length ra
  have l2 : kws.length = vb.length := Paired.length rb
  refine PySem.W.keq_ne (knd := mixKind X.prog X.w) (r := true) ya yb da db (by omega) (fun _ => hits_dd I hu rb ra hp) ⟨.bl _, H, I, rfl, ?_⟩
  rw [← l1, ← l2, hl, beq_self_eq_true]; exact q
/-- two dicts of known kinds are the same -/
def SameP (K : PySem.W.Frag) (ps qs : List Kp) : Prop := ps.length = qs.length ∧ ∀ p ∈ ps, ∃ Q d d', lookP qs p.1 = some Q ∧ HasD K p.2 d ∧ HasD K Q d' ∧ SeqAt.shaped d = true ∧ SeqAt.shaped d' = true ∧ PyData.eqv d d' = true
theorem DR.mem {B : Bs} : ∀ {kvs : List (L2.Key × V)} {ps : List Kp}, DR B kvs ps → ∀ kv ∈ kvs, ∃ p ∈ ps, kv.1 = p.1 ∧ p.2.r B kv.2
  | [], [], _, kv, h => by cases h
  | x :: kvs, p :: ps, ⟨h1, h2⟩, kv, h => by
    rcases List.mem_cons.mp h with rfl | h
    · exact ⟨p, List.mem_cons_self .., h1⟩
    · obtain ⟨q, hq, z⟩ := DR.mem h2 kv h
      exact ⟨q, List.mem_cons_of_mem _ hq, z⟩
  | [], _ :: _, h, _, _ => h.elim
  | _ :: _, [], h, _, _ => h.elim
theorem same_dr {K : PySem.W.Frag} {B : Bs} {H : Hp} (k : Ok B H) {ps qs : List Kp} (h : SameP K ps qs) {kvs kws : List (L2.Key × V)} (r1 : DR B kvs ps) (r2 : DR B kws qs) : SameD K H kvs kws := by
  refine ⟨by rw [r1.len, r2.len]; exact h.1, fun kv hkv => ?_⟩
  obtain ⟨p, hp, e, hv⟩ := r1.mem kv hkv
  obtain ⟨Q, d, d', h1, h2, h3, h4, h5, h6⟩ := h.2 p hp
  rcases r2.val kv.1 with ⟨u, P', z1, z2, z3⟩ | ⟨z1, z2⟩
  · rw [e, h1] at z2
    cases z2
    exact ⟨u, d, d', z1, h2 B H _ k hv, h3 B H _ k z3, h4, h5, h6⟩
  · rw [e, h1] at z2; cases z2
section
variable {U : Uv} {g : Gx} {Γ : Gm} {P Q R S : Pr} {e e1 e2 o tg : Expr} {pos p2 apos : Pos} {D : En} {st : Stmt} {ss rest : List Stmt} {ps qs : List Kp}
theorem o_dd {X : Cx} (neg : Bool) (h : SameP X.K ps qs) : Op2 X (rDD X.K neg) (rDP ps) (rDP qs) (rB (!neg)) := fun B H v u K k ⟨d, kvs, e, hd, r1⟩ ⟨d2, kws, e2, hd2, r2⟩ c =>
  ⟨d, d2, kvs, kws, e, e2, rd_ground k hd, rd_ground k hd2, same_dr k h r1 r2, c _ B H (Stp.refl k) rfl⟩
theorem x_eqDD (h : SameP g.X.K ps qs) (h1 : JE g e1 Γ (rDP ps)) (h2 : JE g e2 Γ (rDP qs)) (hm : behindInMarks .Eq e2 = false := by rfl) (hcm : g.X.calm = true := by rfl) : JE g (.Compare e1 [.Eq] [e2] pos) Γ (rB true) := x_cmpW (fun w => op_eqDD (by have := (w.hr hcm).un; omega)) (o_dd false h) h1 h2 hm
theorem t_eqDD (h : SameP g.X.K ps qs) (h1 : JE g e1 Γ (rDP ps)) (h2 : JE g e2 Γ (rDP qs)) (hm : behindInMarks .Eq e2 = false := by rfl) (hcm : g.X.calm = true := by rfl) : JT g (.Compare e1 [.Eq] [e2] pos) Γ true := t_cmpW (fun w => op_eqDD (by have := (w.hr hcm).un; omega)) (o_dd false h) h1 h2 hm
theorem t_neDD (h : SameP g.X.K ps qs) (h1 : JE g e1 Γ (rDP ps)) (h2 : JE g e2 Γ (rDP qs)) (hm : behindInMarks .NotEq e2 = false := by rfl) (hcm : g.X.calm = true := by rfl) : JT g (.Compare e1 [.NotEq] [e2] pos) Γ false := t_cmpW (fun w => op_neDD (by have := (w.hr hcm).un; omega)) (o_dd true h) h1 h2 hm
theorem x_isiD {p px : Pos} (b : Bi g.X.mg) (h : JE g e Γ (rDP ps)) (hg : Gl g.X "isinstance" := by rfl) (hg' : Gl g.X "dict" := by rfl) (hs : starEach [e, .Name "dict" px] g.X.env = (false, eval e g.X.env) :: starEach [.Name "dict" px] g.X.env := by rfl) (hs2 : starEach [.Name "dict" px] g.X.env = (false, eval (.Name "dict" px) g.X.env) :: starEach [] g.X.env := by rfl) (hpl : (backTo pos (starEach [.Name "dict" px] g.X.env)).any (·.1) = false := by rfl) :
    JE g (.Call (.Name "isinstance" p) [e, .Name "dict" px] [] pos) Γ (rB true) := x_isi b ty_D b.dict bo_dict k_dict_dict h hg hg' (by decide) (by decide) hs hs2 hpl
end
end G
set_option Elab.async false
set_option linter.all false
set_option maxRecDepth 100000
set_option maxHeartbeats 4000000
/-! repr of a dict -/
namespace G
open PySem PySem.Spec PySem.W PyProof.Rows PyProof.V L2
/-- what stands at the place of the loaded modules is no list -/
def SmB (K : PySem.W.Frag) : Bool := match K.lookup sysModules with
  | some o => (match o.data with
    | .seq _ _ => false
    | _ => true)
  | none => false
theorem smB_ok {K : PySem.W.Frag} (h : SmB K = true) : ∃ o, K.lookup sysModules = some o ∧ ∀ its n, o.data ≠ .seq its n := by
  unfold SmB at h
  cases q : K.lookup sysModules with
  | none => rw [q] at h; cases h
  | some o =>
    rw [q] at h
    obtain ⟨c, d, dt, sl⟩ := o
    refine ⟨_, rfl, fun its n e => ?_⟩
    have e : dt = .seq its n := e
    subst e
    cases h
mutual
theorem reads_seq {h : Heap} : ∀ (d : PyData) (v : Value) (as : List Addr), Reads h v d as → d.hasDict = false → ∀ a ∈ as, ∃ o its n, h.get? a = some o ∧ o.data = .seq its n
  | .none, _, _, r, _, a, ha => by cases r; cases ha
  | .bool _, _, _, r, _, a, ha => by cases r; cases ha
  | .int _, _, _, r, _, a, ha => by cases r; cases ha
  | .str _, _, _, r, _, a, ha => by cases r; cases ha
  | .list xs, _, _, r, hd, a, ha => by
    cases r with
    | list h1 h2 h3 h4 =>
      rcases List.mem_cons.mp ha with e | ha
      · subst e; exact ⟨_, _, _, h1, h3⟩
      · exact reads_seqs xs _ _ h4 (by rw [PyData.hasDict] at hd; exact hd) a ha
  | .tuple xs, _, _, r, hd, a, ha => by
    cases r with
    | tuple h1 h2 h3 h4 => exact reads_seqs xs _ _ h4 (by rw [PyData.hasDict] at hd; exact hd) a ha
  | .dict _, _, _, _, hd, _, _ => by rw [PyData.hasDict] at hd; cases hd
theorem reads_seqs {h : Heap} : ∀ (ds : List PyData) (vs : List Value) (as : List Addr), ReadsAll h vs ds as → PyData.hasDictAll ds = false → ∀ a ∈ as, ∃ o its n, h.get? a = some o ∧ o.data = .seq its n
  | [], _, _, r, _, a, ha => by cases r; cases ha
  | d :: ds, _, _, r, hd, a, ha => by
    rw [PyData.hasDictAll, Bool.or_eq_false_iff] at hd
    cases r with
    | cons r1 r2 =>
      rcases List.mem_append.mp ha with ha | ha
      · exact reads_seq d _ _ r1 hd.1 a ha
      · exact reads_seqs ds _ _ r2 hd.2 a ha
end
def dKey : L2.Key → PyData
  | .inl i => .int i
  | .inr x => .str x
theorem key_reads {h : Heap} (k : L2.Key) (key : Value) (e : keyIs k key = true) : Reads h key (dKey k) [] := by
  have r := keyIs_rel e
  cases k with
  | inl i => obtain ⟨t, rfl⟩ := r; exact .int i t
  | inr x => obtain ⟨t, rfl⟩ := r; exact .str x t
/-- the values of a dict are data without dicts -/
def DpK (K : PySem.W.Frag) (H : Hp) : List (L2.Key × V) → List PyData → Prop
  | [], [] => True
  | kv :: kvs, d :: ds => Dp K H kv.2 d ∧ DpK K H kvs ds
  | _, _ => False
def dictD (ks : List L2.Key) (ds : List PyData) : PyData := .dict ((ks.map dKey).zip ds)
theorem pairs_read {X : Cx} {pins : List (Addr × Obj)} {σ : L2.St} {H : Hp} {s : Shared} (I : Inv X pins σ H s) : ∀ {kvs : List (L2.Key × V)} {ka : List (L2.Key × Value)} {ds : List PyData}, KV kvs ka → DpK X.K H kvs ds →
    ∃ bs, PairsRead s.heap dKey ka (((kvs.map (·.1)).map dKey).zip ds) bs ∧ ∀ a ∈ bs, ∃ o its n, s.heap.get? a = some o ∧ o.data = .seq its n := by
  intro kvs ka ds r
  unfold KV at r
  induction r generalizing ds with
  | nil =>
    intro h
    cases ds with
    | nil => exact ⟨[], .nil, fun a ha => by cases ha⟩
    | cons _ _ => exact h.elim
  | cons h _ ih =>
    rename_i p q xs ys _
    intro hd
    cases ds with
    | nil => exact hd.elim
    | cons d ds =>
      obtain ⟨h1, h2⟩ := hd
      obtain ⟨bs, pr, z⟩ := ih h2
      obtain ⟨k, v⟩ := q
      obtain ⟨e1, e2⟩ := h
      have e1 : p.1 = k := e1
      have e2 : RelV p.2 v := e2
      obtain ⟨as, r1⟩ := Dp.reads I d p.2 v h1 e2
      subst e1
      refine ⟨as ++ bs, .cons r1 pr, fun a ha => ?_⟩
      rcases List.mem_append.mp ha with ha | ha
      · exact reads_seq d v as r1 (dp_nodict h1) a ha
      · exact z a ha
def rReprK (X : Cx) : List V → Hp → VK → Prop := fun xs H Q => ∃ a kvs ds D, xs = [.ref a] ∧ Rd H a (.dK kvs) ∧ DpK X.K H kvs ds ∧ D = dictD (kvs.map (·.1)) ds ∧ D.showable = true ∧ D.shown.length ≤ sizeLine ∧ X.A.units + (D.depth + 1) < cLine ∧ Q (.str D.shown) H
theorem call_reprK {X : Cx} (hg : X.A.guards = some []) (sm : SmB X.K = true) : CallR X (.builtin "repr") (rReprK X) := by
  intro pins s σ H xs us Q I r h
  obtain ⟨a, kvs, ds, D, rfl, hd, hp, hD, hs, hz, hu, q⟩ := h
  obtain ⟨u, rfl, rv⟩ := vals1 r
  obtain rfl : u = Value.ref a := rv
  obtain ⟨_, lo, vs, rk, hdo⟩ := dk_rd I.hok hd
  obtain ⟨bs, pr, z⟩ := pairs_read I rk hp
  have rd : Reads s.heap (.ref a) (dictD (kvs.map (·.1)) ds) (a :: bs) := reads_dictOf (knd := mixKind X.prog X.w) key_reads hdo pr
  rw [← hD] at rd
  obtain ⟨o, ho, hns⟩ := smB_ok sm
  have hK := I.kIn _ _ ho
  refine repr_of_reads' rd hs (fun _ hm => ?_) hg hu (fun _ _ e => e) (fun h2 t tk hk => ⟨.str _, H, I.kept hk, ⟨_, rfl⟩, q⟩) hz
  rcases List.mem_cons.mp hm with e | hm
  · rw [← e] at lo; exact absurd lo (by decide)
  · obtain ⟨o2, its, n, e1, e2⟩ := z _ hm
    rw [hK] at e1
    cases e1
    exact hns its n e2
/-- what the values of a dict of the ground are, as data -/
def HasK (K : PySem.W.Frag) : List Kp → List PyData → Prop
  | [], [] => True
  | p :: ps, d :: ds => HasD K p.2 d ∧ HasK K ps ds
  | _, _ => False
theorem dpk_of {K : PySem.W.Frag} {B : Bs} {H : Hp} (k : Ok B H) : ∀ {kvs : List (L2.Key × V)} {ps : List Kp} {ds : List PyData}, DR B kvs ps → HasK K ps ds → DpK K H kvs ds
  | [], [], [], _, _ => trivial
  | _ :: _, _ :: _, _ :: _, ⟨⟨_, b⟩, c⟩, ⟨h1, h2⟩ => ⟨h1 _ _ _ k b, dpk_of k c h2⟩
  | [], _ :: _, _, h, _ => h.elim
  | _ :: _, [], _, h, _ => h.elim
  | [], [], _ :: _, _, h => h.elim
  | _ :: _, _ :: _, [], _, h => h.elim
section
variable {g : Gx} {Γ : Gm} {e : Expr} {pos : Pos} {P : Pr} {ps : List Kp}
theorem x_reprK {ds : List PyData} {D : PyData} {p : Pos} (hD : D = dictD (ps.map (·.1)) ds) (hm : g.X.mg "repr" = none) (hgd : g.X.A.guards = some []) (sm : SmB g.X.K = true) (h : JE g e Γ (rDP ps)) (hd : HasK g.X.K ps ds) (hs : D.showable = true) (hz : D.shown.length ≤ sizeLine) (hdp : D.depth ≤ 100) (hg : Gl g.X "repr" := by rfl) (he : starEach [e] g.X.env = (false, eval e g.X.env) :: starEach [] g.X.env := by rfl) (hcm : g.X.calm = true := by rfl) :
    JE g (.Call (.Name "repr" p) [e] [] pos) Γ (G.rS D.shown) :=
  ⟨fun w => (x_cb (r := rReprK g.X) hm (fun _ => call_reprK hgd sm) bo_repr
    (fun B H vs K k f c => by
      obtain ⟨v, rfl, d, kvs, e, hB, dr⟩ := f.one
      have ek := dr.keys
      subst e
      exact ⟨d, kvs, ds, D, rfl, rd_ground k hB, dpk_of k dr hd, by rw [ek]; exact hD, hs, hz, by have := (w.hr hcm).un; omega, c _ B H (Stp.refl k) rfl⟩) (a_cons h a_nil he) hg (by decide) (by decide) he rfl).run w⟩
end
end G
set_option Elab.async false
set_option linter.all false
set_option maxRecDepth 100000
set_option maxHeartbeats 2000000
/-! flat forms filled -/
namespace G
open PySem PySem.W PyProof.Rows
mutual
def Fm.fill (sm : List (Str × Str)) (f : Str → Fm) : Fm → Fm
  | .lf s => f s
  | .nd n ps => match sm.lookup n with
    | none => .nd n (Fm.fills sm f ps)
    | some o => mkSum n o ((Fm.fills sm f ps).flatMap (under n o))
def Fm.fills (sm : List (Str × Str)) (f : Str → Fm) : List Fm → List Fm
  | [] => []
  | p :: ps => p.fill sm f :: Fm.fills sm f ps
end
theorem Fm.fills_map (sm : List (Str × Str)) (f : Str → Fm) : ∀ ps : List Fm, Fm.fills sm f ps = ps.map (Fm.fill sm f)
  | [] => rfl
  | p :: ps => by rw [Fm.fills, List.map_cons, Fm.fills_map sm f ps]
mutual
def Tm.fill (f : Str → Tm) : Tm → Tm
  | .lf s => f s
  | .nd _ n ps => .nd true n (Tm.fills f ps)
def Tm.fills (f : Str → Tm) : List Tm → List Tm
  | [] => []
  | p :: ps => p.fill f :: Tm.fills f ps
end
theorem Tm.fills_map (f : Str → Tm) : ∀ ps : List Tm, Tm.fills f ps = ps.map (Tm.fill f)
  | [] => rfl
  | p :: ps => by rw [Tm.fills, List.map_cons, Tm.fills_map f ps]
section
variable {sm : List (Str × Str)} {f : Str → Fm}
theorem Fm.fill_nf (hf : ∀ s, (f s).nf sm) : ∀ x : Fm, x.nf sm → (x.fill sm f).nf sm := Fm.ind (fun s _ => by rw [Fm.fill]; exact hf s) fun n ps ih hx => by
  rw [Fm.nf, Fm.nfs_all] at hx
  have all : ∀ q ∈ Fm.fills sm f ps, q.nf sm := fun q hq => by
    rw [Fm.fills_map] at hq
    obtain ⟨p, hp, e⟩ := List.mem_map.mp hq
    rw [← e]; exact ih p hp (hx.1 p hp)
  rw [Fm.fill]
  cases e : sm.lookup n with
  | none =>
    show (Fm.nd n (Fm.fills sm f ps)).nf sm
    rw [Fm.nf, Fm.nfs_all]
    exact ⟨all, fun o ho => by rw [e] at ho; cases ho⟩
  | some o =>
    refine mkSum_nf e fun x hx => ?_
    obtain ⟨q, hq, h⟩ := List.mem_flatMap.mp hx
    exact under_prt e (all q hq) h
theorem Fm.fill_sum {n o : Str} (e : sm.lookup n = some o) (hf : ∀ s, (f s).nf sm) (ho : f o = .lf o) {ys : List Fm} (hy : ∀ y ∈ ys, Prt sm n o y) : (mkSum n o ys).fill sm f = mkSum n o ((ys.map (Fm.fill sm f)).flatMap (under n o)) := by
  match ys, hy with
  | [], _ => rw [mkSum, Fm.fill, ho]; rfl
  | [x], hy =>
    rw [mkSum, List.map_cons, List.map_nil, List.flatMap_cons, List.flatMap_nil, List.append_nil, mkSum_under e (Fm.fill_nf hf x (hy x (List.mem_cons_self ..)).1)]
  | x :: y :: ys, hy =>
    rw [mkSum, Fm.fill, e]
    show mkSum n o _ = _
    rw [Fm.fills_map]
    exact mkSum_perm (((sortF_perm _).map _).flatMap_right _)
theorem Fm.fill_under {n o : Str} (e : sm.lookup n = some o) (hf : ∀ s, (f s).nf sm) (ho : f o = .lf o) {x : Fm} (hx : x.nf sm) : (((under n o x).map (Fm.fill sm f)).flatMap (under n o)).Perm (under n o (x.fill sm f)) := by
  cases x with
  | lf s =>
    by_cases q : s = o
    · subst q
      have eu : under n s (.lf s) = [] := by rw [under, if_pos rfl]
      rw [eu, Fm.fill, ho, eu]
      exact List.Perm.refl _
    · have eu : under n o (.lf s) = [.lf s] := by rw [under, if_neg q]
      rw [eu, List.map_cons, List.map_nil, List.flatMap_cons, List.flatMap_nil, List.append_nil]
  | nd m ps =>
    by_cases q : m = n
    · subst q
      have eu : under m o (.nd m ps) = ps := by rw [under, if_pos rfl]
      rw [eu, Fm.fill, e]
      show List.Perm _ (under m o (mkSum m o _))
      rw [Fm.fills_map]
      rw [Fm.nf, Fm.nfs_all] at hx
      refine (under_mkSum (sm := sm) fun z hz => ?_).symm
      obtain ⟨w, hw, h⟩ := List.mem_flatMap.mp hz
      obtain ⟨p, hp, ep⟩ := List.mem_map.mp hw
      rw [← ep] at h
      exact under_prt e (Fm.fill_nf hf p (hx.1 p hp)) h
    · have eu : under n o (.nd m ps) = [.nd m ps] := by rw [under, if_neg q]
      rw [eu, List.map_cons, List.map_nil, List.flatMap_cons, List.flatMap_nil, List.append_nil]
theorem Fm.fill_flat {g : Str → Tm} (hg : ∀ s, f s = (g s).flat sm) (ho : ∀ n o, sm.lookup n = some o → f o = .lf o) : ∀ t : Tm, (t.flat sm).fill sm f = (t.fill g).flat sm := Tm.ind (fun s => by rw [Tm.flat, Fm.fill, Tm.fill, hg]) fun b n ps ih => by
  have hf : ∀ s, (f s).nf sm := fun s => by rw [hg]; exact Tm.flat_nf sm _
  rw [Tm.flat, Tm.fill, Tm.flat]
  have eq : (Tm.flats sm ps).map (Fm.fill sm f) = Tm.flats sm (Tm.fills g ps) := by
    rw [Tm.flats_map, Tm.flats_map, Tm.fills_map, List.map_map, List.map_map]
    exact List.map_congr_left fun p hp => ih p hp
  cases e : sm.lookup n with
  | none =>
    show (Fm.nd n (Tm.flats sm ps)).fill sm f = .nd n (Tm.flats sm (Tm.fills g ps))
    rw [Fm.fill, e, ← eq, ← Fm.fills_map]
  | some o =>
    show (mkSum n o ((Tm.flats sm ps).flatMap (under n o))).fill sm f = mkSum n o ((Tm.flats sm (Tm.fills g ps)).flatMap (under n o))
    have nf : ∀ x ∈ Tm.flats sm ps, x.nf sm := fun x hx => by
      rw [Tm.flats_map] at hx
      obtain ⟨p, hp, ep⟩ := List.mem_map.mp hx
      rw [← ep]; exact Tm.flat_nf sm p
    rw [Fm.fill_sum e hf (ho n o e) fun y hy => by
      obtain ⟨x, hx, h⟩ := List.mem_flatMap.mp hy
      exact under_prt e (nf x hx) h]
    refine mkSum_perm ?_
    rw [← eq]
    generalize Tm.flats sm ps = xs at nf
    induction xs with
    | nil => exact List.Perm.refl _
    | cons x xs ih2 =>
      rw [List.flatMap_cons, List.map_append, List.flatMap_append, List.map_cons, List.flatMap_cons]
      exact (Fm.fill_under e hf (ho n o e) (nf x (List.mem_cons_self ..))).append (ih2 fun y hy => nf y (List.mem_cons_of_mem _ hy))
end
/-! ### sizes -/
section
variable {sm : List (Str × Str)} {f : Str → Fm}
theorem Fm.fill_txt (k : SmOk sm) (hf : ∀ s, okS s = true → (f s).txt = true) : ∀ x : Fm, x.txt = true → (x.fill sm f).txt = true := Fm.ind (fun s h => by rw [Fm.txt] at h; rw [Fm.fill]; exact hf s h) fun n ps ih h => by
  rw [Fm.txt, Bool.and_eq_true] at h
  have all : ∀ q ∈ Fm.fills sm f ps, q.txt = true := fun q hq => by
    rw [Fm.fills_map] at hq
    obtain ⟨p, hp, e⟩ := List.mem_map.mp hq
    rw [← e]; exact ih p hp (Fm.txts_all.mp h.2 p hp)
  rw [Fm.fill]
  cases e : sm.lookup n with
  | none =>
    show (Fm.nd n (Fm.fills sm f ps)).txt = true
    rw [Fm.txt, Bool.and_eq_true]
    exact ⟨h.1, Fm.txts_all.mpr all⟩
  | some o =>
    refine mkSum_txt h.1 (k.at_ e) fun x hx => ?_
    obtain ⟨q, hq, hx⟩ := List.mem_flatMap.mp hx
    exact under_txt (all q hq) hx
theorem Fm.fill_deep {E : Nat} (hf : ∀ s, (f s).deep ≤ E) : ∀ x : Fm, (x.fill sm f).deep ≤ x.deep + E := Fm.ind (fun s => by rw [Fm.fill, Fm.deep]; have := hf s; omega) fun n ps ih => by
  have all : ∀ q ∈ Fm.fills sm f ps, q.deep ≤ Fm.deeps ps + E := fun q hq => by
    rw [Fm.fills_map] at hq
    obtain ⟨p, hp, e⟩ := List.mem_map.mp hq
    rw [← e]
    have := ih p hp
    have := Fm.deeps_le.mp (Nat.le_refl _) p hp
    omega
  rw [Fm.fill, Fm.deep]
  cases e : sm.lookup n with
  | none =>
    show (Fm.nd n (Fm.fills sm f ps)).deep ≤ _
    rw [Fm.deep]
    have := Fm.deeps_le.mpr all
    omega
  | some o =>
    have : (mkSum n o ((Fm.fills sm f ps).flatMap (under n o))).deep ≤ Fm.deeps ps + E + 1 := mkSum_deep fun x hx => by
      obtain ⟨q, hq, hx⟩ := List.mem_flatMap.mp hx
      exact Nat.le_trans (under_deep hx) (all q hq)
    show (mkSum n o ((Fm.fills sm f ps).flatMap (under n o))).deep ≤ _
    omega
theorem Fm.fill_wt {W : Nat} (hf : ∀ s, (f s).wt ≤ W) : ∀ x : Fm, (x.fill sm f).wt ≤ x.wt * W := Fm.ind (fun s => by rw [Fm.fill, Fm.wt]; have := hf s; omega) fun n ps ih => by
  have w1 : 1 ≤ W := Nat.le_trans (Fm.wt_pos _) (hf "")
  have all : ∀ qs : List Fm, (∀ q ∈ qs, (q.fill sm f).wt ≤ q.wt * W) → Fm.wts (qs.map (Fm.fill sm f)) ≤ Fm.wts qs * W := by
    intro qs
    induction qs with
    | nil => intro _; exact Nat.zero_le _
    | cons q qs ih2 =>
      intro h
      have a := h q (List.mem_cons_self ..)
      have c := ih2 fun x hx => h x (List.mem_cons_of_mem _ hx)
      rw [List.map_cons, Fm.wts, Fm.wts, Nat.add_mul]; omega
  have al := all ps ih
  rw [Fm.fill, Fm.wt, Nat.add_mul, Fm.fills_map]
  cases e : sm.lookup n with
  | none =>
    show (Fm.nd n (ps.map (Fm.fill sm f))).wt ≤ _
    rw [Fm.wt]; omega
  | some o =>
    show (mkSum n o ((ps.map (Fm.fill sm f)).flatMap (under n o))).wt ≤ _
    have := mkSum_wt n o ((ps.map (Fm.fill sm f)).flatMap (under n o))
    have := flat_under_wt n o (ps.map (Fm.fill sm f))
    omega
end
section
variable {g : Str → Tm}
theorem Tm.fill_txt (hf : ∀ s, okS s = true → (g s).txt = true) : ∀ x : Tm, x.txt = true → (x.fill g).txt = true := Tm.ind (fun s h => by rw [Tm.txt] at h; rw [Tm.fill]; exact hf s h) fun b n ps ih h => by
  rw [Tm.txt, Bool.and_eq_true] at h
  rw [Tm.fill, Tm.txt, Bool.and_eq_true]
  refine ⟨h.1, Tm.txts_all.mpr fun q hq => ?_⟩
  rw [Tm.fills_map] at hq
  obtain ⟨p, hp, e⟩ := List.mem_map.mp hq
  rw [← e]; exact ih p hp (Tm.txts_all.mp h.2 p hp)
theorem Tm.fill_deep {E : Nat} (hf : ∀ s, (g s).deep ≤ E) : ∀ x : Tm, (x.fill g).deep ≤ x.deep + E := Tm.ind (fun s => by rw [Tm.fill, Tm.deep]; have := hf s; omega) fun b n ps ih => by
  rw [Tm.fill, Tm.deep, Tm.deep]
  have : Tm.deeps (Tm.fills g ps) ≤ Tm.deeps ps + E := Tm.deeps_le.mpr fun q hq => by
    rw [Tm.fills_map] at hq
    obtain ⟨p, hp, e⟩ := List.mem_map.mp hq
    rw [← e]
    have := ih p hp
    have := Tm.deeps_le.mp (Nat.le_refl _) p hp
    omega
  omega
theorem Tm.fill_wt {W : Nat} (hf : ∀ s, (g s).wt ≤ W) : ∀ x : Tm, (x.fill g).wt ≤ x.wt * W := Tm.ind (fun s => by rw [Tm.fill, Tm.wt]; have := hf s; omega) fun b n ps ih => by
  have w1 : 1 ≤ W := Nat.le_trans (Tm.wt_pos _) (hf "")
  have all : ∀ qs : List Tm, (∀ q ∈ qs, (q.fill g).wt ≤ q.wt * W) → Tm.wts (qs.map (Tm.fill g)) ≤ Tm.wts qs * W := by
    intro qs
    induction qs with
    | nil => intro _; exact Nat.zero_le _
    | cons q qs ih2 =>
      intro h
      have a := h q (List.mem_cons_self ..)
      have c := ih2 fun x hx => h x (List.mem_cons_of_mem _ hx)
      rw [List.map_cons, Tm.wts, Tm.wts, Nat.add_mul]; omega
  have al := all ps ih
  rw [Tm.fill, Tm.wt, Tm.wt, Nat.add_mul, Tm.fills_map]; omega
theorem Tm.fill_ok {fx : List (Str × Nat)} {sm : List (Str × Str)} (hf : ∀ s, (Tm.lf s).ok fx sm = true → (g s).ok fx sm = true) : ∀ x : Tm, x.ok fx sm = true → (x.fill g).ok fx sm = true := Tm.ind (fun s h => by rw [Tm.fill]; exact hf s h) fun b n ps ih h => by
  rw [Tm.ok, Bool.and_eq_true, Tm.oks_map, List.all_map] at h
  rw [Tm.fill, Tm.ok, Bool.and_eq_true, Tm.oks_map, List.all_map, Tm.fills_map, List.length_map]
  refine ⟨h.1, ?_⟩
  rw [List.all_eq_true] at h ⊢
  intro q hq
  obtain ⟨p, hp, e⟩ := List.mem_map.mp hq
  rw [← e]
  exact ih p hp (h.2 p hp)
end
/-! ### fillings -/
abbrev FlT : Type := List (Str × Tm)
abbrev FlF : Type := List (Str × Fm)
def getT (F : FlT) (s : Str) : Tm := (F.lookup s).getD (.lf s)
def getF (L : FlF) (s : Str) : Fm := (L.lookup s).getD (.lf s)
def flL (sm : List (Str × Str)) (F : FlT) : FlF := F.map fun p => (p.1, p.2.flat sm)
def dropOwn (L : FlF) : FlF := L.filter fun p => decide (p.2 ≠ .lf p.1)
def looked (sm : List (Str × Str)) (F : FlT) : FlF := dropOwn (flL sm F)
theorem lookup_none' {β : Type} {s : Str} : ∀ {L : List (Str × β)}, s ∉ L.map (·.1) → L.lookup s = none
  | [], _ => rfl
  | (a, c) :: L, h => by
    rw [List.map_cons, List.mem_cons, not_or] at h
    rw [List.lookup_cons, beq_eq_false_iff_ne.mpr h.1]
    exact lookup_none' h.2
theorem get_fl (sm : List (Str × Str)) (s : Str) : ∀ F : FlT, getF (flL sm F) s = (getT F s).flat sm
  | [] => by unfold getF getT flL; rw [List.map_nil]; show Fm.lf s = _; rw [show (List.lookup s ([] : FlT)) = none from rfl, Option.getD_none, Tm.flat]
  | (a, t) :: F => by
    have ih := get_fl sm s F
    unfold getF getT flL at *
    rw [List.map_cons, List.lookup_cons, List.lookup_cons]
    by_cases e : s = a
    · subst e; rw [beq_self_eq_true]; rfl
    · rw [beq_eq_false_iff_ne.mpr e]; exact ih
theorem get_own {s : Str} : ∀ {L : FlF}, (L.map (·.1)).Nodup → getF (dropOwn L) s = getF L s
  | [], _ => rfl
  | (a, x) :: L, h => by
    rw [List.map_cons, List.nodup_cons] at h
    have ih := get_own (s := s) h.2
    unfold dropOwn at *
    rw [List.filter_cons]
    by_cases e : s = a
    · subst e
      by_cases q : x = .lf s
      · rw [if_neg (by simpa using q)]
        have n1 : s ∉ (L.filter fun p => decide (p.2 ≠ .lf p.1)).map (·.1) := fun hm => h.1 ((List.filter_sublist.map _).subset hm)
        unfold getF
        rw [lookup_none' n1, List.lookup_cons, beq_self_eq_true, q]; rfl
      · rw [if_pos (by simpa using q)]
        unfold getF
        rw [List.lookup_cons, List.lookup_cons, beq_self_eq_true]
    · have e2 : getF ((a, x) :: L) s = getF L s := by unfold getF; rw [List.lookup_cons, beq_eq_false_iff_ne.mpr e]
      rw [e2, ← ih]
      by_cases q : x = .lf a
      · rw [if_neg (by simpa using q)]
      · rw [if_pos (by simpa using q)]
        unfold getF; rw [List.lookup_cons, beq_eq_false_iff_ne.mpr e]
theorem fl_keys (sm : List (Str × Str)) (F : FlT) : (flL sm F).map (·.1) = F.map (·.1) := by unfold flL; rw [List.map_map]; rfl
theorem get_looked {sm : List (Str × Str)} {F : FlT} (h : (F.map (·.1)).Nodup) (s : Str) : getF (looked sm F) s = (getT F s).flat sm := by
  unfold looked
  rw [get_own (by rw [fl_keys]; exact h), get_fl]
end G
set_option Elab.async false
set_option linter.all false
set_option maxRecDepth 100000
set_option maxHeartbeats 4000000
/-! dicts by texts -/
namespace G
open PySem PySem.Spec PySem.W PyProof.Rows L2
def dSt {β : Type} (r : β → Pr) (L : List (Str × β)) : List Kp := L.map fun p => (Sum.inr p.1, r p.2)
def putA {β : Type} (L : List (Str × β)) (s : Str) (x : β) : List (Str × β) := if s ∈ L.map (·.1) then L.map (fun p => if p.1 = s then (p.1, x) else p) else L ++ [(s, x)]
section
variable {β : Type} {r : β → Pr}
theorem inr_eq {a s : Str} : (Sum.inr a : L2.Key) = Sum.inr s ↔ a = s := ⟨fun h => Sum.inr.inj h, fun h => by rw [h]⟩
theorem lookS (s : Str) : ∀ L : List (Str × β), lookP (dSt r L) (Sum.inr s) = (L.lookup s).map r
  | [] => rfl
  | (a, x) :: L => by
    have ih := lookS s L
    unfold lookP dSt at *
    rw [List.map_cons, List.find?_cons, List.lookup_cons]
    by_cases e : s = a
    · subst e
      rw [show decide ((Sum.inr s : L2.Key) = Sum.inr s) = true from decide_eq_true rfl, beq_self_eq_true]; rfl
    · rw [show decide ((Sum.inr a : L2.Key) = Sum.inr s) = false from decide_eq_false fun h => e (inr_eq.mp h).symm, beq_eq_false_iff_ne.mpr e]
      exact ih
theorem hasS (s : Str) (L : List (Str × β)) : hasK (dSt r L) (Sum.inr s) = decide (s ∈ L.map (·.1)) := by
  unfold hasK dSt
  rw [List.any_map, Bool.eq_iff_iff, List.any_eq_true, decide_eq_true_iff, List.mem_map]
  constructor
  · rintro ⟨p, hp, e⟩
    exact ⟨p, hp, inr_eq.mp (of_decide_eq_true e)⟩
  · rintro ⟨p, hp, e⟩
    exact ⟨p, hp, decide_eq_true (inr_eq.mpr e)⟩
theorem putS (L : List (Str × β)) (s : Str) (x : β) : putP (dSt r L) (Sum.inr s) (r x) = dSt r (putA L s x) := by
  unfold putP putA
  rw [hasS]
  by_cases h : s ∈ L.map (·.1)
  · rw [if_pos (decide_eq_true h), if_pos h]
    unfold dSt
    rw [List.map_map, List.map_map]
    refine List.map_congr_left fun p _ => ?_
    show (if (Sum.inr p.1 : L2.Key) = Sum.inr s then (Sum.inr p.1, r x) else (Sum.inr p.1, r p.2)) = (Sum.inr (if p.1 = s then (p.1, x) else p).1, r (if p.1 = s then (p.1, x) else p).2)
    by_cases e : p.1 = s
    · rw [if_pos (inr_eq.mpr e), if_pos e]
    · rw [if_neg fun h => e (inr_eq.mp h), if_neg e]
  · rw [if_neg (by rw [decide_eq_false h]; decide), if_neg h]
    unfold dSt
    rw [List.map_append]; rfl
theorem keysS (L : List (Str × β)) : (dSt r L).map (·.1) = (L.map (·.1)).map Sum.inr := by unfold dSt; rw [List.map_map, List.map_map]; rfl
theorem keysS_nd {L : List (Str × β)} (h : (L.map (·.1)).Nodup) : ((dSt r L).map (·.1)).Nodup := by
  rw [keysS]
  exact List.Pairwise.map _ (fun a c hn => fun e => hn (inr_eq.mp e)) h
theorem putA_keys (L : List (Str × β)) (s : Str) (x : β) : (putA L s x).map (·.1) = if s ∈ L.map (·.1) then L.map (·.1) else L.map (·.1) ++ [s] := by
  unfold putA
  by_cases h : s ∈ L.map (·.1)
  · rw [if_pos h, if_pos h, List.map_map]
    refine List.map_congr_left fun p _ => ?_
    show (if p.1 = s then (p.1, x) else p).1 = p.1
    split <;> rfl
  · rw [if_neg h, if_neg h, List.map_append]; rfl
theorem putA_nd {L : List (Str × β)} {s : Str} {x : β} (h : (L.map (·.1)).Nodup) : ((putA L s x).map (·.1)).Nodup := by
  rw [putA_keys]
  by_cases q : s ∈ L.map (·.1)
  · rw [if_pos q]; exact h
  · rw [if_neg q]
    exact List.nodup_append.mpr ⟨h, List.nodup_cons.mpr ⟨by simp, List.nodup_nil⟩, fun a ha c hc e => by
      rw [List.mem_singleton] at hc
      subst e hc
      exact q ha⟩
theorem putA_mem {L : List (Str × β)} {s : Str} {x : β} {p : Str × β} (h : p ∈ putA L s x) : p = (s, x) ∨ p ∈ L := by
  unfold putA at h
  by_cases q : s ∈ L.map (·.1)
  · rw [if_pos q] at h
    obtain ⟨w, hw, e⟩ := List.mem_map.mp h
    by_cases e2 : w.1 = s
    · rw [if_pos e2] at e
      exact .inl (by rw [← e, e2])
    · rw [if_neg e2] at e
      exact .inr (e ▸ hw)
  · rw [if_neg q] at h
    rcases List.mem_append.mp h with h | h
    · exact .inr h
    · exact .inl (List.mem_singleton.mp h)
theorem putA_len (L : List (Str × β)) (s : Str) (x : β) : (putA L s x).length ≤ L.length + 1 := by
  unfold putA
  split
  · rw [List.length_map]; omega
  · rw [List.length_append, List.length_singleton]; exact Nat.le_refl _
theorem lookup_of {L : List (Str × β)} (h : (L.map (·.1)).Nodup) {p : Str × β} (hp : p ∈ L) : L.lookup p.1 = some p.2 := by
  induction L with
  | nil => cases hp
  | cons q L ih =>
    obtain ⟨a, x⟩ := q
    rw [List.map_cons, List.nodup_cons] at h
    rw [List.lookup_cons]
    rcases List.mem_cons.mp hp with e | hp
    · rw [e, beq_self_eq_true]
    · have ne : p.1 ≠ a := fun e => h.1 (List.mem_map.mpr ⟨p, hp, e⟩)
      rw [beq_eq_false_iff_ne.mpr ne]
      exact ih h.2 hp
theorem of_lookup {L : List (Str × β)} {s : Str} {x : β} (h : L.lookup s = some x) : (s, x) ∈ L := by
  induction L with
  | nil => cases h
  | cons q L ih =>
    obtain ⟨a, y⟩ := q
    rw [List.lookup_cons] at h
    by_cases e : s = a
    · subst e
      rw [beq_self_eq_true] at h
      cases h
      exact List.mem_cons_self ..
    · rw [beq_eq_false_iff_ne.mpr e] at h
      exact List.mem_cons_of_mem _ (ih h)
end
section
variable {U : Uv} {g : Gx} {Γ : Gm} {P Q R S : Pr} {e e1 e2 o tg : Expr} {pos p2 apos : Pos} {D : En} {st : Stmt} {ss rest : List Stmt} {β : Type} {r : β → Pr} {L : List (Str × β)}
/-- for wish in d, d locked -/
theorem m_keysS (h : JE g e Γ (rLk g.b (dSt r L))) : JI2 g tg e Γ L.length (nth (L.map fun p => rS p.1)) := by
  have z := i_keysL (tg := tg) h
  have e1 : ((dSt r L).map (·.1)).length = L.length := by rw [keysS, List.length_map, List.length_map]
  have e2 : ((dSt r L).map (·.1)).map (fun z => rV (kV z)) = L.map fun p => rS p.1 := by rw [keysS, List.map_map, List.map_map]; rfl
  rw [e1, e2] at z
  exact z
theorem y_dictS {p : Pos} (b : Bi g.X.mg) (hn : (L.map (·.1)).Nodup) (h : JE g e Γ (rLs g.X.K (L.map fun p => rTs g.X.K [rS p.1, r p.2]))) (hg : Gl g.X "dict" := by rfl) (he : starEach [e] g.X.env = (false, eval e g.X.env) :: starEach [] g.X.env := by rfl) (hcm : g.X.calm = true := by rfl) : JO g (.Call (.Name "dict" p) [e] [] pos) Γ (oDP (dSt r L)) := by
  have z := y_dictPP (ps := dSt r L) (p := p) (pos := pos) b (h.to (by unfold dSt; rw [List.map_map]; rfl)) hg he hcm
  rw [mergeP_nodup (keysS_nd hn)] at z
  exact z
theorem x_dixS {s : Str} {x : β} (h : JE g o Γ (rDP (dSt r L))) (hk : JE g e Γ (rS s)) (hz : L.lookup s = some x) (hs : NoSl e := by exact fun _ _ => rfl) (hcm : g.X.calm = true := by rfl) : JE g (.Subscript o e pos) Γ (r x) :=
  x_dixP (z := Sum.inr s) h hk (by rw [lookS, hz]; rfl) hs hcm
/-- x[k] = e, e known by words -/
theorem s_dputX (i : Nat) {ι : Type} {φ : ι → Prop} {f : ι → Pr} {ps : List Kp} {z : L2.Key} {x : Str} {p spos : Pos} (h : JE g e Γ (Pr.exs φ f)) (hk : JE g e1 Γ (rV (kV z))) (hl : ps.length < sizeLine) (kk : ∀ a, φ a → JS g rest (Γ.set i (some (.ow (oDP (putP ps z (f a)))))) D) (hi : Γ[i]? = some (some (.ow (oDP ps))) := by rfl) (hN : g.X.N[i]? = some x := by rfl) (hv : Vis g.X.env.scope x := by first | exact Or.inl rfl | exact Or.inr (Or.inl rfl) | exact Or.inr (Or.inr rfl))
    (hd : (x == ("__debug__" : Str)) = false := by decide) (hcd : (x == ("__classdict__" : Str)) = false := by decide) (hs : swapsWith e (some (.Subscript (.Name x p) e1 spos)) pos.line g.X.env = pure false := by rfl) (hcm : g.X.calm = true := by rfl) :
    JS g (.Assign [.Subscript (.Name x p) e1 spos] e pos :: rest) Γ D :=
  js_cons fun w σ B H s => of1 (ps_dput (by have := (w.hr hcm).units; omega) (pe_var hN hv hd hcd) pE pE hs) (by
    obtain ⟨v0, e, o⟩ := s.env.ow i _ hi
    obtain ⟨d, kvs, e2, nb, nh, hu, k⟩ := own_d o
    subst e2
    refine (h.run w σ B H s).mono fun v H1 ⟨B1, a1, a, pa, p1⟩ => ⟨_, e, (hk.run w σ B1 H1 a1.sta).mono fun jv H2 ⟨B2, a2, ej⟩ => ?_⟩
    have a12 := a1.trans a2
    have hu1 : H2 d = some (.dK kvs) := a12.t.keep d _ hu fun φ z => by rw [nb] at z; cases z
    have ej : jv = kV z := ej
    subst ej
    refine ⟨d, _, rfl, DPut.k hu1 (by rw [k.len]; exact hl), (kk a pa).go w a12.le ?_⟩
    exact a12.sta.chg hi e (mem_one.mpr rfl) (fun a m => m) ⟨d, _, rfl, upd_same, (k.mono a12.le).put z ((f a).mono _ _ _ a2.le p1)⟩)
end
end G
set_option Elab.async false
set_option linter.all false
set_option maxRecDepth 100000
set_option maxHeartbeats 4000000
/-! slices to an end known by words, lists joined that are known by words; the hook with what stands for the loaded modules -/
namespace G
open PySem PySem.Spec PySem.W PyProof.Rows L2
section
variable {U : Uv} {g : Gx} {Γ : Gm} {P Q R S : Pr} {e e1 e2 o tg : Expr} {pos p2 apos : Pos} {D : En} {st : Stmt} {ss rest : List Stmt} {rs qs : List Pr}
theorem x_slTakeX {α : Type} {xs : List α} {r : α → Pr} {hi : Expr} {φ : Int → Prop} (hφ : ∀ i, φ i → 0 ≤ i) (h : JE g e Γ (rLs g.X.K (xs.map r))) (hh : JE g hi Γ (rIx φ)) : JE g (.Subscript e (.Slice none (some hi) none p2) pos) Γ (Pr.exs (fun k : Nat => φ (k : Int)) fun k => rLs g.X.K ((xs.take k).map r)) :=
  ⟨fun w σ B H s => ofE (pe_slice sl_list pE po_none (po_some pE)) ((h.run w σ B H s).mono fun v H1 ⟨B1, a1, p, vs, e, a, f⟩ => by
    refine (hh.run w σ B1 H1 a1.sta).mono fun u H2 ⟨B2, a2, i, hi, eu⟩ => ?_
    refine ⟨i, eu, p, vs, e, (a.mono a2.le).sq a2.sta.st.ok, fun q hq => ?_⟩
    have a12 := a1.trans a2
    obtain ⟨k, rfl⟩ : ∃ k : Nat, i = (k : Int) := ⟨i.toNat, by have := hφ i hi; omega⟩
    refine ⟨_, a12.trans (a2.sta.lay hq), k, hi, q, _, rfl, put_same, ?_⟩
    have f2 := (f.mono a2.le).cut none (some (k : Int))
    have e3 : cutP (xs.map r) none (some (k : Int)) = (xs.take k).map r := by rw [cutTake, List.map_take]
    rw [e3] at f2
    exact f2.mono (Le.put (a2.sta.st.ok.none hq)))⟩
theorem x_catLX {ι : Type} {φ : ι → Prop} {rs : ι → List Pr} (hl : ∀ a, φ a → (rs a).length + qs.length ≤ sizeLine) (h1 : JE g e1 Γ (Pr.exs φ fun a => rLs g.X.K (rs a))) (h2 : JE g e2 Γ (rLs g.X.K qs)) : JE g (.BinOp e1 .Add e2 pos) Γ (Pr.exs φ fun a => rLs g.X.K (rs a ++ qs)) :=
  ⟨fun w σ B H s => ofE (pe_op op_cat pE pE) ((h1.run w σ B H s).mono fun v H1 ⟨B1, a1, x, px, p, vs, e, a, f⟩ => (h2.run w σ B1 H1 a1.sta).mono fun u H2 ⟨B2, a2, p2, vs2, e2, b, f2⟩ => by
    have z := a.mono (K := g.X.K) a2.le
    refine ⟨p, p2, vs, vs2, e, e2, z.at_ a2.sta.st.ok, b.at_ a2.sta.st.ok, by rw [f.len, f2.len]; exact hl x px, fun q hq => ?_⟩
    exact ⟨_, (a1.trans a2).trans (a2.sta.lay hq), x, px, q, _, rfl, put_same, ((f.mono a2.le).append f2).mono (Le.put (a2.sta.st.ok.none hq))⟩)⟩
theorem x_catXX {ι κ τ : Type} {φ : ι → Prop} {ψ : κ → Prop} {χ : τ → Prop} {rs : ι → List Pr} {qs : κ → List Pr} {ts : τ → List Pr} (hl : ∀ a c, φ a → ψ c → (rs a).length + (qs c).length ≤ sizeLine) (h1 : JE g e1 Γ (Pr.exs φ fun a => rLs g.X.K (rs a))) (h2 : JE g e2 Γ (Pr.exs ψ fun a => rLs g.X.K (qs a))) (hk : ∀ a c, φ a → ψ c → ∃ t, χ t ∧ ts t = rs a ++ qs c) : JE g (.BinOp e1 .Add e2 pos) Γ (Pr.exs χ fun a => rLs g.X.K (ts a)) :=
  ⟨fun w σ B H s => ofE (pe_op op_cat pE pE) ((h1.run w σ B H s).mono fun v H1 ⟨B1, a1, x, px, p, vs, e, a, f⟩ => (h2.run w σ B1 H1 a1.sta).mono fun u H2 ⟨B2, a2, y, py, p2, vs2, e2, b, f2⟩ => by
    have z := a.mono (K := g.X.K) a2.le
    refine ⟨p, p2, vs, vs2, e, e2, z.at_ a2.sta.st.ok, b.at_ a2.sta.st.ok, by rw [f.len, f2.len]; exact hl x y px py, fun q hq => ?_⟩
    obtain ⟨t, pt, et⟩ := hk x y px py
    exact ⟨_, (a1.trans a2).trans (a2.sta.lay hq), t, pt, q, _, rfl, put_same, by rw [et]; exact ((f.mono a2.le).append f2).mono (Le.put (a2.sta.st.ok.none hq))⟩)⟩
theorem x_ixAnyG {α : Type} {r : α → Pr} {xs : List α} (h1 : JE g e1 Γ (rLs g.X.K (xs.map r))) (h2 : JE g e2 Γ (rIx fun i => 0 ≤ i ∧ i < (xs.length : Int))) (hs : PlainIx e2 := by exact fun _ _ => rfl) : JE g (.Subscript e1 e2 pos) Γ (Pr.exs (fun x => x ∈ xs) r) :=
  x_ixLx (φ := fun i => 0 ≤ i ∧ i < (xs.length : Int)) (fun j hj => by
    obtain ⟨h0, h1⟩ := hj
    have hl : j.toNat < xs.length := by omega
    refine ⟨r (xs[j.toNat]'hl), ?_, fun B v h => ⟨_, List.getElem_mem hl, h⟩⟩
    unfold atI
    have : ixN (xs.map r).length j = some j.toNat := by
      unfold ixN
      rw [List.length_map, if_pos h0, if_pos h1]
    rw [this]
    show (xs.map r)[j.toNat]? = _
    rw [List.getElem?_map, List.getElem?_eq_getElem hl]; rfl) h1 h2 hs
end
/-! ### the hook -/
abbrev AlY : Type := He.AlD × Bool
def obsY (fa : List He.Fa) (fn : List He.DefD) (tz : List Tbz) (K : PySem.W.Frag) : AlY := (He.obsD fa fn K, SmB K && tz.all fun t => He.tupB K t.1 t.2)
def obsYG (n : Nat) (fa : List He.Fa) (fn : List He.DefD) (tz : List Tbz) (g : Addr → Option Obj) : AlY := obsY fa fn tz (He.frG g (He.asD g n ++ [sysModules]))
def SaysY (fa : List He.Fa) (fn : List He.DefD) (tz : List Tbz) (K : PySem.W.Frag) : Prop := obsY fa fn tz K = (He.valD fn, true)
def hookY (n : Nat) (fa : List He.Fa) (fn : List He.DefD) (tz : List Tbz) : PySem.W.Hook where
  α := AlY
  obs := fun s => obsYG n fa fn tz s.heap.get?
  val := fun _ => (He.valD fn, true)
  says := fun _ h => ∃ K : PySem.W.Frag, K.In h ∧ SaysY fa fn tz K
  of := fun _ _ e => ⟨_, He.frG_in, e⟩
  keeps := fun _ _ _ ⟨K, hK, c⟩ k => ⟨K, PySem.W.Frag.In.keeps hK k, c⟩
theorem obsYG_eq {n : Nat} {fa : List He.Fa} {fn : List He.DefD} {tz : List Tbz} {g : Addr → Option Obj} {s : Shared} (h : ∀ a, g a = s.heap.get? a) : obsYG n fa fn tz g = (hookY n fa fn tz).obs s := by
  have e : g = s.heap.get? := funext h
  rw [e] <;> rfl
section
variable {fa : List He.Fa} {fn : List He.DefD} {tz : List Tbz} {K : PySem.W.Frag}
theorem SaysY.d (c : SaysY fa fn tz K) : He.SaysD fa fn K := congrArg (fun z : AlY => z.1) c
theorem SaysY.b (c : SaysY fa fn tz K) : SmB K = true ∧ (tz.all fun t => He.tupB K t.1 t.2) = true := by
  have e : (SmB K && tz.all fun t => He.tupB K t.1 t.2) = true := congrArg (fun z : AlY => z.2) c
  rwa [Bool.and_eq_true] at e
theorem SaysY.sm (c : SaysY fa fn tz K) : SmB K = true := c.b.1
theorem SaysY.tab (c : SaysY fa fn tz K) (i : Nat) {t : Tbz} (h : tz[i]? = some t := by rfl) : He.tupB K t.1 t.2 = true := List.all_eq_true.mp c.b.2 t (List.mem_of_getElem? h)
end
end G
set_option Elab.async false
set_option linter.all false
set_option maxRecDepth 100000
set_option maxHeartbeats 4000000
/-! a filling as data; what its values are -/
namespace G
open PySem PySem.Spec PySem.W PyProof.Rows L2
def flD (F : FlT) : PyData := .dict (F.map fun p => (PyData.str p.1, p.2.data))
theorem flD_eq (K : PySem.W.Frag) (F : FlT) : flD F = dictD ((dSt (rM K) F).map (·.1)) (F.map fun p => p.2.data) := by
  unfold flD dictD dSt
  congr 1
  induction F with
  | nil => rfl
  | cons p F ih => rw [List.map_cons, List.map_cons, List.map_cons, List.map_cons, List.map_cons, List.zip_cons_cons, ← ih]; rfl
theorem hk_fl (K : PySem.W.Frag) : ∀ F : FlT, HasK K (dSt (rM K) F) (F.map fun p => p.2.data)
  | [] => trivial
  | p :: F => ⟨hd_M p.2, hk_fl K F⟩
theorem fl_showable : ∀ F : FlT, PyData.showableKv (F.map fun p => (PyData.str p.1, p.2.data)) = true
  | [] => by rw [List.map_nil, PyData.showableKv]
  | p :: F => by
    rw [List.map_cons, PyData.showableKv, Tm.showable, fl_showable F, PyData.showable]; rfl
theorem fl_depth {d : Nat} : ∀ F : FlT, (∀ p ∈ F, p.2.deep ≤ d) → PyData.depthKv (F.map fun p => (PyData.str p.1, p.2.data)) ≤ d
  | [], _ => by rw [List.map_nil, PyData.depthKv]; exact Nat.zero_le _
  | p :: F, h => by
    have i := fl_depth F fun q hq => h q (List.mem_cons_of_mem _ hq)
    have j := h p (List.mem_cons_self ..)
    rw [List.map_cons, PyData.depthKv, Tm.dep, PyData.depth]
    omega
theorem fl_short : ∀ F : FlT, (∀ p ∈ F, okS p.1 = true ∧ p.2.txt = true) → PyData.leavesShortKv 13 (F.map fun p => (PyData.str p.1, p.2.data)) = true
  | [], _ => by rw [List.map_nil, PyData.leavesShortKv]
  | p :: F, h => by
    have i := fl_short F fun q hq => h q (List.mem_cons_of_mem _ hq)
    obtain ⟨h1, h2⟩ := h p (List.mem_cons_self ..)
    have j : (PyData.str p.1).leavesShort 13 = true := PyData.leavesShort_of_canLay0 13 _ (by rw [PyData.canLay0]; exact okS_lay h1) (by simp [PyData.intsShort])
    have k : p.2.data.leavesShort 13 = true := PyData.leavesShort_of_canLay0 13 _ (Tm.lay p.2 h2) (Tm.short 13 p.2)
    rw [List.map_cons, PyData.leavesShortKv, i, j, k]; rfl
theorem fl_weight {w : Nat} : ∀ F : FlT, (∀ p ∈ F, okS p.1 = true ∧ p.2.txt = true ∧ p.2.wt ≤ w) → PyData.weightKv (F.map fun p => (PyData.str p.1, p.2.data)) ≤ F.length * (110 + 102 * w)
  | [], _ => by rw [List.map_nil, PyData.weightKv]; exact Nat.zero_le _
  | p :: F, h => by
    have i := fl_weight F fun q hq => h q (List.mem_cons_of_mem _ hq)
    obtain ⟨h1, h2, h3⟩ := h p (List.mem_cons_self ..)
    have j := Tm.weight_le p.2 h2
    have l := okS_len h1
    have e : p.1.length = p.1.cps.size := rfl
    have m : 102 * p.2.wt ≤ 102 * w := Nat.mul_le_mul_left _ h3
    rw [List.map_cons, PyData.weightKv, PyData.weight, List.length_cons, Nat.add_mul]
    omega
theorem flD_showable (F : FlT) : (flD F).showable = true := by unfold flD; rw [PyData.showable]; exact fl_showable F
theorem flD_depth {d : Nat} {F : FlT} (h : ∀ p ∈ F, p.2.deep ≤ d) : (flD F).depth ≤ d + 1 := by
  unfold flD; rw [PyData.depth]
  have := fl_depth F h
  omega
theorem flD_fits {w : Nat} {F : FlT} (h : ∀ p ∈ F, okS p.1 = true ∧ p.2.txt = true ∧ p.2.wt ≤ w) (hl : F.length * (110 + 102 * w) ≤ 1048576) : (flD F).shown.length ≤ sizeLine := by
  have e : (2 : Nat) ^ 20 = 1048576 := by decide
  refine PyData.shown_fits (B := 13) (by decide) (by decide) ?_ ?_
  · unfold flD; rw [PyData.leavesShort]; exact fl_short F fun p hp => ⟨(h p hp).1, (h p hp).2.1⟩
  · unfold flD; rw [PyData.weight]
    have := fl_weight F h
    omega
/-- repr of a filling -/
theorem x_reprFl {g : Gx} {Γ : Gm} {e : Expr} {pos p : Pos} {F : FlT} {d w : Nat} (hm : g.X.mg "repr" = none) (hgd : g.X.A.guards = some []) (sm : SmB g.X.K = true) (h : JE g e Γ (rDP (dSt (rM g.X.K) F))) (hk : ∀ p ∈ F, okS p.1 = true ∧ p.2.txt = true ∧ p.2.wt ≤ w) (hd : ∀ p ∈ F, p.2.deep ≤ d) (hD : d ≤ 99) (hl : F.length * (110 + 102 * w) ≤ 1048576) (hg : Gl g.X "repr" := by rfl) (he : starEach [e] g.X.env = (false, eval e g.X.env) :: starEach [] g.X.env := by rfl) (hcm : g.X.calm = true := by rfl) :
    JE g (.Call (.Name "repr" p) [e] [] pos) Γ (G.rS (flD F).shown) := by
  have e1 := flD_eq g.X.K F
  have s1 := flD_showable F
  have z1 := flD_fits hk hl
  have d1 := flD_depth hd
  generalize flD F = D at *
  exact x_reprK e1 hm hgd sm h (hk_fl g.X.K F) s1 z1 (by omega) hg he hcm
theorem getT_all {P : Tm → Prop} {F : FlT} {s : Str} (h : ∀ p ∈ F, P p.2) (l : P (.lf s)) : P (getT F s) := by
  unfold getT
  cases q : F.lookup s with
  | none => exact l
  | some t => exact h _ (of_lookup q)
theorem getT_tm {L : FlF} (s : Str) : getT (L.map fun p => (p.1, p.2.tm)) s = (getF L s).tm := by
  unfold getT getF
  induction L with
  | nil => rw [List.map_nil]; show Tm.lf s = (Fm.lf s).tm; rw [Fm.tm]
  | cons p L ih =>
    obtain ⟨a, x⟩ := p
    rw [List.map_cons, List.lookup_cons, List.lookup_cons]
    by_cases e : s = a
    · subst e; rw [beq_self_eq_true]; rfl
    · rw [beq_eq_false_iff_ne.mpr e]; exact ih
theorem fill_none (sm : List (Str × Str)) : ∀ t : Tm, (t.fill (getT [])).flat sm = t.flat sm := Tm.ind (fun s => by rw [Tm.fill]; rfl) fun b n ps ih => by
  have e : Tm.flats sm (Tm.fills (getT []) ps) = Tm.flats sm ps := by
    rw [Tm.flats_map, Tm.flats_map, Tm.fills_map, List.map_map]
    exact List.map_congr_left fun p hp => ih p hp
  rw [Tm.fill, Tm.flat, Tm.flat, e]
/-- the filling looked over, as a filling of terms -/
def lookT (sm : List (Str × Str)) (F : FlT) : FlT := (looked sm F).map fun p => (p.1, p.2.tm)
theorem get_lookT {sm : List (Str × Str)} {F : FlT} (h : (F.map (·.1)).Nodup) (s : Str) : (getT (lookT sm F) s).flat sm = (getT F s).flat sm := by
  unfold lookT
  rw [getT_tm, get_looked h]
  exact Fm.flat_tm sm _ (Tm.flat_nf sm _)
/-! ### == of any data without dicts -/
def rEqPl (K : PySem.W.Frag) : R2 := fun x y H Q => ∃ d d', Dp K H x d ∧ Dp K H y d' ∧ d.plain = true ∧ d'.plain = true ∧ d.depth ≤ 60 ∧ Q (.bl (PyData.eqv d d')) H
theorem op_eqPl {X : Cx} (hu : X.A.units + 64 < cLine) : OpR X (compareOp .Eq) (rEqPl X.K) := by
  intro pins s σ H x y v u Q I rx ry h
  obtain ⟨d, d', h1, h2, ha, hn, hdp, q⟩ := h
  obtain ⟨as, r1⟩ := Dp.reads I d x v h1 rx
  obtain ⟨bs, r2⟩ := Dp.reads I d' y u h2 ry
  exact SeqAt.eq_plain r1 r2 ha hn (by omega) ⟨.bl _, H, I, rfl, q⟩
theorem x_eqPl {g : Gx} {Γ : Gm} {P Q : Pr} {e1 e2 : Expr} {pos : Pos} {d d' : PyData} (h1 : JE g e1 Γ P) (h2 : JE g e2 Γ Q) (k1 : HasD g.X.K P d) (k2 : HasD g.X.K Q d') (s1 : d.plain = true) (s2 : d'.plain = true) (hd : d.depth ≤ 60) (hm : behindInMarks .Eq e2 = false := by first | exact nomark _ | rfl) (hcm : g.X.calm = true := by rfl) : JE g (.Compare e1 [.Eq] [e2] pos) Γ (rB (PyData.eqv d d')) :=
  x_cmpW (fun w => op_eqPl (w.hr hcm).units) (fun B H v u K k p q c => ⟨d, d', k1 B H v k p, k2 B H u k q, s1, s2, hd, c _ B H (Stp.refl k) rfl⟩) h1 h2 hm
/-- two texts in a list, the same again -/
theorem x_eqTwo {g : Gx} {Γ : Gm} {e1 e2 : Expr} {pos : Pos} {a c : Str} (h1 : JE g e1 Γ (rLs g.X.K [rS a, rS c])) (h2 : JE g e2 Γ (rLs g.X.K [rS a, rS c])) (hm : behindInMarks .Eq e2 = false := by first | exact nomark _ | rfl) (hcm : g.X.calm = true := by rfl) : JE g (.Compare e1 [.Eq] [e2] pos) Γ (rB true) := by
  have hd : HasD g.X.K (rLs g.X.K [rS a, rS c]) (.list [.str a, .str c]) := hd_L (ds := [.str a, .str c]) ⟨hd_S, hd_S, trivial⟩
  have z := x_eqPl (pos := pos) h1 h2 hd hd rfl rfl (by simp [PyData.depth, PyData.depthAll]) hm hcm
  have e : PyData.eqv (.list [.str a, .str c]) (.list [.str a, .str c]) = true := SeqAt.eqv_refl_plain _ rfl
  rw [e] at z
  exact z
section
variable {g : Gx} {Γ : Gm} {R : Pr} {e : Expr} {pos : Pos} {U : Uv}
theorem x_callxG {x : Str} {k : Nat} {ps : List Str} {ι : Type} {φ : ι → Cs} {es : List Expr} {p : Pos} {Ps : List Pr} (F : FdG U x k ps φ) (hgd : g.X.A.guards = some []) (h : JA g (e :: es) Γ Ps) (hi : ∀ B vs, F2 B vs Ps → ∃ i, F2 B vs (φ i).as ∧ (φ i).pre ∧ (∀ C, ¬ (φ i).exc C) ∧ ∃ S, (∀ b1, (φ i).rs b1 = .sh S) ∧ ∀ B2 v, S.r B2 v → R.r B2 v) (hk : k ≤ g.k := by exact Nat.le_of_ble_eq_true rfl)
    (hU : UvOf U g.X := by exact ⟨rfl, rfl, rfl, rfl, rfl⟩) (hg : Gl g.X x := by rfl) (hdb : (x == ("__debug__" : Str)) = false := by decide) (he : starEach (e :: es) g.X.env = (false, eval e g.X.env) :: starEach es g.X.env := by rfl) (hpl : (backTo pos (starEach es g.X.env)).any (·.1) = false := by rfl) (hcm : g.X.calm = true := by rfl) :
    JE g (.Call (.Name x p) (e :: es) [] pos) Γ R := by
  obtain ⟨f, fd, a, kp, c, d⟩ := F.ok
  obtain ⟨u1, u2, u3, u4, u5⟩ := hU
  refine ⟨fun w σ B H s => ?_⟩
  refine (ofE (pe_callG (dvs := []) (ds := []) (by rw [u1, u2, u3, u4, u5]; exact d) ((w.hr hcm).mono hk) hgd hg (by rw [u4]; exact a) (by rw [u3]; exact kp) (by rw [u3]; exact c) .nil pA hdb he hpl) ?_)
  refine (h.run w σ B H s).mono fun vs H1 ⟨B1, a1, q⟩ => ?_
  obtain ⟨i, q', hp, hx, S, hs, hSR⟩ := hi _ _ q
  rw [List.append_nil]
  exact ⟨i, B1, hp, a1.sta.st.ok, q', fun v B' H' t r => ⟨B', a1.trans (a1.sta.step t), by rw [hs] at r; exact hSR _ _ r⟩, fun C d B' H' t z => (hx C z).elim⟩
end
end G
set_option Elab.async false
set_option linter.all false
set_option maxRecDepth 100000
set_option maxHeartbeats 4000000
/-! fillings by what they give each wish; one further by another -/
namespace G
open PySem PySem.Spec PySem.W PyProof.Rows L2
theorem sub_len {α : Type} [DecidableEq α] : ∀ {xs ys : List α}, xs.Nodup → (∀ x ∈ xs, x ∈ ys) → xs.length ≤ ys.length
  | [], _, _, _ => Nat.zero_le _
  | x :: xs, ys, hn, h => by
    rw [List.nodup_cons] at hn
    have hx := h x (List.mem_cons_self ..)
    have i := sub_len (xs := xs) (ys := ys.erase x) hn.2 fun y hy => (List.mem_erase_of_ne (fun e : y = x => hn.1 (by rw [← e]; exact hy))).mpr (h y (List.mem_cons_of_mem _ hy))
    have l := List.length_erase_of_mem hx
    have p := List.length_pos_of_mem hx
    rw [List.length_cons]; omega
/-- a filling, looked over, that gives each wish v -/
structure Lk (v : Str → Fm) (A : FlF) : Prop where
  nd : (A.map (·.1)).Nodup
  own : ∀ p ∈ A, p.2 ≠ .lf p.1
  get : ∀ s, getF A s = v s
theorem Lk.mem {v : Str → Fm} {A : FlF} (h : Lk v A) {p : Str × Fm} (hp : p ∈ A) : p.2 = v p.1 := by
  rw [← h.get]; unfold getF; rw [lookup_of h.nd hp]; rfl
theorem Lk.key {v : Str → Fm} {A : FlF} (h : Lk v A) {s : Str} : s ∈ A.map (·.1) ↔ v s ≠ .lf s := by
  constructor
  · intro hs
    obtain ⟨p, hp, e⟩ := List.mem_map.mp hs
    subst e
    rw [← h.mem hp]; exact h.own p hp
  · intro hs
    refine Decidable.byContradiction fun hn => hs ?_
    rw [← h.get]; unfold getF; rw [lookup_none' hn]; rfl
theorem Lk.look {v : Str → Fm} {A : FlF} (h : Lk v A) {s : Str} (hs : v s ≠ .lf s) : A.lookup s = some (v s) := by
  obtain ⟨p, hp, e⟩ := List.mem_map.mp (h.key.mpr hs)
  subst e
  rw [lookup_of h.nd hp, h.mem hp]
theorem Lk.same {K : PySem.W.Frag} {v : Str → Fm} {A B : FlF} (a : Lk v A) (c : Lk v B) (hs : ∀ p ∈ A, p.2.txt = true ∧ p.2.deep ≤ 60) : SameP K (dSt (rF K) A) (dSt (rF K) B) := by
  refine ⟨?_, fun q hq => ?_⟩
  · unfold dSt
    rw [List.length_map, List.length_map]
    have l1 := sub_len a.nd fun s hs => c.key.mpr (a.key.mp hs)
    have l2 := sub_len c.nd fun s hs => a.key.mpr (c.key.mp hs)
    rw [List.length_map, List.length_map] at l1 l2
    omega
  · obtain ⟨p, hp, e⟩ := List.mem_map.mp hq
    subst e
    have e1 := a.mem hp
    have ne := a.own p hp
    obtain ⟨t1, t2⟩ := hs p hp
    refine ⟨rF K (v p.1), p.2.data, (v p.1).data, ?_, hd_F _, hd_F _, Fm.shaped t1 t2, by rw [← e1]; exact Fm.shaped t1 t2, by rw [← e1]; exact PySem.SeqAt.eqv_refl _ (Fm.lay _ t1)⟩
    show lookP (dSt (rF K) B) (Sum.inr p.1) = _
    rw [lookS, c.look (by rw [← e1]; exact ne)]; rfl
theorem Lk.nil {v : Str → Fm} (h : ∀ s, v s = .lf s) : Lk v [] := ⟨List.nodup_nil, fun p hp => (by cases hp), fun s => (h s).symm⟩
theorem drop_lk {L : FlF} (h : (L.map (·.1)).Nodup) : Lk (getF L) (dropOwn L) := ⟨(List.filter_sublist.map _).nodup h, fun p hp => of_decide_eq_true (List.mem_filter.mp hp).2, fun s => get_own h⟩
theorem looked_lk {sm : List (Str × Str)} {F : FlT} (h : (F.map (·.1)).Nodup) : Lk (fun s => (getT F s).flat sm) (looked sm F) := by
  have z := drop_lk (L := flL sm F) (by rw [fl_keys]; exact h)
  have e : getF (flL sm F) = fun s => (getT F s).flat sm := funext fun s => get_fl sm s F
  rw [e] at z
  exact z
/-! ### further -/
def joinF (sm : List (Str × Str)) (L M : FlF) : FlF := (L.map fun p => (p.1, p.2.fill sm (getF M))) ++ M.filter fun p => decide (p.1 ∉ L.map (·.1))
def furF (sm : List (Str × Str)) (F H : FlT) : FlF := dropOwn (joinF sm (looked sm F) (looked sm H))
theorem join_keys {sm : List (Str × Str)} {L M : FlF} : (joinF sm L M).map (·.1) = L.map (·.1) ++ (M.filter fun p => decide (p.1 ∉ L.map (·.1))).map (·.1) := by
  unfold joinF; rw [List.map_append, List.map_map]; rfl
theorem join_nd {sm : List (Str × Str)} {L M : FlF} (h1 : (L.map (·.1)).Nodup) (h2 : (M.map (·.1)).Nodup) : ((joinF sm L M).map (·.1)).Nodup := by
  rw [join_keys]
  refine List.nodup_append.mpr ⟨h1, (List.filter_sublist.map _).nodup h2, fun a ha c hc e => ?_⟩
  obtain ⟨p, hp, e2⟩ := List.mem_map.mp hc
  have := of_decide_eq_true (List.mem_filter.mp hp).2
  exact this (by rw [e2, ← e]; exact ha)
theorem lookup_app {β : Type} {s : Str} : ∀ {L M : List (Str × β)}, (L ++ M).lookup s = (L.lookup s).or (M.lookup s)
  | [], M => by rw [List.nil_append]; rfl
  | (a, x) :: L, M => by
    rw [List.cons_append, List.lookup_cons, List.lookup_cons]
    by_cases e : s = a
    · subst e; rw [beq_self_eq_true]; rfl
    · rw [beq_eq_false_iff_ne.mpr e]; exact lookup_app
theorem lookup_mapv {β γ : Type} {f : β → γ} {s : Str} : ∀ {L : List (Str × β)}, (L.map fun p => (p.1, f p.2)).lookup s = (L.lookup s).map f
  | [] => rfl
  | (a, x) :: L => by
    rw [List.map_cons, List.lookup_cons, List.lookup_cons]
    by_cases e : s = a
    · subst e; rw [beq_self_eq_true]; rfl
    · rw [beq_eq_false_iff_ne.mpr e]; exact lookup_mapv
theorem lookup_filt {β : Type} {s : Str} {c : Str → Bool} (hc : c s = true) : ∀ {L : List (Str × β)}, (L.filter fun p => c p.1).lookup s = L.lookup s
  | [] => rfl
  | (a, x) :: L => by
    rw [List.filter_cons]
    by_cases e : s = a
    · subst e
      rw [if_pos hc, List.lookup_cons, List.lookup_cons, beq_self_eq_true]
    · cases c a with
      | true => rw [if_pos rfl, List.lookup_cons, List.lookup_cons, beq_eq_false_iff_ne.mpr e]; exact lookup_filt hc
      | false => rw [if_neg (by decide), List.lookup_cons, beq_eq_false_iff_ne.mpr e]; exact lookup_filt hc
theorem join_get {sm : List (Str × Str)} {L M : FlF} (s : Str) : getF (joinF sm L M) s = (getF L s).fill sm (getF M) := by
  unfold joinF
  by_cases hs : s ∈ L.map (·.1)
  · obtain ⟨p, hp, e⟩ := List.mem_map.mp hs
    cases q : L.lookup s with
    | none =>
      have : L.lookup s ≠ none := fun h => by
        have := List.lookup_eq_none_iff.mp h p hp
        rw [e] at this; simp at this
      exact absurd q this
    | some x =>
      show ((_ : FlF).lookup s).getD _ = _
      rw [lookup_app, lookup_mapv (f := fun x : Fm => x.fill sm (getF M)), q]
      have : getF L s = x := by unfold getF; rw [q]; rfl
      rw [this]; rfl
  · have n1 : L.lookup s = none := lookup_none' hs
    have e1 : getF L s = .lf s := by unfold getF; rw [n1]; rfl
    rw [e1, Fm.fill]
    show ((_ : FlF).lookup s).getD _ = _
    rw [lookup_app, lookup_mapv (f := fun x : Fm => x.fill sm (getF M)), n1]
    show (List.lookup s (M.filter fun p => decide (p.1 ∉ L.map (·.1)))).getD _ = _
    rw [lookup_filt (c := fun a => decide (a ∉ L.map (·.1))) (decide_eq_true hs)]
    rfl
theorem fur_lk {sm : List (Str × Str)} {F H : FlT} (h1 : (F.map (·.1)).Nodup) (h2 : (H.map (·.1)).Nodup) (ho : ∀ n o, sm.lookup n = some o → (getT H o).flat sm = .lf o) : Lk (fun s => ((getT F s).fill (getT H)).flat sm) (furF sm F H) := by
  have a := looked_lk (sm := sm) h1
  have c := looked_lk (sm := sm) h2
  have z := drop_lk (L := joinF sm (looked sm F) (looked sm H)) (join_nd a.nd c.nd)
  have e : getF (joinF sm (looked sm F) (looked sm H)) = fun s => ((getT F s).fill (getT H)).flat sm := funext fun s => by
    rw [join_get, a.get]
    refine Fm.fill_flat (fun s => c.get s) (fun n o e => by rw [c.get]; exact ho n o e) _
  rw [e] at z
  exact z
theorem join_len {sm : List (Str × Str)} {L M : FlF} : (joinF sm L M).length ≤ L.length + M.length := by
  unfold joinF
  rw [List.length_append, List.length_map]
  have := List.length_filter_le (fun p : Str × Fm => decide (p.1 ∉ L.map (·.1))) M
  omega
theorem looked_len {sm : List (Str × Str)} {F : FlT} : (looked sm F).length ≤ F.length := by
  unfold looked dropOwn flL
  exact Nat.le_trans (List.length_filter_le _ _) (by rw [List.length_map]; exact Nat.le_refl _)
theorem fur_len {sm : List (Str × Str)} {F H : FlT} : (furF sm F H).length ≤ F.length + H.length := by
  have a := looked_len (sm := sm) (F := F)
  have c := looked_len (sm := sm) (F := H)
  have j := join_len (sm := sm) (L := looked sm F) (M := looked sm H)
  unfold furF dropOwn
  have := List.length_filter_le (fun p : Str × Fm => decide (p.2 ≠ .lf p.1)) (joinF sm (looked sm F) (looked sm H))
  omega
theorem looked_keys {sm : List (Str × Str)} {F : FlT} {p : Str × Fm} (h : p ∈ looked sm F) : p.1 ∈ F.map (·.1) := by
  obtain ⟨q, hq, e⟩ := List.mem_map.mp (List.mem_filter.mp h).1
  rw [← e]; exact List.mem_map.mpr ⟨q, hq, rfl⟩
theorem fur_keys {sm : List (Str × Str)} {F H : FlT} {p : Str × Fm} (h : p ∈ furF sm F H) : p.1 ∈ F.map (·.1) ∨ p.1 ∈ H.map (·.1) := by
  have h := (List.mem_filter.mp h).1
  rcases List.mem_append.mp h with h | h
  · obtain ⟨q, hq, e⟩ := List.mem_map.mp h
    rw [← e]; exact .inl (show q.1 ∈ _ from looked_keys (sm := sm) hq)
  · exact .inr (looked_keys (List.mem_filter.mp h).1)
/-- put one after the other, where the filling has not got it -/
def joinI (sm : List (Str × Str)) (L M : FlF) (i : Nat) : FlF := (L.map fun p => (p.1, p.2.fill sm (getF M))) ++ (M.take i).filter fun p => decide (p.1 ∉ L.map (·.1))
theorem joinI_all {sm : List (Str × Str)} {L M : FlF} : joinI sm L M M.length = joinF sm L M := by unfold joinI joinF; rw [List.take_length]
theorem joinI_len {sm : List (Str × Str)} {L M : FlF} {i : Nat} : (joinI sm L M i).length ≤ L.length + M.length := by
  unfold joinI
  rw [List.length_append, List.length_map]
  have a := List.length_filter_le (fun p : Str × Fm => decide (p.1 ∉ L.map (·.1))) (M.take i)
  rw [List.length_take] at a
  have := Nat.min_le_right i M.length
  omega
theorem joinI_old {sm : List (Str × Str)} {L M : FlF} {i : Nat} {p : Str × Fm} (hp : M[i]? = some p) (h : p.1 ∈ L.map (·.1)) : joinI sm L M (i + 1) = joinI sm L M i := by
  have e : M.take (i + 1) = M.take i ++ [p] := by rw [List.take_succ, hp]; rfl
  unfold joinI
  rw [e, List.filter_append, List.filter_cons, if_neg (by simpa using h), List.filter_nil, List.append_nil]
theorem joinI_new {sm : List (Str × Str)} {L M : FlF} (hn : (M.map (·.1)).Nodup) {i : Nat} {p : Str × Fm} (hp : M[i]? = some p) (h : p.1 ∉ L.map (·.1)) : putA (joinI sm L M i) p.1 p.2 = joinI sm L M (i + 1) := by
  have e : M.take (i + 1) = M.take i ++ [p] := by rw [List.take_succ, hp]; rfl
  have no : p.1 ∉ (joinI sm L M i).map (·.1) := by
    unfold joinI
    rw [List.map_append, List.mem_append, not_or]
    constructor
    · rw [List.map_map]; exact h
    · intro hm
      obtain ⟨q, hq, eq⟩ := List.mem_map.mp hm
      have hq := (List.mem_filter.mp hq).1
      have hm2 : (M.take (i + 1)).map (·.1) |>.Nodup := ((List.take_sublist _ _).map _).nodup hn
      rw [e, List.map_append, List.nodup_append] at hm2
      exact hm2.2.2 q.1 (List.mem_map.mpr ⟨q, hq, rfl⟩) p.1 (by simp) eq
  unfold putA
  rw [if_neg no]
  unfold joinI
  rw [e, List.filter_append, List.filter_cons, if_pos (by simpa using h), List.filter_nil, List.append_assoc]
end G
set_option Elab.async false
set_option linter.all false
set_option maxRecDepth 100000
set_option maxHeartbeats 4000000
/-! != of data without dicts; list(d); filled twice -/
namespace G
open PySem PySem.Spec PySem.W PyProof.Rows L2
def rNePl (K : PySem.W.Frag) : R2 := fun x y H Q => ∃ d d', Dp K H x d ∧ Dp K H y d' ∧ d.plain = true ∧ d'.plain = true ∧ d.depth ≤ 60 ∧ Q (.bl (!PyData.eqv d d')) H
theorem op_nePl {X : Cx} (hu : X.A.units + 64 < cLine) : OpR X (compareOp .NotEq) (rNePl X.K) := by
  intro pins s σ H x y v u Q I rx ry h
  obtain ⟨d, d', h1, h2, ha, hn, hdp, q⟩ := h
  obtain ⟨as, r1⟩ := Dp.reads I d x v h1 rx
  obtain ⟨bs, r2⟩ := Dp.reads I d' y u h2 ry
  exact SeqAt.rcNe_plain r1 r2 ha hn (by omega) _ _ _ _ ⟨.bl _, H, I, rfl, q⟩
theorem t_nePl {g : Gx} {Γ : Gm} {P Q : Pr} {e1 e2 : Expr} {pos : Pos} {d d' : PyData} (h1 : JE g e1 Γ P) (h2 : JE g e2 Γ Q) (k1 : HasD g.X.K P d) (k2 : HasD g.X.K Q d') (s1 : d.plain = true) (s2 : d'.plain = true) (hd : d.depth ≤ 60) (hm : behindInMarks .NotEq e2 = false := by first | exact nomark _ | rfl) (hcm : g.X.calm = true := by rfl) : JT g (.Compare e1 [.NotEq] [e2] pos) Γ (!PyData.eqv d d') :=
  t_cmpW (fun w => op_nePl (w.hr hcm).units) (fun B H v u K k p q c => ⟨d, d', k1 B H v k p, k2 B H u k q, s1, s2, hd, c _ B H (Stp.refl k) rfl⟩) h1 h2 hm
theorem t_neTwo {g : Gx} {Γ : Gm} {e1 e2 : Expr} {pos : Pos} {a c : Str} (h1 : JE g e1 Γ (rLs g.X.K [rS a, rS c])) (h2 : JE g e2 Γ (rLs g.X.K [rS a, rS c])) (hm : behindInMarks .NotEq e2 = false := by first | exact nomark _ | rfl) (hcm : g.X.calm = true := by rfl) : JT g (.Compare e1 [.NotEq] [e2] pos) Γ false := by
  have hd : HasD g.X.K (rLs g.X.K [rS a, rS c]) (.list [.str a, .str c]) := hd_L (ds := [.str a, .str c]) ⟨hd_S, hd_S, trivial⟩
  have z := t_nePl (pos := pos) h1 h2 hd hd rfl rfl (by simp [PyData.depth, PyData.depthAll]) hm hcm
  have e : PyData.eqv (.list [.str a, .str c]) (.list [.str a, .str c]) = true := SeqAt.eqv_refl_plain _ rfl
  rw [e] at z
  exact z
theorem y_keysS {g : Gx} {Γ : Gm} {e : Expr} {pos p : Pos} {β : Type} {r : β → Pr} {L : List (Str × β)} (b : Bi g.X.mg) (h : JE g e Γ (rDP (dSt r L))) (hg : Gl g.X "list" := by rfl) (he : starEach [e] g.X.env = (false, eval e g.X.env) :: starEach [] g.X.env := by rfl) (hcm : g.X.calm = true := by rfl) : JO g (.Call (.Name "list" p) [e] [] pos) Γ (oL ((L.map (·.1)).map rS)) := by
  have z := y_keysL (pos := pos) (p := p) b h hg he hcm
  have e2 : ((dSt r L).map (·.1)).map (fun z => rV (kV z)) = (L.map (·.1)).map rS := by rw [keysS, List.map_map]; rfl
  rw [e2] at z
  exact z
theorem fill_fill (f g : Str → Tm) : ∀ t : Tm, (t.fill f).fill g = t.fill fun s => (f s).fill g := Tm.ind (fun s => by rw [Tm.fill, Tm.fill]) fun b n ps ih => by
  rw [Tm.fill, Tm.fill, Tm.fill, Tm.fills_map, Tm.fills_map, Tm.fills_map, List.map_map]
  congr 1
  exact List.map_congr_left fun p hp => ih p hp
theorem getT_none {F : FlT} {s : Str} (h : s ∉ F.map (·.1)) : getT F s = .lf s := by unfold getT; rw [lookup_none' h]; rfl
section
variable {sm : List (Str × Str)} {F H J : FlT}
/-- no nought is filled -/
def NoN (sm : List (Str × Str)) (F : FlT) : Prop := ∀ n o, sm.lookup n = some o → getT F o = .lf o
theorem NoN.fl (h : NoN sm F) : ∀ n o, sm.lookup n = some o → (getT F o).flat sm = .lf o := fun n o e => by rw [h n o e, Tm.flat]
def furT (sm : List (Str × Str)) (F H : FlT) : FlT := (furF sm F H).map fun p => (p.1, p.2.tm)
def furV (sm : List (Str × Str)) (F H : FlT) : Str → Fm := fun s => ((getT F s).fill (getT H)).flat sm
theorem fur_get (h1 : (F.map (·.1)).Nodup) (h2 : (H.map (·.1)).Nodup) (ho : NoN sm H) (s : Str) : (getT (furT sm F H) s).flat sm = furV sm F H s := by
  unfold furT
  rw [getT_tm, (fur_lk h1 h2 ho.fl).get s]
  exact Fm.flat_tm sm _ (Tm.flat_nf sm _)
/-- filled by the one, then by the other -/
theorem twice (ho : NoN sm H) (t : Tm) : ((((t.fill (getT F)).flat sm).tm).fill (getT H)).flat sm = (t.fill fun s => (getT F s).fill (getT H)).flat sm := by
  rw [← Fm.fill_flat (f := fun s => (getT H s).flat sm) (fun s => rfl) ho.fl, Fm.flat_tm sm _ (Tm.flat_nf sm _), Fm.fill_flat (f := fun s => (getT H s).flat sm) (g := getT H) (fun s => rfl) ho.fl, fill_fill]
theorem by_fur (h1 : (F.map (·.1)).Nodup) (h2 : (H.map (·.1)).Nodup) (h3 : NoN sm F) (ho : NoN sm H) (t : Tm) : (t.fill (getT (furT sm F H))).flat sm = (t.fill fun s => (getT F s).fill (getT H)).flat sm := by
  have no : ∀ n o, sm.lookup n = some o → furV sm F H o = .lf o := fun n o e => by unfold furV; rw [h3 n o e, Tm.fill, ho n o e, Tm.flat]
  rw [← Fm.fill_flat (f := furV sm F H) (fun s => (fur_get h1 h2 ho s).symm) no, ← Fm.fill_flat (f := furV sm F H) (g := fun s => (getT F s).fill (getT H)) (fun s => rfl) no]
theorem fur_assoc (h1 : (F.map (·.1)).Nodup) (h2 : (H.map (·.1)).Nodup) (h4 : (J.map (·.1)).Nodup) (n2 : NoN sm H) (n3 : NoN sm J) : furV sm (furT sm F H) J = furV sm F (furT sm H J) := funext fun s => by
  unfold furV
  rw [← Fm.fill_flat (f := fun s => (getT J s).flat sm) (g := getT J) (fun s => rfl) n3.fl, fur_get h1 h2 n2]
  unfold furV
  rw [Fm.fill_flat (f := fun s => (getT J s).flat sm) (g := getT J) (fun s => rfl) n3.fl, fill_fill, by_fur h2 h4 n2 n3]
theorem fur_end : furV sm F [] = fun s => (getT F s).flat sm := funext fun s => fill_none sm _
theorem fur_beg : furV sm [] F = fun s => (getT F s).flat sm := funext fun s => by unfold furV; rw [getT_none (F := []) (by simp), Tm.fill]
end
end G
set_option Elab.async false
set_option linter.all false
set_option maxRecDepth 100000
set_option maxHeartbeats 4000000
/-! str of an int; texts in a list or a tuple: in, tuple(..), repr; texts known by words -/
namespace G
open PySem PySem.Spec PySem.W PyProof.Rows L2
section
variable {g : Gx} {Γ : Gm} {P Q R : Pr} {e e1 e2 : Expr} {pos : Pos}
abbrev iS (i : Int) : Str := ((toString i : String) : Str)
theorem x_strI {i : Int} {p : Pos} (b : Bi g.X.mg) (hi : i.natAbs.log2 < 1920) (h : JE g e Γ (rI i)) (hg : Gl g.X "str" := by rfl) (he : starEach [e] g.X.env = (false, eval e g.X.env) :: starEach [] g.X.env := by rfl) : JE g (.Call (.Name "str" p) [e] [] pos) Γ (rS (iS i)) :=
  x_cty (r := fun xs H Q => ∃ i, xs = [.int i] ∧ i.natAbs.log2 < 1920 ∧ Q (.str (toString i)) H) b.str (fun _ => call_str_int) bo_str
    (fun B H vs K k f c => by
      obtain ⟨v, rfl, e⟩ := f.one
      cases e
      exact ⟨i, rfl, hi, c _ B H (Stp.refl k) rfl⟩) (a_cons h a_nil he) hg (by decide) (by decide) he rfl
theorem x_strIX {φ : Int → Prop} {p : Pos} (b : Bi g.X.mg) (hi : ∀ i, φ i → i.natAbs.log2 < 1920) (h : JE g e Γ (rIx φ)) (hg : Gl g.X "str" := by rfl) (he : starEach [e] g.X.env = (false, eval e g.X.env) :: starEach [] g.X.env := by rfl) : JE g (.Call (.Name "str" p) [e] [] pos) Γ (Pr.exs φ fun i => rS (iS i)) :=
  x_cty (r := fun xs H Q => ∃ i, xs = [.int i] ∧ i.natAbs.log2 < 1920 ∧ Q (.str (toString i)) H) b.str (fun _ => call_str_int) bo_str
    (fun B H vs K k f c => by
      obtain ⟨v, rfl, i, pi, e⟩ := f.one
      cases e
      exact ⟨i, rfl, hi i pi, c _ B H (Stp.refl k) ⟨i, pi, rfl⟩⟩) (a_cons h a_nil he) hg (by decide) (by decide) he rfl
theorem log_small {i : Int} (h1 : 0 ≤ i) (h2 : i ≤ 1000) : i.natAbs.log2 < 1920 := by
  obtain ⟨n, rfl⟩ : ∃ n : Nat, i = (n : Int) := ⟨i.toNat, by omega⟩
  have h : n ≤ 1000 := by omega
  show n.log2 < 1920
  by_cases e : n = 0
  · subst e; decide
  · have := (Nat.log2_lt e (k := 10)).mpr (by omega)
    omega
theorem o_inTextsQ {X : Cx} {t : Bool} {x : Str} {ys : List Str} (neg : Bool) : Op2 X (rIn X.K neg) (rS x) (rQ X.K t (ys.map rS)) (rB (if neg then !decide (x ∈ ys) else decide (x ∈ ys))) := by
  cases t with
  | true => exact o_inTextsT neg
  | false => exact o_inTexts neg
theorem t_inTextsQ {t : Bool} {x : Str} {ys : List Str} (h1 : JE g e1 Γ (rS x)) (h2 : JE g e2 Γ (rQ g.X.K t (ys.map rS))) (hm : behindInMarks .In e2 = false := by rfl) : JT g (.Compare e1 [.In] [e2] pos) Γ (decide (x ∈ ys)) := x_cmpT op_in_seq (o_inTextsQ false) h1 h2 hm
theorem t_notInTextsQ {t : Bool} {x : Str} {ys : List Str} (h1 : JE g e1 Γ (rS x)) (h2 : JE g e2 Γ (rQ g.X.K t (ys.map rS))) (hm : behindInMarks .NotIn e2 = false := by rfl) : JT g (.Compare e1 [.NotIn] [e2] pos) Γ (!decide (x ∈ ys)) := x_cmpT op_notIn_seq (o_inTextsQ true) h1 h2 hm
theorem x_tupQ {t : Bool} {rs : List Pr} {p : Pos} (b : Bi g.X.mg) (h : JE g e Γ (rQ g.X.K t rs)) (hg : Gl g.X "tuple" := by rfl) (he : starEach [e] g.X.env = (false, eval e g.X.env) :: starEach [] g.X.env := by rfl) : JE g (.Call (.Name "tuple" p) [e] [] pos) Γ (rQ g.X.K true rs) := by
  cases t with
  | true => exact x_tupT b.tuple h hg he
  | false => exact x_tupL b.tuple h hg he
/-! ### repr -/
def qD (t : Bool) (ys : List Str) : PyData := if t then .tuple (ys.map .str) else .list (ys.map .str)
theorem strs_fit {ys : List Str} (h : ∀ y ∈ ys, okS y = true) : PyData.showableAll (ys.map PyData.str) = true ∧ PyData.leavesShortAll 13 (ys.map PyData.str) = true ∧ PyData.weightAll (ys.map PyData.str) ≤ 110 * ys.length ∧ PyData.depthAll (ys.map PyData.str) ≤ 1 := by
  induction ys with
  | nil => refine ⟨by rw [List.map_nil, PyData.showableAll], by rw [List.map_nil, PyData.leavesShortAll], by rw [List.map_nil, PyData.weightAll]; exact Nat.zero_le _, by rw [List.map_nil, PyData.depthAll]; exact Nat.zero_le _⟩
  | cons y ys ih =>
    obtain ⟨a, c, d, z⟩ := ih fun x hx => h x (List.mem_cons_of_mem _ hx)
    have hy := h y (List.mem_cons_self ..)
    have j : (PyData.str y).leavesShort 13 = true := PyData.leavesShort_of_canLay0 13 _ (by rw [PyData.canLay0]; exact okS_lay hy) (by simp [PyData.intsShort])
    have l := okS_len hy
    have e : y.length = y.cps.size := rfl
    rw [List.map_cons, PyData.showableAll, PyData.leavesShortAll, PyData.weightAll, PyData.depthAll, a, c, j, PyData.showable, PyData.weight, PyData.depth, List.length_cons]
    exact ⟨rfl, rfl, by omega, by omega⟩
theorem qD_facts {t : Bool} {ys : List Str} (h : ∀ y ∈ ys, okS y = true) (hl : ys.length ≤ 1000) : (qD t ys).showable = true ∧ (qD t ys).shown.length ≤ sizeLine ∧ (qD t ys).depth ≤ 60 := by
  obtain ⟨a, c, d, z⟩ := strs_fit h
  have e : (2 : Nat) ^ 20 = 1048576 := by decide
  unfold qD
  cases t with
  | true =>
    rw [if_pos rfl]
    exact ⟨by rw [PyData.showable]; exact a, PyData.shown_fits (B := 13) (by decide) (by decide) (by rw [PyData.leavesShort]; exact c) (by rw [PyData.weight]; omega), by rw [PyData.depth]; omega⟩
  | false =>
    rw [if_neg (by decide)]
    exact ⟨by rw [PyData.showable]; exact a, PyData.shown_fits (B := 13) (by decide) (by decide) (by rw [PyData.leavesShort]; exact c) (by rw [PyData.weight]; omega), by rw [PyData.depth]; omega⟩
theorem x_reprQS {t : Bool} {ys : List Str} {p : Pos} (hm : g.X.mg "repr" = none) (hgd : g.X.A.guards = some []) (h : JE g e Γ (rQ g.X.K t (ys.map rS))) (hk : ∀ y ∈ ys, okS y = true) (hl : ys.length ≤ 1000) (hg : Gl g.X "repr" := by rfl) (he : starEach [e] g.X.env = (false, eval e g.X.env) :: starEach [] g.X.env := by rfl) (hcm : g.X.calm = true := by rfl) :
    JE g (.Call (.Name "repr" p) [e] [] pos) Γ (G.rS (qD t ys).shown) := by
  obtain ⟨a, c, d⟩ := qD_facts (t := t) hk hl
  have hd : HasD g.X.K (rQ g.X.K t (ys.map rS)) (qD t ys) := hd_Q (hds_map (fun _ => hd_S) ys)
  generalize qD t ys = D at *
  exact x_repr hm hgd h hd a c d hg he hcm
/-! ### texts known by words -/
theorem F2.replS {B : Bs} {ψ : Str → Prop} : ∀ {n : Nat} {vs : List V}, F2 B vs (List.replicate n (Pr.exs ψ rS)) → ∃ ns : List Str, ns.length = n ∧ (∀ x ∈ ns, ψ x) ∧ F2 B vs (ns.map rS)
  | 0, [], _ => ⟨[], rfl, by simp, trivial⟩
  | n + 1, v :: vs, f => by
    obtain ⟨j, hj, e⟩ := f.1
    obtain ⟨ns, a, b, c⟩ := F2.replS (n := n) (vs := vs) f.2
    exact ⟨j :: ns, by simp [a], by simpa [hj] using b, e, c⟩
  | 0, _ :: _, f => f.elim
  | _ + 1, [], f => f.elim
theorem texts_x {φ : Nat → Prop} {ψ : Str → Prop} (h : JO g e Γ (Oc.exs φ (fun n => oL (gv n (fun _ => true) fun _ => Pr.exs ψ rS)) 0)) :
    JE g e Γ (Pr.exs (fun ns : List Str => φ ns.length ∧ ∀ x ∈ ns, ψ x) fun ns => rLs g.X.K (ns.map rS)) :=
  h.hand fun B H v nb nh ⟨n, hn, hr⟩ => by
    have z := fz_oL (K := g.X.K) B H v nb hr
    rw [gv_const] at z
    obtain ⟨p, vs, e, a, f⟩ := z
    obtain ⟨ns, l, q, k⟩ := F2.replS f
    exact ⟨ns, ⟨by rw [l]; exact hn, q⟩, p, vs, e, a, k⟩
end
/-! ### new wishes -/
def nw (k : Nat) : Str := ("?" : Str) ++ iS ((k : Int) + 1)
def nwAll (n : Nat) : List Str := (List.range n).map nw
theorem nw_ok : ∀ k, k < 300 → okS (nw k) = true := by decide +kernel
theorem nw_nodup : (nwAll 300).Nodup := by decide +kernel
end G
set_option Elab.async false
set_option linter.all false
set_option maxRecDepth 100000
set_option maxHeartbeats 4000000
/-! new wishes, fillings kept: in plain words -/
namespace G
open PySem PySem.Spec PySem.W PyProof.Rows L2
def newI (k : Nat) (ws : List Str) : List Str := (nwAll k).filter fun s => decide (s ∉ ws)
def newW (m : Nat) (ws : List Str) : List Str := (newI 300 ws).take m
theorem nwAll_succ (k : Nat) : nwAll (k + 1) = nwAll k ++ [nw k] := by unfold nwAll; rw [List.range_succ, List.map_append]; rfl
theorem newI_in {k : Nat} {ws : List Str} (h : nw k ∈ ws) : newI (k + 1) ws = newI k ws := by
  unfold newI
  rw [nwAll_succ, List.filter_append, List.filter_cons, if_neg (by simpa using h), List.filter_nil, List.append_nil]
theorem newI_out {k : Nat} {ws : List Str} (h : nw k ∉ ws) : newI (k + 1) ws = newI k ws ++ [nw k] := by
  unfold newI
  rw [nwAll_succ, List.filter_append, List.filter_cons, if_pos (by simpa using h), List.filter_nil]
theorem filter_two {α : Type} (c : α → Bool) : ∀ l : List α, (l.filter c).length + (l.filter fun x => !c x).length = l.length
  | [] => rfl
  | x :: l => by
    have i := filter_two c l
    rw [List.filter_cons, List.filter_cons]
    cases c x <;> simp <;> omega
theorem nwAll_pre : ∀ {k : Nat}, k ≤ 300 → (nwAll k).Nodup := fun {k} h => by
  have e : nwAll k = (nwAll 300).take k := by
    unfold nwAll
    rw [← List.map_take, List.take_range, Nat.min_eq_left h]
  rw [e]; exact (List.take_sublist _ _).nodup nw_nodup
theorem newI_ge {k : Nat} {ws : List Str} (h : k ≤ 300) : k ≤ (newI k ws).length + ws.length := by
  have a := filter_two (fun s => decide (s ∈ ws)) (nwAll k)
  have c : ((nwAll k).filter fun s => decide (s ∈ ws)).length ≤ ws.length := sub_len (List.filter_sublist.nodup (nwAll_pre h)) fun x hx => of_decide_eq_true (List.mem_filter.mp hx).2
  have l : (nwAll k).length = k := by unfold nwAll; rw [List.length_map, List.length_range]
  have e : ((nwAll k).filter fun x => !decide (x ∈ ws)) = newI k ws := by unfold newI; congr 1; funext s; simp
  rw [e] at a
  omega
theorem newI_done {k m : Nat} {ws : List Str} (h : k ≤ 300) (hm : (newI k ws).length = m) : newI k ws = newW m ws := by
  have e : nwAll 300 = nwAll k ++ (nwAll 300).drop k := by
    have e : nwAll k = (nwAll 300).take k := by
      unfold nwAll
      rw [← List.map_take, List.take_range, Nat.min_eq_left h]
    rw [e, List.take_append_drop]
  unfold newW
  have e2 : newI 300 ws = newI k ws ++ ((nwAll 300).drop k).filter fun s => decide (s ∉ ws) := by
    unfold newI
    rw [← List.filter_append, ← e]
  rw [e2, ← hm, List.take_left]
theorem newI_le {k : Nat} {ws : List Str} : (newI k ws).length ≤ k := by
  unfold newI
  have := List.length_filter_le (fun s => decide (s ∉ ws)) (nwAll k)
  have l : (nwAll k).length = k := by unfold nwAll; rw [List.length_map, List.length_range]
  omega
/-! ### kept -/
def keptF (sm : List (Str × Str)) (F : FlT) (ws : List Str) : FlF := (looked sm F).filter fun p => decide (p.1 ∈ ws)
theorem keptF_all {sm : List (Str × Str)} {F : FlT} : keptF sm F (F.map (·.1)) = looked sm F := by
  unfold keptF
  exact List.filter_eq_self.mpr fun p hp => decide_eq_true (looked_keys hp)
theorem keptF_nil {sm : List (Str × Str)} {F : FlT} : keptF sm F [] = [] := by
  unfold keptF
  exact List.filter_eq_nil_iff.mpr fun p hp => by simp
theorem looked_step {sm : List (Str × Str)} {F : FlT} {j : Nat} {p : Str × Tm} (hp : F[j]? = some p) : looked sm (F.take (j + 1)) = looked sm (F.take j) ++ dropOwn [(p.1, p.2.flat sm)] := by
  have e : F.take (j + 1) = F.take j ++ [p] := by rw [List.take_succ, hp]; rfl
  unfold looked dropOwn flL
  rw [e, List.map_append, List.filter_append]; rfl
theorem looked_new {sm : List (Str × Str)} {F : FlT} {j : Nat} {p : Str × Tm} (hn : (F.map (·.1)).Nodup) (hp : F[j]? = some p) (h : p.2.flat sm ≠ .lf p.1) : putA (looked sm (F.take j)) p.1 (p.2.flat sm) = looked sm (F.take (j + 1)) := by
  have no : p.1 ∉ (looked sm (F.take j)).map (·.1) := fun hm => by
    obtain ⟨q, hq, e⟩ := List.mem_map.mp hm
    have kq := looked_keys hq
    have e2 : F.take (j + 1) = F.take j ++ [p] := by rw [List.take_succ, hp]; rfl
    have nd : ((F.take (j + 1)).map (·.1)).Nodup := ((List.take_sublist _ _).map _).nodup hn
    rw [e2, List.map_append, List.nodup_append] at nd
    exact nd.2.2 q.1 kq p.1 (by simp) e
  rw [looked_step hp]
  unfold putA dropOwn
  rw [if_neg no, List.filter_cons, if_pos (by simpa using h)]; rfl
theorem looked_old {sm : List (Str × Str)} {F : FlT} {j : Nat} {p : Str × Tm} (hp : F[j]? = some p) (h : p.2.flat sm = .lf p.1) : looked sm (F.take (j + 1)) = looked sm (F.take j) := by
  rw [looked_step hp]
  unfold dropOwn
  rw [List.filter_cons, if_neg (by simpa using h), List.filter_nil, List.append_nil]
theorem self_same {K : PySem.W.Frag} {A : FlF} (hn : (A.map (·.1)).Nodup) (hs : ∀ p ∈ A, p.2.txt = true ∧ p.2.deep ≤ 60) : SameP K (dSt (rF K) A) (dSt (rF K) A) := by
  refine ⟨rfl, fun q hq => ?_⟩
  obtain ⟨p, hp, e⟩ := List.mem_map.mp hq
  subst e
  obtain ⟨t1, t2⟩ := hs p hp
  refine ⟨rF K p.2, p.2.data, p.2.data, ?_, hd_F _, hd_F _, Fm.shaped t1 t2, Fm.shaped t1 t2, PySem.SeqAt.eqv_refl _ (Fm.lay _ t1)⟩
  show lookP (dSt (rF K) A) (Sum.inr p.1) = _
  rw [lookS, lookup_of hn hp]; rfl
end G
set_option Elab.async false
set_option linter.all false
set_option maxRecDepth 100000
set_option maxHeartbeats 4000000
/-! try .. except X as n: ; a def called in the suite with the exception; isinstance of it -/
namespace G
open PySem PySem.Spec PySem.W PyProof.Rows L2
/-- what is known of an exception of the class K that is held: its object -/
structure Held (K : Addr) (p : Addr × Obj) : Prop where
  z : Zc (.ref K) none p.2
  f : ∃ vs : Array Value, p.2.data = .fields vs ∧ vs[2]? = some .none
theorem held_of {K : Addr} {a : Addr} {oe : Obj} (h : L2N.Zn (.ref K) none oe) (hf : ∃ vs, oe.data = .fields vs) : Held K (a, oe) := by
  obtain ⟨vs, e⟩ := hf
  exact ⟨h.zc, vs, e, h.2.2 vs e⟩
section
variable {g : Gx} {Γ : Gm} {D : En} {rest : List Stmt} {pos : Pos}
/-- the ends of such a suite: behind it the name is gone -/
def En.as_ (D : En) (i : Nat) : En := { nx := fun B σ H => D.nx B (σ.set i none) H, rt := D.rt, bk := fun B σ H => D.bk B (σ.set i none) H, ct := fun B σ H => D.ct B (σ.set i none) H, anx := fun B B' σ H l h => D.anx B B' _ H l h, abk := fun B B' σ H l h => D.abk B B' _ H l h, act := fun B B' σ H l h => D.act B B' _ H l h }
theorem s_tryAs {x n : Str} {C : Addr} {body suite : List Stmt} {b0 : Stmt} {np hp : Pos} (i : Nat) (T : Addr → Prop) (Γx : Gm) (hx : g.X.mg x = some (.ref C)) (hT : ∀ c, T c → PySem.W.exmOne g.X.K (.ref c) (.ref C) = some true)
    (hb : ∀ (pn : List (Addr × Obj)) (xe : Value → Shared → Prop) (W : WX) (b' : Base), g.Wf → Stp g.b.B g.b.H b'.B b'.H → (∀ exc Γ0, (∀ c, exc c → T c) → GmLe Γ0 Γx → Lets (g.try_ pn xe W b') Γ0 exc) → JS (g.try_ pn xe W b') body Γ (D.thn g.X rest))
    (hs : ∀ c a oe pn, g.Wf → T c → Held c (a, oe) → JS (g.suite a ((a, oe) :: pn)) (b0 :: suite) (Γx.set i (some (.sh (rV (.ref a))))) ((D.thn g.X rest).as_ i))
    (hN : g.X.N[i]? = some n := by rfl) (hln : g.X.env.kindOf n = some .local := by rfl) (hst : g.X.stack = g.X.env :: g.X.outer := by rfl) (hf : g.X.env.frame = some g.X.env.locals := by rfl) (hn : noOwn Γ = true := by rfl) (hg : Gl g.X x := by rfl) (hdb : (x == ("__debug__" : Str)) = false := by decide) :
    JS g (.Try body [.ExceptHandler (some (.Name x np)) (some n) (b0 :: suite) hp] [] [] pos :: rest) Γ D :=
  js_cons fun w σ B H s => by
    refine of1 (L2N.ps_try_as (tb := fun W D σ H => ∀ pn xe, L2N.Takes (g.X.tr pn xe) W → PassesOwn (model g.X.prog g.X.w) g.X.A g.X.env xe → WS (g.X.tr pn xe) body D σ H)
      (ts := fun a cls d D σ H => ∀ oe pn, L2N.Zn cls d oe → (∃ vs, oe.data = .fields vs) → WS (g.X.suite a ((a, oe) :: pn)) (b0 :: suite) D σ H) (Wout := g.W) hst hf w.nd hN hln ⟨hg, hdb, .inl hx⟩ w.tk (fun W pn xe tk po => ⟨fun pins s σ H D I h => h pn xe tk po pins s I⟩) (fun a oe cls d pn hz hd => ⟨fun pins s σ H D I h => h oe pn hz hd pins s I⟩)) ?_
    intro pn xe tk po
    refine (hb pn xe _ ⟨B, H⟩ w s.st ?_).go ⟨tk, w.hr, po, w.nd, s.st.ok⟩ (Le.refl _) (s.rebase hn)
    intro exc Γ0 hexc hle C' d σ1 B1 H1 z st hd0
    subst hd0
    refine ⟨true, hT _ (hexc _ z), fun _ a _ oe pn hz hdt => ?_, fun q => (nomatch q)⟩
    have s1 := (st.imp hle).up s.st
    exact (hs C' a oe pn w (hexc _ z) (held_of hz hdt)).go w.suite st.st.le (s1.setS (i := i) (P := rV (.ref a)) rfl)
end
/-! ### a def called there -/
structure FnE (P : Program) (w : World) (K : PySem.W.Frag) (mg : Str → Option Value) (base : Heap) (CX : CXT) (c : Addr) (k : Nat) (f : Addr) (fd : FuncData) (ps : List Str) (sp : Addr → Sp) : Prop where
  len : ∀ a vs H Q E, sp a vs H Q E → vs.length = ps.length
  run : ∀ (A : Around) (outer : List Env) (s : Shared) (H : Hp) (args : Args) (us : List Value) (vs : List V) (Q : VK) (E : XK) (p : Addr × Obj), L2H.RoomH k A → L2H.Hot1 A p → Held c p → L2H.PinOk outer H s p → Env0 P w K mg base A outer s H → BindsTo s fd args (ps.zip us) → Vals vs us → sp p.1 vs H Q E →
    codeAny (model P w) A (.call (.ref f) args) (CR CX outer P w H s Q E) s
end G
set_option Elab.async false
set_option linter.all false
set_option maxRecDepth 100000
set_option maxHeartbeats 4000000
/-! a def called while an exception of a known class is handled; isinstance of it there -/
namespace G
open PySem PySem.Spec PySem.W PyProof.Rows L2
theorem fne_body {P : Program} {w : World} {K : PySem.W.Frag} {mg : Str → Option Value} {base : Heap} {CX : CXT} {name qual : Str} {params : Arguments} {body : List Stmt} {scope : Scope} {f c : Addr} {fd : FuncData} {N ps : List Str} {k : Nat} {sp : Addr → Sp} (F : FunD K name qual params body scope [] [] f fd) (S : FnScope N ps scope)
    (len : ∀ a ws H Q E, sp a ws H Q E → ws.length = ps.length)
    (hbody : ∀ (cdv : Value) (A : Around) (outer : List Env) (st : Shared) (H : Hp) (ws : List V) (Q : VK) (E : XK) (z : Addr × Obj), L2H.Hot1 A z → Held c z → L2H.RoomH k (A.deeper (envOfC qual scope st.heap.objs.size f cdv)) → sp z.1 ws H Q E →
      ∃ t, PSs (L2H.cxH CX P w K mg base N qual scope f cdv A outer st H E z) body t ∧ t { nx := fun _ H' => Q .non H', rt := Q } (L2.start N ws) H) : FnE P w K mg base CX c (k + 1) f fd ps sp := by
  obtain ⟨oc, od, dV, kV, doc, pm, an, cdv, ct, osl, rfl, lk, hcd, _, _⟩ := F.ex
  refine ⟨len, fun A outer st H as us ws Q E z room hot held pin en bd rv q => ?_⟩
  have wl := len _ _ _ _ _ q
  have kin : K.In st.heap := en.mod.kin.keeps fun b o e => (en.bs b o e).1
  have nol : st.heap.NoLimit := en.mod.nolimit.keeps fun b o e => (en.bs b o e).1
  have kinds : ∀ y ∈ ps.zip us, scope.names.lookup y.1 = some .local ∨ (scope.names.lookup y.1 = some .cell ∧ ((cellsFrom (st.heap.objs.size + 1) scope.names []).lookup y.1).isSome = true) := fun ⟨n, v⟩ hy =>
    (S.par n (List.of_mem_zip hy).1).imp id fun z => ⟨z, PySem.W.cellsFrom_some _ _ _ (.inl z)⟩
  refine codeAny_call_function room.depth (kin _ _ lk) rfl S.co S.gen rfl (PySem.W.codeRec_of kin hcd) (bd _ _ _ _ ?_)
  refine wpAny_newFunctionEnv_cells S.kind kinds fun env he s1 inn => ?_
  subst he
  refine ⟨nol.keeps inn.toInCall.keep, codeAny_func ?_⟩
  obtain ⟨t, ht, hq⟩ := hbody cdv A outer st H ws Q E z hot held (room.deeper _) q
  have J := L2H.inv_startH (CX := CX) (E := E) S pin en wl rv inn
  refine wpAny_mono (ht.run [] s1 (L2.start N ws) H _ J hq) (fun fl s2 z => ?_) fun _ _ z => z
  match fl, z with
  | .ret u, ⟨v, σ', H', J', r', q'⟩ => exact ⟨v, H', J'.os, J'.bare, J'.base, J'.hok, r', q'⟩
  | .next, ⟨σ', H', J', q'⟩ => exact ⟨V.non, H', J'.os, J'.bare, J'.base, J'.hok, rfl, q'⟩
  | .brk, ⟨_, _, _, q'⟩ => exact q'.elim
  | .cont, ⟨_, _, _, q'⟩ => exact q'.elim
/-- the body's context -/
abbrev gxE (U : Uv) (N : List Str) (qual : Str) (scope : Scope) (f : Addr) (cd : Value) (A : Around) (outer : List Env) (s : Shared) (b : Base) (E : XK) (z : Addr × Obj) (k : Nat) : Gx :=
  ⟨L2H.cxH (L2N.CX U.P U.w) U.P U.w U.K U.mg U.base N qual scope f cd A outer s b.H E z, b, outOf (fun _ => False) b, k⟩
theorem fne_ok {U : Uv} {name qual : Str} {params : Arguments} {body : List Stmt} {scope : Scope} {f c : Addr} {fd : FuncData} {N ps : List Str} {k : Nat} {ι : Type} {φ : Addr → ι → Cs} (F : FunD U.K name qual params body scope [] [] f fd) (S : FnScope N ps scope)
    (hl : ∀ a i, (φ a i).as.length = ps.length) (hx : ∀ a i C, ¬ (φ a i).exc C)
    (hbody : ∀ (i : ι) (cd : Value) (A : Around) (outer : List Env) (s : Shared) (b : Base) (E : XK) (z : Addr × Obj), L2H.Hot1 A z → Held c z → (φ z.1 i).pre → JS (gxE U N qual scope f cd A outer s b E z k) body (entry (φ z.1 i).as N.length) (ret b ((φ z.1 i).rs b))) : FnE U.P U.w U.K U.mg U.base (L2N.CX U.P U.w) c (k + 1) f fd ps (fun a => spT (φ a)) := by
  refine fne_body F S (fun a vs H Q E ⟨i, B, _, _, f2, _⟩ => by rw [f2.len, hl]) fun cdv A outer s H vs Q E z hot held hr ⟨i, B, pre, ok, f2, kr, kx⟩ => ?_
  have j := hbody i cdv A outer s ⟨B, H⟩ E z hot held pre
  have w : (gxE U N qual scope f cdv A outer s ⟨B, H⟩ E z k).Wf := {
    tk := L2N.Takes.imp (L2N.takes_of (X := L2H.cxH (L2N.CX U.P U.w) U.P U.w U.K U.mg U.base N qual scope f cdv A outer s H E z) rfl rfl rfl rfl) fun C d σ H' ⟨dn, cc, e, zz, B', t⟩ => zz.elim
    hr := fun h => nomatch h
    po := passes_of (X := L2H.cxH (L2N.CX U.P U.w) U.P U.w U.K U.mg U.base N qual scope f cdv A outer s H E z) rfl
    nd := S.nd
    bok := ok }
  exact ⟨_, pS, (j.run w (L2.start N vs) B H (entry_sta ok f2)).mono ⟨fun σ' H' ⟨B', t, r⟩ => kr _ B' H' t r, fun v H' ⟨B', t, r⟩ => kr v B' H' t r, fun _ _ z => z.elim, fun _ _ z => z.elim⟩⟩
/-! ### the call -/
structure FdE (U : Uv) (c : Addr) (x : Str) (k : Nat) (ps : List Str) {ι : Type} (φ : Addr → ι → Cs) : Prop where
  ok : ∃ f fd, U.mg x = some (.ref f) ∧ PySem.W.keepIn U.K (.ref f) = true ∧ Binds U.K fd ps [] ∧ FnE U.P U.w U.K U.mg U.base (L2N.CX U.P U.w) c k f fd ps (fun a => spT (φ a))
theorem fdE_ok {U : Uv} {x name qual : Str} {params : Arguments} {body : List Stmt} {scope : Scope} {f c : Addr} {fd : FuncData} {N ps : List Str} {k : Nat} {ι : Type} {φ : Addr → ι → Cs} (hx : U.mg x = some (.ref f)) (F : FunD U.K name qual params body scope [] [] f fd) (S : FnScope N ps scope)
    (hb : ∀ (kV doc pm : Value) (an : Option Addr) (cdv ct : Value) (us : List Value), us.length = ps.length → bindArgs (PySem.W.fnOf name qual params body scope .none kV doc pm an cdv ct) ⟨us, []⟩ = pure (ps.zip us))
    (hl : ∀ a i, (φ a i).as.length = ps.length) (hxc : ∀ a i C, ¬ (φ a i).exc C)
    (hbody : ∀ (i : ι) (cd : Value) (A : Around) (outer : List Env) (s : Shared) (b : Base) (E : XK) (z : Addr × Obj), L2H.Hot1 A z → Held c z → (φ z.1 i).pre → JS (gxE U N qual scope f cd A outer s b E z k) body (entry (φ z.1 i).as N.length) (ret b ((φ z.1 i).rs b))) : FdE U c x (k + 1) ps φ :=
  ⟨f, fd, hx, F.kp, F.bindsN hb, fne_ok F S hl hxc hbody⟩
section
variable {X : Cx} {k : Nat} {f c : Addr} {fd : FuncData} {ps : List Str} {sp : Addr → Sp} {x : Str} {p pos : Pos} {e : Expr} {es : List Expr} {t : TA} {z : Addr × Obj}
theorem run_fnE {pins : List (Addr × Obj)} {σ : L2.St} {H : Hp} {s : Shared} {Q : VK} {us : List Value} {vs : List V} (F : FnE X.prog X.w X.K X.mg X.base (L2N.CX X.prog X.w) c k f fd ps sp) (hr : L2H.RoomH k X.A) (hot : L2H.Hot1 X.A z) (held : Held c z) (hz : z ∈ X.pn) (hb : Binds X.K fd ps [])
    (I : Inv X pins σ H s) (r : Vals vs us) (h : sp z.1 vs H Q noE) : wpAny (model X.prog X.w) X.A (call (.ref f) us) (EP X pins σ Q) X.xe s := by
  have bn := hb s us I.kIn (by rw [List.append_nil, ← r.length]; exact F.len _ _ _ _ _ h)
  rw [List.append_nil] at bn
  obtain ⟨q1, q2, q3, q4, q5⟩ := I.pin z (List.mem_append_left _ hz)
  have pin : L2H.PinOk X.stack H s z := ⟨q1, q2, fun hm => (List.mem_cons.mp (I.stkSub z.1 hm)).elim q3 q4, q5⟩
  refine wpAny_call (codeAny_mono (F.run X.A X.stack s H ⟨us, []⟩ us vs Q noE z hr hot held pin I.env0 bn r h) fun r s' hq => ?_)
  match r, hq with
  | .error e, hq => exact passes_no pins σ H s e s' I hq
  | .ok (.ret u), hq => exact I.after hq
theorem pe_callE (F : FnE X.prog X.w X.K X.mg X.base (L2N.CX X.prog X.w) c k f fd ps sp) (hr : L2H.RoomH k X.A) (hot : L2H.Hot1 X.A z) (held : Held c z) (hz : z ∈ X.pn) (hg : Gl X x) (hm : X.mg x = some (.ref f)) (hk : PySem.W.keepIn X.K (.ref f) = true) (hb : Binds X.K fd ps [])
    (ha : PA X (e :: es) t) (hdb : (x == ("__debug__" : Str)) = false := by decide) (he : starEach (e :: es) X.env = (false, eval e X.env) :: starEach es X.env := by rfl) (hpl : (backTo pos (starEach es X.env)).any (·.1) = false := by rfl) :
    PE X (.Call (.Name x p) (e :: es) [] pos) (fun σ H Q => t σ H fun vs H' => sp z.1 vs H' Q noE) := by
  refine ⟨fun pins s σ H Q I h => ?_⟩
  refine wpAny_Call_Name_kw (ld_glob I hg hm ?_ hdb)
  refine PySem.W.callWith_K (h₀ := X.base) I.ok.mod.kin hk (thn (ha.run pos pins s σ H _ I h) fun us s1 ⟨vs, H1, I1, r, q⟩ => ⟨I1.kIn, ?_⟩) he hpl
  exact run_fnE F hr hot held hz hb I1 r q
end
section
variable {g : Gx} {Γ : Gm} {P Q R : Pr} {e e1 e2 : Expr} {pos : Pos} {U : Uv}
theorem x_callE {c : Addr} {x : Str} {k : Nat} {ps : List Str} {ι : Type} {φ : Addr → ι → Cs} {es : List Expr} {p : Pos} {z : Addr × Obj} (F : FdE U c x k ps φ) (hr : L2H.RoomH k g.X.A) (hot : L2H.Hot1 g.X.A z) (held : Held c z) (hz : z ∈ g.X.pn) (i : ι) (h : JA g (e :: es) Γ (φ z.1 i).as) (hs : ∀ b1, (φ z.1 i).rs b1 = .sh R := by exact fun _ => rfl) (hp : (φ z.1 i).pre := by trivial) (hx : ∀ C, ¬ (φ z.1 i).exc C := by exact fun _ h => h)
    (hU : UvOf U g.X := by exact ⟨rfl, rfl, rfl, rfl, rfl⟩) (hg : Gl g.X x := by rfl) (hdb : (x == ("__debug__" : Str)) = false := by decide) (he : starEach (e :: es) g.X.env = (false, eval e g.X.env) :: starEach es g.X.env := by rfl) (hpl : (backTo pos (starEach es g.X.env)).any (·.1) = false := by rfl) :
    JE g (.Call (.Name x p) (e :: es) [] pos) Γ R := by
  obtain ⟨f, fd, a, kp, cc, d⟩ := F.ok
  obtain ⟨u1, u2, u3, u4, u5⟩ := hU
  refine ⟨fun w σ B H s => ?_⟩
  refine (ofE (pe_callE (z := z) (c := c) (by rw [u1, u2, u3, u4, u5]; exact d) hr hot held hz hg (by rw [u4]; exact a) (by rw [u3]; exact kp) (by rw [u3]; exact cc) pA hdb he hpl) ?_)
  refine (h.run w σ B H s).mono fun vs H1 ⟨B1, a1, q⟩ => ?_
  exact ⟨i, B1, hp, a1.sta.st.ok, q, fun v B' H' t r => ⟨B', a1.trans (a1.sta.step t), by rw [hs] at r; exact r⟩, fun C d B' H' t z => (hx C z).elim⟩
end
/-! ### isinstance of the exception -/
theorem inst_held {X : Cx} {c : Addr} {z : Addr × Obj} (held : Held c z) (hz : z ∈ X.pn) {pins : List (Addr × Obj)} {σ : L2.St} {H : Hp} {s : Shared} (I : Inv X pins σ H s) : PySem.W.InstAt s.heap z.1 z.2 c none := by
  obtain ⟨q1, _⟩ := I.pin z (List.mem_append_left _ hz)
  obtain ⟨a, oc, od, oda, osl⟩ := z
  obtain ⟨⟨h1, h2⟩, vs, hv, _⟩ := held
  dsimp only at h1 h2 hv
  subst h1 h2 hv
  exact ⟨q1, rfl, rfl, trivial⟩
/-- isinstance(e, C): one class -/
def rIsH (K : PySem.W.Frag) (c a : Addr) : List V → Hp → VK → Prop := fun xs H Q => ∃ (C : Addr) (b : Bool), xs = [.ref a, .ref C] ∧ PySem.W.kitOne K (.ref c) (.ref C) = some b ∧ Q (.bl b) H
theorem call_isH {X : Cx} {c : Addr} {z : Addr × Obj} (C : ExcC X.K c) (held : Held c z) (hz : z ∈ X.pn) : CallR X (.builtin "isinstance") (rIsH X.K c z.1) := by
  intro pins s σ H xs us Q I r h
  obtain ⟨D, b, rfl, e, q⟩ := h
  obtain ⟨u1, u2, rfl, r1, r2⟩ := vals2 r
  obtain rfl : u1 = Value.ref z.1 := r1
  obtain rfl : u2 = Value.ref D := r2
  exact PySem.W.kia_one (PySem.W.handS_kitx_exc C.hg C.hk C.hs C.hd C.ha C.hn C.ht C.hm) I.kIn (inst_held held hz I) e (fun z => nomatch z) fun tk => ⟨.bl b, H, I.kept (t' := tk) fun _ _ z => z, rfl, q⟩
end G
set_option Elab.async false
set_option linter.all false
set_option maxRecDepth 100000
set_option maxHeartbeats 4000000
/-! isinstance(e, C) of the exception that is handled; facts of classes in the hook -/
namespace G
open PySem PySem.Spec PySem.W PyProof.Rows L2
def rIsV (K : PySem.W.Frag) (c a : Addr) : List V → Hp → VK → Prop := fun xs H Q => ∃ (D : V) (u : Value) (b : Bool), xs = [.ref a, D] ∧ ClsV D u ∧ PySem.W.kitOne K (.ref c) u = some b ∧ Q (.bl b) H
theorem call_isV {X : Cx} {c : Addr} {z : Addr × Obj} (C : ExcC X.K c) (held : Held c z) (hz : z ∈ X.pn) : CallR X (.builtin "isinstance") (rIsV X.K c z.1) := by
  intro pins s σ H xs us Q I r h
  obtain ⟨D, u, b, rfl, k, e, q⟩ := h
  obtain ⟨u1, u2, rfl, r1, r2⟩ := vals2 r
  obtain rfl : u1 = Value.ref z.1 := r1
  have e2 := k.eq r2
  subst e2
  exact PySem.W.kia_one (PySem.W.handS_kitx_exc C.hg C.hk C.hs C.hd C.ha C.hn C.ht C.hm) I.kIn (inst_held held hz I) e (fun z => nomatch z) fun tk => ⟨.bl b, H, I.tok tk, rfl, q⟩
def rIsVT (K : PySem.W.Frag) (c a : Addr) : List V → Hp → VK → Prop := fun xs H Q => ∃ (tp : Addr) (cs : List V) (ws : List Value) (b : Bool), xs = [.ref a, .ref tp] ∧ H tp = some (.tup cs) ∧ Paired ClsV cs ws ∧ PySem.W.kitAny K (.ref c) ws = some b ∧ Q (.bl b) H
theorem call_isVT {X : Cx} {c : Addr} {z : Addr × Obj} (C : ExcC X.K c) (held : Held c z) (hz : z ∈ X.pn) : CallR X (.builtin "isinstance") (rIsVT X.K c z.1) := by
  intro pins s σ H xs us Q I r h
  obtain ⟨tp, cs, ws, b, rfl, hT, k, e, q⟩ := h
  obtain ⟨u1, u2, rfl, r1, r2⟩ := vals2 r
  obtain rfl : u1 = Value.ref z.1 := r1
  obtain rfl : u2 = Value.ref tp := r2
  obtain ⟨_, its, rv, o, h1, h2, n, h3⟩ := (show ObjOk X.prog X.w H s.heap tp (.tup cs) from I.hok tp _ hT)
  have e3 := ClsV.all k rv
  subst e3
  obtain ⟨oc, od, dt, sl⟩ := o
  simp only at h2 h3
  subst h2 h3
  exact PySem.W.kia_tup (PySem.W.handS_kitx_exc C.hg C.hk C.hs C.hd C.ha C.hn C.ht C.hm) I.kIn (inst_held held hz I) h1 e (fun z => nomatch z) fun tk => ⟨.bl b, H, I.tok tk, rfl, q⟩
section
variable {g : Gx} {Γ : Gm} {P Q R : Pr} {e e1 e2 : Expr} {pos : Pos} {c : Addr} {z : Addr × Obj} {bb : Bool}
theorem x_isH {D : Addr} {y : Str} {p p' : Pos} (b : Bi g.X.mg) (C : ExcC g.X.K c) (held : Held c z) (hz : z ∈ g.X.pn) (hy : g.X.mg y = some (.ref D)) (hk : PySem.W.kitOne g.X.K (.ref c) (.ref D) = some bb) (h : JE g e Γ (rV (.ref z.1))) (hg : Gl g.X "isinstance" := by rfl) (hg' : Gl g.X y := by rfl) (hdb : (y == ("__debug__" : Str)) = false := by decide)
    (hs : starEach [e, .Name y p'] g.X.env = (false, eval e g.X.env) :: starEach [.Name y p'] g.X.env := by rfl) (hs2 : starEach [.Name y p'] g.X.env = (false, eval (.Name y p') g.X.env) :: starEach [] g.X.env := by rfl) (hpl : (backTo pos (starEach [.Name y p'] g.X.env)).any (·.1) = false := by rfl) :
    JE g (.Call (.Name "isinstance" p) [e, .Name y p'] [] pos) Γ (rB bb) :=
  x_cb (r := rIsV g.X.K c z.1) (Ps := [rV (.ref z.1), rV (.ref D)]) b.isi (fun _ => call_isV C held hz) bo_isi (fun B H vs K k f q => by
    obtain ⟨v, u, rfl, h1, h2⟩ := f.two
    cases h1
    cases h2
    exact ⟨.ref D, .ref D, bb, rfl, .own D, hk, q _ B H (Stp.refl k) rfl⟩) (a_cons h (a_cons (x_c (pe_glob hg' hy rfl hdb)) a_nil hs2) hs) hg (by decide) (by decide) hs hpl
theorem x_isHV {p p' : Pos} (b : Bi g.X.mg) (C : ExcC g.X.K c) (held : Held c z) (hz : z ∈ g.X.pn) (hy : g.X.mg "ValueError" = none) (hk : PySem.W.kitOne g.X.K (.ref c) (.type "ValueError") = some bb) (h : JE g e Γ (rV (.ref z.1))) (hg : Gl g.X "isinstance" := by rfl) (hg' : Gl g.X "ValueError" := by rfl)
    (hs : starEach [e, .Name "ValueError" p'] g.X.env = (false, eval e g.X.env) :: starEach [.Name "ValueError" p'] g.X.env := by rfl) (hs2 : starEach [.Name "ValueError" p'] g.X.env = (false, eval (.Name "ValueError" p') g.X.env) :: starEach [] g.X.env := by rfl) (hpl : (backTo pos (starEach [.Name "ValueError" p'] g.X.env)).any (·.1) = false := by rfl) :
    JE g (.Call (.Name "isinstance" p) [e, .Name "ValueError" p'] [] pos) Γ (rB bb) :=
  x_cb (r := rIsV g.X.K c z.1) (Ps := [rV (.ref z.1), rV (.ty "ValueError")]) b.isi (fun _ => call_isV C held hz) bo_isi (fun B H vs K k f q => by
    obtain ⟨v, u, rfl, h1, h2⟩ := f.two
    cases h1
    cases h2
    exact ⟨.ty "ValueError", .type "ValueError", bb, rfl, .ty _, hk, q _ B H (Stp.refl k) rfl⟩) (a_cons h (a_cons (x_c (pe_bltn (v := .ty "ValueError") hg' hy (by decide +kernel) rfl (by decide) (by decide))) a_nil hs2) hs) hg (by decide) (by decide) hs hpl
theorem kit_none3 {K : PySem.W.Frag} {t a b c : Value} (h1 : PySem.W.kitOne K t a = some false) (h2 : PySem.W.kitOne K t b = some false) (h3 : PySem.W.kitOne K t c = some false) : PySem.W.kitAny K t [a, b, c] = some false :=
  kitAny_cons h1 (fun _ => kitAny_cons h2 (fun _ => kitAny_cons h3 (fun _ => rfl) (fun e => e)) (fun e => e)) (fun e => e)
theorem x_isH3 {D1 D2 D3 : Addr} {y1 y2 y3 : Str} {p p1 p2 p3 pt : Pos} {kk : Nat} (b : Bi g.X.mg) (C : ExcC g.X.K c) (held : Held c z) (hz : z ∈ g.X.pn) (hy1 : g.X.mg y1 = some (.ref D1)) (hy2 : g.X.mg y2 = some (.ref D2)) (hy3 : g.X.mg y3 = some (.ref D3)) (hk : PySem.W.kitAny g.X.K (.ref c) [.ref D1, .ref D2, .ref D3] = some bb) (h : JE g e Γ (rV (.ref z.1))) (hg : Gl g.X "isinstance" := by rfl) (hg1 : Gl g.X y1 := by rfl) (hg2 : Gl g.X y2 := by rfl) (hg3 : Gl g.X y3 := by rfl) (hdb1 : (y1 == ("__debug__" : Str)) = false := by decide) (hdb2 : (y2 == ("__debug__" : Str)) = false := by decide) (hdb3 : (y3 == ("__debug__" : Str)) = false := by decide)
    (hs : starEach [e, .Tuple [.Name y1 p1, .Name y2 p2, .Name y3 p3] kk pt] g.X.env = (false, eval e g.X.env) :: starEach [.Tuple [.Name y1 p1, .Name y2 p2, .Name y3 p3] kk pt] g.X.env := by rfl) :
    JE g (.Call (.Name "isinstance" p) [e, .Tuple [.Name y1 p1, .Name y2 p2, .Name y3 p3] kk pt] [] pos) Γ (rB bb) :=
  ⟨fun w σ B H s => ofE (pe_callB (call_isVT C held hz) hg b.isi bo_isi (pa_cons pE (pa_cons (pe_tup (pa_cons (pe_glob (v := .ref D1) hg1 hy1 rfl hdb1) (pa_cons (pe_glob (v := .ref D2) hg2 hy2 rfl hdb2) (pa_cons (pe_glob (v := .ref D3) hg3 hy3 rfl hdb3) pa_nil)))) pa_nil) hs) (by decide) (by decide) hs rfl) ((h.run w σ B H s).mono fun v H1 ⟨B1, a1, p1⟩ => by
    refine ⟨(by show 3 ≤ sizeLine; decide), fun q hq => ?_⟩
    have a2 := a1.sta.lay (u := .tup [.ref D1, .ref D2, .ref D3]) hq
    cases p1
    exact ⟨q, [.ref D1, .ref D2, .ref D3], [.ref D1, .ref D2, .ref D3], bb, rfl, upd_same, .cons (.own D1) (.cons (.own D2) (.cons (.own D3) .nil)), hk, _, a1.trans a2, rfl⟩)⟩
end
/-! ### facts of classes -/
def ecB (K : PySem.W.Frag) (c : Addr) : Bool :=
  decide (PySem.W.findIn K (.ref c) "__getattribute__" = some (some (.builtin "BaseException.__getattribute__"))) && (decide (PySem.W.findIn K (.ref c) "__getattr__" = some none) && (decide (PySem.W.subIn K (.ref c) (.type "BaseException") = some true) && (PySem.W.hasDictIn K c && (decide (PySem.W.findIn K (.ref c) "__class__" = some (some (.builtin "object.__class__"))) && (decide (PySem.W.specialIn K (.builtin "object.__class__") "__get__" = some (some (.builtin "getset_descriptor.__get__"))) && (decide (PySem.W.takesIn K (.builtin "object.__class__") = some true) && decide (PySem.W.mroIn K c (.type "object") = some true)))))))
theorem ecB_ok {K : PySem.W.Frag} {c : Addr} (h : ecB K c = true) : ExcC K c := by
  unfold ecB at h
  simp only [Bool.and_eq_true, decide_eq_true_iff] at h
  obtain ⟨h1, h2, h3, h4, h5, h6, h7, h8⟩ := h
  exact ⟨h1, h2, h3, h4, h5, h6, h7, h8⟩
inductive Fx where
  | ec (x : Str)
  | is (x y : Str) (b : Bool)
  | isT (x : Str) (T : String) (b : Bool)
def Fx.ok (K : PySem.W.Frag) : Fx → Bool
  | .ec x => ecB K (He.ga K x)
  | .is x y b => decide (PySem.W.kitOne K (.ref (He.ga K x)) (.ref (He.ga K y)) = some b)
  | .isT x T b => decide (PySem.W.kitOne K (.ref (He.ga K x)) (.type T) = some b)
def obsW (fa : List He.Fa) (fn : List He.DefD) (tx : List Fx) (K : PySem.W.Frag) : AlY := (He.obsD fa fn K, tx.all fun t => t.ok K)
def obsWG (n : Nat) (fa : List He.Fa) (fn : List He.DefD) (tx : List Fx) (g : Addr → Option Obj) : AlY := obsW fa fn tx (He.frG g (He.asD g n))
def SaysW (fa : List He.Fa) (fn : List He.DefD) (tx : List Fx) (K : PySem.W.Frag) : Prop := obsW fa fn tx K = (He.valD fn, true)
def hookW (n : Nat) (fa : List He.Fa) (fn : List He.DefD) (tx : List Fx) : PySem.W.Hook where
  α := AlY
  obs := fun s => obsWG n fa fn tx s.heap.get?
  val := fun _ => (He.valD fn, true)
  says := fun _ h => ∃ K : PySem.W.Frag, K.In h ∧ SaysW fa fn tx K
  of := fun _ _ e => ⟨_, He.frG_in, e⟩
  keeps := fun _ _ _ ⟨K, hK, c⟩ k => ⟨K, PySem.W.Frag.In.keeps hK k, c⟩
theorem obsWG_eq {n : Nat} {fa : List He.Fa} {fn : List He.DefD} {tx : List Fx} {g : Addr → Option Obj} {s : Shared} (h : ∀ a, g a = s.heap.get? a) : obsWG n fa fn tx g = (hookW n fa fn tx).obs s := by
  have e : g = s.heap.get? := funext h
  rw [e] <;> rfl
section
variable {fa : List He.Fa} {fn : List He.DefD} {tx : List Fx} {K : PySem.W.Frag}
theorem SaysW.d (c : SaysW fa fn tx K) : He.SaysD fa fn K := congrArg (fun z : AlY => z.1) c
theorem SaysW.b (c : SaysW fa fn tx K) : (tx.all fun t => t.ok K) = true := congrArg (fun z : AlY => z.2) c
theorem SaysW.at_ (c : SaysW fa fn tx K) (i : Nat) {t : Fx} (h : tx[i]? = some t := by rfl) : t.ok K = true := List.all_eq_true.mp c.b t (List.mem_of_getElem? h)
end
end G
set_option Elab.async false
set_option linter.all false
set_option maxRecDepth 100000
set_option maxHeartbeats 4000000
/-! ints less ints known by words; a list as often as words say; a slice of a list known by words; a dict display of ints -/
namespace G
open PySem PySem.Spec PySem.W PyProof.Rows L2
section
variable {g : Gx} {Γ : Gm} {P Q R : Pr} {e e1 e2 : Expr} {pos p2 : Pos} {rs : List Pr}
theorem x_subx {φ ψ : Int → Prop} (h1 : JE g e1 Γ (rIx φ)) (h2 : JE g e2 Γ (rIx ψ)) : JE g (.BinOp e1 .Sub e2 pos) Γ (rIx fun k => ∃ i j, φ i ∧ ψ j ∧ k = i - j) := x_op op_sub o_I0x h1 h2
theorem x_repLX {φ : Int → Prop} (hφ : ∀ k, φ k → 0 ≤ k ∧ k < 2 ^ 63 ∧ rs.length * k.toNat ≤ sizeLine) (h1 : JE g e1 Γ (rLs g.X.K rs)) (h2 : JE g e2 Γ (rIx φ)) : JE g (.BinOp e1 .Mult e2 pos) Γ (Pr.exs φ fun k => rLs g.X.K (List.replicate k.toNat rs).flatten) :=
  ⟨fun w σ B H s => ofE (pe_op op_rep pE pE) ((h1.run w σ B H s).mono fun v H1 ⟨B1, a1, p, vs, e, a, f⟩ => (h2.run w σ B1 H1 a1.sta).mono fun u H2 ⟨B2, a2, k, pk, e2⟩ => by
    have z := a.mono (K := g.X.K) a2.le
    obtain ⟨k0, k1, k2⟩ := hφ k pk
    refine ⟨p, k, vs, e, e2, z.at_ a2.sta.st.ok, by omega, k1, by rw [f.len]; exact k2, fun q hq => ?_⟩
    have rep : ∀ n : Nat, F2 B2 (List.replicate n vs).flatten (List.replicate n rs).flatten := fun n => by
      induction n with
      | zero => exact trivial
      | succ n ih =>
        rw [List.replicate_succ, List.replicate_succ, List.flatten_cons, List.flatten_cons]
        exact (f.mono a2.le).append ih
    exact ⟨_, (a1.trans a2).trans (a2.sta.lay hq), k, pk, q, _, rfl, put_same, (rep _).mono (Le.put (a2.sta.st.ok.none hq))⟩)⟩
theorem x_slTo {ι : Type} {φ : ι → Prop} {f : ι → List Pr} {k : Nat} {hi : Expr} (h : JE g e Γ (Pr.exs φ fun a => rLs g.X.K (f a))) (hh : JE g hi Γ (rI (k : Int))) : JE g (.Subscript e (.Slice none (some hi) none p2) pos) Γ (Pr.exs φ fun a => rLs g.X.K ((f a).take k)) :=
  ⟨fun w σ B H s => ofE (pe_slice sl_list pE po_none (po_some pE)) ((h.run w σ B H s).mono fun v H1 ⟨B1, a1, x, px, p, vs, e, a, f1⟩ => by
    refine (hh.run w σ B1 H1 a1.sta).mono fun u H2 ⟨B2, a2, eu⟩ => ?_
    refine ⟨(k : Int), eu, p, vs, e, (a.mono a2.le).sq a2.sta.st.ok, fun q hq => ?_⟩
    have a12 := a1.trans a2
    refine ⟨_, a12.trans (a2.sta.lay hq), x, px, q, _, rfl, put_same, ?_⟩
    have f2 := (f1.mono a2.le).cut none (some (k : Int))
    rw [cutTake] at f2
    exact f2.mono (Le.put (a2.sta.st.ok.none hq)))⟩
theorem ps_I {ks : List (Option Expr)} {vs : List Expr} {kvs : List (L2.Key × V)} {a c : Int} {j j2 : Nat} {p p2 : Pos} (h : JPs g pos ks vs kvs) : JPs g pos (some (.Constant (.int a) j p) :: ks) (.Constant (.int c) j2 p2 :: vs) ((Sum.inl a, .int c) :: kvs) := by
  obtain ⟨trs, hp, hq⟩ := h
  exact ⟨_, pps_cons pe_int pe_int hp, fun σ H Q q => hq σ H _ q⟩
end
end G
set_option Elab.async false
set_option linter.all false
set_option maxRecDepth 100000
set_option maxHeartbeats 4000000
namespace K46
open PySem L2 G
def top (i : Nat) : Stmt := PySem.Challenge.pw_likefill_k46_counts_refused.main.body.getD i (.Pass ⟨0, 0, 0, 0⟩)
abbrev s_is_whole : Stmt := top 10
abbrev s_is_counts : Stmt := top 11
abbrev s_want_equation : Stmt := top 12
abbrev s_want_row : Stmt := top 13
abbrev s_difference : Stmt := top 14
abbrev s_is_under : Stmt := top 15
abbrev s_is_over_some : Stmt := top 16
abbrev s_holds : Stmt := top 17
abbrev s_with_one : Stmt := top 18
abbrev s_grown : Stmt := top 19
abbrev s_next_rows : Stmt := top 20
abbrev s_least_from : Stmt := top 21
abbrev s_pure_rows : Stmt := top 22
abbrev s_least_of : Stmt := top 23
abbrev s_least_rows : Stmt := top 24
abbrev s_times_in : Stmt := top 25
abbrev s_made_of : Stmt := top 26
abbrev s_want_shares : Stmt := top 29
abbrev s_with_next : Stmt := top 30
abbrev s_shares : Stmt := top 31
abbrev s_Lat : Stmt := top 33
abbrev s_Lpot : Stmt := top 34
abbrev s_Ltake : Stmt := top 35
abbrev s_Lcounts : Stmt := top 36
abbrev s_Lthing : Stmt := top 37
abbrev s_Lbad_count : Stmt := top 38
abbrev s_Lput : Stmt := top 39
abbrev s_Lbad_counts : Stmt := top 40
abbrev s_Lbad_sides : Stmt := top 41
abbrev s_Lbad_row : Stmt := top 42
abbrev s_Lkinds : Stmt := top 43
abbrev s_Lof_rows : Stmt := top 44
abbrev s_Lof_shares : Stmt := top 45
abbrev s_law : Stmt := top 46
abbrev FnP (U : Uv) (x : Str) (st : Stmt) (f : Addr) (fd : FuncData) : Prop := FunD U.K x x (defArgs st) (defBody st) (defScope st) [] [] f fd

section
variable {U : Uv}
abbrev Cst (U : Uv) (x : Str) (v : V) : Prop := ∃ u, U.mg x = some u ∧ RelV v u
/-! ### things of many kinds -/
inductive At where
  | i (n : Int)
  | s (x : Str)
  | non
  | b (t : Bool)
  | d0
  | d1
def rA : At → Pr
  | .i n => G.rI n
  | .s x => rS x
  | .non => rN
  | .b t => rB t
  | .d0 => rDP []
  | .d1 => rDP [(Sum.inl 1, G.rI 2)]
inductive El where
  | a (x : At)
  | q (t : Bool) (ns : List Int)
def rE (K : PySem.W.Frag) : El → Pr
  | .a x => rA x
  | .q t ns => rQ K t (ns.map G.rI)
inductive Sd where
  | a (x : At)
  | q (t : Bool) (es : List El)
def rSd (K : PySem.W.Frag) : Sd → Pr
  | .a x => rA x
  | .q t es => rQ K t (es.map (rE K))
def At.ty : At → String
  | .i _ => "int"
  | .s _ => "str"
  | .non => "NoneType"
  | .b _ => "bool"
  | .d0 => "dict"
  | .d1 => "dict"
def El.ty : El → String
  | .a x => x.ty
  | .q t _ => if t then "tuple" else "list"
theorem ty_A {K : PySem.W.Frag} : ∀ x : At, TyP K (rA x) x.ty
  | .i _ => ty_I
  | .s _ => ty_S
  | .non => ty_N
  | .b _ => ty_B
  | .d0 => ty_D
  | .d1 => ty_D
theorem ty_E {K : PySem.W.Frag} : ∀ x : El, TyP K (rE K x) x.ty
  | .a x => ty_A x
  | .q t ns => ty_Q
def At.isI : At → Bool
  | .i _ => true
  | .b _ => true
  | _ => false
def At.isB : At → Bool
  | .b _ => true
  | _ => false
def El.isI : El → Bool
  | .a x => x.isI
  | .q _ _ => false
def El.isB : El → Bool
  | .a x => x.isB
  | .q _ _ => false
theorem k_i : ∀ x : El, kitB x.ty "int" = some x.isI
  | .a (.i _) => k_int_int
  | .a (.s _) => k_str_int
  | .a .non => k_NoneType_int
  | .a (.b _) => k_bool_int
  | .a .d0 => k_dict_int
  | .a .d1 => k_dict_int
  | .q true _ => k_tuple_int
  | .q false _ => k_list_int
theorem k_b : ∀ x : El, kitB x.ty "bool" = some x.isB
  | .a (.i _) => k_int_bool
  | .a (.s _) => k_str_bool
  | .a .non => k_NoneType_bool
  | .a (.b _) => k_bool_bool
  | .a .d0 => k_dict_bool
  | .a .d1 => k_dict_bool
  | .q true _ => k_tuple_bool
  | .q false _ => k_list_bool
theorem k_l : ∀ x : At, kitB x.ty "list" = some false
  | .i _ => k_int_list
  | .s _ => k_str_list
  | .non => k_NoneType_list
  | .b _ => k_bool_list
  | .d0 => k_dict_list
  | .d1 => k_dict_list
theorem k_t : ∀ x : At, kitB x.ty "tuple" = some false
  | .i _ => k_int_tuple
  | .s _ => k_str_tuple
  | .non => k_NoneType_tuple
  | .b _ => k_bool_tuple
  | .d0 => k_dict_tuple
  | .d1 => k_dict_tuple
def El.whole : El → Option Int
  | .a (.i n) => some n
  | _ => none
def El.cnt (e : El) : Bool := match e.whole with
  | some n => decide (1 ≤ n) && decide (n ≤ 4)
  | none => false
def El.nn (e : El) : Bool := match e.whole with
  | some n => decide (n ≥ 0)
  | none => false
def Sd.cnt : Sd → Bool
  | .a _ => false
  | .q _ es => decide (es.length ≤ 4) && es.all El.cnt
def Sd.len : Sd → Nat
  | .a _ => 0
  | .q _ es => es.length
/-- a row of so many numbers -/
def Sd.row (n : Nat) : Sd → Bool
  | .a _ => false
  | .q _ es => decide (es.length = n) && es.all El.nn
def eqOk (z : Sd × Sd) : Bool := z.1.cnt && (z.2.cnt && !decide (z.1.len + z.2.len = 0))
/-! ### the program's own -/
def c_whole (K : PySem.W.Frag) : El → Cs := fun e => { as := [rE K e], rs := fun _ => .sh (rB e.whole.isSome) }
theorem f_whole {f : Addr} {fd : FuncData} (b : Bi U.mg) (hx : U.mg "is_whole" = some (.ref f)) (F : FnP U "is_whole" s_is_whole f fd) : Fd U "is_whole" 1 ["thing"] (c_whole U.K) := by
  refine fd_ok (N := ["thing"]) hx F ⟨rfl, rfl, rfl, by decide +kernel, rfl, by decide +kernel, by decide +kernel⟩ (fun _ _ _ _ _ _ us hl => match us, hl with | [_], _ => rfl) (fun _ => rfl) fun e cd A outer s bb E _ => ?_
  exact s_ret (x_and (x_isi b (ty_E e) b.int bo_int (k_i e) (x_var 0)) fun _ => x_one (x_not (x_isi b (ty_E e) b.bool bo_bool (k_b e) (x_var 0)))) (rt_eq (by cases e with | a x => cases x <;> rfl | q t ns => rfl))
theorem whole_rE {K : PySem.W.Frag} {e : El} {n : Int} (h : e.whole = some n) : rE K e = G.rI n := by
  cases e with
  | a x => cases x with
    | i m => cases h; rfl
    | _ => cases h
  | q t ns => cases h
theorem x_isQS {g : Gx} {Γ : Gm} {e : Expr} {p px py pt pos : Pos} {kk : Nat} (b : Bi g.X.mg) (s : Sd) (h : JE g e Γ (rSd g.X.K s)) (hg : Gl g.X "isinstance" := by rfl) (hgx : Gl g.X "list" := by rfl) (hgy : Gl g.X "tuple" := by rfl)
    (hs : starEach [e, .Tuple [.Name "list" px, .Name "tuple" py] kk pt] g.X.env = (false, eval e g.X.env) :: starEach [.Tuple [.Name "list" px, .Name "tuple" py] kk pt] g.X.env := by rfl) : JE g (.Call (.Name "isinstance" p) [e, .Tuple [.Name "list" px, .Name "tuple" py] kk pt] [] pos) Γ (rB (match s with | .a _ => false | .q _ _ => true)) := by
  cases s with
  | a x => exact x_isi2 b (ty_A x) b.list b.tuple bo_list bo_tuple (k_l x) (k_t x) h hg hgx hgy (by decide) (by decide) (by decide) (by decide) hs
  | q t es => exact x_isiQ b h hg hgx hgy hs
def c_cnt (K : PySem.W.Frag) : Sd → Cs := fun s => { as := [rSd K s], rs := fun _ => .sh (rB s.cnt), pre := s.len ≤ 1000 }
theorem f_cnt {f : Addr} {fd : FuncData} (b : Bi U.mg) (hx : U.mg "is_counts" = some (.ref f)) (F : FnP U "is_counts" s_is_counts f fd) (W : Fd U "is_whole" 1 ["thing"] (c_whole U.K))
    (M : Cst U "MOST_COUNTS" (.int 4)) (M' : Cst U "MOST_COUNT" (.int 4)) : Fd U "is_counts" 2 ["thing"] (c_cnt U.K) := by
  refine fd_ok (N := ["thing", "one"]) hx F ⟨rfl, rfl, rfl, by decide +kernel, rfl, by decide +kernel, by decide +kernel⟩ (fun _ _ _ _ _ _ us hl => match us, hl with | [_], _ => rfl) (fun _ => rfl) ?_
  intro s cd A outer s0 bb E hl
  replace hl : s.len ≤ 1000 := hl
  have sz : sizeLine = 16777216 := by decide
  cases s with
  | a x =>
    refine s_if ((w_or (d := false) (t_not (t_val (x_isQS b (.a x) (x_var 0)))) fun h => by cases h).t) (fun _ => s_ret x_bl (rt_eq rfl)) fun h => by cases h
  | q t es =>
    replace hl : es.length ≤ 1000 := hl
    refine s_if ((w_or (t_not (t_val (x_isQS b (.q t es) (x_var 0)))) fun _ => w_or1 (t_gt (x_lenQ (rs := es.map (rE U.K)) b (x_var 0)) (x_glob M))).t) (fun h => ?_) fun h => s_then ?_
    · refine s_ret x_bl (rt_eq (congrArg rB ?_))
      rw [List.length_map] at h
      have : ¬ es.length ≤ 4 := by simp at h; omega
      show false = (decide (es.length ≤ 4) && es.all El.cnt)
      rw [decide_eq_false this]; rfl
    · rw [List.length_map] at h
      have h4 : es.length ≤ 4 := by simp at h; omega
      have fin : (es.filter fun _ => true).map (fun e => rB e.cnt) = (es.map El.cnt).map rB := by rw [List.filter_eq_self.mpr fun _ _ => rfl, List.map_map]; rfl
      refine s_ret (x_all (bs := es.map El.cnt) b ((y_lcM (xs := es) (r := rE U.K) [("one", 1)] (fun _ => true) (fun e => rB e.cnt) (m_Q (xs := es) (r := rE U.K) (t := t) (x_var 0)) (by omega) (fun _ _ _ _ _ x hx => g_name 1) (fun _ _ _ _ _ x hx => ts_no) (fun _ _ _ _ _ x hx _ => ?_)).fz.to (by rw [fin]))) (rt_eq (congrArg rB ?_))
      · cases hw : x.whole with
        | none => exact (x_and (d := true) (x_call W x (a_cons (x_var 1) a_nil)) fun h => by rw [hw] at h; cases h).to (by unfold El.cnt; rw [hw]; rfl)
        | some n => exact (x_and (x_call W x (a_cons (x_var 1) a_nil)) fun _ => x_one (x_chain op_le op_le o_I0 o_I0 x_int ((x_var 1).to (whole_rE hw)) (x_glob M'))).to (by unfold El.cnt; rw [hw]; rfl)
      · show (es.map El.cnt).all id = (decide (es.length ≤ 4) && es.all El.cnt)
        rw [List.all_map, decide_eq_true h4, Bool.true_and]; rfl
def c_weq (K : PySem.W.Frag) (C : Addr) : Sd × Sd → Cs := fun z => { as := [rSd K z.1, rSd K z.2], rs := fun _ => .sh (Pr.gd (eqOk z = true) rN), pre := z.1.len ≤ 1000 ∧ z.2.len ≤ 1000, exc := fun c => c = C ∧ eqOk z = false }
theorem x_lenS {g : Gx} {Γ : Gm} {e : Expr} {p pos : Pos} (b : Bi g.X.mg) {s : Sd} (hs : s.cnt = true) (h : JE g e Γ (rSd g.X.K s)) (hg : Gl g.X "len" := by rfl) (he : starEach [e] g.X.env = (false, eval e g.X.env) :: starEach [] g.X.env := by rfl) : JE g (.Call (.Name "len" p) [e] [] pos) Γ (G.rI (s.len : Int)) := by
  cases s with
  | a x => cases hs
  | q t es => exact (x_lenQ (rs := es.map (rE g.X.K)) b h hg he).to (by rw [List.length_map]; rfl)
theorem f_weq {f C : Addr} {fd : FuncData} (b : Bi U.mg) (hx : U.mg "want_equation" = some (.ref f)) (F : FnP U "want_equation" s_want_equation f fd) (W : Fd U "is_counts" 2 ["thing"] (c_cnt U.K)) (X : Xc U.K U.mg "NoCounts" C) : Fd U "want_equation" 3 ["left", "right"] (c_weq U.K C) := by
  refine fd_ok (N := ["left", "right"]) hx F ⟨rfl, rfl, rfl, by decide +kernel, rfl, by decide +kernel, by decide +kernel⟩ (fun _ _ _ _ _ _ us hl => match us, hl with | [_, _], _ => rfl) (fun _ => rfl) ?_
  rintro ⟨l, r⟩ cd A outer s0 bb E ⟨h1, h2⟩
  replace h1 : l.len ≤ 1000 := h1
  replace h2 : r.len ≤ 1000 := h2
  refine s_if (c := !eqOk (l, r)) ((w_or (d := (!r.cnt || decide (((l.len + r.len : Nat) : Int) = 0))) (t_not (t_val (x_call W l (a_cons (x_var 0) a_nil) (fun _ => rfl) h1))) fun hl => w_or (d := decide (((l.len + r.len : Nat) : Int) = 0)) (t_not (t_val (x_call W r (a_cons (x_var 1) a_nil) (fun _ => rfl) h2))) fun hr => w_or1 (t_eqI ((x_add (x_lenS b (by simpa using hl) (x_var 0)) (x_lenS b (by simpa using hr) (x_var 1))).to (congrArg G.rI (by omega))) x_int)).t.to ?_) (fun h => ?_) fun h => s_then (s_nil fun σ B H st => ⟨B, st.st, by simpa using h, rfl⟩)
  · unfold eqOk
    have e : decide (((l.len + r.len : Nat) : Int) = 0) = decide (l.len + r.len = 0) := by rw [Bool.eq_iff_iff, decide_eq_true_iff, decide_eq_true_iff]; omega
    rw [e]
    cases l.cnt <;> cases r.cnt <;> cases decide (l.len + r.len = 0) <;> rfl
  · exact s_raise X (fun C' d' σ B H e st => lets_out (exc' := fun c => c = C) (fun c hc => ⟨hc, by simpa using h⟩) C' d' σ B H e st)
def c_wrow (K : PySem.W.Frag) (C : Addr) : Sd × Sd × Sd → Cs := fun z => { as := [rSd K z.1, rSd K z.2.1, rSd K z.2.2], rs := fun _ => .sh (Pr.gd (z.2.2.row (z.1.len + z.2.1.len) = true) rN), pre := z.1.cnt = true ∧ z.2.1.cnt = true ∧ z.2.2.len ≤ 1000, exc := fun c => c = C ∧ z.2.2.row (z.1.len + z.2.1.len) = false }
theorem f_wrow {f C : Addr} {fd : FuncData} (b : Bi U.mg) (hx : U.mg "want_row" = some (.ref f)) (F : FnP U "want_row" s_want_row f fd) (W : Fd U "is_whole" 1 ["thing"] (c_whole U.K)) (X : Xc U.K U.mg "NoRow" C) : Fd U "want_row" 2 ["left", "right", "row"] (c_wrow U.K C) := by
  refine fd_ok (N := ["left", "right", "row", "one"]) hx F ⟨rfl, rfl, rfl, by decide +kernel, rfl, by decide +kernel, by decide +kernel⟩ (fun _ _ _ _ _ _ us hl => match us, hl with | [_, _, _], _ => rfl) (fun _ => rfl) ?_
  rintro ⟨l, r, s⟩ cd A outer s0 bb E ⟨h1, h2, h3⟩
  replace h1 : l.cnt = true := h1
  replace h2 : r.cnt = true := h2
  replace h3 : s.len ≤ 1000 := h3
  have sz : sizeLine = 16777216 := by decide
  cases s with
  | a x =>
    refine s_if ((w_or (d := false) (t_not (t_val (x_isQS b (.a x) (x_var 2)))) fun h => by cases h).t) (fun _ => ?_) fun h => by cases h
    exact s_raise X (fun C' d' σ B H e st => lets_out (exc' := fun c => c = C) (fun c hc => ⟨hc, rfl⟩) C' d' σ B H e st)
  | q t es =>
    replace h3 : es.length ≤ 1000 := h3
    refine s_if ((w_or (t_not (t_val (x_isQS b (.q t es) (x_var 2)))) fun _ => w_or1 (t_neI (x_lenQ (rs := es.map (rE U.K)) b (x_var 2)) ((x_add (x_lenS b h1 (x_var 0)) (x_lenS b h2 (x_var 1))).to (congrArg G.rI (by show _ = ((l.len + r.len : Nat) : Int); omega))))).t) (fun h => ?_) fun h => s_then ?_
    · refine s_raise X (fun C' d' σ B H e st => lets_out (exc' := fun c => c = C) (fun c hc => ⟨hc, ?_⟩) C' d' σ B H e st)
      rw [List.length_map] at h
      have : ¬ es.length = l.len + r.len := by simp at h; omega
      show (decide (es.length = l.len + r.len) && es.all El.nn) = false
      rw [decide_eq_false this]; rfl
    · rw [List.length_map] at h
      have h4 : es.length = l.len + r.len := by simp at h; omega
      have fin : (es.filter fun _ => true).map (fun e => rB e.nn) = (es.map El.nn).map rB := by rw [List.filter_eq_self.mpr fun _ _ => rfl, List.map_map]; rfl
      have er : (es.map El.nn).all id = (Sd.q t es).row (l.len + r.len) := by
        show _ = (decide (es.length = l.len + r.len) && es.all El.nn)
        rw [List.all_map, decide_eq_true h4, Bool.true_and]; rfl
      refine s_if (t_not (t_val (x_all (bs := es.map El.nn) b ((y_lcM (xs := es) (r := rE U.K) [("one", 3)] (fun _ => true) (fun e => rB e.nn) (m_Q (xs := es) (r := rE U.K) (t := t) (x_var 2)) (by omega) (fun _ _ _ _ _ x hx => g_name 3) (fun _ _ _ _ _ x hx => ts_no) (fun _ _ _ _ _ x hx _ => ?_)).fz.to (by rw [fin]))))) (fun h => ?_) fun h => s_then (s_nil fun σ B H st => ⟨B, st.st, by rw [er] at h; simpa using h, rfl⟩)
      · cases hw : x.whole with
        | none => exact (x_and (d := true) (x_call W x (a_cons (x_var 3) a_nil)) fun h => by rw [hw] at h; cases h).to (by unfold El.nn; rw [hw]; rfl)
        | some n => exact (x_and (x_call W x (a_cons (x_var 3) a_nil)) fun _ => x_one (x_ge ((x_var 3).to (whole_rE hw)) x_int)).to (by unfold El.nn; rw [hw]; rfl)
      · exact s_raise X (fun C' d' σ B H e st => lets_out (exc' := fun c => c = C) (fun c hc => ⟨hc, by rw [er] at h; simpa using h⟩) C' d' σ B H e st)
end

end K46
set_option Elab.async false
set_option linter.all false
set_option maxRecDepth 100000
set_option maxHeartbeats 4000000
namespace K46
open PySem L2 G
section
variable {U : Uv}
def c_at (K : PySem.W.Frag) : List Int × Nat → Cs := fun z => { as := [rScr K z.1, G.rI (z.2 : Int)], rs := fun _ => .sh (G.rI (z.1.getD z.2 0)) }
theorem f_at {f : Addr} {fd : FuncData} (b : Bi U.mg) (hx : U.mg "_law_at" = some (.ref f)) (F : FnP U "_law_at" s_Lat f fd) : Fd U "_law_at" 1 ["_law_script", "_law_k"] (c_at U.K) := by
  refine fd_ok (N := ["_law_script", "_law_k"]) hx F ⟨rfl, rfl, rfl, by decide +kernel, rfl, by decide +kernel, by decide +kernel⟩ (fun _ _ _ _ _ _ us hl => match us, hl with | [_, _], _ => rfl) (fun _ => rfl) ?_
  rintro ⟨ns, k⟩ cd A outer s bb E _
  refine s_if (t_lt (x_var 1) (x_lenScr b.len (x_var 0))) (fun h => ?_) fun h => s_then ?_
  · have h : (k : Int) < (ns.length : Int) := of_decide_eq_true h
    have hk : k < ns.length := by omega
    exact s_ret (x_ixScr (i := k) (z := ns[k]) (List.getElem?_eq_getElem hk) (x_var 0) (x_var 1)) (rt_eq (by show G.rI ns[k] = G.rI (ns.getD k 0); rw [List.getD_eq_getElem?_getD, List.getElem?_eq_getElem hk]; rfl))
  · have h : ¬ (k : Int) < (ns.length : Int) := of_decide_eq_false h
    exact s_ret x_int (rt_eq (by show G.rI 0 = G.rI (ns.getD k 0); rw [List.getD_eq_getElem?_getD, List.getElem?_eq_none (by omega)]; rfl))
abbrev p0 : Int → Prop := fun a => 0 ≤ a
abbrev p1 : Int → Prop := fun a => 0 ≤ a ∧ a < 2147483647
def c_pot : Int → Cs := fun z => { as := [G.rI z], rs := fun _ => .ow (oL [rIx p0, rIx p1]) }
theorem f_pot {f : Addr} {fd : FuncData} (b : Bi U.mg) (hx : U.mg "_law_pot" = some (.ref f)) (F : FnP U "_law_pot" s_Lpot f fd) : Fd U "_law_pot" 1 ["_law_cell"] c_pot := by
  refine fd_ok (N := ["_law_cell"]) hx F ⟨rfl, rfl, rfl, by decide +kernel, rfl, by decide +kernel, by decide +kernel⟩ (fun _ _ _ _ _ _ us hl => match us, hl with | [_], _ => rfl) (fun _ => rfl) ?_
  intro z cd A outer s bb E _
  refine s_retO (y_lst (a_cons ((x_max2 b x_int (x_sub (x_var 0) (x_pow ⟨by decide, by decide, by decide⟩ x_int x_int))).ix.iw ?_) (a_cons ((x_mod ?_ (x_add (x_mul ?_ (x_mod ?_ (x_var 0) x_int) x_int) x_int) x_int).ix.iw ?_) a_nil))) rt_ok
  · rintro i rfl
    show 0 ≤ _
    split <;> omega
  · decide
  · exact .inr ⟨by decide, by decide⟩
  · decide
  · rintro i rfl
    exact ⟨Int.emod_nonneg _ (by decide), Int.emod_lt_of_pos _ (by decide)⟩
def c_take : Int → Cs := fun z => { as := [rPot p0 p1, G.rI z], rs := fun _ => .sh (rIx fun r => 0 ≤ r ∧ r < z), pre := 1 ≤ z ∧ z < 1073741824 }
theorem f_take {f : Addr} {fd : FuncData} (b : Bi U.mg) (hx : U.mg "_law_take" = some (.ref f)) (F : FnP U "_law_take" s_Ltake f fd) : Fd U "_law_take" 1 ["_law_pot_here", "_law_many"] c_take := by
  refine fd_ok (N := ["_law_pot_here", "_law_many", "_law_digit"]) hx F ⟨rfl, rfl, rfl, by decide +kernel, rfl, by decide +kernel, by decide +kernel⟩ (fun _ _ _ _ _ _ us hl => match us, hl with | [_, _], _ => rfl) (fun _ => rfl) ?_
  intro z cd A outer s bb E hz
  obtain ⟨h1, h2⟩ := hz
  refine s_ifx (u_gt (x_pot0 (x_var 0)) x_int) ?_ (s_then ?_)
  · refine s_set 2 (x_modx (j := z) (by omega) (x_pot0 (x_var 0)) (x_var 1)) ?_
    refine G.s_pot (χ := p0) (.inl ⟨rfl, fun _ h => h⟩) (x_fdivx ⟨by omega, h2⟩ (fun i hi => Int.ediv_nonneg hi (by omega)) (x_pot0 (x_var 0)) (x_var 1)) (x_var 0) ?_
    exact s_ret (x_var 2) (rt_eq rfl)
  · refine G.s_pot (χ := p1) (.inr ⟨rfl, fun _ h => h⟩) (((x_modx (j := 2147483629) (by decide) (x_addx (x_mulx ?_ (x_pot1 (x_var 0)) x_int.ix) x_int.ix) x_int)).iw ?_) (x_var 0) ?_
    · rintro i j hi rfl
      exact .inr ⟨by decide, by decide⟩
    · rintro i ⟨q1, q2⟩
      exact ⟨q1, by omega⟩
    · refine s_ret (x_modx (j := z) (by omega) (x_fdivx (φ := fun r => 0 ≤ r ∧ r < 2147483563) (ψ := p0) ⟨by decide, by decide⟩ (fun i hi => Int.ediv_nonneg hi.1 (by decide)) (x_modx (by decide) (x_mulx ?_ (x_pot1 (x_var 0)) (x_pot1 (x_var 0))) x_int) x_int) (x_var 1)) (rt_eq rfl)
      rintro i j hi hj
      exact .inr ⟨by have := hj.1; omega, by have := hj.2; omega⟩
end

section
variable {U : Uv}
theorem x_take {g : Gx} {Γ : Gm} {e1 e2 : Expr} {pos p : Pos} {n : Int} (W : Fd U "_law_take" 1 ["_law_pot_here", "_law_many"] c_take) (h1 : JE g e1 Γ (rPot p0 p1)) (h2 : JE g e2 Γ (G.rI n)) (hn : 1 ≤ n ∧ n < 1073741824) (hk : 1 ≤ g.k := by exact Nat.le_of_ble_eq_true rfl) (hU : UvOf U g.X := by exact ⟨rfl, rfl, rfl, rfl, rfl⟩)
    (hg : Gl g.X "_law_take" := by rfl) (he : starEach [e1, e2] g.X.env = (false, eval e1 g.X.env) :: starEach [e2] g.X.env := by rfl) (he2 : starEach [e2] g.X.env = (false, eval e2 g.X.env) :: starEach [] g.X.env := by rfl) (hpl : (backTo pos (starEach [e2] g.X.env)).any (·.1) = false := by rfl) (hcm : g.X.calm = true := by rfl) :
    JE g (.Call (.Name "_law_take" p) [e1, e2] [] pos) Γ (rIx fun r => 0 ≤ r ∧ r < n) :=
  x_call W n (a_cons h1 (a_cons h2 a_nil he2) he) (fun _ => rfl) hn Lets.none hk hU hg (by decide) he hpl hcm
def Cts (ns : List Int) : Prop := ns.length ≤ 4 ∧ ∀ n ∈ ns, 1 ≤ n ∧ n ≤ 4
def ctS (ns : List Int) : Sd := .q false (ns.map fun n => .a (.i n))
theorem rSd_ct {K : PySem.W.Frag} (ns : List Int) : rLs K (ns.map G.rI) = rSd K (ctS ns) := by
  show _ = rQ K false ((ns.map fun n => El.a (.i n)).map (rE K))
  rw [List.map_map]; rfl
theorem ct_cnt {ns : List Int} (h : Cts ns) : (ctS ns).cnt = true := by
  show (decide ((ns.map fun n => El.a (.i n)).length ≤ 4) && (ns.map fun n => El.a (.i n)).all El.cnt) = true
  rw [List.length_map, decide_eq_true h.1, Bool.true_and, List.all_map, List.all_eq_true]
  intro n hn
  have := h.2 n hn
  show (decide (1 ≤ n) && decide (n ≤ 4)) = true
  rw [decide_eq_true this.1, decide_eq_true this.2]; rfl
def SdBad (s : Sd) : Prop := s.cnt = false ∧ s.len ≤ 1000
def c_counts (K : PySem.W.Frag) : Unit → Cs := fun _ => { as := [rPot p0 p1], rs := fun _ => .sh (Pr.exs Cts fun ns => rLs K (ns.map G.rI)) }
theorem f_counts {f : Addr} {fd : FuncData} (b : Bi U.mg) (hx : U.mg "_law_counts" = some (.ref f)) (F : FnP U "_law_counts" s_Lcounts f fd) (Wt : Fd U "_law_take" 1 ["_law_pot_here", "_law_many"] c_take) : Fd U "_law_counts" 2 ["_law_pot_here"] (c_counts U.K) := by
  refine fd_ok (N := ["_law_pot_here", "_law_k"]) hx F ⟨rfl, rfl, rfl, by decide +kernel, rfl, by decide +kernel, by decide +kernel⟩ (fun _ _ _ _ _ _ us hl => match us, hl with | [_], _ => rfl) (fun _ => rfl) ?_
  intro _ cd A outer s0 bb E _
  have sz : sizeLine = 16777216 := by decide
  refine s_ret (ints_x (φ := fun n => ∃ j : Int, (0 ≤ j ∧ j < 5) ∧ n = j.toNat) (ψ := fun x => 1 ≤ x ∧ x ≤ 4) (y_lcx [("_law_k", 1)] (fun _ => true) (fun _ => rIx fun x => 1 ≤ x ∧ x ≤ 4) (i_range1x (ψ := fun j => 0 ≤ j ∧ j < 5) b.range (fun j hj => ⟨by omega, by omega⟩) (x_take (n := 5) Wt (x_var 0) x_int ⟨by decide, by decide⟩)) (fun n hn => by obtain ⟨j, hj, e⟩ := hn; omega) (fun _ _ _ _ _ i => g_name 1) (by decide) (fun _ _ _ _ _ i => ts_no) (fun _ _ _ _ _ i _ => (x_addx x_int.ix (x_take (n := 4) Wt (x_var 0) x_int ⟨by decide, by decide⟩)).iw ?_) (blkOk_by (by rfl)))) (rt_imp fun B v ⟨ns, ⟨⟨j, hj, e⟩, h⟩, r⟩ => ⟨ns, ⟨by omega, h⟩, r⟩)
  rintro z ⟨a, c, rfl, hc, rfl⟩
  have hc : 0 ≤ c ∧ c < (4 : Int) := hc
  show 1 ≤ 1 + c ∧ 1 + c ≤ (4 : Int)
  omega
def c_thing : Unit → Cs := fun _ => { as := [rPot p0 p1], rs := fun _ => .sh (Pr.exs (fun _ : At => True) rA) }
theorem x_d1 {g : Gx} {Γ : Gm} {ks : List (Option Expr)} {vs : List Expr} {pos : Pos} (h : JE g (.Dict ks vs pos) Γ (rDk (mergeK [] [(Sum.inl 1, .int 2)]))) : JE g (.Dict ks vs pos) Γ (rDP [(Sum.inl 1, G.rI 2)]) :=
  h.imp fun B v ⟨d, e, hd⟩ => ⟨d, [(Sum.inl 1, .int 2)], e, hd, ⟨rfl, rfl⟩, trivial⟩
theorem f_thing {f : Addr} {fd : FuncData} (b : Bi U.mg) (hx : U.mg "_law_thing" = some (.ref f)) (F : FnP U "_law_thing" s_Lthing f fd) (Wt : Fd U "_law_take" 1 ["_law_pot_here", "_law_many"] c_take) : Fd U "_law_thing" 2 ["_law_pot_here"] c_thing := by
  refine fd_ok (N := ["_law_pot_here"]) hx F ⟨rfl, rfl, rfl, by decide +kernel, rfl, by decide +kernel, by decide +kernel⟩ (fun _ _ _ _ _ _ us hl => match us, hl with | [_], _ => rfl) (fun _ => rfl) ?_
  intro _ cd A outer s0 bb E _
  refine s_ret (x_ixLx (R := Pr.exs (fun _ : At => True) rA) (rs := [G.rI 7, rS "123", rN, rDP [], rS "", rDP [(Sum.inl 1, G.rI 2)], rB false, rB true]) (φ := fun r => 0 ≤ r ∧ r < 8) (fun j hj => ?_) (x_lst (a_cons x_int (a_cons x_str (a_cons x_non (a_cons x_dnew (a_cons x_str (a_cons (x_d1 (x_disp (ps_I ps_no))) (a_cons x_bl (a_cons x_bl a_nil))))))))) (x_take Wt (x_var 0) x_int ⟨by decide, by decide⟩)) (rt_eq rfl)
  obtain ⟨h0, h8⟩ := hj
  have : j = 0 ∨ j = 1 ∨ j = 2 ∨ j = 3 ∨ j = 4 ∨ j = 5 ∨ j = 6 ∨ j = 7 := by omega
  rcases this with e | e | e | e | e | e | e | e <;> subst e
  · exact ⟨_, rfl, fun B v h => ⟨.i 7, trivial, h⟩⟩
  · exact ⟨_, rfl, fun B v h => ⟨.s "123", trivial, h⟩⟩
  · exact ⟨_, rfl, fun B v h => ⟨.non, trivial, h⟩⟩
  · exact ⟨_, rfl, fun B v h => ⟨.d0, trivial, h⟩⟩
  · exact ⟨_, rfl, fun B v h => ⟨.s "", trivial, h⟩⟩
  · exact ⟨_, rfl, fun B v h => ⟨.d1, trivial, h⟩⟩
  · exact ⟨_, rfl, fun B v h => ⟨.b false, trivial, h⟩⟩
  · exact ⟨_, rfl, fun B v h => ⟨.b true, trivial, h⟩⟩
def ElBad (e : El) : Prop := e.cnt = false
theorem big_bad {n : Int} (h : 4 < n) : ElBad (.a (.i n)) := by
  show (decide (1 ≤ n) && decide (n ≤ 4)) = false
  rw [decide_eq_false (show ¬ n ≤ 4 by omega), Bool.and_false]
theorem big30 : (4 : Int) < 10 ^ (30 : Int).toNat := by decide +kernel
theorem pow30 : CPow 10 30 := ⟨by decide +kernel, by decide +kernel, by decide +kernel⟩
def c_badc (K : PySem.W.Frag) : Unit → Cs := fun _ => { as := [rPot p0 p1], rs := fun _ => .sh (Pr.exs ElBad (rE K)) }
theorem f_badc {f : Addr} {fd : FuncData} (b : Bi U.mg) (hx : U.mg "_law_bad_count" = some (.ref f)) (F : FnP U "_law_bad_count" s_Lbad_count f fd) (Wt : Fd U "_law_take" 1 ["_law_pot_here", "_law_many"] c_take) : Fd U "_law_bad_count" 2 ["_law_pot_here"] (c_badc U.K) := by
  refine fd_ok (N := ["_law_pot_here"]) hx F ⟨rfl, rfl, rfl, by decide +kernel, rfl, by decide +kernel, by decide +kernel⟩ (fun _ _ _ _ _ _ us hl => match us, hl with | [_], _ => rfl) (fun _ => rfl) ?_
  intro _ cd A outer s0 bb E _
  refine s_ret (x_ixLx (R := Pr.exs ElBad (rE U.K)) (rs := [G.rI 0, G.rI 5, rIx fun i => i < 0, rB true, rS "2", rN, G.rI (10 ^ (30 : Int).toNat), rLs U.K [G.rI 1]]) (φ := fun r => 0 ≤ r ∧ r < 8) (fun j hj => ?_) (x_lst (a_cons x_int (a_cons x_int (a_cons ((x_subx (x_neg x_int).ix (x_take (n := 9) Wt (x_var 0) x_int ⟨by decide, by decide⟩)).iw ?_) (a_cons x_bl (a_cons x_str (a_cons x_non (a_cons (x_pow pow30 x_int x_int) (a_cons (x_lst (a_cons x_int a_nil)) a_nil))))))))) (x_take Wt (x_var 0) x_int ⟨by decide, by decide⟩)) (rt_eq rfl)
  · obtain ⟨h0, h8⟩ := hj
    have : j = 0 ∨ j = 1 ∨ j = 2 ∨ j = 3 ∨ j = 4 ∨ j = 5 ∨ j = 6 ∨ j = 7 := by omega
    rcases this with e | e | e | e | e | e | e | e <;> subst e
    · exact ⟨_, rfl, fun B v h => ⟨.a (.i 0), rfl, h⟩⟩
    · exact ⟨_, rfl, fun B v h => ⟨.a (.i 5), rfl, h⟩⟩
    · exact ⟨_, rfl, fun B v ⟨i, hi, h⟩ => ⟨.a (.i i), by show (decide (1 ≤ i) && decide (i ≤ 4)) = false; rw [decide_eq_false (by omega)]; rfl, h⟩⟩
    · exact ⟨_, rfl, fun B v h => ⟨.a (.b true), rfl, h⟩⟩
    · exact ⟨_, rfl, fun B v h => ⟨.a (.s "2"), rfl, h⟩⟩
    · exact ⟨_, rfl, fun B v h => ⟨.a .non, rfl, h⟩⟩
    · exact ⟨_, rfl, fun B v h => ⟨.a (.i (10 ^ (30 : Int).toNat)), big_bad big30, h⟩⟩
    · exact ⟨_, rfl, fun B v h => ⟨.q false [1], rfl, h⟩⟩
  · rintro z ⟨a, c, rfl, hc, rfl⟩
    have hc : 0 ≤ c ∧ c < (9 : Int) := hc
    show -1 - c < (0 : Int)
    omega
def c_put (K : PySem.W.Frag) : List Int × El → Cs := fun z => { as := [rPot p0 p1, rLs K (z.1.map G.rI), rE K z.2], rs := fun _ => .sh (Pr.exs SdBad (rSd K)), pre := z.1.length ≤ 4 ∧ ElBad z.2 }
theorem f_put {f : Addr} {fd : FuncData} (b : Bi U.mg) (hx : U.mg "_law_put" = some (.ref f)) (F : FnP U "_law_put" s_Lput f fd) (Wt : Fd U "_law_take" 1 ["_law_pot_here", "_law_many"] c_take) : Fd U "_law_put" 2 ["_law_pot_here", "_law_row", "_law_thing_here"] (c_put U.K) := by
  refine fd_ok (N := ["_law_pot_here", "_law_row", "_law_thing_here", "_law_place"]) hx F ⟨rfl, rfl, rfl, by decide +kernel, rfl, by decide +kernel, by decide +kernel⟩ (fun _ _ _ _ _ _ us hl => match us, hl with | [_, _, _], _ => rfl) (fun _ => rfl) ?_
  rintro ⟨ns, e⟩ cd A outer s0 bb E ⟨h1, h2⟩
  replace h1 : ns.length ≤ 4 := h1
  replace h2 : e.cnt = false := h2
  have sz : sizeLine = 16777216 := by decide
  refine s_set 3 (x_take (n := ((ns.length + 1 : Nat) : Int)) Wt (x_var 0) ((x_add (x_lenL b.len (x_var 1)) x_int).to (congrArg G.rI (by rw [List.length_map]; show (ns.length : Int) + 1 = ((ns.length + 1 : Nat) : Int); omega))) ⟨by omega, by omega⟩) ?_
  refine s_exs 3 fun j hj => ?_
  obtain ⟨k, rfl⟩ : ∃ k : Nat, j = (k : Int) := ⟨j.toNat, by omega⟩
  let es : List El := (ns.take k).map (fun n => El.a (.i n)) ++ [e] ++ (ns.drop k).map (fun n => El.a (.i n))
  have el : es.length ≤ 1000 := by
    show ((ns.take k).map (fun n => El.a (.i n)) ++ [e] ++ (ns.drop k).map (fun n => El.a (.i n))).length ≤ 1000
    rw [List.length_append, List.length_append, List.length_map, List.length_map, List.length_take, List.length_drop, List.length_singleton]
    have := Nat.min_le_right k ns.length
    omega
  have bad : (Sd.q false es).cnt = false := by
    show (decide (es.length ≤ 4) && es.all El.cnt) = false
    have : es.all El.cnt = false := by
      show ((ns.take k).map (fun n => El.a (.i n)) ++ [e] ++ (ns.drop k).map (fun n => El.a (.i n))).all El.cnt = false
      rw [List.all_append, List.all_append, List.all_cons, h2]; simp
    rw [this, Bool.and_false]
  have em : es.map (rE U.K) = cutP (ns.map G.rI) none (some (k : Int)) ++ [rE U.K e] ++ cutP (ns.map G.rI) (some (k : Int)) none := by
    rw [cutTake, cutDrop, ← List.map_take, ← List.map_drop]
    show ((ns.take k).map (fun n => El.a (.i n)) ++ [e] ++ (ns.drop k).map (fun n => El.a (.i n))).map (rE U.K) = _
    rw [List.map_append, List.map_append, List.map_map, List.map_map]; rfl
  have l1 : (cutP (ns.map G.rI) none (some (k : Int))).length ≤ 4 := by rw [cutTake, List.length_take, List.length_map]; have := Nat.min_le_right k ns.length; omega
  have l2 : (cutP (ns.map G.rI) (some (k : Int)) none).length ≤ 4 := by rw [cutDrop, List.length_drop, List.length_map]; omega
  refine s_ret (x_catL (rs := cutP (ns.map G.rI) none (some (k : Int)) ++ [rE U.K e]) (qs := cutP (ns.map G.rI) (some (k : Int)) none) (by rw [List.length_append, List.length_singleton]; omega) (x_catL (rs := cutP (ns.map G.rI) none (some (k : Int))) (qs := [rE U.K e]) (by rw [List.length_singleton]; omega) (x_slL (x_var 1) .no (.at_ (x_var 3))) (x_lst (a_cons (x_var 2) a_nil))) (x_slL (x_var 1) (.at_ (x_var 3)) .no)) (rt_imp fun B v h => ⟨.q false es, ⟨bad, el⟩, ?_⟩)
  rw [← em] at h
  exact h
theorem f2_cons {B : Bs} {vs : List V} {P : Pr} {Ps : List Pr} (h : F2 B vs (P :: Ps)) : ∃ v us, vs = v :: us ∧ P.r B v ∧ F2 B us Ps := by
  cases vs with
  | nil => exact h.elim
  | cons v us => exact ⟨v, us, rfl, h.1, h.2⟩
theorem th_bad (x : At) : SdBad (.a x) := ⟨rfl, Nat.zero_le _⟩
theorem many_bad {ns : List Int} (h : 5 ≤ ns.length) (h2 : ns.length ≤ 1000) : SdBad (ctS ns) := by
  refine ⟨?_, ?_⟩
  · show (decide ((ns.map fun n => El.a (.i n)).length ≤ 4) && _) = false
    rw [List.length_map, decide_eq_false (by omega)]; rfl
  · show (ns.map fun n => El.a (.i n)).length ≤ 1000
    rw [List.length_map]; exact h2
def c_bads (K : PySem.W.Frag) : Unit → Cs := fun _ => { as := [rPot p0 p1], rs := fun _ => .sh (Pr.exs SdBad (rSd K)) }
theorem f_bads {f : Addr} {fd : FuncData} (b : Bi U.mg) (hx : U.mg "_law_bad_counts" = some (.ref f)) (F : FnP U "_law_bad_counts" s_Lbad_counts f fd) (Wt : Fd U "_law_take" 1 ["_law_pot_here", "_law_many"] c_take) (Wh : Fd U "_law_thing" 2 ["_law_pot_here"] c_thing) (Wc : Fd U "_law_counts" 2 ["_law_pot_here"] (c_counts U.K)) (Wb : Fd U "_law_bad_count" 2 ["_law_pot_here"] (c_badc U.K)) (Wp : Fd U "_law_put" 2 ["_law_pot_here", "_law_row", "_law_thing_here"] (c_put U.K)) : Fd U "_law_bad_counts" 3 ["_law_pot_here"] (c_bads U.K) := by
  refine fd_ok (N := ["_law_pot_here", "_law_way", "_law_k"]) hx F ⟨rfl, rfl, rfl, by decide +kernel, rfl, by decide +kernel, by decide +kernel⟩ (fun _ _ _ _ _ _ us hl => match us, hl with | [_], _ => rfl) (fun _ => rfl) ?_
  intro _ cd A outer s0 bb E _
  have sz : sizeLine = 16777216 := by decide
  refine s_set 1 (x_take (n := 3) Wt (x_var 0) x_int ⟨by decide, by decide⟩) ?_
  refine s_ifx (u_eq (x_var 1) x_int) ?_ (s_then ?_)
  · exact s_ret (P := Pr.exs (fun _ : At => True) rA) (x_call Wh () (a_cons (x_var 0) a_nil)) (rt_imp fun B v ⟨x, _, h⟩ => ⟨.a x, th_bad x, h⟩)
  · refine s_ifx (u_eq (x_var 1) x_int) ?_ (s_then ?_)
    · refine s_ret (P := Pr.exs (fun ns : List Int => (∃ j : Int, (5 ≤ j ∧ j ≤ 7) ∧ ns.length = j.toNat) ∧ ∀ x ∈ ns, True) fun ns => rLs U.K (ns.map G.rI)) (ints_x (φ := fun n => ∃ j : Int, (5 ≤ j ∧ j ≤ 7) ∧ n = j.toNat) (ψ := fun _ => True) (y_lcx [("_law_k", 2)] (fun _ => true) (fun _ => rIx fun _ => True) (i_range1x (ψ := fun j => 5 ≤ j ∧ j ≤ 7) b.range (fun j hj => ⟨by omega, by omega⟩) ((x_addx x_int.ix (x_take (n := 3) Wt (x_var 0) x_int ⟨by decide, by decide⟩)).iw ?_)) (fun n hn => by obtain ⟨j, hj, e⟩ := hn; omega) (fun _ _ _ _ _ i => g_name 2) (by decide) (fun _ _ _ _ _ i => ts_no) (fun _ _ _ _ _ i _ => (x_addx x_int.ix (x_take (n := 4) Wt (x_var 0) x_int ⟨by decide, by decide⟩)).iw fun _ _ => trivial) (blkOk_by (by rfl)))) (rt_imp fun B v ⟨ns, ⟨⟨j, hj, e⟩, _⟩, r⟩ => ⟨ctS ns, many_bad (by omega) (by omega), (rSd_ct (K := U.K) ns) ▸ r⟩)
      rintro z ⟨a, c, rfl, hc, rfl⟩
      have hc : 0 ≤ c ∧ c < (3 : Int) := hc
      show 5 ≤ 5 + c ∧ 5 + c ≤ (7 : Int)
      omega
    · refine s_ret (x_callx (R := Pr.exs SdBad (rSd U.K)) Wp (Ps := [rPot p0 p1, Pr.exs Cts fun ns => rLs U.K ((ns.map G.rI).take 3), Pr.exs ElBad (rE U.K)]) (a_cons (x_var 0) (a_cons (x_slTo (k := 3) (φ := Cts) (f := fun ns : List Int => ns.map G.rI) (x_call Wc () (a_cons (x_var 0) a_nil)) x_int) (a_cons (x_call Wb () (a_cons (x_var 0) a_nil)) a_nil))) fun B vs f => ?_) (rt_eq rfl)
      obtain ⟨a, vs, rfl, f1, f⟩ := f2_cons f
      obtain ⟨c, vs, rfl, f2, f⟩ := f2_cons f
      obtain ⟨d, vs, rfl, f3, f⟩ := f2_cons f
      obtain ⟨ns, hn, f2⟩ := f2
      obtain ⟨e, he, f3⟩ := f3
      have f2 : (rLs U.K ((ns.map G.rI).take 3)).r B c := f2
      rw [← List.map_take] at f2
      refine ⟨(ns.take 3, e), ⟨f1, f2, f3, f⟩, ⟨?_, he⟩, fun _ h => h, _, fun _ => rfl, fun _ _ h => h⟩
      show (ns.take 3).length ≤ 4
      rw [List.length_take]
      have := Nat.min_le_left 3 ns.length
      omega
end

end K46
set_option Elab.async false
set_option linter.all false
set_option maxRecDepth 100000
set_option maxHeartbeats 4000000
namespace K46
open PySem L2 G
section
variable {U : Uv}
def EqBad (z : Sd × Sd) : Prop := eqOk z = false ∧ z.1.len ≤ 1000 ∧ z.2.len ≤ 1000
theorem eq_l {l r : Sd} (h : SdBad l) (h2 : r.len ≤ 1000) : EqBad (l, r) := ⟨by unfold eqOk; rw [h.1]; rfl, h.2, h2⟩
theorem eq_r {l r : Sd} (h : SdBad r) (h2 : l.len ≤ 1000) : EqBad (l, r) := ⟨by unfold eqOk; rw [h.1]; simp, h2, h.2⟩
theorem ct_len {ns : List Int} (h : Cts ns) : (ctS ns).len ≤ 1000 := by
  show (ns.map fun n => El.a (.i n)).length ≤ 1000
  rw [List.length_map]; have := h.1; omega
theorem rt_pair {K : PySem.W.Frag} {φ ψ : Type} {p : φ → Prop} {q : ψ → Prop} {f : φ → Pr} {g : ψ → Pr} {χ : Sd × Sd → Prop} (h : ∀ a c, p a → q c → ∃ z, χ z ∧ rSd K z.1 = f a ∧ rSd K z.2 = g c) {B : Bs} {v : V} (r : (rTs K [Pr.exs p f, Pr.exs q g]).r B v) : (Pr.exs χ fun z => rTs K [rSd K z.1, rSd K z.2]).r B v := by
  obtain ⟨o, vs, e, a, f2⟩ := r
  obtain ⟨v1, vs, rfl, ⟨x, px, f1⟩, f2⟩ := f2_cons f2
  obtain ⟨v2, vs, rfl, ⟨y, py, f2⟩, f3⟩ := f2_cons f2
  obtain ⟨z, hz, e1, e2⟩ := h x y px py
  exact ⟨z, hz, o, v1 :: v2 :: vs, e, a, by rw [e1]; exact f1, by rw [e2]; exact f2, f3⟩
def c_bsides (K : PySem.W.Frag) : Unit → Cs := fun _ => { as := [rPot p0 p1], rs := fun _ => .sh (Pr.exs EqBad fun z => rTs K [rSd K z.1, rSd K z.2]) }
theorem f_bsides {f : Addr} {fd : FuncData} (b : Bi U.mg) (hx : U.mg "_law_bad_sides" = some (.ref f)) (F : FnP U "_law_bad_sides" s_Lbad_sides f fd) (Wt : Fd U "_law_take" 1 ["_law_pot_here", "_law_many"] c_take) (Wc : Fd U "_law_counts" 2 ["_law_pot_here"] (c_counts U.K)) (Wb : Fd U "_law_bad_counts" 3 ["_law_pot_here"] (c_bads U.K)) : Fd U "_law_bad_sides" 4 ["_law_pot_here"] (c_bsides U.K) := by
  refine fd_ok (N := ["_law_pot_here", "_law_way"]) hx F ⟨rfl, rfl, rfl, by decide +kernel, rfl, by decide +kernel, by decide +kernel⟩ (fun _ _ _ _ _ _ us hl => match us, hl with | [_], _ => rfl) (fun _ => rfl) ?_
  intro _ cd A outer s0 bb E _
  refine s_set 1 (x_take (n := 4) Wt (x_var 0) x_int ⟨by decide, by decide⟩) ?_
  refine s_ifx (u_eq (x_var 1) x_int) ?_ (s_then ?_)
  · refine s_ret (P := rTs U.K [Pr.exs (fun _ : Unit => True) fun _ => rLs U.K [], Pr.exs (fun _ : Bool => True) fun t => rQ U.K t []]) (x_tup (a_cons ((x_lst a_nil).imp fun B v h => ⟨(), trivial, h⟩) (a_cons (x_ixLx (rs := [rLs U.K [], rTs U.K []]) (φ := fun r => 0 ≤ r ∧ r < 2) (fun j hj => ?_) (x_lst (a_cons (x_lst a_nil) (a_cons (x_tup a_nil) a_nil))) (x_take Wt (x_var 0) x_int ⟨by decide, by decide⟩)) a_nil))) (rt_imp fun B v h => rt_pair (fun _ t _ _ => ⟨(.q false [], .q t []), ⟨rfl, Nat.zero_le _, Nat.zero_le _⟩, rfl, rfl⟩) h)
    obtain ⟨h0, h2⟩ := hj
    have : j = 0 ∨ j = 1 := by omega
    rcases this with e | e <;> subst e
    · exact ⟨_, rfl, fun B v h => ⟨false, trivial, h⟩⟩
    · exact ⟨_, rfl, fun B v h => ⟨true, trivial, h⟩⟩
  · refine s_ifx (u_eq (x_var 1) x_int) ?_ (s_then ?_)
    · exact s_ret (P := rTs U.K [Pr.exs SdBad (rSd U.K), Pr.exs SdBad (rSd U.K)]) (x_tup (a_cons (x_call Wb () (a_cons (x_var 0) a_nil)) (a_cons (x_call Wb () (a_cons (x_var 0) a_nil)) a_nil))) (rt_imp fun B v h => rt_pair (fun l r hl hr => ⟨(l, r), eq_l hl hr.2, rfl, rfl⟩) h)
    · refine s_ifx (u_eq (x_var 1) x_int) ?_ (s_then ?_)
      · exact s_ret (P := rTs U.K [Pr.exs Cts fun ns => rLs U.K (ns.map G.rI), Pr.exs SdBad (rSd U.K)]) (x_tup (a_cons (x_call Wc () (a_cons (x_var 0) a_nil)) (a_cons (x_call Wb () (a_cons (x_var 0) a_nil)) a_nil))) (rt_imp fun B v h => rt_pair (fun ns r hl hr => ⟨(ctS ns, r), eq_r hr (ct_len hl), (rSd_ct ns).symm, rfl⟩) h)
      · exact s_ret (P := rTs U.K [Pr.exs SdBad (rSd U.K), Pr.exs Cts fun ns => rLs U.K (ns.map G.rI)]) (x_tup (a_cons (x_call Wb () (a_cons (x_var 0) a_nil)) (a_cons (x_call Wc () (a_cons (x_var 0) a_nil)) a_nil))) (rt_imp fun B v h => rt_pair (fun l ns hl hr => ⟨(l, ctS ns), eq_l hl (ct_len hr), rfl, (rSd_ct ns).symm⟩) h)
/-! ### bad rows -/
def RowBad (n : Nat) (s : Sd) : Prop := s.row n = false ∧ s.len ≤ 1000
theorem rep0 {K : PySem.W.Frag} (k : Nat) : (List.replicate k [G.rI 0]).flatten = (List.replicate k (El.a (.i 0))).map (rE K) := by
  induction k with
  | zero => rfl
  | succ k ih => rw [List.replicate_succ, List.flatten_cons, ih, List.replicate_succ, List.map_cons]; rfl
theorem row_len {n k : Nat} (h : k ≠ n) (hk : k ≤ 1000) : RowBad n (.q false (List.replicate k (El.a (.i 0)))) := by
  refine ⟨?_, ?_⟩
  · show (decide ((List.replicate k (El.a (.i 0))).length = n) && _) = false
    rw [List.length_replicate, decide_eq_false h]; rfl
  · show (List.replicate k (El.a (.i 0))).length ≤ 1000
    rw [List.length_replicate]; exact hk
def c_brow (K : PySem.W.Frag) : Nat → Cs := fun n => { as := [rPot p0 p1, G.rI (n : Int)], rs := fun _ => .sh (Pr.exs (RowBad n) (rSd K)), pre := 1 ≤ n ∧ n ≤ 20 }
theorem neg30 : (-(10 ^ (30 : Int).toNat) : Int) < 0 := by decide +kernel
theorem neg_nn {n : Int} (h : n < 0) : (El.a (.i n)).nn = false := by
  show decide (n ≥ 0) = false
  exact decide_eq_false (by omega)
abbrev N_brow : List Str := ["_law_pot_here", "_law_size", "_law_way", "_law_bad", "_law_place"]
theorem f_brow {f : Addr} {fd : FuncData} (b : Bi U.mg) (hx : U.mg "_law_bad_row" = some (.ref f)) (F : FnP U "_law_bad_row" s_Lbad_row f fd) (Wt : Fd U "_law_take" 1 ["_law_pot_here", "_law_many"] c_take) (Wh : Fd U "_law_thing" 2 ["_law_pot_here"] c_thing) : Fd U "_law_bad_row" 3 ["_law_pot_here", "_law_size"] (c_brow U.K) := by
  refine fd_ok (N := N_brow) hx F ⟨rfl, rfl, rfl, by decide +kernel, rfl, by decide +kernel, by decide +kernel⟩ (fun _ _ _ _ _ _ us hl => match us, hl with | [_, _], _ => rfl) (fun _ => rfl) ?_
  intro n cd A outer s0 bb E hn
  obtain ⟨hn1, hn2⟩ := hn
  have sz : sizeLine = 16777216 := by decide
  refine s_set 2 (x_take (n := 4) Wt (x_var 0) x_int ⟨by decide, by decide⟩) ?_
  refine s_ifx (u_eq (x_var 2) x_int) ?_ (s_then ?_)
  · exact s_ret (P := Pr.exs (fun _ : At => True) rA) (x_call Wh () (a_cons (x_var 0) a_nil)) (rt_imp fun B v ⟨x, _, h⟩ => ⟨.a x, ⟨rfl, Nat.zero_le _⟩, h⟩)
  · refine s_ifx (u_eq (x_var 2) x_int) ?_ (s_then ?_)
    · refine s_ret (P := Pr.exs (fun k : Int => (n : Int) + 1 ≤ k ∧ k ≤ (n : Int) + 3) fun k => rLs U.K (List.replicate k.toNat [G.rI 0]).flatten) (x_repLX (rs := [G.rI 0]) (fun k hk => ⟨by omega, by omega, by simp only [List.length_singleton]; omega⟩) (x_lst (a_cons x_int a_nil)) ((x_addx (x_add (x_var 1) x_int).ix (x_take (n := 3) Wt (x_var 0) x_int ⟨by decide, by decide⟩)).iw ?_)) (rt_imp fun B v ⟨k, hk, h⟩ => ⟨.q false (List.replicate k.toNat (El.a (.i 0))), row_len (by omega) (by omega), ?_⟩)
      · rintro z ⟨a, c, rfl, hc, rfl⟩
        have hc : 0 ≤ c ∧ c < (3 : Int) := hc
        show (n : Int) + 1 ≤ (n : Int) + 1 + c ∧ (n : Int) + 1 + c ≤ (n : Int) + 3
        omega
      · have h : (rLs U.K (List.replicate k.toNat [G.rI 0]).flatten).r B v := h
        rw [rep0 (K := U.K)] at h
        exact h
    · refine s_ifx (u_eq (x_var 2) x_int) ?_ (s_then ?_)
      · refine s_ret (P := rLs U.K (List.replicate ((n : Int) - 1).toNat [G.rI 0]).flatten) (y_repL (rs := [G.rI 0]) (k := (n : Int) - 1) (by omega) (by omega) (by simp only [List.length_singleton]; omega) (x_lst (a_cons x_int a_nil)) (x_sub (x_var 1) x_int)).fz (rt_imp fun B v h => ⟨.q false (List.replicate ((n : Int) - 1).toNat (El.a (.i 0))), row_len (by omega) (by omega), ?_⟩)
        rw [rep0 (K := U.K)] at h
        exact h
      · refine s_set 3 (P := Pr.exs (fun e : El => e.nn = false) (rE U.K)) (x_ixLx (rs := [G.rI (-1), rB true, rS "0", rN, rTs U.K [], G.rI (-(10 ^ (30 : Int).toNat)), rLs U.K [G.rI 0]]) (φ := fun r => 0 ≤ r ∧ r < 7) (fun j hj => ?_) (x_lst (a_cons (x_neg x_int) (a_cons x_bl (a_cons x_str (a_cons x_non (a_cons (x_tup a_nil) (a_cons (x_neg (x_pow pow30 x_int x_int)) (a_cons (x_lst (a_cons x_int a_nil)) a_nil)))))))) (x_take Wt (x_var 0) x_int ⟨by decide, by decide⟩)) ?_
        · obtain ⟨h0, h7⟩ := hj
          have : j = 0 ∨ j = 1 ∨ j = 2 ∨ j = 3 ∨ j = 4 ∨ j = 5 ∨ j = 6 := by omega
          rcases this with e | e | e | e | e | e | e <;> subst e
          · exact ⟨_, rfl, fun B v h => ⟨.a (.i (-1)), rfl, h⟩⟩
          · exact ⟨_, rfl, fun B v h => ⟨.a (.b true), rfl, h⟩⟩
          · exact ⟨_, rfl, fun B v h => ⟨.a (.s "0"), rfl, h⟩⟩
          · exact ⟨_, rfl, fun B v h => ⟨.a .non, rfl, h⟩⟩
          · exact ⟨_, rfl, fun B v h => ⟨.q true [], rfl, h⟩⟩
          · exact ⟨_, rfl, fun B v h => ⟨.a (.i (-(10 ^ (30 : Int).toNat))), neg_nn neg30, h⟩⟩
          · exact ⟨_, rfl, fun B v h => ⟨.q false [0], rfl, h⟩⟩
        refine s_exs 3 fun e he => ?_
        refine s_set 4 (x_take (n := (n : Int)) Wt (x_var 0) (x_var 1) ⟨by omega, by omega⟩) ?_
        refine s_exs 4 fun j hj => ?_
        obtain ⟨k, rfl⟩ : ∃ k : Nat, j = (k : Int) := ⟨j.toNat, by omega⟩
        let es : List El := List.replicate k (El.a (.i 0)) ++ [e] ++ List.replicate ((n : Int) - 1 - (k : Int)).toNat (El.a (.i 0))
        have el : es.length ≤ 1000 := by
          show (List.replicate k (El.a (.i 0)) ++ [e] ++ List.replicate ((n : Int) - 1 - (k : Int)).toNat (El.a (.i 0))).length ≤ 1000
          rw [List.length_append, List.length_append, List.length_replicate, List.length_replicate, List.length_singleton]; omega
        have bad : (Sd.q false es).row n = false := by
          show (decide (es.length = n) && es.all El.nn) = false
          have : es.all El.nn = false := by
            show (List.replicate k (El.a (.i 0)) ++ [e] ++ List.replicate ((n : Int) - 1 - (k : Int)).toNat (El.a (.i 0))).all El.nn = false
            rw [List.all_append, List.all_append, List.all_cons, he]; simp
          rw [this, Bool.and_false]
        have em : es.map (rE U.K) = (List.replicate (k : Int).toNat [G.rI 0]).flatten ++ [rE U.K e] ++ (List.replicate ((n : Int) - 1 - (k : Int)).toNat [G.rI 0]).flatten := by
          rw [rep0 (K := U.K), rep0 (K := U.K)]
          show (List.replicate k (El.a (.i 0)) ++ [e] ++ List.replicate ((n : Int) - 1 - (k : Int)).toNat (El.a (.i 0))).map (rE U.K) = _
          rw [List.map_append, List.map_append, Int.toNat_natCast]; rfl
        have l1 : ((List.replicate (k : Int).toNat [G.rI 0]).flatten).length ≤ 1000 := by rw [rep0 (K := U.K), List.length_map, List.length_replicate]; omega
        have l2 : ((List.replicate ((n : Int) - 1 - (k : Int)).toNat [G.rI 0]).flatten).length ≤ 1000 := by rw [rep0 (K := U.K), List.length_map, List.length_replicate]; omega
        refine s_ret (P := rLs U.K ((List.replicate (k : Int).toNat [G.rI 0]).flatten ++ [rE U.K e] ++ (List.replicate ((n : Int) - 1 - (k : Int)).toNat [G.rI 0]).flatten)) (x_catL (by rw [List.length_append, List.length_singleton]; omega) (x_catL (by rw [List.length_singleton]; omega) (y_repL (rs := [G.rI 0]) (k := (k : Int)) (by omega) (by omega) (by simp only [List.length_singleton]; omega) (x_lst (a_cons x_int a_nil)) (x_var 4)).fz (x_lst (a_cons (x_var 3) a_nil))) (y_repL (rs := [G.rI 0]) (k := (n : Int) - 1 - (k : Int)) (by omega) (by omega) (by simp only [List.length_singleton]; omega) (x_lst (a_cons x_int a_nil)) (x_sub (x_sub (x_var 1) x_int) (x_var 4))).fz) (rt_imp fun B v h => ⟨.q false es, ⟨bad, el⟩, ?_⟩)
        rw [← em] at h
        exact h
/-! ### the program refuses -/
def Never : Pr := Pr.exs (fun _ : Unit => False) fun _ => rN
theorem Never.no {P : Pr} {B : Bs} {v : V} (h : Never.r B v) : P.r B v := by obtain ⟨_, h, _⟩ := h; exact h.elim
theorem s_ifNever {g : Gx} {Γ : Gm} {D : En} {e : Expr} {a b rest : List Stmt} {p pos : Pos} (h : JE g e Γ Never) (he : ∀ whole, isTrue e g.X.env whole = (do let v ← whole; standAt e.pos; holding [v] (truthy v)) := by intro _; rfl) : JS g (.If (.UnaryOp .Not e p) a b pos :: rest) Γ D :=
  js_cons fun w σ B H s => by
    have t1 : WT g.X e (fun _ _ => False) σ H := ofT (pt_val pE he) ((h.run w σ B H s).mono fun v H1 ⟨B1, a1, _, hf, _⟩ => hf.elim)
    have t2 : WT g.X (.UnaryOp .Not e p) (fun _ _ => False) σ H := ofT (pt_not pT) (t1.mono fun v H1 h => h)
    exact of1 (ps_if pT pS pS) (t2.mono fun v H1 h => h.elim)
theorem s_exprNever {g : Gx} {Γ : Gm} {D : En} {e : Expr} {rest : List Stmt} {pos : Pos} (h : JE g e Γ Never) (hs : swapsWith e none pos.line g.X.env = pure false := by rfl) : JS g (.Expr e pos :: rest) Γ D :=
  js_cons fun w σ B H s => of1 (ps_expr pE hs) ((h.run w σ B H s).mono fun v H' ⟨B', a, _, hf, _⟩ => hf.elim)
/-- which of the two refusals -/
def Why (C R : Addr) (z : Sd × Sd) (s : Sd) (c : Addr) : Prop := (c = C ∧ eqOk z = false) ∨ (c = R ∧ eqOk z = true)
def c_holds (K : PySem.W.Frag) (C R : Addr) : Sd × Sd × Sd → Cs := fun z => { as := [rSd K z.1, rSd K z.2.1, rSd K z.2.2], rs := fun _ => .sh Never, pre := z.1.len ≤ 1000 ∧ z.2.1.len ≤ 1000 ∧ z.2.2.len ≤ 1000 ∧ (eqOk (z.1, z.2.1) = true → z.2.2.row (z.1.len + z.2.1.len) = false), exc := Why C R (z.1, z.2.1) z.2.2 }
theorem f_holds {f C R : Addr} {fd : FuncData} (b : Bi U.mg) (hx : U.mg "holds" = some (.ref f)) (F : FnP U "holds" s_holds f fd) (We : Fd U "want_equation" 3 ["left", "right"] (c_weq U.K C)) (Wr : Fd U "want_row" 2 ["left", "right", "row"] (c_wrow U.K R)) : Fd U "holds" 4 ["left", "right", "row"] (c_holds U.K C R) := by
  refine fd_ok (N := ["left", "right", "row"]) hx F ⟨rfl, rfl, rfl, by decide +kernel, rfl, by decide +kernel, by decide +kernel⟩ (fun _ _ _ _ _ _ us hl => match us, hl with | [_, _, _], _ => rfl) (fun _ => rfl) ?_
  rintro ⟨l, r, s⟩ cd A outer s0 bb E ⟨h1, h2, h3, h4⟩
  refine s_exprG (x_call We (l, r) (a_cons (x_var 0) (a_cons (x_var 1) a_nil)) (fun _ => rfl) ⟨h1, h2⟩ (lets_out (exc' := fun c => c = C ∧ eqOk (l, r) = false) fun c hc => .inl hc)) fun hok => ?_
  have ok : l.cnt = true ∧ r.cnt = true := by
    have hok : eqOk (l, r) = true := hok
    unfold eqOk at hok
    simp only [Bool.and_eq_true] at hok
    exact ⟨hok.1, hok.2.1⟩
  exact s_exprG (x_call Wr (l, r, s) (a_cons (x_var 0) (a_cons (x_var 1) (a_cons (x_var 2) a_nil))) (fun _ => rfl) ⟨ok.1, ok.2, h3⟩ (lets_out (exc' := fun c => c = R ∧ s.row (l.len + r.len) = false) fun c hc => .inr ⟨hc.1, hok⟩)) fun hr => by
    have := h4 hok
    have hr : s.row (l.len + r.len) = true := hr
    have this : s.row (l.len + r.len) = false := this
    rw [hr] at this; cases this
theorem f_made {f C R : Addr} {fd : FuncData} (b : Bi U.mg) (hx : U.mg "made_of" = some (.ref f)) (F : FnP U "made_of" s_made_of f fd) (Wh : Fd U "holds" 4 ["left", "right", "row"] (c_holds U.K C R)) : Fd U "made_of" 5 ["left", "right", "row"] (c_holds U.K C R) := by
  refine fd_ok (N := ["left", "right", "row", "rest", "found", "one", "many", "b", "a"]) hx F ⟨rfl, rfl, rfl, by decide +kernel, rfl, by decide +kernel, by decide +kernel⟩ (fun _ _ _ _ _ _ us hl => match us, hl with | [_, _, _], _ => rfl) (fun _ => rfl) ?_
  rintro ⟨l, r, s⟩ cd A outer s0 bb E hp
  exact s_ifNever (x_call Wh (l, r, s) (a_cons (x_var 0) (a_cons (x_var 1) (a_cons (x_var 2) a_nil))) (fun _ => rfl) hp (lets_out (exc' := Why C R (l, r) s) fun c hc => hc))
def c_least (K : PySem.W.Frag) (C : Addr) : Sd × Sd → Cs := fun z => { as := [rSd K z.1, rSd K z.2], rs := fun _ => .sh Never, pre := EqBad z, exc := fun c => c = C }
theorem f_least {f C : Addr} {fd : FuncData} (b : Bi U.mg) (hx : U.mg "least_rows" = some (.ref f)) (F : FnP U "least_rows" s_least_rows f fd) (We : Fd U "want_equation" 3 ["left", "right"] (c_weq U.K C)) : Fd U "least_rows" 4 ["left", "right"] (c_least U.K C) := by
  refine fd_ok (N := ["left", "right"]) hx F ⟨rfl, rfl, rfl, by decide +kernel, rfl, by decide +kernel, by decide +kernel⟩ (fun _ _ _ _ _ _ us hl => match us, hl with | [_, _], _ => rfl) (fun _ => rfl) ?_
  rintro ⟨l, r⟩ cd A outer s0 bb E ⟨h1, h2, h3⟩
  exact s_exprG (x_call We (l, r) (a_cons (x_var 0) (a_cons (x_var 1) a_nil)) (fun _ => rfl) ⟨h2, h3⟩ (lets_out (exc' := fun c => c = C ∧ eqOk (l, r) = false) fun c hc => hc.1)) fun hok => by
    have hok : eqOk (l, r) = true := hok
    rw [h1] at hok; cases hok
def shBad (l : Sd) (w : El) : Bool := !l.cnt || (decide ((l.len : Int) = 0) || (match w.whole with | none => true | some n => decide (n < 0) || decide (n > 24)))
def c_wsh (K : PySem.W.Frag) (C : Addr) : Sd × El → Cs := fun z => { as := [rSd K z.1, rE K z.2], rs := fun _ => .sh Never, pre := z.1.len ≤ 1000 ∧ shBad z.1 z.2 = true, exc := fun c => c = C }
theorem f_wsh {f C : Addr} {fd : FuncData} (b : Bi U.mg) (hx : U.mg "want_shares" = some (.ref f)) (F : FnP U "want_shares" s_want_shares f fd) (W : Fd U "is_counts" 2 ["thing"] (c_cnt U.K)) (Ww : Fd U "is_whole" 1 ["thing"] (c_whole U.K)) (M : Cst U "MOST_WHOLE" (.int 24)) (X : Xc U.K U.mg "NoCounts" C) : Fd U "want_shares" 3 ["left", "whole"] (c_wsh U.K C) := by
  refine fd_ok (N := ["left", "whole"]) hx F ⟨rfl, rfl, rfl, by decide +kernel, rfl, by decide +kernel, by decide +kernel⟩ (fun _ _ _ _ _ _ us hl => match us, hl with | [_, _], _ => rfl) (fun _ => rfl) ?_
  rintro ⟨l, w⟩ cd A outer s0 bb E ⟨h1, h2⟩
  replace h2 : shBad l w = true := h2
  refine s_if (c := shBad l w) ?_ (fun _ => s_raise X (fun C' d' σ B H e st => lets_out (exc' := fun c => c = C) (fun c hc => hc) C' d' σ B H e st)) fun h => by rw [h2] at h; cases h
  cases hw : w.whole with
  | none =>
    exact (w_or (d := decide ((l.len : Int) = 0) || (!false || false)) (t_not (t_val (x_call W l (a_cons (x_var 0) a_nil) (fun _ => rfl) h1))) fun hl => w_or (d := !false || false) (t_eqI (x_lenS b (by simpa using hl) (x_var 0)) x_int) fun _ => w_or (c := !false) (d := false) (t_not (t_val ((x_call Ww w (a_cons (x_var 1) a_nil)).to (by rw [hw]; rfl)))) fun h => by cases h).t.to (by unfold shBad; rw [hw]; rfl)
  | some n =>
    exact (w_or (d := decide ((l.len : Int) = 0) || (!true || (decide (n < 0) || decide (n > 24)))) (t_not (t_val (x_call W l (a_cons (x_var 0) a_nil) (fun _ => rfl) h1))) fun hl => w_or (d := !true || (decide (n < 0) || decide (n > 24))) (t_eqI (x_lenS b (by simpa using hl) (x_var 0)) x_int) fun _ => w_or (c := !true) (d := decide (n < 0) || decide (n > 24)) (t_not (t_val ((x_call Ww w (a_cons (x_var 1) a_nil)).to (by rw [hw]; rfl)))) fun _ => w_or (t_lt ((x_var 1).to (whole_rE hw)) x_int) fun _ => w_or1 (t_gt ((x_var 1).to (whole_rE hw)) (x_glob M))).t.to (by unfold shBad; rw [hw]; rfl)
theorem f_shares {f C : Addr} {fd : FuncData} (b : Bi U.mg) (hx : U.mg "shares" = some (.ref f)) (F : FnP U "shares" s_shares f fd) (W : Fd U "want_shares" 3 ["left", "whole"] (c_wsh U.K C)) : Fd U "shares" 4 ["left", "whole"] (c_wsh U.K C) := by
  refine fd_ok (N := ["left", "whole", "begun", "count", "row", "rest"]) hx F ⟨rfl, rfl, rfl, by decide +kernel, rfl, by decide +kernel, by decide +kernel⟩ (fun _ _ _ _ _ _ us hl => match us, hl with | [_, _], _ => rfl) (fun _ => rfl) ?_
  rintro ⟨l, w⟩ cd A outer s0 bb E hp
  exact s_exprNever (x_call W (l, w) (a_cons (x_var 0) (a_cons (x_var 1) a_nil)) (fun _ => rfl) hp (lets_out (exc' := fun c => c = C) fun c hc => hc))
/-! ### the law's own -/
structure Cl (U : Uv) (L C R S T M : Addr) : Prop where
  l : U.mg "LikeError" = some (.ref L)
  v : U.mg "ValueError" = none
  c : U.mg "NoCounts" = some (.ref C)
  r : U.mg "NoRow" = some (.ref R)
  s : U.mg "NoSide" = some (.ref S)
  t : U.mg "NoTerm" = some (.ref T)
  m : U.mg "TooMuch" = some (.ref M)
structure Kn (K : PySem.W.Frag) (L C R S T M D : Addr) (isC isR : Bool) : Prop where
  ec : ExcC K D
  l : PySem.W.kitOne K (.ref D) (.ref L) = some true
  v : PySem.W.kitOne K (.ref D) (.type "ValueError") = some true
  c : PySem.W.kitOne K (.ref D) (.ref C) = some isC
  r : PySem.W.kitOne K (.ref D) (.ref R) = some isR
  s : PySem.W.kitOne K (.ref D) (.ref S) = some false
  t : PySem.W.kitOne K (.ref D) (.ref T) = some false
  m : PySem.W.kitOne K (.ref D) (.ref M) = some false
def c_kinds (K : PySem.W.Frag) (isC isR : Bool) : Addr → Unit → Cs := fun a _ => { as := [rV (.ref a)], rs := fun _ => .sh (rLs K [rB true, rB true, rB isC, rB isR, rB false]) }
theorem f_kinds {f L C R S T M D : Addr} {isC isR : Bool} {fd : FuncData} (b : Bi U.mg) (hx : U.mg "_law_kinds" = some (.ref f)) (F : FnP U "_law_kinds" s_Lkinds f fd) (G : Cl U L C R S T M) (k : Kn U.K L C R S T M D isC isR) : FdE U D "_law_kinds" 1 ["_law_error"] (c_kinds U.K isC isR) := by
  refine fdE_ok (N := ["_law_error", "_law_some"]) hx F ⟨rfl, rfl, rfl, by decide +kernel, rfl, by decide +kernel, by decide +kernel⟩ (fun _ _ _ _ _ _ us hl => match us, hl with | [_], _ => rfl) (fun _ _ => rfl) (fun _ _ _ h => h) ?_
  intro _ cd A outer s0 bb E z hot held _
  have hz : z ∈ (gxE U ["_law_error", "_law_some"] "_law_kinds" (defScope s_Lkinds) f cd A outer s0 bb E z 0).X.pn := List.mem_singleton.mpr rfl
  refine s_set 1 (P := rLs U.K [rB true, rB true, rB isC]) (x_lst (a_cons (x_isH b k.ec held hz G.l k.l (x_var 0)) (a_cons (x_isHV b k.ec held hz G.v k.v (x_var 0)) (a_cons (x_isH b k.ec held hz G.c k.c (x_var 0)) a_nil)))) ?_
  exact s_ret (x_catL (rs := [rB true, rB true, rB isC]) (qs := [rB isR, rB false]) (by show 3 + 2 ≤ sizeLine; decide) (x_var 1) (x_lst (a_cons (x_isH b k.ec held hz G.r k.r (x_var 0)) (a_cons (x_isH3 b k.ec held hz G.s G.t G.m (kit_none3 k.s k.t k.m) (x_var 0)) a_nil)))) (rt_eq rfl)
theorem hot_suite {X : Cx} {c a : Addr} {oe : Obj} {pn : List (Addr × Obj)} (h : Held c (a, oe)) : L2H.Hot1 (X.suite a ((a, oe) :: pn)).A (a, oe) := ⟨rfl, h.f⟩
theorem room_suite {X : Cx} {a : Addr} {k : Nat} {pn : List (Addr × Obj)} (h : Room k X.A) : L2H.RoomH k (X.suite a pn).A := ⟨(L2H.roomH_of h).dp, (L2H.roomH_of h).un⟩
def kd (K : PySem.W.Frag) (ok : Bool) : Pr := rLs K [rB true, rB true, rB (!ok), rB ok, rB false]
def c_orows (K : PySem.W.Frag) : Nat × Sd × Sd × Sd → Cs := fun z => { as := [G.rI (z.1 : Int), rSd K z.2.1, rSd K z.2.2.1, rSd K z.2.2.2], rs := fun _ => .sh (kd K (eqOk (z.2.1, z.2.2.1))), pre := z.2.1.len ≤ 1000 ∧ z.2.2.1.len ≤ 1000 ∧ z.2.2.2.len ≤ 1000 ∧ (eqOk (z.2.1, z.2.2.1) = true → z.2.2.2.row (z.2.1.len + z.2.2.1.len) = false ∧ z.1 ≤ 1) }
abbrev N_orows : List Str := ["_law_way", "_law_left", "_law_right", "_law_row", "e"]
theorem f_orows {f L C R : Addr} {fd : FuncData} (b : Bi U.mg) (hx : U.mg "_law_of_rows" = some (.ref f)) (F : FnP U "_law_of_rows" s_Lof_rows f fd) (Wh : Fd U "holds" 4 ["left", "right", "row"] (c_holds U.K C R)) (Wm : Fd U "made_of" 5 ["left", "right", "row"] (c_holds U.K C R)) (Wl : Fd U "least_rows" 4 ["left", "right"] (c_least U.K C)) (Wk1 : FdE U C "_law_kinds" 1 ["_law_error"] (c_kinds U.K true false)) (Wk2 : FdE U R "_law_kinds" 1 ["_law_error"] (c_kinds U.K false true)) (hL : U.mg "LikeError" = some (.ref L)) (m1 : PySem.W.exmOne U.K (.ref C) (.ref L) = some true) (m2 : PySem.W.exmOne U.K (.ref R) (.ref L) = some true) : Fd U "_law_of_rows" 6 ["_law_way", "_law_left", "_law_right", "_law_row"] (c_orows U.K) := by
  refine fd_ok (N := N_orows) hx F ⟨rfl, rfl, rfl, by decide +kernel, rfl, by decide +kernel, by decide +kernel⟩ (fun _ _ _ _ _ _ us hl => match us, hl with | [_, _, _, _], _ => rfl) (fun _ => rfl) ?_
  rintro ⟨way, l, r, s⟩ cd A outer s0 bb E ⟨h1, h2, h3, h4⟩
  replace h4 : eqOk (l, r) = true → s.row (l.len + r.len) = false ∧ way ≤ 1 := h4
  have hp : (c_holds U.K C R (l, r, s)).pre := ⟨h1, h2, h3, fun h => (h4 h).1⟩
  let Γ0 : Gm := [some (.sh (G.rI (way : Int))), some (.sh (rSd U.K l)), some (.sh (rSd U.K r)), some (.sh (rSd U.K s)), none]
  have refl0 : GmLe Γ0 Γ0 := ⟨.refl _, .refl _, .refl _, .refl _, .refl _, trivial⟩
  refine s_tryAs (C := L) 4 (Why C R (l, r) s) Γ0 hL (fun c hc => by rcases hc with ⟨e, _⟩ | ⟨e, _⟩ <;> subst e <;> assumption) (fun pn xe W b' w t hLe => ?_) (fun c a oe pn w hT held => ?_)
  · refine s_if (t_eqI (x_var 0) x_int) (fun hw => ?_) fun hw => ?_
    · exact s_exprNever (x_call Wh (l, r, s) (a_cons (x_var 1) (a_cons (x_var 2) (a_cons (x_var 3) a_nil))) (fun _ => rfl) hp (hLe _ Γ0 (fun c hc => hc) refl0))
    · refine s_if (t_eqI (x_var 0) x_int) (fun hw2 => ?_) fun hw2 => ?_
      · exact s_exprNever (x_call Wm (l, r, s) (a_cons (x_var 1) (a_cons (x_var 2) (a_cons (x_var 3) a_nil))) (fun _ => rfl) hp (hLe _ Γ0 (fun c hc => hc) refl0))
      · have bad : eqOk (l, r) = false := by
          cases q : eqOk (l, r) with
          | false => rfl
          | true =>
            have := (h4 q).2
            have a1 := of_decide_eq_false hw
            have a2 := of_decide_eq_false hw2
            exfalso; omega
        exact s_exprNever (x_call Wl (l, r) (a_cons (x_var 1) (a_cons (x_var 2) a_nil)) (fun _ => rfl) ⟨bad, h1, h2⟩ (hLe _ Γ0 (fun c hc => .inl ⟨hc, bad⟩) refl0))
  · have rm := room_suite (a := a) (pn := (a, oe) :: pn) (w.hr rfl)
    rcases hT with ⟨e, he⟩ | ⟨e, he⟩
    · subst e
      have he : eqOk (l, r) = false := he
      refine s_ret (P := rLs U.K [rB true, rB true, rB true, rB false, rB false]) (x_callE (z := (a, oe)) Wk1 (rm.mono (by show 1 ≤ 5; decide)) (hot_suite held) held (List.mem_cons_self ..) () (a_cons (x_var 4) a_nil)) (rt_eq ?_)
      show _ = kd U.K (eqOk (l, r))
      rw [he]; rfl
    · subst e
      have he : eqOk (l, r) = true := he
      refine s_ret (P := rLs U.K [rB true, rB true, rB false, rB true, rB false]) (x_callE (z := (a, oe)) Wk2 (rm.mono (by show 1 ≤ 5; decide)) (hot_suite held) held (List.mem_cons_self ..) () (a_cons (x_var 4) a_nil)) (rt_eq ?_)
      show _ = kd U.K (eqOk (l, r))
      rw [he]; rfl
def c_oshares (K : PySem.W.Frag) : Sd × El → Cs := fun z => { as := [rSd K z.1, rE K z.2], rs := fun _ => .sh (kd K false), pre := z.1.len ≤ 1000 ∧ shBad z.1 z.2 = true }
theorem f_oshares {f L C : Addr} {fd : FuncData} (b : Bi U.mg) (hx : U.mg "_law_of_shares" = some (.ref f)) (F : FnP U "_law_of_shares" s_Lof_shares f fd) (Ws : Fd U "shares" 4 ["left", "whole"] (c_wsh U.K C)) (Wk1 : FdE U C "_law_kinds" 1 ["_law_error"] (c_kinds U.K true false)) (hL : U.mg "LikeError" = some (.ref L)) (m1 : PySem.W.exmOne U.K (.ref C) (.ref L) = some true) : Fd U "_law_of_shares" 5 ["_law_left", "_law_whole"] (c_oshares U.K) := by
  refine fd_ok (N := ["_law_left", "_law_whole", "e"]) hx F ⟨rfl, rfl, rfl, by decide +kernel, rfl, by decide +kernel, by decide +kernel⟩ (fun _ _ _ _ _ _ us hl => match us, hl with | [_, _], _ => rfl) (fun _ => rfl) ?_
  rintro ⟨l, wh⟩ cd A outer s0 bb E hp
  let Γ0 : Gm := [some (.sh (rSd U.K l)), some (.sh (rE U.K wh)), none]
  have refl0 : GmLe Γ0 Γ0 := ⟨.refl _, .refl _, .refl _, trivial⟩
  refine s_tryAs (C := L) 2 (fun c => c = C) Γ0 hL (fun c hc => by subst hc; exact m1) (fun pn xe W b' w t hLe => ?_) (fun c a oe pn w hT held => ?_)
  · exact s_exprNever (x_call Ws (l, wh) (a_cons (x_var 0) (a_cons (x_var 1) a_nil)) (fun _ => rfl) hp (hLe _ Γ0 (fun c hc => hc) refl0))
  · have rm := room_suite (a := a) (pn := (a, oe) :: pn) (w.hr rfl)
    subst hT
    exact s_ret (P := rLs U.K [rB true, rB true, rB true, rB false, rB false]) (x_callE (z := (a, oe)) Wk1 (rm.mono (by show 1 ≤ 4; decide)) (hot_suite held) held (List.mem_cons_self ..) () (a_cons (x_var 2) a_nil)) (rt_eq rfl)
end

end K46
set_option Elab.async false
set_option linter.all false
set_option maxRecDepth 100000
set_option maxHeartbeats 4000000
namespace K46
open PySem L2 G
section
variable {U : Uv}
theorem ec_ok {K : PySem.W.Frag} {x : Str} (h : (Fx.ec x).ok K = true) : ExcC K (He.ga K x) := ecB_ok h
theorem is_ok {K : PySem.W.Frag} {x y : Str} {v : Bool} (h : (Fx.is x y v).ok K = true) : PySem.W.kitOne K (.ref (He.ga K x)) (.ref (He.ga K y)) = some v := of_decide_eq_true h
theorem isT_ok {K : PySem.W.Frag} {x : Str} {T : String} {v : Bool} (h : (Fx.isT x T v).ok K = true) : PySem.W.kitOne K (.ref (He.ga K x)) (.type T) = some v := of_decide_eq_true h
def kdD (ok : Bool) : PyData := .list [.bool true, .bool true, .bool (!ok), .bool ok, .bool false]
theorem hd_kd {K : PySem.W.Frag} {ok : Bool} : HasD K (kd K ok) (kdD ok) := hd_L (ds := [.bool true, .bool true, .bool (!ok), .bool ok, .bool false]) ⟨hd_B, hd_B, hd_B, hd_B, hd_B, trivial⟩
theorem sh_kd {ok : Bool} : SeqAt.shaped (kdD ok) = true := by cases ok <;> decide +kernel
theorem eq_kd {ok : Bool} : PyData.eqv (kdD ok) (kdD ok) = true := by cases ok <;> decide +kernel
theorem ct_len4 {ns : List Int} (h : Cts ns) : (ctS ns).len = ns.length := by
  show (ns.map fun n => El.a (.i n)).length = _
  rw [List.length_map]
def ShBad (l : Sd) (w : El) : Prop := l.len ≤ 1000 ∧ shBad l w = true
def WhBad (w : El) : Prop := ∀ l : Sd, shBad l w = true
theorem wh_i {n : Int} (h : n < 0 ∨ n > 24) : WhBad (.a (.i n)) := fun l => by
  show (!l.cnt || (decide ((l.len : Int) = 0) || (decide (n < 0) || decide (n > 24)))) = true
  rcases h with h | h
  · rw [decide_eq_true h]; simp
  · rw [decide_eq_true h]; simp
theorem wh_n {w : El} (h : w.whole = none) : WhBad w := fun l => by
  unfold shBad
  rw [h]; simp
theorem big30' : (10 ^ (30 : Int).toNat : Int) > 24 := by decide +kernel
def c_law (K : PySem.W.Frag) : List Int → Cs := fun ns => { as := [rScr K ns], rs := fun _ => .sh (rB true) }
abbrev N_law : List Str := ["_law_script", "_law_pot_here", "_law_no_counts", "_law_no_row", "_law_left", "_law_right", "_law_way", "_law_row", "_law_bad"]
theorem f_law {f : Addr} {fd : FuncData} (b : Bi U.mg) (F : FnP U "law" s_law f fd) (Wa : Fd U "_law_at" 1 ["_law_script", "_law_k"] (c_at U.K)) (Wp : Fd U "_law_pot" 1 ["_law_cell"] c_pot) (Wt : Fd U "_law_take" 1 ["_law_pot_here", "_law_many"] c_take) (Wc : Fd U "_law_counts" 2 ["_law_pot_here"] (c_counts U.K)) (Wb : Fd U "_law_bad_counts" 3 ["_law_pot_here"] (c_bads U.K)) (Ws : Fd U "_law_bad_sides" 4 ["_law_pot_here"] (c_bsides U.K)) (Wr : Fd U "_law_bad_row" 3 ["_law_pot_here", "_law_size"] (c_brow U.K)) (Wo : Fd U "_law_of_rows" 6 ["_law_way", "_law_left", "_law_right", "_law_row"] (c_orows U.K)) (Wh : Fd U "_law_of_shares" 5 ["_law_left", "_law_whole"] (c_oshares U.K)) : FnOk U.P U.w U.K U.mg U.base (L2N.CX U.P U.w) 7 f fd ["_law_script"] (spT (c_law U.K)) := by
  refine fn_ok (N := N_law) F ⟨rfl, rfl, rfl, by decide +kernel, rfl, by decide +kernel, by decide +kernel⟩ (fun _ => rfl) ?_
  intro sc cd A outer s bb E _
  have sz : sizeLine = 16777216 := by decide
  refine s_setO 1 (y_call Wp (sc.getD 0 0) (a_cons (x_call Wa (sc, 0) (a_cons (x_var 0) (a_cons x_int a_nil))) a_nil)) ?_
  refine s_mkpot 1 ?_
  refine s_set 2 (P := kd U.K false) (x_lst (a_cons x_bl (a_cons x_bl (a_cons x_bl (a_cons x_bl (a_cons x_bl a_nil)))))) ?_
  refine s_set 3 (P := kd U.K true) (x_lst (a_cons x_bl (a_cons x_bl (a_cons x_bl (a_cons x_bl (a_cons x_bl a_nil)))))) ?_
  refine s_asgX (φ := EqBad) (f := fun z : Sd × Sd => rTs U.K [rSd U.K z.1, rSd U.K z.2]) (x_call Ws () (a_cons (x_var 1) a_nil)) (fun z : Sd × Sd => [some (.sh (rScr U.K sc)), some (.sh (rPot p0 p1)), some (.sh (kd U.K false)), some (.sh (kd U.K true)), some (.sh (rSd U.K z.1)), some (.sh (rSd U.K z.2)), none, none, none]) (fun z hz => g_tup (gs_cons (g_name 4) (gs_cons (g_name 5) gs_nil))) fun z hz => ?_
  obtain ⟨l, r⟩ := z
  obtain ⟨z1, z2, z3⟩ := hz
  replace z1 : eqOk (l, r) = false := z1
  let G0 : Gm := [some (.sh (rScr U.K sc)), some (.sh (rPot p0 p1)), some (.sh (kd U.K false)), some (.sh (kd U.K true)), some (.sh (rSd U.K l)), some (.sh (rSd U.K r)), none, none, none]
  refine s_forM (xs := ([0, 1, 2] : List Nat)) (r := fun i : Nat => G.rI (i : Int)) (I := fun _ => G0) (I2 := fun i x => G0.set 6 (some (.sh (G.rI (x : Int))))) (m_tup (x_tup (a_cons x_int (a_cons x_int (a_cons x_int a_nil))))) (by exact ⟨.refl _, .refl _, .refl _, .refl _, .refl _, .refl _, .refl _, .refl _, .refl _, trivial⟩) (fun i x hx => g_name 6) (fun i way hw => ?_) ?_
  · refine s_if (t_neD (x_callx (R := kd U.K false) Wo (Ps := [G.rI (way : Int), rSd U.K l, rSd U.K r, Pr.exs (RowBad 2) (rSd U.K)]) (a_cons (x_var 6) (a_cons (x_var 4) (a_cons (x_var 5) (a_cons (x_call Wr 2 (a_cons (x_var 1) (a_cons x_int a_nil)) (fun _ => rfl) ⟨by decide, by decide⟩) a_nil)))) fun B vs f => ?_) (x_var 2) hd_kd hd_kd sh_kd sh_kd) (fun h => by rw [eq_kd] at h; cases h) fun _ => s_then ?_
    · obtain ⟨v1, vs, rfl, f1, f⟩ := f2_cons f
      obtain ⟨v2, vs, rfl, f2, f⟩ := f2_cons f
      obtain ⟨v3, vs, rfl, f3, f⟩ := f2_cons f
      obtain ⟨v4, vs, rfl, f4, f⟩ := f2_cons f
      obtain ⟨s, hs, f4⟩ := f4
      refine ⟨(way, l, r, s), ⟨f1, f2, f3, f4, f⟩, ⟨z2, z3, hs.2, fun h => ?_⟩, fun _ h => h, _, fun _ => rfl, fun B2 v h => ?_⟩
      · have h : eqOk (l, r) = true := h
        rw [z1] at h; cases h
      · have h : (kd U.K (eqOk (l, r))).r B2 v := h
        rw [z1] at h
        exact h
    · exact s_nx (Γ' := G0) (by exact ⟨.refl _, .refl _, .refl _, .refl _, .refl _, .refl _, .none _, .none _, .none _, trivial⟩) rfl
  · refine s_set 4 (P := Pr.exs (fun ns : List Int => Cts ns ∧ 1 ≤ ns.length) fun ns => rLs U.K (ns.map G.rI)) (x_catXX (φ := fun i : Int => 1 ≤ i ∧ i ≤ 4) (ψ := Cts) (χ := fun ns : List Int => Cts ns ∧ 1 ≤ ns.length) (rs := fun i => [G.rI i]) (qs := fun ns : List Int => (ns.map G.rI).take 3) (ts := fun ns : List Int => ns.map G.rI) (fun a c ha hc => by rw [List.length_take, List.length_map, List.length_singleton]; have := Nat.min_le_left 3 c.length; omega) ((x_lst (a_cons ((x_addx x_int.ix (x_take (n := 4) Wt (x_var 1) x_int ⟨by decide, by decide⟩)).iw (ψ := fun i => 1 ≤ i ∧ i ≤ 4) ?_) a_nil)).imp fun B v ⟨p, vs, e, a, f⟩ => ?_) (x_slTo (k := 3) (φ := Cts) (f := fun ns : List Int => ns.map G.rI) (x_call Wc () (a_cons (x_var 1) a_nil)) x_int) fun a c ha hc => ?_) ?_
    · rintro z ⟨a, c, rfl, hc, rfl⟩
      have hc : 0 ≤ c ∧ c < (4 : Int) := hc
      show 1 ≤ 1 + c ∧ 1 + c ≤ (4 : Int)
      omega
    · obtain ⟨v1, vs, rfl, ⟨i, hi, f1⟩, f⟩ := f2_cons f
      exact ⟨i, hi, p, v1 :: vs, e, a, f1, f⟩
    · refine ⟨a :: c.take 3, ⟨⟨?_, fun n hn => ?_⟩, ?_⟩, ?_⟩
      · rw [List.length_cons, List.length_take]; have := Nat.min_le_left 3 c.length; omega
      · rcases List.mem_cons.mp hn with e | hn
        · rw [e]; exact ha
        · exact hc.2 n (List.mem_of_mem_take hn)
      · rw [List.length_cons]; omega
      · show (a :: c.take 3).map G.rI = [G.rI a] ++ (c.map G.rI).take 3
        rw [List.map_cons, List.map_take]; rfl
    · refine s_exs 4 fun ns hns => ?_
      obtain ⟨hn1, hn2⟩ := hns
      refine s_set 5 (x_call Wc () (a_cons (x_var 1) a_nil)) ?_
      refine s_exs 5 fun ms hms => ?_
      replace hms : Cts ms := hms
      have ok : eqOk (ctS ns, ctS ms) = true := by
        show ((ctS ns).cnt && ((ctS ms).cnt && !decide ((ctS ns).len + (ctS ms).len = 0))) = true
        rw [ct_cnt hn1, ct_cnt hms, ct_len4 hn1, decide_eq_false (by omega)]; rfl
      have ln := hn1.1
      have lm := hms.1
      refine s_set 7 (x_call Wr (ns.length + ms.length) (a_cons (x_var 1) (a_cons ((x_add (x_lenL b.len (x_var 4)) (x_lenL b.len (x_var 5))).to (congrArg G.rI (by rw [List.length_map, List.length_map]; omega))) a_nil)) (fun _ => rfl) ⟨by omega, by omega⟩) ?_
      refine s_exs 7 fun s hs => ?_
      replace hs : RowBad (ns.length + ms.length) s := hs
      have rowB : eqOk (ctS ns, ctS ms) = true → s.row ((ctS ns).len + (ctS ms).len) = false ∧ (0 : Nat) ≤ 1 := fun _ => ⟨by rw [ct_len4 hn1, ct_len4 hms]; exact hs.1, by decide⟩
      have orow : ∀ way : Nat, way ≤ 1 → (c_orows U.K (way, ctS ns, ctS ms, s)).pre := fun way hw => ⟨ct_len hn1, ct_len hms, hs.2, fun h => ⟨(rowB h).1, hw⟩⟩
      have eko : kd U.K (eqOk (ctS ns, ctS ms)) = kd U.K true := by rw [ok]
      refine s_if ((w_or (t_neD ((x_call Wo (0, ctS ns, ctS ms, s) (a_cons x_int (a_cons ((x_var 4).to (rSd_ct ns)) (a_cons ((x_var 5).to (rSd_ct ms)) (a_cons (x_var 7) a_nil)))) (fun _ => rfl) (orow 0 (by decide))).to eko) (x_var 3) hd_kd hd_kd sh_kd sh_kd) fun _ => w_or1 (t_neD ((x_call Wo (1, ctS ns, ctS ms, s) (a_cons x_int (a_cons ((x_var 4).to (rSd_ct ns)) (a_cons ((x_var 5).to (rSd_ct ms)) (a_cons (x_var 7) a_nil)))) (fun _ => rfl) (orow 1 (by decide))).to eko) (x_var 3) hd_kd hd_kd sh_kd sh_kd)).t) (fun h => by rw [eq_kd] at h; cases h) fun _ => s_then ?_
      refine s_set 8 (P := Pr.exs WhBad (rE U.K)) (x_ixLx (rs := [G.rI 25, G.rI (-1), rB true, rS "7", rN, G.rI (10 ^ (30 : Int).toNat), rLs U.K [G.rI 3]]) (φ := fun r => 0 ≤ r ∧ r < 7) (fun j hj => ?_) (x_lst (a_cons x_int (a_cons (x_neg x_int) (a_cons x_bl (a_cons x_str (a_cons x_non (a_cons (x_pow pow30 x_int x_int) (a_cons (x_lst (a_cons x_int a_nil)) a_nil)))))))) (x_take Wt (x_var 1) x_int ⟨by decide, by decide⟩)) ?_
      · obtain ⟨h0, h7⟩ := hj
        have : j = 0 ∨ j = 1 ∨ j = 2 ∨ j = 3 ∨ j = 4 ∨ j = 5 ∨ j = 6 := by omega
        rcases this with e | e | e | e | e | e | e <;> subst e
        · exact ⟨_, rfl, fun B v h => ⟨.a (.i 25), wh_i (.inr (by decide)), h⟩⟩
        · exact ⟨_, rfl, fun B v h => ⟨.a (.i (-1)), wh_i (.inl (by decide)), h⟩⟩
        · exact ⟨_, rfl, fun B v h => ⟨.a (.b true), wh_n rfl, h⟩⟩
        · exact ⟨_, rfl, fun B v h => ⟨.a (.s "7"), wh_n rfl, h⟩⟩
        · exact ⟨_, rfl, fun B v h => ⟨.a .non, wh_n rfl, h⟩⟩
        · exact ⟨_, rfl, fun B v h => ⟨.a (.i (10 ^ (30 : Int).toNat)), wh_i (.inr big30'), h⟩⟩
        · exact ⟨_, rfl, fun B v h => ⟨.q false [3], wh_n rfl, h⟩⟩
      · refine s_exs 8 fun w hw => ?_
        replace hw : WhBad w := hw
        have e0 : ∀ i : Int, shBad (ctS []) (.a (.i i)) = true := fun i => by show (!(ctS []).cnt || (decide (((ctS []).len : Int) = 0) || _)) = true; rfl
        refine s_if ((w_or (t_neD (x_call Wh (ctS ns, w) (a_cons ((x_var 4).to (rSd_ct ns)) (a_cons (x_var 8) a_nil)) (fun _ => rfl) ⟨ct_len hn1, hw (ctS ns)⟩) (x_var 2) hd_kd hd_kd sh_kd sh_kd) fun _ => w_or1 (t_neD (x_callx (R := kd U.K false) Wh (Ps := [rLs U.K [], rIx fun i => 0 ≤ i ∧ i < 25]) (a_cons (x_lst a_nil) (a_cons (x_take (n := 25) Wt (x_var 1) x_int ⟨by decide, by decide⟩) a_nil)) fun B vs f => ?_) (x_var 2) hd_kd hd_kd sh_kd sh_kd)).t) (fun h => by rw [eq_kd] at h; cases h) fun _ => s_then ?_
        · obtain ⟨v1, vs, rfl, f1, f⟩ := f2_cons f
          obtain ⟨v2, vs, rfl, f2, f⟩ := f2_cons f
          obtain ⟨i, hi, f2⟩ := f2
          exact ⟨(ctS [], .a (.i i)), ⟨f1, f2, f⟩, ⟨Nat.zero_le _, e0 i⟩, fun _ h => h, _, fun _ => rfl, fun _ _ h => h⟩
        · refine s_ret (x_eqD (x_callx (R := kd U.K false) Wh (Ps := [Pr.exs SdBad (rSd U.K), rIx fun i => 0 ≤ i ∧ i < 25]) (a_cons (x_call Wb () (a_cons (x_var 1) a_nil)) (a_cons (x_take (n := 25) Wt (x_var 1) x_int ⟨by decide, by decide⟩) a_nil)) fun B vs f => ?_) (x_var 2) hd_kd hd_kd sh_kd sh_kd) (rt_eq (congrArg rB eq_kd))
          obtain ⟨v1, vs, rfl, f1, f⟩ := f2_cons f
          obtain ⟨v2, vs, rfl, f2, f⟩ := f2_cons f
          obtain ⟨s, hs, f1⟩ := f1
          obtain ⟨i, hi, f2⟩ := f2
          exact ⟨(s, .a (.i i)), ⟨f1, f2, f⟩, ⟨hs.2, by show (!s.cnt || _) = true; rw [hs.1]; rfl⟩, fun _ h => h, _, fun _ => rfl, fun _ _ h => h⟩
end

end K46
set_option Elab.async false
set_option linter.all false
set_option maxRecDepth 100000
set_option maxHeartbeats 0
namespace K46
open PySem PySem.Spec PyProof.Rows L2 G
def d_is_whole : He.DefD := ⟨("is_whole", none), "is_whole", "is_whole", defArgs s_is_whole, defBody s_is_whole, defScope s_is_whole, [], []⟩
def d_is_counts : He.DefD := ⟨("is_counts", none), "is_counts", "is_counts", defArgs s_is_counts, defBody s_is_counts, defScope s_is_counts, [], []⟩
def d_want_equation : He.DefD := ⟨("want_equation", none), "want_equation", "want_equation", defArgs s_want_equation, defBody s_want_equation, defScope s_want_equation, [], []⟩
def d_want_row : He.DefD := ⟨("want_row", none), "want_row", "want_row", defArgs s_want_row, defBody s_want_row, defScope s_want_row, [], []⟩
def d_holds : He.DefD := ⟨("holds", none), "holds", "holds", defArgs s_holds, defBody s_holds, defScope s_holds, [], []⟩
def d_made_of : He.DefD := ⟨("made_of", none), "made_of", "made_of", defArgs s_made_of, defBody s_made_of, defScope s_made_of, [], []⟩
def d_least_rows : He.DefD := ⟨("least_rows", none), "least_rows", "least_rows", defArgs s_least_rows, defBody s_least_rows, defScope s_least_rows, [], []⟩
def d_want_shares : He.DefD := ⟨("want_shares", none), "want_shares", "want_shares", defArgs s_want_shares, defBody s_want_shares, defScope s_want_shares, [], []⟩
def d_shares : He.DefD := ⟨("shares", none), "shares", "shares", defArgs s_shares, defBody s_shares, defScope s_shares, [], []⟩
def d__law_at : He.DefD := ⟨("_law_at", none), "_law_at", "_law_at", defArgs s_Lat, defBody s_Lat, defScope s_Lat, [], []⟩
def d__law_pot : He.DefD := ⟨("_law_pot", none), "_law_pot", "_law_pot", defArgs s_Lpot, defBody s_Lpot, defScope s_Lpot, [], []⟩
def d__law_take : He.DefD := ⟨("_law_take", none), "_law_take", "_law_take", defArgs s_Ltake, defBody s_Ltake, defScope s_Ltake, [], []⟩
def d__law_counts : He.DefD := ⟨("_law_counts", none), "_law_counts", "_law_counts", defArgs s_Lcounts, defBody s_Lcounts, defScope s_Lcounts, [], []⟩
def d__law_thing : He.DefD := ⟨("_law_thing", none), "_law_thing", "_law_thing", defArgs s_Lthing, defBody s_Lthing, defScope s_Lthing, [], []⟩
def d__law_bad_count : He.DefD := ⟨("_law_bad_count", none), "_law_bad_count", "_law_bad_count", defArgs s_Lbad_count, defBody s_Lbad_count, defScope s_Lbad_count, [], []⟩
def d__law_put : He.DefD := ⟨("_law_put", none), "_law_put", "_law_put", defArgs s_Lput, defBody s_Lput, defScope s_Lput, [], []⟩
def d__law_bad_counts : He.DefD := ⟨("_law_bad_counts", none), "_law_bad_counts", "_law_bad_counts", defArgs s_Lbad_counts, defBody s_Lbad_counts, defScope s_Lbad_counts, [], []⟩
def d__law_bad_sides : He.DefD := ⟨("_law_bad_sides", none), "_law_bad_sides", "_law_bad_sides", defArgs s_Lbad_sides, defBody s_Lbad_sides, defScope s_Lbad_sides, [], []⟩
def d__law_bad_row : He.DefD := ⟨("_law_bad_row", none), "_law_bad_row", "_law_bad_row", defArgs s_Lbad_row, defBody s_Lbad_row, defScope s_Lbad_row, [], []⟩
def d__law_kinds : He.DefD := ⟨("_law_kinds", none), "_law_kinds", "_law_kinds", defArgs s_Lkinds, defBody s_Lkinds, defScope s_Lkinds, [], []⟩
def d__law_of_rows : He.DefD := ⟨("_law_of_rows", none), "_law_of_rows", "_law_of_rows", defArgs s_Lof_rows, defBody s_Lof_rows, defScope s_Lof_rows, [], []⟩
def d__law_of_shares : He.DefD := ⟨("_law_of_shares", none), "_law_of_shares", "_law_of_shares", defArgs s_Lof_shares, defBody s_Lof_shares, defScope s_Lof_shares, [], []⟩
def d_law : He.DefD := ⟨("law", none), "law", "law", defArgs s_law, defBody s_law, defScope s_law, [], []⟩
def fn : List He.DefD := ([d_is_whole, d_is_counts, d_want_equation, d_want_row, d_holds, d_made_of, d_least_rows, d_want_shares, d_shares, d__law_at, d__law_pot, d__law_take, d__law_counts, d__law_thing, d__law_bad_count, d__law_put, d__law_bad_counts, d__law_bad_sides] : List He.DefD) ++ ([d__law_bad_row, d__law_kinds, d__law_of_rows, d__law_of_shares, d_law] : List He.DefD)
def fa : List He.Fa := ([.glo "is_whole", .glo "is_counts", .glo "want_equation", .glo "want_row", .glo "holds", .glo "made_of", .glo "least_rows", .glo "want_shares", .glo "shares", .glo "_law_at", .glo "_law_pot", .glo "_law_take", .glo "_law_counts", .glo "_law_thing", .glo "_law_bad_count", .glo "_law_put", .glo "_law_bad_counts", .glo "_law_bad_sides"] : List He.Fa) ++ ([.glo "_law_bad_row", .glo "_law_kinds", .glo "_law_of_rows", .glo "_law_of_shares", .glo "law", .int "MOST_COUNT" 4, .int "MOST_COUNTS" 4, .int "MOST_WHOLE" 24, .free "isinstance", .free "len", .free "all", .free "any", .free "sum", .free "min", .free "max", .free "range", .free "zip", .free "enumerate"] : List He.Fa) ++ ([.free "reversed", .free "sorted", .free "list", .free "tuple", .free "dict", .free "set", .free "str", .free "int", .free "bool", .free "abs", .free "repr", .glo "NoCounts", .exc "NoCounts", .exm "NoCounts" "NoCounts" true, .glo "NoRow", .exc "NoRow", .exm "NoRow" "NoRow" true] : List He.Fa) ++ ([.glo "LikeError", .glo "NoCounts", .glo "NoRow", .glo "NoSide", .glo "NoTerm", .glo "TooMuch", .free "ValueError", .exm "NoCounts" "LikeError" true, .exm "NoRow" "LikeError" true] : List He.Fa)
def loose : List Str := (["LikeError", "NoTerm", "NoCounts", "NoRow", "NoSide", "TooMuch", "MOST_COUNT", "MOST_COUNTS", "is_whole", "is_counts", "want_equation", "want_row", "difference", "is_under", "is_over_some", "holds", "with_one", "grown"] : List Str) ++ (["next_rows", "least_from", "pure_rows", "least_of", "least_rows", "times_in", "made_of", "MOST_WHOLE", "want_shares", "with_next", "shares", "_law_at", "_law_pot", "_law_take", "_law_counts", "_law_thing", "_law_bad_count", "_law_put"] : List Str) ++ (["_law_bad_counts", "_law_bad_sides", "_law_bad_row", "_law_kinds", "_law_of_rows", "_law_of_shares"] : List Str)
abbrev R : PySem.W.OpenRow := PySem.W.OpenLaw.row PySem.Challenge.rw_likefill_k46_counts_refused
def tx : List Fx := [.ec "NoCounts", .is "NoCounts" "LikeError" true, .isT "NoCounts" "ValueError" true, .is "NoCounts" "NoCounts" true, .is "NoCounts" "NoRow" false, .is "NoCounts" "NoSide" false, .is "NoCounts" "NoTerm" false, .is "NoCounts" "TooMuch" false, .ec "NoRow", .is "NoRow" "LikeError" true, .isT "NoRow" "ValueError" true, .is "NoRow" "NoCounts" false, .is "NoRow" "NoRow" true, .is "NoRow" "NoSide" false, .is "NoRow" "NoTerm" false, .is "NoRow" "TooMuch" false]
abbrev hk : PySem.W.Hook := hookW 5 fa fn tx
def ob (s : PySem.W.SharedT) : AlY := obsWG 5 fa fn tx (HandSHeadRun.getT s)
theorem ob_eq (s : PySem.W.SharedT) : ob s = hk.obs s.abs := obsWG_eq (HandSHeadRun.getT_eq s)
theorem run (w : World) : HandSHeadRun.RunEq R (PySem.W.view R.prog [46]) hk ob 3000 loose w := by
  intro os
  kernel_rfl
theorem facts {P : Program} {w : World} {K : PySem.W.Frag} {h : Heap} {mg : Str → Option Value} {f : Addr} (X : K.In h) (Gn : h.Ns mainGlobals mg) (hfa : mg ("law" : Str) = some (.ref f)) (c : SaysW fa fn tx K) :
    ∃ fd : FuncData, (∀ (s : Shared) (v : Value), BindsTo s fd ⟨[v], []⟩ [("_law_script", v)]) ∧ ∀ base : Heap, K.In base → base.Ns mainGlobals mg → FnOk P w K mg base L2.CX0 7 f fd ["_law_script"] (fun vs H Q _ => spT (c_law K) vs H Q fun _ _ _ => False) := by
  obtain ⟨fd_is_whole, F_is_whole⟩ := c.d.def_ 0 (d := d_is_whole) rfl
  have g_is_whole := He.glo_ok X Gn (c.d.fact 0 (f := .glo "is_whole") rfl)
  obtain ⟨fd_is_counts, F_is_counts⟩ := c.d.def_ 1 (d := d_is_counts) rfl
  have g_is_counts := He.glo_ok X Gn (c.d.fact 1 (f := .glo "is_counts") rfl)
  obtain ⟨fd_want_equation, F_want_equation⟩ := c.d.def_ 2 (d := d_want_equation) rfl
  have g_want_equation := He.glo_ok X Gn (c.d.fact 2 (f := .glo "want_equation") rfl)
  obtain ⟨fd_want_row, F_want_row⟩ := c.d.def_ 3 (d := d_want_row) rfl
  have g_want_row := He.glo_ok X Gn (c.d.fact 3 (f := .glo "want_row") rfl)
  obtain ⟨fd_holds, F_holds⟩ := c.d.def_ 4 (d := d_holds) rfl
  have g_holds := He.glo_ok X Gn (c.d.fact 4 (f := .glo "holds") rfl)
  obtain ⟨fd_made_of, F_made_of⟩ := c.d.def_ 5 (d := d_made_of) rfl
  have g_made_of := He.glo_ok X Gn (c.d.fact 5 (f := .glo "made_of") rfl)
  obtain ⟨fd_least_rows, F_least_rows⟩ := c.d.def_ 6 (d := d_least_rows) rfl
  have g_least_rows := He.glo_ok X Gn (c.d.fact 6 (f := .glo "least_rows") rfl)
  obtain ⟨fd_want_shares, F_want_shares⟩ := c.d.def_ 7 (d := d_want_shares) rfl
  have g_want_shares := He.glo_ok X Gn (c.d.fact 7 (f := .glo "want_shares") rfl)
  obtain ⟨fd_shares, F_shares⟩ := c.d.def_ 8 (d := d_shares) rfl
  have g_shares := He.glo_ok X Gn (c.d.fact 8 (f := .glo "shares") rfl)
  obtain ⟨fd__law_at, F__law_at⟩ := c.d.def_ 9 (d := d__law_at) rfl
  have g__law_at := He.glo_ok X Gn (c.d.fact 9 (f := .glo "_law_at") rfl)
  obtain ⟨fd__law_pot, F__law_pot⟩ := c.d.def_ 10 (d := d__law_pot) rfl
  have g__law_pot := He.glo_ok X Gn (c.d.fact 10 (f := .glo "_law_pot") rfl)
  obtain ⟨fd__law_take, F__law_take⟩ := c.d.def_ 11 (d := d__law_take) rfl
  have g__law_take := He.glo_ok X Gn (c.d.fact 11 (f := .glo "_law_take") rfl)
  obtain ⟨fd__law_counts, F__law_counts⟩ := c.d.def_ 12 (d := d__law_counts) rfl
  have g__law_counts := He.glo_ok X Gn (c.d.fact 12 (f := .glo "_law_counts") rfl)
  obtain ⟨fd__law_thing, F__law_thing⟩ := c.d.def_ 13 (d := d__law_thing) rfl
  have g__law_thing := He.glo_ok X Gn (c.d.fact 13 (f := .glo "_law_thing") rfl)
  obtain ⟨fd__law_bad_count, F__law_bad_count⟩ := c.d.def_ 14 (d := d__law_bad_count) rfl
  have g__law_bad_count := He.glo_ok X Gn (c.d.fact 14 (f := .glo "_law_bad_count") rfl)
  obtain ⟨fd__law_put, F__law_put⟩ := c.d.def_ 15 (d := d__law_put) rfl
  have g__law_put := He.glo_ok X Gn (c.d.fact 15 (f := .glo "_law_put") rfl)
  obtain ⟨fd__law_bad_counts, F__law_bad_counts⟩ := c.d.def_ 16 (d := d__law_bad_counts) rfl
  have g__law_bad_counts := He.glo_ok X Gn (c.d.fact 16 (f := .glo "_law_bad_counts") rfl)
  obtain ⟨fd__law_bad_sides, F__law_bad_sides⟩ := c.d.def_ 17 (d := d__law_bad_sides) rfl
  have g__law_bad_sides := He.glo_ok X Gn (c.d.fact 17 (f := .glo "_law_bad_sides") rfl)
  obtain ⟨fd__law_bad_row, F__law_bad_row⟩ := c.d.def_ 18 (d := d__law_bad_row) rfl
  have g__law_bad_row := He.glo_ok X Gn (c.d.fact 18 (f := .glo "_law_bad_row") rfl)
  obtain ⟨fd__law_kinds, F__law_kinds⟩ := c.d.def_ 19 (d := d__law_kinds) rfl
  have g__law_kinds := He.glo_ok X Gn (c.d.fact 19 (f := .glo "_law_kinds") rfl)
  obtain ⟨fd__law_of_rows, F__law_of_rows⟩ := c.d.def_ 20 (d := d__law_of_rows) rfl
  have g__law_of_rows := He.glo_ok X Gn (c.d.fact 20 (f := .glo "_law_of_rows") rfl)
  obtain ⟨fd__law_of_shares, F__law_of_shares⟩ := c.d.def_ 21 (d := d__law_of_shares) rfl
  have g__law_of_shares := He.glo_ok X Gn (c.d.fact 21 (f := .glo "_law_of_shares") rfl)
  obtain ⟨fd_law, F_law⟩ := c.d.def_ 22 (d := d_law) rfl
  have b : Bi mg := ⟨He.free_ok X Gn (c.d.fact 26 (f := .free "isinstance") rfl), He.free_ok X Gn (c.d.fact 27 (f := .free "len") rfl), He.free_ok X Gn (c.d.fact 28 (f := .free "all") rfl), He.free_ok X Gn (c.d.fact 29 (f := .free "any") rfl), He.free_ok X Gn (c.d.fact 30 (f := .free "sum") rfl), He.free_ok X Gn (c.d.fact 31 (f := .free "min") rfl), He.free_ok X Gn (c.d.fact 32 (f := .free "max") rfl), He.free_ok X Gn (c.d.fact 33 (f := .free "range") rfl), He.free_ok X Gn (c.d.fact 34 (f := .free "zip") rfl), He.free_ok X Gn (c.d.fact 35 (f := .free "enumerate") rfl), He.free_ok X Gn (c.d.fact 36 (f := .free "reversed") rfl), He.free_ok X Gn (c.d.fact 37 (f := .free "sorted") rfl), He.free_ok X Gn (c.d.fact 38 (f := .free "list") rfl), He.free_ok X Gn (c.d.fact 39 (f := .free "tuple") rfl), He.free_ok X Gn (c.d.fact 40 (f := .free "dict") rfl), He.free_ok X Gn (c.d.fact 41 (f := .free "set") rfl), He.free_ok X Gn (c.d.fact 42 (f := .free "str") rfl), He.free_ok X Gn (c.d.fact 43 (f := .free "int") rfl), He.free_ok X Gn (c.d.fact 44 (f := .free "bool") rfl), He.free_ok X Gn (c.d.fact 45 (f := .free "abs") rfl), He.free_ok X Gn (c.d.fact 46 (f := .free "repr") rfl)⟩
  obtain ⟨t_MOST_COUNT, i_MOST_COUNT⟩ := He.int_ok X Gn (c.d.fact 23 (f := .int "MOST_COUNT" 4) rfl)
  obtain ⟨t_MOST_COUNTS, i_MOST_COUNTS⟩ := He.int_ok X Gn (c.d.fact 24 (f := .int "MOST_COUNTS" 4) rfl)
  obtain ⟨t_MOST_WHOLE, i_MOST_WHOLE⟩ := He.int_ok X Gn (c.d.fact 25 (f := .int "MOST_WHOLE" 24) rfl)
  have e_NoCounts := He.exc_ok (c.d.fact 48 (f := .exc "NoCounts") rfl)
  have X_NoCounts : Xc K mg "NoCounts" (He.ga K "NoCounts") := ⟨e_NoCounts.1, e_NoCounts.2.1, e_NoCounts.2.2.1, e_NoCounts.2.2.2, He.glo_ok X Gn (c.d.fact 47 (f := .glo "NoCounts") rfl)⟩
  have m_NoCounts := He.exm_ok (c.d.fact 49 (f := .exm "NoCounts" "NoCounts" true) rfl)
  have e_NoRow := He.exc_ok (c.d.fact 51 (f := .exc "NoRow") rfl)
  have X_NoRow : Xc K mg "NoRow" (He.ga K "NoRow") := ⟨e_NoRow.1, e_NoRow.2.1, e_NoRow.2.2.1, e_NoRow.2.2.2, He.glo_ok X Gn (c.d.fact 50 (f := .glo "NoRow") rfl)⟩
  have m_NoRow := He.exm_ok (c.d.fact 52 (f := .exm "NoRow" "NoRow" true) rfl)
  have e := hfa.symm.trans (He.glo_ok X Gn (c.d.fact 22 (f := .glo "law") rfl))
  cases e
  have bb := FunD.bindsA (ps := ["_law_script"]) F_law fun _ _ _ _ _ _ us hl => match us, hl with | [_], _ => rfl
  refine ⟨fd_law, fun s v => bb s [v] rfl, fun base _ _ => ?_⟩
  let U : Uv := ⟨P, w, K, mg, base⟩
  have W_is_whole := f_whole (U := U)  b g_is_whole F_is_whole 
  have W_is_counts := f_cnt (U := U)  b g_is_counts F_is_counts W_is_whole ⟨_, i_MOST_COUNTS, t_MOST_COUNTS, rfl⟩ ⟨_, i_MOST_COUNT, t_MOST_COUNT, rfl⟩
  have W_want_equation := f_weq (U := U)  b g_want_equation F_want_equation W_is_counts X_NoCounts
  have W_want_row := f_wrow (U := U)  b g_want_row F_want_row W_is_whole X_NoRow
  have W_holds := f_holds (U := U)  b g_holds F_holds W_want_equation W_want_row
  have W_made_of := f_made (U := U)  b g_made_of F_made_of W_holds
  have W_least_rows := f_least (U := U)  b g_least_rows F_least_rows W_want_equation
  have W_want_shares := f_wsh (U := U)  b g_want_shares F_want_shares W_is_counts W_is_whole ⟨_, i_MOST_WHOLE, t_MOST_WHOLE, rfl⟩ X_NoCounts
  have W_shares := f_shares (U := U)  b g_shares F_shares W_want_shares
  have W__law_at := f_at (U := U)  b g__law_at F__law_at 
  have W__law_pot := f_pot (U := U)  b g__law_pot F__law_pot 
  have W__law_take := f_take (U := U)  b g__law_take F__law_take 
  have W__law_counts := f_counts (U := U)  b g__law_counts F__law_counts W__law_take
  have W__law_thing := f_thing (U := U)  b g__law_thing F__law_thing W__law_take
  have W__law_bad_count := f_badc (U := U)  b g__law_bad_count F__law_bad_count W__law_take
  have W__law_put := f_put (U := U)  b g__law_put F__law_put W__law_take
  have W__law_bad_counts := f_bads (U := U)  b g__law_bad_counts F__law_bad_counts W__law_take W__law_thing W__law_counts W__law_bad_count W__law_put
  have W__law_bad_sides := f_bsides (U := U)  b g__law_bad_sides F__law_bad_sides W__law_take W__law_counts W__law_bad_counts
  have W__law_bad_row := f_brow (U := U)  b g__law_bad_row F__law_bad_row W__law_take W__law_thing
  have CG : Cl U (He.ga K "LikeError") (He.ga K "NoCounts") (He.ga K "NoRow") (He.ga K "NoSide") (He.ga K "NoTerm") (He.ga K "TooMuch") := ⟨He.glo_ok X Gn (c.d.fact 53 (f := .glo "LikeError") rfl), He.free_ok X Gn (c.d.fact 59 (f := .free "ValueError") rfl), He.glo_ok X Gn (c.d.fact 54 (f := .glo "NoCounts") rfl), He.glo_ok X Gn (c.d.fact 55 (f := .glo "NoRow") rfl), He.glo_ok X Gn (c.d.fact 56 (f := .glo "NoSide") rfl), He.glo_ok X Gn (c.d.fact 57 (f := .glo "NoTerm") rfl), He.glo_ok X Gn (c.d.fact 58 (f := .glo "TooMuch") rfl)⟩
  have m1 := He.exm_ok (c.d.fact 60 (f := .exm "NoCounts" "LikeError" true) rfl)
  have m2 := He.exm_ok (c.d.fact 61 (f := .exm "NoRow" "LikeError" true) rfl)
  have K1 : Kn K (He.ga K "LikeError") (He.ga K "NoCounts") (He.ga K "NoRow") (He.ga K "NoSide") (He.ga K "NoTerm") (He.ga K "TooMuch") (He.ga K "NoCounts") true false := ⟨ec_ok (c.at_ 0 (t := .ec "NoCounts") rfl), is_ok (c.at_ 1 (t := .is "NoCounts" "LikeError" true) rfl), isT_ok (c.at_ 2 (t := .isT "NoCounts" "ValueError" true) rfl), is_ok (c.at_ 3 (t := .is "NoCounts" "NoCounts" true) rfl), is_ok (c.at_ 4 (t := .is "NoCounts" "NoRow" false) rfl), is_ok (c.at_ 5 (t := .is "NoCounts" "NoSide" false) rfl), is_ok (c.at_ 6 (t := .is "NoCounts" "NoTerm" false) rfl), is_ok (c.at_ 7 (t := .is "NoCounts" "TooMuch" false) rfl)⟩
  have K2 : Kn K (He.ga K "LikeError") (He.ga K "NoCounts") (He.ga K "NoRow") (He.ga K "NoSide") (He.ga K "NoTerm") (He.ga K "TooMuch") (He.ga K "NoRow") false true := ⟨ec_ok (c.at_ 8 (t := .ec "NoRow") rfl), is_ok (c.at_ 9 (t := .is "NoRow" "LikeError" true) rfl), isT_ok (c.at_ 10 (t := .isT "NoRow" "ValueError" true) rfl), is_ok (c.at_ 11 (t := .is "NoRow" "NoCounts" false) rfl), is_ok (c.at_ 12 (t := .is "NoRow" "NoRow" true) rfl), is_ok (c.at_ 13 (t := .is "NoRow" "NoSide" false) rfl), is_ok (c.at_ 14 (t := .is "NoRow" "NoTerm" false) rfl), is_ok (c.at_ 15 (t := .is "NoRow" "TooMuch" false) rfl)⟩
  have W__law_kinds := f_kinds (U := U)  b g__law_kinds F__law_kinds CG K1
  have W_k2 := f_kinds (U := U) b g__law_kinds F__law_kinds CG K2
  have W__law_of_rows := f_orows (U := U)  b g__law_of_rows F__law_of_rows W_holds W_made_of W_least_rows W__law_kinds W_k2 CG.l m1 m2
  have W__law_of_shares := f_oshares (U := U)  b g__law_of_shares F__law_of_shares W_shares W__law_kinds CG.l m1
  exact fn_calm (f_law (U := U)  b F_law W__law_at W__law_pot W__law_take W__law_counts W__law_bad_counts W__law_bad_sides W__law_bad_row W__law_of_rows W__law_of_shares)
end K46
open PySem PySem.W PySem.Calls PyProof.Rows
theorem PySem.Challenge.cw_likefill_k46_counts_refused_holds : PySem.Challenge.rw_likefill_k46_counts_refused.Holds := by
  w_on; o_law
  refine HandSHeadRun.head_any (r := OpenLaw.row PySem.Challenge.rw_likefill_k46_counts_refused) (q := view (OpenLaw.row PySem.Challenge.rw_likefill_k46_counts_refused).prog [46]) (H := K46.hk) (ob := K46.ob) (M := 3000) (loose := K46.loose) (d := HandSHeadRun.topDef (OpenLaw.row PySem.Challenge.rw_likefill_k46_counts_refused).prog 46) (kwd := []) K46.ob_eq
    (by kernel_rfl) (fun s => by kernel_rfl) K46.run (by kernel_rfl) (by kernel_rfl) (by kernel_rfl) (by rfl) (by first | assumption | decide +kernel) (by decide +kernel) ⟨rfl, rfl, rfl, rfl, rfl, by decide +kernel⟩ ?hw ?hc
  case hw => w_witness2
  case hc =>
    refine L2.walk_ofE (l := PySem.Challenge.rw_likefill_k46_counts_refused) (n := 63) (k := 7) (x := "_law_script") (CX := L2.CX0) rfl (by decide) (by kernel_rfl) ⟨rfl, by decide, by decide⟩ ?F (fun _ _ _ _ z => z)
    intro w mg fa h Y Gn hmg0
    obtain ⟨KK, KX, c⟩ := Y
    have hmg : mg ("law" : PySem.Str) = some (.ref fa) := by
      have e : (HandSHeadRun.topDef (OpenLaw.row PySem.Challenge.rw_likefill_k46_counts_refused).prog 46).name = ("law" : PySem.Str) := by kernel_rfl
      rw [← e]
      exact hmg0
    obtain ⟨fd, hb, hF⟩ := K46.facts (P := (PySem.Challenge.rw_likefill_k46_counts_refused).prog) (w := w) KX Gn hmg c
    exact ⟨KK, fd, (fun vs H Q _ => G.spT (K46.c_law KK) vs H Q fun _ _ _ => False), KX, hb, fun H a ns hl _ hS => G.script_call (φ := K46.c_law KK) rfl (fun _ => rfl) trivial rfl hS, hF⟩

