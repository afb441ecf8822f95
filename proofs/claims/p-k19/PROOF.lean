import PyProof.Rows.All
import Wide.All
import OpenK.AllK
import Wide.FinOn
import HandS.ForMost
import HandS.Flow
import HandS.Conv
import HandS.Wide
import HandS.Gcd
import HandS.TupAny
import HandS.Lambda
import HandS.Nested
import HandS.EndTab
import HandS.ForExc
import HandS.IsInst
import HandS.SortInts
import KE.KTupSum
import KE.GoesMore
import KE.KNestM
import HandS.Star
import HandS.Style
import HandS.Zip
import HandS.TupMul
import HandS.SetFor
import HandS.Strs
import KE.KDictWalk
import KE.KDictSum
import HandS.NoneIn
import HandS.SortKw
import PyProof.ZipIter
import PyProof.TupleOfSeq
import PySem.Challenge.RW_shiftranges_k19_whole_bounds
set_option Elab.async false
set_option linter.all false
set_option maxRecDepth 100000
set_option maxHeartbeats 4000000
/-! the layer of plain data: what an expression gives, as data -/
namespace DL
open PySem PySem.Spec PyProof.Rows L2 LamX
abbrev D := PyData
/-- addresses that may change: ex, not to be taken for data that stands still; bw, bowls -/
structure Wd where
  ex : Addr → Prop
  bw : Addr → Prop
  sub : ∀ a, bw a → ex a
def keyD : Key → D
  | .inl i => .int i
  | .inr x => .str x
/-- a list that stands still -/
def Fz (ex : Addr → Prop) (H : Hp) (a : Addr) (vs : List V) : Prop := H a = some (.lst vs) ∧ ¬ ex a
/-- what may be one's own: a list, a dict -/
def LD : HO → Prop
  | .lst _ => True
  | .dK _ => True
  | .dT _ => True
  | _ => False
/-- a dict's entries, its keys as data -/
inductive DctO : HO → List (D × V) → Prop where
  | k (ks : List (Key × V)) : DctO (.dK ks) (ks.map fun p => (keyD p.1, p.2))
  | t (ks : List (List Key × V)) : ks ≠ [] → DctO (.dT ks) (ks.map fun p => (.tuple (p.1.map keyD), p.2))
theorem DctO.ld {u : HO} {es : List (D × V)} (h : DctO u es) : LD u := by cases h <;> exact trivial
mutual
def Rep (K : PySem.W.Frag) (ex : Addr → Prop) (H : Hp) : D → V → Prop
  | .none, v => v = .non
  | .bool b, v => v = .bl b
  | .int i, v => v = .int i
  | .str x, v => v = .str x
  | .tuple l, v => ∃ a vs, v = .ref a ∧ SqT K H a vs ∧ RepL K ex H l vs
  | .list l, v => ∃ a vs, v = .ref a ∧ Fz ex H a vs ∧ RepL K ex H l vs
  | .dict l, v => ∃ a o u es, v = .ref a ∧ H a = some (.frz o u) ∧ DctO u es ∧ RepK K ex H l es
def RepL (K : PySem.W.Frag) (ex : Addr → Prop) (H : Hp) : List D → List V → Prop
  | [], vs => vs = []
  | d :: l, vs => ∃ v r, vs = v :: r ∧ Rep K ex H d v ∧ RepL K ex H l r
def RepK (K : PySem.W.Frag) (ex : Addr → Prop) (H : Hp) : List (D × D) → List (D × V) → Prop
  | [], ks => ks = []
  | (k, d) :: l, ks => ∃ v r, ks = (k, v) :: r ∧ Rep K ex H d v ∧ RepK K ex H l r
end
def BowlAt (H : Hp) (a : Addr) : Prop := ∃ x y z : Int, H a = some (.lst [.int x, .int y, .int z])
structure Ok (T : List (Addr × Str)) (w : Wd) (H : Hp) : Prop where
  al : ∀ a, w.ex a → ∃ o, H a = some o ∧ LD o
  bowl : ∀ a, w.bw a → BowlAt H a
  tabs : Tabs T H
structure Le (w : Wd) (H : Hp) (w' : Wd) (H' : Hp) : Prop where
  ex : ∀ a, w.ex a → w'.ex a
  bw : ∀ a, w.bw a → w'.bw a
  new : ∀ a, w'.ex a → w.ex a ∨ H a = none
  nbw : ∀ a, w'.bw a → w.bw a ∨ H a = none
  keep : ∀ a o, H a = some o → ¬ w.bw a → (∀ ps, o ≠ .tbl ps) → H' a = some o
  non : ∀ a, H' a = none → H a = none
theorem Le.refl (w : Wd) (H : Hp) : Le w H w H := ⟨fun _ h => h, fun _ h => h, fun _ h => .inl h, fun _ h => .inl h, fun _ _ h _ _ => h, fun _ h => h⟩
theorem Le.trans {w w1 w2 : Wd} {H H1 H2 : Hp} (a : Le w H w1 H1) (b : Le w1 H1 w2 H2) : Le w H w2 H2 where
  ex := fun x h => b.ex x (a.ex x h)
  bw := fun x h => b.bw x (a.bw x h)
  new := fun x h => by
    rcases b.new x h with h | h
    · exact a.new x h
    · exact .inr (a.non x h)
  nbw := fun x h => by
    rcases b.nbw x h with h | h
    · exact a.nbw x h
    · exact .inr (a.non x h)
  keep := fun x o h n t => by
    have h1 := a.keep x o h n t
    refine b.keep x o h1 (fun q => ?_) t
    rcases a.nbw x q with z | z
    · exact n z
    · rw [h] at z; cases z
  non := fun x h => a.non x (b.non x h)
theorem Ok.fresh {T : List (Addr × Str)} {w : Wd} {H : Hp} (ok : Ok T w H) {p : Addr} (h : H p = none) : ¬ w.ex p := fun z => by
  obtain ⟨o, e, _⟩ := ok.al p z
  rw [h] at e; cases e
theorem Ok.nex {T : List (Addr × Str)} {w : Wd} {H : Hp} (ok : Ok T w H) {p : Addr} {o : HO} (h : H p = some o) (n : ¬ LD o) : ¬ w.ex p := fun z => by
  obtain ⟨u, e, l⟩ := ok.al p z
  rw [h] at e
  cases e
  exact n l
/-- a new object -/
theorem Le.new1 {w : Wd} {H : Hp} {p : Addr} {o : HO} (h : H p = none) : Le w H w (upd H p o) :=
  ⟨fun _ h => h, fun _ h => h, fun _ h => .inl h, fun _ h => .inl h, fun a u e _ _ => by rw [upd_ne (ne_of_none e h)]; exact e, fun a e => by
    unfold upd at e
    split at e
    · cases e
    · exact e⟩
theorem Ok.new1 {T : List (Addr × Str)} {w : Wd} {H : Hp} (ok : Ok T w H) {p : Addr} {o : HO} (h : H p = none) : Ok T w (upd H p o) where
  al := fun a z => by
    obtain ⟨u, e, l⟩ := ok.al a z
    exact ⟨u, by rw [upd_ne (ne_of_none e h)]; exact e, l⟩
  bowl := fun a z => by
    obtain ⟨x, y, t, e⟩ := ok.bowl a z
    exact ⟨x, y, t, by rw [upd_ne (ne_of_none e h)]; exact e⟩
  tabs := ok.tabs.ext fun b u e => by rw [upd_ne (ne_of_none e h)]; exact e
section
variable {K : PySem.W.Frag} {T : List (Addr × Str)} {w w' : Wd} {H H' : Hp}
theorem nbw_of (ok : Ok T w H) {a : Addr} {o : HO} (h : H a = some o) (n : ∀ vs, o ≠ .lst vs) : ¬ w.bw a := fun z => by
  obtain ⟨x, y, t, e⟩ := ok.bowl a z
  rw [h] at e
  exact n _ (Option.some.inj e)
theorem SqT.le (ok : Ok T w H) (le : Le w H w' H') {a : Addr} {vs : List V} (h : SqT K H a vs) : SqT K H' a vs := by
  rcases h with (h | ⟨o, h⟩) | h
  · exact .inl (.inl (le.keep _ _ h (nbw_of ok h fun _ z => by cases z) fun _ z => by cases z))
  · exact .inl (.inr ⟨o, le.keep _ _ h (nbw_of ok h fun _ z => by cases z) fun _ z => by cases z⟩)
  · exact .inr h
theorem Fz.le (le : Le w H w' H') {a : Addr} {vs : List V} (h : Fz w.ex H a vs) : Fz w'.ex H' a vs := by
  obtain ⟨h, n⟩ := h
  refine ⟨le.keep _ _ h (fun z => n (w.sub _ z)) (fun _ z => by cases z), fun z => ?_⟩
  rcases le.new _ z with z | z
  · exact n z
  · rw [h] at z; cases z
mutual
theorem Rep.le (ok : Ok T w H) (le : Le w H w' H') : ∀ (d : D) (v : V), Rep K w.ex H d v → Rep K w'.ex H' d v
  | .none, v, h => by simpa only [Rep] using h
  | .bool b, v, h => by simpa only [Rep] using h
  | .int i, v, h => by simpa only [Rep] using h
  | .str x, v, h => by simpa only [Rep] using h
  | .tuple l, v, h => by
    simp only [Rep] at h ⊢
    obtain ⟨a, vs, e, h1, h2⟩ := h
    exact ⟨a, vs, e, SqT.le ok le h1, RepL.le ok le l vs h2⟩
  | .list l, v, h => by
    simp only [Rep] at h ⊢
    obtain ⟨a, vs, e, h1, h2⟩ := h
    exact ⟨a, vs, e, Fz.le le h1, RepL.le ok le l vs h2⟩
  | .dict l, v, h => by
    simp only [Rep] at h ⊢
    obtain ⟨a, o, u, es, e, h1, n, h2⟩ := h
    exact ⟨a, o, u, es, e, le.keep _ _ h1 (nbw_of ok h1 fun _ z => by cases z) (fun _ z => by cases z), n, RepK.le ok le l es h2⟩
theorem RepL.le (ok : Ok T w H) (le : Le w H w' H') : ∀ (l : List D) (vs : List V), RepL K w.ex H l vs → RepL K w'.ex H' l vs
  | [], vs, h => by simpa only [RepL] using h
  | d :: l, vs, h => by
    simp only [RepL] at h ⊢
    obtain ⟨v, r, e, h1, h2⟩ := h
    exact ⟨v, r, e, Rep.le ok le d v h1, RepL.le ok le l r h2⟩
theorem RepK.le (ok : Ok T w H) (le : Le w H w' H') : ∀ (l : List (D × D)) (ks : List (D × V)), RepK K w.ex H l ks → RepK K w'.ex H' l ks
  | [], ks, h => by simpa only [RepK] using h
  | (k, d) :: l, ks, h => by
    simp only [RepK] at h ⊢
    obtain ⟨v, r, e, h1, h2⟩ := h
    exact ⟨v, r, e, Rep.le ok le d v h1, RepK.le ok le l r h2⟩
end
/-- what stood still stands still -/
structure FLe (w : Wd) (H : Hp) (w' : Wd) (H' : Hp) : Prop where
  keep : ∀ a o, H a = some o → ¬ w.ex a → (∀ ps, o ≠ .tbl ps) → H' a = some o
  new : ∀ a, w'.ex a → w.ex a ∨ H a = none
  non : ∀ a, H' a = none → H a = none
theorem FLe.refl (w : Wd) (H : Hp) : FLe w H w H := ⟨fun _ _ h _ _ => h, fun _ h => .inl h, fun _ h => h⟩
theorem FLe.trans {w w1 w2 : Wd} {H H1 H2 : Hp} (a : FLe w H w1 H1) (b : FLe w1 H1 w2 H2) : FLe w H w2 H2 :=
  ⟨fun x o h n t => b.keep x o (a.keep x o h n t) (fun z => by
    rcases a.new x z with z | z
    · exact n z
    · rw [h] at z; cases z) t, fun x z => by
    rcases b.new x z with z | z
    · exact a.new x z
    · exact .inr (a.non x z), fun x z => a.non x (b.non x z)⟩
theorem Le.fle {w w' : Wd} {H H' : Hp} (l : Le w H w' H') : FLe w H w' H' := ⟨fun a o h n t => l.keep a o h (fun z => n (w.sub a z)) t, l.new, l.non⟩
/-- a function handed on: where it stands; the world that it was made in -/
structure Fv where
  f : Addr
  W : Wd
  H : Hp
/-! ### values, slots -/
/-- what an expression gives: data; a bowl; a list or dict of one's own (its content), that may change; a list that is read alone; a def handed on -/
inductive S where
  | d (x : D)
  | bowl
  | own (x : D)
  | ro (l : List D)
  | fn (v : Fv)
  | bowls (n : Nat)
/-- an exception: its class, what it keeps -/
def isOwn : S → Bool
  | .own _ => true
  | _ => false
structure Exn where
  cls : String
  val : Option (Str × D)
abbrev Rho := List (Option S)
abbrev ME := Rho → (S → Prop) → (Exn → Prop) → Prop
def OwnAt (K : PySem.W.Frag) (ex : Addr → Prop) (H : Hp) (a : Addr) : D → Prop
  | .list l => ∃ vs, H a = some (.lst vs) ∧ RepL K ex H l vs
  | .dict l => ∃ u es, H a = some u ∧ DctO u es ∧ RepK K ex H l es
  | _ => False
def RoAt (K : PySem.W.Frag) (H : Hp) (a : Addr) (vs : List V) : Prop :=
  (∃ o, H a = some (.frz o (.lst vs))) ∨ ∃ (o : Obj) (its : Array Value) (n : Nat), K.lookup a = some o ∧ o.cls = .type "list" ∧ o.dict = none ∧ o.data = .seq its n ∧ its.size ≤ sizeLine ∧ Vals vs its.toList
theorem RoAt.sq {vs : List V} {a : Addr} (h : RoAt K H a vs) : SqL K H a vs := by
  rcases h with h | h
  · exact .inl (.inr h)
  · exact .inr h
/-- a value that goes from hand to hand -/
def SRep (K : PySem.W.Frag) (w : Wd) (H : Hp) : S → V → Prop
  | .d x, v => Rep K w.ex H x v
  | .bowl, v => ∃ a, v = .ref a ∧ w.bw a
  | .own x, v => ∃ a, v = .ref a ∧ w.ex a ∧ ¬ w.bw a ∧ OwnAt K w.ex H a x
  | .ro l, v => ∃ a vs, v = .ref a ∧ RoAt K H a vs ∧ RepL K w.ex H l vs
  | .fn v, u => u = .ref v.f ∧ FLe v.W v.H w H
  | .bowls n, v => ∃ a vs, v = .ref a ∧ Fz w.ex H a vs ∧ vs.length = n ∧ ∀ x ∈ vs, ∃ b, x = .ref b ∧ w.bw b
theorem OwnAt.le (ok : Ok T w H) (le : Le w H w' H') {a : Addr} {x : D} (nb : ¬ w.bw a) (h : OwnAt K w.ex H a x) : OwnAt K w'.ex H' a x := by
  cases x with
  | list l =>
    obtain ⟨vs, h1, h2⟩ := h
    exact ⟨vs, le.keep _ _ h1 nb (fun _ z => by cases z), RepL.le ok le l vs h2⟩
  | dict l =>
    obtain ⟨u, es, h1, d, h2⟩ := h
    exact ⟨u, es, le.keep _ _ h1 nb (fun _ z => by subst z; cases d), d, RepK.le ok le l es h2⟩
  | _ => exact h.elim
theorem OwnAt.there {ex : Addr → Prop} {a : Addr} {x : D} (h : OwnAt K ex H a x) : ∃ o, H a = some o := by
  cases x with
  | list l => exact ⟨_, h.choose_spec.1⟩
  | dict l =>
    obtain ⟨u, es, h1, _⟩ := h
    exact ⟨_, h1⟩
  | _ => exact h.elim
theorem SRep.le (ok : Ok T w H) (le : Le w H w' H') {s : S} {v : V} (h : SRep K w H s v) : SRep K w' H' s v := by
  cases s with
  | d x => exact Rep.le ok le x v h
  | bowl =>
    obtain ⟨a, e, b⟩ := h
    exact ⟨a, e, le.bw a b⟩
  | own x =>
    obtain ⟨a, e, h1, h2, h3⟩ := h
    refine ⟨a, e, le.ex a h1, fun z => ?_, h3.le ok le h2⟩
    rcases le.nbw a z with z | z
    · exact h2 z
    · obtain ⟨o, e⟩ := h3.there
      rw [e] at z; cases z
  | ro l =>
    obtain ⟨a, vs, e, ⟨o, h1⟩ | h1, h3⟩ := h
    · exact ⟨a, vs, e, .inl ⟨o, le.keep _ _ h1 (nbw_of ok h1 fun _ z => by cases z) fun _ z => by cases z⟩, RepL.le ok le l vs h3⟩
    · exact ⟨a, vs, e, .inr h1, RepL.le ok le l vs h3⟩
  | fn u => exact ⟨h.1, h.2.trans le.fle⟩
  | bowls n =>
    obtain ⟨a, vs, e, f, hl, hb⟩ := h
    exact ⟨a, vs, e, f.le le, hl, fun x hx => let ⟨b, e, h⟩ := hb x hx; ⟨b, e, le.bw b h⟩⟩
/-- the slots bear what ρ says -/
structure St (K : PySem.W.Frag) (w : Wd) (ρ : Rho) (σ : L2.St) (H : Hp) : Prop where
  len : ρ.length = σ.length
  all : ∀ (i : Nat) (s : S), ρ[i]? = some (some s) → ∃ v, σ[i]? = some (some v) ∧ SRep K w H s v
  inj : ∀ (i j : Nat) (x y : D) (a : Addr), ρ[i]? = some (some (.own x)) → ρ[j]? = some (some (.own y)) → σ[i]? = some (some (.ref a)) → σ[j]? = some (some (.ref a)) → i = j
theorem St.le (ok : Ok T w H) (le : Le w H w' H') {ρ : Rho} {σ : L2.St} (h : St K w ρ σ H) : St K w' ρ σ H' :=
  ⟨h.len, fun i s e => let ⟨v, e1, r⟩ := h.all i s e; ⟨v, e1, r.le ok le⟩, h.inj⟩
/-- an exception's class and its own dict -/
def XRep (K : PySem.W.Frag) (N : String → Addr → Prop) (w : Wd) (H : Hp) (x : Exn) (cls : Value) (d : Option Addr) : Prop :=
  ∃ C, cls = .ref C ∧ N x.cls C ∧ match x.val with
    | none => d = none
    | some (f, y) => ∃ (a : Addr) (v : V), d = some a ∧ H a = some (.xd [(f, v)]) ∧ Rep K w.ex H y v
end
/-- what the reading leans on: the written part, the tables, the classes of errors, the wish about exceptions -/
structure Cn where
  K : PySem.W.Frag
  T : List (Addr × Str)
  N : String → Addr → Prop
  W : WX
abbrev Cn.quiet (C : Cn) : Cn := { C with W := fun _ _ _ _ => False }
/-- what is known of what comes behind -/
structure Ct (C : Cn) {α β : Type} (R : Wd → Hp → α → β → Prop) (w : Wd) (σ : L2.St) (H : Hp) (Q' : α → Prop) (E' : Exn → Prop) (Q : β → Hp → Prop) : Prop where
  ok : ∀ (w' : Wd) (s : α) (v : β) (H' : Hp), Le w H w' H' → Ok C.T w' H' → R w' H' s v → Q' s → Q v H'
  ex : ∀ (w' : Wd) (x : Exn) (cls : Value) (d : Option Addr) (H' : Hp), Le w H w' H' → Ok C.T w' H' → XRep C.K C.N w' H' x cls d → E' x → C.W cls d σ H'
theorem Ct.le {C : Cn} {α β : Type} {R : Wd → Hp → α → β → Prop} {w w1 : Wd} {σ : L2.St} {H H1 : Hp} {Q' : α → Prop} {E' : Exn → Prop} {Q : β → Hp → Prop} (c : Ct C R w σ H Q' E' Q) (le : Le w H w1 H1) : Ct C R w1 σ H1 Q' E' Q :=
  ⟨fun w' s v H' l => c.ok w' s v H' (le.trans l), fun w' x cls d H' l => c.ex w' x cls d H' (le.trans l)⟩
/-- what a reading of data tells of the machine's -/
def liftG (C : Cn) {α β : Type} (R : Wd → Hp → α → β → Prop) (m : Rho → (α → Prop) → (Exn → Prop) → Prop) : L2.St → Hp → (β → Hp → Prop) → Prop :=
  fun σ H Q => ∃ (w : Wd) (ρ : Rho) (Q' : α → Prop) (E' : Exn → Prop), St C.K w ρ σ H ∧ Ok C.T w H ∧ m ρ Q' E' ∧ Ct C R w σ H Q' E' Q
def RB : Wd → Hp → Bool → Bool → Prop := fun _ _ a b => a = b
def RA (K : PySem.W.Frag) : Wd → Hp → List S → List V → Prop := fun w H ss vs => Paired (SRep K w H) ss vs
abbrev MT := Rho → (Bool → Prop) → (Exn → Prop) → Prop
abbrev MA := Rho → (List S → Prop) → (Exn → Prop) → Prop
abbrev lift (C : Cn) (m : ME) : TE := liftG C (SRep C.K) m
abbrev liftT (C : Cn) (m : MT) : TT := liftG C RB m
abbrev liftA (C : Cn) (m : MA) : TA := liftG C (RA C.K) m
theorem RA.le {C : Cn} {w w' : Wd} {H H' : Hp} (ok : Ok C.T w H) (le : Le w H w' H') : ∀ {ss : List S} {vs : List V}, RA C.K w H ss vs → RA C.K w' H' ss vs
  | _, _, .nil => .nil
  | _, _, .cons r t => .cons (r.le ok le) (RA.le ok le t)
end DL
namespace DL
open PySem PySem.Spec PyProof.Rows L2 LamX
theorem _root_.L2.PE.weak {X : Cx} {e : Expr} {t t' : TE} (h : PE X e t) (k : ∀ σ H Q, t' σ H Q → t σ H Q) : PE X e t' := ⟨fun pins s σ H Q I q => h.run pins s σ H Q I (k σ H Q q)⟩
theorem _root_.L2.PT.weak {X : Cx} {e : Expr} {t t' : TT} (h : PT X e t) (k : ∀ σ H Q, t' σ H Q → t σ H Q) : PT X e t' := ⟨fun pins s σ H Q I q => h.run pins s σ H Q I (k σ H Q q)⟩
theorem _root_.L2.PW.weak {X : Cx} {e : Expr} {t t' : TT} (h : PW X e t) (k : ∀ σ H Q, t' σ H Q → t σ H Q) : PW X e t' := ⟨fun wh pins s σ H Q I q => h.run wh pins s σ H Q I (k σ H Q q)⟩
theorem _root_.L2.PA.weak {X : Cx} {es : List Expr} {t t' : TA} (h : PA X es t) (k : ∀ σ H Q, t' σ H Q → t σ H Q) : PA X es t' := ⟨fun pos pins s σ H Q I q => h.run pos pins s σ H Q I (k σ H Q q)⟩
theorem _root_.L2.PS.weak {X : Cx} {st : Stmt} {t t' : TS} (h : PS X st t) (k : ∀ D σ H, t' D σ H → t D σ H) : PS X st t' := ⟨fun pins s σ H D I q => h.run pins s σ H D I (k D σ H q)⟩
theorem _root_.L2.PSs.weak {X : Cx} {st : List Stmt} {t t' : TS} (h : PSs X st t) (k : ∀ D σ H, t' D σ H → t D σ H) : PSs X st t' := ⟨fun pins s σ H D I q => h.run pins s σ H D I (k D σ H q)⟩
section
variable {C : Cn} {σ : L2.St} {H : Hp}
/-- a reading, from its parts -/
theorem mk {α β : Type} {R : Wd → Hp → α → β → Prop} {m : Rho → (α → Prop) → (Exn → Prop) → Prop} {Q : β → Hp → Prop} {w : Wd} {ρ : Rho} {F : α → Prop} {E' : Exn → Prop} (st : St C.K w ρ σ H) (ok : Ok C.T w H) (hm : m ρ F E')
    (hk : ∀ (w' : Wd) (s : α) (v : β) (H' : Hp), Le w H w' H' → Ok C.T w' H' → R w' H' s v → F s → Q v H')
    (hx : ∀ (w' : Wd) (x : Exn) (cls : Value) (d : Option Addr) (H' : Hp), Le w H w' H' → Ok C.T w' H' → XRep C.K C.N w' H' x cls d → E' x → C.W cls d σ H') : liftG C R m σ H Q :=
  ⟨w, ρ, F, E', st, ok, hm, hk, hx⟩
/-! ### names, constants -/
def dVar (i : Nat) : ME := fun ρ Q _ => match ρ[i]? with
  | some (some s) => Q s
  | _ => False
def dC (x : D) : ME := fun _ Q _ => Q (.d x)
theorem var_ok {i : Nat} {Q : VK} (h : lift C (dVar i) σ H Q) : tVar i σ H Q := by
  obtain ⟨w, ρ, Q', E', st, ok, hm, ct⟩ := h
  unfold dVar at hm
  split at hm
  · rename_i s e
    obtain ⟨v, e1, r⟩ := st.all i s e
    exact ⟨v, e1, ct.ok w s v H (Le.refl w H) ok r hm⟩
  · exact hm.elim
theorem c_ok {x : D} {v : V} {Q : VK} (hr : ∀ ex, Rep C.K ex H x v) (h : lift C (dC x) σ H Q) : tC v σ H Q := by
  obtain ⟨w, ρ, Q', E', st, ok, hm, ct⟩ := h
  exact ct.ok w (.d x) v H (Le.refl w H) ok (hr _) hm
/-! ### operations by values -/
abbrev O1 := S → (S → Prop) → (Exn → Prop) → Prop
abbrev O2 := S → S → (S → Prop) → (Exn → Prop) → Prop
abbrev OT := S → (Bool → Prop) → (Exn → Prop) → Prop
abbrev OA := List S → (S → Prop) → (Exn → Prop) → Prop
def dOp1 (op : O1) (ma : ME) : ME := fun ρ Q E => ma ρ (fun x => op x Q E) E
def dOp2 (op : O2) (ma mb : ME) : ME := fun ρ Q E => ma ρ (fun x => mb ρ (fun y => op x y Q E) E) E
def dCB (op : OA) (ma : MA) : ME := fun ρ Q E => ma ρ (fun xs => op xs Q E) E
/-- r asks no more than op tells -/
def Is1 (C : Cn) (op : O1) (r : V → Hp → VK → Prop) : Prop := ∀ (w : Wd) (H : Hp) (σ : L2.St) (x : S) (v : V) (Q' : S → Prop) (E' : Exn → Prop) (Q : VK), Ok C.T w H → SRep C.K w H x v → op x Q' E' → Ct C (SRep C.K) w σ H Q' E' Q → r v H Q
def Is2 (C : Cn) (op : O2) (r : R2) : Prop := ∀ (w : Wd) (H : Hp) (σ : L2.St) (x y : S) (v u : V) (Q' : S → Prop) (E' : Exn → Prop) (Q : VK), Ok C.T w H → SRep C.K w H x v → SRep C.K w H y u → op x y Q' E' → Ct C (SRep C.K) w σ H Q' E' Q → r v u H Q
def IsA (C : Cn) (op : OA) (r : List V → Hp → VK → Prop) : Prop := ∀ (w : Wd) (H : Hp) (σ : L2.St) (xs : List S) (vs : List V) (Q' : S → Prop) (E' : Exn → Prop) (Q : VK), Ok C.T w H → RA C.K w H xs vs → op xs Q' E' → Ct C (SRep C.K) w σ H Q' E' Q → r vs H Q
theorem op1_ok {op : O1} {r : V → Hp → VK → Prop} {ma : ME} {Q : VK} (hi : Is1 C op r) (h : lift C (dOp1 op ma) σ H Q) : tUn r (lift C ma) σ H Q := by
  obtain ⟨w, ρ, Q', E', st, ok, hm, ct⟩ := h
  exact mk st ok hm (fun w1 x v H1 le ok1 r1 q => hi w1 H1 σ x v Q' E' Q ok1 r1 q (ct.le le)) ct.ex
theorem op2_ok {op : O2} {r : R2} {ma mb : ME} {Q : VK} (hi : Is2 C op r) (h : lift C (dOp2 op ma mb) σ H Q) : tOp r (lift C ma) (lift C mb) σ H Q := by
  obtain ⟨w, ρ, Q', E', st, ok, hm, ct⟩ := h
  refine mk st ok hm (fun w1 x v H1 le ok1 r1 q => ?_) ct.ex
  exact mk (st.le ok le) ok1 q (fun w2 y u H2 le2 ok2 r2 q2 => hi w2 H2 σ x y v u Q' E' Q ok2 (r1.le ok1 le2) r2 q2 ((ct.le le).le le2)) (ct.le le).ex
theorem cb_ok {op : OA} {r : List V → Hp → VK → Prop} {ma : MA} {Q : VK} (hi : IsA C op r) (h : lift C (dCB op ma) σ H Q) : tCB r (liftA C ma) σ H Q := by
  obtain ⟨w, ρ, Q', E', st, ok, hm, ct⟩ := h
  exact mk st ok hm (fun w1 x v H1 le ok1 r1 q => hi w1 H1 σ x v Q' E' Q ok1 r1 q (ct.le le)) ct.ex
/-! ### arguments -/
def dNil : MA := fun _ Q _ => Q []
def dCons (ma : ME) (mr : MA) : MA := fun ρ Q E => ma ρ (fun x => mr ρ (fun xs => Q (x :: xs)) E) E
theorem nil_ok {Q : List V → Hp → Prop} (h : liftA C dNil σ H Q) : tNil σ H Q := by
  obtain ⟨w, ρ, Q', E', st, ok, hm, ct⟩ := h
  exact ct.ok w [] [] H (Le.refl w H) ok .nil hm
theorem cons_ok {ma : ME} {mr : MA} {Q : List V → Hp → Prop} (h : liftA C (dCons ma mr) σ H Q) : tCons (lift C ma) (liftA C mr) σ H Q := by
  obtain ⟨w, ρ, Q', E', st, ok, hm, ct⟩ := h
  refine mk st ok hm (fun w1 x v H1 le ok1 r1 q => ?_) ct.ex
  exact mk (st.le ok le) ok1 q (fun w2 xs us H2 le2 ok2 r2 q2 => ct.ok w2 (x :: xs) (v :: us) H2 (le.trans le2) ok2 (.cons (r1.le ok1 le2) r2) q2) (ct.le le).ex
/-! ### tests -/
def onB (s : S) (P : Bool → Prop) : Prop := match s with
  | .d (.bool b) => P b
  | _ => False
def dB (m : ME) : MT := fun ρ Q E => m ρ (fun s => onB s Q) E
def dAnd (a b : MT) : MT := fun ρ Q E => a ρ (fun c => if c = true then b ρ Q E else Q false) E
def dOr (a b : MT) : MT := fun ρ Q E => a ρ (fun c => if c = true then Q true else b ρ Q E) E
def dNot (a : MT) : MT := fun ρ Q E => a ρ (fun c => Q (!c)) E
def dAndV (a b : ME) : ME := fun ρ Q E => a ρ (fun s => onB s fun c => if c = true then b ρ Q E else Q (.d (.bool false))) E
def dOrV (a b : ME) : ME := fun ρ Q E => a ρ (fun s => onB s fun c => if c = true then Q (.d (.bool true)) else b ρ Q E) E
def dNotV (a : ME) : ME := fun ρ Q E => a ρ (fun s => onB s fun c => Q (.d (.bool (!c)))) E
def dIf (t : MT) (a b : ME) : ME := fun ρ Q E => t ρ (fun c => if c = true then a ρ Q E else b ρ Q E) E
theorem bool_of {w : Wd} {H : Hp} {s : S} {v : V} {P : Bool → Prop} (r : SRep C.K w H s v) (q : onB s P) : ∃ b, s = .d (.bool b) ∧ v = .bl b ∧ P b := by
  unfold onB at q
  split at q
  · rename_i b
    exact ⟨b, rfl, by simpa only [SRep, Rep] using r, q⟩
  · exact q.elim
theorem b_ok {m : ME} {Q : Bool → Hp → Prop} (h : liftT C (dB m) σ H Q) : tB (lift C m) σ H Q := by
  obtain ⟨w, ρ, Q', E', st, ok, hm, ct⟩ := h
  refine mk st ok hm (fun w1 x v H1 le ok1 r1 q => ?_) ct.ex
  obtain ⟨b, rfl, rfl, q⟩ := bool_of (C := C) r1 q
  exact ⟨b, rfl, ct.ok w1 b b H1 le ok1 rfl q⟩
theorem and_ok {a b : MT} {Q : Bool → Hp → Prop} (h : liftT C (dAnd a b) σ H Q) : tAnd (liftT C a) (liftT C b) σ H Q := by
  obtain ⟨w, ρ, Q', E', st, ok, hm, ct⟩ := h
  refine mk st ok hm (fun w1 x v H1 le ok1 r1 q => ?_) ct.ex
  have e : x = v := r1
  subst e
  cases x with
  | true => exact ⟨w1, ρ, Q', E', st.le ok le, ok1, q, ct.le le⟩
  | false => exact ct.ok w1 false false H1 le ok1 rfl q
theorem or_ok {a b : MT} {Q : Bool → Hp → Prop} (h : liftT C (dOr a b) σ H Q) : tOr (liftT C a) (liftT C b) σ H Q := by
  obtain ⟨w, ρ, Q', E', st, ok, hm, ct⟩ := h
  refine mk st ok hm (fun w1 x v H1 le ok1 r1 q => ?_) ct.ex
  have e : x = v := r1
  subst e
  cases x with
  | false => exact ⟨w1, ρ, Q', E', st.le ok le, ok1, q, ct.le le⟩
  | true => exact ct.ok w1 true true H1 le ok1 rfl q
theorem not_ok {a : MT} {Q : Bool → Hp → Prop} (h : liftT C (dNot a) σ H Q) : tNot (liftT C a) σ H Q := by
  obtain ⟨w, ρ, Q', E', st, ok, hm, ct⟩ := h
  refine mk st ok hm (fun w1 x v H1 le ok1 r1 q => ?_) ct.ex
  have e : x = v := r1
  subst e
  exact ct.ok w1 (!x) (!x) H1 le ok1 rfl q
theorem andV_ok {a b : ME} {Q : VK} (h : lift C (dAndV a b) σ H Q) : tAndV (lift C a) (lift C b) σ H Q := by
  obtain ⟨w, ρ, Q', E', st, ok, hm, ct⟩ := h
  refine mk st ok hm (fun w1 x v H1 le ok1 r1 q => ?_) ct.ex
  obtain ⟨c, rfl, rfl, q⟩ := bool_of (C := C) r1 q
  refine ⟨c, rfl, ?_⟩
  cases c with
  | true => exact ⟨w1, ρ, Q', E', st.le ok le, ok1, q, ct.le le⟩
  | false => exact ct.ok w1 (.d (.bool false)) (.bl false) H1 le ok1 (by simp only [SRep, Rep]) q
theorem orV_ok {a b : ME} {Q : VK} (h : lift C (dOrV a b) σ H Q) : tOrV (lift C a) (lift C b) σ H Q := by
  obtain ⟨w, ρ, Q', E', st, ok, hm, ct⟩ := h
  refine mk st ok hm (fun w1 x v H1 le ok1 r1 q => ?_) ct.ex
  obtain ⟨c, rfl, rfl, q⟩ := bool_of (C := C) r1 q
  refine ⟨c, rfl, ?_⟩
  cases c with
  | false => exact ⟨w1, ρ, Q', E', st.le ok le, ok1, q, ct.le le⟩
  | true => exact ct.ok w1 (.d (.bool true)) (.bl true) H1 le ok1 (by simp only [SRep, Rep]) q
theorem notV_ok {a : ME} {Q : VK} (h : lift C (dNotV a) σ H Q) : tNotV (lift C a) σ H Q := by
  obtain ⟨w, ρ, Q', E', st, ok, hm, ct⟩ := h
  refine mk st ok hm (fun w1 x v H1 le ok1 r1 q => ?_) ct.ex
  obtain ⟨c, rfl, rfl, q⟩ := bool_of (C := C) r1 q
  exact ⟨c, rfl, ct.ok w1 (.d (.bool (!c))) (.bl (!c)) H1 le ok1 (by simp only [SRep, Rep]) q⟩
theorem if_ok {t : MT} {a b : ME} {Q : VK} (h : lift C (dIf t a b) σ H Q) : tIf (liftT C t) (lift C a) (lift C b) σ H Q := by
  obtain ⟨w, ρ, Q', E', st, ok, hm, ct⟩ := h
  refine mk st ok hm (fun w1 x v H1 le ok1 r1 q => ?_) ct.ex
  have e : x = v := r1
  subst e
  cases x with
  | true => exact ⟨w1, ρ, Q', E', st.le ok le, ok1, q, ct.le le⟩
  | false => exact ⟨w1, ρ, Q', E', st.le ok le, ok1, q, ct.le le⟩
end
end DL
namespace DL
open PySem PySem.Spec PyProof.Rows L2 LamX
/-! ### statements -/
section
variable {K : PySem.W.Frag} {T : List (Addr × Str)} {w w' : Wd} {H H' : Hp}
theorem SqT.fle (ok : Ok T w H) (le : FLe w H w' H') {a : Addr} {vs : List V} (h : SqT K H a vs) : SqT K H' a vs := by
  rcases h with (h | ⟨o, h⟩) | h
  · exact .inl (.inl (le.keep _ _ h (ok.nex h fun z => z) fun _ z => by cases z))
  · exact .inl (.inr ⟨o, le.keep _ _ h (ok.nex h fun z => z) fun _ z => by cases z⟩)
  · exact .inr h
theorem RoAt.fle (ok : Ok T w H) (le : FLe w H w' H') {a : Addr} {vs : List V} (h : RoAt K H a vs) : RoAt K H' a vs := by
  rcases h with ⟨o, h⟩ | h
  · exact .inl ⟨o, le.keep _ _ h (ok.nex h fun z => z) fun _ z => by cases z⟩
  · exact .inr h
theorem Fz.fle (le : FLe w H w' H') {a : Addr} {vs : List V} (h : Fz w.ex H a vs) : Fz w'.ex H' a vs := by
  obtain ⟨h, n⟩ := h
  refine ⟨le.keep _ _ h n (fun _ z => by cases z), fun z => ?_⟩
  rcases le.new _ z with z | z
  · exact n z
  · rw [h] at z; cases z
mutual
theorem Rep.fle (ok : Ok T w H) (le : FLe w H w' H') : ∀ (d : D) (v : V), Rep K w.ex H d v → Rep K w'.ex H' d v
  | .none, v, h => by simpa only [Rep] using h
  | .bool b, v, h => by simpa only [Rep] using h
  | .int i, v, h => by simpa only [Rep] using h
  | .str x, v, h => by simpa only [Rep] using h
  | .tuple l, v, h => by
    simp only [Rep] at h ⊢
    obtain ⟨a, vs, e, h1, h2⟩ := h
    exact ⟨a, vs, e, SqT.fle ok le h1, RepL.fle ok le l vs h2⟩
  | .list l, v, h => by
    simp only [Rep] at h ⊢
    obtain ⟨a, vs, e, h1, h2⟩ := h
    exact ⟨a, vs, e, Fz.fle le h1, RepL.fle ok le l vs h2⟩
  | .dict l, v, h => by
    simp only [Rep] at h ⊢
    obtain ⟨a, o, u, es, e, h1, n, h2⟩ := h
    exact ⟨a, o, u, es, e, le.keep _ _ h1 (ok.nex h1 fun z => z) (fun _ z => by cases z), n, RepK.fle ok le l es h2⟩
theorem RepL.fle (ok : Ok T w H) (le : FLe w H w' H') : ∀ (l : List D) (vs : List V), RepL K w.ex H l vs → RepL K w'.ex H' l vs
  | [], vs, h => by simpa only [RepL] using h
  | d :: l, vs, h => by
    simp only [RepL] at h ⊢
    obtain ⟨v, r, e, h1, h2⟩ := h
    exact ⟨v, r, e, Rep.fle ok le d v h1, RepL.fle ok le l r h2⟩
theorem RepK.fle (ok : Ok T w H) (le : FLe w H w' H') : ∀ (l : List (D × D)) (ks : List (PyData × V)), RepK K w.ex H l ks → RepK K w'.ex H' l ks
  | [], ks, h => by simpa only [RepK] using h
  | (k, d) :: l, ks, h => by
    simp only [RepK] at h ⊢
    obtain ⟨v, r, e, h1, h2⟩ := h
    exact ⟨v, r, e, Rep.fle ok le d v h1, RepK.fle ok le l r h2⟩
end
end
/-- the state of a def's body, entered at (w0, H0) -/
structure StS (C : Cn) (w0 : Wd) (H0 : Hp) (w : Wd) (ρ : Rho) (σ : L2.St) (H : Hp) : Prop where
  st : St C.K w ρ σ H
  ok : Ok C.T w H
  ok0 : Ok C.T w0 H0
  le : Le w0 H0 w H
  fr : ∀ (i : Nat) (x : D) (a : Addr), ρ[i]? = some (some (.own x)) → σ[i]? = some (some (.ref a)) → H0 a = none
theorem StS.go {C : Cn} {w0 w w' : Wd} {H0 H H' : Hp} {ρ : Rho} {σ : L2.St} (s : StS C w0 H0 w ρ σ H) (l : Le w H w' H') (ok' : Ok C.T w' H') : StS C w0 H0 w' ρ σ H' :=
  ⟨s.st.le s.ok l, ok', s.ok0, s.le.trans l, s.fr⟩
structure Kt where
  nx : Rho → Prop
  rt : S → Prop
  bk : Rho → Prop
  ct : Rho → Prop
  ex : Rho → Exn → Prop
abbrev MS := Rho → Kt → Prop
def thaw : S → S
  | .own x => .d x
  | s => s
/-- what is known of what comes behind a statement that starts at (w, H) -/
structure CtS (C : Cn) (w0 : Wd) (H0 : Hp) (w : Wd) (H : Hp) (k : Kt) (D : Ends) : Prop where
  nx : ∀ (w' : Wd) (ρ' : Rho) (σ' : L2.St) (H' : Hp), FLe w H w' H' → StS C w0 H0 w' ρ' σ' H' → k.nx ρ' → D.nx σ' H'
  bk : ∀ (w' : Wd) (ρ' : Rho) (σ' : L2.St) (H' : Hp), FLe w H w' H' → StS C w0 H0 w' ρ' σ' H' → k.bk ρ' → D.bk σ' H'
  ct : ∀ (w' : Wd) (ρ' : Rho) (σ' : L2.St) (H' : Hp), FLe w H w' H' → StS C w0 H0 w' ρ' σ' H' → k.ct ρ' → D.ct σ' H'
  rt : ∀ (w' : Wd) (s : S) (v : V) (H' : Hp), Le w0 H0 w' H' → Ok C.T w' H' → SRep C.K w' H' s v → isOwn s = false → k.rt s → D.rt v H'
  ex : ∀ (w' : Wd) (ρ' : Rho) (σ' : L2.St) (H' : Hp) (x : Exn) (cls : Value) (d : Option Addr), FLe w H w' H' → StS C w0 H0 w' ρ' σ' H' → XRep C.K C.N w' H' x cls d → k.ex ρ' x → C.W cls d σ' H'
theorem CtS.fle {C : Cn} {w0 w w1 : Wd} {H0 H H1 : Hp} {k : Kt} {D : Ends} (c : CtS C w0 H0 w H k D) (l : FLe w H w1 H1) : CtS C w0 H0 w1 H1 k D :=
  ⟨fun w' ρ' σ' H' l' => c.nx w' ρ' σ' H' (l.trans l'), fun w' ρ' σ' H' l' => c.bk w' ρ' σ' H' (l.trans l'), fun w' ρ' σ' H' l' => c.ct w' ρ' σ' H' (l.trans l'), c.rt,
    fun w' ρ' σ' H' x cls d l' => c.ex w' ρ' σ' H' x cls d (l.trans l')⟩
theorem CtS.le {C : Cn} {w0 w w1 : Wd} {H0 H H1 : Hp} {k : Kt} {D : Ends} (c : CtS C w0 H0 w H k D) (l : Le w H w1 H1) : CtS C w0 H0 w1 H1 k D := c.fle l.fle
def liftS (C : Cn) (w0 : Wd) (H0 : Hp) (m : MS) : TS := fun D σ H => ∃ (w : Wd) (ρ : Rho) (k : Kt), StS C w0 H0 w ρ σ H ∧ m ρ k ∧ CtS C w0 H0 w H k D
section
variable {C : Cn} {w0 : Wd} {H0 : Hp} {σ : L2.St} {H : Hp} {D : Ends}
/-! ### blocks -/
def dNext : MS := fun ρ k => k.nx ρ
def dSeq (a b : MS) : MS := fun ρ k => a ρ { k with nx := fun ρ' => b ρ' k }
def dBrk : MS := fun ρ k => k.bk ρ
def dCont : MS := fun ρ k => k.ct ρ
def dNever : MS := fun _ _ => False
theorem next_ok (h : liftS C w0 H0 dNext D σ H) : tNext D σ H := by
  obtain ⟨w, ρ, k, st, hm, ct⟩ := h
  exact ct.nx w ρ σ H (FLe.refl w H) st hm
theorem brk_ok (h : liftS C w0 H0 dBrk D σ H) : tBreak D σ H := by
  obtain ⟨w, ρ, k, st, hm, ct⟩ := h
  exact ct.bk w ρ σ H (FLe.refl w H) st hm
theorem cont_ok (h : liftS C w0 H0 dCont D σ H) : tCont D σ H := by
  obtain ⟨w, ρ, k, st, hm, ct⟩ := h
  exact ct.ct w ρ σ H (FLe.refl w H) st hm
theorem never_ok (h : liftS C w0 H0 dNever D σ H) : tNever D σ H := by
  obtain ⟨w, ρ, k, st, hm, ct⟩ := h
  exact hm.elim
theorem seq_ok {a b : MS} (h : liftS C w0 H0 (dSeq a b) D σ H) : tSeq (liftS C w0 H0 a) (liftS C w0 H0 b) D σ H := by
  obtain ⟨w, ρ, k, st, hm, ct⟩ := h
  exact ⟨w, ρ, _, st, hm, ⟨fun w' ρ' σ' H' l s q => ⟨w', ρ', k, s, q, ct.fle l⟩, ct.bk, ct.ct, ct.rt, ct.ex⟩⟩
/-- an expression within a statement -/
theorem inS {α β : Type} {R : Wd → Hp → α → β → Prop} {m : Rho → (α → Prop) → (Exn → Prop) → Prop} {F : α → Prop} {w : Wd} {ρ : Rho} {k : Kt} {Q : β → Hp → Prop} (st : StS C w0 H0 w ρ σ H) (ct : CtS C w0 H0 w H k D) (hm : m ρ F (k.ex ρ))
    (hk : ∀ (w' : Wd) (s : α) (v : β) (H' : Hp), Le w H w' H' → StS C w0 H0 w' ρ σ H' → CtS C w0 H0 w' H' k D → R w' H' s v → F s → Q v H') : liftG C R m σ H Q :=
  mk st.st st.ok hm (fun w' s v H' l ok' r q => hk w' s v H' l (st.go l ok') (ct.le l) r q) fun w' x cls d H' l ok' xr q => ct.ex w' ρ σ H' x cls d l.fle (st.go l ok') xr q
def dIfS (t : MT) (a b : MS) : MS := fun ρ k => t ρ (fun c => if c = true then a ρ k else b ρ k) (k.ex ρ)
theorem ifS_ok {t : MT} {a b : MS} (h : liftS C w0 H0 (dIfS t a b) D σ H) : tIfS (liftT C t) (liftS C w0 H0 a) (liftS C w0 H0 b) D σ H := by
  obtain ⟨w, ρ, k, st, hm, ct⟩ := h
  refine inS st ct hm fun w1 c c' H1 l st1 ct1 r q => ?_
  have e : c = c' := r
  subst e
  cases c with
  | true => exact ⟨w1, ρ, k, st1, q, ct1⟩
  | false => exact ⟨w1, ρ, k, st1, q, ct1⟩
def dDrop (m : ME) : MS := fun ρ k => m ρ (fun _ => k.nx ρ) (k.ex ρ)
theorem drop_ok {m : ME} (h : liftS C w0 H0 (dDrop m) D σ H) : tDrop (lift C m) D σ H := by
  obtain ⟨w, ρ, k, st, hm, ct⟩ := h
  exact inS st ct hm fun w1 s v H1 l st1 ct1 r q => ct1.nx w1 ρ σ H1 (FLe.refl _ _) st1 q
/-! ### names are stored -/
theorem get_set {α : Type} {l : List (Option α)} {i j : Nat} {x y : α} (h : (l.set i (some x))[j]? = some (some y)) : (i = j ∧ x = y ∧ i < l.length) ∨ (i ≠ j ∧ l[j]? = some (some y)) := by
  by_cases e : i = j
  · subst e
    by_cases hl : i < l.length
    · rw [List.getElem?_set_self hl] at h
      cases h
      exact .inl ⟨rfl, rfl, hl⟩
    · rw [List.getElem?_eq_none (by rw [List.length_set]; omega)] at h
      cases h
  · rw [List.getElem?_set_ne e] at h
    exact .inr ⟨e, h⟩
theorem St.set {K : PySem.W.Frag} {w : Wd} {ρ : Rho} {σ : L2.St} {H : Hp} (h : St K w ρ σ H) {i : Nat} {s : S} {v : V} (r : SRep K w H s v) (no : isOwn s = false) : St K w (ρ.set i (some s)) (σ.set i (some v)) H := by
  refine ⟨by rw [List.length_set, List.length_set]; exact h.len, fun j t e => ?_, fun j1 j2 x y a e1 e2 e3 e4 => ?_⟩
  · rcases get_set e with ⟨rfl, rfl, hl⟩ | ⟨ne, e⟩
    · exact ⟨v, List.getElem?_set_self (by rw [← h.len]; exact hl), r⟩
    · obtain ⟨u, e1, r1⟩ := h.all j t e
      exact ⟨u, by rw [List.getElem?_set_ne ne]; exact e1, r1⟩
  · rcases get_set e1 with ⟨rfl, rfl, hl⟩ | ⟨ne1, e1⟩
    · cases no
    · rcases get_set e2 with ⟨rfl, rfl, hl⟩ | ⟨ne2, e2⟩
      · cases no
      · rw [List.getElem?_set_ne ne1] at e3
        rw [List.getElem?_set_ne ne2] at e4
        exact h.inj j1 j2 x y a e1 e2 e3 e4
theorem StS.set {w : Wd} {ρ : Rho} (h : StS C w0 H0 w ρ σ H) {i : Nat} {s : S} {v : V} (r : SRep C.K w H s v) (no : isOwn s = false) : StS C w0 H0 w (ρ.set i (some s)) (σ.set i (some v)) H :=
  ⟨h.st.set r no, h.ok, h.ok0, h.le, fun j x a e1 e2 => by
    rcases get_set e1 with ⟨rfl, rfl, hl⟩ | ⟨ne, e1⟩
    · cases no
    · rw [List.getElem?_set_ne ne] at e2
      exact h.fr j x a e1 e2⟩
/-- what may be stored in a name, handed on -/
def plain (s : S) (P : Prop) : Prop := match s with
  | .own _ => False
  | _ => P
theorem plain_of {s : S} {P : Prop} (h : plain s P) : isOwn s = false ∧ P := by
  cases s <;> first | exact ⟨rfl, h⟩ | exact h.elim
def dAsg (i : Nat) (m : ME) : MS := fun ρ k => m ρ (fun s => plain s (k.nx (ρ.set i (some s)))) (k.ex ρ)
theorem asg_ok {i : Nat} {m : ME} (h : liftS C w0 H0 (dAsg i m) D σ H) : tAsg (lift C m) (gName i) D σ H := by
  obtain ⟨w, ρ, k, st, hm, ct⟩ := h
  refine inS st ct hm fun w1 s v H1 l st1 ct1 r q => ?_
  obtain ⟨no, q⟩ := plain_of q
  exact ct1.nx w1 _ _ H1 (FLe.refl _ _) (st1.set r no) q
/-- two names at once -/
def dPar (i j : Nat) (a b : ME) : MS := fun ρ k => a ρ (fun s => b ρ (fun t => plain s (plain t (k.nx ((ρ.set i (some s)).set j (some t))))) (k.ex ρ)) (k.ex ρ)
theorem par_ok {i j : Nat} {a b : ME} (h : liftS C w0 H0 (dPar i j a b) D σ H) : tPar i j (tCons (lift C a) (tCons (lift C b) tNil)) D σ H := by
  obtain ⟨w, ρ, k, st, hm, ct⟩ := h
  refine inS st ct hm fun w1 s v H1 l st1 ct1 r q => ?_
  refine inS st1 ct1 q fun w2 t u H2 l2 st2 ct2 r2 q2 => ?_
  obtain ⟨n1, q2⟩ := plain_of q2
  obtain ⟨n2, q2⟩ := plain_of q2
  exact ⟨v, u, rfl, ct2.nx w2 _ _ H2 (FLe.refl _ _) ((st2.set (r.le st1.ok l2) n1).set r2 n2) q2⟩
/-! ### fewer addresses are shut -/
mutual
theorem Rep.exs {K : PySem.W.Frag} {e1 e2 : Addr → Prop} {H : Hp} (hs : ∀ a, e2 a → e1 a) : ∀ (d : PyData) (v : V), Rep K e1 H d v → Rep K e2 H d v
  | .none, v, h => by simpa only [Rep] using h
  | .bool b, v, h => by simpa only [Rep] using h
  | .int i, v, h => by simpa only [Rep] using h
  | .str x, v, h => by simpa only [Rep] using h
  | .tuple l, v, h => by
    simp only [Rep] at h ⊢
    obtain ⟨a, vs, e, h1, h2⟩ := h
    exact ⟨a, vs, e, h1, RepL.exs hs l vs h2⟩
  | .list l, v, h => by
    simp only [Rep] at h ⊢
    obtain ⟨a, vs, e, ⟨h1, n⟩, h2⟩ := h
    exact ⟨a, vs, e, ⟨h1, fun z => n (hs _ z)⟩, RepL.exs hs l vs h2⟩
  | .dict l, v, h => by
    simp only [Rep] at h ⊢
    obtain ⟨a, o, u, es, e, h1, n, h2⟩ := h
    exact ⟨a, o, u, es, e, h1, n, RepK.exs hs l es h2⟩
theorem RepL.exs {K : PySem.W.Frag} {e1 e2 : Addr → Prop} {H : Hp} (hs : ∀ a, e2 a → e1 a) : ∀ (l : List PyData) (vs : List V), RepL K e1 H l vs → RepL K e2 H l vs
  | [], vs, h => by simpa only [RepL] using h
  | d :: l, vs, h => by
    simp only [RepL] at h ⊢
    obtain ⟨v, r, e, h1, h2⟩ := h
    exact ⟨v, r, e, Rep.exs hs d v h1, RepL.exs hs l r h2⟩
theorem RepK.exs {K : PySem.W.Frag} {e1 e2 : Addr → Prop} {H : Hp} (hs : ∀ a, e2 a → e1 a) : ∀ (l : List (PyData × PyData)) (ks : List (PyData × V)), RepK K e1 H l ks → RepK K e2 H l ks
  | [], ks, h => by simpa only [RepK] using h
  | (k, d) :: l, ks, h => by
    simp only [RepK] at h ⊢
    obtain ⟨v, r, e, h1, h2⟩ := h
    exact ⟨v, r, e, Rep.exs hs d v h1, RepK.exs hs l r h2⟩
end
/-- a is no longer shut -/
def Wd.drop (w : Wd) (a : Addr) (h : ¬ w.bw a) : Wd := ⟨fun b => w.ex b ∧ b ≠ a, w.bw, fun b z => ⟨w.sub b z, fun e => h (e ▸ z)⟩⟩
theorem OwnAt.freeze {K : PySem.W.Frag} {w : Wd} {H : Hp} {a : Addr} {l : List PyData} (h : ¬ w.bw a) (o : OwnAt K w.ex H a (.list l)) : Rep K (w.drop a h).ex H (.list l) (.ref a) := by
  obtain ⟨vs, h1, h2⟩ := o
  simp only [Rep]
  exact ⟨a, vs, rfl, ⟨h1, fun z => z.2 rfl⟩, RepL.exs (fun b z => z.1) l vs h2⟩
theorem Ok.drop {T : List (Addr × Str)} {w : Wd} {H : Hp} {a : Addr} (ok : Ok T w H) (h : ¬ w.bw a) : Ok T (w.drop a h) H := ⟨fun b z => ok.al b z.1, ok.bowl, ok.tabs⟩
theorem Le.drop {w : Wd} {H : Hp} {a : Addr} (h : ¬ w.bw a) (l : Le w0 H0 w H) (al : ∀ b, w0.ex b → b ≠ a) : Le w0 H0 (w.drop a h) H := ⟨fun b z => ⟨l.ex b z, al b z⟩, l.bw, fun b z => l.new b z.1, l.nbw, l.keep, l.non⟩
def dRet (m : ME) : MS := fun ρ k => m ρ (fun s => plain s (k.rt s)) (k.ex ρ)
def dRetN : MS := fun _ k => k.rt (.d .none)
/-- return x, x an own list -/
def dRetO (i : Nat) : MS := fun ρ k => match ρ[i]? with
  | some (some (.own (.list x))) => k.rt (.d (.list x))
  | _ => False
theorem ret_ok {m : ME} (h : liftS C w0 H0 (dRet m) D σ H) : tRet (lift C m) D σ H := by
  obtain ⟨w, ρ, k, st, hm, ct⟩ := h
  refine inS st ct hm fun w1 s v H1 l st1 ct1 r q => ?_
  obtain ⟨no, q⟩ := plain_of q
  exact ct1.rt w1 s v H1 st1.le st1.ok r no q
theorem retN_ok (h : liftS C w0 H0 dRetN D σ H) : tRetN D σ H := by
  obtain ⟨w, ρ, k, st, hm, ct⟩ := h
  exact ct.rt w (.d .none) .non H st.le st.ok (by simp only [SRep, Rep]) rfl hm
theorem own_at {w : Wd} {ρ : Rho} (st : StS C w0 H0 w ρ σ H) {i : Nat} {x : PyData} (e : ρ[i]? = some (some (.own x))) : ∃ a, σ[i]? = some (some (.ref a)) ∧ w.ex a ∧ ¬ w.bw a ∧ OwnAt C.K w.ex H a x ∧ H0 a = none := by
  obtain ⟨v, e1, a, rfl, h1, h2, h3⟩ := st.st.all i _ e
  exact ⟨a, e1, h1, h2, h3, st.fr i x a e e1⟩
theorem StS.nex {w : Wd} {ρ : Rho} (st : StS C w0 H0 w ρ σ H) {a : Addr} (h : H0 a = none) : ∀ b, w0.ex b → b ≠ a := fun b z e => by
  subst e
  exact st.ok0.fresh h z
theorem retO_ok {i : Nat} (h : liftS C w0 H0 (dRetO i) D σ H) : tRet (tVar i) D σ H := by
  obtain ⟨w, ρ, k, st, hm, ct⟩ := h
  unfold dRetO at hm
  split at hm
  · rename_i x e
    obtain ⟨a, e1, h1, h2, h3, h4⟩ := own_at st e
    exact ⟨.ref a, e1, ct.rt (w.drop a h2) (.d (.list x)) (.ref a) H (st.le.drop h2 (st.nex h4)) (st.ok.drop h2) (h3.freeze h2) rfl hm⟩
  · exact hm.elim
/-- an own list stands still from now on -/
def dFreeze (i : Nat) (m : MS) : MS := fun ρ k => match ρ[i]? with
  | some (some (.own (.list x))) => m (ρ.set i (some (.d (.list x)))) k
  | _ => False
theorem FLe.drop {w : Wd} {a : Addr} (h : ¬ w.bw a) : FLe w H (w.drop a h) H := ⟨fun _ _ e _ _ => e, fun _ z => .inl z.1, fun _ z => z⟩
theorem SRep.drop {K : PySem.W.Frag} {w : Wd} {H : Hp} {a : Addr} (h : ¬ w.bw a) {s : S} {v : V} (r : SRep K w H s v) (n : ∀ x, s = .own x → v ≠ .ref a) : SRep K (w.drop a h) H s v := by
  cases s with
  | d x => exact Rep.exs (fun b z => z.1) x v r
  | bowl => exact r
  | own x =>
    obtain ⟨b, e, h1, h2, h3⟩ := r
    refine ⟨b, e, ⟨h1, fun z => n x rfl (by rw [e, z])⟩, h2, ?_⟩
    cases x with
    | list l =>
      obtain ⟨vs, q1, q2⟩ := h3
      exact ⟨vs, q1, RepL.exs (fun b z => z.1) l vs q2⟩
    | dict l =>
      obtain ⟨u, es, q1, q3, q2⟩ := h3
      exact ⟨u, es, q1, q3, RepK.exs (fun b z => z.1) l es q2⟩
    | _ => exact h3.elim
  | ro l =>
    obtain ⟨b, vs, e, h1, h2⟩ := r
    exact ⟨b, vs, e, h1, RepL.exs (fun b z => z.1) l vs h2⟩
  | fn u => exact ⟨r.1, r.2.trans (FLe.drop h)⟩
  | bowls n =>
    obtain ⟨b, vs, e, f, hl, hb⟩ := r
    exact ⟨b, vs, e, ⟨f.1, fun z => f.2 z.1⟩, hl, hb⟩
theorem StS.freeze {w : Wd} {ρ : Rho} (st : StS C w0 H0 w ρ σ H) {i : Nat} {x : List PyData} (e : ρ[i]? = some (some (.own (.list x)))) : ∃ w', FLe w H w' H ∧ StS C w0 H0 w' (ρ.set i (some (.d (.list x)))) σ H := by
  obtain ⟨a, e1, h1, h2, h3, h4⟩ := own_at st e
  refine ⟨w.drop a h2, FLe.drop h2, ⟨⟨by rw [List.length_set]; exact st.st.len, fun j s e2 => ?_, fun j1 j2 x y b q1 q2 q3 q4 => ?_⟩, st.ok.drop h2, st.ok0, st.le.drop h2 (st.nex h4), fun j y b q1 q2 => ?_⟩⟩
  · rcases get_set e2 with ⟨rfl, rfl, hl⟩ | ⟨ne, e2⟩
    · exact ⟨.ref a, e1, h3.freeze h2⟩
    · obtain ⟨v, e3, r⟩ := st.st.all j s e2
      refine ⟨v, e3, r.drop h2 fun y ey ev => ?_⟩
      subst ey ev
      exact ne (st.st.inj i j (.list x) y a e e2 e1 e3)
  · rcases get_set q1 with ⟨_, z, _⟩ | ⟨ne1, q1⟩
    · cases z
    · rcases get_set q2 with ⟨_, z, _⟩ | ⟨ne2, q2⟩
      · cases z
      · exact st.st.inj j1 j2 x y b q1 q2 q3 q4
  · rcases get_set q1 with ⟨_, z, _⟩ | ⟨ne1, q1⟩
    · cases z
    · exact st.fr j y b q1 q2
theorem freeze_ok {i : Nat} {m : MS} (h : liftS C w0 H0 (dFreeze i m) D σ H) : liftS C w0 H0 m D σ H := by
  obtain ⟨w, ρ, k, st, hm, ct⟩ := h
  unfold dFreeze at hm
  split at hm
  · rename_i x e
    obtain ⟨w', fl, st'⟩ := st.freeze e
    exact ⟨w', _, k, st', hm, ct.fle fl⟩
  · exact hm.elim
/-! ### an own object is written -/
theorem ld_ne {H : Hp} {a b : Addr} {o : HO} (h : ∃ u, H a = some u ∧ LD u) (e : H b = some o) (n : ¬ LD o) : b ≠ a := fun z => by
  subst z
  obtain ⟨u, q, l⟩ := h
  rw [e] at q
  cases q
  exact n l
theorem tabs_upd {T : List (Addr × Str)} {H : Hp} {a : Addr} {o : HO} (t : Tabs T H) (h : ∃ u, H a = some u ∧ LD u) : Tabs T (upd H a o) := fun p hp => by
  obtain ⟨ps, h1, h2, h3⟩ := t p hp
  refine ⟨ps, by rw [upd_ne (ld_ne h h1 fun z => z)]; exact h1, h2, fun pos cv hc => ?_⟩
  obtain ⟨c, e1, e2⟩ := h3 pos cv hc
  refine ⟨c, e1, ?_⟩
  rw [upd_ne (ld_ne h e2 fun z => by unfold CodeO at z; exact z)]
  exact e2
section
variable {K : PySem.W.Frag} {ex : Addr → Prop} {a : Addr} {o : HO}
theorem SqT.upd (h : ∃ u, H a = some u ∧ LD u) {b : Addr} {vs : List V} (q : SqT K H b vs) : SqT K (upd H a o) b vs := by
  rcases q with (q | ⟨u, q⟩) | q
  · exact .inl (.inl (by rw [upd_ne (ld_ne h q fun z => z)]; exact q))
  · exact .inl (.inr ⟨u, by rw [upd_ne (ld_ne h q fun z => z)]; exact q⟩)
  · exact .inr q
theorem RoAt.upd (h : ∃ u, H a = some u ∧ LD u) {b : Addr} {vs : List V} (q : RoAt K H b vs) : RoAt K (upd H a o) b vs := by
  rcases q with ⟨u, q⟩ | q
  · exact .inl ⟨u, by rw [upd_ne (ld_ne h q fun z => z)]; exact q⟩
  · exact .inr q
mutual
theorem Rep.upd (h : ∃ u, H a = some u ∧ LD u) (hx : ex a) : ∀ (d : PyData) (v : V), Rep K ex H d v → Rep K ex (upd H a o) d v
  | .none, v, h => by simpa only [Rep] using h
  | .bool b, v, h => by simpa only [Rep] using h
  | .int i, v, h => by simpa only [Rep] using h
  | .str x, v, h => by simpa only [Rep] using h
  | .tuple l, v, q => by
    simp only [Rep] at q ⊢
    obtain ⟨b, vs, e, h1, h2⟩ := q
    exact ⟨b, vs, e, SqT.upd h h1, RepL.upd h hx l vs h2⟩
  | .list l, v, q => by
    simp only [Rep] at q ⊢
    obtain ⟨b, vs, e, ⟨h1, n⟩, h2⟩ := q
    exact ⟨b, vs, e, ⟨by rw [upd_ne (show b ≠ a from fun z => n (by rw [z]; exact hx))]; exact h1, n⟩, RepL.upd h hx l vs h2⟩
  | .dict l, v, q => by
    simp only [Rep] at q ⊢
    obtain ⟨b, o', u, es, e, h1, n, h2⟩ := q
    exact ⟨b, o', u, es, e, by rw [upd_ne (ld_ne h h1 fun z => z)]; exact h1, n, RepK.upd h hx l es h2⟩
theorem RepL.upd (h : ∃ u, H a = some u ∧ LD u) (hx : ex a) : ∀ (l : List PyData) (vs : List V), RepL K ex H l vs → RepL K ex (upd H a o) l vs
  | [], vs, q => by simpa only [RepL] using q
  | d :: l, vs, q => by
    simp only [RepL] at q ⊢
    obtain ⟨v, r, e, h1, h2⟩ := q
    exact ⟨v, r, e, Rep.upd h hx d v h1, RepL.upd h hx l r h2⟩
theorem RepK.upd (h : ∃ u, H a = some u ∧ LD u) (hx : ex a) : ∀ (l : List (PyData × PyData)) (ks : List (PyData × V)), RepK K ex H l ks → RepK K ex (upd H a o) l ks
  | [], ks, q => by simpa only [RepK] using q
  | (k, d) :: l, ks, q => by
    simp only [RepK] at q ⊢
    obtain ⟨v, r, e, h1, h2⟩ := q
    exact ⟨v, r, e, Rep.upd h hx d v h1, RepK.upd h hx l r h2⟩
end
end
theorem OwnAt.isLD {K : PySem.W.Frag} {ex : Addr → Prop} {a : Addr} {x : PyData} (h : OwnAt K ex H a x) : ∃ u, H a = some u ∧ LD u := by
  cases x with
  | list l => exact ⟨_, h.choose_spec.1, trivial⟩
  | dict l =>
    obtain ⟨u, es, h1, d, _⟩ := h
    exact ⟨u, h1, d.ld⟩
  | _ => exact h.elim
/-- the own object of slot i is written: y is its new content -/
theorem StS.write {w : Wd} {ρ : Rho} (st : StS C w0 H0 w ρ σ H) {i : Nat} {x y : PyData} {a : Addr} {o : HO} (e : ρ[i]? = some (some (.own x))) (ea : σ[i]? = some (some (.ref a))) (ho : LD o) (oy : OwnAt C.K w.ex (upd H a o) a y) :
    FLe w H w (upd H a o) ∧ StS C w0 H0 w (ρ.set i (some (.own y))) σ (upd H a o) := by
  obtain ⟨a', e1, h1, h2, h3, h4⟩ := own_at st e
  have z : a' = a := by rw [ea] at e1; cases e1; rfl
  subst z
  have ld := h3.isLD
  have nn : ∀ b, upd H a' o b = none → H b = none := fun b z => by
    unfold L2.upd at z
    split at z
    · cases z
    · exact z
  have ok' : Ok C.T w (upd H a' o) := by
    refine ⟨fun b z => ?_, fun b z => ?_, tabs_upd st.ok.tabs ld⟩
    · by_cases hb : b = a'
      · subst hb
        exact ⟨o, upd_same, ho⟩
      · rw [upd_ne hb]; exact st.ok.al b z
    · obtain ⟨p, q, r, e⟩ := st.ok.bowl b z
      exact ⟨p, q, r, by rw [upd_ne (show b ≠ a' from fun hb => h2 (by rw [← hb]; exact z))]; exact e⟩
  have fl : FLe w H w (upd H a' o) := ⟨fun b u q n _ => by rw [upd_ne (show b ≠ a' from fun hb => n (by rw [hb]; exact h1))]; exact q, fun b z => .inl z, nn⟩
  refine ⟨fl, ⟨⟨by rw [List.length_set]; exact st.st.len, fun j s e2 => ?_, fun j1 j2 x1 y1 b q1 q2 q3 q4 => ?_⟩, ok', st.ok0, ⟨st.le.ex, st.le.bw, st.le.new, st.le.nbw, fun b u q n t => ?_, fun b z => st.le.non b (nn b z)⟩, fun j y1 b q1 q2 => ?_⟩⟩
  · rcases get_set e2 with ⟨rfl, rfl, hl⟩ | ⟨ne, e2⟩
    · exact ⟨.ref a', e1, a', rfl, h1, h2, oy⟩
    · obtain ⟨v, e3, r⟩ := st.st.all j s e2
      refine ⟨v, e3, ?_⟩
      cases s with
      | d t => exact Rep.upd ld h1 t v r
      | bowl => exact r
      | own t =>
        obtain ⟨b, rfl, g1, g2, g3⟩ := r
        have nb : b ≠ a' := fun z => by
          subst z
          exact ne (st.st.inj i j x t b e e2 e1 e3)
        refine ⟨b, rfl, g1, g2, ?_⟩
        cases t with
        | list l =>
          obtain ⟨vs, q1, q2⟩ := g3
          exact ⟨vs, by rw [upd_ne nb]; exact q1, RepL.upd ld h1 l vs q2⟩
        | dict l =>
          obtain ⟨u, es, q1, q3, q2⟩ := g3
          exact ⟨u, es, by rw [upd_ne nb]; exact q1, q3, RepK.upd ld h1 l es q2⟩
        | _ => exact g3.elim
      | ro l =>
        obtain ⟨b, vs, e, q1, q2⟩ := r
        exact ⟨b, vs, e, RoAt.upd ld q1, RepL.upd ld h1 l vs q2⟩
      | fn u => exact ⟨r.1, r.2.trans fl⟩
      | bowls n =>
        obtain ⟨b, vs, e, f, hl, hb⟩ := r
        exact ⟨b, vs, e, ⟨by rw [upd_ne (show b ≠ a' from fun z => f.2 (by rw [z]; exact h1))]; exact f.1, f.2⟩, hl, hb⟩
  · have f1 : ∃ x', ρ[j1]? = some (some (.own x')) := by
      rcases get_set q1 with ⟨rfl, _, _⟩ | ⟨_, q1⟩
      · exact ⟨_, e⟩
      · exact ⟨_, q1⟩
    have f2 : ∃ x', ρ[j2]? = some (some (.own x')) := by
      rcases get_set q2 with ⟨rfl, _, _⟩ | ⟨_, q2⟩
      · exact ⟨_, e⟩
      · exact ⟨_, q2⟩
    obtain ⟨x1', f1⟩ := f1
    obtain ⟨x2', f2⟩ := f2
    exact st.st.inj j1 j2 x1' x2' b f1 f2 q3 q4
  · have hb : b ≠ a' := fun z => by rw [z, h4] at q; cases q
    rw [upd_ne hb]
    exact st.le.keep b u q n t
  · rcases get_set q1 with ⟨rfl, _, _⟩ | ⟨_, q1⟩
    · exact st.fr _ _ b e q2
    · exact st.fr j _ b q1 q2
end
end DL
namespace DL
open PySem PySem.Spec PyProof.Rows L2 LamX
/-! ### targets -/
inductive Sets (K : PySem.W.Frag) (w : Wd) (H : Hp) (ix : Nat → Prop) : Rho → L2.St → Rho → L2.St → Prop where
  | refl (ρ : Rho) (σ : L2.St) : Sets K w H ix ρ σ ρ σ
  | set {ρ ρ' : Rho} {σ σ' : L2.St} {i : Nat} {s : S} {v : V} : Sets K w H ix ρ σ ρ' σ' → ix i → SRep K w H s v → isOwn s = false → Sets K w H ix ρ σ (ρ'.set i (some s)) (σ'.set i (some v))
theorem Sets.st {K : PySem.W.Frag} {w : Wd} {H : Hp} {ix : Nat → Prop} {ρ ρ' : Rho} {σ σ' : L2.St} (s : Sets K w H ix ρ σ ρ' σ') (h : St K w ρ σ H) : St K w ρ' σ' H := by
  induction s with
  | refl => exact h
  | set _ _ r no ih => exact (ih h).set r no
theorem Sets.stS {C : Cn} {w0 w : Wd} {H0 H : Hp} {ix : Nat → Prop} {ρ ρ' : Rho} {σ σ' : L2.St} (s : Sets C.K w H ix ρ σ ρ' σ') (h : StS C w0 H0 w ρ σ H) : StS C w0 H0 w ρ' σ' H := by
  induction s with
  | refl => exact h
  | set _ _ r no ih => exact (ih h).set r no
abbrev MG := S → Rho → (Rho → Prop) → Prop
def IsG (C : Cn) (ix : Nat → Prop) (mg : MG) (g : TG) : Prop := ∀ (w : Wd) (H : Hp) (ρ0 ρ : Rho) (σ0 σ : L2.St) (s : S) (v : V) (P : Rho → Prop) (G : L2.St → Hp → Prop), Sets C.K w H ix ρ0 σ0 ρ σ → SRep C.K w H s v → mg s ρ P →
  (∀ (ρ' : Rho) (σ' : L2.St), Sets C.K w H ix ρ0 σ0 ρ' σ' → P ρ' → G σ' H) → g v σ H G
def gN (i : Nat) : MG := fun s ρ P => plain s (P (ρ.set i (some s)))
theorem gN_ok {C : Cn} {i : Nat} {ix : Nat → Prop} (hi : ix i) : IsG C ix (gN i) (gName i) := fun w H ρ0 ρ σ0 σ s v P G se r h k => by
  obtain ⟨no, q⟩ := plain_of h
  exact k _ _ (se.set hi r no) q
/-- the items of a tuple go to names one by one -/
def gT : List MG → MG := fun gs s ρ P => match s with
  | .d (.tuple l) => l.length = gs.length ∧ gTs gs l ρ P
  | _ => False
where gTs : List MG → List PyData → Rho → (Rho → Prop) → Prop
  | [], _, ρ, P => P ρ
  | g :: gs, d :: l, ρ, P => g (.d d) ρ (fun ρ' => gTs gs l ρ' P)
  | _ :: _, [], _, _ => False
def IsGs (C : Cn) (ix : Nat → Prop) (gs : List MG) (t : TGs) : Prop := ∀ (w : Wd) (H : Hp) (ρ0 ρ : Rho) (σ0 σ : L2.St) (l : List PyData) (vs : List V) (P : Rho → Prop) (G : L2.St → Hp → Prop), Sets C.K w H ix ρ0 σ0 ρ σ → l.length = gs.length → RepL C.K w.ex H l vs → gT.gTs gs l ρ P →
  (∀ (ρ' : Rho) (σ' : L2.St), Sets C.K w H ix ρ0 σ0 ρ' σ' → P ρ' → G σ' H) → t vs σ H G
theorem gsN_ok {C : Cn} {ix : Nat → Prop} : IsGs C ix [] gNil := fun w H ρ0 ρ σ0 σ l vs P G se e r h k => by
  cases l with
  | nil =>
    simp only [RepL] at r
    exact ⟨r, k _ _ se h⟩
  | cons d l => simp at e
theorem gsC_ok {C : Cn} {ix : Nat → Prop} {g : MG} {gs : List MG} {t : TG} {u : TGs} (h1 : IsG C ix g t) (h2 : IsGs C ix gs u) : IsGs C ix (g :: gs) (gCons t u) := fun w H ρ0 ρ σ0 σ l vs P G se e r h k => by
  cases l with
  | nil => simp at e
  | cons d l =>
    simp only [RepL] at r
    obtain ⟨v, r', rfl, r1, r2⟩ := r
    exact ⟨v, r', rfl, h1 w H ρ0 ρ σ0 σ (.d d) v _ _ se r1 h fun ρ' σ' se' q => h2 w H ρ0 ρ' σ0 σ' l r' P G se' (by simpa using e) r2 q k⟩
theorem RepL.length {K : PySem.W.Frag} {ex : Addr → Prop} {H : Hp} : ∀ {l : List PyData} {vs : List V}, RepL K ex H l vs → vs.length = l.length
  | [], vs, h => by simp only [RepL] at h; rw [h] <;> rfl
  | d :: l, vs, h => by
    simp only [RepL] at h
    obtain ⟨v, r, rfl, _, h2⟩ := h
    rw [List.length_cons, List.length_cons, RepL.length h2]
theorem gT_ok {C : Cn} {ix : Nat → Prop} {gs : List MG} {t : TGs} {n : Nat} (hn : gs.length = n) (h : IsGs C ix gs t) : IsG C ix (gT gs) (gTup C.K n t) := fun w H ρ0 ρ σ0 σ s v P G se r q k => by
  unfold gT at q
  split at q
  · rename_i l
    have r : Rep C.K w.ex H (.tuple l) v := r
    simp only [Rep] at r
    obtain ⟨a, vs, rfl, h1, h2⟩ := r
    exact ⟨a, vs, rfl, h1, by rw [h2.length, q.1, hn], h w H ρ0 ρ σ0 σ l vs P G se q.1 h2 q.2 k⟩
  · exact q.elim
/-! ### what is walked -/
abbrev MI := Rho → (List S → Prop) → (Exn → Prop) → Prop
/-- the iterator J tells the items ss, as long as what stood still stands -/
def Good (C : Cn) (J : It) (ss : List S) (w : Wd) (H : Hp) : Prop := ∀ (w' : Wd) (H' : Hp), FLe w H w' H' → Ok C.T w' H' →
  (∀ (i : Nat) (s : S), ss[i]? = some s → J.go i H' ∧ ∀ (x : V) (H'' : Hp), J.yld i H' x H'' → Le w' H' w' H'' ∧ Ok C.T w' H'' ∧ SRep C.K w' H'' s x) ∧ J.stop ss.length H'
def IsI (C : Cn) (mi : MI) (wi : TI) : Prop := ∀ (w : Wd) (ρ : Rho) (σ : L2.St) (H : Hp) (F : List S → Prop) (E' : Exn → Prop) (R : It → Hp → Prop), St C.K w ρ σ H → Ok C.T w H → mi ρ F E' →
  (∀ (w' : Wd) (x : Exn) (cls : Value) (d : Option Addr) (H' : Hp), Le w H w' H' → Ok C.T w' H' → XRep C.K C.N w' H' x cls d → E' x → C.W cls d σ H') →
  (∀ (w1 : Wd) (H1 : Hp) (J : It) (ss : List S), Le w H w1 H1 → Ok C.T w1 H1 → F ss → Good C J ss w1 H1 → R J H1) → wi σ H R
/-- a list or a tuple -/
def iSeq (K : PySem.W.Frag) (tl : TE) : TI := fun σ H R => tl σ H fun x H1 => ∃ a, x = .ref a ∧ (((∃ xs, SqL K H1 a xs) ∧ R (Itl K a) H1) ∨ ((∃ xs, SqT K H1 a xs) ∧ R (Itt K a) H1))
theorem pi_seq {X : Cx} {tg l : Expr} {tl : TE} (hl : PE X l tl) : PI X tg l (iSeq X.K tl) := by
  refine ⟨fun pins s σ H R I h => ?_⟩
  refine thn (hl.run pins s σ H _ I h) fun v s1 ⟨x, H1, I1, r1, q1⟩ => ?_
  obtain ⟨a, e, ⟨⟨xs, hq⟩, q⟩ | ⟨⟨xs, hq⟩, q⟩⟩ := q1
  · subst e
    cases r1
    obtain ⟨its, rv, p, hz⟩ := I1.list hq
    refine wpAny_pyIter_list p.isList ?_
    refine ⟨s1.heap.objs.size, [s1.heap.objs.size], _, _, H1, rfl, I1.kept (t' := s1.toks) fun b o e => Heap.get?_push_of_some _ e, turn_list a _, ⟨_, Heap.get?_push_size _ rfl, rfl, rfl⟩, fun b hb => ?_, q⟩
    have e : b = s1.heap.objs.size := by simpa using hb
    subst e
    exact I1.fpOk (Nat.le_refl _) (I1.hok.fresh (Nat.le_refl _))
  · subst e
    cases r1
    obtain ⟨its, rv, p, hz⟩ := I1.tuple hq
    refine wpAny_pyIter_tuple (show s1.heap.IsTuple a its.toArray from p) ?_
    refine ⟨s1.heap.objs.size, [s1.heap.objs.size], _, _, H1, rfl, I1.kept (t' := s1.toks) fun b o e => Heap.get?_push_of_some _ e, turn_tuple a _, ⟨_, Heap.get?_push_size _ rfl, rfl, rfl⟩, fun b hb => ?_, q⟩
    have e : b = s1.heap.objs.size := by simpa using hb
    subst e
    exact I1.fpOk (Nat.le_refl _) (I1.hok.fresh (Nat.le_refl _))
/-- the items of a list or tuple that stands still -/
def onSeq (s : S) (P : List D → Prop) : Prop := match s with
  | .d (.list l) => P l
  | .d (.tuple l) => P l
  | .ro l => P l
  | _ => False
def dIter (m : ME) : MI := fun ρ F E => m ρ (fun s => onSeq s fun l => F (l.map S.d)) E
theorem repL_get {K : PySem.W.Frag} {ex : Addr → Prop} {H : Hp} : ∀ {l : List PyData} {vs : List V} {i : Nat} {d : PyData}, RepL K ex H l vs → l[i]? = some d → ∃ v, vs[i]? = some v ∧ Rep K ex H d v
  | [], _, _, _, _, e => by simp at e
  | x :: l, vs, 0, d, h, e => by
    simp only [RepL] at h
    obtain ⟨v, r, rfl, h1, h2⟩ := h
    have e : x = d := by simpa using e
    subst e
    exact ⟨v, rfl, h1⟩
  | x :: l, vs, i + 1, d, h, e => by
    simp only [RepL] at h
    obtain ⟨v, r, rfl, h1, h2⟩ := h
    exact repL_get (i := i) h2 (by simpa using e)
theorem Rd.inj {H : Hp} {a : Addr} {u1 u2 : HO} (n1 : ∀ o u, u1 ≠ .frz o u) (n2 : ∀ o u, u2 ≠ .frz o u) (h1 : Rd H a u1) (h2 : Rd H a u2) : u1 = u2 := by
  rcases h1 with h1 | ⟨o1, h1⟩
  · rcases h2 with h2 | ⟨o2, h2⟩
    · exact Option.some.inj (h1.symm.trans h2)
    · exact absurd (Option.some.inj (h1.symm.trans h2)) (n1 _ _)
  · rcases h2 with h2 | ⟨o2, h2⟩
    · exact absurd (Option.some.inj (h2.symm.trans h1)) (n2 _ _)
    · have e := Option.some.inj (h1.symm.trans h2)
      cases e
      rfl
theorem good_list {C : Cn} {w : Wd} {H : Hp} {a : Addr} {l : List D} {vs : List V} (ok : Ok C.T w H) (hs : ∀ (w' : Wd) (H' : Hp), FLe w H w' H' → SqL C.K H' a vs) (r : RepL C.K w.ex H l vs) : Good C (Itl C.K a) (l.map S.d) w H := fun w' H' fl ok' => by
  have q := hs w' H' fl
  have r' := RepL.fle ok fl l vs r
  refine ⟨fun i s e => ?_, ⟨vs, q, by rw [r.length, List.length_map]; exact Nat.le_refl _⟩⟩
  rw [List.getElem?_map] at e
  cases hd : l[i]? with
  | none => rw [hd] at e; cases e
  | some d =>
    rw [hd] at e
    cases e
    obtain ⟨v, hv, rv⟩ := repL_get r' hd
    refine ⟨⟨vs, v, q, hv⟩, fun x H'' y => ?_⟩
    obtain ⟨rfl, y⟩ := y
    have e := y vs q
    rw [hv] at e
    cases e
    exact ⟨Le.refl _ _, ok', rv⟩
theorem good_tup {C : Cn} {w : Wd} {H : Hp} {a : Addr} {l : List D} {vs : List V} (ok : Ok C.T w H) (hs : SqT C.K H a vs) (r : RepL C.K w.ex H l vs) : Good C (Itt C.K a) (l.map S.d) w H := fun w' H' fl ok' => by
  have q := SqT.fle ok fl hs
  have r' := RepL.fle ok fl l vs r
  refine ⟨fun i s e => ?_, ⟨vs, q, by rw [r.length, List.length_map]; exact Nat.le_refl _⟩⟩
  rw [List.getElem?_map] at e
  cases hd : l[i]? with
  | none => rw [hd] at e; cases e
  | some d =>
    rw [hd] at e
    cases e
    obtain ⟨v, hv, rv⟩ := repL_get r' hd
    refine ⟨⟨vs, v, q, hv⟩, fun x H'' y => ?_⟩
    obtain ⟨rfl, y⟩ := y
    have e := y vs q
    rw [hv] at e
    cases e
    exact ⟨Le.refl _ _, ok', rv⟩
theorem iter_ok {C : Cn} {m : ME} : IsI C (dIter m) (iSeq C.K (lift C m)) := fun w ρ σ H F E' R st ok hm hx hk => by
  refine mk st ok hm (fun w1 s v H1 le ok1 r q => ?_) hx
  unfold onSeq at q
  split at q
  · rename_i l
    have r : Rep C.K w1.ex H1 (.list l) v := r
    simp only [Rep] at r
    obtain ⟨a, vs, rfl, fz, h2⟩ := r
    exact ⟨a, rfl, .inl ⟨⟨vs, .inl (.inl fz.1)⟩, hk w1 H1 _ _ le ok1 q (good_list ok1 (fun w' H' fl => .inl (.inl (Fz.fle fl fz).1)) h2)⟩⟩
  · rename_i l
    have r : Rep C.K w1.ex H1 (.tuple l) v := r
    simp only [Rep] at r
    obtain ⟨a, vs, rfl, h1, h2⟩ := r
    exact ⟨a, rfl, .inr ⟨⟨vs, h1⟩, hk w1 H1 _ _ le ok1 q (good_tup ok1 h1 h2)⟩⟩
  · rename_i l
    obtain ⟨a, vs, rfl, h1, h2⟩ := r
    exact ⟨a, rfl, .inl ⟨⟨vs, h1.sq⟩, hk w1 H1 _ _ le ok1 q (good_list ok1 (fun w' H' fl => (RoAt.fle ok1 fl h1).sq) h2)⟩⟩
  · exact q.elim
def rngS (lo : Int) (n : Nat) : List S := (List.range n).map fun i => .d (.int (lo + (i : Nat)))
def rngOk (i j : Int) : Prop := -(2 ^ 62) ≤ i ∧ i < 2 ^ 62 ∧ -(2 ^ 62) ≤ j ∧ j < 2 ^ 62
def dRng1 (ma : MA) : MI := fun ρ F E => ma ρ (fun ss => match ss with
  | [.d (.int j)] => rngOk 0 j ∧ F (rngS 0 j.toNat)
  | _ => False) E
def dRng2 (ma : MA) : MI := fun ρ F E => ma ρ (fun ss => match ss with
  | [.d (.int i), .d (.int j)] => rngOk i j ∧ F (rngS i (j - i).toNat)
  | _ => False) E
theorem good_rng {C : Cn} {w : Wd} {H : Hp} {lo : Int} {n : Nat} : Good C (Itr lo n) (rngS lo n) w H := fun w' H' fl ok' => by
  refine ⟨fun i s e => ?_, by show n ≤ (rngS lo n).length; unfold rngS; rw [List.length_map, List.length_range]; exact Nat.le_refl _⟩
  unfold rngS at e
  rw [List.getElem?_map] at e
  by_cases hi : i < n
  · rw [List.getElem?_range hi] at e
    cases e
    refine ⟨hi, fun x H'' y => ?_⟩
    obtain ⟨rfl, rfl⟩ := y
    exact ⟨Le.refl _ _, ok', by simp only [SRep, Rep]⟩
  · rw [List.getElem?_eq_none (by rw [List.length_range]; omega)] at e
    cases e
theorem sint {K : PySem.W.Frag} {w : Wd} {H : Hp} {i : Int} {v : V} (r : SRep K w H (.d (.int i)) v) : v = .int i := by simpa only [SRep, Rep] using r
theorem rng1_ok {C : Cn} {ma : MA} : IsI C (dRng1 ma) (iRng1 (liftA C ma)) := fun w ρ σ H F E' R st ok hm hx hk => by
  refine mk st ok hm (fun w1 s v H1 le ok1 r q => ?_) hx
  split at q
  · rename_i j
    cases r with
    | cons r1 rr =>
      cases rr
      obtain rfl := sint r1
      exact ⟨j, rfl, q.1.2.2.1, q.1.2.2.2, hk w1 H1 _ _ le ok1 q.2 good_rng⟩
  · exact q.elim
theorem rng2_ok {C : Cn} {ma : MA} : IsI C (dRng2 ma) (iRng2 (liftA C ma)) := fun w ρ σ H F E' R st ok hm hx hk => by
  refine mk st ok hm (fun w1 s v H1 le ok1 r q => ?_) hx
  split at q
  · rename_i i j
    cases r with
    | cons r1 rr =>
      cases rr with
      | cons r2 rr =>
        cases rr
        obtain rfl := sint r1
        obtain rfl := sint r2
        exact ⟨i, j, rfl, q.1, hk w1 H1 _ _ le ok1 q.2 good_rng⟩
  · exact q.elim
/-! ### for -/
def forL (g : MG) (b : MS) : List S → Rho → Kt → Prop
  | [], ρ, k => k.nx ρ
  | s :: ss, ρ, k => g s ρ (fun ρ1 => b ρ1 { k with nx := fun ρ2 => forL g b ss ρ2 k, ct := fun ρ2 => forL g b ss ρ2 k, bk := k.nx })
def dFor (mi : MI) (g : MG) (b : MS) : MS := fun ρ k => mi ρ (fun ss => forL g b ss ρ k) (k.ex ρ)
theorem for_ok {C : Cn} {w0 : Wd} {H0 : Hp} {mi : MI} {wi : TI} {mg : MG} {g : TG} {b : MS} {ix : Nat → Prop} {D : Ends} {σ : L2.St} {H : Hp} (hI : IsI C mi wi) (hG : IsG C ix mg g) (h : liftS C w0 H0 (dFor mi mg b) D σ H) : tFor wi g (liftS C w0 H0 b) D σ H := by
  obtain ⟨w, ρ, k, st, hm, ct⟩ := h
  refine hI w ρ σ H _ _ _ st.st st.ok hm (fun w' x cls d H' l ok' xr q => ct.ex w' ρ σ H' x cls d l.fle (st.go l ok') xr q) fun w1 H1 J ss le ok1 hf good => ?_
  refine ⟨fun i m σ' H' => m = ss.length - i ∧ i ≤ ss.length ∧ ∃ w' ρ', FLe w1 H1 w' H' ∧ StS C w0 H0 w' ρ' σ' H' ∧ forL mg b (ss.drop i) ρ' k, ⟨ss.length, by simp, Nat.zero_le _, w1, ρ, FLe.refl _ _, st.go le ok1, by simpa using hf⟩, ?_⟩
  rintro i m σ' H' ⟨rfl, hi, w', ρ', fl, st', hL⟩
  obtain ⟨hgo, hstop⟩ := good w' H' fl st'.ok
  have ct' : CtS C w0 H0 w' H' k D := (ct.le le).fle fl
  by_cases hlt : i < ss.length
  · have es : ss[i]? = some ss[i] := List.getElem?_eq_getElem hlt
    obtain ⟨go, yl⟩ := hgo i _ es
    rw [List.drop_eq_getElem_cons hlt] at hL
    refine .inr ⟨go, fun σ2 H2 => ∃ w2 ρ2, FLe w1 H1 w2 H2 ∧ StS C w0 H0 w2 ρ2 σ2 H2 ∧ forL mg b (ss.drop (i + 1)) ρ2 k, fun σ2 H2 ⟨w2, ρ2, f2, s2, q2⟩ => ⟨ss.length - (i + 1), by omega, rfl, hlt, w2, ρ2, f2, s2, q2⟩, fun x H'' y => ?_⟩
    obtain ⟨l3, ok3, r3⟩ := yl x H'' y
    have st3 := st'.go l3 ok3
    refine hG w' H'' ρ' ρ' σ' σ' _ x _ _ (.refl _ _) r3 hL fun ρ4 σ4 se q => ?_
    have st4 := se.stS st3
    have ct4 := ct'.le l3
    refine ⟨w', ρ4, _, st4, q, ⟨?_, ?_, ?_, ct4.rt, ct4.ex⟩⟩
    · exact fun w5 ρ5 σ5 H5 f5 s5 q5 => ⟨w5, ρ5, (fl.trans l3.fle).trans f5, s5, q5⟩
    · exact ct4.nx
    · exact fun w5 ρ5 σ5 H5 f5 s5 q5 => ⟨w5, ρ5, (fl.trans l3.fle).trans f5, s5, q5⟩
  · have e : i = ss.length := by omega
    subst e
    rw [List.drop_length] at hL
    exact .inl ⟨hstop, ct'.nx w' ρ' σ' H' (FLe.refl _ _) st' hL⟩
end DL
namespace DL
open PySem PySem.Spec PyProof.Rows L2 LamX
/-! ### a world with one more address shut -/
def Wd.add (w : Wd) (a : Addr) : Wd := ⟨fun b => w.ex b ∨ b = a, w.bw, fun b z => .inl (w.sub b z)⟩
theorem Le.add {w : Wd} {H : Hp} {p : Addr} {o : HO} (h : H p = none) : Le w H (w.add p) (upd H p o) :=
  ⟨fun _ z => .inl z, fun _ z => z, fun a z => by
    rcases z with z | z
    · exact .inl z
    · subst z; exact .inr h, fun _ z => .inl z, fun a u e _ _ => by rw [upd_ne (ne_of_none e h)]; exact e, fun a e => by
    unfold upd at e
    split at e
    · cases e
    · exact e⟩
theorem Ok.add {T : List (Addr × Str)} {w : Wd} {H : Hp} (ok : Ok T w H) {p : Addr} {o : HO} (h : H p = none) (ho : LD o) : Ok T (w.add p) (upd H p o) where
  al := fun a z => by
    by_cases e : a = p
    · subst e
      exact ⟨o, upd_same, ho⟩
    · rw [upd_ne e]
      rcases z with z | z
      · exact ok.al a z
      · exact absurd z e
  bowl := (ok.new1 h).bowl
  tabs := (ok.new1 h).tabs
/-! ### list comprehensions -/
def wipeR (ρ : Rho) : List Nat → Rho
  | [] => ρ
  | v :: vs => (wipeR ρ vs).set v none
theorem wipeR_len (ρ : Rho) : ∀ vs : List Nat, (wipeR ρ vs).length = ρ.length
  | [] => rfl
  | v :: vs => by unfold wipeR; rw [List.length_set, wipeR_len ρ vs]
theorem get_setN {α : Type} {l : List (Option α)} {i j : Nat} {y : α} (h : (l.set i none)[j]? = some (some y)) : i ≠ j ∧ l[j]? = some (some y) := by
  by_cases e : i = j
  · subst e
    by_cases hl : i < l.length
    · rw [List.getElem?_set_self hl] at h; cases h
    · rw [List.getElem?_eq_none (by rw [List.length_set]; omega)] at h; cases h
  · rw [List.getElem?_set_ne e] at h
    exact ⟨e, h⟩
theorem wipeR_some {ρ : Rho} {i : Nat} {x : S} : ∀ {vs : List Nat}, (wipeR ρ vs)[i]? = some (some x) → ρ[i]? = some (some x) ∧ i ∉ vs
  | [], h => ⟨h, by simp⟩
  | v :: vs, h => by
    unfold wipeR at h
    obtain ⟨ne, h⟩ := get_setN h
    obtain ⟨h1, h2⟩ := wipeR_some h
    exact ⟨h1, by simp only [List.mem_cons, not_or]; exact ⟨fun e => ne e.symm, h2⟩⟩
theorem wipe_keep {σ : L2.St} {i : Nat} : ∀ {vs : List Nat}, i ∉ vs → (wipe σ vs)[i]? = σ[i]?
  | [], _ => rfl
  | v :: vs, h => by
    simp only [List.mem_cons, not_or] at h
    unfold wipe
    rw [List.getElem?_set_ne (fun e => h.1 e.symm), wipe_keep h.2]
theorem St.wipe {K : PySem.W.Frag} {w : Wd} {ρ : Rho} {σ : L2.St} {H : Hp} (h : St K w ρ σ H) (vs : List Nat) : St K w (wipeR ρ vs) (L2.wipe σ vs) H := by
  refine ⟨by rw [wipeR_len, wipe_length]; exact h.len, fun i s e => ?_, fun i j x y a e1 e2 e3 e4 => ?_⟩
  · obtain ⟨e1, n⟩ := wipeR_some e
    obtain ⟨v, e2, r⟩ := h.all i s e1
    exact ⟨v, by rw [wipe_keep n]; exact e2, r⟩
  · obtain ⟨f1, n1⟩ := wipeR_some e1
    obtain ⟨f2, n2⟩ := wipeR_some e2
    rw [wipe_keep n1] at e3
    rw [wipe_keep n2] at e4
    exact h.inj i j x y a f1 f2 e3 e4
theorem wipe_at {σ : L2.St} {i : Nat} : ∀ {vs : List Nat}, i ∈ vs → i < σ.length → (wipe σ vs)[i]? = some none
  | v :: vs, h, hl => by
    unfold wipe
    by_cases e : v = i
    · subst e
      rw [List.getElem?_set_self (by rw [wipe_length]; exact hl)]
    · rw [List.getElem?_set_ne e]
      exact wipe_at (by simpa [Ne.symm e] using h) hl
theorem wipe_ext {σ τ : L2.St} {vs : List Nat} (hl : τ.length = σ.length) (h : ∀ i, i ∉ vs → τ[i]? = σ[i]?) : wipe τ vs = wipe σ vs := by
  apply List.ext_getElem?
  intro i
  by_cases hi : i ∈ vs
  · by_cases hz : i < σ.length
    · rw [wipe_at hi hz, wipe_at hi (by rw [hl]; exact hz)]
    · rw [List.getElem?_eq_none (by rw [wipe_length]; omega), List.getElem?_eq_none (by rw [wipe_length]; omega)]
  · rw [wipe_keep hi, wipe_keep hi, h i hi]
theorem Sets.wipe {K : PySem.W.Frag} {w : Wd} {H : Hp} {vs : List Nat} {ρ ρ' : Rho} {σ σ' : L2.St} (s : Sets K w H (fun i => i ∈ vs) ρ (L2.wipe σ vs) ρ' σ') : L2.wipe σ' vs = L2.wipe σ vs := by
  have key : σ'.length = (L2.wipe σ vs).length ∧ ∀ i, i ∉ vs → σ'[i]? = (L2.wipe σ vs)[i]? := by
    generalize L2.wipe σ vs = τ at s
    induction s with
    | refl => exact ⟨rfl, fun _ _ => rfl⟩
    | set s0 hi _ _ ih =>
      refine ⟨by rw [List.length_set]; exact ih.1, fun j hj => ?_⟩
      rw [List.getElem?_set_ne (fun e => hj (by rw [← e]; exact hi))]
      exact ih.2 j hj
  refine wipe_ext (by rw [key.1, wipe_length]) fun i hi => ?_
  rw [key.2 i hi, wipe_keep hi]
def onD (s : S) (P : D → Prop) : Prop := match s with
  | .d x => P x
  | _ => False
theorem onD_of {s : S} {P : D → Prop} (h : onD s P) : ∃ x, s = .d x ∧ P x := by
  unfold onD at h
  split at h
  · exact ⟨_, rfl, h⟩
  · exact h.elim
def compL (g : MG) (t : MT) (e : ME) (ρ : Rho) (Q : List D → Prop) : List S → List D → Prop
  | [], acc => Q acc
  | s :: ss, acc => g s ρ (fun ρ1 => t ρ1 (fun b => if b = true then e ρ1 (fun x => onD x fun d => acc.length < sizeLine ∧ compL g t e ρ Q ss (acc ++ [d])) (fun _ => False) else compL g t e ρ Q ss acc) (fun _ => False))
def dComp (mi : MI) (g : MG) (t : MT) (e : ME) (vs : List Nat) : ME := fun ρ Q E => mi ρ (fun ss => compL g t e (wipeR ρ vs) (fun l => Q (.d (.list l))) ss []) E
theorem repL_app {K : PySem.W.Frag} {ex : Addr → Prop} {H : Hp} {d : PyData} {v : V} (r : Rep K ex H d v) : ∀ {l : List PyData} {vs : List V}, RepL K ex H l vs → RepL K ex H (l ++ [d]) (vs ++ [v])
  | [], vs, h => by
    simp only [RepL] at h
    subst h
    simp only [List.nil_append, RepL]
    exact ⟨v, [], rfl, r, rfl⟩
  | x :: l, vs, h => by
    simp only [RepL] at h
    obtain ⟨u, r', rfl, h1, h2⟩ := h
    simp only [List.cons_append, RepL]
    exact ⟨u, r' ++ [v], rfl, h1, repL_app r h2⟩
theorem comp_ok {C : Cn} {mi : MI} {wi : TI} {mg : MG} {g : TG} {t : MT} {e : ME} {vs : List Nat} {σ : L2.St} {H : Hp} {Q : VK} (hI : IsI C mi wi) (hG : IsG C (fun i => i ∈ vs) mg g) (h : lift C (dComp mi mg t e vs) σ H Q) :
    tLc wi g (liftT C.quiet t) (lift C.quiet e) vs σ H Q := by
  obtain ⟨w, ρ, Q', E', st, ok, hm, ct⟩ := h
  refine hI w ρ σ H _ _ _ st ok hm ct.ex fun w1 H1 J ss le ok1 hf good => ?_
  intro Dl hD
  refine ⟨fun i m H' => m = ss.length - i ∧ i ≤ ss.length ∧ ∃ (w' : Wd) (acc : List D) (us : List V), Le w1 H1 w' H' ∧ Ok C.T w' H' ∧ w'.ex Dl ∧ ¬ w'.bw Dl ∧ H' Dl = some (.lst us) ∧ RepL C.K w'.ex H' acc us ∧ compL mg t e (wipeR ρ vs) (fun l => Q' (.d (.list l))) (ss.drop i) acc,
    ⟨ss.length, by simp, Nat.zero_le _, w1.add Dl, [], [], Le.add hD, ok1.add hD trivial, .inr rfl, fun z => ok1.fresh hD (w1.sub _ z), upd_same, by simp only [RepL], by simpa using hf⟩, ?_⟩
  rintro i m H' ⟨rfl, hi, w', acc, us, l1, ok', hex, nbw, hl, ra, hc⟩
  obtain ⟨hgo, hstop⟩ := good w' H' l1.fle ok'
  by_cases hlt : i < ss.length
  · have es : ss[i]? = some ss[i] := List.getElem?_eq_getElem hlt
    obtain ⟨go, yl⟩ := hgo i _ es
    rw [List.drop_eq_getElem_cons hlt] at hc
    refine .inr ⟨go, fun H2 => ∃ (w2 : Wd) (acc : List D) (us : List V), Le w1 H1 w2 H2 ∧ Ok C.T w2 H2 ∧ w2.ex Dl ∧ ¬ w2.bw Dl ∧ H2 Dl = some (.lst us) ∧ RepL C.K w2.ex H2 acc us ∧ compL mg t e (wipeR ρ vs) (fun l => Q' (.d (.list l))) (ss.drop (i + 1)) acc,
      fun H2 ⟨w2, a2, u2, q⟩ => ⟨ss.length - (i + 1), by omega, rfl, hlt, w2, a2, u2, q⟩, fun x H'' y => ?_⟩
    obtain ⟨l3, ok3, r3⟩ := yl x H'' y
    have stw : St C.K w' (wipeR ρ vs) (wipe σ vs) H'' := ((((st.wipe vs).le ok le).le ok1 l1).le ok' l3)
    refine hG w' H'' (wipeR ρ vs) (wipeR ρ vs) (wipe σ vs) (wipe σ vs) _ x _ _ (.refl _ _) r3 hc fun ρ4 σ4 se q => ⟨se.wipe, ?_⟩
    have st4 : St C.quiet.K w' ρ4 σ4 H'' := se.st stw
    have nDl : ∀ {w2 : Wd} {H2 : Hp}, Le w' H' w2 H2 → w2.ex Dl ∧ ¬ w2.bw Dl ∧ H2 Dl = some (.lst us) := fun {w2 H2} l => ⟨l.ex _ hex, fun z => (l.nbw Dl z).elim nbw fun z => (by
      rw [hl] at z
      cases z), l.keep _ _ hl nbw (fun _ z => by cases z)⟩
    refine mk (C := C.quiet) st4 ok3 q (fun w5 b b' H5 l5 ok5 rb q5 => ?_) fun _ _ _ _ _ _ _ _ z => z.elim
    have eb : b = b' := rb
    subst eb
    have l35 := l3.trans l5
    cases b with
    | false =>
      obtain ⟨d1, d2, d3⟩ := nDl l35
      exact ⟨w5, acc, us, l1.trans l35, ok5, d1, d2, d3, RepL.le ok' l35 acc us ra, q5⟩
    | true =>
      refine mk (C := C.quiet) (st4.le ok3 l5) ok5 q5 (fun w6 s v H6 l6 ok6 rs q6 => ?_) fun _ _ _ _ _ _ _ _ z => z.elim
      obtain ⟨d, rfl, hz, q6⟩ := onD_of q6
      have l36 := l35.trans l6
      obtain ⟨d1, d2, d3⟩ := nDl l36
      have ra6 := RepL.le ok' l36 acc us ra
      refine ⟨us, d3, by rw [ra.length]; exact hz, w6, acc ++ [d], us ++ [v], ?_, ?_, d1, d2, upd_same, ?_, q6⟩
      · have lt := l1.trans l36
        have nb : ∀ b o, H1 b = some o → b ≠ Dl := fun b o e z => by rw [z, hD] at e; cases e
        refine ⟨lt.ex, lt.bw, lt.new, lt.nbw, fun b o e n nt => by rw [upd_ne (nb b o e)]; exact lt.keep b o e n nt, fun b z => lt.non b ?_⟩
        unfold upd at z
        split at z
        · cases z
        · exact z
      · refine ⟨fun b z => ?_, fun b z => ?_, tabs_upd ok6.tabs ⟨_, d3, trivial⟩⟩
        · by_cases eb : b = Dl
          · subst eb; exact ⟨_, upd_same, trivial⟩
          · rw [upd_ne eb]; exact ok6.al b z
        · obtain ⟨p, q, r, e⟩ := ok6.bowl b z
          exact ⟨p, q, r, by rw [upd_ne (show b ≠ Dl from fun hb => d2 (by rw [← hb]; exact z))]; exact e⟩
      · exact repL_app (Rep.upd ⟨_, d3, trivial⟩ d1 d v rs) (RepL.upd ⟨_, d3, trivial⟩ d1 acc us ra6)
  · have ei : i = ss.length := by omega
    subst ei
    rw [List.drop_length] at hc
    refine .inl ⟨hstop, ?_⟩
    have lt := le.trans l1
    refine ct.ok (w'.drop Dl nbw) (.d (.list acc)) (.ref Dl) H' ?_ (ok'.drop nbw) ?_ hc
    · exact Le.drop nbw lt fun b z e => by
        subst e
        exact ok1.fresh hD (le.ex b z)
    · exact OwnAt.freeze (l := acc) nbw ⟨us, hl, ra⟩
/-! ### while -/
def whileN (c : MT) (b : MS) : Nat → Rho → Kt → Prop
  | 0, _, _ => False
  | n + 1, ρ, k => c ρ (fun x => if x = true then b ρ { k with nx := fun ρ2 => whileN c b n ρ2 k, ct := fun ρ2 => whileN c b n ρ2 k, bk := k.nx } else k.nx ρ) (k.ex ρ)
def dWhile (c : MT) (b : MS) : MS := fun ρ k => ∃ n, whileN c b n ρ k
theorem while_ok {C : Cn} {w0 : Wd} {H0 : Hp} {c : MT} {b : MS} {D : Ends} {σ : L2.St} {H : Hp} (h : liftS C w0 H0 (dWhile c b) D σ H) : tWhile (liftT C c) (liftS C w0 H0 b) D σ H := by
  obtain ⟨w, ρ, k, st, ⟨n, hn⟩, ct⟩ := h
  refine ⟨fun m σ' H' => ∃ w' ρ', FLe w H w' H' ∧ StS C w0 H0 w' ρ' σ' H' ∧ whileN c b m ρ' k, ⟨n, w, ρ, FLe.refl _ _, st, hn⟩, ?_⟩
  rintro m σ' H' ⟨w', ρ', fl, st', hw⟩
  cases m with
  | zero => exact hw.elim
  | succ m =>
    have ct' := ct.fle fl
    refine inS st' ct' hw fun w1 x x' H1 l1 st1 ct1 rx q => ?_
    have e : x = x' := rx
    subst e
    cases x with
    | true =>
      refine ⟨fun σ2 H2 => ∃ w2 ρ2, FLe w H w2 H2 ∧ StS C w0 H0 w2 ρ2 σ2 H2 ∧ whileN c b m ρ2 k, fun σ2 H2 z => ⟨m, Nat.lt_succ_self m, z⟩, ?_⟩
      refine ⟨w1, ρ', _, st1, q, ⟨?_, ct1.nx, ?_, ct1.rt, ct1.ex⟩⟩
      · exact fun w5 ρ5 σ5 H5 f5 s5 q5 => ⟨w5, ρ5, (fl.trans l1.fle).trans f5, s5, q5⟩
      · exact fun w5 ρ5 σ5 H5 f5 s5 q5 => ⟨w5, ρ5, (fl.trans l1.fle).trans f5, s5, q5⟩
    | false => exact ct1.nx w1 ρ' σ' H1 (FLe.refl _ _) st1 q
/-! ### own lists -/
section
variable {C : Cn} {w0 : Wd} {H0 : Hp} {σ : L2.St} {H : Hp} {D : Ends}
theorem repL_of_RA {w : Wd} : ∀ {ds : List PyData} {vs : List V}, RA C.K w H (ds.map S.d) vs → RepL C.K w.ex H ds vs
  | [], _, .nil => by simp only [RepL]
  | d :: ds, _, .cons r t => by
    simp only [RepL]
    exact ⟨_, _, rfl, r, repL_of_RA t⟩
/-- all are data -/
def onDs : List S → (List PyData → Prop) → Prop
  | [], P => P []
  | .d x :: ss, P => onDs ss fun l => P (x :: l)
  | _ :: _, _ => False
theorem onDs_of : ∀ {ss : List S} {P : List PyData → Prop}, onDs ss P → ∃ ds, ss = ds.map S.d ∧ P ds
  | [], P, h => ⟨[], rfl, h⟩
  | .d x :: ss, P, h => by
    obtain ⟨ds, e, q⟩ := onDs_of (ss := ss) h
    exact ⟨x :: ds, by rw [e] <;> rfl, q⟩
  | .bowl :: _, _, h => h.elim
  | .own _ :: _, _, h => h.elim
  | .ro _ :: _, _, h => h.elim
  | .fn _ :: _, _, h => h.elim
/-- x = [a, b, ..], to be changed later -/
def dNewL (i : Nat) (ma : MA) : MS := fun ρ k => ma ρ (fun ss => onDs ss fun ds => ds.length ≤ sizeLine ∧ k.nx (ρ.set i (some (.own (.list ds))))) (k.ex ρ)
theorem StS.new {w : Wd} {ρ : Rho} (st : StS C w0 H0 w ρ σ H) {i : Nat} {x : PyData} {p : Addr} {o : HO} (hp : H p = none) (ho : LD o) (oy : OwnAt C.K (w.add p).ex (upd H p o) p x) :
    FLe w H (w.add p) (upd H p o) ∧ StS C w0 H0 (w.add p) (ρ.set i (some (.own x))) (σ.set i (some (.ref p))) (upd H p o) := by
  have l : Le w H (w.add p) (upd H p o) := Le.add hp
  have ok' := st.ok.add hp ho
  have st' := st.go l ok'
  have nb : ¬ (w.add p).bw p := fun z => st.ok.fresh hp (w.sub p z)
  have nq : ∀ {j : Nat} {y : PyData}, ρ[j]? = some (some (.own y)) → σ[j]? ≠ some (some (.ref p)) := fun {j y} e z => by
    obtain ⟨v, e1, a, rfl, h1, _⟩ := st.st.all j _ e
    rw [e1] at z
    cases z
    exact st.ok.fresh hp h1
  refine ⟨l.fle, ⟨⟨by rw [List.length_set, List.length_set]; exact st'.st.len, fun j s e => ?_, fun j1 j2 x1 y1 b q1 q2 q3 q4 => ?_⟩, ok', st.ok0, st'.le, fun j y b q1 q2 => ?_⟩⟩
  · rcases get_set e with ⟨rfl, rfl, hl⟩ | ⟨ne, e⟩
    · exact ⟨.ref p, List.getElem?_set_self (by rw [← st.st.len]; exact hl), p, rfl, .inr rfl, nb, oy⟩
    · obtain ⟨u, e1, r1⟩ := st'.st.all j s e
      exact ⟨u, by rw [List.getElem?_set_ne ne]; exact e1, r1⟩
  · rcases get_set q1 with ⟨rfl, _, hl⟩ | ⟨n1, q1⟩
    · rw [List.getElem?_set_self (by rw [← st.st.len]; exact hl)] at q3
      cases q3
      rcases get_set q2 with ⟨rfl, _, _⟩ | ⟨n2, q2⟩
      · rfl
      · rw [List.getElem?_set_ne n2] at q4
        exact absurd q4 (nq q2)
    · rw [List.getElem?_set_ne n1] at q3
      rcases get_set q2 with ⟨rfl, _, hl⟩ | ⟨n2, q2⟩
      · rw [List.getElem?_set_self (by rw [← st.st.len]; exact hl)] at q4
        cases q4
        exact absurd q3 (nq q1)
      · rw [List.getElem?_set_ne n2] at q4
        exact st.st.inj j1 j2 x1 y1 b q1 q2 q3 q4
  · rcases get_set q1 with ⟨rfl, _, hl⟩ | ⟨n1, q1⟩
    · rw [List.getElem?_set_self (by rw [← st.st.len]; exact hl)] at q2
      cases q2
      exact st.le.non _ hp
    · rw [List.getElem?_set_ne n1] at q2
      exact st.fr j y b q1 q2
theorem newL_ok {i : Nat} {ma : MA} (h : liftS C w0 H0 (dNewL i ma) D σ H) : tAsg (tLst (liftA C ma)) (gName i) D σ H := by
  obtain ⟨w, ρ, k, st, hm, ct⟩ := h
  refine inS st ct hm fun w1 ss vs H1 l st1 ct1 r q => ?_
  obtain ⟨ds, rfl, hz, q⟩ := onDs_of q
  have rl : RepL C.K w1.ex H1 ds vs := repL_of_RA r
  refine ⟨by rw [rl.length]; exact hz, fun p hp => ?_⟩
  obtain ⟨fl, st2⟩ := st1.new (i := i) (x := .list ds) (o := .lst vs) hp trivial ⟨vs, upd_same, RepL.le st1.ok (Le.add hp) ds vs rl⟩
  exact ct1.nx _ _ _ _ fl st2 q
/-- x.append(e) -/
def dApp (i : Nat) (m : ME) : MS := fun ρ k => match ρ[i]? with
  | some (some (.own (.list l))) => m ρ (fun s => onD s fun d => l.length < sizeLine ∧ k.nx (ρ.set i (some (.own (.list (l ++ [d])))))) (k.ex ρ)
  | _ => False
theorem app_ok {i : Nat} {m : ME} (h : liftS C w0 H0 (dApp i m) D σ H) : tDrop (tBM C.K "list" rAppend (tVar i) (tCons (lift C m) tNil)) D σ H := by
  obtain ⟨w, ρ, k, st, hm, ct⟩ := h
  unfold dApp at hm
  split at hm
  · rename_i l e
    obtain ⟨a, ea, hex, nbw, ⟨vs, hl, rl⟩, h0⟩ := own_at st e
    refine ⟨.ref a, ea, .inl ⟨rfl, _, .inl (.inl hl)⟩, ?_⟩
    refine inS st ct hm fun w1 s v H1 l1 st1 ct1 r q => ?_
    obtain ⟨d, rfl, hz, q⟩ := onD_of q
    obtain ⟨a', ea', hex1, nbw1, ⟨vs1, hl1, rl1⟩, _⟩ := own_at st1 e
    rw [ea] at ea'
    cases ea'
    refine ⟨a, vs1, v, rfl, rfl, hl1, by rw [rl1.length]; exact hz, ?_⟩
    obtain ⟨fl, st2⟩ := st1.write (y := .list (l ++ [d])) (o := .lst (vs1 ++ [v])) e ea trivial ⟨_, upd_same, repL_app (Rep.upd ⟨_, hl1, trivial⟩ hex1 d v r) (RepL.upd ⟨_, hl1, trivial⟩ hex1 l vs1 rl1)⟩
    exact ct1.nx _ _ _ _ fl st2 q
  · exact hm.elim
end
end DL
namespace DL
open PySem PySem.Spec PyProof.Rows L2 LamX
/-! ### what a def promises, over data -/
abbrev MF := List S → (S → Prop) → (Exn → Prop) → Prop
def liftSp (C : Cn) (n : Nat) (m : MF) : Sp := fun vs H Q E => ∃ (w : Wd) (ss : List S) (Q' : S → Prop) (E' : Exn → Prop), ss.length = n ∧ (∀ s ∈ ss, isOwn s = false) ∧ Ok C.T w H ∧ RA C.K w H ss vs ∧ m ss Q' E' ∧
  (∀ (w' : Wd) (s : S) (v : V) (H' : Hp), Le w H w' H' → Ok C.T w' H' → SRep C.K w' H' s v → isOwn s = false → Q' s → Q v H') ∧
  (∀ (w' : Wd) (x : Exn) (cls : Value) (d : Option Addr) (H' : Hp), Le w H w' H' → Ok C.T w' H' → XRep C.K C.N w' H' x cls d → E' x → E cls d H')
theorem RA.len {K : PySem.W.Frag} {w : Wd} {H : Hp} {ss : List S} {vs : List V} (r : RA K w H ss vs) : vs.length = ss.length := (Paired.length r).symm
theorem liftSp.len {C : Cn} {n : Nat} {m : MF} : ∀ vs H Q E, liftSp C n m vs H Q E → vs.length = n := fun vs H Q E h => by
  obtain ⟨w, ss, Q', E', e, _, _, r, _⟩ := h
  rw [r.len, e]
def startR (n : Nat) (ss : List S) : Rho := ss.map some ++ List.replicate (n - ss.length) none
def dDef (n : Nat) (b : MS) : MF := fun ss Q E => b (startR n ss) { nx := fun _ => Q (.d .none), rt := Q, bk := fun _ => False, ct := fun _ => False, ex := fun _ x => E x }
theorem start_get {α : Type} {l : List α} {n i : Nat} {x : α} (h : (l.map some ++ List.replicate n (none : Option α))[i]? = some (some x)) : l[i]? = some x := by
  by_cases hi : i < l.length
  · rw [List.getElem?_append_left (by simpa using hi), List.getElem?_map] at h
    cases e : l[i]? with
    | none => rw [e] at h; cases h
    | some y => rw [e] at h; cases h; rfl
  · rw [List.getElem?_append_right (by simpa using hi), List.getElem?_replicate] at h
    split at h <;> cases h
theorem RA.get {K : PySem.W.Frag} {w : Wd} {H : Hp} : ∀ {ss : List S} {vs : List V} {i : Nat} {s : S}, RA K w H ss vs → ss[i]? = some s → ∃ v, vs[i]? = some v ∧ SRep K w H s v
  | _, _, _, _, .nil, e => by simp at e
  | _, _, 0, _, .cons r _, e => by simp at e; subst e; exact ⟨_, rfl, r⟩
  | _, _, i + 1, _, .cons _ t, e => by
    obtain ⟨v, h1, h2⟩ := RA.get (i := i) t (by simpa using e)
    exact ⟨v, by simpa using h1, h2⟩
theorem start_st {K : PySem.W.Frag} {w : Wd} {H : Hp} {N : List Str} {ss : List S} {vs : List V} (no : ∀ s ∈ ss, isOwn s = false) (r : RA K w H ss vs) : St K w (startR N.length ss) (L2.start N vs) H := by
  have own : ∀ {i : Nat} {x : PyData}, (startR N.length ss)[i]? = some (some (.own x)) → False := fun {i x} e => by
    have z := no _ (List.mem_of_getElem? (start_get e))
    cases z
  refine ⟨?_, fun i s e => ?_, fun i j x y a e => (own e).elim⟩
  · unfold startR L2.start
    rw [List.length_append, List.length_append, List.length_map, List.length_map, List.length_replicate, List.length_replicate, r.len]
  · have e1 := start_get e
    obtain ⟨v, h1, h2⟩ := r.get e1
    refine ⟨v, ?_, h2⟩
    have hi : i < vs.length := (List.getElem?_eq_some_iff.mp h1).1
    unfold L2.start
    rw [List.getElem?_append_left (by simpa using hi), List.getElem?_map, h1] <;> rfl
section
variable {P : Program} {w : World} {K : PySem.W.Frag} {mg : Str → Option Value} {base : Heap}
/-- A DEF: its body's derivation, for each wish about exceptions, gives its promise -/
theorem def_ok {C : Cn} {x qual : Str} {st : Stmt} {f : Addr} {fd : FuncData} {N ps : List Str} {k n : Nat} {b : MS} (F : Fun K x qual st f fd) (S : FnScope N ps (defScope st)) (hn : ps.length = n) {l : Nat} (hl : N.length = l)
    (hbody : ∀ (cdv : Value) (A : Around) (outer : List Env) (s : Shared) (H : Hp) (E : XK) (w0 : Wd) (H0 : Hp), Room k (cxOf (L2.CX P w) P w K mg base N qual (defScope st) f cdv A outer s H E).A →
      PSs (cxOf (L2.CX P w) P w K mg base N qual (defScope st) f cdv A outer s H E) (defBody st) (liftS { C with W := fun cls d _ H => E cls d H } w0 H0 b)) :
    FnOk P w K mg base (L2.CX P w) (k + 1) f fd ps (liftSp C n (dDef l b)) := by
  obtain ⟨oc, od, kV, doc, pm, an, cdv, ct, osl, rfl, lk, hcd⟩ := F.ex
  refine fn_of lk hcd S (fun vs H Q E h => by rw [liftSp.len _ _ _ _ h, hn]) fun A outer s H vs Q E hr hsp => ?_
  obtain ⟨w1, ss, Q', E', e, no, ok, r, hm, hk, hx⟩ := hsp
  refine ⟨_, hbody cdv A outer s H E w1 H hr, ?_⟩
  refine ⟨w1, _, _, ⟨by rw [← hl]; exact start_st no r, ok, ok, Le.refl _ _, fun i x a e => ?_⟩, hm, ?_, ?_, ?_, ?_, ?_⟩
  · have z := no _ (List.mem_of_getElem? (start_get e))
    cases z
  · exact fun w' ρ' σ' H' _ s q => hk w' (.d .none) .non H' s.le s.ok (by simp only [SRep, Rep]) rfl q
  · exact fun _ _ _ _ _ _ q => q.elim
  · exact fun _ _ _ _ _ _ q => q.elim
  · exact fun w' s v H' l ok r no q => hk w' s v H' l ok r no q
  · exact fun w' ρ' σ' H' x cls d _ s xr q => hx w' x cls d H' s.le s.ok xr q
end
/-! ### calls -/
def fits (n : Nat) (ss : List S) : Prop := ss.length = n ∧ ∀ s ∈ ss, isOwn s = false
def dCall (n : Nat) (m : MF) (ma : MA) : ME := fun ρ Q E => ma ρ (fun ss => fits n ss ∧ m ss Q E) E
section
variable {X : Cx} {C : Cn} {k n : Nat} {f : Addr} {fd : FuncData} {ps ks : List Str} {m : MF} {x : Str} {p pos : Pos} {e : Expr} {es : List Expr} {kws : List Keyword} {ma mk' : MA}
theorem sp_of {w : Wd} {σ : L2.St} {H : Hp} {ss : List S} {vs : List V} {Q' : S → Prop} {E' : Exn → Prop} {Q : VK} (ok : Ok C.T w H) (r : RA C.K w H ss vs) (hf : fits n ss) (h : m ss Q' E') (ct : Ct C (SRep C.K) w σ H Q' E' Q) : liftSp C n m vs H Q (fun cls d H' => C.W cls d σ H') :=
  ⟨w, ss, Q', E', hf.1, hf.2, ok, r, h, fun w' s v H' l ok' r' _ q => ct.ok w' s v H' l ok' r' q, ct.ex⟩
theorem pd_call (F : FnOk X.prog X.w X.K X.mg X.base (L2.CX X.prog X.w) k f fd ps (liftSp C n m)) (hr : Room k X.A) (tk : Takes X C.W) (hg : Gl X x) (hm : X.mg x = some (.ref f)) (hk : PySem.W.keepIn X.K (.ref f) = true) (hb : Binds X.K fd ps [])
    (ha : PA X (e :: es) (liftA C ma)) (hdb : (x == ("__debug__" : Str)) = false := by decide) (he : starEach (e :: es) X.env = (false, eval e X.env) :: starEach es X.env := by rfl) (hpl : (backTo pos (starEach es X.env)).any (·.1) = false := by rfl) :
    PE X (.Call (.Name x p) (e :: es) [] pos) (lift C (dCall n m ma)) := by
  refine (pe_callS (E := fun σ cls d H => C.W cls d σ H) F hr hg hm hk hb (fun σ => passAt tk σ) ha hdb he hpl).weak fun σ H Q h => ?_
  obtain ⟨w, ρ, Q', E', st, ok, hq, ct⟩ := h
  exact mk st ok hq (fun w1 ss vs H1 le ok1 r q => sp_of ok1 r q.1 q.2 (ct.le le)) ct.ex
theorem pd_call0 (F : FnOk X.prog X.w X.K X.mg X.base (L2.CX X.prog X.w) k f fd ps (liftSp C 0 m)) (hr : Room k X.A) (tk : Takes X C.W) (hg : Gl X x) (hm : X.mg x = some (.ref f)) (hk : PySem.W.keepIn X.K (.ref f) = true) (hb : Binds X.K fd ps [])
    (hdb : (x == ("__debug__" : Str)) = false := by decide) : PE X (.Call (.Name x p) [] [] pos) (lift C (dCall 0 m dNil)) := by
  refine ⟨fun pins s σ H Q I h => ?_⟩
  obtain ⟨w, ρ, Q', E', st, ok, hq, ct⟩ := h
  refine wpAny_Call_Name_kw (ld_glob I hg hm ?_ hdb)
  exact PySem.W.callWith_K0 I.kIn hk (run_fnS (us := []) (E := fun σ cls d H => C.W cls d σ H) F hr hb (passAt tk σ) I .nil (sp_of ok (.nil) hq.1 hq.2 ct))
/-! keywords -/
def perm {α : Type} (ix : List Nat) (l : List α) : List α := ix.filterMap fun i => l[i]?
theorem perm_vals {ix : List Nat} {vs : List V} {us : List Value} (r : Vals vs us) : Vals (perm ix vs) (perm ix us) := by
  induction ix with
  | nil => exact .nil
  | cons i ix ih =>
    unfold perm
    rw [List.filterMap_cons, List.filterMap_cons]
    cases e : vs[i]? with
    | none =>
      rw [r.none_of e]
      exact ih
    | some v =>
      obtain ⟨u, hu, rv⟩ := r.get e
      rw [hu]
      exact .cons rv ih
theorem perm_RA {K : PySem.W.Frag} {w : Wd} {H : Hp} {ix : List Nat} {ss : List S} {vs : List V} (r : RA K w H ss vs) : RA K w H (perm ix ss) (perm ix vs) := by
  induction ix with
  | nil => exact .nil
  | cons i ix ih =>
    unfold perm
    rw [List.filterMap_cons, List.filterMap_cons]
    cases e : ss[i]? with
    | none =>
      rw [show vs[i]? = none from List.getElem?_eq_none_iff.mpr (by rw [r.len]; exact List.getElem?_eq_none_iff.mp e)]
      exact ih
    | some s =>
      obtain ⟨v, hv, rs⟩ := r.get e
      rw [hv]
      exact .cons rs ih
def KB (K : PySem.W.Frag) (fd : FuncData) (ps ks : List Str) (n0 : Nat) (ix : List Nat) : Prop := ∀ (s : Shared) (us ws : List Value), K.In s.heap → us.length = n0 → ws.length = ks.length → BindsTo s fd ⟨us, ks.zip ws⟩ (ps.zip (perm ix (us ++ ws)))
theorem kb_mk {K : PySem.W.Frag} {x qual : Str} {st : Stmt} {f : Addr} {fd : FuncData} {ps ks : List Str} {n0 : Nat} {ix : List Nat} (F : Fun K x qual st f fd)
    (h : ∀ (kV doc pm : Value) (an : Option Addr) (cdv ct : Value) (us ws : List Value), us.length = n0 → ws.length = ks.length → bindArgs (PySem.W.fnOf x qual (defArgs st) (defBody st) (defScope st) .none kV doc pm an cdv ct) ⟨us, ks.zip ws⟩ = pure (ps.zip (perm ix (us ++ ws)))) : KB K fd ps ks n0 ix := by
  obtain ⟨oc, od, kV, doc, pm, an, cdv, ct, osl, rfl, lk, hcd⟩ := F.ex
  exact fun s us ws _ h1 h2 => BindsTo.of_eq (h kV doc pm an cdv ct us ws h1 h2)
def dCallK (n n0 nk : Nat) (ix : List Nat) (m : MF) (ma mb : MA) : ME := fun ρ Q E => ma ρ (fun ss => mb ρ (fun zs => ss.length = n0 ∧ zs.length = nk ∧ fits n (perm ix (ss ++ zs)) ∧ m (perm ix (ss ++ zs)) Q E) E) E
theorem paired_app {α β : Type} {R : α → β → Prop} : ∀ {a : List α} {b : List β} {c : List α} {d : List β}, Paired R a b → Paired R c d → Paired R (a ++ c) (b ++ d)
  | _, _, _, _, .nil, h => h
  | _, _, _, _, .cons r t, h => .cons r (paired_app t h)
theorem run_kw {pins : List (Addr × Obj)} {σ : L2.St} {H : Hp} {s : Shared} {Q : VK} {us ws : List Value} {vs zs : List V} {n0 : Nat} {ix : List Nat} {E : L2.St → XK} {sp : Sp} {CX : CXT} (F : FnOk X.prog X.w X.K X.mg X.base CX k f fd ps sp) (hr : Room k X.A) (hb : KB X.K fd ps ks n0 ix) (hx : PassesAt CX X σ (E σ))
    (I : Inv X pins σ H s) (r : Vals vs us) (rz : Vals zs ws) (h1 : vs.length = n0) (h2 : zs.length = ks.length) (h : sp (perm ix (vs ++ zs)) H Q (E σ)) : wpAny (model X.prog X.w) X.A (call (.ref f) us (ks.zip ws)) (EP X pins σ Q) X.xe s := by
  have r2 : Vals (perm ix (vs ++ zs)) (perm ix (us ++ ws)) := perm_vals (r.append rz)
  refine wpAny_call (codeAny_mono (F.run X.A X.stack s H ⟨us, ks.zip ws⟩ (perm ix (us ++ ws)) (perm ix (vs ++ zs)) Q (E σ) hr I.env0 (hb s us ws I.kIn (by rw [← r.length]; exact h1) (by rw [← rz.length]; exact h2)) r2 h) fun r s' hq => ?_)
  cases r with
  | error e => exact hx pins H s e s' I hq
  | ok fl =>
    cases fl with
    | ret u => exact I.after hq
    | next => exact False.elim hq
    | brk => exact False.elim hq
    | cont => exact False.elim hq
theorem pd_callK {n0 : Nat} {ix : List Nat} (F : FnOk X.prog X.w X.K X.mg X.base (L2.CX X.prog X.w) k f fd ps (liftSp C n m)) (hr : Room k X.A) (tk : Takes X C.W) (hg : Gl X x) (hm : X.mg x = some (.ref f)) (hk : PySem.W.keepIn X.K (.ref f) = true) (hb : KB X.K fd ps ks n0 ix)
    (ha : PA X (e :: es) (liftA C ma)) (hkw : PK X kws (liftA C mk')) (hall : (backToKw pos (keywordEach kws X.env)).all (·.1.isSome) = true := by rfl) (hks : (backToKw pos (keywordEach kws X.env)).filterMap (·.1) = ks := by rfl)
    (hdb : (x == ("__debug__" : Str)) = false := by decide) (he : starEach (e :: es) X.env = (false, eval e X.env) :: starEach es X.env := by rfl)
    (hpl : ((backTo pos (starEach (e :: es) X.env)).any (·.1) || (backToKw pos (keywordEach kws X.env)).any (·.1.isNone)) = false := by rfl) :
    PE X (.Call (.Name x p) (e :: es) kws pos) (lift C (dCallK n n0 ks.length ix m ma mk')) := by
  refine ⟨fun pins s σ H Q I h => ?_⟩
  obtain ⟨w, ρ, Q', E', st, ok, hq, ct⟩ := h
  refine wpAny_Call_Name_kw (ld_glob I hg hm ?_ hdb)
  have h1 : liftA C ma σ H (fun vs H1 => ∃ (w1 : Wd) (ss : List S), Le w H w1 H1 ∧ Ok C.T w1 H1 ∧ RA C.K w1 H1 ss vs ∧ mk' ρ (fun zs => ss.length = n0 ∧ zs.length = ks.length ∧ fits n (perm ix (ss ++ zs)) ∧ m (perm ix (ss ++ zs)) Q' E') E') :=
    mk st ok hq (fun w1 ss vs H1 le ok1 r q => ⟨w1, ss, le, ok1, r, q⟩) ct.ex
  refine PySem.W.callWith_KW (h₀ := X.base) I.ok.mod.kin hk hall (thn (ha.run pos pins s σ H _ I h1) fun us s1 ⟨vs, H1, I1, r, q⟩ => ?_) hpl he
  obtain ⟨w1, ss, le1, ok1, r1, q⟩ := q
  have h2 : liftA C mk' σ H1 (fun zs H2 => vs.length = n0 ∧ zs.length = ks.length ∧ liftSp C n m (perm ix (vs ++ zs)) H2 Q (fun cls d H' => C.W cls d σ H')) :=
    mk (st.le ok le1) ok1 q (fun w2 zs us H2 le2 ok2 r2 q2 => ⟨by rw [r1.len]; exact q2.1, by rw [RA.len r2]; exact q2.2.1, sp_of ok2 (perm_RA (paired_app (r1.le ok1 le2) r2)) q2.2.2.1 q2.2.2.2 ((ct.le le1).le le2)⟩) (ct.le le1).ex
  refine thn (hkw.run pos pins s1 σ H1 _ I1 h2) fun ws s2 ⟨zs, H2, I2, rz, e1, e2, q2⟩ => ⟨I2.kIn, ?_⟩
  rw [hks]
  exact run_kw (E := fun σ cls d H => C.W cls d σ H) F hr hb (passAt tk σ) I2 r rz e1 e2 q2
theorem pd_callK0 {ix : List Nat} (F : FnOk X.prog X.w X.K X.mg X.base (L2.CX X.prog X.w) k f fd ps (liftSp C n m)) (hr : Room k X.A) (tk : Takes X C.W) (hg : Gl X x) (hm : X.mg x = some (.ref f)) (hk : PySem.W.keepIn X.K (.ref f) = true) (hb : KB X.K fd ps ks 0 ix)
    (hkw : PK X kws (liftA C mk')) (hall : (backToKw pos (keywordEach kws X.env)).all (·.1.isSome) = true := by rfl) (hks : (backToKw pos (keywordEach kws X.env)).filterMap (·.1) = ks := by rfl)
    (hdb : (x == ("__debug__" : Str)) = false := by decide)
    (hpl : ((backTo pos (starEach [] X.env)).any (·.1) || (backToKw pos (keywordEach kws X.env)).any (·.1.isNone)) = false := by rfl) :
    PE X (.Call (.Name x p) [] kws pos) (lift C (dCallK n 0 ks.length ix m dNil mk')) := by
  refine ⟨fun pins s σ H Q I h => ?_⟩
  obtain ⟨w, ρ, Q', E', st, ok, hq, ct⟩ := h
  refine wpAny_Call_Name_kw (ld_glob I hg hm ?_ hdb)
  have h2 : liftA C mk' σ H (fun zs H2 => zs.length = ks.length ∧ liftSp C n m (perm ix ([] ++ zs)) H2 Q (fun cls d H' => C.W cls d σ H')) :=
    mk st ok hq (fun w2 zs us H2 le2 ok2 r2 q2 => ⟨by rw [RA.len r2]; exact q2.2.1, sp_of ok2 (perm_RA r2) q2.2.2.1 q2.2.2.2 (ct.le le2)⟩) ct.ex
  refine PySem.W.callWith_KW0 (h₀ := X.base) I.ok.mod.kin hk hall (thn (hkw.run pos pins s σ H _ I h2) fun ws s2 ⟨zs, H2, I2, rz, e2, q2⟩ => ⟨I2.kIn, ?_⟩) hpl
  rw [hks]
  exact run_kw (E := fun σ cls d H => C.W cls d σ H) F hr hb (passAt tk σ) I2 .nil rz rfl e2 q2
end
end DL
namespace DL
open PySem PySem.Spec PyProof.Rows L2 LamX
/-! ### views of what is given -/
/-- a list or tuple, read now -/
def onSq (s : S) (P : List D → Prop) : Prop := match s with
  | .d (.list l) => P l
  | .d (.tuple l) => P l
  | .own (.list l) => P l
  | .ro l => P l
  | _ => False
def onLs (s : S) (P : List D → Prop) : Prop := match s with
  | .d (.list l) => P l
  | .own (.list l) => P l
  | .ro l => P l
  | _ => False
section
variable {C : Cn} {w : Wd} {H : Hp} {s : S} {v : V} {P : List D → Prop}
theorem onLs_of (r : SRep C.K w H s v) (h : onLs s P) : ∃ l a vs, v = .ref a ∧ SqL C.K H a vs ∧ RepL C.K w.ex H l vs ∧ P l := by
  unfold onLs at h
  split at h
  · rename_i l
    have r : Rep C.K w.ex H (.list l) v := r
    simp only [Rep] at r
    obtain ⟨a, vs, rfl, fz, h2⟩ := r
    exact ⟨l, a, vs, rfl, .inl (.inl fz.1), h2, h⟩
  · rename_i l
    obtain ⟨a, rfl, _, _, vs, h1, h2⟩ := r
    exact ⟨l, a, vs, rfl, .inl (.inl h1), h2, h⟩
  · rename_i l
    obtain ⟨a, vs, rfl, h1, h2⟩ := r
    exact ⟨l, a, vs, rfl, h1.sq, h2, h⟩
  · exact h.elim
theorem onSq_of (r : SRep C.K w H s v) (h : onSq s P) : ∃ l a vs, v = .ref a ∧ (SqL C.K H a vs ∨ SqT C.K H a vs) ∧ RepL C.K w.ex H l vs ∧ P l := by
  unfold onSq at h
  split at h
  · rename_i l
    have r : Rep C.K w.ex H (.list l) v := r
    simp only [Rep] at r
    obtain ⟨a, vs, rfl, fz, h2⟩ := r
    exact ⟨l, a, vs, rfl, .inl (.inl (.inl fz.1)), h2, h⟩
  · rename_i l
    have r : Rep C.K w.ex H (.tuple l) v := r
    simp only [Rep] at r
    obtain ⟨a, vs, rfl, h1, h2⟩ := r
    exact ⟨l, a, vs, rfl, .inr h1, h2, h⟩
  · rename_i l
    obtain ⟨a, rfl, _, _, vs, h1, h2⟩ := r
    exact ⟨l, a, vs, rfl, .inl (.inl (.inl h1)), h2, h⟩
  · rename_i l
    obtain ⟨a, vs, rfl, h1, h2⟩ := r
    exact ⟨l, a, vs, rfl, .inl h1.sq, h2, h⟩
  · exact h.elim
end
def onI (s : S) (P : Int → Prop) : Prop := match s with
  | .d (.int i) => P i
  | _ => False
theorem onI_of {C : Cn} {w : Wd} {H : Hp} {s : S} {v : V} {P : Int → Prop} (r : SRep C.K w H s v) (h : onI s P) : ∃ i, s = .d (.int i) ∧ v = .int i ∧ P i := by
  unfold onI at h
  split at h
  · rename_i i
    exact ⟨i, rfl, sint r, h⟩
  · exact h.elim
def intsOf : List D → Option (List Int)
  | [] => some []
  | .int i :: l => (intsOf l).map (i :: ·)
  | _ :: _ => none
def boolsOf : List D → Option (List Bool)
  | [] => some []
  | .bool i :: l => (boolsOf l).map (i :: ·)
  | _ :: _ => none
@[simp] theorem intsOf_map (ns : List Int) : intsOf (ns.map .int) = some ns := by
  induction ns with
  | nil => rfl
  | cons n ns ih => rw [List.map_cons]; unfold intsOf; rw [ih] <;> rfl
@[simp] theorem boolsOf_map (ns : List Bool) : boolsOf (ns.map .bool) = some ns := by
  induction ns with
  | nil => rfl
  | cons n ns ih => rw [List.map_cons]; unfold boolsOf; rw [ih] <;> rfl
def onIs (l : List D) (P : List Int → Prop) : Prop := match intsOf l with
  | some ns => P ns
  | none => False
def onBs (l : List D) (P : List Bool → Prop) : Prop := match boolsOf l with
  | some ns => P ns
  | none => False
@[simp] theorem onIs_map (ns : List Int) (P : List Int → Prop) : onIs (ns.map .int) P = P ns := by unfold onIs; rw [intsOf_map]
@[simp] theorem onBs_map (ns : List Bool) (P : List Bool → Prop) : onBs (ns.map .bool) P = P ns := by unfold onBs; rw [boolsOf_map]
theorem intsOf_eq : ∀ {l : List PyData} {ns : List Int}, intsOf l = some ns → l = ns.map .int
  | [], ns, h => by cases h; rfl
  | .int i :: l, ns, h => by
    unfold intsOf at h
    cases e : intsOf l with
    | none => rw [e] at h; cases h
    | some ms => rw [e] at h; cases h; rw [List.map_cons, intsOf_eq e]
  | .none :: _, _, h => by cases h
  | .bool _ :: _, _, h => by cases h
  | .str _ :: _, _, h => by cases h
  | .list _ :: _, _, h => by cases h
  | .tuple _ :: _, _, h => by cases h
  | .dict _ :: _, _, h => by cases h
theorem boolsOf_eq : ∀ {l : List PyData} {ns : List Bool}, boolsOf l = some ns → l = ns.map .bool
  | [], ns, h => by cases h; rfl
  | .bool i :: l, ns, h => by
    unfold boolsOf at h
    cases e : boolsOf l with
    | none => rw [e] at h; cases h
    | some ms => rw [e] at h; cases h; rw [List.map_cons, boolsOf_eq e]
  | .none :: _, _, h => by cases h
  | .int _ :: _, _, h => by cases h
  | .str _ :: _, _, h => by cases h
  | .list _ :: _, _, h => by cases h
  | .tuple _ :: _, _, h => by cases h
  | .dict _ :: _, _, h => by cases h
theorem onIs_of {l : List PyData} {P : List Int → Prop} (h : onIs l P) : ∃ ns, l = ns.map .int ∧ P ns := by
  unfold onIs at h
  split at h
  · rename_i ns e
    exact ⟨ns, intsOf_eq e, h⟩
  · exact h.elim
theorem onBs_of {l : List PyData} {P : List Bool → Prop} (h : onBs l P) : ∃ ns, l = ns.map .bool ∧ P ns := by
  unfold onBs at h
  split at h
  · rename_i ns e
    exact ⟨ns, boolsOf_eq e, h⟩
  · exact h.elim
theorem repL_ints {K : PySem.W.Frag} {ex : Addr → Prop} {H : Hp} : ∀ {ns : List Int} {vs : List V}, RepL K ex H (ns.map .int) vs → vs = ns.map V.int
  | [], vs, h => by simpa only [List.map_nil, RepL] using h
  | n :: ns, vs, h => by
    simp only [List.map_cons, RepL, Rep] at h
    obtain ⟨v, r, rfl, rfl, h⟩ := h
    rw [repL_ints h] <;> rfl
theorem repL_bools {K : PySem.W.Frag} {ex : Addr → Prop} {H : Hp} : ∀ {ns : List Bool} {vs : List V}, RepL K ex H (ns.map .bool) vs → vs = ns.map V.bl
  | [], vs, h => by simpa only [List.map_nil, RepL] using h
  | n :: ns, vs, h => by
    simp only [List.map_cons, RepL, Rep] at h
    obtain ⟨v, r, rfl, rfl, h⟩ := h
    rw [repL_bools h] <;> rfl
theorem repL_of_ints {K : PySem.W.Frag} {ex : Addr → Prop} {H : Hp} : ∀ {ns : List Int}, RepL K ex H (ns.map .int) (ns.map V.int)
  | [] => by simp only [List.map_nil, RepL]
  | n :: ns => by
    simp only [List.map_cons, RepL, Rep]
    exact ⟨_, _, rfl, rfl, repL_of_ints⟩
theorem rep_int {K : PySem.W.Frag} {w : Wd} {H : Hp} {i : Int} : SRep K w H (.d (.int i)) (.int i) := by simp only [SRep, Rep]
theorem rep_bl {K : PySem.W.Frag} {w : Wd} {H : Hp} {i : Bool} : SRep K w H (.d (.bool i)) (.bl i) := by simp only [SRep, Rep]
theorem rep_str {K : PySem.W.Frag} {w : Wd} {H : Hp} {i : Str} : SRep K w H (.d (.str i)) (.str i) := by simp only [SRep, Rep]
/-! ### what is new -/
section
variable {C : Cn} {w : Wd} {σ : L2.St} {H : Hp} {Q' : S → Prop} {E' : Exn → Prop} {Q : VK}
theorem Ct.here (ct : Ct C (SRep C.K) w σ H Q' E' Q) (ok : Ok C.T w H) {s : S} {v : V} (r : SRep C.K w H s v) (q : Q' s) : Q v H := ct.ok w s v H (Le.refl w H) ok r q
theorem Ct.newT (ct : Ct C (SRep C.K) w σ H Q' E' Q) (ok : Ok C.T w H) {l : List D} {vs : List V} (r : RepL C.K w.ex H l vs) (q : Q' (.d (.tuple l))) {p : Addr} (hp : H p = none) : Q (.ref p) (upd H p (.tup vs)) :=
  ct.ok w _ _ _ (Le.new1 hp) (ok.new1 hp) (by simp only [SRep, Rep]; exact ⟨p, vs, rfl, SqT.of upd_same, RepL.le ok (Le.new1 hp) l vs r⟩) q
theorem Ct.newL (ct : Ct C (SRep C.K) w σ H Q' E' Q) (ok : Ok C.T w H) {l : List D} {vs : List V} (r : RepL C.K w.ex H l vs) (q : Q' (.d (.list l))) {p : Addr} (hp : H p = none) : Q (.ref p) (upd H p (.lst vs)) :=
  ct.ok w _ _ _ (Le.new1 hp) (ok.new1 hp) (by simp only [SRep, Rep]; exact ⟨p, vs, rfl, ⟨upd_same, ok.fresh hp⟩, RepL.le ok (Le.new1 hp) l vs r⟩) q
end
/-! ### displays -/
def dTup (ma : MA) : ME := fun ρ Q E => ma ρ (fun ss => onDs ss fun ds => ds.length ≤ sizeLine ∧ Q (.d (.tuple ds))) E
def dLst (ma : MA) : ME := fun ρ Q E => ma ρ (fun ss => onDs ss fun ds => ds.length ≤ sizeLine ∧ Q (.d (.list ds))) E
theorem tup_ok {C : Cn} {ma : MA} {σ : L2.St} {H : Hp} {Q : VK} (h : lift C (dTup ma) σ H Q) : tTup (liftA C ma) σ H Q := by
  obtain ⟨w, ρ, Q', E', st, ok, hm, ct⟩ := h
  refine mk st ok hm (fun w1 ss vs H1 le ok1 r q => ?_) ct.ex
  obtain ⟨ds, rfl, hz, q⟩ := onDs_of q
  have rl : RepL C.K w1.ex H1 ds vs := repL_of_RA r
  exact ⟨by rw [rl.length]; exact hz, fun p hp => (ct.le le).newT ok1 rl q hp⟩
theorem lst_ok {C : Cn} {ma : MA} {σ : L2.St} {H : Hp} {Q : VK} (h : lift C (dLst ma) σ H Q) : tLst (liftA C ma) σ H Q := by
  obtain ⟨w, ρ, Q', E', st, ok, hm, ct⟩ := h
  refine mk st ok hm (fun w1 ss vs H1 le ok1 r q => ?_) ct.ex
  obtain ⟨ds, rfl, hz, q⟩ := onDs_of q
  have rl : RepL C.K w1.ex H1 ds vs := repL_of_RA r
  exact ⟨by rw [rl.length]; exact hz, fun p hp => (ct.le le).newL ok1 rl q hp⟩
/-! ### arithmetic -/
def mulOk (i j : Int) : Prop := CMul i j ∨ CMulW i j
def addS : O2 := fun x y Q _ => match x, y with
  | .d (.int i), .d (.int j) => Q (.d (.int (i + j)))
  | .d (.str i), .d (.str j) => i.length + j.length ≤ sizeLine ∧ Q (.d (.str (i ++ j)))
  | .d (.tuple a), .d (.tuple b) => a.length + b.length ≤ sizeLine ∧ Q (.d (.tuple (a ++ b)))
  | .d (.list a), .d (.list b) => a.length + b.length ≤ sizeLine ∧ Q (.d (.list (a ++ b)))
  | _, _ => False
def rAddAll (K : PySem.W.Frag) : R2 := fun x y H Q => (rI0 (fun i j => .int (i + j)) x y H Q ∨ (∃ i j, x = .str i ∧ y = .str j ∧ i.length + j.length ≤ sizeLine ∧ Q (.str (i ++ j)) H)) ∨ (rCatA K x y H Q ∨ rCat x y H Q)
theorem op_addAll {X : Cx} : OpR X (binaryOp .Add) (rAddAll X.K) := (op_add.or op_add_str).or (op_catA.or op_cat)
theorem RepL.append {K : PySem.W.Frag} {ex : Addr → Prop} {H : Hp} {b : List PyData} {ws : List V} (r : RepL K ex H b ws) : ∀ {a : List PyData} {vs : List V}, RepL K ex H a vs → RepL K ex H (a ++ b) (vs ++ ws)
  | [], vs, h => by
    simp only [RepL] at h
    subst h
    exact r
  | x :: l, vs, h => by
    simp only [RepL] at h
    obtain ⟨u, r', rfl, h1, h2⟩ := h
    simp only [List.cons_append, RepL]
    exact ⟨u, r' ++ ws, rfl, h1, RepL.append r h2⟩
theorem add_is {C : Cn} : Is2 C addS (rAddAll C.K) := by
  intro w H σ x y v u Q' E' Q ok rx ry h ct
  unfold addS at h
  split at h
  · obtain rfl := sint rx
    obtain rfl := sint ry
    exact .inl (.inl ⟨_, _, rfl, rfl, ct.here ok rep_int h⟩)
  · obtain rfl : v = _ := by simpa only [SRep, Rep] using rx
    obtain rfl : u = _ := by simpa only [SRep, Rep] using ry
    exact .inl (.inr ⟨_, _, rfl, rfl, h.1, ct.here ok rep_str h.2⟩)
  · rename_i a b
    simp only [SRep, Rep] at rx ry
    obtain ⟨p, vs, rfl, h1, h2⟩ := rx
    obtain ⟨q, ws, rfl, g1, g2⟩ := ry
    refine .inr (.inl ⟨p, q, vs, ws, rfl, rfl, h1, g1, by rw [h2.length, g2.length]; exact h.1, fun e => ?_, fun _ e => ?_, fun _ _ t ht => ?_⟩)
    · subst e
      have ea : a = [] := List.eq_nil_of_length_eq_zero (by rw [← h2.length] <;> rfl)
      subst ea
      exact ct.here ok (by simp only [SRep, Rep]; exact ⟨q, ws, rfl, g1, g2⟩) h.2
    · subst e
      have ea : b = [] := List.eq_nil_of_length_eq_zero (by rw [← g2.length] <;> rfl)
      subst ea
      have h22 := h.2
      rw [List.append_nil] at h22
      exact ct.here ok (by simp only [SRep, Rep]; exact ⟨p, vs, rfl, h1, h2⟩) h22
    · exact ct.newT ok (RepL.append g2 h2) h.2 ht
  · rename_i a b
    simp only [SRep, Rep] at rx ry
    obtain ⟨p, vs, rfl, h1, h2⟩ := rx
    obtain ⟨q, ws, rfl, g1, g2⟩ := ry
    exact .inr (.inr ⟨p, q, vs, ws, rfl, rfl, h1.1, g1.1, by rw [h2.length, g2.length]; exact h.1, fun t ht => ct.newL ok (RepL.append g2 h2) h.2 ht⟩)
  · exact h.elim
def int2 (Cnd : Int → Int → Prop) (g : Int → Int → D) : O2 := fun x y Q _ => match x, y with
  | .d (.int i), .d (.int j) => Cnd i j ∧ Q (.d (g i j))
  | _, _ => False
theorem int2_is {C : Cn} {Cnd : Int → Int → Prop} {g : Int → Int → D} {gV : Int → Int → V} (hg : ∀ i j w H, SRep C.K w H (.d (g i j)) (gV i j)) : Is2 C (int2 Cnd g) (rI Cnd gV) := by
  intro w H σ x y v u Q' E' Q ok rx ry h ct
  unfold int2 at h
  split at h
  · obtain rfl := sint rx
    obtain rfl := sint ry
    exact ⟨_, _, rfl, rfl, h.1, ct.here ok (hg _ _ _ _) h.2⟩
  · exact h.elim
/-- of ints, no condition -/
def intP (g : Int → Int → D) : O2 := fun x y Q _ => match x, y with
  | .d (.int i), .d (.int j) => Q (.d (g i j))
  | _, _ => False
theorem intP_is {C : Cn} {g : Int → Int → D} {gV : Int → Int → V} (hg : ∀ i j w H, SRep C.K w H (.d (g i j)) (gV i j)) : Is2 C (intP g) (rI0 gV) := by
  intro w H σ x y v u Q' E' Q ok rx ry h ct
  unfold intP at h
  split at h
  · obtain rfl := sint rx
    obtain rfl := sint ry
    exact ⟨_, _, rfl, rfl, ct.here ok (hg _ _ _ _) h⟩
  · exact h.elim
abbrev subS : O2 := intP fun i j => .int (i - j)
abbrev mulS : O2 := int2 mulOk fun i j => .int (i * j)
abbrev divS : O2 := int2 CDivW fun i j => .int (i / j)
abbrev modS : O2 := int2 (fun _ j => 0 < j) fun i j => .int (i % j)
abbrev powS : O2 := int2 CPow fun i j => .int (i ^ j.toNat)
abbrev ltS : O2 := intP fun i j => .bool (decide (i < j))
abbrev leS : O2 := intP fun i j => .bool (decide (i ≤ j))
abbrev gtS : O2 := intP fun i j => .bool (decide (j < i))
abbrev geS : O2 := intP fun i j => .bool (decide (j ≤ i))
theorem op_mulAll {X : Cx} : OpR X (binaryOp .Mult) (rI mulOk fun i j => .int (i * j)) := fun pins s σ H x y v u Q I rx ry h => by
  obtain ⟨i, j, e1, e2, c, q⟩ := h
  rcases c with c | c
  · exact op_mul pins s σ H x y v u Q I rx ry ⟨i, j, e1, e2, c, q⟩
  · exact op_mulW pins s σ H x y v u Q I rx ry ⟨i, j, e1, e2, c, q⟩
def negS : O1 := fun x Q _ => onI x fun i => Q (.d (.int (-i)))
theorem neg_is {C : Cn} : Is1 C negS (rU fun i => .int (-i)) := by
  intro w H σ x v Q' E' Q ok rx h ct
  obtain ⟨i, rfl, rfl, q⟩ := onI_of rx h
  exact ⟨i, rfl, ct.here ok rep_int q⟩
/-! ### == -/
mutual
theorem Rep.dp {K : PySem.W.Frag} {ex : Addr → Prop} {H : Hp} : ∀ (d : PyData) (v : V), d.canLay0 = true → Rep K ex H d v → Dp K H v d
  | .none, v, _, h => by simp only [Rep] at h; subst h; exact .non
  | .bool b, v, _, h => by simp only [Rep] at h; subst h; exact .bl b
  | .int i, v, _, h => by simp only [Rep] at h; subst h; exact .int i
  | .str x, v, _, h => by simp only [Rep] at h; subst h; exact .str x
  | .tuple l, v, c, h => by
    simp only [Rep] at h
    obtain ⟨a, vs, rfl, h1, h2⟩ := h
    exact .tup h1 (RepL.dp l vs (by simpa only [PyData.canLay0] using c) h2)
  | .list l, v, c, h => by
    simp only [Rep] at h
    obtain ⟨a, vs, rfl, h1, h2⟩ := h
    exact .lst (.inl (.inl h1.1)) (RepL.dp l vs (by simpa only [PyData.canLay0] using c) h2)
  | .dict l, v, c, h => by simp only [PyData.canLay0] at c; cases c
theorem RepL.dp {K : PySem.W.Frag} {ex : Addr → Prop} {H : Hp} : ∀ (l : List PyData) (vs : List V), PyData.canLayAll0 l = true → RepL K ex H l vs → DpAll K H vs l
  | [], vs, _, h => by simp only [RepL] at h; subst h; exact .nil
  | d :: l, vs, c, h => by
    simp only [RepL] at h
    obtain ⟨v, r, rfl, h1, h2⟩ := h
    simp only [PyData.canLayAll0, Bool.and_eq_true] at c
    exact .cons (Rep.dp d v c.1 h1) (RepL.dp l r c.2 h2)
end
/-- data that == may be asked of -/
def dataOf : S → Option D
  | .d x => some x
  | .own (.list l) => some (.list l)
  | _ => none
theorem dataOf_dp {C : Cn} {w : Wd} {H : Hp} {s : S} {v : V} {d : PyData} (r : SRep C.K w H s v) (e : dataOf s = some d) (c : SeqAt.shaped d = true) : Dp C.K H v d := by
  unfold dataOf at e
  split at e
  · cases e
    exact Rep.dp _ v (SeqAt.canLay_of_shaped c) r
  · cases e
    rename_i l
    obtain ⟨a, rfl, _, _, vs, h1, h2⟩ := r
    exact .lst (.inl (.inl h1)) (RepL.dp l vs (by simpa only [PyData.canLay0] using SeqAt.canLay_of_shaped c) h2)
  · cases e
def eqS (neg : Bool) : O2 := fun x y Q _ => match dataOf x, dataOf y with
  | some d, some e => SeqAt.shaped d = true ∧ SeqAt.shaped e = true ∧ Q (.d (.bool (if neg then !PyData.eqv d e else PyData.eqv d e)))
  | _, _ => False
theorem eq_is {C : Cn} : Is2 C (eqS false) (rEqD C.K) := by
  intro w H σ x y v u Q' E' Q ok rx ry h ct
  unfold eqS at h
  split at h
  · rename_i d e h1 h2
    exact ⟨d, e, dataOf_dp rx h1 h.1, dataOf_dp ry h2 h.2.1, h.1, h.2.1, ct.here ok rep_bl h.2.2⟩
  · exact h.elim
theorem ne_is {C : Cn} : Is2 C (eqS true) (rNeD C.K) := by
  intro w H σ x y v u Q' E' Q ok rx ry h ct
  unfold eqS at h
  split at h
  · rename_i d e h1 h2
    exact ⟨d, e, dataOf_dp rx h1 h.1, dataOf_dp ry h2 h.2.1, h.1, h.2.1, ct.here ok rep_bl h.2.2⟩
  · exact h.elim
def isNS (neg : Bool) : O2 := fun x y Q _ => match x, y with
  | .d a, .d .none => Q (.d (.bool (match a with
    | .none => !neg
    | _ => neg)))
  | _, _ => False
theorem rep_non {K : PySem.W.Frag} {ex : Addr → Prop} {H : Hp} {d : PyData} {v : V} (r : Rep K ex H d v) : decide (v = V.non) = (match d with | .none => true | _ => false) := by
  cases d with
  | none => simp only [Rep] at r; subst r; rfl
  | bool b => simp only [Rep] at r; subst r; rfl
  | int b => simp only [Rep] at r; subst r; rfl
  | str b => simp only [Rep] at r; subst r; rfl
  | tuple b => simp only [Rep] at r; obtain ⟨a, vs, rfl, _⟩ := r; rfl
  | list b => simp only [Rep] at r; obtain ⟨a, vs, rfl, _⟩ := r; rfl
  | dict b => simp only [Rep] at r; obtain ⟨a, o, u, es, rfl, _⟩ := r; rfl
theorem isN_is {C : Cn} : Is2 C (isNS false) (fun x y H Q => y = .non ∧ Q (.bl (decide (x = .non))) H) := by
  intro w H σ x y v u Q' E' Q ok rx ry h ct
  unfold isNS at h
  split at h
  · rename_i a
    obtain rfl : u = .non := by simpa only [SRep, Rep] using ry
    refine ⟨rfl, ?_⟩
    rw [rep_non (show Rep C.K w.ex H a v from rx)]
    refine ct.here ok rep_bl ?_
    cases a <;> exact h
  · exact h.elim
theorem notN_is {C : Cn} : Is2 C (isNS true) (fun x y H Q => y = .non ∧ Q (.bl (!decide (x = .non))) H) := by
  intro w H σ x y v u Q' E' Q ok rx ry h ct
  unfold isNS at h
  split at h
  · rename_i a
    obtain rfl : u = .non := by simpa only [SRep, Rep] using ry
    refine ⟨rfl, ?_⟩
    rw [rep_non (show Rep C.K w.ex H a v from rx)]
    refine ct.here ok rep_bl ?_
    cases a <;> exact h
  · exact h.elim
/-! ### in -/
def flatD : D → Bool
  | .none => true
  | .bool _ => true
  | .int _ => true
  | .str _ => true
  | _ => false
theorem flat_rep {K : PySem.W.Frag} {ex : Addr → Prop} {H : Hp} {d : PyData} {v : V} (r : Rep K ex H d v) (f : flatD d = true) : flatV v = true := by
  cases d <;> first | (simp [flatD] at f; done) | (simp only [Rep] at r; subst r; rfl)
theorem eqV_rep {K : PySem.W.Frag} {ex : Addr → Prop} {H : Hp} {d e : PyData} {v u : V} (r : Rep K ex H d v) (q : Rep K ex H e u) (f : flatD d = true) (g : flatD e = true) : eqV v u = PyData.eqv d e := by
  cases d <;> first | (simp [flatD] at f; done) | (cases e <;> first | (simp [flatD] at g; done) | (simp only [Rep] at r q; subst r q; simp only [eqV, PyData.eqv]))
theorem inV_rep {K : PySem.W.Frag} {ex : Addr → Prop} {H : Hp} {d : PyData} {v : V} (r : Rep K ex H d v) (f : flatD d = true) : ∀ {l : List PyData} {vs : List V}, RepL K ex H l vs → l.all flatD = true → vs.all flatV = true ∧ inV v vs = l.any fun y => PyData.eqv y d
  | [], vs, h, _ => by
    simp only [RepL] at h
    subst h
    exact ⟨rfl, rfl⟩
  | x :: l, vs, h, g => by
    simp only [RepL] at h
    obtain ⟨u, r', rfl, h1, h2⟩ := h
    simp only [List.all_cons, Bool.and_eq_true] at g
    obtain ⟨i1, i2⟩ := inV_rep r f h2 g.2
    refine ⟨by rw [List.all_cons, flat_rep h1 g.1, i1] <;> rfl, ?_⟩
    show (eqV u v || inV v r') = _
    rw [List.any_cons, eqV_rep h1 r g.1 f, i2]
def inOp (neg : Bool) : O2 := fun x y Q _ => onD x fun d => onSq y fun l => flatD d = true ∧ l.all flatD = true ∧ Q (.d (.bool (if neg then !(l.any fun y => PyData.eqv y d) else l.any fun y => PyData.eqv y d)))
theorem in_is {C : Cn} {neg : Bool} : Is2 C (inOp neg) (rIn C.K neg) := by
  intro w H σ x y v u Q' E' Q ok rx ry h ct
  obtain ⟨d, rfl, h⟩ := onD_of h
  obtain ⟨l, a, vs, rfl, h1, h2, f1, f2, q⟩ := onSq_of (C := C) ry h
  obtain ⟨i1, i2⟩ := inV_rep (show Rep C.K w.ex H d v from rx) f1 h2 f2
  exact ⟨a, vs, rfl, h1, flat_rep rx f1, i1, by rw [i2]; exact ct.here ok rep_bl q⟩
/-! ### subscripts, slices -/
def ixS : O2 := fun x y Q _ => onSq x fun l => onI y fun i => match atI l i with
  | some d => Q (.d d)
  | none => False
theorem atI_rep {K : PySem.W.Frag} {ex : Addr → Prop} {H : Hp} {l : List PyData} {vs : List V} {i : Int} {d : PyData} (r : RepL K ex H l vs) (e : atI l i = some d) : ∃ v, atI vs i = some v ∧ Rep K ex H d v := by
  unfold atI at e ⊢
  rw [r.length]
  cases q : ixN l.length i with
  | none => rw [q] at e; cases e
  | some j =>
    rw [q] at e
    exact repL_get r e
theorem ix_is {C : Cn} : Is2 C ixS (rIx C.K) := by
  intro w H σ x y v u Q' E' Q ok rx ry h ct
  obtain ⟨l, a, vs, rfl, h1, h2, h⟩ := onSq_of (C := C) rx h
  obtain ⟨i, rfl, rfl, h⟩ := onI_of ry h
  split at h
  · rename_i d e
    obtain ⟨z, hz, rz⟩ := atI_rep h2 e
    have q := ct.here ok (show SRep C.K w H (.d d) z from rz) h
    rcases h1 with h1 | h1
    · exact .inl ⟨a, vs, i, z, rfl, rfl, h1, hz, q⟩
    · exact .inr (.inl ⟨a, vs, i, z, rfl, rfl, h1, hz, q⟩)
  · exact h.elim
def cutD {α : Type} (xs : List α) (lo hi : Option Int) : List α := (xs.drop (HT.sIx xs.length 0 lo)).take (HT.sIx xs.length xs.length hi - HT.sIx xs.length 0 lo)
theorem RepL.drop {K : PySem.W.Frag} {ex : Addr → Prop} {H : Hp} : ∀ (n : Nat) {l : List PyData} {vs : List V}, RepL K ex H l vs → RepL K ex H (l.drop n) (vs.drop n)
  | 0, _, _, h => h
  | n + 1, [], vs, h => by
    simp only [RepL] at h
    subst h
    simp only [List.drop_nil, RepL]
  | n + 1, d :: l, vs, h => by
    simp only [RepL] at h
    obtain ⟨v, r, rfl, h1, h2⟩ := h
    exact RepL.drop n h2
theorem RepL.take {K : PySem.W.Frag} {ex : Addr → Prop} {H : Hp} : ∀ (n : Nat) {l : List PyData} {vs : List V}, RepL K ex H l vs → RepL K ex H (l.take n) (vs.take n)
  | 0, _, _, h => by simp only [List.take_zero, RepL]
  | n + 1, [], vs, h => by
    simp only [RepL] at h
    subst h
    simp only [List.take_nil, RepL]
  | n + 1, d :: l, vs, h => by
    simp only [RepL] at h
    obtain ⟨v, r, rfl, h1, h2⟩ := h
    simp only [List.take_succ_cons, RepL]
    exact ⟨v, _, rfl, h1, RepL.take n h2⟩
theorem cut_rep {K : PySem.W.Frag} {ex : Addr → Prop} {H : Hp} {l : List PyData} {vs : List V} {lo hi : Option Int} (r : RepL K ex H l vs) : RepL K ex H (cutD l lo hi) (cutV vs lo hi) := by
  unfold cutD cutV
  rw [r.length]
  exact RepL.take _ (RepL.drop _ r)
abbrev MO := Rho → (Option Int → Prop) → (Exn → Prop) → Prop
def dNoPart : MO := fun _ Q _ => Q none
def dPart (m : ME) : MO := fun ρ Q E => m ρ (fun s => onI s fun i => Q (some i)) E
def RO : Wd → Hp → Option Int → Option Int → Prop := fun _ _ a b => a = b
theorem noPart_ok {C : Cn} {σ : L2.St} {H : Hp} {Q : Option Int → Hp → Prop} (h : liftG C RO dNoPart σ H Q) : tNoPart σ H Q := by
  obtain ⟨w, ρ, Q', E', st, ok, hm, ct⟩ := h
  exact ct.ok w none none H (Le.refl _ _) ok rfl hm
theorem part_ok {C : Cn} {m : ME} {σ : L2.St} {H : Hp} {Q : Option Int → Hp → Prop} (h : liftG C RO (dPart m) σ H Q) : tPart (lift C m) σ H Q := by
  obtain ⟨w, ρ, Q', E', st, ok, hm, ct⟩ := h
  refine mk st ok hm (fun w1 s v H1 le ok1 r q => ?_) ct.ex
  obtain ⟨i, rfl, rfl, q⟩ := onI_of r q
  exact ⟨i, rfl, ct.ok w1 (some i) (some i) H1 le ok1 rfl q⟩
def dSl (m : ME) (lo hi : MO) : ME := fun ρ Q E => m ρ (fun s => lo ρ (fun a => hi ρ (fun b => match s with
  | .d (.tuple l) => Q (.d (.tuple (cutD l a b)))
  | .d (.list l) => Q (.d (.list (cutD l a b)))
  | .ro l => Q (.d (.list (cutD l a b)))
  | .own (.list l) => Q (.d (.list (cutD l a b)))
  | _ => False) E) E) E
def rSlAll (K : PySem.W.Frag) : V → Option Int → Option Int → Hp → VK → Prop := fun x lo hi H Q => rSlL K x lo hi H Q ∨ rSlA K x lo hi H Q
theorem sl_all {X : Cx} : SlR X (rSlAll X.K) := sl_list.or sl_tupA
theorem sl_ok {C : Cn} {m : ME} {lo hi : MO} {σ : L2.St} {H : Hp} {Q : VK} (h : lift C (dSl m lo hi) σ H Q) : tSl (rSlAll C.K) (lift C m) (liftG C RO lo) (liftG C RO hi) σ H Q := by
  obtain ⟨w, ρ, Q', E', st, ok, hm, ct⟩ := h
  refine mk st ok hm (fun w1 s v H1 le ok1 r q => ?_) ct.ex
  refine mk (st.le ok le) ok1 q (fun w2 a a' H2 le2 ok2 ra q2 => ?_) (ct.le le).ex
  obtain rfl : a = a' := ra
  refine mk ((st.le ok le).le ok1 le2) ok2 q2 (fun w3 b b' H3 le3 ok3 rb q3 => ?_) ((ct.le le).le le2).ex
  obtain rfl : b = b' := rb
  have c3 := ((ct.le le).le le2).le le3
  have r3 := (r.le ok1 le2).le ok2 le3
  split at q3
  · rename_i l
    simp only [SRep, Rep] at r3
    obtain ⟨p, vs, rfl, h1, h2⟩ := r3
    refine .inr ⟨p, vs, rfl, h1, fun e => ?_, fun _ t ht => c3.newT ok3 (cut_rep h2) q3 ht⟩
    have e2 : cutD l a b = l := by
      unfold cutD
      rw [← h2.length, e.1, e.2, List.drop_zero, Nat.sub_zero, h2.length, List.take_length]
    rw [e2] at q3
    exact c3.here ok3 (by simp only [SRep, Rep]; exact ⟨p, vs, rfl, h1, h2⟩) q3
  · rename_i l
    simp only [SRep, Rep] at r3
    obtain ⟨p, vs, rfl, h1, h2⟩ := r3
    exact .inl ⟨p, vs, rfl, .inl (.inl h1.1), fun t ht => c3.newL ok3 (cut_rep h2) q3 ht⟩
  · rename_i l
    obtain ⟨p, vs, rfl, h1, h2⟩ := r3
    exact .inl ⟨p, vs, rfl, h1.sq, fun t ht => c3.newL ok3 (cut_rep h2) q3 ht⟩
  · rename_i l
    obtain ⟨p, rfl, _, _, vs, h1, h2⟩ := r3
    exact .inl ⟨p, vs, rfl, .inl (.inl h1), fun t ht => c3.newL ok3 (cut_rep h2) q3 ht⟩
  · exact q3.elim
/-! ### calls of built-ins -/
def one (op : S → (S → Prop) → Prop) : OA := fun ss Q _ => match ss with
  | [s] => op s Q
  | _ => False
theorem RA.one {K : PySem.W.Frag} {w : Wd} {H : Hp} {s : S} {vs : List V} (r : RA K w H [s] vs) : ∃ v, vs = [v] ∧ SRep K w H s v := by
  cases r with
  | cons r t => cases t; exact ⟨_, rfl, r⟩
theorem one_is {C : Cn} {op : S → (S → Prop) → Prop} {r : List V → Hp → VK → Prop} (h : ∀ (w : Wd) (H : Hp) (σ : L2.St) (s : S) (v : V) (Q' : S → Prop) (E' : Exn → Prop) (Q : VK), Ok C.T w H → SRep C.K w H s v → op s Q' → Ct C (SRep C.K) w σ H Q' E' Q → r [v] H Q) : IsA C (one op) r := by
  intro w H σ xs vs Q' E' Q ok rx q ct
  unfold one at q
  split at q
  · obtain ⟨v, rfl, rv⟩ := rx.one
    exact h w H σ _ v Q' E' Q ok rv q ct
  · exact q.elim
abbrev lenS : OA := one fun s Q => onSq s fun l => Q (.d (.int l.length))
theorem len_is {C : Cn} : IsA C lenS (fun xs H Q => ∃ p ys, xs = [.ref p] ∧ (SqL C.K H p ys ∨ SqT C.K H p ys) ∧ Q (.int ys.length) H) := one_is fun w H σ s v Q' E' Q ok r q ct => by
  obtain ⟨l, a, vs, rfl, h1, h2, q⟩ := onSq_of (C := C) r q
  exact ⟨a, vs, rfl, h1, by rw [h2.length]; exact ct.here ok rep_int q⟩
abbrev absS : OA := one fun s Q => onI s fun i => Q (.d (.int (if i < 0 then -i else i)))
theorem abs_is {C : Cn} : IsA C absS (fun xs H Q => ∃ i, xs = [.int i] ∧ Q (.int (if i < 0 then -i else i)) H) := one_is fun w H σ s v Q' E' Q ok r q ct => by
  obtain ⟨i, rfl, rfl, q⟩ := onI_of r q
  exact ⟨i, rfl, ct.here ok rep_int q⟩
/-- a whole number or a truth, as a number -/
def onIB (s : S) (P : Int → Prop) : Prop := match s with
  | .d (.int i) => P i
  | .d (.bool b) => P (if b then 1 else 0)
  | _ => False
abbrev intS : OA := one fun s Q => onIB s fun i => Q (.d (.int i))
theorem int_is {C : Cn} : IsA C intS (fun xs H Q => (∃ i, xs = [.int i] ∧ Q (.int i) H) ∨ ∃ k, xs = [.bl k] ∧ Q (.int (if k then 1 else 0)) H) := one_is fun w H σ s v Q' E' Q ok r q ct => by
  unfold onIB at q
  split at q
  · rename_i i
    obtain rfl := sint r
    exact .inl ⟨i, rfl, ct.here ok rep_int q⟩
  · rename_i b
    obtain rfl : v = _ := by simpa only [SRep, Rep] using r
    exact .inr ⟨b, rfl, ct.here ok rep_int q⟩
  · exact q.elim
def two (op : S → S → (S → Prop) → Prop) : OA := fun ss Q _ => match ss with
  | [s, t] => op s t Q
  | _ => False
theorem two_is {C : Cn} {op : S → S → (S → Prop) → Prop} {r : List V → Hp → VK → Prop} (h : ∀ (w : Wd) (H : Hp) (σ : L2.St) (s t : S) (v u : V) (Q' : S → Prop) (E' : Exn → Prop) (Q : VK), Ok C.T w H → SRep C.K w H s v → SRep C.K w H t u → op s t Q' → Ct C (SRep C.K) w σ H Q' E' Q → r [v, u] H Q) : IsA C (two op) r := by
  intro w H σ xs vs Q' E' Q ok rx q ct
  unfold two at q
  split at q
  · cases rx with
    | cons r1 t =>
      cases t with
      | cons r2 t => cases t; exact h w H σ _ _ _ _ Q' E' Q ok r1 r2 q ct
  · exact q.elim
abbrev max2S : OA := two fun s t Q => onI s fun i => onI t fun j => Q (.d (.int (if j > i then j else i)))
abbrev min2S : OA := two fun s t Q => onI s fun i => onI t fun j => Q (.d (.int (if j < i then j else i)))
theorem max2_is {C : Cn} : IsA C max2S (fun xs H Q => ∃ i j, xs = [.int i, .int j] ∧ Q (.int (if j > i then j else i)) H) := two_is fun w H σ s t v u Q' E' Q ok r r2 q ct => by
  obtain ⟨i, rfl, rfl, q⟩ := onI_of r q
  obtain ⟨j, rfl, rfl, q⟩ := onI_of r2 q
  exact ⟨i, j, rfl, ct.here ok rep_int q⟩
theorem min2_is {C : Cn} : IsA C min2S (fun xs H Q => ∃ i j, xs = [.int i, .int j] ∧ Q (.int (if j < i then j else i)) H) := two_is fun w H σ s t v u Q' E' Q ok r r2 q ct => by
  obtain ⟨i, rfl, rfl, q⟩ := onI_of r q
  obtain ⟨j, rfl, rfl, q⟩ := onI_of r2 q
  exact ⟨i, j, rfl, ct.here ok rep_int q⟩
abbrev gcdS : OA := two fun s t Q => onI s fun i => onI t fun j => Q (.d (.int (Nat.gcd i.natAbs j.natAbs : Nat)))
theorem gcd_is {C : Cn} : IsA C gcdS rGcd := two_is fun w H σ s t v u Q' E' Q ok r r2 q ct => by
  obtain ⟨i, rfl, rfl, q⟩ := onI_of r q
  obtain ⟨j, rfl, rfl, q⟩ := onI_of r2 q
  exact ⟨i, j, rfl, ct.here ok rep_int q⟩
abbrev divmodS : OA := two fun s t Q => onI s fun i => onI t fun j => CDiv i j ∧ Q (.d (.tuple [.int (i / j), .int (i % j)]))
theorem divmod_is {C : Cn} : IsA C divmodS (fun xs H Q => ∃ i j, xs = [.int i, .int j] ∧ CDiv i j ∧ ∀ p, H p = none → Q (.ref p) (upd H p (.tup [.int (i / j), .int (i % j)]))) := two_is fun w H σ s t v u Q' E' Q ok r r2 q ct => by
  obtain ⟨i, rfl, rfl, q⟩ := onI_of r q
  obtain ⟨j, rfl, rfl, q⟩ := onI_of r2 q
  exact ⟨i, j, rfl, q.1, fun p hp => ct.newT ok (repL_of_ints (ns := [i / j, i % j])) q.2 hp⟩
/-- sum of a list or of a tuple of ints -/
def rSumAll (K : PySem.W.Frag) : List V → Hp → VK → Prop := fun vs H Q => ∃ (a : Addr) (ns : List Int), vs = [V.ref a] ∧ (SqL K H a (ns.map V.int) ∨ SqT K H a (ns.map V.int)) ∧ Q (.int ns.sum) H
theorem cr_sumAll {X : Cx} (hc : X.calm = true) : CallR X (.builtin "sum") (rSumAll X.K) := by
  intro pins s σ H vs us Q I r h
  obtain ⟨a, ns, rfl, hs | hs, q⟩ := h
  · exact cr_sum hc pins s σ H _ us Q I r ⟨a, ns, rfl, hs, q⟩
  · obtain ⟨its, rv, hl, _⟩ := I.tuple hs
    rw [Vals.ref1 r]
    have hi := rv.ints
    obtain ⟨xs, e⟩ := hi.allInts.items
    have hn : numsOf (intItems xs).toList = ns := by rw [← e]; exact hi.numsOf
    rw [nums_intItems] at hn
    rw [e] at hl
    refine PySem.W.ktm_sumG (I.ok.hd hc) (show s.heap.IsTuple a (intItems xs) from hl) fun h' tk t' hk => ?_
    rw [preSum_eq, List.take_of_length_le (by simp), hn]
    exact ⟨.int _, H, I.kept hk, ⟨_, rfl⟩, q⟩
abbrev sumS : OA := one fun s Q => onSq s fun l => onIs l fun ns => Q (.d (.int ns.sum))
theorem sum_is {C : Cn} : IsA C sumS (rSumAll C.K) := one_is fun w H σ s v Q' E' Q ok r q ct => by
  obtain ⟨l, a, vs, rfl, h1, h2, q⟩ := onSq_of (C := C) r q
  obtain ⟨ns, rfl, q2⟩ := onIs_of q
  obtain rfl := repL_ints h2
  exact ⟨a, ns, rfl, h1, ct.here ok rep_int q2⟩
abbrev allS : OA := one fun s Q => onLs s fun l => onBs l fun bs => Q (.d (.bool (bs.all id)))
abbrev anyS : OA := one fun s Q => onLs s fun l => onBs l fun bs => Q (.d (.bool (bs.any id)))
theorem all_is {C : Cn} : IsA C allS (rAll C.K) := one_is fun w H σ s v Q' E' Q ok r q ct => by
  obtain ⟨l, a, vs, rfl, h1, h2, q⟩ := onLs_of (C := C) r q
  obtain ⟨ns, rfl, q2⟩ := onBs_of q
  obtain rfl := repL_bools h2
  exact ⟨a, ns, rfl, h1, ct.here ok rep_bl q2⟩
theorem any_is {C : Cn} : IsA C anyS (rAny C.K) := one_is fun w H σ s v Q' E' Q ok r q ct => by
  obtain ⟨l, a, vs, rfl, h1, h2, q⟩ := onLs_of (C := C) r q
  obtain ⟨ns, rfl, q2⟩ := onBs_of q
  obtain rfl := repL_bools h2
  exact ⟨a, ns, rfl, h1, ct.here ok rep_bl q2⟩
/-- the items in order -/
def sortI (ns : List Int) : List Int := ns.mergeSort fun a b => decide (a ≤ b)
theorem sortI_perm (ns : List Int) : (sortI ns).Perm ns := List.mergeSort_perm ns _
theorem sortI_sorted (ns : List Int) : (sortI ns).Pairwise (· ≤ ·) := by
  have h := List.pairwise_mergeSort (le := fun a b : Int => decide (a ≤ b)) (fun a b c h1 h2 => by simp at h1 h2 ⊢; omega) (fun a b => by simp; omega) ns
  exact h.imp fun h => by simpa using h
theorem sorted_eq {a b : List Int} (p : a.Perm b) (ha : a.Pairwise (· ≤ ·)) (hb : b.Pairwise (· ≤ ·)) : a = b := List.Perm.eq_of_pairwise (fun x y _ _ h1 h2 => Int.le_antisymm h1 h2) ha hb p
abbrev sortedS : OA := one fun s Q => onLs s fun l => onIs l fun ns => Q (.d (.list ((sortI ns).map .int)))
theorem sorted_is {C : Cn} : IsA C sortedS (rSortedI C.K) := one_is fun w H σ s v Q' E' Q ok r q ct => by
  obtain ⟨l, a, vs, rfl, h1, h2, q⟩ := onLs_of (C := C) r q
  obtain ⟨ns, rfl, q2⟩ := onIs_of q
  obtain rfl := repL_ints h2
  refine ⟨a, ns, rfl, h1, fun ns' p hp hs hf => ?_⟩
  rw [sorted_eq (hp.trans (sortI_perm ns).symm) hs (sortI_sorted ns)]
  exact ct.newL ok repL_of_ints q2 hf
abbrev tupleS : OA := one fun s Q => onSq s fun l => Q (.d (.tuple l))
theorem tuple_is {C : Cn} : IsA C tupleS (fun xs H Q => ∃ p ys, xs = [.ref p] ∧ ((SqL C.K H p ys ∧ ∀ l, H l = none → Q (.ref l) (upd H l (.tup ys))) ∨ (SqT C.K H p ys ∧ Q (.ref p) H))) := one_is fun w H σ s v Q' E' Q ok r q ct => by
  obtain ⟨l, a, vs, rfl, h1, h2, q⟩ := onSq_of (C := C) r q
  rcases h1 with h1 | h1
  · exact ⟨a, vs, rfl, .inl ⟨h1, fun p hp => ct.newT ok h2 q hp⟩⟩
  · exact ⟨a, vs, rfl, .inr ⟨h1, ct.here ok (by simp only [SRep, Rep]; exact ⟨a, vs, rfl, h1, h2⟩) q⟩⟩
abbrev listS : OA := one fun s Q => onSq s fun l => Q (.d (.list l))
theorem list_is {C : Cn} : IsA C listS (fun xs H Q => ∃ p ys, xs = [.ref p] ∧ (SqL C.K H p ys ∨ SqT C.K H p ys) ∧ ∀ l, H l = none → Q (.ref l) (upd H l (.lst ys))) := one_is fun w H σ s v Q' E' Q ok r q ct => by
  obtain ⟨l, a, vs, rfl, h1, h2, q⟩ := onSq_of (C := C) r q
  exact ⟨a, vs, rfl, h1, fun p hp => ct.newL ok h2 q hp⟩
/-! ### isinstance of built-in types -/
def tyN : D → String
  | .none => "NoneType"
  | .bool _ => "bool"
  | .int _ => "int"
  | .str _ => "str"
  | .list _ => "list"
  | .tuple _ => "tuple"
  | .dict _ => "dict"
def isTy (T : String) (d : D) : Bool := tyN d == T || (T == "int" && tyN d == "bool")
def okT (T : String) : Bool := ["NoneType", "bool", "int", "str", "list", "tuple", "dict"].all fun t => kitB t T == some (t == T || (T == "int" && t == "bool"))
def dIsI (T : String) (m : ME) : ME := fun ρ Q E => m ρ (fun s => onD s fun d => Q (.d (.bool (isTy T d)))) E
theorem tyX_of {K : PySem.W.Frag} {ex : Addr → Prop} {H : Hp} {d : PyData} {v : V} (hK : ∀ a xs, SqT K H a xs → TyX K H (.ref a) (.type "tuple")) (hd : ∀ l, d ≠ .dict l) (r : Rep K ex H d v) : TyX K H v (.type (tyN d)) := by
  cases d with
  | none => simp only [Rep] at r; subst r; exact .base .non
  | bool b => simp only [Rep] at r; subst r; exact .base (.bl b)
  | int b => simp only [Rep] at r; subst r; exact .base (.int b)
  | str b => simp only [Rep] at r; subst r; exact .base (.str b)
  | tuple b => simp only [Rep] at r; obtain ⟨a, vs, rfl, h1, _⟩ := r; exact hK a vs h1
  | list b => simp only [Rep] at r; obtain ⟨a, vs, rfl, h1, _⟩ := r; exact .base (.lst h1.1)
  | dict b => exact absurd rfl (hd b)
theorem tyX_tup {K : PySem.W.Frag} {H : Hp} (a : Addr) (xs : List V) (h : SqT K H a xs) : TyX K H (.ref a) (.type "tuple") := by
  rcases h with (h | ⟨o, h⟩) | ⟨o, its, n, h, hc, _⟩
  · exact .base (.tup h)
  · exact .fTuple h
  · exact .kTuple h hc
theorem kitB_ok {T : String} {d : PyData} (h : okT T = true) : kitB (tyN d) T = some (isTy T d) := by
  unfold okT at h
  rw [List.all_eq_true] at h
  exact eq_of_beq (h (tyN d) (by cases d <;> simp [tyN]))
def rIsiZ (K : PySem.W.Frag) : List V → Hp → VK → Prop := fun xs H Q => rIsi K xs H Q ∨ ∃ (a : Addr) (o : Obj) (u : HO) (es : List (PyData × V)) (T : String) (b : Bool), xs = [.ref a, .ty T] ∧ H a = some (.frz o u) ∧ DctO u es ∧ PySem.W.kitOne K (.type "dict") (.type T) = some b ∧ Q (.bl b) H
theorem call_isiZ {X : Cx} : CallR X (.builtin "isinstance") (rIsiZ X.K) := by
  intro pins s σ H xs us Q I r h
  rcases h with h | ⟨a, o, u, es, T, b, rfl, ea, d, e, q⟩
  · exact call_isi pins s σ H xs us Q I r h
  · obtain ⟨u1, u2, rfl, r1, r2⟩ := vals2 r
    cases (show u1 = Value.ref a from r1)
    cases (show u2 = Value.type T from r2)
    have z : ∃ ob, s.heap.get? a = some ob ∧ ob.cls = .type "dict" := by
      cases d with
      | k ks =>
        obtain ⟨_, _, _, vs, _, o, es, ep, h1, h2, _⟩ := (show ObjOk X.prog X.w H s.heap a (.frz o (.dK ks)) from I.hok a _ ea)
        exact ⟨o, h1, h2.1⟩
      | t ks hn =>
        obtain ⟨_, _, _, vs, _, o, es, ep, h1, h2, _⟩ := (show ObjOk X.prog X.w H s.heap a (.frz o (.dT ks)) from I.hok a _ ea)
        exact ⟨o, h1, h2.1⟩
    exact PySem.W.kia_one PySem.W.kitx_dict I.kIn z e (fun z => nomatch z) fun tk => ⟨.bl b, H, I.tok tk, rfl, q⟩
theorem isI_ok {C : Cn} {T : String} {m : ME} {σ : L2.St} {H : Hp} {Q : VK} (hT : okT T = true) (h : lift C (dIsI T m) σ H Q) : tCB (rIsiZ C.K) (tCons (lift C m) (tCons (tC (.ty T)) tNil)) σ H Q := by
  obtain ⟨w, ρ, Q', E', st, ok, hm, ct⟩ := h
  refine mk st ok hm (fun w1 s v H1 le ok1 r q => ?_) ct.ex
  obtain ⟨d, rfl, q⟩ := onD_of q
  by_cases hd : ∃ l, d = .dict l
  · obtain ⟨l, rfl⟩ := hd
    have r : Rep C.K w1.ex H1 (.dict l) v := r
    simp only [Rep] at r
    obtain ⟨a, o, u, es, rfl, h1, dd, _⟩ := r
    exact .inr ⟨a, o, u, es, T, isTy T (.dict l), rfl, h1, dd, kit_ty (kitB_ok (d := .dict l) hT), (ct.le le).here ok1 rep_bl q⟩
  · exact .inl ⟨v, .ty T, .type (tyN d), .type T, isTy T d, rfl, .ty T, tyX_of (K := C.K) tyX_tup (fun l e => hd ⟨l, e⟩) r, kit_ty (kitB_ok hT), (ct.le le).here ok1 rep_bl q⟩
end DL
namespace DL
open PySem PySem.Spec PyProof.Rows L2 LamX
/-! ### the rules, construct by construct -/
section
variable {X : Cx} {C : Cn} {a b c e elt iter : Expr} {es : List Expr} {ma mb mc m : ME} {mr : MA} {pos : Pos}
theorem pd_var (i : Nat) {x : Str} (hN : X.N[i]? = some x := by rfl) (hv : Vis X.env.scope x := by first | exact Or.inl rfl | exact Or.inr (Or.inl rfl) | exact Or.inr (Or.inr rfl)) (hd : (x == ("__debug__" : Str)) = false := by decide)
    (hcd : (x == ("__classdict__" : Str)) = false := by decide) : PE X (.Name x pos) (lift C (dVar i)) := (pe_var hN hv hd hcd).weak fun _ _ _ h => var_ok h
theorem pd_int {i : Int} {j : Nat} : PE X (.Constant (.int i) j pos) (lift C (dC (.int i))) := pe_int.weak fun _ _ _ h => c_ok (fun _ => by simp only [Rep]) h
theorem pd_bl {i : Bool} {j : Nat} : PE X (.Constant (.bool i) j pos) (lift C (dC (.bool i))) := pe_bl.weak fun _ _ _ h => c_ok (fun _ => by simp only [Rep]) h
theorem pd_non {j : Nat} : PE X (.Constant .none j pos) (lift C (dC .none)) := pe_non.weak fun _ _ _ h => c_ok (fun _ => by simp only [Rep]) h
theorem pd_str {i : Str} {j : Nat} : PE X (.Constant (.str i) j pos) (lift C (dC (.str i))) := pe_str.weak fun _ _ _ h => c_ok (fun _ => by simp only [Rep]) h
theorem pd_bin {op : Operator} {r : R2} {o : O2} (ho : OpR X (binaryOp op) r) (hi : Is2 C o r) (ha : PE X a (lift C ma)) (hb : PE X b (lift C mb)) : PE X (.BinOp a op b pos) (lift C (dOp2 o ma mb)) := (pe_op ho ha hb).weak fun _ _ _ h => op2_ok hi h
theorem pd_add (ha : PE X a (lift C ma)) (hb : PE X b (lift C mb)) (hK : X.K = C.K := by rfl) : PE X (.BinOp a .Add b pos) (lift C (dOp2 addS ma mb)) := pd_bin op_addAll (by rw [hK]; exact add_is) ha hb
theorem pd_sub (ha : PE X a (lift C ma)) (hb : PE X b (lift C mb)) : PE X (.BinOp a .Sub b pos) (lift C (dOp2 subS ma mb)) := pd_bin op_sub (intP_is fun _ _ _ _ => rep_int) ha hb
theorem pd_mul (ha : PE X a (lift C ma)) (hb : PE X b (lift C mb)) : PE X (.BinOp a .Mult b pos) (lift C (dOp2 mulS ma mb)) := pd_bin op_mulAll (int2_is fun _ _ _ _ => rep_int) ha hb
theorem pd_div (ha : PE X a (lift C ma)) (hb : PE X b (lift C mb)) : PE X (.BinOp a .FloorDiv b pos) (lift C (dOp2 divS ma mb)) := pd_bin op_fdivW (int2_is fun _ _ _ _ => rep_int) ha hb
theorem pd_mod (ha : PE X a (lift C ma)) (hb : PE X b (lift C mb)) : PE X (.BinOp a .Mod b pos) (lift C (dOp2 modS ma mb)) := pd_bin op_mod (int2_is fun _ _ _ _ => rep_int) ha hb
theorem pd_pow (ha : PE X a (lift C ma)) (hb : PE X b (lift C mb)) : PE X (.BinOp a .Pow b pos) (lift C (dOp2 powS ma mb)) := pd_bin op_pow (int2_is fun _ _ _ _ => rep_int) ha hb
theorem pd_neg (ha : PE X a (lift C ma)) : PE X (.UnaryOp .USub a pos) (lift C (dOp1 negS ma)) := (pe_un un_neg ha).weak fun _ _ _ h => op1_ok neg_is h
/-! comparisons: what each sign asks, and its reading -/
structure CmpR (X : Cx) (C : Cn) (op : CmpOp) (o : O2) : Prop where
  ex : ∃ r, OpR X (compareOp op) r ∧ Is2 C o r
theorem c_lt : CmpR X C .Lt ltS := ⟨_, op_lt, intP_is fun _ _ _ _ => rep_bl⟩
theorem c_le : CmpR X C .LtE leS := ⟨_, op_le, intP_is fun _ _ _ _ => rep_bl⟩
theorem c_gt : CmpR X C .Gt gtS := ⟨_, op_gt, intP_is fun _ _ _ _ => rep_bl⟩
theorem c_ge : CmpR X C .GtE geS := ⟨_, op_ge, intP_is fun _ _ _ _ => rep_bl⟩
theorem c_eq {k : Nat} (hr : Room k X.A) (hK : X.K = C.K := by rfl) : CmpR X C .Eq (eqS false) := ⟨_, op_eqD hr.units, by rw [hK]; exact eq_is⟩
theorem c_ne {k : Nat} (hr : Room k X.A) (hK : X.K = C.K := by rfl) : CmpR X C .NotEq (eqS true) := ⟨_, op_neD hr.units, by rw [hK]; exact ne_is⟩
theorem c_is : CmpR X C .Is (isNS false) := ⟨_, op_isN, isN_is⟩
theorem c_isnot : CmpR X C .IsNot (isNS true) := ⟨_, op_notN, notN_is⟩
theorem c_in (hK : X.K = C.K := by rfl) : CmpR X C .In (inOp false) := ⟨_, op_in_seq, by rw [hK]; exact in_is⟩
theorem c_notin (hK : X.K = C.K := by rfl) : CmpR X C .NotIn (inOp true) := ⟨_, op_notIn_seq, by rw [hK]; exact in_is⟩
theorem pd_cmp {op : CmpOp} {o : O2} (ho : CmpR X C op o) (ha : PE X a (lift C ma)) (hb : PE X b (lift C mb)) (hm : behindInMarks op b = false := by rfl) : PE X (.Compare a [op] [b] pos) (lift C (dOp2 o ma mb)) := by
  obtain ⟨r, h1, h2⟩ := ho.ex
  exact (pe_cmpR h1 ha hb hm).weak fun _ _ _ h => op2_ok h2 h
theorem tst {t : TE} {σ : L2.St} {H : Hp} {Q : Bool → Hp → Prop} (ht : ∀ Q, lift C m σ H Q → t σ H Q) (h : liftT C (dB m) σ H Q) : tTest t σ H Q := by
  obtain ⟨w, ρ, Q', E', st, ok, hm, ct⟩ := h
  exact ht _ (mk st ok hm (fun w1 x v H1 le ok1 r1 q => by
    obtain ⟨b, rfl, rfl, q⟩ := bool_of (C := C) r1 q
    exact ⟨b, rfl, ct.ok w1 b b H1 le ok1 rfl q⟩) ct.ex)
theorem pt_cmpD {op : CmpOp} {o : O2} (ho : CmpR X C op o) (ha : PE X a (lift C ma)) (hb : PE X b (lift C mb)) (hm : behindInMarks op b = false := by rfl) : PT X (.Compare a [op] [b] pos) (liftT C (dB (dOp2 o ma mb))) := by
  obtain ⟨r, h1, h2⟩ := ho.ex
  exact (pt_cmpR h1 ha hb hm).weak fun _ _ _ h => tst (fun _ => op2_ok h2) h
def dChain (o p : O2) (ma mb mc : ME) : ME := fun ρ Q E => ma ρ (fun x => mb ρ (fun y => o x y (fun z => onB z fun k => if k = true then mc ρ (fun w => p y w Q E) E else Q (.d (.bool false))) E) E) E
theorem chain_ok {o p : O2} {r r' : R2} {σ : L2.St} {H : Hp} {Q : VK} (h1 : Is2 C o r) (h2 : Is2 C p r') (h : lift C (dChain o p ma mb mc) σ H Q) : tChain r r' (lift C ma) (lift C mb) (lift C mc) σ H Q := by
  obtain ⟨w, ρ, Q', E', st, ok, hm, ct⟩ := h
  refine mk st ok hm (fun w1 x v H1 le ok1 r1 q => ?_) ct.ex
  refine mk (st.le ok le) ok1 q (fun w2 y u H2 le2 ok2 r2 q2 => ?_) (ct.le le).ex
  refine h1 w2 H2 σ x y v u _ E' _ ok2 (r1.le ok1 le2) r2 q2 ⟨fun w3 z v3 H3 le3 ok3 r3 q3 => ?_, ((ct.le le).le le2).ex⟩
  obtain ⟨k, rfl, rfl, q3⟩ := bool_of (C := C) r3 q3
  refine ⟨k, rfl, ?_⟩
  have c3 := ((ct.le le).le le2).le le3
  cases k with
  | true => exact mk (((st.le ok le).le ok1 le2).le ok2 le3) ok3 q3 (fun w4 t v4 H4 le4 ok4 r4 q4 => h2 w4 H4 σ y t u v4 Q' E' Q ok4 ((r2.le ok2 le3).le ok3 le4) r4 q4 (c3.le le4)) c3.ex
  | false => exact c3.here ok3 rep_bl q3
theorem pd_chain {op op' : CmpOp} {o p : O2} (ho : CmpR X C op o) (hp : CmpR X C op' p) (ha : PE X a (lift C ma)) (hb : PE X b (lift C mb)) (hc : PE X c (lift C mc)) (hm : lastMarks [op, op'] [b, c] = false := by with_unfolding_all rfl) :
    PE X (.Compare a [op, op'] [b, c] pos) (lift C (dChain o p ma mb mc)) := by
  obtain ⟨r, h1, h2⟩ := ho.ex
  obtain ⟨r', g1, g2⟩ := hp.ex
  exact (pe_chain h1 g1 ha hb hc hm).weak fun _ _ _ h => chain_ok h2 g2 h
theorem pt_chainD {op op' : CmpOp} {o p : O2} (ho : CmpR X C op o) (hp : CmpR X C op' p) (ha : PE X a (lift C ma)) (hb : PE X b (lift C mb)) (hc : PE X c (lift C mc)) (hm : lastMarks [op, op'] [b, c] = false := by with_unfolding_all rfl) :
    PT X (.Compare a [op, op'] [b, c] pos) (liftT C (dB (dChain o p ma mb mc))) := by
  obtain ⟨r, h1, h2⟩ := ho.ex
  obtain ⟨r', g1, g2⟩ := hp.ex
  exact (pt_chain h1 g1 ha hb hc hm).weak fun _ _ _ h => tst (fun _ => chain_ok h2 g2) h
/-! tests -/
variable {ta tb : MT} {rest : List Expr}
theorem pt_valD (h : PE X e (lift C m)) (he : ∀ whole, isTrue e X.env whole = (do let v ← whole; standAt e.pos; holding [v] (truthy v)) := by intro _; rfl) : PT X e (liftT C (dB m)) := (pt_val h he).weak fun _ _ _ h => b_ok h
theorem pw_and1D (ha : PT X a (liftT C ta)) : PW X (.BoolOp .And [a] pos) (liftT C ta) := pw_and1 ha
theorem pw_or1D (ha : PT X a (liftT C ta)) : PW X (.BoolOp .Or [a] pos) (liftT C ta) := pw_or1 ha
theorem pw_andD (ha : PT X a (liftT C ta)) (hb : PW X (.BoolOp .And (b :: rest) pos) (liftT C tb)) : PW X (.BoolOp .And (a :: b :: rest) pos) (liftT C (dAnd ta tb)) := (pw_and ha hb).weak fun _ _ _ h => and_ok h
theorem pw_orD (ha : PT X a (liftT C ta)) (hb : PW X (.BoolOp .Or (b :: rest) pos) (liftT C tb)) : PW X (.BoolOp .Or (a :: b :: rest) pos) (liftT C (dOr ta tb)) := (pw_or ha hb).weak fun _ _ _ h => or_ok h
theorem pt_notD (ha : PT X a (liftT C ta)) : PT X (.UnaryOp .Not a pos) (liftT C (dNot ta)) := (pt_not ha).weak fun _ _ _ h => not_ok h
theorem pd_one {op : PySem.BoolOp} (ha : PE X a (lift C ma)) : PE X (.BoolOp op [a] pos) (lift C ma) := pe_one ha
theorem pd_and (ha : PE X a (lift C ma)) (hb : PE X (.BoolOp .And (b :: rest) pos) (lift C mb)) : PE X (.BoolOp .And (a :: b :: rest) pos) (lift C (dAndV ma mb)) := (pe_and ha hb).weak fun _ _ _ h => andV_ok h
theorem pd_or (ha : PE X a (lift C ma)) (hb : PE X (.BoolOp .Or (b :: rest) pos) (lift C mb)) : PE X (.BoolOp .Or (a :: b :: rest) pos) (lift C (dOrV ma mb)) := (pe_or ha hb).weak fun _ _ _ h => orV_ok h
theorem pd_not (ha : PE X a (lift C ma)) : PE X (.UnaryOp .Not a pos) (lift C (dNotV ma)) := (pe_not ha).weak fun _ _ _ h => notV_ok h
theorem pd_if (ht : PT X c (liftT C ta)) (ha : PE X a (lift C ma)) (hb : PE X b (lift C mb)) : PE X (.IfExp c a b pos) (lift C (dIf ta ma mb)) := (pe_ifExp ht ha hb).weak fun _ _ _ h => if_ok h
/-! arguments, displays -/
theorem pa_nilD : PA X [] (liftA C dNil) := pa_nil.weak fun _ _ _ h => nil_ok h
theorem pa_consD (ha : PE X e (lift C m)) (hr : PA X es (liftA C mr)) (hs : starEach (e :: es) X.env = (false, eval e X.env) :: starEach es X.env := by rfl) : PA X (e :: es) (liftA C (dCons m mr)) := (pa_cons ha hr hs).weak fun _ _ _ h => cons_ok h
theorem pk_nilD : PK X [] (liftA C dNil) := ⟨fun pos pins s σ H Q I h => pk_nil.run pos pins s σ H Q I (nil_ok h)⟩
theorem pk_consD {kws : List Keyword} {nm : Option Str} {kpos : Pos} (ha : PE X e (lift C m)) (hr : PK X kws (liftA C mr)) : PK X (⟨nm, e, kpos⟩ :: kws) (liftA C (dCons m mr)) := ⟨fun pos pins s σ H Q I h => (pk_cons ha hr).run pos pins s σ H Q I (cons_ok h)⟩
theorem pd_tup {x1} (h : PA X es (liftA C mr)) : PE X (.Tuple es x1 pos) (lift C (dTup mr)) := (pe_tup h).weak fun _ _ _ h => tup_ok h
theorem pd_lst (h : PA X es (liftA C mr)) : PE X (.List es pos) (lift C (dLst mr)) := (pe_lst h).weak fun _ _ _ h => lst_ok h
/-! subscripts -/
theorem pd_ix (ha : PE X a (lift C ma)) (hb : PE X b (lift C mb)) (hs : PlainIx b := by exact fun _ _ => rfl) (hK : X.K = C.K := by rfl) : PE X (.Subscript a b pos) (lift C (dOp2 ixS ma mb)) := (pe_ix ix_seq ha hb hs).weak fun _ _ _ h => by
  rw [hK]
  exact op2_ok ix_is h
variable {lo hi : Option Expr} {ml mh : MO} {p2 : Pos}
theorem po_noneD : PO X none (liftG C RO dNoPart) := ⟨fun pins s σ H Q I h => po_none.run pins s σ H Q I (noPart_ok h)⟩
theorem po_someD (h : PE X e (lift C m)) : PO X (some e) (liftG C RO (dPart m)) := ⟨fun pins s σ H Q I q => (po_some h).run pins s σ H Q I (part_ok q)⟩
theorem pd_slice (he : PE X e (lift C m)) (hl : PO X lo (liftG C RO ml)) (hu : PO X hi (liftG C RO mh)) (hK : X.K = C.K := by rfl) : PE X (.Subscript e (.Slice lo hi none p2) pos) (lift C (dSl m ml mh)) := (pe_slice sl_all he hl hu).weak fun _ _ _ h => by
  rw [hK]
  exact sl_ok h
/-! built-ins -/
variable {x : Str} {p : Pos} {op : OA} {r : List V → Hp → VK → Prop}
theorem pd_callB {id : String} (hc : CallR X (.builtin id) r) (hi : IsA C op r) (hv : bootBuiltins x = some (.builtin id)) (hg : Gl X x) (hm : X.mg x = none) (ha : PA X (e :: es) (liftA C mr)) (hn : x ≠ "__name__" := by decide) (hdb : (x == ("__debug__" : Str)) = false := by decide)
    (he : starEach (e :: es) X.env = (false, eval e X.env) :: starEach es X.env := by rfl) (hpl : (backTo pos (starEach es X.env)).any (·.1) = false := by rfl) : PE X (.Call (.Name x p) (e :: es) [] pos) (lift C (dCB op mr)) := (pe_callB hc hg hm hv ha hn hdb he hpl).weak fun _ _ _ h => cb_ok hi h
theorem pd_callTy {ty : String} (hc : CallR X (.type ty) r) (hi : IsA C op r) (hv : bootBuiltins x = some (.type ty)) (hg : Gl X x) (hm : X.mg x = none) (ha : PA X (e :: es) (liftA C mr)) (hn : x ≠ "__name__" := by decide) (hdb : (x == ("__debug__" : Str)) = false := by decide)
    (he : starEach (e :: es) X.env = (false, eval e X.env) :: starEach es X.env := by rfl) (hpl : (backTo pos (starEach es X.env)).any (·.1) = false := by rfl) : PE X (.Call (.Name x p) (e :: es) [] pos) (lift C (dCB op mr)) := (pe_callTy hc hg hm hv ha hn hdb he hpl).weak fun _ _ _ h => cb_ok hi h
theorem pd_callBfun {id : String} (hc : CallR X (.builtin id) r) (hi : IsA C op r) (hm : X.mg x = some (.builtin id)) (hg : Gl X x) (ha : PA X (e :: es) (liftA C mr)) (hdb : (x == ("__debug__" : Str)) = false := by decide)
    (he : starEach (e :: es) X.env = (false, eval e X.env) :: starEach es X.env := by rfl) (hpl : (backTo pos (starEach es X.env)).any (·.1) = false := by rfl) : PE X (.Call (.Name x p) (e :: es) [] pos) (lift C (dCB op mr)) := (pe_callBfun hc hg hm ha hdb he hpl).weak fun _ _ _ h => cb_ok hi h
theorem b_len : bootBuiltins "len" = some (.builtin "len") := PySem.boot_len
theorem pd_len (hm : X.mg "len" = none) (ha : PA X (e :: es) (liftA C mr)) (hg : Gl X "len" := by rfl) (hK : X.K = C.K := by rfl) (he : starEach (e :: es) X.env = (false, eval e X.env) :: starEach es X.env := by rfl) (hpl : (backTo pos (starEach es X.env)).any (·.1) = false := by rfl) :
    PE X (.Call (.Name "len" p) (e :: es) [] pos) (lift C (dCB lenS mr)) := pd_callB call_len_seq (by rw [hK]; exact len_is) PySem.boot_len hg hm ha (he := he) (hpl := hpl)
theorem pd_abs (hm : X.mg "abs" = none) (ha : PA X (e :: es) (liftA C mr)) (hg : Gl X "abs" := by rfl) (he : starEach (e :: es) X.env = (false, eval e X.env) :: starEach es X.env := by rfl) (hpl : (backTo pos (starEach es X.env)).any (·.1) = false := by rfl) :
    PE X (.Call (.Name "abs" p) (e :: es) [] pos) (lift C (dCB absS mr)) := pd_callB call_abs abs_is (by decide +kernel) hg hm ha (he := he) (hpl := hpl)
theorem pd_intC (hm : X.mg "int" = none) (ha : PA X (e :: es) (liftA C mr)) (hg : Gl X "int" := by rfl) (he : starEach (e :: es) X.env = (false, eval e X.env) :: starEach es X.env := by rfl) (hpl : (backTo pos (starEach es X.env)).any (·.1) = false := by rfl) :
    PE X (.Call (.Name "int" p) (e :: es) [] pos) (lift C (dCB intS mr)) := pd_callTy call_int1 int_is (by decide +kernel) hg hm ha (he := he) (hpl := hpl)
theorem pd_max2 (hc : X.calm = true) (hm : X.mg "max" = none) (ha : PA X (e :: es) (liftA C mr)) (hg : Gl X "max" := by rfl) (he : starEach (e :: es) X.env = (false, eval e X.env) :: starEach es X.env := by rfl) (hpl : (backTo pos (starEach es X.env)).any (·.1) = false := by rfl) :
    PE X (.Call (.Name "max" p) (e :: es) [] pos) (lift C (dCB max2S mr)) := pd_callB (call_max2 hc) max2_is (by decide +kernel) hg hm ha (he := he) (hpl := hpl)
theorem pd_min2 (hc : X.calm = true) (hm : X.mg "min" = none) (ha : PA X (e :: es) (liftA C mr)) (hg : Gl X "min" := by rfl) (he : starEach (e :: es) X.env = (false, eval e X.env) :: starEach es X.env := by rfl) (hpl : (backTo pos (starEach es X.env)).any (·.1) = false := by rfl) :
    PE X (.Call (.Name "min" p) (e :: es) [] pos) (lift C (dCB min2S mr)) := pd_callB (call_min2 hc) min2_is (by decide +kernel) hg hm ha (he := he) (hpl := hpl)
theorem pd_divmod (hm : X.mg "divmod" = none) (ha : PA X (e :: es) (liftA C mr)) (hg : Gl X "divmod" := by rfl) (he : starEach (e :: es) X.env = (false, eval e X.env) :: starEach es X.env := by rfl) (hpl : (backTo pos (starEach es X.env)).any (·.1) = false := by rfl) :
    PE X (.Call (.Name "divmod" p) (e :: es) [] pos) (lift C (dCB divmodS mr)) := pd_callB call_divmod divmod_is (by decide +kernel) hg hm ha (he := he) (hpl := hpl)
theorem pd_sum (hc : X.calm = true) (hm : X.mg "sum" = none) (ha : PA X (e :: es) (liftA C mr)) (hg : Gl X "sum" := by rfl) (hK : X.K = C.K := by rfl) (he : starEach (e :: es) X.env = (false, eval e X.env) :: starEach es X.env := by rfl) (hpl : (backTo pos (starEach es X.env)).any (·.1) = false := by rfl) :
    PE X (.Call (.Name "sum" p) (e :: es) [] pos) (lift C (dCB sumS mr)) := pd_callB (cr_sumAll hc) (by rw [hK]; exact sum_is) PyProof.Rows.boot_sum hg hm ha (he := he) (hpl := hpl)
theorem pd_all (hc : X.calm = true) (hm : X.mg "all" = none) (ha : PA X (e :: es) (liftA C mr)) (hg : Gl X "all" := by rfl) (hK : X.K = C.K := by rfl) (he : starEach (e :: es) X.env = (false, eval e X.env) :: starEach es X.env := by rfl) (hpl : (backTo pos (starEach es X.env)).any (·.1) = false := by rfl) :
    PE X (.Call (.Name "all" p) (e :: es) [] pos) (lift C (dCB allS mr)) := pd_callB (cr_all hc) (by rw [hK]; exact all_is) (by decide +kernel) hg hm ha (he := he) (hpl := hpl)
theorem pd_any (hc : X.calm = true) (hm : X.mg "any" = none) (ha : PA X (e :: es) (liftA C mr)) (hg : Gl X "any" := by rfl) (hK : X.K = C.K := by rfl) (he : starEach (e :: es) X.env = (false, eval e X.env) :: starEach es X.env := by rfl) (hpl : (backTo pos (starEach es X.env)).any (·.1) = false := by rfl) :
    PE X (.Call (.Name "any" p) (e :: es) [] pos) (lift C (dCB anyS mr)) := pd_callB (cr_any hc) (by rw [hK]; exact any_is) (by decide +kernel) hg hm ha (he := he) (hpl := hpl)
theorem pd_sorted (hm : X.mg "sorted" = none) (ha : PA X (e :: es) (liftA C mr)) (hg : Gl X "sorted" := by rfl) (hK : X.K = C.K := by rfl) (he : starEach (e :: es) X.env = (false, eval e X.env) :: starEach es X.env := by rfl) (hpl : (backTo pos (starEach es X.env)).any (·.1) = false := by rfl) :
    PE X (.Call (.Name "sorted" p) (e :: es) [] pos) (lift C (dCB sortedS mr)) := pd_callB cr_sortedI (by rw [hK]; exact sorted_is) PyProof.Rows.boot_sorted hg hm ha (he := he) (hpl := hpl)
theorem pd_tuple (hm : X.mg "tuple" = none) (ha : PA X (e :: es) (liftA C mr)) (hg : Gl X "tuple" := by rfl) (hK : X.K = C.K := by rfl) (he : starEach (e :: es) X.env = (false, eval e X.env) :: starEach es X.env := by rfl) (hpl : (backTo pos (starEach es X.env)).any (·.1) = false := by rfl) :
    PE X (.Call (.Name "tuple" p) (e :: es) [] pos) (lift C (dCB tupleS mr)) := pd_callTy call_tuple_of (by rw [hK]; exact tuple_is) (by decide +kernel) hg hm ha (he := he) (hpl := hpl)
theorem pd_list (hm : X.mg "list" = none) (ha : PA X (e :: es) (liftA C mr)) (hg : Gl X "list" := by rfl) (hK : X.K = C.K := by rfl) (he : starEach (e :: es) X.env = (false, eval e X.env) :: starEach es X.env := by rfl) (hpl : (backTo pos (starEach es X.env)).any (·.1) = false := by rfl) :
    PE X (.Call (.Name "list" p) (e :: es) [] pos) (lift C (dCB listS mr)) := pd_callTy call_list_of (by rw [hK]; exact list_is) (by decide +kernel) hg hm ha (he := he) (hpl := hpl)
/-- isinstance(x, T), T a built-in type -/
theorem pd_isi {ty : String} {q : Pos} (hm : X.mg "isinstance" = none) (hT : X.mg ⟨ty.toList.toArray.map (·.toNat)⟩ = none) (ha : PE X e (lift C m)) (hx : x = ⟨ty.toList.toArray.map (·.toNat)⟩) (hv : bootBuiltins x = some (.type ty)) (hn : x ≠ "__name__") (hdb : (x == ("__debug__" : Str)) = false) (ok : okT ty = true) (hg : Gl X "isinstance" := by rfl) (hgT : Gl X x := by rfl) (hK : X.K = C.K := by rfl)
    (he : starEach (e :: [.Name x q]) X.env = (false, eval e X.env) :: starEach [.Name x q] X.env := by rfl) (hpl : (backTo pos (starEach [.Name x q] X.env)).any (·.1) = false := by rfl) (he2 : starEach (.Name x q :: []) X.env = (false, eval (.Name x q) X.env) :: starEach [] X.env := by rfl) :
    PE X (.Call (.Name "isinstance" p) [e, .Name x q] [] pos) (lift C (dIsI ty m)) := by
  subst hx
  exact (pe_callB call_isiZ hg hm (by decide +kernel) (pa_cons ha (pa_cons (pe_bltn (v := .ty ty) hgT hT hv rfl hn hdb) pa_nil he2) he) (he := he) (hpl := hpl)).weak fun _ _ _ h => by
    rw [hK]
    exact isI_ok ok h
/-! comprehensions -/
theorem pi_iter {tg : Expr} (h : PE X iter (lift C m)) : PI X tg iter (iSeq X.K (lift C m)) := pi_seq h
theorem pd_comp {tg : Expr} {ifs : List Expr} {scope : Scope} {own : List (Str × Nat)} {wi : TI} {g : TG} {mi : MI} {mg : MG} {t : MT} (hc : X.calm = true) (hN : X.N.Nodup) (hI : IsI C mi wi) (hi : PI X tg iter wi) (ok : BlkOk X.N X.env.scope scope own) (hG : IsG C (fun i => i ∈ own.map (·.2)) mg g)
    (hg : ∀ (s : Shared) (H : Hp) (L : Addr) (cl : List (Str × Addr)) (fp : List Addr), PG (X.blk s H scope (compEnvC scope cl L X.env) fp) tg g) (ht : ∀ (s : Shared) (H : Hp) (L : Addr) (cl : List (Str × Addr)) (fp : List Addr), PTs (X.blk s H scope (compEnvC scope cl L X.env) fp) ifs (liftT C.quiet t))
    (he : ∀ (s : Shared) (H : Hp) (L : Addr) (cl : List (Str × Addr)) (fp : List Addr), PE (X.blk s H scope (compEnvC scope cl L X.env) fp) elt (lift C.quiet m)) (hs : ∀ x, foldedSetIterable iter X.env x = pure x := by intro _; rfl) :
    PE X (.ListComp elt [⟨tg, iter, ifs, 0⟩] scope pos) (lift C (dComp mi mg t m (own.map (·.2)))) := (pe_lc hc hN hi ok hg ht he hs).weak fun _ _ _ h => comp_ok hI hG h
def dYes : MT := fun _ Q _ => Q true
theorem pts_nilD : PTs X [] (liftT C dYes) := ⟨fun pins s σ H Q I h => pts_nil.run pins s σ H Q I (by
  obtain ⟨w, ρ, Q', E', st, ok, hm, ct⟩ := h
  exact ct.ok w true true H (Le.refl _ _) ok rfl hm)⟩
theorem pts_oneD (h : PT X c (liftT C ta)) : PTs X [c] (liftT C ta) := pts_one h
/-! statements -/
variable {w0 : Wd} {H0 : Hp} {st : Stmt} {sts aa bb : List Stmt} {s1 s2 : MS}
theorem psd_nil : PSs X [] (liftS C w0 H0 dNext) := pss_nil.weak fun _ _ _ h => next_ok h
theorem psd_cons (h1 : PS X st (liftS C w0 H0 s1)) (h2 : PSs X sts (liftS C w0 H0 s2)) : PSs X (st :: sts) (liftS C w0 H0 (dSeq s1 s2)) := (pss_cons h1 h2).weak fun _ _ _ h => seq_ok h
theorem psd_one (h1 : PS X st (liftS C w0 H0 s1)) : PSs X [st] (liftS C w0 H0 s1) := pss_one h1
theorem psd_freeze (i : Nat) (h : PSs X sts (liftS C w0 H0 s1)) : PSs X sts (liftS C w0 H0 (dFreeze i s1)) := h.weak fun _ _ _ h => freeze_ok h
theorem psd_pass : PS X (.Pass pos) (liftS C w0 H0 dNext) := ps_pass.weak fun _ _ _ h => next_ok h
theorem psd_break : PS X (.Break pos) (liftS C w0 H0 dBrk) := ps_break.weak fun _ _ _ h => brk_ok h
theorem psd_continue : PS X (.Continue pos) (liftS C w0 H0 dCont) := ps_continue.weak fun _ _ _ h => cont_ok h
theorem psd_never : PS X st (liftS C w0 H0 dNever) := ps_never.weak fun _ _ _ h => never_ok h
theorem psd_expr (he : PE X e (lift C m)) (hs : swapsWith e none pos.line X.env = pure false := by rfl) : PS X (.Expr e pos) (liftS C w0 H0 (dDrop m)) := (ps_expr he hs).weak fun _ _ _ h => drop_ok h
theorem psd_ret (he : PE X e (lift C m)) : PS X (.Return (some e) pos) (liftS C w0 H0 (dRet m)) := (ps_ret he).weak fun _ _ _ h => ret_ok h
theorem psd_retN : PS X (.Return none pos) (liftS C w0 H0 dRetN) := ps_retN.weak fun _ _ _ h => retN_ok h
theorem psd_retO (i : Nat) {y : Str} {q : Pos} (hN : X.N[i]? = some y := by rfl) (hv : Vis X.env.scope y := by first | exact Or.inl rfl | exact Or.inr (Or.inl rfl) | exact Or.inr (Or.inr rfl)) (hd : (y == ("__debug__" : Str)) = false := by decide)
    (hcd : (y == ("__classdict__" : Str)) = false := by decide) : PS X (.Return (some (.Name y q)) pos) (liftS C w0 H0 (dRetO i)) := (ps_ret (pe_var hN hv hd hcd)).weak fun _ _ _ h => retO_ok h
theorem psd_if (hc : PT X c (liftT C ta)) (ha : PSs X aa (liftS C w0 H0 s1)) (hb : PSs X bb (liftS C w0 H0 s2)) : PS X (.If c aa bb pos) (liftS C w0 H0 (dIfS ta s1 s2)) := (ps_if hc ha hb).weak fun _ _ _ h => ifS_ok h
theorem psd_set (i : Nat) {y : Str} {q : Pos} (hN : X.N.Nodup) (he : PE X e (lift C m)) (hi : X.N[i]? = some y := by rfl) (hx : Loc X.env.scope y := by first | exact Or.inl rfl | exact Or.inr rfl) (hs : swapsWith e (some (.Name y q)) pos.line X.env = pure false := by rfl) (hf : X.fn y = true ∨ X.env.scope.names.lookup y = some .local := by first | exact .inl rfl | exact .inr rfl) :
    PS X (.Assign [.Name y q] e pos) (liftS C w0 H0 (dAsg i m)) := (ps_set hN hi hx he hs hf).weak fun _ _ _ h => asg_ok h
/-- a comprehension stored by its own name's statement -/
theorem psd_setLc (i : Nat) {y : Str} {py : Pos} {tg : Expr} {ifs : List Expr} {scope : Scope} {own : List (Str × Nat)} {spos : Pos} {wi : TI} {g : TG} {mi : MI} {mg : MG} {t : MT} (hc : X.calm = true) (hN : X.N.Nodup) (hsw : swapsWith (.ListComp elt [⟨tg, iter, ifs, 0⟩] scope pos) (some (.Name y py)) spos.line X.env = pure true) (hI : IsI C mi wi) (hi : PI X tg iter wi) (ok : BlkOk X.N X.env.scope scope own) (hG : IsG C (fun i => i ∈ own.map (·.2)) mg g)
    (hg : ∀ (s : Shared) (H : Hp) (L : Addr) (cl : List (Str × Addr)) (fp : List Addr), PG (X.blk s H scope (compEnvC scope cl L X.env) fp) tg g) (ht : ∀ (s : Shared) (H : Hp) (L : Addr) (cl : List (Str × Addr)) (fp : List Addr), PTs (X.blk s H scope (compEnvC scope cl L X.env) fp) ifs (liftT C.quiet t))
    (he : ∀ (s : Shared) (H : Hp) (L : Addr) (cl : List (Str × Addr)) (fp : List Addr), PE (X.blk s H scope (compEnvC scope cl L X.env) fp) elt (lift C.quiet m)) (hy : X.N[i]? = some y := by rfl) (hyl : X.env.scope.names.lookup y = some .local := by rfl) (hs : ∀ x, foldedSetIterable iter X.env x = pure x := by intro _; rfl) :
    PS X (.Assign [.Name y py] (.ListComp elt [⟨tg, iter, ifs, 0⟩] scope pos) spos) (liftS C w0 H0 (dAsg i (dComp mi mg t m (own.map (·.2))))) := (ps_setLc hc hN hy hyl hsw hi ok hg ht he hs).weak fun D σ H h => by
  obtain ⟨w, ρ, k, st, hm, ct⟩ := h
  refine comp_ok hI hG (inS st ct hm fun w1 s v H1 l st1 ct1 r q => ?_)
  obtain ⟨no, q⟩ := plain_of q
  exact ct1.nx w1 _ _ H1 (FLe.refl _ _) (st1.set r no) q
theorem psd_par (i j : Nat) {y z : Str} {px py pt pt2 : Pos} {kt k2 : Nat} (hc : X.calm = true) (hN : X.N.Nodup) (ha : PE X a (lift C ma)) (hb : PE X b (lift C mb)) (hi : X.N[i]? = some y := by rfl) (hj : X.N[j]? = some z := by rfl) (hij : i ≠ j := by decide)
    (hx : X.env.scope.names.lookup y = some .local := by rfl) (hy : X.env.scope.names.lookup z = some .local := by rfl) (hw : swappedStores [.Tuple [.Name y px, .Name z py] kt pt] (.Tuple [a, b] k2 pt2) X.env = pure (some [y, z]) := by rfl)
    (hs : swapsWithSole [.Tuple [.Name y px, .Name z py] kt pt] (.Tuple [a, b] k2 pt2) pos.line X.env = pure false := by rfl) (h1 : starEach (a :: [b]) X.env = (false, eval a X.env) :: starEach [b] X.env := by rfl) (h2 : starEach (b :: []) X.env = (false, eval b X.env) :: starEach [] X.env := by rfl) :
    PS X (.Assign [.Tuple [.Name y px, .Name z py] kt pt] (.Tuple [a, b] k2 pt2) pos) (liftS C w0 H0 (dPar i j ma mb)) := (ps_par hc hN hi hj hij hx hy (pa_cons ha (pa_cons hb pa_nil h2) h1) hw hs).weak fun _ _ _ h => par_ok h
/-- a, b = e; (targets of any form) -/
def dAsgG (g : MG) (m : ME) : MS := fun ρ k => m ρ (fun s => g s ρ k.nx) (k.ex ρ)
theorem asgG_ok {mg : MG} {g : TG} {ix : Nat → Prop} {D : Ends} {σ : L2.St} {H : Hp} (hG : IsG C ix mg g) (h : liftS C w0 H0 (dAsgG mg m) D σ H) : tAsg (lift C m) g D σ H := by
  obtain ⟨w, ρ, k, st, hm, ct⟩ := h
  refine inS st ct hm fun w1 s v H1 l st1 ct1 r q => ?_
  exact hG w1 H1 ρ ρ σ σ s v _ _ (.refl _ _) r q fun ρ' σ' se q' => ct1.nx w1 ρ' σ' H1 (FLe.refl _ _) (se.stS st1) q'
theorem psd_asg {tg : Expr} {mg : MG} {g : TG} {ix : Nat → Prop} (hG : IsG C ix mg g) (hg : PG X tg g) (he : PE X e (lift C m)) (hs : swapsWithSole [tg] e pos.line X.env = pure false := by rfl) (hw : swappedStores [tg] e X.env = pure none := by rfl) (h1 : (assignEach [tg] X.env).map (·.2) = [assign tg X.env] := by rfl) :
    PS X (.Assign [tg] e pos) (liftS C w0 H0 (dAsgG mg m)) := (ps_asg he hg hs hw h1).weak fun _ _ _ h => asgG_ok hG h
theorem psd_newL (i : Nat) {y : Str} {q p3 : Pos} (hN : X.N.Nodup) (ha : PA X es (liftA C mr)) (hi : X.N[i]? = some y := by rfl) (hx : Loc X.env.scope y := by first | exact Or.inl rfl | exact Or.inr rfl) (hs : swapsWith (.List es p3) (some (.Name y q)) pos.line X.env = pure false := by rfl) (hf : X.fn y = true ∨ X.env.scope.names.lookup y = some .local := by first | exact .inl rfl | exact .inr rfl) :
    PS X (.Assign [.Name y q] (.List es p3) pos) (liftS C w0 H0 (dNewL i mr)) := (ps_set hN hi hx (pe_lst ha) hs hf).weak fun _ _ _ h => newL_ok h
theorem psd_for {tg : Expr} {wi : TI} {g : TG} {mi : MI} {mg : MG} {ix : Nat → Prop} (hp : PassesOwn (model X.prog X.w) X.A X.env X.xe) (hc : X.calm = true) (hI : IsI C mi wi) (hi : PI X tg iter wi) (hG : IsG C ix mg g) (hg : PG X tg g) (hb : PSs X sts (liftS C w0 H0 s1)) (hs : ∀ x, foldedSetIterable iter X.env x = pure x := by intro _; rfl) :
    PS X (.For tg iter sts [] pos) (liftS C w0 H0 (dFor mi mg s1)) := (ps_for hp hc hi hg hb hs).weak fun _ _ _ h => for_ok hI hG h
theorem psd_while (hp : PassesOwn (model X.prog X.w) X.A X.env X.xe) (hc : PT X c (liftT C ta)) (hb : PSs X sts (liftS C w0 H0 s1)) : PS X (.While c sts [] pos) (liftS C w0 H0 (dWhile ta s1)) := (ps_while hp hc hb).weak fun _ _ _ h => while_ok h
end
end DL
namespace DL
open PySem PySem.Spec PyProof.Rows L2 LamX NdefX
/-! ### functions handed on -/
/-- cells and functions stand -/
def Kept (s0 : Shared) (H0 : Hp) (s : Shared) (H : Hp) : Prop := ∀ (b : Addr) (o : Obj), s0.heap.get? b = some o → H0 b = none → ((∃ v, o.data = .cell v) ∨ ∃ fd, o.data = .func fd) → (∃ sl, s.heap.get? b = some { o with slots := sl }) ∧ H b = none
theorem Kept.refl (s : Shared) (H : Hp) : Kept s H s H := fun b o e n _ => ⟨⟨o.slots, e⟩, n⟩
theorem Kept.trans {s0 s1 s2 : Shared} {H0 H1 H2 : Hp} (a : Kept s0 H0 s1 H1) (b : Kept s1 H1 s2 H2) : Kept s0 H0 s2 H2 := fun x o e n k => by
  obtain ⟨⟨sl, e1⟩, n1⟩ := a x o e n k
  obtain ⟨⟨sl2, e2⟩, n2⟩ := b x _ e1 n1 k
  exact ⟨⟨sl2, e2⟩, n2⟩
theorem Kept.of {X : Cx} {pins : List (Addr × Obj)} {σ : L2.St} {H : Hp} {s : Shared} (I : Inv X pins σ H s) (hex : X.ex = []) : Kept X.s_0 X.H_0 s H := fun b o e n k => by
  have nx : b ∉ X.ex := by rw [hex]; simp
  exact ⟨I.base.any e n nx, I.base.free b o e n nx⟩
/-- the function v does as φ tells, wherever what stood when it was made stands -/
structure CloAt (P : Program) (w : World) (K : PySem.W.Frag) (mg : Str → Option Value) (base : Heap) (C : Cn) (k n : Nat) (φ : MF) (v : Fv) (s0 : Shared) (Hs : Hp) : Prop where
  ok : Ok C.T v.W v.H
  fn : ∃ o fd, s0.heap.get? v.f = some o ∧ o.data = .func fd ∧ Hs v.f = none
  run : ∀ (A : Around) (outer : List Env) (s : Shared) (H : Hp) (us : List Value) (vs : List V) (ss : List S) (wd : Wd) (Q' : S → Prop) (E' : Exn → Prop) (Q : VK) (E : XK), Room k A → Env0 P w K mg base A outer s H → Kept s0 Hs s H → FLe v.W v.H wd H → Ok C.T wd H → Vals vs us → RA C.K wd H ss vs → fits n ss → φ ss Q' E' →
    (∀ (w' : Wd) (s' : S) (u : V) (H' : Hp), Le wd H w' H' → Ok C.T w' H' → SRep C.K w' H' s' u → isOwn s' = false → Q' s' → Q u H') →
    (∀ (w' : Wd) (x : Exn) (cls : Value) (d : Option Addr) (H' : Hp), Le wd H w' H' → Ok C.T w' H' → XRep C.K C.N w' H' x cls d → E' x → E cls d H') →
    codeAny (model P w) A (.call (.ref v.f) ⟨us, []⟩) (CR (L2.CX P w) outer P w H s Q E) s
theorem CloAt.later {P : Program} {w : World} {K : PySem.W.Frag} {mg : Str → Option Value} {base : Heap} {C : Cn} {k n : Nat} {φ : MF} {v : Fv} {s0 s1 : Shared} {Hs H1 : Hp} (c : CloAt P w K mg base C k n φ v s0 Hs) (kp : Kept s0 Hs s1 H1) : CloAt P w K mg base C k n φ v s1 H1 where
  ok := c.ok
  fn := by
    obtain ⟨o, fd, e, d, nn⟩ := c.fn
    obtain ⟨⟨sl, e1⟩, n1⟩ := kp _ o e nn (.inr ⟨fd, d⟩)
    exact ⟨_, fd, e1, d, n1⟩
  run := fun A outer s H us vs ss wd Q' E' Q E hr e0 k2 => c.run A outer s H us vs ss wd Q' E' Q E hr e0 (kp.trans k2)
theorem CloAt.mono {P : Program} {w : World} {K : PySem.W.Frag} {mg : Str → Option Value} {base : Heap} {C : Cn} {j k n : Nat} {φ : MF} {v : Fv} {s0 : Shared} {Hs : Hp} (c : CloAt P w K mg base C j n φ v s0 Hs) (h : j ≤ k) : CloAt P w K mg base C k n φ v s0 Hs where
  ok := c.ok
  fn := c.fn
  run := fun A outer s H us vs ss wd Q' E' Q E hr e0 => c.run A outer s H us vs ss wd Q' E' Q E (hr.mono h) e0
/-- x(a, ..), x a name that holds the function v -/
def dFnCall (v : Fv) (n : Nat) (φ : MF) (i : Nat) (ma : MA) : ME := fun ρ Q E => match ρ[i]? with
  | some (some (.fn u)) => u = v ∧ ma ρ (fun ss => fits n ss ∧ φ ss Q E) E
  | _ => False
theorem pd_fnCall {X : Cx} {C : Cn} {k n : Nat} {φ : MF} {v : Fv} {i : Nat} {x : Str} {p pos : Pos} {e : Expr} {es : List Expr} {ma : MA} (hclo : CloAt X.prog X.w X.K X.mg X.base C k n φ v X.s_0 X.H_0) (hex : X.ex = []) (hr : Room k X.A) (tk : Takes X C.W) (ha : PA X (e :: es) (liftA C ma)) (hN : X.N[i]? = some x := by rfl)
    (hv : Vis X.env.scope x := by first | exact Or.inl rfl | exact Or.inr (Or.inl rfl) | exact Or.inr (Or.inr rfl)) (hd : (x == ("__debug__" : Str)) = false := by decide) (hcd : (x == ("__classdict__" : Str)) = false := by decide) (he : starEach (e :: es) X.env = (false, eval e X.env) :: starEach es X.env := by rfl) (hpl : (backTo pos (starEach es X.env)).any (·.1) = false := by rfl) :
    PE X (.Call (.Name x p) (e :: es) [] pos) (lift C (dFnCall v n φ i ma)) := by
  refine ⟨fun pins s σ H Q I h => ?_⟩
  obtain ⟨w, ρ, Q', E', st, ok, hm, ct⟩ := h
  unfold dFnCall at hm
  split at hm
  · rename_i u eu
    obtain ⟨rfl, hm⟩ := hm
    obtain ⟨v0, ev, rfl, fl⟩ := st.all i _ eu
    refine wpAny_Call_Name_kw (thn ((pe_var (pos := p) (i := i) hN hv hd hcd).run pins s σ H (fun v H1 => v = .ref u.f ∧ H1 = H) I ⟨.ref u.f, ev, rfl, rfl⟩) fun uu s1 ⟨v1, H1, I1, r1, q1⟩ => ?_)
    obtain ⟨ev1, eH⟩ := q1
    subst ev1 eH
    obtain rfl : uu = Value.ref u.f := r1
    have fnAt : ∀ {s' : Shared} {H' : Hp}, Inv X pins σ H' s' → PySem.W.FnAt u.f s'.heap := fun {s' H'} J => by
      obtain ⟨o, fd, e1, d1, n1⟩ := hclo.fn
      obtain ⟨⟨sl, e2⟩, _⟩ := Kept.of J hex u.f o e1 n1 (.inr ⟨fd, d1⟩)
      obtain ⟨oc, od, dt, sl0⟩ := o
      have d1 : dt = .func fd := d1
      subst d1
      exact ⟨_, _, _, _, e2⟩
    have h1 : liftA C ma σ H1 (fun vs H2 => ∃ (w2 : Wd) (ss : List S), Le w H1 w2 H2 ∧ Ok C.T w2 H2 ∧ RA C.K w2 H2 ss vs ∧ fits n ss ∧ φ ss Q' E') := mk st ok hm (fun w2 ss vs H2 le ok2 r q => ⟨w2, ss, le, ok2, r, q⟩) ct.ex
    refine PySem.W.callWith_F (fnAt I1) (thn (ha.run pos pins s1 σ H1 _ I1 h1) fun us s2 ⟨vs, H2, I2, rv, w2, ss, le, ok2, ra, hf, hφ⟩ => ⟨fnAt I2, ?_⟩) he hpl
    refine wpAny_call (codeAny_mono (hclo.run X.A X.stack s2 H2 us vs ss w2 Q' E' Q (fun cls d H' => C.W cls d σ H') hr I2.env0 (Kept.of I2 hex) (fl.trans le.fle) ok2 rv ra hf hφ (fun w' s' u' H' l o r' _ q => (ct.le le).ok w' s' u' H' l o r' q) (ct.le le).ex) fun r s' hq => ?_)
    cases r with
    | error e => exact passAt (W := C.W) tk σ pins H2 s2 e s' I2 hq
    | ok f' =>
      cases f' with
      | ret u => exact I2.after hq
      | next => exact False.elim hq
      | brk => exact False.elim hq
      | cont => exact False.elim hq
  · exact hm.elim
/-- a def that is handed a function -/
structure FnOkF (P : Program) (w : World) (K : PySem.W.Frag) (mg : Str → Option Value) (base : Heap) (C : Cn) (k kφ : Nat) (g : Addr) (fd : FuncData) (ps : List Str) (n nφ : Nat) (m : Fv → MF → MF) : Prop where
  len : ps.length = n
  run : ∀ (A : Around) (outer : List Env) (s : Shared) (H : Hp) (args : Args) (us : List Value) (vs : List V) (Q : VK) (E : XK) (v : Fv) (φ : MF), Room k A → Env0 P w K mg base A outer s H → BindsTo s fd args (ps.zip us) → Vals vs us → CloAt P w K mg base C kφ nφ φ v s H → liftSp C n (m v φ) vs H Q E →
    codeAny (model P w) A (.call (.ref g) args) (CR (L2.CX P w) outer P w H s Q E) s
theorem defF_ok {P : Program} {w : World} {K : PySem.W.Frag} {mg : Str → Option Value} {base : Heap} {C : Cn} {x qual : Str} {st : Stmt} {f : Addr} {fd : FuncData} {N ps : List Str} {k kφ n nφ : Nat} {b : Fv → MF → MS} (F : Fun K x qual st f fd) (S : FnScope N ps (defScope st)) (hn : ps.length = n) {l : Nat} (hl : N.length = l)
    (hbody : ∀ (v : Fv) (φ : MF) (cdv : Value) (A : Around) (outer : List Env) (s : Shared) (H : Hp) (E : XK) (w0 : Wd) (H0 : Hp), Room k (cxOf (L2.CX P w) P w K mg base N qual (defScope st) f cdv A outer s H E).A →
      CloAt P w K mg base { C with W := fun cls d _ H => E cls d H } kφ nφ φ v s H → PSs (cxOf (L2.CX P w) P w K mg base N qual (defScope st) f cdv A outer s H E) (defBody st) (liftS { C with W := fun cls d _ H => E cls d H } w0 H0 (b v φ))) :
    FnOkF P w K mg base C (k + 1) kφ f fd ps n nφ (fun v φ => dDef l (b v φ)) := by
  obtain ⟨oc, od, kV, doc, pm, an, cdv, ct, osl, rfl, lk, hcd⟩ := F.ex
  refine ⟨hn, fun A outer s H args us vs Q E v φ hr e0 hb r hclo hsp => ?_⟩
  refine run_ofS lk hcd S hr e0 hb r (by rw [liftSp.len _ _ _ _ hsp, hn]) fun hr1 => ?_
  obtain ⟨w1, ss, Q', E', e, no, ok, ra, hm, hk, hx⟩ := hsp
  refine ⟨_, hbody v φ cdv A outer s H E w1 H hr1 ⟨hclo.ok, hclo.fn, hclo.run⟩, ?_⟩
  refine ⟨w1, _, _, ⟨by rw [← hl]; exact start_st no ra, ok, ok, Le.refl _ _, fun i x a e => ?_⟩, hm, ?_, ?_, ?_, ?_, ?_⟩
  · have z := no _ (List.mem_of_getElem? (start_get e))
    cases z
  · exact fun w' ρ' σ' H' _ s q => hk w' (.d .none) .non H' s.le s.ok (by simp only [SRep, Rep]) rfl q
  · exact fun _ _ _ _ _ _ q => q.elim
  · exact fun _ _ _ _ _ _ q => q.elim
  · exact fun w' s v H' l ok r no q => hk w' s v H' l ok r no q
  · exact fun w' ρ' σ' H' x cls d _ s xr q => hx w' x cls d H' s.le s.ok xr q
/-! ### a lambda -/
/-- its slots: the parameters' values, the captured ones -/
def slotR (ρ : Rho) (j : Nat) : Option S := match ρ[j]? with
  | some (some (.d x)) => some (.d x)
  | some (some (.ro x)) => some (.ro x)
  | some (some (.fn x)) => some (.fn x)
  | _ => none
def lamR (n : Nat) (js : List Nat) (ρ : Rho) (ss : List S) : Rho := ss.map some ++ (js.map (slotR ρ) ++ List.replicate (n - ss.length - js.length) none)
/-- what the lambda makes of its arguments -/
def lamM (n : Nat) (js : List Nat) (mb : ME) (ρ : Rho) : MF := fun ss Q E => mb (lamR n js ρ ss) (fun s => plain s (Q s)) E
section
variable {X : Cx} {C : Cn} {pins : List (Addr × Obj)} {σ : L2.St} {H : Hp} {s : Shared}
theorem slotR_some {ρ : Rho} {j : Nat} {t : S} (h : slotR ρ j = some t) : ρ[j]? = some (some t) ∧ isOwn t = false ∧ t ≠ .bowl ∧ ∀ n, t ≠ .bowls n := by
  unfold slotR at h
  split at h <;> cases h <;> exact ⟨by assumption, rfl, (fun z => by cases z), fun n z => by cases z⟩
theorem lam_slots {K : PySem.W.Frag} {w w2 : Wd} {H H2 : Hp} {ρ : Rho} {σ : L2.St} {N : List Str} {js : List Nat} {ss : List S} {vs : List V} {T : List (Addr × Str)} (ok : Ok T w H) (st : St K w ρ σ H) (fl : FLe w H w2 H2) (no : ∀ s ∈ ss, isOwn s = false) (r : RA K w2 H2 ss vs) :
    St K w2 (lamR N.length js ρ ss) (startF N vs (js.map (slotAt σ))) H2 := by
  have key : ∀ (i : Nat) (s : S), (lamR N.length js ρ ss)[i]? = some (some s) → isOwn s = false ∧ ∃ v, (startF N vs (js.map (slotAt σ)))[i]? = some (some v) ∧ SRep K w2 H2 s v := by
    intro i s e
    unfold lamR at e
    unfold startF
    by_cases h1 : i < ss.length
    · rw [List.getElem?_append_left (by simpa using h1), List.getElem?_map] at e
      cases q : ss[i]? with
      | none => rw [q] at e; cases e
      | some t =>
        rw [q] at e
        cases e
        obtain ⟨v, hv, rv⟩ := r.get q
        refine ⟨no _ (List.mem_of_getElem? q), v, ?_, rv⟩
        rw [List.getElem?_append_left (by rw [List.length_map, r.len]; exact h1), List.getElem?_map, hv] <;> rfl
    · rw [List.getElem?_append_right (by simpa using h1), List.length_map] at e
      by_cases h2 : i - ss.length < js.length
      · rw [List.getElem?_append_left (by simpa using h2), List.getElem?_map] at e
        cases q : js[i - ss.length]? with
        | none => rw [q] at e; cases e
        | some j =>
          rw [q] at e
          have e : slotR ρ j = some s := Option.some.inj e
          obtain ⟨e1, n1, nb⟩ := slotR_some e
          obtain ⟨v, hv, rv⟩ := st.all j s e1
          refine ⟨n1, v, ?_, ?_⟩
          · have hm : (List.map some vs : List (Option V)).length = ss.length := by rw [List.length_map, r.len]
            rw [List.getElem?_append_right (by rw [hm]; omega), hm, List.getElem?_append_left (by simpa using h2), List.getElem?_map, q]
            show some (slotAt σ j) = _
            rw [slotAt_of hv]
          · cases s with
            | d x => exact Rep.fle ok fl x v rv
            | bowl => exact absurd rfl nb.1
            | own x => cases n1
            | ro l =>
              obtain ⟨a, us, ea, h1, h2⟩ := rv
              exact ⟨a, us, ea, RoAt.fle ok fl h1, RepL.fle ok fl l us h2⟩
            | fn u => exact ⟨rv.1, rv.2.trans fl⟩
            | bowls n => exact absurd rfl (nb.2 n)
      · rw [List.getElem?_append_right (by simpa using h2), List.getElem?_replicate] at e
        split at e <;> cases e
  refine ⟨?_, fun i s e => (key i s e).2, fun i j x y a e => ?_⟩
  · unfold lamR startF
    simp only [List.length_append, List.length_map, List.length_replicate, r.len]
  · cases (key i _ e).1
theorem lam_made {T : List (Addr × Str)} {c P : Addr} {params : Arguments} {body : Expr} {scope : Scope} {pos : Pos} {E : Value → Shared → Prop} {Q : Value → Shared → Prop} (I : Inv X pins σ H s) (TB : TabB X.base X.mg c P) (hcode : X.env.code = .ref c)
    (hm : (P, X.env.qual ++ "<lambda>") ∈ T) (hu : ∀ p ∈ T, p.1 = P → p.2 = X.env.qual ++ "<lambda>") (hT : Tabs T H) (hdef : defaultsOf params X.env = ([], [])) (hfree : ∀ y ∈ scope.names, y.2 = .free → ∃ c, X.env.cells.lookup y.1 = some c)
    (h : ∀ (f c' : Addr) (pm ctv : Value) (H1 : Hp) (s' : Shared), Inv X pins σ H1 s' → ExtN H H1 → (∀ b, H1 b = none → H b = none) → Tabs T H1 →
      s'.heap.get? f = some (PySem.W.kla_obj "<lambda>" (X.env.qual ++ "<lambda>") params body scope (cloFrom X.env.cells scope.names []) pm c' ctv) → H1 f = none → H1 c' = some (CodeO c' (X.env.qual ++ "<lambda>")) → Q (.ref f) s') :
    wpAny (model X.prog X.w) X.A (eval (.Lambda params body scope pos) X.env) Q E s := by
  obtain ⟨ps, hP, ht, ha⟩ := hT _ hm
  have bP : s.heap.BuiltinsAt X.mg P := TB.bm.keeps I.bk
  have hP' : s.heap.get? P = some { cls := .none, data := .fields ps } := I.hok P _ hP
  refine PySem.W.kla_eval hdef ?_
  cases hc : codeAmong pos ps.toList with
  | some cv =>
    obtain ⟨c', e, hco⟩ := ha pos cv hc
    subst e
    refine PySem.W.kla_makeFunctionHit (mg := X.mg) (c := c) (P := P) (ps := ps) (closure_ok hfree) I.ok.glob (I.mod.glob.keeps I.bk) hcode (TB.code.keeps I.bk) hP' ht hc bP fun ctv h' tk hx hsz => ?_
    exact h h'.objs.size c' ((X.mg "__name__").getD .none) ctv H _ (I.kept (t' := tk) fun b o e => Heap.get?_push_of_some _ (hx b o e)) (ExtN.refl H) (fun _ z => z) hT (Heap.get?_push_size _ rfl) (I.hok.fresh hsz) hco
  | none =>
    refine PySem.W.kla_makeFunction (mg := X.mg) (c := c) (P := P) (ps := ps) (closure_ok hfree) I.ok.glob (I.mod.glob.keeps I.bk) hcode (TB.code.keeps I.bk) hP' ht hc TB.gP bP fun c' ctv h' tk hx hge hlt hrec htb => ?_
    obtain ⟨c2, oc, vs, t, e2, hoc, hd, hv⟩ := hrec
    cases e2
    have nC : H c' = none := I.hok.fresh hge
    have hsz : s.heap.objs.size ≤ h'.objs.size := Nat.le_trans hge (Nat.le_of_lt hlt)
    generalize hob : PySem.W.kla_obj "<lambda>" (X.env.qual ++ "<lambda>") params body scope (cloFrom X.env.cells scope.names []) ((X.mg "__name__").getD .none) c' ctv = ob
    have I1 := inv_table (t' := tk) (more := #[rawInt pos.line, rawInt pos.col, .ref c']) (q := X.env.qual ++ "<lambda>") (h' := h'.push ob) I hP (fun b o hb e => Heap.get?_push_of_some _ (hx b o hb e)) (Heap.get?_push_of_some _ htb) hge ⟨oc, vs, t, Heap.get?_push_of_some _ hoc, hd, hv⟩
    have nT : ∀ b o, H b = some o → (∀ qs, o ≠ .tbl qs) → b ≠ P := fun b o e n z => n ps (Option.some.inj (e.symm.trans (by rw [z]; exact hP)))
    have hE : ExtN H (upd (upd H P (.tbl (ps ++ #[rawInt pos.line, rawInt pos.col, .ref c']))) c' (CodeO c' (X.env.qual ++ "<lambda>"))) := fun b o e n => (upd_ne (ne_of_none e nC)).trans ((upd_ne (nT b o e n)).trans e)
    have eL : (ps ++ #[rawInt pos.line, rawInt pos.col, .ref c']).toList = ps.toList ++ [rawInt pos.line, rawInt pos.col, .ref c'] := by simp
    refine h h'.objs.size c' ((X.mg "__name__").getD .none) ctv _ _ I1 hE (fun b z => NdefX.upd_none (NdefX.upd_none z)) (fun p hp => ?_) (by rw [hob]; exact Heap.get?_push_size _ (by rw [← hob]; rfl)) ?_ upd_same
    · by_cases hb : p.1 = P
      · rw [hu p hp hb, hb]
        refine ⟨_, (upd_ne (ne_of_none hP nC)).trans upd_same, by rw [eL]; exact PySem.TriplesOk_snoc _ _ _ _ ht, fun p' cv hcv => ?_⟩
        rw [eL] at hcv
        rcases among_app _ ht hcv with z | z
        · obtain ⟨c0, e1, e2⟩ := ha p' cv z
          exact ⟨c0, e1, hE _ _ e2 codeO_ne⟩
        · exact ⟨c', z, upd_same⟩
      · obtain ⟨ps', a1, a2, a3⟩ := hT p hp
        refine ⟨ps', (upd_ne (ne_of_none a1 nC)).trans ((upd_ne hb).trans a1), a2, fun p' cv hcv => ?_⟩
        obtain ⟨c0, e1, e2⟩ := a3 p' cv hcv
        exact ⟨c0, e1, hE _ _ e2 codeO_ne⟩
    · rw [upd_ne (Nat.ne_of_gt hlt), upd_ne (Nat.ne_of_gt (Nat.lt_of_lt_of_le (Heap.lt_size hP') hsz))]
      exact I.hok.fresh hsz
/-- arguments, the last one a lambda -/
def LA (X : Cx) (C : Cn) (k nφ : Nat) (es : List Expr) (ma : MA) (φ : Rho → MF) : Prop := ∀ (pos : Pos) (pins : List (Addr × Obj)) (s : Shared) (σ : L2.St) (H : Hp) (w : Wd) (ρ : Rho) (F : List S → Prop) (E' : Exn → Prop) (Z : List Value → Shared → Prop), Inv X pins σ H s → St C.K w ρ σ H → Ok C.T w H → ma ρ F E' →
  (∀ (w' : Wd) (x : Exn) (cls : Value) (d : Option Addr) (H' : Hp), Le w H w' H' → Ok C.T w' H' → XRep C.K C.N w' H' x cls d → E' x → C.W cls d σ H') →
  (∀ (w1 : Wd) (ss : List S) (us : List Value) (vs : List V) (v : Fv) (H1 : Hp) (s1 : Shared), Le w H w1 H1 → Ok C.T w1 H1 → Inv X pins σ H1 s1 → Vals vs us → RA C.K w1 H1 (ss ++ [.fn v]) vs → F ss → CloAt X.prog X.w X.K X.mg X.base C k nφ (φ ρ) v s1 H1 → Z us s1) →
  wpAny (model X.prog X.w) X.A (spliced (backTo pos (starEach es X.env))) Z X.xe s
theorem la_cons {k nφ : Nat} {e : Expr} {es : List Expr} {m : ME} {ma : MA} {φ : Rho → MF} (he : PE X e (lift C m)) (hr : LA X C k nφ es ma φ) (hs : starEach (e :: es) X.env = (false, eval e X.env) :: starEach es X.env := by rfl) : LA X C k nφ (e :: es) (dCons m ma) φ := by
  intro pos pins s σ H w ρ F E' Z I st ok hm hx hz
  rw [hs]
  have h1 : lift C m σ H (fun v H1 => ∃ (w1 : Wd) (t : S), Le w H w1 H1 ∧ Ok C.T w1 H1 ∧ SRep C.K w1 H1 t v ∧ ma ρ (fun xs => F (t :: xs)) E') := mk st ok hm (fun w1 t v H1 le ok1 r q => ⟨w1, t, le, ok1, r, q⟩) hx
  refine Calls.spliced_cons (thn (he.run pins s σ H _ I h1) fun u s1 ⟨v, H1, I1, r1, w1, t, le, ok1, rt, q⟩ => ?_)
  refine hr pos pins s1 σ H1 w1 ρ (fun xs => F (t :: xs)) E' _ I1 (st.le ok le) ok1 q (fun w' x cls d H' l o xr q => hx w' x cls d H' (le.trans l) o xr q) fun w2 ss us vs fv H2 s2 le2 ok2 I2 rv ra hF hc => ?_
  exact hz w2 (t :: ss) (u :: us) (v :: vs) fv H2 s2 (le.trans le2) ok2 I2 (.cons r1 rv) (.cons (rt.le ok1 le2) ra) hF hc
theorem la_lam {k nφ l : Nat} {c P : Addr} {params : Arguments} {body : Expr} {scope : Scope} {lpos : Pos} {N ps fr : List Str} {js : List Nat} {mb : ME} (TB : TabB X.base X.mg c P) (hcode : X.env.code = .ref c) (hm : (P, X.env.qual ++ "<lambda>") ∈ C.T) (hu : ∀ p ∈ C.T, p.1 = P → p.2 = X.env.qual ++ "<lambda>")
    (S : NScope N ps fr scope) (hfree : ∀ y ∈ scope.names, y.2 = .free → X.env.scope.names.lookup y.1 = some .cell ∨ X.env.scope.names.lookup y.1 = some .free) (hfr : ∀ y ∈ fr, (y, NameKind.free) ∈ scope.names) (hjs : js.map (fun j => X.N[j]?) = fr.map some) (hn : ps.length = nφ) (hl : N.length = l)
    (hb : ∀ (cl : List (Str × Addr)) (pm cv ctv : Value) (us : List Value), us.length = ps.length → bindArgs (PySem.W.kla_fn "<lambda>" (X.env.qual ++ "<lambda>") params body scope cl pm cv ctv) ⟨us, []⟩ = pure (ps.zip us)) (hK : C.K = X.K)
    (hbody : ∀ (f c' : Addr) (A : Around) (outer : List Env) (s s2 : Shared) (H1 H2 : Hp) (E : XK), Room k (ncx (L2.CX X.prog X.w) X.prog X.w X.K X.mg X.base N ⟨"<lambda>", X.env.qual ++ "<lambda>", params, [], scope, cloFrom X.env.cells scope.names [], c'⟩ f A outer s2 H2 E).A → (X.ex = [] → Kept X.s_0 X.H_0 s2 H2) →
      PE (ncx (L2.CX X.prog X.w) X.prog X.w X.K X.mg X.base N ⟨"<lambda>", X.env.qual ++ "<lambda>", params, [], scope, cloFrom X.env.cells scope.names [], c'⟩ f A outer s2 H2 E) body (lift { C with W := fun cls d _ H => E cls d H } mb))
    (hdef : defaultsOf params X.env = ([], []) := by rfl) (hs : starEach [Expr.Lambda params body scope lpos] X.env = (false, eval (.Lambda params body scope lpos) X.env) :: starEach [] X.env := by rfl) : LA X C (k + 1) nφ [.Lambda params body scope lpos] dNil (lamM l js mb) := by
  intro pos pins s σ H w ρ F E' Z I st ok hm' hx hz
  rw [hs]
  refine Calls.spliced_cons ?_
  have hfr2 : ∀ y ∈ scope.names, y.2 = .free → ∃ c, X.env.cells.lookup y.1 = some c := fun y hy e => (hfree y hy e).elim (fun z => I.ok.has _ (.inl z)) fun z => I.ok.has _ (.inr z)
  refine lam_made I TB hcode hm hu ok.tabs hdef hfr2 fun f c' pm ctv H1 s1 I1 eN nn T1 hf nf hc => ?_
  refine Calls.spliced_nil ?_
  have le1 : Le w H w H1 := ⟨fun _ z => z, fun _ z => z, fun _ z => .inl z, fun _ z => .inl z, fun a o e _ n => eN a o e n, nn⟩
  have ok1 : Ok C.T w H1 := by
    refine ⟨fun a z => ?_, fun a z => ?_, T1⟩
    · obtain ⟨u, e, l⟩ := ok.al a z
      exact ⟨u, eN _ _ e fun _ z => by subst z; exact l, l⟩
    · obtain ⟨x, y, t, e⟩ := ok.bowl a z
      exact ⟨x, y, t, eN _ _ e fun _ z => by cases z⟩
  have st1 := st.le ok le1
  refine hz w [] [.ref f] [.ref f] ⟨f, w, H1⟩ H1 s1 le1 ok1 I1 (.cons rfl .nil) (.cons ⟨rfl, FLe.refl _ _⟩ .nil) hm' ⟨ok1, ⟨_, _, hf, rfl, nf⟩, ?_⟩
  intro A outer s2 H2 us vs ss wd Q' E2 Q E hr e0 kp fl ok2 rv ra hft hφ hk hx2
  obtain ⟨⟨sl, of2⟩, nf2⟩ := kp f _ hf nf (.inr ⟨_, rfl⟩)
  have hc2 : H2 c' = some (CodeO c' (X.env.qual ++ "<lambda>")) := fl.keep _ _ hc (ok1.nex hc fun z => by unfold CodeO at z; exact z) fun ps z => codeO_ne ps z
  obtain ⟨⟨oc, cvs, t, hoc, hdc, hvc⟩, _, _⟩ := e0.hok c' _ hc2
  have lim : s2.heap.NoLimit := e0.mod.nolimit.keeps fun b o e => (e0.bs b o e).1
  have C0 := cells_of I1 (Caps.made (js := js) I1.ok hfree hfr hjs)
  have C2 : CellsAt (cloFrom X.env.cells scope.names []) fr (js.map (slotAt σ)) s2.heap H2 := by
    have kc : ∀ (c : Addr) (v : Option Value), H1 c = none → s1.heap.IsCell c v → s2.heap.IsCell c v ∧ H2 c = none := fun c v n ⟨o, ho, hd⟩ => by
      obtain ⟨⟨sl, e⟩, n2⟩ := kp c o ho n (.inl ⟨v, hd⟩)
      exact ⟨⟨_, e, hd⟩, n2⟩
    refine ⟨C0.len, fun y c e => ?_, C0.inj, fun i y e => ?_⟩
    · obtain ⟨n, v, z⟩ := C0.all y c e
      obtain ⟨z2, n2⟩ := kc c v n z
      exact ⟨n2, v, z2⟩
    · obtain ⟨c, hc, hv⟩ := C0.has i y e
      refine ⟨c, hc, fun v ev => ?_⟩
      obtain ⟨u, r, z⟩ := hv v ev
      exact ⟨u, r, (kc c _ (C0.all y c hc).1 z).1⟩
  have hlen : vs.length = ps.length := by rw [ra.len, hft.1, hn]
  refine PySem.W.kla_callFunE hr.depth of2 rfl S.co S.gen rfl ⟨c', oc, cvs, t, rfl, hoc, hdc, hvc⟩ ?_
  rw [hb _ _ _ _ us (by rw [← rv.length]; exact hlen)]
  refine wpAny_pure (wpAny_newFunctionEnv S.nocell (fun ⟨n, _⟩ hy => S.par n (List.of_mem_zip hy).1) (fun h₁ hns hsb => ⟨lim.fresh _ hsb, ?_⟩) S.kind)
  have kp2 : ∀ b o, s2.heap.get? b = some o → h₁.get? b = some o := fun b o e => hsb.extBut b o (Nat.ne_of_lt (Heap.lt_size e)) (Heap.get?_push_of_some _ e)
  generalize hF : (⟨"<lambda>", X.env.qual ++ "<lambda>", params, [], scope, cloFrom X.env.cells scope.names [], c'⟩ : NF) = G
  have J : Inv (ncx (L2.CX X.prog X.w) X.prog X.w X.K X.mg X.base N ⟨"<lambda>", X.env.qual ++ "<lambda>", params, [], scope, cloFrom X.env.cells scope.names [], c'⟩ f A outer s2 H2 E) [] (startF N vs (js.map (slotAt σ))) H2 { s2 with heap := h₁, toks := s2.toks + (ps.zip us).length } := inv_startN S hr.hd e0 hlen rv C2 hns kp2
  have st2 : St C.K wd (lamR l js ρ ss) (startF N vs (js.map (slotAt σ))) H2 := by
    rw [← hl]
    exact lam_slots ok1 st1 fl hft.2 ra
  have B := hbody f c' A outer s s2 H1 H2 E (hr.deeper _) fun hex => (Kept.of I1 hex).trans kp
  have hrd : lift { C with W := fun cls d _ H => E cls d H } mb (startF N vs (js.map (slotAt σ))) H2 (fun v H' => Q v H') := mk (C := { C with W := fun cls d _ H => E cls d H }) st2 ok2 hφ (fun w' s' u H' l o r q => by
    obtain ⟨no, q⟩ := plain_of q
    exact hk w' s' u H' l o r no q) hx2
  exact PySem.W.kla_codeExpr (wpAny_mono (B.run [] _ _ H2 _ J hrd) (fun v s' hq => by
    obtain ⟨w', H', J', rv', q⟩ := hq
    exact ⟨w', H', J'.os, J'.bare, J'.base, J'.hok, rv', q⟩) fun e s' hq => hq)
/-- g(a, .., lambda ..: ..) -/
def dCallF (n : Nat) (m : Fv → MF → MF) (ma : MA) (φ : Rho → MF) : ME := fun ρ Q E => ma ρ (fun ss => ∀ v : Fv, fits n (ss ++ [.fn v]) ∧ m v (φ ρ) (ss ++ [.fn v]) Q E) E
theorem pd_callLam {k kφ n nφ : Nat} {g : Addr} {fd : FuncData} {ps : List Str} {m : Fv → MF → MF} {x : Str} {p pos : Pos} {e : Expr} {es : List Expr} {ma : MA} {φ : Rho → MF} (F : FnOkF X.prog X.w X.K X.mg X.base C k kφ g fd ps n nφ m) (hr : Room k X.A) (tk : Takes X C.W) (hg : Gl X x) (hm : X.mg x = some (.ref g)) (hk : PySem.W.keepIn X.K (.ref g) = true) (hb : Binds X.K fd ps [])
    (ha : LA X C kφ nφ (e :: es) ma φ) (hdb : (x == ("__debug__" : Str)) = false := by decide) (he : starEach (e :: es) X.env = (false, eval e X.env) :: starEach es X.env := by rfl) (hpl : (backTo pos (starEach es X.env)).any (·.1) = false := by rfl) :
    PE X (.Call (.Name x p) (e :: es) [] pos) (lift C (dCallF n m ma φ)) := by
  refine ⟨fun pins s σ H Q I h => ?_⟩
  obtain ⟨w, ρ, Q', E', st, ok, hq, ct⟩ := h
  refine wpAny_Call_Name_kw (ld_glob I hg hm ?_ hdb)
  refine PySem.W.callWith_K (h₀ := X.base) I.ok.mod.kin hk (ha pos pins s σ H w ρ _ E' _ I st ok hq ct.ex fun w1 ss us vs v H1 s1 le ok1 I1 rv ra hF hc => ⟨I1.kIn, ?_⟩) he hpl
  obtain ⟨hft, hmq⟩ := hF v
  have sp : liftSp C n (m v (φ ρ)) vs H1 Q (fun cls d H' => C.W cls d σ H') := sp_of ok1 ra hft hmq (ct.le le)
  have hlen : vs.length = ps.length := by rw [liftSp.len _ _ _ _ sp, F.len]
  have bb := hb s1 us I1.kIn (by rw [List.append_nil, ← rv.length]; exact hlen)
  rw [List.append_nil] at bb
  refine wpAny_call (codeAny_mono (F.run X.A X.stack s1 H1 ⟨us, []⟩ us vs Q (fun cls d H' => C.W cls d σ H') v (φ ρ) hr I1.env0 bb rv hc sp) fun r s' hq => ?_)
  cases r with
  | error e => exact passAt (W := C.W) tk σ pins H1 s1 e s' I1 hq
  | ok f' =>
    cases f' with
    | ret u => exact I1.after hq
    | next => exact False.elim hq
    | brk => exact False.elim hq
    | cont => exact False.elim hq
end
end DL
namespace DL
open PySem PySem.Spec PyProof.Rows L2 LamX NdefX
open AutoSeq1 (wpAny_loadPart')
/-! ### enumerate(tuple) -/
theorem meets_enumerate_newT (l : Addr) (items : Array Value) (n : Nat) (dct : Option Addr) (sl : Array (Option Value)) :
    Meets (Builtin.«enumerate.__new__» ⟨[.type "enumerate", .ref l], []⟩) (fun _ R s => s.heap.get? l = some { cls := .type "tuple", dict := dct, data := .seq items n, slots := sl } ∧
      R (.ok (.ret (.ref (s.heap.push { cls := .type "tuple_iterator", data := .fields #[.ref l, .int 0 0] }).objs.size)))
        { s with heap := (s.heap.push { cls := .type "tuple_iterator", data := .fields #[.ref l, .int 0 0] }).push { cls := .type "enumerate", data := .fields #[.none, .bool false, .ref s.heap.objs.size, rawInt 0, .none, .none] } }) :=
  .of_wp fun prog w A R s h => by
    obtain ⟨hp, g, d, tk, os⟩ := s
    obtain ⟨hl, h⟩ := h
    have hsub := sub_enumerate
    have hL : Heap.IsTuple (Shared.heap ⟨hp, g, d, tk, os⟩) l items := ⟨_, hl, rfl, n, rfl⟩
    wp_walk using wpAny_loadPart' hl
    refine wpAny_stack_any fun st => wpAny_pure ?_
    split
    · rename_i c _ _ _ _ _
      cases (c == Value.type "enumerate")
      · wp_walk using wpAny_loadPart' hl, wpAny_pyIter_tuple hL
        exact ⟨_, rfl, h⟩
      · wp_walk using wpAny_loadPart' hl, wpAny_pyIter_tuple hL
        exact ⟨_, rfl, h⟩
    · wp_walk using wpAny_loadPart' hl, wpAny_pyIter_tuple hL
      exact ⟨_, rfl, h⟩
theorem call_enumerate_tuple {prog : Program} {w : World} {A : Around} {E : Value → Shared → Prop} {s : Shared} {l : Addr} {items : Array Value} {Q : Value → Shared → Prop} (hL : s.heap.IsTuple l items)
    (h : ∀ h', IsEnum h' (s.heap.objs.size + 1) s.heap.objs.size 0 .none → h'.IsTupleIter s.heap.objs.size l 0 → h'.objs.size = s.heap.objs.size + 2 →
      (∀ b o, s.heap.get? b = some o → h'.get? b = some o) → Q (.ref (s.heap.objs.size + 1)) { s with heap := h' }) :
    wpAny (model prog w) A (call (.type "enumerate") [.ref l]) Q E s := by
  obtain ⟨⟨c, dct, dt, sl⟩, hl, hc, n, hd⟩ := hL
  replace hc : c = .type "tuple" := hc
  replace hd : dt = .seq items n := hd
  subst hc hd
  refine callType_new F.called_enumerate (by decide) (F.typeCall_enumerate_1 _) (F.newCall_enumerate_1 _) (fun obj => F.args_object_init_2 obj _) F.entry_enumerate_new
    (meets_enumerate_newT l items n dct sl) ⟨hl, ?_⟩
  have hz : (s.heap.push { cls := .type "tuple_iterator", data := .fields #[.ref l, .int 0 0] }).objs.size = s.heap.objs.size + 1 := Heap.size_push ..
  show _ ∧ _
  rw [hz]
  have he : IsEnum ((s.heap.push { cls := .type "tuple_iterator", data := .fields #[.ref l, .int 0 0] }).push
      { cls := .type "enumerate", data := .fields #[.none, .bool false, .ref s.heap.objs.size, rawInt 0, .none, .none] }) (s.heap.objs.size + 1) s.heap.objs.size 0 .none := by
    have := Heap.get?_push_size (s.heap.push { cls := .type "tuple_iterator", data := .fields #[.ref l, .int 0 0] })
      (o := { cls := .type "enumerate", data := .fields #[.none, .bool false, .ref s.heap.objs.size, rawInt 0, .none, .none] }) rfl
    rw [hz] at this; exact this
  refine ⟨⟨_, he, rfl⟩, h _ he ⟨_, Heap.get?_push_of_some _ (Heap.get?_push_size _ rfl), rfl, rfl⟩ (by rw [Heap.size_push, hz]) fun b o x => Heap.get?_push_of_some _ (Heap.get?_push_of_some _ x)⟩
def Itet (K : PySem.W.Frag) (a : Addr) : It :=
  ⟨fun i H => ∃ (xs : List V) (x : V), SqT K H a xs ∧ xs[i]? = some x, fun i H v H' => ∃ T x, v = .ref T ∧ H T = none ∧ H' = upd H T (.tup [.int (i : Nat), x]) ∧ ∀ xs, SqT K H a xs → xs[i]? = some x, fun i H => ∃ xs : List V, SqT K H a xs ∧ xs.length = i⟩
theorem turn_enumT {P : Program} {w : World} {K : PySem.W.Frag} {elts : List Expr} {kk : Nat} {tpos : Pos} (a e it : Addr) (items : Array Value) :
    Turn P w K (.Tuple elts kk tpos) (Itet K a) [e, it] e (fun i h => (∃ old, IsEnum h e it ((i : Nat) : Int) old) ∧ h.IsTupleIter it a i ∧ e ≠ it ∧ a ≠ it ∧ a ≠ e) where
  mem := by simp
  obj := fun i h st b hb => by
    obtain ⟨⟨old, he⟩, ⟨o, ho, hc, hd⟩, _⟩ := st
    have e' : b = e ∨ b = it := by simpa using hb
    rcases e' with z | z
    · rw [z]; exact ⟨_, he, fun v q => nomatch q⟩
    · rw [z]; exact ⟨o, ho, fun v q => by rw [hd] at q; cases q⟩
  keep := fun i h h' st k => by
    obtain ⟨⟨old, he⟩, hi, n1, n2, n3⟩ := st
    exact ⟨⟨old, k e (by simp) _ he⟩, hi.at fun o q => k it (by simp) o q, n1, n2, n3⟩
  item := by
    intro X hP hw hK hc i pins s σ H E I hf st hg
    subst hP hw hK
    obtain ⟨⟨old, he⟩, hit, hne, n2, n3⟩ := st
    obtain ⟨xs, x, hq, hx⟩ := hg
    obtain ⟨its, rv, p, hz⟩ := I.tuple hq
    obtain ⟨u, hu, ru⟩ := rv.get hx
    have p : s.heap.IsTuple a its.toArray := p
    have hel : e < s.heap.objs.size := Heap.lt_size he
    have hil : it < s.heap.objs.size := by obtain ⟨_, q, _⟩ := hit; exact Heap.lt_size q
    have hlt : i < its.toArray.size := by
      rw [List.size_toArray]
      exact (List.getElem?_eq_some_iff.mp hu).1
    refine wpAny_pyNext_enum_itemD (PySem.Draws.tuple (A := X.A.in1) (by exact I.ok.hd hc) it a n2 its.toArray) he ⟨hit, p⟩ hlt hne (by simp only [List.mem_cons, List.not_mem_nil, or_false, not_or]; exact ⟨hne, Ne.symm n3⟩) fun x2 h' tk hP2 ho hit' hT hsz hk => ?_
    obtain ⟨hit', _⟩ := hit'
    have ex : x2 = u := by
      have z : its.toArray[i]? = some x2 := hP2
      rw [List.getElem?_toArray, hu] at z
      exact (Option.some.inj z).symm
    subst ex
    refine ⟨_, rfl, wpAny_letOwnedTupleGo_enum (s := { s with heap := h', toks := tk + 1 }) ho fun h'' he' sb => ?_⟩
    have hT2 : h''.get? s.heap.objs.size = some { cls := .type "tuple", data := .seq #[.int i tk, x2] } := (sb.2 _ (Nat.ne_of_gt hel)).trans hT
    have new : ObjOk X.prog X.w (upd H s.heap.objs.size (.tup [.int (i : Nat), x])) h'' s.heap.objs.size (.tup [.int (i : Nat), x]) :=
      ⟨by show 2 ≤ sizeLine; decide, [.int i tk, x2], .cons ⟨_, rfl⟩ (.cons ru .nil), ⟨_, hT2, rfl, _, rfl⟩⟩
    have I1 : Inv X pins σ (upd H s.heap.objs.size (.tup [.int (i : Nat), x])) { s with heap := h'', toks := tk + 1 } :=
      I.turnedNew (ch := [e, it]) (fun b ob hb q => (sb.2 b (fun z => hb (by simp [z]))).trans (hk b ob (fun z => hb (by simp [z])) (fun z => hb (by simp [z])) q)) hf (Nat.le_refl _) new
    refine ⟨.ref s.heap.objs.size, _, I1, rfl, ⟨_, x, rfl, I.hok.fresh (Nat.le_refl _), rfl, fun ys hy => by
      rw [I.tuple_inj hy hq]
      exact hx⟩, ⟨⟨x2, ?_⟩, hit'.at fun o q => (sb.2 it (Ne.symm hne)).trans q, hne, n2, n3⟩, fun b hb => ?_⟩
    · have e1 : ((i + 1 : Nat) : Int) = (i : Int) + 1 := by omega
      rw [e1]; exact he'
    · have hb' : b < s.heap.objs.size := by
        have e' : b = e ∨ b = it := by simpa using hb
        rcases e' with z | z
        · rw [z]; exact hel
        · rw [z]; exact hil
      rw [upd_ne (Nat.ne_of_lt hb')]
      exact (hf b hb).1
  done := by
    intro X hP hw hK hc i pins s σ H E I hf st hg
    subst hP hw hK
    obtain ⟨⟨old, he⟩, hit, hne, n2, n3⟩ := st
    obtain ⟨xs, hq, hx⟩ := hg
    obtain ⟨its, rv, p, hz⟩ := I.tuple hq
    have p : s.heap.IsTuple a its.toArray := p
    obtain ⟨f0, f1, f2, f3, f4, f5⟩ := hf it (by simp)
    have hl := rv.length
    have ei : its.toArray.size = i := by rw [List.size_toArray, ← hl, hx]
    refine wpAny_pyNext_enum_endD (PySem.Draws.tuple (A := X.A.in1) (by exact I.ok.hd hc) it a n2 its.toArray) he (by rw [ei]; exact ⟨hit, p⟩) fun h' eb => ⟨rfl, I.turned (t' := s.toks) (fun b o hb q => eb b o hb q) f0 f1 f3 f4 f5⟩
  self := fun A i s Q E st h => let ⟨⟨_, he⟩, _⟩ := st; wpAny_pyIter_enum he h
def iEnumA (K : PySem.W.Frag) (ta : TA) : TI := fun σ H R => ta σ H fun vs H1 => ∃ a, vs = [.ref a] ∧ (((∃ xs, SqL K H1 a xs) ∧ R (Ite K a) H1) ∨ ((∃ xs, SqT K H1 a xs) ∧ R (Itet K a) H1))
theorem pi_enumA {X : Cx} {e : Expr} {ta : TA} {p pos tpos : Pos} {elts : List Expr} {kk : Nat} (hg : Gl X "enumerate") (hm : X.mg "enumerate" = none) (ha : PA X [e] ta) (hs : starEach [e] X.env = [(false, eval e X.env)] := by rfl) :
    PI X (.Tuple elts kk tpos) (.Call (.Name "enumerate" p) [e] [] pos) (iEnumA X.K ta) := by
  refine ⟨fun pins s σ H R I h => ?_⟩
  refine Call_ (ld_blt I hg hm boot_enumerate (PyProof.Rows.callWith_type1 (thn (ha.run pos pins s σ H _ I h) fun us s1 ⟨vs, H1, I1, r1, q1⟩ => ?_) hs rfl))
  obtain ⟨a, ex, q⟩ := q1
  subst ex
  cases r1 with
  | cons r rr =>
    cases rr
    cases r
    rcases q with ⟨⟨xs, hq⟩, q⟩ | ⟨⟨xs, hq⟩, q⟩
    · obtain ⟨its, rv, p', hz⟩ := I1.list hq
      refine call_enumerate_list p'.isList fun h' he hit hsz hk => wpAny_pyIter_enum he ?_
      have I2 : Inv X pins σ H1 { s1 with heap := h' } := I1.kept (t' := s1.toks) hk
      refine ⟨s1.heap.objs.size + 1, [s1.heap.objs.size + 1, s1.heap.objs.size], _, _, H1, rfl, I2, turn_enum a (s1.heap.objs.size + 1) s1.heap.objs.size, ⟨⟨.none, he⟩, hit, Nat.succ_ne_self _⟩, fun b hb => ?_, q⟩
      have e' : b = s1.heap.objs.size + 1 ∨ b = s1.heap.objs.size := by simpa using hb
      have hle : s1.heap.objs.size ≤ b := by
        rcases e' with z | z
        · rw [z]; exact Nat.le_add_right _ _
        · rw [z]; exact Nat.le_refl _
      exact I1.fpOk hle (I1.hok.fresh hle)
    · obtain ⟨its, rv, p', hz⟩ := I1.tuple hq
      have p' : s1.heap.IsTuple a its.toArray := p'
      have al : a < s1.heap.objs.size := by obtain ⟨_, q, _⟩ := p'; exact Heap.lt_size q
      refine call_enumerate_tuple p' fun h' he hit hsz hk => wpAny_pyIter_enum he ?_
      have I2 : Inv X pins σ H1 { s1 with heap := h' } := I1.kept (t' := s1.toks) hk
      refine ⟨s1.heap.objs.size + 1, [s1.heap.objs.size + 1, s1.heap.objs.size], _, _, H1, rfl, I2, turn_enumT a (s1.heap.objs.size + 1) s1.heap.objs.size its.toArray, ⟨⟨.none, he⟩, hit, Nat.succ_ne_self _, Nat.ne_of_lt al, Nat.ne_of_lt (Nat.lt_succ_of_lt al)⟩, fun b hb => ?_, q⟩
      have e' : b = s1.heap.objs.size + 1 ∨ b = s1.heap.objs.size := by simpa using hb
      have hle : s1.heap.objs.size ≤ b := by
        rcases e' with z | z
        · rw [z]; exact Nat.le_add_right _ _
        · rw [z]; exact Nat.le_refl _
      exact I1.fpOk hle (I1.hok.fresh hle)
end DL
namespace DL
open PySem PySem.Spec PyProof.Rows L2 LamX NdefX
/-! ### enumerate -/
def enumS (l : List D) : List S := (List.range l.length).zipWith (fun i d => S.d (.tuple [.int (i : Nat), d])) l
theorem enumS_get {l : List PyData} {i : Nat} {s : S} (h : (enumS l)[i]? = some s) : ∃ d, l[i]? = some d ∧ s = .d (.tuple [.int (i : Nat), d]) := by
  unfold enumS at h
  rw [List.getElem?_zipWith_eq_some] at h
  obtain ⟨x, y, h1, h2, h3⟩ := h
  obtain ⟨hl, e⟩ := List.getElem?_eq_some_iff.mp h1
  rw [List.getElem_range] at e
  subst e
  exact ⟨y, h2, h3.symm⟩
theorem enumS_len (l : List PyData) : (enumS l).length = l.length := by
  unfold enumS
  rw [List.length_zipWith, List.length_range]
  omega
theorem rep_pair {K : PySem.W.Frag} {ex : Addr → Prop} {H : Hp} {T : Addr} {x y : V} {d e : PyData} (h : H T = some (.tup [x, y])) (r1 : Rep K ex H d x) (r2 : Rep K ex H e y) : Rep K ex H (.tuple [d, e]) (.ref T) := by
  simp only [Rep, RepL]
  exact ⟨T, [x, y], rfl, .inl (.inl h), x, [y], rfl, r1, y, [], rfl, r2, rfl⟩
theorem good_pair {C : Cn} {w' : Wd} {H' : Hp} (ok' : Ok C.T w' H') {T : Addr} {x y : V} {d e : PyData} (n : H' T = none) (r1 : Rep C.K w'.ex H' d x) (r2 : Rep C.K w'.ex H' e y) :
    Le w' H' w' (upd H' T (.tup [x, y])) ∧ Ok C.T w' (upd H' T (.tup [x, y])) ∧ SRep C.K w' (upd H' T (.tup [x, y])) (.d (.tuple [d, e])) (.ref T) :=
  ⟨Le.new1 n, ok'.new1 n, rep_pair upd_same (Rep.le ok' (Le.new1 n) d x r1) (Rep.le ok' (Le.new1 n) e y r2)⟩
theorem good_enumL {C : Cn} {w : Wd} {H : Hp} {a : Addr} {l : List D} {vs : List V} (ok : Ok C.T w H) (hs : ∀ (w' : Wd) (H' : Hp), FLe w H w' H' → SqL C.K H' a vs) (r : RepL C.K w.ex H l vs) : Good C (Ite C.K a) (enumS l) w H := fun w' H' fl ok' => by
  have q := hs w' H' fl
  have r' := RepL.fle ok fl l vs r
  refine ⟨fun i s e => ?_, ⟨vs, q, by rw [r.length, enumS_len]; exact Nat.le_refl _⟩⟩
  obtain ⟨d, hd, rfl⟩ := enumS_get e
  obtain ⟨v, hv, rv⟩ := repL_get r' hd
  refine ⟨⟨vs, v, q, hv⟩, fun x H'' y => ?_⟩
  obtain ⟨T, u, rfl, n, rfl, y⟩ := y
  have e := y vs q
  rw [hv] at e
  cases e
  exact good_pair ok' n (by simp only [Rep]) rv
theorem good_enumT {C : Cn} {w : Wd} {H : Hp} {a : Addr} {l : List D} {vs : List V} (ok : Ok C.T w H) (hs : SqT C.K H a vs) (r : RepL C.K w.ex H l vs) : Good C (Itet C.K a) (enumS l) w H := fun w' H' fl ok' => by
  have q := SqT.fle ok fl hs
  have r' := RepL.fle ok fl l vs r
  refine ⟨fun i s e => ?_, ⟨vs, q, by rw [r.length, enumS_len]⟩⟩
  obtain ⟨d, hd, rfl⟩ := enumS_get e
  obtain ⟨v, hv, rv⟩ := repL_get r' hd
  refine ⟨⟨vs, v, q, hv⟩, fun x H'' y => ?_⟩
  obtain ⟨T, u, rfl, n, rfl, y⟩ := y
  have e := y vs q
  rw [hv] at e
  cases e
  exact good_pair ok' n (by simp only [Rep]) rv
def dEnum (ma : MA) : MI := fun ρ F E => ma ρ (fun ss => match ss with
  | [s] => onSeq s fun l => F (enumS l)
  | _ => False) E
theorem enum_ok {C : Cn} {ma : MA} : IsI C (dEnum ma) (iEnumA C.K (liftA C ma)) := fun w ρ σ H F E' R st ok hm hx hk => by
  refine mk st ok hm (fun w1 ss vs H1 le ok1 r q => ?_) hx
  split at q
  · rename_i s
    cases r with
    | cons r rr =>
      cases rr
      rename_i v
      unfold onSeq at q
      split at q
      · rename_i l
        have r : Rep C.K w1.ex H1 (.list l) v := r
        simp only [Rep] at r
        obtain ⟨a, vs, rfl, fz, h2⟩ := r
        exact ⟨a, rfl, .inl ⟨⟨vs, .inl (.inl fz.1)⟩, hk w1 H1 _ _ le ok1 q (good_enumL ok1 (fun w' H' fl => .inl (.inl (Fz.fle fl fz).1)) h2)⟩⟩
      · rename_i l
        have r : Rep C.K w1.ex H1 (.tuple l) v := r
        simp only [Rep] at r
        obtain ⟨a, vs, rfl, h1, h2⟩ := r
        exact ⟨a, rfl, .inr ⟨⟨vs, h1⟩, hk w1 H1 _ _ le ok1 q (good_enumT ok1 h1 h2)⟩⟩
      · rename_i l
        obtain ⟨a, vs, rfl, h1, h2⟩ := r
        exact ⟨a, rfl, .inl ⟨⟨vs, h1.sq⟩, hk w1 H1 _ _ le ok1 q (good_enumL ok1 (fun w' H' fl => (RoAt.fle ok1 fl h1).sq) h2)⟩⟩
      · exact q.elim
  · exact q.elim
section
variable {X : Cx} {C : Cn} {a b c e elt iter : Expr} {es : List Expr} {ma mb mc m mi : ME} {mr : MA} {pos : Pos} {x : Str} {p : Pos}
theorem pi_enumD {tpos : Pos} {elts : List Expr} {kk : Nat} (hm : X.mg "enumerate" = none) (ha : PA X [e] (liftA C mr)) (hg : Gl X "enumerate" := by rfl) (hs : starEach [e] X.env = [(false, eval e X.env)] := by rfl) :
    PI X (.Tuple elts kk tpos) (.Call (.Name "enumerate" p) [e] [] pos) (iEnumA X.K (liftA C mr)) := pi_enumA hg hm ha hs
theorem pd_isi2 {ty : String} {q : Pos} (hm : X.mg "isinstance" = none) (hT : X.mg x = none) (ha : PE X e (lift C m)) (hv : bootBuiltins x = some (.type ty)) (hn : x ≠ "__name__") (hdb : (x == ("__debug__" : Str)) = false) (ok : okT ty = true) (hg : Gl X "isinstance" := by rfl) (hgT : Gl X x := by rfl) (hK : X.K = C.K := by rfl)
    (he : starEach (e :: [.Name x q]) X.env = (false, eval e X.env) :: starEach [.Name x q] X.env := by rfl) (hpl : (backTo pos (starEach [.Name x q] X.env)).any (·.1) = false := by rfl) (he2 : starEach (.Name x q :: []) X.env = (false, eval (.Name x q) X.env) :: starEach [] X.env := by rfl) :
    PE X (.Call (.Name "isinstance" p) [e, .Name x q] [] pos) (lift C (dIsI ty m)) := by
  exact (pe_callB call_isiZ hg hm (by decide +kernel) (pa_cons ha (pa_cons (pe_bltn (v := .ty ty) hgT hT hv rfl hn hdb) pa_nil he2) he) (he := he) (hpl := hpl)).weak fun _ _ _ h => by
    rw [hK]
    exact isI_ok ok h
/-! global constants -/
structure GlobD (K : PySem.W.Frag) (mg : Str → Option Value) (x : Str) (d : D) : Prop where
  ex : ∃ (u : Value) (v : V), mg x = some u ∧ RelV v u ∧ ∀ ex H, Rep K ex H d v
theorem pd_glob {d : D} (G : GlobD X.K X.mg x d) (hg : Gl X x := by rfl) (hK : X.K = C.K := by rfl) (hd : (x == ("__debug__" : Str)) = false := by decide) : PE X (.Name x pos) (lift C (dC d)) := by
  obtain ⟨u, v, h1, h2, h3⟩ := G.ex
  exact (pe_glob hg h1 h2 hd).weak fun _ _ _ h => c_ok (fun ex => by rw [← hK]; exact h3 ex _) h
theorem GlobD.int {K : PySem.W.Frag} {mg : Str → Option Value} {x : Str} {i : Int} {t : Nat} (h : mg x = some (.int i t)) : GlobD K mg x (.int i) := ⟨_, .int i, h, ⟨t, rfl⟩, fun _ _ => by simp only [Rep]⟩
/-! ### bowls -/
def Wd.addB (w : Wd) (a : Addr) : Wd := ⟨fun b => w.ex b ∨ b = a, fun b => w.bw b ∨ b = a, fun b z => z.elim (fun z => .inl (w.sub b z)) .inr⟩
theorem Le.addB {w : Wd} {H : Hp} {p : Addr} {o : HO} (h : H p = none) : Le w H (w.addB p) (upd H p o) :=
  ⟨fun _ z => .inl z, fun _ z => .inl z, fun a z => by
    rcases z with z | z
    · exact .inl z
    · subst z; exact .inr h, fun a z => by
    rcases z with z | z
    · exact .inl z
    · subst z; exact .inr h, fun a u e _ _ => by rw [upd_ne (ne_of_none e h)]; exact e, fun a e => by
    unfold upd at e
    split at e
    · cases e
    · exact e⟩
theorem Ok.addB {T : List (Addr × Str)} {w : Wd} {H : Hp} (ok : Ok T w H) {p : Addr} {i j k : Int} (h : H p = none) : Ok T (w.addB p) (upd H p (.lst [.int i, .int j, .int k])) where
  al := fun a z => by
    by_cases e : a = p
    · subst e; exact ⟨_, upd_same, trivial⟩
    · rw [upd_ne e]
      rcases z with z | z
      · exact ok.al a z
      · exact absurd z e
  bowl := fun a z => by
    by_cases e : a = p
    · subst e; exact ⟨i, j, k, upd_same⟩
    · rcases z with z | z
      · obtain ⟨x, y, t, q⟩ := ok.bowl a z
        exact ⟨x, y, t, by rw [upd_ne e]; exact q⟩
      · exact absurd z e
  tabs := (ok.new1 h).tabs
variable {w0 : Wd} {H0 : Hp} {st : Stmt} {sts aa bb : List Stmt} {s1 s2 : MS} {σ : L2.St} {H : Hp} {D : Ends}
def dRetB (ma : MA) : MS := fun ρ k => ma ρ (fun ss => match ss with
  | [.d (.int _), .d (.int _), .d (.int _)] => k.rt .bowl
  | _ => False) (k.ex ρ)
theorem retB_ok {ma : MA} (h : liftS C w0 H0 (dRetB ma) D σ H) : tRet (tLst (liftA C ma)) D σ H := by
  obtain ⟨w, ρ, k, st, hm, ct⟩ := h
  refine inS st ct hm fun w1 ss vs H1 l st1 ct1 r q => ?_
  split at q
  · rename_i i j t
    cases r with
    | cons r1 r =>
      cases r with
      | cons r2 r =>
        cases r with
        | cons r3 r =>
          cases r
          obtain rfl := sint r1
          obtain rfl := sint r2
          obtain rfl := sint r3
          refine ⟨by show 3 ≤ sizeLine; decide, fun p hp => ?_⟩
          exact ct1.rt (w1.addB p) .bowl (.ref p) _ (st1.le.trans (Le.addB hp)) (st1.ok.addB hp) ⟨p, rfl, .inr rfl⟩ rfl q
  · exact q.elim
theorem psd_retB {q : Pos} (ha : PA X es (liftA C mr)) : PS X (.Return (some (.List es q)) pos) (liftS C w0 H0 (dRetB mr)) := (ps_ret (pe_lst ha)).weak fun _ _ _ h => retB_ok h
/-- a bowl is read -/
def bixS : O2 := fun x y Q _ => match x, y with
  | .bowl, .d (.int i) => 0 ≤ i ∧ i < 3 ∧ ∀ z : Int, Q (.d (.int z))
  | _, _ => False
theorem bix_is : Is2 C bixS (rIx C.K) := fun w H σ x y v u Q' E' Q ok r1 r2 q ct => by
  unfold bixS at q
  split at q
  · rename_i i
    obtain ⟨a, rfl, hb⟩ := r1
    obtain rfl := sint r2
    obtain ⟨z0, z1, z2, e⟩ := ok.bowl a hb
    obtain ⟨q1, q2, q⟩ := q
    have fin : ∀ z : Int, Q (.int z) H := fun z => ct.ok w (.d (.int z)) (.int z) H (Le.refl _ _) ok (by simp only [SRep, Rep]) (q z)
    have : i = 0 ∨ i = 1 ∨ i = 2 := by omega
    rcases this with rfl | rfl | rfl
    · exact .inl ⟨a, _, 0, .int z0, rfl, rfl, .inl (.inl e), rfl, fin z0⟩
    · exact .inl ⟨a, _, 1, .int z1, rfl, rfl, .inl (.inl e), rfl, fin z1⟩
    · exact .inl ⟨a, _, 2, .int z2, rfl, rfl, .inl (.inl e), rfl, fin z2⟩
  · exact q.elim
theorem pd_bix (ha : PE X a (lift C ma)) (hb : PE X b (lift C mb)) (hs : PlainIx b := by exact fun _ _ => rfl) (hK : X.K = C.K := by rfl) : PE X (.Subscript a b pos) (lift C (dOp2 bixS ma mb)) := (pe_ix ix_seq ha hb hs).weak fun _ _ _ h => by
  rw [hK]
  exact op2_ok bix_is h
/-- a bowl is written -/
theorem StS.bowlW {w : Wd} {ρ : Rho} (st : StS C w0 H0 w ρ σ H) {a : Addr} (hb : w.bw a) {x y z : Int} : FLe w H w (upd H a (.lst [.int x, .int y, .int z])) ∧ StS C w0 H0 w ρ σ (upd H a (.lst [.int x, .int y, .int z])) := by
  obtain ⟨x0, y0, z0, e0⟩ := st.ok.bowl a hb
  have ld : ∃ u, H a = some u ∧ LD u := ⟨_, e0, trivial⟩
  have hex := w.sub a hb
  have nn : ∀ b, upd H a (.lst [.int x, .int y, .int z]) b = none → H b = none := fun b q => by
    unfold L2.upd at q
    split at q
    · cases q
    · exact q
  have fl : FLe w H w (upd H a (.lst [.int x, .int y, .int z])) := ⟨fun b u q n _ => by rw [upd_ne (show b ≠ a from fun hb => n (by rw [hb]; exact hex))]; exact q, fun b q => .inl q, nn⟩
  refine ⟨fl, ⟨⟨st.st.len, fun j s e2 => ?_, st.st.inj⟩, ⟨fun b q => ?_, fun b q => ?_, tabs_upd st.ok.tabs ld⟩, st.ok0, ⟨st.le.ex, st.le.bw, st.le.new, st.le.nbw, fun b u q n t => ?_, fun b q => st.le.non b (nn b q)⟩, st.fr⟩⟩
  · obtain ⟨v, e3, r⟩ := st.st.all j s e2
    refine ⟨v, e3, ?_⟩
    cases s with
    | d t => exact Rep.upd ld hex t v r
    | bowl => exact r
    | own t =>
      obtain ⟨b, rfl, g1, g2, g3⟩ := r
      have nb : b ≠ a := fun z => g2 (by rw [z]; exact hb)
      refine ⟨b, rfl, g1, g2, ?_⟩
      cases t with
      | list l =>
        obtain ⟨vs, q1, q2⟩ := g3
        exact ⟨vs, by rw [upd_ne nb]; exact q1, RepL.upd ld hex l vs q2⟩
      | dict l =>
        obtain ⟨u, es, q1, q3, q2⟩ := g3
        exact ⟨u, es, by rw [upd_ne nb]; exact q1, q3, RepK.upd ld hex l es q2⟩
      | _ => exact g3.elim
    | ro l =>
      obtain ⟨b, vs, e, q1, q2⟩ := r
      exact ⟨b, vs, e, RoAt.upd ld q1, RepL.upd ld hex l vs q2⟩
    | fn u => exact ⟨r.1, r.2.trans fl⟩
    | bowls n =>
      obtain ⟨b, vs, e, f, hl, hbs⟩ := r
      exact ⟨b, vs, e, ⟨by rw [upd_ne (show b ≠ a from fun z => f.2 (by rw [z]; exact hex))]; exact f.1, f.2⟩, hl, hbs⟩
  · by_cases e : b = a
    · subst e; exact ⟨_, upd_same, trivial⟩
    · rw [upd_ne e]; exact st.ok.al b q
  · by_cases e : b = a
    · subst e; exact ⟨x, y, z, upd_same⟩
    · obtain ⟨p, q, r, e1⟩ := st.ok.bowl b q
      exact ⟨p, q, r, by rw [upd_ne e]; exact e1⟩
  · have : b ≠ a := fun e => by
      subst e
      rcases st.le.nbw b hb with k | k
      · exact n k
      · rw [q] at k; cases k
    rw [upd_ne this]
    exact st.le.keep b u q n t
/-! ### targets that write -/
def IsGS (C : Cn) (w0 : Wd) (H0 : Hp) (mg : MG) (g : TG) : Prop := ∀ (w : Wd) (H : Hp) (ρ : Rho) (σ : L2.St) (s : S) (v : V) (P : Rho → Prop) (G : L2.St → Hp → Prop), StS C w0 H0 w ρ σ H → SRep C.K w H s v → mg s ρ P →
  (∀ (w' : Wd) (ρ' : Rho) (σ' : L2.St) (H' : Hp), FLe w H w' H' → StS C w0 H0 w' ρ' σ' H' → P ρ' → G σ' H') → g v σ H G
theorem gsN {i : Nat} : IsGS C w0 H0 (gN i) (gName i) := fun w H ρ σ s v P G st r h k => by
  obtain ⟨no, q⟩ := plain_of h
  exact k w _ _ H (FLe.refl _ _) (st.set r no) q
/-- x[i] = an int, x a bowl -/
def gBw (i : Nat) (mi : ME) : MG := fun s ρ P => match ρ[i]? with
  | some (some .bowl) => mi ρ (fun ix => onI ix fun k => 0 ≤ k ∧ k < 3 ∧ onI s fun _ => P ρ) (fun _ => False)
  | _ => False
theorem gsBw {i : Nat} {mi : ME} : IsGS C w0 H0 (gBw i mi) (gSub (tVar i) (lift C mi) rSetL) := fun w H ρ σ s v P G st r h k => by
  unfold gBw at h
  split at h
  · rename_i e
    obtain ⟨u, e1, a, rfl, hb⟩ := st.st.all i _ e
    refine ⟨.ref a, e1, ?_⟩
    refine mk st.st st.ok h (fun w1 ix u H1 le ok1 r1 q => ?_) fun _ _ _ _ _ _ _ _ z => z.elim
    obtain ⟨j, rfl, rfl, qa⟩ := onI_of (C := C) r1 q
    obtain ⟨q1, q2, qb⟩ := qa
    obtain ⟨n, rfl, rfl, qc⟩ := onI_of (C := C) (r.le st.ok le) qb
    have st1 := st.go le ok1
    obtain ⟨z0, z1, z2, ea⟩ := ok1.bowl a (le.bw a hb)
    have : j = 0 ∨ j = 1 ∨ j = 2 := by omega
    rcases this with rfl | rfl | rfl
    · obtain ⟨f1, s1⟩ := st1.bowlW (le.bw a hb) (x := n) (y := z1) (z := z2)
      exact ⟨a, _, 0, 0, rfl, rfl, ea, rfl, k w1 ρ σ _ (le.fle.trans f1) s1 qc⟩
    · obtain ⟨f1, s1⟩ := st1.bowlW (le.bw a hb) (x := z0) (y := n) (z := z2)
      exact ⟨a, _, 1, 1, rfl, rfl, ea, rfl, k w1 ρ σ _ (le.fle.trans f1) s1 qc⟩
    · obtain ⟨f1, s1⟩ := st1.bowlW (le.bw a hb) (x := z0) (y := z1) (z := n)
      exact ⟨a, _, 2, 2, rfl, rfl, ea, rfl, k w1 ρ σ _ (le.fle.trans f1) s1 qc⟩
  · exact h.elim
/-- x[i] = v, x an own list -/
def gOw (i : Nat) (mi : ME) : MG := fun s ρ P => match ρ[i]? with
  | some (some (.own (.list l))) => mi ρ (fun ix => onI ix fun k => match ixN l.length k with
    | some j => onD s fun d => P (ρ.set i (some (.own (.list (l.set j d)))))
    | none => False) (fun _ => False)
  | _ => False
theorem repL_set {K : PySem.W.Frag} {ex : Addr → Prop} {H : Hp} {d : PyData} {v : V} (r : Rep K ex H d v) : ∀ {l : List PyData} {vs : List V} {j : Nat}, RepL K ex H l vs → RepL K ex H (l.set j d) (vs.set j v)
  | [], vs, _, h => by
    simp only [RepL] at h
    subst h
    simp only [List.set_nil, RepL]
  | x :: l, vs, 0, h => by
    simp only [RepL] at h
    obtain ⟨u, r', rfl, h1, h2⟩ := h
    simp only [List.set_cons_zero, RepL]
    exact ⟨v, r', rfl, r, h2⟩
  | x :: l, vs, j + 1, h => by
    simp only [RepL] at h
    obtain ⟨u, r', rfl, h1, h2⟩ := h
    simp only [List.set_cons_succ, RepL]
    exact ⟨u, r'.set j v, rfl, h1, repL_set r h2⟩
theorem gsOw {i : Nat} {mi : ME} : IsGS C w0 H0 (gOw i mi) (gSub (tVar i) (lift C mi) rSetL) := fun w H ρ σ s v P G st r h k => by
  unfold gOw at h
  split at h
  · rename_i l e
    obtain ⟨a, ea, _⟩ := own_at st e
    refine ⟨.ref a, ea, ?_⟩
    refine mk st.st st.ok h (fun w1 ix u H1 le ok1 r1 q => ?_) fun _ _ _ _ _ _ _ _ z => z.elim
    obtain ⟨j, rfl, rfl, q⟩ := onI_of (C := C) r1 q
    split at q
    · rename_i t et
      obtain ⟨d, rfl, q⟩ := onD_of q
      have st1 := st.go le ok1
      obtain ⟨a', ea', hex1, nbw1, ⟨vs1, hl1, rl1⟩, _⟩ := own_at st1 e
      rw [ea] at ea'
      cases ea'
      have rd : Rep C.K w1.ex H1 d v := Rep.le st.ok le d v r
      obtain ⟨fl, st2⟩ := st1.write (y := .list (l.set t d)) (o := .lst (vs1.set t v)) e ea trivial ⟨_, upd_same, repL_set (Rep.upd ⟨_, hl1, trivial⟩ hex1 d v rd) (RepL.upd ⟨_, hl1, trivial⟩ hex1 l vs1 rl1)⟩
      exact ⟨a, vs1, j, t, rfl, rfl, hl1, by rw [rl1.length]; exact et, k w1 _ σ _ (le.fle.trans fl) st2 q⟩
    · exact q.elim
  · exact h.elim
def IsGSs (C : Cn) (w0 : Wd) (H0 : Hp) (gs : List MG) (t : TGs) : Prop := ∀ (w : Wd) (H : Hp) (ρ : Rho) (σ : L2.St) (l : List PyData) (vs : List V) (P : Rho → Prop) (G : L2.St → Hp → Prop), StS C w0 H0 w ρ σ H → l.length = gs.length → RepL C.K w.ex H l vs → gT.gTs gs l ρ P →
  (∀ (w' : Wd) (ρ' : Rho) (σ' : L2.St) (H' : Hp), FLe w H w' H' → StS C w0 H0 w' ρ' σ' H' → P ρ' → G σ' H') → t vs σ H G
theorem gsNil : IsGSs C w0 H0 [] gNil := fun w H ρ σ l vs P G st e r h k => by
  cases l with
  | nil =>
    simp only [RepL] at r
    exact ⟨r, k w ρ σ H (FLe.refl _ _) st h⟩
  | cons d l => simp at e
theorem gsCons {g : MG} {gs : List MG} {t : TG} {u : TGs} (h1 : IsGS C w0 H0 g t) (h2 : IsGSs C w0 H0 gs u) : IsGSs C w0 H0 (g :: gs) (gCons t u) := fun w H ρ σ l vs P G st e r h k => by
  cases l with
  | nil => simp at e
  | cons d l =>
    simp only [RepL] at r
    obtain ⟨v, r', rfl, r1, r2⟩ := r
    exact ⟨v, r', rfl, h1 w H ρ σ (.d d) v _ _ st r1 h fun w' ρ' σ' H' fl st' q => h2 w' H' ρ' σ' l r' P G st' (by simpa using e) (RepL.fle st.ok fl l r' r2) q fun w2 ρ2 σ2 H2 fl2 => k w2 ρ2 σ2 H2 (fl.trans fl2)⟩
theorem gsTup {gs : List MG} {t : TGs} {n : Nat} (hn : gs.length = n) (h : IsGSs C w0 H0 gs t) : IsGS C w0 H0 (gT gs) (gTup C.K n t) := fun w H ρ σ s v P G st r q k => by
  unfold gT at q
  split at q
  · rename_i l
    have r : Rep C.K w.ex H (.tuple l) v := r
    simp only [Rep] at r
    obtain ⟨a, vs, rfl, h1, h2⟩ := r
    exact ⟨a, vs, rfl, h1, by rw [h2.length, q.1, hn], h w H ρ σ l vs P G st q.1 h2 q.2 k⟩
  · exact q.elim
theorem asgS_ok {mg : MG} {g : TG} (hG : IsGS C w0 H0 mg g) (h : liftS C w0 H0 (dAsgG mg m) D σ H) : tAsg (lift C m) g D σ H := by
  obtain ⟨w, ρ, k, st, hm, ct⟩ := h
  refine inS st ct hm fun w1 s v H1 l st1 ct1 r q => ?_
  exact hG w1 H1 ρ σ s v _ _ st1 r q fun w' ρ' σ' H' fl st' q' => ct1.nx w' ρ' σ' H' fl st' q'
theorem psd_asgS {tg : Expr} {mg : MG} {g : TG} (hG : IsGS C w0 H0 mg g) (hg : PG X tg g) (he : PE X e (lift C m)) (hs : swapsWithSole [tg] e pos.line X.env = pure false := by rfl) (hw : swappedStores [tg] e X.env = pure none := by rfl) (h1 : (assignEach [tg] X.env).map (·.2) = [assign tg X.env] := by rfl) :
    PS X (.Assign [tg] e pos) (liftS C w0 H0 (dAsgG mg m)) := (ps_asg he hg hs hw h1).weak fun _ _ _ h => asgS_ok hG h
theorem pg_subL (i : Nat) {y : Str} {q : Pos} (hi : PE X b (lift C mb)) (hN : X.N[i]? = some y := by rfl) (hv : Vis X.env.scope y := by first | exact Or.inl rfl | exact Or.inr (Or.inl rfl) | exact Or.inr (Or.inr rfl)) (hd : (y == ("__debug__" : Str)) = false := by decide)
    (hcd : (y == ("__classdict__" : Str)) = false := by decide) (ha : ∀ v, assign (.Subscript (.Name y q) b pos) X.env v = (do
      let ov ← holding [v] (eval (.Name y q) X.env)
      let iv ← holding [v, ov] (eval b X.env)
      standAt pos
      holding [v, ov, iv] (setItem ov iv v)
      release [v, ov, iv] []) := by intro _; rfl) : PG X (.Subscript (.Name y q) b pos) (gSub (tVar i) (lift C mb) rSetL) := pg_sub (pe_var hN hv hd hcd) hi set_list ha
/-! append -/
theorem psd_app (i : Nat) {y : Str} {q apos : Pos} {cpos : Pos} (he : PE X e (lift C m)) (hN : X.N[i]? = some y := by rfl) (hK : X.K = C.K := by rfl) (hv : Vis X.env.scope y := by first | exact Or.inl rfl | exact Or.inr (Or.inl rfl) | exact Or.inr (Or.inr rfl)) (hd : (y == ("__debug__" : Str)) = false := by decide)
    (hcd : (y == ("__classdict__" : Str)) = false := by decide)
    (hbase : attributeBase (.Name y q) "append" X.env (eval (.Name y q) X.env) = eval (.Name y q) X.env := by rfl)
    (hfew : ((backTo cpos (starEach (e :: []) X.env)).all (fun x => !x.1) && (backToKw cpos (keywordEach [] X.env)).all (fun x => x.1.isSome)
      && decide ((e :: []).length + ([] : List Keyword).length + (if ([] : List Keyword).isEmpty then 0 else 1) < 30)) = true := by rfl)
    (hline : (apos.endLine == cpos.line) = true := by rfl) (hs : starEach (e :: []) X.env = (false, eval e X.env) :: starEach [] X.env := by rfl) (hplain : (backTo cpos (starEach [] X.env)).any (·.1) = false := by rfl)
    (hs2 : swapsWith (.Call (.Attribute (.Name y q) "append" apos) [e] [] cpos) none pos.line X.env = pure false := by rfl) :
    PS X (.Expr (.Call (.Attribute (.Name y q) "append" apos) [e] [] cpos) pos) (liftS C w0 H0 (dApp i m)) :=
  (ps_expr (pe_bm PySem.F.plainAttrs_list PySem.F.slot_list_append PySem.F.type_list_append mt_append (pe_var hN hv hd hcd) (pa_cons he pa_nil hs) hbase hfew hline hs hplain) hs2).weak fun _ _ _ h => by
    rw [hK]
    exact app_ok h
end
theorem FnOk.weak {P : Program} {w : World} {K : PySem.W.Frag} {mg : Str → Option Value} {base : Heap} {CX : CXT} {C : Cn} {k n : Nat} {f : Addr} {fd : FuncData} {ps : List Str} {m m' : MF} (F : FnOk P w K mg base CX k f fd ps (liftSp C n m)) (h : ∀ ss Q E, ss.length = n → m' ss Q E → m ss Q E) : FnOk P w K mg base CX k f fd ps (liftSp C n m') :=
  ⟨fun vs H Q E ⟨w, ss, Q', E', e, a, b, c, d, f⟩ => F.len vs H Q E ⟨w, ss, Q', E', e, a, b, c, h ss _ _ e d, f⟩,
   fun A outer s H args us vs Q E hr e0 hb r ⟨w, ss, Q', E', e, a, b, c, d, f⟩ => F.run A outer s H args us vs Q E hr e0 hb r ⟨w, ss, Q', E', e, a, b, c, h ss _ _ e d, f⟩⟩
end DL
namespace DL
open PySem PySem.Spec PyProof.Rows L2 LamX NdefX
theorem takes_quiet {X : Cx} : Takes X (fun _ _ _ _ => False) := fun u s' ⟨a, B, sI, pins, σ, H, cls, d, e, I, nb, up, sky, na, os, ag, w⟩ => w.elim
/-- a def whose code object is known -/
structure FunC (K : PySem.W.Frag) (x qual : Str) (st : Stmt) (f : Addr) (fd : FuncData) (cdv : Value) : Prop where
  ex : ∃ (oc : Value) (od : Option Addr) (kV doc pm : Value) (an : Option Addr) (ct : Value) (osl : Array (Option Value)),
    fd = PySem.W.fnOf x qual (defArgs st) (defBody st) (defScope st) .none kV doc pm an cdv ct ∧ K.lookup f = some ⟨oc, od, .func fd, osl⟩ ∧ PySem.W.codeIn K cdv qual = true
theorem def_okC {P : Program} {w : World} {K : PySem.W.Frag} {mg : Str → Option Value} {base : Heap} {C : Cn} {x qual : Str} {st : Stmt} {f : Addr} {fd : FuncData} {cdv : Value} {N ps : List Str} {k n : Nat} {b : MS} (F : FunC K x qual st f fd cdv) (S : FnScope N ps (defScope st)) (hn : ps.length = n) {l : Nat} (hl : N.length = l)
    (hbody : ∀ (A : Around) (outer : List Env) (s : Shared) (H : Hp) (E : XK) (w0 : Wd) (H0 : Hp), Room k (cxOf (L2.CX P w) P w K mg base N qual (defScope st) f cdv A outer s H E).A →
      PSs (cxOf (L2.CX P w) P w K mg base N qual (defScope st) f cdv A outer s H E) (defBody st) (liftS { C with W := fun cls d _ H => E cls d H } w0 H0 b)) :
    FnOk P w K mg base (L2.CX P w) (k + 1) f fd ps (liftSp C n (dDef l b)) := by
  obtain ⟨oc, od, kV, doc, pm, an, ct, osl, rfl, lk, hcd⟩ := F.ex
  refine fn_of lk hcd S (fun vs H Q E h => by rw [liftSp.len _ _ _ _ h, hn]) fun A outer s H vs Q E hr hsp => ?_
  obtain ⟨w1, ss, Q', E', e, no, ok, r, hm, hk, hx⟩ := hsp
  refine ⟨_, hbody A outer s H E w1 H hr, ?_⟩
  refine ⟨w1, _, _, ⟨by rw [← hl]; exact start_st no r, ok, ok, Le.refl _ _, fun i x a e => ?_⟩, hm, ?_, ?_, ?_, ?_, ?_⟩
  · have z := no _ (List.mem_of_getElem? (start_get e))
    cases z
  · exact fun w' ρ' σ' H' _ s q => hk w' (.d .none) .non H' s.le s.ok (by simp only [SRep, Rep]) rfl q
  · exact fun _ _ _ _ _ _ q => q.elim
  · exact fun _ _ _ _ _ _ q => q.elim
  · exact fun w' s v H' l ok r no q => hk w' s v H' l ok r no q
  · exact fun w' ρ' σ' H' x cls d _ s xr q => hx w' x cls d H' s.le s.ok xr q
def lamC (sc scope : Scope) : Bool := scope.names.all fun y => match y.2 with
  | .free => (match sc.names.lookup y.1 with | some .cell => true | some .free => true | _ => false)
  | _ => true
theorem lamFree {sc scope : Scope} (h : lamC sc scope = true) : ∀ y ∈ scope.names, y.2 = .free → sc.names.lookup y.1 = some .cell ∨ sc.names.lookup y.1 = some .free := fun y hy e => by
  have q := List.all_eq_true.mp h y hy
  rw [e] at q
  simp only at q
  split at q
  · exact .inl (by assumption)
  · exact .inr (by assumption)
  · cases q
end DL
namespace DL
open PySem PySem.Spec PyProof.Rows L2 LamX NdefX
/-! ### what the meanings come to -/
section
variable {P : Prop} {Pd : PyData → Prop} {Pi : Int → Prop} {Pb : Bool → Prop} {Pl : List PyData → Prop} {Q : S → Prop} {E : Exn → Prop} {i j : Int} {a b : Bool} {x y : PyData} {l : List PyData} {g : Int → Int → D} {Cnd : Int → Int → Prop}
theorem isOwn_d : isOwn (.d x) = false := rfl
theorem isOwn_bowl : isOwn .bowl = false := rfl
theorem isOwn_ro : isOwn (.ro l) = false := rfl
theorem isOwn_fn {v : Fv} : isOwn (.fn v) = false := rfl
theorem plain_d : plain (.d x) P = P := propext Iff.rfl
theorem plain_bowl : plain .bowl P = P := propext Iff.rfl
theorem plain_ro : plain (.ro l) P = P := propext Iff.rfl
theorem onD_d : onD (.d x) Pd = Pd x := propext Iff.rfl
theorem onI_i : onI (.d (.int i)) Pi = Pi i := propext Iff.rfl
theorem onB_b : onB (.d (.bool b)) Pb = Pb b := propext Iff.rfl
theorem onSq_l : onSq (.d (.list l)) Pl = Pl l := propext Iff.rfl
theorem onSq_t : onSq (.d (.tuple l)) Pl = Pl l := propext Iff.rfl
theorem onSq_o : onSq (.own (.list l)) Pl = Pl l := propext Iff.rfl
theorem onSq_r : onSq (.ro l) Pl = Pl l := propext Iff.rfl
theorem onLs_l : onLs (.d (.list l)) Pl = Pl l := propext Iff.rfl
theorem onLs_o : onLs (.own (.list l)) Pl = Pl l := propext Iff.rfl
theorem onLs_r : onLs (.ro l) Pl = Pl l := propext Iff.rfl
theorem onSeq_l : onSeq (.d (.list l)) Pl = Pl l := propext Iff.rfl
theorem onSeq_t : onSeq (.d (.tuple l)) Pl = Pl l := propext Iff.rfl
theorem onSeq_r : onSeq (.ro l) Pl = Pl l := propext Iff.rfl
theorem onDs_nil : onDs [] Pl = Pl [] := propext Iff.rfl
theorem onDs_d {ss : List S} : onDs (.d x :: ss) Pl = onDs ss fun l => Pl (x :: l) := propext Iff.rfl
theorem addS_i : addS (.d (.int i)) (.d (.int j)) Q E = Q (.d (.int (i + j))) := propext Iff.rfl
theorem addS_t {l m : List PyData} : addS (.d (.tuple l)) (.d (.tuple m)) Q E = (l.length + m.length ≤ sizeLine ∧ Q (.d (.tuple (l ++ m)))) := propext Iff.rfl
theorem addS_l {l m : List PyData} : addS (.d (.list l)) (.d (.list m)) Q E = (l.length + m.length ≤ sizeLine ∧ Q (.d (.list (l ++ m)))) := propext Iff.rfl
theorem intP_i : intP g (.d (.int i)) (.d (.int j)) Q E = Q (.d (g i j)) := propext Iff.rfl
theorem int2_i : int2 Cnd g (.d (.int i)) (.d (.int j)) Q E = (Cnd i j ∧ Q (.d (g i j))) := propext Iff.rfl
theorem negS_i : negS (.d (.int i)) Q E = Q (.d (.int (-i))) := propext Iff.rfl
theorem bix_i : bixS .bowl (.d (.int i)) Q E = (0 ≤ i ∧ i < 3 ∧ ∀ z : Int, Q (.d (.int z))) := propext Iff.rfl
theorem one_s {op : S → (S → Prop) → Prop} {s : S} : one op [s] Q E = op s Q := propext Iff.rfl
theorem two_s {op : S → S → (S → Prop) → Prop} {s t : S} : two op [s, t] Q E = op s t Q := propext Iff.rfl
theorem isN_d : isNS false (.d x) (.d .none) Q E = Q (.d (.bool (match x with | .none => true | _ => false))) := propext Iff.rfl
theorem notN_d : isNS true (.d x) (.d .none) Q E = Q (.d (.bool (match x with | .none => false | _ => true))) := propext Iff.rfl
theorem shaped_int : SeqAt.shaped (.int i) = true := rfl
theorem shaped_bool : SeqAt.shaped (.bool b) = true := rfl
theorem shaped_none : SeqAt.shaped .none = true := rfl
theorem eqS_ii : eqS false (.d (.int i)) (.d (.int j)) Q E = Q (.d (.bool (decide (i = j)))) := by
  have e : (i == j) = decide (i = j) := by by_cases h : i = j <;> simp [h]
  show (SeqAt.shaped (.int i) = true ∧ SeqAt.shaped (.int j) = true ∧ Q (.d (.bool (i == j)))) = _
  rw [e, shaped_int, shaped_int]
  simp
theorem neS_ii : eqS true (.d (.int i)) (.d (.int j)) Q E = Q (.d (.bool (!decide (i = j)))) := by
  have e : (i == j) = decide (i = j) := by by_cases h : i = j <;> simp [h]
  show (SeqAt.shaped (.int i) = true ∧ SeqAt.shaped (.int j) = true ∧ Q (.d (.bool (!(i == j))))) = _
  rw [e, shaped_int, shaped_int]
  simp
theorem eqS_in : eqS false (.d (.int i)) (.d .none) Q E = Q (.d (.bool false)) := by
  show (SeqAt.shaped (.int i) = true ∧ SeqAt.shaped .none = true ∧ Q (.d (.bool false))) = _
  rw [shaped_int, shaped_none]
  simp
theorem eqS_bb : eqS false (.d (.bool a)) (.d (.bool b)) Q E = Q (.d (.bool (a == b))) := by
  show (SeqAt.shaped (.bool a) = true ∧ SeqAt.shaped (.bool b) = true ∧ Q (.d (.bool (a == b)))) = _
  rw [shaped_bool, shaped_bool]
  simp
end
section
variable {b : Bool} {i : Int} {z : Str} {l : List PyData} {e : List (PyData × PyData)}
theorem ty_tuple_none : isTy "tuple" .none = false := by decide
theorem ty_tuple_bool : isTy "tuple" (.bool b) = false := rfl
theorem ty_tuple_int : isTy "tuple" (.int i) = false := rfl
theorem ty_tuple_str : isTy "tuple" (.str z) = false := rfl
theorem ty_tuple_tuple : isTy "tuple" (.tuple l) = true := rfl
theorem ty_tuple_list : isTy "tuple" (.list l) = false := rfl
theorem ty_tuple_dict : isTy "tuple" (.dict e) = false := rfl
theorem ty_list_none : isTy "list" .none = false := by decide
theorem ty_list_bool : isTy "list" (.bool b) = false := rfl
theorem ty_list_int : isTy "list" (.int i) = false := rfl
theorem ty_list_str : isTy "list" (.str z) = false := rfl
theorem ty_list_tuple : isTy "list" (.tuple l) = false := rfl
theorem ty_list_list : isTy "list" (.list l) = true := rfl
theorem ty_list_dict : isTy "list" (.dict e) = false := rfl
theorem ty_bool_none : isTy "bool" .none = false := by decide
theorem ty_bool_bool : isTy "bool" (.bool b) = true := rfl
theorem ty_bool_int : isTy "bool" (.int i) = false := rfl
theorem ty_bool_str : isTy "bool" (.str z) = false := rfl
theorem ty_bool_tuple : isTy "bool" (.tuple l) = false := rfl
theorem ty_bool_list : isTy "bool" (.list l) = false := rfl
theorem ty_bool_dict : isTy "bool" (.dict e) = false := rfl
theorem ty_int_none : isTy "int" .none = false := by decide
theorem ty_int_bool : isTy "int" (.bool b) = true := rfl
theorem ty_int_int : isTy "int" (.int i) = true := rfl
theorem ty_int_str : isTy "int" (.str z) = false := rfl
theorem ty_int_tuple : isTy "int" (.tuple l) = false := rfl
theorem ty_int_list : isTy "int" (.list l) = false := rfl
theorem ty_int_dict : isTy "int" (.dict e) = false := rfl
theorem ty_str_none : isTy "str" .none = false := by decide
theorem ty_str_bool : isTy "str" (.bool b) = false := rfl
theorem ty_str_int : isTy "str" (.int i) = false := rfl
theorem ty_str_str : isTy "str" (.str z) = true := rfl
theorem ty_str_tuple : isTy "str" (.tuple l) = false := rfl
theorem ty_str_list : isTy "str" (.list l) = false := rfl
theorem ty_str_dict : isTy "str" (.dict e) = false := rfl
theorem ty_dict_none : isTy "dict" .none = false := by decide
theorem ty_dict_bool : isTy "dict" (.bool b) = false := rfl
theorem ty_dict_int : isTy "dict" (.int i) = false := rfl
theorem ty_dict_str : isTy "dict" (.str z) = false := rfl
theorem ty_dict_tuple : isTy "dict" (.tuple l) = false := rfl
theorem ty_dict_list : isTy "dict" (.list l) = false := rfl
theorem ty_dict_dict : isTy "dict" (.dict e) = true := rfl
end
/-! ### what == may be asked of -/
def Shp (n : Nat) (d : PyData) : Prop := PyData.canLay0 d = true ∧ PyData.depth d ≤ n
theorem Shp.sh {n : Nat} {d : PyData} (h : Shp n d) (hn : n ≤ 64 := by decide) : SeqAt.shaped d = true := by
  unfold SeqAt.shaped
  rw [h.1, Bool.true_and]
  exact decide_eq_true (Nat.le_trans h.2 hn)
theorem Shp.mono {n m : Nat} {d : PyData} (h : Shp n d) (hn : n ≤ m) : Shp m d := ⟨h.1, Nat.le_trans h.2 hn⟩
theorem shp_int {i : Int} : Shp 0 (.int i) := ⟨rfl, Nat.le_refl _⟩
theorem shp_bool {i : Bool} : Shp 0 (.bool i) := ⟨rfl, Nat.le_refl _⟩
theorem shp_none : Shp 0 .none := ⟨rfl, Nat.le_refl _⟩
theorem shp_all {n : Nat} : ∀ {l : List PyData}, (∀ d ∈ l, Shp n d) → PyData.canLayAll0 l = true ∧ PyData.depthAll l ≤ n
  | [], _ => ⟨rfl, Nat.zero_le _⟩
  | d :: l, h => by
    obtain ⟨h1, h2⟩ := shp_all (l := l) fun x hx => h x (List.mem_cons_of_mem _ hx)
    obtain ⟨g1, g2⟩ := h d List.mem_cons_self
    refine ⟨?_, ?_⟩
    · show (PyData.canLay0 d && PyData.canLayAll0 l) = true
      rw [g1, h1] <;> rfl
    · show max (PyData.depth d) (PyData.depthAll l) ≤ n
      omega
theorem shp_tup {n : Nat} {l : List PyData} (h : ∀ d ∈ l, Shp n d) : Shp (n + 1) (.tuple l) := ⟨(shp_all h).1, Nat.succ_le_succ (shp_all h).2⟩
theorem shp_list {n : Nat} {l : List PyData} (h : ∀ d ∈ l, Shp n d) : Shp (n + 1) (.list l) := ⟨(shp_all h).1, Nat.succ_le_succ (shp_all h).2⟩
theorem shp_ints {ns : List Int} : Shp 1 (.tuple (ns.map .int)) := shp_tup fun d hd => by
  obtain ⟨i, _, rfl⟩ := List.mem_map.mp hd
  exact shp_int
theorem shp_intsL {ns : List Int} : Shp 1 (.list (ns.map .int)) := shp_list fun d hd => by
  obtain ⟨i, _, rfl⟩ := List.mem_map.mp hd
  exact shp_int
/-! ### loops -/
theorem forL_inv {g : MG} {b : MS} {k : Kt} (I : Nat → Rho → Prop) : ∀ {ss : List S} {ρ : Rho} (n : Nat), I n ρ →
    (∀ (i : Nat) (s : S) (ρ : Rho) (X : Rho → Prop), ss[i]? = some s → I (n + i) ρ → (∀ ρ2, I (n + i + 1) ρ2 → X ρ2) → g s ρ (fun ρ1 => b ρ1 { k with nx := X, ct := X, bk := k.nx })) → (∀ ρ, I (n + ss.length) ρ → k.nx ρ) → forL g b ss ρ k
  | [], ρ, n, h0, _, hd => hd ρ h0
  | s :: ss, ρ, n, h0, hs, hd => by
    unfold forL
    refine hs 0 s ρ _ rfl h0 fun ρ2 h2 => ?_
    refine forL_inv I (n + 1) (by simpa using h2) (fun i s ρ X e hi hX => ?_) fun ρ hρ => hd ρ ?_
    · refine hs (i + 1) s ρ X (by simpa using e) (by rw [show n + (i + 1) = n + 1 + i by omega]; exact hi) fun ρ2 q => hX ρ2 (by rw [show n + 1 + i + 1 = n + (i + 1) + 1 by omega]; exact q)
    · rw [List.length_cons, show n + (ss.length + 1) = n + 1 + ss.length by omega]
      exact hρ
/-- the same wish at each turn -/
theorem forL_same {g : MG} {b : MS} {k : Kt} (I : Rho → Prop) {ss : List S} {ρ : Rho} (h0 : I ρ)
    (hs : ∀ (s : S) (ρ : Rho) (X : Rho → Prop), s ∈ ss → I ρ → (∀ ρ2, I ρ2 → X ρ2) → g s ρ (fun ρ1 => b ρ1 { k with nx := X, ct := X, bk := k.nx })) (hd : ∀ ρ, I ρ → k.nx ρ) : forL g b ss ρ k :=
  forL_inv (fun _ => I) 0 h0 (fun i s ρ X e hi hX => hs s ρ X (List.mem_of_getElem? e) hi hX) hd
theorem compL_gen {g : MG} {t : MT} {e : ME} {ρ : Rho} {Q : List PyData → Prop} (p : S → Bool) (R : S → PyData → Prop) : ∀ {ss : List S} {acc : List PyData}, acc.length + ss.length ≤ sizeLine →
    (∀ (s : S) (F : PyData → Prop) (Z : Prop), s ∈ ss → (p s = true → ∀ d, R s d → F d) → (p s = false → Z) → g s ρ (fun ρ1 => t ρ1 (fun b => if b = true then e ρ1 (fun x => onD x F) (fun _ => False) else Z) (fun _ => False))) →
    (∀ ds, Paired R (ss.filter p) ds → Q (acc ++ ds)) → compL g t e ρ Q ss acc
  | [], acc, _, _, hd => by
    unfold compL
    simpa using hd [] .nil
  | s :: ss, acc, hz, hs, hd => by
    unfold compL
    rw [List.length_cons] at hz
    refine hs s _ _ List.mem_cons_self (fun hp d hr => ⟨by omega, ?_⟩) fun hp => ?_
    · refine compL_gen p R (by rw [List.length_append, List.length_singleton]; omega) (fun s F Z hm => hs s F Z (List.mem_cons_of_mem _ hm)) fun ds hds => ?_
      rw [List.append_assoc]
      exact hd (d :: ds) (by rw [List.filter_cons, if_pos hp]; exact .cons hr hds)
    · refine compL_gen p R (by omega) (fun s F Z hm => hs s F Z (List.mem_cons_of_mem _ hm)) fun ds hds => hd ds ?_
      rw [List.filter_cons, hp]
      exact hds
theorem paired_eq {α β : Type} {f : α → β} : ∀ {l : List α} {ds : List β}, Paired (fun a b => b = f a) l ds → ds = l.map f
  | _, _, .nil => rfl
  | _, _, .cons r t => by rw [List.map_cons, r, paired_eq t]
/-- over ints: those that p takes, through f -/
theorem compL_ints {g : MG} {t : MT} {e : ME} {ρ : Rho} {Q : List PyData → Prop} {ns : List Int} {ss : List S} (hss : ss = ns.map fun i => S.d (.int i)) (p : Int → Bool) (f : Int → PyData) (hz : ns.length ≤ sizeLine)
    (hs : ∀ (i : Int) (F : PyData → Prop) (Z : Prop), i ∈ ns → (p i = true → F (f i)) → (p i = false → Z) → g (.d (.int i)) ρ (fun ρ1 => t ρ1 (fun b => if b = true then e ρ1 (fun x => onD x F) (fun _ => False) else Z) (fun _ => False)))
    (hd : Q ((ns.filter p).map f)) : compL g t e ρ Q ss [] := by
  subst hss
  let pp : S → Bool := fun s => match s with | .d (.int i) => p i | _ => false
  let ff : S → PyData := fun s => match s with | .d (.int i) => f i | _ => .none
  refine compL_gen pp (fun s d => d = ff s) (by simpa using hz) (fun s F Z hm h1 h2 => ?_) fun ds hds => ?_
  · obtain ⟨i, hi, rfl⟩ := List.mem_map.mp hm
    exact hs i F Z hi (fun hp => h1 hp _ rfl) h2
  · rw [paired_eq hds, List.filter_map, List.map_map]
    exact hd
/-- over anything, no test, each within R -/
theorem compL_each {g : MG} {t : MT} {e : ME} {ρ : Rho} {Q : List PyData → Prop} {ss : List S} (R : PyData → Prop) (hz : ss.length ≤ sizeLine)
    (hs : ∀ (s : S) (F : PyData → Prop) (Z : Prop), s ∈ ss → (∀ d, R d → F d) → g s ρ (fun ρ1 => t ρ1 (fun b => if b = true then e ρ1 (fun x => onD x F) (fun _ => False) else Z) (fun _ => False)))
    (hd : ∀ ds : List PyData, ds.length = ss.length → (∀ d ∈ ds, R d) → Q ds) : compL g t e ρ Q ss [] := by
  refine compL_gen (fun _ => true) (fun _ d => R d) (by simpa using hz) (fun s F Z hm h1 _ => hs s F Z hm (h1 rfl)) fun ds hds => ?_
  rw [List.filter_eq_self.mpr fun _ _ => rfl] at hds
  have key : ∀ {l : List S} {ds : List PyData}, Paired (fun _ d => R d) l ds → ds.length = l.length ∧ ∀ d ∈ ds, R d := by
    intro l ds h
    induction h with
    | nil => exact ⟨rfl, by simp⟩
    | cons r t ih => exact ⟨by rw [List.length_cons, List.length_cons, ih.1], by simpa using ⟨r, ih.2⟩⟩
  exact hd ds (key hds).1 (key hds).2
theorem ints_of_each {R : Int → Prop} : ∀ {ds : List PyData}, (∀ d ∈ ds, ∃ i, d = .int i ∧ R i) → ∃ ns : List Int, ds = ns.map .int ∧ (∀ i ∈ ns, R i) ∧ ns.length = ds.length
  | [], _ => ⟨[], rfl, by simp, rfl⟩
  | d :: ds, h => by
    obtain ⟨ns, e, h1, h2⟩ := ints_of_each (ds := ds) fun x hx => h x (List.mem_cons_of_mem _ hx)
    obtain ⟨i, rfl, hi⟩ := h d List.mem_cons_self
    exact ⟨i :: ns, by rw [e] <;> rfl, by simpa using ⟨hi, h1⟩, by rw [List.length_cons, List.length_cons, h2]⟩
theorem sizeLine_ge {n : Nat} (h : n ≤ 1000000) : n ≤ sizeLine := Nat.le_trans h (by decide)
theorem mulOk_r {i j : Int} (h1 : -(2 ^ 64) < j) (h2 : j < 2 ^ 64) : mulOk i j := .inl (.inr ⟨h1, h2⟩)
theorem mulOk_l {i j : Int} (h1 : -(2 ^ 64) < i) (h2 : i < 2 ^ 64) : mulOk i j := .inl (.inl ⟨h1, h2⟩)
theorem divW {i j : Int} (h1 : 0 < j) (h2 : j < 1073741824) : CDivW i j := ⟨h1, by
  have : j.natAbs < 2 ^ 30 := by omega
  have h3 : j.natAbs.log2 < 30 := (Nat.log2_lt (by omega)).mpr this
  omega⟩
end DL
namespace DL
open PySem PySem.Spec PyProof.Rows L2 LamX NdefX
theorem e_dSeq (a b : MS) {o : Option S} {ρ : Rho} {k : Kt} : dSeq a b (o :: ρ) k = a (o :: ρ) { k with nx := fun ρ' => b ρ' k } := propext Iff.rfl
theorem e_dIfS (t : MT) (a b : MS) {o : Option S} {ρ : Rho} {k : Kt} : dIfS t a b (o :: ρ) k = t (o :: ρ) (fun c => if c = true then a (o :: ρ) k else b (o :: ρ) k) (k.ex (o :: ρ)) := propext Iff.rfl
theorem e_dRet (m : ME) {o : Option S} {ρ : Rho} {k : Kt} : dRet m (o :: ρ) k = m (o :: ρ) (fun s => plain s (k.rt s)) (k.ex (o :: ρ)) := propext Iff.rfl
theorem e_dRetN {o : Option S} {ρ : Rho} {k : Kt} : dRetN  (o :: ρ) k = k.rt (.d .none) := propext Iff.rfl
theorem e_dRetB (ma : MA) {o : Option S} {ρ : Rho} {k : Kt} : dRetB ma (o :: ρ) k = ma (o :: ρ) (fun ss => match ss with
  | [.d (.int _), .d (.int _), .d (.int _)] => k.rt .bowl
  | _ => False) (k.ex (o :: ρ)) := propext Iff.rfl
theorem e_dAsg (i : Nat) (m : ME) {o : Option S} {ρ : Rho} {k : Kt} : dAsg i m (o :: ρ) k = m (o :: ρ) (fun s => plain s (k.nx ((o :: ρ).set i (some s)))) (k.ex (o :: ρ)) := propext Iff.rfl
theorem e_dPar (i j : Nat) (a b : ME) {o : Option S} {ρ : Rho} {k : Kt} : dPar i j a b (o :: ρ) k = a (o :: ρ) (fun s => b (o :: ρ) (fun t => plain s (plain t (k.nx (((o :: ρ).set i (some s)).set j (some t))))) (k.ex (o :: ρ))) (k.ex (o :: ρ)) := propext Iff.rfl
theorem e_dAsgG (g : MG) (m : ME) {o : Option S} {ρ : Rho} {k : Kt} : dAsgG g m (o :: ρ) k = m (o :: ρ) (fun s => g s (o :: ρ) k.nx) (k.ex (o :: ρ)) := propext Iff.rfl
theorem e_dDrop (m : ME) {o : Option S} {ρ : Rho} {k : Kt} : dDrop m (o :: ρ) k = m (o :: ρ) (fun _ => k.nx (o :: ρ)) (k.ex (o :: ρ)) := propext Iff.rfl
theorem e_dNext {o : Option S} {ρ : Rho} {k : Kt} : dNext  (o :: ρ) k = k.nx (o :: ρ) := propext Iff.rfl
theorem e_dBrk {o : Option S} {ρ : Rho} {k : Kt} : dBrk  (o :: ρ) k = k.bk (o :: ρ) := propext Iff.rfl
theorem e_dCont {o : Option S} {ρ : Rho} {k : Kt} : dCont  (o :: ρ) k = k.ct (o :: ρ) := propext Iff.rfl
theorem e_dNever {o : Option S} {ρ : Rho} {k : Kt} : dNever  (o :: ρ) k = False := propext Iff.rfl
theorem e_dFor (mi : MI) (g : MG) (b : MS) {o : Option S} {ρ : Rho} {k : Kt} : dFor mi g b (o :: ρ) k = mi (o :: ρ) (fun ss => forL g b ss (o :: ρ) k) (k.ex (o :: ρ)) := propext Iff.rfl
theorem e_dFreeze (i : Nat) (m : MS) {o : Option S} {ρ : Rho} {k : Kt} : dFreeze i m (o :: ρ) k = (match (o :: ρ)[i]? with
  | some (some (.own (.list x))) => m ((o :: ρ).set i (some (.d (.list x)))) k
  | _ => False) := propext Iff.rfl
theorem e_dRetO (i : Nat) {o : Option S} {ρ : Rho} {k : Kt} : dRetO i (o :: ρ) k = (match (o :: ρ)[i]? with
  | some (some (.own (.list x))) => k.rt (.d (.list x))
  | _ => False) := propext Iff.rfl
theorem e_dNewL (i : Nat) (ma : MA) {o : Option S} {ρ : Rho} {k : Kt} : dNewL i ma (o :: ρ) k = ma (o :: ρ) (fun ss => onDs ss fun ds => ds.length ≤ sizeLine ∧ k.nx ((o :: ρ).set i (some (.own (.list ds))))) (k.ex (o :: ρ)) := propext Iff.rfl
theorem e_dApp (i : Nat) (m : ME) {o : Option S} {ρ : Rho} {k : Kt} : dApp i m (o :: ρ) k = (match (o :: ρ)[i]? with
  | some (some (.own (.list l))) => m (o :: ρ) (fun s => onD s fun d => l.length < sizeLine ∧ k.nx ((o :: ρ).set i (some (.own (.list (l ++ [d])))))) (k.ex (o :: ρ))
  | _ => False) := propext Iff.rfl
theorem e_dWhile (c : MT) (b : MS) {o : Option S} {ρ : Rho} {k : Kt} : dWhile c b (o :: ρ) k = ∃ n, whileN c b n (o :: ρ) k := propext Iff.rfl
theorem e_dVar (i : Nat) {o : Option S} {ρ : Rho} {Q : S → Prop} {E : Exn → Prop} : dVar i (o :: ρ) Q E = (match (o :: ρ)[i]? with
  | some (some s) => Q s
  | _ => False) := propext Iff.rfl
theorem e_dC (x : PyData) {o : Option S} {ρ : Rho} {Q : S → Prop} {E : Exn → Prop} : dC x (o :: ρ) Q E = Q (.d x) := propext Iff.rfl
theorem e_dOp1 (op : O1) (ma : ME) {o : Option S} {ρ : Rho} {Q : S → Prop} {E : Exn → Prop} : dOp1 op ma (o :: ρ) Q E = ma (o :: ρ) (fun x => op x Q E) E := propext Iff.rfl
theorem e_dOp2 (op : O2) (ma mb : ME) {o : Option S} {ρ : Rho} {Q : S → Prop} {E : Exn → Prop} : dOp2 op ma mb (o :: ρ) Q E = ma (o :: ρ) (fun x => mb (o :: ρ) (fun y => op x y Q E) E) E := propext Iff.rfl
theorem e_dCB (op : OA) (ma : MA) {o : Option S} {ρ : Rho} {Q : S → Prop} {E : Exn → Prop} : dCB op ma (o :: ρ) Q E = ma (o :: ρ) (fun xs => op xs Q E) E := propext Iff.rfl
theorem e_dNil {o : Option S} {ρ : Rho} {Q : List S → Prop} {E : Exn → Prop} : dNil  (o :: ρ) Q E = Q [] := propext Iff.rfl
theorem e_dCons (ma : ME) (mr : MA) {o : Option S} {ρ : Rho} {Q : List S → Prop} {E : Exn → Prop} : dCons ma mr (o :: ρ) Q E = ma (o :: ρ) (fun x => mr (o :: ρ) (fun xs => Q (x :: xs)) E) E := propext Iff.rfl
theorem e_dB (m : ME) {o : Option S} {ρ : Rho} {Q : Bool → Prop} {E : Exn → Prop} : dB m (o :: ρ) Q E = m (o :: ρ) (fun s => onB s Q) E := propext Iff.rfl
theorem e_dAnd (a b : MT) {o : Option S} {ρ : Rho} {Q : Bool → Prop} {E : Exn → Prop} : dAnd a b (o :: ρ) Q E = a (o :: ρ) (fun c => if c = true then b (o :: ρ) Q E else Q false) E := propext Iff.rfl
theorem e_dOr (a b : MT) {o : Option S} {ρ : Rho} {Q : Bool → Prop} {E : Exn → Prop} : dOr a b (o :: ρ) Q E = a (o :: ρ) (fun c => if c = true then Q true else b (o :: ρ) Q E) E := propext Iff.rfl
theorem e_dNot (a : MT) {o : Option S} {ρ : Rho} {Q : Bool → Prop} {E : Exn → Prop} : dNot a (o :: ρ) Q E = a (o :: ρ) (fun c => Q (!c)) E := propext Iff.rfl
theorem e_dAndV (a b : ME) {o : Option S} {ρ : Rho} {Q : S → Prop} {E : Exn → Prop} : dAndV a b (o :: ρ) Q E = a (o :: ρ) (fun s => onB s fun c => if c = true then b (o :: ρ) Q E else Q (.d (.bool false))) E := propext Iff.rfl
theorem e_dOrV (a b : ME) {o : Option S} {ρ : Rho} {Q : S → Prop} {E : Exn → Prop} : dOrV a b (o :: ρ) Q E = a (o :: ρ) (fun s => onB s fun c => if c = true then Q (.d (.bool true)) else b (o :: ρ) Q E) E := propext Iff.rfl
theorem e_dNotV (a : ME) {o : Option S} {ρ : Rho} {Q : S → Prop} {E : Exn → Prop} : dNotV a (o :: ρ) Q E = a (o :: ρ) (fun s => onB s fun c => Q (.d (.bool (!c)))) E := propext Iff.rfl
theorem e_dIf (t : MT) (a b : ME) {o : Option S} {ρ : Rho} {Q : S → Prop} {E : Exn → Prop} : dIf t a b (o :: ρ) Q E = t (o :: ρ) (fun c => if c = true then a (o :: ρ) Q E else b (o :: ρ) Q E) E := propext Iff.rfl
theorem e_dTup (ma : MA) {o : Option S} {ρ : Rho} {Q : S → Prop} {E : Exn → Prop} : dTup ma (o :: ρ) Q E = ma (o :: ρ) (fun ss => onDs ss fun ds => ds.length ≤ sizeLine ∧ Q (.d (.tuple ds))) E := propext Iff.rfl
theorem e_dLst (ma : MA) {o : Option S} {ρ : Rho} {Q : S → Prop} {E : Exn → Prop} : dLst ma (o :: ρ) Q E = ma (o :: ρ) (fun ss => onDs ss fun ds => ds.length ≤ sizeLine ∧ Q (.d (.list ds))) E := propext Iff.rfl
theorem e_dIsI (T : String) (m : ME) {o : Option S} {ρ : Rho} {Q : S → Prop} {E : Exn → Prop} : dIsI T m (o :: ρ) Q E = m (o :: ρ) (fun s => onD s fun d => Q (.d (.bool (isTy T d)))) E := propext Iff.rfl
theorem e_dCall (n : Nat) (m : MF) (ma : MA) {o : Option S} {ρ : Rho} {Q : S → Prop} {E : Exn → Prop} : dCall n m ma (o :: ρ) Q E = ma (o :: ρ) (fun ss => fits n ss ∧ m ss Q E) E := propext Iff.rfl
theorem e_dCallK (n n0 nk : Nat) (ix : List Nat) (m : MF) (ma mb : MA) {o : Option S} {ρ : Rho} {Q : S → Prop} {E : Exn → Prop} : dCallK n n0 nk ix m ma mb (o :: ρ) Q E = ma (o :: ρ) (fun ss => mb (o :: ρ) (fun zs => ss.length = n0 ∧ zs.length = nk ∧ fits n (perm ix (ss ++ zs)) ∧ m (perm ix (ss ++ zs)) Q E) E) E := propext Iff.rfl
theorem e_dChain (op p : O2) (ma mb mc : ME) {o : Option S} {ρ : Rho} {Q : S → Prop} {E : Exn → Prop} : dChain op p ma mb mc (o :: ρ) Q E = ma (o :: ρ) (fun x => mb (o :: ρ) (fun y => op x y (fun z => onB z fun k => if k = true then mc (o :: ρ) (fun w => p y w Q E) E else Q (.d (.bool false))) E) E) E := propext Iff.rfl
theorem e_dSl (m : ME) (lo hi : MO) {o : Option S} {ρ : Rho} {Q : S → Prop} {E : Exn → Prop} : dSl m lo hi (o :: ρ) Q E = m (o :: ρ) (fun s => lo (o :: ρ) (fun a => hi (o :: ρ) (fun b => match s with
  | .d (.tuple l) => Q (.d (.tuple (DL.cutD l a b)))
  | .d (.list l) => Q (.d (.list (DL.cutD l a b)))
  | .ro l => Q (.d (.list (DL.cutD l a b)))
  | .own (.list l) => Q (.d (.list (DL.cutD l a b)))
  | _ => False) E) E) E := propext Iff.rfl
theorem e_dPart (m : ME) {o : Option S} {ρ : Rho} {Q : Option Int → Prop} {E : Exn → Prop} : dPart m (o :: ρ) Q E = m (o :: ρ) (fun s => onI s fun i => Q (some i)) E := propext Iff.rfl
theorem e_dNoPart {o : Option S} {ρ : Rho} {Q : Option Int → Prop} {E : Exn → Prop} : dNoPart  (o :: ρ) Q E = Q none := propext Iff.rfl
theorem e_dYes {o : Option S} {ρ : Rho} {Q : Bool → Prop} {E : Exn → Prop} : dYes  (o :: ρ) Q E = Q true := propext Iff.rfl
theorem e_dFnCall (v : Fv) (n : Nat) (φ : MF) (i : Nat) (ma : MA) {o : Option S} {ρ : Rho} {Q : S → Prop} {E : Exn → Prop} : dFnCall v n φ i ma (o :: ρ) Q E = (match (o :: ρ)[i]? with
  | some (some (.fn u)) => u = v ∧ ma (o :: ρ) (fun ss => fits n ss ∧ φ ss Q E) E
  | _ => False) := propext Iff.rfl
theorem e_dCallF (n : Nat) (m : Fv → MF → MF) (ma : MA) (φ : Rho → MF) {o : Option S} {ρ : Rho} {Q : S → Prop} {E : Exn → Prop} : dCallF n m ma φ (o :: ρ) Q E = ma (o :: ρ) (fun ss => ∀ v : Fv, fits n (ss ++ [.fn v]) ∧ m v (φ (o :: ρ)) (ss ++ [.fn v]) Q E) E := propext Iff.rfl
theorem e_dIter (m : ME) {o : Option S} {ρ : Rho} {Q : List S → Prop} {E : Exn → Prop} : dIter m (o :: ρ) Q E = m (o :: ρ) (fun s => onSeq s fun l => Q (l.map S.d)) E := propext Iff.rfl
theorem e_dRng1 (ma : MA) {o : Option S} {ρ : Rho} {Q : List S → Prop} {E : Exn → Prop} : dRng1 ma (o :: ρ) Q E = ma (o :: ρ) (fun ss => match ss with
  | [.d (.int j)] => rngOk 0 j ∧ Q (rngS 0 j.toNat)
  | _ => False) E := propext Iff.rfl
theorem e_dRng2 (ma : MA) {o : Option S} {ρ : Rho} {Q : List S → Prop} {E : Exn → Prop} : dRng2 ma (o :: ρ) Q E = ma (o :: ρ) (fun ss => match ss with
  | [.d (.int i), .d (.int j)] => rngOk i j ∧ Q (rngS i (j - i).toNat)
  | _ => False) E := propext Iff.rfl
theorem e_dEnum (ma : MA) {o : Option S} {ρ : Rho} {Q : List S → Prop} {E : Exn → Prop} : dEnum ma (o :: ρ) Q E = ma (o :: ρ) (fun ss => match ss with
  | [s] => onSeq s fun l => Q (enumS l)
  | _ => False) E := propext Iff.rfl
theorem e_dComp (mi : MI) (g : MG) (t : MT) (e : ME) (vs : List Nat) {o : Option S} {ρ : Rho} {Q : S → Prop} {E : Exn → Prop} : dComp mi g t e vs (o :: ρ) Q E = mi (o :: ρ) (fun ss => compL g t e (wipeR (o :: ρ) vs) (fun l => Q (.d (.list l))) ss []) E := propext Iff.rfl
theorem e_gN (i : Nat) {s : S} {o : Option S} {ρ : Rho} {P : Rho → Prop} : gN i s (o :: ρ) P = plain s (P ((o :: ρ).set i (some s))) := propext Iff.rfl
theorem e_gBw (i : Nat) (mi : ME) {s : S} {o : Option S} {ρ : Rho} {P : Rho → Prop} : gBw i mi s (o :: ρ) P = (match (o :: ρ)[i]? with
  | some (some .bowl) => mi (o :: ρ) (fun ix => onI ix fun k => 0 ≤ k ∧ k < 3 ∧ onI s fun _ => P (o :: ρ)) (fun _ => False)
  | _ => False) := propext Iff.rfl
theorem e_gOw (i : Nat) (mi : ME) {s : S} {o : Option S} {ρ : Rho} {P : Rho → Prop} : gOw i mi s (o :: ρ) P = (match (o :: ρ)[i]? with
  | some (some (.own (.list l))) => mi (o :: ρ) (fun ix => onI ix fun k => match ixN l.length k with
    | some j => onD s fun d => P ((o :: ρ).set i (some (.own (.list (l.set j d)))))
    | none => False) (fun _ => False)
  | _ => False) := propext Iff.rfl
theorem e_gT (gs : List MG) {l : List PyData} {o : Option S} {ρ : Rho} {P : Rho → Prop} : gT gs (.d (.tuple l)) (o :: ρ) P = (l.length = gs.length ∧ gT.gTs gs l (o :: ρ) P) := propext Iff.rfl
theorem e_gTn {ρ : Rho} {P : Rho → Prop} : gT.gTs [] [] ρ P = P ρ := propext Iff.rfl
theorem e_gTc (g : MG) (gs : List MG) {d : PyData} {l : List PyData} {ρ : Rho} {P : Rho → Prop} : gT.gTs (g :: gs) (d :: l) ρ P = g (.d d) ρ (fun ρ' => gT.gTs gs l ρ' P) := propext Iff.rfl
theorem e_dDef (n : Nat) (b : MS) {ss : List S} {Q : S → Prop} {E : Exn → Prop} : dDef n b ss Q E = b (startR n ss) { nx := fun _ => Q (.d .none), rt := Q, bk := fun _ => False, ct := fun _ => False, ex := fun _ x => E x } := propext Iff.rfl
theorem e_lamM (n : Nat) (js : List Nat) (mb : ME) {ρ : Rho} {ss : List S} {Q : S → Prop} {E : Exn → Prop} : lamM n js mb ρ ss Q E = mb (lamR n js ρ ss) (fun s => plain s (Q s)) E := propext Iff.rfl
end DL
namespace DL
open PySem PySem.Spec PyProof.Rows L2 LamX NdefX
/-! ### the law's own call -/
theorem tabs_start {T : List (Addr × Str)} {H : Hp} (h : ∀ p ∈ T, H p.1 = some (.tbl #[])) : Tabs T H := fun p hp => ⟨#[], h p hp, trivial, fun pos cv e => by cases e⟩
theorem law_sp {K : PySem.W.Frag} {T : List (Addr × Str)} {N : String → Addr → Prop} {W : WX} {m : MF} {H : Hp} {a : Addr} {ns : List Int} (hT : ∀ p ∈ T, H p.1 = some (.tbl #[])) (hS : SqL K H a (ns.map V.int))
    (hm : ∀ s : S, (s = .d (.list (ns.map .int)) ∨ s = .ro (ns.map .int)) → m [s] (fun s => s = .d (.bool true)) fun _ => False) : liftSp ⟨K, T, N, W⟩ 1 m [.ref a] H (fun v _ => v = .bl true) fun _ _ _ => False := by
  have key : ∃ s : S, (s = .d (.list (ns.map .int)) ∨ s = .ro (ns.map .int)) ∧ SRep K ⟨fun _ => False, fun _ => False, fun _ h => h⟩ H s (.ref a) := by
    rcases hS with (hS | hS) | hS
    · exact ⟨_, .inl rfl, by
        simp only [SRep, Rep]
        exact ⟨a, _, rfl, ⟨hS, fun h => h⟩, repL_of_ints⟩⟩
    · exact ⟨_, .inr rfl, a, _, rfl, .inl hS, repL_of_ints⟩
    · exact ⟨_, .inr rfl, a, _, rfl, .inr hS, repL_of_ints⟩
  obtain ⟨s, hs, r⟩ := key
  refine ⟨⟨fun _ => False, fun _ => False, fun _ h => h⟩, [s], _, _, rfl, ?_, ⟨fun _ h => h.elim, fun _ h => h.elim, tabs_start hT⟩, .cons r .nil, hm s hs, fun w' s' v H' _ _ r' _ e => ?_, fun _ _ _ _ _ _ _ _ h => h.elim⟩
  · intro t ht
    rw [List.mem_singleton] at ht
    subst ht
    rcases hs with rfl | rfl <;> rfl
  · subst e
    simpa only [SRep, Rep] using r'
theorem codeHd_mk {K : PySem.W.Frag} {h : Heap} {c t : Addr} {oc : Option Addr} {vs : Array Value} {sl : Array (Option Value)} (X : K.In h) (l : K.lookup c = some ⟨.type "code", oc, .fields vs, sl⟩) (e : vs[11]? = some (.ref t)) (hd : PySem.W.codeHdIn K c t = true) : PySem.W.CodeHd h c t := PySem.W.codeHd_of_K X hd
theorem cx_none {P : Program} {w : World} {H : Hp} {s : Shared} {e : Value} {s' : Shared} (h : L2.CX P w [] H s (fun _ _ _ => False) e s') : False := by
  obtain ⟨a, B, H', cls, d, _, _, _, _, _, _, _, h⟩ := h
  exact h
end DL
namespace DL
open PySem PySem.Spec PyProof.Rows L2 LamX NdefX
/-! ### starred items, constants of the module -/
def dStar (m : ME) (mr : MA) : MA := fun ρ Q E => m ρ (fun s => onSq s fun l => mr ρ (fun xs => Q (l.map S.d ++ xs)) E) E
theorem RA_of_repL {K : PySem.W.Frag} {w : Wd} {H : Hp} : ∀ {l : List PyData} {vs : List V}, RepL K w.ex H l vs → RA K w H (l.map S.d) vs
  | [], vs, h => by
    simp only [RepL] at h
    subst h
    exact .nil
  | d :: l, vs, h => by
    simp only [RepL] at h
    obtain ⟨v, r, rfl, h1, h2⟩ := h
    exact .cons h1 (RA_of_repL h2)
theorem star_ok {C : Cn} {σ : L2.St} {H : Hp} {m : ME} {mr : MA} {Q : List V → Hp → Prop} (h : liftA C (dStar m mr) σ H Q) : StX.tStar C.K (lift C m) (liftA C mr) σ H Q := by
  obtain ⟨w, ρ, Q', E', st, ok, hm, ct⟩ := h
  refine mk st ok hm (fun w1 s v H1 le ok1 r1 q => ?_) ct.ex
  obtain ⟨l, a, vs, rfl, h1, h2, q⟩ := onSq_of (C := C) r1 q
  refine ⟨a, vs, rfl, h1.symm, ?_⟩
  exact mk (st.le ok le) ok1 q (fun w2 xs us H2 le2 ok2 r2 q2 => ct.ok w2 (l.map S.d ++ xs) (vs ++ us) H2 (le.trans le2) ok2 (paired_app (RA.le ok1 le2 (RA_of_repL h2)) r2) q2) (ct.le le).ex
theorem pa_starD {X : Cx} {C : Cn} {e : Expr} {es : List Expr} {m : ME} {mr : MA} {p : Pos} (he : PE X e (lift C m)) (hr : PA X es (liftA C mr)) (hs : starEach (.Starred e p :: es) X.env = (true, eval e X.env) :: starEach es X.env := by rfl) (hK : X.K = C.K := by rfl) : PA X (.Starred e p :: es) (liftA C (dStar m mr)) := (StX.pa_star he hr hs).weak fun _ _ _ h => by
  rw [hK]
  exact star_ok h
theorem e_dStar (m : ME) (mr : MA) {o : Option S} {ρ : Rho} {Q : List S → Prop} {E : Exn → Prop} : dStar m mr (o :: ρ) Q E = m (o :: ρ) (fun s => onSq s fun l => mr (o :: ρ) (fun xs => Q (l.map S.d ++ xs)) E) E := propext Iff.rfl
theorem onDs_map {l : List PyData} {ss : List S} {P : List PyData → Prop} : onDs (l.map S.d ++ ss) P = onDs ss fun m => P (l ++ m) := by
  induction l generalizing P with
  | nil => rfl
  | cons d l ih => exact ih
theorem onDs_map0 {l : List PyData} {P : List PyData → Prop} : onDs (l.map S.d) P = P l := by
  have h := onDs_map (l := l) (ss := []) (P := P)
  rw [List.append_nil] at h
  rw [h]
  show P (l ++ []) = P l
  rw [List.append_nil]
theorem GlobD.str {K : PySem.W.Frag} {mg : Str → Option Value} {x i : Str} {t : Nat} (h : mg x = some (.str i t)) : GlobD K mg x (.str i) := ⟨_, .str i, h, ⟨t, rfl⟩, fun _ _ => by simp only [Rep]⟩
theorem GlobD.tup {K : PySem.W.Frag} {mg : Str → Option Value} {x : Str} {a : Addr} {oc : Option Addr} {its : Array Value} {n : Nat} {sl : Array (Option Value)} {l : List PyData} {vs : List V} (h : mg x = some (.ref a)) (lk : K.lookup a = some ⟨.type "tuple", oc, .seq its n, sl⟩) (hz : its.size ≤ sizeLine) (r : Vals vs its.toList) (hr : ∀ ex H, RepL K ex H l vs) : GlobD K mg x (.tuple l) :=
  ⟨_, .ref a, h, rfl, fun ex H => by
    simp only [Rep]
    exact ⟨a, vs, rfl, .inr ⟨_, its, n, lk, rfl, rfl, hz, r⟩, hr ex H⟩⟩
theorem eqS_str {x y : Str} {Q : S → Prop} {E : Exn → Prop} (hx : PyData.canLay0 (.str x) = true) (hy : PyData.canLay0 (.str y) = true) : eqS false (.d (.str x)) (.d (.str y)) Q E = Q (.d (.bool (x == y))) := by
  have h1 : SeqAt.shaped (.str x) = true := Shp.sh (n := 0) ⟨hx, Nat.le_refl _⟩
  have h2 : SeqAt.shaped (.str y) = true := Shp.sh (n := 0) ⟨hy, Nat.le_refl _⟩
  show (SeqAt.shaped (.str x) = true ∧ SeqAt.shaped (.str y) = true ∧ Q (.d (.bool (x == y)))) = _
  rw [h1, h2]
  simp
theorem inOp_tup {d : PyData} {l : List PyData} {Q : S → Prop} {E : Exn → Prop} : inOp false (.d d) (.d (.tuple l)) Q E = (flatD d = true ∧ l.all flatD = true ∧ Q (.d (.bool (l.any fun y => PyData.eqv y d)))) := rfl
end DL
namespace DL
open PySem PySem.Spec PyProof.Rows L2 LamX NdefX HT
/-! ### xs[::-1], a list or a tuple -/
theorem adj_rev (n : Nat) : Builtin.Slice.sliceAdjust none none (-1) (n : Int) = ((n : Int) - 1, -1) := rfl
theorem places_rev (n : Nat) : Builtin.Slice.slicePlaces ((n : Int) - 1) (-1) (-1) = n := by
  unfold Builtin.Slice.slicePlaces
  have h1 : ¬ ((-1 : Int) > 0) := by omega
  simp only [h1, if_false, show (- -1 : Int) = 1 by decide, Int.ediv_one]
  split <;> omega
theorem fm_congr {α β : Type} {f g : α → Option β} {l : List α} (h : ∀ x ∈ l, f x = g x) : l.filterMap f = l.filterMap g := by
  have k : ∀ f : α → Option β, l.filterMap f = (l.map f).filterMap id := fun f => by rw [List.filterMap_map] <;> rfl
  rw [k f, k g, List.map_congr_left h]
theorem pick_rev (xs : Array Value) : ((List.range xs.size).filterMap fun (m : Nat) => xs[(((xs.size : Int) - 1) + (m : Int) * (-1)).toNat]?).toArray = xs.toList.reverse.toArray := by
  have e : ((List.range xs.size).filterMap fun (m : Nat) => xs[(((xs.size : Int) - 1) + (m : Int) * (-1)).toNat]?) = ((List.range xs.size).map fun k => xs.size - 1 - k).filterMap (xs[·]?) := by
    rw [List.filterMap_map]
    refine fm_congr fun m hm => ?_
    have := List.mem_range.mp hm
    show xs[_]? = xs[xs.size - 1 - m]?
    congr 1
    omega
  rw [e, PySem.W.krv_range, List.filterMap_reverse, PySem.W.krv_all]
section
variable {prog : Program} {w : World} {A : Around} {E : Value → Shared → Prop} {s : Shared}
theorem sliceApplied_rev {sl : Addr} {vs : Value} {n : Nat} {Q : Int × Int × Nat → Shared → Prop} (hs : s.heap.IsSliceOf sl .none .none vs) (ps : IsPart vs (some (-1)))
    (h : Q ((n : Int) - 1, -1, n) s) : wpAny (model prog w) A (Builtin.Slice.sliceApplied (.ref sl) (pure (n : Int))) Q E s := by
  obtain ⟨os, hos, hcs, hds⟩ := id hs
  unfold Builtin.Slice.sliceApplied Builtin.Slice.sliceFields
  refine wpAny_bind (wpAny_bind (wpAny_field hos hds (x := .none) rfl (wpAny_bind (wpAny_field hos hds (x := .none) rfl (wpAny_bind (wpAny_field hos hds (x := vs) rfl (wpAny_pure ?_)))))))
  refine wpAny_bind (slicePart_ ps ?_)
  show wpAny _ _ (if ((-1 : Int) == 0) = true then _ else _) _ _ s
  rw [if_neg (by decide)]
  refine wpAny_bind (slicePart_none (wpAny_bind (slicePart_none (wpAny_bind (wpAny_pure ?_)))))
  show wpAny _ _ (match Builtin.Slice.sliceAdjust none none (-1) (n : Int) with | (lo, hi) => pure (lo, (-1 : Int), Builtin.Slice.slicePlaces lo hi (-1))) _ _ s
  rw [adj_rev n]
  show wpAny _ _ (pure ((n : Int) - 1, (-1 : Int), Builtin.Slice.slicePlaces ((n : Int) - 1) (-1) (-1))) _ _ s
  rw [places_rev]
  exact wpAny_pure h
theorem getItem_tuple_rev {t sl : Addr} {items : Array Value} {vs : Value} {Q : Value → Shared → Prop} (ht : IsTup s.heap t items) (hs : s.heap.IsSliceOf sl .none .none vs) (ps : IsPart vs (some (-1)))
    (h : Q (.ref s.heap.objs.size) { s with heap := s.heap.push { cls := .type "tuple", data := .seq items.toList.reverse.toArray } }) (hsz : items.size ≤ sizeLine) : wpAny (model prog w) A (getItem (.ref t) (.ref sl)) Q E s := by
  have htake : sizeOk (.seq items.toList.reverse.toArray) := by
    show items.toList.reverse.toArray.size ≤ sizeLine
    rw [List.size_toArray, List.length_reverse, Array.length_toList]
    exact hsz
  obtain ⟨os, hos, hcs, hds⟩ := id hs
  have hTs : s.TypeIs (.ref sl) "slice" := ⟨os, hos, hcs⟩
  unfold getItem
  try with_reducible refine wpAny_holding ?_
  first | refine wpAny_bind (wpAny_pure ?_) | skip
  refine wpAny_bind (wpAny_sequenceKey ht.typeIs (by decide) ?_)
  refine wpAny_bind (wpAny_callSpecial?_slot (name := Str.ofString "__getitem__") ht.typeIs PyProof.Rows.slot_tuple_getitem
    (wpAny_call_entry PyProof.Rows.slot_tuple_getitem ht.typeIs entry_tuple_getitem ?_ (args_tuple_getitem _ _)))
  show wpAny _ _ (Builtin.Tuple.tupleItemsOf (.ref t) >>= _) _ _ s
  refine wpAny_bind (tupleItemsOf_ ht ?_)
  refine wpAny_bind (wpAny_typeOf hTs ?_)
  rw [if_pos (by decide)]
  refine wpAny_bind (sliceApplied_rev hs ps ?_)
  have hno : ¬ (((items.size : Int) - 1 == 0 && (-1 : Int) == 1 && items.size == items.size) = true) := by
    intro q
    rw [Bool.and_eq_true, Bool.and_eq_true] at q
    exact absurd (eq_of_beq q.1.2) (by decide)
  show wpAny _ _ (if ((items.size : Int) - 1 == 0 && (-1 : Int) == 1 && items.size == items.size) = true then _ else _) _ _ s
  rw [if_neg hno, pick_rev]
  first
    | exact wpAny_bind (m := Builtin.Tuple.tupleExact _) (wpAny_newObj_type (wpAny_pure ⟨_, rfl, wpAny_pure h⟩) htake)
    | exact wpAny_bind (m := Builtin.Tuple.tupleExact _) (wpAny_newObj_type (wpAny_bind (wpAny_pure (wpAny_pure ⟨_, rfl, wpAny_pure h⟩))) htake)
    | exact wpAny_bind (wpAny_bind (m := Builtin.Tuple.tupleExact _) (wpAny_newObj_type (wpAny_pure (wpAny_pure ⟨_, rfl, wpAny_pure h⟩)) htake))
    | exact wpAny_bind (wpAny_bind (m := Builtin.Tuple.tupleExact _) (wpAny_newObj_type (wpAny_pure ⟨_, rfl, wpAny_pure h⟩) htake))
end
def tRevA (K : PySem.W.Frag) (te : TE) : TE := fun σ H Q => te σ H fun x H1 => ∃ a xs, x = .ref a ∧ ((SqL K H1 a xs ∧ ∀ p, H1 p = none → Q (.ref p) (upd H1 p (.lst xs.reverse))) ∨ (SqT K H1 a xs ∧ ∀ p, H1 p = none → Q (.ref p) (upd H1 p (.tup xs.reverse))))
theorem pe_revA {X : Cx} {e : Expr} {te : TE} {k : Nat} {p1 p2 p3 pos : Pos} (he : PE X e te) : PE X (.Subscript e (.Slice none none (some (.UnaryOp .USub (.Constant (.int 1) k p1) p2)) p3) pos) (tRevA X.K te) := by
  refine ⟨fun pins s σ H Q I h => ?_⟩
  refine Subscript_ (thn (he.run pins s σ H _ I h) fun v s1 ⟨x, H1, I1, r1, q1⟩ => ?_)
  obtain ⟨a, xs, ex, q1⟩ := q1
  subst ex
  cases r1
  have hst : PO X (some (.UnaryOp .USub (.Constant (.int 1) k p1) p2)) (tPart (tUn (rU fun i => .int (-i)) (tC (.int 1)))) := po_some (pe_un un_neg pe_int)
  refine wpAny_Slice (thn (po_none.run pins s1 σ H1 (fun o H2 => o = none ∧ H2 = H1) I1 ⟨rfl, rfl⟩) fun vl s2 ⟨l, H2, I2, pl, el, e2⟩ => ?_)
  subst el e2
  refine thn (po_none.run pins s2 σ H2 (fun o H3 => o = none ∧ H3 = H2) I2 ⟨rfl, rfl⟩) fun vu s3 ⟨u, H3, I3, pu, eu, e3⟩ => ?_
  subst eu e3
  refine thn (hst.run pins s3 σ H3 (fun o H4 => o = some (-1) ∧ H4 = H3) I3 ⟨1, rfl, -1, rfl, rfl, rfl⟩) fun vs s4 ⟨o, H4, I4, ps, eo, e4⟩ => ?_
  subst eo e4
  cases pl
  cases pu
  have I5 : Inv X pins σ H4 { s4 with heap := s4.heap.push { cls := .type "slice", data := .fields #[.none, .none, vs] } } := I4.kept (t' := s4.toks) fun b ob q => Heap.get?_push_of_some _ q
  rcases q1 with ⟨hx, q⟩ | ⟨hx, q⟩
  · obtain ⟨its, r, ht, hz⟩ := I5.list hx
    have hlen := r.length
    show wpAny (model X.prog X.w) X.A (subscriptTail e (.Slice none none (some (.UnaryOp .USub (.Constant (.int 1) k p1) p2)) p3) (.ref a) (.ref s4.heap.objs.size)) (EP X pins σ Q) X.xe { s4 with heap := s4.heap.push { cls := .type "slice", data := .fields #[.none, .none, vs] } }
    refine tail_any (ops := [.ref a, .ref s4.heap.objs.size]) ht.isList.typeIs (PySem.slot_list_getitem.lookup) ?_ (by with_unfolding_all rfl)
    refine wpAny_getItem_list_slice ht.isList (Heap.IsSliceOf.new _ .none .none vs) .none .none ps (by decide) ?_ (by rw [List.size_toArray]; omega)
    rw [PySem.W.krv_pick]
    refine ⟨.ref _, _, I5.laid (t' := s4.toks) (o := .lst xs.reverse) (fun b ob q => Heap.get?_push_of_some _ q) (Nat.le_refl _) ?_, rfl, q _ (I5.hok.fresh (Nat.le_refl _))⟩
    exact ⟨by rw [List.length_reverse]; exact hz, _, 0, r.reverse, Heap.get?_push_size _ rfl⟩
  · obtain ⟨its, r, ht, hz⟩ := I5.tuple hx
    have hlen := r.length
    show wpAny (model X.prog X.w) X.A (subscriptTail e (.Slice none none (some (.UnaryOp .USub (.Constant (.int 1) k p1) p2)) p3) (.ref a) (.ref s4.heap.objs.size)) (EP X pins σ Q) X.xe { s4 with heap := s4.heap.push { cls := .type "slice", data := .fields #[.none, .none, vs] } }
    refine tail_any (ops := [.ref a, .ref s4.heap.objs.size]) ht.typeIs (PyProof.Rows.slot_tuple_getitem.lookup) ?_ (by with_unfolding_all rfl)
    refine getItem_tuple_rev ht (Heap.IsSliceOf.new _ .none .none vs) ps ?_ (by rw [List.size_toArray]; omega)
    refine ⟨.ref _, _, I5.laid (t' := s4.toks) (o := .tup xs.reverse) (fun b ob q => Heap.get?_push_of_some _ q) (Nat.le_refl _) ?_, rfl, q _ (I5.hok.fresh (Nat.le_refl _))⟩
    exact ⟨by rw [List.length_reverse]; exact hz, _, r.reverse, IsTup.new _ _⟩
def revS : O1 := fun x Q _ => match x with
  | .d (.tuple l) => Q (.d (.tuple l.reverse))
  | .d (.list l) => Q (.d (.list l.reverse))
  | .ro l => Q (.d (.list l.reverse))
  | .own (.list l) => Q (.d (.list l.reverse))
  | _ => False
theorem repL_rev {K : PySem.W.Frag} {ex : Addr → Prop} {H : Hp} : ∀ {l : List PyData} {vs : List V}, RepL K ex H l vs → RepL K ex H l.reverse vs.reverse
  | [], vs, h => by
    simp only [RepL] at h
    subst h
    simp only [List.reverse_nil, RepL]
  | d :: l, vs, h => by
    simp only [RepL] at h
    obtain ⟨v, r, rfl, h1, h2⟩ := h
    rw [List.reverse_cons, List.reverse_cons]
    exact repL_app h1 (repL_rev h2)
theorem rev_ok {C : Cn} {σ : L2.St} {H : Hp} {m : ME} {Q : VK} (h : lift C (dOp1 revS m) σ H Q) : tRevA C.K (lift C m) σ H Q := by
  obtain ⟨w, ρ, Q', E', st, ok, hm, ct⟩ := h
  refine mk st ok hm (fun w1 s v H1 le ok1 r1 q => ?_) ct.ex
  have c1 := ct.le le
  unfold revS at q
  split at q
  · rename_i l
    have r : Rep C.K w1.ex H1 (.tuple l) v := r1
    simp only [Rep] at r
    obtain ⟨a, vs, rfl, h1, h2⟩ := r
    exact ⟨a, vs, rfl, .inr ⟨h1, fun p hp => c1.newT ok1 (repL_rev h2) q hp⟩⟩
  · rename_i l
    have r : Rep C.K w1.ex H1 (.list l) v := r1
    simp only [Rep] at r
    obtain ⟨a, vs, rfl, fz, h2⟩ := r
    exact ⟨a, vs, rfl, .inl ⟨.inl (.inl fz.1), fun p hp => c1.newL ok1 (repL_rev h2) q hp⟩⟩
  · rename_i l
    obtain ⟨a, vs, rfl, h1, h2⟩ := r1
    exact ⟨a, vs, rfl, .inl ⟨h1.sq, fun p hp => c1.newL ok1 (repL_rev h2) q hp⟩⟩
  · rename_i l
    obtain ⟨a, rfl, _, _, vs, h1, h2⟩ := r1
    exact ⟨a, vs, rfl, .inl ⟨.inl (.inl h1), fun p hp => c1.newL ok1 (repL_rev h2) q hp⟩⟩
  · exact q.elim
theorem pd_rev {X : Cx} {C : Cn} {e : Expr} {m : ME} {k : Nat} {p1 p2 p3 pos : Pos} (he : PE X e (lift C m)) (hK : X.K = C.K := by rfl) : PE X (.Subscript e (.Slice none none (some (.UnaryOp .USub (.Constant (.int 1) k p1) p2)) p3) pos) (lift C (dOp1 revS m)) := (pe_revA he).weak fun _ _ _ h => by
  rw [hK]
  exact rev_ok h
theorem revS_t {l : List PyData} {Q : S → Prop} {E : Exn → Prop} : revS (.d (.tuple l)) Q E = Q (.d (.tuple l.reverse)) := propext Iff.rfl
theorem revS_l {l : List PyData} {Q : S → Prop} {E : Exn → Prop} : revS (.d (.list l)) Q E = Q (.d (.list l.reverse)) := propext Iff.rfl
end DL
namespace DL
open PySem PySem.Spec PyProof.Rows L2 LamX NdefX
/-! ### comprehensions with two sources -/
theorem SRep.flb {K : PySem.W.Frag} {T : List (Addr × Str)} {w w' : Wd} {H H' : Hp} (ok : Ok T w H) (fl : FLe w H w' H') (hb : ∀ a, w.bw a → w'.bw a) {s : S} {v : V} (no : isOwn s = false) (r : SRep K w H s v) : SRep K w' H' s v := by
  cases s with
  | d x => exact Rep.fle ok fl x v r
  | bowl =>
    obtain ⟨a, e, b⟩ := r
    exact ⟨a, e, hb a b⟩
  | own x => cases no
  | ro l =>
    obtain ⟨a, us, ea, h1, h2⟩ := r
    exact ⟨a, us, ea, RoAt.fle ok fl h1, RepL.fle ok fl l us h2⟩
  | fn u => exact ⟨r.1, r.2.trans fl⟩
  | bowls n =>
    obtain ⟨b, vs, e, f, hl, hbs⟩ := r
    exact ⟨b, vs, e, f.fle fl, hl, fun x hx => let ⟨c, e, h⟩ := hbs x hx; ⟨c, e, hb c h⟩⟩
def NoOwn (ρ : Rho) : Prop := ∀ (i : Nat) (x : PyData), ρ[i]? ≠ some (some (.own x))
theorem St.flb {K : PySem.W.Frag} {T : List (Addr × Str)} {w w' : Wd} {H H' : Hp} {ρ : Rho} {σ : L2.St} (st : St K w ρ σ H) (no : NoOwn ρ) (ok : Ok T w H) (fl : FLe w H w' H') (hb : ∀ a, w.bw a → w'.bw a) : St K w' ρ σ H' :=
  ⟨st.len, fun i s e => by
    obtain ⟨v, e1, r⟩ := st.all i s e
    refine ⟨v, e1, SRep.flb ok fl hb ?_ r⟩
    cases s with
    | own x => exact absurd e (no i x)
    | _ => rfl, fun i j x y a e1 => absurd e1 (no i x)⟩
def hideR (ρ : Rho) : Rho := ρ.map fun o => match o with
  | some (.own _) => none
  | o => o
theorem hideR_get {ρ : Rho} {i : Nat} {s : S} (h : (hideR ρ)[i]? = some (some s)) : ρ[i]? = some (some s) ∧ isOwn s = false := by
  unfold hideR at h
  rw [List.getElem?_map] at h
  cases e : ρ[i]? with
  | none => rw [e] at h; cases h
  | some o =>
    rw [e] at h
    have h := Option.some.inj h
    cases o with
    | none => cases h
    | some t =>
      cases t with
      | own x => cases h
      | _ => cases h; exact ⟨rfl, rfl⟩
theorem hideR_no (ρ : Rho) : NoOwn (hideR ρ) := fun i x e => by cases (hideR_get e).2
theorem St.hide {K : PySem.W.Frag} {w : Wd} {ρ : Rho} {σ : L2.St} {H : Hp} (h : St K w ρ σ H) : St K w (hideR ρ) σ H :=
  ⟨by unfold hideR; rw [List.length_map]; exact h.len, fun i s e => h.all i s (hideR_get e).1, fun i j x y a e1 => absurd e1 (hideR_no ρ i x)⟩
theorem NoOwn.wipe {ρ : Rho} (h : NoOwn ρ) (vs : List Nat) : NoOwn (wipeR ρ vs) := fun i x e => h i x (wipeR_some e).1
theorem Sets.no {K : PySem.W.Frag} {w : Wd} {H : Hp} {ix : Nat → Prop} {ρ ρ' : Rho} {σ σ' : L2.St} (s : Sets K w H ix ρ σ ρ' σ') (h : NoOwn ρ) : NoOwn ρ' := by
  induction s with
  | refl => exact h
  | set _ _ r no ih =>
    intro j x e
    rcases get_set e with ⟨_, rfl, _⟩ | ⟨_, e⟩
    · cases no
    · exact ih j x e
def comp2L (g : MG) (t : MT) (mi1 : MI) (g1 : MG) (t1 : MT) (e : ME) (vs1 : List Nat) (ρ : Rho) (Q : List D → Prop) : List S → List D → Prop
  | [], acc => Q acc
  | s :: ss, acc => g s ρ (fun ρ1 => t ρ1 (fun b => if b = true then mi1 ρ1 (fun ss1 => compL g1 t1 e (wipeR ρ1 vs1) (fun acc' => comp2L g t mi1 g1 t1 e vs1 ρ Q ss acc') ss1 acc) (fun _ => False) else comp2L g t mi1 g1 t1 e vs1 ρ Q ss acc) (fun _ => False))
def dComp2 (mi : MI) (g : MG) (t : MT) (mi1 : MI) (g1 : MG) (t1 : MT) (e : ME) (vs vs1 : List Nat) : ME := fun ρ Q E => mi ρ (fun ss => comp2L g t mi1 g1 t1 e vs1 (wipeR (hideR ρ) vs) (fun l => Q (.d (.list l))) ss []) E
theorem comp2_ok {C : Cn} {mi mi1 : MI} {wi wi1 : TI} {mg mg1 : MG} {g g1 : TG} {t t1 : MT} {e : ME} {vs vs1 : List Nat} {σ : L2.St} {H : Hp} {Q : VK} (hI : IsI C mi wi) (hG : IsG C (fun i => i ∈ vs) mg g) (hI1 : IsI C.quiet mi1 wi1) (hG1 : IsG C (fun i => i ∈ vs1) mg1 g1)
    (h : lift C (dComp2 mi mg t mi1 mg1 t1 e vs vs1) σ H Q) : tLc2 wi g (liftT C.quiet t) wi1 g1 (liftT C.quiet t1) (lift C.quiet e) vs vs1 σ H Q := by
  obtain ⟨w, ρ, Q', E', st, ok, hm, ct⟩ := h
  refine hI w ρ σ H _ _ _ st ok hm ct.ex fun w1 H1 J ss le ok1 hf good => ?_
  intro Dl hD
  -- what holds of the made list, and of what is still to come
  let P : (List D → Prop) → Wd → Hp → Prop := fun c w' H' => ∃ (acc : List D) (us : List V), Le w1 H1 w' H' ∧ Ok C.T w' H' ∧ w'.ex Dl ∧ ¬ w'.bw Dl ∧ H' Dl = some (.lst us) ∧ RepL C.K w'.ex H' acc us ∧ c acc
  have hP : ∀ {c : List D → Prop} {w' w2 : Wd} {H' H2 : Hp}, P c w' H' → Le w' H' w2 H2 → Ok C.T w2 H2 → P c w2 H2 := by
    rintro c w' w2 H' H2 ⟨acc, us, l1, ok', hex, nbw, hl, ra, hc⟩ l ok2
    exact ⟨acc, us, l1.trans l, ok2, l.ex _ hex, fun z => (l.nbw Dl z).elim nbw fun z => (by
      rw [hl] at z
      cases z), l.keep _ _ hl nbw (fun _ z => by cases z), RepL.le ok' l acc us ra, hc⟩
  refine ⟨fun i m H' => m = ss.length - i ∧ i ≤ ss.length ∧ ∃ (w' : Wd), P (fun acc => comp2L mg t mi1 mg1 t1 e vs1 (wipeR (hideR ρ) vs) (fun l => Q' (.d (.list l))) (ss.drop i) acc) w' H',
    ⟨ss.length, by simp, Nat.zero_le _, w1.add Dl, [], [], Le.add hD, ok1.add hD trivial, .inr rfl, fun z => ok1.fresh hD (w1.sub _ z), upd_same, by simp only [RepL], by simpa using hf⟩, ?_⟩
  rintro i m H' ⟨rfl, hi, w', p⟩
  obtain ⟨acc, us, l1, ok', hex, nbw, hl, ra, hc⟩ := p
  obtain ⟨hgo, hstop⟩ := good w' H' l1.fle ok'
  by_cases hlt : i < ss.length
  · have es : ss[i]? = some ss[i] := List.getElem?_eq_getElem hlt
    obtain ⟨go, yl⟩ := hgo i _ es
    rw [List.drop_eq_getElem_cons hlt] at hc
    refine .inr ⟨go, fun H2 => ∃ w2, P (fun acc => comp2L mg t mi1 mg1 t1 e vs1 (wipeR (hideR ρ) vs) (fun l => Q' (.d (.list l))) (ss.drop (i + 1)) acc) w2 H2, fun H2 ⟨w2, q⟩ => ⟨ss.length - (i + 1), by omega, rfl, hlt, w2, q⟩, fun x H'' y => ?_⟩
    obtain ⟨l3, ok3, r3⟩ := yl x H'' y
    have stw : St C.K w' (wipeR (hideR ρ) vs) (wipe σ vs) H'' := ((((st.hide.wipe vs).le ok le).le ok1 l1).le ok' l3)
    refine hG w' H'' (wipeR (hideR ρ) vs) (wipeR (hideR ρ) vs) (wipe σ vs) (wipe σ vs) _ x _ _ (.refl _ _) r3 hc fun ρ4 σ4 se q => ⟨se.wipe, ?_⟩
    have st4 : St C.quiet.K w' ρ4 σ4 H'' := se.st stw
    have no4 : NoOwn ρ4 := se.no ((hideR_no ρ).wipe vs)
    refine mk (C := C.quiet) st4 ok3 q (fun w5 b b' H5 l5 ok5 rb q5 => ?_) fun _ _ _ _ _ _ _ _ z => z.elim
    have eb : b = b' := rb
    subst eb
    have l35 := l3.trans l5
    cases b with
    | false => exact ⟨w5, hP ⟨acc, us, l1, ok', hex, nbw, hl, ra, q5⟩ l35 ok5⟩
    | true =>
      have st5 : St C.K w5 ρ4 σ4 H5 := st4.le ok3 l5
      refine hI1 w5 ρ4 σ4 H5 _ (fun _ => False) _ st5 ok5 q5 (fun _ _ _ _ _ _ _ _ z => z.elim) fun w6 H6 J1 ss1 l6 ok6 hf1 good1 => ?_
      have st6 : St C.K w6 (wipeR ρ4 vs1) (wipe σ4 vs1) H6 := (st5.le ok5 l6).wipe vs1
      have no6 := no4.wipe vs1
      refine ⟨fun j k H7 => k = ss1.length - j ∧ j ≤ ss1.length ∧ ∃ w7, FLe w6 H6 w7 H7 ∧ (∀ a, w6.bw a → w7.bw a) ∧ P (fun acc => compL mg1 t1 e (wipeR ρ4 vs1) (fun acc' => comp2L mg t mi1 mg1 t1 e vs1 (wipeR (hideR ρ) vs) (fun l => Q' (.d (.list l))) (ss.drop (i + 1)) acc') (ss1.drop j) acc) w7 H7,
        ⟨ss1.length, by simp, Nat.zero_le _, w6, FLe.refl _ _, fun _ h => h, hP ⟨acc, us, l1, ok', hex, nbw, hl, ra, by simpa using hf1⟩ (l35.trans l6) ok6⟩, ?_⟩
      rintro j k H7 ⟨rfl, hj, w7, f7, b7, p7⟩
      obtain ⟨acc7, us7, l7, ok7, hex7, nbw7, hl7, ra7, hc7⟩ := p7
      obtain ⟨hgo7, hstop7⟩ := good1 w7 H7 f7 ok7
      by_cases hlt7 : j < ss1.length
      · have es7 : ss1[j]? = some ss1[j] := List.getElem?_eq_getElem hlt7
        obtain ⟨go7, yl7⟩ := hgo7 j _ es7
        rw [List.drop_eq_getElem_cons hlt7] at hc7
        let c1 : List D → Prop := fun acc => compL mg1 t1 e (wipeR ρ4 vs1) (fun acc' => comp2L mg t mi1 mg1 t1 e vs1 (wipeR (hideR ρ) vs) (fun l => Q' (.d (.list l))) (ss.drop (i + 1)) acc') (ss1.drop (j + 1)) acc
        refine .inr ⟨go7, fun H8 => ∃ w8, FLe w6 H6 w8 H8 ∧ (∀ a, w6.bw a → w8.bw a) ∧ P c1 w8 H8, fun H8 ⟨w8, q⟩ => ⟨ss1.length - (j + 1), by omega, rfl, hlt7, w8, q⟩, fun x2 H8 y8 => ?_⟩
        obtain ⟨l8, ok8, r8⟩ := yl7 x2 H8 y8
        have st8 : St C.K w7 (wipeR ρ4 vs1) (wipe σ4 vs1) H8 := (st6.flb no6 ok6 f7 b7).le ok7 l8
        refine hG1 w7 H8 (wipeR ρ4 vs1) (wipeR ρ4 vs1) (wipe σ4 vs1) (wipe σ4 vs1) _ x2 _ _ (.refl _ _) r8 hc7 fun ρ9 σ9 se9 q9 => ⟨se9.wipe, ?_⟩
        have st9 : St C.quiet.K w7 ρ9 σ9 H8 := se9.st st8
        refine mk (C := C.quiet) st9 ok8 q9 (fun wa b2 b2' Ha la oka rb2 qa => ?_) fun _ _ _ _ _ _ _ _ z => z.elim
        have eb2 : b2 = b2' := rb2
        subst eb2
        have l8a := l8.trans la
        cases b2 with
        | false => exact ⟨wa, f7.trans l8a.fle, fun a h => l8a.bw a (b7 a h), hP (c := c1) ⟨acc7, us7, l7, ok7, hex7, nbw7, hl7, ra7, qa⟩ l8a oka⟩
        | true =>
          refine mk (C := C.quiet) (st9.le ok8 la) oka qa (fun wb s v Hb lb okb rs qb => ?_) fun _ _ _ _ _ _ _ _ z => z.elim
          obtain ⟨d, rfl, hz, qb⟩ := onD_of qb
          have l8b := l8a.trans lb
          obtain ⟨acc9, us9, ll, okk, d1, d2, d3, rr, e9⟩ := hP (c := fun a => a = acc7) ⟨acc7, us7, l7, ok7, hex7, nbw7, hl7, ra7, rfl⟩ l8b okb
          subst e9
          refine ⟨us9, d3, by rw [rr.length]; exact hz, wb, ?_, fun a h => l8b.bw a (b7 a h), acc9 ++ [d], us9 ++ [v], ?_, ?_, d1, d2, upd_same, ?_, qb⟩
          · have f8 := f7.trans l8b.fle
            refine f8.trans ⟨fun a o e n _ => by rw [upd_ne (show a ≠ Dl from fun z => n (by rw [z]; exact d1))]; exact e, fun a z => .inl z, fun a z => ?_⟩
            unfold L2.upd at z
            split at z
            · cases z
            · exact z
          · have nb : ∀ b o, H1 b = some o → b ≠ Dl := fun b o e z => by rw [z, hD] at e; cases e
            refine ⟨ll.ex, ll.bw, ll.new, ll.nbw, fun b o e n nt => by rw [upd_ne (nb b o e)]; exact ll.keep b o e n nt, fun b z => ll.non b ?_⟩
            unfold L2.upd at z
            split at z
            · cases z
            · exact z
          · refine ⟨fun b z => ?_, fun b z => ?_, tabs_upd okb.tabs ⟨_, d3, trivial⟩⟩
            · by_cases eb : b = Dl
              · subst eb; exact ⟨_, upd_same, trivial⟩
              · rw [upd_ne eb]; exact okb.al b z
            · obtain ⟨p, q, r, e⟩ := okb.bowl b z
              exact ⟨p, q, r, by rw [upd_ne (show b ≠ Dl from fun hb => d2 (by rw [← hb]; exact z))]; exact e⟩
          · exact repL_app (Rep.upd ⟨_, d3, trivial⟩ d1 d v rs) (RepL.upd ⟨_, d3, trivial⟩ d1 acc9 us9 rr)
      · have ej : j = ss1.length := by omega
        subst ej
        rw [List.drop_length] at hc7
        exact .inl ⟨hstop7, w7, acc7, us7, l7, ok7, hex7, nbw7, hl7, ra7, hc7⟩
  · have ei : i = ss.length := by omega
    subst ei
    rw [List.drop_length] at hc
    refine .inl ⟨hstop, ?_⟩
    have lt := le.trans l1
    refine ct.ok (w'.drop Dl nbw) (.d (.list acc)) (.ref Dl) H' ?_ (ok'.drop nbw) ?_ hc
    · exact Le.drop nbw lt fun b z e => by
        subst e
        exact ok1.fresh hD (le.ex b z)
    · exact OwnAt.freeze (l := acc) nbw ⟨us, hl, ra⟩
section
variable {X : Cx} {C : Cn} {elt iter iter1 : Expr} {m : ME} {pos : Pos} {w0 : Wd} {H0 : Hp}
theorem pd_comp2 {tg tg1 : Expr} {ifs ifs1 : List Expr} {scope : Scope} {own : List (Str × Nat)} {vs1 : List Nat} {wi wi1 : TI} {g g1 : TG} {mi mi1 : MI} {mg mg1 : MG} {t t1 : MT} (hc : X.calm = true) (hN : X.N.Nodup) (hI : IsI C mi wi) (hi : PI X tg iter wi) (ok : BlkOk X.N X.env.scope scope own) (hv : ∀ i ∈ vs1, i ∈ own.map (·.2)) (hG : IsG C (fun i => i ∈ own.map (·.2)) mg g) (hI1 : IsI C.quiet mi1 wi1) (hG1 : IsG C (fun i => i ∈ vs1) mg1 g1)
    (hg : ∀ (s : Shared) (H : Hp) (L : Addr) (cl : List (Str × Addr)) (fp : List Addr), PG (X.blk s H scope (compEnvC scope cl L X.env) fp) tg g) (ht : ∀ (s : Shared) (H : Hp) (L : Addr) (cl : List (Str × Addr)) (fp : List Addr), PTs (X.blk s H scope (compEnvC scope cl L X.env) fp) ifs (liftT C.quiet t))
    (hi1 : ∀ (s : Shared) (H : Hp) (L : Addr) (cl : List (Str × Addr)) (fp : List Addr), PI (X.blk s H scope (compEnvC scope cl L X.env) fp) tg1 iter1 wi1)
    (hg1 : ∀ (s : Shared) (H : Hp) (L : Addr) (cl : List (Str × Addr)) (fp : List Addr), PG (X.blk s H scope (compEnvC scope cl L X.env) fp) tg1 g1) (ht1 : ∀ (s : Shared) (H : Hp) (L : Addr) (cl : List (Str × Addr)) (fp : List Addr), PTs (X.blk s H scope (compEnvC scope cl L X.env) fp) ifs1 (liftT C.quiet t1))
    (he : ∀ (s : Shared) (H : Hp) (L : Addr) (cl : List (Str × Addr)) (fp : List Addr), PE (X.blk s H scope (compEnvC scope cl L X.env) fp) elt (lift C.quiet m)) (hs : ∀ x, foldedSetIterable iter X.env x = pure x := by intro _; rfl) (hs1 : ∀ env x, foldedSetIterable iter1 env x = pure x := by intro _ _; rfl) :
    PE X (.ListComp elt [⟨tg, iter, ifs, 0⟩, ⟨tg1, iter1, ifs1, 0⟩] scope pos) (lift C (dComp2 mi mg t mi1 mg1 t1 m (own.map (·.2)) vs1)) := (pe_lc2 hc hN hi ok hv hg ht hi1 hg1 ht1 he hs hs1).weak fun _ _ _ h => comp2_ok hI hG hI1 hG1 h
theorem psd_setLc2 (i : Nat) {y : Str} {py : Pos} {tg tg1 : Expr} {ifs ifs1 : List Expr} {scope : Scope} {own : List (Str × Nat)} {vs1 : List Nat} {spos : Pos} {wi wi1 : TI} {g g1 : TG} {mi mi1 : MI} {mg mg1 : MG} {t t1 : MT} (hc : X.calm = true) (hN : X.N.Nodup) (hsw : swapsWith (.ListComp elt [⟨tg, iter, ifs, 0⟩, ⟨tg1, iter1, ifs1, 0⟩] scope pos) (some (.Name y py)) spos.line X.env = pure true) (hI : IsI C mi wi) (hi : PI X tg iter wi) (ok : BlkOk X.N X.env.scope scope own) (hv : ∀ i ∈ vs1, i ∈ own.map (·.2)) (hG : IsG C (fun i => i ∈ own.map (·.2)) mg g) (hI1 : IsI C.quiet mi1 wi1) (hG1 : IsG C (fun i => i ∈ vs1) mg1 g1)
    (hg : ∀ (s : Shared) (H : Hp) (L : Addr) (cl : List (Str × Addr)) (fp : List Addr), PG (X.blk s H scope (compEnvC scope cl L X.env) fp) tg g) (ht : ∀ (s : Shared) (H : Hp) (L : Addr) (cl : List (Str × Addr)) (fp : List Addr), PTs (X.blk s H scope (compEnvC scope cl L X.env) fp) ifs (liftT C.quiet t))
    (hi1 : ∀ (s : Shared) (H : Hp) (L : Addr) (cl : List (Str × Addr)) (fp : List Addr), PI (X.blk s H scope (compEnvC scope cl L X.env) fp) tg1 iter1 wi1)
    (hg1 : ∀ (s : Shared) (H : Hp) (L : Addr) (cl : List (Str × Addr)) (fp : List Addr), PG (X.blk s H scope (compEnvC scope cl L X.env) fp) tg1 g1) (ht1 : ∀ (s : Shared) (H : Hp) (L : Addr) (cl : List (Str × Addr)) (fp : List Addr), PTs (X.blk s H scope (compEnvC scope cl L X.env) fp) ifs1 (liftT C.quiet t1))
    (he : ∀ (s : Shared) (H : Hp) (L : Addr) (cl : List (Str × Addr)) (fp : List Addr), PE (X.blk s H scope (compEnvC scope cl L X.env) fp) elt (lift C.quiet m)) (hy : X.N[i]? = some y := by rfl) (hyl : X.env.scope.names.lookup y = some .local := by rfl) (hs : ∀ x, foldedSetIterable iter X.env x = pure x := by intro _; rfl) (hs1 : ∀ env x, foldedSetIterable iter1 env x = pure x := by intro _ _; rfl) :
    PS X (.Assign [.Name y py] (.ListComp elt [⟨tg, iter, ifs, 0⟩, ⟨tg1, iter1, ifs1, 0⟩] scope pos) spos) (liftS C w0 H0 (dAsg i (dComp2 mi mg t mi1 mg1 t1 m (own.map (·.2)) vs1))) := (ps_setLc2 hc hN hy hyl hsw hi ok hv hg ht hi1 hg1 ht1 he hs hs1).weak fun D σ H h => by
  obtain ⟨w, ρ, k, st, hm, ct⟩ := h
  refine comp2_ok hI hG hI1 hG1 (inS st ct hm fun w1 s v H1 l st1 ct1 r q => ?_)
  obtain ⟨no, q⟩ := plain_of q
  exact ct1.nx w1 _ _ H1 (FLe.refl _ _) (st1.set r no) q
end
theorem e_dComp2 (mi : MI) (g : MG) (t : MT) (mi1 : MI) (g1 : MG) (t1 : MT) (e : ME) (vs vs1 : List Nat) {o : Option S} {ρ : Rho} {Q : S → Prop} {E : Exn → Prop} : dComp2 mi g t mi1 g1 t1 e vs vs1 (o :: ρ) Q E = mi (o :: ρ) (fun ss => comp2L g t mi1 g1 t1 e vs1 (wipeR (hideR (o :: ρ)) vs) (fun l => Q (.d (.list l))) ss []) E := propext Iff.rfl
end DL
namespace DL
open PySem PySem.Spec PyProof.Rows L2 LamX NdefX
section
variable {X : Cx} {C : Cn} {a b e e2 : Expr} {es : List Expr} {ma mb mc m : ME} {mr : MA} {pos : Pos} {x : Str} {p : Pos}
/-! ### gcd -/
theorem pd_gcd (hm : X.mg "gcd" = some (.builtin "math.gcd")) (ha : PA X (e :: es) (liftA C mr)) (hg : Gl X "gcd" := by rfl) (he : starEach (e :: es) X.env = (false, eval e X.env) :: starEach es X.env := by rfl) (hpl : (backTo pos (starEach es X.env)).any (·.1) = false := by rfl) :
    PE X (.Call (.Name "gcd" p) (e :: es) [] pos) (lift C (dCB gcdS mr)) := pd_callBfun cr_gcd gcd_is hm hg ha (he := he) (hpl := hpl)
/-! ### list(range(..)), tuple(range(..)) -/
def rgD (a b : Int) : List D := (List.range (b - a).toNat).map fun i => .int (a + (i : Nat))
theorem rgD_rep {K : PySem.W.Frag} {ex : Addr → Prop} {H : Hp} (a b : Int) : RepL K ex H (rgD a b) (rgV a b) := by
  unfold rgD rgV
  induction List.range (b - a).toNat with
  | nil => simp only [List.map_nil, RepL]
  | cons i l ih =>
    simp only [List.map_cons, RepL]
    exact ⟨_, _, rfl, by simp only [Rep], ih⟩
def rg1S (tup : Bool) : O1 := fun x Q _ => onI x fun n => RgOk 0 n ∧ Q (.d (if tup then .tuple (rgD 0 n) else .list (rgD 0 n)))
def rg2S (tup : Bool) : O2 := fun x y Q _ => onI x fun i => onI y fun j => RgOk i j ∧ Q (.d (if tup then .tuple (rgD i j) else .list (rgD i j)))
theorem lst1_ok {σ : L2.St} {H : Hp} {Q : VK} (h : lift C (dOp1 (rg1S false) m) σ H Q) : tLstRg (tRg1 (lift C m)) σ H Q := by
  obtain ⟨w, ρ, Q', E', st, ok, hm, ct⟩ := h
  refine mk st ok hm (fun w1 s v H1 le ok1 r1 q => ?_) ct.ex
  obtain ⟨n, rfl, rfl, q⟩ := onI_of r1 q
  exact ⟨n, rfl, q.1, fun p hp => (ct.le le).newL ok1 (rgD_rep 0 n) q.2 hp⟩
theorem tup1_ok {σ : L2.St} {H : Hp} {Q : VK} (h : lift C (dOp1 (rg1S true) m) σ H Q) : tTupRg (tRg1 (lift C m)) σ H Q := by
  obtain ⟨w, ρ, Q', E', st, ok, hm, ct⟩ := h
  refine mk st ok hm (fun w1 s v H1 le ok1 r1 q => ?_) ct.ex
  obtain ⟨n, rfl, rfl, q⟩ := onI_of r1 q
  exact ⟨n, rfl, q.1, fun p hp => (ct.le le).newT ok1 (rgD_rep 0 n) q.2 hp⟩
theorem lst2_ok {σ : L2.St} {H : Hp} {Q : VK} (h : lift C (dOp2 (rg2S false) ma mb) σ H Q) : tLstRg (tRg2 (lift C ma) (lift C mb)) σ H Q := by
  obtain ⟨w, ρ, Q', E', st, ok, hm, ct⟩ := h
  refine mk st ok hm (fun w1 s v H1 le ok1 r1 q => ?_) ct.ex
  refine mk (st.le ok le) ok1 q (fun w2 t u H2 le2 ok2 r2 q2 => ?_) (ct.le le).ex
  obtain ⟨i, rfl, rfl, qa⟩ := onI_of (r1.le ok1 le2) q2
  obtain ⟨j, rfl, rfl, qb⟩ := onI_of r2 qa
  exact ⟨i, j, rfl, rfl, qb.1, fun p hp => ((ct.le le).le le2).newL ok2 (rgD_rep i j) qb.2 hp⟩
theorem tup2_ok {σ : L2.St} {H : Hp} {Q : VK} (h : lift C (dOp2 (rg2S true) ma mb) σ H Q) : tTupRg (tRg2 (lift C ma) (lift C mb)) σ H Q := by
  obtain ⟨w, ρ, Q', E', st, ok, hm, ct⟩ := h
  refine mk st ok hm (fun w1 s v H1 le ok1 r1 q => ?_) ct.ex
  refine mk (st.le ok le) ok1 q (fun w2 t u H2 le2 ok2 r2 q2 => ?_) (ct.le le).ex
  obtain ⟨i, rfl, rfl, qa⟩ := onI_of (r1.le ok1 le2) q2
  obtain ⟨j, rfl, rfl, qb⟩ := onI_of r2 qa
  exact ⟨i, j, rfl, rfl, qb.1, fun p hp => ((ct.le le).le le2).newT ok2 (rgD_rep i j) qb.2 hp⟩
variable {p1 pos1 : Pos}
theorem pd_lstRg1 (hc : X.calm = true) (hm : X.mg "list" = none) (hm2 : X.mg "range" = none) (ha : PE X a (lift C m)) (hg : Gl X "list" := by rfl) (hg2 : Gl X "range" := by rfl) (n1 : starEach [a] X.env = (false, eval a X.env) :: starEach [] X.env := by rfl)
    (n2 : starEach [.Call (.Name "range" p1) [a] [] pos1] X.env = (false, eval (.Call (.Name "range" p1) [a] [] pos1) X.env) :: starEach [] X.env := by rfl) : PE X (.Call (.Name "list" p) [.Call (.Name "range" p1) [a] [] pos1] [] pos) (lift C (dOp1 (rg1S false) m)) := (pe_listRg hc hg hm (prg_1 hg2 hm2 ha n1) n2).weak fun _ _ _ h => lst1_ok h
theorem pd_tupRg1 (hc : X.calm = true) (hm : X.mg "tuple" = none) (hm2 : X.mg "range" = none) (ha : PE X a (lift C m)) (hg : Gl X "tuple" := by rfl) (hg2 : Gl X "range" := by rfl) (n1 : starEach [a] X.env = (false, eval a X.env) :: starEach [] X.env := by rfl)
    (n2 : starEach [.Call (.Name "range" p1) [a] [] pos1] X.env = (false, eval (.Call (.Name "range" p1) [a] [] pos1) X.env) :: starEach [] X.env := by rfl) : PE X (.Call (.Name "tuple" p) [.Call (.Name "range" p1) [a] [] pos1] [] pos) (lift C (dOp1 (rg1S true) m)) := (pe_tupRg hc hg hm (prg_1 hg2 hm2 ha n1) n2).weak fun _ _ _ h => tup1_ok h
theorem pd_lstRg2 (hc : X.calm = true) (hm : X.mg "list" = none) (hm2 : X.mg "range" = none) (ha : PE X a (lift C ma)) (hb : PE X b (lift C mb)) (hg : Gl X "list" := by rfl) (hg2 : Gl X "range" := by rfl) (n1 : starEach [a, b] X.env = (false, eval a X.env) :: starEach [b] X.env := by rfl) (nb : starEach [b] X.env = (false, eval b X.env) :: starEach [] X.env := by rfl) (hp : (backTo pos1 (starEach [b] X.env)).any (·.1) = false := by rfl)
    (n2 : starEach [.Call (.Name "range" p1) [a, b] [] pos1] X.env = (false, eval (.Call (.Name "range" p1) [a, b] [] pos1) X.env) :: starEach [] X.env := by rfl) : PE X (.Call (.Name "list" p) [.Call (.Name "range" p1) [a, b] [] pos1] [] pos) (lift C (dOp2 (rg2S false) ma mb)) := (pe_listRg hc hg hm (prg_2 hg2 hm2 ha hb n1 nb hp) n2).weak fun _ _ _ h => lst2_ok h
theorem pd_tupRg2 (hc : X.calm = true) (hm : X.mg "tuple" = none) (hm2 : X.mg "range" = none) (ha : PE X a (lift C ma)) (hb : PE X b (lift C mb)) (hg : Gl X "tuple" := by rfl) (hg2 : Gl X "range" := by rfl) (n1 : starEach [a, b] X.env = (false, eval a X.env) :: starEach [b] X.env := by rfl) (nb : starEach [b] X.env = (false, eval b X.env) :: starEach [] X.env := by rfl) (hp : (backTo pos1 (starEach [b] X.env)).any (·.1) = false := by rfl)
    (n2 : starEach [.Call (.Name "range" p1) [a, b] [] pos1] X.env = (false, eval (.Call (.Name "range" p1) [a, b] [] pos1) X.env) :: starEach [] X.env := by rfl) : PE X (.Call (.Name "tuple" p) [.Call (.Name "range" p1) [a, b] [] pos1] [] pos) (lift C (dOp2 (rg2S true) ma mb)) := (pe_tupRg hc hg hm (prg_2 hg2 hm2 ha hb n1 nb hp) n2).weak fun _ _ _ h => tup2_ok h
/-! ### three names at once -/
variable {w0 : Wd} {H0 : Hp}
def dPar3 (i j l : Nat) (a b c : ME) : MS := fun ρ k => a ρ (fun s => b ρ (fun t => c ρ (fun u => plain s (plain t (plain u (k.nx (((ρ.set i (some s)).set j (some t)).set l (some u)))))) (k.ex ρ)) (k.ex ρ)) (k.ex ρ)
theorem par3_ok {σ : L2.St} {H : Hp} {D : Ends} {i j l : Nat} (h : liftS C w0 H0 (dPar3 i j l ma mb mc) D σ H) : L2.tPar3 i j l (tCons (lift C ma) (tCons (lift C mb) (tCons (lift C mc) tNil))) D σ H := by
  obtain ⟨w, ρ, k, st, hm, ct⟩ := h
  refine inS st ct hm fun w1 s v H1 l1 st1 ct1 r q => ?_
  refine inS st1 ct1 q fun w2 t u H2 l2 st2 ct2 r2 q2 => ?_
  refine inS st2 ct2 q2 fun w3 t3 u3 H3 l3 st3 ct3 r3 q3 => ?_
  obtain ⟨n1, q3⟩ := plain_of q3
  obtain ⟨n2, q3⟩ := plain_of q3
  obtain ⟨n3, q3⟩ := plain_of q3
  exact ⟨v, u, u3, rfl, ct3.nx w3 _ _ H3 (FLe.refl _ _) (((st3.set ((r.le st1.ok l2).le st2.ok l3) n1).set (r2.le st2.ok l3) n2).set r3 n3) q3⟩
theorem psd_par3 (i j l : Nat) {c : Expr} {y z v : Str} {px py pz pt pt2 : Pos} {kt k2 : Nat} (hc : X.calm = true) (hN : X.N.Nodup) (ha : PE X a (lift C ma)) (hb : PE X b (lift C mb)) (hcc : PE X c (lift C mc)) (hi : X.N[i]? = some y := by rfl) (hj : X.N[j]? = some z := by rfl) (hl : X.N[l]? = some v := by rfl) (hij : i ≠ j := by decide) (hil : i ≠ l := by decide) (hjl : j ≠ l := by decide)
    (hx : X.env.scope.names.lookup y = some .local := by rfl) (hy : X.env.scope.names.lookup z = some .local := by rfl) (hz : X.env.scope.names.lookup v = some .local := by rfl) (hw : swappedStores [.Tuple [.Name y px, .Name z py, .Name v pz] kt pt] (.Tuple [a, b, c] k2 pt2) X.env = pure (some [y, z, v]) := by rfl)
    (hs : swapsWithSole [.Tuple [.Name y px, .Name z py, .Name v pz] kt pt] (.Tuple [a, b, c] k2 pt2) pos.line X.env = pure false := by rfl) (h1 : starEach (a :: [b, c]) X.env = (false, eval a X.env) :: starEach [b, c] X.env := by rfl) (h2 : starEach (b :: [c]) X.env = (false, eval b X.env) :: starEach [c] X.env := by rfl) (h3 : starEach (c :: []) X.env = (false, eval c X.env) :: starEach [] X.env := by rfl) :
    PS X (.Assign [.Tuple [.Name y px, .Name z py, .Name v pz] kt pt] (.Tuple [a, b, c] k2 pt2) pos) (liftS C w0 H0 (dPar3 i j l ma mb mc)) := (ps_par3 hc hN hi hj hl hij hil hjl hx hy hz (pa_cons ha (pa_cons hb (pa_cons hcc pa_nil h3) h2) h1) hw hs).weak fun _ _ _ h => par3_ok h
end
theorem e_dPar3 (i j l : Nat) (a b c : ME) {o : Option S} {ρ : Rho} {k : Kt} : dPar3 i j l a b c (o :: ρ) k = a (o :: ρ) (fun s => b (o :: ρ) (fun t => c (o :: ρ) (fun u => plain s (plain t (plain u (k.nx ((((o :: ρ).set i (some s)).set j (some t)).set l (some u)))))) (k.ex (o :: ρ))) (k.ex (o :: ρ))) (k.ex (o :: ρ)) := propext Iff.rfl
theorem rg1S_t {n : Int} {Q : S → Prop} {E : Exn → Prop} : rg1S true (.d (.int n)) Q E = (RgOk 0 n ∧ Q (.d (.tuple (rgD 0 n)))) := propext Iff.rfl
theorem rg1S_l {n : Int} {Q : S → Prop} {E : Exn → Prop} : rg1S false (.d (.int n)) Q E = (RgOk 0 n ∧ Q (.d (.list (rgD 0 n)))) := propext Iff.rfl
theorem rg2S_t {i n : Int} {Q : S → Prop} {E : Exn → Prop} : rg2S true (.d (.int i)) (.d (.int n)) Q E = (RgOk i n ∧ Q (.d (.tuple (rgD i n)))) := propext Iff.rfl
theorem rg2S_l {i n : Int} {Q : S → Prop} {E : Exn → Prop} : rg2S false (.d (.int i)) (.d (.int n)) Q E = (RgOk i n ∧ Q (.d (.list (rgD i n)))) := propext Iff.rfl
/-! ### zip: two lists, or two tuples, that stand still -/
def zipS (l m : List D) : List S := List.zipWith (fun d e => S.d (.tuple [d, e])) l m
theorem zipS_get {l m : List PyData} {i : Nat} {s : S} (h : (zipS l m)[i]? = some s) : ∃ d e, l[i]? = some d ∧ m[i]? = some e ∧ s = .d (.tuple [d, e]) := by
  unfold zipS at h
  rw [List.getElem?_zipWith_eq_some] at h
  obtain ⟨x, y, h1, h2, h3⟩ := h
  exact ⟨x, y, h1, h2, h3.symm⟩
theorem zipS_len (l m : List PyData) : (zipS l m).length = min l.length m.length := by unfold zipS; rw [List.length_zipWith]
def dZip (ma : MA) : MI := fun ρ F E => ma ρ (fun ss => match ss with
  | [.d (.list l), .d (.list m)] => F (zipS l m)
  | [.d (.tuple l), .d (.tuple m)] => F (zipS l m)
  | _ => False) E
theorem good_zipL {C : Cn} {w : Wd} {H : Hp} {a b : Addr} {l m : List D} {vs us : List V} (ok : Ok C.T w H) (h1 : Fz w.ex H a vs) (h2 : Fz w.ex H b us) (r : RepL C.K w.ex H l vs) (r2 : RepL C.K w.ex H m us) : Good C (Itz C.K a b) (zipS l m) w H := fun w' H' fl ok' => by
  have q1 : SqL C.K H' a vs := .inl (.inl (Fz.fle fl h1).1)
  have q2 : SqL C.K H' b us := .inl (.inl (Fz.fle fl h2).1)
  have r' := RepL.fle ok fl l vs r
  have r2' := RepL.fle ok fl m us r2
  refine ⟨fun i s e => ?_, ⟨vs, us, q1, q2, by rw [r.length, r2.length, zipS_len]; omega⟩⟩
  obtain ⟨d, e, hd, he, rfl⟩ := zipS_get e
  obtain ⟨v, hv, rv⟩ := repL_get r' hd
  obtain ⟨u, hu, ru⟩ := repL_get r2' he
  refine ⟨⟨vs, us, v, u, q1, q2, hv, hu⟩, fun x H'' y => ?_⟩
  obtain ⟨T, x1, x2, rfl, n, rfl, f1, f2⟩ := y
  have e1 := f1 vs q1
  have e2 := f2 us q2
  rw [hv] at e1
  rw [hu] at e2
  cases e1
  cases e2
  exact good_pair ok' n rv ru
theorem good_zipT {C : Cn} {w : Wd} {H : Hp} {a b : Addr} {l m : List D} {vs us : List V} (ok : Ok C.T w H) (h1 : SqT C.K H a vs) (h2 : SqT C.K H b us) (r : RepL C.K w.ex H l vs) (r2 : RepL C.K w.ex H m us) : Good C (RZ.ItzT C.K a b) (zipS l m) w H := fun w' H' fl ok' => by
  have q1 := SqT.fle ok fl h1
  have q2 := SqT.fle ok fl h2
  have r' := RepL.fle ok fl l vs r
  have r2' := RepL.fle ok fl m us r2
  refine ⟨fun i s e => ?_, ⟨vs, us, q1, q2, by rw [r.length, r2.length, zipS_len]; omega⟩⟩
  obtain ⟨d, e, hd, he, rfl⟩ := zipS_get e
  obtain ⟨v, hv, rv⟩ := repL_get r' hd
  obtain ⟨u, hu, ru⟩ := repL_get r2' he
  refine ⟨⟨vs, us, v, u, q1, q2, hv, hu⟩, fun x H'' y => ?_⟩
  obtain ⟨T, x1, x2, rfl, n, rfl, f1, f2⟩ := y
  have e1 := f1 vs q1
  have e2 := f2 us q2
  rw [hv] at e1
  rw [hu] at e2
  cases e1
  cases e2
  exact good_pair ok' n rv ru
theorem zip_ok {C : Cn} {ma : MA} : IsI C (dZip ma) (RZ.iZipA C.K (liftA C ma)) := fun w ρ σ H F E' R st ok hm hx hk => by
  refine mk st ok hm (fun w1 ss vs H1 le ok1 r q => ?_) hx
  split at q
  · rename_i l m
    cases r with
    | cons r1 r =>
      cases r with
      | cons r2 r =>
        cases r
        simp only [SRep, Rep] at r1 r2
        obtain ⟨a, vs, rfl, fz, h2⟩ := r1
        obtain ⟨b, us, rfl, fz2, g2⟩ := r2
        exact ⟨a, b, vs, us, rfl, .inl ⟨.inl (.inl fz.1), .inl (.inl fz2.1), hk w1 H1 _ _ le ok1 q (good_zipL ok1 fz fz2 h2 g2)⟩⟩
  · rename_i l m
    cases r with
    | cons r1 r =>
      cases r with
      | cons r2 r =>
        cases r
        simp only [SRep, Rep] at r1 r2
        obtain ⟨a, vs, rfl, fz, h2⟩ := r1
        obtain ⟨b, us, rfl, fz2, g2⟩ := r2
        exact ⟨a, b, vs, us, rfl, .inr ⟨fz, fz2, hk w1 H1 _ _ le ok1 q (good_zipT ok1 fz fz2 h2 g2)⟩⟩
  · exact q.elim
theorem pi_zipD {X : Cx} {C : Cn} {e e2 : Expr} {mr : MA} {p pos tpos : Pos} {elts : List Expr} {kk : Nat} (hm : X.mg "zip" = none) (ha : PA X [e, e2] (liftA C mr)) (hg : Gl X "zip" := by rfl) (hs : starEach [e, e2] X.env = (false, eval e X.env) :: starEach [e2] X.env := by rfl) (hpl : (backTo pos (starEach [e2] X.env)).any (·.1) = false := by rfl) :
    PI X (.Tuple elts kk tpos) (.Call (.Name "zip" p) [e, e2] [] pos) (RZ.iZipA X.K (liftA C mr)) := RZ.pi_zipA hg hm ha hs hpl
theorem e_dZip (ma : MA) {o : Option S} {ρ : Rho} {Q : List S → Prop} {E : Exn → Prop} : dZip ma (o :: ρ) Q E = ma (o :: ρ) (fun ss => match ss with
  | [.d (.list l), .d (.list m)] => Q (zipS l m)
  | [.d (.tuple l), .d (.tuple m)] => Q (zipS l m)
  | _ => False) E := propext Iff.rfl
theorem ixS_at {l : List PyData} {i : Int} {d : PyData} {Q : S → Prop} {E : Exn → Prop} (h : atI l i = some d) : ixS (.d (.tuple l)) (.d (.int i)) Q E = Q (.d d) := by
  unfold ixS
  rw [onSq_t, onI_i, h]
theorem ixS_atL {l : List PyData} {i : Int} {d : PyData} {Q : S → Prop} {E : Exn → Prop} (h : atI l i = some d) : ixS (.d (.list l)) (.d (.int i)) Q E = Q (.d d) := by
  unfold ixS
  rw [onSq_l, onI_i, h]
theorem ixS_t0 {x : PyData} {l : List PyData} {Q : S → Prop} {E : Exn → Prop} : ixS (.d (.tuple (x :: l))) (.d (.int 0)) Q E = Q (.d x) := ixS_at (atI_nat (j := 0) rfl)
theorem ixS_t1 {x y : PyData} {l : List PyData} {Q : S → Prop} {E : Exn → Prop} : ixS (.d (.tuple (x :: y :: l))) (.d (.int 1)) Q E = Q (.d y) := ixS_at (atI_nat (j := 1) rfl)
theorem onBs_tt {P : List Bool → Prop} : onBs [.bool true, .bool true] P = P [true, true] := propext Iff.rfl
end DL
namespace DL
open PySem PySem.Spec PyProof.Rows L2 LamX NdefX
open AutoSeq1 (wpAny_loadPart')
theorem tuple_mul1 (l : Addr) (items : Array Value) (n : Nat) (dd : Option Addr) (sl : Array (Option Value)) (u : Tok) :
    Meets (Builtin.«tuple.__mul__» ⟨[.ref l, .int 1 u], []⟩) (fun _ R s => s.heap.get? l = some { cls := .type "tuple", dict := dd, data := .seq items n, slots := sl } ∧ R (.ok (.ret (Value.ref l))) s) :=
  .of_wp fun prog w A R s h => by
    obtain ⟨hp, g, d, tk, os⟩ := s
    obtain ⟨hl, h⟩ := h
    have f1 := AutoSeq1.idx_int
    have c1 : (items.isEmpty || (1 : Int) == 1) = true := by simp
    wp_walk using wpAny_loadPart' hl
    exact ⟨_, rfl, h⟩
theorem tuple_mul0 (l : Addr) (items : Array Value) (n : Nat) (dd : Option Addr) (sl : Array (Option Value)) (x : Int) (u : Tok) (c0 : (decide (x < -(2 ^ 63)) || decide (x ≥ 2 ^ 63)) = false) (c1 : (items.isEmpty || x == 1) = false) (c2 : (decide (x ≤ 0) || items.isEmpty) = true) :
    Meets (Builtin.«tuple.__mul__» ⟨[.ref l, .int x u], []⟩) (fun _ R s => s.heap.get? l = some { cls := .type "tuple", dict := dd, data := .seq items n, slots := sl } ∧
      R (.ok (.ret (Value.ref s.heap.objs.size))) { s with heap := s.heap.push { cls := Value.type "tuple", data := Data.seq #[] }, toks := s.toks }) :=
  .of_wp fun prog w A R s h => by
    obtain ⟨hp, g, d, tk, os⟩ := s
    obtain ⟨hl, h⟩ := h
    have f1 := AutoSeq1.idx_int
    wp_walk using wpAny_loadPart' hl
    repeat (first
      | (refine wpAny_ite_false (decide_eq_false (by rw [c0]; exact Bool.false_ne_true)) ?_; wp_walk using wpAny_loadPart' hl)
      | (refine wpAny_ite_false (decide_eq_false (by rw [c1]; exact Bool.false_ne_true)) ?_; wp_walk using wpAny_loadPart' hl))
    exact ⟨_, rfl, h⟩
def rRepT1 (K : PySem.W.Frag) : R2 := fun x y H Q => ∃ l xs, x = .ref l ∧ y = .int 1 ∧ SqT K H l xs ∧ Q (.ref l) H
theorem op_repT1 {X : Cx} : OpR X (binaryOp .Mult) (rRepT1 X.K) := by
  intro pins s σ H x y v u Q I rx ry h
  obtain ⟨l, xs, rfl, rfl, hT, q⟩ := h
  cases rx
  obtain ⟨t, rfl⟩ := ry
  obtain ⟨its, r, ⟨⟨cls, dd, data, sl⟩, ho, hc, n, hd⟩, hs⟩ := I.tuple hT
  simp only at hc hd
  subst hc hd
  refine wpAny_binaryOp_repeat_ref (T := "tuple") (U := "int") (by decide) ⟨_, ho, rfl⟩ (fun s' => typeIs_int s' 1 t) noFill_tuple_mul F.fills_int_mul F.slot_int_rmul repeat_tuple F.slot_int_index.lookup
    (call_meets F.slot_int_rmul (typeIs_int s 1 t) F.entry_int_rmul (F.args_int_rmul_2 _ _) (int_rmul_tuple 1 t l its.toArray n dd sl)
      ⟨ho, rfl, ⟨_, ho, rfl⟩, call_meets F.slot_tuple_mul ⟨_, ho, rfl⟩ F.entry_tuple_mul (F.args_tuple_mul_2 _ _) (tuple_mul1 l its.toArray n dd sl t) ⟨ho, ?_⟩⟩)
  exact ⟨.ref l, H, I, rfl, q⟩
def rRepT0 (K : PySem.W.Frag) : R2 := fun x y H Q => ∃ l xs, x = .ref l ∧ y = .int 0 ∧ SqT K H l xs ∧ xs ≠ [] ∧ ∀ p, H p = none → Q (.ref p) (upd H p (.tup []))
theorem op_repT0 {X : Cx} : OpR X (binaryOp .Mult) (rRepT0 X.K) := by
  intro pins s σ H x y v u Q I rx ry h
  obtain ⟨l, xs, rfl, rfl, hT, hne, q⟩ := h
  cases rx
  obtain ⟨t, rfl⟩ := ry
  obtain ⟨its, r, ⟨⟨cls, dd, data, sl⟩, ho, hc, n, hd⟩, hs⟩ := I.tuple hT
  simp only at hc hd
  subst hc hd
  have hle : its.length = xs.length := r.length.symm
  have hn : its ≠ [] := fun e => hne (by
    rw [e] at hle
    exact List.eq_nil_of_length_eq_zero hle.symm)
  have hi : its.toArray.isEmpty = false := by
    cases its with
    | nil => exact absurd rfl hn
    | cons a b => rfl
  have c0 : (decide ((0 : Int) < -(2 ^ 63)) || decide ((0 : Int) ≥ 2 ^ 63)) = false := by decide
  have c1 : (its.toArray.isEmpty || (0 : Int) == 1) = false := by
    rw [hi, Bool.false_or]
    decide
  have c2 : (decide ((0 : Int) ≤ 0) || its.toArray.isEmpty) = true := by
    rw [hi, Bool.or_false]
    decide
  refine wpAny_binaryOp_repeat_ref (T := "tuple") (U := "int") (by decide) ⟨_, ho, rfl⟩ (fun s' => typeIs_int s' 0 t) noFill_tuple_mul F.fills_int_mul F.slot_int_rmul repeat_tuple F.slot_int_index.lookup
    (call_meets F.slot_int_rmul (typeIs_int s 0 t) F.entry_int_rmul (F.args_int_rmul_2 _ _) (int_rmul_tuple 0 t l its.toArray n dd sl)
      ⟨ho, rfl, ⟨_, ho, rfl⟩, call_meets F.slot_tuple_mul ⟨_, ho, rfl⟩ F.entry_tuple_mul (F.args_tuple_mul_2 _ _) (tuple_mul0 l its.toArray n dd sl 0 t c0 c1 c2) ⟨ho, ?_⟩⟩)
  refine ⟨.ref s.heap.objs.size, _, I.laid (t' := s.toks) (o := .tup []) (fun b ob q => Heap.get?_push_of_some _ q) (Nat.le_refl _) ?_, rfl, q _ (I.hok.fresh (Nat.le_refl _))⟩
  exact ⟨Nat.zero_le _, [], .nil, IsTup.new _ _⟩
/-- a tuple or a list, so many times -/
def repS : O2 := fun x y Q _ => match x, y with
  | .d (.tuple l), .d (.int k) => l ≠ [] ∧ 0 ≤ k ∧ k ≤ 1000 ∧ l.length ≤ 1000 ∧ Q (.d (.tuple (List.replicate k.toNat l).flatten))
  | .d (.list l), .d (.int k) => 0 ≤ k ∧ k ≤ 1000 ∧ l.length ≤ 1000 ∧ Q (.d (.list (List.replicate k.toNat l).flatten))
  | _, _ => False
def rRepA (K : PySem.W.Frag) : R2 := fun x y H Q => (rRepT1 K x y H Q ∨ rRepT K x y H Q ∨ rRepT0 K x y H Q) ∨ rRep x y H Q
theorem op_repA {X : Cx} : OpR X (binaryOp .Mult) (rRepA X.K) := (op_repT1.or (op_repT.or op_repT0)).or op_rep
theorem repL_rep {K : PySem.W.Frag} {ex : Addr → Prop} {H : Hp} {l : List PyData} {vs : List V} (r : RepL K ex H l vs) : ∀ n : Nat, RepL K ex H (List.replicate n l).flatten (List.replicate n vs).flatten
  | 0 => by simp only [List.replicate_zero, List.flatten_nil, RepL]
  | n + 1 => by
    rw [List.replicate_succ, List.replicate_succ, List.flatten_cons, List.flatten_cons]
    exact RepL.append (repL_rep r n) r
theorem rep_is {C : Cn} : Is2 C repS (rRepA C.K) := by
  intro w H σ x y v u Q' E' Q ok rx ry h ct
  unfold repS at h
  split at h
  · rename_i l k
    obtain rfl := sint ry
    have r : Rep C.K w.ex H (.tuple l) v := rx
    have rx2 := r
    simp only [Rep] at r
    obtain ⟨a, vs, rfl, h1, h2⟩ := r
    obtain ⟨hne, k0, k1, hz, q⟩ := h
    by_cases hk : k = 1
    · subst hk
      refine .inl (.inl ⟨a, vs, rfl, rfl, h1, ct.ok w (.d (.tuple l)) (.ref a) H (Le.refl _ _) ok rx2 ?_⟩)
      simpa using q
    · have hv : vs ≠ [] := fun e => by
        subst e
        have := h2.length
        exact hne (List.eq_nil_of_length_eq_zero this.symm)
      by_cases hk0 : k = 0
      · subst hk0
        refine .inl (.inr (.inr ⟨a, vs, rfl, rfl, h1, hv, fun p hp => ct.newT ok (repL_rep h2 0) q hp⟩))
      · exact .inl (.inr (.inl ⟨a, k, vs, rfl, rfl, h1, hv, by omega, k1, by rw [h2.length]; exact hz, fun p hp => ct.newT ok (repL_rep h2 _) q hp⟩))
  · rename_i l k
    obtain rfl := sint ry
    have r : Rep C.K w.ex H (.list l) v := rx
    simp only [Rep] at r
    obtain ⟨a, vs, rfl, fz, h2⟩ := r
    obtain ⟨k0, k1, hz, q⟩ := h
    refine .inr ⟨a, k, vs, rfl, rfl, fz.1, by omega, by omega, ?_, fun p hp => ct.newL ok (repL_rep h2 _) q hp⟩
    rw [h2.length]
    exact Nat.le_trans (Nat.mul_le_mul hz (show k.toNat ≤ 1000 by omega)) (by decide)
  · exact h.elim
theorem pd_rep {X : Cx} {C : Cn} {a b : Expr} {ma mb : ME} {pos : Pos} (ha : PE X a (lift C ma)) (hb : PE X b (lift C mb)) (hK : X.K = C.K := by rfl) : PE X (.BinOp a .Mult b pos) (lift C (dOp2 repS ma mb)) := pd_bin op_repA (by rw [hK]; exact rep_is) ha hb
theorem repS_t {l : List PyData} {k : Int} {Q : S → Prop} {E : Exn → Prop} : repS (.d (.tuple l)) (.d (.int k)) Q E = (l ≠ [] ∧ 0 ≤ k ∧ k ≤ 1000 ∧ l.length ≤ 1000 ∧ Q (.d (.tuple (List.replicate k.toNat l).flatten))) := propext Iff.rfl
theorem repS_l {l : List PyData} {k : Int} {Q : S → Prop} {E : Exn → Prop} : repS (.d (.list l)) (.d (.int k)) Q E = (0 ≤ k ∧ k ≤ 1000 ∧ l.length ≤ 1000 ∧ Q (.d (.list (List.replicate k.toNat l).flatten))) := propext Iff.rfl
end DL
namespace DL
open PySem PySem.Spec PyProof.Rows L2 LamX NdefX
/-! ### sorted(tuple) of ints -/
section
variable {prog : Program} {w : World} {A : Around} {E : Value → Shared → Prop} {s : Shared}
theorem collect_tuple {l : Addr} {vs : List Value} {Q : List Value → Shared → Prop} (hl : s.heap.IsTuple l vs.toArray)
    (h : Q vs { s with heap := (s.heap.push (seqObj "list" #[] 0)).update s.heap.objs.size (Obj.mapSeq (· ++ vs.toArray)) }) (hsz : vs.length ≤ sizeLine) :
    wpAny (model prog w) A (collect (.ref l)) Q E s := by
  obtain ⟨o, ho, hc, n, hd⟩ := id hl
  unfold collect
  refine wpAny_bind (wpAny_runValue (codeAny_builtin entry_proto_collect' ?_))
  show wpAny _ _ (do again (.builtin "list.__iadd__" ⟨[← newList [], .ref l], []⟩)) _ _ s
  refine wpAny_bind (wpAny_newList (wpAny_pure ⟨Code.quiet_builtin _ (by decide +kernel), codeAny_builtin entry_list_iadd' ?_⟩))
  show wpAny _ _ (Builtin.List.listExtendWith (.ref s.heap.objs.size) (.ref l) (.ref s.heap.objs.size)) _ _ { s with heap := s.heap.push (seqObj "list" #[] 0) }
  unfold Builtin.List.listExtendWith
  have ho' : (s.heap.push (seqObj "list" #[] 0)).get? l = some o := Heap.get?_push_of_some _ ho
  refine wpAny_bind (wpAny_typeOf (T := "tuple") ⟨o, ho', hc⟩ ?_)
  have ht : (Value.type "tuple" == Value.type "tuple") = true := by rfl
  rw [if_pos (by rw [ht]; simp)]
  refine wpAny_bind (listItems_at ho' hd ?_)
  refine wpAny_bind (listItems_at (xs := #[]) (n := 0) (Heap.get?_push_size _ rfl) rfl ?_)
  rw [if_neg (by simp)]
  refine wpAny_bind (listUpdate_at (xs := #[]) (n := 0) (Heap.get?_push_size _ rfl) rfl ?_ (Nat.zero_le _) (by show (#[] ++ vs.toArray).size ≤ sizeLine + 1; simp only [Array.size_append, List.size_toArray, List.length_nil]; omega))
  refine wpAny_pure ?_
  show wpAny (model prog w) A (do
      let o ← load s.heap.objs.size
      match o.data with
      | .seq xs _ => pure xs.toList
      | _ => unsupported "internal:collect") Q E { s with heap := (s.heap.push (seqObj "list" #[] 0)).update s.heap.objs.size (Obj.mapSeq (· ++ vs.toArray)) }
  refine wpAny_bind (wpAny_load (get?_update_seq (Heap.get?_push_size _ rfl) _) ?_)
  show wpAny _ _ (pure ((#[] : Array Value) ++ vs.toArray).toList) Q E _
  rw [show ((#[] : Array Value) ++ vs.toArray).toList = vs by simp]
  exact wpAny_pure h
theorem sorted_ordT {l : Addr} {vs : List Value} {ltv : Value → Value → Bool} {Q : Value → Shared → Prop} (O : SrtO.Swo ltv) (hl : s.heap.IsTuple l vs.toArray) (hz : vs.length ≤ sizeLine)
    (hS : 2 ≤ vs.length → ∀ (h₁ : Heap) (a : Addr), h₁.get? a = some (seqObj "list" vs.toArray 0) → (∀ b o, s.heap.get? b = some o → b ≠ a ∧ h₁.get? b = some o) → SrtO.SortableO prog w A.in1.in1 { s with heap := h₁ } a vs ltv)
    (h : ∀ out : List Value, SrtO.Srtd ltv out → SrtO.Stb ltv out vs → Q (.ref (s.heap.objs.size + 1)) { s with heap := sortedAll s.heap vs out.toArray }) :
    wpAny (model prog w) A (call (.builtin "sorted") [.ref l]) Q E s := by
  refine Calls.call_function_entry kind_sorted plain_sorted entry_sorted (args_sorted1 _) ?_
  unfold Builtin.«sorted»
  refine wpAny_bind (m := checkCount "sorted" 1 1 _) (wpAny_pure ?_)
  refine wpAny_bind (collect_tuple hl ?_ hz)
  refine wpAny_bind (wpAny_newList ?_ hz)
  have hsz : ((s.heap.push (seqObj "list" #[] 0)).update s.heap.objs.size (Obj.mapSeq (· ++ vs.toArray))).objs.size = s.heap.objs.size + 1 := by
    rw [Heap.size_update, size_push']
  have hoL : (((s.heap.push (seqObj "list" #[] 0)).update s.heap.objs.size (Obj.mapSeq (· ++ vs.toArray))).push (seqObj "list" vs.toArray 0)).get? (s.heap.objs.size + 1) = some (seqObj "list" vs.toArray 0) := by
    rw [← hsz]; exact Heap.get?_push_size _ rfl
  have keep : ∀ b o, s.heap.get? b = some o → b ≠ s.heap.objs.size + 1 ∧ (((s.heap.push (seqObj "list" #[] 0)).update s.heap.objs.size (Obj.mapSeq (· ++ vs.toArray))).push (seqObj "list" vs.toArray 0)).get? b = some o := fun b o q => by
    have hlt : b < s.heap.objs.size := Heap.lt_size q
    refine ⟨Nat.ne_of_lt (Nat.lt_succ_of_lt hlt), Heap.get?_push_of_some _ ?_⟩
    rw [Heap.get?_update_ne _ _ _ _ (Nat.ne_of_lt hlt)]
    exact Heap.get?_push_of_some _ q
  show wpAny _ _ _ _ _ { s with heap := ((s.heap.push (seqObj "list" #[] 0)).update s.heap.objs.size (Obj.mapSeq (· ++ vs.toArray))).push (seqObj "list" vs.toArray 0) }
  rw [hsz]
  refine wpAny_bind (wpAny_holding (wpAny_call_entry slot_list_sort ⟨_, hoL, rfl⟩ entry_list_sort (SrtO.list_sort_ord O hoL hz (fun h2 => hS h2 _ _ hoL keep) fun out hs hb => ⟨_, rfl, ?_⟩) (args_list_sort _)))
  exact wpAny_pure ⟨_, rfl, h out hs hb⟩
end
def rSortedIT (K : PySem.W.Frag) : List V → Hp → VK → Prop := fun vs H Q => ∃ (a : Addr) (ns : List Int), vs = [.ref a] ∧ SqT K H a (ns.map V.int) ∧ ∀ (p : Addr) (ms : List Int), ms.Perm ns → ms.Pairwise (· ≤ ·) → H p = none → Q (.ref p) (upd H p (.lst (ms.map V.int)))
theorem cr_sortedIT {X : Cx} : CallR X (.builtin "sorted") (rSortedIT X.K) := by
  intro pins s σ H vs us Q I r h
  obtain ⟨a, ns, rfl, hs, q⟩ := h
  obtain ⟨its, rv, hl, hz⟩ := I.tuple hs
  rw [Vals.ref1 r]
  have hi := rv.ints
  refine sorted_ordT SrtO.swo_int hl (by rw [← rv.length]; exact hz) (fun h2 h₁ a' _ _ => SrtO.ints_sortable hi h2) fun out h1 h2 => ?_
  obtain ⟨k1, k2, k3⟩ := SrtO.ints_out hi h1 h2
  obtain ⟨ep, he'⟩ := PyProof.Rows.sortedAll_at s.heap its out.toArray
  have hlen : ((out.map SrtO.iv).map V.int).length ≤ sizeLine := by
    rw [List.length_map, k2.length_eq]
    rw [List.length_map] at hz
    exact hz
  exact ⟨.ref _, upd H (s.heap.objs.size + 1) (.lst ((out.map SrtO.iv).map V.int)), I.laid (t' := s.toks) (fun _ _ => PyProof.Rows.sortedAll_old) (Nat.le_succ _) ⟨hlen, out, ep, vals_of_ints k1, he'⟩, rfl, q _ _ k2 k3 (I.hok.fresh (Nat.le_succ _))⟩
abbrev sortedAS : OA := one fun s Q => onSq s fun l => onIs l fun ns => Q (.d (.list ((sortI ns).map .int)))
theorem sortedA_is {C : Cn} : IsA C sortedAS (fun vs H Q => rSortedI C.K vs H Q ∨ rSortedIT C.K vs H Q) := one_is fun w H σ s v Q' E' Q ok r q ct => by
  obtain ⟨l, a, vs, rfl, h1, h2, q⟩ := onSq_of (C := C) r q
  obtain ⟨ns, rfl, q2⟩ := onIs_of q
  obtain rfl := repL_ints h2
  rcases h1 with h1 | h1
  · refine .inl ⟨a, ns, rfl, h1, fun ns' p hp hs hf => ?_⟩
    rw [sorted_eq (hp.trans (sortI_perm ns).symm) hs (sortI_sorted ns)]
    exact ct.newL ok repL_of_ints q2 hf
  · refine .inr ⟨a, ns, rfl, h1, fun p ns' hp hs hf => ?_⟩
    rw [sorted_eq (hp.trans (sortI_perm ns).symm) hs (sortI_sorted ns)]
    exact ct.newL ok repL_of_ints q2 hf
theorem pd_sortedA {X : Cx} {C : Cn} {e : Expr} {es : List Expr} {mr : MA} {p pos : Pos} (hm : X.mg "sorted" = none) (ha : PA X (e :: es) (liftA C mr)) (hg : Gl X "sorted" := by rfl) (hK : X.K = C.K := by rfl) (he : starEach (e :: es) X.env = (false, eval e X.env) :: starEach es X.env := by rfl) (hpl : (backTo pos (starEach es X.env)).any (·.1) = false := by rfl) :
    PE X (.Call (.Name "sorted" p) (e :: es) [] pos) (lift C (dCB sortedAS mr)) := pd_callB (cr_sortedI.or cr_sortedIT) (by rw [hK]; exact sortedA_is) PyProof.Rows.boot_sorted hg hm ha (he := he) (hpl := hpl)
end DL
namespace DL
open PySem PySem.Spec PyProof.Rows L2 LamX NdefX
/-! ### len(set(xs)), whole numbers -/
theorem firstMet_spec (val : Nat → Int) : ∀ i : Nat, (firstMet val i).Nodup ∧ ∀ k : Int, k ∈ firstMet val i ↔ ∃ j, j < i ∧ val j = k
  | 0 => ⟨List.Pairwise.nil, fun k => ⟨fun h => (by cases h), fun ⟨j, hj, _⟩ => (by omega)⟩⟩
  | i + 1 => by
    obtain ⟨h1, h2⟩ := firstMet_spec val i
    rw [firstMet_succ]
    unfold step_dedup
    by_cases c : ((firstMet val i).any (· == val i)) = true
    · rw [if_pos c]
      obtain ⟨y, hy, ey⟩ := List.any_eq_true.mp c
      have ey : y = val i := eq_of_beq ey
      refine ⟨h1, fun k => ?_⟩
      rw [h2 k]
      constructor
      · rintro ⟨j, hj, e⟩
        exact ⟨j, by omega, e⟩
      · rintro ⟨j, hj, e⟩
        by_cases hji : j < i
        · exact ⟨j, hji, e⟩
        · obtain rfl : j = i := by omega
          rw [ey] at hy
          rw [← e]
          exact (h2 _).mp hy
    · rw [if_neg c]
      have no : val i ∉ firstMet val i := fun hm => c (List.any_eq_true.mpr ⟨_, hm, by simp⟩)
      refine ⟨?_, fun k => ?_⟩
      · refine List.nodup_append.mpr ⟨h1, by simp, fun a ha b hb => ?_⟩
        simp only [List.mem_singleton] at hb
        subst hb
        exact fun e => no (e ▸ ha)
      · rw [List.mem_append, h2 k, List.mem_singleton]
        constructor
        · rintro (⟨j, hj, e⟩ | e)
          · exact ⟨j, by omega, e⟩
          · exact ⟨i, by omega, e.symm⟩
        · rintro ⟨j, hj, e⟩
          by_cases hji : j < i
          · exact .inl ⟨j, hji, e⟩
          · obtain rfl : j = i := by omega
            exact .inr e.symm
theorem firstMet_mem (ns : List Int) (k : Int) : k ∈ firstMet (fun i => ns.getD i 0) ns.length ↔ k ∈ ns := by
  rw [(firstMet_spec _ _).2 k]
  constructor
  · rintro ⟨j, hj, e⟩
    rw [← e, List.getD_eq_getElem?_getD, List.getElem?_eq_getElem hj]
    exact List.getElem_mem hj
  · intro h
    obtain ⟨j, hj, e⟩ := List.getElem_of_mem h
    exact ⟨j, hj, by rw [List.getD_eq_getElem?_getD, List.getElem?_eq_getElem hj]; exact e⟩
def dLenSet (m : ME) : ME := fun ρ Q E => m ρ (fun s => onSq s fun l => onIs l fun ns => ns.length ≤ 1000 ∧ ∀ out : List Int, out.Nodup → (∀ k, k ∈ out ↔ k ∈ ns) → Q (.d (.int out.length))) E
theorem pd_lenSet {X : Cx} {C : Cn} {a : Expr} {m : ME} {p p2 q pos : Pos} (hm : X.mg "len" = none) (hm2 : X.mg "set" = none) (ha : PE X a (lift C m)) (hc : X.calm = true := by rfl) (hK : X.K = C.K := by rfl) (hg : Gl X "len" := by rfl) (hg2 : Gl X "set" := by rfl)
    (na : starEach [a] X.env = (false, eval a X.env) :: starEach [] X.env := by rfl) : PE X (.Call (.Name "len" p) [.Call (.Name "set" p2) [a] [] q] [] pos) (lift C (dLenSet m)) := by
  refine ⟨fun pins s σ H Q I h => ?_⟩
  refine Call_ (ld_blt I hg hm boot_len ?_)
  refine PyProof.Rows.callWith_builtin1 (PyProof.Rows.args_cons ?_ rfl) rfl rfl
  refine Call_ (ld_blt I hg2 hm2 boot_set ?_)
  obtain ⟨w, ρ, Q', E', st, ok, hq, ct⟩ := h
  refine PyProof.Rows.callWith_type1 (PyProof.Rows.args_cons (thn (ha.run pins s σ H _ I (mk (F := fun s => onSq s fun l => onIs l fun ns => ns.length ≤ 1000 ∧ ∀ out : List Int, out.Nodup → (∀ k, k ∈ out ↔ k ∈ ns) → Q' (.d (.int out.length))) st ok hq (fun w1 s v H1 le ok1 r q => (show ∃ (l : Addr) (ns : List Int), v = .ref l ∧ (SqL C.K H1 l (ns.map V.int) ∨ SqT C.K H1 l (ns.map V.int)) ∧ ns.length ≤ 1000 ∧ ∀ out : List Int, out.Nodup → (∀ k, k ∈ out ↔ k ∈ ns) → Q (.int (out.length : Nat)) H1 from ?_)) ct.ex)) fun v s1 ⟨x, H1, I1, r1, q1⟩ => PyProof.Rows.args_nil ?_) na) na rfl
  · obtain ⟨l, a, vs, rfl, h1, h2, q⟩ := onSq_of (C := C) r q
    obtain ⟨ns, rfl, q2⟩ := onIs_of q
    obtain rfl := repL_ints h2
    exact ⟨a, ns, rfl, h1, q2.1, fun out h3 h4 => ct.ok w1 _ _ H1 le ok1 rep_int (q2.2 out h3 h4)⟩
  · obtain ⟨l, ns, rfl, hq, hl, q1⟩ := q1
    cases r1
    rw [← hK] at hq
    rcases hq with hq | hq
    · obtain ⟨its, r, pl, hz⟩ := I1.list hq
      have hlen : its.toArray.size = ns.length := by rw [List.size_toArray, ← r.length, List.length_map]
      refine call_set_list (I1.ok.hd hc) pl.isList (ns := ns) (by simpa using r.ints) (by rw [hlen]; unfold scanBound; omega) fun h' tk hS hk => ?_
      refine PyProof.Rows.args_nil ?_
      rw [hlen] at hS
      obtain ⟨o, es, ep, t, ho, hex, hd, _, _, _, hf, hn⟩ := hS
      have I2 : Inv X pins σ H1 { s1 with heap := h', toks := tk } := I1.kept fun b o e => hk b o (Heap.lt_size e) e
      have hb := firstMet_length_le (fun i => ns.getD i 0) ns.length
      exact call_len_set ho hex hd hf (by rw [hn]; omega) ⟨.int (firstMet (fun i => ns.getD i 0) ns.length).length, H1, I2.tok _, ⟨_, by rw [hn]⟩, q1 _ (firstMet_spec _ _).1 (firstMet_mem ns)⟩
    · obtain ⟨its, rv, pt, hz⟩ := I1.tuple hq
      have hi : IntsAre its.toArray.toList ns := ints_of_vals rv
      refine call_set_tupI ns (I1.ok.hd hc) (show s1.heap.IsTuple l its.toArray from pt) hi (by unfold scanBound; omega) fun h' tk c R1 hcn k => ?_
      refine PyProof.Rows.args_nil ?_
      obtain ⟨o, es, ep, t, ho, hex, hdt, g, nd, hm3, hb, hf, hn, hr, hl2⟩ := R1
      have I2 : Inv X pins σ H1 { s1 with heap := h', toks := tk } := I1.kept fun b o e => k b o e
      have el : es.size = (es.toList.map keyOf).length := by rw [List.length_map, Array.length_toList]
      exact call_len_set ho hex hdt hf (by rw [hn]; omega) ⟨.int (es.toList.map keyOf).length, H1, I2.tok _, ⟨_, by rw [el]⟩, q1 _ nd fun j => by rw [← hm3 j, decide_eq_true_eq]⟩
/-! ### D[k](..), D a dict of defs at the top -/
structure HeldD (P : Program) (w : World) (K : PySem.W.Frag) (mg : Str → Option Value) (base : Heap) (C : Cn) (k n : Nat) (D : Addr) (z : Str) (m : MF) : Prop where
  ex : ∃ (f : Addr) (fd : FuncData) (ps : List Str), FnOk P w K mg base (L2.CX P w) k f fd ps (liftSp C n m) ∧ KDct K w D z (.ref f) ∧ PySem.W.keepIn K (.ref f) = true ∧ Binds K fd ps []
def dCallD (n : Nat) (ms : List (Str × MF)) (mi : ME) (ma : MA) : ME := fun ρ Q E => mi ρ (fun s => match s with
  | .d (.str z) => ∃ m, (z, m) ∈ ms ∧ ma ρ (fun ss => fits n ss ∧ m ss Q E) E
  | _ => False) E
theorem pd_callD {X : Cx} {C : Cn} {k n : Nat} {D : Addr} {ms : List (Str × MF)} {x : Str} {p p2 pos : Pos} {ix e : Expr} {es : List Expr} {mi : ME} {ma : MA} (hm : X.mg x = some (.ref D)) (hms : ∀ q ∈ ms, HeldD X.prog X.w X.K X.mg X.base C k n D q.1 q.2) (hr : Room k X.A) (tk : Takes X C.W)
    (hi : PE X ix (lift C mi)) (ha : PA X (e :: es) (liftA C ma)) (hg : Gl X x := by rfl) (hs : PlainIx ix := by exact fun _ _ => rfl) (hdb : (x == ("__debug__" : Str)) = false := by decide) (hK : X.K = C.K := by rfl)
    (hev : eval (.Call (.Subscript (.Name x p) ix p2) (e :: es) [] pos) X.env = (do callWith pos (← eval (.Subscript (.Name x p) ix p2) X.env) [] (backTo pos (starEach (e :: es) X.env)) (backToKw pos (keywordEach [] X.env))) := by rfl)
    (he : starEach (e :: es) X.env = (false, eval e X.env) :: starEach es X.env := by rfl) (hpl : (backTo pos (starEach es X.env)).any (·.1) = false := by rfl) :
    PE X (.Call (.Subscript (.Name x p) ix p2) (e :: es) [] pos) (lift C (dCallD n ms mi ma)) := by
  refine ⟨fun pins s σ H Q I h => ?_⟩
  obtain ⟨w, ρ, Q', E', st, ok, hq, ct⟩ := h
  refine Call_ ?_ hev
  have hf : tOp (rIxD X.K X.w) (tC (.ref D)) (lift C mi) σ H (fun v H1 => ∃ (f : Addr) (m : MF) (fd : FuncData) (ps : List Str) (w1 : Wd), v = .ref f ∧ FnOk X.prog X.w X.K X.mg X.base (L2.CX X.prog X.w) k f fd ps (liftSp C n m) ∧ PySem.W.keepIn X.K (.ref f) = true ∧ Binds X.K fd ps [] ∧ Le w H w1 H1 ∧ Ok C.T w1 H1 ∧ ma ρ (fun ss => fits n ss ∧ m ss Q' E') E') := by
    show lift C mi σ H _
    refine mk st ok hq (fun w1 s v H1 le ok1 r q => ?_) ct.ex
    split at q
    · rename_i z
      obtain ⟨m, hmem, q⟩ := q
      obtain rfl : v = .str z := by simpa only [SRep, Rep] using r
      obtain ⟨f, fd, ps, F, kd, kp, bi⟩ := (hms _ hmem).ex
      exact ⟨D, z, .ref f, rfl, rfl, kd, f, m, fd, ps, w1, rfl, F, kp, bi, le, ok1, q⟩
    · exact q.elim
  refine thn ((pe_ix (pos := p2) ix_kdict (pe_glob (v := .ref D) (pos := p) hg hm (show RelV (.ref D) (.ref D) from rfl) hdb) hi hs).run pins s σ H _ I hf) fun u s1 ⟨v, H1, I1, r1, q1⟩ => ?_
  obtain ⟨f, m, fd, ps, w1, rfl, F, kp, bi, le, ok1, q1⟩ := q1
  cases r1
  have ct1 := ct.le le
  have h2 : liftA C ma σ H1 (fun vs H2 => liftSp C n m vs H2 Q (fun cls d H' => C.W cls d σ H')) :=
    mk (st.le ok le) ok1 q1 (fun w2 ss vs H2 le2 ok2 r2 q2 => sp_of ok2 r2 q2.1 q2.2 (ct1.le le2)) ct1.ex
  refine PySem.W.callWith_K (h₀ := X.base) I1.ok.mod.kin kp (thn (ha.run pos pins s1 σ H1 _ I1 h2) fun us s2 ⟨vs, H2, I2, r, q⟩ => ⟨I2.kIn, ?_⟩) he hpl
  exact run_fnS (E := fun σ cls d H => C.W cls d σ H) F hr bi (passAt tk σ) I2 r q
end DL
namespace DL
open PySem PySem.Spec PyProof.Rows L2 LamX NdefX
/-! ### items: values to be stored, what is new may be one's own -/
def Itm (C : Cn) (m : ME) (t : TE) : Prop := ∀ (w : Wd) (ρ : Rho) (σ : L2.St) (H : Hp) (F : S → Prop) (E' : Exn → Prop) (Q : VK), St C.K w ρ σ H → Ok C.T w H → m ρ F E' →
  (∀ (w' : Wd) (x : Exn) (cls : Value) (d : Option Addr) (H' : Hp), Le w H w' H' → Ok C.T w' H' → XRep C.K C.N w' H' x cls d → E' x → C.W cls d σ H') →
  (∀ (w1 : Wd) (H1 : Hp) (s : S) (v : V), Le w H w1 H1 → Ok C.T w1 H1 → SRep C.K w1 H1 s v → (isOwn s = true → ∃ a, v = .ref a ∧ H a = none) → F s → Q v H1) → t σ H Q
def dPl (m : ME) : ME := fun ρ Q E => m ρ (fun s => plain s (Q s)) E
theorem itm_pl {C : Cn} {m : ME} : Itm C (dPl m) (lift C m) := fun w ρ σ H F E' Q st ok hm hx hk =>
  mk st ok hm (fun w1 s v H1 le ok1 r q => by
    obtain ⟨no, q⟩ := plain_of q
    exact hk w1 H1 s v le ok1 r (fun z => by rw [no] at z; cases z) q) hx
/-- a new list, one's own -/
def dNewO (ma : MA) : ME := fun ρ Q E => ma ρ (fun ss => onDs ss fun ds => ds.length ≤ sizeLine ∧ Q (.own (.list ds))) E
theorem own_new {C : Cn} {w : Wd} {H : Hp} {p : Addr} {o : HO} {x : D} (ok : Ok C.T w H) (hp : H p = none) (hx : OwnAt C.K (w.add p).ex (upd H p o) p x) : SRep C.K (w.add p) (upd H p o) (.own x) (.ref p) :=
  ⟨p, rfl, .inr rfl, fun z => ok.fresh hp (w.sub p z), hx⟩
theorem itm_lst {C : Cn} {ma : MA} : Itm C (dNewO ma) (tLst (liftA C ma)) := fun w ρ σ H F E' Q st ok hm hx hk =>
  mk st ok hm (fun w1 ss vs H1 le ok1 r q => by
    obtain ⟨ds, rfl, hz, q⟩ := onDs_of q
    have rl : RepL C.K w1.ex H1 ds vs := repL_of_RA r
    refine ⟨by rw [rl.length]; exact hz, fun p hp => ?_⟩
    exact hk (w1.add p) _ (.own (.list ds)) _ (le.trans (Le.add hp)) (ok1.add hp trivial) (own_new ok1 hp ⟨vs, upd_same, RepL.le ok1 (Le.add hp) ds vs rl⟩) (fun _ => ⟨p, rfl, le.non p hp⟩) q) hx
/-- list(x), one's own -/
def dCopyO (m : ME) : ME := fun ρ Q E => m ρ (fun s => onSq s fun l => Q (.own (.list l))) E
def rList (K : PySem.W.Frag) : List V → Hp → VK → Prop := fun xs H Q => ∃ p ys, xs = [.ref p] ∧ (SqL K H p ys ∨ SqT K H p ys) ∧ ∀ l, H l = none → Q (.ref l) (upd H l (.lst ys))
theorem itm_copy {C : Cn} {m : ME} : Itm C (dCopyO m) (tCB (rList C.K) (liftA C (dCons m dNil))) := fun w ρ σ H F E' Q st ok hm hx hk =>
  mk (F := fun ss => ∃ s, ss = [s] ∧ onSq s fun l => F (.own (.list l))) st ok (show (dCons m dNil) ρ _ E' from by
    show m ρ (fun s => ∃ t, [s] = [t] ∧ onSq t fun l => F (.own (.list l))) E'
    have e : (fun s => ∃ t, [s] = [t] ∧ onSq t fun l => F (.own (.list l))) = fun s => onSq s fun l => F (.own (.list l)) := by
      funext s
      refine propext ⟨fun ⟨t, e, h⟩ => ?_, fun h => ⟨s, rfl, h⟩⟩
      cases e
      exact h
    rw [e]
    exact hm) (fun w1 ss vs H1 le ok1 r q => by
    obtain ⟨s, rfl, q⟩ := q
    obtain ⟨v, rfl, r1⟩ := RA.one r
    obtain ⟨l, a, vs, rfl, h1, h2, q⟩ := onSq_of (C := C) r1 q
    refine ⟨a, vs, rfl, h1, fun p hp => ?_⟩
    exact hk (w1.add p) _ (.own (.list l)) _ (le.trans (Le.add hp)) (ok1.add hp trivial) (own_new ok1 hp ⟨vs, upd_same, RepL.le ok1 (Le.add hp) l vs h2⟩) (fun _ => ⟨p, rfl, le.non p hp⟩) q) hx
/-- {}, one's own -/
def dNewD : ME := fun _ Q _ => Q (.own (.dict []))
theorem itm_newD {C : Cn} : Itm C dNewD tDNewK := fun w ρ σ H F E' Q st ok hm hx hk => fun p hp =>
  hk (w.add p) _ (.own (.dict [])) _ (Le.add hp) (ok.add hp trivial) (own_new ok hp ⟨_, _, upd_same, .k [], by simp [RepK]⟩) (fun _ => ⟨p, rfl, hp⟩) hm
/-- several items: the values; what is one's own is new, each its own -/
structure Frs (H : Hp) (ss : List S) (vs : List V) : Prop where
  new : ∀ (i : Nat) (s : S) (v : V), ss[i]? = some s → vs[i]? = some v → isOwn s = true → ∃ a, v = .ref a ∧ H a = none
  dis : ∀ (i j : Nat) (s t : S) (v : V), ss[i]? = some s → ss[j]? = some t → vs[i]? = some v → vs[j]? = some v → isOwn s = true → isOwn t = true → i = j
def ItmA (C : Cn) (m : MA) (t : TA) : Prop := ∀ (w : Wd) (ρ : Rho) (σ : L2.St) (H : Hp) (F : List S → Prop) (E' : Exn → Prop) (Q : List V → Hp → Prop), St C.K w ρ σ H → Ok C.T w H → m ρ F E' →
  (∀ (w' : Wd) (x : Exn) (cls : Value) (d : Option Addr) (H' : Hp), Le w H w' H' → Ok C.T w' H' → XRep C.K C.N w' H' x cls d → E' x → C.W cls d σ H') →
  (∀ (w1 : Wd) (H1 : Hp) (ss : List S) (vs : List V), Le w H w1 H1 → Ok C.T w1 H1 → RA C.K w1 H1 ss vs → Frs H ss vs → F ss → Q vs H1) → t σ H Q
theorem itmA_nil {C : Cn} : ItmA C dNil tNil := fun w ρ σ H F E' Q st ok hm hx hk =>
  hk w H [] [] (Le.refl w H) ok .nil ⟨fun i s v e => by simp at e, fun i j s t v e => by simp at e⟩ hm
theorem itmA_cons {C : Cn} {m : ME} {mr : MA} {t : TE} {tr : TA} (h : Itm C m t) (hr : ItmA C mr tr) : ItmA C (dCons m mr) (tCons t tr) := fun w ρ σ H F E' Q st ok hm hx hk => by
  refine h w ρ σ H _ E' _ st ok hm hx fun w1 H1 s v le ok1 r fr q => ?_
  refine hr w1 ρ σ H1 _ E' _ (st.le ok le) ok1 q (fun w' x cls d H' l => hx w' x cls d H' (le.trans l)) fun w2 H2 ss vs le2 ok2 r2 fr2 q2 => ?_
  refine hk w2 H2 (s :: ss) (v :: vs) (le.trans le2) ok2 (.cons (r.le ok1 le2) r2) ⟨fun i s' v' e1 e2 o => ?_, fun i j s' t' v' e1 e2 e3 e4 o1 o2 => ?_⟩ q2
  · cases i with
    | zero =>
      simp only [List.getElem?_cons_zero, Option.some.injEq] at e1 e2
      subst e1 e2
      exact fr o
    | succ i =>
      simp only [List.getElem?_cons_succ] at e1 e2
      obtain ⟨a, e, n⟩ := fr2.new i s' v' e1 e2 o
      exact ⟨a, e, le.non a n⟩
  · have there : ∀ {s' : S} {v' : V}, s' = s → v' = v → isOwn s' = true → ∃ a o, v' = .ref a ∧ H1 a = some o := fun {s' v'} es ev o => by
      subst es ev
      cases s' with
      | own x =>
        obtain ⟨a, rfl, _, _, h3⟩ := r
        obtain ⟨o, e⟩ := h3.there
        exact ⟨a, o, rfl, e⟩
      | _ => cases o
    cases i with
    | zero =>
      simp only [List.getElem?_cons_zero, Option.some.injEq] at e1 e3
      cases j with
      | zero => rfl
      | succ j =>
        simp only [List.getElem?_cons_succ] at e2 e4
        obtain ⟨a, o, ea, eh⟩ := there e1.symm e3.symm o1
        obtain ⟨b, eb, n⟩ := fr2.new j t' v' e2 e4 o2
        rw [ea] at eb
        cases eb
        rw [eh] at n
        cases n
    | succ i =>
      simp only [List.getElem?_cons_succ] at e1 e3
      cases j with
      | zero =>
        simp only [List.getElem?_cons_zero, Option.some.injEq] at e2 e4
        obtain ⟨a, o, ea, eh⟩ := there e2.symm e4.symm o2
        obtain ⟨b, eb, n⟩ := fr2.new i s' v' e1 e3 o1
        rw [ea] at eb
        cases eb
        rw [eh] at n
        cases n
      | succ j =>
        simp only [List.getElem?_cons_succ] at e2 e4
        rw [fr2.dis i j s' t' v' e1 e2 e3 e4 o1 o2]
/-! ### stores -/
def setsR : Rho → List Nat → List S → Rho
  | ρ, i :: is, s :: ss => setsR (ρ.set i (some s)) is ss
  | ρ, _, _ => ρ
def setsV : L2.St → List Nat → List V → L2.St
  | σ, i :: is, v :: vs => setsV (σ.set i (some v)) is vs
  | σ, _, _ => σ
section
variable {C : Cn} {w0 : Wd} {H0 : Hp} {σ : L2.St} {H : Hp} {D : Ends}
theorem StS.setOwn {w : Wd} {ρ : Rho} (h : StS C w0 H0 w ρ σ H) {i : Nat} {s : S} {v : V} (r : SRep C.K w H s v) (fr : isOwn s = true → ∃ a, v = .ref a ∧ H0 a = none ∧ ∀ (j : Nat) (y : PyData), ρ[j]? = some (some (.own y)) → σ[j]? ≠ some (some (.ref a))) : StS C w0 H0 w (ρ.set i (some s)) (σ.set i (some v)) H := by
  by_cases ho : isOwn s = true
  · obtain ⟨a, rfl, h0, nq⟩ := fr ho
    refine ⟨⟨by rw [List.length_set, List.length_set]; exact h.st.len, fun j t e => ?_, fun j1 j2 x1 y1 b q1 q2 q3 q4 => ?_⟩, h.ok, h.ok0, h.le, fun j y b q1 q2 => ?_⟩
    · rcases get_set e with ⟨rfl, rfl, hl⟩ | ⟨ne, e⟩
      · exact ⟨.ref a, List.getElem?_set_self (by rw [← h.st.len]; exact hl), r⟩
      · obtain ⟨u, e1, r1⟩ := h.st.all j t e
        exact ⟨u, by rw [List.getElem?_set_ne ne]; exact e1, r1⟩
    · rcases get_set q1 with ⟨rfl, _, hl⟩ | ⟨n1, q1⟩
      · rw [List.getElem?_set_self (by rw [← h.st.len]; exact hl)] at q3
        cases q3
        rcases get_set q2 with ⟨rfl, _, _⟩ | ⟨n2, q2⟩
        · rfl
        · rw [List.getElem?_set_ne n2] at q4
          exact absurd q4 (nq _ _ q2)
      · rw [List.getElem?_set_ne n1] at q3
        rcases get_set q2 with ⟨rfl, _, hl⟩ | ⟨n2, q2⟩
        · rw [List.getElem?_set_self (by rw [← h.st.len]; exact hl)] at q4
          cases q4
          exact absurd q3 (nq _ _ q1)
        · rw [List.getElem?_set_ne n2] at q4
          exact h.st.inj j1 j2 x1 y1 b q1 q2 q3 q4
    · rcases get_set q1 with ⟨rfl, _, hl⟩ | ⟨n1, q1⟩
      · rw [List.getElem?_set_self (by rw [← h.st.len]; exact hl)] at q2
        cases q2
        exact h0
      · rw [List.getElem?_set_ne n1] at q2
        exact h.fr j y b q1 q2
  · exact h.set r (by simpa using ho)
theorem StS.setMany {w : Wd} : ∀ {is : List Nat} {ss : List S} {vs : List V} {ρ : Rho} {σ : L2.St}, StS C w0 H0 w ρ σ H → RA C.K w H ss vs →
    (∀ (i : Nat) (s : S) (v : V), ss[i]? = some s → vs[i]? = some v → isOwn s = true → ∃ a, v = .ref a ∧ H0 a = none ∧ ∀ (j : Nat) (y : PyData), ρ[j]? = some (some (.own y)) → σ[j]? ≠ some (some (.ref a))) →
    (∀ (i j : Nat) (s t : S) (v : V), ss[i]? = some s → ss[j]? = some t → vs[i]? = some v → vs[j]? = some v → isOwn s = true → isOwn t = true → i = j) →
    StS C w0 H0 w (setsR ρ is ss) (setsV σ is vs) H
  | [], _, _, ρ, σ, h, _, _, _ => by simpa only [setsR, setsV] using h
  | i :: is, _, _, ρ, σ, h, .nil, _, _ => by simpa only [setsR, setsV] using h
  | i :: is, s :: ss, v :: vs, ρ, σ, h, .cons r rr, f, d => by
    simp only [setsR, setsV]
    refine StS.setMany (h.setOwn (i := i) r fun o => f 0 s v rfl rfl o) rr (fun k t u e1 e2 o => ?_) (fun k l t u x e1 e2 e3 e4 o1 o2 => ?_)
    · obtain ⟨a, rfl, h0, nq⟩ := f (k + 1) t u (by simpa using e1) (by simpa using e2) o
      refine ⟨a, rfl, h0, fun j y q1 q2 => ?_⟩
      rcases get_set q1 with ⟨rfl, es, hl⟩ | ⟨ne, q1⟩
      · rw [List.getElem?_set_self (by rw [← h.st.len]; exact hl)] at q2
        cases q2
        have := d 0 (k + 1) s t (.ref a) rfl (by simpa using e1) rfl (by simpa using e2) (by rw [es] <;> rfl) o
        omega
      · rw [List.getElem?_set_ne ne] at q2
        exact nq j y q1 q2
    · have := d (k + 1) (l + 1) t u x (by simpa using e1) (by simpa using e2) (by simpa using e3) (by simpa using e4) o1 o2
      omega
/-- names = items -/
def dSets (is : List Nat) (ma : MA) : MS := fun ρ k => ma ρ (fun ss => k.nx (setsR ρ is ss)) (k.ex ρ)
theorem sets_go {w w1 : Wd} {ρ : Rho} {H1 : Hp} {k : Kt} {is : List Nat} {ss : List S} {vs : List V} (st : StS C w0 H0 w ρ σ H) (ct : CtS C w0 H0 w H k D) (l : Le w H w1 H1) (ok1 : Ok C.T w1 H1) (r : RA C.K w1 H1 ss vs) (fr : Frs H ss vs) (q : k.nx (setsR ρ is ss)) : D.nx (setsV σ is vs) H1 := by
  have st1 := st.go l ok1
  refine ct.nx w1 _ _ H1 l.fle (st1.setMany r (fun i s v e1 e2 o => ?_) fr.dis) q
  obtain ⟨a, rfl, n⟩ := fr.new i s v e1 e2 o
  refine ⟨a, rfl, st.le.non a n, fun j y q1 q2 => ?_⟩
  obtain ⟨u, e, b, rfl, _, _, h3⟩ := st.st.all j _ q1
  rw [q2] at e
  cases e
  obtain ⟨o, e⟩ := h3.there
  rw [n] at e
  cases e
theorem set1_ok {i : Nat} {m : ME} {t : TE} (hi : Itm C m t) (h : liftS C w0 H0 (dSets [i] (dCons m dNil)) D σ H) : tAsg t (gName i) D σ H := by
  obtain ⟨w, ρ, k, st, hm, ct⟩ := h
  refine hi w ρ σ H _ _ _ st.st st.ok hm (fun w' x cls d H' l ok' xr q => ct.ex w' ρ σ H' x cls d l.fle (st.go l ok') xr q) fun w1 H1 s v l ok1 r fr q => ?_
  exact sets_go (is := [i]) (ss := [s]) (vs := [v]) st ct l ok1 (.cons r .nil) ⟨fun j t u e1 e2 o => by
    cases j with
    | zero =>
      simp only [List.getElem?_cons_zero, Option.some.injEq] at e1 e2
      subst e1 e2
      exact fr o
    | succ j => simp at e1, fun a b t u x e1 e2 _ _ _ _ => by
    cases a with
    | zero =>
      cases b with
      | zero => rfl
      | succ b => simp at e2
    | succ a => simp at e1⟩ q
theorem parO_ok {is : List Nat} {ma : MA} {ta : TA} (hi : ItmA C ma ta) (h : liftS C w0 H0 (dSets is ma) D σ H) : ta σ H (fun vs H1 => D.nx (setsV σ is vs) H1) := by
  obtain ⟨w, ρ, k, st, hm, ct⟩ := h
  exact hi w ρ σ H _ _ _ st.st st.ok hm (fun w' x cls d H' l ok' xr q => ct.ex w' ρ σ H' x cls d l.fle (st.go l ok') xr q) fun w1 H1 ss vs l ok1 r fr q => sets_go st ct l ok1 r fr q
end
def gNames : List Nat → TGs
  | [] => gNil
  | i :: is => gCons (gName i) (gNames is)
theorem gNames_ok {Q : L2.St → Hp → Prop} {H : Hp} : ∀ {is : List Nat} {vs : List V} {σ : L2.St}, vs.length = is.length → Q (setsV σ is vs) H → gNames is vs σ H Q
  | [], [], _, _, h => ⟨rfl, h⟩
  | i :: is, v :: vs, σ, e, h => ⟨v, vs, rfl, gNames_ok (is := is) (vs := vs) (by simpa using e) h⟩
/-- a, b, c, d = items, by way of a tuple -/
def dSetsN (is : List Nat) (ma : MA) : MS := fun ρ k => ma ρ (fun ss => ss.length = is.length ∧ ss.length ≤ sizeLine ∧ k.nx (setsR ρ is ss)) (k.ex ρ)
section
variable {C : Cn} {w0 : Wd} {H0 : Hp} {σ : L2.St} {H : Hp} {D : Ends}
theorem RA.leF {w w' : Wd} {H H' : Hp} (ok : Ok C.T w H) (le : Le w H w' H') {ss : List S} {vs : List V} (r : RA C.K w H ss vs) : RA C.K w' H' ss vs := RA.le ok le r
theorem parN_ok {is : List Nat} {n : Nat} {ma : MA} {ta : TA} (hn : is.length = n) (hi : ItmA C ma ta) (h : liftS C w0 H0 (dSetsN is ma) D σ H) : tAsg (tTup ta) (gTup C.K n (gNames is)) D σ H := by
  obtain ⟨w, ρ, k, st, hm, ct⟩ := h
  refine hi w ρ σ H _ _ _ st.st st.ok hm (fun w' x cls d H' l ok' xr q => ct.ex w' ρ σ H' x cls d l.fle (st.go l ok') xr q) fun w1 H1 ss vs l ok1 r fr q => ?_
  have el : vs.length = ss.length := r.len
  refine ⟨by rw [el]; exact q.2.1, fun p hp => ⟨p, vs, rfl, SqT.of upd_same, by rw [el, q.1, hn], gNames_ok (by rw [el, q.1]) ?_⟩⟩
  have l2 : Le w1 H1 w1 (upd H1 p (.tup vs)) := Le.new1 hp
  exact sets_go st ct (l.trans l2) (ok1.new1 hp) (RA.le ok1 l2 r) fr q.2.2
end
/-! ### their derivations -/
structure PIt (X : Cx) (e : Expr) (C : Cn) (m : ME) : Prop where
  ex : ∃ t, PE X e t ∧ Itm C m t
structure PItA (X : Cx) (es : List Expr) (C : Cn) (m : MA) : Prop where
  ex : ∃ t, PA X es t ∧ ItmA C m t
section
variable {X : Cx} {C : Cn} {e : Expr} {es : List Expr} {m : ME} {mr : MA} {pos : Pos} {x : Str} {p : Pos}
theorem pit_pl (h : PE X e (lift C m)) : PIt X e C (dPl m) := ⟨_, h, itm_pl⟩
theorem pit_lst (ha : PA X es (liftA C mr)) : PIt X (.List es pos) C (dNewO mr) := ⟨_, pe_lst ha, itm_lst⟩
theorem pit_list (hm : X.mg "list" = none) (h : PE X e (lift C m)) (hg : Gl X "list" := by rfl) (hK : X.K = C.K := by rfl) (he : starEach (e :: []) X.env = (false, eval e X.env) :: starEach [] X.env := by rfl) (hpl : (backTo pos (starEach [] X.env)).any (·.1) = false := by rfl) :
    PIt X (.Call (.Name "list" p) [e] [] pos) C (dCopyO m) := ⟨_, pe_callTy call_list_of hg hm (by decide +kernel) (pa_consD h pa_nilD he) (he := he) (hpl := hpl), by
  rw [hK]
  exact itm_copy⟩
theorem pit_newD : PIt X (.Dict [] [] pos) C dNewD := ⟨_, pe_dnewK, itm_newD⟩
theorem pita_nil : PItA X [] C dNil := ⟨_, pa_nil, itmA_nil⟩
theorem pita_cons (h : PIt X e C m) (hr : PItA X es C mr) (hs : starEach (e :: es) X.env = (false, eval e X.env) :: starEach es X.env := by rfl) : PItA X (e :: es) C (dCons m mr) := by
  obtain ⟨t, h1, h2⟩ := h
  obtain ⟨u, h3, h4⟩ := hr
  exact ⟨_, pa_cons h1 h3 hs, itmA_cons h2 h4⟩
variable {w0 : Wd} {H0 : Hp}
theorem psd_set1 (i : Nat) {y : Str} {q : Pos} (hN : X.N.Nodup) (he : PIt X e C m) (hi : X.N[i]? = some y := by rfl) (hx : Loc X.env.scope y := by first | exact Or.inl rfl | exact Or.inr rfl) (hs : swapsWith e (some (.Name y q)) pos.line X.env = pure false := by rfl) (hf : X.fn y = true ∨ X.env.scope.names.lookup y = some .local := by first | exact .inl rfl | exact .inr rfl) :
    PS X (.Assign [.Name y q] e pos) (liftS C w0 H0 (dSets [i] (dCons m dNil))) := by
  obtain ⟨t, h1, h2⟩ := he
  exact (ps_set hN hi hx h1 hs hf).weak fun _ _ _ h => set1_ok h2 h
theorem psd_sets2 (i j : Nat) {a b : Expr} {y z : Str} {px py pt pt2 : Pos} {kt k2 : Nat} (hc : X.calm = true) (hN : X.N.Nodup) (ha : PItA X [a, b] C mr) (hi : X.N[i]? = some y := by rfl) (hj : X.N[j]? = some z := by rfl) (hij : i ≠ j := by decide)
    (hx : X.env.scope.names.lookup y = some .local := by rfl) (hy : X.env.scope.names.lookup z = some .local := by rfl) (hw : swappedStores [.Tuple [.Name y px, .Name z py] kt pt] (.Tuple [a, b] k2 pt2) X.env = pure (some [y, z]) := by rfl)
    (hs : swapsWithSole [.Tuple [.Name y px, .Name z py] kt pt] (.Tuple [a, b] k2 pt2) pos.line X.env = pure false := by rfl) :
    PS X (.Assign [.Tuple [.Name y px, .Name z py] kt pt] (.Tuple [a, b] k2 pt2) pos) (liftS C w0 H0 (dSetsN [i, j] mr)) := by
  obtain ⟨t, h1, h2⟩ := ha
  refine (ps_par hc hN hi hj hij hx hy h1 hw hs).weak fun D σ H h => ?_
  obtain ⟨w, ρ, k, st, hm, ct⟩ := h
  refine h2 w ρ σ H _ _ _ st.st st.ok hm (fun w' x cls d H' l ok' xr q => ct.ex w' ρ σ H' x cls d l.fle (st.go l ok') xr q) fun w1 H1 ss vs l ok1 r fr q => ?_
  have el : vs.length = 2 := by rw [r.len, q.1] <;> rfl
  match vs, el, r, fr with
  | [u, v], _, r, fr => exact ⟨u, v, rfl, sets_go (is := [i, j]) st ct l ok1 r fr q.2.2⟩
theorem psd_sets3 (i j l : Nat) {a b c : Expr} {y z v : Str} {px py pz pt pt2 : Pos} {kt k2 : Nat} (hc : X.calm = true) (hN : X.N.Nodup) (ha : PItA X [a, b, c] C mr) (hi : X.N[i]? = some y := by rfl) (hj : X.N[j]? = some z := by rfl) (hl : X.N[l]? = some v := by rfl) (hij : i ≠ j := by decide) (hil : i ≠ l := by decide) (hjl : j ≠ l := by decide)
    (hx : X.env.scope.names.lookup y = some .local := by rfl) (hy : X.env.scope.names.lookup z = some .local := by rfl) (hz : X.env.scope.names.lookup v = some .local := by rfl) (hw : swappedStores [.Tuple [.Name y px, .Name z py, .Name v pz] kt pt] (.Tuple [a, b, c] k2 pt2) X.env = pure (some [y, z, v]) := by rfl)
    (hs : swapsWithSole [.Tuple [.Name y px, .Name z py, .Name v pz] kt pt] (.Tuple [a, b, c] k2 pt2) pos.line X.env = pure false := by rfl) :
    PS X (.Assign [.Tuple [.Name y px, .Name z py, .Name v pz] kt pt] (.Tuple [a, b, c] k2 pt2) pos) (liftS C w0 H0 (dSetsN [i, j, l] mr)) := by
  obtain ⟨t, h1, h2⟩ := ha
  refine (ps_par3 hc hN hi hj hl hij hil hjl hx hy hz h1 hw hs).weak fun D σ H h => ?_
  obtain ⟨w, ρ, k, st, hm, ct⟩ := h
  refine h2 w ρ σ H _ _ _ st.st st.ok hm (fun w' x cls d H' l ok' xr q => ct.ex w' ρ σ H' x cls d l.fle (st.go l ok') xr q) fun w1 H1 ss vs l1 ok1 r fr q => ?_
  have el : vs.length = 3 := by rw [r.len, q.1] <;> rfl
  match vs, el, r, fr with
  | [u, v, x], _, r, fr => exact ⟨u, v, x, rfl, sets_go (is := [i, j, l]) st ct l1 ok1 r fr q.2.2⟩
theorem psd_setsN (is : List Nat) {tg : Expr} {n : Nat} {ct : Nat} {pt : Pos} (hn : is.length = n) (ha : PItA X es C mr) (hg : PG X tg (gTup C.K n (gNames is))) (hs : swapsWithSole [tg] (.Tuple es ct pt) pos.line X.env = pure false := by rfl) (hw : swappedStores [tg] (.Tuple es ct pt) X.env = pure none := by rfl) (h1 : (assignEach [tg] X.env).map (·.2) = [assign tg X.env] := by rfl) :
    PS X (.Assign [tg] (.Tuple es ct pt) pos) (liftS C w0 H0 (dSetsN is mr)) := by
  obtain ⟨t, h3, h2⟩ := ha
  exact (ps_asg (pe_tup h3) hg hs hw h1).weak fun _ _ _ h => parN_ok hn h2 h
end
end DL
namespace DL
open PySem PySem.Spec PyProof.Rows L2 LamX NdefX
/-! ### x.append(y.pop(e)) -/
def dAppPop (i j : Nat) (m : ME) : MS := fun ρ k => match ρ[i]?, ρ[j]? with
  | some (some (.own (.list l))), some (some (.own (.list r))) => m ρ (fun s => onI s fun n => 0 ≤ n ∧ l.length < sizeLine ∧ n < 2 ^ 63 ∧ match r[n.toNat]? with
    | some d => k.nx ((ρ.set j (some (.own (.list (r.eraseIdx n.toNat))))).set i (some (.own (.list (l ++ [d])))))
    | none => False) (k.ex ρ)
  | _, _ => False
theorem RepL.eraseIdx {K : PySem.W.Frag} {ex : Addr → Prop} {H : Hp} : ∀ {l : List PyData} {vs : List V} (n : Nat), RepL K ex H l vs → RepL K ex H (l.eraseIdx n) (vs.eraseIdx n)
  | [], vs, n, h => by
    simp only [RepL] at h
    subst h
    simp [RepL]
  | d :: l, vs, 0, h => by
    simp only [RepL] at h
    obtain ⟨v, r, rfl, _, h2⟩ := h
    simpa using h2
  | d :: l, vs, n + 1, h => by
    simp only [RepL] at h
    obtain ⟨v, r, rfl, h1, h2⟩ := h
    simp only [List.eraseIdx_cons_succ, RepL]
    exact ⟨v, _, rfl, h1, RepL.eraseIdx n h2⟩
section
variable {C : Cn} {w0 : Wd} {H0 : Hp} {σ : L2.St} {H : Hp} {D : Ends}
theorem appPop_ok {i j : Nat} {m : ME} (hij : i ≠ j) (h : liftS C w0 H0 (dAppPop i j m) D σ H) : tDrop (tBM C.K "list" rAppend (tVar i) (tCons (tBM C.K "list" rPopAt (tVar j) (tCons (lift C m) tNil)) tNil)) D σ H := by
  obtain ⟨w, ρ, k, st, hm, ct⟩ := h
  unfold dAppPop at hm
  split at hm
  · rename_i l r ei ej
    obtain ⟨a, ea, hex, nbw, ⟨vs, hl, rl⟩, h0⟩ := own_at st ei
    obtain ⟨b, eb, hexb, nbwb, ⟨us, hlb, rlb⟩, h0b⟩ := own_at st ej
    refine ⟨.ref a, ea, .inl ⟨rfl, _, .inl (.inl hl)⟩, ?_⟩
    refine ⟨.ref b, eb, .inl ⟨rfl, _, .inl (.inl hlb)⟩, ?_⟩
    refine inS st ct hm fun w1 s v H1 l1 st1 ct1 rs q => ?_
    obtain ⟨n, rfl, rfl, n0, hz, n1, q⟩ := onI_of rs q
    split at q
    · rename_i d ed
      obtain ⟨b', eb', hexb1, nbwb1, ⟨us1, hlb1, rlb1⟩, _⟩ := own_at st1 ej
      rw [eb] at eb'
      cases eb'
      obtain ⟨y, hy, ry⟩ := repL_get rlb1 ed
      have hlen : n.toNat < us1.length := (List.getElem?_eq_some_iff.mp hy).1
      refine ⟨b, us1, n, n.toNat, y, rfl, rfl, hlb1, Int.le_trans (by decide) n0, n1, ?_, hy, ?_⟩
      · have en : n = ((n.toNat : Nat) : Int) := by omega
        have z : seqIndex? ((n.toNat : Nat) : Int) us1.length = some n.toNat := by
          unfold seqIndex?
          simp only [show ¬ (((n.toNat : Nat) : Int) < 0) by omega, if_false]
          rw [if_pos (by simp; omega), Int.toNat_natCast]
        rw [← en] at z
        exact z
      · obtain ⟨fl, st2⟩ := st1.write (y := .list (r.eraseIdx n.toNat)) (o := .lst (us1.eraseIdx n.toNat)) ej eb trivial ⟨_, upd_same, RepL.upd ⟨_, hlb1, trivial⟩ hexb1 _ _ (rlb1.eraseIdx n.toNat)⟩
        have ry2 := Rep.upd (o := .lst (us1.eraseIdx n.toNat)) ⟨_, hlb1, trivial⟩ hexb1 d y ry
        have ei2 : (ρ.set j (some (S.own (.list (r.eraseIdx n.toNat)))))[i]? = some (some (S.own (.list l))) := by rw [List.getElem?_set_ne (Ne.symm hij)]; exact ei
        obtain ⟨a', ea', hexa2, nbwa2, ⟨vs2, hl2, rl2⟩, _⟩ := own_at st2 ei2
        rw [ea] at ea'
        cases ea'
        refine ⟨a, vs2, y, rfl, rfl, hl2, by rw [rl2.length]; exact hz, ?_⟩
        obtain ⟨fl2, st3⟩ := st2.write (y := .list (l ++ [d])) (o := .lst (vs2 ++ [y])) ei2 ea trivial ⟨_, upd_same, repL_app (Rep.upd ⟨_, hl2, trivial⟩ hexa2 d y ry2) (RepL.upd ⟨_, hl2, trivial⟩ hexa2 l vs2 rl2)⟩
        exact ct1.nx _ _ _ _ (fl.trans fl2) st3 q
    · exact q.elim
  · exact hm.elim
end
section
variable {X : Cx} {C : Cn} {e : Expr} {m : ME} {w0 : Wd} {H0 : Hp} {pos : Pos}
theorem psd_appPop (i j : Nat) {y z : Str} {q q2 apos apos2 cpos cpos2 : Pos} (he : PE X e (lift C m)) (hij : i ≠ j := by decide) (hN : X.N[i]? = some y := by rfl) (hN2 : X.N[j]? = some z := by rfl) (hK : X.K = C.K := by rfl) (hv : Vis X.env.scope y := by first | exact Or.inl rfl | exact Or.inr (Or.inl rfl) | exact Or.inr (Or.inr rfl)) (hv2 : Vis X.env.scope z := by first | exact Or.inl rfl | exact Or.inr (Or.inl rfl) | exact Or.inr (Or.inr rfl))
    (hd : (y == ("__debug__" : Str)) = false := by decide) (hcd : (y == ("__classdict__" : Str)) = false := by decide) (hd2 : (z == ("__debug__" : Str)) = false := by decide) (hcd2 : (z == ("__classdict__" : Str)) = false := by decide)
    (hbase : attributeBase (.Name y q) "append" X.env (eval (.Name y q) X.env) = eval (.Name y q) X.env := by rfl) (hbase2 : attributeBase (.Name z q2) "pop" X.env (eval (.Name z q2) X.env) = eval (.Name z q2) X.env := by rfl)
    (hfew2 : ((backTo cpos2 (starEach (e :: []) X.env)).all (fun x => !x.1) && (backToKw cpos2 (keywordEach [] X.env)).all (fun x => x.1.isSome)
      && decide ((e :: []).length + ([] : List Keyword).length + (if ([] : List Keyword).isEmpty then 0 else 1) < 30)) = true := by rfl)
    (hline2 : (apos2.endLine == cpos2.line) = true := by rfl) (hs2 : starEach (e :: []) X.env = (false, eval e X.env) :: starEach [] X.env := by rfl) (hplain2 : (backTo cpos2 (starEach [] X.env)).any (·.1) = false := by rfl)
    (hfew : ((backTo cpos (starEach (.Call (.Attribute (.Name z q2) "pop" apos2) [e] [] cpos2 :: []) X.env)).all (fun x => !x.1) && (backToKw cpos (keywordEach [] X.env)).all (fun x => x.1.isSome)
      && decide ((.Call (.Attribute (.Name z q2) "pop" apos2) [e] [] cpos2 :: [] : List Expr).length + ([] : List Keyword).length + (if ([] : List Keyword).isEmpty then 0 else 1) < 30)) = true := by rfl)
    (hline : (apos.endLine == cpos.line) = true := by rfl) (hs : starEach (.Call (.Attribute (.Name z q2) "pop" apos2) [e] [] cpos2 :: []) X.env = (false, eval (.Call (.Attribute (.Name z q2) "pop" apos2) [e] [] cpos2) X.env) :: starEach [] X.env := by rfl) (hplain : (backTo cpos (starEach [] X.env)).any (·.1) = false := by rfl)
    (hsw : swapsWith (.Call (.Attribute (.Name y q) "append" apos) [.Call (.Attribute (.Name z q2) "pop" apos2) [e] [] cpos2] [] cpos) none pos.line X.env = pure false := by rfl) :
    PS X (.Expr (.Call (.Attribute (.Name y q) "append" apos) [.Call (.Attribute (.Name z q2) "pop" apos2) [e] [] cpos2] [] cpos) pos) (liftS C w0 H0 (dAppPop i j m)) :=
  (ps_expr (pe_bm PySem.F.plainAttrs_list PySem.F.slot_list_append PySem.F.type_list_append mt_append (pe_var hN hv hd hcd)
    (pa_cons (pe_bm PySem.F.plainAttrs_list PySem.F.slot_list_pop PySem.F.type_list_pop mt_popAt (pe_var hN2 hv2 hd2 hcd2) (pa_cons he pa_nil hs2) hbase2 hfew2 hline2 hs2 hplain2) pa_nil hs) hbase hfew hline hs hplain) hsw).weak fun _ _ _ h => by
    rw [hK]
    exact appPop_ok hij h
end
end DL
namespace DL
open PySem PySem.Spec PyProof.Rows L2 LamX NdefX
/-! ### dicts whose keys are whole numbers and texts -/
def keyR : D → Option Key
  | .int i => some (.inl i)
  | .str x => some (.inr x)
  | _ => none
theorem keyR_D (k : Key) : keyR (keyD k) = some k := by cases k <;> rfl
theorem keyR_eq {d : D} {k : Key} (h : keyR d = some k) : d = keyD k := by
  cases d with
  | int i => cases h; rfl
  | str x => cases h; rfl
  | _ => cases h
theorem kV_rep {K : PySem.W.Frag} {ex : Addr → Prop} {H : Hp} {d : D} {k : Key} {v : V} (h : keyR d = some k) (r : Rep K ex H d v) : v = kV k := by
  obtain rfl := keyR_eq h
  cases k with
  | inl i => simpa only [keyD, Rep, kV] using r
  | inr x => simpa only [keyD, Rep, kV] using r
def keyB (a b : D) : Bool := match keyR a, keyR b with
  | some x, some y => decide (x = y)
  | _, _ => false
theorem keyB_D (j k : Key) : keyB (keyD j) (keyD k) = decide (j = k) := by unfold keyB; rw [keyR_D, keyR_D]
def lookD (l : List (D × D)) (k : D) : Option D := (l.find? fun p => keyB p.1 k).map (·.2)
def putD (l : List (D × D)) (k d : D) : List (D × D) := if (l.any fun p => keyB p.1 k) then l.map (fun p => if keyB p.1 k then (p.1, d) else p) else l ++ [(k, d)]
def mergeD (l ps : List (D × D)) : List (D × D) := ps.foldl (fun acc p => putD acc p.1 p.2) l
/-- all keys are whole numbers or texts -/
def flatK (l : List (D × D)) : Bool := l.all fun p => (keyR p.1).isSome
def kD (ks : List (Key × V)) : List (D × V) := ks.map fun p => (keyD p.1, p.2)
section
variable {K : PySem.W.Frag} {ex : Addr → Prop} {H : Hp}
theorem repK_look {k : Key} : ∀ {l : List (D × D)} {ks : List (Key × V)}, RepK K ex H l (kD ks) → (∀ d, lookD l (keyD k) = some d → ∃ v, valV ks k = some v ∧ Rep K ex H d v) ∧ (lookD l (keyD k) = none → valV ks k = none)
  | [], [], _ => ⟨fun d h => (by cases h), fun _ => rfl⟩
  | [], p :: ks, h => by simp [RepK, kD] at h
  | (j, d) :: l, [], h => by simp [RepK, kD] at h
  | (j, d) :: l, (a, u) :: ks, h => by
    simp only [RepK, kD, List.map_cons, List.cons.injEq, Prod.mk.injEq] at h
    obtain ⟨v, r, ⟨⟨e1, e2⟩, e3⟩, h1, h2⟩ := h
    subst e1 e2 e3
    have ih := repK_look (k := k) (l := l) (ks := ks) h2
    by_cases hc : a = k
    · subst hc
      have e : lookD ((keyD a, d) :: l) (keyD a) = some d := by unfold lookD; rw [List.find?_cons_of_pos (by rw [keyB_D]; simp)] <;> rfl
      rw [e, valV_pos (p := (a, u)) rfl]
      refine ⟨fun x q => ?_, fun q => by cases q⟩
      cases q
      exact ⟨u, rfl, h1⟩
    · have e : lookD ((keyD a, d) :: l) (keyD k) = lookD l (keyD k) := by unfold lookD; rw [List.find?_cons_of_neg (by rw [keyB_D]; simpa using hc)]
      rw [e, valV_neg (p := (a, u)) hc]
      exact ih
theorem repK_any {k : Key} : ∀ {l : List (D × D)} {ks : List (Key × V)}, RepK K ex H l (kD ks) → (l.any fun p => keyB p.1 (keyD k)) = ks.any fun kv => decide (kv.1 = k)
  | [], [], _ => rfl
  | [], p :: ks, h => by simp [RepK, kD] at h
  | (j, d) :: l, [], h => by simp [RepK, kD] at h
  | (j, d) :: l, (a, u) :: ks, h => by
    simp only [RepK, kD, List.map_cons, List.cons.injEq, Prod.mk.injEq] at h
    obtain ⟨v, r, ⟨⟨e1, e2⟩, e3⟩, h1, h2⟩ := h
    subst e1 e2 e3
    rw [List.any_cons, List.any_cons, keyB_D, repK_any (l := l) (ks := ks) h2]
theorem repK_repl {k : Key} {d : D} {v : V} (rd : Rep K ex H d v) : ∀ {l : List (D × D)} {ks : List (Key × V)}, RepK K ex H l (kD ks) → RepK K ex H (l.map fun p => if keyB p.1 (keyD k) then (p.1, d) else p) (kD (ks.map fun kv => if kv.1 = k then (kv.1, v) else kv))
  | [], [], _ => by simp [RepK, kD]
  | [], p :: ks, h => by simp [RepK, kD] at h
  | (j, x) :: l, [], h => by simp [RepK, kD] at h
  | (j, x) :: l, (a, u) :: ks, h => by
    simp only [RepK, kD, List.map_cons, List.cons.injEq, Prod.mk.injEq] at h
    obtain ⟨y, r, ⟨⟨e1, e2⟩, e3⟩, h1, h2⟩ := h
    subst e1 e2 e3
    have ih := repK_repl (k := k) rd (l := l) (ks := ks) h2
    unfold kD at ih
    by_cases hc : a = k
    · subst hc
      have e : keyB (keyD a) (keyD a) = true := by rw [keyB_D]; simp
      simp only [kD, List.map_cons, e, if_true, RepK]
      exact ⟨v, _, rfl, rd, ih⟩
    · have e : keyB (keyD a) (keyD k) = false := by rw [keyB_D]; simpa using hc
      simp only [kD, List.map_cons, e, hc, if_false, RepK, Bool.false_eq_true]
      exact ⟨u, _, rfl, h1, ih⟩
theorem repK_app {k : Key} {d : D} {v : V} (rd : Rep K ex H d v) : ∀ {l : List (D × D)} {ks : List (Key × V)}, RepK K ex H l (kD ks) → RepK K ex H (l ++ [(keyD k, d)]) (kD (ks ++ [(k, v)]))
  | [], [], _ => by simp only [kD, List.nil_append, List.map_cons, List.map_nil, RepK]; exact ⟨v, [], rfl, rd, rfl⟩
  | [], p :: ks, h => by simp [RepK, kD] at h
  | (j, x) :: l, [], h => by simp [RepK, kD] at h
  | (j, x) :: l, (a, u) :: ks, h => by
    simp only [RepK, kD, List.map_cons, List.cons.injEq, Prod.mk.injEq] at h
    obtain ⟨y, r, ⟨⟨e1, e2⟩, e3⟩, h1, h2⟩ := h
    subst e1 e2 e3
    have ih := repK_app (k := k) rd (l := l) (ks := ks) h2
    unfold kD at ih
    simp only [kD, List.cons_append, List.map_cons, RepK]
    exact ⟨u, _, rfl, h1, ih⟩
theorem repK_put {k : Key} {d : D} {v : V} (rd : Rep K ex H d v) {l : List (D × D)} {ks : List (Key × V)} (h : RepK K ex H l (kD ks)) : RepK K ex H (putD l (keyD k) d) (kD (putK ks k v)) := by
  unfold putD putK
  rw [repK_any h]
  split
  · exact repK_repl rd h
  · exact repK_app rd h
theorem repK_len : ∀ {l : List (D × D)} {es : List (D × V)}, RepK K ex H l es → es.length = l.length
  | [], es, h => by simp only [RepK] at h; subst h; rfl
  | (j, x) :: l, es, h => by
    simp only [RepK] at h
    obtain ⟨v, r, rfl, _, h2⟩ := h
    rw [List.length_cons, List.length_cons, repK_len h2]
/-- a dict with flat keys is a dK -/
theorem flat_dK {u : HO} {es : List (D × V)} {l : List (D × D)} (d : DctO u es) (r : RepK K ex H l es) (f : flatK l = true) : ∃ ks : List (Key × V), u = .dK ks ∧ es = kD ks := by
  cases d with
  | k ks => exact ⟨ks, rfl, rfl⟩
  | t ks hn =>
    cases ks with
    | nil => exact absurd rfl hn
    | cons p ks =>
      cases l with
      | nil => simp [RepK] at r
      | cons q l =>
        obtain ⟨j, x⟩ := q
        simp only [RepK, List.map_cons, List.cons.injEq, Prod.mk.injEq] at r
        obtain ⟨v, r, ⟨⟨e1, e2⟩, e3⟩, h1, h2⟩ := r
        subst e1
        simp [flatK, keyR] at f
end
/-- a dict, one's own or one that stands still, read now -/
def onDc (s : S) (P : List (D × D) → Prop) : Prop := match s with
  | .d (.dict l) => flatK l = true ∧ P l
  | .own (.dict l) => flatK l = true ∧ P l
  | _ => False
/-- a dict that stands still -/
def onDz (s : S) (P : List (D × D) → Prop) : Prop := match s with
  | .d (.dict l) => flatK l = true ∧ P l
  | _ => False
section
variable {C : Cn} {w : Wd} {H : Hp} {s : S} {v : V} {P : List (D × D) → Prop}
theorem onDc_of (r : SRep C.K w H s v) (h : onDc s P) : ∃ (l : List (D × D)) (a : Addr) (ks : List (Key × V)), v = .ref a ∧ Rd H a (.dK ks) ∧ RepK C.K w.ex H l (kD ks) ∧ flatK l = true ∧ P l ∧ (s = .d (.dict l) ∨ s = .own (.dict l)) := by
  unfold onDc at h
  split at h
  · rename_i l
    have r : Rep C.K w.ex H (.dict l) v := r
    simp only [Rep] at r
    obtain ⟨a, o, u, es, rfl, h1, d, h2⟩ := r
    obtain ⟨ks, rfl, rfl⟩ := flat_dK d h2 h.1
    exact ⟨l, a, ks, rfl, .inr ⟨o, h1⟩, h2, h.1, h.2, .inl rfl⟩
  · rename_i l
    obtain ⟨a, rfl, _, _, u, es, h1, d, h2⟩ := r
    obtain ⟨ks, rfl, rfl⟩ := flat_dK d h2 h.1
    exact ⟨l, a, ks, rfl, .inl h1, h2, h.1, h.2, .inr rfl⟩
  · exact h.elim
theorem onDz_of (r : SRep C.K w H s v) (h : onDz s P) : ∃ (l : List (D × D)) (a : Addr) (o : Obj) (ks : List (Key × V)), s = .d (.dict l) ∧ v = .ref a ∧ H a = some (.frz o (.dK ks)) ∧ RepK C.K w.ex H l (kD ks) ∧ flatK l = true ∧ P l := by
  unfold onDz at h
  split at h
  · rename_i l
    have r : Rep C.K w.ex H (.dict l) v := r
    simp only [Rep] at r
    obtain ⟨a, o, u, es, rfl, h1, d, h2⟩ := r
    obtain ⟨ks, rfl, rfl⟩ := flat_dK d h2 h.1
    exact ⟨l, a, o, ks, rfl, rfl, h1, h2, h.1, h.2⟩
  · exact h.elim
end
/-! ### d.get(k, x), d[k], k in d -/
section
variable {K : PySem.W.Frag} {w : Wd} {H : Hp}
theorem dget_of {a : Addr} {ks : List (Key × V)} {l : List (D × D)} {k : D} {y : V} (h1 : Rd H a (.dK ks)) (h2 : RepK K w.ex H l (kD ks)) (hk : (keyR k).isSome = true) (ry : Rep K w.ex H k y) : (∀ d, lookD l k = some d → ∃ v, DGet H a y (some v) ∧ Rep K w.ex H d v) ∧ (lookD l k = none → DGet H a y none) := by
  obtain ⟨key, hkey⟩ := Option.isSome_iff_exists.mp hk
  have ey := kV_rep hkey ry
  have ek := keyR_eq hkey
  subst ey ek
  obtain ⟨g1, g2⟩ := repK_look (k := key) h2
  refine ⟨fun d e => ?_, fun e => ?_⟩
  · obtain ⟨v, hv, rv⟩ := g1 d e
    exact ⟨v, .inl ⟨ks, key, h1, rfl, hv.symm⟩, rv⟩
  · exact .inl ⟨ks, key, h1, rfl, (g2 e).symm⟩
end
def dGet2 (md mk mx : ME) : ME := fun ρ Q E => md ρ (fun s => onDc s fun l => mk ρ (fun t => onD t fun k => (keyR k).isSome = true ∧ mx ρ (fun u => match lookD l k with
  | some d => Q (.d d)
  | none => Q u) E) E) E
theorem onDc_again {C : Cn} {w : Wd} {H : Hp} {s : S} {v : V} {l : List (D × D)} (e : s = .d (.dict l) ∨ s = .own (.dict l)) (f : flatK l = true) (r : SRep C.K w H s v) : ∃ (a : Addr) (ks : List (Key × V)), v = .ref a ∧ Rd H a (.dK ks) ∧ RepK C.K w.ex H l (kD ks) := by
  rcases e with rfl | rfl
  · obtain ⟨l', a, ks, h1, h2, h3, _, _, h4 | h4⟩ := onDc_of (C := C) (P := fun _ => True) r ⟨f, trivial⟩
    · cases h4
      exact ⟨a, ks, h1, h2, h3⟩
    · cases h4
  · obtain ⟨l', a, ks, h1, h2, h3, _, _, h4 | h4⟩ := onDc_of (C := C) (P := fun _ => True) r ⟨f, trivial⟩
    · cases h4
    · cases h4
      exact ⟨a, ks, h1, h2, h3⟩
theorem get2_ok {C : Cn} {md mk' mx : ME} {σ : L2.St} {H : Hp} {Q : VK} (h : lift C (dGet2 md mk' mx) σ H Q) : tDGet2 (lift C md) (lift C mk') (lift C mx) σ H Q := by
  obtain ⟨w, ρ, Q', E', st, ok, hm, ct⟩ := h
  refine mk st ok hm (fun w1 s v H1 le ok1 r q => ?_) ct.ex
  obtain ⟨l, a, ks, rfl, h1, h2, hf, q, es⟩ := onDc_of (C := C) r q
  refine ⟨a, rfl, .inl ⟨ks, h1⟩, ?_⟩
  refine mk (st.le ok le) ok1 q (fun w2 t y H2 le2 ok2 r2 q2 => ?_) (ct.le le).ex
  obtain ⟨k, rfl, hk, q2⟩ := onD_of q2
  have st2 := (st.le ok le).le ok1 le2
  refine mk st2 ok2 q2 (fun w3 u z H3 le3 ok3 r3 q3 => ?_) ((ct.le le).le le2).ex
  obtain ⟨a', ks', e', h1', h2'⟩ := onDc_again (C := C) es hf ((r.le ok1 le2).le ok2 le3)
  cases e'
  have ry : Rep C.K w3.ex H3 k y := (show SRep C.K w3 H3 (.d k) y from r2.le ok2 le3)
  obtain ⟨g1, g2⟩ := dget_of h1' h2' hk ry
  have ct3 := ((ct.le le).le le2).le le3
  split at q3
  · rename_i d e
    obtain ⟨v, g, rv⟩ := g1 d e
    exact ⟨some v, g, ct3.here ok3 (show SRep C.K w3 H3 (.d d) v from rv) q3⟩
  · rename_i e
    exact ⟨none, g2 e, ct3.here ok3 r3 q3⟩
def ixDc : O2 := fun x y Q _ => onDc x fun l => onD y fun k => (keyR k).isSome = true ∧ match lookD l k with
  | some d => Q (.d d)
  | none => False
def rDG : R2 := fun x y H Q => ∃ (a : Addr) (v : V), x = .ref a ∧ DGet H a y (some v) ∧ Q v H
theorem ixDc_is {C : Cn} : Is2 C ixDc rDG := by
  intro w H σ x y v u Q' E' Q ok rx ry h ct
  obtain ⟨l, a, ks, rfl, h1, h2, hf, h, es⟩ := onDc_of (C := C) rx h
  obtain ⟨k, rfl, hk, h⟩ := onD_of h
  obtain ⟨g1, g2⟩ := dget_of h1 h2 hk (show Rep C.K w.ex H k u from ry)
  split at h
  · rename_i d e
    obtain ⟨v, g, rv⟩ := g1 d e
    exact ⟨a, v, rfl, g, ct.here ok (show SRep C.K w H (.d d) v from rv) h⟩
  · exact h.elim
def inDc (neg : Bool) : O2 := fun x y Q _ => onD x fun k => onDc y fun l => (keyR k).isSome = true ∧ Q (.d (.bool (if neg then !(lookD l k).isSome else (lookD l k).isSome)))
def rDIn (neg : Bool) : R2 := fun x y H Q => ∃ (a : Addr) (o : Option V), y = .ref a ∧ DGet H a x o ∧ Q (.bl (if neg then !o.isSome else o.isSome)) H
theorem inDc_is {C : Cn} {neg : Bool} : Is2 C (inDc neg) (rDIn neg) := by
  intro w H σ x y v u Q' E' Q ok rx ry h ct
  obtain ⟨k, rfl, h⟩ := onD_of h
  obtain ⟨l, a, ks, rfl, h1, h2, hf, ⟨hk, h⟩, es⟩ := onDc_of (C := C) ry h
  obtain ⟨g1, g2⟩ := dget_of h1 h2 hk (show Rep C.K w.ex H k v from rx)
  cases e : lookD l k with
  | none =>
    rw [e] at h
    refine ⟨a, none, rfl, g2 e, ct.here ok rep_bl h⟩
  | some d =>
    rw [e] at h
    obtain ⟨v, g, rv⟩ := g1 d e
    exact ⟨a, some v, rfl, g, ct.here ok rep_bl h⟩
end DL
namespace DL
open PySem PySem.Spec PyProof.Rows L2 LamX NdefX
/-! ### walks over a dict that stands still -/
theorem repK_get {K : PySem.W.Frag} {ex : Addr → Prop} {H : Hp} : ∀ {l : List (D × D)} {ks : List (Key × V)} {i : Nat} {p : D × D}, RepK K ex H l (kD ks) → l[i]? = some p → ∃ (k : Key) (v : V), ks[i]? = some (k, v) ∧ p.1 = keyD k ∧ Rep K ex H p.2 v
  | [], _, _, _, _, e => by simp at e
  | (j, d) :: l, [], _, _, h, _ => by simp [RepK, kD] at h
  | (j, d) :: l, (a, u) :: ks, 0, p, h, e => by
    simp only [RepK, kD, List.map_cons, List.cons.injEq, Prod.mk.injEq] at h
    obtain ⟨v, r, ⟨⟨e1, e2⟩, e3⟩, h1, h2⟩ := h
    subst e1 e2 e3
    simp only [List.getElem?_cons_zero, Option.some.injEq] at e
    subst e
    exact ⟨a, u, rfl, rfl, h1⟩
  | (j, d) :: l, (a, u) :: ks, i + 1, p, h, e => by
    simp only [RepK, kD, List.map_cons, List.cons.injEq, Prod.mk.injEq] at h
    obtain ⟨v, r, ⟨⟨e1, e2⟩, e3⟩, h1, h2⟩ := h
    subst e1 e2 e3
    exact repK_get (i := i) h2 (by simpa using e)
theorem rep_key {K : PySem.W.Frag} {ex : Addr → Prop} {H : Hp} (k : Key) : Rep K ex H (keyD k) (kV k) := by cases k <;> simp only [keyD, kV, Rep]
section
variable {C : Cn} {w : Wd} {H : Hp} {a : Addr} {o : Obj} {ks : List (Key × V)} {l : List (D × D)}
theorem frz_fle {w' : Wd} {H' : Hp} (ok : Ok C.T w H) (fl : FLe w H w' H') (h : H a = some (.frz o (.dK ks))) : H' a = some (.frz o (.dK ks)) := fl.keep _ _ h (ok.nex h fun z => z) fun _ z => by cases z
theorem kD_len (h : RepK C.K w.ex H l (kD ks)) : ks.length = l.length := by
  have := repK_len h
  unfold kD at this
  rwa [List.length_map] at this
theorem good_keys (ok : Ok C.T w H) (h : H a = some (.frz o (.dK ks))) (r : RepK C.K w.ex H l (kD ks)) : Good C (Itk a o ks) (l.map fun p => S.d p.1) w H := fun w' H' fl ok' => by
  have q := frz_fle ok fl h
  have r' := RepK.fle ok fl l _ r
  refine ⟨fun i s e => ?_, ⟨q, by rw [List.length_map, kD_len r]; exact Nat.le_refl _⟩⟩
  rw [List.getElem?_map] at e
  cases hp : l[i]? with
  | none => rw [hp] at e; cases e
  | some p =>
    rw [hp] at e
    cases e
    obtain ⟨k, v, hk, ek, rv⟩ := repK_get r' hp
    refine ⟨⟨q, (List.getElem?_eq_some_iff.mp hk).1⟩, fun x H'' y => ?_⟩
    obtain ⟨rfl, k2, v2, e2, rfl⟩ := y
    rw [hk] at e2
    cases e2
    exact ⟨Le.refl _ _, ok', (show Rep C.K w'.ex _ p.1 (kV k) by rw [ek]; exact rep_key k)⟩
theorem good_vals (ok : Ok C.T w H) (h : H a = some (.frz o (.dK ks))) (r : RepK C.K w.ex H l (kD ks)) : Good C (Itd a o ks) (l.map fun p => S.d p.2) w H := fun w' H' fl ok' => by
  have q := frz_fle ok fl h
  have r' := RepK.fle ok fl l _ r
  refine ⟨fun i s e => ?_, ⟨q, by rw [List.length_map, kD_len r]; exact Nat.le_refl _⟩⟩
  rw [List.getElem?_map] at e
  cases hp : l[i]? with
  | none => rw [hp] at e; cases e
  | some p =>
    rw [hp] at e
    cases e
    obtain ⟨k, v, hk, ek, rv⟩ := repK_get r' hp
    refine ⟨⟨q, (List.getElem?_eq_some_iff.mp hk).1⟩, fun x H'' y => ?_⟩
    obtain ⟨rfl, k2, e2⟩ := y
    rw [hk] at e2
    cases e2
    exact ⟨Le.refl _ _, ok', rv⟩
theorem good_items (ok : Ok C.T w H) (h : H a = some (.frz o (.dK ks))) (r : RepK C.K w.ex H l (kD ks)) : Good C (Iti a o ks) (l.map fun p => S.d (.tuple [p.1, p.2])) w H := fun w' H' fl ok' => by
  have q := frz_fle ok fl h
  have r' := RepK.fle ok fl l _ r
  refine ⟨fun i s e => ?_, ⟨q, by rw [List.length_map, kD_len r]; exact Nat.le_refl _⟩⟩
  rw [List.getElem?_map] at e
  cases hp : l[i]? with
  | none => rw [hp] at e; cases e
  | some p =>
    rw [hp] at e
    cases e
    obtain ⟨k, v, hk, ek, rv⟩ := repK_get r' hp
    refine ⟨⟨q, (List.getElem?_eq_some_iff.mp hk).1⟩, fun x H'' y => ?_⟩
    obtain ⟨t, k2, v2, e2, rfl, hn, rfl⟩ := y
    rw [hk] at e2
    cases e2
    refine ⟨Le.new1 hn, ok'.new1 hn, ?_⟩
    have l3 : Le w' H' w' (upd H' t (.tup [kV k, v])) := Le.new1 hn
    show Rep C.K w'.ex _ (.tuple [p.1, p.2]) (.ref t)
    simp only [Rep]
    refine ⟨t, _, rfl, SqT.of upd_same, ?_⟩
    simp only [RepL]
    exact ⟨_, _, rfl, by rw [ek]; exact rep_key k, _, _, rfl, Rep.le ok' l3 _ _ rv, rfl⟩
end
def dKeys (m : ME) : MI := fun ρ F E => m ρ (fun s => onDz s fun l => F (l.map fun p => S.d p.1)) E
def dVals (m : ME) : MI := fun ρ F E => m ρ (fun s => onDz s fun l => F (l.map fun p => S.d p.2)) E
def dItems (m : ME) : MI := fun ρ F E => m ρ (fun s => onDz s fun l => F (l.map fun p => S.d (.tuple [p.1, p.2]))) E
theorem keys_ok {C : Cn} {m : ME} : IsI C (dKeys m) (iKeys (lift C m)) := fun w ρ σ H F E' R st ok hm hx hk => by
  refine mk st ok hm (fun w1 s v H1 le ok1 r q => ?_) hx
  obtain ⟨l, a, o, ks, rfl, rfl, h1, h2, hf, q⟩ := onDz_of (C := C) r q
  exact ⟨a, o, rfl, .inl ⟨ks, h1, hk w1 H1 _ _ le ok1 q (good_keys ok1 h1 h2)⟩⟩
theorem vals_ok {C : Cn} {m : ME} : IsI C (dVals m) (iVals (lift C m)) := fun w ρ σ H F E' R st ok hm hx hk => by
  refine mk st ok hm (fun w1 s v H1 le ok1 r q => ?_) hx
  obtain ⟨l, a, o, ks, rfl, rfl, h1, h2, hf, q⟩ := onDz_of (C := C) r q
  exact ⟨a, o, ks, rfl, h1, hk w1 H1 _ _ le ok1 q (good_vals ok1 h1 h2)⟩
theorem items_ok {C : Cn} {m : ME} : IsI C (dItems m) (iItems (lift C m)) := fun w ρ σ H F E' R st ok hm hx hk => by
  refine mk st ok hm (fun w1 s v H1 le ok1 r q => ?_) hx
  obtain ⟨l, a, o, ks, rfl, rfl, h1, h2, hf, q⟩ := onDz_of (C := C) r q
  exact ⟨a, o, ks, rfl, h1, hk w1 H1 _ _ le ok1 q (good_items ok1 h1 h2)⟩
/-! ### d[k] = e -/
def dPut (i : Nat) (mk' me : ME) : MS := fun ρ k => me ρ (fun s => onD s fun d => match ρ[i]? with
  | some (some (.own (.dict l))) => mk' ρ (fun t => onD t fun c => flatK l = true ∧ (keyR c).isSome = true ∧ l.length < sizeLine ∧ k.nx (ρ.set i (some (.own (.dict (putD l c d)))))) (k.ex ρ)
  | _ => False) (k.ex ρ)
section
variable {C : Cn} {w0 : Wd} {H0 : Hp} {σ : L2.St} {H : Hp} {D : Ends}
theorem put_ok {i : Nat} {mk' me : ME} (h : liftS C w0 H0 (dPut i mk' me) D σ H) : sDPut (tVar i) (lift C mk') (lift C me) D σ H := by
  obtain ⟨w, ρ, k, st, hm, ct⟩ := h
  refine inS st ct hm fun w1 s v H1 l1 st1 ct1 r q => ?_
  obtain ⟨d, rfl, q⟩ := onD_of q
  split at q
  · rename_i l e
    obtain ⟨a, ea, hex, nbw, ow, h0⟩ := own_at st1 e
    refine ⟨.ref a, ea, ?_⟩
    refine inS st1 ct1 q fun w2 t y H2 l2 st2 ct2 r2 q2 => ?_
    obtain ⟨c, rfl, hf, hk, hz, q2⟩ := onD_of q2
    obtain ⟨a', ea', hex2, nbw2, ⟨u, es, hu, dd, rl⟩, _⟩ := own_at st2 e
    rw [ea] at ea'
    cases ea'
    obtain ⟨ks, rfl, rfl⟩ := flat_dK dd rl hf
    obtain ⟨key, hkey⟩ := Option.isSome_iff_exists.mp hk
    have ry : Rep C.K w2.ex H2 c y := r2
    have ey := kV_rep hkey ry
    have ec := keyR_eq hkey
    subst ey ec
    have rd : Rep C.K w2.ex H2 d v := (show SRep C.K w2 H2 (.d d) v from r.le st1.ok l2)
    have ld : ∃ u, H2 a = some u ∧ LD u := ⟨_, hu, trivial⟩
    refine ⟨a, _, rfl, .inl ⟨ks, key, hu, rfl, by rw [kD_len rl]; exact hz, rfl⟩, ?_⟩
    obtain ⟨fl, st3⟩ := st2.write (y := .dict (putD l (keyD key) d)) (o := .dK (putK ks key v)) e ea trivial ⟨_, _, upd_same, .k _, repK_put (Rep.upd ld hex2 d v rd) (RepK.upd ld hex2 l _ rl)⟩
    exact ct2.nx _ _ _ _ fl st3 q2
  · exact q.elim
/-! ### a dict of one's own stands still from now on -/
def dFreezeD (i : Nat) (m : MS) : MS := fun ρ k => match ρ[i]? with
  | some (some (.own (.dict l))) => m (ρ.set i (some (.d (.dict l)))) k
  | _ => False
theorem StS.lock {w : Wd} {ρ : Rho} (st : StS C w0 H0 w ρ σ H) {i : Nat} {l : List (PyData × PyData)} {a : Addr} {u : HO} (e : ρ[i]? = some (some (.own (.dict l)))) (ea : σ[i]? = some (some (.ref a))) (hu : H a = some u) (od : Obj) :
    ∃ w', FLe w H w' (upd H a (.frz od u)) ∧ StS C w0 H0 w' (ρ.set i (some (.d (.dict l)))) σ (upd H a (.frz od u)) := by
  obtain ⟨a', e1, h1, h2, h3, h4⟩ := own_at st e
  rw [ea] at e1
  cases e1
  obtain ⟨u', es, hu', dd, rl⟩ := h3
  rw [hu] at hu'
  cases hu'
  have ld : ∃ u, H a = some u ∧ LD u := ⟨_, hu, dd.ld⟩
  have nn : ∀ b, upd H a (.frz od u) b = none → H b = none := fun b z => by
    unfold L2.upd at z
    split at z
    · cases z
    · exact z
  have ok' : Ok C.T (w.drop a h2) (upd H a (.frz od u)) := by
    refine ⟨fun b z => ?_, fun b z => ?_, tabs_upd st.ok.tabs ld⟩
    · rw [upd_ne z.2]; exact st.ok.al b z.1
    · obtain ⟨p, q, r, e⟩ := st.ok.bowl b z
      exact ⟨p, q, r, by rw [upd_ne (show b ≠ a from fun hb => h2 (by rw [← hb]; exact z))]; exact e⟩
  have fl : FLe w H (w.drop a h2) (upd H a (.frz od u)) := ⟨fun b v q n _ => by rw [upd_ne (show b ≠ a from fun hb => n (by rw [hb]; exact h1))]; exact q, fun b z => .inl z.1, nn⟩
  refine ⟨w.drop a h2, fl, ⟨⟨by rw [List.length_set]; exact st.st.len, fun j s e2 => ?_, fun j1 j2 x y b q1 q2 q3 q4 => ?_⟩, ok', st.ok0, ⟨fun b z => ⟨st.le.ex b z, st.nex h4 b z⟩, st.le.bw, fun b z => st.le.new b z.1, st.le.nbw, fun b v q n t => ?_, fun b z => st.le.non b (nn b z)⟩, fun j y b q1 q2 => ?_⟩⟩
  · rcases get_set e2 with ⟨rfl, rfl, hl⟩ | ⟨ne, e2⟩
    · refine ⟨.ref a, ea, ?_⟩
      show Rep C.K _ _ (.dict l) (.ref a)
      simp only [Rep]
      exact ⟨a, od, u, es, rfl, upd_same, dd, RepK.exs (fun b z => z.1) l es (RepK.upd ld h1 l es rl)⟩
    · obtain ⟨v, e3, r⟩ := st.st.all j s e2
      refine ⟨v, e3, ?_⟩
      cases s with
      | d t => exact Rep.exs (fun b z => z.1) t v (Rep.upd ld h1 t v r)
      | bowl => exact r
      | own t =>
        obtain ⟨b, rfl, g1, g2, g3⟩ := r
        have nb : b ≠ a := fun z => by
          subst z
          exact ne (st.st.inj i j _ t b e e2 ea e3)
        refine ⟨b, rfl, ⟨g1, nb⟩, g2, ?_⟩
        cases t with
        | list l' =>
          obtain ⟨vs, q1, q2⟩ := g3
          exact ⟨vs, by rw [upd_ne nb]; exact q1, RepL.exs (fun b z => z.1) l' vs (RepL.upd ld h1 l' vs q2)⟩
        | dict l' =>
          obtain ⟨u2, es2, q1, q3, q2⟩ := g3
          exact ⟨u2, es2, by rw [upd_ne nb]; exact q1, q3, RepK.exs (fun b z => z.1) l' es2 (RepK.upd ld h1 l' es2 q2)⟩
        | _ => exact g3.elim
      | ro l' =>
        obtain ⟨b, vs, e, q1, q2⟩ := r
        exact ⟨b, vs, e, RoAt.upd ld q1, RepL.exs (fun b z => z.1) l' vs (RepL.upd ld h1 l' vs q2)⟩
      | fn v => exact ⟨r.1, r.2.trans fl⟩
      | bowls n =>
        obtain ⟨b, vs, e, f, hl, hbs⟩ := r
        exact ⟨b, vs, e, ⟨by rw [upd_ne (show b ≠ a from fun z => f.2 (by rw [z]; exact h1))]; exact f.1, fun z => f.2 z.1⟩, hl, hbs⟩
  · rcases get_set q1 with ⟨_, z, _⟩ | ⟨ne1, q1⟩
    · cases z
    · rcases get_set q2 with ⟨_, z, _⟩ | ⟨ne2, q2⟩
      · cases z
      · exact st.st.inj j1 j2 x y b q1 q2 q3 q4
  · have hb : b ≠ a := fun z => by rw [z, h4] at q; cases q
    rw [upd_ne hb]
    exact st.le.keep b v q n t
  · rcases get_set q1 with ⟨_, z, _⟩ | ⟨ne1, q1⟩
    · cases z
    · exact st.fr j y b q1 q2
end
theorem pss_lock {X : Cx} {sts : List Stmt} {C : Cn} {w0 : Wd} {H0 : Hp} {m : MS} (i : Nat) (h : PSs X sts (liftS C w0 H0 m)) : PSs X sts (liftS C w0 H0 (dFreezeD i m)) := by
  refine ⟨fun pins s σ H D I hq => ?_⟩
  obtain ⟨w, ρ, k, st, hm, ct⟩ := hq
  unfold dFreezeD at hm
  split at hm
  · rename_i l e
    obtain ⟨a, ea, hex, nbw, ⟨u, es, hu, dd, rl⟩, h0⟩ := own_at st e
    have mu : Mut (some u) := by cases dd <;> exact trivial
    obtain ⟨od, I1⟩ := I.lock hu mu
    obtain ⟨w', fl, st'⟩ := st.lock e ea hu od
    exact h.run pins s σ _ D I1 ⟨w', _, k, st', hm, ct.fle fl⟩
  · exact hm.elim
end DL
namespace DL
open PySem PySem.Spec PyProof.Rows L2 LamX NdefX
/-! ### sum(d.values()) -/
theorem preSum_ints (ns : List Int) : ∀ j, j ≤ ns.length → preSum (fun i => ns.getD i 0) j = (ns.take j).sum
  | 0, _ => by simp [preSum]
  | j + 1, h => by
    have hj : j < ns.length := h
    have ih := preSum_ints ns j (by omega)
    rw [List.take_succ, List.getElem?_eq_getElem hj, List.sum_append, ← ih]
    show preSum _ j + ns.getD j 0 = _
    rw [List.getD_eq_getElem?_getD, List.getElem?_eq_getElem hj]
    simp
theorem sum_dict {prog : Program} {w : World} {A : Around} {E : Value → Shared → Prop} {s : Shared} {v d : Addr} {es : Array DictEntry} {ep : Nat} {ns : List Int} {Q : Value → Shared → Prop} (hh : A.handled = none) (hv : s.heap.IsValuesView v d) (hm : s.heap.DictRaw d es ep)
    (hn : es.size = ns.length) (hi : ∀ (i : Nat) (h : i < es.size), ∃ t : Tok, es[i].val = Value.int (ns.getD i 0) t)
    (h : ∀ (h' : Heap) (tk : Nat) (t' : Tok), (∀ b o, s.heap.get? b = some o → h'.get? b = some o) → Q (.int ns.sum t') { s with heap := h', toks := tk }) : wpAny (model prog w) A (call (.builtin "sum") [.ref v]) Q E s := by
  have hlt : d < s.heap.objs.size := let ⟨o, ho, _⟩ := hm; Heap.lt_size ho
  refine call_sum_walkAnyS ?_
  refine wpAny_pyIter_values_raw hv hm ?_
  refine ⟨s.heap.objs.size, _, _, _, es.size, _, _, fun i => ns.getD i 0, rfl, (Walks.rawValues (A := A.in1) (by simpa using hh) s.heap.objs.size d (Nat.ne_of_lt hlt) es ep).toS, ⟨⟨_, Heap.get?_push_size _ rfl, rfl, rfl⟩, hm.at fun o e => Heap.get?_push_of_some _ e⟩, fun b hb => ?_, fun i x ⟨hi', e⟩ => ?_, fun s' t' hmv => ?_⟩
  · simp only [List.mem_cons, List.not_mem_nil, or_false] at hb
    show b < (s.heap.push _).objs.size
    rw [Heap.size_push]
    rcases hb with rfl | rfl
    · exact Nat.lt_succ_self _
    · exact Nat.lt_succ_of_lt hlt
  · obtain ⟨t, q⟩ := hi i hi'
    exact ⟨t, e.trans q⟩
  · have hk : ∀ b o, s.heap.get? b = some o → s'.heap.get? b = some o := fun b o e =>
      hmv.heap b o (fun hI => absurd (Heap.lt_size e) (by rw [List.mem_singleton.mp hI]; exact Nat.lt_irrefl _)) (Heap.get?_push_of_some _ e)
    have es2 : preSum (fun i => ns.getD i 0) es.size = ns.sum := by rw [hn, preSum_ints ns _ (Nat.le_refl _), List.take_length]
    rw [Moved.eq_with hmv, es2]
    exact h s'.heap s'.toks t' hk
def dSumV (m : ME) : ME := fun ρ Q E => m ρ (fun s => onDc s fun l => onIs (l.map (·.2)) fun ns => Q (.d (.int ns.sum))) E
theorem repK_valsI {K : PySem.W.Frag} {ex : Addr → Prop} {H : Hp} : ∀ {l : List (D × D)} {ks : List (Key × V)} {ns : List Int}, RepK K ex H l (kD ks) → l.map (·.2) = ns.map .int → ks.map (·.2) = ns.map V.int
  | [], [], ns, _, e => by
    cases ns with
    | nil => rfl
    | cons n ns => cases e
  | [], p :: ks, _, h, _ => by simp [RepK, kD] at h
  | (j, x) :: l, [], _, h, _ => by simp [RepK, kD] at h
  | (j, x) :: l, (a, u) :: ks, ns, h, e => by
    cases ns with
    | nil => cases e
    | cons n ns =>
      simp only [RepK, kD, List.map_cons, List.cons.injEq, Prod.mk.injEq] at h
      obtain ⟨y, r, ⟨⟨e1, e2⟩, e3⟩, h1, h2⟩ := h
      subst e1 e2 e3
      simp only [List.map_cons, List.cons.injEq] at e
      obtain ⟨e4, e5⟩ := e
      subst e4
      obtain rfl : u = V.int n := by simpa only [Rep] using h1
      rw [List.map_cons, List.map_cons, repK_valsI h2 e5]
theorem pd_sumV {X : Cx} {C : Cn} {e : Expr} {m : ME} {p pos apos cpos : Pos} (hm : X.mg "sum" = none) (he : PE X e (lift C m)) (hc : X.calm = true := by rfl) (hg : Gl X "sum" := by rfl)
    (hbase : attributeBase e "values" X.env (eval e X.env) = eval e X.env := by rfl) (hline : (apos.endLine == cpos.line) = true := by rfl)
    (hs : starEach [.Call (.Attribute e "values" apos) [] [] cpos] X.env = [(false, eval (.Call (.Attribute e "values" apos) [] [] cpos) X.env)] := by rfl) :
    PE X (.Call (.Name "sum" p) [.Call (.Attribute e "values" apos) [] [] cpos] [] pos) (lift C (dSumV m)) := by
  refine ⟨fun pins s σ H Q I h => ?_⟩
  obtain ⟨w, ρ, Q', E', st, ok, hq, ct⟩ := h
  refine Call_ (ld_blt I hg hm boot_sum ?_)
  refine PyProof.Rows.callWith_builtin1 ?_ hs rfl
  refine PyProof.Rows.args_cons (wpAny_Call_method (T := "dict") (id := "dict.values") hbase rfl hline F.plainAttrs_dict F.slot_dict_values F.type_dict_values (thn (he.run pins s σ H (fun x H1 => ∃ (d : Addr) (ks : List (Key × V)) (ns : List Int), x = .ref d ∧ Rd H1 d (.dK ks) ∧ ks.map (·.2) = ns.map V.int ∧ Q (.int ns.sum) H1) I (mk st ok hq (fun w1 s v H1 le ok1 r q => ?_) ct.ex)) fun u s1 ⟨x, H1, I1, rx, d, ks, ns, ex, hd, en, q⟩ => ?_)) hs
  · obtain ⟨l, a, ks, rfl, h1, h2, hf, q, es⟩ := onDc_of (C := C) r q
    obtain ⟨ns, e1, q⟩ := onIs_of q
    exact ⟨a, ks, ns, rfl, h1, repK_valsI h2 e1, (ct.le le).here ok1 rep_int q⟩
  · subst ex
    obtain rfl : u = Value.ref d := rx
    obtain ⟨z, hs2, vs, kv, dd⟩ := dk_rd I1.hok hd
    refine ⟨dd.typeIs, dd.mapOf.noDict, ?_⟩
    obtain ⟨es, ep, hr, hsz, hval⟩ := dd.raw
    show wpAny _ _ (callWith cpos (.builtin "dict.values") [.ref d] [] []) _ X.xe s1
    refine method_meetsIn F.slot_dict_values F.entry_dict_values rfl (PySem.evalArgs_none ⟨rfl, dd.typeIs, F.args_dict_values_1 _, _, meets_dict_values (mixKind X.prog X.w) d hs2, ⟨vs, dd⟩, ?_⟩)
    refine PyProof.Rows.args_nil ?_
    have hlt : d < s1.heap.objs.size := let ⟨o, ho, _⟩ := hr; Heap.lt_size ho
    refine sum_dict (I1.ok.hd hc) (d := d) (es := es) (ep := ep) (ns := ns) ⟨_, Heap.get?_push_size _ rfl, rfl, rfl⟩ (hr.at fun o e => Heap.get?_push_of_some _ e) ?_ (fun i hi => ?_) fun h' tk t' hk => ?_
    · have h1 := congrArg List.length en
      rw [List.length_map, List.length_map] at h1
      rw [hsz, ← kv.length, h1]
    · have hlk : ks.length = vs.length := kv.length
      have hi2 : i < ks.length := by omega
      obtain ⟨uv, hu, ru⟩ := kv_get kv (k := ks[i].1) (v := ks[i].2) (i := i) (List.getElem?_eq_getElem hi2)
      have e1 := (hval i hi _ _ hu).2
      have e2 : ks[i].2 = V.int (ns.getD i 0) := by
        have h1 := congrArg (fun l => l[i]?) en
        simp only [List.getElem?_map, List.getElem?_eq_getElem hi2, Option.map_some] at h1
        have hi3 : i < ns.length := by
          have h1 := congrArg List.length en
          rw [List.length_map, List.length_map] at h1
          omega
        rw [List.getElem?_eq_getElem hi3, Option.map_some, Option.some.injEq] at h1
        rw [h1, List.getD_eq_getElem?_getD, List.getElem?_eq_getElem hi3] <;> rfl
      rw [e2] at ru
      obtain ⟨t, et⟩ := ru
      exact ⟨t, e1.trans et⟩
    · exact ⟨.int ns.sum, H1, I1.kept fun b o e => hk b o (Heap.get?_push_of_some _ e), ⟨_, rfl⟩, q⟩
end DL
namespace DL
open PySem PySem.Spec PyProof.Rows L2 LamX NdefX
/-! ### {k: v, ..}, one's own -/
def dPrs : List (ME × ME) → Rho → (List (D × D) → Prop) → (Exn → Prop) → Prop
  | [], _, Q, _ => Q []
  | (mk', mv) :: r, ρ, Q, E => mk' ρ (fun s => onD s fun k => mv ρ (fun t => onD t fun d => dPrs r ρ (fun ps => Q ((k, d) :: ps)) E) E) E
def dDisp (prs : List (ME × ME)) : ME := fun ρ Q E => dPrs prs ρ (fun ps => flatK ps = true ∧ ps.length ≤ 15 ∧ Q (.own (.dict (mergeD [] ps)))) E
theorem prs_ok {C : Cn} : ∀ {prs : List (ME × ME)} {w : Wd} {ρ : Rho} {σ : L2.St} {H : Hp} {F : List (D × D) → Prop} {E' : Exn → Prop} {Q : List (V × V) → Hp → Prop}, St C.K w ρ σ H → Ok C.T w H → dPrs prs ρ F E' →
  (∀ (w' : Wd) (x : Exn) (cls : Value) (d : Option Addr) (H' : Hp), Le w H w' H' → Ok C.T w' H' → XRep C.K C.N w' H' x cls d → E' x → C.W cls d σ H') →
  (∀ (w1 : Wd) (H1 : Hp) (ps : List (D × D)) (vs : List (V × V)), Le w H w1 H1 → Ok C.T w1 H1 → Paired (fun p q => Rep C.K w1.ex H1 p.1 q.1 ∧ Rep C.K w1.ex H1 p.2 q.2) ps vs → F ps → Q vs H1) → tPairs (prs.map fun p => (lift C p.1, lift C p.2)) σ H Q
  | [], w, ρ, σ, H, F, E', Q, st, ok, hm, hx, hk => hk w H [] [] (Le.refl w H) ok .nil hm
  | (mk', mv) :: r, w, ρ, σ, H, F, E', Q, st, ok, hm, hx, hk => by
    refine mk st ok hm (fun w1 s x H1 le ok1 rx q => ?_) hx
    obtain ⟨k, rfl, q⟩ := onD_of q
    refine mk (st.le ok le) ok1 q (fun w2 t y H2 le2 ok2 ry q2 => ?_) (fun w' x cls d H' l => hx w' x cls d H' (le.trans l))
    obtain ⟨d, rfl, q2⟩ := onD_of q2
    refine prs_ok (prs := r) ((st.le ok le).le ok1 le2) ok2 q2 (fun w' x cls d H' l => hx w' x cls d H' ((le.trans le2).trans l)) fun w3 H3 ps vs le3 ok3 rr q3 => ?_
    have r1 : SRep C.K w3 H3 (.d k) x := SRep.le ok2 le3 (SRep.le ok1 le2 rx)
    have r2 : SRep C.K w3 H3 (.d d) y := SRep.le ok2 le3 ry
    exact hk w3 H3 ((k, d) :: ps) ((x, y) :: vs) ((le.trans le2).trans le3) ok3 (.cons ⟨r1, r2⟩ rr) q3
theorem prs_keys {C : Cn} {w : Wd} {H : Hp} : ∀ {ps : List (D × D)} {vs : List (V × V)}, Paired (fun p q => Rep C.K w.ex H p.1 q.1 ∧ Rep C.K w.ex H p.2 q.2) ps vs → flatK ps = true → ∃ ks : List (Key × V), vs = ks.map (fun kv => (kV kv.1, kv.2)) ∧ RepK C.K w.ex H ps (kD ks)
  | _, _, .nil, _ => ⟨[], rfl, by simp [RepK, kD]⟩
  | _, _, .cons (a := p) (b := q) (l₁ := ps) (l₂ := vs) h r, f => by
    unfold flatK at f
    rw [List.all_cons, Bool.and_eq_true] at f
    obtain ⟨ks, e, rk⟩ := prs_keys r f.2
    obtain ⟨k, hk⟩ := Option.isSome_iff_exists.mp f.1
    obtain ⟨p1, p2⟩ := p
    obtain ⟨q1, q2⟩ := q
    have e1 : q1 = kV k := kV_rep hk h.1
    have e2 : p1 = keyD k := keyR_eq hk
    subst e1 e2
    refine ⟨(k, q2) :: ks, by rw [e, List.map_cons], ?_⟩
    simp only [kD, List.map_cons, RepK]
    exact ⟨q2, _, rfl, h.2, rk⟩
theorem repK_merge {K : PySem.W.Frag} {ex : Addr → Prop} {H : Hp} : ∀ {ps : List (D × D)} {ks : List (Key × V)} {l : List (D × D)} {js : List (Key × V)}, RepK K ex H ps (kD ks) → RepK K ex H l (kD js) → RepK K ex H (mergeD l ps) (kD (mergeK js ks))
  | [], [], l, js, _, h => h
  | [], p :: ks, _, _, h, _ => by simp [RepK, kD] at h
  | (j, x) :: ps, [], _, _, h, _ => by simp [RepK, kD] at h
  | (j, x) :: ps, (a, u) :: ks, l, js, h, h' => by
    simp only [RepK, kD, List.map_cons, List.cons.injEq, Prod.mk.injEq] at h
    obtain ⟨y, r, ⟨⟨e1, e2⟩, e3⟩, h1, h2⟩ := h
    subst e1 e2 e3
    exact repK_merge (ps := ps) (ks := ks) h2 (repK_put h1 h')
theorem itm_disp {C : Cn} {prs : List (ME × ME)} : Itm C (dDisp prs) (tDisp (prs.map fun p => (lift C p.1, lift C p.2))) := fun w ρ σ H F E' Q st ok hm hx hk => fun p hp => by
  have l0 : Le w H (w.add p) (upd H p (.dK [])) := Le.add hp
  have ok0 : Ok C.T (w.add p) (upd H p (.dK [])) := ok.add hp trivial
  refine prs_ok (st.le ok l0) ok0 hm (fun w' x cls d H' l => hx w' x cls d H' (l0.trans l)) fun w1 H1 ps vs le ok1 r q => ?_
  have nb : ¬ (w.add p).bw p := fun z => ok.fresh hp (w.sub p z)
  have hp1 : H1 p = some (.dK []) := le.keep p _ upd_same nb fun _ z => by cases z
  have nb1 : ¬ w1.bw p := fun z => by
    rcases le.nbw p z with z | z
    · exact nb z
    · rw [upd_same] at z; cases z
  have hex : w1.ex p := le.ex p (.inr rfl)
  refine ⟨hp1, ?_⟩
  obtain ⟨ks, rfl, rk⟩ := prs_keys r q.1
  have el : ks.length = ps.length := kD_len rk
  refine ⟨ks, rfl, by omega, ?_⟩
  have ld : ∃ u, H1 p = some u ∧ LD u := ⟨_, hp1, trivial⟩
  have nn : ∀ b, upd H1 p (.dK (mergeK [] ks)) b = none → H1 b = none := fun b z => by
    unfold L2.upd at z
    split at z
    · cases z
    · exact z
  have l1 := l0.trans le
  have lf : Le w H w1 (upd H1 p (.dK (mergeK [] ks))) := ⟨l1.ex, l1.bw, l1.new, l1.nbw, fun b o e n t => by
    rw [upd_ne (ne_of_none e hp)]
    exact l1.keep b o e n t, fun b z => l1.non b (nn b z)⟩
  have okf : Ok C.T w1 (upd H1 p (.dK (mergeK [] ks))) := by
    refine ⟨fun b z => ?_, fun b z => ?_, tabs_upd ok1.tabs ld⟩
    · by_cases hb : b = p
      · subst hb; exact ⟨_, upd_same, trivial⟩
      · rw [upd_ne hb]; exact ok1.al b z
    · obtain ⟨x, y, t, e⟩ := ok1.bowl b z
      exact ⟨x, y, t, by rw [upd_ne (show b ≠ p from fun hb => nb1 (by rw [← hb]; exact z))]; exact e⟩
  refine hk w1 _ (.own (.dict (mergeD [] ps))) _ lf okf ⟨p, rfl, hex, nb1, _, _, upd_same, .k _, ?_⟩ (fun _ => ⟨p, rfl, hp⟩) q.2.2
  exact repK_merge (RepK.upd ld hex ps _ rk) (by simp [RepK, kD])
/-! ### their derivations -/
section
variable {X : Cx} {C : Cn} {k : Nat} {a b c e i value : Expr} {m ma mb mc mi me : ME} {pos pos' apos cpos : Pos} {w0 : Wd} {H0 : Hp}
theorem pd_get2 (hr : Room k X.A) (ha : PE X a (lift C ma)) (hb : PE X b (lift C mb)) (hc : PE X c (lift C mc)) (hm : M2 X a "get" apos b c cpos := by exact ⟨by rfl, by rfl, by rfl, by rfl⟩) : PE X (.Call (.Attribute a "get" apos) [b, c] [] cpos) (lift C (dGet2 ma mb mc)) :=
  (pe_dget2 (by have := hr.units; omega) ha hb hc hm).weak fun _ _ _ h => get2_ok h
theorem pd_ixD (hr : Room k X.A) (ha : PE X a (lift C ma)) (hb : PE X b (lift C mb)) (hs : NoSl b := by exact fun _ _ => rfl) : PE X (.Subscript a b pos) (lift C (dOp2 ixDc ma mb)) :=
  (pe_dget (by have := hr.units; omega) ha hb hs).weak fun _ _ _ h => op2_ok (r := rDG) ixDc_is h
theorem op_inDc (hu : X.A.units + 1 < cLine) : OpR X (compareOp .In) (rDIn false) := fun pins s σ H x y v u Q I rx ry ⟨a, o, e, g, q⟩ => by
  subst e
  obtain rfl : u = Value.ref a := ry
  exact d_in hu I g rx fun s' I' => ⟨.bl o.isSome, H, I', rfl, q⟩
theorem op_notInDc (hu : X.A.units + 1 < cLine) : OpR X (compareOp .NotIn) (rDIn true) := fun pins s σ H x y v u Q I rx ry ⟨a, o, e, g, q⟩ => by
  subst e
  obtain rfl : u = Value.ref a := ry
  exact d_notIn hu I g rx fun s' I' => ⟨.bl (!o.isSome), H, I', rfl, q⟩
theorem c_inDc (hr : Room k X.A) : CmpR X C .In (inDc false) := ⟨_, op_inDc (by have := hr.units; omega), inDc_is⟩
theorem c_notinDc (hr : Room k X.A) : CmpR X C .NotIn (inDc true) := ⟨_, op_notInDc (by have := hr.units; omega), inDc_is⟩
theorem psd_put (j : Nat) {y : Str} {q : Pos} (hr : Room k X.A) (hi : PE X i (lift C mi)) (hv : PE X value (lift C me)) (hN : X.N[j]? = some y := by rfl) (hvs : Vis X.env.scope y := by first | exact Or.inl rfl | exact Or.inr (Or.inl rfl) | exact Or.inr (Or.inr rfl)) (hd : (y == ("__debug__" : Str)) = false := by decide) (hcd : (y == ("__classdict__" : Str)) = false := by decide)
    (hs : swapsWith value (some (.Subscript (.Name y q) i pos')) pos.line X.env = pure false := by rfl) : PS X (.Assign [.Subscript (.Name y q) i pos'] value pos) (liftS C w0 H0 (dPut j mi me)) :=
  (ps_dput (by have := hr.units; omega) (pe_var hN hvs hd hcd) hi hv hs).weak fun _ _ _ h => put_ok h
structure PPr (X : Cx) (pos : Pos) (keys : List (Option Expr)) (values : List Expr) (C : Cn) (prs : List (ME × ME)) : Prop where
  ex : PPs X pos keys values (prs.map fun p => (lift C p.1, lift C p.2))
theorem ppr_nil : PPr X pos [] [] C [] := ⟨pps_nil⟩
theorem ppr_cons {ks : List (Option Expr)} {vs : List Expr} {prs : List (ME × ME)} (ha : PE X a (lift C ma)) (hb : PE X b (lift C mb)) (h : PPr X pos ks vs C prs) : PPr X pos (some a :: ks) (b :: vs) C ((ma, mb) :: prs) := ⟨pps_cons ha hb h.ex⟩
theorem pit_disp {ks : List (Option Expr)} {vs : List Expr} {prs : List (ME × ME)} (h : PPr X pos ks vs C prs) (hall : ks.all (·.isSome) = true := by rfl) (hl : ks.length = vs.length := by rfl) (h0 : ks ≠ [] := by simp) (h15 : ks.length ≤ 15 := by simp) : PIt X (.Dict ks vs pos) C (dDisp prs) :=
  ⟨_, pe_disp h.ex hall hl h0 h15, itm_disp⟩
theorem pi_keysD {tg : Expr} (he : PE X e (lift C m)) : PI X tg e (iKeys (lift C m)) := pi_keys he
theorem pi_valsD {tg : Expr} (he : PE X e (lift C m)) (hbase : attributeBase e "values" X.env (eval e X.env) = eval e X.env := by rfl) (hline : (apos.endLine == cpos.line) = true := by rfl) : PI X tg (.Call (.Attribute e "values" apos) [] [] cpos) (iVals (lift C m)) := pi_values he hbase hline
theorem pi_itemsD {elts : List Expr} {kk : Nat} {tpos : Pos} (he : PE X e (lift C m)) (hbase : attributeBase e "items" X.env (eval e X.env) = eval e X.env := by rfl) (hline : (apos.endLine == cpos.line) = true := by rfl) : PI X (.Tuple elts kk tpos) (.Call (.Attribute e "items" apos) [] [] cpos) (iItems (lift C m)) := pi_items he hbase hline
end
end DL
namespace DL
open PySem PySem.Spec PyProof.Rows L2 LamX NdefX
section
variable {o : Option S} {ρ : Rho} {k : Kt} {Q : S → Prop} {E : Exn → Prop}
theorem e_dLenSet (m : ME) : dLenSet m (o :: ρ) Q E = m (o :: ρ) (fun s => onSq s fun l => onIs l fun ns => ns.length ≤ 1000 ∧ ∀ out : List Int, out.Nodup → (∀ k, k ∈ out ↔ k ∈ ns) → Q (.d (.int out.length))) E := propext Iff.rfl
theorem e_dCallD (n : Nat) (ms : List (Str × MF)) (mi : ME) (ma : MA) : dCallD n ms mi ma (o :: ρ) Q E = mi (o :: ρ) (fun s => match s with
  | .d (.str z) => ∃ m, (z, m) ∈ ms ∧ ma (o :: ρ) (fun ss => fits n ss ∧ m ss Q E) E
  | _ => False) E := propext Iff.rfl
theorem e_dPl (m : ME) : dPl m (o :: ρ) Q E = m (o :: ρ) (fun s => plain s (Q s)) E := propext Iff.rfl
theorem e_dNewO (ma : MA) : dNewO ma (o :: ρ) Q E = ma (o :: ρ) (fun ss => onDs ss fun ds => ds.length ≤ sizeLine ∧ Q (.own (.list ds))) E := propext Iff.rfl
theorem e_dCopyO (m : ME) : dCopyO m (o :: ρ) Q E = m (o :: ρ) (fun s => onSq s fun l => Q (.own (.list l))) E := propext Iff.rfl
theorem e_dNewD : dNewD (o :: ρ) Q E = Q (.own (.dict [])) := propext Iff.rfl
theorem e_dDisp (prs : List (ME × ME)) : dDisp prs (o :: ρ) Q E = dPrs prs (o :: ρ) (fun ps => flatK ps = true ∧ ps.length ≤ 15 ∧ Q (.own (.dict (mergeD [] ps)))) E := propext Iff.rfl
theorem e_prs_nil {Q : List (D × D) → Prop} : dPrs [] ρ Q E = Q [] := propext Iff.rfl
theorem e_prs_cons (mk' mv : ME) (r : List (ME × ME)) {Q : List (D × D) → Prop} : dPrs ((mk', mv) :: r) (o :: ρ) Q E = mk' (o :: ρ) (fun s => onD s fun k => mv (o :: ρ) (fun t => onD t fun d => dPrs r (o :: ρ) (fun ps => Q ((k, d) :: ps)) E) E) E := propext Iff.rfl
theorem e_dSets (is : List Nat) (ma : MA) : dSets is ma (o :: ρ) k = ma (o :: ρ) (fun ss => k.nx (setsR (o :: ρ) is ss)) (k.ex (o :: ρ)) := propext Iff.rfl
theorem e_dSetsN (is : List Nat) (ma : MA) : dSetsN is ma (o :: ρ) k = ma (o :: ρ) (fun ss => ss.length = is.length ∧ ss.length ≤ sizeLine ∧ k.nx (setsR (o :: ρ) is ss)) (k.ex (o :: ρ)) := propext Iff.rfl
theorem e_sets_cons (i : Nat) (is : List Nat) (s : S) (ss : List S) : setsR ρ (i :: is) (s :: ss) = setsR (ρ.set i (some s)) is ss := rfl
theorem e_sets_nil : setsR ρ [] [] = ρ := rfl
theorem e_dAppPop (i j : Nat) (m : ME) : dAppPop i j m (o :: ρ) k = (match (o :: ρ)[i]?, (o :: ρ)[j]? with
  | some (some (.own (.list l))), some (some (.own (.list r))) => m (o :: ρ) (fun s => onI s fun n => 0 ≤ n ∧ l.length < sizeLine ∧ n < 2 ^ 63 ∧ match r[n.toNat]? with
    | some d => k.nx (((o :: ρ).set j (some (.own (.list (r.eraseIdx n.toNat))))).set i (some (.own (.list (l ++ [d])))))
    | none => False) (k.ex (o :: ρ))
  | _, _ => False) := propext Iff.rfl
theorem e_dGet2 (md mk' mx : ME) : dGet2 md mk' mx (o :: ρ) Q E = md (o :: ρ) (fun s => onDc s fun l => mk' (o :: ρ) (fun t => onD t fun k => (keyR k).isSome = true ∧ mx (o :: ρ) (fun u => match lookD l k with
  | some d => Q (.d d)
  | none => Q u) E) E) E := propext Iff.rfl
theorem e_dKeys (m : ME) {F : List S → Prop} : dKeys m (o :: ρ) F E = m (o :: ρ) (fun s => onDz s fun l => F (l.map fun p => S.d p.1)) E := propext Iff.rfl
theorem e_dVals (m : ME) {F : List S → Prop} : dVals m (o :: ρ) F E = m (o :: ρ) (fun s => onDz s fun l => F (l.map fun p => S.d p.2)) E := propext Iff.rfl
theorem e_dItems (m : ME) {F : List S → Prop} : dItems m (o :: ρ) F E = m (o :: ρ) (fun s => onDz s fun l => F (l.map fun p => S.d (.tuple [p.1, p.2]))) E := propext Iff.rfl
theorem e_dPut (i : Nat) (mk' me : ME) : dPut i mk' me (o :: ρ) k = me (o :: ρ) (fun s => onD s fun d => match (o :: ρ)[i]? with
  | some (some (.own (.dict l))) => mk' (o :: ρ) (fun t => onD t fun c => flatK l = true ∧ (keyR c).isSome = true ∧ l.length < sizeLine ∧ k.nx ((o :: ρ).set i (some (.own (.dict (putD l c d)))))) (k.ex (o :: ρ))
  | _ => False) (k.ex (o :: ρ)) := propext Iff.rfl
theorem e_dFreezeD (i : Nat) (m : MS) : dFreezeD i m (o :: ρ) k = (match (o :: ρ)[i]? with
  | some (some (.own (.dict l))) => m ((o :: ρ).set i (some (.d (.dict l)))) k
  | _ => False) := propext Iff.rfl
theorem e_dSumV (m : ME) : dSumV m (o :: ρ) Q E = m (o :: ρ) (fun s => onDc s fun l => onIs (l.map (·.2)) fun ns => Q (.d (.int ns.sum))) E := propext Iff.rfl
end
/-! a dict of whole numbers -/
def iD {α : Type} (f : α → D) (kvs : List (Int × α)) : List (D × D) := kvs.map fun p => (.int p.1, f p.2)
def valI {α : Type} (kvs : List (Int × α)) (k : Int) : Option α := (kvs.find? fun p => decide (p.1 = k)).map (·.2)
def putI {α : Type} (kvs : List (Int × α)) (k : Int) (v : α) : List (Int × α) := if (kvs.any fun p => decide (p.1 = k)) then kvs.map (fun p => if p.1 = k then (p.1, v) else p) else kvs ++ [(k, v)]
section
variable {α : Type} {f : α → D} {kvs : List (Int × α)} {k : Int} {v : α}
theorem onDc_d {l : List (D × D)} {P : List (D × D) → Prop} : onDc (.d (.dict l)) P = (flatK l = true ∧ P l) := propext Iff.rfl
theorem onDc_o {l : List (D × D)} {P : List (D × D) → Prop} : onDc (.own (.dict l)) P = (flatK l = true ∧ P l) := propext Iff.rfl
theorem onDz_d {l : List (D × D)} {P : List (D × D) → Prop} : onDz (.d (.dict l)) P = (flatK l = true ∧ P l) := propext Iff.rfl
theorem ixDc_d {l : List (D × D)} {k : D} {Q : S → Prop} {E : Exn → Prop} : ixDc (.d (.dict l)) (.d k) Q E = (flatK l = true ∧ (keyR k).isSome = true ∧ match lookD l k with
  | some d => Q (.d d)
  | none => False) := propext Iff.rfl
theorem ixDc_o {l : List (D × D)} {k : D} {Q : S → Prop} {E : Exn → Prop} : ixDc (.own (.dict l)) (.d k) Q E = (flatK l = true ∧ (keyR k).isSome = true ∧ match lookD l k with
  | some d => Q (.d d)
  | none => False) := propext Iff.rfl
theorem inDc_d {neg : Bool} {l : List (D × D)} {k : D} {Q : S → Prop} {E : Exn → Prop} : inDc neg (.d k) (.d (.dict l)) Q E = (flatK l = true ∧ (keyR k).isSome = true ∧ Q (.d (.bool (if neg then !(lookD l k).isSome else (lookD l k).isSome)))) := propext Iff.rfl
theorem inDc_o {neg : Bool} {l : List (D × D)} {k : D} {Q : S → Prop} {E : Exn → Prop} : inDc neg (.d k) (.own (.dict l)) Q E = (flatK l = true ∧ (keyR k).isSome = true ∧ Q (.d (.bool (if neg then !(lookD l k).isSome else (lookD l k).isSome)))) := propext Iff.rfl
theorem keyR_i (i : Int) : (keyR (.int i)).isSome = true := rfl
theorem keyR_s (x : Str) : (keyR (.str x)).isSome = true := rfl
theorem keyB_i (i j : Int) : keyB (.int i) (.int j) = decide (i = j) := by
  show decide (Sum.inl i = (Sum.inl j : Key)) = _
  by_cases h : i = j
  · subst h; simp
  · simp [h]
theorem flatK_nil : flatK [] = true := rfl
theorem flatK_iD : flatK (iD f kvs) = true := by
  unfold flatK iD
  rw [List.all_map, List.all_eq_true]
  intro p _
  rfl
theorem lookD_iD : lookD (iD f kvs) (.int k) = (valI kvs k).map f := by
  unfold lookD valI iD
  induction kvs with
  | nil => rfl
  | cons p kvs ih =>
    rw [List.map_cons]
    by_cases h : p.1 = k
    · rw [List.find?_cons_of_pos (by rw [keyB_i]; simpa using h), List.find?_cons_of_pos (by simpa using h)] <;> rfl
    · rw [List.find?_cons_of_neg (by rw [keyB_i]; simpa using h), List.find?_cons_of_neg (by simpa using h)]
      exact ih
theorem any_iD : ((iD f kvs).any fun p => keyB p.1 (.int k)) = kvs.any fun p => decide (p.1 = k) := by
  unfold iD
  rw [List.any_map]
  congr 1
  funext p
  exact keyB_i _ _
theorem putD_iD : putD (iD f kvs) (.int k) (f v) = iD f (putI kvs k v) := by
  unfold putD putI
  rw [any_iD]
  split
  · unfold iD
    rw [List.map_map, List.map_map]
    refine List.map_congr_left fun p _ => ?_
    show (if keyB (.int p.1) (.int k) = true then ((PyData.int p.1 : D), f v) else (.int p.1, f p.2)) = _
    rw [keyB_i]
    by_cases h : p.1 = k
    · simp [h]
    · simp [h]
  · unfold iD
    rw [List.map_append] <;> rfl
theorem iD_nil : ([] : List (D × D)) = iD f [] := rfl
theorem iD_len : (iD f kvs).length = kvs.length := by unfold iD; rw [List.length_map]
theorem iD_items : (iD f kvs).map (fun p => S.d (.tuple [p.1, p.2])) = kvs.map fun p => S.d (.tuple [.int p.1, f p.2]) := by unfold iD; rw [List.map_map] <;> rfl
theorem iD_keys : (iD f kvs).map (fun p => S.d p.1) = kvs.map fun p => S.d (.int p.1) := by unfold iD; rw [List.map_map] <;> rfl
theorem iD_vals : (iD f kvs).map (fun p => S.d p.2) = kvs.map fun p => S.d (f p.2) := by unfold iD; rw [List.map_map] <;> rfl
theorem iD_snd {kvs : List (Int × Int)} : (iD .int kvs).map (·.2) = (kvs.map (·.2)).map PyData.int := by unfold iD; rw [List.map_map, List.map_map] <;> rfl
theorem merge1 {k d : D} : mergeD [] [(k, d)] = [(k, d)] := rfl
theorem iD_one {k : Int} : [((PyData.int k : D), f v)] = iD f [(k, v)] := rfl
end
end DL
namespace DL
open PySem PySem.Spec PyProof.Rows L2 LamX NdefX
/-! ### comprehensions over what a list of Lean's gives, with a test -/
theorem compL_fmA {α : Type} {g : MG} {t : MT} {e : ME} {ρ : Rho} {Q : List PyData → Prop} (k : α → S) (p : α → Bool) (f : α → PyData) : ∀ {ns : List α} {acc : List PyData}, acc.length + ns.length ≤ sizeLine →
    (∀ (i : α) (F : PyData → Prop) (Z : Prop), i ∈ ns → (p i = true → F (f i)) → (p i = false → Z) → g (k i) ρ (fun ρ1 => t ρ1 (fun b => if b = true then e ρ1 (fun x => onD x F) (fun _ => False) else Z) (fun _ => False))) →
    Q (acc ++ (ns.filter p).map f) → compL g t e ρ Q (ns.map k) acc
  | [], acc, _, _, hd => by
    rw [List.map_nil]
    unfold compL
    simpa using hd
  | i :: ns, acc, hz, hs, hd => by
    rw [List.map_cons]
    unfold compL
    rw [List.length_cons] at hz
    refine hs i _ _ List.mem_cons_self (fun hp => ⟨by omega, ?_⟩) fun hp => ?_
    · refine compL_fmA k p f (by rw [List.length_append, List.length_singleton]; omega) (fun s F Z hm => hs s F Z (List.mem_cons_of_mem _ hm)) ?_
      rw [List.filter_cons_of_pos hp] at hd
      rw [List.append_assoc]
      exact hd
    · refine compL_fmA k p f (by omega) (fun s F Z hm => hs s F Z (List.mem_cons_of_mem _ hm)) ?_
      rwa [List.filter_cons_of_neg (by simp [hp])] at hd
theorem compL_fm {α : Type} {g : MG} {t : MT} {e : ME} {ρ : Rho} {Q : List PyData → Prop} {ns : List α} {ss : List S} (k : α → S) (p : α → Bool) (f : α → PyData) (hss : ss = ns.map k) (hz : ns.length ≤ sizeLine)
    (hs : ∀ (i : α) (F : PyData → Prop) (Z : Prop), i ∈ ns → (p i = true → F (f i)) → (p i = false → Z) → g (k i) ρ (fun ρ1 => t ρ1 (fun b => if b = true then e ρ1 (fun x => onD x F) (fun _ => False) else Z) (fun _ => False)))
    (hd : Q ((ns.filter p).map f)) : compL g t e ρ Q ss [] := by
  subst hss
  exact compL_fmA k p f (by simpa using hz) hs (by simpa using hd)
/-- .. without one -/
theorem compL_map {α : Type} {g : MG} {t : MT} {e : ME} {ρ : Rho} {Q : List PyData → Prop} {ns : List α} {ss : List S} (k : α → S) (f : α → PyData) (hss : ss = ns.map k) (hz : ns.length ≤ sizeLine)
    (hs : ∀ (i : α) (F : PyData → Prop) (Z : Prop), i ∈ ns → F (f i) → g (k i) ρ (fun ρ1 => t ρ1 (fun b => if b = true then e ρ1 (fun x => onD x F) (fun _ => False) else Z) (fun _ => False)))
    (hd : Q (ns.map f)) : compL g t e ρ Q ss [] :=
  compL_fm k (fun _ => true) f hss hz (fun i F Z hm h1 _ => hs i F Z hm (h1 rfl)) (by rw [List.filter_eq_self.mpr fun _ _ => rfl]; exact hd)
/-- .. all of which have a property -/
theorem tests_fin {p : Prop} [Decidable p] {F Z : Prop} (h1 : decide p = true → F) (h2 : decide p = false → Z) : if p then F else Z := by
  by_cases hc : p
  · rw [if_pos hc]; exact h1 (decide_eq_true hc)
  · rw [if_neg hc]; exact h2 (decide_eq_false hc)
/-! ### plain sums -/
theorem xsum_perm {a b : List Int} (h : a.Perm b) : a.sum = b.sum := by
  induction h with
  | nil => rfl
  | cons x _ ih => rw [List.sum_cons, List.sum_cons, ih]
  | swap x y l => simp only [List.sum_cons]; omega
  | trans _ _ i1 i2 => exact i1.trans i2
theorem xsum_add {α : Type} (f g : α → Int) : ∀ l : List α, (l.map fun x => f x + g x).sum = (l.map f).sum + (l.map g).sum
  | [] => rfl
  | x :: l => by
    simp only [List.map_cons, List.sum_cons, xsum_add f g l]
    omega
theorem xsum_sub {α : Type} (f g : α → Int) : ∀ l : List α, (l.map fun x => f x - g x).sum = (l.map f).sum - (l.map g).sum
  | [] => rfl
  | x :: l => by
    simp only [List.map_cons, List.sum_cons, xsum_sub f g l]
    omega
theorem xsum_mul {α : Type} (k : Int) (f : α → Int) : ∀ l : List α, (l.map fun x => k * f x).sum = k * (l.map f).sum
  | [] => by simp
  | x :: l => by
    simp only [List.map_cons, List.sum_cons, xsum_mul k f l, Int.mul_add]
theorem xsum_swap {α β : Type} (f : α → β → Int) (l : List α) : ∀ m : List β, (m.map fun j => (l.map fun i => f i j).sum).sum = (l.map fun i => (m.map fun j => f i j).sum).sum
  | [] => by
    induction l with
    | nil => rfl
    | cons x l ih => simpa using ih
  | y :: m => by
    simp only [List.map_cons, List.sum_cons, xsum_swap f l m]
    rw [← xsum_add]
theorem xsum_const {α : Type} (k : Int) : ∀ l : List α, (l.map fun _ => k).sum = l.length * k
  | [] => by simp
  | x :: l => by
    rw [List.map_cons, List.sum_cons, xsum_const k l, List.length_cons, Int.natCast_add, Int.add_mul]
    omega
theorem xsum_app (a b : List Int) : (a ++ b).sum = a.sum + b.sum := List.sum_append
theorem xsum_filter {α : Type} (p : α → Bool) (f : α → Int) : ∀ l : List α, ((l.filter p).map f).sum = (l.map fun x => if p x then f x else 0).sum
  | [] => rfl
  | x :: l => by
    rw [List.map_cons, List.sum_cons, ← xsum_filter p f l]
    by_cases h : p x
    · rw [List.filter_cons_of_pos h, List.map_cons, List.sum_cons, if_pos h]
    · rw [List.filter_cons_of_neg h, if_neg h]
      omega
theorem xlen_filter {α : Type} (p : α → Bool) : ∀ l : List α, ((l.filter p).length : Int) = (l.map fun x => if p x then (1 : Int) else 0).sum
  | [] => rfl
  | x :: l => by
    rw [List.map_cons, List.sum_cons, ← xlen_filter p l]
    by_cases h : p x
    · rw [List.filter_cons_of_pos h, List.length_cons, if_pos h]
      omega
    · rw [List.filter_cons_of_neg h, if_neg h]
      omega
theorem xsum_le {α : Type} {f g : α → Int} : ∀ {l : List α}, (∀ x ∈ l, f x ≤ g x) → (l.map f).sum ≤ (l.map g).sum
  | [], _ => by simp
  | x :: l, h => by
    have := xsum_le (l := l) fun y hy => h y (List.mem_cons_of_mem _ hy)
    have := h x List.mem_cons_self
    rw [List.map_cons, List.sum_cons, List.map_cons, List.sum_cons]
    omega
theorem xsum_flatMap {α : Type} (f : α → List Int) : ∀ l : List α, (l.flatMap f).sum = (l.map fun x => (f x).sum).sum
  | [] => rfl
  | x :: l => by rw [List.flatMap_cons, List.sum_append, xsum_flatMap f l, List.map_cons, List.sum_cons]
theorem perm_of_sub : ∀ {out ns : List Int}, out.Nodup → (∀ k ∈ out, k ∈ ns) → ns.length ≤ out.length → out.Perm ns
  | [], ns, _, _, h => by
    have : ns = [] := List.eq_nil_of_length_eq_zero (by simpa using h)
    subst this
    exact .refl _
  | x :: out, ns, hn, hs, h => by
    have hx := hs x List.mem_cons_self
    have hp := List.perm_cons_erase hx
    have hl := hp.length_eq
    rw [List.length_cons] at hl h
    rw [List.nodup_cons] at hn
    refine (List.Perm.cons x (perm_of_sub hn.2 (fun k hk => ?_) (by omega))).trans hp.symm
    exact (List.mem_erase_of_ne (fun e : k = x => hn.1 (by rw [← e]; exact hk))).mpr (hs k (List.mem_cons_of_mem _ hk))
/-- as many different ones as there are: all differ -/
theorem nodup_of_set {ns out : List Int} (h1 : out.Nodup) (h2 : ∀ k, k ∈ out ↔ k ∈ ns) (h3 : out.length = ns.length) : ns.Nodup :=
  (perm_of_sub h1 (fun k hk => (h2 k).mp hk) (by omega)).nodup_iff.mp h1
/-! ### in, whole numbers -/
theorem eqv_ii (a b : Int) : PyData.eqv (.int a) (.int b) = decide (a = b) := by
  show (a == b) = _
  by_cases h : a = b <;> simp [h]
theorem any_eqv (k : Int) (ns : List Int) : ((ns.map PyData.int).any fun y => PyData.eqv y (.int k)) = decide (k ∈ ns) := by
  induction ns with
  | nil => rfl
  | cons n ns ih =>
    rw [List.map_cons, List.any_cons, ih, eqv_ii]
    by_cases h : n = k
    · subst h; simp
    · by_cases h2 : k ∈ ns
      · simp [h2]
      · have h3 : ¬ k = n := fun e => h e.symm
        simp [h, h2, h3]
theorem flat_ints (ns : List Int) : (ns.map PyData.int).all flatD = true := by
  rw [List.all_map, List.all_eq_true]
  intro x _
  rfl
theorem inOp_li {neg : Bool} {k : Int} {ns : List Int} {Q : S → Prop} {E : Exn → Prop} : inOp neg (.d (.int k)) (.d (.list (ns.map .int))) Q E = Q (.d (.bool (if neg then !decide (k ∈ ns) else decide (k ∈ ns)))) := by
  show (flatD (.int k) = true ∧ (ns.map PyData.int).all flatD = true ∧ Q (.d (.bool (if neg then !((ns.map PyData.int).any fun y => PyData.eqv y (.int k)) else (ns.map PyData.int).any fun y => PyData.eqv y (.int k))))) = _
  rw [flat_ints, any_eqv]
  simp [flatD]
theorem inOp_ti {neg : Bool} {k : Int} {ns : List Int} {Q : S → Prop} {E : Exn → Prop} : inOp neg (.d (.int k)) (.d (.tuple (ns.map .int))) Q E = Q (.d (.bool (if neg then !decide (k ∈ ns) else decide (k ∈ ns)))) := by
  show (flatD (.int k) = true ∧ (ns.map PyData.int).all flatD = true ∧ Q (.d (.bool (if neg then !((ns.map PyData.int).any fun y => PyData.eqv y (.int k)) else (ns.map PyData.int).any fun y => PyData.eqv y (.int k))))) = _
  rw [flat_ints, any_eqv]
  simp [flatD]
/-! ### two clauses -/
theorem comp2L_fmA {α : Type} {g g1 : MG} {t t1 : MT} {mi1 : MI} {e : ME} {vs1 : List Nat} {ρ : Rho} {Q : List PyData → Prop} (k : α → S) (p : α → Bool) (f : α → List PyData) (c : Nat) : ∀ {ns : List α} {acc : List PyData}, acc.length + ns.length * c ≤ sizeLine → (∀ a ∈ ns, (f a).length ≤ c) →
    (∀ (a : α) (acc : List PyData) (F : List PyData → Prop) (Z : Prop), a ∈ ns → acc.length + c ≤ sizeLine → (p a = true → F (acc ++ f a)) → (p a = false → Z) → g (k a) ρ (fun ρ1 => t ρ1 (fun b => if b = true then mi1 ρ1 (fun ss1 => compL g1 t1 e (wipeR ρ1 vs1) F ss1 acc) (fun _ => False) else Z) (fun _ => False))) →
    Q (acc ++ (ns.filter p).flatMap f) → comp2L g t mi1 g1 t1 e vs1 ρ Q (ns.map k) acc
  | [], acc, _, _, _, h => by
    rw [List.map_nil]
    unfold comp2L
    simpa using h
  | a :: ns, acc, hB, hc, hs, h => by
    rw [List.map_cons]
    unfold comp2L
    rw [List.length_cons, Nat.add_mul] at hB
    refine hs a acc _ _ List.mem_cons_self (by omega) (fun hp => ?_) fun hp => ?_
    · refine comp2L_fmA k p f c ?_ (fun s hm => hc s (List.mem_cons_of_mem _ hm)) (fun s acc F Z hm => hs s acc F Z (List.mem_cons_of_mem _ hm)) ?_
      · have := hc a List.mem_cons_self
        rw [List.length_append]
        omega
      · rw [List.filter_cons_of_pos hp, List.flatMap_cons] at h
        rw [List.append_assoc]
        exact h
    · refine comp2L_fmA k p f c (by omega) (fun s hm => hc s (List.mem_cons_of_mem _ hm)) (fun s acc F Z hm => hs s acc F Z (List.mem_cons_of_mem _ hm)) ?_
      rwa [List.filter_cons_of_neg (by simp [hp])] at h
theorem comp2L_fm {α : Type} {g g1 : MG} {t t1 : MT} {mi1 : MI} {e : ME} {vs1 : List Nat} {ρ : Rho} {Q : List PyData → Prop} {ns : List α} {ss : List S} (k : α → S) (f : α → List PyData) (c : Nat) (hss : ss = ns.map k) (hB : ns.length * c ≤ 1000000) (hc : ∀ a ∈ ns, (f a).length ≤ c)
    (hs : ∀ (a : α) (acc : List PyData) (F : List PyData → Prop) (Z : Prop), a ∈ ns → acc.length + c ≤ sizeLine → F (acc ++ f a) → g (k a) ρ (fun ρ1 => t ρ1 (fun b => if b = true then mi1 ρ1 (fun ss1 => compL g1 t1 e (wipeR ρ1 vs1) F ss1 acc) (fun _ => False) else Z) (fun _ => False)))
    (h : Q (ns.flatMap f)) : comp2L g t mi1 g1 t1 e vs1 ρ Q ss [] := by
  subst hss
  refine comp2L_fmA k (fun _ => true) f c (by have := sizeLine_ge hB; simpa using this) hc (fun a acc F Z hm hl h1 _ => hs a acc F Z hm hl (h1 rfl)) ?_
  rw [List.filter_eq_self.mpr fun _ _ => rfl]
  simpa using h
theorem compL_in {α : Type} {g : MG} {t : MT} {e : ME} {ρ : Rho} {Q : List PyData → Prop} {ss : List S} {acc : List PyData} (ns : List α) (k : α → S) (f : α → PyData) (hss : ss = ns.map k) (hz : acc.length + ns.length ≤ sizeLine)
    (hs : ∀ (i : α) (F : PyData → Prop) (Z : Prop), i ∈ ns → F (f i) → g (k i) ρ (fun ρ1 => t ρ1 (fun b => if b = true then e ρ1 (fun x => onD x F) (fun _ => False) else Z) (fun _ => False)))
    (hd : Q (acc ++ ns.map f)) : compL g t e ρ Q ss acc := by
  subst hss
  refine compL_fmA k (fun _ => true) f hz (fun i F Z hm h1 _ => hs i F Z hm (h1 rfl)) ?_
  rw [List.filter_eq_self.mpr fun _ _ => rfl]
  exact hd
theorem compL_inF {α : Type} {g : MG} {t : MT} {e : ME} {ρ : Rho} {Q : List PyData → Prop} {ss : List S} {acc : List PyData} (ns : List α) (k : α → S) (p : α → Bool) (f : α → PyData) (hss : ss = ns.map k) (hz : acc.length + ns.length ≤ sizeLine)
    (hs : ∀ (i : α) (F : PyData → Prop) (Z : Prop), i ∈ ns → (p i = true → F (f i)) → (p i = false → Z) → g (k i) ρ (fun ρ1 => t ρ1 (fun b => if b = true then e ρ1 (fun x => onD x F) (fun _ => False) else Z) (fun _ => False)))
    (hd : Q (acc ++ (ns.filter p).map f)) : compL g t e ρ Q ss acc := by
  subst hss
  exact compL_fmA k p f hz hs hd
theorem enum_ints (ns : List Int) : enumS (ns.map .int) = (List.range ns.length).map fun i => S.d (.tuple [.int (i : Nat), .int (ns[i]?.getD 0)]) := by
  apply List.ext_getElem?
  intro i
  by_cases h : i < ns.length
  · have e1 : (enumS (ns.map PyData.int))[i]? = some (S.d (.tuple [.int (i : Nat), .int (ns[i]?.getD 0)])) := by
      unfold enumS
      rw [List.getElem?_zipWith_eq_some]
      refine ⟨i, .int (ns[i]?.getD 0), ?_, ?_, rfl⟩
      · rw [List.length_map, List.getElem?_range h]
      · rw [List.getElem?_map, List.getElem?_eq_getElem h]
        rfl
    rw [e1, List.getElem?_map, List.getElem?_range h]
    rfl
  · rw [List.getElem?_eq_none (by rw [enumS_len, List.length_map]; omega), List.getElem?_eq_none (by rw [List.length_map, List.length_range]; omega)]
end DL
namespace DL
open PySem PySem.Spec PyProof.Rows L2 LamX NdefX
/-! ### a list of bowls -/
def onBw (s : S) (P : Prop) : Prop := match s with
  | .bowl => P
  | _ => False
theorem onBw_of {s : S} {P : Prop} (h : onBw s P) : s = .bowl ∧ P := by
  unfold onBw at h
  split at h
  · exact ⟨rfl, h⟩
  · exact h.elim
def compB (g : MG) (t : MT) (e : ME) (ρ : Rho) (Q : Nat → Prop) : List S → Nat → Prop
  | [], n => Q n
  | s :: ss, n => g s ρ (fun ρ1 => t ρ1 (fun b => if b = true then e ρ1 (fun x => onBw x (n < sizeLine ∧ compB g t e ρ Q ss (n + 1))) (fun _ => False) else compB g t e ρ Q ss n) (fun _ => False))
def dCompB (mi : MI) (g : MG) (t : MT) (e : ME) (vs : List Nat) : ME := fun ρ Q E => mi ρ (fun ss => compB g t e (wipeR ρ vs) (fun n => Q (.bowls n)) ss 0) E
theorem compB_ok {C : Cn} {mi : MI} {wi : TI} {mg : MG} {g : TG} {t : MT} {e : ME} {vs : List Nat} {σ : L2.St} {H : Hp} {Q : VK} (hI : IsI C mi wi) (hG : IsG C (fun i => i ∈ vs) mg g) (h : lift C (dCompB mi mg t e vs) σ H Q) :
    tLc wi g (liftT C.quiet t) (lift C.quiet e) vs σ H Q := by
  obtain ⟨w, ρ, Q', E', st, ok, hm, ct⟩ := h
  refine hI w ρ σ H _ _ _ st ok hm ct.ex fun w1 H1 J ss le ok1 hf good => ?_
  intro Dl hD
  refine ⟨fun i m H' => m = ss.length - i ∧ i ≤ ss.length ∧ ∃ (w' : Wd) (n : Nat) (us : List V), Le w1 H1 w' H' ∧ Ok C.T w' H' ∧ w'.ex Dl ∧ ¬ w'.bw Dl ∧ H' Dl = some (.lst us) ∧ (us.length = n ∧ ∀ x ∈ us, ∃ b, x = .ref b ∧ w'.bw b) ∧ compB mg t e (wipeR ρ vs) (fun n => Q' (.bowls n)) (ss.drop i) n,
    ⟨ss.length, by simp, Nat.zero_le _, w1.add Dl, 0, [], Le.add hD, ok1.add hD trivial, .inr rfl, fun z => ok1.fresh hD (w1.sub _ z), upd_same, ⟨rfl, fun x hx => by cases hx⟩, by simpa using hf⟩, ?_⟩
  rintro i m H' ⟨rfl, hi, w', n, us, l1, ok', hex, nbw, hl, ra, hc⟩
  obtain ⟨hgo, hstop⟩ := good w' H' l1.fle ok'
  by_cases hlt : i < ss.length
  · have es : ss[i]? = some ss[i] := List.getElem?_eq_getElem hlt
    obtain ⟨go, yl⟩ := hgo i _ es
    rw [List.drop_eq_getElem_cons hlt] at hc
    refine .inr ⟨go, fun H2 => ∃ (w2 : Wd) (n : Nat) (us : List V), Le w1 H1 w2 H2 ∧ Ok C.T w2 H2 ∧ w2.ex Dl ∧ ¬ w2.bw Dl ∧ H2 Dl = some (.lst us) ∧ (us.length = n ∧ ∀ x ∈ us, ∃ b, x = .ref b ∧ w2.bw b) ∧ compB mg t e (wipeR ρ vs) (fun n => Q' (.bowls n)) (ss.drop (i + 1)) n,
      fun H2 ⟨w2, a2, u2, q⟩ => ⟨ss.length - (i + 1), by omega, rfl, hlt, w2, a2, u2, q⟩, fun x H'' y => ?_⟩
    obtain ⟨l3, ok3, r3⟩ := yl x H'' y
    have stw : St C.K w' (wipeR ρ vs) (wipe σ vs) H'' := ((((st.wipe vs).le ok le).le ok1 l1).le ok' l3)
    refine hG w' H'' (wipeR ρ vs) (wipeR ρ vs) (wipe σ vs) (wipe σ vs) _ x _ _ (.refl _ _) r3 hc fun ρ4 σ4 se q => ⟨se.wipe, ?_⟩
    have st4 : St C.quiet.K w' ρ4 σ4 H'' := se.st stw
    have nDl : ∀ {w2 : Wd} {H2 : Hp}, Le w' H' w2 H2 → w2.ex Dl ∧ ¬ w2.bw Dl ∧ H2 Dl = some (.lst us) := fun {w2 H2} l => ⟨l.ex _ hex, fun z => (l.nbw Dl z).elim nbw fun z => (by
      rw [hl] at z
      cases z), l.keep _ _ hl nbw (fun _ z => by cases z)⟩
    have raL : ∀ {w2 : Wd} {H2 : Hp}, Le w' H' w2 H2 → us.length = n ∧ ∀ x ∈ us, ∃ b, x = .ref b ∧ w2.bw b := fun {w2 H2} l => ⟨ra.1, fun x hx => let ⟨b, e, h⟩ := ra.2 x hx; ⟨b, e, l.bw b h⟩⟩
    refine mk (C := C.quiet) st4 ok3 q (fun w5 b b' H5 l5 ok5 rb q5 => ?_) fun _ _ _ _ _ _ _ _ z => z.elim
    have eb : b = b' := rb
    subst eb
    have l35 := l3.trans l5
    cases b with
    | false =>
      obtain ⟨d1, d2, d3⟩ := nDl l35
      exact ⟨w5, n, us, l1.trans l35, ok5, d1, d2, d3, raL l35, q5⟩
    | true =>
      refine mk (C := C.quiet) (st4.le ok3 l5) ok5 q5 (fun w6 s v H6 l6 ok6 rs q6 => ?_) fun _ _ _ _ _ _ _ _ z => z.elim
      obtain ⟨rfl, hz, q6⟩ := onBw_of q6
      have l36 := l35.trans l6
      obtain ⟨d1, d2, d3⟩ := nDl l36
      obtain ⟨ra1, ra2⟩ := raL l36
      obtain ⟨bb, rfl, hbb⟩ := rs
      refine ⟨us, d3, by rw [ra1]; exact hz, w6, n + 1, us ++ [.ref bb], ?_, ?_, d1, d2, upd_same, ⟨by rw [List.length_append, ra1] <;> rfl, fun x hx => ?_⟩, q6⟩
      · have lt := l1.trans l36
        have nb : ∀ b o, H1 b = some o → b ≠ Dl := fun b o e z => by rw [z, hD] at e; cases e
        refine ⟨lt.ex, lt.bw, lt.new, lt.nbw, fun b o e n nt => by rw [upd_ne (nb b o e)]; exact lt.keep b o e n nt, fun b z => lt.non b ?_⟩
        unfold upd at z
        split at z
        · cases z
        · exact z
      · refine ⟨fun b z => ?_, fun b z => ?_, tabs_upd ok6.tabs ⟨_, d3, trivial⟩⟩
        · by_cases eb : b = Dl
          · subst eb; exact ⟨_, upd_same, trivial⟩
          · rw [upd_ne eb]; exact ok6.al b z
        · obtain ⟨p, q, r, e⟩ := ok6.bowl b z
          exact ⟨p, q, r, by rw [upd_ne (show b ≠ Dl from fun hb => d2 (by rw [← hb]; exact z))]; exact e⟩
      · rcases List.mem_append.mp hx with hx | hx
        · exact ra2 x hx
        · exact ⟨bb, by simpa using hx, hbb⟩
  · have ei : i = ss.length := by omega
    subst ei
    rw [List.drop_length] at hc
    refine .inl ⟨hstop, ?_⟩
    have lt := le.trans l1
    refine ct.ok (w'.drop Dl nbw) (.bowls n) (.ref Dl) H' ?_ (ok'.drop nbw) ?_ hc
    · exact Le.drop nbw lt fun b z e => by
        subst e
        exact ok1.fresh hD (le.ex b z)
    · exact ⟨Dl, us, rfl, ⟨hl, fun z => z.2 rfl⟩, ra.1, ra.2⟩
section
variable {X : Cx} {C : Cn} {a b elt iter : Expr} {ma mb m : ME} {pos : Pos} {w0 : Wd} {H0 : Hp}
theorem psd_setLcB (i : Nat) {y : Str} {py : Pos} {tg : Expr} {ifs : List Expr} {scope : Scope} {own : List (Str × Nat)} {spos : Pos} {wi : TI} {g : TG} {mi : MI} {mg : MG} {t : MT} (hc : X.calm = true) (hN : X.N.Nodup) (hsw : swapsWith (.ListComp elt [⟨tg, iter, ifs, 0⟩] scope pos) (some (.Name y py)) spos.line X.env = pure true) (hI : IsI C mi wi) (hi : PI X tg iter wi) (ok : BlkOk X.N X.env.scope scope own) (hG : IsG C (fun i => i ∈ own.map (·.2)) mg g)
    (hg : ∀ (s : Shared) (H : Hp) (L : Addr) (cl : List (Str × Addr)) (fp : List Addr), PG (X.blk s H scope (compEnvC scope cl L X.env) fp) tg g) (ht : ∀ (s : Shared) (H : Hp) (L : Addr) (cl : List (Str × Addr)) (fp : List Addr), PTs (X.blk s H scope (compEnvC scope cl L X.env) fp) ifs (liftT C.quiet t))
    (he : ∀ (s : Shared) (H : Hp) (L : Addr) (cl : List (Str × Addr)) (fp : List Addr), PE (X.blk s H scope (compEnvC scope cl L X.env) fp) elt (lift C.quiet m)) (hy : X.N[i]? = some y := by rfl) (hyl : X.env.scope.names.lookup y = some .local := by rfl) (hs : ∀ x, foldedSetIterable iter X.env x = pure x := by intro _; rfl) :
    PS X (.Assign [.Name y py] (.ListComp elt [⟨tg, iter, ifs, 0⟩] scope pos) spos) (liftS C w0 H0 (dAsg i (dCompB mi mg t m (own.map (·.2))))) := (ps_setLc hc hN hy hyl hsw hi ok hg ht he hs).weak fun D σ H h => by
  obtain ⟨w, ρ, k, st, hm, ct⟩ := h
  refine compB_ok hI hG (inS st ct hm fun w1 s v H1 l st1 ct1 r q => ?_)
  obtain ⟨no, q⟩ := plain_of q
  exact ct1.nx w1 _ _ H1 (FLe.refl _ _) (st1.set r no) q
theorem pd_compB {tg : Expr} {ifs : List Expr} {scope : Scope} {own : List (Str × Nat)} {wi : TI} {g : TG} {mi : MI} {mg : MG} {t : MT} (hc : X.calm = true) (hN : X.N.Nodup) (hI : IsI C mi wi) (hi : PI X tg iter wi) (ok : BlkOk X.N X.env.scope scope own) (hG : IsG C (fun i => i ∈ own.map (·.2)) mg g)
    (hg : ∀ (s : Shared) (H : Hp) (L : Addr) (cl : List (Str × Addr)) (fp : List Addr), PG (X.blk s H scope (compEnvC scope cl L X.env) fp) tg g) (ht : ∀ (s : Shared) (H : Hp) (L : Addr) (cl : List (Str × Addr)) (fp : List Addr), PTs (X.blk s H scope (compEnvC scope cl L X.env) fp) ifs (liftT C.quiet t))
    (he : ∀ (s : Shared) (H : Hp) (L : Addr) (cl : List (Str × Addr)) (fp : List Addr), PE (X.blk s H scope (compEnvC scope cl L X.env) fp) elt (lift C.quiet m)) (hs : ∀ x, foldedSetIterable iter X.env x = pure x := by intro _; rfl) :
    PE X (.ListComp elt [⟨tg, iter, ifs, 0⟩] scope pos) (lift C (dCompB mi mg t m (own.map (·.2)))) := (pe_lc hc hN hi ok hg ht he hs).weak fun _ _ _ h => compB_ok hI hG h
/-! wells[i], len(wells) -/
def bwS : O2 := fun x y Q _ => match x, y with
  | .bowls n, .d (.int i) => 0 ≤ i ∧ i < n ∧ Q .bowl
  | _, _ => False
theorem bw_is {C : Cn} : Is2 C bwS (rIx C.K) := by
  intro w H σ x y v u Q' E' Q ok rx ry h ct
  unfold bwS at h
  split at h
  · rename_i n i
    obtain rfl := sint ry
    obtain ⟨a, vs, rfl, f, hl, hb⟩ := rx
    have hi : i.toNat < vs.length := by omega
    obtain ⟨b, e, hbb⟩ := hb _ (List.getElem_mem hi)
    have e2 : atI vs i = some vs[i.toNat] := by
      have := atI_nat (xs := vs) (j := i.toNat) (List.getElem?_eq_getElem hi)
      rwa [show ((i.toNat : Nat) : Int) = i by omega] at this
    exact .inl ⟨a, vs, i, _, rfl, rfl, .inl (.inl f.1), e2, ct.here ok (show SRep C.K w H .bowl _ from ⟨b, e, hbb⟩) h.2.2⟩
  · exact h.elim
theorem pd_bw (ha : PE X a (lift C ma)) (hb : PE X b (lift C mb)) (hs : PlainIx b := by exact fun _ _ => rfl) (hK : X.K = C.K := by rfl) : PE X (.Subscript a b pos) (lift C (dOp2 bwS ma mb)) := (pe_ix ix_seq ha hb hs).weak fun _ _ _ h => by
  rw [hK]
  exact op2_ok bw_is h
abbrev lenBS : OA := one fun s Q => match s with
  | .bowls n => Q (.d (.int n))
  | _ => False
theorem lenB_is {C : Cn} : IsA C lenBS (fun xs H Q => ∃ p ys, xs = [.ref p] ∧ (SqL C.K H p ys ∨ SqT C.K H p ys) ∧ Q (.int ys.length) H) := one_is fun w H σ s v Q' E' Q ok r q ct => by
  split at q
  · rename_i n
    obtain ⟨a, vs, rfl, f, hl, hb⟩ := r
    exact ⟨a, vs, rfl, .inl (.inl (.inl f.1)), ct.here ok (by rw [hl]; exact rep_int) q⟩
  · exact q.elim
theorem pd_lenB {p : Pos} {e : Expr} {es : List Expr} {mr : MA} (hm : X.mg "len" = none) (ha : PA X (e :: es) (liftA C mr)) (hg : Gl X "len" := by rfl) (hK : X.K = C.K := by rfl) (he : starEach (e :: es) X.env = (false, eval e X.env) :: starEach es X.env := by rfl) (hpl : (backTo pos (starEach es X.env)).any (·.1) = false := by rfl) :
    PE X (.Call (.Name "len" p) (e :: es) [] pos) (lift C (dCB lenBS mr)) := pd_callB call_len_seq (by rw [hK]; exact lenB_is) PySem.boot_len hg hm ha (he := he) (hpl := hpl)
end
theorem lenBS_b {n : Nat} {Q : S → Prop} {E : Exn → Prop} : lenBS [.bowls n] Q E = Q (.d (.int n)) := propext Iff.rfl
theorem onIB_i {i : Int} {P : Int → Prop} : onIB (.d (.int i)) P = P i := propext Iff.rfl
theorem onIB_b {b : Bool} {P : Int → Prop} : onIB (.d (.bool b)) P = P (if b = true then 1 else 0) := propext Iff.rfl
theorem bwS_b {n : Nat} {i : Int} {Q : S → Prop} {E : Exn → Prop} : bwS (.bowls n) (.d (.int i)) Q E = (0 ≤ i ∧ i < n ∧ Q .bowl) := propext Iff.rfl
theorem e_dCompB (mi : MI) (g : MG) (t : MT) (e : ME) (vs : List Nat) {o : Option S} {ρ : Rho} {Q : S → Prop} {E : Exn → Prop} : dCompB mi g t e vs (o :: ρ) Q E = mi (o :: ρ) (fun ss => compB g t e (wipeR (o :: ρ) vs) (fun n => Q (.bowls n)) ss 0) E := propext Iff.rfl
theorem plain_bowls {n : Nat} {P : Prop} : plain (.bowls n) P = P := propext Iff.rfl
theorem isOwn_bowls {n : Nat} : isOwn (.bowls n) = false := rfl
/-- all of the list's bowls are made -/
theorem compB_all {g : MG} {t : MT} {e : ME} {ρ : Rho} {Q : Nat → Prop} : ∀ {ss : List S} {n : Nat}, n + ss.length ≤ sizeLine →
    (∀ (s : S) (F Z : Prop), s ∈ ss → F → g s ρ (fun ρ1 => t ρ1 (fun b => if b = true then e ρ1 (fun x => onBw x F) (fun _ => False) else Z) (fun _ => False))) → Q (n + ss.length) → compB g t e ρ Q ss n
  | [], n, _, _, h => h
  | s :: ss, n, hz, hs, h => by
    unfold compB
    rw [List.length_cons] at hz
    refine hs s _ _ List.mem_cons_self ⟨by omega, ?_⟩
    refine compB_all (by omega) (fun s F Z hm => hs s F Z (List.mem_cons_of_mem _ hm)) ?_
    rw [List.length_cons] at h
    rwa [show n + 1 + ss.length = n + (ss.length + 1) by omega]
end DL
namespace DL
open PySem PySem.Spec PyProof.Rows L2 LamX NdefX
/-! ### a, b = a list -/
def gL (gs : List MG) : MG := fun s ρ P => onLs s fun l => l.length = gs.length ∧ gT.gTs gs l ρ P
section
variable {C : Cn} {w0 : Wd} {H0 : Hp}
theorem gsLst {gs : List MG} {t : TGs} {n : Nat} (hn : gs.length = n) (h : IsGSs C w0 H0 gs t) : IsGS C w0 H0 (gL gs) (gUnl C.K n t) := fun w H ρ σ s v P G st r q k => by
  obtain ⟨l, a, vs, rfl, h1, h2, q⟩ := onLs_of (C := C) r q
  exact ⟨a, vs, rfl, h1, by rw [h2.length, q.1, hn], h w H ρ σ l vs P G st q.1 h2 q.2 k⟩
theorem e_gL (gs : List MG) {l : List PyData} {o : Option S} {ρ : Rho} {P : Rho → Prop} : gL gs (.d (.list l)) (o :: ρ) P = (l.length = gs.length ∧ gT.gTs gs l (o :: ρ) P) := propext Iff.rfl
end
end DL
namespace DL
open PySem PySem.Spec PyProof.Rows L2 LamX NdefX
/-! ### max and min of a list of whole numbers -/
abbrev maxLS : OA := one fun s Q => onLs s fun l => onIs l fun ns => 0 < ns.length ∧ ∀ m : Int, m ∈ ns → (∀ y, y ∈ ns → y ≤ m) → Q (.d (.int m))
abbrev minLS : OA := one fun s Q => onLs s fun l => onIs l fun ns => 0 < ns.length ∧ ∀ m : Int, m ∈ ns → (∀ y, y ∈ ns → m ≤ y) → Q (.d (.int m))
theorem maxL_is {C : Cn} : IsA C maxLS (rMax C.K) := one_is fun w H σ s v Q' E' Q ok r q ct => by
  obtain ⟨l, a, vs, rfl, h1, h2, q⟩ := onLs_of (C := C) r q
  obtain ⟨ns, rfl, q2⟩ := onIs_of q
  obtain rfl := repL_ints h2
  exact ⟨a, ns, rfl, h1, q2.1, fun m h3 h4 => ct.here ok rep_int (q2.2 m h3 h4)⟩
theorem minL_is {C : Cn} : IsA C minLS (rMin C.K) := one_is fun w H σ s v Q' E' Q ok r q ct => by
  obtain ⟨l, a, vs, rfl, h1, h2, q⟩ := onLs_of (C := C) r q
  obtain ⟨ns, rfl, q2⟩ := onIs_of q
  obtain rfl := repL_ints h2
  exact ⟨a, ns, rfl, h1, q2.1, fun m h3 h4 => ct.here ok rep_int (q2.2 m h3 h4)⟩
section
variable {X : Cx} {C : Cn} {p pos : Pos} {e : Expr} {es : List Expr} {mr : MA}
theorem pd_maxL (hc : X.calm = true) (hm : X.mg "max" = none) (ha : PA X (e :: es) (liftA C mr)) (hg : Gl X "max" := by rfl) (hK : X.K = C.K := by rfl) (he : starEach (e :: es) X.env = (false, eval e X.env) :: starEach es X.env := by rfl) (hpl : (backTo pos (starEach es X.env)).any (·.1) = false := by rfl) :
    PE X (.Call (.Name "max" p) (e :: es) [] pos) (lift C (dCB maxLS mr)) := pd_callB (cr_max hc) (by rw [hK]; exact maxL_is) (by decide +kernel) hg hm ha (he := he) (hpl := hpl)
theorem pd_minL (hc : X.calm = true) (hm : X.mg "min" = none) (ha : PA X (e :: es) (liftA C mr)) (hg : Gl X "min" := by rfl) (hK : X.K = C.K := by rfl) (he : starEach (e :: es) X.env = (false, eval e X.env) :: starEach es X.env := by rfl) (hpl : (backTo pos (starEach es X.env)).any (·.1) = false := by rfl) :
    PE X (.Call (.Name "min" p) (e :: es) [] pos) (lift C (dCB minLS mr)) := pd_callB (cr_min hc) (by rw [hK]; exact minL_is) (by decide +kernel) hg hm ha (he := he) (hpl := hpl)
end
end DL
namespace DL
/-! ### the next choice of so many below a number -/
def nxC (n : Nat) : List Nat → Option (List Nat)
  | [] => none
  | a :: l => match nxC n l with
    | some m => some (a :: m)
    | none => if a = n - (l.length + 1) then none else some ((List.range (l.length + 1)).map (a + 1 + ·))
def stC (n : Nat) (l : List Nat) : Option (List Nat) :=
  match (List.range l.length).reverse.find? fun j => l.getD j 0 != j + n - l.length with
  | none => none
  | some j => some (l.take j ++ (List.range (l.length - j)).map (l.getD j 0 + 1 + ·))
theorem stC_eq (n : Nat) : ∀ l : List Nat, stC n l = nxC n l
  | [] => rfl
  | a :: l => by
    have ih := stC_eq n l
    unfold stC at ih ⊢
    rw [List.length_cons, List.range_succ_eq_map, List.reverse_cons, ← List.map_reverse, List.find?_append, List.find?_map]
    have hp : ((fun j => (a :: l).getD j 0 != j + n - (l.length + 1)) ∘ Nat.succ) = fun j => l.getD j 0 != j + n - l.length := by
      funext j
      simp only [Function.comp, Nat.succ_eq_add_one, List.getD_cons_succ]
      rw [show j + 1 + n - (l.length + 1) = j + n - l.length by omega]
    rw [hp]
    unfold nxC
    rw [← ih]
    cases h : (List.range l.length).reverse.find? fun j => l.getD j 0 != j + n - l.length with
    | some j =>
      simp only [Option.map_some, Option.some_or, Nat.succ_eq_add_one, List.take_succ_cons, List.getD_cons_succ, List.cons_append]
      rw [show l.length + 1 - (j + 1) = l.length - j by omega]
    | none =>
      simp only [Option.map_none, Option.none_or]
      by_cases e : a = n - (l.length + 1)
      · rw [if_pos e]
        simp [e]
      · rw [if_neg e]
        simp [e]
/-- all choices of r of the k numbers from lo on -/
def cmb : Nat → Nat → Nat → List (List Nat)
  | _, _, 0 => [[]]
  | _, 0, _ + 1 => []
  | lo, k + 1, r + 1 => (cmb (lo + 1) k r).map (lo :: ·) ++ cmb (lo + 1) k (r + 1)
theorem cmb_len : ∀ (k lo r : Nat) (a : List Nat), a ∈ cmb lo k r → a.length = r ∧ ∀ i ∈ a, lo ≤ i ∧ i < lo + k
  | _, _, 0, a, h => by simp [cmb] at h; subst h; simp
  | 0, _, _ + 1, a, h => by simp [cmb] at h
  | k + 1, lo, r + 1, a, h => by
    unfold cmb at h
    rcases List.mem_append.mp h with h | h
    · obtain ⟨b, hb, rfl⟩ := List.mem_map.mp h
      obtain ⟨h1, h2⟩ := cmb_len k (lo + 1) r b hb
      refine ⟨by simp [h1], fun i hi => ?_⟩
      rcases List.mem_cons.mp hi with rfl | hi
      · omega
      · have := h2 i hi; omega
    · obtain ⟨h1, h2⟩ := cmb_len k (lo + 1) (r + 1) a h
      exact ⟨h1, fun i hi => by have := h2 i hi; omega⟩
theorem cmb_nil : ∀ (k lo r : Nat), k < r → cmb lo k r = []
  | _, _, 0, h => by omega
  | 0, _, _ + 1, _ => by simp [cmb]
  | k + 1, lo, r + 1, h => by
    unfold cmb
    rw [cmb_nil k (lo + 1) r (by omega), cmb_nil k (lo + 1) (r + 1) (by omega)]
    rfl
theorem rng_cons (lo r : Nat) : lo :: (List.range r).map (lo + 1 + ·) = (List.range (r + 1)).map (lo + ·) := by
  rw [List.range_succ_eq_map, List.map_cons, List.map_map, Nat.add_zero]
  congr 1
  apply List.map_congr_left
  intro i _
  simp only [Function.comp, Nat.succ_eq_add_one]
  omega
theorem cmb_head : ∀ (k lo r : Nat), r ≤ k → (cmb lo k r)[0]? = some ((List.range r).map (lo + ·))
  | _, _, 0, _ => by simp [cmb]
  | 0, _, _ + 1, h => by omega
  | k + 1, lo, r + 1, h => by
    unfold cmb
    have ih := cmb_head k (lo + 1) r (by omega)
    cases hc : cmb (lo + 1) k r with
    | nil => rw [hc] at ih; simp at ih
    | cons b t =>
      rw [hc] at ih
      have e : b = (List.range r).map (lo + 1 + ·) := by simpa using ih
      subst e
      simp only [List.map_cons, List.cons_append, List.getElem?_cons_zero]
      rw [rng_cons]
theorem suc_app {f f0 : List Nat → Option (List Nat)} {g : List Nat → List Nat} {L M : List (List Nat)} (h0 : ∀ (i : Nat) (a : List Nat), L[i]? = some a → f0 a = L[i + 1]?)
    (h1 : ∀ a ∈ L, f (g a) = match f0 a with | some m => some (g m) | none => M[0]?) (h2 : ∀ (i : Nat) (a : List Nat), M[i]? = some a → f a = M[i + 1]?) :
    ∀ (i : Nat) (a : List Nat), (L.map g ++ M)[i]? = some a → f a = (L.map g ++ M)[i + 1]? := by
  intro i a h
  by_cases hi : i < L.length
  · rw [List.getElem?_append_left (by rw [List.length_map]; exact hi), List.getElem?_map, List.getElem?_eq_getElem hi] at h
    simp only [Option.map_some, Option.some.injEq] at h
    subst h
    rw [h1 _ (List.getElem_mem hi), h0 i _ (List.getElem?_eq_getElem hi)]
    by_cases hj : i + 1 < L.length
    · rw [List.getElem?_append_left (by rw [List.length_map]; exact hj), List.getElem?_map, List.getElem?_eq_getElem hj]
      rfl
    · rw [List.getElem?_append_right (by rw [List.length_map]; omega), List.length_map, show i + 1 - L.length = 0 by omega, List.getElem?_eq_none (by omega)]
  · rw [List.getElem?_append_right (by rw [List.length_map]; omega), List.length_map] at h
    rw [List.getElem?_append_right (by rw [List.length_map]; omega), List.length_map, h2 _ _ h, show i - L.length + 1 = i + 1 - L.length by omega]
theorem cmb_suc : ∀ (k lo r : Nat) (i : Nat) (a : List Nat), (cmb lo k r)[i]? = some a → nxC (lo + k) a = (cmb lo k r)[i + 1]?
  | _, _, 0, i, a, h => by
    unfold cmb at h ⊢
    cases i with
    | zero => simp at h; subst h; rfl
    | succ i => simp at h
  | 0, _, _ + 1, i, a, h => by simp [cmb] at h
  | k + 1, lo, r + 1, i, a, h => by
    unfold cmb at h ⊢
    refine suc_app (f0 := nxC (lo + (k + 1))) (fun i a h => ?_) (fun a ha => ?_) (fun i a h => ?_) i a h
    · rw [show lo + (k + 1) = lo + 1 + k by omega]
      exact cmb_suc k (lo + 1) r i a h
    · obtain ⟨hl, _⟩ := cmb_len k (lo + 1) r a ha
      have hk : r ≤ k := by
        apply Classical.byContradiction
        intro hn
        rw [cmb_nil k (lo + 1) r (by omega)] at ha
        exact absurd ha (by simp)
      conv => lhs; unfold nxC
      cases nxC (lo + (k + 1)) a with
      | some m => rfl
      | none =>
        simp only [hl]
        by_cases e : r + 1 ≤ k
        · rw [if_neg (by omega), cmb_head k (lo + 1) (r + 1) e]
        · rw [if_pos (by omega), cmb_nil k (lo + 1) (r + 1) (by omega)]
          rfl
    · rw [show lo + (k + 1) = lo + 1 + k by omega]
      exact cmb_suc k (lo + 1) (r + 1) i a h
end DL
namespace DL
open PySem PySem.Spec PyProof.Rows L2 LamX NdefX
/-- all choices of so many items, as their places rise -/
def chs {α : Type} : List α → Nat → List (List α)
  | _, 0 => [[]]
  | [], _ + 1 => []
  | x :: l, r + 1 => (chs l r).map (x :: ·) ++ chs l (r + 1)
theorem cmb_chs {α : Type} (f : Nat → α) : ∀ (k lo r : Nat), (cmb lo k r).map (·.map f) = chs ((List.range k).map fun i => f (lo + i)) r
  | _, _, 0 => by simp [cmb, chs]
  | 0, _, _ + 1 => by simp [cmb, chs]
  | k + 1, lo, r + 1 => by
    have e : (List.range (k + 1)).map (fun i => f (lo + i)) = f lo :: (List.range k).map fun i => f (lo + 1 + i) := by
      rw [List.range_succ_eq_map, List.map_cons, List.map_map, Nat.add_zero]
      congr 1
      apply List.map_congr_left
      intro i _
      simp only [Function.comp, Nat.succ_eq_add_one]
      rw [show lo + (i + 1) = lo + 1 + i by omega]
    rw [e]
    unfold cmb chs
    rw [List.map_append, List.map_map, cmb_chs f k (lo + 1) (r + 1), ← cmb_chs f k (lo + 1) r, List.map_map]
    rfl
theorem cmb_list {α : Type} (l : List α) (d : α) (r : Nat) : (cmb 0 l.length r).map (fun ix => ix.map fun j => l.getD j d) = chs l r := by
  have h := cmb_chs (fun j => l.getD j d) l.length 0 r
  have e : (List.range l.length).map (fun i => l.getD (0 + i) d) = l := by
    apply List.ext_getElem
    · simp
    · intro i h1 h2
      simp [List.getD_eq_getElem?_getD, h2]
  rw [e] at h
  exact h
def chT (l : List PyData) (r : Nat) : List S := (chs l r).map fun t => .d (.tuple t)
def dCmb (ma : MA) : MI := fun ρ F E => ma ρ (fun ss => match ss with
  | [s, .d (.int r)] => onSeq s fun l => 0 ≤ r ∧ r ≤ 1000 ∧ F (chT l r.toNat)
  | _ => False) E
theorem e_dCmb (ma : MA) {o : Option S} {ρ : Rho} {Q : List S → Prop} {E : Exn → Prop} : dCmb ma (o :: ρ) Q E = ma (o :: ρ) (fun ss => match ss with
  | [s, .d (.int r)] => onSeq s fun l => 0 ≤ r ∧ r ≤ 1000 ∧ Q (chT l r.toNat)
  | _ => False) E := propext Iff.rfl
/-- what a key is: a number, a tuple of whole numbers -/
def KeyD (d : D) : Prop := ∃ (n : Int) (ns : List Int), d = .tuple [.int n, .tuple (ns.map .int)]
def keyS (s : S) : Prop := match s with
  | .d d => KeyD d
  | _ => False
def dSortK (φ : Rho → MF) (m : ME) : ME := fun ρ Q E => m ρ (fun s => onLs s fun l => l.length ≤ 1000000 ∧ (∀ d ∈ l, φ ρ [.d d] keyS (fun _ => False)) ∧ ∀ out : List PyData, out.Perm l → Q (.d (.list out))) E
theorem e_dSortK (φ : Rho → MF) (m : ME) {o : Option S} {ρ : Rho} {Q : S → Prop} {E : Exn → Prop} : dSortK φ m (o :: ρ) Q E = m (o :: ρ) (fun s => onLs s fun l => l.length ≤ 1000000 ∧ (∀ d ∈ l, φ (o :: ρ) [.d d] keyS (fun _ => False)) ∧ ∀ out : List PyData, out.Perm l → Q (.d (.list out))) E := propext Iff.rfl
theorem e_keyS {n : Int} {ns : List Int} : keyS (.d (.tuple [.int n, .tuple (ns.map .int)])) = True := by
  show KeyD _ = True
  exact eq_true ⟨n, ns, rfl⟩
end DL
namespace Lw
open PySem PySem.Spec PyProof.Rows L2 LamX NdefX DL
abbrev v_MOST_GROUP : PyData := (.int 9)
abbrev v_MOST_BOTH : PyData := (.int 10)
def b__law_draw : MS := dSeq (dIfS (dB (dOp2 gtS (dOp2 bixS (dVar 0) (dC (.int 0))) (dC (.int 0)))) (dSeq (dAsgG (gT [gBw 0 (dC (.int 0)), gN 2]) (dCB divmodS (dCons (dOp2 bixS (dVar 0) (dC (.int 0))) (dCons (dVar 1) dNil)))) (dRet (dVar 2))) (dNext)) (dSeq (dAsgG (gBw 0 (dC (.int 2))) (dOp2 addS (dOp2 bixS (dVar 0) (dC (.int 2))) (dC (.int 1)))) (dSeq (dAsg 3 (dOp2 modS (dCB intS (dCons (dOp2 addS (dOp2 mulS (dOp2 bixS (dVar 0) (dC (.int 1))) (dC (.int 39373))) (dOp2 mulS (dC (.int 17011)) (dOp2 bixS (dVar 0) (dC (.int 2))))) dNil)) (dC (.int 2147483563)))) (dSeq (dAsgG (gBw 0 (dC (.int 1))) (dOp2 modS (dCB intS (dCons (dOp2 addS (dOp2 mulS (dVar 3) (dOp2 addS (dOp2 modS (dCB intS (dCons (dVar 3) dNil)) (dC (.int 4093))) (dC (.int 30011)))) (dOp2 mulS (dC (.int 7)) (dOp2 bixS (dVar 0) (dC (.int 2))))) dNil)) (dC (.int 2147483563)))) (dRet (dOp2 modS (dCB intS (dCons (dOp2 divS (dOp2 bixS (dVar 0) (dC (.int 1))) (dC (.int 733))) dNil)) (dVar 1))))))
def m__law_draw : MF := dDef 4 b__law_draw
def b__law_of : MS := dRet (dOp2 ixS (dVar 1) (dCall 2 m__law_draw (dCons (dVar 0) (dCons (dCB lenS (dCons (dVar 1) dNil)) dNil))))
def m__law_of : MF := dDef 2 b__law_of
def b__law_level : MS := dRet (dCall 2 m__law_of (dCons (dVar 0) (dCons (dTup (dCons (dTup (dCons (dC (.int 1)) (dCons (dC (.int 2)) dNil))) (dCons (dTup (dCons (dC (.int 1)) (dCons (dC (.int 5)) dNil))) (dCons (dTup (dCons (dC (.int 1)) (dCons (dC (.int 10)) dNil))) (dCons (dTup (dCons (dC (.int 1)) (dCons (dC (.int 20)) dNil))) (dCons (dTup (dCons (dC (.int 9)) (dCons (dC (.int 10)) dNil))) (dCons (dTup (dCons (dC (.int 2)) (dCons (dC (.int 3)) dNil))) (dCons (dTup (dCons (dC (.int 1)) (dCons (dC (.int 100)) dNil))) (dCons (dTup (dCons (dC (.int 1)) (dCons (dC (.int 3)) dNil))) dNil))))))))) dNil)))
def m__law_level : MF := dDef 1 b__law_level
def b__law_sets : MS := dSeq (dAsg 1 (dLst (dCons (dTup dNil) dNil))) (dSeq (dFor (dRng1 (dCons (dVar 0) dNil)) (gN 2) (dAsg 1 (dOp2 addS (dVar 1) (dComp (dIter (dVar 1)) (gN 3) dYes (dOp2 addS (dVar 3) (dTup (dCons (dVar 2) dNil))) [3])))) (dRet (dSortK (lamM 1 [] (dTup (dCons (dCB lenS (dCons (dVar 0) dNil)) (dCons (dVar 0) dNil)))) (dVar 1))))
def m__law_sets : MF := dDef 4 b__law_sets
def b__law_ranks : MS := dRet (dComp (dIter (dVar 0)) (gN 3) dYes (dOp2 addS (dOp2 addS (dOp2 mulS (dC (.int 2)) (dCB lenS (dCons (dComp (dIter (dVar 1)) (gN 2) (dB (dOp2 ltS (dVar 2) (dVar 3))) (dVar 2) [2]) dNil))) (dCB lenS (dCons (dComp (dIter (dVar 1)) (gN 2) (dB (dOp2 (eqS false) (dVar 2) (dVar 3))) (dVar 2) [2]) dNil))) (dC (.int 1))) [3])
def m__law_ranks : MF := dDef 4 b__law_ranks
def b__law_measure : MS := dSeq (dIfS (dB (dOp2 (eqS false) (dVar 2) (dC (.str "sum")))) (dRet (dCB sumS (dCons (dVar 0) dNil))) (dNext)) (dSeq (dIfS (dB (dOp2 (eqS false) (dVar 2) (dC (.str "ranks")))) (dRet (dCB sumS (dCons (dCall 2 m__law_ranks (dCons (dVar 0) (dCons (dOp2 addS (dVar 0) (dVar 1)) dNil))) dNil))) (dNext)) (dSeq (dAsg 3 (dC (.int 0))) (dSeq (dFor (dIter (dVar 0)) (gN 4) (dAsg 3 (dOp2 subS (dOp2 addS (dVar 3) (dCB lenS (dCons (dComp (dIter (dVar 1)) (gN 5) (dB (dOp2 gtS (dVar 4) (dVar 5))) (dVar 5) [5]) dNil))) (dCB lenS (dCons (dComp (dIter (dVar 1)) (gN 5) (dB (dOp2 ltS (dVar 4) (dVar 5))) (dVar 5) [5]) dNil))))) (dRet (dVar 3)))))
def m__law_measure : MF := dDef 6 b__law_measure
def b__law_dealt : MS := dSeq (dSetsN [3, 4] (dCons (dPl (dOp2 addS (dVar 0) (dVar 1))) (dCons (dNewO dNil) dNil))) (dSeq (dFor (dIter (dCall 1 m__law_sets (dCons (dCB lenS (dCons (dVar 3) dNil)) dNil))) (gN 5) (dIfS (dB (dOp2 (eqS false) (dCB lenS (dCons (dVar 5) dNil)) (dCB lenS (dCons (dVar 0) dNil)))) (dSeq (dPar 6 7 (dCB tupleS (dCons (dComp (dIter (dVar 5)) (gN 8) dYes (dOp2 ixS (dVar 3) (dVar 8)) [8]) dNil)) (dCB tupleS (dCons (dComp (dRng1 (dCons (dCB lenS (dCons (dVar 3) dNil)) dNil)) (gN 8) (dB (dOp2 (inOp true) (dVar 8) (dVar 5))) (dOp2 ixS (dVar 3) (dVar 8)) [8]) dNil))) (dApp 4 (dCall 3 m__law_measure (dCons (dVar 6) (dCons (dVar 7) (dCons (dVar 2) dNil)))))) (dNext))) (dFreeze 4 (dRet (dVar 4))))
def m__law_dealt : MF := dDef 9 b__law_dealt
def b__law_bound : MS := dSeq (dAsg 3 (dOp1 (rg1S false) (dOp2 addS (dVar 0) (dVar 1)))) (dSeq (dAsg 4 (dCall 3 m__law_dealt (dCons (dCB tupleS (dCons (dSl (dVar 3) (dNoPart) (dPart (dVar 0))) dNil)) (dCons (dCB tupleS (dCons (dSl (dVar 3) (dPart (dVar 0)) (dNoPart)) dNil)) (dCons (dC (.str "above")) dNil))))) (dSeq (dFor (dRng1 (dCons (dOp2 addS (dOp2 mulS (dVar 0) (dVar 1)) (dC (.int 1))) dNil)) (gN 5) (dIfS (dB (dOp2 leS (dOp2 mulS (dCB lenS (dCons (dComp (dIter (dVar 4)) (gN 6) (dB (dOp2 gtS (dCB absS (dCons (dVar 6) dNil)) (dVar 5))) (dVar 6) [6]) dNil)) (dOp2 ixS (dVar 2) (dC (.int 1)))) (dOp2 mulS (dOp2 ixS (dVar 2) (dC (.int 0))) (dCB lenS (dCons (dVar 4) dNil))))) (dRet (dVar 5)) (dNext))) (dRet (dOp2 mulS (dVar 0) (dVar 1)))))
def m__law_bound : MF := dDef 7 b__law_bound
def b_is_whole : MS := dRet (dAndV (dIsI "int" (dVar 0)) (dNotV (dIsI "bool" (dVar 0))))
def m_is_whole : MF := dDef 1 b_is_whole
def b_is_between : MS := dRet (dAndV (dCall 1 m_is_whole (dCons (dVar 0) dNil)) (dChain leS leS (dVar 1) (dVar 0) (dVar 2)))
def m_is_between : MF := dDef 3 b_is_between
def b_check_number : MS := dIfS (dNot (dB (dCall 3 m_is_between (dCons (dVar 0) (dCons (dVar 1) (dCons (dVar 2) dNil)))))) (dNever) (dNext)
def m_check_number : MF := dDef 3 b_check_number
def b_check_sizes : MS := dSeq (dDrop (dCall 3 m_check_number (dCons (dVar 0) (dCons (dC (.int 1)) (dCons (dC v_MOST_GROUP) dNil))))) (dSeq (dDrop (dCall 3 m_check_number (dCons (dVar 1) (dCons (dC (.int 1)) (dCons (dC v_MOST_GROUP) dNil))))) (dIfS (dB (dOp2 gtS (dOp2 addS (dVar 0) (dVar 1)) (dC v_MOST_BOTH))) (dNever) (dNext)))
def m_check_sizes : MF := dDef 2 b_check_sizes
def b_is_tuple_of : MS := dRet (dAndV (dIsI "tuple" (dVar 0)) (dOp2 (eqS false) (dCB lenS (dCons (dVar 0) dNil)) (dVar 1)))
def m_is_tuple_of : MF := dDef 2 b_is_tuple_of
def b_is_pair : MS := dRet (dCall 2 m_is_tuple_of (dCons (dVar 0) (dCons (dC (.int 2)) dNil)))
def m_is_pair : MF := dDef 1 b_is_pair
def b_is_fraction : MS := dSeq (dIfS (dOr (dNot (dB (dCall 1 m_is_pair (dCons (dVar 0) dNil)))) (dNot (dB (dCB allS (dCons (dComp (dIter (dVar 0)) (gN 1) dYes (dCall 1 m_is_whole (dCons (dVar 1) dNil)) [1]) dNil))))) (dRet (dC (.bool false))) (dNext)) (dRet (dAndV (dOp2 gtS (dOp2 ixS (dVar 0) (dC (.int 1))) (dC (.int 0))) (dOp2 (eqS false) (dCB gcdS (dCons (dOp2 ixS (dVar 0) (dC (.int 0))) (dCons (dOp2 ixS (dVar 0) (dC (.int 1))) dNil))) (dC (.int 1)))))
def m_is_fraction : MF := dDef 2 b_is_fraction
def b_is_open_part : MS := dRet (dAndV (dCall 1 m_is_fraction (dCons (dVar 0) dNil)) (dChain ltS ltS (dC (.int 0)) (dOp2 ixS (dVar 0) (dC (.int 0))) (dOp2 ixS (dVar 0) (dC (.int 1)))))
def m_is_open_part : MF := dDef 1 b_is_open_part
def b_check_level : MS := dIfS (dNot (dB (dCall 1 m_is_open_part (dCons (dVar 0) dNil)))) (dNever) (dNext)
def m_check_level : MF := dDef 1 b_check_level
def b_beyond : MS := dRet (dCB lenS (dCons (dComp (dIter (dVar 0)) (gN 2) (dB (dOp2 gtS (dCB absS (dCons (dVar 2) dNil)) (dVar 1))) (dVar 2) [2]) dNil))
def m_beyond : MF := dDef 3 b_beyond
def b_least_bound : MS := dSeq (dAsg 3 (dC (.int 0))) (dSeq (dWhile (dAnd (dB (dOp2 ltS (dVar 3) (dVar 1))) (dB (dOp2 gtS (dOp2 mulS (dCall 2 m_beyond (dCons (dVar 0) (dCons (dVar 3) dNil))) (dOp2 ixS (dVar 2) (dC (.int 1)))) (dOp2 mulS (dOp2 ixS (dVar 2) (dC (.int 0))) (dCB lenS (dCons (dVar 0) dNil)))))) (dAsg 3 (dOp2 addS (dVar 3) (dC (.int 1))))) (dRet (dVar 3)))
def m_least_bound : MF := dDef 4 b_least_bound
def b_dealt_by : MS := dRet (dComp (dCmb (dCons (dVar 0) (dCons (dCB intS (dCons (dVar 1) dNil)) dNil))) (gN 2) dYes (dCB sumS (dCons (dVar 2) dNil)) [2])
def m_dealt_by : MF := dDef 3 b_dealt_by
def b_unlike_leads : MS := dRet (dComp (dRng1 (dCons (dVar 0) dNil)) (gN 1) dYes (dOp2 subS (dOp2 mulS (dC (.int 2)) (dVar 1)) (dOp2 subS (dVar 0) (dC (.int 1)))) [1])
def m_unlike_leads : MF := dDef 2 b_unlike_leads
def b_bound_by : MS := dRet (dCall 3 m_least_bound (dCons (dCall 2 m_dealt_by (dCons (dCall 1 m_unlike_leads (dCons (dOp2 addS (dVar 0) (dVar 1)) dNil)) (dCons (dVar 0) dNil))) (dCons (dOp2 mulS (dVar 0) (dVar 1)) (dCons (dVar 2) dNil))))
def m_bound_by : MF := dDef 3 b_bound_by
def b_bound : MS := dSeq (dDrop (dCall 2 m_check_sizes (dCons (dVar 0) (dCons (dVar 1) dNil)))) (dSeq (dDrop (dCall 1 m_check_level (dCons (dVar 2) dNil))) (dRet (dCall 3 m_bound_by (dCons (dVar 0) (dCons (dVar 1) (dCons (dVar 2) dNil))))))
def m_bound : MF := dDef 3 b_bound
def b__law_same (self : MF) : MS := dSeq (dIfS (dB (dIsI "tuple" (dVar 1))) (dSeq (dIfS (dOr (dNot (dB (dIsI "tuple" (dVar 0)))) (dB (dOp2 (eqS true) (dCB lenS (dCons (dVar 0) dNil)) (dCB lenS (dCons (dVar 1) dNil))))) (dRet (dC (.bool false))) (dNext)) (dRet (dCB allS (dCons (dComp (dRng1 (dCons (dCB lenS (dCons (dVar 1) dNil)) dNil)) (gN 2) dYes (dCall 2 self (dCons (dOp2 ixS (dVar 0) (dVar 2)) (dCons (dOp2 ixS (dVar 1) (dVar 2)) dNil))) [2]) dNil)))) (dNext)) (dSeq (dIfS (dB (dOp2 (isNS false) (dVar 1) (dC .none))) (dRet (dOp2 (isNS false) (dVar 0) (dC .none))) (dNext)) (dSeq (dIfS (dB (dIsI "bool" (dVar 1))) (dRet (dAndV (dIsI "bool" (dVar 0)) (dOp2 (eqS false) (dVar 0) (dVar 1)))) (dNext)) (dSeq (dIfS (dB (dIsI "int" (dVar 1))) (dRet (dAndV (dIsI "int" (dVar 0)) (dAndV (dNotV (dIsI "bool" (dVar 0))) (dOp2 (eqS false) (dVar 0) (dVar 1))))) (dNext)) (dSeq (dIfS (dB (dIsI "str" (dVar 1))) (dRet (dAndV (dIsI "str" (dVar 0)) (dOp2 (eqS false) (dVar 0) (dVar 1)))) (dNext)) (dRet (dOp2 (eqS false) (dVar 0) (dVar 1)))))))
def m__law_same : Nat → MF
  | 0 => fun _ _ _ => False
  | n + 1 => dDef 3 (b__law_same (m__law_same n))
def b__law_is_below : MS := dRet (dOp2 ltS (dOp2 mulS (dOp2 ixS (dVar 0) (dC (.int 0))) (dOp2 ixS (dVar 1) (dC (.int 1)))) (dOp2 mulS (dOp2 ixS (dVar 1) (dC (.int 0))) (dOp2 ixS (dVar 0) (dC (.int 1)))))
def m__law_is_below : MF := dDef 2 b__law_is_below
def b__law_right : MS := dSeq (dFor (dRng1 (dCons (dC (.int 3)) dNil)) (gN 1) (dSeq (dAsg 2 (dOp2 addS (dC (.int 1)) (dCall 2 m__law_draw (dCons (dVar 0) (dCons (dC (.int 6)) dNil))))) (dSeq (dAsg 3 (dOp2 addS (dC (.int 1)) (dCall 2 m__law_draw (dCons (dVar 0) (dCons (dCB min2S (dCons (dC (.int 6)) (dCons (dOp2 subS (dC (.int 8)) (dVar 2)) dNil))) dNil))))) (dSeq (dPar 4 5 (dCall 1 m__law_level (dCons (dVar 0) dNil)) (dCall 1 m__law_level (dCons (dVar 0) dNil))) (dSeq (dPar 6 7 (dCall 3 m__law_bound (dCons (dVar 2) (dCons (dVar 3) (dCons (dVar 4) dNil)))) (dCall 3 m_bound (dCons (dVar 2) (dCons (dVar 3) (dCons (dVar 5) dNil))))) (dSeq (dAsg 8 (dTup (dCons (dCall 3 m_bound (dCons (dVar 2) (dCons (dVar 3) (dCons (dVar 4) dNil)))) (dCons (dCallK 3 0 3 [2, 1, 0] m_bound dNil (dCons (dVar 4) (dCons (dVar 3) (dCons (dVar 2) dNil)))) (dCons (dCall 3 m_bound (dCons (dVar 3) (dCons (dVar 2) (dCons (dVar 4) dNil)))) dNil))))) (dSeq (dIfS (dOr (dNot (dB (dCall 2 (m__law_same 6) (dCons (dVar 8) (dCons (dTup (dCons (dVar 6) (dCons (dVar 6) (dCons (dVar 6) dNil)))) dNil))))) (dNot (dB (dChain leS leS (dC (.int 0)) (dVar 6) (dOp2 mulS (dVar 2) (dVar 3)))))) (dRet (dC (.bool false))) (dNext)) (dIfS (dOr (dAnd (dNot (dB (dCall 2 m__law_is_below (dCons (dVar 4) (dCons (dVar 5) dNil))))) (dB (dOp2 ltS (dVar 7) (dVar 6)))) (dAnd (dNot (dB (dCall 2 m__law_is_below (dCons (dVar 5) (dCons (dVar 4) dNil))))) (dB (dOp2 gtS (dVar 7) (dVar 6))))) (dRet (dC (.bool false))) (dNext))))))))) (dRet (dC (.bool true)))
def m__law_right : MF := dDef 9 b__law_right
def b__law_bowl : MS := dSeq (dAsg 2 (dOp2 addS (dC (.int 771041)) (dOp2 mulS (dC (.int 8819)) (dVar 1)))) (dSeq (dFor (dIter (dSl (dVar 0) (dNoPart) (dPart (dC (.int 9))))) (gN 3) (dAsg 2 (dOp2 modS (dCB intS (dCons (dOp2 addS (dOp2 addS (dOp2 mulS (dVar 2) (dC (.int 48611))) (dOp2 mulS (dOp2 modS (dCB intS (dCons (dVar 3) dNil)) (dC (.int 2147483053))) (dC (.int 19)))) (dC (.int 41))) dNil)) (dC (.int 2147483563))))) (dSeq (dAsg 4 (dIf (dB (dOp2 ltS (dVar 1) (dCB lenS (dCons (dVar 0) dNil)))) (dCB intS (dCons (dOp2 ixS (dVar 0) (dVar 1)) dNil)) (dC (.int 0)))) (dSeq (dAsg 2 (dOp2 modS (dCB intS (dCons (dOp2 addS (dOp2 addS (dOp2 mulS (dVar 2) (dC (.int 53))) (dOp2 mulS (dOp2 modS (dVar 4) (dC (.int 2147483053))) (dC (.int 27011)))) (dC (.int 11))) dNil)) (dC (.int 2147483563)))) (dRetB (dCons (dIf (dOr (dB (dOp2 ltS (dVar 4) (dC (.int 0)))) (dB (dOp2 geS (dVar 4) (dOp2 powS (dC (.int 10)) (dC (.int 16)))))) (dCB absS (dCons (dVar 4) dNil)) (dC (.int 0))) (dCons (dVar 2) (dCons (dC (.int 0)) dNil)))))))
def m__law_bowl : MF := dDef 5 b__law_bowl
def b_law : MS := dRet (dCB allS (dCons (dComp (dRng1 (dCons (dCB max2S (dCons (dC (.int 1)) (dCons (dCB min2S (dCons (dCB lenS (dCons (dVar 0) dNil)) (dCons (dC (.int 3)) dNil))) dNil))) dNil)) (gN 1) dYes (dCall 1 m__law_right (dCons (dCall 2 m__law_bowl (dCons (dVar 0) (dCons (dVar 1) dNil))) dNil)) [1]) dNil))
def m_law : MF := dDef 2 b_law
end Lw
namespace Lw
open PySem PySem.Spec PyProof.Rows L2 LamX NdefX DL
theorem w__law_draw {n : Int} {Q : S → Prop} {E : Exn → Prop} (h0 : 0 < n) (h1 : n < 1073741824) (h : ∀ r : Int, 0 ≤ r → r < n → Q (.d (.int r))) : m__law_draw [.bowl, .d (.int n)] Q E := by
  have fin : ∀ z : Int, Q (.d (.int (z % n))) := fun z => h _ (Int.emod_nonneg _ (by omega)) (Int.emod_lt_of_pos _ h0)
  simp only [m__law_draw, b__law_draw, e_dCmb, e_dSortK, e_keyS, e_dSeq, e_dIfS, e_dRet, e_dRetN, e_dRetB, e_dAsg, e_dPar, e_dAsgG, e_dDrop, e_dNext, e_dBrk, e_dCont, e_dNever, e_dFor, e_dFreeze, e_dRetO, e_dNewL, e_dApp, e_dWhile, e_dVar, e_dC, e_dOp1, e_dOp2, e_dCB, e_dNil, e_dCons, e_dB, e_dAnd, e_dOr, e_dNot, e_dAndV, e_dOrV, e_dNotV, e_dIf, e_dTup, e_dLst, e_dIsI, e_dCall, e_dCallK, e_dChain, e_dSl, e_dPart, e_dNoPart, e_dYes, e_dFnCall, e_dCallF, e_dIter, e_dRng1, e_dRng2, e_dEnum, e_dComp, e_gN, e_gBw, e_gOw, e_gT, e_gTn, e_gTc, e_dDef, e_lamM, e_gL, onIB_i, onIB_b, bwS_b, lenBS_b, e_dCompB, plain_bowls, isOwn_bowls, inOp_li, inOp_ti, e_dLenSet, e_dCallD, e_dPl, e_dNewO, e_dCopyO, e_dNewD, e_dDisp, e_prs_nil, e_prs_cons, e_dSets, e_dSetsN, e_sets_cons, e_sets_nil, e_dAppPop, e_dGet2, e_dKeys, e_dVals, e_dItems, e_dPut, e_dFreezeD, e_dSumV, onDc_d, onDc_o, onDz_d, keyR_i, keyR_s, flatK_nil, merge1, e_dStar, e_dComp2, e_dPar3, e_dZip, repS_t, repS_l, ixS_t0, ixS_t1, onBs_tt, rg1S_t, rg1S_l, rg2S_t, rg2S_l, revS_t, revS_l, onDs_map, onDs_map0, startR, lamR, slotR, wipeR, hideR, fits, perm,
  plain_d, plain_bowl, plain_ro, onD_d, onI_i, onB_b, onSq_l, onSq_t, onSq_o, onSq_r, onLs_l, onLs_o, onLs_r, onSeq_l, onSeq_t, onSeq_r, onDs_nil, onDs_d, addS_i, addS_t, addS_l, intP_i, int2_i, negS_i, bix_i, one_s, two_s, isN_d, notN_d, eqS_ii, neS_ii, eqS_in, eqS_bb, ty_tuple_none, ty_tuple_bool, ty_tuple_int, ty_tuple_str, ty_tuple_tuple, ty_tuple_list, ty_tuple_dict, ty_list_none, ty_list_bool, ty_list_int, ty_list_str, ty_list_tuple, ty_list_list, ty_list_dict, ty_bool_none, ty_bool_bool, ty_bool_int, ty_bool_str, ty_bool_tuple, ty_bool_list, ty_bool_dict, ty_int_none, ty_int_bool, ty_int_int, ty_int_str, ty_int_tuple, ty_int_list, ty_int_dict, ty_str_none, ty_str_bool, ty_str_int, ty_str_str, ty_str_tuple, ty_str_list, ty_str_dict, ty_dict_none, ty_dict_bool, ty_dict_int, ty_dict_str, ty_dict_tuple, ty_dict_list, ty_dict_dict, not_true_eq_false, not_false_eq_true, Bool.and_true, Bool.true_and, Bool.and_false, Bool.false_and, Bool.or_true, Bool.true_or, Bool.or_false, Bool.false_or, Bool.true_eq_false, Int.toNat_natCast, isOwn_d, isOwn_bowl, isOwn_ro, isOwn_fn, onIs_map, onBs_map,
  List.map_cons, List.map_nil, List.length_cons, List.length_nil, List.replicate_succ, List.replicate_zero, List.cons_append, List.nil_append, List.append_nil, List.getElem?_cons_zero, List.getElem?_cons_succ, List.set_cons_zero, List.set_cons_succ, List.filterMap_cons, List.filterMap_nil, Option.map, List.mem_cons, List.not_mem_nil, or_false, false_or, forall_eq_or_imp, forall_eq, implies_true, false_imp_iff, List.length_map, and_true, true_and, and_self, if_true, if_false, Bool.false_eq_true, reduceCtorEq, Nat.reduceAdd, Nat.reduceSub, Int.reduceLT, Int.reduceLE, Int.reduceNeg, decide_true, decide_false, decide_eq_true_eq, Bool.not_true, Bool.not_false, Bool.not_eq_true', decide_eq_false_iff_not, ite_true, ite_false]
  intro z
  split
  · exact fun z => ⟨⟨h0, h1⟩, fin z⟩
  · refine fun _ z => ⟨mulOk_r (by decide) (by decide), fun z1 => ⟨mulOk_l (by decide) (by decide), mulOk_l (by omega) (by omega), fun z2 => ⟨mulOk_l (by decide) (by decide), fun z3 => ⟨divW (by decide) (by decide), h0, fin _⟩⟩⟩⟩
theorem atI_get {α : Type} {l : List α} {i : Int} (h0 : 0 ≤ i) (h1 : i < l.length) : ∃ x, atI l i = some x ∧ x ∈ l := by
  obtain ⟨j, rfl⟩ : ∃ j : Nat, i = j := ⟨i.toNat, by omega⟩
  have hj : j < l.length := by omega
  exact ⟨l[j], atI_nat (List.getElem?_eq_getElem hj), List.getElem_mem hj⟩
theorem w__law_of {l : List PyData} {s : S} {Q : S → Prop} {E : Exn → Prop} (hs : ∀ P, onSq s P = P l) (ho : isOwn s = false) (h0 : l ≠ []) (h1 : l.length < 1000000) (h : ∀ d ∈ l, Q (.d d)) : m__law_of [.bowl, s] Q E := by
  have hl : 0 < l.length := List.length_pos_iff.mpr h0
  simp only [m__law_of, b__law_of, e_dCmb, e_dSortK, e_keyS, e_dSeq, e_dIfS, e_dRet, e_dRetN, e_dRetB, e_dAsg, e_dPar, e_dAsgG, e_dDrop, e_dNext, e_dBrk, e_dCont, e_dNever, e_dFor, e_dFreeze, e_dRetO, e_dNewL, e_dApp, e_dWhile, e_dVar, e_dC, e_dOp1, e_dOp2, e_dCB, e_dNil, e_dCons, e_dB, e_dAnd, e_dOr, e_dNot, e_dAndV, e_dOrV, e_dNotV, e_dIf, e_dTup, e_dLst, e_dIsI, e_dCall, e_dCallK, e_dChain, e_dSl, e_dPart, e_dNoPart, e_dYes, e_dFnCall, e_dCallF, e_dIter, e_dRng1, e_dRng2, e_dEnum, e_dComp, e_gN, e_gBw, e_gOw, e_gT, e_gTn, e_gTc, e_dDef, e_lamM, e_gL, onIB_i, onIB_b, bwS_b, lenBS_b, e_dCompB, plain_bowls, isOwn_bowls, inOp_li, inOp_ti, e_dLenSet, e_dCallD, e_dPl, e_dNewO, e_dCopyO, e_dNewD, e_dDisp, e_prs_nil, e_prs_cons, e_dSets, e_dSetsN, e_sets_cons, e_sets_nil, e_dAppPop, e_dGet2, e_dKeys, e_dVals, e_dItems, e_dPut, e_dFreezeD, e_dSumV, onDc_d, onDc_o, onDz_d, keyR_i, keyR_s, flatK_nil, merge1, e_dStar, e_dComp2, e_dPar3, e_dZip, repS_t, repS_l, ixS_t0, ixS_t1, onBs_tt, rg1S_t, rg1S_l, rg2S_t, rg2S_l, revS_t, revS_l, onDs_map, onDs_map0, startR, lamR, slotR, wipeR, hideR, fits, perm,
  plain_d, plain_bowl, plain_ro, onD_d, onI_i, onB_b, onSq_l, onSq_t, onSq_o, onSq_r, onLs_l, onLs_o, onLs_r, onSeq_l, onSeq_t, onSeq_r, onDs_nil, onDs_d, addS_i, addS_t, addS_l, intP_i, int2_i, negS_i, bix_i, one_s, two_s, isN_d, notN_d, eqS_ii, neS_ii, eqS_in, eqS_bb, ty_tuple_none, ty_tuple_bool, ty_tuple_int, ty_tuple_str, ty_tuple_tuple, ty_tuple_list, ty_tuple_dict, ty_list_none, ty_list_bool, ty_list_int, ty_list_str, ty_list_tuple, ty_list_list, ty_list_dict, ty_bool_none, ty_bool_bool, ty_bool_int, ty_bool_str, ty_bool_tuple, ty_bool_list, ty_bool_dict, ty_int_none, ty_int_bool, ty_int_int, ty_int_str, ty_int_tuple, ty_int_list, ty_int_dict, ty_str_none, ty_str_bool, ty_str_int, ty_str_str, ty_str_tuple, ty_str_list, ty_str_dict, ty_dict_none, ty_dict_bool, ty_dict_int, ty_dict_str, ty_dict_tuple, ty_dict_list, ty_dict_dict, not_true_eq_false, not_false_eq_true, Bool.and_true, Bool.true_and, Bool.and_false, Bool.false_and, Bool.or_true, Bool.true_or, Bool.or_false, Bool.false_or, Bool.true_eq_false, Int.toNat_natCast, isOwn_d, isOwn_bowl, isOwn_ro, isOwn_fn, onIs_map, onBs_map,
  List.map_cons, List.map_nil, List.length_cons, List.length_nil, List.replicate_succ, List.replicate_zero, List.cons_append, List.nil_append, List.append_nil, List.getElem?_cons_zero, List.getElem?_cons_succ, List.set_cons_zero, List.set_cons_succ, List.filterMap_cons, List.filterMap_nil, Option.map, List.mem_cons, List.not_mem_nil, or_false, false_or, forall_eq_or_imp, forall_eq, implies_true, false_imp_iff, List.length_map, and_true, true_and, and_self, if_true, if_false, Bool.false_eq_true, reduceCtorEq, Nat.reduceAdd, Nat.reduceSub, Int.reduceLT, Int.reduceLE, Int.reduceNeg, decide_true, decide_false, decide_eq_true_eq, Bool.not_true, Bool.not_false, Bool.not_eq_true', decide_eq_false_iff_not, ite_true, ite_false, hs, ixS]
  refine w__law_draw (by omega) (by omega) fun r r0 r1 => ?_
  obtain ⟨x, e, hx⟩ := atI_get r0 r1
  simp only [onI_i, e]
  exact h x hx
theorem cutD_head {α : Type} (l : List α) (k : Nat) : DL.cutD l none (some (k : Int)) = l.take k := by
  unfold DL.cutD
  rw [HT.sIx_none, HT.sIx_nat]
  simp only [Nat.zero_min, Nat.sub_zero, List.drop_zero]
  rw [List.take_eq_take_iff]
  omega
theorem w__law_bowl {ns : List Int} {s : S} {lap : Int} {Q : S → Prop} {E : Exn → Prop} (hs : s = .d (.list (ns.map .int)) ∨ s = .ro (ns.map .int)) (h0 : 0 ≤ lap) (h : Q .bowl) : m__law_bowl [s, .d (.int lap)] Q E := by
  have k9 : DL.cutD (ns.map PyData.int) none (some 9) = (ns.take 9).map .int := by
    rw [show (9 : Int) = ((9 : Nat) : Int) from rfl, cutD_head, List.map_take]
  have last : ∀ (st i : Int), (mulOk st 53 ∧ mulOk (i % 2147483053) 27011 ∧ if i < 0 then Q S.bowl else CPow 10 16 ∧ if 10 ^ Int.toNat 16 ≤ i then Q S.bowl else Q S.bowl) := fun st i => by
    refine ⟨mulOk_r (by decide) (by decide), mulOk_r (by decide) (by decide), ?_⟩
    split
    · exact h
    · exact ⟨⟨by decide, by decide, by decide⟩, by split <;> exact h⟩
  have last0 : ∀ (st : Int), (mulOk st 53 ∧ mulOk (0 % 2147483053) 27011 ∧ CPow 10 16 ∧ if 10 ^ Int.toNat 16 ≤ (0 : Int) then Q S.bowl else Q S.bowl) := fun st => ⟨mulOk_r (by decide) (by decide), mulOk_r (by decide) (by decide), ⟨by decide, by decide, by decide⟩, by split <;> exact h⟩
  have fin : ∀ (st : Int), (if lap < ((ns.length : Nat) : Int) then
      match atI (List.map PyData.int ns) lap with
      | some d => onIB (S.d d) fun i => mulOk st 53 ∧ mulOk (i % 2147483053) 27011 ∧ if i < 0 then Q S.bowl else CPow 10 16 ∧ if 10 ^ Int.toNat 16 ≤ i then Q S.bowl else Q S.bowl
      | none => False
    else mulOk st 53 ∧ mulOk (0 % 2147483053) 27011 ∧ CPow 10 16 ∧ if 10 ^ Int.toNat 16 ≤ (0 : Int) then Q S.bowl else Q S.bowl) := fun st => by
    split
    · rename_i hl
      obtain ⟨x, e, hx⟩ := atI_get (l := List.map PyData.int ns) h0 (by rw [List.length_map]; exact hl)
      obtain ⟨i, _, rfl⟩ := List.mem_map.mp hx
      rw [e]
      exact last st i
    · exact last0 st
  rcases hs with rfl | rfl
  · simp only [m__law_bowl, b__law_bowl, e_dCmb, e_dSortK, e_keyS, e_dSeq, e_dIfS, e_dRet, e_dRetN, e_dRetB, e_dAsg, e_dPar, e_dAsgG, e_dDrop, e_dNext, e_dBrk, e_dCont, e_dNever, e_dFor, e_dFreeze, e_dRetO, e_dNewL, e_dApp, e_dWhile, e_dVar, e_dC, e_dOp1, e_dOp2, e_dCB, e_dNil, e_dCons, e_dB, e_dAnd, e_dOr, e_dNot, e_dAndV, e_dOrV, e_dNotV, e_dIf, e_dTup, e_dLst, e_dIsI, e_dCall, e_dCallK, e_dChain, e_dSl, e_dPart, e_dNoPart, e_dYes, e_dFnCall, e_dCallF, e_dIter, e_dRng1, e_dRng2, e_dEnum, e_dComp, e_gN, e_gBw, e_gOw, e_gT, e_gTn, e_gTc, e_dDef, e_lamM, e_gL, onIB_i, onIB_b, bwS_b, lenBS_b, e_dCompB, plain_bowls, isOwn_bowls, inOp_li, inOp_ti, e_dLenSet, e_dCallD, e_dPl, e_dNewO, e_dCopyO, e_dNewD, e_dDisp, e_prs_nil, e_prs_cons, e_dSets, e_dSetsN, e_sets_cons, e_sets_nil, e_dAppPop, e_dGet2, e_dKeys, e_dVals, e_dItems, e_dPut, e_dFreezeD, e_dSumV, onDc_d, onDc_o, onDz_d, keyR_i, keyR_s, flatK_nil, merge1, e_dStar, e_dComp2, e_dPar3, e_dZip, repS_t, repS_l, ixS_t0, ixS_t1, onBs_tt, rg1S_t, rg1S_l, rg2S_t, rg2S_l, revS_t, revS_l, onDs_map, onDs_map0, startR, lamR, slotR, wipeR, hideR, fits, perm,
  plain_d, plain_bowl, plain_ro, onD_d, onI_i, onB_b, onSq_l, onSq_t, onSq_o, onSq_r, onLs_l, onLs_o, onLs_r, onSeq_l, onSeq_t, onSeq_r, onDs_nil, onDs_d, addS_i, addS_t, addS_l, intP_i, int2_i, negS_i, bix_i, one_s, two_s, isN_d, notN_d, eqS_ii, neS_ii, eqS_in, eqS_bb, ty_tuple_none, ty_tuple_bool, ty_tuple_int, ty_tuple_str, ty_tuple_tuple, ty_tuple_list, ty_tuple_dict, ty_list_none, ty_list_bool, ty_list_int, ty_list_str, ty_list_tuple, ty_list_list, ty_list_dict, ty_bool_none, ty_bool_bool, ty_bool_int, ty_bool_str, ty_bool_tuple, ty_bool_list, ty_bool_dict, ty_int_none, ty_int_bool, ty_int_int, ty_int_str, ty_int_tuple, ty_int_list, ty_int_dict, ty_str_none, ty_str_bool, ty_str_int, ty_str_str, ty_str_tuple, ty_str_list, ty_str_dict, ty_dict_none, ty_dict_bool, ty_dict_int, ty_dict_str, ty_dict_tuple, ty_dict_list, ty_dict_dict, not_true_eq_false, not_false_eq_true, Bool.and_true, Bool.true_and, Bool.and_false, Bool.false_and, Bool.or_true, Bool.true_or, Bool.or_false, Bool.false_or, Bool.true_eq_false, Int.toNat_natCast, isOwn_d, isOwn_bowl, isOwn_ro, isOwn_fn, onIs_map, onBs_map,
  List.map_cons, List.map_nil, List.length_cons, List.length_nil, List.replicate_succ, List.replicate_zero, List.cons_append, List.nil_append, List.append_nil, List.getElem?_cons_zero, List.getElem?_cons_succ, List.set_cons_zero, List.set_cons_succ, List.filterMap_cons, List.filterMap_nil, Option.map, List.mem_cons, List.not_mem_nil, or_false, false_or, forall_eq_or_imp, forall_eq, implies_true, false_imp_iff, List.length_map, and_true, true_and, and_self, if_true, if_false, Bool.false_eq_true, reduceCtorEq, Nat.reduceAdd, Nat.reduceSub, Int.reduceLT, Int.reduceLE, Int.reduceNeg, decide_true, decide_false, decide_eq_true_eq, Bool.not_true, Bool.not_false, Bool.not_eq_true', decide_eq_false_iff_not, ite_true, ite_false]
    refine ⟨mulOk_l (by decide) (by decide), ?_⟩
    rw [k9]
    refine forL_same (fun ρ => ∃ (st : Int) (c : Option S), ρ = [some (S.d (PyData.list (List.map PyData.int ns))), some (S.d (PyData.int lap)), some (S.d (PyData.int st)), c, none]) ⟨_, _, rfl⟩ (fun s ρ X hs hI hX => ?_) fun ρ hI => ?_
    · obtain ⟨d, hd, rfl⟩ := List.mem_map.mp hs
      obtain ⟨i, hi, rfl⟩ := List.mem_map.mp hd
      obtain ⟨st, c, rfl⟩ := hI
      simp only [e_dCmb, e_dSortK, e_keyS, e_dSeq, e_dIfS, e_dRet, e_dRetN, e_dRetB, e_dAsg, e_dPar, e_dAsgG, e_dDrop, e_dNext, e_dBrk, e_dCont, e_dNever, e_dFor, e_dFreeze, e_dRetO, e_dNewL, e_dApp, e_dWhile, e_dVar, e_dC, e_dOp1, e_dOp2, e_dCB, e_dNil, e_dCons, e_dB, e_dAnd, e_dOr, e_dNot, e_dAndV, e_dOrV, e_dNotV, e_dIf, e_dTup, e_dLst, e_dIsI, e_dCall, e_dCallK, e_dChain, e_dSl, e_dPart, e_dNoPart, e_dYes, e_dFnCall, e_dCallF, e_dIter, e_dRng1, e_dRng2, e_dEnum, e_dComp, e_gN, e_gBw, e_gOw, e_gT, e_gTn, e_gTc, e_dDef, e_lamM, e_gL, onIB_i, onIB_b, bwS_b, lenBS_b, e_dCompB, plain_bowls, isOwn_bowls, inOp_li, inOp_ti, e_dLenSet, e_dCallD, e_dPl, e_dNewO, e_dCopyO, e_dNewD, e_dDisp, e_prs_nil, e_prs_cons, e_dSets, e_dSetsN, e_sets_cons, e_sets_nil, e_dAppPop, e_dGet2, e_dKeys, e_dVals, e_dItems, e_dPut, e_dFreezeD, e_dSumV, onDc_d, onDc_o, onDz_d, keyR_i, keyR_s, flatK_nil, merge1, e_dStar, e_dComp2, e_dPar3, e_dZip, repS_t, repS_l, ixS_t0, ixS_t1, onBs_tt, rg1S_t, rg1S_l, rg2S_t, rg2S_l, revS_t, revS_l, onDs_map, onDs_map0, startR, lamR, slotR, wipeR, hideR, fits, perm,
  plain_d, plain_bowl, plain_ro, onD_d, onI_i, onB_b, onSq_l, onSq_t, onSq_o, onSq_r, onLs_l, onLs_o, onLs_r, onSeq_l, onSeq_t, onSeq_r, onDs_nil, onDs_d, addS_i, addS_t, addS_l, intP_i, int2_i, negS_i, bix_i, one_s, two_s, isN_d, notN_d, eqS_ii, neS_ii, eqS_in, eqS_bb, ty_tuple_none, ty_tuple_bool, ty_tuple_int, ty_tuple_str, ty_tuple_tuple, ty_tuple_list, ty_tuple_dict, ty_list_none, ty_list_bool, ty_list_int, ty_list_str, ty_list_tuple, ty_list_list, ty_list_dict, ty_bool_none, ty_bool_bool, ty_bool_int, ty_bool_str, ty_bool_tuple, ty_bool_list, ty_bool_dict, ty_int_none, ty_int_bool, ty_int_int, ty_int_str, ty_int_tuple, ty_int_list, ty_int_dict, ty_str_none, ty_str_bool, ty_str_int, ty_str_str, ty_str_tuple, ty_str_list, ty_str_dict, ty_dict_none, ty_dict_bool, ty_dict_int, ty_dict_str, ty_dict_tuple, ty_dict_list, ty_dict_dict, not_true_eq_false, not_false_eq_true, Bool.and_true, Bool.true_and, Bool.and_false, Bool.false_and, Bool.or_true, Bool.true_or, Bool.or_false, Bool.false_or, Bool.true_eq_false, Int.toNat_natCast, isOwn_d, isOwn_bowl, isOwn_ro, isOwn_fn, onIs_map, onBs_map,
  List.map_cons, List.map_nil, List.length_cons, List.length_nil, List.replicate_succ, List.replicate_zero, List.cons_append, List.nil_append, List.append_nil, List.getElem?_cons_zero, List.getElem?_cons_succ, List.set_cons_zero, List.set_cons_succ, List.filterMap_cons, List.filterMap_nil, Option.map, List.mem_cons, List.not_mem_nil, or_false, false_or, forall_eq_or_imp, forall_eq, implies_true, false_imp_iff, List.length_map, and_true, true_and, and_self, if_true, if_false, Bool.false_eq_true, reduceCtorEq, Nat.reduceAdd, Nat.reduceSub, Int.reduceLT, Int.reduceLE, Int.reduceNeg, decide_true, decide_false, decide_eq_true_eq, Bool.not_true, Bool.not_false, Bool.not_eq_true', decide_eq_false_iff_not, ite_true, ite_false]
      exact ⟨mulOk_r (by decide) (by decide), mulOk_r (by decide) (by decide), hX _ ⟨_, _, rfl⟩⟩
    · obtain ⟨st, c, rfl⟩ := hI
      simp only [e_dCmb, e_dSortK, e_keyS, e_dSeq, e_dIfS, e_dRet, e_dRetN, e_dRetB, e_dAsg, e_dPar, e_dAsgG, e_dDrop, e_dNext, e_dBrk, e_dCont, e_dNever, e_dFor, e_dFreeze, e_dRetO, e_dNewL, e_dApp, e_dWhile, e_dVar, e_dC, e_dOp1, e_dOp2, e_dCB, e_dNil, e_dCons, e_dB, e_dAnd, e_dOr, e_dNot, e_dAndV, e_dOrV, e_dNotV, e_dIf, e_dTup, e_dLst, e_dIsI, e_dCall, e_dCallK, e_dChain, e_dSl, e_dPart, e_dNoPart, e_dYes, e_dFnCall, e_dCallF, e_dIter, e_dRng1, e_dRng2, e_dEnum, e_dComp, e_gN, e_gBw, e_gOw, e_gT, e_gTn, e_gTc, e_dDef, e_lamM, e_gL, onIB_i, onIB_b, bwS_b, lenBS_b, e_dCompB, plain_bowls, isOwn_bowls, inOp_li, inOp_ti, e_dLenSet, e_dCallD, e_dPl, e_dNewO, e_dCopyO, e_dNewD, e_dDisp, e_prs_nil, e_prs_cons, e_dSets, e_dSetsN, e_sets_cons, e_sets_nil, e_dAppPop, e_dGet2, e_dKeys, e_dVals, e_dItems, e_dPut, e_dFreezeD, e_dSumV, onDc_d, onDc_o, onDz_d, keyR_i, keyR_s, flatK_nil, merge1, e_dStar, e_dComp2, e_dPar3, e_dZip, repS_t, repS_l, ixS_t0, ixS_t1, onBs_tt, rg1S_t, rg1S_l, rg2S_t, rg2S_l, revS_t, revS_l, onDs_map, onDs_map0, startR, lamR, slotR, wipeR, hideR, fits, perm,
  plain_d, plain_bowl, plain_ro, onD_d, onI_i, onB_b, onSq_l, onSq_t, onSq_o, onSq_r, onLs_l, onLs_o, onLs_r, onSeq_l, onSeq_t, onSeq_r, onDs_nil, onDs_d, addS_i, addS_t, addS_l, intP_i, int2_i, negS_i, bix_i, one_s, two_s, isN_d, notN_d, eqS_ii, neS_ii, eqS_in, eqS_bb, ty_tuple_none, ty_tuple_bool, ty_tuple_int, ty_tuple_str, ty_tuple_tuple, ty_tuple_list, ty_tuple_dict, ty_list_none, ty_list_bool, ty_list_int, ty_list_str, ty_list_tuple, ty_list_list, ty_list_dict, ty_bool_none, ty_bool_bool, ty_bool_int, ty_bool_str, ty_bool_tuple, ty_bool_list, ty_bool_dict, ty_int_none, ty_int_bool, ty_int_int, ty_int_str, ty_int_tuple, ty_int_list, ty_int_dict, ty_str_none, ty_str_bool, ty_str_int, ty_str_str, ty_str_tuple, ty_str_list, ty_str_dict, ty_dict_none, ty_dict_bool, ty_dict_int, ty_dict_str, ty_dict_tuple, ty_dict_list, ty_dict_dict, not_true_eq_false, not_false_eq_true, Bool.and_true, Bool.true_and, Bool.and_false, Bool.false_and, Bool.or_true, Bool.true_or, Bool.or_false, Bool.false_or, Bool.true_eq_false, Int.toNat_natCast, isOwn_d, isOwn_bowl, isOwn_ro, isOwn_fn, onIs_map, onBs_map,
  List.map_cons, List.map_nil, List.length_cons, List.length_nil, List.replicate_succ, List.replicate_zero, List.cons_append, List.nil_append, List.append_nil, List.getElem?_cons_zero, List.getElem?_cons_succ, List.set_cons_zero, List.set_cons_succ, List.filterMap_cons, List.filterMap_nil, Option.map, List.mem_cons, List.not_mem_nil, or_false, false_or, forall_eq_or_imp, forall_eq, implies_true, false_imp_iff, List.length_map, and_true, true_and, and_self, if_true, if_false, Bool.false_eq_true, reduceCtorEq, Nat.reduceAdd, Nat.reduceSub, Int.reduceLT, Int.reduceLE, Int.reduceNeg, decide_true, decide_false, decide_eq_true_eq, Bool.not_true, Bool.not_false, Bool.not_eq_true', decide_eq_false_iff_not, ite_true, ite_false, ixS]
      exact fin st
  · simp only [m__law_bowl, b__law_bowl, e_dCmb, e_dSortK, e_keyS, e_dSeq, e_dIfS, e_dRet, e_dRetN, e_dRetB, e_dAsg, e_dPar, e_dAsgG, e_dDrop, e_dNext, e_dBrk, e_dCont, e_dNever, e_dFor, e_dFreeze, e_dRetO, e_dNewL, e_dApp, e_dWhile, e_dVar, e_dC, e_dOp1, e_dOp2, e_dCB, e_dNil, e_dCons, e_dB, e_dAnd, e_dOr, e_dNot, e_dAndV, e_dOrV, e_dNotV, e_dIf, e_dTup, e_dLst, e_dIsI, e_dCall, e_dCallK, e_dChain, e_dSl, e_dPart, e_dNoPart, e_dYes, e_dFnCall, e_dCallF, e_dIter, e_dRng1, e_dRng2, e_dEnum, e_dComp, e_gN, e_gBw, e_gOw, e_gT, e_gTn, e_gTc, e_dDef, e_lamM, e_gL, onIB_i, onIB_b, bwS_b, lenBS_b, e_dCompB, plain_bowls, isOwn_bowls, inOp_li, inOp_ti, e_dLenSet, e_dCallD, e_dPl, e_dNewO, e_dCopyO, e_dNewD, e_dDisp, e_prs_nil, e_prs_cons, e_dSets, e_dSetsN, e_sets_cons, e_sets_nil, e_dAppPop, e_dGet2, e_dKeys, e_dVals, e_dItems, e_dPut, e_dFreezeD, e_dSumV, onDc_d, onDc_o, onDz_d, keyR_i, keyR_s, flatK_nil, merge1, e_dStar, e_dComp2, e_dPar3, e_dZip, repS_t, repS_l, ixS_t0, ixS_t1, onBs_tt, rg1S_t, rg1S_l, rg2S_t, rg2S_l, revS_t, revS_l, onDs_map, onDs_map0, startR, lamR, slotR, wipeR, hideR, fits, perm,
  plain_d, plain_bowl, plain_ro, onD_d, onI_i, onB_b, onSq_l, onSq_t, onSq_o, onSq_r, onLs_l, onLs_o, onLs_r, onSeq_l, onSeq_t, onSeq_r, onDs_nil, onDs_d, addS_i, addS_t, addS_l, intP_i, int2_i, negS_i, bix_i, one_s, two_s, isN_d, notN_d, eqS_ii, neS_ii, eqS_in, eqS_bb, ty_tuple_none, ty_tuple_bool, ty_tuple_int, ty_tuple_str, ty_tuple_tuple, ty_tuple_list, ty_tuple_dict, ty_list_none, ty_list_bool, ty_list_int, ty_list_str, ty_list_tuple, ty_list_list, ty_list_dict, ty_bool_none, ty_bool_bool, ty_bool_int, ty_bool_str, ty_bool_tuple, ty_bool_list, ty_bool_dict, ty_int_none, ty_int_bool, ty_int_int, ty_int_str, ty_int_tuple, ty_int_list, ty_int_dict, ty_str_none, ty_str_bool, ty_str_int, ty_str_str, ty_str_tuple, ty_str_list, ty_str_dict, ty_dict_none, ty_dict_bool, ty_dict_int, ty_dict_str, ty_dict_tuple, ty_dict_list, ty_dict_dict, not_true_eq_false, not_false_eq_true, Bool.and_true, Bool.true_and, Bool.and_false, Bool.false_and, Bool.or_true, Bool.true_or, Bool.or_false, Bool.false_or, Bool.true_eq_false, Int.toNat_natCast, isOwn_d, isOwn_bowl, isOwn_ro, isOwn_fn, onIs_map, onBs_map,
  List.map_cons, List.map_nil, List.length_cons, List.length_nil, List.replicate_succ, List.replicate_zero, List.cons_append, List.nil_append, List.append_nil, List.getElem?_cons_zero, List.getElem?_cons_succ, List.set_cons_zero, List.set_cons_succ, List.filterMap_cons, List.filterMap_nil, Option.map, List.mem_cons, List.not_mem_nil, or_false, false_or, forall_eq_or_imp, forall_eq, implies_true, false_imp_iff, List.length_map, and_true, true_and, and_self, if_true, if_false, Bool.false_eq_true, reduceCtorEq, Nat.reduceAdd, Nat.reduceSub, Int.reduceLT, Int.reduceLE, Int.reduceNeg, decide_true, decide_false, decide_eq_true_eq, Bool.not_true, Bool.not_false, Bool.not_eq_true', decide_eq_false_iff_not, ite_true, ite_false]
    refine ⟨mulOk_l (by decide) (by decide), ?_⟩
    rw [k9]
    refine forL_same (fun ρ => ∃ (st : Int) (c : Option S), ρ = [some (S.ro (List.map PyData.int ns)), some (S.d (PyData.int lap)), some (S.d (PyData.int st)), c, none]) ⟨_, _, rfl⟩ (fun s ρ X hs hI hX => ?_) fun ρ hI => ?_
    · obtain ⟨d, hd, rfl⟩ := List.mem_map.mp hs
      obtain ⟨i, hi, rfl⟩ := List.mem_map.mp hd
      obtain ⟨st, c, rfl⟩ := hI
      simp only [e_dCmb, e_dSortK, e_keyS, e_dSeq, e_dIfS, e_dRet, e_dRetN, e_dRetB, e_dAsg, e_dPar, e_dAsgG, e_dDrop, e_dNext, e_dBrk, e_dCont, e_dNever, e_dFor, e_dFreeze, e_dRetO, e_dNewL, e_dApp, e_dWhile, e_dVar, e_dC, e_dOp1, e_dOp2, e_dCB, e_dNil, e_dCons, e_dB, e_dAnd, e_dOr, e_dNot, e_dAndV, e_dOrV, e_dNotV, e_dIf, e_dTup, e_dLst, e_dIsI, e_dCall, e_dCallK, e_dChain, e_dSl, e_dPart, e_dNoPart, e_dYes, e_dFnCall, e_dCallF, e_dIter, e_dRng1, e_dRng2, e_dEnum, e_dComp, e_gN, e_gBw, e_gOw, e_gT, e_gTn, e_gTc, e_dDef, e_lamM, e_gL, onIB_i, onIB_b, bwS_b, lenBS_b, e_dCompB, plain_bowls, isOwn_bowls, inOp_li, inOp_ti, e_dLenSet, e_dCallD, e_dPl, e_dNewO, e_dCopyO, e_dNewD, e_dDisp, e_prs_nil, e_prs_cons, e_dSets, e_dSetsN, e_sets_cons, e_sets_nil, e_dAppPop, e_dGet2, e_dKeys, e_dVals, e_dItems, e_dPut, e_dFreezeD, e_dSumV, onDc_d, onDc_o, onDz_d, keyR_i, keyR_s, flatK_nil, merge1, e_dStar, e_dComp2, e_dPar3, e_dZip, repS_t, repS_l, ixS_t0, ixS_t1, onBs_tt, rg1S_t, rg1S_l, rg2S_t, rg2S_l, revS_t, revS_l, onDs_map, onDs_map0, startR, lamR, slotR, wipeR, hideR, fits, perm,
  plain_d, plain_bowl, plain_ro, onD_d, onI_i, onB_b, onSq_l, onSq_t, onSq_o, onSq_r, onLs_l, onLs_o, onLs_r, onSeq_l, onSeq_t, onSeq_r, onDs_nil, onDs_d, addS_i, addS_t, addS_l, intP_i, int2_i, negS_i, bix_i, one_s, two_s, isN_d, notN_d, eqS_ii, neS_ii, eqS_in, eqS_bb, ty_tuple_none, ty_tuple_bool, ty_tuple_int, ty_tuple_str, ty_tuple_tuple, ty_tuple_list, ty_tuple_dict, ty_list_none, ty_list_bool, ty_list_int, ty_list_str, ty_list_tuple, ty_list_list, ty_list_dict, ty_bool_none, ty_bool_bool, ty_bool_int, ty_bool_str, ty_bool_tuple, ty_bool_list, ty_bool_dict, ty_int_none, ty_int_bool, ty_int_int, ty_int_str, ty_int_tuple, ty_int_list, ty_int_dict, ty_str_none, ty_str_bool, ty_str_int, ty_str_str, ty_str_tuple, ty_str_list, ty_str_dict, ty_dict_none, ty_dict_bool, ty_dict_int, ty_dict_str, ty_dict_tuple, ty_dict_list, ty_dict_dict, not_true_eq_false, not_false_eq_true, Bool.and_true, Bool.true_and, Bool.and_false, Bool.false_and, Bool.or_true, Bool.true_or, Bool.or_false, Bool.false_or, Bool.true_eq_false, Int.toNat_natCast, isOwn_d, isOwn_bowl, isOwn_ro, isOwn_fn, onIs_map, onBs_map,
  List.map_cons, List.map_nil, List.length_cons, List.length_nil, List.replicate_succ, List.replicate_zero, List.cons_append, List.nil_append, List.append_nil, List.getElem?_cons_zero, List.getElem?_cons_succ, List.set_cons_zero, List.set_cons_succ, List.filterMap_cons, List.filterMap_nil, Option.map, List.mem_cons, List.not_mem_nil, or_false, false_or, forall_eq_or_imp, forall_eq, implies_true, false_imp_iff, List.length_map, and_true, true_and, and_self, if_true, if_false, Bool.false_eq_true, reduceCtorEq, Nat.reduceAdd, Nat.reduceSub, Int.reduceLT, Int.reduceLE, Int.reduceNeg, decide_true, decide_false, decide_eq_true_eq, Bool.not_true, Bool.not_false, Bool.not_eq_true', decide_eq_false_iff_not, ite_true, ite_false]
      exact ⟨mulOk_r (by decide) (by decide), mulOk_r (by decide) (by decide), hX _ ⟨_, _, rfl⟩⟩
    · obtain ⟨st, c, rfl⟩ := hI
      simp only [e_dCmb, e_dSortK, e_keyS, e_dSeq, e_dIfS, e_dRet, e_dRetN, e_dRetB, e_dAsg, e_dPar, e_dAsgG, e_dDrop, e_dNext, e_dBrk, e_dCont, e_dNever, e_dFor, e_dFreeze, e_dRetO, e_dNewL, e_dApp, e_dWhile, e_dVar, e_dC, e_dOp1, e_dOp2, e_dCB, e_dNil, e_dCons, e_dB, e_dAnd, e_dOr, e_dNot, e_dAndV, e_dOrV, e_dNotV, e_dIf, e_dTup, e_dLst, e_dIsI, e_dCall, e_dCallK, e_dChain, e_dSl, e_dPart, e_dNoPart, e_dYes, e_dFnCall, e_dCallF, e_dIter, e_dRng1, e_dRng2, e_dEnum, e_dComp, e_gN, e_gBw, e_gOw, e_gT, e_gTn, e_gTc, e_dDef, e_lamM, e_gL, onIB_i, onIB_b, bwS_b, lenBS_b, e_dCompB, plain_bowls, isOwn_bowls, inOp_li, inOp_ti, e_dLenSet, e_dCallD, e_dPl, e_dNewO, e_dCopyO, e_dNewD, e_dDisp, e_prs_nil, e_prs_cons, e_dSets, e_dSetsN, e_sets_cons, e_sets_nil, e_dAppPop, e_dGet2, e_dKeys, e_dVals, e_dItems, e_dPut, e_dFreezeD, e_dSumV, onDc_d, onDc_o, onDz_d, keyR_i, keyR_s, flatK_nil, merge1, e_dStar, e_dComp2, e_dPar3, e_dZip, repS_t, repS_l, ixS_t0, ixS_t1, onBs_tt, rg1S_t, rg1S_l, rg2S_t, rg2S_l, revS_t, revS_l, onDs_map, onDs_map0, startR, lamR, slotR, wipeR, hideR, fits, perm,
  plain_d, plain_bowl, plain_ro, onD_d, onI_i, onB_b, onSq_l, onSq_t, onSq_o, onSq_r, onLs_l, onLs_o, onLs_r, onSeq_l, onSeq_t, onSeq_r, onDs_nil, onDs_d, addS_i, addS_t, addS_l, intP_i, int2_i, negS_i, bix_i, one_s, two_s, isN_d, notN_d, eqS_ii, neS_ii, eqS_in, eqS_bb, ty_tuple_none, ty_tuple_bool, ty_tuple_int, ty_tuple_str, ty_tuple_tuple, ty_tuple_list, ty_tuple_dict, ty_list_none, ty_list_bool, ty_list_int, ty_list_str, ty_list_tuple, ty_list_list, ty_list_dict, ty_bool_none, ty_bool_bool, ty_bool_int, ty_bool_str, ty_bool_tuple, ty_bool_list, ty_bool_dict, ty_int_none, ty_int_bool, ty_int_int, ty_int_str, ty_int_tuple, ty_int_list, ty_int_dict, ty_str_none, ty_str_bool, ty_str_int, ty_str_str, ty_str_tuple, ty_str_list, ty_str_dict, ty_dict_none, ty_dict_bool, ty_dict_int, ty_dict_str, ty_dict_tuple, ty_dict_list, ty_dict_dict, not_true_eq_false, not_false_eq_true, Bool.and_true, Bool.true_and, Bool.and_false, Bool.false_and, Bool.or_true, Bool.true_or, Bool.or_false, Bool.false_or, Bool.true_eq_false, Int.toNat_natCast, isOwn_d, isOwn_bowl, isOwn_ro, isOwn_fn, onIs_map, onBs_map,
  List.map_cons, List.map_nil, List.length_cons, List.length_nil, List.replicate_succ, List.replicate_zero, List.cons_append, List.nil_append, List.append_nil, List.getElem?_cons_zero, List.getElem?_cons_succ, List.set_cons_zero, List.set_cons_succ, List.filterMap_cons, List.filterMap_nil, Option.map, List.mem_cons, List.not_mem_nil, or_false, false_or, forall_eq_or_imp, forall_eq, implies_true, false_imp_iff, List.length_map, and_true, true_and, and_self, if_true, if_false, Bool.false_eq_true, reduceCtorEq, Nat.reduceAdd, Nat.reduceSub, Int.reduceLT, Int.reduceLE, Int.reduceNeg, decide_true, decide_false, decide_eq_true_eq, Bool.not_true, Bool.not_false, Bool.not_eq_true', decide_eq_false_iff_not, ite_true, ite_false, ixS]
      exact fin st
/-! ### _law_same: what is the same -/
inductive Smp : Nat → PyData → Prop where
  | int (n : Nat) (i : Int) : Smp n (.int i)
  | bool (n : Nat) (i : Bool) : Smp n (.bool i)
  | none (n : Nat) : Smp n .none
  | str (n : Nat) (x : Str) : PyData.canLay0 (.str x) = true → Smp n (.str x)
  | tup (n : Nat) (l : List PyData) : l.length ≤ 1000000 → (∀ d ∈ l, Smp n d) → Smp (n + 1) (.tuple l)
theorem rngS_mem {n : Nat} {s : S} (h : s ∈ rngS 0 n) : ∃ i : Nat, i < n ∧ s = .d (.int i) := by
  unfold rngS at h
  obtain ⟨i, hi, rfl⟩ := List.mem_map.mp h
  exact ⟨i, List.mem_range.mp hi, by simp⟩
theorem rngS_len {lo : Int} {n : Nat} : (rngS lo n).length = n := by
  unfold rngS
  rw [List.length_map, List.length_range]
theorem all_true {l : List PyData} (h : ∀ d ∈ l, d = .bool true) : l = (List.replicate l.length true).map .bool := by
  induction l with
  | nil => rfl
  | cons d l ih => rw [h d List.mem_cons_self, ih fun x hx => h x (List.mem_cons_of_mem _ hx)]; simp [List.replicate_succ]
theorem shp_str {x : Str} (h : PyData.canLay0 (.str x) = true) : SeqAt.shaped (.str x) = true := Shp.sh (n := 0) ⟨h, Nat.le_refl _⟩
theorem eqS_ss {x : Str} {Q : S → Prop} {E : Exn → Prop} (h : PyData.canLay0 (.str x) = true) (q : Q (.d (.bool true))) : eqS false (.d (.str x)) (.d (.str x)) Q E := by
  refine ⟨shp_str h, shp_str h, ?_⟩
  have e : PyData.eqv (.str x) (.str x) = true := by
    show (x == x) = true
    simp
  rw [e]
  exact q
theorem flat_same {n : Nat} {d : PyData} {m : Nat} {Q : S → Prop} {E : Exn → Prop} (hd : Smp n d) (hn : ∀ l, d ≠ .tuple l) (h : Q (.d (.bool true))) : m__law_same (m + 1) [.d d, .d d] Q E := by
  show dDef 3 (b__law_same (m__law_same m)) _ _ _
  cases hd with
  | int =>
    simp only [b__law_same, e_dCmb, e_dSortK, e_keyS, e_dSeq, e_dIfS, e_dRet, e_dRetN, e_dRetB, e_dAsg, e_dPar, e_dAsgG, e_dDrop, e_dNext, e_dBrk, e_dCont, e_dNever, e_dFor, e_dFreeze, e_dRetO, e_dNewL, e_dApp, e_dWhile, e_dVar, e_dC, e_dOp1, e_dOp2, e_dCB, e_dNil, e_dCons, e_dB, e_dAnd, e_dOr, e_dNot, e_dAndV, e_dOrV, e_dNotV, e_dIf, e_dTup, e_dLst, e_dIsI, e_dCall, e_dCallK, e_dChain, e_dSl, e_dPart, e_dNoPart, e_dYes, e_dFnCall, e_dCallF, e_dIter, e_dRng1, e_dRng2, e_dEnum, e_dComp, e_gN, e_gBw, e_gOw, e_gT, e_gTn, e_gTc, e_dDef, e_lamM, e_gL, onIB_i, onIB_b, bwS_b, lenBS_b, e_dCompB, plain_bowls, isOwn_bowls, inOp_li, inOp_ti, e_dLenSet, e_dCallD, e_dPl, e_dNewO, e_dCopyO, e_dNewD, e_dDisp, e_prs_nil, e_prs_cons, e_dSets, e_dSetsN, e_sets_cons, e_sets_nil, e_dAppPop, e_dGet2, e_dKeys, e_dVals, e_dItems, e_dPut, e_dFreezeD, e_dSumV, onDc_d, onDc_o, onDz_d, keyR_i, keyR_s, flatK_nil, merge1, e_dStar, e_dComp2, e_dPar3, e_dZip, repS_t, repS_l, ixS_t0, ixS_t1, onBs_tt, rg1S_t, rg1S_l, rg2S_t, rg2S_l, revS_t, revS_l, onDs_map, onDs_map0, startR, lamR, slotR, wipeR, hideR, fits, perm,
  plain_d, plain_bowl, plain_ro, onD_d, onI_i, onB_b, onSq_l, onSq_t, onSq_o, onSq_r, onLs_l, onLs_o, onLs_r, onSeq_l, onSeq_t, onSeq_r, onDs_nil, onDs_d, addS_i, addS_t, addS_l, intP_i, int2_i, negS_i, bix_i, one_s, two_s, isN_d, notN_d, eqS_ii, neS_ii, eqS_in, eqS_bb, ty_tuple_none, ty_tuple_bool, ty_tuple_int, ty_tuple_str, ty_tuple_tuple, ty_tuple_list, ty_tuple_dict, ty_list_none, ty_list_bool, ty_list_int, ty_list_str, ty_list_tuple, ty_list_list, ty_list_dict, ty_bool_none, ty_bool_bool, ty_bool_int, ty_bool_str, ty_bool_tuple, ty_bool_list, ty_bool_dict, ty_int_none, ty_int_bool, ty_int_int, ty_int_str, ty_int_tuple, ty_int_list, ty_int_dict, ty_str_none, ty_str_bool, ty_str_int, ty_str_str, ty_str_tuple, ty_str_list, ty_str_dict, ty_dict_none, ty_dict_bool, ty_dict_int, ty_dict_str, ty_dict_tuple, ty_dict_list, ty_dict_dict, not_true_eq_false, not_false_eq_true, Bool.and_true, Bool.true_and, Bool.and_false, Bool.false_and, Bool.or_true, Bool.true_or, Bool.or_false, Bool.false_or, Bool.true_eq_false, Int.toNat_natCast, isOwn_d, isOwn_bowl, isOwn_ro, isOwn_fn, onIs_map, onBs_map,
  List.map_cons, List.map_nil, List.length_cons, List.length_nil, List.replicate_succ, List.replicate_zero, List.cons_append, List.nil_append, List.append_nil, List.getElem?_cons_zero, List.getElem?_cons_succ, List.set_cons_zero, List.set_cons_succ, List.filterMap_cons, List.filterMap_nil, Option.map, List.mem_cons, List.not_mem_nil, or_false, false_or, forall_eq_or_imp, forall_eq, implies_true, false_imp_iff, List.length_map, and_true, true_and, and_self, if_true, if_false, Bool.false_eq_true, reduceCtorEq, Nat.reduceAdd, Nat.reduceSub, Int.reduceLT, Int.reduceLE, Int.reduceNeg, decide_true, decide_false, decide_eq_true_eq, Bool.not_true, Bool.not_false, Bool.not_eq_true', decide_eq_false_iff_not, ite_true, ite_false]
    exact h
  | bool b =>
    simp only [b__law_same, e_dCmb, e_dSortK, e_keyS, e_dSeq, e_dIfS, e_dRet, e_dRetN, e_dRetB, e_dAsg, e_dPar, e_dAsgG, e_dDrop, e_dNext, e_dBrk, e_dCont, e_dNever, e_dFor, e_dFreeze, e_dRetO, e_dNewL, e_dApp, e_dWhile, e_dVar, e_dC, e_dOp1, e_dOp2, e_dCB, e_dNil, e_dCons, e_dB, e_dAnd, e_dOr, e_dNot, e_dAndV, e_dOrV, e_dNotV, e_dIf, e_dTup, e_dLst, e_dIsI, e_dCall, e_dCallK, e_dChain, e_dSl, e_dPart, e_dNoPart, e_dYes, e_dFnCall, e_dCallF, e_dIter, e_dRng1, e_dRng2, e_dEnum, e_dComp, e_gN, e_gBw, e_gOw, e_gT, e_gTn, e_gTc, e_dDef, e_lamM, e_gL, onIB_i, onIB_b, bwS_b, lenBS_b, e_dCompB, plain_bowls, isOwn_bowls, inOp_li, inOp_ti, e_dLenSet, e_dCallD, e_dPl, e_dNewO, e_dCopyO, e_dNewD, e_dDisp, e_prs_nil, e_prs_cons, e_dSets, e_dSetsN, e_sets_cons, e_sets_nil, e_dAppPop, e_dGet2, e_dKeys, e_dVals, e_dItems, e_dPut, e_dFreezeD, e_dSumV, onDc_d, onDc_o, onDz_d, keyR_i, keyR_s, flatK_nil, merge1, e_dStar, e_dComp2, e_dPar3, e_dZip, repS_t, repS_l, ixS_t0, ixS_t1, onBs_tt, rg1S_t, rg1S_l, rg2S_t, rg2S_l, revS_t, revS_l, onDs_map, onDs_map0, startR, lamR, slotR, wipeR, hideR, fits, perm,
  plain_d, plain_bowl, plain_ro, onD_d, onI_i, onB_b, onSq_l, onSq_t, onSq_o, onSq_r, onLs_l, onLs_o, onLs_r, onSeq_l, onSeq_t, onSeq_r, onDs_nil, onDs_d, addS_i, addS_t, addS_l, intP_i, int2_i, negS_i, bix_i, one_s, two_s, isN_d, notN_d, eqS_ii, neS_ii, eqS_in, eqS_bb, ty_tuple_none, ty_tuple_bool, ty_tuple_int, ty_tuple_str, ty_tuple_tuple, ty_tuple_list, ty_tuple_dict, ty_list_none, ty_list_bool, ty_list_int, ty_list_str, ty_list_tuple, ty_list_list, ty_list_dict, ty_bool_none, ty_bool_bool, ty_bool_int, ty_bool_str, ty_bool_tuple, ty_bool_list, ty_bool_dict, ty_int_none, ty_int_bool, ty_int_int, ty_int_str, ty_int_tuple, ty_int_list, ty_int_dict, ty_str_none, ty_str_bool, ty_str_int, ty_str_str, ty_str_tuple, ty_str_list, ty_str_dict, ty_dict_none, ty_dict_bool, ty_dict_int, ty_dict_str, ty_dict_tuple, ty_dict_list, ty_dict_dict, not_true_eq_false, not_false_eq_true, Bool.and_true, Bool.true_and, Bool.and_false, Bool.false_and, Bool.or_true, Bool.true_or, Bool.or_false, Bool.false_or, Bool.true_eq_false, Int.toNat_natCast, isOwn_d, isOwn_bowl, isOwn_ro, isOwn_fn, onIs_map, onBs_map,
  List.map_cons, List.map_nil, List.length_cons, List.length_nil, List.replicate_succ, List.replicate_zero, List.cons_append, List.nil_append, List.append_nil, List.getElem?_cons_zero, List.getElem?_cons_succ, List.set_cons_zero, List.set_cons_succ, List.filterMap_cons, List.filterMap_nil, Option.map, List.mem_cons, List.not_mem_nil, or_false, false_or, forall_eq_or_imp, forall_eq, implies_true, false_imp_iff, List.length_map, and_true, true_and, and_self, if_true, if_false, Bool.false_eq_true, reduceCtorEq, Nat.reduceAdd, Nat.reduceSub, Int.reduceLT, Int.reduceLE, Int.reduceNeg, decide_true, decide_false, decide_eq_true_eq, Bool.not_true, Bool.not_false, Bool.not_eq_true', decide_eq_false_iff_not, ite_true, ite_false]
    simpa using h
  | none =>
    simp only [b__law_same, e_dCmb, e_dSortK, e_keyS, e_dSeq, e_dIfS, e_dRet, e_dRetN, e_dRetB, e_dAsg, e_dPar, e_dAsgG, e_dDrop, e_dNext, e_dBrk, e_dCont, e_dNever, e_dFor, e_dFreeze, e_dRetO, e_dNewL, e_dApp, e_dWhile, e_dVar, e_dC, e_dOp1, e_dOp2, e_dCB, e_dNil, e_dCons, e_dB, e_dAnd, e_dOr, e_dNot, e_dAndV, e_dOrV, e_dNotV, e_dIf, e_dTup, e_dLst, e_dIsI, e_dCall, e_dCallK, e_dChain, e_dSl, e_dPart, e_dNoPart, e_dYes, e_dFnCall, e_dCallF, e_dIter, e_dRng1, e_dRng2, e_dEnum, e_dComp, e_gN, e_gBw, e_gOw, e_gT, e_gTn, e_gTc, e_dDef, e_lamM, e_gL, onIB_i, onIB_b, bwS_b, lenBS_b, e_dCompB, plain_bowls, isOwn_bowls, inOp_li, inOp_ti, e_dLenSet, e_dCallD, e_dPl, e_dNewO, e_dCopyO, e_dNewD, e_dDisp, e_prs_nil, e_prs_cons, e_dSets, e_dSetsN, e_sets_cons, e_sets_nil, e_dAppPop, e_dGet2, e_dKeys, e_dVals, e_dItems, e_dPut, e_dFreezeD, e_dSumV, onDc_d, onDc_o, onDz_d, keyR_i, keyR_s, flatK_nil, merge1, e_dStar, e_dComp2, e_dPar3, e_dZip, repS_t, repS_l, ixS_t0, ixS_t1, onBs_tt, rg1S_t, rg1S_l, rg2S_t, rg2S_l, revS_t, revS_l, onDs_map, onDs_map0, startR, lamR, slotR, wipeR, hideR, fits, perm,
  plain_d, plain_bowl, plain_ro, onD_d, onI_i, onB_b, onSq_l, onSq_t, onSq_o, onSq_r, onLs_l, onLs_o, onLs_r, onSeq_l, onSeq_t, onSeq_r, onDs_nil, onDs_d, addS_i, addS_t, addS_l, intP_i, int2_i, negS_i, bix_i, one_s, two_s, isN_d, notN_d, eqS_ii, neS_ii, eqS_in, eqS_bb, ty_tuple_none, ty_tuple_bool, ty_tuple_int, ty_tuple_str, ty_tuple_tuple, ty_tuple_list, ty_tuple_dict, ty_list_none, ty_list_bool, ty_list_int, ty_list_str, ty_list_tuple, ty_list_list, ty_list_dict, ty_bool_none, ty_bool_bool, ty_bool_int, ty_bool_str, ty_bool_tuple, ty_bool_list, ty_bool_dict, ty_int_none, ty_int_bool, ty_int_int, ty_int_str, ty_int_tuple, ty_int_list, ty_int_dict, ty_str_none, ty_str_bool, ty_str_int, ty_str_str, ty_str_tuple, ty_str_list, ty_str_dict, ty_dict_none, ty_dict_bool, ty_dict_int, ty_dict_str, ty_dict_tuple, ty_dict_list, ty_dict_dict, not_true_eq_false, not_false_eq_true, Bool.and_true, Bool.true_and, Bool.and_false, Bool.false_and, Bool.or_true, Bool.true_or, Bool.or_false, Bool.false_or, Bool.true_eq_false, Int.toNat_natCast, isOwn_d, isOwn_bowl, isOwn_ro, isOwn_fn, onIs_map, onBs_map,
  List.map_cons, List.map_nil, List.length_cons, List.length_nil, List.replicate_succ, List.replicate_zero, List.cons_append, List.nil_append, List.append_nil, List.getElem?_cons_zero, List.getElem?_cons_succ, List.set_cons_zero, List.set_cons_succ, List.filterMap_cons, List.filterMap_nil, Option.map, List.mem_cons, List.not_mem_nil, or_false, false_or, forall_eq_or_imp, forall_eq, implies_true, false_imp_iff, List.length_map, and_true, true_and, and_self, if_true, if_false, Bool.false_eq_true, reduceCtorEq, Nat.reduceAdd, Nat.reduceSub, Int.reduceLT, Int.reduceLE, Int.reduceNeg, decide_true, decide_false, decide_eq_true_eq, Bool.not_true, Bool.not_false, Bool.not_eq_true', decide_eq_false_iff_not, ite_true, ite_false]
    exact h
  | str _ _ hx =>
    simp only [b__law_same, e_dCmb, e_dSortK, e_keyS, e_dSeq, e_dIfS, e_dRet, e_dRetN, e_dRetB, e_dAsg, e_dPar, e_dAsgG, e_dDrop, e_dNext, e_dBrk, e_dCont, e_dNever, e_dFor, e_dFreeze, e_dRetO, e_dNewL, e_dApp, e_dWhile, e_dVar, e_dC, e_dOp1, e_dOp2, e_dCB, e_dNil, e_dCons, e_dB, e_dAnd, e_dOr, e_dNot, e_dAndV, e_dOrV, e_dNotV, e_dIf, e_dTup, e_dLst, e_dIsI, e_dCall, e_dCallK, e_dChain, e_dSl, e_dPart, e_dNoPart, e_dYes, e_dFnCall, e_dCallF, e_dIter, e_dRng1, e_dRng2, e_dEnum, e_dComp, e_gN, e_gBw, e_gOw, e_gT, e_gTn, e_gTc, e_dDef, e_lamM, e_gL, onIB_i, onIB_b, bwS_b, lenBS_b, e_dCompB, plain_bowls, isOwn_bowls, inOp_li, inOp_ti, e_dLenSet, e_dCallD, e_dPl, e_dNewO, e_dCopyO, e_dNewD, e_dDisp, e_prs_nil, e_prs_cons, e_dSets, e_dSetsN, e_sets_cons, e_sets_nil, e_dAppPop, e_dGet2, e_dKeys, e_dVals, e_dItems, e_dPut, e_dFreezeD, e_dSumV, onDc_d, onDc_o, onDz_d, keyR_i, keyR_s, flatK_nil, merge1, e_dStar, e_dComp2, e_dPar3, e_dZip, repS_t, repS_l, ixS_t0, ixS_t1, onBs_tt, rg1S_t, rg1S_l, rg2S_t, rg2S_l, revS_t, revS_l, onDs_map, onDs_map0, startR, lamR, slotR, wipeR, hideR, fits, perm,
  plain_d, plain_bowl, plain_ro, onD_d, onI_i, onB_b, onSq_l, onSq_t, onSq_o, onSq_r, onLs_l, onLs_o, onLs_r, onSeq_l, onSeq_t, onSeq_r, onDs_nil, onDs_d, addS_i, addS_t, addS_l, intP_i, int2_i, negS_i, bix_i, one_s, two_s, isN_d, notN_d, eqS_ii, neS_ii, eqS_in, eqS_bb, ty_tuple_none, ty_tuple_bool, ty_tuple_int, ty_tuple_str, ty_tuple_tuple, ty_tuple_list, ty_tuple_dict, ty_list_none, ty_list_bool, ty_list_int, ty_list_str, ty_list_tuple, ty_list_list, ty_list_dict, ty_bool_none, ty_bool_bool, ty_bool_int, ty_bool_str, ty_bool_tuple, ty_bool_list, ty_bool_dict, ty_int_none, ty_int_bool, ty_int_int, ty_int_str, ty_int_tuple, ty_int_list, ty_int_dict, ty_str_none, ty_str_bool, ty_str_int, ty_str_str, ty_str_tuple, ty_str_list, ty_str_dict, ty_dict_none, ty_dict_bool, ty_dict_int, ty_dict_str, ty_dict_tuple, ty_dict_list, ty_dict_dict, not_true_eq_false, not_false_eq_true, Bool.and_true, Bool.true_and, Bool.and_false, Bool.false_and, Bool.or_true, Bool.true_or, Bool.or_false, Bool.false_or, Bool.true_eq_false, Int.toNat_natCast, isOwn_d, isOwn_bowl, isOwn_ro, isOwn_fn, onIs_map, onBs_map,
  List.map_cons, List.map_nil, List.length_cons, List.length_nil, List.replicate_succ, List.replicate_zero, List.cons_append, List.nil_append, List.append_nil, List.getElem?_cons_zero, List.getElem?_cons_succ, List.set_cons_zero, List.set_cons_succ, List.filterMap_cons, List.filterMap_nil, Option.map, List.mem_cons, List.not_mem_nil, or_false, false_or, forall_eq_or_imp, forall_eq, implies_true, false_imp_iff, List.length_map, and_true, true_and, and_self, if_true, if_false, Bool.false_eq_true, reduceCtorEq, Nat.reduceAdd, Nat.reduceSub, Int.reduceLT, Int.reduceLE, Int.reduceNeg, decide_true, decide_false, decide_eq_true_eq, Bool.not_true, Bool.not_false, Bool.not_eq_true', decide_eq_false_iff_not, ite_true, ite_false]
    exact eqS_ss hx h
  | tup _ l _ _ => exact absurd rfl (hn _)
theorem w__law_same {n : Nat} : ∀ {d : PyData} {Q : S → Prop} {E : Exn → Prop}, Smp n d → Q (.d (.bool true)) → m__law_same (n + 1) [.d d, .d d] Q E := by
  induction n with
  | zero =>
    intro d Q E hd h
    refine flat_same hd (fun l e => ?_) h
    subst e
    cases hd
  | succ n ih =>
    intro d Q E hd h
    by_cases ht : ∃ l, d = .tuple l
    · obtain ⟨l, rfl⟩ := ht
      cases hd with
      | tup _ _ hl hd =>
        show dDef 3 (b__law_same (m__law_same (n + 1))) _ _ _
        simp only [b__law_same, e_dCmb, e_dSortK, e_keyS, e_dSeq, e_dIfS, e_dRet, e_dRetN, e_dRetB, e_dAsg, e_dPar, e_dAsgG, e_dDrop, e_dNext, e_dBrk, e_dCont, e_dNever, e_dFor, e_dFreeze, e_dRetO, e_dNewL, e_dApp, e_dWhile, e_dVar, e_dC, e_dOp1, e_dOp2, e_dCB, e_dNil, e_dCons, e_dB, e_dAnd, e_dOr, e_dNot, e_dAndV, e_dOrV, e_dNotV, e_dIf, e_dTup, e_dLst, e_dIsI, e_dCall, e_dCallK, e_dChain, e_dSl, e_dPart, e_dNoPart, e_dYes, e_dFnCall, e_dCallF, e_dIter, e_dRng1, e_dRng2, e_dEnum, e_dComp, e_gN, e_gBw, e_gOw, e_gT, e_gTn, e_gTc, e_dDef, e_lamM, e_gL, onIB_i, onIB_b, bwS_b, lenBS_b, e_dCompB, plain_bowls, isOwn_bowls, inOp_li, inOp_ti, e_dLenSet, e_dCallD, e_dPl, e_dNewO, e_dCopyO, e_dNewD, e_dDisp, e_prs_nil, e_prs_cons, e_dSets, e_dSetsN, e_sets_cons, e_sets_nil, e_dAppPop, e_dGet2, e_dKeys, e_dVals, e_dItems, e_dPut, e_dFreezeD, e_dSumV, onDc_d, onDc_o, onDz_d, keyR_i, keyR_s, flatK_nil, merge1, e_dStar, e_dComp2, e_dPar3, e_dZip, repS_t, repS_l, ixS_t0, ixS_t1, onBs_tt, rg1S_t, rg1S_l, rg2S_t, rg2S_l, revS_t, revS_l, onDs_map, onDs_map0, startR, lamR, slotR, wipeR, hideR, fits, perm,
  plain_d, plain_bowl, plain_ro, onD_d, onI_i, onB_b, onSq_l, onSq_t, onSq_o, onSq_r, onLs_l, onLs_o, onLs_r, onSeq_l, onSeq_t, onSeq_r, onDs_nil, onDs_d, addS_i, addS_t, addS_l, intP_i, int2_i, negS_i, bix_i, one_s, two_s, isN_d, notN_d, eqS_ii, neS_ii, eqS_in, eqS_bb, ty_tuple_none, ty_tuple_bool, ty_tuple_int, ty_tuple_str, ty_tuple_tuple, ty_tuple_list, ty_tuple_dict, ty_list_none, ty_list_bool, ty_list_int, ty_list_str, ty_list_tuple, ty_list_list, ty_list_dict, ty_bool_none, ty_bool_bool, ty_bool_int, ty_bool_str, ty_bool_tuple, ty_bool_list, ty_bool_dict, ty_int_none, ty_int_bool, ty_int_int, ty_int_str, ty_int_tuple, ty_int_list, ty_int_dict, ty_str_none, ty_str_bool, ty_str_int, ty_str_str, ty_str_tuple, ty_str_list, ty_str_dict, ty_dict_none, ty_dict_bool, ty_dict_int, ty_dict_str, ty_dict_tuple, ty_dict_list, ty_dict_dict, not_true_eq_false, not_false_eq_true, Bool.and_true, Bool.true_and, Bool.and_false, Bool.false_and, Bool.or_true, Bool.true_or, Bool.or_false, Bool.false_or, Bool.true_eq_false, Int.toNat_natCast, isOwn_d, isOwn_bowl, isOwn_ro, isOwn_fn, onIs_map, onBs_map,
  List.map_cons, List.map_nil, List.length_cons, List.length_nil, List.replicate_succ, List.replicate_zero, List.cons_append, List.nil_append, List.append_nil, List.getElem?_cons_zero, List.getElem?_cons_succ, List.set_cons_zero, List.set_cons_succ, List.filterMap_cons, List.filterMap_nil, Option.map, List.mem_cons, List.not_mem_nil, or_false, false_or, forall_eq_or_imp, forall_eq, implies_true, false_imp_iff, List.length_map, and_true, true_and, and_self, if_true, if_false, Bool.false_eq_true, reduceCtorEq, Nat.reduceAdd, Nat.reduceSub, Int.reduceLT, Int.reduceLE, Int.reduceNeg, decide_true, decide_false, decide_eq_true_eq, Bool.not_true, Bool.not_false, Bool.not_eq_true', decide_eq_false_iff_not, ite_true, ite_false]
        refine ⟨⟨by decide, by decide, by omega, by omega⟩, ?_⟩
        refine compL_each (fun d => d = .bool true) (by rw [rngS_len]; exact sizeLine_ge hl) (fun s F Z hs hF => ?_) fun ds hlen hall => ?_
        · obtain ⟨i, hi, rfl⟩ := rngS_mem hs
          have e : atI l (i : Int) = some l[i] := atI_nat (List.getElem?_eq_getElem hi)
          simp only [e_dCmb, e_dSortK, e_keyS, e_dSeq, e_dIfS, e_dRet, e_dRetN, e_dRetB, e_dAsg, e_dPar, e_dAsgG, e_dDrop, e_dNext, e_dBrk, e_dCont, e_dNever, e_dFor, e_dFreeze, e_dRetO, e_dNewL, e_dApp, e_dWhile, e_dVar, e_dC, e_dOp1, e_dOp2, e_dCB, e_dNil, e_dCons, e_dB, e_dAnd, e_dOr, e_dNot, e_dAndV, e_dOrV, e_dNotV, e_dIf, e_dTup, e_dLst, e_dIsI, e_dCall, e_dCallK, e_dChain, e_dSl, e_dPart, e_dNoPart, e_dYes, e_dFnCall, e_dCallF, e_dIter, e_dRng1, e_dRng2, e_dEnum, e_dComp, e_gN, e_gBw, e_gOw, e_gT, e_gTn, e_gTc, e_dDef, e_lamM, e_gL, onIB_i, onIB_b, bwS_b, lenBS_b, e_dCompB, plain_bowls, isOwn_bowls, inOp_li, inOp_ti, e_dLenSet, e_dCallD, e_dPl, e_dNewO, e_dCopyO, e_dNewD, e_dDisp, e_prs_nil, e_prs_cons, e_dSets, e_dSetsN, e_sets_cons, e_sets_nil, e_dAppPop, e_dGet2, e_dKeys, e_dVals, e_dItems, e_dPut, e_dFreezeD, e_dSumV, onDc_d, onDc_o, onDz_d, keyR_i, keyR_s, flatK_nil, merge1, e_dStar, e_dComp2, e_dPar3, e_dZip, repS_t, repS_l, ixS_t0, ixS_t1, onBs_tt, rg1S_t, rg1S_l, rg2S_t, rg2S_l, revS_t, revS_l, onDs_map, onDs_map0, startR, lamR, slotR, wipeR, hideR, fits, perm,
  plain_d, plain_bowl, plain_ro, onD_d, onI_i, onB_b, onSq_l, onSq_t, onSq_o, onSq_r, onLs_l, onLs_o, onLs_r, onSeq_l, onSeq_t, onSeq_r, onDs_nil, onDs_d, addS_i, addS_t, addS_l, intP_i, int2_i, negS_i, bix_i, one_s, two_s, isN_d, notN_d, eqS_ii, neS_ii, eqS_in, eqS_bb, ty_tuple_none, ty_tuple_bool, ty_tuple_int, ty_tuple_str, ty_tuple_tuple, ty_tuple_list, ty_tuple_dict, ty_list_none, ty_list_bool, ty_list_int, ty_list_str, ty_list_tuple, ty_list_list, ty_list_dict, ty_bool_none, ty_bool_bool, ty_bool_int, ty_bool_str, ty_bool_tuple, ty_bool_list, ty_bool_dict, ty_int_none, ty_int_bool, ty_int_int, ty_int_str, ty_int_tuple, ty_int_list, ty_int_dict, ty_str_none, ty_str_bool, ty_str_int, ty_str_str, ty_str_tuple, ty_str_list, ty_str_dict, ty_dict_none, ty_dict_bool, ty_dict_int, ty_dict_str, ty_dict_tuple, ty_dict_list, ty_dict_dict, not_true_eq_false, not_false_eq_true, Bool.and_true, Bool.true_and, Bool.and_false, Bool.false_and, Bool.or_true, Bool.true_or, Bool.or_false, Bool.false_or, Bool.true_eq_false, Int.toNat_natCast, isOwn_d, isOwn_bowl, isOwn_ro, isOwn_fn, onIs_map, onBs_map,
  List.map_cons, List.map_nil, List.length_cons, List.length_nil, List.replicate_succ, List.replicate_zero, List.cons_append, List.nil_append, List.append_nil, List.getElem?_cons_zero, List.getElem?_cons_succ, List.set_cons_zero, List.set_cons_succ, List.filterMap_cons, List.filterMap_nil, Option.map, List.mem_cons, List.not_mem_nil, or_false, false_or, forall_eq_or_imp, forall_eq, implies_true, false_imp_iff, List.length_map, and_true, true_and, and_self, if_true, if_false, Bool.false_eq_true, reduceCtorEq, Nat.reduceAdd, Nat.reduceSub, Int.reduceLT, Int.reduceLE, Int.reduceNeg, decide_true, decide_false, decide_eq_true_eq, Bool.not_true, Bool.not_false, Bool.not_eq_true', decide_eq_false_iff_not, ite_true, ite_false, ixS, e]
          exact ih (hd _ (List.getElem_mem hi)) (hF _ rfl)
        · rw [all_true hall, onBs_map]
          have e : (List.replicate ds.length true).all id = true := by simp
          rw [e]
          exact h
    · exact flat_same hd (fun l e => ht ⟨l, e⟩) h
/-! ### the parts that the groups lean on -/
theorem w_is_whole {d : PyData} {Q : S → Prop} {E : Exn → Prop} (h : Q (.d (.bool (isTy "int" d && !isTy "bool" d)))) : m_is_whole [.d d] Q E := by
  simp only [m_is_whole, b_is_whole, e_dCmb, e_dSortK, e_keyS, e_dSeq, e_dIfS, e_dRet, e_dRetN, e_dRetB, e_dAsg, e_dPar, e_dAsgG, e_dDrop, e_dNext, e_dBrk, e_dCont, e_dNever, e_dFor, e_dFreeze, e_dRetO, e_dNewL, e_dApp, e_dWhile, e_dVar, e_dC, e_dOp1, e_dOp2, e_dCB, e_dNil, e_dCons, e_dB, e_dAnd, e_dOr, e_dNot, e_dAndV, e_dOrV, e_dNotV, e_dIf, e_dTup, e_dLst, e_dIsI, e_dCall, e_dCallK, e_dChain, e_dSl, e_dPart, e_dNoPart, e_dYes, e_dFnCall, e_dCallF, e_dIter, e_dRng1, e_dRng2, e_dEnum, e_dComp, e_gN, e_gBw, e_gOw, e_gT, e_gTn, e_gTc, e_dDef, e_lamM, e_gL, onIB_i, onIB_b, bwS_b, lenBS_b, e_dCompB, plain_bowls, isOwn_bowls, inOp_li, inOp_ti, e_dLenSet, e_dCallD, e_dPl, e_dNewO, e_dCopyO, e_dNewD, e_dDisp, e_prs_nil, e_prs_cons, e_dSets, e_dSetsN, e_sets_cons, e_sets_nil, e_dAppPop, e_dGet2, e_dKeys, e_dVals, e_dItems, e_dPut, e_dFreezeD, e_dSumV, onDc_d, onDc_o, onDz_d, keyR_i, keyR_s, flatK_nil, merge1, e_dStar, e_dComp2, e_dPar3, e_dZip, repS_t, repS_l, ixS_t0, ixS_t1, onBs_tt, rg1S_t, rg1S_l, rg2S_t, rg2S_l, revS_t, revS_l, onDs_map, onDs_map0, startR, lamR, slotR, wipeR, hideR, fits, perm,
  plain_d, plain_bowl, plain_ro, onD_d, onI_i, onB_b, onSq_l, onSq_t, onSq_o, onSq_r, onLs_l, onLs_o, onLs_r, onSeq_l, onSeq_t, onSeq_r, onDs_nil, onDs_d, addS_i, addS_t, addS_l, intP_i, int2_i, negS_i, bix_i, one_s, two_s, isN_d, notN_d, eqS_ii, neS_ii, eqS_in, eqS_bb, ty_tuple_none, ty_tuple_bool, ty_tuple_int, ty_tuple_str, ty_tuple_tuple, ty_tuple_list, ty_tuple_dict, ty_list_none, ty_list_bool, ty_list_int, ty_list_str, ty_list_tuple, ty_list_list, ty_list_dict, ty_bool_none, ty_bool_bool, ty_bool_int, ty_bool_str, ty_bool_tuple, ty_bool_list, ty_bool_dict, ty_int_none, ty_int_bool, ty_int_int, ty_int_str, ty_int_tuple, ty_int_list, ty_int_dict, ty_str_none, ty_str_bool, ty_str_int, ty_str_str, ty_str_tuple, ty_str_list, ty_str_dict, ty_dict_none, ty_dict_bool, ty_dict_int, ty_dict_str, ty_dict_tuple, ty_dict_list, ty_dict_dict, not_true_eq_false, not_false_eq_true, Bool.and_true, Bool.true_and, Bool.and_false, Bool.false_and, Bool.or_true, Bool.true_or, Bool.or_false, Bool.false_or, Bool.true_eq_false, Int.toNat_natCast, isOwn_d, isOwn_bowl, isOwn_ro, isOwn_fn, onIs_map, onBs_map,
  List.map_cons, List.map_nil, List.length_cons, List.length_nil, List.replicate_succ, List.replicate_zero, List.cons_append, List.nil_append, List.append_nil, List.getElem?_cons_zero, List.getElem?_cons_succ, List.set_cons_zero, List.set_cons_succ, List.filterMap_cons, List.filterMap_nil, Option.map, List.mem_cons, List.not_mem_nil, or_false, false_or, forall_eq_or_imp, forall_eq, implies_true, false_imp_iff, List.length_map, and_true, true_and, and_self, if_true, if_false, Bool.false_eq_true, reduceCtorEq, Nat.reduceAdd, Nat.reduceSub, Int.reduceLT, Int.reduceLE, Int.reduceNeg, decide_true, decide_false, decide_eq_true_eq, Bool.not_true, Bool.not_false, Bool.not_eq_true', decide_eq_false_iff_not, ite_true, ite_false]
  cases e : isTy "int" d <;> cases e2 : isTy "bool" d <;> simp only [e, e2, e_dCmb, e_dSortK, e_keyS, e_dSeq, e_dIfS, e_dRet, e_dRetN, e_dRetB, e_dAsg, e_dPar, e_dAsgG, e_dDrop, e_dNext, e_dBrk, e_dCont, e_dNever, e_dFor, e_dFreeze, e_dRetO, e_dNewL, e_dApp, e_dWhile, e_dVar, e_dC, e_dOp1, e_dOp2, e_dCB, e_dNil, e_dCons, e_dB, e_dAnd, e_dOr, e_dNot, e_dAndV, e_dOrV, e_dNotV, e_dIf, e_dTup, e_dLst, e_dIsI, e_dCall, e_dCallK, e_dChain, e_dSl, e_dPart, e_dNoPart, e_dYes, e_dFnCall, e_dCallF, e_dIter, e_dRng1, e_dRng2, e_dEnum, e_dComp, e_gN, e_gBw, e_gOw, e_gT, e_gTn, e_gTc, e_dDef, e_lamM, e_gL, onIB_i, onIB_b, bwS_b, lenBS_b, e_dCompB, plain_bowls, isOwn_bowls, inOp_li, inOp_ti, e_dLenSet, e_dCallD, e_dPl, e_dNewO, e_dCopyO, e_dNewD, e_dDisp, e_prs_nil, e_prs_cons, e_dSets, e_dSetsN, e_sets_cons, e_sets_nil, e_dAppPop, e_dGet2, e_dKeys, e_dVals, e_dItems, e_dPut, e_dFreezeD, e_dSumV, onDc_d, onDc_o, onDz_d, keyR_i, keyR_s, flatK_nil, merge1, e_dStar, e_dComp2, e_dPar3, e_dZip, repS_t, repS_l, ixS_t0, ixS_t1, onBs_tt, rg1S_t, rg1S_l, rg2S_t, rg2S_l, revS_t, revS_l, onDs_map, onDs_map0, startR, lamR, slotR, wipeR, hideR, fits, perm,
  plain_d, plain_bowl, plain_ro, onD_d, onI_i, onB_b, onSq_l, onSq_t, onSq_o, onSq_r, onLs_l, onLs_o, onLs_r, onSeq_l, onSeq_t, onSeq_r, onDs_nil, onDs_d, addS_i, addS_t, addS_l, intP_i, int2_i, negS_i, bix_i, one_s, two_s, isN_d, notN_d, eqS_ii, neS_ii, eqS_in, eqS_bb, ty_tuple_none, ty_tuple_bool, ty_tuple_int, ty_tuple_str, ty_tuple_tuple, ty_tuple_list, ty_tuple_dict, ty_list_none, ty_list_bool, ty_list_int, ty_list_str, ty_list_tuple, ty_list_list, ty_list_dict, ty_bool_none, ty_bool_bool, ty_bool_int, ty_bool_str, ty_bool_tuple, ty_bool_list, ty_bool_dict, ty_int_none, ty_int_bool, ty_int_int, ty_int_str, ty_int_tuple, ty_int_list, ty_int_dict, ty_str_none, ty_str_bool, ty_str_int, ty_str_str, ty_str_tuple, ty_str_list, ty_str_dict, ty_dict_none, ty_dict_bool, ty_dict_int, ty_dict_str, ty_dict_tuple, ty_dict_list, ty_dict_dict, not_true_eq_false, not_false_eq_true, Bool.and_true, Bool.true_and, Bool.and_false, Bool.false_and, Bool.or_true, Bool.true_or, Bool.or_false, Bool.false_or, Bool.true_eq_false, Int.toNat_natCast, isOwn_d, isOwn_bowl, isOwn_ro, isOwn_fn, onIs_map, onBs_map,
  List.map_cons, List.map_nil, List.length_cons, List.length_nil, List.replicate_succ, List.replicate_zero, List.cons_append, List.nil_append, List.append_nil, List.getElem?_cons_zero, List.getElem?_cons_succ, List.set_cons_zero, List.set_cons_succ, List.filterMap_cons, List.filterMap_nil, Option.map, List.mem_cons, List.not_mem_nil, or_false, false_or, forall_eq_or_imp, forall_eq, implies_true, false_imp_iff, List.length_map, and_true, true_and, and_self, if_true, if_false, Bool.false_eq_true, reduceCtorEq, Nat.reduceAdd, Nat.reduceSub, Int.reduceLT, Int.reduceLE, Int.reduceNeg, decide_true, decide_false, decide_eq_true_eq, Bool.not_true, Bool.not_false, Bool.not_eq_true', decide_eq_false_iff_not, ite_true, ite_false] at h ⊢ <;> exact h
theorem w_is_between {i a b : Int} {Q : S → Prop} {E : Exn → Prop} (h : Q (.d (.bool (decide (a ≤ i ∧ i ≤ b))))) : m_is_between [.d (.int i), .d (.int a), .d (.int b)] Q E := by
  simp only [m_is_between, b_is_between, e_dCmb, e_dSortK, e_keyS, e_dSeq, e_dIfS, e_dRet, e_dRetN, e_dRetB, e_dAsg, e_dPar, e_dAsgG, e_dDrop, e_dNext, e_dBrk, e_dCont, e_dNever, e_dFor, e_dFreeze, e_dRetO, e_dNewL, e_dApp, e_dWhile, e_dVar, e_dC, e_dOp1, e_dOp2, e_dCB, e_dNil, e_dCons, e_dB, e_dAnd, e_dOr, e_dNot, e_dAndV, e_dOrV, e_dNotV, e_dIf, e_dTup, e_dLst, e_dIsI, e_dCall, e_dCallK, e_dChain, e_dSl, e_dPart, e_dNoPart, e_dYes, e_dFnCall, e_dCallF, e_dIter, e_dRng1, e_dRng2, e_dEnum, e_dComp, e_gN, e_gBw, e_gOw, e_gT, e_gTn, e_gTc, e_dDef, e_lamM, e_gL, onIB_i, onIB_b, bwS_b, lenBS_b, e_dCompB, plain_bowls, isOwn_bowls, inOp_li, inOp_ti, e_dLenSet, e_dCallD, e_dPl, e_dNewO, e_dCopyO, e_dNewD, e_dDisp, e_prs_nil, e_prs_cons, e_dSets, e_dSetsN, e_sets_cons, e_sets_nil, e_dAppPop, e_dGet2, e_dKeys, e_dVals, e_dItems, e_dPut, e_dFreezeD, e_dSumV, onDc_d, onDc_o, onDz_d, keyR_i, keyR_s, flatK_nil, merge1, e_dStar, e_dComp2, e_dPar3, e_dZip, repS_t, repS_l, ixS_t0, ixS_t1, onBs_tt, rg1S_t, rg1S_l, rg2S_t, rg2S_l, revS_t, revS_l, onDs_map, onDs_map0, startR, lamR, slotR, wipeR, hideR, fits, perm,
  plain_d, plain_bowl, plain_ro, onD_d, onI_i, onB_b, onSq_l, onSq_t, onSq_o, onSq_r, onLs_l, onLs_o, onLs_r, onSeq_l, onSeq_t, onSeq_r, onDs_nil, onDs_d, addS_i, addS_t, addS_l, intP_i, int2_i, negS_i, bix_i, one_s, two_s, isN_d, notN_d, eqS_ii, neS_ii, eqS_in, eqS_bb, ty_tuple_none, ty_tuple_bool, ty_tuple_int, ty_tuple_str, ty_tuple_tuple, ty_tuple_list, ty_tuple_dict, ty_list_none, ty_list_bool, ty_list_int, ty_list_str, ty_list_tuple, ty_list_list, ty_list_dict, ty_bool_none, ty_bool_bool, ty_bool_int, ty_bool_str, ty_bool_tuple, ty_bool_list, ty_bool_dict, ty_int_none, ty_int_bool, ty_int_int, ty_int_str, ty_int_tuple, ty_int_list, ty_int_dict, ty_str_none, ty_str_bool, ty_str_int, ty_str_str, ty_str_tuple, ty_str_list, ty_str_dict, ty_dict_none, ty_dict_bool, ty_dict_int, ty_dict_str, ty_dict_tuple, ty_dict_list, ty_dict_dict, not_true_eq_false, not_false_eq_true, Bool.and_true, Bool.true_and, Bool.and_false, Bool.false_and, Bool.or_true, Bool.true_or, Bool.or_false, Bool.false_or, Bool.true_eq_false, Int.toNat_natCast, isOwn_d, isOwn_bowl, isOwn_ro, isOwn_fn, onIs_map, onBs_map,
  List.map_cons, List.map_nil, List.length_cons, List.length_nil, List.replicate_succ, List.replicate_zero, List.cons_append, List.nil_append, List.append_nil, List.getElem?_cons_zero, List.getElem?_cons_succ, List.set_cons_zero, List.set_cons_succ, List.filterMap_cons, List.filterMap_nil, Option.map, List.mem_cons, List.not_mem_nil, or_false, false_or, forall_eq_or_imp, forall_eq, implies_true, false_imp_iff, List.length_map, and_true, true_and, and_self, if_true, if_false, Bool.false_eq_true, reduceCtorEq, Nat.reduceAdd, Nat.reduceSub, Int.reduceLT, Int.reduceLE, Int.reduceNeg, decide_true, decide_false, decide_eq_true_eq, Bool.not_true, Bool.not_false, Bool.not_eq_true', decide_eq_false_iff_not, ite_true, ite_false]
  refine w_is_whole ?_
  simp only [e_dCmb, e_dSortK, e_keyS, e_dSeq, e_dIfS, e_dRet, e_dRetN, e_dRetB, e_dAsg, e_dPar, e_dAsgG, e_dDrop, e_dNext, e_dBrk, e_dCont, e_dNever, e_dFor, e_dFreeze, e_dRetO, e_dNewL, e_dApp, e_dWhile, e_dVar, e_dC, e_dOp1, e_dOp2, e_dCB, e_dNil, e_dCons, e_dB, e_dAnd, e_dOr, e_dNot, e_dAndV, e_dOrV, e_dNotV, e_dIf, e_dTup, e_dLst, e_dIsI, e_dCall, e_dCallK, e_dChain, e_dSl, e_dPart, e_dNoPart, e_dYes, e_dFnCall, e_dCallF, e_dIter, e_dRng1, e_dRng2, e_dEnum, e_dComp, e_gN, e_gBw, e_gOw, e_gT, e_gTn, e_gTc, e_dDef, e_lamM, e_gL, onIB_i, onIB_b, bwS_b, lenBS_b, e_dCompB, plain_bowls, isOwn_bowls, inOp_li, inOp_ti, e_dLenSet, e_dCallD, e_dPl, e_dNewO, e_dCopyO, e_dNewD, e_dDisp, e_prs_nil, e_prs_cons, e_dSets, e_dSetsN, e_sets_cons, e_sets_nil, e_dAppPop, e_dGet2, e_dKeys, e_dVals, e_dItems, e_dPut, e_dFreezeD, e_dSumV, onDc_d, onDc_o, onDz_d, keyR_i, keyR_s, flatK_nil, merge1, e_dStar, e_dComp2, e_dPar3, e_dZip, repS_t, repS_l, ixS_t0, ixS_t1, onBs_tt, rg1S_t, rg1S_l, rg2S_t, rg2S_l, revS_t, revS_l, onDs_map, onDs_map0, startR, lamR, slotR, wipeR, hideR, fits, perm,
  plain_d, plain_bowl, plain_ro, onD_d, onI_i, onB_b, onSq_l, onSq_t, onSq_o, onSq_r, onLs_l, onLs_o, onLs_r, onSeq_l, onSeq_t, onSeq_r, onDs_nil, onDs_d, addS_i, addS_t, addS_l, intP_i, int2_i, negS_i, bix_i, one_s, two_s, isN_d, notN_d, eqS_ii, neS_ii, eqS_in, eqS_bb, ty_tuple_none, ty_tuple_bool, ty_tuple_int, ty_tuple_str, ty_tuple_tuple, ty_tuple_list, ty_tuple_dict, ty_list_none, ty_list_bool, ty_list_int, ty_list_str, ty_list_tuple, ty_list_list, ty_list_dict, ty_bool_none, ty_bool_bool, ty_bool_int, ty_bool_str, ty_bool_tuple, ty_bool_list, ty_bool_dict, ty_int_none, ty_int_bool, ty_int_int, ty_int_str, ty_int_tuple, ty_int_list, ty_int_dict, ty_str_none, ty_str_bool, ty_str_int, ty_str_str, ty_str_tuple, ty_str_list, ty_str_dict, ty_dict_none, ty_dict_bool, ty_dict_int, ty_dict_str, ty_dict_tuple, ty_dict_list, ty_dict_dict, not_true_eq_false, not_false_eq_true, Bool.and_true, Bool.true_and, Bool.and_false, Bool.false_and, Bool.or_true, Bool.true_or, Bool.or_false, Bool.false_or, Bool.true_eq_false, Int.toNat_natCast, isOwn_d, isOwn_bowl, isOwn_ro, isOwn_fn, onIs_map, onBs_map,
  List.map_cons, List.map_nil, List.length_cons, List.length_nil, List.replicate_succ, List.replicate_zero, List.cons_append, List.nil_append, List.append_nil, List.getElem?_cons_zero, List.getElem?_cons_succ, List.set_cons_zero, List.set_cons_succ, List.filterMap_cons, List.filterMap_nil, Option.map, List.mem_cons, List.not_mem_nil, or_false, false_or, forall_eq_or_imp, forall_eq, implies_true, false_imp_iff, List.length_map, and_true, true_and, and_self, if_true, if_false, Bool.false_eq_true, reduceCtorEq, Nat.reduceAdd, Nat.reduceSub, Int.reduceLT, Int.reduceLE, Int.reduceNeg, decide_true, decide_false, decide_eq_true_eq, Bool.not_true, Bool.not_false, Bool.not_eq_true', decide_eq_false_iff_not, ite_true, ite_false]
  by_cases h1 : a ≤ i
  · simp only [h1, true_and, if_true] at h ⊢
    exact h
  · simp only [h1, false_and, if_false, decide_false] at h ⊢
    exact h
theorem cutD_at {α : Type} (l : List α) (k : Nat) : DL.cutD l none (some (k : Int)) = l.take k := cutD_head l k
def rankI (ns : List Int) (v : Int) : Int := 2 * (ns.filter fun x => decide (x < v)).length + (ns.filter fun x => decide (x = v)).length + 1
theorem ints_map (ns : List Int) : List.map S.d (List.map PyData.int ns) = ns.map fun i => S.d (.int i) := by rw [List.map_map] <;> rfl
theorem filter_true {ns : List Int} : ns.filter (fun _ => true) = ns := List.filter_eq_self.mpr fun _ _ => rfl
/-- a group: rising, within the bounds -/
structure Grp (ns : List Int) (most : Int) : Prop where
  one : 1 ≤ ns.length
  most : (ns.length : Int) ≤ most
  inn : ∀ x ∈ ns, -999 ≤ x ∧ x ≤ 999
  up : ns.Pairwise (· ≤ ·)
theorem eqS_te {ms : List Int} {Q : S → Prop} {E : Exn → Prop} (h : Q (.d (.bool ms.isEmpty))) : eqS false (.d (.tuple (ms.map .int))) (.d (.tuple [])) Q E := by
  refine ⟨shp_ints.sh, (shp_ints (ns := [])).sh, ?_⟩
  cases ms with
  | nil => exact h
  | cons m ms => exact h
theorem up_at {ns : List Int} (hup : ns.Pairwise (· ≤ ·)) {j : Nat} (h : j + 1 < ns.length) : ns[j] ≤ ns[j + 1] := List.pairwise_iff_getElem.mp hup j (j + 1) (by omega) h (by omega)
theorem sortI_up (ns : List Int) : (sortI ns).Pairwise (· ≤ ·) := by
  have h := List.pairwise_mergeSort (le := fun a b : Int => decide (a ≤ b)) (fun a b c h1 h2 => by simp at *; omega) (fun a b => by simp; omega) ns
  exact h.imp fun h => by simpa using h
theorem sortI_mem {ns : List Int} {x : Int} : x ∈ sortI ns ↔ x ∈ ns := List.mem_mergeSort
theorem sortI_len {ns : List Int} : (sortI ns).length = ns.length := List.length_mergeSort ns
theorem w__law_ranks {ns ms : List Int} {Q : S → Prop} {E : Exn → Prop} (hn : ns.length ≤ 1000000) (hz : ms.length ≤ 1000000) (h : Q (.d (.list (ns.map fun v => .int (rankI ms v))))) : m__law_ranks [.d (.tuple (ns.map .int)), .d (.tuple (ms.map .int))] Q E := by
  simp only [m__law_ranks, b__law_ranks, e_dCmb, e_dSortK, e_keyS, e_dSeq, e_dIfS, e_dRet, e_dRetN, e_dRetB, e_dAsg, e_dPar, e_dAsgG, e_dDrop, e_dNext, e_dBrk, e_dCont, e_dNever, e_dFor, e_dFreeze, e_dRetO, e_dNewL, e_dApp, e_dWhile, e_dVar, e_dC, e_dOp1, e_dOp2, e_dCB, e_dNil, e_dCons, e_dB, e_dAnd, e_dOr, e_dNot, e_dAndV, e_dOrV, e_dNotV, e_dIf, e_dTup, e_dLst, e_dIsI, e_dCall, e_dCallK, e_dChain, e_dSl, e_dPart, e_dNoPart, e_dYes, e_dFnCall, e_dCallF, e_dIter, e_dRng1, e_dRng2, e_dEnum, e_dComp, e_gN, e_gBw, e_gOw, e_gT, e_gTn, e_gTc, e_dDef, e_lamM, e_gL, onIB_i, onIB_b, bwS_b, lenBS_b, e_dCompB, plain_bowls, isOwn_bowls, inOp_li, inOp_ti, e_dLenSet, e_dCallD, e_dPl, e_dNewO, e_dCopyO, e_dNewD, e_dDisp, e_prs_nil, e_prs_cons, e_dSets, e_dSetsN, e_sets_cons, e_sets_nil, e_dAppPop, e_dGet2, e_dKeys, e_dVals, e_dItems, e_dPut, e_dFreezeD, e_dSumV, onDc_d, onDc_o, onDz_d, keyR_i, keyR_s, flatK_nil, merge1, e_dStar, e_dComp2, e_dPar3, e_dZip, repS_t, repS_l, ixS_t0, ixS_t1, onBs_tt, rg1S_t, rg1S_l, rg2S_t, rg2S_l, revS_t, revS_l, onDs_map, onDs_map0, startR, lamR, slotR, wipeR, hideR, fits, perm,
  plain_d, plain_bowl, plain_ro, onD_d, onI_i, onB_b, onSq_l, onSq_t, onSq_o, onSq_r, onLs_l, onLs_o, onLs_r, onSeq_l, onSeq_t, onSeq_r, onDs_nil, onDs_d, addS_i, addS_t, addS_l, intP_i, int2_i, negS_i, bix_i, one_s, two_s, isN_d, notN_d, eqS_ii, neS_ii, eqS_in, eqS_bb, ty_tuple_none, ty_tuple_bool, ty_tuple_int, ty_tuple_str, ty_tuple_tuple, ty_tuple_list, ty_tuple_dict, ty_list_none, ty_list_bool, ty_list_int, ty_list_str, ty_list_tuple, ty_list_list, ty_list_dict, ty_bool_none, ty_bool_bool, ty_bool_int, ty_bool_str, ty_bool_tuple, ty_bool_list, ty_bool_dict, ty_int_none, ty_int_bool, ty_int_int, ty_int_str, ty_int_tuple, ty_int_list, ty_int_dict, ty_str_none, ty_str_bool, ty_str_int, ty_str_str, ty_str_tuple, ty_str_list, ty_str_dict, ty_dict_none, ty_dict_bool, ty_dict_int, ty_dict_str, ty_dict_tuple, ty_dict_list, ty_dict_dict, not_true_eq_false, not_false_eq_true, Bool.and_true, Bool.true_and, Bool.and_false, Bool.false_and, Bool.or_true, Bool.true_or, Bool.or_false, Bool.false_or, Bool.true_eq_false, Int.toNat_natCast, isOwn_d, isOwn_bowl, isOwn_ro, isOwn_fn, onIs_map, onBs_map,
  List.map_cons, List.map_nil, List.length_cons, List.length_nil, List.replicate_succ, List.replicate_zero, List.cons_append, List.nil_append, List.append_nil, List.getElem?_cons_zero, List.getElem?_cons_succ, List.set_cons_zero, List.set_cons_succ, List.filterMap_cons, List.filterMap_nil, Option.map, List.mem_cons, List.not_mem_nil, or_false, false_or, forall_eq_or_imp, forall_eq, implies_true, false_imp_iff, List.length_map, and_true, true_and, and_self, if_true, if_false, Bool.false_eq_true, reduceCtorEq, Nat.reduceAdd, Nat.reduceSub, Int.reduceLT, Int.reduceLE, Int.reduceNeg, decide_true, decide_false, decide_eq_true_eq, Bool.not_true, Bool.not_false, Bool.not_eq_true', decide_eq_false_iff_not, ite_true, ite_false]
  refine compL_ints (ints_map ns) (fun _ => true) (fun v => PyData.int (rankI ms v)) (sizeLine_ge hn) (fun i F Z hi h1 h2 => ?_) ?_
  · have h1 := h1 rfl
    unfold rankI at h1
    simp only [e_dCmb, e_dSortK, e_keyS, e_dSeq, e_dIfS, e_dRet, e_dRetN, e_dRetB, e_dAsg, e_dPar, e_dAsgG, e_dDrop, e_dNext, e_dBrk, e_dCont, e_dNever, e_dFor, e_dFreeze, e_dRetO, e_dNewL, e_dApp, e_dWhile, e_dVar, e_dC, e_dOp1, e_dOp2, e_dCB, e_dNil, e_dCons, e_dB, e_dAnd, e_dOr, e_dNot, e_dAndV, e_dOrV, e_dNotV, e_dIf, e_dTup, e_dLst, e_dIsI, e_dCall, e_dCallK, e_dChain, e_dSl, e_dPart, e_dNoPart, e_dYes, e_dFnCall, e_dCallF, e_dIter, e_dRng1, e_dRng2, e_dEnum, e_dComp, e_gN, e_gBw, e_gOw, e_gT, e_gTn, e_gTc, e_dDef, e_lamM, e_gL, onIB_i, onIB_b, bwS_b, lenBS_b, e_dCompB, plain_bowls, isOwn_bowls, inOp_li, inOp_ti, e_dLenSet, e_dCallD, e_dPl, e_dNewO, e_dCopyO, e_dNewD, e_dDisp, e_prs_nil, e_prs_cons, e_dSets, e_dSetsN, e_sets_cons, e_sets_nil, e_dAppPop, e_dGet2, e_dKeys, e_dVals, e_dItems, e_dPut, e_dFreezeD, e_dSumV, onDc_d, onDc_o, onDz_d, keyR_i, keyR_s, flatK_nil, merge1, e_dStar, e_dComp2, e_dPar3, e_dZip, repS_t, repS_l, ixS_t0, ixS_t1, onBs_tt, rg1S_t, rg1S_l, rg2S_t, rg2S_l, revS_t, revS_l, onDs_map, onDs_map0, startR, lamR, slotR, wipeR, hideR, fits, perm,
  plain_d, plain_bowl, plain_ro, onD_d, onI_i, onB_b, onSq_l, onSq_t, onSq_o, onSq_r, onLs_l, onLs_o, onLs_r, onSeq_l, onSeq_t, onSeq_r, onDs_nil, onDs_d, addS_i, addS_t, addS_l, intP_i, int2_i, negS_i, bix_i, one_s, two_s, isN_d, notN_d, eqS_ii, neS_ii, eqS_in, eqS_bb, ty_tuple_none, ty_tuple_bool, ty_tuple_int, ty_tuple_str, ty_tuple_tuple, ty_tuple_list, ty_tuple_dict, ty_list_none, ty_list_bool, ty_list_int, ty_list_str, ty_list_tuple, ty_list_list, ty_list_dict, ty_bool_none, ty_bool_bool, ty_bool_int, ty_bool_str, ty_bool_tuple, ty_bool_list, ty_bool_dict, ty_int_none, ty_int_bool, ty_int_int, ty_int_str, ty_int_tuple, ty_int_list, ty_int_dict, ty_str_none, ty_str_bool, ty_str_int, ty_str_str, ty_str_tuple, ty_str_list, ty_str_dict, ty_dict_none, ty_dict_bool, ty_dict_int, ty_dict_str, ty_dict_tuple, ty_dict_list, ty_dict_dict, not_true_eq_false, not_false_eq_true, Bool.and_true, Bool.true_and, Bool.and_false, Bool.false_and, Bool.or_true, Bool.true_or, Bool.or_false, Bool.false_or, Bool.true_eq_false, Int.toNat_natCast, isOwn_d, isOwn_bowl, isOwn_ro, isOwn_fn, onIs_map, onBs_map,
  List.map_cons, List.map_nil, List.length_cons, List.length_nil, List.replicate_succ, List.replicate_zero, List.cons_append, List.nil_append, List.append_nil, List.getElem?_cons_zero, List.getElem?_cons_succ, List.set_cons_zero, List.set_cons_succ, List.filterMap_cons, List.filterMap_nil, Option.map, List.mem_cons, List.not_mem_nil, or_false, false_or, forall_eq_or_imp, forall_eq, implies_true, false_imp_iff, List.length_map, and_true, true_and, and_self, if_true, if_false, Bool.false_eq_true, reduceCtorEq, Nat.reduceAdd, Nat.reduceSub, Int.reduceLT, Int.reduceLE, Int.reduceNeg, decide_true, decide_false, decide_eq_true_eq, Bool.not_true, Bool.not_false, Bool.not_eq_true', decide_eq_false_iff_not, ite_true, ite_false]
    refine compL_ints (ints_map ms) (fun x => decide (x < i)) PyData.int (sizeLine_ge hz) (fun j F Z hj h1 h2 => ?_) ?_
    · simp only [e_dCmb, e_dSortK, e_keyS, e_dSeq, e_dIfS, e_dRet, e_dRetN, e_dRetB, e_dAsg, e_dPar, e_dAsgG, e_dDrop, e_dNext, e_dBrk, e_dCont, e_dNever, e_dFor, e_dFreeze, e_dRetO, e_dNewL, e_dApp, e_dWhile, e_dVar, e_dC, e_dOp1, e_dOp2, e_dCB, e_dNil, e_dCons, e_dB, e_dAnd, e_dOr, e_dNot, e_dAndV, e_dOrV, e_dNotV, e_dIf, e_dTup, e_dLst, e_dIsI, e_dCall, e_dCallK, e_dChain, e_dSl, e_dPart, e_dNoPart, e_dYes, e_dFnCall, e_dCallF, e_dIter, e_dRng1, e_dRng2, e_dEnum, e_dComp, e_gN, e_gBw, e_gOw, e_gT, e_gTn, e_gTc, e_dDef, e_lamM, e_gL, onIB_i, onIB_b, bwS_b, lenBS_b, e_dCompB, plain_bowls, isOwn_bowls, inOp_li, inOp_ti, e_dLenSet, e_dCallD, e_dPl, e_dNewO, e_dCopyO, e_dNewD, e_dDisp, e_prs_nil, e_prs_cons, e_dSets, e_dSetsN, e_sets_cons, e_sets_nil, e_dAppPop, e_dGet2, e_dKeys, e_dVals, e_dItems, e_dPut, e_dFreezeD, e_dSumV, onDc_d, onDc_o, onDz_d, keyR_i, keyR_s, flatK_nil, merge1, e_dStar, e_dComp2, e_dPar3, e_dZip, repS_t, repS_l, ixS_t0, ixS_t1, onBs_tt, rg1S_t, rg1S_l, rg2S_t, rg2S_l, revS_t, revS_l, onDs_map, onDs_map0, startR, lamR, slotR, wipeR, hideR, fits, perm,
  plain_d, plain_bowl, plain_ro, onD_d, onI_i, onB_b, onSq_l, onSq_t, onSq_o, onSq_r, onLs_l, onLs_o, onLs_r, onSeq_l, onSeq_t, onSeq_r, onDs_nil, onDs_d, addS_i, addS_t, addS_l, intP_i, int2_i, negS_i, bix_i, one_s, two_s, isN_d, notN_d, eqS_ii, neS_ii, eqS_in, eqS_bb, ty_tuple_none, ty_tuple_bool, ty_tuple_int, ty_tuple_str, ty_tuple_tuple, ty_tuple_list, ty_tuple_dict, ty_list_none, ty_list_bool, ty_list_int, ty_list_str, ty_list_tuple, ty_list_list, ty_list_dict, ty_bool_none, ty_bool_bool, ty_bool_int, ty_bool_str, ty_bool_tuple, ty_bool_list, ty_bool_dict, ty_int_none, ty_int_bool, ty_int_int, ty_int_str, ty_int_tuple, ty_int_list, ty_int_dict, ty_str_none, ty_str_bool, ty_str_int, ty_str_str, ty_str_tuple, ty_str_list, ty_str_dict, ty_dict_none, ty_dict_bool, ty_dict_int, ty_dict_str, ty_dict_tuple, ty_dict_list, ty_dict_dict, not_true_eq_false, not_false_eq_true, Bool.and_true, Bool.true_and, Bool.and_false, Bool.false_and, Bool.or_true, Bool.true_or, Bool.or_false, Bool.false_or, Bool.true_eq_false, Int.toNat_natCast, isOwn_d, isOwn_bowl, isOwn_ro, isOwn_fn, onIs_map, onBs_map,
  List.map_cons, List.map_nil, List.length_cons, List.length_nil, List.replicate_succ, List.replicate_zero, List.cons_append, List.nil_append, List.append_nil, List.getElem?_cons_zero, List.getElem?_cons_succ, List.set_cons_zero, List.set_cons_succ, List.filterMap_cons, List.filterMap_nil, Option.map, List.mem_cons, List.not_mem_nil, or_false, false_or, forall_eq_or_imp, forall_eq, implies_true, false_imp_iff, List.length_map, and_true, true_and, and_self, if_true, if_false, Bool.false_eq_true, reduceCtorEq, Nat.reduceAdd, Nat.reduceSub, Int.reduceLT, Int.reduceLE, Int.reduceNeg, decide_true, decide_false, decide_eq_true_eq, Bool.not_true, Bool.not_false, Bool.not_eq_true', decide_eq_false_iff_not, ite_true, ite_false] at h1 h2 ⊢
      by_cases hc : j < i
      · rw [if_pos hc]; exact h1 hc
      · rw [if_neg hc]; exact h2 hc
    · simp only [e_dCmb, e_dSortK, e_keyS, e_dSeq, e_dIfS, e_dRet, e_dRetN, e_dRetB, e_dAsg, e_dPar, e_dAsgG, e_dDrop, e_dNext, e_dBrk, e_dCont, e_dNever, e_dFor, e_dFreeze, e_dRetO, e_dNewL, e_dApp, e_dWhile, e_dVar, e_dC, e_dOp1, e_dOp2, e_dCB, e_dNil, e_dCons, e_dB, e_dAnd, e_dOr, e_dNot, e_dAndV, e_dOrV, e_dNotV, e_dIf, e_dTup, e_dLst, e_dIsI, e_dCall, e_dCallK, e_dChain, e_dSl, e_dPart, e_dNoPart, e_dYes, e_dFnCall, e_dCallF, e_dIter, e_dRng1, e_dRng2, e_dEnum, e_dComp, e_gN, e_gBw, e_gOw, e_gT, e_gTn, e_gTc, e_dDef, e_lamM, e_gL, onIB_i, onIB_b, bwS_b, lenBS_b, e_dCompB, plain_bowls, isOwn_bowls, inOp_li, inOp_ti, e_dLenSet, e_dCallD, e_dPl, e_dNewO, e_dCopyO, e_dNewD, e_dDisp, e_prs_nil, e_prs_cons, e_dSets, e_dSetsN, e_sets_cons, e_sets_nil, e_dAppPop, e_dGet2, e_dKeys, e_dVals, e_dItems, e_dPut, e_dFreezeD, e_dSumV, onDc_d, onDc_o, onDz_d, keyR_i, keyR_s, flatK_nil, merge1, e_dStar, e_dComp2, e_dPar3, e_dZip, repS_t, repS_l, ixS_t0, ixS_t1, onBs_tt, rg1S_t, rg1S_l, rg2S_t, rg2S_l, revS_t, revS_l, onDs_map, onDs_map0, startR, lamR, slotR, wipeR, hideR, fits, perm,
  plain_d, plain_bowl, plain_ro, onD_d, onI_i, onB_b, onSq_l, onSq_t, onSq_o, onSq_r, onLs_l, onLs_o, onLs_r, onSeq_l, onSeq_t, onSeq_r, onDs_nil, onDs_d, addS_i, addS_t, addS_l, intP_i, int2_i, negS_i, bix_i, one_s, two_s, isN_d, notN_d, eqS_ii, neS_ii, eqS_in, eqS_bb, ty_tuple_none, ty_tuple_bool, ty_tuple_int, ty_tuple_str, ty_tuple_tuple, ty_tuple_list, ty_tuple_dict, ty_list_none, ty_list_bool, ty_list_int, ty_list_str, ty_list_tuple, ty_list_list, ty_list_dict, ty_bool_none, ty_bool_bool, ty_bool_int, ty_bool_str, ty_bool_tuple, ty_bool_list, ty_bool_dict, ty_int_none, ty_int_bool, ty_int_int, ty_int_str, ty_int_tuple, ty_int_list, ty_int_dict, ty_str_none, ty_str_bool, ty_str_int, ty_str_str, ty_str_tuple, ty_str_list, ty_str_dict, ty_dict_none, ty_dict_bool, ty_dict_int, ty_dict_str, ty_dict_tuple, ty_dict_list, ty_dict_dict, not_true_eq_false, not_false_eq_true, Bool.and_true, Bool.true_and, Bool.and_false, Bool.false_and, Bool.or_true, Bool.true_or, Bool.or_false, Bool.false_or, Bool.true_eq_false, Int.toNat_natCast, isOwn_d, isOwn_bowl, isOwn_ro, isOwn_fn, onIs_map, onBs_map,
  List.map_cons, List.map_nil, List.length_cons, List.length_nil, List.replicate_succ, List.replicate_zero, List.cons_append, List.nil_append, List.append_nil, List.getElem?_cons_zero, List.getElem?_cons_succ, List.set_cons_zero, List.set_cons_succ, List.filterMap_cons, List.filterMap_nil, Option.map, List.mem_cons, List.not_mem_nil, or_false, false_or, forall_eq_or_imp, forall_eq, implies_true, false_imp_iff, List.length_map, and_true, true_and, and_self, if_true, if_false, Bool.false_eq_true, reduceCtorEq, Nat.reduceAdd, Nat.reduceSub, Int.reduceLT, Int.reduceLE, Int.reduceNeg, decide_true, decide_false, decide_eq_true_eq, Bool.not_true, Bool.not_false, Bool.not_eq_true', decide_eq_false_iff_not, ite_true, ite_false]
      refine ⟨mulOk_l (by decide) (by decide), ?_⟩
      refine compL_ints (ints_map ms) (fun x => decide (x = i)) PyData.int (sizeLine_ge hz) (fun j F Z hj h1 h2 => ?_) ?_
      · simp only [e_dCmb, e_dSortK, e_keyS, e_dSeq, e_dIfS, e_dRet, e_dRetN, e_dRetB, e_dAsg, e_dPar, e_dAsgG, e_dDrop, e_dNext, e_dBrk, e_dCont, e_dNever, e_dFor, e_dFreeze, e_dRetO, e_dNewL, e_dApp, e_dWhile, e_dVar, e_dC, e_dOp1, e_dOp2, e_dCB, e_dNil, e_dCons, e_dB, e_dAnd, e_dOr, e_dNot, e_dAndV, e_dOrV, e_dNotV, e_dIf, e_dTup, e_dLst, e_dIsI, e_dCall, e_dCallK, e_dChain, e_dSl, e_dPart, e_dNoPart, e_dYes, e_dFnCall, e_dCallF, e_dIter, e_dRng1, e_dRng2, e_dEnum, e_dComp, e_gN, e_gBw, e_gOw, e_gT, e_gTn, e_gTc, e_dDef, e_lamM, e_gL, onIB_i, onIB_b, bwS_b, lenBS_b, e_dCompB, plain_bowls, isOwn_bowls, inOp_li, inOp_ti, e_dLenSet, e_dCallD, e_dPl, e_dNewO, e_dCopyO, e_dNewD, e_dDisp, e_prs_nil, e_prs_cons, e_dSets, e_dSetsN, e_sets_cons, e_sets_nil, e_dAppPop, e_dGet2, e_dKeys, e_dVals, e_dItems, e_dPut, e_dFreezeD, e_dSumV, onDc_d, onDc_o, onDz_d, keyR_i, keyR_s, flatK_nil, merge1, e_dStar, e_dComp2, e_dPar3, e_dZip, repS_t, repS_l, ixS_t0, ixS_t1, onBs_tt, rg1S_t, rg1S_l, rg2S_t, rg2S_l, revS_t, revS_l, onDs_map, onDs_map0, startR, lamR, slotR, wipeR, hideR, fits, perm,
  plain_d, plain_bowl, plain_ro, onD_d, onI_i, onB_b, onSq_l, onSq_t, onSq_o, onSq_r, onLs_l, onLs_o, onLs_r, onSeq_l, onSeq_t, onSeq_r, onDs_nil, onDs_d, addS_i, addS_t, addS_l, intP_i, int2_i, negS_i, bix_i, one_s, two_s, isN_d, notN_d, eqS_ii, neS_ii, eqS_in, eqS_bb, ty_tuple_none, ty_tuple_bool, ty_tuple_int, ty_tuple_str, ty_tuple_tuple, ty_tuple_list, ty_tuple_dict, ty_list_none, ty_list_bool, ty_list_int, ty_list_str, ty_list_tuple, ty_list_list, ty_list_dict, ty_bool_none, ty_bool_bool, ty_bool_int, ty_bool_str, ty_bool_tuple, ty_bool_list, ty_bool_dict, ty_int_none, ty_int_bool, ty_int_int, ty_int_str, ty_int_tuple, ty_int_list, ty_int_dict, ty_str_none, ty_str_bool, ty_str_int, ty_str_str, ty_str_tuple, ty_str_list, ty_str_dict, ty_dict_none, ty_dict_bool, ty_dict_int, ty_dict_str, ty_dict_tuple, ty_dict_list, ty_dict_dict, not_true_eq_false, not_false_eq_true, Bool.and_true, Bool.true_and, Bool.and_false, Bool.false_and, Bool.or_true, Bool.true_or, Bool.or_false, Bool.false_or, Bool.true_eq_false, Int.toNat_natCast, isOwn_d, isOwn_bowl, isOwn_ro, isOwn_fn, onIs_map, onBs_map,
  List.map_cons, List.map_nil, List.length_cons, List.length_nil, List.replicate_succ, List.replicate_zero, List.cons_append, List.nil_append, List.append_nil, List.getElem?_cons_zero, List.getElem?_cons_succ, List.set_cons_zero, List.set_cons_succ, List.filterMap_cons, List.filterMap_nil, Option.map, List.mem_cons, List.not_mem_nil, or_false, false_or, forall_eq_or_imp, forall_eq, implies_true, false_imp_iff, List.length_map, and_true, true_and, and_self, if_true, if_false, Bool.false_eq_true, reduceCtorEq, Nat.reduceAdd, Nat.reduceSub, Int.reduceLT, Int.reduceLE, Int.reduceNeg, decide_true, decide_false, decide_eq_true_eq, Bool.not_true, Bool.not_false, Bool.not_eq_true', decide_eq_false_iff_not, ite_true, ite_false] at h1 h2 ⊢
        by_cases hc : j = i
        · rw [if_pos hc]; exact h1 hc
        · rw [if_neg hc]; exact h2 hc
      · simp only [e_dCmb, e_dSortK, e_keyS, e_dSeq, e_dIfS, e_dRet, e_dRetN, e_dRetB, e_dAsg, e_dPar, e_dAsgG, e_dDrop, e_dNext, e_dBrk, e_dCont, e_dNever, e_dFor, e_dFreeze, e_dRetO, e_dNewL, e_dApp, e_dWhile, e_dVar, e_dC, e_dOp1, e_dOp2, e_dCB, e_dNil, e_dCons, e_dB, e_dAnd, e_dOr, e_dNot, e_dAndV, e_dOrV, e_dNotV, e_dIf, e_dTup, e_dLst, e_dIsI, e_dCall, e_dCallK, e_dChain, e_dSl, e_dPart, e_dNoPart, e_dYes, e_dFnCall, e_dCallF, e_dIter, e_dRng1, e_dRng2, e_dEnum, e_dComp, e_gN, e_gBw, e_gOw, e_gT, e_gTn, e_gTc, e_dDef, e_lamM, e_gL, onIB_i, onIB_b, bwS_b, lenBS_b, e_dCompB, plain_bowls, isOwn_bowls, inOp_li, inOp_ti, e_dLenSet, e_dCallD, e_dPl, e_dNewO, e_dCopyO, e_dNewD, e_dDisp, e_prs_nil, e_prs_cons, e_dSets, e_dSetsN, e_sets_cons, e_sets_nil, e_dAppPop, e_dGet2, e_dKeys, e_dVals, e_dItems, e_dPut, e_dFreezeD, e_dSumV, onDc_d, onDc_o, onDz_d, keyR_i, keyR_s, flatK_nil, merge1, e_dStar, e_dComp2, e_dPar3, e_dZip, repS_t, repS_l, ixS_t0, ixS_t1, onBs_tt, rg1S_t, rg1S_l, rg2S_t, rg2S_l, revS_t, revS_l, onDs_map, onDs_map0, startR, lamR, slotR, wipeR, hideR, fits, perm,
  plain_d, plain_bowl, plain_ro, onD_d, onI_i, onB_b, onSq_l, onSq_t, onSq_o, onSq_r, onLs_l, onLs_o, onLs_r, onSeq_l, onSeq_t, onSeq_r, onDs_nil, onDs_d, addS_i, addS_t, addS_l, intP_i, int2_i, negS_i, bix_i, one_s, two_s, isN_d, notN_d, eqS_ii, neS_ii, eqS_in, eqS_bb, ty_tuple_none, ty_tuple_bool, ty_tuple_int, ty_tuple_str, ty_tuple_tuple, ty_tuple_list, ty_tuple_dict, ty_list_none, ty_list_bool, ty_list_int, ty_list_str, ty_list_tuple, ty_list_list, ty_list_dict, ty_bool_none, ty_bool_bool, ty_bool_int, ty_bool_str, ty_bool_tuple, ty_bool_list, ty_bool_dict, ty_int_none, ty_int_bool, ty_int_int, ty_int_str, ty_int_tuple, ty_int_list, ty_int_dict, ty_str_none, ty_str_bool, ty_str_int, ty_str_str, ty_str_tuple, ty_str_list, ty_str_dict, ty_dict_none, ty_dict_bool, ty_dict_int, ty_dict_str, ty_dict_tuple, ty_dict_list, ty_dict_dict, not_true_eq_false, not_false_eq_true, Bool.and_true, Bool.true_and, Bool.and_false, Bool.false_and, Bool.or_true, Bool.true_or, Bool.or_false, Bool.false_or, Bool.true_eq_false, Int.toNat_natCast, isOwn_d, isOwn_bowl, isOwn_ro, isOwn_fn, onIs_map, onBs_map,
  List.map_cons, List.map_nil, List.length_cons, List.length_nil, List.replicate_succ, List.replicate_zero, List.cons_append, List.nil_append, List.append_nil, List.getElem?_cons_zero, List.getElem?_cons_succ, List.set_cons_zero, List.set_cons_succ, List.filterMap_cons, List.filterMap_nil, Option.map, List.mem_cons, List.not_mem_nil, or_false, false_or, forall_eq_or_imp, forall_eq, implies_true, false_imp_iff, List.length_map, and_true, true_and, and_self, if_true, if_false, Bool.false_eq_true, reduceCtorEq, Nat.reduceAdd, Nat.reduceSub, Int.reduceLT, Int.reduceLE, Int.reduceNeg, decide_true, decide_false, decide_eq_true_eq, Bool.not_true, Bool.not_false, Bool.not_eq_true', decide_eq_false_iff_not, ite_true, ite_false]
        exact h1
  · rw [filter_true]
    exact h
theorem ite_fil {p : Prop} [Decidable p] {F Z : Prop} (h1 : decide p = true → F) (h2 : decide p = false → Z) : if p then F else Z := by
  by_cases hc : p
  · rw [if_pos hc]; exact h1 (decide_eq_true hc)
  · rw [if_neg hc]; exact h2 (decide_eq_false hc)
theorem Grp.mono {ns : List Int} {a b : Int} (g : Grp ns a) (h : a ≤ b) : Grp ns b := ⟨g.one, by have := g.most; omega, g.inn, g.up⟩
def leadI (ms : List Int) (v : Int) : Int := (ms.filter fun x => decide (x < v)).length - (ms.filter fun x => decide (v < x)).length
/-- what each weighs -/
def weightI (x : Str) (ms : List Int) (v : Int) : Int := if x = "sum" then v else if x = "ranks" then rankI ms v else leadI ms v
theorem take_fst {α β : Type} (f : α → β) (a b : List α) : ((a ++ b).map f).take a.length = a.map f := by rw [List.map_append, List.take_left' (by rw [List.length_map])]
def seenI (x : Str) (ns ms : List Int) : Int := (ns.map (weightI x (ns ++ ms))).sum
/-! ### ranks, leads: the sums -/
def sgI (x v : Int) : Int := if x < v then 1 else if v < x then -1 else 0
def dsum (l m : List Int) : Int := (l.map fun v => (m.map fun x => sgI x v).sum).sum
theorem sgI_neg (x v : Int) : sgI x v = - sgI v x := by
  unfold sgI
  split <;> split <;> (try split) <;> omega
theorem lead_sum (m : List Int) (v : Int) : leadI m v = (m.map fun x => sgI x v).sum := by
  unfold leadI
  induction m with
  | nil => rfl
  | cons x m ih =>
    rw [List.map_cons, List.sum_cons, ← ih, List.filter_cons, List.filter_cons]
    unfold sgI
    by_cases h1 : x < v
    · have h2 : ¬ v < x := by omega
      simp only [h1, h2, decide_true, decide_false, if_true, Bool.false_eq_true, if_false, List.length_cons]
      omega
    · by_cases h2 : v < x
      · simp only [h1, h2, decide_true, decide_false, if_true, Bool.false_eq_true, if_false, List.length_cons]
        omega
      · simp only [h1, h2, decide_false, Bool.false_eq_true, if_false]
        omega
theorem rank_lead (m : List Int) (v : Int) : rankI m v = leadI m v + m.length + 1 := by
  unfold rankI leadI
  induction m with
  | nil => rfl
  | cons x m ih =>
    rw [List.filter_cons, List.filter_cons, List.filter_cons]
    rcases Int.lt_trichotomy x v with h | h | h
    · have h2 : ¬ v < x := by omega
      have h3 : ¬ x = v := by omega
      simp only [h, h2, h3, decide_true, decide_false, if_true, Bool.false_eq_true, if_false, List.length_cons]
      omega
    · have h2 : ¬ v < x := by omega
      have h3 : ¬ x < v := by omega
      simp only [h2, h3, h, Int.lt_irrefl, decide_true, decide_false, if_true, Bool.false_eq_true, if_false, List.length_cons]
      omega
    · have h2 : ¬ x < v := by omega
      have h3 : ¬ x = v := by omega
      simp only [h, h2, h3, decide_true, decide_false, if_true, Bool.false_eq_true, if_false, List.length_cons]
      omega
theorem sum_neg (m : List Int) (f g : Int → Int) (h : ∀ x, f x = - g x) : (m.map f).sum = - (m.map g).sum := by
  induction m with
  | nil => rfl
  | cons x m ih => rw [List.map_cons, List.map_cons, List.sum_cons, List.sum_cons, ih, h]; omega
theorem sum_add (m : List Int) (f g : Int → Int) : (m.map fun x => f x + g x).sum = (m.map f).sum + (m.map g).sum := by
  induction m with
  | nil => rfl
  | cons x m ih => rw [List.map_cons, List.map_cons, List.map_cons, List.sum_cons, List.sum_cons, List.sum_cons, ih]; omega
theorem dsum_nil (l : List Int) : dsum l [] = 0 := by
  unfold dsum
  induction l with
  | nil => rfl
  | cons x m ih => rw [List.map_cons, List.sum_cons, ih] <;> rfl
theorem dsum_cons (l m : List Int) (x : Int) : dsum l (x :: m) = (l.map fun v => sgI x v).sum + dsum l m := by
  unfold dsum
  rw [← sum_add]
  congr 1
theorem dsum_app (l m n : List Int) : dsum l (m ++ n) = dsum l m + dsum l n := by
  induction m with
  | nil => rw [dsum_nil, List.nil_append]; omega
  | cons x m ih => rw [List.cons_append, dsum_cons, dsum_cons, ih]; omega
theorem dsum_anti (l m : List Int) : dsum l m = - dsum m l := by
  induction l with
  | nil => rw [dsum_nil]; rfl
  | cons v l ih =>
    rw [dsum_cons]
    show (m.map fun x => sgI x v).sum + dsum l m = _
    rw [ih, sum_neg m (fun x => sgI x v) (fun x => sgI v x) fun x => sgI_neg x v]
    omega
theorem dsum_self (l : List Int) : dsum l l = 0 := by have := dsum_anti l l; omega
theorem seen_above (ns ms : List Int) : seenI "above" ns ms = dsum ns ms := by
  have e : seenI "above" ns ms = dsum ns (ns ++ ms) := by
    unfold seenI dsum
    congr 1
    refine List.map_congr_left fun v _ => ?_
    rw [← lead_sum]
    rfl
  rw [e, dsum_app, dsum_self]
  omega
theorem seen_ranks (ns ms : List Int) : seenI "ranks" ns ms = dsum ns ms + ns.length * (ns.length + ms.length + 1) := by
  have e : seenI "ranks" ns ms = dsum ns (ns ++ ms) + ns.length * (ns.length + ms.length + 1) := by
    unfold seenI dsum
    generalize hl : ns ++ ms = l
    have hk : (l.length : Int) = ns.length + ms.length := by rw [← hl, List.length_append]; omega
    rw [show (ns.length : Int) + ms.length + 1 = l.length + 1 by omega]
    clear hk hl
    induction ns with
    | nil => simp
    | cons v ns ih =>
      rw [List.map_cons, List.map_cons, List.sum_cons, List.sum_cons, ih, ← lead_sum, List.length_cons]
      show rankI l v + _ = _
      rw [rank_lead, show ((ns.length + 1 : Nat) : Int) = ns.length + 1 by omega, Int.add_mul]
      omega
  rw [e, dsum_app, dsum_self]
  omega
theorem w__law_measure_sum {ns ms : List Int} {Q : S → Prop} {E : Exn → Prop} (h : Q (.d (.int ns.sum))) : m__law_measure [.d (.tuple (ns.map .int)), .d (.tuple (ms.map .int)), .d (.str "sum")] Q E := by
  simp only [m__law_measure, b__law_measure, e_dCmb, e_dSortK, e_keyS, e_dSeq, e_dIfS, e_dRet, e_dRetN, e_dRetB, e_dAsg, e_dPar, e_dAsgG, e_dDrop, e_dNext, e_dBrk, e_dCont, e_dNever, e_dFor, e_dFreeze, e_dRetO, e_dNewL, e_dApp, e_dWhile, e_dVar, e_dC, e_dOp1, e_dOp2, e_dCB, e_dNil, e_dCons, e_dB, e_dAnd, e_dOr, e_dNot, e_dAndV, e_dOrV, e_dNotV, e_dIf, e_dTup, e_dLst, e_dIsI, e_dCall, e_dCallK, e_dChain, e_dSl, e_dPart, e_dNoPart, e_dYes, e_dFnCall, e_dCallF, e_dIter, e_dRng1, e_dRng2, e_dEnum, e_dComp, e_gN, e_gBw, e_gOw, e_gT, e_gTn, e_gTc, e_dDef, e_lamM, e_gL, onIB_i, onIB_b, bwS_b, lenBS_b, e_dCompB, plain_bowls, isOwn_bowls, inOp_li, inOp_ti, e_dLenSet, e_dCallD, e_dPl, e_dNewO, e_dCopyO, e_dNewD, e_dDisp, e_prs_nil, e_prs_cons, e_dSets, e_dSetsN, e_sets_cons, e_sets_nil, e_dAppPop, e_dGet2, e_dKeys, e_dVals, e_dItems, e_dPut, e_dFreezeD, e_dSumV, onDc_d, onDc_o, onDz_d, keyR_i, keyR_s, flatK_nil, merge1, e_dStar, e_dComp2, e_dPar3, e_dZip, repS_t, repS_l, ixS_t0, ixS_t1, onBs_tt, rg1S_t, rg1S_l, rg2S_t, rg2S_l, revS_t, revS_l, onDs_map, onDs_map0, startR, lamR, slotR, wipeR, hideR, fits, perm,
  plain_d, plain_bowl, plain_ro, onD_d, onI_i, onB_b, onSq_l, onSq_t, onSq_o, onSq_r, onLs_l, onLs_o, onLs_r, onSeq_l, onSeq_t, onSeq_r, onDs_nil, onDs_d, addS_i, addS_t, addS_l, intP_i, int2_i, negS_i, bix_i, one_s, two_s, isN_d, notN_d, eqS_ii, neS_ii, eqS_in, eqS_bb, ty_tuple_none, ty_tuple_bool, ty_tuple_int, ty_tuple_str, ty_tuple_tuple, ty_tuple_list, ty_tuple_dict, ty_list_none, ty_list_bool, ty_list_int, ty_list_str, ty_list_tuple, ty_list_list, ty_list_dict, ty_bool_none, ty_bool_bool, ty_bool_int, ty_bool_str, ty_bool_tuple, ty_bool_list, ty_bool_dict, ty_int_none, ty_int_bool, ty_int_int, ty_int_str, ty_int_tuple, ty_int_list, ty_int_dict, ty_str_none, ty_str_bool, ty_str_int, ty_str_str, ty_str_tuple, ty_str_list, ty_str_dict, ty_dict_none, ty_dict_bool, ty_dict_int, ty_dict_str, ty_dict_tuple, ty_dict_list, ty_dict_dict, not_true_eq_false, not_false_eq_true, Bool.and_true, Bool.true_and, Bool.and_false, Bool.false_and, Bool.or_true, Bool.true_or, Bool.or_false, Bool.false_or, Bool.true_eq_false, Int.toNat_natCast, isOwn_d, isOwn_bowl, isOwn_ro, isOwn_fn, onIs_map, onBs_map,
  List.map_cons, List.map_nil, List.length_cons, List.length_nil, List.replicate_succ, List.replicate_zero, List.cons_append, List.nil_append, List.append_nil, List.getElem?_cons_zero, List.getElem?_cons_succ, List.set_cons_zero, List.set_cons_succ, List.filterMap_cons, List.filterMap_nil, Option.map, List.mem_cons, List.not_mem_nil, or_false, false_or, forall_eq_or_imp, forall_eq, implies_true, false_imp_iff, List.length_map, and_true, true_and, and_self, if_true, if_false, Bool.false_eq_true, reduceCtorEq, Nat.reduceAdd, Nat.reduceSub, Int.reduceLT, Int.reduceLE, Int.reduceNeg, decide_true, decide_false, decide_eq_true_eq, Bool.not_true, Bool.not_false, Bool.not_eq_true', decide_eq_false_iff_not, ite_true, ite_false]
  rw [eqS_str (by decide +kernel) (by decide +kernel)]
  simp only [e_dCmb, e_dSortK, e_keyS, e_dSeq, e_dIfS, e_dRet, e_dRetN, e_dRetB, e_dAsg, e_dPar, e_dAsgG, e_dDrop, e_dNext, e_dBrk, e_dCont, e_dNever, e_dFor, e_dFreeze, e_dRetO, e_dNewL, e_dApp, e_dWhile, e_dVar, e_dC, e_dOp1, e_dOp2, e_dCB, e_dNil, e_dCons, e_dB, e_dAnd, e_dOr, e_dNot, e_dAndV, e_dOrV, e_dNotV, e_dIf, e_dTup, e_dLst, e_dIsI, e_dCall, e_dCallK, e_dChain, e_dSl, e_dPart, e_dNoPart, e_dYes, e_dFnCall, e_dCallF, e_dIter, e_dRng1, e_dRng2, e_dEnum, e_dComp, e_gN, e_gBw, e_gOw, e_gT, e_gTn, e_gTc, e_dDef, e_lamM, e_gL, onIB_i, onIB_b, bwS_b, lenBS_b, e_dCompB, plain_bowls, isOwn_bowls, inOp_li, inOp_ti, e_dLenSet, e_dCallD, e_dPl, e_dNewO, e_dCopyO, e_dNewD, e_dDisp, e_prs_nil, e_prs_cons, e_dSets, e_dSetsN, e_sets_cons, e_sets_nil, e_dAppPop, e_dGet2, e_dKeys, e_dVals, e_dItems, e_dPut, e_dFreezeD, e_dSumV, onDc_d, onDc_o, onDz_d, keyR_i, keyR_s, flatK_nil, merge1, e_dStar, e_dComp2, e_dPar3, e_dZip, repS_t, repS_l, ixS_t0, ixS_t1, onBs_tt, rg1S_t, rg1S_l, rg2S_t, rg2S_l, revS_t, revS_l, onDs_map, onDs_map0, startR, lamR, slotR, wipeR, hideR, fits, perm,
  plain_d, plain_bowl, plain_ro, onD_d, onI_i, onB_b, onSq_l, onSq_t, onSq_o, onSq_r, onLs_l, onLs_o, onLs_r, onSeq_l, onSeq_t, onSeq_r, onDs_nil, onDs_d, addS_i, addS_t, addS_l, intP_i, int2_i, negS_i, bix_i, one_s, two_s, isN_d, notN_d, eqS_ii, neS_ii, eqS_in, eqS_bb, ty_tuple_none, ty_tuple_bool, ty_tuple_int, ty_tuple_str, ty_tuple_tuple, ty_tuple_list, ty_tuple_dict, ty_list_none, ty_list_bool, ty_list_int, ty_list_str, ty_list_tuple, ty_list_list, ty_list_dict, ty_bool_none, ty_bool_bool, ty_bool_int, ty_bool_str, ty_bool_tuple, ty_bool_list, ty_bool_dict, ty_int_none, ty_int_bool, ty_int_int, ty_int_str, ty_int_tuple, ty_int_list, ty_int_dict, ty_str_none, ty_str_bool, ty_str_int, ty_str_str, ty_str_tuple, ty_str_list, ty_str_dict, ty_dict_none, ty_dict_bool, ty_dict_int, ty_dict_str, ty_dict_tuple, ty_dict_list, ty_dict_dict, not_true_eq_false, not_false_eq_true, Bool.and_true, Bool.true_and, Bool.and_false, Bool.false_and, Bool.or_true, Bool.true_or, Bool.or_false, Bool.false_or, Bool.true_eq_false, Int.toNat_natCast, isOwn_d, isOwn_bowl, isOwn_ro, isOwn_fn, onIs_map, onBs_map,
  List.map_cons, List.map_nil, List.length_cons, List.length_nil, List.replicate_succ, List.replicate_zero, List.cons_append, List.nil_append, List.append_nil, List.getElem?_cons_zero, List.getElem?_cons_succ, List.set_cons_zero, List.set_cons_succ, List.filterMap_cons, List.filterMap_nil, Option.map, List.mem_cons, List.not_mem_nil, or_false, false_or, forall_eq_or_imp, forall_eq, implies_true, false_imp_iff, List.length_map, and_true, true_and, and_self, if_true, if_false, Bool.false_eq_true, reduceCtorEq, Nat.reduceAdd, Nat.reduceSub, Int.reduceLT, Int.reduceLE, Int.reduceNeg, decide_true, decide_false, decide_eq_true_eq, Bool.not_true, Bool.not_false, Bool.not_eq_true', decide_eq_false_iff_not, ite_true, ite_false]
  rw [show (("sum" : Str) == "sum") = true by rfl]
  simp only [e_dCmb, e_dSortK, e_keyS, e_dSeq, e_dIfS, e_dRet, e_dRetN, e_dRetB, e_dAsg, e_dPar, e_dAsgG, e_dDrop, e_dNext, e_dBrk, e_dCont, e_dNever, e_dFor, e_dFreeze, e_dRetO, e_dNewL, e_dApp, e_dWhile, e_dVar, e_dC, e_dOp1, e_dOp2, e_dCB, e_dNil, e_dCons, e_dB, e_dAnd, e_dOr, e_dNot, e_dAndV, e_dOrV, e_dNotV, e_dIf, e_dTup, e_dLst, e_dIsI, e_dCall, e_dCallK, e_dChain, e_dSl, e_dPart, e_dNoPart, e_dYes, e_dFnCall, e_dCallF, e_dIter, e_dRng1, e_dRng2, e_dEnum, e_dComp, e_gN, e_gBw, e_gOw, e_gT, e_gTn, e_gTc, e_dDef, e_lamM, e_gL, onIB_i, onIB_b, bwS_b, lenBS_b, e_dCompB, plain_bowls, isOwn_bowls, inOp_li, inOp_ti, e_dLenSet, e_dCallD, e_dPl, e_dNewO, e_dCopyO, e_dNewD, e_dDisp, e_prs_nil, e_prs_cons, e_dSets, e_dSetsN, e_sets_cons, e_sets_nil, e_dAppPop, e_dGet2, e_dKeys, e_dVals, e_dItems, e_dPut, e_dFreezeD, e_dSumV, onDc_d, onDc_o, onDz_d, keyR_i, keyR_s, flatK_nil, merge1, e_dStar, e_dComp2, e_dPar3, e_dZip, repS_t, repS_l, ixS_t0, ixS_t1, onBs_tt, rg1S_t, rg1S_l, rg2S_t, rg2S_l, revS_t, revS_l, onDs_map, onDs_map0, startR, lamR, slotR, wipeR, hideR, fits, perm,
  plain_d, plain_bowl, plain_ro, onD_d, onI_i, onB_b, onSq_l, onSq_t, onSq_o, onSq_r, onLs_l, onLs_o, onLs_r, onSeq_l, onSeq_t, onSeq_r, onDs_nil, onDs_d, addS_i, addS_t, addS_l, intP_i, int2_i, negS_i, bix_i, one_s, two_s, isN_d, notN_d, eqS_ii, neS_ii, eqS_in, eqS_bb, ty_tuple_none, ty_tuple_bool, ty_tuple_int, ty_tuple_str, ty_tuple_tuple, ty_tuple_list, ty_tuple_dict, ty_list_none, ty_list_bool, ty_list_int, ty_list_str, ty_list_tuple, ty_list_list, ty_list_dict, ty_bool_none, ty_bool_bool, ty_bool_int, ty_bool_str, ty_bool_tuple, ty_bool_list, ty_bool_dict, ty_int_none, ty_int_bool, ty_int_int, ty_int_str, ty_int_tuple, ty_int_list, ty_int_dict, ty_str_none, ty_str_bool, ty_str_int, ty_str_str, ty_str_tuple, ty_str_list, ty_str_dict, ty_dict_none, ty_dict_bool, ty_dict_int, ty_dict_str, ty_dict_tuple, ty_dict_list, ty_dict_dict, not_true_eq_false, not_false_eq_true, Bool.and_true, Bool.true_and, Bool.and_false, Bool.false_and, Bool.or_true, Bool.true_or, Bool.or_false, Bool.false_or, Bool.true_eq_false, Int.toNat_natCast, isOwn_d, isOwn_bowl, isOwn_ro, isOwn_fn, onIs_map, onBs_map,
  List.map_cons, List.map_nil, List.length_cons, List.length_nil, List.replicate_succ, List.replicate_zero, List.cons_append, List.nil_append, List.append_nil, List.getElem?_cons_zero, List.getElem?_cons_succ, List.set_cons_zero, List.set_cons_succ, List.filterMap_cons, List.filterMap_nil, Option.map, List.mem_cons, List.not_mem_nil, or_false, false_or, forall_eq_or_imp, forall_eq, implies_true, false_imp_iff, List.length_map, and_true, true_and, and_self, if_true, if_false, Bool.false_eq_true, reduceCtorEq, Nat.reduceAdd, Nat.reduceSub, Int.reduceLT, Int.reduceLE, Int.reduceNeg, decide_true, decide_false, decide_eq_true_eq, Bool.not_true, Bool.not_false, Bool.not_eq_true', decide_eq_false_iff_not, ite_true, ite_false]
  exact h
theorem w__law_measure_ranks {ns ms : List Int} {Q : S → Prop} {E : Exn → Prop} (hz : ns.length + ms.length ≤ 1000000) (h : Q (.d (.int (seenI "ranks" ns ms)))) : m__law_measure [.d (.tuple (ns.map .int)), .d (.tuple (ms.map .int)), .d (.str "ranks")] Q E := by
  simp only [m__law_measure, b__law_measure, e_dCmb, e_dSortK, e_keyS, e_dSeq, e_dIfS, e_dRet, e_dRetN, e_dRetB, e_dAsg, e_dPar, e_dAsgG, e_dDrop, e_dNext, e_dBrk, e_dCont, e_dNever, e_dFor, e_dFreeze, e_dRetO, e_dNewL, e_dApp, e_dWhile, e_dVar, e_dC, e_dOp1, e_dOp2, e_dCB, e_dNil, e_dCons, e_dB, e_dAnd, e_dOr, e_dNot, e_dAndV, e_dOrV, e_dNotV, e_dIf, e_dTup, e_dLst, e_dIsI, e_dCall, e_dCallK, e_dChain, e_dSl, e_dPart, e_dNoPart, e_dYes, e_dFnCall, e_dCallF, e_dIter, e_dRng1, e_dRng2, e_dEnum, e_dComp, e_gN, e_gBw, e_gOw, e_gT, e_gTn, e_gTc, e_dDef, e_lamM, e_gL, onIB_i, onIB_b, bwS_b, lenBS_b, e_dCompB, plain_bowls, isOwn_bowls, inOp_li, inOp_ti, e_dLenSet, e_dCallD, e_dPl, e_dNewO, e_dCopyO, e_dNewD, e_dDisp, e_prs_nil, e_prs_cons, e_dSets, e_dSetsN, e_sets_cons, e_sets_nil, e_dAppPop, e_dGet2, e_dKeys, e_dVals, e_dItems, e_dPut, e_dFreezeD, e_dSumV, onDc_d, onDc_o, onDz_d, keyR_i, keyR_s, flatK_nil, merge1, e_dStar, e_dComp2, e_dPar3, e_dZip, repS_t, repS_l, ixS_t0, ixS_t1, onBs_tt, rg1S_t, rg1S_l, rg2S_t, rg2S_l, revS_t, revS_l, onDs_map, onDs_map0, startR, lamR, slotR, wipeR, hideR, fits, perm,
  plain_d, plain_bowl, plain_ro, onD_d, onI_i, onB_b, onSq_l, onSq_t, onSq_o, onSq_r, onLs_l, onLs_o, onLs_r, onSeq_l, onSeq_t, onSeq_r, onDs_nil, onDs_d, addS_i, addS_t, addS_l, intP_i, int2_i, negS_i, bix_i, one_s, two_s, isN_d, notN_d, eqS_ii, neS_ii, eqS_in, eqS_bb, ty_tuple_none, ty_tuple_bool, ty_tuple_int, ty_tuple_str, ty_tuple_tuple, ty_tuple_list, ty_tuple_dict, ty_list_none, ty_list_bool, ty_list_int, ty_list_str, ty_list_tuple, ty_list_list, ty_list_dict, ty_bool_none, ty_bool_bool, ty_bool_int, ty_bool_str, ty_bool_tuple, ty_bool_list, ty_bool_dict, ty_int_none, ty_int_bool, ty_int_int, ty_int_str, ty_int_tuple, ty_int_list, ty_int_dict, ty_str_none, ty_str_bool, ty_str_int, ty_str_str, ty_str_tuple, ty_str_list, ty_str_dict, ty_dict_none, ty_dict_bool, ty_dict_int, ty_dict_str, ty_dict_tuple, ty_dict_list, ty_dict_dict, not_true_eq_false, not_false_eq_true, Bool.and_true, Bool.true_and, Bool.and_false, Bool.false_and, Bool.or_true, Bool.true_or, Bool.or_false, Bool.false_or, Bool.true_eq_false, Int.toNat_natCast, isOwn_d, isOwn_bowl, isOwn_ro, isOwn_fn, onIs_map, onBs_map,
  List.map_cons, List.map_nil, List.length_cons, List.length_nil, List.replicate_succ, List.replicate_zero, List.cons_append, List.nil_append, List.append_nil, List.getElem?_cons_zero, List.getElem?_cons_succ, List.set_cons_zero, List.set_cons_succ, List.filterMap_cons, List.filterMap_nil, Option.map, List.mem_cons, List.not_mem_nil, or_false, false_or, forall_eq_or_imp, forall_eq, implies_true, false_imp_iff, List.length_map, and_true, true_and, and_self, if_true, if_false, Bool.false_eq_true, reduceCtorEq, Nat.reduceAdd, Nat.reduceSub, Int.reduceLT, Int.reduceLE, Int.reduceNeg, decide_true, decide_false, decide_eq_true_eq, Bool.not_true, Bool.not_false, Bool.not_eq_true', decide_eq_false_iff_not, ite_true, ite_false]
  rw [eqS_str (by decide +kernel) (by decide +kernel), eqS_str (by decide +kernel) (by decide +kernel)]
  simp only [e_dCmb, e_dSortK, e_keyS, e_dSeq, e_dIfS, e_dRet, e_dRetN, e_dRetB, e_dAsg, e_dPar, e_dAsgG, e_dDrop, e_dNext, e_dBrk, e_dCont, e_dNever, e_dFor, e_dFreeze, e_dRetO, e_dNewL, e_dApp, e_dWhile, e_dVar, e_dC, e_dOp1, e_dOp2, e_dCB, e_dNil, e_dCons, e_dB, e_dAnd, e_dOr, e_dNot, e_dAndV, e_dOrV, e_dNotV, e_dIf, e_dTup, e_dLst, e_dIsI, e_dCall, e_dCallK, e_dChain, e_dSl, e_dPart, e_dNoPart, e_dYes, e_dFnCall, e_dCallF, e_dIter, e_dRng1, e_dRng2, e_dEnum, e_dComp, e_gN, e_gBw, e_gOw, e_gT, e_gTn, e_gTc, e_dDef, e_lamM, e_gL, onIB_i, onIB_b, bwS_b, lenBS_b, e_dCompB, plain_bowls, isOwn_bowls, inOp_li, inOp_ti, e_dLenSet, e_dCallD, e_dPl, e_dNewO, e_dCopyO, e_dNewD, e_dDisp, e_prs_nil, e_prs_cons, e_dSets, e_dSetsN, e_sets_cons, e_sets_nil, e_dAppPop, e_dGet2, e_dKeys, e_dVals, e_dItems, e_dPut, e_dFreezeD, e_dSumV, onDc_d, onDc_o, onDz_d, keyR_i, keyR_s, flatK_nil, merge1, e_dStar, e_dComp2, e_dPar3, e_dZip, repS_t, repS_l, ixS_t0, ixS_t1, onBs_tt, rg1S_t, rg1S_l, rg2S_t, rg2S_l, revS_t, revS_l, onDs_map, onDs_map0, startR, lamR, slotR, wipeR, hideR, fits, perm,
  plain_d, plain_bowl, plain_ro, onD_d, onI_i, onB_b, onSq_l, onSq_t, onSq_o, onSq_r, onLs_l, onLs_o, onLs_r, onSeq_l, onSeq_t, onSeq_r, onDs_nil, onDs_d, addS_i, addS_t, addS_l, intP_i, int2_i, negS_i, bix_i, one_s, two_s, isN_d, notN_d, eqS_ii, neS_ii, eqS_in, eqS_bb, ty_tuple_none, ty_tuple_bool, ty_tuple_int, ty_tuple_str, ty_tuple_tuple, ty_tuple_list, ty_tuple_dict, ty_list_none, ty_list_bool, ty_list_int, ty_list_str, ty_list_tuple, ty_list_list, ty_list_dict, ty_bool_none, ty_bool_bool, ty_bool_int, ty_bool_str, ty_bool_tuple, ty_bool_list, ty_bool_dict, ty_int_none, ty_int_bool, ty_int_int, ty_int_str, ty_int_tuple, ty_int_list, ty_int_dict, ty_str_none, ty_str_bool, ty_str_int, ty_str_str, ty_str_tuple, ty_str_list, ty_str_dict, ty_dict_none, ty_dict_bool, ty_dict_int, ty_dict_str, ty_dict_tuple, ty_dict_list, ty_dict_dict, not_true_eq_false, not_false_eq_true, Bool.and_true, Bool.true_and, Bool.and_false, Bool.false_and, Bool.or_true, Bool.true_or, Bool.or_false, Bool.false_or, Bool.true_eq_false, Int.toNat_natCast, isOwn_d, isOwn_bowl, isOwn_ro, isOwn_fn, onIs_map, onBs_map,
  List.map_cons, List.map_nil, List.length_cons, List.length_nil, List.replicate_succ, List.replicate_zero, List.cons_append, List.nil_append, List.append_nil, List.getElem?_cons_zero, List.getElem?_cons_succ, List.set_cons_zero, List.set_cons_succ, List.filterMap_cons, List.filterMap_nil, Option.map, List.mem_cons, List.not_mem_nil, or_false, false_or, forall_eq_or_imp, forall_eq, implies_true, false_imp_iff, List.length_map, and_true, true_and, and_self, if_true, if_false, Bool.false_eq_true, reduceCtorEq, Nat.reduceAdd, Nat.reduceSub, Int.reduceLT, Int.reduceLE, Int.reduceNeg, decide_true, decide_false, decide_eq_true_eq, Bool.not_true, Bool.not_false, Bool.not_eq_true', decide_eq_false_iff_not, ite_true, ite_false]
  rw [show (("ranks" : Str) == "sum") = false by rfl, show (("ranks" : Str) == "ranks") = true by rfl]
  simp only [e_dCmb, e_dSortK, e_keyS, e_dSeq, e_dIfS, e_dRet, e_dRetN, e_dRetB, e_dAsg, e_dPar, e_dAsgG, e_dDrop, e_dNext, e_dBrk, e_dCont, e_dNever, e_dFor, e_dFreeze, e_dRetO, e_dNewL, e_dApp, e_dWhile, e_dVar, e_dC, e_dOp1, e_dOp2, e_dCB, e_dNil, e_dCons, e_dB, e_dAnd, e_dOr, e_dNot, e_dAndV, e_dOrV, e_dNotV, e_dIf, e_dTup, e_dLst, e_dIsI, e_dCall, e_dCallK, e_dChain, e_dSl, e_dPart, e_dNoPart, e_dYes, e_dFnCall, e_dCallF, e_dIter, e_dRng1, e_dRng2, e_dEnum, e_dComp, e_gN, e_gBw, e_gOw, e_gT, e_gTn, e_gTc, e_dDef, e_lamM, e_gL, onIB_i, onIB_b, bwS_b, lenBS_b, e_dCompB, plain_bowls, isOwn_bowls, inOp_li, inOp_ti, e_dLenSet, e_dCallD, e_dPl, e_dNewO, e_dCopyO, e_dNewD, e_dDisp, e_prs_nil, e_prs_cons, e_dSets, e_dSetsN, e_sets_cons, e_sets_nil, e_dAppPop, e_dGet2, e_dKeys, e_dVals, e_dItems, e_dPut, e_dFreezeD, e_dSumV, onDc_d, onDc_o, onDz_d, keyR_i, keyR_s, flatK_nil, merge1, e_dStar, e_dComp2, e_dPar3, e_dZip, repS_t, repS_l, ixS_t0, ixS_t1, onBs_tt, rg1S_t, rg1S_l, rg2S_t, rg2S_l, revS_t, revS_l, onDs_map, onDs_map0, startR, lamR, slotR, wipeR, hideR, fits, perm,
  plain_d, plain_bowl, plain_ro, onD_d, onI_i, onB_b, onSq_l, onSq_t, onSq_o, onSq_r, onLs_l, onLs_o, onLs_r, onSeq_l, onSeq_t, onSeq_r, onDs_nil, onDs_d, addS_i, addS_t, addS_l, intP_i, int2_i, negS_i, bix_i, one_s, two_s, isN_d, notN_d, eqS_ii, neS_ii, eqS_in, eqS_bb, ty_tuple_none, ty_tuple_bool, ty_tuple_int, ty_tuple_str, ty_tuple_tuple, ty_tuple_list, ty_tuple_dict, ty_list_none, ty_list_bool, ty_list_int, ty_list_str, ty_list_tuple, ty_list_list, ty_list_dict, ty_bool_none, ty_bool_bool, ty_bool_int, ty_bool_str, ty_bool_tuple, ty_bool_list, ty_bool_dict, ty_int_none, ty_int_bool, ty_int_int, ty_int_str, ty_int_tuple, ty_int_list, ty_int_dict, ty_str_none, ty_str_bool, ty_str_int, ty_str_str, ty_str_tuple, ty_str_list, ty_str_dict, ty_dict_none, ty_dict_bool, ty_dict_int, ty_dict_str, ty_dict_tuple, ty_dict_list, ty_dict_dict, not_true_eq_false, not_false_eq_true, Bool.and_true, Bool.true_and, Bool.and_false, Bool.false_and, Bool.or_true, Bool.true_or, Bool.or_false, Bool.false_or, Bool.true_eq_false, Int.toNat_natCast, isOwn_d, isOwn_bowl, isOwn_ro, isOwn_fn, onIs_map, onBs_map,
  List.map_cons, List.map_nil, List.length_cons, List.length_nil, List.replicate_succ, List.replicate_zero, List.cons_append, List.nil_append, List.append_nil, List.getElem?_cons_zero, List.getElem?_cons_succ, List.set_cons_zero, List.set_cons_succ, List.filterMap_cons, List.filterMap_nil, Option.map, List.mem_cons, List.not_mem_nil, or_false, false_or, forall_eq_or_imp, forall_eq, implies_true, false_imp_iff, List.length_map, and_true, true_and, and_self, if_true, if_false, Bool.false_eq_true, reduceCtorEq, Nat.reduceAdd, Nat.reduceSub, Int.reduceLT, Int.reduceLE, Int.reduceNeg, decide_true, decide_false, decide_eq_true_eq, Bool.not_true, Bool.not_false, Bool.not_eq_true', decide_eq_false_iff_not, ite_true, ite_false]
  refine ⟨sizeLine_ge hz, ?_⟩
  rw [← List.map_append]
  refine w__law_ranks (by omega) (by rw [List.length_append]; exact hz) ?_
  rw [show (ns.map fun v => PyData.int (rankI (ns ++ ms) v)) = (ns.map (weightI "ranks" (ns ++ ms))).map .int by rw [List.map_map] <;> rfl]
  simp only [e_dCmb, e_dSortK, e_keyS, e_dSeq, e_dIfS, e_dRet, e_dRetN, e_dRetB, e_dAsg, e_dPar, e_dAsgG, e_dDrop, e_dNext, e_dBrk, e_dCont, e_dNever, e_dFor, e_dFreeze, e_dRetO, e_dNewL, e_dApp, e_dWhile, e_dVar, e_dC, e_dOp1, e_dOp2, e_dCB, e_dNil, e_dCons, e_dB, e_dAnd, e_dOr, e_dNot, e_dAndV, e_dOrV, e_dNotV, e_dIf, e_dTup, e_dLst, e_dIsI, e_dCall, e_dCallK, e_dChain, e_dSl, e_dPart, e_dNoPart, e_dYes, e_dFnCall, e_dCallF, e_dIter, e_dRng1, e_dRng2, e_dEnum, e_dComp, e_gN, e_gBw, e_gOw, e_gT, e_gTn, e_gTc, e_dDef, e_lamM, e_gL, onIB_i, onIB_b, bwS_b, lenBS_b, e_dCompB, plain_bowls, isOwn_bowls, inOp_li, inOp_ti, e_dLenSet, e_dCallD, e_dPl, e_dNewO, e_dCopyO, e_dNewD, e_dDisp, e_prs_nil, e_prs_cons, e_dSets, e_dSetsN, e_sets_cons, e_sets_nil, e_dAppPop, e_dGet2, e_dKeys, e_dVals, e_dItems, e_dPut, e_dFreezeD, e_dSumV, onDc_d, onDc_o, onDz_d, keyR_i, keyR_s, flatK_nil, merge1, e_dStar, e_dComp2, e_dPar3, e_dZip, repS_t, repS_l, ixS_t0, ixS_t1, onBs_tt, rg1S_t, rg1S_l, rg2S_t, rg2S_l, revS_t, revS_l, onDs_map, onDs_map0, startR, lamR, slotR, wipeR, hideR, fits, perm,
  plain_d, plain_bowl, plain_ro, onD_d, onI_i, onB_b, onSq_l, onSq_t, onSq_o, onSq_r, onLs_l, onLs_o, onLs_r, onSeq_l, onSeq_t, onSeq_r, onDs_nil, onDs_d, addS_i, addS_t, addS_l, intP_i, int2_i, negS_i, bix_i, one_s, two_s, isN_d, notN_d, eqS_ii, neS_ii, eqS_in, eqS_bb, ty_tuple_none, ty_tuple_bool, ty_tuple_int, ty_tuple_str, ty_tuple_tuple, ty_tuple_list, ty_tuple_dict, ty_list_none, ty_list_bool, ty_list_int, ty_list_str, ty_list_tuple, ty_list_list, ty_list_dict, ty_bool_none, ty_bool_bool, ty_bool_int, ty_bool_str, ty_bool_tuple, ty_bool_list, ty_bool_dict, ty_int_none, ty_int_bool, ty_int_int, ty_int_str, ty_int_tuple, ty_int_list, ty_int_dict, ty_str_none, ty_str_bool, ty_str_int, ty_str_str, ty_str_tuple, ty_str_list, ty_str_dict, ty_dict_none, ty_dict_bool, ty_dict_int, ty_dict_str, ty_dict_tuple, ty_dict_list, ty_dict_dict, not_true_eq_false, not_false_eq_true, Bool.and_true, Bool.true_and, Bool.and_false, Bool.false_and, Bool.or_true, Bool.true_or, Bool.or_false, Bool.false_or, Bool.true_eq_false, Int.toNat_natCast, isOwn_d, isOwn_bowl, isOwn_ro, isOwn_fn, onIs_map, onBs_map,
  List.map_cons, List.map_nil, List.length_cons, List.length_nil, List.replicate_succ, List.replicate_zero, List.cons_append, List.nil_append, List.append_nil, List.getElem?_cons_zero, List.getElem?_cons_succ, List.set_cons_zero, List.set_cons_succ, List.filterMap_cons, List.filterMap_nil, Option.map, List.mem_cons, List.not_mem_nil, or_false, false_or, forall_eq_or_imp, forall_eq, implies_true, false_imp_iff, List.length_map, and_true, true_and, and_self, if_true, if_false, Bool.false_eq_true, reduceCtorEq, Nat.reduceAdd, Nat.reduceSub, Int.reduceLT, Int.reduceLE, Int.reduceNeg, decide_true, decide_false, decide_eq_true_eq, Bool.not_true, Bool.not_false, Bool.not_eq_true', decide_eq_false_iff_not, ite_true, ite_false]
  exact h
theorem w__law_measure_above {ns ms : List Int} {Q : S → Prop} {E : Exn → Prop} (hz : ms.length ≤ 1000000) (h : Q (.d (.int (dsum ns ms)))) : m__law_measure [.d (.tuple (ns.map .int)), .d (.tuple (ms.map .int)), .d (.str "above")] Q E := by
  simp only [m__law_measure, b__law_measure, e_dCmb, e_dSortK, e_keyS, e_dSeq, e_dIfS, e_dRet, e_dRetN, e_dRetB, e_dAsg, e_dPar, e_dAsgG, e_dDrop, e_dNext, e_dBrk, e_dCont, e_dNever, e_dFor, e_dFreeze, e_dRetO, e_dNewL, e_dApp, e_dWhile, e_dVar, e_dC, e_dOp1, e_dOp2, e_dCB, e_dNil, e_dCons, e_dB, e_dAnd, e_dOr, e_dNot, e_dAndV, e_dOrV, e_dNotV, e_dIf, e_dTup, e_dLst, e_dIsI, e_dCall, e_dCallK, e_dChain, e_dSl, e_dPart, e_dNoPart, e_dYes, e_dFnCall, e_dCallF, e_dIter, e_dRng1, e_dRng2, e_dEnum, e_dComp, e_gN, e_gBw, e_gOw, e_gT, e_gTn, e_gTc, e_dDef, e_lamM, e_gL, onIB_i, onIB_b, bwS_b, lenBS_b, e_dCompB, plain_bowls, isOwn_bowls, inOp_li, inOp_ti, e_dLenSet, e_dCallD, e_dPl, e_dNewO, e_dCopyO, e_dNewD, e_dDisp, e_prs_nil, e_prs_cons, e_dSets, e_dSetsN, e_sets_cons, e_sets_nil, e_dAppPop, e_dGet2, e_dKeys, e_dVals, e_dItems, e_dPut, e_dFreezeD, e_dSumV, onDc_d, onDc_o, onDz_d, keyR_i, keyR_s, flatK_nil, merge1, e_dStar, e_dComp2, e_dPar3, e_dZip, repS_t, repS_l, ixS_t0, ixS_t1, onBs_tt, rg1S_t, rg1S_l, rg2S_t, rg2S_l, revS_t, revS_l, onDs_map, onDs_map0, startR, lamR, slotR, wipeR, hideR, fits, perm,
  plain_d, plain_bowl, plain_ro, onD_d, onI_i, onB_b, onSq_l, onSq_t, onSq_o, onSq_r, onLs_l, onLs_o, onLs_r, onSeq_l, onSeq_t, onSeq_r, onDs_nil, onDs_d, addS_i, addS_t, addS_l, intP_i, int2_i, negS_i, bix_i, one_s, two_s, isN_d, notN_d, eqS_ii, neS_ii, eqS_in, eqS_bb, ty_tuple_none, ty_tuple_bool, ty_tuple_int, ty_tuple_str, ty_tuple_tuple, ty_tuple_list, ty_tuple_dict, ty_list_none, ty_list_bool, ty_list_int, ty_list_str, ty_list_tuple, ty_list_list, ty_list_dict, ty_bool_none, ty_bool_bool, ty_bool_int, ty_bool_str, ty_bool_tuple, ty_bool_list, ty_bool_dict, ty_int_none, ty_int_bool, ty_int_int, ty_int_str, ty_int_tuple, ty_int_list, ty_int_dict, ty_str_none, ty_str_bool, ty_str_int, ty_str_str, ty_str_tuple, ty_str_list, ty_str_dict, ty_dict_none, ty_dict_bool, ty_dict_int, ty_dict_str, ty_dict_tuple, ty_dict_list, ty_dict_dict, not_true_eq_false, not_false_eq_true, Bool.and_true, Bool.true_and, Bool.and_false, Bool.false_and, Bool.or_true, Bool.true_or, Bool.or_false, Bool.false_or, Bool.true_eq_false, Int.toNat_natCast, isOwn_d, isOwn_bowl, isOwn_ro, isOwn_fn, onIs_map, onBs_map,
  List.map_cons, List.map_nil, List.length_cons, List.length_nil, List.replicate_succ, List.replicate_zero, List.cons_append, List.nil_append, List.append_nil, List.getElem?_cons_zero, List.getElem?_cons_succ, List.set_cons_zero, List.set_cons_succ, List.filterMap_cons, List.filterMap_nil, Option.map, List.mem_cons, List.not_mem_nil, or_false, false_or, forall_eq_or_imp, forall_eq, implies_true, false_imp_iff, List.length_map, and_true, true_and, and_self, if_true, if_false, Bool.false_eq_true, reduceCtorEq, Nat.reduceAdd, Nat.reduceSub, Int.reduceLT, Int.reduceLE, Int.reduceNeg, decide_true, decide_false, decide_eq_true_eq, Bool.not_true, Bool.not_false, Bool.not_eq_true', decide_eq_false_iff_not, ite_true, ite_false]
  rw [eqS_str (by decide +kernel) (by decide +kernel), eqS_str (by decide +kernel) (by decide +kernel)]
  simp only [e_dCmb, e_dSortK, e_keyS, e_dSeq, e_dIfS, e_dRet, e_dRetN, e_dRetB, e_dAsg, e_dPar, e_dAsgG, e_dDrop, e_dNext, e_dBrk, e_dCont, e_dNever, e_dFor, e_dFreeze, e_dRetO, e_dNewL, e_dApp, e_dWhile, e_dVar, e_dC, e_dOp1, e_dOp2, e_dCB, e_dNil, e_dCons, e_dB, e_dAnd, e_dOr, e_dNot, e_dAndV, e_dOrV, e_dNotV, e_dIf, e_dTup, e_dLst, e_dIsI, e_dCall, e_dCallK, e_dChain, e_dSl, e_dPart, e_dNoPart, e_dYes, e_dFnCall, e_dCallF, e_dIter, e_dRng1, e_dRng2, e_dEnum, e_dComp, e_gN, e_gBw, e_gOw, e_gT, e_gTn, e_gTc, e_dDef, e_lamM, e_gL, onIB_i, onIB_b, bwS_b, lenBS_b, e_dCompB, plain_bowls, isOwn_bowls, inOp_li, inOp_ti, e_dLenSet, e_dCallD, e_dPl, e_dNewO, e_dCopyO, e_dNewD, e_dDisp, e_prs_nil, e_prs_cons, e_dSets, e_dSetsN, e_sets_cons, e_sets_nil, e_dAppPop, e_dGet2, e_dKeys, e_dVals, e_dItems, e_dPut, e_dFreezeD, e_dSumV, onDc_d, onDc_o, onDz_d, keyR_i, keyR_s, flatK_nil, merge1, e_dStar, e_dComp2, e_dPar3, e_dZip, repS_t, repS_l, ixS_t0, ixS_t1, onBs_tt, rg1S_t, rg1S_l, rg2S_t, rg2S_l, revS_t, revS_l, onDs_map, onDs_map0, startR, lamR, slotR, wipeR, hideR, fits, perm,
  plain_d, plain_bowl, plain_ro, onD_d, onI_i, onB_b, onSq_l, onSq_t, onSq_o, onSq_r, onLs_l, onLs_o, onLs_r, onSeq_l, onSeq_t, onSeq_r, onDs_nil, onDs_d, addS_i, addS_t, addS_l, intP_i, int2_i, negS_i, bix_i, one_s, two_s, isN_d, notN_d, eqS_ii, neS_ii, eqS_in, eqS_bb, ty_tuple_none, ty_tuple_bool, ty_tuple_int, ty_tuple_str, ty_tuple_tuple, ty_tuple_list, ty_tuple_dict, ty_list_none, ty_list_bool, ty_list_int, ty_list_str, ty_list_tuple, ty_list_list, ty_list_dict, ty_bool_none, ty_bool_bool, ty_bool_int, ty_bool_str, ty_bool_tuple, ty_bool_list, ty_bool_dict, ty_int_none, ty_int_bool, ty_int_int, ty_int_str, ty_int_tuple, ty_int_list, ty_int_dict, ty_str_none, ty_str_bool, ty_str_int, ty_str_str, ty_str_tuple, ty_str_list, ty_str_dict, ty_dict_none, ty_dict_bool, ty_dict_int, ty_dict_str, ty_dict_tuple, ty_dict_list, ty_dict_dict, not_true_eq_false, not_false_eq_true, Bool.and_true, Bool.true_and, Bool.and_false, Bool.false_and, Bool.or_true, Bool.true_or, Bool.or_false, Bool.false_or, Bool.true_eq_false, Int.toNat_natCast, isOwn_d, isOwn_bowl, isOwn_ro, isOwn_fn, onIs_map, onBs_map,
  List.map_cons, List.map_nil, List.length_cons, List.length_nil, List.replicate_succ, List.replicate_zero, List.cons_append, List.nil_append, List.append_nil, List.getElem?_cons_zero, List.getElem?_cons_succ, List.set_cons_zero, List.set_cons_succ, List.filterMap_cons, List.filterMap_nil, Option.map, List.mem_cons, List.not_mem_nil, or_false, false_or, forall_eq_or_imp, forall_eq, implies_true, false_imp_iff, List.length_map, and_true, true_and, and_self, if_true, if_false, Bool.false_eq_true, reduceCtorEq, Nat.reduceAdd, Nat.reduceSub, Int.reduceLT, Int.reduceLE, Int.reduceNeg, decide_true, decide_false, decide_eq_true_eq, Bool.not_true, Bool.not_false, Bool.not_eq_true', decide_eq_false_iff_not, ite_true, ite_false]
  rw [show (("above" : Str) == "sum") = false by rfl, show (("above" : Str) == "ranks") = false by rfl]
  simp only [e_dCmb, e_dSortK, e_keyS, e_dSeq, e_dIfS, e_dRet, e_dRetN, e_dRetB, e_dAsg, e_dPar, e_dAsgG, e_dDrop, e_dNext, e_dBrk, e_dCont, e_dNever, e_dFor, e_dFreeze, e_dRetO, e_dNewL, e_dApp, e_dWhile, e_dVar, e_dC, e_dOp1, e_dOp2, e_dCB, e_dNil, e_dCons, e_dB, e_dAnd, e_dOr, e_dNot, e_dAndV, e_dOrV, e_dNotV, e_dIf, e_dTup, e_dLst, e_dIsI, e_dCall, e_dCallK, e_dChain, e_dSl, e_dPart, e_dNoPart, e_dYes, e_dFnCall, e_dCallF, e_dIter, e_dRng1, e_dRng2, e_dEnum, e_dComp, e_gN, e_gBw, e_gOw, e_gT, e_gTn, e_gTc, e_dDef, e_lamM, e_gL, onIB_i, onIB_b, bwS_b, lenBS_b, e_dCompB, plain_bowls, isOwn_bowls, inOp_li, inOp_ti, e_dLenSet, e_dCallD, e_dPl, e_dNewO, e_dCopyO, e_dNewD, e_dDisp, e_prs_nil, e_prs_cons, e_dSets, e_dSetsN, e_sets_cons, e_sets_nil, e_dAppPop, e_dGet2, e_dKeys, e_dVals, e_dItems, e_dPut, e_dFreezeD, e_dSumV, onDc_d, onDc_o, onDz_d, keyR_i, keyR_s, flatK_nil, merge1, e_dStar, e_dComp2, e_dPar3, e_dZip, repS_t, repS_l, ixS_t0, ixS_t1, onBs_tt, rg1S_t, rg1S_l, rg2S_t, rg2S_l, revS_t, revS_l, onDs_map, onDs_map0, startR, lamR, slotR, wipeR, hideR, fits, perm,
  plain_d, plain_bowl, plain_ro, onD_d, onI_i, onB_b, onSq_l, onSq_t, onSq_o, onSq_r, onLs_l, onLs_o, onLs_r, onSeq_l, onSeq_t, onSeq_r, onDs_nil, onDs_d, addS_i, addS_t, addS_l, intP_i, int2_i, negS_i, bix_i, one_s, two_s, isN_d, notN_d, eqS_ii, neS_ii, eqS_in, eqS_bb, ty_tuple_none, ty_tuple_bool, ty_tuple_int, ty_tuple_str, ty_tuple_tuple, ty_tuple_list, ty_tuple_dict, ty_list_none, ty_list_bool, ty_list_int, ty_list_str, ty_list_tuple, ty_list_list, ty_list_dict, ty_bool_none, ty_bool_bool, ty_bool_int, ty_bool_str, ty_bool_tuple, ty_bool_list, ty_bool_dict, ty_int_none, ty_int_bool, ty_int_int, ty_int_str, ty_int_tuple, ty_int_list, ty_int_dict, ty_str_none, ty_str_bool, ty_str_int, ty_str_str, ty_str_tuple, ty_str_list, ty_str_dict, ty_dict_none, ty_dict_bool, ty_dict_int, ty_dict_str, ty_dict_tuple, ty_dict_list, ty_dict_dict, not_true_eq_false, not_false_eq_true, Bool.and_true, Bool.true_and, Bool.and_false, Bool.false_and, Bool.or_true, Bool.true_or, Bool.or_false, Bool.false_or, Bool.true_eq_false, Int.toNat_natCast, isOwn_d, isOwn_bowl, isOwn_ro, isOwn_fn, onIs_map, onBs_map,
  List.map_cons, List.map_nil, List.length_cons, List.length_nil, List.replicate_succ, List.replicate_zero, List.cons_append, List.nil_append, List.append_nil, List.getElem?_cons_zero, List.getElem?_cons_succ, List.set_cons_zero, List.set_cons_succ, List.filterMap_cons, List.filterMap_nil, Option.map, List.mem_cons, List.not_mem_nil, or_false, false_or, forall_eq_or_imp, forall_eq, implies_true, false_imp_iff, List.length_map, and_true, true_and, and_self, if_true, if_false, Bool.false_eq_true, reduceCtorEq, Nat.reduceAdd, Nat.reduceSub, Int.reduceLT, Int.reduceLE, Int.reduceNeg, decide_true, decide_false, decide_eq_true_eq, Bool.not_true, Bool.not_false, Bool.not_eq_true', decide_eq_false_iff_not, ite_true, ite_false]
  refine forL_inv (fun i ρ => ∃ a b c, ρ = [some (S.d (PyData.tuple (ns.map .int))), some (S.d (PyData.tuple (ms.map .int))), a, some (S.d (PyData.int (dsum (ns.take i) ms))), b, c]) 0 ⟨_, _, _, rfl⟩ (fun i s ρ X hs hI hX => ?_) fun ρ hI => ?_
  · obtain ⟨a, b, c, rfl⟩ := hI
    rw [Nat.zero_add] at hX ⊢
    rw [ints_map, List.getElem?_map] at hs
    by_cases hi : i < ns.length
    · rw [List.getElem?_eq_getElem hi] at hs
      obtain rfl : S.d (PyData.int ns[i]) = s := by simpa using hs
      simp only [e_dCmb, e_dSortK, e_keyS, e_dSeq, e_dIfS, e_dRet, e_dRetN, e_dRetB, e_dAsg, e_dPar, e_dAsgG, e_dDrop, e_dNext, e_dBrk, e_dCont, e_dNever, e_dFor, e_dFreeze, e_dRetO, e_dNewL, e_dApp, e_dWhile, e_dVar, e_dC, e_dOp1, e_dOp2, e_dCB, e_dNil, e_dCons, e_dB, e_dAnd, e_dOr, e_dNot, e_dAndV, e_dOrV, e_dNotV, e_dIf, e_dTup, e_dLst, e_dIsI, e_dCall, e_dCallK, e_dChain, e_dSl, e_dPart, e_dNoPart, e_dYes, e_dFnCall, e_dCallF, e_dIter, e_dRng1, e_dRng2, e_dEnum, e_dComp, e_gN, e_gBw, e_gOw, e_gT, e_gTn, e_gTc, e_dDef, e_lamM, e_gL, onIB_i, onIB_b, bwS_b, lenBS_b, e_dCompB, plain_bowls, isOwn_bowls, inOp_li, inOp_ti, e_dLenSet, e_dCallD, e_dPl, e_dNewO, e_dCopyO, e_dNewD, e_dDisp, e_prs_nil, e_prs_cons, e_dSets, e_dSetsN, e_sets_cons, e_sets_nil, e_dAppPop, e_dGet2, e_dKeys, e_dVals, e_dItems, e_dPut, e_dFreezeD, e_dSumV, onDc_d, onDc_o, onDz_d, keyR_i, keyR_s, flatK_nil, merge1, e_dStar, e_dComp2, e_dPar3, e_dZip, repS_t, repS_l, ixS_t0, ixS_t1, onBs_tt, rg1S_t, rg1S_l, rg2S_t, rg2S_l, revS_t, revS_l, onDs_map, onDs_map0, startR, lamR, slotR, wipeR, hideR, fits, perm,
  plain_d, plain_bowl, plain_ro, onD_d, onI_i, onB_b, onSq_l, onSq_t, onSq_o, onSq_r, onLs_l, onLs_o, onLs_r, onSeq_l, onSeq_t, onSeq_r, onDs_nil, onDs_d, addS_i, addS_t, addS_l, intP_i, int2_i, negS_i, bix_i, one_s, two_s, isN_d, notN_d, eqS_ii, neS_ii, eqS_in, eqS_bb, ty_tuple_none, ty_tuple_bool, ty_tuple_int, ty_tuple_str, ty_tuple_tuple, ty_tuple_list, ty_tuple_dict, ty_list_none, ty_list_bool, ty_list_int, ty_list_str, ty_list_tuple, ty_list_list, ty_list_dict, ty_bool_none, ty_bool_bool, ty_bool_int, ty_bool_str, ty_bool_tuple, ty_bool_list, ty_bool_dict, ty_int_none, ty_int_bool, ty_int_int, ty_int_str, ty_int_tuple, ty_int_list, ty_int_dict, ty_str_none, ty_str_bool, ty_str_int, ty_str_str, ty_str_tuple, ty_str_list, ty_str_dict, ty_dict_none, ty_dict_bool, ty_dict_int, ty_dict_str, ty_dict_tuple, ty_dict_list, ty_dict_dict, not_true_eq_false, not_false_eq_true, Bool.and_true, Bool.true_and, Bool.and_false, Bool.false_and, Bool.or_true, Bool.true_or, Bool.or_false, Bool.false_or, Bool.true_eq_false, Int.toNat_natCast, isOwn_d, isOwn_bowl, isOwn_ro, isOwn_fn, onIs_map, onBs_map,
  List.map_cons, List.map_nil, List.length_cons, List.length_nil, List.replicate_succ, List.replicate_zero, List.cons_append, List.nil_append, List.append_nil, List.getElem?_cons_zero, List.getElem?_cons_succ, List.set_cons_zero, List.set_cons_succ, List.filterMap_cons, List.filterMap_nil, Option.map, List.mem_cons, List.not_mem_nil, or_false, false_or, forall_eq_or_imp, forall_eq, implies_true, false_imp_iff, List.length_map, and_true, true_and, and_self, if_true, if_false, Bool.false_eq_true, reduceCtorEq, Nat.reduceAdd, Nat.reduceSub, Int.reduceLT, Int.reduceLE, Int.reduceNeg, decide_true, decide_false, decide_eq_true_eq, Bool.not_true, Bool.not_false, Bool.not_eq_true', decide_eq_false_iff_not, ite_true, ite_false]
      refine compL_ints (ints_map ms) (fun x => decide (x < ns[i])) PyData.int (sizeLine_ge hz) (fun j F Z hj h1 h2 => ?_) ?_
      · simp only [e_dCmb, e_dSortK, e_keyS, e_dSeq, e_dIfS, e_dRet, e_dRetN, e_dRetB, e_dAsg, e_dPar, e_dAsgG, e_dDrop, e_dNext, e_dBrk, e_dCont, e_dNever, e_dFor, e_dFreeze, e_dRetO, e_dNewL, e_dApp, e_dWhile, e_dVar, e_dC, e_dOp1, e_dOp2, e_dCB, e_dNil, e_dCons, e_dB, e_dAnd, e_dOr, e_dNot, e_dAndV, e_dOrV, e_dNotV, e_dIf, e_dTup, e_dLst, e_dIsI, e_dCall, e_dCallK, e_dChain, e_dSl, e_dPart, e_dNoPart, e_dYes, e_dFnCall, e_dCallF, e_dIter, e_dRng1, e_dRng2, e_dEnum, e_dComp, e_gN, e_gBw, e_gOw, e_gT, e_gTn, e_gTc, e_dDef, e_lamM, e_gL, onIB_i, onIB_b, bwS_b, lenBS_b, e_dCompB, plain_bowls, isOwn_bowls, inOp_li, inOp_ti, e_dLenSet, e_dCallD, e_dPl, e_dNewO, e_dCopyO, e_dNewD, e_dDisp, e_prs_nil, e_prs_cons, e_dSets, e_dSetsN, e_sets_cons, e_sets_nil, e_dAppPop, e_dGet2, e_dKeys, e_dVals, e_dItems, e_dPut, e_dFreezeD, e_dSumV, onDc_d, onDc_o, onDz_d, keyR_i, keyR_s, flatK_nil, merge1, e_dStar, e_dComp2, e_dPar3, e_dZip, repS_t, repS_l, ixS_t0, ixS_t1, onBs_tt, rg1S_t, rg1S_l, rg2S_t, rg2S_l, revS_t, revS_l, onDs_map, onDs_map0, startR, lamR, slotR, wipeR, hideR, fits, perm,
  plain_d, plain_bowl, plain_ro, onD_d, onI_i, onB_b, onSq_l, onSq_t, onSq_o, onSq_r, onLs_l, onLs_o, onLs_r, onSeq_l, onSeq_t, onSeq_r, onDs_nil, onDs_d, addS_i, addS_t, addS_l, intP_i, int2_i, negS_i, bix_i, one_s, two_s, isN_d, notN_d, eqS_ii, neS_ii, eqS_in, eqS_bb, ty_tuple_none, ty_tuple_bool, ty_tuple_int, ty_tuple_str, ty_tuple_tuple, ty_tuple_list, ty_tuple_dict, ty_list_none, ty_list_bool, ty_list_int, ty_list_str, ty_list_tuple, ty_list_list, ty_list_dict, ty_bool_none, ty_bool_bool, ty_bool_int, ty_bool_str, ty_bool_tuple, ty_bool_list, ty_bool_dict, ty_int_none, ty_int_bool, ty_int_int, ty_int_str, ty_int_tuple, ty_int_list, ty_int_dict, ty_str_none, ty_str_bool, ty_str_int, ty_str_str, ty_str_tuple, ty_str_list, ty_str_dict, ty_dict_none, ty_dict_bool, ty_dict_int, ty_dict_str, ty_dict_tuple, ty_dict_list, ty_dict_dict, not_true_eq_false, not_false_eq_true, Bool.and_true, Bool.true_and, Bool.and_false, Bool.false_and, Bool.or_true, Bool.true_or, Bool.or_false, Bool.false_or, Bool.true_eq_false, Int.toNat_natCast, isOwn_d, isOwn_bowl, isOwn_ro, isOwn_fn, onIs_map, onBs_map,
  List.map_cons, List.map_nil, List.length_cons, List.length_nil, List.replicate_succ, List.replicate_zero, List.cons_append, List.nil_append, List.append_nil, List.getElem?_cons_zero, List.getElem?_cons_succ, List.set_cons_zero, List.set_cons_succ, List.filterMap_cons, List.filterMap_nil, Option.map, List.mem_cons, List.not_mem_nil, or_false, false_or, forall_eq_or_imp, forall_eq, implies_true, false_imp_iff, List.length_map, and_true, true_and, and_self, if_true, if_false, Bool.false_eq_true, reduceCtorEq, Nat.reduceAdd, Nat.reduceSub, Int.reduceLT, Int.reduceLE, Int.reduceNeg, decide_true, decide_false, decide_eq_true_eq, Bool.not_true, Bool.not_false, Bool.not_eq_true', decide_eq_false_iff_not, ite_true, ite_false]; exact ite_fil h1 h2
      · refine compL_ints (ints_map ms) (fun x => decide (ns[i] < x)) PyData.int (sizeLine_ge hz) (fun j F Z hj h1 h2 => ?_) ?_
        · simp only [e_dCmb, e_dSortK, e_keyS, e_dSeq, e_dIfS, e_dRet, e_dRetN, e_dRetB, e_dAsg, e_dPar, e_dAsgG, e_dDrop, e_dNext, e_dBrk, e_dCont, e_dNever, e_dFor, e_dFreeze, e_dRetO, e_dNewL, e_dApp, e_dWhile, e_dVar, e_dC, e_dOp1, e_dOp2, e_dCB, e_dNil, e_dCons, e_dB, e_dAnd, e_dOr, e_dNot, e_dAndV, e_dOrV, e_dNotV, e_dIf, e_dTup, e_dLst, e_dIsI, e_dCall, e_dCallK, e_dChain, e_dSl, e_dPart, e_dNoPart, e_dYes, e_dFnCall, e_dCallF, e_dIter, e_dRng1, e_dRng2, e_dEnum, e_dComp, e_gN, e_gBw, e_gOw, e_gT, e_gTn, e_gTc, e_dDef, e_lamM, e_gL, onIB_i, onIB_b, bwS_b, lenBS_b, e_dCompB, plain_bowls, isOwn_bowls, inOp_li, inOp_ti, e_dLenSet, e_dCallD, e_dPl, e_dNewO, e_dCopyO, e_dNewD, e_dDisp, e_prs_nil, e_prs_cons, e_dSets, e_dSetsN, e_sets_cons, e_sets_nil, e_dAppPop, e_dGet2, e_dKeys, e_dVals, e_dItems, e_dPut, e_dFreezeD, e_dSumV, onDc_d, onDc_o, onDz_d, keyR_i, keyR_s, flatK_nil, merge1, e_dStar, e_dComp2, e_dPar3, e_dZip, repS_t, repS_l, ixS_t0, ixS_t1, onBs_tt, rg1S_t, rg1S_l, rg2S_t, rg2S_l, revS_t, revS_l, onDs_map, onDs_map0, startR, lamR, slotR, wipeR, hideR, fits, perm,
  plain_d, plain_bowl, plain_ro, onD_d, onI_i, onB_b, onSq_l, onSq_t, onSq_o, onSq_r, onLs_l, onLs_o, onLs_r, onSeq_l, onSeq_t, onSeq_r, onDs_nil, onDs_d, addS_i, addS_t, addS_l, intP_i, int2_i, negS_i, bix_i, one_s, two_s, isN_d, notN_d, eqS_ii, neS_ii, eqS_in, eqS_bb, ty_tuple_none, ty_tuple_bool, ty_tuple_int, ty_tuple_str, ty_tuple_tuple, ty_tuple_list, ty_tuple_dict, ty_list_none, ty_list_bool, ty_list_int, ty_list_str, ty_list_tuple, ty_list_list, ty_list_dict, ty_bool_none, ty_bool_bool, ty_bool_int, ty_bool_str, ty_bool_tuple, ty_bool_list, ty_bool_dict, ty_int_none, ty_int_bool, ty_int_int, ty_int_str, ty_int_tuple, ty_int_list, ty_int_dict, ty_str_none, ty_str_bool, ty_str_int, ty_str_str, ty_str_tuple, ty_str_list, ty_str_dict, ty_dict_none, ty_dict_bool, ty_dict_int, ty_dict_str, ty_dict_tuple, ty_dict_list, ty_dict_dict, not_true_eq_false, not_false_eq_true, Bool.and_true, Bool.true_and, Bool.and_false, Bool.false_and, Bool.or_true, Bool.true_or, Bool.or_false, Bool.false_or, Bool.true_eq_false, Int.toNat_natCast, isOwn_d, isOwn_bowl, isOwn_ro, isOwn_fn, onIs_map, onBs_map,
  List.map_cons, List.map_nil, List.length_cons, List.length_nil, List.replicate_succ, List.replicate_zero, List.cons_append, List.nil_append, List.append_nil, List.getElem?_cons_zero, List.getElem?_cons_succ, List.set_cons_zero, List.set_cons_succ, List.filterMap_cons, List.filterMap_nil, Option.map, List.mem_cons, List.not_mem_nil, or_false, false_or, forall_eq_or_imp, forall_eq, implies_true, false_imp_iff, List.length_map, and_true, true_and, and_self, if_true, if_false, Bool.false_eq_true, reduceCtorEq, Nat.reduceAdd, Nat.reduceSub, Int.reduceLT, Int.reduceLE, Int.reduceNeg, decide_true, decide_false, decide_eq_true_eq, Bool.not_true, Bool.not_false, Bool.not_eq_true', decide_eq_false_iff_not, ite_true, ite_false]; exact ite_fil h1 h2
        · simp only [e_dCmb, e_dSortK, e_keyS, e_dSeq, e_dIfS, e_dRet, e_dRetN, e_dRetB, e_dAsg, e_dPar, e_dAsgG, e_dDrop, e_dNext, e_dBrk, e_dCont, e_dNever, e_dFor, e_dFreeze, e_dRetO, e_dNewL, e_dApp, e_dWhile, e_dVar, e_dC, e_dOp1, e_dOp2, e_dCB, e_dNil, e_dCons, e_dB, e_dAnd, e_dOr, e_dNot, e_dAndV, e_dOrV, e_dNotV, e_dIf, e_dTup, e_dLst, e_dIsI, e_dCall, e_dCallK, e_dChain, e_dSl, e_dPart, e_dNoPart, e_dYes, e_dFnCall, e_dCallF, e_dIter, e_dRng1, e_dRng2, e_dEnum, e_dComp, e_gN, e_gBw, e_gOw, e_gT, e_gTn, e_gTc, e_dDef, e_lamM, e_gL, onIB_i, onIB_b, bwS_b, lenBS_b, e_dCompB, plain_bowls, isOwn_bowls, inOp_li, inOp_ti, e_dLenSet, e_dCallD, e_dPl, e_dNewO, e_dCopyO, e_dNewD, e_dDisp, e_prs_nil, e_prs_cons, e_dSets, e_dSetsN, e_sets_cons, e_sets_nil, e_dAppPop, e_dGet2, e_dKeys, e_dVals, e_dItems, e_dPut, e_dFreezeD, e_dSumV, onDc_d, onDc_o, onDz_d, keyR_i, keyR_s, flatK_nil, merge1, e_dStar, e_dComp2, e_dPar3, e_dZip, repS_t, repS_l, ixS_t0, ixS_t1, onBs_tt, rg1S_t, rg1S_l, rg2S_t, rg2S_l, revS_t, revS_l, onDs_map, onDs_map0, startR, lamR, slotR, wipeR, hideR, fits, perm,
  plain_d, plain_bowl, plain_ro, onD_d, onI_i, onB_b, onSq_l, onSq_t, onSq_o, onSq_r, onLs_l, onLs_o, onLs_r, onSeq_l, onSeq_t, onSeq_r, onDs_nil, onDs_d, addS_i, addS_t, addS_l, intP_i, int2_i, negS_i, bix_i, one_s, two_s, isN_d, notN_d, eqS_ii, neS_ii, eqS_in, eqS_bb, ty_tuple_none, ty_tuple_bool, ty_tuple_int, ty_tuple_str, ty_tuple_tuple, ty_tuple_list, ty_tuple_dict, ty_list_none, ty_list_bool, ty_list_int, ty_list_str, ty_list_tuple, ty_list_list, ty_list_dict, ty_bool_none, ty_bool_bool, ty_bool_int, ty_bool_str, ty_bool_tuple, ty_bool_list, ty_bool_dict, ty_int_none, ty_int_bool, ty_int_int, ty_int_str, ty_int_tuple, ty_int_list, ty_int_dict, ty_str_none, ty_str_bool, ty_str_int, ty_str_str, ty_str_tuple, ty_str_list, ty_str_dict, ty_dict_none, ty_dict_bool, ty_dict_int, ty_dict_str, ty_dict_tuple, ty_dict_list, ty_dict_dict, not_true_eq_false, not_false_eq_true, Bool.and_true, Bool.true_and, Bool.and_false, Bool.false_and, Bool.or_true, Bool.true_or, Bool.or_false, Bool.false_or, Bool.true_eq_false, Int.toNat_natCast, isOwn_d, isOwn_bowl, isOwn_ro, isOwn_fn, onIs_map, onBs_map,
  List.map_cons, List.map_nil, List.length_cons, List.length_nil, List.replicate_succ, List.replicate_zero, List.cons_append, List.nil_append, List.append_nil, List.getElem?_cons_zero, List.getElem?_cons_succ, List.set_cons_zero, List.set_cons_succ, List.filterMap_cons, List.filterMap_nil, Option.map, List.mem_cons, List.not_mem_nil, or_false, false_or, forall_eq_or_imp, forall_eq, implies_true, false_imp_iff, List.length_map, and_true, true_and, and_self, if_true, if_false, Bool.false_eq_true, reduceCtorEq, Nat.reduceAdd, Nat.reduceSub, Int.reduceLT, Int.reduceLE, Int.reduceNeg, decide_true, decide_false, decide_eq_true_eq, Bool.not_true, Bool.not_false, Bool.not_eq_true', decide_eq_false_iff_not, ite_true, ite_false]
          refine hX _ ⟨a, some (S.d (PyData.int ns[i])), c, ?_⟩
          have e : dsum (ns.take (i + 1)) ms = dsum (ns.take i) ms + leadI ms ns[i] := by
            rw [List.take_succ, List.getElem?_eq_getElem hi]
            unfold dsum
            rw [List.map_append, List.sum_append, lead_sum]
            simp
          rw [e]
          unfold leadI
          rw [show ∀ a b c : Int, a + (b - c) = a + b - c by intro a b c; omega]
    · rw [List.getElem?_eq_none (by omega)] at hs
      cases hs
  · obtain ⟨a, b, c, rfl⟩ := hI
    simp only [e_dCmb, e_dSortK, e_keyS, e_dSeq, e_dIfS, e_dRet, e_dRetN, e_dRetB, e_dAsg, e_dPar, e_dAsgG, e_dDrop, e_dNext, e_dBrk, e_dCont, e_dNever, e_dFor, e_dFreeze, e_dRetO, e_dNewL, e_dApp, e_dWhile, e_dVar, e_dC, e_dOp1, e_dOp2, e_dCB, e_dNil, e_dCons, e_dB, e_dAnd, e_dOr, e_dNot, e_dAndV, e_dOrV, e_dNotV, e_dIf, e_dTup, e_dLst, e_dIsI, e_dCall, e_dCallK, e_dChain, e_dSl, e_dPart, e_dNoPart, e_dYes, e_dFnCall, e_dCallF, e_dIter, e_dRng1, e_dRng2, e_dEnum, e_dComp, e_gN, e_gBw, e_gOw, e_gT, e_gTn, e_gTc, e_dDef, e_lamM, e_gL, onIB_i, onIB_b, bwS_b, lenBS_b, e_dCompB, plain_bowls, isOwn_bowls, inOp_li, inOp_ti, e_dLenSet, e_dCallD, e_dPl, e_dNewO, e_dCopyO, e_dNewD, e_dDisp, e_prs_nil, e_prs_cons, e_dSets, e_dSetsN, e_sets_cons, e_sets_nil, e_dAppPop, e_dGet2, e_dKeys, e_dVals, e_dItems, e_dPut, e_dFreezeD, e_dSumV, onDc_d, onDc_o, onDz_d, keyR_i, keyR_s, flatK_nil, merge1, e_dStar, e_dComp2, e_dPar3, e_dZip, repS_t, repS_l, ixS_t0, ixS_t1, onBs_tt, rg1S_t, rg1S_l, rg2S_t, rg2S_l, revS_t, revS_l, onDs_map, onDs_map0, startR, lamR, slotR, wipeR, hideR, fits, perm,
  plain_d, plain_bowl, plain_ro, onD_d, onI_i, onB_b, onSq_l, onSq_t, onSq_o, onSq_r, onLs_l, onLs_o, onLs_r, onSeq_l, onSeq_t, onSeq_r, onDs_nil, onDs_d, addS_i, addS_t, addS_l, intP_i, int2_i, negS_i, bix_i, one_s, two_s, isN_d, notN_d, eqS_ii, neS_ii, eqS_in, eqS_bb, ty_tuple_none, ty_tuple_bool, ty_tuple_int, ty_tuple_str, ty_tuple_tuple, ty_tuple_list, ty_tuple_dict, ty_list_none, ty_list_bool, ty_list_int, ty_list_str, ty_list_tuple, ty_list_list, ty_list_dict, ty_bool_none, ty_bool_bool, ty_bool_int, ty_bool_str, ty_bool_tuple, ty_bool_list, ty_bool_dict, ty_int_none, ty_int_bool, ty_int_int, ty_int_str, ty_int_tuple, ty_int_list, ty_int_dict, ty_str_none, ty_str_bool, ty_str_int, ty_str_str, ty_str_tuple, ty_str_list, ty_str_dict, ty_dict_none, ty_dict_bool, ty_dict_int, ty_dict_str, ty_dict_tuple, ty_dict_list, ty_dict_dict, not_true_eq_false, not_false_eq_true, Bool.and_true, Bool.true_and, Bool.and_false, Bool.false_and, Bool.or_true, Bool.true_or, Bool.or_false, Bool.false_or, Bool.true_eq_false, Int.toNat_natCast, isOwn_d, isOwn_bowl, isOwn_ro, isOwn_fn, onIs_map, onBs_map,
  List.map_cons, List.map_nil, List.length_cons, List.length_nil, List.replicate_succ, List.replicate_zero, List.cons_append, List.nil_append, List.append_nil, List.getElem?_cons_zero, List.getElem?_cons_succ, List.set_cons_zero, List.set_cons_succ, List.filterMap_cons, List.filterMap_nil, Option.map, List.mem_cons, List.not_mem_nil, or_false, false_or, forall_eq_or_imp, forall_eq, implies_true, false_imp_iff, List.length_map, and_true, true_and, and_self, if_true, if_false, Bool.false_eq_true, reduceCtorEq, Nat.reduceAdd, Nat.reduceSub, Int.reduceLT, Int.reduceLE, Int.reduceNeg, decide_true, decide_false, decide_eq_true_eq, Bool.not_true, Bool.not_false, Bool.not_eq_true', decide_eq_false_iff_not, ite_true, ite_false]
    rw [Nat.zero_add, List.take_length]
    exact h
theorem while_rule {c : MT} {b : MS} {k : Kt} (I : Rho → Prop) (μ : Rho → Nat) (hs : ∀ (ρ : Rho) (X : Rho → Prop), I ρ → (∀ ρ2, I ρ2 → μ ρ2 < μ ρ → X ρ2) → c ρ (fun x => if x = true then b ρ { k with nx := X, ct := X, bk := k.nx } else k.nx ρ) (k.ex ρ)) :
    ∀ (n : Nat) (ρ : Rho), I ρ → μ ρ < n → whileN c b n ρ k
  | 0, ρ, _, h => absurd h (Nat.not_lt_zero _)
  | n + 1, ρ, hI, h => by
    unfold whileN
    exact hs ρ _ hI fun ρ2 h2 hlt => while_rule I μ hs n ρ2 h2 (by omega)
theorem while_do {c : MT} {b : MS} {k : Kt} {ρ : Rho} (I : Rho → Prop) (μ : Rho → Nat) (h0 : I ρ) (hs : ∀ (ρ : Rho) (X : Rho → Prop), I ρ → (∀ ρ2, I ρ2 → μ ρ2 < μ ρ → X ρ2) → c ρ (fun x => if x = true then b ρ { k with nx := X, ct := X, bk := k.nx } else k.nx ρ) (k.ex ρ)) : ∃ n, whileN c b n ρ k :=
  ⟨_, while_rule I μ hs _ ρ h0 (Nat.lt_succ_self _)⟩
/-- the greatest common part -/
def gI (n m : Int) : Int := (Nat.gcd n.natAbs m.natAbs : Nat)
theorem gI_def (n m : Int) : ((Nat.gcd n.natAbs m.natAbs : Nat) : Int) = gI n m := rfl
theorem gI_pos {n m : Int} (h : 0 < m) : 0 < gI n m := by
  unfold gI
  have : 0 < Nat.gcd n.natAbs m.natAbs := Nat.gcd_pos_of_pos_right _ (by omega)
  omega
theorem gI_le {n m : Int} (h : 0 < m) : gI n m ≤ m := by
  unfold gI
  have : Nat.gcd n.natAbs m.natAbs ≤ m.natAbs := Nat.gcd_le_right _ (by omega)
  omega
theorem gI_dl (n m : Int) : gI n m ∣ n := by
  unfold gI
  exact Int.ofNat_dvd_left.mpr (Nat.gcd_dvd_left _ _)
theorem gI_dr (n m : Int) : gI n m ∣ m := by
  unfold gI
  exact Int.ofNat_dvd_left.mpr (Nat.gcd_dvd_right _ _)
/-- in lowest terms -/
def lowP (n m : Int) : PyData := .tuple [.int (n / gI n m), .int (m / gI n m)]
theorem w_is_tuple_of {d : PyData} {k : Int} {Q : S → Prop} {E : Exn → Prop} {l : List PyData} (h : Q (.d (.bool (decide ((l.length : Int) = k))))) : m_is_tuple_of [.d (.tuple l), .d (.int k)] Q E := by
  simp only [m_is_tuple_of, b_is_tuple_of, e_dCmb, e_dSortK, e_keyS, e_dSeq, e_dIfS, e_dRet, e_dRetN, e_dRetB, e_dAsg, e_dPar, e_dAsgG, e_dDrop, e_dNext, e_dBrk, e_dCont, e_dNever, e_dFor, e_dFreeze, e_dRetO, e_dNewL, e_dApp, e_dWhile, e_dVar, e_dC, e_dOp1, e_dOp2, e_dCB, e_dNil, e_dCons, e_dB, e_dAnd, e_dOr, e_dNot, e_dAndV, e_dOrV, e_dNotV, e_dIf, e_dTup, e_dLst, e_dIsI, e_dCall, e_dCallK, e_dChain, e_dSl, e_dPart, e_dNoPart, e_dYes, e_dFnCall, e_dCallF, e_dIter, e_dRng1, e_dRng2, e_dEnum, e_dComp, e_gN, e_gBw, e_gOw, e_gT, e_gTn, e_gTc, e_dDef, e_lamM, e_gL, onIB_i, onIB_b, bwS_b, lenBS_b, e_dCompB, plain_bowls, isOwn_bowls, inOp_li, inOp_ti, e_dLenSet, e_dCallD, e_dPl, e_dNewO, e_dCopyO, e_dNewD, e_dDisp, e_prs_nil, e_prs_cons, e_dSets, e_dSetsN, e_sets_cons, e_sets_nil, e_dAppPop, e_dGet2, e_dKeys, e_dVals, e_dItems, e_dPut, e_dFreezeD, e_dSumV, onDc_d, onDc_o, onDz_d, keyR_i, keyR_s, flatK_nil, merge1, e_dStar, e_dComp2, e_dPar3, e_dZip, repS_t, repS_l, ixS_t0, ixS_t1, onBs_tt, rg1S_t, rg1S_l, rg2S_t, rg2S_l, revS_t, revS_l, onDs_map, onDs_map0, startR, lamR, slotR, wipeR, hideR, fits, perm,
  plain_d, plain_bowl, plain_ro, onD_d, onI_i, onB_b, onSq_l, onSq_t, onSq_o, onSq_r, onLs_l, onLs_o, onLs_r, onSeq_l, onSeq_t, onSeq_r, onDs_nil, onDs_d, addS_i, addS_t, addS_l, intP_i, int2_i, negS_i, bix_i, one_s, two_s, isN_d, notN_d, eqS_ii, neS_ii, eqS_in, eqS_bb, ty_tuple_none, ty_tuple_bool, ty_tuple_int, ty_tuple_str, ty_tuple_tuple, ty_tuple_list, ty_tuple_dict, ty_list_none, ty_list_bool, ty_list_int, ty_list_str, ty_list_tuple, ty_list_list, ty_list_dict, ty_bool_none, ty_bool_bool, ty_bool_int, ty_bool_str, ty_bool_tuple, ty_bool_list, ty_bool_dict, ty_int_none, ty_int_bool, ty_int_int, ty_int_str, ty_int_tuple, ty_int_list, ty_int_dict, ty_str_none, ty_str_bool, ty_str_int, ty_str_str, ty_str_tuple, ty_str_list, ty_str_dict, ty_dict_none, ty_dict_bool, ty_dict_int, ty_dict_str, ty_dict_tuple, ty_dict_list, ty_dict_dict, not_true_eq_false, not_false_eq_true, Bool.and_true, Bool.true_and, Bool.and_false, Bool.false_and, Bool.or_true, Bool.true_or, Bool.or_false, Bool.false_or, Bool.true_eq_false, Int.toNat_natCast, isOwn_d, isOwn_bowl, isOwn_ro, isOwn_fn, onIs_map, onBs_map,
  List.map_cons, List.map_nil, List.length_cons, List.length_nil, List.replicate_succ, List.replicate_zero, List.cons_append, List.nil_append, List.append_nil, List.getElem?_cons_zero, List.getElem?_cons_succ, List.set_cons_zero, List.set_cons_succ, List.filterMap_cons, List.filterMap_nil, Option.map, List.mem_cons, List.not_mem_nil, or_false, false_or, forall_eq_or_imp, forall_eq, implies_true, false_imp_iff, List.length_map, and_true, true_and, and_self, if_true, if_false, Bool.false_eq_true, reduceCtorEq, Nat.reduceAdd, Nat.reduceSub, Int.reduceLT, Int.reduceLE, Int.reduceNeg, decide_true, decide_false, decide_eq_true_eq, Bool.not_true, Bool.not_false, Bool.not_eq_true', decide_eq_false_iff_not, ite_true, ite_false]
  exact h
theorem w_is_pair {a b : PyData} {Q : S → Prop} {E : Exn → Prop} (h : Q (.d (.bool true))) : m_is_pair [.d (.tuple [a, b])] Q E := by
  simp only [m_is_pair, b_is_pair, e_dCmb, e_dSortK, e_keyS, e_dSeq, e_dIfS, e_dRet, e_dRetN, e_dRetB, e_dAsg, e_dPar, e_dAsgG, e_dDrop, e_dNext, e_dBrk, e_dCont, e_dNever, e_dFor, e_dFreeze, e_dRetO, e_dNewL, e_dApp, e_dWhile, e_dVar, e_dC, e_dOp1, e_dOp2, e_dCB, e_dNil, e_dCons, e_dB, e_dAnd, e_dOr, e_dNot, e_dAndV, e_dOrV, e_dNotV, e_dIf, e_dTup, e_dLst, e_dIsI, e_dCall, e_dCallK, e_dChain, e_dSl, e_dPart, e_dNoPart, e_dYes, e_dFnCall, e_dCallF, e_dIter, e_dRng1, e_dRng2, e_dEnum, e_dComp, e_gN, e_gBw, e_gOw, e_gT, e_gTn, e_gTc, e_dDef, e_lamM, e_gL, onIB_i, onIB_b, bwS_b, lenBS_b, e_dCompB, plain_bowls, isOwn_bowls, inOp_li, inOp_ti, e_dLenSet, e_dCallD, e_dPl, e_dNewO, e_dCopyO, e_dNewD, e_dDisp, e_prs_nil, e_prs_cons, e_dSets, e_dSetsN, e_sets_cons, e_sets_nil, e_dAppPop, e_dGet2, e_dKeys, e_dVals, e_dItems, e_dPut, e_dFreezeD, e_dSumV, onDc_d, onDc_o, onDz_d, keyR_i, keyR_s, flatK_nil, merge1, e_dStar, e_dComp2, e_dPar3, e_dZip, repS_t, repS_l, ixS_t0, ixS_t1, onBs_tt, rg1S_t, rg1S_l, rg2S_t, rg2S_l, revS_t, revS_l, onDs_map, onDs_map0, startR, lamR, slotR, wipeR, hideR, fits, perm,
  plain_d, plain_bowl, plain_ro, onD_d, onI_i, onB_b, onSq_l, onSq_t, onSq_o, onSq_r, onLs_l, onLs_o, onLs_r, onSeq_l, onSeq_t, onSeq_r, onDs_nil, onDs_d, addS_i, addS_t, addS_l, intP_i, int2_i, negS_i, bix_i, one_s, two_s, isN_d, notN_d, eqS_ii, neS_ii, eqS_in, eqS_bb, ty_tuple_none, ty_tuple_bool, ty_tuple_int, ty_tuple_str, ty_tuple_tuple, ty_tuple_list, ty_tuple_dict, ty_list_none, ty_list_bool, ty_list_int, ty_list_str, ty_list_tuple, ty_list_list, ty_list_dict, ty_bool_none, ty_bool_bool, ty_bool_int, ty_bool_str, ty_bool_tuple, ty_bool_list, ty_bool_dict, ty_int_none, ty_int_bool, ty_int_int, ty_int_str, ty_int_tuple, ty_int_list, ty_int_dict, ty_str_none, ty_str_bool, ty_str_int, ty_str_str, ty_str_tuple, ty_str_list, ty_str_dict, ty_dict_none, ty_dict_bool, ty_dict_int, ty_dict_str, ty_dict_tuple, ty_dict_list, ty_dict_dict, not_true_eq_false, not_false_eq_true, Bool.and_true, Bool.true_and, Bool.and_false, Bool.false_and, Bool.or_true, Bool.true_or, Bool.or_false, Bool.false_or, Bool.true_eq_false, Int.toNat_natCast, isOwn_d, isOwn_bowl, isOwn_ro, isOwn_fn, onIs_map, onBs_map,
  List.map_cons, List.map_nil, List.length_cons, List.length_nil, List.replicate_succ, List.replicate_zero, List.cons_append, List.nil_append, List.append_nil, List.getElem?_cons_zero, List.getElem?_cons_succ, List.set_cons_zero, List.set_cons_succ, List.filterMap_cons, List.filterMap_nil, Option.map, List.mem_cons, List.not_mem_nil, or_false, false_or, forall_eq_or_imp, forall_eq, implies_true, false_imp_iff, List.length_map, and_true, true_and, and_self, if_true, if_false, Bool.false_eq_true, reduceCtorEq, Nat.reduceAdd, Nat.reduceSub, Int.reduceLT, Int.reduceLE, Int.reduceNeg, decide_true, decide_false, decide_eq_true_eq, Bool.not_true, Bool.not_false, Bool.not_eq_true', decide_eq_false_iff_not, ite_true, ite_false]
  refine w_is_tuple_of (d := .none) ?_
  simp only [e_dCmb, e_dSortK, e_keyS, e_dSeq, e_dIfS, e_dRet, e_dRetN, e_dRetB, e_dAsg, e_dPar, e_dAsgG, e_dDrop, e_dNext, e_dBrk, e_dCont, e_dNever, e_dFor, e_dFreeze, e_dRetO, e_dNewL, e_dApp, e_dWhile, e_dVar, e_dC, e_dOp1, e_dOp2, e_dCB, e_dNil, e_dCons, e_dB, e_dAnd, e_dOr, e_dNot, e_dAndV, e_dOrV, e_dNotV, e_dIf, e_dTup, e_dLst, e_dIsI, e_dCall, e_dCallK, e_dChain, e_dSl, e_dPart, e_dNoPart, e_dYes, e_dFnCall, e_dCallF, e_dIter, e_dRng1, e_dRng2, e_dEnum, e_dComp, e_gN, e_gBw, e_gOw, e_gT, e_gTn, e_gTc, e_dDef, e_lamM, e_gL, onIB_i, onIB_b, bwS_b, lenBS_b, e_dCompB, plain_bowls, isOwn_bowls, inOp_li, inOp_ti, e_dLenSet, e_dCallD, e_dPl, e_dNewO, e_dCopyO, e_dNewD, e_dDisp, e_prs_nil, e_prs_cons, e_dSets, e_dSetsN, e_sets_cons, e_sets_nil, e_dAppPop, e_dGet2, e_dKeys, e_dVals, e_dItems, e_dPut, e_dFreezeD, e_dSumV, onDc_d, onDc_o, onDz_d, keyR_i, keyR_s, flatK_nil, merge1, e_dStar, e_dComp2, e_dPar3, e_dZip, repS_t, repS_l, ixS_t0, ixS_t1, onBs_tt, rg1S_t, rg1S_l, rg2S_t, rg2S_l, revS_t, revS_l, onDs_map, onDs_map0, startR, lamR, slotR, wipeR, hideR, fits, perm,
  plain_d, plain_bowl, plain_ro, onD_d, onI_i, onB_b, onSq_l, onSq_t, onSq_o, onSq_r, onLs_l, onLs_o, onLs_r, onSeq_l, onSeq_t, onSeq_r, onDs_nil, onDs_d, addS_i, addS_t, addS_l, intP_i, int2_i, negS_i, bix_i, one_s, two_s, isN_d, notN_d, eqS_ii, neS_ii, eqS_in, eqS_bb, ty_tuple_none, ty_tuple_bool, ty_tuple_int, ty_tuple_str, ty_tuple_tuple, ty_tuple_list, ty_tuple_dict, ty_list_none, ty_list_bool, ty_list_int, ty_list_str, ty_list_tuple, ty_list_list, ty_list_dict, ty_bool_none, ty_bool_bool, ty_bool_int, ty_bool_str, ty_bool_tuple, ty_bool_list, ty_bool_dict, ty_int_none, ty_int_bool, ty_int_int, ty_int_str, ty_int_tuple, ty_int_list, ty_int_dict, ty_str_none, ty_str_bool, ty_str_int, ty_str_str, ty_str_tuple, ty_str_list, ty_str_dict, ty_dict_none, ty_dict_bool, ty_dict_int, ty_dict_str, ty_dict_tuple, ty_dict_list, ty_dict_dict, not_true_eq_false, not_false_eq_true, Bool.and_true, Bool.true_and, Bool.and_false, Bool.false_and, Bool.or_true, Bool.true_or, Bool.or_false, Bool.false_or, Bool.true_eq_false, Int.toNat_natCast, isOwn_d, isOwn_bowl, isOwn_ro, isOwn_fn, onIs_map, onBs_map,
  List.map_cons, List.map_nil, List.length_cons, List.length_nil, List.replicate_succ, List.replicate_zero, List.cons_append, List.nil_append, List.append_nil, List.getElem?_cons_zero, List.getElem?_cons_succ, List.set_cons_zero, List.set_cons_succ, List.filterMap_cons, List.filterMap_nil, Option.map, List.mem_cons, List.not_mem_nil, or_false, false_or, forall_eq_or_imp, forall_eq, implies_true, false_imp_iff, List.length_map, and_true, true_and, and_self, if_true, if_false, Bool.false_eq_true, reduceCtorEq, Nat.reduceAdd, Nat.reduceSub, Int.reduceLT, Int.reduceLE, Int.reduceNeg, decide_true, decide_false, decide_eq_true_eq, Bool.not_true, Bool.not_false, Bool.not_eq_true', decide_eq_false_iff_not, ite_true, ite_false]
  exact h
theorem w_is_fraction {n m : Int} {Q : S → Prop} {E : Exn → Prop} (h : Q (.d (.bool (decide (0 < m ∧ gI n m = 1))))) : m_is_fraction [.d (.tuple [.int n, .int m])] Q E := by
  simp only [m_is_fraction, b_is_fraction, e_dCmb, e_dSortK, e_keyS, e_dSeq, e_dIfS, e_dRet, e_dRetN, e_dRetB, e_dAsg, e_dPar, e_dAsgG, e_dDrop, e_dNext, e_dBrk, e_dCont, e_dNever, e_dFor, e_dFreeze, e_dRetO, e_dNewL, e_dApp, e_dWhile, e_dVar, e_dC, e_dOp1, e_dOp2, e_dCB, e_dNil, e_dCons, e_dB, e_dAnd, e_dOr, e_dNot, e_dAndV, e_dOrV, e_dNotV, e_dIf, e_dTup, e_dLst, e_dIsI, e_dCall, e_dCallK, e_dChain, e_dSl, e_dPart, e_dNoPart, e_dYes, e_dFnCall, e_dCallF, e_dIter, e_dRng1, e_dRng2, e_dEnum, e_dComp, e_gN, e_gBw, e_gOw, e_gT, e_gTn, e_gTc, e_dDef, e_lamM, e_gL, onIB_i, onIB_b, bwS_b, lenBS_b, e_dCompB, plain_bowls, isOwn_bowls, inOp_li, inOp_ti, e_dLenSet, e_dCallD, e_dPl, e_dNewO, e_dCopyO, e_dNewD, e_dDisp, e_prs_nil, e_prs_cons, e_dSets, e_dSetsN, e_sets_cons, e_sets_nil, e_dAppPop, e_dGet2, e_dKeys, e_dVals, e_dItems, e_dPut, e_dFreezeD, e_dSumV, onDc_d, onDc_o, onDz_d, keyR_i, keyR_s, flatK_nil, merge1, e_dStar, e_dComp2, e_dPar3, e_dZip, repS_t, repS_l, ixS_t0, ixS_t1, onBs_tt, rg1S_t, rg1S_l, rg2S_t, rg2S_l, revS_t, revS_l, onDs_map, onDs_map0, startR, lamR, slotR, wipeR, hideR, fits, perm,
  plain_d, plain_bowl, plain_ro, onD_d, onI_i, onB_b, onSq_l, onSq_t, onSq_o, onSq_r, onLs_l, onLs_o, onLs_r, onSeq_l, onSeq_t, onSeq_r, onDs_nil, onDs_d, addS_i, addS_t, addS_l, intP_i, int2_i, negS_i, bix_i, one_s, two_s, isN_d, notN_d, eqS_ii, neS_ii, eqS_in, eqS_bb, ty_tuple_none, ty_tuple_bool, ty_tuple_int, ty_tuple_str, ty_tuple_tuple, ty_tuple_list, ty_tuple_dict, ty_list_none, ty_list_bool, ty_list_int, ty_list_str, ty_list_tuple, ty_list_list, ty_list_dict, ty_bool_none, ty_bool_bool, ty_bool_int, ty_bool_str, ty_bool_tuple, ty_bool_list, ty_bool_dict, ty_int_none, ty_int_bool, ty_int_int, ty_int_str, ty_int_tuple, ty_int_list, ty_int_dict, ty_str_none, ty_str_bool, ty_str_int, ty_str_str, ty_str_tuple, ty_str_list, ty_str_dict, ty_dict_none, ty_dict_bool, ty_dict_int, ty_dict_str, ty_dict_tuple, ty_dict_list, ty_dict_dict, not_true_eq_false, not_false_eq_true, Bool.and_true, Bool.true_and, Bool.and_false, Bool.false_and, Bool.or_true, Bool.true_or, Bool.or_false, Bool.false_or, Bool.true_eq_false, Int.toNat_natCast, isOwn_d, isOwn_bowl, isOwn_ro, isOwn_fn, onIs_map, onBs_map,
  List.map_cons, List.map_nil, List.length_cons, List.length_nil, List.replicate_succ, List.replicate_zero, List.cons_append, List.nil_append, List.append_nil, List.getElem?_cons_zero, List.getElem?_cons_succ, List.set_cons_zero, List.set_cons_succ, List.filterMap_cons, List.filterMap_nil, Option.map, List.mem_cons, List.not_mem_nil, or_false, false_or, forall_eq_or_imp, forall_eq, implies_true, false_imp_iff, List.length_map, and_true, true_and, and_self, if_true, if_false, Bool.false_eq_true, reduceCtorEq, Nat.reduceAdd, Nat.reduceSub, Int.reduceLT, Int.reduceLE, Int.reduceNeg, decide_true, decide_false, decide_eq_true_eq, Bool.not_true, Bool.not_false, Bool.not_eq_true', decide_eq_false_iff_not, ite_true, ite_false]
  refine w_is_pair ?_
  simp only [e_dCmb, e_dSortK, e_keyS, e_dSeq, e_dIfS, e_dRet, e_dRetN, e_dRetB, e_dAsg, e_dPar, e_dAsgG, e_dDrop, e_dNext, e_dBrk, e_dCont, e_dNever, e_dFor, e_dFreeze, e_dRetO, e_dNewL, e_dApp, e_dWhile, e_dVar, e_dC, e_dOp1, e_dOp2, e_dCB, e_dNil, e_dCons, e_dB, e_dAnd, e_dOr, e_dNot, e_dAndV, e_dOrV, e_dNotV, e_dIf, e_dTup, e_dLst, e_dIsI, e_dCall, e_dCallK, e_dChain, e_dSl, e_dPart, e_dNoPart, e_dYes, e_dFnCall, e_dCallF, e_dIter, e_dRng1, e_dRng2, e_dEnum, e_dComp, e_gN, e_gBw, e_gOw, e_gT, e_gTn, e_gTc, e_dDef, e_lamM, e_gL, onIB_i, onIB_b, bwS_b, lenBS_b, e_dCompB, plain_bowls, isOwn_bowls, inOp_li, inOp_ti, e_dLenSet, e_dCallD, e_dPl, e_dNewO, e_dCopyO, e_dNewD, e_dDisp, e_prs_nil, e_prs_cons, e_dSets, e_dSetsN, e_sets_cons, e_sets_nil, e_dAppPop, e_dGet2, e_dKeys, e_dVals, e_dItems, e_dPut, e_dFreezeD, e_dSumV, onDc_d, onDc_o, onDz_d, keyR_i, keyR_s, flatK_nil, merge1, e_dStar, e_dComp2, e_dPar3, e_dZip, repS_t, repS_l, ixS_t0, ixS_t1, onBs_tt, rg1S_t, rg1S_l, rg2S_t, rg2S_l, revS_t, revS_l, onDs_map, onDs_map0, startR, lamR, slotR, wipeR, hideR, fits, perm,
  plain_d, plain_bowl, plain_ro, onD_d, onI_i, onB_b, onSq_l, onSq_t, onSq_o, onSq_r, onLs_l, onLs_o, onLs_r, onSeq_l, onSeq_t, onSeq_r, onDs_nil, onDs_d, addS_i, addS_t, addS_l, intP_i, int2_i, negS_i, bix_i, one_s, two_s, isN_d, notN_d, eqS_ii, neS_ii, eqS_in, eqS_bb, ty_tuple_none, ty_tuple_bool, ty_tuple_int, ty_tuple_str, ty_tuple_tuple, ty_tuple_list, ty_tuple_dict, ty_list_none, ty_list_bool, ty_list_int, ty_list_str, ty_list_tuple, ty_list_list, ty_list_dict, ty_bool_none, ty_bool_bool, ty_bool_int, ty_bool_str, ty_bool_tuple, ty_bool_list, ty_bool_dict, ty_int_none, ty_int_bool, ty_int_int, ty_int_str, ty_int_tuple, ty_int_list, ty_int_dict, ty_str_none, ty_str_bool, ty_str_int, ty_str_str, ty_str_tuple, ty_str_list, ty_str_dict, ty_dict_none, ty_dict_bool, ty_dict_int, ty_dict_str, ty_dict_tuple, ty_dict_list, ty_dict_dict, not_true_eq_false, not_false_eq_true, Bool.and_true, Bool.true_and, Bool.and_false, Bool.false_and, Bool.or_true, Bool.true_or, Bool.or_false, Bool.false_or, Bool.true_eq_false, Int.toNat_natCast, isOwn_d, isOwn_bowl, isOwn_ro, isOwn_fn, onIs_map, onBs_map,
  List.map_cons, List.map_nil, List.length_cons, List.length_nil, List.replicate_succ, List.replicate_zero, List.cons_append, List.nil_append, List.append_nil, List.getElem?_cons_zero, List.getElem?_cons_succ, List.set_cons_zero, List.set_cons_succ, List.filterMap_cons, List.filterMap_nil, Option.map, List.mem_cons, List.not_mem_nil, or_false, false_or, forall_eq_or_imp, forall_eq, implies_true, false_imp_iff, List.length_map, and_true, true_and, and_self, if_true, if_false, Bool.false_eq_true, reduceCtorEq, Nat.reduceAdd, Nat.reduceSub, Int.reduceLT, Int.reduceLE, Int.reduceNeg, decide_true, decide_false, decide_eq_true_eq, Bool.not_true, Bool.not_false, Bool.not_eq_true', decide_eq_false_iff_not, ite_true, ite_false]
  refine compL_ints (ns := [n, m]) rfl (fun _ => true) (fun _ => PyData.bool true) (sizeLine_ge (by simp)) (fun j F Z hj h1 h2 => ?_) ?_
  · simp only [e_dCmb, e_dSortK, e_keyS, e_dSeq, e_dIfS, e_dRet, e_dRetN, e_dRetB, e_dAsg, e_dPar, e_dAsgG, e_dDrop, e_dNext, e_dBrk, e_dCont, e_dNever, e_dFor, e_dFreeze, e_dRetO, e_dNewL, e_dApp, e_dWhile, e_dVar, e_dC, e_dOp1, e_dOp2, e_dCB, e_dNil, e_dCons, e_dB, e_dAnd, e_dOr, e_dNot, e_dAndV, e_dOrV, e_dNotV, e_dIf, e_dTup, e_dLst, e_dIsI, e_dCall, e_dCallK, e_dChain, e_dSl, e_dPart, e_dNoPart, e_dYes, e_dFnCall, e_dCallF, e_dIter, e_dRng1, e_dRng2, e_dEnum, e_dComp, e_gN, e_gBw, e_gOw, e_gT, e_gTn, e_gTc, e_dDef, e_lamM, e_gL, onIB_i, onIB_b, bwS_b, lenBS_b, e_dCompB, plain_bowls, isOwn_bowls, inOp_li, inOp_ti, e_dLenSet, e_dCallD, e_dPl, e_dNewO, e_dCopyO, e_dNewD, e_dDisp, e_prs_nil, e_prs_cons, e_dSets, e_dSetsN, e_sets_cons, e_sets_nil, e_dAppPop, e_dGet2, e_dKeys, e_dVals, e_dItems, e_dPut, e_dFreezeD, e_dSumV, onDc_d, onDc_o, onDz_d, keyR_i, keyR_s, flatK_nil, merge1, e_dStar, e_dComp2, e_dPar3, e_dZip, repS_t, repS_l, ixS_t0, ixS_t1, onBs_tt, rg1S_t, rg1S_l, rg2S_t, rg2S_l, revS_t, revS_l, onDs_map, onDs_map0, startR, lamR, slotR, wipeR, hideR, fits, perm,
  plain_d, plain_bowl, plain_ro, onD_d, onI_i, onB_b, onSq_l, onSq_t, onSq_o, onSq_r, onLs_l, onLs_o, onLs_r, onSeq_l, onSeq_t, onSeq_r, onDs_nil, onDs_d, addS_i, addS_t, addS_l, intP_i, int2_i, negS_i, bix_i, one_s, two_s, isN_d, notN_d, eqS_ii, neS_ii, eqS_in, eqS_bb, ty_tuple_none, ty_tuple_bool, ty_tuple_int, ty_tuple_str, ty_tuple_tuple, ty_tuple_list, ty_tuple_dict, ty_list_none, ty_list_bool, ty_list_int, ty_list_str, ty_list_tuple, ty_list_list, ty_list_dict, ty_bool_none, ty_bool_bool, ty_bool_int, ty_bool_str, ty_bool_tuple, ty_bool_list, ty_bool_dict, ty_int_none, ty_int_bool, ty_int_int, ty_int_str, ty_int_tuple, ty_int_list, ty_int_dict, ty_str_none, ty_str_bool, ty_str_int, ty_str_str, ty_str_tuple, ty_str_list, ty_str_dict, ty_dict_none, ty_dict_bool, ty_dict_int, ty_dict_str, ty_dict_tuple, ty_dict_list, ty_dict_dict, not_true_eq_false, not_false_eq_true, Bool.and_true, Bool.true_and, Bool.and_false, Bool.false_and, Bool.or_true, Bool.true_or, Bool.or_false, Bool.false_or, Bool.true_eq_false, Int.toNat_natCast, isOwn_d, isOwn_bowl, isOwn_ro, isOwn_fn, onIs_map, onBs_map,
  List.map_cons, List.map_nil, List.length_cons, List.length_nil, List.replicate_succ, List.replicate_zero, List.cons_append, List.nil_append, List.append_nil, List.getElem?_cons_zero, List.getElem?_cons_succ, List.set_cons_zero, List.set_cons_succ, List.filterMap_cons, List.filterMap_nil, Option.map, List.mem_cons, List.not_mem_nil, or_false, false_or, forall_eq_or_imp, forall_eq, implies_true, false_imp_iff, List.length_map, and_true, true_and, and_self, if_true, if_false, Bool.false_eq_true, reduceCtorEq, Nat.reduceAdd, Nat.reduceSub, Int.reduceLT, Int.reduceLE, Int.reduceNeg, decide_true, decide_false, decide_eq_true_eq, Bool.not_true, Bool.not_false, Bool.not_eq_true', decide_eq_false_iff_not, ite_true, ite_false]
    refine w_is_whole ?_
    simp only [e_dCmb, e_dSortK, e_keyS, e_dSeq, e_dIfS, e_dRet, e_dRetN, e_dRetB, e_dAsg, e_dPar, e_dAsgG, e_dDrop, e_dNext, e_dBrk, e_dCont, e_dNever, e_dFor, e_dFreeze, e_dRetO, e_dNewL, e_dApp, e_dWhile, e_dVar, e_dC, e_dOp1, e_dOp2, e_dCB, e_dNil, e_dCons, e_dB, e_dAnd, e_dOr, e_dNot, e_dAndV, e_dOrV, e_dNotV, e_dIf, e_dTup, e_dLst, e_dIsI, e_dCall, e_dCallK, e_dChain, e_dSl, e_dPart, e_dNoPart, e_dYes, e_dFnCall, e_dCallF, e_dIter, e_dRng1, e_dRng2, e_dEnum, e_dComp, e_gN, e_gBw, e_gOw, e_gT, e_gTn, e_gTc, e_dDef, e_lamM, e_gL, onIB_i, onIB_b, bwS_b, lenBS_b, e_dCompB, plain_bowls, isOwn_bowls, inOp_li, inOp_ti, e_dLenSet, e_dCallD, e_dPl, e_dNewO, e_dCopyO, e_dNewD, e_dDisp, e_prs_nil, e_prs_cons, e_dSets, e_dSetsN, e_sets_cons, e_sets_nil, e_dAppPop, e_dGet2, e_dKeys, e_dVals, e_dItems, e_dPut, e_dFreezeD, e_dSumV, onDc_d, onDc_o, onDz_d, keyR_i, keyR_s, flatK_nil, merge1, e_dStar, e_dComp2, e_dPar3, e_dZip, repS_t, repS_l, ixS_t0, ixS_t1, onBs_tt, rg1S_t, rg1S_l, rg2S_t, rg2S_l, revS_t, revS_l, onDs_map, onDs_map0, startR, lamR, slotR, wipeR, hideR, fits, perm,
  plain_d, plain_bowl, plain_ro, onD_d, onI_i, onB_b, onSq_l, onSq_t, onSq_o, onSq_r, onLs_l, onLs_o, onLs_r, onSeq_l, onSeq_t, onSeq_r, onDs_nil, onDs_d, addS_i, addS_t, addS_l, intP_i, int2_i, negS_i, bix_i, one_s, two_s, isN_d, notN_d, eqS_ii, neS_ii, eqS_in, eqS_bb, ty_tuple_none, ty_tuple_bool, ty_tuple_int, ty_tuple_str, ty_tuple_tuple, ty_tuple_list, ty_tuple_dict, ty_list_none, ty_list_bool, ty_list_int, ty_list_str, ty_list_tuple, ty_list_list, ty_list_dict, ty_bool_none, ty_bool_bool, ty_bool_int, ty_bool_str, ty_bool_tuple, ty_bool_list, ty_bool_dict, ty_int_none, ty_int_bool, ty_int_int, ty_int_str, ty_int_tuple, ty_int_list, ty_int_dict, ty_str_none, ty_str_bool, ty_str_int, ty_str_str, ty_str_tuple, ty_str_list, ty_str_dict, ty_dict_none, ty_dict_bool, ty_dict_int, ty_dict_str, ty_dict_tuple, ty_dict_list, ty_dict_dict, not_true_eq_false, not_false_eq_true, Bool.and_true, Bool.true_and, Bool.and_false, Bool.false_and, Bool.or_true, Bool.true_or, Bool.or_false, Bool.false_or, Bool.true_eq_false, Int.toNat_natCast, isOwn_d, isOwn_bowl, isOwn_ro, isOwn_fn, onIs_map, onBs_map,
  List.map_cons, List.map_nil, List.length_cons, List.length_nil, List.replicate_succ, List.replicate_zero, List.cons_append, List.nil_append, List.append_nil, List.getElem?_cons_zero, List.getElem?_cons_succ, List.set_cons_zero, List.set_cons_succ, List.filterMap_cons, List.filterMap_nil, Option.map, List.mem_cons, List.not_mem_nil, or_false, false_or, forall_eq_or_imp, forall_eq, implies_true, false_imp_iff, List.length_map, and_true, true_and, and_self, if_true, if_false, Bool.false_eq_true, reduceCtorEq, Nat.reduceAdd, Nat.reduceSub, Int.reduceLT, Int.reduceLE, Int.reduceNeg, decide_true, decide_false, decide_eq_true_eq, Bool.not_true, Bool.not_false, Bool.not_eq_true', decide_eq_false_iff_not, ite_true, ite_false]
    exact h1 rfl
  · rw [filter_true]
    simp only [e_dCmb, e_dSortK, e_keyS, e_dSeq, e_dIfS, e_dRet, e_dRetN, e_dRetB, e_dAsg, e_dPar, e_dAsgG, e_dDrop, e_dNext, e_dBrk, e_dCont, e_dNever, e_dFor, e_dFreeze, e_dRetO, e_dNewL, e_dApp, e_dWhile, e_dVar, e_dC, e_dOp1, e_dOp2, e_dCB, e_dNil, e_dCons, e_dB, e_dAnd, e_dOr, e_dNot, e_dAndV, e_dOrV, e_dNotV, e_dIf, e_dTup, e_dLst, e_dIsI, e_dCall, e_dCallK, e_dChain, e_dSl, e_dPart, e_dNoPart, e_dYes, e_dFnCall, e_dCallF, e_dIter, e_dRng1, e_dRng2, e_dEnum, e_dComp, e_gN, e_gBw, e_gOw, e_gT, e_gTn, e_gTc, e_dDef, e_lamM, e_gL, onIB_i, onIB_b, bwS_b, lenBS_b, e_dCompB, plain_bowls, isOwn_bowls, inOp_li, inOp_ti, e_dLenSet, e_dCallD, e_dPl, e_dNewO, e_dCopyO, e_dNewD, e_dDisp, e_prs_nil, e_prs_cons, e_dSets, e_dSetsN, e_sets_cons, e_sets_nil, e_dAppPop, e_dGet2, e_dKeys, e_dVals, e_dItems, e_dPut, e_dFreezeD, e_dSumV, onDc_d, onDc_o, onDz_d, keyR_i, keyR_s, flatK_nil, merge1, e_dStar, e_dComp2, e_dPar3, e_dZip, repS_t, repS_l, ixS_t0, ixS_t1, onBs_tt, rg1S_t, rg1S_l, rg2S_t, rg2S_l, revS_t, revS_l, onDs_map, onDs_map0, startR, lamR, slotR, wipeR, hideR, fits, perm,
  plain_d, plain_bowl, plain_ro, onD_d, onI_i, onB_b, onSq_l, onSq_t, onSq_o, onSq_r, onLs_l, onLs_o, onLs_r, onSeq_l, onSeq_t, onSeq_r, onDs_nil, onDs_d, addS_i, addS_t, addS_l, intP_i, int2_i, negS_i, bix_i, one_s, two_s, isN_d, notN_d, eqS_ii, neS_ii, eqS_in, eqS_bb, ty_tuple_none, ty_tuple_bool, ty_tuple_int, ty_tuple_str, ty_tuple_tuple, ty_tuple_list, ty_tuple_dict, ty_list_none, ty_list_bool, ty_list_int, ty_list_str, ty_list_tuple, ty_list_list, ty_list_dict, ty_bool_none, ty_bool_bool, ty_bool_int, ty_bool_str, ty_bool_tuple, ty_bool_list, ty_bool_dict, ty_int_none, ty_int_bool, ty_int_int, ty_int_str, ty_int_tuple, ty_int_list, ty_int_dict, ty_str_none, ty_str_bool, ty_str_int, ty_str_str, ty_str_tuple, ty_str_list, ty_str_dict, ty_dict_none, ty_dict_bool, ty_dict_int, ty_dict_str, ty_dict_tuple, ty_dict_list, ty_dict_dict, not_true_eq_false, not_false_eq_true, Bool.and_true, Bool.true_and, Bool.and_false, Bool.false_and, Bool.or_true, Bool.true_or, Bool.or_false, Bool.false_or, Bool.true_eq_false, Int.toNat_natCast, isOwn_d, isOwn_bowl, isOwn_ro, isOwn_fn, onIs_map, onBs_map,
  List.map_cons, List.map_nil, List.length_cons, List.length_nil, List.replicate_succ, List.replicate_zero, List.cons_append, List.nil_append, List.append_nil, List.getElem?_cons_zero, List.getElem?_cons_succ, List.set_cons_zero, List.set_cons_succ, List.filterMap_cons, List.filterMap_nil, Option.map, List.mem_cons, List.not_mem_nil, or_false, false_or, forall_eq_or_imp, forall_eq, implies_true, false_imp_iff, List.length_map, and_true, true_and, and_self, if_true, if_false, Bool.false_eq_true, reduceCtorEq, Nat.reduceAdd, Nat.reduceSub, Int.reduceLT, Int.reduceLE, Int.reduceNeg, decide_true, decide_false, decide_eq_true_eq, Bool.not_true, Bool.not_false, Bool.not_eq_true', decide_eq_false_iff_not, ite_true, ite_false, List.all_cons, List.all_nil, id, gI_def]
    by_cases h1 : 0 < m
    · rw [if_pos h1]
      refine (congrArg (fun b => Q (S.d (PyData.bool b))) ?_).mp h
      exact decide_eq_decide.mpr ⟨fun z => z.2, fun z => ⟨h1, z⟩⟩
    · rw [if_neg h1]
      simpa only [h1, false_and, decide_false] using h
theorem low_mul {n m : Int} (h : 0 < m) : ∃ a b : Int, n / gI n m = a ∧ m / gI n m = b ∧ n = gI n m * a ∧ m = gI n m * b ∧ 0 < b ∧ gI a b = 1 := by
  have hg := gI_pos (n := n) h
  obtain ⟨a, ha⟩ := gI_dl n m
  obtain ⟨b, hb⟩ := gI_dr n m
  have e1 : n / gI n m = a := by
    rw [show n / gI n m = (gI n m * a) / gI n m by rw [← ha]]
    exact Int.mul_ediv_cancel_left _ (by omega)
  have e2 : m / gI n m = b := by
    rw [show m / gI n m = (gI n m * b) / gI n m by rw [← hb]]
    exact Int.mul_ediv_cancel_left _ (by omega)
  have hb0 : 0 < b := by
    rcases Int.lt_trichotomy 0 b with h1 | h1 | h1
    · exact h1
    · rw [← h1, Int.mul_zero] at hb
      omega
    · have := Int.mul_neg_of_pos_of_neg hg h1
      omega
  refine ⟨a, b, e1, e2, ha, hb, hb0, ?_⟩
  have k : gI n m = gI n m * gI a b := by
    have e : gI (gI n m * a) (gI n m * b) = gI n m * gI a b := by
      show ((Nat.gcd (gI n m * a).natAbs (gI n m * b).natAbs : Nat) : Int) = _
      rw [Int.natAbs_mul, Int.natAbs_mul, Nat.gcd_mul_left, Int.natCast_mul, Int.natAbs_of_nonneg (by omega)]
      rfl
    rw [← ha, ← hb] at e
    exact e
  have k2 : gI n m * 1 = gI n m * gI a b := by rw [Int.mul_one]; exact k
  exact (Int.eq_of_mul_eq_mul_left (by omega) k2).symm
/-- a lead: how many are over, less how many are under -/
def leadF (rows : List Int) (n m : Int) : Int := (rows.filter fun x => decide (n < x * m)).length - (rows.filter fun x => decide (x * m < n)).length
theorem leadF_perm {a b : List Int} (h : a.Perm b) (n m : Int) : leadF a n m = leadF b n m := by
  unfold leadF
  rw [(h.filter _).length_eq, (h.filter _).length_eq]
theorem leadF_neg (l : List Int) (n m : Int) : leadF (l.map fun x => 0 - x) (0 - n) m = 0 - leadF l n m := by
  unfold leadF
  rw [List.filter_map, List.filter_map, List.length_map, List.length_map]
  rw [show ((fun x => decide (0 - n < x * m)) ∘ fun x : Int => 0 - x) = fun x => decide (x * m < n) from funext fun x => by
    show decide (0 - n < (0 - x) * m) = _
    rw [Int.sub_mul, Int.zero_mul]
    exact decide_eq_decide.mpr ⟨fun _ => by omega, fun _ => by omega⟩]
  rw [show ((fun x => decide (x * m < 0 - n)) ∘ fun x : Int => 0 - x) = fun x => decide (n < x * m) from funext fun x => by
    show decide ((0 - x) * m < 0 - n) = _
    rw [Int.sub_mul, Int.zero_mul]
    exact decide_eq_decide.mpr ⟨fun _ => by omega, fun _ => by omega⟩]
  omega
theorem leadF_scale (l : List Int) {n m g : Int} (hg : 0 < g) : leadF l (g * n) (g * m) = leadF l n m := by
  unfold leadF
  have e : ∀ x : Int, x * (g * m) = g * (x * m) := fun x => by rw [← Int.mul_assoc, Int.mul_comm x g, Int.mul_assoc]
  congr 3
  · congr 1
    funext x
    rw [e]
    exact decide_eq_decide.mpr ⟨fun h => Int.lt_of_mul_lt_mul_left h (by omega), fun h => Int.mul_lt_mul_of_pos_left h hg⟩
  · congr 1
    funext x
    rw [e]
    exact decide_eq_decide.mpr ⟨fun h => Int.lt_of_mul_lt_mul_left h (by omega), fun h => Int.mul_lt_mul_of_pos_left h hg⟩
theorem leadF_mono (l : List Int) {n m p q : Int} (hm : 0 < m) (hq : 0 < q) (h : n * q ≤ p * m) : leadF l p q ≤ leadF l n m := by
  have c1 : (l.filter fun x => decide (p < x * q)).length ≤ (l.filter fun x => decide (n < x * m)).length := by
    rw [← List.countP_eq_length_filter, ← List.countP_eq_length_filter]
    refine List.countP_mono_left fun x _ hx => ?_
    have hx : p < x * q := of_decide_eq_true hx
    refine decide_eq_true (Int.lt_of_mul_lt_mul_right (a := q) ?_ (by omega))
    have h2 : p * m < x * q * m := Int.mul_lt_mul_of_pos_right hx hm
    have h3 : x * q * m = x * m * q := by rw [Int.mul_assoc, Int.mul_comm q m, ← Int.mul_assoc]
    omega
  have c2 : (l.filter fun x => decide (x * m < n)).length ≤ (l.filter fun x => decide (x * q < p)).length := by
    rw [← List.countP_eq_length_filter, ← List.countP_eq_length_filter]
    refine List.countP_mono_left fun x _ hx => ?_
    have hx : x * m < n := of_decide_eq_true hx
    refine decide_eq_true (Int.lt_of_mul_lt_mul_right (a := m) ?_ (by omega))
    have h2 : x * m * q < n * q := Int.mul_lt_mul_of_pos_right hx hq
    have h3 : x * q * m = x * m * q := by rw [Int.mul_assoc, Int.mul_comm q m, ← Int.mul_assoc]
    omega
  unfold leadF
  omega
theorem leadF_over {l : List Int} {n m : Int} (h : ∀ x ∈ l, n < x * m) : leadF l n m = l.length := by
  unfold leadF
  rw [List.filter_eq_self.mpr fun x hx => decide_eq_true (h x hx), List.filter_eq_nil_iff.mpr fun x hx => by have := h x hx; simp; omega]
  simp
theorem leadF_under {l : List Int} {n m : Int} (h : ∀ x ∈ l, x * m < n) : leadF l n m = 0 - l.length := by
  unfold leadF
  rw [List.filter_eq_self (p := fun x => decide (x * m < n)) |>.mpr fun x hx => decide_eq_true (h x hx), List.filter_eq_nil_iff.mpr fun x hx => by have := h x hx; simp; omega]
  simp
theorem leadF_app (a b : List Int) (n m : Int) : leadF (a ++ b) n m = leadF a n m + leadF b n m := by
  unfold leadF
  rw [List.filter_append, List.filter_append, List.length_append, List.length_append]
  omega
theorem gI_scale (k a b : Int) (h : 0 < k) : gI (k * a) (k * b) = k * gI a b := by
  show ((Nat.gcd (k * a).natAbs (k * b).natAbs : Nat) : Int) = _
  rw [Int.natAbs_mul, Int.natAbs_mul, Nat.gcd_mul_left, Int.natCast_mul, Int.natAbs_of_nonneg (by omega)]
  rfl
theorem low_scale {k n m : Int} (hk : 0 < k) : lowP (k * n) (k * m) = lowP n m := by
  unfold lowP
  rw [gI_scale k n m hk, Int.mul_ediv_mul_of_pos _ _ hk, Int.mul_ediv_mul_of_pos _ _ hk]
theorem low_eq {n m a b : Int} (hm : 0 < m) (hb : 0 < b) (h : n * b = a * m) : lowP n m = lowP a b := by
  rw [← low_scale (k := b) (n := n) (m := m) hb, ← low_scale (k := m) (n := a) (m := b) hm, Int.mul_comm b n, h, Int.mul_comm m a, Int.mul_comm b m]
theorem low_at {n m : Int} (hm : 0 < m) (hn : 0 ≤ n) : ∃ g a b : Int, lowP n m = .tuple [.int a, .int b] ∧ n = g * a ∧ m = g * b ∧ 0 < g ∧ 0 < b ∧ b ≤ m ∧ 0 ≤ a ∧ a ≤ n ∧ gI a b = 1 := by
  obtain ⟨a, b, e1, e2, h1, h2, h3, h4⟩ := low_mul (n := n) hm
  have hg := gI_pos (n := n) hm
  have ha : 0 ≤ a := by
    rw [← e1]
    exact Int.ediv_nonneg hn (by omega)
  refine ⟨gI n m, a, b, by unfold lowP; rw [e1, e2], h1, h2, hg, h3, ?_, ha, ?_, h4⟩
  · rw [← e2]
    exact Int.ediv_le_self _ (by omega)
  · rw [← e1]
    exact Int.ediv_le_self _ hn
theorem smp_low (n m : Int) : Smp 3 (lowP n m) := .tup 2 _ (by simp) (by simp [Smp.int])
theorem neS_low {n m a b : Int} {Q : S → Prop} {E : Exn → Prop} (h : Q (.d (.bool (!decide (n / gI n m = a / gI a b ∧ m / gI n m = b / gI a b))))) : eqS true (.d (lowP n m)) (.d (lowP a b)) Q E := by
  have h1 : ∀ x y : Int, SeqAt.shaped (.tuple [.int x, .int y]) = true := fun x y => (shp_ints (ns := [x, y])).sh
  have e : ∀ x y a b : Int, PyData.eqv (.tuple [.int x, .int y]) (.tuple [.int a, .int b]) = decide (x = a ∧ y = b) := fun x y a b => by
    show ((x == a) && ((y == b) && true)) = _
    by_cases p : x = a <;> by_cases q : y = b <;> simp [p, q]
  unfold lowP
  refine ⟨h1 _ _, h1 _ _, ?_⟩
  show Q (.d (.bool (!PyData.eqv (.tuple [.int _, .int _]) (.tuple [.int _, .int _]))))
  rw [e]
  exact h
theorem neS_same {n m a b : Int} {Q : S → Prop} {E : Exn → Prop} (e : lowP n m = lowP a b) (h : Q (.d (.bool false))) : eqS true (.d (lowP n m)) (.d (lowP a b)) Q E := by
  rw [e]
  refine neS_low ?_
  rw [decide_eq_true ⟨rfl, rfl⟩]
  exact h
/-! ### all sets, all choices -/
def castI (t : List Nat) : List Int := t.map fun (j : Nat) => (j : Int)
abbrev tI (ns : List Int) : PyData := .tuple (ns.map .int)
def subs : Nat → List (List Nat)
  | 0 => [[]]
  | k + 1 => subs k ++ (subs k).map (· ++ [k])
theorem subs_len : ∀ n, (subs n).length = 2 ^ n
  | 0 => rfl
  | n + 1 => by
    unfold subs
    rw [List.length_append, List.length_map, subs_len n, Nat.pow_succ]
    omega
theorem subs_mem : ∀ (n : Nat) (t : List Nat), t ∈ subs n ↔ t.Pairwise (· < ·) ∧ ∀ i ∈ t, i < n
  | 0, t => by
    unfold subs
    rw [List.mem_singleton]
    constructor
    · rintro rfl
      simp
    · rintro ⟨_, h⟩
      cases t with
      | nil => rfl
      | cons a t => exact absurd (h a List.mem_cons_self) (by omega)
  | n + 1, t => by
    have ih := subs_mem n
    unfold subs
    rw [List.mem_append, List.mem_map]
    constructor
    · rintro (h | ⟨u, h, rfl⟩)
      · obtain ⟨h1, h2⟩ := (ih t).mp h
        exact ⟨h1, fun i hi => by have := h2 i hi; omega⟩
      · obtain ⟨h1, h2⟩ := (ih u).mp h
        refine ⟨List.pairwise_append.mpr ⟨h1, List.pairwise_singleton _ _, fun a ha b hb => ?_⟩, fun i hi => ?_⟩
        · rw [List.mem_singleton] at hb
          have := h2 a ha
          omega
        · rcases List.mem_append.mp hi with hi | hi
          · have := h2 i hi
            omega
          · rw [List.mem_singleton] at hi
            omega
    · rintro ⟨h1, h2⟩
      rcases List.eq_nil_or_concat t with rfl | ⟨u, l, rfl⟩
      · exact .inl ((ih []).mpr ⟨List.Pairwise.nil, fun i hi => absurd hi (by simp)⟩)
      · rw [List.concat_eq_append] at h1 h2 ⊢
        obtain ⟨a1, _, a3⟩ := List.pairwise_append.mp h1
        have hl := h2 l (by simp)
        have hu : ∀ i ∈ u, i < l := fun i hi => a3 i hi l (by simp)
        by_cases e : l = n
        · subst e
          exact .inr ⟨u, (ih u).mpr ⟨a1, hu⟩, rfl⟩
        · refine .inl ((ih _).mpr ⟨h1, fun i hi => ?_⟩)
          rcases List.mem_append.mp hi with hi | hi
          · have := hu i hi
            omega
          · rw [List.mem_singleton] at hi
            omega
theorem subs_nodup : ∀ n, (subs n).Nodup
  | 0 => by simp [subs]
  | n + 1 => by
    have ih := subs_nodup n
    unfold subs
    refine List.nodup_append.mpr ⟨ih, ?_, fun a ha b hb => ?_⟩
    · exact List.Pairwise.map _ (fun a b h e => h (List.append_cancel_right e)) ih
    · obtain ⟨u, hu, rfl⟩ := List.mem_map.mp hb
      rintro rfl
      have := ((subs_mem n _).mp ha).2 n (by simp)
      omega
theorem cmb_mem : ∀ (k lo r : Nat) (t : List Nat), t ∈ cmb lo k r ↔ t.length = r ∧ t.Pairwise (· < ·) ∧ ∀ i ∈ t, lo ≤ i ∧ i < lo + k
  | _, _, 0, t => by
    unfold cmb
    rw [List.mem_singleton]
    constructor
    · rintro rfl
      simp
    · rintro ⟨h, _⟩
      exact List.eq_nil_of_length_eq_zero h
  | 0, lo, r + 1, t => by
    unfold cmb
    constructor
    · intro h
      cases h
    · rintro ⟨h1, _, h2⟩
      cases t with
      | nil => simp at h1
      | cons a t =>
        have := h2 a List.mem_cons_self
        omega
  | k + 1, lo, r + 1, t => by
    unfold cmb
    rw [List.mem_append, List.mem_map, cmb_mem k (lo + 1) (r + 1) t]
    constructor
    · rintro (⟨u, hu, rfl⟩ | ⟨h1, h2, h3⟩)
      · obtain ⟨h1, h2, h3⟩ := (cmb_mem k (lo + 1) r u).mp hu
        refine ⟨by simp [h1], List.pairwise_cons.mpr ⟨fun i hi => ?_, h2⟩, fun i hi => ?_⟩
        · have := h3 i hi
          omega
        · rcases List.mem_cons.mp hi with rfl | hi
          · omega
          · have := h3 i hi
            omega
      · exact ⟨h1, h2, fun i hi => by have := h3 i hi; omega⟩
    · rintro ⟨h1, h2, h3⟩
      cases t with
      | nil => simp at h1
      | cons a u =>
        obtain ⟨b1, b2⟩ := List.pairwise_cons.mp h2
        have ha := h3 a List.mem_cons_self
        by_cases e : a = lo
        · subst e
          refine .inl ⟨u, (cmb_mem k (a + 1) r u).mpr ⟨by simpa using h1, b2, fun i hi => ?_⟩, rfl⟩
          have := b1 i hi
          have := h3 i (List.mem_cons_of_mem _ hi)
          omega
        · refine .inr ⟨h1, h2, fun i hi => ?_⟩
          rcases List.mem_cons.mp hi with rfl | hi
          · omega
          · have := b1 i hi
            have := h3 i (List.mem_cons_of_mem _ hi)
            omega
theorem cmb_nodup : ∀ (k lo r : Nat), (cmb lo k r).Nodup
  | _, _, 0 => by simp [cmb]
  | 0, _, _ + 1 => by simp [cmb]
  | k + 1, lo, r + 1 => by
    unfold cmb
    refine List.nodup_append.mpr ⟨List.Pairwise.map _ (fun a b h e => h (List.cons.inj e).2) (cmb_nodup k (lo + 1) r), cmb_nodup k (lo + 1) (r + 1), fun a ha b hb => ?_⟩
    obtain ⟨u, hu, rfl⟩ := List.mem_map.mp ha
    rintro rfl
    have := ((cmb_mem k (lo + 1) (r + 1) _).mp hb).2.2 lo List.mem_cons_self
    omega
theorem subs_cmb (n r : Nat) : ((subs n).filter fun t => decide (t.length = r)).Perm (cmb 0 n r) := by
  refine (List.perm_ext_iff_of_nodup ((subs_nodup n).filter _) (cmb_nodup n 0 r)).mpr fun t => ?_
  rw [List.mem_filter, subs_mem, cmb_mem, decide_eq_true_eq, Nat.zero_add]
  constructor
  · rintro ⟨⟨h1, h2⟩, h3⟩
    exact ⟨h3, h1, fun i hi => ⟨Nat.zero_le _, h2 i hi⟩⟩
  · rintro ⟨h3, h1, h2⟩
    exact ⟨⟨h1, fun i hi => (h2 i hi).2⟩, h3⟩
/-! ### sums over all choices -/
theorem zsum_perm {a b : List Int} (h : a.Perm b) : a.sum = b.sum := by
  induction h with
  | nil => rfl
  | cons x _ ih => rw [List.sum_cons, List.sum_cons, ih]
  | swap x y l => simp only [List.sum_cons]; omega
  | trans _ _ h1 h2 => exact h1.trans h2
theorem chs_big {α : Type} : ∀ (l : List α) (r : Nat), l.length < r → chs l r = []
  | _, 0, h => by omega
  | [], _ + 1, _ => rfl
  | x :: l, r + 1, h => by
    unfold chs
    rw [List.length_cons] at h
    rw [chs_big l r (by omega), chs_big l (r + 1) (by omega)]
    rfl
theorem chs_le {α : Type} : ∀ (l : List α) (r : Nat), (chs l r).length ≤ 2 ^ l.length
  | l, 0 => by
    unfold chs
    exact Nat.one_le_two_pow
  | [], _ + 1 => Nat.zero_le _
  | x :: l, r + 1 => by
    unfold chs
    rw [List.length_append, List.length_map, List.length_cons, Nat.pow_succ]
    have := chs_le l r
    have := chs_le l (r + 1)
    omega
theorem chs_each {α : Type} : ∀ (l : List α) (r : Nat) (t : List α), t ∈ chs l r → t.length = r ∧ ∀ x ∈ t, x ∈ l
  | _, 0, t, h => by
    simp [chs] at h
    subst h
    simp
  | [], _ + 1, t, h => by simp [chs] at h
  | x :: l, r + 1, t, h => by
    unfold chs at h
    rcases List.mem_append.mp h with h | h
    · obtain ⟨u, hu, rfl⟩ := List.mem_map.mp h
      obtain ⟨h1, h2⟩ := chs_each l r u hu
      exact ⟨by simp [h1], fun y hy => (List.mem_cons.mp hy).elim (fun e => e ▸ List.mem_cons_self) fun z => List.mem_cons_of_mem _ (h2 y z)⟩
    · obtain ⟨h1, h2⟩ := chs_each l (r + 1) t h
      exact ⟨h1, fun y hy => List.mem_cons_of_mem _ (h2 y hy)⟩
theorem chs_first {α : Type} : ∀ (l m : List α), l ∈ chs (l ++ m) l.length
  | [], m => by simp [chs]
  | x :: l, m => by
    rw [List.cons_append, List.length_cons]
    unfold chs
    exact List.mem_append_left _ (List.mem_map.mpr ⟨l, chs_first l m, rfl⟩)
theorem chs_map {α β : Type} (f : α → β) : ∀ (l : List α) (r : Nat), chs (l.map f) r = (chs l r).map (·.map f)
  | _, 0 => by simp [chs]
  | [], _ + 1 => by simp [chs]
  | x :: l, r + 1 => by
    rw [List.map_cons]
    unfold chs
    rw [chs_map f l r, chs_map f l (r + 1), List.map_append, List.map_map, List.map_map]
    rfl
/-- the measures of all dealings -/
def dealI (ws : List Int) (r : Nat) : List Int := (chs ws r).map List.sum
theorem deal_len (ws : List Int) (r : Nat) : (dealI ws r).length = (chs ws r).length := by
  unfold dealI
  rw [List.length_map]
theorem chs_bin {α : Type} : ∀ (l : List α) (r : Nat), ((l.length : Int) - r) * ((chs l r).length : Int) = (r + 1) * ((chs l (r + 1)).length : Int)
  | [], 0 => by simp [chs]
  | [], r + 1 => by simp [chs]
  | x :: l, 0 => by
    have ih := chs_bin l 0
    have e0 : (chs l 0).length = 1 := by unfold chs; rfl
    have e1 : (chs (x :: l) 0).length = 1 := by unfold chs; rfl
    have e2 : (chs (x :: l) (0 + 1)).length = (chs l 0).length + (chs l (0 + 1)).length := by
      conv => lhs; unfold chs
      rw [List.length_append, List.length_map]
    rw [e0] at ih
    rw [e1, e2, e0, List.length_cons]
    simp only [Int.natCast_zero, Int.natCast_add, Int.natCast_one, Int.mul_one, Int.sub_zero, Int.zero_add, Int.one_mul] at ih ⊢
    omega
  | x :: l, r + 1 => by
    have h1 := chs_bin l r
    have h2 := chs_bin l (r + 1)
    have e1 : (chs (x :: l) (r + 1)).length = (chs l r).length + (chs l (r + 1)).length := by
      conv => lhs; unfold chs
      rw [List.length_append, List.length_map]
    have e2 : (chs (x :: l) (r + 1 + 1)).length = (chs l (r + 1)).length + (chs l (r + 1 + 1)).length := by
      conv => lhs; unfold chs
      rw [List.length_append, List.length_map]
    rw [e1, e2, List.length_cons]
    simp only [Int.natCast_add, Int.natCast_one] at h1 h2 ⊢
    generalize ((chs l r).length : Int) = A at h1 ⊢
    generalize ((chs l (r + 1)).length : Int) = B at h1 h2 ⊢
    generalize ((chs l (r + 1 + 1)).length : Int) = D at h2 ⊢
    generalize (l.length : Int) = n at h1 h2 ⊢
    have q1 : (n + 1 - ((r : Int) + 1)) * (A + B) = (n - r) * A + (n - (r + 1)) * B + B := by
      simp only [Int.add_mul, Int.sub_mul, Int.mul_add, Int.one_mul]
      omega
    have q2 : ((r : Int) + 1 + 1) * (B + D) = (r + 1) * B + (r + 1 + 1) * D + B := by
      simp only [Int.add_mul, Int.mul_add, Int.one_mul]
      omega
    rw [q1, q2, h1, h2]
theorem deal_cons (x : Int) (l : List Int) (r : Nat) : dealI (x :: l) (r + 1) = (dealI l r).map (x + ·) ++ dealI l (r + 1) := by
  unfold dealI
  conv => lhs; unfold chs
  rw [List.map_append, List.map_map, List.map_map]
  rfl
theorem sum_addc (x : Int) : ∀ l : List Int, (l.map (x + ·)).sum = l.length * x + l.sum
  | [] => by simp
  | y :: l => by
    rw [List.map_cons, List.sum_cons, List.sum_cons, sum_addc x l, List.length_cons, Int.natCast_add, Int.add_mul]
    simp
    omega
theorem deal_tot : ∀ (l : List Int) (r : Nat), (l.length : Int) * (dealI l r).sum = r * (dealI l r).length * l.sum
  | l, 0 => by
    unfold dealI chs
    simp
  | [], r + 1 => by
    unfold dealI chs
    simp
  | x :: l, r + 1 => by
    have h1 := deal_tot l r
    have h2 := deal_tot l (r + 1)
    have hb := chs_bin l r
    rw [← deal_len, ← deal_len] at hb
    rw [deal_cons, List.sum_append, sum_addc, List.length_append, List.length_map, List.length_cons, List.sum_cons]
    by_cases h0 : l.length = 0
    · have e : l = [] := List.eq_nil_of_length_eq_zero h0
      subst e
      cases r with
      | zero => simp [dealI, chs]
      | succ r => simp [dealI, chs]
    · simp only [Int.natCast_add, Int.natCast_one] at h1 h2 hb ⊢
      generalize ((dealI l r).length : Int) = A at h1 hb ⊢
      generalize ((dealI l (r + 1)).length : Int) = B at h2 hb ⊢
      generalize (dealI l r).sum = S at h1 ⊢
      generalize (dealI l (r + 1)).sum = T at h2 ⊢
      generalize l.sum = s at h1 h2 ⊢
      have hn : (l.length : Int) ≠ 0 := by omega
      generalize (l.length : Int) = n at h1 h2 hb hn ⊢
      exact Int.eq_of_mul_eq_mul_left hn (by grind)
def pickI (ns : List Int) (t : List Nat) : List Int := t.map fun j => ns.getD j 0
def restI (ns : List Int) (t : List Nat) : List Int := pickI ns ((List.range ns.length).filter fun j => decide (j ∉ t))
theorem pick_all (ns : List Int) : pickI ns (List.range ns.length) = ns := by
  unfold pickI
  apply List.ext_getElem
  · simp
  · intro i h1 h2
    simp [List.getD_eq_getElem?_getD, h2]
theorem pick_rest {ns : List Int} {t : List Nat} (h1 : t.Pairwise (· < ·)) (h2 : ∀ i ∈ t, i < ns.length) : (pickI ns t ++ restI ns t).Perm ns := by
  have hp : (t ++ (List.range ns.length).filter fun j => decide (j ∉ t)).Perm (List.range ns.length) := by
    refine (List.perm_ext_iff_of_nodup (List.nodup_append.mpr ⟨h1.imp fun h => by omega, List.nodup_range.filter _, fun a ha b hb => ?_⟩) List.nodup_range).mpr fun i => ?_
    · rintro rfl
      have := (List.mem_filter.mp hb).2
      exact of_decide_eq_true this ha
    · rw [List.mem_append, List.mem_filter, List.mem_range, decide_eq_true_eq]
      constructor
      · rintro (h | h)
        · exact h2 i h
        · exact h.1
      · intro h
        by_cases hi : i ∈ t
        · exact .inl hi
        · exact .inr ⟨h, hi⟩
  have q := hp.map fun j => ns.getD j 0
  rw [List.map_append] at q
  exact q.trans (.of_eq (pick_all ns))
theorem lead_perm {r t : List Int} (h : r.Perm t) (v : Int) : leadI r v = leadI t v := by
  unfold leadI
  rw [(h.filter _).length_eq, (h.filter fun x => decide (v < x)).length_eq]
theorem rankP {r t : List Int} (h : r.Perm t) (v : Int) : rankI r v = rankI t v := by
  unfold rankI
  rw [(h.filter _).length_eq, (h.filter fun x => decide (x = v)).length_eq]
theorem weight_perm {r t : List Int} (h : r.Perm t) (x : Str) (v : Int) : weightI x r v = weightI x t v := by
  unfold weightI
  rw [rankP h, lead_perm h]
/-- what all values weigh -/
def wtsI (x : Str) (ns : List Int) : List Int := ns.map (weightI x ns)
theorem wts_len (x : Str) (ns : List Int) : (wtsI x ns).length = ns.length := by unfold wtsI; rw [List.length_map]
theorem seen_pick (x : Str) {ns : List Int} {t : List Nat} (h1 : t.Pairwise (· < ·)) (h2 : ∀ i ∈ t, i < ns.length) : seenI x (pickI ns t) (restI ns t) = (t.map fun j => (wtsI x ns).getD j 0).sum := by
  unfold seenI
  rw [show weightI x (pickI ns t ++ restI ns t) = weightI x ns from funext fun v => weight_perm (pick_rest h1 h2) x v]
  unfold pickI
  rw [List.map_map]
  congr 1
  refine List.map_congr_left fun j hj => ?_
  have hj := h2 j hj
  unfold wtsI
  simp [List.getD_eq_getElem?_getD, hj]
theorem rows_perm (x : Str) {ns : List Int} {a : Nat} {out : List (List Nat)} (hp : out.Perm (subs ns.length)) : ((out.filter fun t => decide (t.length = a)).map fun t => seenI x (pickI ns t) (restI ns t)).Perm (dealI (wtsI x ns) a) := by
  have h1 := ((hp.filter fun t => decide (t.length = a)).trans (subs_cmb ns.length a)).map fun t => seenI x (pickI ns t) (restI ns t)
  refine h1.trans (.of_eq ?_)
  unfold dealI
  rw [← cmb_list (wtsI x ns) 0 a, List.map_map, wts_len]
  refine List.map_congr_left fun t ht => ?_
  obtain ⟨_, h2, h3⟩ := (cmb_mem _ _ _ _).mp ht
  exact seen_pick x h2 fun i hi => by have := h3 i hi; omega
theorem seen_sum (ns ms : List Int) : seenI "sum" ns ms = ns.sum := by
  unfold seenI
  rw [show (ns.map (weightI "sum" (ns ++ ms))) = ns from by
    rw [show weightI "sum" (ns ++ ms) = id from funext fun v => by simp [weightI]]
    exact List.map_id ns]
theorem seen_deal (x : Str) (ns ms : List Int) : seenI x ns ms ∈ dealI (wtsI x (ns ++ ms)) ns.length := by
  unfold dealI seenI wtsI
  rw [List.map_append]
  have h := chs_first (ns.map (weightI x (ns ++ ms))) (ms.map (weightI x (ns ++ ms)))
  rw [List.length_map] at h
  exact List.mem_map.mpr ⟨_, h, rfl⟩
def Meas (x : Str) : Prop := x = "sum" ∨ x = "ranks" ∨ x = "above"
theorem Meas.lay {x : Str} (h : Meas x) : PyData.canLay0 (.str x) = true := by rcases h with rfl | rfl | rfl <;> decide +kernel
theorem Meas.mem {x : Str} (h : Meas x) : (PyData.str x) ∈ [PyData.str "sum", PyData.str "ranks", PyData.str "above"] := by rcases h with rfl | rfl | rfl <;> simp
theorem w__law_measure {x : Str} {ns ms : List Int} {Q : S → Prop} {E : Exn → Prop} (hx : Meas x) (hz : ns.length + ms.length ≤ 1000000) (h : Q (.d (.int (seenI x ns ms)))) : m__law_measure [.d (.tuple (ns.map .int)), .d (.tuple (ms.map .int)), .d (.str x)] Q E := by
  rcases hx with rfl | rfl | rfl
  · exact w__law_measure_sum (by rw [← seen_sum ns ms]; exact h)
  · exact w__law_measure_ranks hz h
  · exact w__law_measure_above (by omega) (by rw [← seen_above]; exact h)
theorem perm_of_map {α β : Type} (f : α → β) {l : List α} {out : List β} (h : out.Perm (l.map f)) : ∃ o : List α, o.Perm l ∧ out = o.map f := by
  generalize hm : l.map f = m at h
  induction h generalizing l with
  | nil => exact ⟨[], by rw [List.map_eq_nil_iff] at hm; rw [hm], rfl⟩
  | @cons y a b p ih =>
    cases l with
    | nil => cases hm
    | cons z l =>
      cases hm
      obtain ⟨o, h1, h2⟩ := ih rfl
      exact ⟨z :: o, h1.cons z, by rw [List.map_cons, h2]⟩
  | @swap y z b =>
    cases l with
    | nil => cases hm
    | cons u l =>
      cases l with
      | nil => cases hm
      | cons v l =>
        cases hm
        exact ⟨v :: u :: l, .swap _ _ _, rfl⟩
  | trans p q ih1 ih2 =>
    obtain ⟨o1, h1, h2⟩ := ih2 hm
    obtain ⟨o2, h3, h4⟩ := ih1 h2.symm
    exact ⟨o2, h3.trans h1, h4⟩
theorem rngS_at {n i : Nat} {s : S} (h : (rngS 0 n)[i]? = some s) : i < n ∧ s = .d (.int i) := by
  unfold rngS at h
  rw [List.getElem?_map] at h
  by_cases hi : i < n
  · rw [List.getElem?_range hi] at h
    refine ⟨hi, ?_⟩
    simpa using h.symm
  · rw [List.getElem?_eq_none (by rw [List.length_range]; omega)] at h
    cases h
theorem w__law_sets {n : Nat} {Q : S → Prop} {E : Exn → Prop} (hn : n ≤ 10) (h : ∀ out : List (List Nat), out.Perm (subs n) → Q (.d (.list (out.map fun t => tI (castI t))))) : m__law_sets [.d (.int n)] Q E := by
  have h2 : ∀ i, i ≤ 10 → 2 ^ i ≤ 1024 := fun i hi => Nat.pow_le_pow_right (by decide) hi
  simp only [m__law_sets, b__law_sets, e_dCmb, e_dSortK, e_keyS, e_dSeq, e_dIfS, e_dRet, e_dRetN, e_dRetB, e_dAsg, e_dPar, e_dAsgG, e_dDrop, e_dNext, e_dBrk, e_dCont, e_dNever, e_dFor, e_dFreeze, e_dRetO, e_dNewL, e_dApp, e_dWhile, e_dVar, e_dC, e_dOp1, e_dOp2, e_dCB, e_dNil, e_dCons, e_dB, e_dAnd, e_dOr, e_dNot, e_dAndV, e_dOrV, e_dNotV, e_dIf, e_dTup, e_dLst, e_dIsI, e_dCall, e_dCallK, e_dChain, e_dSl, e_dPart, e_dNoPart, e_dYes, e_dFnCall, e_dCallF, e_dIter, e_dRng1, e_dRng2, e_dEnum, e_dComp, e_gN, e_gBw, e_gOw, e_gT, e_gTn, e_gTc, e_dDef, e_lamM, e_gL, onIB_i, onIB_b, bwS_b, lenBS_b, e_dCompB, plain_bowls, isOwn_bowls, inOp_li, inOp_ti, e_dLenSet, e_dCallD, e_dPl, e_dNewO, e_dCopyO, e_dNewD, e_dDisp, e_prs_nil, e_prs_cons, e_dSets, e_dSetsN, e_sets_cons, e_sets_nil, e_dAppPop, e_dGet2, e_dKeys, e_dVals, e_dItems, e_dPut, e_dFreezeD, e_dSumV, onDc_d, onDc_o, onDz_d, keyR_i, keyR_s, flatK_nil, merge1, e_dStar, e_dComp2, e_dPar3, e_dZip, repS_t, repS_l, ixS_t0, ixS_t1, onBs_tt, rg1S_t, rg1S_l, rg2S_t, rg2S_l, revS_t, revS_l, onDs_map, onDs_map0, startR, lamR, slotR, wipeR, hideR, fits, perm,
  plain_d, plain_bowl, plain_ro, onD_d, onI_i, onB_b, onSq_l, onSq_t, onSq_o, onSq_r, onLs_l, onLs_o, onLs_r, onSeq_l, onSeq_t, onSeq_r, onDs_nil, onDs_d, addS_i, addS_t, addS_l, intP_i, int2_i, negS_i, bix_i, one_s, two_s, isN_d, notN_d, eqS_ii, neS_ii, eqS_in, eqS_bb, ty_tuple_none, ty_tuple_bool, ty_tuple_int, ty_tuple_str, ty_tuple_tuple, ty_tuple_list, ty_tuple_dict, ty_list_none, ty_list_bool, ty_list_int, ty_list_str, ty_list_tuple, ty_list_list, ty_list_dict, ty_bool_none, ty_bool_bool, ty_bool_int, ty_bool_str, ty_bool_tuple, ty_bool_list, ty_bool_dict, ty_int_none, ty_int_bool, ty_int_int, ty_int_str, ty_int_tuple, ty_int_list, ty_int_dict, ty_str_none, ty_str_bool, ty_str_int, ty_str_str, ty_str_tuple, ty_str_list, ty_str_dict, ty_dict_none, ty_dict_bool, ty_dict_int, ty_dict_str, ty_dict_tuple, ty_dict_list, ty_dict_dict, not_true_eq_false, not_false_eq_true, Bool.and_true, Bool.true_and, Bool.and_false, Bool.false_and, Bool.or_true, Bool.true_or, Bool.or_false, Bool.false_or, Bool.true_eq_false, Int.toNat_natCast, isOwn_d, isOwn_bowl, isOwn_ro, isOwn_fn, onIs_map, onBs_map,
  List.map_cons, List.map_nil, List.length_cons, List.length_nil, List.replicate_succ, List.replicate_zero, List.cons_append, List.nil_append, List.append_nil, List.getElem?_cons_zero, List.getElem?_cons_succ, List.set_cons_zero, List.set_cons_succ, List.filterMap_cons, List.filterMap_nil, Option.map, List.mem_cons, List.not_mem_nil, or_false, false_or, forall_eq_or_imp, forall_eq, implies_true, false_imp_iff, List.length_map, and_true, true_and, and_self, if_true, if_false, Bool.false_eq_true, reduceCtorEq, Nat.reduceAdd, Nat.reduceSub, Int.reduceLT, Int.reduceLE, Int.reduceNeg, decide_true, decide_false, decide_eq_true_eq, Bool.not_true, Bool.not_false, Bool.not_eq_true', decide_eq_false_iff_not, ite_true, ite_false]
  refine ⟨by decide, by decide, ⟨by decide, by decide, by omega, by omega⟩, ?_⟩
  refine forL_inv (fun i ρ => ∃ c d, ρ = [some (S.d (PyData.int n)), some (S.d (PyData.list ((subs i).map fun t => tI (castI t)))), c, d]) 0 ⟨_, _, rfl⟩ (fun i s ρ X hs hI hX => ?_) fun ρ hI => ?_
  · obtain ⟨c, d, rfl⟩ := hI
    obtain ⟨hi, rfl⟩ := rngS_at hs
    rw [Nat.zero_add] at hX ⊢
    have hl : (subs i).length ≤ 1024 := by rw [subs_len]; exact h2 i (by omega)
    simp only [e_dCmb, e_dSortK, e_keyS, e_dSeq, e_dIfS, e_dRet, e_dRetN, e_dRetB, e_dAsg, e_dPar, e_dAsgG, e_dDrop, e_dNext, e_dBrk, e_dCont, e_dNever, e_dFor, e_dFreeze, e_dRetO, e_dNewL, e_dApp, e_dWhile, e_dVar, e_dC, e_dOp1, e_dOp2, e_dCB, e_dNil, e_dCons, e_dB, e_dAnd, e_dOr, e_dNot, e_dAndV, e_dOrV, e_dNotV, e_dIf, e_dTup, e_dLst, e_dIsI, e_dCall, e_dCallK, e_dChain, e_dSl, e_dPart, e_dNoPart, e_dYes, e_dFnCall, e_dCallF, e_dIter, e_dRng1, e_dRng2, e_dEnum, e_dComp, e_gN, e_gBw, e_gOw, e_gT, e_gTn, e_gTc, e_dDef, e_lamM, e_gL, onIB_i, onIB_b, bwS_b, lenBS_b, e_dCompB, plain_bowls, isOwn_bowls, inOp_li, inOp_ti, e_dLenSet, e_dCallD, e_dPl, e_dNewO, e_dCopyO, e_dNewD, e_dDisp, e_prs_nil, e_prs_cons, e_dSets, e_dSetsN, e_sets_cons, e_sets_nil, e_dAppPop, e_dGet2, e_dKeys, e_dVals, e_dItems, e_dPut, e_dFreezeD, e_dSumV, onDc_d, onDc_o, onDz_d, keyR_i, keyR_s, flatK_nil, merge1, e_dStar, e_dComp2, e_dPar3, e_dZip, repS_t, repS_l, ixS_t0, ixS_t1, onBs_tt, rg1S_t, rg1S_l, rg2S_t, rg2S_l, revS_t, revS_l, onDs_map, onDs_map0, startR, lamR, slotR, wipeR, hideR, fits, perm,
  plain_d, plain_bowl, plain_ro, onD_d, onI_i, onB_b, onSq_l, onSq_t, onSq_o, onSq_r, onLs_l, onLs_o, onLs_r, onSeq_l, onSeq_t, onSeq_r, onDs_nil, onDs_d, addS_i, addS_t, addS_l, intP_i, int2_i, negS_i, bix_i, one_s, two_s, isN_d, notN_d, eqS_ii, neS_ii, eqS_in, eqS_bb, ty_tuple_none, ty_tuple_bool, ty_tuple_int, ty_tuple_str, ty_tuple_tuple, ty_tuple_list, ty_tuple_dict, ty_list_none, ty_list_bool, ty_list_int, ty_list_str, ty_list_tuple, ty_list_list, ty_list_dict, ty_bool_none, ty_bool_bool, ty_bool_int, ty_bool_str, ty_bool_tuple, ty_bool_list, ty_bool_dict, ty_int_none, ty_int_bool, ty_int_int, ty_int_str, ty_int_tuple, ty_int_list, ty_int_dict, ty_str_none, ty_str_bool, ty_str_int, ty_str_str, ty_str_tuple, ty_str_list, ty_str_dict, ty_dict_none, ty_dict_bool, ty_dict_int, ty_dict_str, ty_dict_tuple, ty_dict_list, ty_dict_dict, not_true_eq_false, not_false_eq_true, Bool.and_true, Bool.true_and, Bool.and_false, Bool.false_and, Bool.or_true, Bool.true_or, Bool.or_false, Bool.false_or, Bool.true_eq_false, Int.toNat_natCast, isOwn_d, isOwn_bowl, isOwn_ro, isOwn_fn, onIs_map, onBs_map,
  List.map_cons, List.map_nil, List.length_cons, List.length_nil, List.replicate_succ, List.replicate_zero, List.cons_append, List.nil_append, List.append_nil, List.getElem?_cons_zero, List.getElem?_cons_succ, List.set_cons_zero, List.set_cons_succ, List.filterMap_cons, List.filterMap_nil, Option.map, List.mem_cons, List.not_mem_nil, or_false, false_or, forall_eq_or_imp, forall_eq, implies_true, false_imp_iff, List.length_map, and_true, true_and, and_self, if_true, if_false, Bool.false_eq_true, reduceCtorEq, Nat.reduceAdd, Nat.reduceSub, Int.reduceLT, Int.reduceLE, Int.reduceNeg, decide_true, decide_false, decide_eq_true_eq, Bool.not_true, Bool.not_false, Bool.not_eq_true', decide_eq_false_iff_not, ite_true, ite_false]
    refine compL_map (ns := subs i) (fun t => S.d (tI (castI t))) (fun t => tI (castI (t ++ [i]))) (by rw [List.map_map]; rfl) (sizeLine_ge (by omega)) (fun t F Z ht hF => ?_) ?_
    · have hb := (subs_mem i t).mp ht
      have hlt : t.length ≤ i := by
        have h1 : t.Nodup := hb.1.imp fun h => by omega
        have := List.Nodup.length_le_of_subset (l₁ := t) (l₂ := List.range i) h1 fun j hj => List.mem_range.mpr (hb.2 j hj)
        simpa using this
      simp only [tI, e_dCmb, e_dSortK, e_keyS, e_dSeq, e_dIfS, e_dRet, e_dRetN, e_dRetB, e_dAsg, e_dPar, e_dAsgG, e_dDrop, e_dNext, e_dBrk, e_dCont, e_dNever, e_dFor, e_dFreeze, e_dRetO, e_dNewL, e_dApp, e_dWhile, e_dVar, e_dC, e_dOp1, e_dOp2, e_dCB, e_dNil, e_dCons, e_dB, e_dAnd, e_dOr, e_dNot, e_dAndV, e_dOrV, e_dNotV, e_dIf, e_dTup, e_dLst, e_dIsI, e_dCall, e_dCallK, e_dChain, e_dSl, e_dPart, e_dNoPart, e_dYes, e_dFnCall, e_dCallF, e_dIter, e_dRng1, e_dRng2, e_dEnum, e_dComp, e_gN, e_gBw, e_gOw, e_gT, e_gTn, e_gTc, e_dDef, e_lamM, e_gL, onIB_i, onIB_b, bwS_b, lenBS_b, e_dCompB, plain_bowls, isOwn_bowls, inOp_li, inOp_ti, e_dLenSet, e_dCallD, e_dPl, e_dNewO, e_dCopyO, e_dNewD, e_dDisp, e_prs_nil, e_prs_cons, e_dSets, e_dSetsN, e_sets_cons, e_sets_nil, e_dAppPop, e_dGet2, e_dKeys, e_dVals, e_dItems, e_dPut, e_dFreezeD, e_dSumV, onDc_d, onDc_o, onDz_d, keyR_i, keyR_s, flatK_nil, merge1, e_dStar, e_dComp2, e_dPar3, e_dZip, repS_t, repS_l, ixS_t0, ixS_t1, onBs_tt, rg1S_t, rg1S_l, rg2S_t, rg2S_l, revS_t, revS_l, onDs_map, onDs_map0, startR, lamR, slotR, wipeR, hideR, fits, perm,
  plain_d, plain_bowl, plain_ro, onD_d, onI_i, onB_b, onSq_l, onSq_t, onSq_o, onSq_r, onLs_l, onLs_o, onLs_r, onSeq_l, onSeq_t, onSeq_r, onDs_nil, onDs_d, addS_i, addS_t, addS_l, intP_i, int2_i, negS_i, bix_i, one_s, two_s, isN_d, notN_d, eqS_ii, neS_ii, eqS_in, eqS_bb, ty_tuple_none, ty_tuple_bool, ty_tuple_int, ty_tuple_str, ty_tuple_tuple, ty_tuple_list, ty_tuple_dict, ty_list_none, ty_list_bool, ty_list_int, ty_list_str, ty_list_tuple, ty_list_list, ty_list_dict, ty_bool_none, ty_bool_bool, ty_bool_int, ty_bool_str, ty_bool_tuple, ty_bool_list, ty_bool_dict, ty_int_none, ty_int_bool, ty_int_int, ty_int_str, ty_int_tuple, ty_int_list, ty_int_dict, ty_str_none, ty_str_bool, ty_str_int, ty_str_str, ty_str_tuple, ty_str_list, ty_str_dict, ty_dict_none, ty_dict_bool, ty_dict_int, ty_dict_str, ty_dict_tuple, ty_dict_list, ty_dict_dict, not_true_eq_false, not_false_eq_true, Bool.and_true, Bool.true_and, Bool.and_false, Bool.false_and, Bool.or_true, Bool.true_or, Bool.or_false, Bool.false_or, Bool.true_eq_false, Int.toNat_natCast, isOwn_d, isOwn_bowl, isOwn_ro, isOwn_fn, onIs_map, onBs_map,
  List.map_cons, List.map_nil, List.length_cons, List.length_nil, List.replicate_succ, List.replicate_zero, List.cons_append, List.nil_append, List.append_nil, List.getElem?_cons_zero, List.getElem?_cons_succ, List.set_cons_zero, List.set_cons_succ, List.filterMap_cons, List.filterMap_nil, Option.map, List.mem_cons, List.not_mem_nil, or_false, false_or, forall_eq_or_imp, forall_eq, implies_true, false_imp_iff, List.length_map, and_true, true_and, and_self, if_true, if_false, Bool.false_eq_true, reduceCtorEq, Nat.reduceAdd, Nat.reduceSub, Int.reduceLT, Int.reduceLE, Int.reduceNeg, decide_true, decide_false, decide_eq_true_eq, Bool.not_true, Bool.not_false, Bool.not_eq_true', decide_eq_false_iff_not, ite_true, ite_false]
      refine ⟨by decide, by unfold castI; rw [List.length_map]; exact sizeLine_ge (by omega), ?_⟩
      have e : tI (castI (t ++ [i])) = .tuple ((castI t).map .int ++ [.int i]) := by
        simp [tI, castI]
      rw [e] at hF
      exact hF
    · simp only [e_dCmb, e_dSortK, e_keyS, e_dSeq, e_dIfS, e_dRet, e_dRetN, e_dRetB, e_dAsg, e_dPar, e_dAsgG, e_dDrop, e_dNext, e_dBrk, e_dCont, e_dNever, e_dFor, e_dFreeze, e_dRetO, e_dNewL, e_dApp, e_dWhile, e_dVar, e_dC, e_dOp1, e_dOp2, e_dCB, e_dNil, e_dCons, e_dB, e_dAnd, e_dOr, e_dNot, e_dAndV, e_dOrV, e_dNotV, e_dIf, e_dTup, e_dLst, e_dIsI, e_dCall, e_dCallK, e_dChain, e_dSl, e_dPart, e_dNoPart, e_dYes, e_dFnCall, e_dCallF, e_dIter, e_dRng1, e_dRng2, e_dEnum, e_dComp, e_gN, e_gBw, e_gOw, e_gT, e_gTn, e_gTc, e_dDef, e_lamM, e_gL, onIB_i, onIB_b, bwS_b, lenBS_b, e_dCompB, plain_bowls, isOwn_bowls, inOp_li, inOp_ti, e_dLenSet, e_dCallD, e_dPl, e_dNewO, e_dCopyO, e_dNewD, e_dDisp, e_prs_nil, e_prs_cons, e_dSets, e_dSetsN, e_sets_cons, e_sets_nil, e_dAppPop, e_dGet2, e_dKeys, e_dVals, e_dItems, e_dPut, e_dFreezeD, e_dSumV, onDc_d, onDc_o, onDz_d, keyR_i, keyR_s, flatK_nil, merge1, e_dStar, e_dComp2, e_dPar3, e_dZip, repS_t, repS_l, ixS_t0, ixS_t1, onBs_tt, rg1S_t, rg1S_l, rg2S_t, rg2S_l, revS_t, revS_l, onDs_map, onDs_map0, startR, lamR, slotR, wipeR, hideR, fits, perm,
  plain_d, plain_bowl, plain_ro, onD_d, onI_i, onB_b, onSq_l, onSq_t, onSq_o, onSq_r, onLs_l, onLs_o, onLs_r, onSeq_l, onSeq_t, onSeq_r, onDs_nil, onDs_d, addS_i, addS_t, addS_l, intP_i, int2_i, negS_i, bix_i, one_s, two_s, isN_d, notN_d, eqS_ii, neS_ii, eqS_in, eqS_bb, ty_tuple_none, ty_tuple_bool, ty_tuple_int, ty_tuple_str, ty_tuple_tuple, ty_tuple_list, ty_tuple_dict, ty_list_none, ty_list_bool, ty_list_int, ty_list_str, ty_list_tuple, ty_list_list, ty_list_dict, ty_bool_none, ty_bool_bool, ty_bool_int, ty_bool_str, ty_bool_tuple, ty_bool_list, ty_bool_dict, ty_int_none, ty_int_bool, ty_int_int, ty_int_str, ty_int_tuple, ty_int_list, ty_int_dict, ty_str_none, ty_str_bool, ty_str_int, ty_str_str, ty_str_tuple, ty_str_list, ty_str_dict, ty_dict_none, ty_dict_bool, ty_dict_int, ty_dict_str, ty_dict_tuple, ty_dict_list, ty_dict_dict, not_true_eq_false, not_false_eq_true, Bool.and_true, Bool.true_and, Bool.and_false, Bool.false_and, Bool.or_true, Bool.true_or, Bool.or_false, Bool.false_or, Bool.true_eq_false, Int.toNat_natCast, isOwn_d, isOwn_bowl, isOwn_ro, isOwn_fn, onIs_map, onBs_map,
  List.map_cons, List.map_nil, List.length_cons, List.length_nil, List.replicate_succ, List.replicate_zero, List.cons_append, List.nil_append, List.append_nil, List.getElem?_cons_zero, List.getElem?_cons_succ, List.set_cons_zero, List.set_cons_succ, List.filterMap_cons, List.filterMap_nil, Option.map, List.mem_cons, List.not_mem_nil, or_false, false_or, forall_eq_or_imp, forall_eq, implies_true, false_imp_iff, List.length_map, and_true, true_and, and_self, if_true, if_false, Bool.false_eq_true, reduceCtorEq, Nat.reduceAdd, Nat.reduceSub, Int.reduceLT, Int.reduceLE, Int.reduceNeg, decide_true, decide_false, decide_eq_true_eq, Bool.not_true, Bool.not_false, Bool.not_eq_true', decide_eq_false_iff_not, ite_true, ite_false]
      refine ⟨sizeLine_ge (by omega), hX _ ⟨some (S.d (PyData.int i)), d, ?_⟩⟩
      rw [show (subs (i + 1)).map (fun t => tI (castI t)) = (subs i).map (fun t => tI (castI t)) ++ (subs i).map (fun t => tI (castI (t ++ [i]))) by
        conv => lhs; unfold subs
        rw [List.map_append, List.map_map]
        rfl]
  · obtain ⟨c, d, rfl⟩ := hI
    rw [Nat.zero_add, rngS_len]
    simp only [e_dCmb, e_dSortK, e_keyS, e_dSeq, e_dIfS, e_dRet, e_dRetN, e_dRetB, e_dAsg, e_dPar, e_dAsgG, e_dDrop, e_dNext, e_dBrk, e_dCont, e_dNever, e_dFor, e_dFreeze, e_dRetO, e_dNewL, e_dApp, e_dWhile, e_dVar, e_dC, e_dOp1, e_dOp2, e_dCB, e_dNil, e_dCons, e_dB, e_dAnd, e_dOr, e_dNot, e_dAndV, e_dOrV, e_dNotV, e_dIf, e_dTup, e_dLst, e_dIsI, e_dCall, e_dCallK, e_dChain, e_dSl, e_dPart, e_dNoPart, e_dYes, e_dFnCall, e_dCallF, e_dIter, e_dRng1, e_dRng2, e_dEnum, e_dComp, e_gN, e_gBw, e_gOw, e_gT, e_gTn, e_gTc, e_dDef, e_lamM, e_gL, onIB_i, onIB_b, bwS_b, lenBS_b, e_dCompB, plain_bowls, isOwn_bowls, inOp_li, inOp_ti, e_dLenSet, e_dCallD, e_dPl, e_dNewO, e_dCopyO, e_dNewD, e_dDisp, e_prs_nil, e_prs_cons, e_dSets, e_dSetsN, e_sets_cons, e_sets_nil, e_dAppPop, e_dGet2, e_dKeys, e_dVals, e_dItems, e_dPut, e_dFreezeD, e_dSumV, onDc_d, onDc_o, onDz_d, keyR_i, keyR_s, flatK_nil, merge1, e_dStar, e_dComp2, e_dPar3, e_dZip, repS_t, repS_l, ixS_t0, ixS_t1, onBs_tt, rg1S_t, rg1S_l, rg2S_t, rg2S_l, revS_t, revS_l, onDs_map, onDs_map0, startR, lamR, slotR, wipeR, hideR, fits, perm,
  plain_d, plain_bowl, plain_ro, onD_d, onI_i, onB_b, onSq_l, onSq_t, onSq_o, onSq_r, onLs_l, onLs_o, onLs_r, onSeq_l, onSeq_t, onSeq_r, onDs_nil, onDs_d, addS_i, addS_t, addS_l, intP_i, int2_i, negS_i, bix_i, one_s, two_s, isN_d, notN_d, eqS_ii, neS_ii, eqS_in, eqS_bb, ty_tuple_none, ty_tuple_bool, ty_tuple_int, ty_tuple_str, ty_tuple_tuple, ty_tuple_list, ty_tuple_dict, ty_list_none, ty_list_bool, ty_list_int, ty_list_str, ty_list_tuple, ty_list_list, ty_list_dict, ty_bool_none, ty_bool_bool, ty_bool_int, ty_bool_str, ty_bool_tuple, ty_bool_list, ty_bool_dict, ty_int_none, ty_int_bool, ty_int_int, ty_int_str, ty_int_tuple, ty_int_list, ty_int_dict, ty_str_none, ty_str_bool, ty_str_int, ty_str_str, ty_str_tuple, ty_str_list, ty_str_dict, ty_dict_none, ty_dict_bool, ty_dict_int, ty_dict_str, ty_dict_tuple, ty_dict_list, ty_dict_dict, not_true_eq_false, not_false_eq_true, Bool.and_true, Bool.true_and, Bool.and_false, Bool.false_and, Bool.or_true, Bool.true_or, Bool.or_false, Bool.false_or, Bool.true_eq_false, Int.toNat_natCast, isOwn_d, isOwn_bowl, isOwn_ro, isOwn_fn, onIs_map, onBs_map,
  List.map_cons, List.map_nil, List.length_cons, List.length_nil, List.replicate_succ, List.replicate_zero, List.cons_append, List.nil_append, List.append_nil, List.getElem?_cons_zero, List.getElem?_cons_succ, List.set_cons_zero, List.set_cons_succ, List.filterMap_cons, List.filterMap_nil, Option.map, List.mem_cons, List.not_mem_nil, or_false, false_or, forall_eq_or_imp, forall_eq, implies_true, false_imp_iff, List.length_map, and_true, true_and, and_self, if_true, if_false, Bool.false_eq_true, reduceCtorEq, Nat.reduceAdd, Nat.reduceSub, Int.reduceLT, Int.reduceLE, Int.reduceNeg, decide_true, decide_false, decide_eq_true_eq, Bool.not_true, Bool.not_false, Bool.not_eq_true', decide_eq_false_iff_not, ite_true, ite_false]
    refine ⟨by rw [subs_len]; have := h2 n hn; omega, fun d hd => ?_, fun out hp => ?_⟩
    · obtain ⟨t, _, rfl⟩ := List.mem_map.mp hd
      simp only [tI, e_dCmb, e_dSortK, e_keyS, e_dSeq, e_dIfS, e_dRet, e_dRetN, e_dRetB, e_dAsg, e_dPar, e_dAsgG, e_dDrop, e_dNext, e_dBrk, e_dCont, e_dNever, e_dFor, e_dFreeze, e_dRetO, e_dNewL, e_dApp, e_dWhile, e_dVar, e_dC, e_dOp1, e_dOp2, e_dCB, e_dNil, e_dCons, e_dB, e_dAnd, e_dOr, e_dNot, e_dAndV, e_dOrV, e_dNotV, e_dIf, e_dTup, e_dLst, e_dIsI, e_dCall, e_dCallK, e_dChain, e_dSl, e_dPart, e_dNoPart, e_dYes, e_dFnCall, e_dCallF, e_dIter, e_dRng1, e_dRng2, e_dEnum, e_dComp, e_gN, e_gBw, e_gOw, e_gT, e_gTn, e_gTc, e_dDef, e_lamM, e_gL, onIB_i, onIB_b, bwS_b, lenBS_b, e_dCompB, plain_bowls, isOwn_bowls, inOp_li, inOp_ti, e_dLenSet, e_dCallD, e_dPl, e_dNewO, e_dCopyO, e_dNewD, e_dDisp, e_prs_nil, e_prs_cons, e_dSets, e_dSetsN, e_sets_cons, e_sets_nil, e_dAppPop, e_dGet2, e_dKeys, e_dVals, e_dItems, e_dPut, e_dFreezeD, e_dSumV, onDc_d, onDc_o, onDz_d, keyR_i, keyR_s, flatK_nil, merge1, e_dStar, e_dComp2, e_dPar3, e_dZip, repS_t, repS_l, ixS_t0, ixS_t1, onBs_tt, rg1S_t, rg1S_l, rg2S_t, rg2S_l, revS_t, revS_l, onDs_map, onDs_map0, startR, lamR, slotR, wipeR, hideR, fits, perm,
  plain_d, plain_bowl, plain_ro, onD_d, onI_i, onB_b, onSq_l, onSq_t, onSq_o, onSq_r, onLs_l, onLs_o, onLs_r, onSeq_l, onSeq_t, onSeq_r, onDs_nil, onDs_d, addS_i, addS_t, addS_l, intP_i, int2_i, negS_i, bix_i, one_s, two_s, isN_d, notN_d, eqS_ii, neS_ii, eqS_in, eqS_bb, ty_tuple_none, ty_tuple_bool, ty_tuple_int, ty_tuple_str, ty_tuple_tuple, ty_tuple_list, ty_tuple_dict, ty_list_none, ty_list_bool, ty_list_int, ty_list_str, ty_list_tuple, ty_list_list, ty_list_dict, ty_bool_none, ty_bool_bool, ty_bool_int, ty_bool_str, ty_bool_tuple, ty_bool_list, ty_bool_dict, ty_int_none, ty_int_bool, ty_int_int, ty_int_str, ty_int_tuple, ty_int_list, ty_int_dict, ty_str_none, ty_str_bool, ty_str_int, ty_str_str, ty_str_tuple, ty_str_list, ty_str_dict, ty_dict_none, ty_dict_bool, ty_dict_int, ty_dict_str, ty_dict_tuple, ty_dict_list, ty_dict_dict, not_true_eq_false, not_false_eq_true, Bool.and_true, Bool.true_and, Bool.and_false, Bool.false_and, Bool.or_true, Bool.true_or, Bool.or_false, Bool.false_or, Bool.true_eq_false, Int.toNat_natCast, isOwn_d, isOwn_bowl, isOwn_ro, isOwn_fn, onIs_map, onBs_map,
  List.map_cons, List.map_nil, List.length_cons, List.length_nil, List.replicate_succ, List.replicate_zero, List.cons_append, List.nil_append, List.append_nil, List.getElem?_cons_zero, List.getElem?_cons_succ, List.set_cons_zero, List.set_cons_succ, List.filterMap_cons, List.filterMap_nil, Option.map, List.mem_cons, List.not_mem_nil, or_false, false_or, forall_eq_or_imp, forall_eq, implies_true, false_imp_iff, List.length_map, and_true, true_and, and_self, if_true, if_false, Bool.false_eq_true, reduceCtorEq, Nat.reduceAdd, Nat.reduceSub, Int.reduceLT, Int.reduceLE, Int.reduceNeg, decide_true, decide_false, decide_eq_true_eq, Bool.not_true, Bool.not_false, Bool.not_eq_true', decide_eq_false_iff_not, ite_true, ite_false]
      decide
    · obtain ⟨o, ho, rfl⟩ := perm_of_map _ hp
      exact h o ho
theorem castI_len (t : List Nat) : (castI t).length = t.length := by unfold castI; rw [List.length_map]
theorem castI_mem {t : List Nat} {j : Nat} : (j : Int) ∈ castI t ↔ j ∈ t := by
  unfold castI
  rw [List.mem_map]
  constructor
  · rintro ⟨a, ha, e⟩
    obtain rfl : a = j := by omega
    exact ha
  · exact fun h => ⟨j, h, rfl⟩
theorem w__law_dealt {x : Str} {ns ms : List Int} {Q : S → Prop} {E : Exn → Prop} (hx : Meas x) (hz : ns.length + ms.length ≤ 10) (h : ∀ rows : List Int, rows.Perm (dealI (wtsI x (ns ++ ms)) ns.length) → Q (.d (.list (rows.map .int)))) :
    m__law_dealt [.d (.tuple (ns.map .int)), .d (.tuple (ms.map .int)), .d (.str x)] Q E := by
  simp only [m__law_dealt, b__law_dealt, e_dCmb, e_dSortK, e_keyS, e_dSeq, e_dIfS, e_dRet, e_dRetN, e_dRetB, e_dAsg, e_dPar, e_dAsgG, e_dDrop, e_dNext, e_dBrk, e_dCont, e_dNever, e_dFor, e_dFreeze, e_dRetO, e_dNewL, e_dApp, e_dWhile, e_dVar, e_dC, e_dOp1, e_dOp2, e_dCB, e_dNil, e_dCons, e_dB, e_dAnd, e_dOr, e_dNot, e_dAndV, e_dOrV, e_dNotV, e_dIf, e_dTup, e_dLst, e_dIsI, e_dCall, e_dCallK, e_dChain, e_dSl, e_dPart, e_dNoPart, e_dYes, e_dFnCall, e_dCallF, e_dIter, e_dRng1, e_dRng2, e_dEnum, e_dComp, e_gN, e_gBw, e_gOw, e_gT, e_gTn, e_gTc, e_dDef, e_lamM, e_gL, onIB_i, onIB_b, bwS_b, lenBS_b, e_dCompB, plain_bowls, isOwn_bowls, inOp_li, inOp_ti, e_dLenSet, e_dCallD, e_dPl, e_dNewO, e_dCopyO, e_dNewD, e_dDisp, e_prs_nil, e_prs_cons, e_dSets, e_dSetsN, e_sets_cons, e_sets_nil, e_dAppPop, e_dGet2, e_dKeys, e_dVals, e_dItems, e_dPut, e_dFreezeD, e_dSumV, onDc_d, onDc_o, onDz_d, keyR_i, keyR_s, flatK_nil, merge1, e_dStar, e_dComp2, e_dPar3, e_dZip, repS_t, repS_l, ixS_t0, ixS_t1, onBs_tt, rg1S_t, rg1S_l, rg2S_t, rg2S_l, revS_t, revS_l, onDs_map, onDs_map0, startR, lamR, slotR, wipeR, hideR, fits, perm,
  plain_d, plain_bowl, plain_ro, onD_d, onI_i, onB_b, onSq_l, onSq_t, onSq_o, onSq_r, onLs_l, onLs_o, onLs_r, onSeq_l, onSeq_t, onSeq_r, onDs_nil, onDs_d, addS_i, addS_t, addS_l, intP_i, int2_i, negS_i, bix_i, one_s, two_s, isN_d, notN_d, eqS_ii, neS_ii, eqS_in, eqS_bb, ty_tuple_none, ty_tuple_bool, ty_tuple_int, ty_tuple_str, ty_tuple_tuple, ty_tuple_list, ty_tuple_dict, ty_list_none, ty_list_bool, ty_list_int, ty_list_str, ty_list_tuple, ty_list_list, ty_list_dict, ty_bool_none, ty_bool_bool, ty_bool_int, ty_bool_str, ty_bool_tuple, ty_bool_list, ty_bool_dict, ty_int_none, ty_int_bool, ty_int_int, ty_int_str, ty_int_tuple, ty_int_list, ty_int_dict, ty_str_none, ty_str_bool, ty_str_int, ty_str_str, ty_str_tuple, ty_str_list, ty_str_dict, ty_dict_none, ty_dict_bool, ty_dict_int, ty_dict_str, ty_dict_tuple, ty_dict_list, ty_dict_dict, not_true_eq_false, not_false_eq_true, Bool.and_true, Bool.true_and, Bool.and_false, Bool.false_and, Bool.or_true, Bool.true_or, Bool.or_false, Bool.false_or, Bool.true_eq_false, Int.toNat_natCast, isOwn_d, isOwn_bowl, isOwn_ro, isOwn_fn, onIs_map, onBs_map,
  List.map_cons, List.map_nil, List.length_cons, List.length_nil, List.replicate_succ, List.replicate_zero, List.cons_append, List.nil_append, List.append_nil, List.getElem?_cons_zero, List.getElem?_cons_succ, List.set_cons_zero, List.set_cons_succ, List.filterMap_cons, List.filterMap_nil, Option.map, List.mem_cons, List.not_mem_nil, or_false, false_or, forall_eq_or_imp, forall_eq, implies_true, false_imp_iff, List.length_map, and_true, true_and, and_self, if_true, if_false, Bool.false_eq_true, reduceCtorEq, Nat.reduceAdd, Nat.reduceSub, Int.reduceLT, Int.reduceLE, Int.reduceNeg, decide_true, decide_false, decide_eq_true_eq, Bool.not_true, Bool.not_false, Bool.not_eq_true', decide_eq_false_iff_not, ite_true, ite_false]
  refine ⟨sizeLine_ge (by omega), ?_⟩
  rw [← List.map_append]
  generalize hw : ns ++ ms = ws at h ⊢
  have hwl : ws.length = ns.length + ms.length := by rw [← hw, List.length_append]
  simp only [e_dCmb, e_dSortK, e_keyS, e_dSeq, e_dIfS, e_dRet, e_dRetN, e_dRetB, e_dAsg, e_dPar, e_dAsgG, e_dDrop, e_dNext, e_dBrk, e_dCont, e_dNever, e_dFor, e_dFreeze, e_dRetO, e_dNewL, e_dApp, e_dWhile, e_dVar, e_dC, e_dOp1, e_dOp2, e_dCB, e_dNil, e_dCons, e_dB, e_dAnd, e_dOr, e_dNot, e_dAndV, e_dOrV, e_dNotV, e_dIf, e_dTup, e_dLst, e_dIsI, e_dCall, e_dCallK, e_dChain, e_dSl, e_dPart, e_dNoPart, e_dYes, e_dFnCall, e_dCallF, e_dIter, e_dRng1, e_dRng2, e_dEnum, e_dComp, e_gN, e_gBw, e_gOw, e_gT, e_gTn, e_gTc, e_dDef, e_lamM, e_gL, onIB_i, onIB_b, bwS_b, lenBS_b, e_dCompB, plain_bowls, isOwn_bowls, inOp_li, inOp_ti, e_dLenSet, e_dCallD, e_dPl, e_dNewO, e_dCopyO, e_dNewD, e_dDisp, e_prs_nil, e_prs_cons, e_dSets, e_dSetsN, e_sets_cons, e_sets_nil, e_dAppPop, e_dGet2, e_dKeys, e_dVals, e_dItems, e_dPut, e_dFreezeD, e_dSumV, onDc_d, onDc_o, onDz_d, keyR_i, keyR_s, flatK_nil, merge1, e_dStar, e_dComp2, e_dPar3, e_dZip, repS_t, repS_l, ixS_t0, ixS_t1, onBs_tt, rg1S_t, rg1S_l, rg2S_t, rg2S_l, revS_t, revS_l, onDs_map, onDs_map0, startR, lamR, slotR, wipeR, hideR, fits, perm,
  plain_d, plain_bowl, plain_ro, onD_d, onI_i, onB_b, onSq_l, onSq_t, onSq_o, onSq_r, onLs_l, onLs_o, onLs_r, onSeq_l, onSeq_t, onSeq_r, onDs_nil, onDs_d, addS_i, addS_t, addS_l, intP_i, int2_i, negS_i, bix_i, one_s, two_s, isN_d, notN_d, eqS_ii, neS_ii, eqS_in, eqS_bb, ty_tuple_none, ty_tuple_bool, ty_tuple_int, ty_tuple_str, ty_tuple_tuple, ty_tuple_list, ty_tuple_dict, ty_list_none, ty_list_bool, ty_list_int, ty_list_str, ty_list_tuple, ty_list_list, ty_list_dict, ty_bool_none, ty_bool_bool, ty_bool_int, ty_bool_str, ty_bool_tuple, ty_bool_list, ty_bool_dict, ty_int_none, ty_int_bool, ty_int_int, ty_int_str, ty_int_tuple, ty_int_list, ty_int_dict, ty_str_none, ty_str_bool, ty_str_int, ty_str_str, ty_str_tuple, ty_str_list, ty_str_dict, ty_dict_none, ty_dict_bool, ty_dict_int, ty_dict_str, ty_dict_tuple, ty_dict_list, ty_dict_dict, not_true_eq_false, not_false_eq_true, Bool.and_true, Bool.true_and, Bool.and_false, Bool.false_and, Bool.or_true, Bool.true_or, Bool.or_false, Bool.false_or, Bool.true_eq_false, Int.toNat_natCast, isOwn_d, isOwn_bowl, isOwn_ro, isOwn_fn, onIs_map, onBs_map,
  List.map_cons, List.map_nil, List.length_cons, List.length_nil, List.replicate_succ, List.replicate_zero, List.cons_append, List.nil_append, List.append_nil, List.getElem?_cons_zero, List.getElem?_cons_succ, List.set_cons_zero, List.set_cons_succ, List.filterMap_cons, List.filterMap_nil, Option.map, List.mem_cons, List.not_mem_nil, or_false, false_or, forall_eq_or_imp, forall_eq, implies_true, false_imp_iff, List.length_map, and_true, true_and, and_self, if_true, if_false, Bool.false_eq_true, reduceCtorEq, Nat.reduceAdd, Nat.reduceSub, Int.reduceLT, Int.reduceLE, Int.reduceNeg, decide_true, decide_false, decide_eq_true_eq, Bool.not_true, Bool.not_false, Bool.not_eq_true', decide_eq_false_iff_not, ite_true, ite_false]
  refine ⟨by decide, by decide, w__law_sets (by omega) fun out hp => ?_⟩
  simp only [e_dCmb, e_dSortK, e_keyS, e_dSeq, e_dIfS, e_dRet, e_dRetN, e_dRetB, e_dAsg, e_dPar, e_dAsgG, e_dDrop, e_dNext, e_dBrk, e_dCont, e_dNever, e_dFor, e_dFreeze, e_dRetO, e_dNewL, e_dApp, e_dWhile, e_dVar, e_dC, e_dOp1, e_dOp2, e_dCB, e_dNil, e_dCons, e_dB, e_dAnd, e_dOr, e_dNot, e_dAndV, e_dOrV, e_dNotV, e_dIf, e_dTup, e_dLst, e_dIsI, e_dCall, e_dCallK, e_dChain, e_dSl, e_dPart, e_dNoPart, e_dYes, e_dFnCall, e_dCallF, e_dIter, e_dRng1, e_dRng2, e_dEnum, e_dComp, e_gN, e_gBw, e_gOw, e_gT, e_gTn, e_gTc, e_dDef, e_lamM, e_gL, onIB_i, onIB_b, bwS_b, lenBS_b, e_dCompB, plain_bowls, isOwn_bowls, inOp_li, inOp_ti, e_dLenSet, e_dCallD, e_dPl, e_dNewO, e_dCopyO, e_dNewD, e_dDisp, e_prs_nil, e_prs_cons, e_dSets, e_dSetsN, e_sets_cons, e_sets_nil, e_dAppPop, e_dGet2, e_dKeys, e_dVals, e_dItems, e_dPut, e_dFreezeD, e_dSumV, onDc_d, onDc_o, onDz_d, keyR_i, keyR_s, flatK_nil, merge1, e_dStar, e_dComp2, e_dPar3, e_dZip, repS_t, repS_l, ixS_t0, ixS_t1, onBs_tt, rg1S_t, rg1S_l, rg2S_t, rg2S_l, revS_t, revS_l, onDs_map, onDs_map0, startR, lamR, slotR, wipeR, hideR, fits, perm,
  plain_d, plain_bowl, plain_ro, onD_d, onI_i, onB_b, onSq_l, onSq_t, onSq_o, onSq_r, onLs_l, onLs_o, onLs_r, onSeq_l, onSeq_t, onSeq_r, onDs_nil, onDs_d, addS_i, addS_t, addS_l, intP_i, int2_i, negS_i, bix_i, one_s, two_s, isN_d, notN_d, eqS_ii, neS_ii, eqS_in, eqS_bb, ty_tuple_none, ty_tuple_bool, ty_tuple_int, ty_tuple_str, ty_tuple_tuple, ty_tuple_list, ty_tuple_dict, ty_list_none, ty_list_bool, ty_list_int, ty_list_str, ty_list_tuple, ty_list_list, ty_list_dict, ty_bool_none, ty_bool_bool, ty_bool_int, ty_bool_str, ty_bool_tuple, ty_bool_list, ty_bool_dict, ty_int_none, ty_int_bool, ty_int_int, ty_int_str, ty_int_tuple, ty_int_list, ty_int_dict, ty_str_none, ty_str_bool, ty_str_int, ty_str_str, ty_str_tuple, ty_str_list, ty_str_dict, ty_dict_none, ty_dict_bool, ty_dict_int, ty_dict_str, ty_dict_tuple, ty_dict_list, ty_dict_dict, not_true_eq_false, not_false_eq_true, Bool.and_true, Bool.true_and, Bool.and_false, Bool.false_and, Bool.or_true, Bool.true_or, Bool.or_false, Bool.false_or, Bool.true_eq_false, Int.toNat_natCast, isOwn_d, isOwn_bowl, isOwn_ro, isOwn_fn, onIs_map, onBs_map,
  List.map_cons, List.map_nil, List.length_cons, List.length_nil, List.replicate_succ, List.replicate_zero, List.cons_append, List.nil_append, List.append_nil, List.getElem?_cons_zero, List.getElem?_cons_succ, List.set_cons_zero, List.set_cons_succ, List.filterMap_cons, List.filterMap_nil, Option.map, List.mem_cons, List.not_mem_nil, or_false, false_or, forall_eq_or_imp, forall_eq, implies_true, false_imp_iff, List.length_map, and_true, true_and, and_self, if_true, if_false, Bool.false_eq_true, reduceCtorEq, Nat.reduceAdd, Nat.reduceSub, Int.reduceLT, Int.reduceLE, Int.reduceNeg, decide_true, decide_false, decide_eq_true_eq, Bool.not_true, Bool.not_false, Bool.not_eq_true', decide_eq_false_iff_not, ite_true, ite_false]
  refine forL_inv (fun i ρ => ∃ a b c d, ρ = [some (S.d (.tuple (ns.map .int))), some (S.d (.tuple (ms.map .int))), some (S.d (.str x)), some (S.d (.tuple (ws.map .int))), some (S.own (.list ((((out.take i).filter fun t => decide (t.length = ns.length)).map fun t => seenI x (pickI ws t) (restI ws t)).map .int))), a, b, c, d]) 0 ⟨_, _, _, _, rfl⟩ (fun i s ρ X hs hI hX => ?_) fun ρ hI => ?_
  · obtain ⟨a, b, c, d, rfl⟩ := hI
    rw [Nat.zero_add] at hX ⊢
    rw [List.getElem?_map, List.getElem?_map] at hs
    by_cases hi : i < out.length
    · rw [List.getElem?_eq_getElem hi] at hs
      have hs : S.d (tI (castI out[i])) = s := by simpa using hs
      subst hs
      have htk : out.take (i + 1) = out.take i ++ [out[i]] := by rw [List.take_succ, List.getElem?_eq_getElem hi] <;> rfl
      rw [htk] at hX
      have hm := (subs_mem _ _).mp (hp.mem_iff.mp (List.getElem_mem hi))
      generalize out[i] = t at hX hm ⊢
      have hol : (out.take i).length < 1024 := by
        have h1 := hp.length_eq
        rw [subs_len] at h1
        have h2 : 2 ^ ws.length ≤ 2 ^ 10 := Nat.pow_le_pow_right (by decide) (by omega)
        rw [List.length_take]
        omega
      simp only [tI, e_dCmb, e_dSortK, e_keyS, e_dSeq, e_dIfS, e_dRet, e_dRetN, e_dRetB, e_dAsg, e_dPar, e_dAsgG, e_dDrop, e_dNext, e_dBrk, e_dCont, e_dNever, e_dFor, e_dFreeze, e_dRetO, e_dNewL, e_dApp, e_dWhile, e_dVar, e_dC, e_dOp1, e_dOp2, e_dCB, e_dNil, e_dCons, e_dB, e_dAnd, e_dOr, e_dNot, e_dAndV, e_dOrV, e_dNotV, e_dIf, e_dTup, e_dLst, e_dIsI, e_dCall, e_dCallK, e_dChain, e_dSl, e_dPart, e_dNoPart, e_dYes, e_dFnCall, e_dCallF, e_dIter, e_dRng1, e_dRng2, e_dEnum, e_dComp, e_gN, e_gBw, e_gOw, e_gT, e_gTn, e_gTc, e_dDef, e_lamM, e_gL, onIB_i, onIB_b, bwS_b, lenBS_b, e_dCompB, plain_bowls, isOwn_bowls, inOp_li, inOp_ti, e_dLenSet, e_dCallD, e_dPl, e_dNewO, e_dCopyO, e_dNewD, e_dDisp, e_prs_nil, e_prs_cons, e_dSets, e_dSetsN, e_sets_cons, e_sets_nil, e_dAppPop, e_dGet2, e_dKeys, e_dVals, e_dItems, e_dPut, e_dFreezeD, e_dSumV, onDc_d, onDc_o, onDz_d, keyR_i, keyR_s, flatK_nil, merge1, e_dStar, e_dComp2, e_dPar3, e_dZip, repS_t, repS_l, ixS_t0, ixS_t1, onBs_tt, rg1S_t, rg1S_l, rg2S_t, rg2S_l, revS_t, revS_l, onDs_map, onDs_map0, startR, lamR, slotR, wipeR, hideR, fits, perm,
  plain_d, plain_bowl, plain_ro, onD_d, onI_i, onB_b, onSq_l, onSq_t, onSq_o, onSq_r, onLs_l, onLs_o, onLs_r, onSeq_l, onSeq_t, onSeq_r, onDs_nil, onDs_d, addS_i, addS_t, addS_l, intP_i, int2_i, negS_i, bix_i, one_s, two_s, isN_d, notN_d, eqS_ii, neS_ii, eqS_in, eqS_bb, ty_tuple_none, ty_tuple_bool, ty_tuple_int, ty_tuple_str, ty_tuple_tuple, ty_tuple_list, ty_tuple_dict, ty_list_none, ty_list_bool, ty_list_int, ty_list_str, ty_list_tuple, ty_list_list, ty_list_dict, ty_bool_none, ty_bool_bool, ty_bool_int, ty_bool_str, ty_bool_tuple, ty_bool_list, ty_bool_dict, ty_int_none, ty_int_bool, ty_int_int, ty_int_str, ty_int_tuple, ty_int_list, ty_int_dict, ty_str_none, ty_str_bool, ty_str_int, ty_str_str, ty_str_tuple, ty_str_list, ty_str_dict, ty_dict_none, ty_dict_bool, ty_dict_int, ty_dict_str, ty_dict_tuple, ty_dict_list, ty_dict_dict, not_true_eq_false, not_false_eq_true, Bool.and_true, Bool.true_and, Bool.and_false, Bool.false_and, Bool.or_true, Bool.true_or, Bool.or_false, Bool.false_or, Bool.true_eq_false, Int.toNat_natCast, isOwn_d, isOwn_bowl, isOwn_ro, isOwn_fn, onIs_map, onBs_map,
  List.map_cons, List.map_nil, List.length_cons, List.length_nil, List.replicate_succ, List.replicate_zero, List.cons_append, List.nil_append, List.append_nil, List.getElem?_cons_zero, List.getElem?_cons_succ, List.set_cons_zero, List.set_cons_succ, List.filterMap_cons, List.filterMap_nil, Option.map, List.mem_cons, List.not_mem_nil, or_false, false_or, forall_eq_or_imp, forall_eq, implies_true, false_imp_iff, List.length_map, and_true, true_and, and_self, if_true, if_false, Bool.false_eq_true, reduceCtorEq, Nat.reduceAdd, Nat.reduceSub, Int.reduceLT, Int.reduceLE, Int.reduceNeg, decide_true, decide_false, decide_eq_true_eq, Bool.not_true, Bool.not_false, Bool.not_eq_true', decide_eq_false_iff_not, ite_true, ite_false, castI_len]
      by_cases he : t.length = ns.length
      · rw [List.filter_append, List.filter_cons_of_pos (by simpa using he), List.filter_nil, List.map_append, List.map_append] at hX
        rw [if_pos (by omega)]
        refine compL_map (ns := t) (fun j => S.d (.int (j : Int))) (fun j => PyData.int (ws.getD j 0)) (by unfold castI; simp) (sizeLine_ge (by have := hm.2; omega)) (fun j F Z hj hF => ?_) ?_
        · have hj := hm.2 j hj
          have e : atI (ws.map PyData.int) (j : Int) = some (.int (ws.getD j 0)) := atI_nat (by rw [List.getElem?_map, List.getD_eq_getElem?_getD, List.getElem?_eq_getElem hj]; rfl)
          simp only [e_dCmb, e_dSortK, e_keyS, e_dSeq, e_dIfS, e_dRet, e_dRetN, e_dRetB, e_dAsg, e_dPar, e_dAsgG, e_dDrop, e_dNext, e_dBrk, e_dCont, e_dNever, e_dFor, e_dFreeze, e_dRetO, e_dNewL, e_dApp, e_dWhile, e_dVar, e_dC, e_dOp1, e_dOp2, e_dCB, e_dNil, e_dCons, e_dB, e_dAnd, e_dOr, e_dNot, e_dAndV, e_dOrV, e_dNotV, e_dIf, e_dTup, e_dLst, e_dIsI, e_dCall, e_dCallK, e_dChain, e_dSl, e_dPart, e_dNoPart, e_dYes, e_dFnCall, e_dCallF, e_dIter, e_dRng1, e_dRng2, e_dEnum, e_dComp, e_gN, e_gBw, e_gOw, e_gT, e_gTn, e_gTc, e_dDef, e_lamM, e_gL, onIB_i, onIB_b, bwS_b, lenBS_b, e_dCompB, plain_bowls, isOwn_bowls, inOp_li, inOp_ti, e_dLenSet, e_dCallD, e_dPl, e_dNewO, e_dCopyO, e_dNewD, e_dDisp, e_prs_nil, e_prs_cons, e_dSets, e_dSetsN, e_sets_cons, e_sets_nil, e_dAppPop, e_dGet2, e_dKeys, e_dVals, e_dItems, e_dPut, e_dFreezeD, e_dSumV, onDc_d, onDc_o, onDz_d, keyR_i, keyR_s, flatK_nil, merge1, e_dStar, e_dComp2, e_dPar3, e_dZip, repS_t, repS_l, ixS_t0, ixS_t1, onBs_tt, rg1S_t, rg1S_l, rg2S_t, rg2S_l, revS_t, revS_l, onDs_map, onDs_map0, startR, lamR, slotR, wipeR, hideR, fits, perm,
  plain_d, plain_bowl, plain_ro, onD_d, onI_i, onB_b, onSq_l, onSq_t, onSq_o, onSq_r, onLs_l, onLs_o, onLs_r, onSeq_l, onSeq_t, onSeq_r, onDs_nil, onDs_d, addS_i, addS_t, addS_l, intP_i, int2_i, negS_i, bix_i, one_s, two_s, isN_d, notN_d, eqS_ii, neS_ii, eqS_in, eqS_bb, ty_tuple_none, ty_tuple_bool, ty_tuple_int, ty_tuple_str, ty_tuple_tuple, ty_tuple_list, ty_tuple_dict, ty_list_none, ty_list_bool, ty_list_int, ty_list_str, ty_list_tuple, ty_list_list, ty_list_dict, ty_bool_none, ty_bool_bool, ty_bool_int, ty_bool_str, ty_bool_tuple, ty_bool_list, ty_bool_dict, ty_int_none, ty_int_bool, ty_int_int, ty_int_str, ty_int_tuple, ty_int_list, ty_int_dict, ty_str_none, ty_str_bool, ty_str_int, ty_str_str, ty_str_tuple, ty_str_list, ty_str_dict, ty_dict_none, ty_dict_bool, ty_dict_int, ty_dict_str, ty_dict_tuple, ty_dict_list, ty_dict_dict, not_true_eq_false, not_false_eq_true, Bool.and_true, Bool.true_and, Bool.and_false, Bool.false_and, Bool.or_true, Bool.true_or, Bool.or_false, Bool.false_or, Bool.true_eq_false, Int.toNat_natCast, isOwn_d, isOwn_bowl, isOwn_ro, isOwn_fn, onIs_map, onBs_map,
  List.map_cons, List.map_nil, List.length_cons, List.length_nil, List.replicate_succ, List.replicate_zero, List.cons_append, List.nil_append, List.append_nil, List.getElem?_cons_zero, List.getElem?_cons_succ, List.set_cons_zero, List.set_cons_succ, List.filterMap_cons, List.filterMap_nil, Option.map, List.mem_cons, List.not_mem_nil, or_false, false_or, forall_eq_or_imp, forall_eq, implies_true, false_imp_iff, List.length_map, and_true, true_and, and_self, if_true, if_false, Bool.false_eq_true, reduceCtorEq, Nat.reduceAdd, Nat.reduceSub, Int.reduceLT, Int.reduceLE, Int.reduceNeg, decide_true, decide_false, decide_eq_true_eq, Bool.not_true, Bool.not_false, Bool.not_eq_true', decide_eq_false_iff_not, ite_true, ite_false, ixS, e]
          exact hF
        · rw [show (t.map fun j => PyData.int (ws.getD j 0)) = (pickI ws t).map .int by unfold pickI; rw [List.map_map]; rfl]
          refine ⟨⟨by decide, by decide, by omega, by omega⟩, ?_⟩
          refine compL_fm (ns := List.range ws.length) (fun j => S.d (.int (j : Int))) (fun j => decide (j ∉ t)) (fun j => PyData.int (ws.getD j 0)) (by unfold rngS; simp) (sizeLine_ge (by rw [List.length_range]; omega)) (fun j F Z hj h1 h2 => ?_) ?_
          · have hj := List.mem_range.mp hj
            have e : atI (ws.map PyData.int) (j : Int) = some (.int (ws.getD j 0)) := atI_nat (by rw [List.getElem?_map, List.getD_eq_getElem?_getD, List.getElem?_eq_getElem hj]; rfl)
            simp only [e_dCmb, e_dSortK, e_keyS, e_dSeq, e_dIfS, e_dRet, e_dRetN, e_dRetB, e_dAsg, e_dPar, e_dAsgG, e_dDrop, e_dNext, e_dBrk, e_dCont, e_dNever, e_dFor, e_dFreeze, e_dRetO, e_dNewL, e_dApp, e_dWhile, e_dVar, e_dC, e_dOp1, e_dOp2, e_dCB, e_dNil, e_dCons, e_dB, e_dAnd, e_dOr, e_dNot, e_dAndV, e_dOrV, e_dNotV, e_dIf, e_dTup, e_dLst, e_dIsI, e_dCall, e_dCallK, e_dChain, e_dSl, e_dPart, e_dNoPart, e_dYes, e_dFnCall, e_dCallF, e_dIter, e_dRng1, e_dRng2, e_dEnum, e_dComp, e_gN, e_gBw, e_gOw, e_gT, e_gTn, e_gTc, e_dDef, e_lamM, e_gL, onIB_i, onIB_b, bwS_b, lenBS_b, e_dCompB, plain_bowls, isOwn_bowls, inOp_li, inOp_ti, e_dLenSet, e_dCallD, e_dPl, e_dNewO, e_dCopyO, e_dNewD, e_dDisp, e_prs_nil, e_prs_cons, e_dSets, e_dSetsN, e_sets_cons, e_sets_nil, e_dAppPop, e_dGet2, e_dKeys, e_dVals, e_dItems, e_dPut, e_dFreezeD, e_dSumV, onDc_d, onDc_o, onDz_d, keyR_i, keyR_s, flatK_nil, merge1, e_dStar, e_dComp2, e_dPar3, e_dZip, repS_t, repS_l, ixS_t0, ixS_t1, onBs_tt, rg1S_t, rg1S_l, rg2S_t, rg2S_l, revS_t, revS_l, onDs_map, onDs_map0, startR, lamR, slotR, wipeR, hideR, fits, perm,
  plain_d, plain_bowl, plain_ro, onD_d, onI_i, onB_b, onSq_l, onSq_t, onSq_o, onSq_r, onLs_l, onLs_o, onLs_r, onSeq_l, onSeq_t, onSeq_r, onDs_nil, onDs_d, addS_i, addS_t, addS_l, intP_i, int2_i, negS_i, bix_i, one_s, two_s, isN_d, notN_d, eqS_ii, neS_ii, eqS_in, eqS_bb, ty_tuple_none, ty_tuple_bool, ty_tuple_int, ty_tuple_str, ty_tuple_tuple, ty_tuple_list, ty_tuple_dict, ty_list_none, ty_list_bool, ty_list_int, ty_list_str, ty_list_tuple, ty_list_list, ty_list_dict, ty_bool_none, ty_bool_bool, ty_bool_int, ty_bool_str, ty_bool_tuple, ty_bool_list, ty_bool_dict, ty_int_none, ty_int_bool, ty_int_int, ty_int_str, ty_int_tuple, ty_int_list, ty_int_dict, ty_str_none, ty_str_bool, ty_str_int, ty_str_str, ty_str_tuple, ty_str_list, ty_str_dict, ty_dict_none, ty_dict_bool, ty_dict_int, ty_dict_str, ty_dict_tuple, ty_dict_list, ty_dict_dict, not_true_eq_false, not_false_eq_true, Bool.and_true, Bool.true_and, Bool.and_false, Bool.false_and, Bool.or_true, Bool.true_or, Bool.or_false, Bool.false_or, Bool.true_eq_false, Int.toNat_natCast, isOwn_d, isOwn_bowl, isOwn_ro, isOwn_fn, onIs_map, onBs_map,
  List.map_cons, List.map_nil, List.length_cons, List.length_nil, List.replicate_succ, List.replicate_zero, List.cons_append, List.nil_append, List.append_nil, List.getElem?_cons_zero, List.getElem?_cons_succ, List.set_cons_zero, List.set_cons_succ, List.filterMap_cons, List.filterMap_nil, Option.map, List.mem_cons, List.not_mem_nil, or_false, false_or, forall_eq_or_imp, forall_eq, implies_true, false_imp_iff, List.length_map, and_true, true_and, and_self, if_true, if_false, Bool.false_eq_true, reduceCtorEq, Nat.reduceAdd, Nat.reduceSub, Int.reduceLT, Int.reduceLE, Int.reduceNeg, decide_true, decide_false, decide_eq_true_eq, Bool.not_true, Bool.not_false, Bool.not_eq_true', decide_eq_false_iff_not, ite_true, ite_false, ixS, e, castI_mem]
            by_cases hh : j ∈ t
            · have q := h2 (decide_eq_false (fun z => z hh))
              simp only [hh, decide_true, Bool.not_true, Bool.false_eq_true, if_false]
              exact q
            · have q := h1 (decide_eq_true hh)
              simp only [hh, decide_false, Bool.not_false, if_true]
              exact q
          · rw [show (((List.range ws.length).filter fun j => decide (j ∉ t)).map fun j => PyData.int (ws.getD j 0)) = (restI ws t).map .int by unfold restI pickI; rw [List.map_map]; rfl]
            have hpr := (pick_rest hm.1 hm.2).length_eq
            rw [List.length_append] at hpr
            refine w__law_measure hx (by omega) ?_
            simp only [e_dCmb, e_dSortK, e_keyS, e_dSeq, e_dIfS, e_dRet, e_dRetN, e_dRetB, e_dAsg, e_dPar, e_dAsgG, e_dDrop, e_dNext, e_dBrk, e_dCont, e_dNever, e_dFor, e_dFreeze, e_dRetO, e_dNewL, e_dApp, e_dWhile, e_dVar, e_dC, e_dOp1, e_dOp2, e_dCB, e_dNil, e_dCons, e_dB, e_dAnd, e_dOr, e_dNot, e_dAndV, e_dOrV, e_dNotV, e_dIf, e_dTup, e_dLst, e_dIsI, e_dCall, e_dCallK, e_dChain, e_dSl, e_dPart, e_dNoPart, e_dYes, e_dFnCall, e_dCallF, e_dIter, e_dRng1, e_dRng2, e_dEnum, e_dComp, e_gN, e_gBw, e_gOw, e_gT, e_gTn, e_gTc, e_dDef, e_lamM, e_gL, onIB_i, onIB_b, bwS_b, lenBS_b, e_dCompB, plain_bowls, isOwn_bowls, inOp_li, inOp_ti, e_dLenSet, e_dCallD, e_dPl, e_dNewO, e_dCopyO, e_dNewD, e_dDisp, e_prs_nil, e_prs_cons, e_dSets, e_dSetsN, e_sets_cons, e_sets_nil, e_dAppPop, e_dGet2, e_dKeys, e_dVals, e_dItems, e_dPut, e_dFreezeD, e_dSumV, onDc_d, onDc_o, onDz_d, keyR_i, keyR_s, flatK_nil, merge1, e_dStar, e_dComp2, e_dPar3, e_dZip, repS_t, repS_l, ixS_t0, ixS_t1, onBs_tt, rg1S_t, rg1S_l, rg2S_t, rg2S_l, revS_t, revS_l, onDs_map, onDs_map0, startR, lamR, slotR, wipeR, hideR, fits, perm,
  plain_d, plain_bowl, plain_ro, onD_d, onI_i, onB_b, onSq_l, onSq_t, onSq_o, onSq_r, onLs_l, onLs_o, onLs_r, onSeq_l, onSeq_t, onSeq_r, onDs_nil, onDs_d, addS_i, addS_t, addS_l, intP_i, int2_i, negS_i, bix_i, one_s, two_s, isN_d, notN_d, eqS_ii, neS_ii, eqS_in, eqS_bb, ty_tuple_none, ty_tuple_bool, ty_tuple_int, ty_tuple_str, ty_tuple_tuple, ty_tuple_list, ty_tuple_dict, ty_list_none, ty_list_bool, ty_list_int, ty_list_str, ty_list_tuple, ty_list_list, ty_list_dict, ty_bool_none, ty_bool_bool, ty_bool_int, ty_bool_str, ty_bool_tuple, ty_bool_list, ty_bool_dict, ty_int_none, ty_int_bool, ty_int_int, ty_int_str, ty_int_tuple, ty_int_list, ty_int_dict, ty_str_none, ty_str_bool, ty_str_int, ty_str_str, ty_str_tuple, ty_str_list, ty_str_dict, ty_dict_none, ty_dict_bool, ty_dict_int, ty_dict_str, ty_dict_tuple, ty_dict_list, ty_dict_dict, not_true_eq_false, not_false_eq_true, Bool.and_true, Bool.true_and, Bool.and_false, Bool.false_and, Bool.or_true, Bool.true_or, Bool.or_false, Bool.false_or, Bool.true_eq_false, Int.toNat_natCast, isOwn_d, isOwn_bowl, isOwn_ro, isOwn_fn, onIs_map, onBs_map,
  List.map_cons, List.map_nil, List.length_cons, List.length_nil, List.replicate_succ, List.replicate_zero, List.cons_append, List.nil_append, List.append_nil, List.getElem?_cons_zero, List.getElem?_cons_succ, List.set_cons_zero, List.set_cons_succ, List.filterMap_cons, List.filterMap_nil, Option.map, List.mem_cons, List.not_mem_nil, or_false, false_or, forall_eq_or_imp, forall_eq, implies_true, false_imp_iff, List.length_map, and_true, true_and, and_self, if_true, if_false, Bool.false_eq_true, reduceCtorEq, Nat.reduceAdd, Nat.reduceSub, Int.reduceLT, Int.reduceLE, Int.reduceNeg, decide_true, decide_false, decide_eq_true_eq, Bool.not_true, Bool.not_false, Bool.not_eq_true', decide_eq_false_iff_not, ite_true, ite_false]
            refine ⟨Nat.lt_of_lt_of_le (Nat.lt_of_le_of_lt (List.length_filter_le _ _) hol) (by decide), hX _ ⟨_, _, _, _, rfl⟩⟩
      · rw [List.filter_append, List.filter_cons_of_neg (by simpa using he), List.filter_nil, List.append_nil] at hX
        rw [if_neg (by omega)]
        exact hX _ ⟨_, _, _, _, rfl⟩
    · rw [List.getElem?_eq_none (by omega)] at hs
      cases hs
  · obtain ⟨a, b, c, d, rfl⟩ := hI
    rw [Nat.zero_add] 
    simp only [e_dCmb, e_dSortK, e_keyS, e_dSeq, e_dIfS, e_dRet, e_dRetN, e_dRetB, e_dAsg, e_dPar, e_dAsgG, e_dDrop, e_dNext, e_dBrk, e_dCont, e_dNever, e_dFor, e_dFreeze, e_dRetO, e_dNewL, e_dApp, e_dWhile, e_dVar, e_dC, e_dOp1, e_dOp2, e_dCB, e_dNil, e_dCons, e_dB, e_dAnd, e_dOr, e_dNot, e_dAndV, e_dOrV, e_dNotV, e_dIf, e_dTup, e_dLst, e_dIsI, e_dCall, e_dCallK, e_dChain, e_dSl, e_dPart, e_dNoPart, e_dYes, e_dFnCall, e_dCallF, e_dIter, e_dRng1, e_dRng2, e_dEnum, e_dComp, e_gN, e_gBw, e_gOw, e_gT, e_gTn, e_gTc, e_dDef, e_lamM, e_gL, onIB_i, onIB_b, bwS_b, lenBS_b, e_dCompB, plain_bowls, isOwn_bowls, inOp_li, inOp_ti, e_dLenSet, e_dCallD, e_dPl, e_dNewO, e_dCopyO, e_dNewD, e_dDisp, e_prs_nil, e_prs_cons, e_dSets, e_dSetsN, e_sets_cons, e_sets_nil, e_dAppPop, e_dGet2, e_dKeys, e_dVals, e_dItems, e_dPut, e_dFreezeD, e_dSumV, onDc_d, onDc_o, onDz_d, keyR_i, keyR_s, flatK_nil, merge1, e_dStar, e_dComp2, e_dPar3, e_dZip, repS_t, repS_l, ixS_t0, ixS_t1, onBs_tt, rg1S_t, rg1S_l, rg2S_t, rg2S_l, revS_t, revS_l, onDs_map, onDs_map0, startR, lamR, slotR, wipeR, hideR, fits, perm,
  plain_d, plain_bowl, plain_ro, onD_d, onI_i, onB_b, onSq_l, onSq_t, onSq_o, onSq_r, onLs_l, onLs_o, onLs_r, onSeq_l, onSeq_t, onSeq_r, onDs_nil, onDs_d, addS_i, addS_t, addS_l, intP_i, int2_i, negS_i, bix_i, one_s, two_s, isN_d, notN_d, eqS_ii, neS_ii, eqS_in, eqS_bb, ty_tuple_none, ty_tuple_bool, ty_tuple_int, ty_tuple_str, ty_tuple_tuple, ty_tuple_list, ty_tuple_dict, ty_list_none, ty_list_bool, ty_list_int, ty_list_str, ty_list_tuple, ty_list_list, ty_list_dict, ty_bool_none, ty_bool_bool, ty_bool_int, ty_bool_str, ty_bool_tuple, ty_bool_list, ty_bool_dict, ty_int_none, ty_int_bool, ty_int_int, ty_int_str, ty_int_tuple, ty_int_list, ty_int_dict, ty_str_none, ty_str_bool, ty_str_int, ty_str_str, ty_str_tuple, ty_str_list, ty_str_dict, ty_dict_none, ty_dict_bool, ty_dict_int, ty_dict_str, ty_dict_tuple, ty_dict_list, ty_dict_dict, not_true_eq_false, not_false_eq_true, Bool.and_true, Bool.true_and, Bool.and_false, Bool.false_and, Bool.or_true, Bool.true_or, Bool.or_false, Bool.false_or, Bool.true_eq_false, Int.toNat_natCast, isOwn_d, isOwn_bowl, isOwn_ro, isOwn_fn, onIs_map, onBs_map,
  List.map_cons, List.map_nil, List.length_cons, List.length_nil, List.replicate_succ, List.replicate_zero, List.cons_append, List.nil_append, List.append_nil, List.getElem?_cons_zero, List.getElem?_cons_succ, List.set_cons_zero, List.set_cons_succ, List.filterMap_cons, List.filterMap_nil, Option.map, List.mem_cons, List.not_mem_nil, or_false, false_or, forall_eq_or_imp, forall_eq, implies_true, false_imp_iff, List.length_map, and_true, true_and, and_self, if_true, if_false, Bool.false_eq_true, reduceCtorEq, Nat.reduceAdd, Nat.reduceSub, Int.reduceLT, Int.reduceLE, Int.reduceNeg, decide_true, decide_false, decide_eq_true_eq, Bool.not_true, Bool.not_false, Bool.not_eq_true', decide_eq_false_iff_not, ite_true, ite_false]
    rw [List.take_length]
    exact h _ (rows_perm x hp)
theorem chT_ints (ws : List Int) (a : Nat) : chT (ws.map .int) a = (chs ws a).map fun t => S.d (tI t) := by
  unfold chT
  rw [chs_map, List.map_map]
  rfl
theorem deal_small {ws : List Int} {a : Nat} (hz : ws.length ≤ 10) : (dealI ws a).length ≤ 1024 := by
  rw [deal_len]
  exact Nat.le_trans (chs_le ws a) (Nat.pow_le_pow_right (by decide) hz)
theorem w_dealt_by {ws : List Int} {a : Nat} {Q : S → Prop} {E : Exn → Prop} (hz : ws.length ≤ 10) (ha : a ≤ 10) (h : Q (.d (.list ((dealI ws a).map .int)))) : m_dealt_by [.d (.list (ws.map .int)), .d (.int a)] Q E := by
  have hl := deal_small (a := a) hz
  rw [deal_len] at hl
  simp only [m_dealt_by, b_dealt_by, e_dCmb, e_dSortK, e_keyS, e_dSeq, e_dIfS, e_dRet, e_dRetN, e_dRetB, e_dAsg, e_dPar, e_dAsgG, e_dDrop, e_dNext, e_dBrk, e_dCont, e_dNever, e_dFor, e_dFreeze, e_dRetO, e_dNewL, e_dApp, e_dWhile, e_dVar, e_dC, e_dOp1, e_dOp2, e_dCB, e_dNil, e_dCons, e_dB, e_dAnd, e_dOr, e_dNot, e_dAndV, e_dOrV, e_dNotV, e_dIf, e_dTup, e_dLst, e_dIsI, e_dCall, e_dCallK, e_dChain, e_dSl, e_dPart, e_dNoPart, e_dYes, e_dFnCall, e_dCallF, e_dIter, e_dRng1, e_dRng2, e_dEnum, e_dComp, e_gN, e_gBw, e_gOw, e_gT, e_gTn, e_gTc, e_dDef, e_lamM, e_gL, onIB_i, onIB_b, bwS_b, lenBS_b, e_dCompB, plain_bowls, isOwn_bowls, inOp_li, inOp_ti, e_dLenSet, e_dCallD, e_dPl, e_dNewO, e_dCopyO, e_dNewD, e_dDisp, e_prs_nil, e_prs_cons, e_dSets, e_dSetsN, e_sets_cons, e_sets_nil, e_dAppPop, e_dGet2, e_dKeys, e_dVals, e_dItems, e_dPut, e_dFreezeD, e_dSumV, onDc_d, onDc_o, onDz_d, keyR_i, keyR_s, flatK_nil, merge1, e_dStar, e_dComp2, e_dPar3, e_dZip, repS_t, repS_l, ixS_t0, ixS_t1, onBs_tt, rg1S_t, rg1S_l, rg2S_t, rg2S_l, revS_t, revS_l, onDs_map, onDs_map0, startR, lamR, slotR, wipeR, hideR, fits, perm,
  plain_d, plain_bowl, plain_ro, onD_d, onI_i, onB_b, onSq_l, onSq_t, onSq_o, onSq_r, onLs_l, onLs_o, onLs_r, onSeq_l, onSeq_t, onSeq_r, onDs_nil, onDs_d, addS_i, addS_t, addS_l, intP_i, int2_i, negS_i, bix_i, one_s, two_s, isN_d, notN_d, eqS_ii, neS_ii, eqS_in, eqS_bb, ty_tuple_none, ty_tuple_bool, ty_tuple_int, ty_tuple_str, ty_tuple_tuple, ty_tuple_list, ty_tuple_dict, ty_list_none, ty_list_bool, ty_list_int, ty_list_str, ty_list_tuple, ty_list_list, ty_list_dict, ty_bool_none, ty_bool_bool, ty_bool_int, ty_bool_str, ty_bool_tuple, ty_bool_list, ty_bool_dict, ty_int_none, ty_int_bool, ty_int_int, ty_int_str, ty_int_tuple, ty_int_list, ty_int_dict, ty_str_none, ty_str_bool, ty_str_int, ty_str_str, ty_str_tuple, ty_str_list, ty_str_dict, ty_dict_none, ty_dict_bool, ty_dict_int, ty_dict_str, ty_dict_tuple, ty_dict_list, ty_dict_dict, not_true_eq_false, not_false_eq_true, Bool.and_true, Bool.true_and, Bool.and_false, Bool.false_and, Bool.or_true, Bool.true_or, Bool.or_false, Bool.false_or, Bool.true_eq_false, Int.toNat_natCast, isOwn_d, isOwn_bowl, isOwn_ro, isOwn_fn, onIs_map, onBs_map,
  List.map_cons, List.map_nil, List.length_cons, List.length_nil, List.replicate_succ, List.replicate_zero, List.cons_append, List.nil_append, List.append_nil, List.getElem?_cons_zero, List.getElem?_cons_succ, List.set_cons_zero, List.set_cons_succ, List.filterMap_cons, List.filterMap_nil, Option.map, List.mem_cons, List.not_mem_nil, or_false, false_or, forall_eq_or_imp, forall_eq, implies_true, false_imp_iff, List.length_map, and_true, true_and, and_self, if_true, if_false, Bool.false_eq_true, reduceCtorEq, Nat.reduceAdd, Nat.reduceSub, Int.reduceLT, Int.reduceLE, Int.reduceNeg, decide_true, decide_false, decide_eq_true_eq, Bool.not_true, Bool.not_false, Bool.not_eq_true', decide_eq_false_iff_not, ite_true, ite_false]
  refine ⟨by omega, by omega, ?_⟩
  rw [chT_ints]
  refine compL_map (ns := chs ws a) (fun t => S.d (tI t)) (fun t => PyData.int t.sum) rfl (sizeLine_ge (by omega)) (fun t F Z ht hF => ?_) ?_
  · simp only [tI, e_dCmb, e_dSortK, e_keyS, e_dSeq, e_dIfS, e_dRet, e_dRetN, e_dRetB, e_dAsg, e_dPar, e_dAsgG, e_dDrop, e_dNext, e_dBrk, e_dCont, e_dNever, e_dFor, e_dFreeze, e_dRetO, e_dNewL, e_dApp, e_dWhile, e_dVar, e_dC, e_dOp1, e_dOp2, e_dCB, e_dNil, e_dCons, e_dB, e_dAnd, e_dOr, e_dNot, e_dAndV, e_dOrV, e_dNotV, e_dIf, e_dTup, e_dLst, e_dIsI, e_dCall, e_dCallK, e_dChain, e_dSl, e_dPart, e_dNoPart, e_dYes, e_dFnCall, e_dCallF, e_dIter, e_dRng1, e_dRng2, e_dEnum, e_dComp, e_gN, e_gBw, e_gOw, e_gT, e_gTn, e_gTc, e_dDef, e_lamM, e_gL, onIB_i, onIB_b, bwS_b, lenBS_b, e_dCompB, plain_bowls, isOwn_bowls, inOp_li, inOp_ti, e_dLenSet, e_dCallD, e_dPl, e_dNewO, e_dCopyO, e_dNewD, e_dDisp, e_prs_nil, e_prs_cons, e_dSets, e_dSetsN, e_sets_cons, e_sets_nil, e_dAppPop, e_dGet2, e_dKeys, e_dVals, e_dItems, e_dPut, e_dFreezeD, e_dSumV, onDc_d, onDc_o, onDz_d, keyR_i, keyR_s, flatK_nil, merge1, e_dStar, e_dComp2, e_dPar3, e_dZip, repS_t, repS_l, ixS_t0, ixS_t1, onBs_tt, rg1S_t, rg1S_l, rg2S_t, rg2S_l, revS_t, revS_l, onDs_map, onDs_map0, startR, lamR, slotR, wipeR, hideR, fits, perm,
  plain_d, plain_bowl, plain_ro, onD_d, onI_i, onB_b, onSq_l, onSq_t, onSq_o, onSq_r, onLs_l, onLs_o, onLs_r, onSeq_l, onSeq_t, onSeq_r, onDs_nil, onDs_d, addS_i, addS_t, addS_l, intP_i, int2_i, negS_i, bix_i, one_s, two_s, isN_d, notN_d, eqS_ii, neS_ii, eqS_in, eqS_bb, ty_tuple_none, ty_tuple_bool, ty_tuple_int, ty_tuple_str, ty_tuple_tuple, ty_tuple_list, ty_tuple_dict, ty_list_none, ty_list_bool, ty_list_int, ty_list_str, ty_list_tuple, ty_list_list, ty_list_dict, ty_bool_none, ty_bool_bool, ty_bool_int, ty_bool_str, ty_bool_tuple, ty_bool_list, ty_bool_dict, ty_int_none, ty_int_bool, ty_int_int, ty_int_str, ty_int_tuple, ty_int_list, ty_int_dict, ty_str_none, ty_str_bool, ty_str_int, ty_str_str, ty_str_tuple, ty_str_list, ty_str_dict, ty_dict_none, ty_dict_bool, ty_dict_int, ty_dict_str, ty_dict_tuple, ty_dict_list, ty_dict_dict, not_true_eq_false, not_false_eq_true, Bool.and_true, Bool.true_and, Bool.and_false, Bool.false_and, Bool.or_true, Bool.true_or, Bool.or_false, Bool.false_or, Bool.true_eq_false, Int.toNat_natCast, isOwn_d, isOwn_bowl, isOwn_ro, isOwn_fn, onIs_map, onBs_map,
  List.map_cons, List.map_nil, List.length_cons, List.length_nil, List.replicate_succ, List.replicate_zero, List.cons_append, List.nil_append, List.append_nil, List.getElem?_cons_zero, List.getElem?_cons_succ, List.set_cons_zero, List.set_cons_succ, List.filterMap_cons, List.filterMap_nil, Option.map, List.mem_cons, List.not_mem_nil, or_false, false_or, forall_eq_or_imp, forall_eq, implies_true, false_imp_iff, List.length_map, and_true, true_and, and_self, if_true, if_false, Bool.false_eq_true, reduceCtorEq, Nat.reduceAdd, Nat.reduceSub, Int.reduceLT, Int.reduceLE, Int.reduceNeg, decide_true, decide_false, decide_eq_true_eq, Bool.not_true, Bool.not_false, Bool.not_eq_true', decide_eq_false_iff_not, ite_true, ite_false]
    exact hF
  · unfold dealI at h
    rw [List.map_map] at h
    exact h
def aboveC (rows : List Int) (own : Int) : Int := (rows.filter fun v => decide (own ≤ v)).length
def belowC (rows : List Int) (own : Int) : Int := (rows.filter fun v => decide (v ≤ own)).length
def absI (z : Int) : Int := if z < 0 then -z else z
theorem absI_eq (z : Int) : absI z = z.natAbs := by
  unfold absI
  split <;> omega
def farI (ws : List Int) (a : Nat) (v : Int) : Int := absI ((ws.length : Int) * v - a * ws.sum)
def bothC (ws : List Int) (a : Nat) (rows : List Int) (own : Int) : Int := (rows.filter fun v => decide (farI ws a own ≤ farI ws a v)).length
theorem far_low {rows : List Int} {ws : List Int} {a : Nat} {m0 m1 : Int} (hp : rows.Perm (dealI ws a)) (h0 : 0 < ws.length) (hr : 0 < rows.length) (e0 : rows.sum = gI rows.sum rows.length * m0) (e1 : (rows.length : Int) = gI rows.sum rows.length * m1) (v s : Int) :
    (absI (s * m1 - m0) ≤ absI (v * m1 - m0)) ↔ (farI ws a s ≤ farI ws a v) := by
  have ht := deal_tot ws a
  rw [← zsum_perm hp, ← hp.length_eq] at ht
  have hg : 0 < gI rows.sum rows.length := gI_pos (by omega)
  generalize gI rows.sum rows.length = g at *
  have key : ∀ z : Int, (g * ws.length) * absI (z * m1 - m0) = rows.length * farI ws a z := fun z => by
    unfold farI
    rw [absI_eq, absI_eq]
    have e : (g * ws.length) * (z * m1 - m0) = rows.length * (ws.length * z - a * ws.sum) := by grind
    have q := congrArg Int.natAbs e
    rw [Int.natAbs_mul (g * ws.length), Int.natAbs_mul (rows.length : Int)] at q
    have q2 : ((g * (ws.length : Int)).natAbs : Int) = g * ws.length := Int.natAbs_of_nonneg (Int.le_of_lt (Int.mul_pos hg (by omega)))
    have q3 : (((rows.length : Int)).natAbs : Int) = rows.length := by omega
    rw [← q2, ← Int.natCast_mul, q, Int.natCast_mul, q3]
  have hgn : 0 < g * ws.length := Int.mul_pos hg (by omega)
  have hrl : (0 : Int) < rows.length := by omega
  constructor
  · intro h
    have h2 := Int.mul_le_mul_of_nonneg_left h (Int.le_of_lt hgn)
    rw [key, key] at h2
    exact Int.le_of_mul_le_mul_left h2 hrl
  · intro h
    have h2 := Int.mul_le_mul_of_nonneg_left h (Int.le_of_lt hrl)
    rw [← key, ← key] at h2
    exact Int.le_of_mul_le_mul_left h2 hgn
/-- the three shares, by all dealings -/
def shAb (x : Str) (ns ms : List Int) : PyData := lowP (aboveC (dealI (wtsI x (ns ++ ms)) ns.length) (seenI x ns ms)) (dealI (wtsI x (ns ++ ms)) ns.length).length
def shBe (x : Str) (ns ms : List Int) : PyData := lowP (belowC (dealI (wtsI x (ns ++ ms)) ns.length) (seenI x ns ms)) (dealI (wtsI x (ns ++ ms)) ns.length).length
def shBo (x : Str) (ns ms : List Int) : PyData := lowP (bothC (wtsI x (ns ++ ms)) ns.length (dealI (wtsI x (ns ++ ms)) ns.length) (seenI x ns ms)) (dealI (wtsI x (ns ++ ms)) ns.length).length
theorem cnt_ok {rows : List Int} {p : Int → Bool} {v : Int} (hv : v ∈ rows) (hp : p v = true) : 0 < ((rows.filter p).length : Int) ∧ ((rows.filter p).length : Int) ≤ rows.length := by
  have h1 : 0 < (rows.filter p).length := List.length_pos_of_mem (List.mem_filter.mpr ⟨hv, hp⟩)
  have h2 := List.length_filter_le p rows
  omega
/-- a part: above 0, up to 1 -/
theorem low_part {n m : Int} (h0 : 0 < n) (h1 : n ≤ m) : ∃ a b : Int, lowP n m = .tuple [.int a, .int b] ∧ 0 < a ∧ a ≤ b := by
  obtain ⟨a, b, e0, e1, f0, f1, hb, _⟩ := low_mul (n := n) (m := m) (by omega)
  have hg := gI_pos (n := n) (m := m) (by omega)
  refine ⟨a, b, by unfold lowP; rw [e0, e1], ?_, ?_⟩
  · rcases Int.lt_trichotomy 0 a with h | h | h
    · exact h
    · rw [← h, Int.mul_zero] at f0; omega
    · have := Int.mul_neg_of_pos_of_neg hg h; omega
  · exact Int.le_of_mul_le_mul_left (by omega) hg
theorem shAb_part (x : Str) (ns ms : List Int) : ∃ a b : Int, shAb x ns ms = .tuple [.int a, .int b] ∧ 0 < a ∧ a ≤ b := by
  have h := cnt_ok (p := fun v => decide (seenI x ns ms ≤ v)) (seen_deal x ns ms) (decide_eq_true (Int.le_refl _))
  exact low_part h.1 h.2
theorem shBe_part (x : Str) (ns ms : List Int) : ∃ a b : Int, shBe x ns ms = .tuple [.int a, .int b] ∧ 0 < a ∧ a ≤ b := by
  have h := cnt_ok (p := fun v => decide (v ≤ seenI x ns ms)) (seen_deal x ns ms) (decide_eq_true (Int.le_refl _))
  exact low_part h.1 h.2
theorem shBo_part (x : Str) (ns ms : List Int) : ∃ a b : Int, shBo x ns ms = .tuple [.int a, .int b] ∧ 0 < a ∧ a ≤ b := by
  have h := cnt_ok (p := fun v => decide (farI (wtsI x (ns ++ ms)) ns.length (seenI x ns ms) ≤ farI (wtsI x (ns ++ ms)) ns.length v)) (seen_deal x ns ms) (decide_eq_true (Int.le_refl _))
  exact low_part h.1 h.2
/-! ### groups exchanged, turned about -/
theorem deal_zero (ws : List Int) : dealI ws 0 = [0] := by unfold dealI chs; rfl
theorem deal_full : ∀ ws : List Int, dealI ws ws.length = [ws.sum]
  | [] => by simp [deal_zero]
  | x :: l => by
    rw [List.length_cons, deal_cons, deal_full l]
    unfold dealI
    rw [chs_big l (l.length + 1) (by omega)]
    simp
theorem deal_perm {ws ws' : List Int} (h : ws.Perm ws') : ∀ r, (dealI ws r).Perm (dealI ws' r) := by
  induction h with
  | nil => exact fun r => .refl _
  | cons x p ih =>
    intro r
    cases r with
    | zero => rw [deal_zero, deal_zero]
    | succ r =>
      rw [deal_cons, deal_cons]
      exact ((ih r).map _).append (ih (r + 1))
  | swap x y l =>
    intro r
    cases r with
    | zero => rw [deal_zero, deal_zero]
    | succ r =>
      cases r with
      | zero =>
        rw [deal_cons, deal_cons, deal_cons, deal_cons, deal_zero, deal_zero, deal_zero]
        exact .swap _ _ _
      | succ r =>
        have e : ∀ a b : Int, dealI (a :: b :: l) (r + 1 + 1) = (dealI l r).map (fun z => a + (b + z)) ++ ((dealI l (r + 1)).map (a + ·) ++ ((dealI l (r + 1)).map (b + ·) ++ dealI l (r + 1 + 1))) := fun a b => by
          rw [deal_cons a, deal_cons b, deal_cons b, List.map_append, List.map_map, List.append_assoc]
          rfl
        rw [e, e, show (fun z : Int => y + (x + z)) = fun z => x + (y + z) from funext fun z => by omega]
        refine List.Perm.append_left _ ?_
        rw [← List.append_assoc, ← List.append_assoc]
        exact List.Perm.append_right _ List.perm_append_comm
  | trans _ _ h1 h2 => exact fun r => (h1 r).trans (h2 r)
theorem deal_compl : ∀ (ws : List Int) (r : Nat), r ≤ ws.length → (dealI ws r).Perm ((dealI ws (ws.length - r)).map fun z => ws.sum - z)
  | ws, 0, _ => by
    rw [Nat.sub_zero, deal_full, deal_zero]
    simp
  | [], r + 1, h => by simp at h
  | x :: l, r + 1, h => by
    rw [List.length_cons] at h ⊢
    by_cases e : r = l.length
    · subst e
      rw [show l.length + 1 - (l.length + 1) = 0 by omega, deal_zero]
      have q := deal_full (x :: l)
      rw [List.length_cons] at q
      rw [q]
      simp
    · obtain ⟨k, hk⟩ : ∃ k, l.length - r = k + 1 := ⟨l.length - r - 1, by omega⟩
      rw [show l.length + 1 - (r + 1) = k + 1 by omega, deal_cons, deal_cons, List.map_append, List.map_map, List.sum_cons]
      have i1 := deal_compl l r (by omega)
      have i2 := deal_compl l (r + 1) (by omega)
      rw [hk] at i1
      rw [show l.length - (r + 1) = k by omega] at i2
      have i1 := i1.map fun z => x + z
      rw [List.map_map] at i1
      rw [show ((fun z : Int => x + l.sum - z) ∘ fun z => x + z) = fun z => l.sum - z from funext fun z => by simp only [Function.comp]; omega]
      rw [show ((fun z : Int => x + z) ∘ fun z => l.sum - z) = fun z => x + l.sum - z from funext fun z => by simp only [Function.comp]; omega] at i1
      exact (i1.append i2).trans List.perm_append_comm
theorem sum_subc (c : Int) : ∀ l : List Int, (l.map fun z => c - z).sum = l.length * c - l.sum
  | [] => by simp
  | y :: l => by
    rw [List.map_cons, List.sum_cons, List.sum_cons, sum_subc c l, List.length_cons, Int.natCast_add, Int.add_mul]
    simp
    omega
theorem deal_neg (c : Int) (ws : List Int) (r : Nat) : dealI (ws.map fun z => c - z) r = (dealI ws r).map fun z => r * c - z := by
  unfold dealI
  rw [chs_map, List.map_map, List.map_map]
  refine List.map_congr_left fun t ht => ?_
  simp only [Function.comp]
  rw [sum_subc, (chs_each ws r t ht).1]
theorem aboveC_perm {a b : List Int} (h : a.Perm b) (s : Int) : aboveC a s = aboveC b s := by unfold aboveC; rw [(h.filter _).length_eq]
theorem belowC_perm {a b : List Int} (h : a.Perm b) (s : Int) : belowC a s = belowC b s := by unfold belowC; rw [(h.filter _).length_eq]
theorem bothC_perm {a b : List Int} (h : a.Perm b) (ws : List Int) (r : Nat) (s : Int) : bothC ws r a s = bothC ws r b s := by unfold bothC; rw [(h.filter _).length_eq]
theorem above_turn (d : List Int) (c s : Int) : aboveC (d.map fun z => c - z) (c - s) = belowC d s := by
  unfold aboveC belowC
  rw [List.filter_map, List.length_map]
  congr 3
  funext z
  show decide (c - s ≤ c - z) = decide (z ≤ s)
  exact decide_eq_decide.mpr ⟨fun _ => by omega, fun _ => by omega⟩
theorem below_turn (d : List Int) (c s : Int) : belowC (d.map fun z => c - z) (c - s) = aboveC d s := by
  unfold aboveC belowC
  rw [List.filter_map, List.length_map]
  congr 3
  funext z
  show decide (c - z ≤ c - s) = decide (s ≤ z)
  exact decide_eq_decide.mpr ⟨fun _ => by omega, fun _ => by omega⟩
theorem both_turn {ws ws' : List Int} {r r' : Nat} {c : Int} (h : ∀ z, farI ws' r' (c - z) = farI ws r z) (d : List Int) (s : Int) : bothC ws' r' (d.map fun z => c - z) (c - s) = bothC ws r d s := by
  unfold bothC
  rw [List.filter_map, List.length_map]
  congr 3
  funext z
  simp only [Function.comp, h]
theorem wts_perm (x : Str) {a b : List Int} (h : a.Perm b) : (wtsI x a).Perm (wtsI x b) := by
  unfold wtsI
  rw [show weightI x a = weightI x b from funext fun v => weight_perm h x v]
  exact h.map _
theorem seen_perm (x : Str) {a b a' b' : List Int} (h : a.Perm a') (h2 : b.Perm b') : seenI x a b = seenI x a' b' := by
  unfold seenI
  rw [show weightI x (a ++ b) = weightI x (a' ++ b') from funext fun v => weight_perm (h.append h2) x v]
  exact zsum_perm (h.map _)
theorem seen_rest (x : Str) (ns ms : List Int) : seenI x ms ns = (wtsI x (ns ++ ms)).sum - seenI x ns ms := by
  unfold seenI wtsI
  rw [show weightI x (ms ++ ns) = weightI x (ns ++ ms) from funext fun v => weight_perm List.perm_append_comm x v, List.map_append, List.sum_append]
  omega
theorem absI_neg (z : Int) : absI (-z) = absI z := by rw [absI_eq, absI_eq]; omega
section
variable (x : Str) (ns ms : List Int)
theorem swap_deal : (dealI (wtsI x (ms ++ ns)) ms.length).Perm ((dealI (wtsI x (ns ++ ms)) ns.length).map fun z => (wtsI x (ns ++ ms)).sum - z) := by
  refine (deal_perm (wts_perm x List.perm_append_comm) _).trans ?_
  have h := deal_compl (wtsI x (ns ++ ms)) ms.length (by rw [wts_len, List.length_append]; omega)
  rw [show (wtsI x (ns ++ ms)).length - ms.length = ns.length by rw [wts_len, List.length_append]; omega] at h
  exact h
theorem swap_far (z : Int) : farI (wtsI x (ms ++ ns)) ms.length ((wtsI x (ns ++ ms)).sum - z) = farI (wtsI x (ns ++ ms)) ns.length z := by
  unfold farI
  rw [zsum_perm (wts_perm x (List.perm_append_comm (l₁ := ms) (l₂ := ns))), wts_len, wts_len, List.length_append, List.length_append, ← absI_neg]
  congr 1
  simp only [Int.natCast_add]
  grind
theorem swap_ab : shAb x ms ns = shBe x ns ms := by
  unfold shAb shBe
  rw [aboveC_perm (swap_deal x ns ms), (swap_deal x ns ms).length_eq, List.length_map, seen_rest x ns ms, above_turn]
theorem swap_be : shBe x ms ns = shAb x ns ms := by
  unfold shAb shBe
  rw [belowC_perm (swap_deal x ns ms), (swap_deal x ns ms).length_eq, List.length_map, seen_rest x ns ms, below_turn]
theorem swap_bo : shBo x ms ns = shBo x ns ms := by
  unfold shBo
  rw [bothC_perm (swap_deal x ns ms), (swap_deal x ns ms).length_eq, List.length_map, seen_rest x ns ms, both_turn (swap_far x ns ms)]
end
theorem lead_neg (l : List Int) (v : Int) : leadI (l.map fun z => 0 - z) (0 - v) = 0 - leadI l v := by
  unfold leadI
  rw [List.filter_map, List.filter_map, List.length_map, List.length_map]
  rw [show ((fun z => decide (z < 0 - v)) ∘ fun z : Int => 0 - z) = fun z => decide (v < z) from funext fun z => by
    show decide (0 - z < 0 - v) = decide (v < z)
    exact decide_eq_decide.mpr ⟨fun _ => by omega, fun _ => by omega⟩]
  rw [show ((fun z => decide (0 - v < z)) ∘ fun z : Int => 0 - z) = fun z => decide (z < v) from funext fun z => by
    show decide (0 - v < 0 - z) = decide (z < v)
    exact decide_eq_decide.mpr ⟨fun _ => by omega, fun _ => by omega⟩]
  omega
theorem weight_neg {x : Str} (hx : Meas x) (l : List Int) : ∃ c : Int, ∀ v, weightI x (l.map fun z => 0 - z) (0 - v) = c - weightI x l v := by
  rcases hx with rfl | rfl | rfl
  · exact ⟨0, fun v => rfl⟩
  · refine ⟨2 * l.length + 2, fun v => ?_⟩
    show rankI _ _ = _ - rankI l v
    rw [rank_lead, rank_lead, lead_neg, List.length_map]
    omega
  · exact ⟨0, fun v => lead_neg l v⟩
/-- shares of groups whose values are turned about -/
theorem turned {x : Str} (hx : Meas x) {ns ms ns' ms' : List Int} (h1 : ns'.Perm (ns.map fun z => 0 - z)) (h2 : ms'.Perm (ms.map fun z => 0 - z)) : shAb x ns' ms' = shBe x ns ms ∧ shBe x ns' ms' = shAb x ns ms ∧ shBo x ns' ms' = shBo x ns ms := by
  obtain ⟨c, hc⟩ := weight_neg hx (ns ++ ms)
  have hw : (ns' ++ ms').Perm ((ns ++ ms).map fun z => 0 - z) := by rw [List.map_append]; exact h1.append h2
  have ew : (wtsI x (ns' ++ ms')).Perm ((wtsI x (ns ++ ms)).map fun z => c - z) := by
    refine (wts_perm x hw).trans (.of_eq ?_)
    unfold wtsI
    rw [List.map_map, List.map_map]
    exact List.map_congr_left fun v _ => hc v
  have el : ns'.length = ns.length := by rw [h1.length_eq, List.length_map]
  have ed : (dealI (wtsI x (ns' ++ ms')) ns'.length).Perm ((dealI (wtsI x (ns ++ ms)) ns.length).map fun z => ns.length * c - z) := by
    rw [el, ← deal_neg]
    exact deal_perm ew _
  have es : seenI x ns' ms' = ns.length * c - seenI x ns ms := by
    have e1 : seenI x ns' ms' = ((ns.map fun z => 0 - z).map (weightI x ((ns ++ ms).map fun z => 0 - z))).sum := by
      rw [seen_perm x h1 h2]
      unfold seenI
      rw [List.map_append]
    rw [e1, List.map_map, show (weightI x ((ns ++ ms).map fun z => 0 - z) ∘ fun z : Int => 0 - z) = (fun z => c - z) ∘ weightI x (ns ++ ms) from funext hc, ← List.map_map, sum_subc, List.length_map]
    rfl
  have ef : ∀ z, farI (wtsI x (ns' ++ ms')) ns'.length (ns.length * c - z) = farI (wtsI x (ns ++ ms)) ns.length z := fun z => by
    unfold farI
    rw [zsum_perm ew, ew.length_eq, List.length_map, sum_subc, el, ← absI_neg]
    congr 1
    grind
  unfold shAb shBe shBo
  rw [aboveC_perm ed, belowC_perm ed, bothC_perm ed, ed.length_eq, List.length_map, es, above_turn, below_turn, both_turn ef]
  exact ⟨rfl, rfl, rfl⟩
theorem above_below (d : List Int) (s : Int) : aboveC d s + belowC d s = d.length + (d.filter fun z => decide (z = s)).length := by
  unfold aboveC belowC
  induction d with
  | nil => rfl
  | cons y d ih =>
    rw [List.filter_cons, List.filter_cons, List.filter_cons, List.length_cons]
    rcases Int.lt_trichotomy y s with h | h | h
    · have h2 : ¬ s ≤ y := by omega
      have h3 : y ≤ s := by omega
      have h4 : ¬ y = s := by omega
      simp only [h2, h3, h4, decide_true, decide_false, if_true, Bool.false_eq_true, if_false, List.length_cons]
      omega
    · have h2 : s ≤ y := by omega
      have h3 : y ≤ s := by omega
      simp only [h2, h3, h, Int.le_refl, decide_true, if_true, List.length_cons]
      omega
    · have h2 : s ≤ y := by omega
      have h3 : ¬ y ≤ s := by omega
      have h4 : ¬ y = s := by omega
      simp only [h2, h3, h4, decide_true, decide_false, if_true, Bool.false_eq_true, if_false, List.length_cons]
      omega
theorem w_is_open_part_t {n m : Int} {Q : S → Prop} {E : Exn → Prop} (h0 : 0 < n) (h1 : n < m) (hg : gI n m = 1) (h : Q (.d (.bool true))) : m_is_open_part [.d (.tuple [.int n, .int m])] Q E := by
  simp only [m_is_open_part, b_is_open_part, e_dCmb, e_dSortK, e_keyS, e_dSeq, e_dIfS, e_dRet, e_dRetN, e_dRetB, e_dAsg, e_dPar, e_dAsgG, e_dDrop, e_dNext, e_dBrk, e_dCont, e_dNever, e_dFor, e_dFreeze, e_dRetO, e_dNewL, e_dApp, e_dWhile, e_dVar, e_dC, e_dOp1, e_dOp2, e_dCB, e_dNil, e_dCons, e_dB, e_dAnd, e_dOr, e_dNot, e_dAndV, e_dOrV, e_dNotV, e_dIf, e_dTup, e_dLst, e_dIsI, e_dCall, e_dCallK, e_dChain, e_dSl, e_dPart, e_dNoPart, e_dYes, e_dFnCall, e_dCallF, e_dIter, e_dRng1, e_dRng2, e_dEnum, e_dComp, e_gN, e_gBw, e_gOw, e_gT, e_gTn, e_gTc, e_dDef, e_lamM, e_gL, onIB_i, onIB_b, bwS_b, lenBS_b, e_dCompB, plain_bowls, isOwn_bowls, inOp_li, inOp_ti, e_dLenSet, e_dCallD, e_dPl, e_dNewO, e_dCopyO, e_dNewD, e_dDisp, e_prs_nil, e_prs_cons, e_dSets, e_dSetsN, e_sets_cons, e_sets_nil, e_dAppPop, e_dGet2, e_dKeys, e_dVals, e_dItems, e_dPut, e_dFreezeD, e_dSumV, onDc_d, onDc_o, onDz_d, keyR_i, keyR_s, flatK_nil, merge1, e_dStar, e_dComp2, e_dPar3, e_dZip, repS_t, repS_l, ixS_t0, ixS_t1, onBs_tt, rg1S_t, rg1S_l, rg2S_t, rg2S_l, revS_t, revS_l, onDs_map, onDs_map0, startR, lamR, slotR, wipeR, hideR, fits, perm,
  plain_d, plain_bowl, plain_ro, onD_d, onI_i, onB_b, onSq_l, onSq_t, onSq_o, onSq_r, onLs_l, onLs_o, onLs_r, onSeq_l, onSeq_t, onSeq_r, onDs_nil, onDs_d, addS_i, addS_t, addS_l, intP_i, int2_i, negS_i, bix_i, one_s, two_s, isN_d, notN_d, eqS_ii, neS_ii, eqS_in, eqS_bb, ty_tuple_none, ty_tuple_bool, ty_tuple_int, ty_tuple_str, ty_tuple_tuple, ty_tuple_list, ty_tuple_dict, ty_list_none, ty_list_bool, ty_list_int, ty_list_str, ty_list_tuple, ty_list_list, ty_list_dict, ty_bool_none, ty_bool_bool, ty_bool_int, ty_bool_str, ty_bool_tuple, ty_bool_list, ty_bool_dict, ty_int_none, ty_int_bool, ty_int_int, ty_int_str, ty_int_tuple, ty_int_list, ty_int_dict, ty_str_none, ty_str_bool, ty_str_int, ty_str_str, ty_str_tuple, ty_str_list, ty_str_dict, ty_dict_none, ty_dict_bool, ty_dict_int, ty_dict_str, ty_dict_tuple, ty_dict_list, ty_dict_dict, not_true_eq_false, not_false_eq_true, Bool.and_true, Bool.true_and, Bool.and_false, Bool.false_and, Bool.or_true, Bool.true_or, Bool.or_false, Bool.false_or, Bool.true_eq_false, Int.toNat_natCast, isOwn_d, isOwn_bowl, isOwn_ro, isOwn_fn, onIs_map, onBs_map,
  List.map_cons, List.map_nil, List.length_cons, List.length_nil, List.replicate_succ, List.replicate_zero, List.cons_append, List.nil_append, List.append_nil, List.getElem?_cons_zero, List.getElem?_cons_succ, List.set_cons_zero, List.set_cons_succ, List.filterMap_cons, List.filterMap_nil, Option.map, List.mem_cons, List.not_mem_nil, or_false, false_or, forall_eq_or_imp, forall_eq, implies_true, false_imp_iff, List.length_map, and_true, true_and, and_self, if_true, if_false, Bool.false_eq_true, reduceCtorEq, Nat.reduceAdd, Nat.reduceSub, Int.reduceLT, Int.reduceLE, Int.reduceNeg, decide_true, decide_false, decide_eq_true_eq, Bool.not_true, Bool.not_false, Bool.not_eq_true', decide_eq_false_iff_not, ite_true, ite_false]
  refine w_is_fraction ?_
  rw [decide_eq_true ⟨by omega, hg⟩]
  simp only [e_dCmb, e_dSortK, e_keyS, e_dSeq, e_dIfS, e_dRet, e_dRetN, e_dRetB, e_dAsg, e_dPar, e_dAsgG, e_dDrop, e_dNext, e_dBrk, e_dCont, e_dNever, e_dFor, e_dFreeze, e_dRetO, e_dNewL, e_dApp, e_dWhile, e_dVar, e_dC, e_dOp1, e_dOp2, e_dCB, e_dNil, e_dCons, e_dB, e_dAnd, e_dOr, e_dNot, e_dAndV, e_dOrV, e_dNotV, e_dIf, e_dTup, e_dLst, e_dIsI, e_dCall, e_dCallK, e_dChain, e_dSl, e_dPart, e_dNoPart, e_dYes, e_dFnCall, e_dCallF, e_dIter, e_dRng1, e_dRng2, e_dEnum, e_dComp, e_gN, e_gBw, e_gOw, e_gT, e_gTn, e_gTc, e_dDef, e_lamM, e_gL, onIB_i, onIB_b, bwS_b, lenBS_b, e_dCompB, plain_bowls, isOwn_bowls, inOp_li, inOp_ti, e_dLenSet, e_dCallD, e_dPl, e_dNewO, e_dCopyO, e_dNewD, e_dDisp, e_prs_nil, e_prs_cons, e_dSets, e_dSetsN, e_sets_cons, e_sets_nil, e_dAppPop, e_dGet2, e_dKeys, e_dVals, e_dItems, e_dPut, e_dFreezeD, e_dSumV, onDc_d, onDc_o, onDz_d, keyR_i, keyR_s, flatK_nil, merge1, e_dStar, e_dComp2, e_dPar3, e_dZip, repS_t, repS_l, ixS_t0, ixS_t1, onBs_tt, rg1S_t, rg1S_l, rg2S_t, rg2S_l, revS_t, revS_l, onDs_map, onDs_map0, startR, lamR, slotR, wipeR, hideR, fits, perm,
  plain_d, plain_bowl, plain_ro, onD_d, onI_i, onB_b, onSq_l, onSq_t, onSq_o, onSq_r, onLs_l, onLs_o, onLs_r, onSeq_l, onSeq_t, onSeq_r, onDs_nil, onDs_d, addS_i, addS_t, addS_l, intP_i, int2_i, negS_i, bix_i, one_s, two_s, isN_d, notN_d, eqS_ii, neS_ii, eqS_in, eqS_bb, ty_tuple_none, ty_tuple_bool, ty_tuple_int, ty_tuple_str, ty_tuple_tuple, ty_tuple_list, ty_tuple_dict, ty_list_none, ty_list_bool, ty_list_int, ty_list_str, ty_list_tuple, ty_list_list, ty_list_dict, ty_bool_none, ty_bool_bool, ty_bool_int, ty_bool_str, ty_bool_tuple, ty_bool_list, ty_bool_dict, ty_int_none, ty_int_bool, ty_int_int, ty_int_str, ty_int_tuple, ty_int_list, ty_int_dict, ty_str_none, ty_str_bool, ty_str_int, ty_str_str, ty_str_tuple, ty_str_list, ty_str_dict, ty_dict_none, ty_dict_bool, ty_dict_int, ty_dict_str, ty_dict_tuple, ty_dict_list, ty_dict_dict, not_true_eq_false, not_false_eq_true, Bool.and_true, Bool.true_and, Bool.and_false, Bool.false_and, Bool.or_true, Bool.true_or, Bool.or_false, Bool.false_or, Bool.true_eq_false, Int.toNat_natCast, isOwn_d, isOwn_bowl, isOwn_ro, isOwn_fn, onIs_map, onBs_map,
  List.map_cons, List.map_nil, List.length_cons, List.length_nil, List.replicate_succ, List.replicate_zero, List.cons_append, List.nil_append, List.append_nil, List.getElem?_cons_zero, List.getElem?_cons_succ, List.set_cons_zero, List.set_cons_succ, List.filterMap_cons, List.filterMap_nil, Option.map, List.mem_cons, List.not_mem_nil, or_false, false_or, forall_eq_or_imp, forall_eq, implies_true, false_imp_iff, List.length_map, and_true, true_and, and_self, if_true, if_false, Bool.false_eq_true, reduceCtorEq, Nat.reduceAdd, Nat.reduceSub, Int.reduceLT, Int.reduceLE, Int.reduceNeg, decide_true, decide_false, decide_eq_true_eq, Bool.not_true, Bool.not_false, Bool.not_eq_true', decide_eq_false_iff_not, ite_true, ite_false]
  rw [if_pos h0, decide_eq_true h1]
  exact h
theorem w_check_level_t {n m : Int} {Q : S → Prop} {E : Exn → Prop} (h0 : 0 < n) (h1 : n < m) (hg : gI n m = 1) (h : Q (.d .none)) : m_check_level [.d (.tuple [.int n, .int m])] Q E := by
  simp only [m_check_level, b_check_level, e_dCmb, e_dSortK, e_keyS, e_dSeq, e_dIfS, e_dRet, e_dRetN, e_dRetB, e_dAsg, e_dPar, e_dAsgG, e_dDrop, e_dNext, e_dBrk, e_dCont, e_dNever, e_dFor, e_dFreeze, e_dRetO, e_dNewL, e_dApp, e_dWhile, e_dVar, e_dC, e_dOp1, e_dOp2, e_dCB, e_dNil, e_dCons, e_dB, e_dAnd, e_dOr, e_dNot, e_dAndV, e_dOrV, e_dNotV, e_dIf, e_dTup, e_dLst, e_dIsI, e_dCall, e_dCallK, e_dChain, e_dSl, e_dPart, e_dNoPart, e_dYes, e_dFnCall, e_dCallF, e_dIter, e_dRng1, e_dRng2, e_dEnum, e_dComp, e_gN, e_gBw, e_gOw, e_gT, e_gTn, e_gTc, e_dDef, e_lamM, e_gL, onIB_i, onIB_b, bwS_b, lenBS_b, e_dCompB, plain_bowls, isOwn_bowls, inOp_li, inOp_ti, e_dLenSet, e_dCallD, e_dPl, e_dNewO, e_dCopyO, e_dNewD, e_dDisp, e_prs_nil, e_prs_cons, e_dSets, e_dSetsN, e_sets_cons, e_sets_nil, e_dAppPop, e_dGet2, e_dKeys, e_dVals, e_dItems, e_dPut, e_dFreezeD, e_dSumV, onDc_d, onDc_o, onDz_d, keyR_i, keyR_s, flatK_nil, merge1, e_dStar, e_dComp2, e_dPar3, e_dZip, repS_t, repS_l, ixS_t0, ixS_t1, onBs_tt, rg1S_t, rg1S_l, rg2S_t, rg2S_l, revS_t, revS_l, onDs_map, onDs_map0, startR, lamR, slotR, wipeR, hideR, fits, perm,
  plain_d, plain_bowl, plain_ro, onD_d, onI_i, onB_b, onSq_l, onSq_t, onSq_o, onSq_r, onLs_l, onLs_o, onLs_r, onSeq_l, onSeq_t, onSeq_r, onDs_nil, onDs_d, addS_i, addS_t, addS_l, intP_i, int2_i, negS_i, bix_i, one_s, two_s, isN_d, notN_d, eqS_ii, neS_ii, eqS_in, eqS_bb, ty_tuple_none, ty_tuple_bool, ty_tuple_int, ty_tuple_str, ty_tuple_tuple, ty_tuple_list, ty_tuple_dict, ty_list_none, ty_list_bool, ty_list_int, ty_list_str, ty_list_tuple, ty_list_list, ty_list_dict, ty_bool_none, ty_bool_bool, ty_bool_int, ty_bool_str, ty_bool_tuple, ty_bool_list, ty_bool_dict, ty_int_none, ty_int_bool, ty_int_int, ty_int_str, ty_int_tuple, ty_int_list, ty_int_dict, ty_str_none, ty_str_bool, ty_str_int, ty_str_str, ty_str_tuple, ty_str_list, ty_str_dict, ty_dict_none, ty_dict_bool, ty_dict_int, ty_dict_str, ty_dict_tuple, ty_dict_list, ty_dict_dict, not_true_eq_false, not_false_eq_true, Bool.and_true, Bool.true_and, Bool.and_false, Bool.false_and, Bool.or_true, Bool.true_or, Bool.or_false, Bool.false_or, Bool.true_eq_false, Int.toNat_natCast, isOwn_d, isOwn_bowl, isOwn_ro, isOwn_fn, onIs_map, onBs_map,
  List.map_cons, List.map_nil, List.length_cons, List.length_nil, List.replicate_succ, List.replicate_zero, List.cons_append, List.nil_append, List.append_nil, List.getElem?_cons_zero, List.getElem?_cons_succ, List.set_cons_zero, List.set_cons_succ, List.filterMap_cons, List.filterMap_nil, Option.map, List.mem_cons, List.not_mem_nil, or_false, false_or, forall_eq_or_imp, forall_eq, implies_true, false_imp_iff, List.length_map, and_true, true_and, and_self, if_true, if_false, Bool.false_eq_true, reduceCtorEq, Nat.reduceAdd, Nat.reduceSub, Int.reduceLT, Int.reduceLE, Int.reduceNeg, decide_true, decide_false, decide_eq_true_eq, Bool.not_true, Bool.not_false, Bool.not_eq_true', decide_eq_false_iff_not, ite_true, ite_false]
  refine w_is_open_part_t h0 h1 hg ?_
  simp only [e_dCmb, e_dSortK, e_keyS, e_dSeq, e_dIfS, e_dRet, e_dRetN, e_dRetB, e_dAsg, e_dPar, e_dAsgG, e_dDrop, e_dNext, e_dBrk, e_dCont, e_dNever, e_dFor, e_dFreeze, e_dRetO, e_dNewL, e_dApp, e_dWhile, e_dVar, e_dC, e_dOp1, e_dOp2, e_dCB, e_dNil, e_dCons, e_dB, e_dAnd, e_dOr, e_dNot, e_dAndV, e_dOrV, e_dNotV, e_dIf, e_dTup, e_dLst, e_dIsI, e_dCall, e_dCallK, e_dChain, e_dSl, e_dPart, e_dNoPart, e_dYes, e_dFnCall, e_dCallF, e_dIter, e_dRng1, e_dRng2, e_dEnum, e_dComp, e_gN, e_gBw, e_gOw, e_gT, e_gTn, e_gTc, e_dDef, e_lamM, e_gL, onIB_i, onIB_b, bwS_b, lenBS_b, e_dCompB, plain_bowls, isOwn_bowls, inOp_li, inOp_ti, e_dLenSet, e_dCallD, e_dPl, e_dNewO, e_dCopyO, e_dNewD, e_dDisp, e_prs_nil, e_prs_cons, e_dSets, e_dSetsN, e_sets_cons, e_sets_nil, e_dAppPop, e_dGet2, e_dKeys, e_dVals, e_dItems, e_dPut, e_dFreezeD, e_dSumV, onDc_d, onDc_o, onDz_d, keyR_i, keyR_s, flatK_nil, merge1, e_dStar, e_dComp2, e_dPar3, e_dZip, repS_t, repS_l, ixS_t0, ixS_t1, onBs_tt, rg1S_t, rg1S_l, rg2S_t, rg2S_l, revS_t, revS_l, onDs_map, onDs_map0, startR, lamR, slotR, wipeR, hideR, fits, perm,
  plain_d, plain_bowl, plain_ro, onD_d, onI_i, onB_b, onSq_l, onSq_t, onSq_o, onSq_r, onLs_l, onLs_o, onLs_r, onSeq_l, onSeq_t, onSeq_r, onDs_nil, onDs_d, addS_i, addS_t, addS_l, intP_i, int2_i, negS_i, bix_i, one_s, two_s, isN_d, notN_d, eqS_ii, neS_ii, eqS_in, eqS_bb, ty_tuple_none, ty_tuple_bool, ty_tuple_int, ty_tuple_str, ty_tuple_tuple, ty_tuple_list, ty_tuple_dict, ty_list_none, ty_list_bool, ty_list_int, ty_list_str, ty_list_tuple, ty_list_list, ty_list_dict, ty_bool_none, ty_bool_bool, ty_bool_int, ty_bool_str, ty_bool_tuple, ty_bool_list, ty_bool_dict, ty_int_none, ty_int_bool, ty_int_int, ty_int_str, ty_int_tuple, ty_int_list, ty_int_dict, ty_str_none, ty_str_bool, ty_str_int, ty_str_str, ty_str_tuple, ty_str_list, ty_str_dict, ty_dict_none, ty_dict_bool, ty_dict_int, ty_dict_str, ty_dict_tuple, ty_dict_list, ty_dict_dict, not_true_eq_false, not_false_eq_true, Bool.and_true, Bool.true_and, Bool.and_false, Bool.false_and, Bool.or_true, Bool.true_or, Bool.or_false, Bool.false_or, Bool.true_eq_false, Int.toNat_natCast, isOwn_d, isOwn_bowl, isOwn_ro, isOwn_fn, onIs_map, onBs_map,
  List.map_cons, List.map_nil, List.length_cons, List.length_nil, List.replicate_succ, List.replicate_zero, List.cons_append, List.nil_append, List.append_nil, List.getElem?_cons_zero, List.getElem?_cons_succ, List.set_cons_zero, List.set_cons_succ, List.filterMap_cons, List.filterMap_nil, Option.map, List.mem_cons, List.not_mem_nil, or_false, false_or, forall_eq_or_imp, forall_eq, implies_true, false_imp_iff, List.length_map, and_true, true_and, and_self, if_true, if_false, Bool.false_eq_true, reduceCtorEq, Nat.reduceAdd, Nat.reduceSub, Int.reduceLT, Int.reduceLE, Int.reduceNeg, decide_true, decide_false, decide_eq_true_eq, Bool.not_true, Bool.not_false, Bool.not_eq_true', decide_eq_false_iff_not, ite_true, ite_false]
  exact h
theorem w_check_number {n a b : Int} {Q : S → Prop} {E : Exn → Prop} (h1 : a ≤ n) (h2 : n ≤ b) (h : Q (.d .none)) : m_check_number [.d (.int n), .d (.int a), .d (.int b)] Q E := by
  simp only [m_check_number, b_check_number, e_dCmb, e_dSortK, e_keyS, e_dSeq, e_dIfS, e_dRet, e_dRetN, e_dRetB, e_dAsg, e_dPar, e_dAsgG, e_dDrop, e_dNext, e_dBrk, e_dCont, e_dNever, e_dFor, e_dFreeze, e_dRetO, e_dNewL, e_dApp, e_dWhile, e_dVar, e_dC, e_dOp1, e_dOp2, e_dCB, e_dNil, e_dCons, e_dB, e_dAnd, e_dOr, e_dNot, e_dAndV, e_dOrV, e_dNotV, e_dIf, e_dTup, e_dLst, e_dIsI, e_dCall, e_dCallK, e_dChain, e_dSl, e_dPart, e_dNoPart, e_dYes, e_dFnCall, e_dCallF, e_dIter, e_dRng1, e_dRng2, e_dEnum, e_dComp, e_gN, e_gBw, e_gOw, e_gT, e_gTn, e_gTc, e_dDef, e_lamM, e_gL, onIB_i, onIB_b, bwS_b, lenBS_b, e_dCompB, plain_bowls, isOwn_bowls, inOp_li, inOp_ti, e_dLenSet, e_dCallD, e_dPl, e_dNewO, e_dCopyO, e_dNewD, e_dDisp, e_prs_nil, e_prs_cons, e_dSets, e_dSetsN, e_sets_cons, e_sets_nil, e_dAppPop, e_dGet2, e_dKeys, e_dVals, e_dItems, e_dPut, e_dFreezeD, e_dSumV, onDc_d, onDc_o, onDz_d, keyR_i, keyR_s, flatK_nil, merge1, e_dStar, e_dComp2, e_dPar3, e_dZip, repS_t, repS_l, ixS_t0, ixS_t1, onBs_tt, rg1S_t, rg1S_l, rg2S_t, rg2S_l, revS_t, revS_l, onDs_map, onDs_map0, startR, lamR, slotR, wipeR, hideR, fits, perm,
  plain_d, plain_bowl, plain_ro, onD_d, onI_i, onB_b, onSq_l, onSq_t, onSq_o, onSq_r, onLs_l, onLs_o, onLs_r, onSeq_l, onSeq_t, onSeq_r, onDs_nil, onDs_d, addS_i, addS_t, addS_l, intP_i, int2_i, negS_i, bix_i, one_s, two_s, isN_d, notN_d, eqS_ii, neS_ii, eqS_in, eqS_bb, ty_tuple_none, ty_tuple_bool, ty_tuple_int, ty_tuple_str, ty_tuple_tuple, ty_tuple_list, ty_tuple_dict, ty_list_none, ty_list_bool, ty_list_int, ty_list_str, ty_list_tuple, ty_list_list, ty_list_dict, ty_bool_none, ty_bool_bool, ty_bool_int, ty_bool_str, ty_bool_tuple, ty_bool_list, ty_bool_dict, ty_int_none, ty_int_bool, ty_int_int, ty_int_str, ty_int_tuple, ty_int_list, ty_int_dict, ty_str_none, ty_str_bool, ty_str_int, ty_str_str, ty_str_tuple, ty_str_list, ty_str_dict, ty_dict_none, ty_dict_bool, ty_dict_int, ty_dict_str, ty_dict_tuple, ty_dict_list, ty_dict_dict, not_true_eq_false, not_false_eq_true, Bool.and_true, Bool.true_and, Bool.and_false, Bool.false_and, Bool.or_true, Bool.true_or, Bool.or_false, Bool.false_or, Bool.true_eq_false, Int.toNat_natCast, isOwn_d, isOwn_bowl, isOwn_ro, isOwn_fn, onIs_map, onBs_map,
  List.map_cons, List.map_nil, List.length_cons, List.length_nil, List.replicate_succ, List.replicate_zero, List.cons_append, List.nil_append, List.append_nil, List.getElem?_cons_zero, List.getElem?_cons_succ, List.set_cons_zero, List.set_cons_succ, List.filterMap_cons, List.filterMap_nil, Option.map, List.mem_cons, List.not_mem_nil, or_false, false_or, forall_eq_or_imp, forall_eq, implies_true, false_imp_iff, List.length_map, and_true, true_and, and_self, if_true, if_false, Bool.false_eq_true, reduceCtorEq, Nat.reduceAdd, Nat.reduceSub, Int.reduceLT, Int.reduceLE, Int.reduceNeg, decide_true, decide_false, decide_eq_true_eq, Bool.not_true, Bool.not_false, Bool.not_eq_true', decide_eq_false_iff_not, ite_true, ite_false]
  refine w_is_between ?_
  rw [decide_eq_true ⟨h1, h2⟩]
  simp only [e_dCmb, e_dSortK, e_keyS, e_dSeq, e_dIfS, e_dRet, e_dRetN, e_dRetB, e_dAsg, e_dPar, e_dAsgG, e_dDrop, e_dNext, e_dBrk, e_dCont, e_dNever, e_dFor, e_dFreeze, e_dRetO, e_dNewL, e_dApp, e_dWhile, e_dVar, e_dC, e_dOp1, e_dOp2, e_dCB, e_dNil, e_dCons, e_dB, e_dAnd, e_dOr, e_dNot, e_dAndV, e_dOrV, e_dNotV, e_dIf, e_dTup, e_dLst, e_dIsI, e_dCall, e_dCallK, e_dChain, e_dSl, e_dPart, e_dNoPart, e_dYes, e_dFnCall, e_dCallF, e_dIter, e_dRng1, e_dRng2, e_dEnum, e_dComp, e_gN, e_gBw, e_gOw, e_gT, e_gTn, e_gTc, e_dDef, e_lamM, e_gL, onIB_i, onIB_b, bwS_b, lenBS_b, e_dCompB, plain_bowls, isOwn_bowls, inOp_li, inOp_ti, e_dLenSet, e_dCallD, e_dPl, e_dNewO, e_dCopyO, e_dNewD, e_dDisp, e_prs_nil, e_prs_cons, e_dSets, e_dSetsN, e_sets_cons, e_sets_nil, e_dAppPop, e_dGet2, e_dKeys, e_dVals, e_dItems, e_dPut, e_dFreezeD, e_dSumV, onDc_d, onDc_o, onDz_d, keyR_i, keyR_s, flatK_nil, merge1, e_dStar, e_dComp2, e_dPar3, e_dZip, repS_t, repS_l, ixS_t0, ixS_t1, onBs_tt, rg1S_t, rg1S_l, rg2S_t, rg2S_l, revS_t, revS_l, onDs_map, onDs_map0, startR, lamR, slotR, wipeR, hideR, fits, perm,
  plain_d, plain_bowl, plain_ro, onD_d, onI_i, onB_b, onSq_l, onSq_t, onSq_o, onSq_r, onLs_l, onLs_o, onLs_r, onSeq_l, onSeq_t, onSeq_r, onDs_nil, onDs_d, addS_i, addS_t, addS_l, intP_i, int2_i, negS_i, bix_i, one_s, two_s, isN_d, notN_d, eqS_ii, neS_ii, eqS_in, eqS_bb, ty_tuple_none, ty_tuple_bool, ty_tuple_int, ty_tuple_str, ty_tuple_tuple, ty_tuple_list, ty_tuple_dict, ty_list_none, ty_list_bool, ty_list_int, ty_list_str, ty_list_tuple, ty_list_list, ty_list_dict, ty_bool_none, ty_bool_bool, ty_bool_int, ty_bool_str, ty_bool_tuple, ty_bool_list, ty_bool_dict, ty_int_none, ty_int_bool, ty_int_int, ty_int_str, ty_int_tuple, ty_int_list, ty_int_dict, ty_str_none, ty_str_bool, ty_str_int, ty_str_str, ty_str_tuple, ty_str_list, ty_str_dict, ty_dict_none, ty_dict_bool, ty_dict_int, ty_dict_str, ty_dict_tuple, ty_dict_list, ty_dict_dict, not_true_eq_false, not_false_eq_true, Bool.and_true, Bool.true_and, Bool.and_false, Bool.false_and, Bool.or_true, Bool.true_or, Bool.or_false, Bool.false_or, Bool.true_eq_false, Int.toNat_natCast, isOwn_d, isOwn_bowl, isOwn_ro, isOwn_fn, onIs_map, onBs_map,
  List.map_cons, List.map_nil, List.length_cons, List.length_nil, List.replicate_succ, List.replicate_zero, List.cons_append, List.nil_append, List.append_nil, List.getElem?_cons_zero, List.getElem?_cons_succ, List.set_cons_zero, List.set_cons_succ, List.filterMap_cons, List.filterMap_nil, Option.map, List.mem_cons, List.not_mem_nil, or_false, false_or, forall_eq_or_imp, forall_eq, implies_true, false_imp_iff, List.length_map, and_true, true_and, and_self, if_true, if_false, Bool.false_eq_true, reduceCtorEq, Nat.reduceAdd, Nat.reduceSub, Int.reduceLT, Int.reduceLE, Int.reduceNeg, decide_true, decide_false, decide_eq_true_eq, Bool.not_true, Bool.not_false, Bool.not_eq_true', decide_eq_false_iff_not, ite_true, ite_false]
  exact h
/-! ### the bound of two sizes -/
def beyI (d : List Int) (b : Int) : Int := (d.filter fun z => decide (b < absI z)).length
theorem beyI_perm {d e : List Int} (h : d.Perm e) (b : Int) : beyI d b = beyI e b := by unfold beyI; rw [(h.filter _).length_eq]
theorem beyI_neg (d : List Int) (b : Int) : beyI (d.map fun z => 0 - z) b = beyI d b := by
  unfold beyI
  rw [List.filter_map, List.length_map]
  congr 3
  funext z
  show decide (b < absI (0 - z)) = _
  rw [Int.zero_sub, absI_neg]
theorem beyI_le (d : List Int) (b : Int) : 0 ≤ beyI d b ∧ beyI d b ≤ d.length := by
  unfold beyI
  have := List.length_filter_le (fun z => decide (b < absI z)) d
  omega
def unlI (n : Nat) : List Int := (List.range n).map fun (j : Nat) => 2 * (j : Int) - ((n : Int) - 1)
def rngI (n : Nat) : List Int := (List.range n).map fun (j : Nat) => (j : Int)
theorem unl_len (n : Nat) : (unlI n).length = n := by unfold unlI; rw [List.length_map, List.length_range]
theorem rngI_len (n : Nat) : (rngI n).length = n := by unfold rngI; rw [List.length_map, List.length_range]
theorem wts_range : ∀ n, n < 11 → wtsI "above" (rngI n) = unlI n := by decide +kernel
theorem unl_sum : ∀ n, n < 11 → (unlI n).sum = 0 := by decide +kernel
theorem rgD_rng (n : Nat) : rgD 0 (n : Int) = (rngI n).map .int := by
  unfold rgD rngI
  rw [Int.sub_zero, Int.toNat_natCast, List.map_map]
  refine List.map_congr_left fun j _ => ?_
  simp
/-- the dealings of so many unlike values -/
def dlU (a b : Nat) : List Int := dealI (unlI (a + b)) a
theorem dlU_swap {a b : Nat} (h : a + b < 11) : (dlU b a).Perm ((dlU a b).map fun z => 0 - z) := by
  unfold dlU
  have q := deal_compl (unlI (a + b)) b (by rw [unl_len]; omega)
  rw [unl_len, unl_sum _ h, show a + b - b = a by omega] at q
  rw [Nat.add_comm b a]
  exact q
structure BdI (d : List Int) (m : Nat) (x y : Int) (b : Nat) : Prop where
  le : b ≤ m
  no : ∀ c : Nat, c < b → x * d.length < beyI d c * y
  ok : b = m ∨ beyI d b * y ≤ x * d.length
theorem BdI.uniq {d : List Int} {m : Nat} {x y : Int} {a b : Nat} (g : BdI d m x y a) (h : BdI d m x y b) : a = b := by
  rcases Nat.lt_trichotomy a b with c | c | c
  · have h1 := h.no a c
    rcases g.ok with e | e
    · have := h.le; omega
    · omega
  · exact c
  · have h1 := g.no b c
    rcases h.ok with e | e
    · have := g.le; omega
    · omega
theorem BdI.same {d e : List Int} {m : Nat} {x y : Int} {a : Nat} (g : BdI d m x y a) (hl : e.length = d.length) (hb : ∀ c : Int, beyI e c = beyI d c) : BdI e m x y a := ⟨g.le, fun c hc => by rw [hl, hb]; exact g.no c hc, by rw [hl, hb]; exact g.ok⟩
theorem BdI.swap {a b : Nat} {m : Nat} {x y : Int} {c : Nat} (h : a + b < 11) (g : BdI (dlU a b) m x y c) : BdI (dlU b a) m x y c :=
  g.same (by rw [(dlU_swap h).length_eq, List.length_map]) fun c => by rw [beyI_perm (dlU_swap h), beyI_neg]
/-- with a greater level it is no more -/
theorem BdI.wide {d : List Int} {m : Nat} {x y p q : Int} {a b : Nat} (g : BdI d m x y b) (g2 : BdI d m p q a) (hy : 0 < y) (hq : 0 < q) (h : x * q ≤ p * y) : a ≤ b := by
  by_cases hab : a ≤ b
  · exact hab
  · have h2 := g2.no b (by omega)
    have h3 := g2.le
    rcases g.ok with e | e
    · omega
    · exfalso
      have s1 : beyI d b * y * q ≤ x * d.length * q := Int.mul_le_mul_of_nonneg_right e (Int.le_of_lt hq)
      have s2 : p * d.length * y < beyI d b * q * y := Int.mul_lt_mul_of_pos_right h2 hy
      have s3 : x * q * d.length ≤ p * y * d.length := Int.mul_le_mul_of_nonneg_right h (by omega)
      rw [Int.mul_right_comm (beyI d b) y q, Int.mul_right_comm x] at s1
      rw [Int.mul_right_comm p] at s2
      omega
theorem w_beyond {d : List Int} {b : Int} {Q : S → Prop} {E : Exn → Prop} (hz : d.length ≤ 1000000) (h : Q (.d (.int (beyI d b)))) : m_beyond [.d (.list (d.map .int)), .d (.int b)] Q E := by
  simp only [m_beyond, b_beyond, e_dCmb, e_dSortK, e_keyS, e_dSeq, e_dIfS, e_dRet, e_dRetN, e_dRetB, e_dAsg, e_dPar, e_dAsgG, e_dDrop, e_dNext, e_dBrk, e_dCont, e_dNever, e_dFor, e_dFreeze, e_dRetO, e_dNewL, e_dApp, e_dWhile, e_dVar, e_dC, e_dOp1, e_dOp2, e_dCB, e_dNil, e_dCons, e_dB, e_dAnd, e_dOr, e_dNot, e_dAndV, e_dOrV, e_dNotV, e_dIf, e_dTup, e_dLst, e_dIsI, e_dCall, e_dCallK, e_dChain, e_dSl, e_dPart, e_dNoPart, e_dYes, e_dFnCall, e_dCallF, e_dIter, e_dRng1, e_dRng2, e_dEnum, e_dComp, e_gN, e_gBw, e_gOw, e_gT, e_gTn, e_gTc, e_dDef, e_lamM, e_gL, onIB_i, onIB_b, bwS_b, lenBS_b, e_dCompB, plain_bowls, isOwn_bowls, inOp_li, inOp_ti, e_dLenSet, e_dCallD, e_dPl, e_dNewO, e_dCopyO, e_dNewD, e_dDisp, e_prs_nil, e_prs_cons, e_dSets, e_dSetsN, e_sets_cons, e_sets_nil, e_dAppPop, e_dGet2, e_dKeys, e_dVals, e_dItems, e_dPut, e_dFreezeD, e_dSumV, onDc_d, onDc_o, onDz_d, keyR_i, keyR_s, flatK_nil, merge1, e_dStar, e_dComp2, e_dPar3, e_dZip, repS_t, repS_l, ixS_t0, ixS_t1, onBs_tt, rg1S_t, rg1S_l, rg2S_t, rg2S_l, revS_t, revS_l, onDs_map, onDs_map0, startR, lamR, slotR, wipeR, hideR, fits, perm,
  plain_d, plain_bowl, plain_ro, onD_d, onI_i, onB_b, onSq_l, onSq_t, onSq_o, onSq_r, onLs_l, onLs_o, onLs_r, onSeq_l, onSeq_t, onSeq_r, onDs_nil, onDs_d, addS_i, addS_t, addS_l, intP_i, int2_i, negS_i, bix_i, one_s, two_s, isN_d, notN_d, eqS_ii, neS_ii, eqS_in, eqS_bb, ty_tuple_none, ty_tuple_bool, ty_tuple_int, ty_tuple_str, ty_tuple_tuple, ty_tuple_list, ty_tuple_dict, ty_list_none, ty_list_bool, ty_list_int, ty_list_str, ty_list_tuple, ty_list_list, ty_list_dict, ty_bool_none, ty_bool_bool, ty_bool_int, ty_bool_str, ty_bool_tuple, ty_bool_list, ty_bool_dict, ty_int_none, ty_int_bool, ty_int_int, ty_int_str, ty_int_tuple, ty_int_list, ty_int_dict, ty_str_none, ty_str_bool, ty_str_int, ty_str_str, ty_str_tuple, ty_str_list, ty_str_dict, ty_dict_none, ty_dict_bool, ty_dict_int, ty_dict_str, ty_dict_tuple, ty_dict_list, ty_dict_dict, not_true_eq_false, not_false_eq_true, Bool.and_true, Bool.true_and, Bool.and_false, Bool.false_and, Bool.or_true, Bool.true_or, Bool.or_false, Bool.false_or, Bool.true_eq_false, Int.toNat_natCast, isOwn_d, isOwn_bowl, isOwn_ro, isOwn_fn, onIs_map, onBs_map,
  List.map_cons, List.map_nil, List.length_cons, List.length_nil, List.replicate_succ, List.replicate_zero, List.cons_append, List.nil_append, List.append_nil, List.getElem?_cons_zero, List.getElem?_cons_succ, List.set_cons_zero, List.set_cons_succ, List.filterMap_cons, List.filterMap_nil, Option.map, List.mem_cons, List.not_mem_nil, or_false, false_or, forall_eq_or_imp, forall_eq, implies_true, false_imp_iff, List.length_map, and_true, true_and, and_self, if_true, if_false, Bool.false_eq_true, reduceCtorEq, Nat.reduceAdd, Nat.reduceSub, Int.reduceLT, Int.reduceLE, Int.reduceNeg, decide_true, decide_false, decide_eq_true_eq, Bool.not_true, Bool.not_false, Bool.not_eq_true', decide_eq_false_iff_not, ite_true, ite_false]
  refine compL_ints (ints_map d) (fun z => decide (b < absI z)) PyData.int (sizeLine_ge hz) (fun v F Z hv h1 h2 => ?_) ?_
  · simp only [e_dCmb, e_dSortK, e_keyS, e_dSeq, e_dIfS, e_dRet, e_dRetN, e_dRetB, e_dAsg, e_dPar, e_dAsgG, e_dDrop, e_dNext, e_dBrk, e_dCont, e_dNever, e_dFor, e_dFreeze, e_dRetO, e_dNewL, e_dApp, e_dWhile, e_dVar, e_dC, e_dOp1, e_dOp2, e_dCB, e_dNil, e_dCons, e_dB, e_dAnd, e_dOr, e_dNot, e_dAndV, e_dOrV, e_dNotV, e_dIf, e_dTup, e_dLst, e_dIsI, e_dCall, e_dCallK, e_dChain, e_dSl, e_dPart, e_dNoPart, e_dYes, e_dFnCall, e_dCallF, e_dIter, e_dRng1, e_dRng2, e_dEnum, e_dComp, e_gN, e_gBw, e_gOw, e_gT, e_gTn, e_gTc, e_dDef, e_lamM, e_gL, onIB_i, onIB_b, bwS_b, lenBS_b, e_dCompB, plain_bowls, isOwn_bowls, inOp_li, inOp_ti, e_dLenSet, e_dCallD, e_dPl, e_dNewO, e_dCopyO, e_dNewD, e_dDisp, e_prs_nil, e_prs_cons, e_dSets, e_dSetsN, e_sets_cons, e_sets_nil, e_dAppPop, e_dGet2, e_dKeys, e_dVals, e_dItems, e_dPut, e_dFreezeD, e_dSumV, onDc_d, onDc_o, onDz_d, keyR_i, keyR_s, flatK_nil, merge1, e_dStar, e_dComp2, e_dPar3, e_dZip, repS_t, repS_l, ixS_t0, ixS_t1, onBs_tt, rg1S_t, rg1S_l, rg2S_t, rg2S_l, revS_t, revS_l, onDs_map, onDs_map0, startR, lamR, slotR, wipeR, hideR, fits, perm,
  plain_d, plain_bowl, plain_ro, onD_d, onI_i, onB_b, onSq_l, onSq_t, onSq_o, onSq_r, onLs_l, onLs_o, onLs_r, onSeq_l, onSeq_t, onSeq_r, onDs_nil, onDs_d, addS_i, addS_t, addS_l, intP_i, int2_i, negS_i, bix_i, one_s, two_s, isN_d, notN_d, eqS_ii, neS_ii, eqS_in, eqS_bb, ty_tuple_none, ty_tuple_bool, ty_tuple_int, ty_tuple_str, ty_tuple_tuple, ty_tuple_list, ty_tuple_dict, ty_list_none, ty_list_bool, ty_list_int, ty_list_str, ty_list_tuple, ty_list_list, ty_list_dict, ty_bool_none, ty_bool_bool, ty_bool_int, ty_bool_str, ty_bool_tuple, ty_bool_list, ty_bool_dict, ty_int_none, ty_int_bool, ty_int_int, ty_int_str, ty_int_tuple, ty_int_list, ty_int_dict, ty_str_none, ty_str_bool, ty_str_int, ty_str_str, ty_str_tuple, ty_str_list, ty_str_dict, ty_dict_none, ty_dict_bool, ty_dict_int, ty_dict_str, ty_dict_tuple, ty_dict_list, ty_dict_dict, not_true_eq_false, not_false_eq_true, Bool.and_true, Bool.true_and, Bool.and_false, Bool.false_and, Bool.or_true, Bool.true_or, Bool.or_false, Bool.false_or, Bool.true_eq_false, Int.toNat_natCast, isOwn_d, isOwn_bowl, isOwn_ro, isOwn_fn, onIs_map, onBs_map,
  List.map_cons, List.map_nil, List.length_cons, List.length_nil, List.replicate_succ, List.replicate_zero, List.cons_append, List.nil_append, List.append_nil, List.getElem?_cons_zero, List.getElem?_cons_succ, List.set_cons_zero, List.set_cons_succ, List.filterMap_cons, List.filterMap_nil, Option.map, List.mem_cons, List.not_mem_nil, or_false, false_or, forall_eq_or_imp, forall_eq, implies_true, false_imp_iff, List.length_map, and_true, true_and, and_self, if_true, if_false, Bool.false_eq_true, reduceCtorEq, Nat.reduceAdd, Nat.reduceSub, Int.reduceLT, Int.reduceLE, Int.reduceNeg, decide_true, decide_false, decide_eq_true_eq, Bool.not_true, Bool.not_false, Bool.not_eq_true', decide_eq_false_iff_not, ite_true, ite_false]; exact ite_fil h1 h2
  · simp only [e_dCmb, e_dSortK, e_keyS, e_dSeq, e_dIfS, e_dRet, e_dRetN, e_dRetB, e_dAsg, e_dPar, e_dAsgG, e_dDrop, e_dNext, e_dBrk, e_dCont, e_dNever, e_dFor, e_dFreeze, e_dRetO, e_dNewL, e_dApp, e_dWhile, e_dVar, e_dC, e_dOp1, e_dOp2, e_dCB, e_dNil, e_dCons, e_dB, e_dAnd, e_dOr, e_dNot, e_dAndV, e_dOrV, e_dNotV, e_dIf, e_dTup, e_dLst, e_dIsI, e_dCall, e_dCallK, e_dChain, e_dSl, e_dPart, e_dNoPart, e_dYes, e_dFnCall, e_dCallF, e_dIter, e_dRng1, e_dRng2, e_dEnum, e_dComp, e_gN, e_gBw, e_gOw, e_gT, e_gTn, e_gTc, e_dDef, e_lamM, e_gL, onIB_i, onIB_b, bwS_b, lenBS_b, e_dCompB, plain_bowls, isOwn_bowls, inOp_li, inOp_ti, e_dLenSet, e_dCallD, e_dPl, e_dNewO, e_dCopyO, e_dNewD, e_dDisp, e_prs_nil, e_prs_cons, e_dSets, e_dSetsN, e_sets_cons, e_sets_nil, e_dAppPop, e_dGet2, e_dKeys, e_dVals, e_dItems, e_dPut, e_dFreezeD, e_dSumV, onDc_d, onDc_o, onDz_d, keyR_i, keyR_s, flatK_nil, merge1, e_dStar, e_dComp2, e_dPar3, e_dZip, repS_t, repS_l, ixS_t0, ixS_t1, onBs_tt, rg1S_t, rg1S_l, rg2S_t, rg2S_l, revS_t, revS_l, onDs_map, onDs_map0, startR, lamR, slotR, wipeR, hideR, fits, perm,
  plain_d, plain_bowl, plain_ro, onD_d, onI_i, onB_b, onSq_l, onSq_t, onSq_o, onSq_r, onLs_l, onLs_o, onLs_r, onSeq_l, onSeq_t, onSeq_r, onDs_nil, onDs_d, addS_i, addS_t, addS_l, intP_i, int2_i, negS_i, bix_i, one_s, two_s, isN_d, notN_d, eqS_ii, neS_ii, eqS_in, eqS_bb, ty_tuple_none, ty_tuple_bool, ty_tuple_int, ty_tuple_str, ty_tuple_tuple, ty_tuple_list, ty_tuple_dict, ty_list_none, ty_list_bool, ty_list_int, ty_list_str, ty_list_tuple, ty_list_list, ty_list_dict, ty_bool_none, ty_bool_bool, ty_bool_int, ty_bool_str, ty_bool_tuple, ty_bool_list, ty_bool_dict, ty_int_none, ty_int_bool, ty_int_int, ty_int_str, ty_int_tuple, ty_int_list, ty_int_dict, ty_str_none, ty_str_bool, ty_str_int, ty_str_str, ty_str_tuple, ty_str_list, ty_str_dict, ty_dict_none, ty_dict_bool, ty_dict_int, ty_dict_str, ty_dict_tuple, ty_dict_list, ty_dict_dict, not_true_eq_false, not_false_eq_true, Bool.and_true, Bool.true_and, Bool.and_false, Bool.false_and, Bool.or_true, Bool.true_or, Bool.or_false, Bool.false_or, Bool.true_eq_false, Int.toNat_natCast, isOwn_d, isOwn_bowl, isOwn_ro, isOwn_fn, onIs_map, onBs_map,
  List.map_cons, List.map_nil, List.length_cons, List.length_nil, List.replicate_succ, List.replicate_zero, List.cons_append, List.nil_append, List.append_nil, List.getElem?_cons_zero, List.getElem?_cons_succ, List.set_cons_zero, List.set_cons_succ, List.filterMap_cons, List.filterMap_nil, Option.map, List.mem_cons, List.not_mem_nil, or_false, false_or, forall_eq_or_imp, forall_eq, implies_true, false_imp_iff, List.length_map, and_true, true_and, and_self, if_true, if_false, Bool.false_eq_true, reduceCtorEq, Nat.reduceAdd, Nat.reduceSub, Int.reduceLT, Int.reduceLE, Int.reduceNeg, decide_true, decide_false, decide_eq_true_eq, Bool.not_true, Bool.not_false, Bool.not_eq_true', decide_eq_false_iff_not, ite_true, ite_false]; exact h
theorem w_least_bound {d : List Int} {m : Nat} {x y : Int} {Q : S → Prop} {E : Exn → Prop} (hz : d.length ≤ 1000000) (hx : 0 < x) (hxy : x < y) (hy : y < 1073741824) (h : ∀ b, BdI d m x y b → Q (.d (.int (b : Nat)))) : m_least_bound [.d (.list (d.map .int)), .d (.int (m : Nat)), .d (.tuple [.int x, .int y])] Q E := by
  simp only [m_least_bound, b_least_bound, e_dCmb, e_dSortK, e_keyS, e_dSeq, e_dIfS, e_dRet, e_dRetN, e_dRetB, e_dAsg, e_dPar, e_dAsgG, e_dDrop, e_dNext, e_dBrk, e_dCont, e_dNever, e_dFor, e_dFreeze, e_dRetO, e_dNewL, e_dApp, e_dWhile, e_dVar, e_dC, e_dOp1, e_dOp2, e_dCB, e_dNil, e_dCons, e_dB, e_dAnd, e_dOr, e_dNot, e_dAndV, e_dOrV, e_dNotV, e_dIf, e_dTup, e_dLst, e_dIsI, e_dCall, e_dCallK, e_dChain, e_dSl, e_dPart, e_dNoPart, e_dYes, e_dFnCall, e_dCallF, e_dIter, e_dRng1, e_dRng2, e_dEnum, e_dComp, e_gN, e_gBw, e_gOw, e_gT, e_gTn, e_gTc, e_dDef, e_lamM, e_gL, onIB_i, onIB_b, bwS_b, lenBS_b, e_dCompB, plain_bowls, isOwn_bowls, inOp_li, inOp_ti, e_dLenSet, e_dCallD, e_dPl, e_dNewO, e_dCopyO, e_dNewD, e_dDisp, e_prs_nil, e_prs_cons, e_dSets, e_dSetsN, e_sets_cons, e_sets_nil, e_dAppPop, e_dGet2, e_dKeys, e_dVals, e_dItems, e_dPut, e_dFreezeD, e_dSumV, onDc_d, onDc_o, onDz_d, keyR_i, keyR_s, flatK_nil, merge1, e_dStar, e_dComp2, e_dPar3, e_dZip, repS_t, repS_l, ixS_t0, ixS_t1, onBs_tt, rg1S_t, rg1S_l, rg2S_t, rg2S_l, revS_t, revS_l, onDs_map, onDs_map0, startR, lamR, slotR, wipeR, hideR, fits, perm,
  plain_d, plain_bowl, plain_ro, onD_d, onI_i, onB_b, onSq_l, onSq_t, onSq_o, onSq_r, onLs_l, onLs_o, onLs_r, onSeq_l, onSeq_t, onSeq_r, onDs_nil, onDs_d, addS_i, addS_t, addS_l, intP_i, int2_i, negS_i, bix_i, one_s, two_s, isN_d, notN_d, eqS_ii, neS_ii, eqS_in, eqS_bb, ty_tuple_none, ty_tuple_bool, ty_tuple_int, ty_tuple_str, ty_tuple_tuple, ty_tuple_list, ty_tuple_dict, ty_list_none, ty_list_bool, ty_list_int, ty_list_str, ty_list_tuple, ty_list_list, ty_list_dict, ty_bool_none, ty_bool_bool, ty_bool_int, ty_bool_str, ty_bool_tuple, ty_bool_list, ty_bool_dict, ty_int_none, ty_int_bool, ty_int_int, ty_int_str, ty_int_tuple, ty_int_list, ty_int_dict, ty_str_none, ty_str_bool, ty_str_int, ty_str_str, ty_str_tuple, ty_str_list, ty_str_dict, ty_dict_none, ty_dict_bool, ty_dict_int, ty_dict_str, ty_dict_tuple, ty_dict_list, ty_dict_dict, not_true_eq_false, not_false_eq_true, Bool.and_true, Bool.true_and, Bool.and_false, Bool.false_and, Bool.or_true, Bool.true_or, Bool.or_false, Bool.false_or, Bool.true_eq_false, Int.toNat_natCast, isOwn_d, isOwn_bowl, isOwn_ro, isOwn_fn, onIs_map, onBs_map,
  List.map_cons, List.map_nil, List.length_cons, List.length_nil, List.replicate_succ, List.replicate_zero, List.cons_append, List.nil_append, List.append_nil, List.getElem?_cons_zero, List.getElem?_cons_succ, List.set_cons_zero, List.set_cons_succ, List.filterMap_cons, List.filterMap_nil, Option.map, List.mem_cons, List.not_mem_nil, or_false, false_or, forall_eq_or_imp, forall_eq, implies_true, false_imp_iff, List.length_map, and_true, true_and, and_self, if_true, if_false, Bool.false_eq_true, reduceCtorEq, Nat.reduceAdd, Nat.reduceSub, Int.reduceLT, Int.reduceLE, Int.reduceNeg, decide_true, decide_false, decide_eq_true_eq, Bool.not_true, Bool.not_false, Bool.not_eq_true', decide_eq_false_iff_not, ite_true, ite_false]
  refine while_do (fun ρ => ∃ b : Nat, ρ = [some (S.d (.list (d.map .int))), some (S.d (.int (m : Nat))), some (S.d (.tuple [.int x, .int y])), some (S.d (.int (b : Nat)))] ∧ b ≤ m ∧ ∀ c : Nat, c < b → x * d.length < beyI d c * y) (fun ρ => match ρ[3]? with | some (some (S.d (PyData.int b))) => (m - b : Int).toNat | _ => 0) ⟨0, rfl, Nat.zero_le _, fun c hc => absurd hc (Nat.not_lt_zero _)⟩ fun ρ X hI hX => ?_
  obtain ⟨b, rfl, hb, hno⟩ := hI
  simp only [e_dCmb, e_dSortK, e_keyS, e_dSeq, e_dIfS, e_dRet, e_dRetN, e_dRetB, e_dAsg, e_dPar, e_dAsgG, e_dDrop, e_dNext, e_dBrk, e_dCont, e_dNever, e_dFor, e_dFreeze, e_dRetO, e_dNewL, e_dApp, e_dWhile, e_dVar, e_dC, e_dOp1, e_dOp2, e_dCB, e_dNil, e_dCons, e_dB, e_dAnd, e_dOr, e_dNot, e_dAndV, e_dOrV, e_dNotV, e_dIf, e_dTup, e_dLst, e_dIsI, e_dCall, e_dCallK, e_dChain, e_dSl, e_dPart, e_dNoPart, e_dYes, e_dFnCall, e_dCallF, e_dIter, e_dRng1, e_dRng2, e_dEnum, e_dComp, e_gN, e_gBw, e_gOw, e_gT, e_gTn, e_gTc, e_dDef, e_lamM, e_gL, onIB_i, onIB_b, bwS_b, lenBS_b, e_dCompB, plain_bowls, isOwn_bowls, inOp_li, inOp_ti, e_dLenSet, e_dCallD, e_dPl, e_dNewO, e_dCopyO, e_dNewD, e_dDisp, e_prs_nil, e_prs_cons, e_dSets, e_dSetsN, e_sets_cons, e_sets_nil, e_dAppPop, e_dGet2, e_dKeys, e_dVals, e_dItems, e_dPut, e_dFreezeD, e_dSumV, onDc_d, onDc_o, onDz_d, keyR_i, keyR_s, flatK_nil, merge1, e_dStar, e_dComp2, e_dPar3, e_dZip, repS_t, repS_l, ixS_t0, ixS_t1, onBs_tt, rg1S_t, rg1S_l, rg2S_t, rg2S_l, revS_t, revS_l, onDs_map, onDs_map0, startR, lamR, slotR, wipeR, hideR, fits, perm,
  plain_d, plain_bowl, plain_ro, onD_d, onI_i, onB_b, onSq_l, onSq_t, onSq_o, onSq_r, onLs_l, onLs_o, onLs_r, onSeq_l, onSeq_t, onSeq_r, onDs_nil, onDs_d, addS_i, addS_t, addS_l, intP_i, int2_i, negS_i, bix_i, one_s, two_s, isN_d, notN_d, eqS_ii, neS_ii, eqS_in, eqS_bb, ty_tuple_none, ty_tuple_bool, ty_tuple_int, ty_tuple_str, ty_tuple_tuple, ty_tuple_list, ty_tuple_dict, ty_list_none, ty_list_bool, ty_list_int, ty_list_str, ty_list_tuple, ty_list_list, ty_list_dict, ty_bool_none, ty_bool_bool, ty_bool_int, ty_bool_str, ty_bool_tuple, ty_bool_list, ty_bool_dict, ty_int_none, ty_int_bool, ty_int_int, ty_int_str, ty_int_tuple, ty_int_list, ty_int_dict, ty_str_none, ty_str_bool, ty_str_int, ty_str_str, ty_str_tuple, ty_str_list, ty_str_dict, ty_dict_none, ty_dict_bool, ty_dict_int, ty_dict_str, ty_dict_tuple, ty_dict_list, ty_dict_dict, not_true_eq_false, not_false_eq_true, Bool.and_true, Bool.true_and, Bool.and_false, Bool.false_and, Bool.or_true, Bool.true_or, Bool.or_false, Bool.false_or, Bool.true_eq_false, Int.toNat_natCast, isOwn_d, isOwn_bowl, isOwn_ro, isOwn_fn, onIs_map, onBs_map,
  List.map_cons, List.map_nil, List.length_cons, List.length_nil, List.replicate_succ, List.replicate_zero, List.cons_append, List.nil_append, List.append_nil, List.getElem?_cons_zero, List.getElem?_cons_succ, List.set_cons_zero, List.set_cons_succ, List.filterMap_cons, List.filterMap_nil, Option.map, List.mem_cons, List.not_mem_nil, or_false, false_or, forall_eq_or_imp, forall_eq, implies_true, false_imp_iff, List.length_map, and_true, true_and, and_self, if_true, if_false, Bool.false_eq_true, reduceCtorEq, Nat.reduceAdd, Nat.reduceSub, Int.reduceLT, Int.reduceLE, Int.reduceNeg, decide_true, decide_false, decide_eq_true_eq, Bool.not_true, Bool.not_false, Bool.not_eq_true', decide_eq_false_iff_not, ite_true, ite_false]
  by_cases h1 : (b : Int) < m
  · rw [if_pos h1]
    refine w_beyond hz ?_
    simp only [e_dCmb, e_dSortK, e_keyS, e_dSeq, e_dIfS, e_dRet, e_dRetN, e_dRetB, e_dAsg, e_dPar, e_dAsgG, e_dDrop, e_dNext, e_dBrk, e_dCont, e_dNever, e_dFor, e_dFreeze, e_dRetO, e_dNewL, e_dApp, e_dWhile, e_dVar, e_dC, e_dOp1, e_dOp2, e_dCB, e_dNil, e_dCons, e_dB, e_dAnd, e_dOr, e_dNot, e_dAndV, e_dOrV, e_dNotV, e_dIf, e_dTup, e_dLst, e_dIsI, e_dCall, e_dCallK, e_dChain, e_dSl, e_dPart, e_dNoPart, e_dYes, e_dFnCall, e_dCallF, e_dIter, e_dRng1, e_dRng2, e_dEnum, e_dComp, e_gN, e_gBw, e_gOw, e_gT, e_gTn, e_gTc, e_dDef, e_lamM, e_gL, onIB_i, onIB_b, bwS_b, lenBS_b, e_dCompB, plain_bowls, isOwn_bowls, inOp_li, inOp_ti, e_dLenSet, e_dCallD, e_dPl, e_dNewO, e_dCopyO, e_dNewD, e_dDisp, e_prs_nil, e_prs_cons, e_dSets, e_dSetsN, e_sets_cons, e_sets_nil, e_dAppPop, e_dGet2, e_dKeys, e_dVals, e_dItems, e_dPut, e_dFreezeD, e_dSumV, onDc_d, onDc_o, onDz_d, keyR_i, keyR_s, flatK_nil, merge1, e_dStar, e_dComp2, e_dPar3, e_dZip, repS_t, repS_l, ixS_t0, ixS_t1, onBs_tt, rg1S_t, rg1S_l, rg2S_t, rg2S_l, revS_t, revS_l, onDs_map, onDs_map0, startR, lamR, slotR, wipeR, hideR, fits, perm,
  plain_d, plain_bowl, plain_ro, onD_d, onI_i, onB_b, onSq_l, onSq_t, onSq_o, onSq_r, onLs_l, onLs_o, onLs_r, onSeq_l, onSeq_t, onSeq_r, onDs_nil, onDs_d, addS_i, addS_t, addS_l, intP_i, int2_i, negS_i, bix_i, one_s, two_s, isN_d, notN_d, eqS_ii, neS_ii, eqS_in, eqS_bb, ty_tuple_none, ty_tuple_bool, ty_tuple_int, ty_tuple_str, ty_tuple_tuple, ty_tuple_list, ty_tuple_dict, ty_list_none, ty_list_bool, ty_list_int, ty_list_str, ty_list_tuple, ty_list_list, ty_list_dict, ty_bool_none, ty_bool_bool, ty_bool_int, ty_bool_str, ty_bool_tuple, ty_bool_list, ty_bool_dict, ty_int_none, ty_int_bool, ty_int_int, ty_int_str, ty_int_tuple, ty_int_list, ty_int_dict, ty_str_none, ty_str_bool, ty_str_int, ty_str_str, ty_str_tuple, ty_str_list, ty_str_dict, ty_dict_none, ty_dict_bool, ty_dict_int, ty_dict_str, ty_dict_tuple, ty_dict_list, ty_dict_dict, not_true_eq_false, not_false_eq_true, Bool.and_true, Bool.true_and, Bool.and_false, Bool.false_and, Bool.or_true, Bool.true_or, Bool.or_false, Bool.false_or, Bool.true_eq_false, Int.toNat_natCast, isOwn_d, isOwn_bowl, isOwn_ro, isOwn_fn, onIs_map, onBs_map,
  List.map_cons, List.map_nil, List.length_cons, List.length_nil, List.replicate_succ, List.replicate_zero, List.cons_append, List.nil_append, List.append_nil, List.getElem?_cons_zero, List.getElem?_cons_succ, List.set_cons_zero, List.set_cons_succ, List.filterMap_cons, List.filterMap_nil, Option.map, List.mem_cons, List.not_mem_nil, or_false, false_or, forall_eq_or_imp, forall_eq, implies_true, false_imp_iff, List.length_map, and_true, true_and, and_self, if_true, if_false, Bool.false_eq_true, reduceCtorEq, Nat.reduceAdd, Nat.reduceSub, Int.reduceLT, Int.reduceLE, Int.reduceNeg, decide_true, decide_false, decide_eq_true_eq, Bool.not_true, Bool.not_false, Bool.not_eq_true', decide_eq_false_iff_not, ite_true, ite_false]
    refine ⟨mulOk_r (by omega) (by omega), mulOk_l (by omega) (by omega), ?_⟩
    by_cases h2 : x * d.length < beyI d b * y
    · rw [if_pos h2]
      refine hX _ ⟨b + 1, rfl, by omega, fun c hc => ?_⟩ ?_
      · by_cases e : c = b
        · subst e; exact h2
        · exact hno c (by omega)
      · show ((m : Int) - ((b : Int) + 1)).toNat < ((m : Int) - b).toNat
        omega
    · rw [if_neg h2]
      exact h b ⟨hb, hno, .inr (by omega)⟩
  · rw [if_neg h1]
    exact h b ⟨hb, hno, .inl (by omega)⟩
theorem w_unlike_leads {n : Nat} {Q : S → Prop} {E : Exn → Prop} (hn : n ≤ 1000) (h : Q (.d (.list ((unlI n).map .int)))) : m_unlike_leads [.d (.int (n : Nat))] Q E := by
  simp only [m_unlike_leads, b_unlike_leads, e_dCmb, e_dSortK, e_keyS, e_dSeq, e_dIfS, e_dRet, e_dRetN, e_dRetB, e_dAsg, e_dPar, e_dAsgG, e_dDrop, e_dNext, e_dBrk, e_dCont, e_dNever, e_dFor, e_dFreeze, e_dRetO, e_dNewL, e_dApp, e_dWhile, e_dVar, e_dC, e_dOp1, e_dOp2, e_dCB, e_dNil, e_dCons, e_dB, e_dAnd, e_dOr, e_dNot, e_dAndV, e_dOrV, e_dNotV, e_dIf, e_dTup, e_dLst, e_dIsI, e_dCall, e_dCallK, e_dChain, e_dSl, e_dPart, e_dNoPart, e_dYes, e_dFnCall, e_dCallF, e_dIter, e_dRng1, e_dRng2, e_dEnum, e_dComp, e_gN, e_gBw, e_gOw, e_gT, e_gTn, e_gTc, e_dDef, e_lamM, e_gL, onIB_i, onIB_b, bwS_b, lenBS_b, e_dCompB, plain_bowls, isOwn_bowls, inOp_li, inOp_ti, e_dLenSet, e_dCallD, e_dPl, e_dNewO, e_dCopyO, e_dNewD, e_dDisp, e_prs_nil, e_prs_cons, e_dSets, e_dSetsN, e_sets_cons, e_sets_nil, e_dAppPop, e_dGet2, e_dKeys, e_dVals, e_dItems, e_dPut, e_dFreezeD, e_dSumV, onDc_d, onDc_o, onDz_d, keyR_i, keyR_s, flatK_nil, merge1, e_dStar, e_dComp2, e_dPar3, e_dZip, repS_t, repS_l, ixS_t0, ixS_t1, onBs_tt, rg1S_t, rg1S_l, rg2S_t, rg2S_l, revS_t, revS_l, onDs_map, onDs_map0, startR, lamR, slotR, wipeR, hideR, fits, perm,
  plain_d, plain_bowl, plain_ro, onD_d, onI_i, onB_b, onSq_l, onSq_t, onSq_o, onSq_r, onLs_l, onLs_o, onLs_r, onSeq_l, onSeq_t, onSeq_r, onDs_nil, onDs_d, addS_i, addS_t, addS_l, intP_i, int2_i, negS_i, bix_i, one_s, two_s, isN_d, notN_d, eqS_ii, neS_ii, eqS_in, eqS_bb, ty_tuple_none, ty_tuple_bool, ty_tuple_int, ty_tuple_str, ty_tuple_tuple, ty_tuple_list, ty_tuple_dict, ty_list_none, ty_list_bool, ty_list_int, ty_list_str, ty_list_tuple, ty_list_list, ty_list_dict, ty_bool_none, ty_bool_bool, ty_bool_int, ty_bool_str, ty_bool_tuple, ty_bool_list, ty_bool_dict, ty_int_none, ty_int_bool, ty_int_int, ty_int_str, ty_int_tuple, ty_int_list, ty_int_dict, ty_str_none, ty_str_bool, ty_str_int, ty_str_str, ty_str_tuple, ty_str_list, ty_str_dict, ty_dict_none, ty_dict_bool, ty_dict_int, ty_dict_str, ty_dict_tuple, ty_dict_list, ty_dict_dict, not_true_eq_false, not_false_eq_true, Bool.and_true, Bool.true_and, Bool.and_false, Bool.false_and, Bool.or_true, Bool.true_or, Bool.or_false, Bool.false_or, Bool.true_eq_false, Int.toNat_natCast, isOwn_d, isOwn_bowl, isOwn_ro, isOwn_fn, onIs_map, onBs_map,
  List.map_cons, List.map_nil, List.length_cons, List.length_nil, List.replicate_succ, List.replicate_zero, List.cons_append, List.nil_append, List.append_nil, List.getElem?_cons_zero, List.getElem?_cons_succ, List.set_cons_zero, List.set_cons_succ, List.filterMap_cons, List.filterMap_nil, Option.map, List.mem_cons, List.not_mem_nil, or_false, false_or, forall_eq_or_imp, forall_eq, implies_true, false_imp_iff, List.length_map, and_true, true_and, and_self, if_true, if_false, Bool.false_eq_true, reduceCtorEq, Nat.reduceAdd, Nat.reduceSub, Int.reduceLT, Int.reduceLE, Int.reduceNeg, decide_true, decide_false, decide_eq_true_eq, Bool.not_true, Bool.not_false, Bool.not_eq_true', decide_eq_false_iff_not, ite_true, ite_false]
  refine ⟨⟨by decide, by decide, by omega, by omega⟩, ?_⟩
  refine compL_map (ns := List.range n) (fun j => S.d (.int (j : Int))) (fun j => PyData.int (2 * (j : Int) - ((n : Int) - 1))) (by unfold rngS; simp) (sizeLine_ge (by rw [List.length_range]; omega)) (fun j F Z hj hF => ?_) ?_
  · simp only [e_dCmb, e_dSortK, e_keyS, e_dSeq, e_dIfS, e_dRet, e_dRetN, e_dRetB, e_dAsg, e_dPar, e_dAsgG, e_dDrop, e_dNext, e_dBrk, e_dCont, e_dNever, e_dFor, e_dFreeze, e_dRetO, e_dNewL, e_dApp, e_dWhile, e_dVar, e_dC, e_dOp1, e_dOp2, e_dCB, e_dNil, e_dCons, e_dB, e_dAnd, e_dOr, e_dNot, e_dAndV, e_dOrV, e_dNotV, e_dIf, e_dTup, e_dLst, e_dIsI, e_dCall, e_dCallK, e_dChain, e_dSl, e_dPart, e_dNoPart, e_dYes, e_dFnCall, e_dCallF, e_dIter, e_dRng1, e_dRng2, e_dEnum, e_dComp, e_gN, e_gBw, e_gOw, e_gT, e_gTn, e_gTc, e_dDef, e_lamM, e_gL, onIB_i, onIB_b, bwS_b, lenBS_b, e_dCompB, plain_bowls, isOwn_bowls, inOp_li, inOp_ti, e_dLenSet, e_dCallD, e_dPl, e_dNewO, e_dCopyO, e_dNewD, e_dDisp, e_prs_nil, e_prs_cons, e_dSets, e_dSetsN, e_sets_cons, e_sets_nil, e_dAppPop, e_dGet2, e_dKeys, e_dVals, e_dItems, e_dPut, e_dFreezeD, e_dSumV, onDc_d, onDc_o, onDz_d, keyR_i, keyR_s, flatK_nil, merge1, e_dStar, e_dComp2, e_dPar3, e_dZip, repS_t, repS_l, ixS_t0, ixS_t1, onBs_tt, rg1S_t, rg1S_l, rg2S_t, rg2S_l, revS_t, revS_l, onDs_map, onDs_map0, startR, lamR, slotR, wipeR, hideR, fits, perm,
  plain_d, plain_bowl, plain_ro, onD_d, onI_i, onB_b, onSq_l, onSq_t, onSq_o, onSq_r, onLs_l, onLs_o, onLs_r, onSeq_l, onSeq_t, onSeq_r, onDs_nil, onDs_d, addS_i, addS_t, addS_l, intP_i, int2_i, negS_i, bix_i, one_s, two_s, isN_d, notN_d, eqS_ii, neS_ii, eqS_in, eqS_bb, ty_tuple_none, ty_tuple_bool, ty_tuple_int, ty_tuple_str, ty_tuple_tuple, ty_tuple_list, ty_tuple_dict, ty_list_none, ty_list_bool, ty_list_int, ty_list_str, ty_list_tuple, ty_list_list, ty_list_dict, ty_bool_none, ty_bool_bool, ty_bool_int, ty_bool_str, ty_bool_tuple, ty_bool_list, ty_bool_dict, ty_int_none, ty_int_bool, ty_int_int, ty_int_str, ty_int_tuple, ty_int_list, ty_int_dict, ty_str_none, ty_str_bool, ty_str_int, ty_str_str, ty_str_tuple, ty_str_list, ty_str_dict, ty_dict_none, ty_dict_bool, ty_dict_int, ty_dict_str, ty_dict_tuple, ty_dict_list, ty_dict_dict, not_true_eq_false, not_false_eq_true, Bool.and_true, Bool.true_and, Bool.and_false, Bool.false_and, Bool.or_true, Bool.true_or, Bool.or_false, Bool.false_or, Bool.true_eq_false, Int.toNat_natCast, isOwn_d, isOwn_bowl, isOwn_ro, isOwn_fn, onIs_map, onBs_map,
  List.map_cons, List.map_nil, List.length_cons, List.length_nil, List.replicate_succ, List.replicate_zero, List.cons_append, List.nil_append, List.append_nil, List.getElem?_cons_zero, List.getElem?_cons_succ, List.set_cons_zero, List.set_cons_succ, List.filterMap_cons, List.filterMap_nil, Option.map, List.mem_cons, List.not_mem_nil, or_false, false_or, forall_eq_or_imp, forall_eq, implies_true, false_imp_iff, List.length_map, and_true, true_and, and_self, if_true, if_false, Bool.false_eq_true, reduceCtorEq, Nat.reduceAdd, Nat.reduceSub, Int.reduceLT, Int.reduceLE, Int.reduceNeg, decide_true, decide_false, decide_eq_true_eq, Bool.not_true, Bool.not_false, Bool.not_eq_true', decide_eq_false_iff_not, ite_true, ite_false]
    exact ⟨mulOk_l (by decide) (by decide), hF⟩
  · unfold unlI at h
    rw [List.map_map] at h
    exact h
theorem w_bound_by {a b : Nat} {x y : Int} {Q : S → Prop} {E : Exn → Prop} (hab : a + b ≤ 10) (hx : 0 < x) (hxy : x < y) (hy : y < 1073741824) (h : ∀ c, BdI (dlU a b) (a * b) x y c → Q (.d (.int (c : Nat)))) : m_bound_by [.d (.int (a : Nat)), .d (.int (b : Nat)), .d (.tuple [.int x, .int y])] Q E := by
  simp only [m_bound_by, b_bound_by, e_dCmb, e_dSortK, e_keyS, e_dSeq, e_dIfS, e_dRet, e_dRetN, e_dRetB, e_dAsg, e_dPar, e_dAsgG, e_dDrop, e_dNext, e_dBrk, e_dCont, e_dNever, e_dFor, e_dFreeze, e_dRetO, e_dNewL, e_dApp, e_dWhile, e_dVar, e_dC, e_dOp1, e_dOp2, e_dCB, e_dNil, e_dCons, e_dB, e_dAnd, e_dOr, e_dNot, e_dAndV, e_dOrV, e_dNotV, e_dIf, e_dTup, e_dLst, e_dIsI, e_dCall, e_dCallK, e_dChain, e_dSl, e_dPart, e_dNoPart, e_dYes, e_dFnCall, e_dCallF, e_dIter, e_dRng1, e_dRng2, e_dEnum, e_dComp, e_gN, e_gBw, e_gOw, e_gT, e_gTn, e_gTc, e_dDef, e_lamM, e_gL, onIB_i, onIB_b, bwS_b, lenBS_b, e_dCompB, plain_bowls, isOwn_bowls, inOp_li, inOp_ti, e_dLenSet, e_dCallD, e_dPl, e_dNewO, e_dCopyO, e_dNewD, e_dDisp, e_prs_nil, e_prs_cons, e_dSets, e_dSetsN, e_sets_cons, e_sets_nil, e_dAppPop, e_dGet2, e_dKeys, e_dVals, e_dItems, e_dPut, e_dFreezeD, e_dSumV, onDc_d, onDc_o, onDz_d, keyR_i, keyR_s, flatK_nil, merge1, e_dStar, e_dComp2, e_dPar3, e_dZip, repS_t, repS_l, ixS_t0, ixS_t1, onBs_tt, rg1S_t, rg1S_l, rg2S_t, rg2S_l, revS_t, revS_l, onDs_map, onDs_map0, startR, lamR, slotR, wipeR, hideR, fits, perm,
  plain_d, plain_bowl, plain_ro, onD_d, onI_i, onB_b, onSq_l, onSq_t, onSq_o, onSq_r, onLs_l, onLs_o, onLs_r, onSeq_l, onSeq_t, onSeq_r, onDs_nil, onDs_d, addS_i, addS_t, addS_l, intP_i, int2_i, negS_i, bix_i, one_s, two_s, isN_d, notN_d, eqS_ii, neS_ii, eqS_in, eqS_bb, ty_tuple_none, ty_tuple_bool, ty_tuple_int, ty_tuple_str, ty_tuple_tuple, ty_tuple_list, ty_tuple_dict, ty_list_none, ty_list_bool, ty_list_int, ty_list_str, ty_list_tuple, ty_list_list, ty_list_dict, ty_bool_none, ty_bool_bool, ty_bool_int, ty_bool_str, ty_bool_tuple, ty_bool_list, ty_bool_dict, ty_int_none, ty_int_bool, ty_int_int, ty_int_str, ty_int_tuple, ty_int_list, ty_int_dict, ty_str_none, ty_str_bool, ty_str_int, ty_str_str, ty_str_tuple, ty_str_list, ty_str_dict, ty_dict_none, ty_dict_bool, ty_dict_int, ty_dict_str, ty_dict_tuple, ty_dict_list, ty_dict_dict, not_true_eq_false, not_false_eq_true, Bool.and_true, Bool.true_and, Bool.and_false, Bool.false_and, Bool.or_true, Bool.true_or, Bool.or_false, Bool.false_or, Bool.true_eq_false, Int.toNat_natCast, isOwn_d, isOwn_bowl, isOwn_ro, isOwn_fn, onIs_map, onBs_map,
  List.map_cons, List.map_nil, List.length_cons, List.length_nil, List.replicate_succ, List.replicate_zero, List.cons_append, List.nil_append, List.append_nil, List.getElem?_cons_zero, List.getElem?_cons_succ, List.set_cons_zero, List.set_cons_succ, List.filterMap_cons, List.filterMap_nil, Option.map, List.mem_cons, List.not_mem_nil, or_false, false_or, forall_eq_or_imp, forall_eq, implies_true, false_imp_iff, List.length_map, and_true, true_and, and_self, if_true, if_false, Bool.false_eq_true, reduceCtorEq, Nat.reduceAdd, Nat.reduceSub, Int.reduceLT, Int.reduceLE, Int.reduceNeg, decide_true, decide_false, decide_eq_true_eq, Bool.not_true, Bool.not_false, Bool.not_eq_true', decide_eq_false_iff_not, ite_true, ite_false]
  refine w_unlike_leads (n := a + b) (by omega) ?_
  simp only [e_dCmb, e_dSortK, e_keyS, e_dSeq, e_dIfS, e_dRet, e_dRetN, e_dRetB, e_dAsg, e_dPar, e_dAsgG, e_dDrop, e_dNext, e_dBrk, e_dCont, e_dNever, e_dFor, e_dFreeze, e_dRetO, e_dNewL, e_dApp, e_dWhile, e_dVar, e_dC, e_dOp1, e_dOp2, e_dCB, e_dNil, e_dCons, e_dB, e_dAnd, e_dOr, e_dNot, e_dAndV, e_dOrV, e_dNotV, e_dIf, e_dTup, e_dLst, e_dIsI, e_dCall, e_dCallK, e_dChain, e_dSl, e_dPart, e_dNoPart, e_dYes, e_dFnCall, e_dCallF, e_dIter, e_dRng1, e_dRng2, e_dEnum, e_dComp, e_gN, e_gBw, e_gOw, e_gT, e_gTn, e_gTc, e_dDef, e_lamM, e_gL, onIB_i, onIB_b, bwS_b, lenBS_b, e_dCompB, plain_bowls, isOwn_bowls, inOp_li, inOp_ti, e_dLenSet, e_dCallD, e_dPl, e_dNewO, e_dCopyO, e_dNewD, e_dDisp, e_prs_nil, e_prs_cons, e_dSets, e_dSetsN, e_sets_cons, e_sets_nil, e_dAppPop, e_dGet2, e_dKeys, e_dVals, e_dItems, e_dPut, e_dFreezeD, e_dSumV, onDc_d, onDc_o, onDz_d, keyR_i, keyR_s, flatK_nil, merge1, e_dStar, e_dComp2, e_dPar3, e_dZip, repS_t, repS_l, ixS_t0, ixS_t1, onBs_tt, rg1S_t, rg1S_l, rg2S_t, rg2S_l, revS_t, revS_l, onDs_map, onDs_map0, startR, lamR, slotR, wipeR, hideR, fits, perm,
  plain_d, plain_bowl, plain_ro, onD_d, onI_i, onB_b, onSq_l, onSq_t, onSq_o, onSq_r, onLs_l, onLs_o, onLs_r, onSeq_l, onSeq_t, onSeq_r, onDs_nil, onDs_d, addS_i, addS_t, addS_l, intP_i, int2_i, negS_i, bix_i, one_s, two_s, isN_d, notN_d, eqS_ii, neS_ii, eqS_in, eqS_bb, ty_tuple_none, ty_tuple_bool, ty_tuple_int, ty_tuple_str, ty_tuple_tuple, ty_tuple_list, ty_tuple_dict, ty_list_none, ty_list_bool, ty_list_int, ty_list_str, ty_list_tuple, ty_list_list, ty_list_dict, ty_bool_none, ty_bool_bool, ty_bool_int, ty_bool_str, ty_bool_tuple, ty_bool_list, ty_bool_dict, ty_int_none, ty_int_bool, ty_int_int, ty_int_str, ty_int_tuple, ty_int_list, ty_int_dict, ty_str_none, ty_str_bool, ty_str_int, ty_str_str, ty_str_tuple, ty_str_list, ty_str_dict, ty_dict_none, ty_dict_bool, ty_dict_int, ty_dict_str, ty_dict_tuple, ty_dict_list, ty_dict_dict, not_true_eq_false, not_false_eq_true, Bool.and_true, Bool.true_and, Bool.and_false, Bool.false_and, Bool.or_true, Bool.true_or, Bool.or_false, Bool.false_or, Bool.true_eq_false, Int.toNat_natCast, isOwn_d, isOwn_bowl, isOwn_ro, isOwn_fn, onIs_map, onBs_map,
  List.map_cons, List.map_nil, List.length_cons, List.length_nil, List.replicate_succ, List.replicate_zero, List.cons_append, List.nil_append, List.append_nil, List.getElem?_cons_zero, List.getElem?_cons_succ, List.set_cons_zero, List.set_cons_succ, List.filterMap_cons, List.filterMap_nil, Option.map, List.mem_cons, List.not_mem_nil, or_false, false_or, forall_eq_or_imp, forall_eq, implies_true, false_imp_iff, List.length_map, and_true, true_and, and_self, if_true, if_false, Bool.false_eq_true, reduceCtorEq, Nat.reduceAdd, Nat.reduceSub, Int.reduceLT, Int.reduceLE, Int.reduceNeg, decide_true, decide_false, decide_eq_true_eq, Bool.not_true, Bool.not_false, Bool.not_eq_true', decide_eq_false_iff_not, ite_true, ite_false]
  refine w_dealt_by (ws := unlI (a + b)) (a := a) (by rw [unl_len]; exact hab) (by omega) ?_
  simp only [e_dCmb, e_dSortK, e_keyS, e_dSeq, e_dIfS, e_dRet, e_dRetN, e_dRetB, e_dAsg, e_dPar, e_dAsgG, e_dDrop, e_dNext, e_dBrk, e_dCont, e_dNever, e_dFor, e_dFreeze, e_dRetO, e_dNewL, e_dApp, e_dWhile, e_dVar, e_dC, e_dOp1, e_dOp2, e_dCB, e_dNil, e_dCons, e_dB, e_dAnd, e_dOr, e_dNot, e_dAndV, e_dOrV, e_dNotV, e_dIf, e_dTup, e_dLst, e_dIsI, e_dCall, e_dCallK, e_dChain, e_dSl, e_dPart, e_dNoPart, e_dYes, e_dFnCall, e_dCallF, e_dIter, e_dRng1, e_dRng2, e_dEnum, e_dComp, e_gN, e_gBw, e_gOw, e_gT, e_gTn, e_gTc, e_dDef, e_lamM, e_gL, onIB_i, onIB_b, bwS_b, lenBS_b, e_dCompB, plain_bowls, isOwn_bowls, inOp_li, inOp_ti, e_dLenSet, e_dCallD, e_dPl, e_dNewO, e_dCopyO, e_dNewD, e_dDisp, e_prs_nil, e_prs_cons, e_dSets, e_dSetsN, e_sets_cons, e_sets_nil, e_dAppPop, e_dGet2, e_dKeys, e_dVals, e_dItems, e_dPut, e_dFreezeD, e_dSumV, onDc_d, onDc_o, onDz_d, keyR_i, keyR_s, flatK_nil, merge1, e_dStar, e_dComp2, e_dPar3, e_dZip, repS_t, repS_l, ixS_t0, ixS_t1, onBs_tt, rg1S_t, rg1S_l, rg2S_t, rg2S_l, revS_t, revS_l, onDs_map, onDs_map0, startR, lamR, slotR, wipeR, hideR, fits, perm,
  plain_d, plain_bowl, plain_ro, onD_d, onI_i, onB_b, onSq_l, onSq_t, onSq_o, onSq_r, onLs_l, onLs_o, onLs_r, onSeq_l, onSeq_t, onSeq_r, onDs_nil, onDs_d, addS_i, addS_t, addS_l, intP_i, int2_i, negS_i, bix_i, one_s, two_s, isN_d, notN_d, eqS_ii, neS_ii, eqS_in, eqS_bb, ty_tuple_none, ty_tuple_bool, ty_tuple_int, ty_tuple_str, ty_tuple_tuple, ty_tuple_list, ty_tuple_dict, ty_list_none, ty_list_bool, ty_list_int, ty_list_str, ty_list_tuple, ty_list_list, ty_list_dict, ty_bool_none, ty_bool_bool, ty_bool_int, ty_bool_str, ty_bool_tuple, ty_bool_list, ty_bool_dict, ty_int_none, ty_int_bool, ty_int_int, ty_int_str, ty_int_tuple, ty_int_list, ty_int_dict, ty_str_none, ty_str_bool, ty_str_int, ty_str_str, ty_str_tuple, ty_str_list, ty_str_dict, ty_dict_none, ty_dict_bool, ty_dict_int, ty_dict_str, ty_dict_tuple, ty_dict_list, ty_dict_dict, not_true_eq_false, not_false_eq_true, Bool.and_true, Bool.true_and, Bool.and_false, Bool.false_and, Bool.or_true, Bool.true_or, Bool.or_false, Bool.false_or, Bool.true_eq_false, Int.toNat_natCast, isOwn_d, isOwn_bowl, isOwn_ro, isOwn_fn, onIs_map, onBs_map,
  List.map_cons, List.map_nil, List.length_cons, List.length_nil, List.replicate_succ, List.replicate_zero, List.cons_append, List.nil_append, List.append_nil, List.getElem?_cons_zero, List.getElem?_cons_succ, List.set_cons_zero, List.set_cons_succ, List.filterMap_cons, List.filterMap_nil, Option.map, List.mem_cons, List.not_mem_nil, or_false, false_or, forall_eq_or_imp, forall_eq, implies_true, false_imp_iff, List.length_map, and_true, true_and, and_self, if_true, if_false, Bool.false_eq_true, reduceCtorEq, Nat.reduceAdd, Nat.reduceSub, Int.reduceLT, Int.reduceLE, Int.reduceNeg, decide_true, decide_false, decide_eq_true_eq, Bool.not_true, Bool.not_false, Bool.not_eq_true', decide_eq_false_iff_not, ite_true, ite_false]
  refine ⟨mulOk_r (by omega) (by omega), ?_⟩
  have hs : (dlU a b).length ≤ 1024 := deal_small (by rw [unl_len]; exact hab)
  rw [← Int.natCast_mul]
  exact w_least_bound (d := dlU a b) (by omega) hx hxy hy fun c hc => h c hc
theorem w_check_sizes {a b : Nat} {Q : S → Prop} {E : Exn → Prop} (ha : 1 ≤ a) (hb : 1 ≤ b) (hab : a + b ≤ 10) (h : Q (.d .none)) : m_check_sizes [.d (.int (a : Nat)), .d (.int (b : Nat))] Q E := by
  simp only [m_check_sizes, b_check_sizes, e_dCmb, e_dSortK, e_keyS, e_dSeq, e_dIfS, e_dRet, e_dRetN, e_dRetB, e_dAsg, e_dPar, e_dAsgG, e_dDrop, e_dNext, e_dBrk, e_dCont, e_dNever, e_dFor, e_dFreeze, e_dRetO, e_dNewL, e_dApp, e_dWhile, e_dVar, e_dC, e_dOp1, e_dOp2, e_dCB, e_dNil, e_dCons, e_dB, e_dAnd, e_dOr, e_dNot, e_dAndV, e_dOrV, e_dNotV, e_dIf, e_dTup, e_dLst, e_dIsI, e_dCall, e_dCallK, e_dChain, e_dSl, e_dPart, e_dNoPart, e_dYes, e_dFnCall, e_dCallF, e_dIter, e_dRng1, e_dRng2, e_dEnum, e_dComp, e_gN, e_gBw, e_gOw, e_gT, e_gTn, e_gTc, e_dDef, e_lamM, e_gL, onIB_i, onIB_b, bwS_b, lenBS_b, e_dCompB, plain_bowls, isOwn_bowls, inOp_li, inOp_ti, e_dLenSet, e_dCallD, e_dPl, e_dNewO, e_dCopyO, e_dNewD, e_dDisp, e_prs_nil, e_prs_cons, e_dSets, e_dSetsN, e_sets_cons, e_sets_nil, e_dAppPop, e_dGet2, e_dKeys, e_dVals, e_dItems, e_dPut, e_dFreezeD, e_dSumV, onDc_d, onDc_o, onDz_d, keyR_i, keyR_s, flatK_nil, merge1, e_dStar, e_dComp2, e_dPar3, e_dZip, repS_t, repS_l, ixS_t0, ixS_t1, onBs_tt, rg1S_t, rg1S_l, rg2S_t, rg2S_l, revS_t, revS_l, onDs_map, onDs_map0, startR, lamR, slotR, wipeR, hideR, fits, perm,
  plain_d, plain_bowl, plain_ro, onD_d, onI_i, onB_b, onSq_l, onSq_t, onSq_o, onSq_r, onLs_l, onLs_o, onLs_r, onSeq_l, onSeq_t, onSeq_r, onDs_nil, onDs_d, addS_i, addS_t, addS_l, intP_i, int2_i, negS_i, bix_i, one_s, two_s, isN_d, notN_d, eqS_ii, neS_ii, eqS_in, eqS_bb, ty_tuple_none, ty_tuple_bool, ty_tuple_int, ty_tuple_str, ty_tuple_tuple, ty_tuple_list, ty_tuple_dict, ty_list_none, ty_list_bool, ty_list_int, ty_list_str, ty_list_tuple, ty_list_list, ty_list_dict, ty_bool_none, ty_bool_bool, ty_bool_int, ty_bool_str, ty_bool_tuple, ty_bool_list, ty_bool_dict, ty_int_none, ty_int_bool, ty_int_int, ty_int_str, ty_int_tuple, ty_int_list, ty_int_dict, ty_str_none, ty_str_bool, ty_str_int, ty_str_str, ty_str_tuple, ty_str_list, ty_str_dict, ty_dict_none, ty_dict_bool, ty_dict_int, ty_dict_str, ty_dict_tuple, ty_dict_list, ty_dict_dict, not_true_eq_false, not_false_eq_true, Bool.and_true, Bool.true_and, Bool.and_false, Bool.false_and, Bool.or_true, Bool.true_or, Bool.or_false, Bool.false_or, Bool.true_eq_false, Int.toNat_natCast, isOwn_d, isOwn_bowl, isOwn_ro, isOwn_fn, onIs_map, onBs_map,
  List.map_cons, List.map_nil, List.length_cons, List.length_nil, List.replicate_succ, List.replicate_zero, List.cons_append, List.nil_append, List.append_nil, List.getElem?_cons_zero, List.getElem?_cons_succ, List.set_cons_zero, List.set_cons_succ, List.filterMap_cons, List.filterMap_nil, Option.map, List.mem_cons, List.not_mem_nil, or_false, false_or, forall_eq_or_imp, forall_eq, implies_true, false_imp_iff, List.length_map, and_true, true_and, and_self, if_true, if_false, Bool.false_eq_true, reduceCtorEq, Nat.reduceAdd, Nat.reduceSub, Int.reduceLT, Int.reduceLE, Int.reduceNeg, decide_true, decide_false, decide_eq_true_eq, Bool.not_true, Bool.not_false, Bool.not_eq_true', decide_eq_false_iff_not, ite_true, ite_false]
  refine w_check_number (by omega) (by omega) ?_
  refine w_check_number (by omega) (by omega) ?_
  rw [if_neg (by omega)]
  exact h
theorem w_bound {a b : Nat} {x y : Int} {Q : S → Prop} {E : Exn → Prop} (ha : 1 ≤ a) (hb : 1 ≤ b) (hab : a + b ≤ 10) (hx : 0 < x) (hxy : x < y) (hy : y < 1073741824) (hg : gI x y = 1) (h : ∀ c, BdI (dlU a b) (a * b) x y c → Q (.d (.int (c : Nat)))) : m_bound [.d (.int (a : Nat)), .d (.int (b : Nat)), .d (.tuple [.int x, .int y])] Q E := by
  simp only [m_bound, b_bound, e_dCmb, e_dSortK, e_keyS, e_dSeq, e_dIfS, e_dRet, e_dRetN, e_dRetB, e_dAsg, e_dPar, e_dAsgG, e_dDrop, e_dNext, e_dBrk, e_dCont, e_dNever, e_dFor, e_dFreeze, e_dRetO, e_dNewL, e_dApp, e_dWhile, e_dVar, e_dC, e_dOp1, e_dOp2, e_dCB, e_dNil, e_dCons, e_dB, e_dAnd, e_dOr, e_dNot, e_dAndV, e_dOrV, e_dNotV, e_dIf, e_dTup, e_dLst, e_dIsI, e_dCall, e_dCallK, e_dChain, e_dSl, e_dPart, e_dNoPart, e_dYes, e_dFnCall, e_dCallF, e_dIter, e_dRng1, e_dRng2, e_dEnum, e_dComp, e_gN, e_gBw, e_gOw, e_gT, e_gTn, e_gTc, e_dDef, e_lamM, e_gL, onIB_i, onIB_b, bwS_b, lenBS_b, e_dCompB, plain_bowls, isOwn_bowls, inOp_li, inOp_ti, e_dLenSet, e_dCallD, e_dPl, e_dNewO, e_dCopyO, e_dNewD, e_dDisp, e_prs_nil, e_prs_cons, e_dSets, e_dSetsN, e_sets_cons, e_sets_nil, e_dAppPop, e_dGet2, e_dKeys, e_dVals, e_dItems, e_dPut, e_dFreezeD, e_dSumV, onDc_d, onDc_o, onDz_d, keyR_i, keyR_s, flatK_nil, merge1, e_dStar, e_dComp2, e_dPar3, e_dZip, repS_t, repS_l, ixS_t0, ixS_t1, onBs_tt, rg1S_t, rg1S_l, rg2S_t, rg2S_l, revS_t, revS_l, onDs_map, onDs_map0, startR, lamR, slotR, wipeR, hideR, fits, perm,
  plain_d, plain_bowl, plain_ro, onD_d, onI_i, onB_b, onSq_l, onSq_t, onSq_o, onSq_r, onLs_l, onLs_o, onLs_r, onSeq_l, onSeq_t, onSeq_r, onDs_nil, onDs_d, addS_i, addS_t, addS_l, intP_i, int2_i, negS_i, bix_i, one_s, two_s, isN_d, notN_d, eqS_ii, neS_ii, eqS_in, eqS_bb, ty_tuple_none, ty_tuple_bool, ty_tuple_int, ty_tuple_str, ty_tuple_tuple, ty_tuple_list, ty_tuple_dict, ty_list_none, ty_list_bool, ty_list_int, ty_list_str, ty_list_tuple, ty_list_list, ty_list_dict, ty_bool_none, ty_bool_bool, ty_bool_int, ty_bool_str, ty_bool_tuple, ty_bool_list, ty_bool_dict, ty_int_none, ty_int_bool, ty_int_int, ty_int_str, ty_int_tuple, ty_int_list, ty_int_dict, ty_str_none, ty_str_bool, ty_str_int, ty_str_str, ty_str_tuple, ty_str_list, ty_str_dict, ty_dict_none, ty_dict_bool, ty_dict_int, ty_dict_str, ty_dict_tuple, ty_dict_list, ty_dict_dict, not_true_eq_false, not_false_eq_true, Bool.and_true, Bool.true_and, Bool.and_false, Bool.false_and, Bool.or_true, Bool.true_or, Bool.or_false, Bool.false_or, Bool.true_eq_false, Int.toNat_natCast, isOwn_d, isOwn_bowl, isOwn_ro, isOwn_fn, onIs_map, onBs_map,
  List.map_cons, List.map_nil, List.length_cons, List.length_nil, List.replicate_succ, List.replicate_zero, List.cons_append, List.nil_append, List.append_nil, List.getElem?_cons_zero, List.getElem?_cons_succ, List.set_cons_zero, List.set_cons_succ, List.filterMap_cons, List.filterMap_nil, Option.map, List.mem_cons, List.not_mem_nil, or_false, false_or, forall_eq_or_imp, forall_eq, implies_true, false_imp_iff, List.length_map, and_true, true_and, and_self, if_true, if_false, Bool.false_eq_true, reduceCtorEq, Nat.reduceAdd, Nat.reduceSub, Int.reduceLT, Int.reduceLE, Int.reduceNeg, decide_true, decide_false, decide_eq_true_eq, Bool.not_true, Bool.not_false, Bool.not_eq_true', decide_eq_false_iff_not, ite_true, ite_false]
  refine w_check_sizes ha hb hab ?_
  refine w_check_level_t hx hxy hg ?_
  refine w_bound_by hab hx hxy hy fun c hc => ?_
  simp only [e_dCmb, e_dSortK, e_keyS, e_dSeq, e_dIfS, e_dRet, e_dRetN, e_dRetB, e_dAsg, e_dPar, e_dAsgG, e_dDrop, e_dNext, e_dBrk, e_dCont, e_dNever, e_dFor, e_dFreeze, e_dRetO, e_dNewL, e_dApp, e_dWhile, e_dVar, e_dC, e_dOp1, e_dOp2, e_dCB, e_dNil, e_dCons, e_dB, e_dAnd, e_dOr, e_dNot, e_dAndV, e_dOrV, e_dNotV, e_dIf, e_dTup, e_dLst, e_dIsI, e_dCall, e_dCallK, e_dChain, e_dSl, e_dPart, e_dNoPart, e_dYes, e_dFnCall, e_dCallF, e_dIter, e_dRng1, e_dRng2, e_dEnum, e_dComp, e_gN, e_gBw, e_gOw, e_gT, e_gTn, e_gTc, e_dDef, e_lamM, e_gL, onIB_i, onIB_b, bwS_b, lenBS_b, e_dCompB, plain_bowls, isOwn_bowls, inOp_li, inOp_ti, e_dLenSet, e_dCallD, e_dPl, e_dNewO, e_dCopyO, e_dNewD, e_dDisp, e_prs_nil, e_prs_cons, e_dSets, e_dSetsN, e_sets_cons, e_sets_nil, e_dAppPop, e_dGet2, e_dKeys, e_dVals, e_dItems, e_dPut, e_dFreezeD, e_dSumV, onDc_d, onDc_o, onDz_d, keyR_i, keyR_s, flatK_nil, merge1, e_dStar, e_dComp2, e_dPar3, e_dZip, repS_t, repS_l, ixS_t0, ixS_t1, onBs_tt, rg1S_t, rg1S_l, rg2S_t, rg2S_l, revS_t, revS_l, onDs_map, onDs_map0, startR, lamR, slotR, wipeR, hideR, fits, perm,
  plain_d, plain_bowl, plain_ro, onD_d, onI_i, onB_b, onSq_l, onSq_t, onSq_o, onSq_r, onLs_l, onLs_o, onLs_r, onSeq_l, onSeq_t, onSeq_r, onDs_nil, onDs_d, addS_i, addS_t, addS_l, intP_i, int2_i, negS_i, bix_i, one_s, two_s, isN_d, notN_d, eqS_ii, neS_ii, eqS_in, eqS_bb, ty_tuple_none, ty_tuple_bool, ty_tuple_int, ty_tuple_str, ty_tuple_tuple, ty_tuple_list, ty_tuple_dict, ty_list_none, ty_list_bool, ty_list_int, ty_list_str, ty_list_tuple, ty_list_list, ty_list_dict, ty_bool_none, ty_bool_bool, ty_bool_int, ty_bool_str, ty_bool_tuple, ty_bool_list, ty_bool_dict, ty_int_none, ty_int_bool, ty_int_int, ty_int_str, ty_int_tuple, ty_int_list, ty_int_dict, ty_str_none, ty_str_bool, ty_str_int, ty_str_str, ty_str_tuple, ty_str_list, ty_str_dict, ty_dict_none, ty_dict_bool, ty_dict_int, ty_dict_str, ty_dict_tuple, ty_dict_list, ty_dict_dict, not_true_eq_false, not_false_eq_true, Bool.and_true, Bool.true_and, Bool.and_false, Bool.false_and, Bool.or_true, Bool.true_or, Bool.or_false, Bool.false_or, Bool.true_eq_false, Int.toNat_natCast, isOwn_d, isOwn_bowl, isOwn_ro, isOwn_fn, onIs_map, onBs_map,
  List.map_cons, List.map_nil, List.length_cons, List.length_nil, List.replicate_succ, List.replicate_zero, List.cons_append, List.nil_append, List.append_nil, List.getElem?_cons_zero, List.getElem?_cons_succ, List.set_cons_zero, List.set_cons_succ, List.filterMap_cons, List.filterMap_nil, Option.map, List.mem_cons, List.not_mem_nil, or_false, false_or, forall_eq_or_imp, forall_eq, implies_true, false_imp_iff, List.length_map, and_true, true_and, and_self, if_true, if_false, Bool.false_eq_true, reduceCtorEq, Nat.reduceAdd, Nat.reduceSub, Int.reduceLT, Int.reduceLE, Int.reduceNeg, decide_true, decide_false, decide_eq_true_eq, Bool.not_true, Bool.not_false, Bool.not_eq_true', decide_eq_false_iff_not, ite_true, ite_false]
  exact h c hc
theorem cutD_drop {α : Type} (l : List α) (k : Nat) (h : k ≤ l.length) : DL.cutD l (some (k : Int)) none = l.drop k := by
  unfold DL.cutD
  rw [HT.sIx_none, HT.sIx_nat]
  rw [Nat.min_eq_left h]
  rw [List.take_of_length_le (by rw [List.length_drop]; omega)]
theorem w__law_bound {a b : Nat} {x y : Int} {Q : S → Prop} {E : Exn → Prop} (hab : a + b ≤ 10) (hx : 0 < x) (hxy : x < y) (hy : y < 1073741824) (h : ∀ c, BdI (dlU a b) (a * b) x y c → Q (.d (.int (c : Nat)))) : m__law_bound [.d (.int (a : Nat)), .d (.int (b : Nat)), .d (.tuple [.int x, .int y])] Q E := by
  simp only [m__law_bound, b__law_bound, e_dCmb, e_dSortK, e_keyS, e_dSeq, e_dIfS, e_dRet, e_dRetN, e_dRetB, e_dAsg, e_dPar, e_dAsgG, e_dDrop, e_dNext, e_dBrk, e_dCont, e_dNever, e_dFor, e_dFreeze, e_dRetO, e_dNewL, e_dApp, e_dWhile, e_dVar, e_dC, e_dOp1, e_dOp2, e_dCB, e_dNil, e_dCons, e_dB, e_dAnd, e_dOr, e_dNot, e_dAndV, e_dOrV, e_dNotV, e_dIf, e_dTup, e_dLst, e_dIsI, e_dCall, e_dCallK, e_dChain, e_dSl, e_dPart, e_dNoPart, e_dYes, e_dFnCall, e_dCallF, e_dIter, e_dRng1, e_dRng2, e_dEnum, e_dComp, e_gN, e_gBw, e_gOw, e_gT, e_gTn, e_gTc, e_dDef, e_lamM, e_gL, onIB_i, onIB_b, bwS_b, lenBS_b, e_dCompB, plain_bowls, isOwn_bowls, inOp_li, inOp_ti, e_dLenSet, e_dCallD, e_dPl, e_dNewO, e_dCopyO, e_dNewD, e_dDisp, e_prs_nil, e_prs_cons, e_dSets, e_dSetsN, e_sets_cons, e_sets_nil, e_dAppPop, e_dGet2, e_dKeys, e_dVals, e_dItems, e_dPut, e_dFreezeD, e_dSumV, onDc_d, onDc_o, onDz_d, keyR_i, keyR_s, flatK_nil, merge1, e_dStar, e_dComp2, e_dPar3, e_dZip, repS_t, repS_l, ixS_t0, ixS_t1, onBs_tt, rg1S_t, rg1S_l, rg2S_t, rg2S_l, revS_t, revS_l, onDs_map, onDs_map0, startR, lamR, slotR, wipeR, hideR, fits, perm,
  plain_d, plain_bowl, plain_ro, onD_d, onI_i, onB_b, onSq_l, onSq_t, onSq_o, onSq_r, onLs_l, onLs_o, onLs_r, onSeq_l, onSeq_t, onSeq_r, onDs_nil, onDs_d, addS_i, addS_t, addS_l, intP_i, int2_i, negS_i, bix_i, one_s, two_s, isN_d, notN_d, eqS_ii, neS_ii, eqS_in, eqS_bb, ty_tuple_none, ty_tuple_bool, ty_tuple_int, ty_tuple_str, ty_tuple_tuple, ty_tuple_list, ty_tuple_dict, ty_list_none, ty_list_bool, ty_list_int, ty_list_str, ty_list_tuple, ty_list_list, ty_list_dict, ty_bool_none, ty_bool_bool, ty_bool_int, ty_bool_str, ty_bool_tuple, ty_bool_list, ty_bool_dict, ty_int_none, ty_int_bool, ty_int_int, ty_int_str, ty_int_tuple, ty_int_list, ty_int_dict, ty_str_none, ty_str_bool, ty_str_int, ty_str_str, ty_str_tuple, ty_str_list, ty_str_dict, ty_dict_none, ty_dict_bool, ty_dict_int, ty_dict_str, ty_dict_tuple, ty_dict_list, ty_dict_dict, not_true_eq_false, not_false_eq_true, Bool.and_true, Bool.true_and, Bool.and_false, Bool.false_and, Bool.or_true, Bool.true_or, Bool.or_false, Bool.false_or, Bool.true_eq_false, Int.toNat_natCast, isOwn_d, isOwn_bowl, isOwn_ro, isOwn_fn, onIs_map, onBs_map,
  List.map_cons, List.map_nil, List.length_cons, List.length_nil, List.replicate_succ, List.replicate_zero, List.cons_append, List.nil_append, List.append_nil, List.getElem?_cons_zero, List.getElem?_cons_succ, List.set_cons_zero, List.set_cons_succ, List.filterMap_cons, List.filterMap_nil, Option.map, List.mem_cons, List.not_mem_nil, or_false, false_or, forall_eq_or_imp, forall_eq, implies_true, false_imp_iff, List.length_map, and_true, true_and, and_self, if_true, if_false, Bool.false_eq_true, reduceCtorEq, Nat.reduceAdd, Nat.reduceSub, Int.reduceLT, Int.reduceLE, Int.reduceNeg, decide_true, decide_false, decide_eq_true_eq, Bool.not_true, Bool.not_false, Bool.not_eq_true', decide_eq_false_iff_not, ite_true, ite_false]
  rw [← Int.natCast_add, rgD_rng, cutD_head, cutD_drop _ _ (by rw [List.length_map, rngI_len]; omega), ← List.map_take, ← List.map_drop]
  refine ⟨⟨by decide, by omega, by omega⟩, ?_⟩
  have hr := rngI_len (a + b)
  have e1 : ((rngI (a + b)).take a).length = a := by rw [List.length_take]; omega
  have e2 : ((rngI (a + b)).drop a).length = b := by rw [List.length_drop]; omega
  refine w__law_dealt (.inr (.inr rfl)) (by omega) fun rows hp => ?_
  rw [List.take_append_drop, wts_range _ (by omega), e1] at hp
  have hp : rows.Perm (dlU a b) := hp
  have hs : (dlU a b).length ≤ 1024 := deal_small (by rw [unl_len]; exact hab)
  have hl := hp.length_eq
  have hab2 : a * b ≤ 10 * 10 := Nat.mul_le_mul (by omega) (by omega)
  simp only [e_dCmb, e_dSortK, e_keyS, e_dSeq, e_dIfS, e_dRet, e_dRetN, e_dRetB, e_dAsg, e_dPar, e_dAsgG, e_dDrop, e_dNext, e_dBrk, e_dCont, e_dNever, e_dFor, e_dFreeze, e_dRetO, e_dNewL, e_dApp, e_dWhile, e_dVar, e_dC, e_dOp1, e_dOp2, e_dCB, e_dNil, e_dCons, e_dB, e_dAnd, e_dOr, e_dNot, e_dAndV, e_dOrV, e_dNotV, e_dIf, e_dTup, e_dLst, e_dIsI, e_dCall, e_dCallK, e_dChain, e_dSl, e_dPart, e_dNoPart, e_dYes, e_dFnCall, e_dCallF, e_dIter, e_dRng1, e_dRng2, e_dEnum, e_dComp, e_gN, e_gBw, e_gOw, e_gT, e_gTn, e_gTc, e_dDef, e_lamM, e_gL, onIB_i, onIB_b, bwS_b, lenBS_b, e_dCompB, plain_bowls, isOwn_bowls, inOp_li, inOp_ti, e_dLenSet, e_dCallD, e_dPl, e_dNewO, e_dCopyO, e_dNewD, e_dDisp, e_prs_nil, e_prs_cons, e_dSets, e_dSetsN, e_sets_cons, e_sets_nil, e_dAppPop, e_dGet2, e_dKeys, e_dVals, e_dItems, e_dPut, e_dFreezeD, e_dSumV, onDc_d, onDc_o, onDz_d, keyR_i, keyR_s, flatK_nil, merge1, e_dStar, e_dComp2, e_dPar3, e_dZip, repS_t, repS_l, ixS_t0, ixS_t1, onBs_tt, rg1S_t, rg1S_l, rg2S_t, rg2S_l, revS_t, revS_l, onDs_map, onDs_map0, startR, lamR, slotR, wipeR, hideR, fits, perm,
  plain_d, plain_bowl, plain_ro, onD_d, onI_i, onB_b, onSq_l, onSq_t, onSq_o, onSq_r, onLs_l, onLs_o, onLs_r, onSeq_l, onSeq_t, onSeq_r, onDs_nil, onDs_d, addS_i, addS_t, addS_l, intP_i, int2_i, negS_i, bix_i, one_s, two_s, isN_d, notN_d, eqS_ii, neS_ii, eqS_in, eqS_bb, ty_tuple_none, ty_tuple_bool, ty_tuple_int, ty_tuple_str, ty_tuple_tuple, ty_tuple_list, ty_tuple_dict, ty_list_none, ty_list_bool, ty_list_int, ty_list_str, ty_list_tuple, ty_list_list, ty_list_dict, ty_bool_none, ty_bool_bool, ty_bool_int, ty_bool_str, ty_bool_tuple, ty_bool_list, ty_bool_dict, ty_int_none, ty_int_bool, ty_int_int, ty_int_str, ty_int_tuple, ty_int_list, ty_int_dict, ty_str_none, ty_str_bool, ty_str_int, ty_str_str, ty_str_tuple, ty_str_list, ty_str_dict, ty_dict_none, ty_dict_bool, ty_dict_int, ty_dict_str, ty_dict_tuple, ty_dict_list, ty_dict_dict, not_true_eq_false, not_false_eq_true, Bool.and_true, Bool.true_and, Bool.and_false, Bool.false_and, Bool.or_true, Bool.true_or, Bool.or_false, Bool.false_or, Bool.true_eq_false, Int.toNat_natCast, isOwn_d, isOwn_bowl, isOwn_ro, isOwn_fn, onIs_map, onBs_map,
  List.map_cons, List.map_nil, List.length_cons, List.length_nil, List.replicate_succ, List.replicate_zero, List.cons_append, List.nil_append, List.append_nil, List.getElem?_cons_zero, List.getElem?_cons_succ, List.set_cons_zero, List.set_cons_succ, List.filterMap_cons, List.filterMap_nil, Option.map, List.mem_cons, List.not_mem_nil, or_false, false_or, forall_eq_or_imp, forall_eq, implies_true, false_imp_iff, List.length_map, and_true, true_and, and_self, if_true, if_false, Bool.false_eq_true, reduceCtorEq, Nat.reduceAdd, Nat.reduceSub, Int.reduceLT, Int.reduceLE, Int.reduceNeg, decide_true, decide_false, decide_eq_true_eq, Bool.not_true, Bool.not_false, Bool.not_eq_true', decide_eq_false_iff_not, ite_true, ite_false]
  refine ⟨mulOk_r (by omega) (by omega), ⟨by decide, by decide, by rw [← Int.natCast_mul]; omega, by rw [← Int.natCast_mul]; omega⟩, ?_⟩
  rw [show ((a : Int) * b + 1).toNat = a * b + 1 by rw [← Int.natCast_mul]; omega]
  refine forL_inv (fun i ρ => (∃ u v, ρ = [some (S.d (.int (a : Nat))), some (S.d (.int (b : Nat))), some (S.d (.tuple [.int x, .int y])), some (S.d (.list ((rngI (a + b)).map .int))), some (S.d (.list (rows.map .int))), u, v]) ∧ ∀ c : Nat, c < i → x * rows.length < beyI rows c * y) 0 ⟨⟨_, _, rfl⟩, fun c hc => absurd hc (Nat.not_lt_zero _)⟩ (fun i s ρ X hs2 hI hX => ?_) fun ρ hI => ?_
  · obtain ⟨⟨u, v, rfl⟩, hno⟩ := hI
    obtain ⟨hi, rfl⟩ := rngS_at hs2
    rw [Nat.zero_add] at hX hno
    simp only [e_dCmb, e_dSortK, e_keyS, e_dSeq, e_dIfS, e_dRet, e_dRetN, e_dRetB, e_dAsg, e_dPar, e_dAsgG, e_dDrop, e_dNext, e_dBrk, e_dCont, e_dNever, e_dFor, e_dFreeze, e_dRetO, e_dNewL, e_dApp, e_dWhile, e_dVar, e_dC, e_dOp1, e_dOp2, e_dCB, e_dNil, e_dCons, e_dB, e_dAnd, e_dOr, e_dNot, e_dAndV, e_dOrV, e_dNotV, e_dIf, e_dTup, e_dLst, e_dIsI, e_dCall, e_dCallK, e_dChain, e_dSl, e_dPart, e_dNoPart, e_dYes, e_dFnCall, e_dCallF, e_dIter, e_dRng1, e_dRng2, e_dEnum, e_dComp, e_gN, e_gBw, e_gOw, e_gT, e_gTn, e_gTc, e_dDef, e_lamM, e_gL, onIB_i, onIB_b, bwS_b, lenBS_b, e_dCompB, plain_bowls, isOwn_bowls, inOp_li, inOp_ti, e_dLenSet, e_dCallD, e_dPl, e_dNewO, e_dCopyO, e_dNewD, e_dDisp, e_prs_nil, e_prs_cons, e_dSets, e_dSetsN, e_sets_cons, e_sets_nil, e_dAppPop, e_dGet2, e_dKeys, e_dVals, e_dItems, e_dPut, e_dFreezeD, e_dSumV, onDc_d, onDc_o, onDz_d, keyR_i, keyR_s, flatK_nil, merge1, e_dStar, e_dComp2, e_dPar3, e_dZip, repS_t, repS_l, ixS_t0, ixS_t1, onBs_tt, rg1S_t, rg1S_l, rg2S_t, rg2S_l, revS_t, revS_l, onDs_map, onDs_map0, startR, lamR, slotR, wipeR, hideR, fits, perm,
  plain_d, plain_bowl, plain_ro, onD_d, onI_i, onB_b, onSq_l, onSq_t, onSq_o, onSq_r, onLs_l, onLs_o, onLs_r, onSeq_l, onSeq_t, onSeq_r, onDs_nil, onDs_d, addS_i, addS_t, addS_l, intP_i, int2_i, negS_i, bix_i, one_s, two_s, isN_d, notN_d, eqS_ii, neS_ii, eqS_in, eqS_bb, ty_tuple_none, ty_tuple_bool, ty_tuple_int, ty_tuple_str, ty_tuple_tuple, ty_tuple_list, ty_tuple_dict, ty_list_none, ty_list_bool, ty_list_int, ty_list_str, ty_list_tuple, ty_list_list, ty_list_dict, ty_bool_none, ty_bool_bool, ty_bool_int, ty_bool_str, ty_bool_tuple, ty_bool_list, ty_bool_dict, ty_int_none, ty_int_bool, ty_int_int, ty_int_str, ty_int_tuple, ty_int_list, ty_int_dict, ty_str_none, ty_str_bool, ty_str_int, ty_str_str, ty_str_tuple, ty_str_list, ty_str_dict, ty_dict_none, ty_dict_bool, ty_dict_int, ty_dict_str, ty_dict_tuple, ty_dict_list, ty_dict_dict, not_true_eq_false, not_false_eq_true, Bool.and_true, Bool.true_and, Bool.and_false, Bool.false_and, Bool.or_true, Bool.true_or, Bool.or_false, Bool.false_or, Bool.true_eq_false, Int.toNat_natCast, isOwn_d, isOwn_bowl, isOwn_ro, isOwn_fn, onIs_map, onBs_map,
  List.map_cons, List.map_nil, List.length_cons, List.length_nil, List.replicate_succ, List.replicate_zero, List.cons_append, List.nil_append, List.append_nil, List.getElem?_cons_zero, List.getElem?_cons_succ, List.set_cons_zero, List.set_cons_succ, List.filterMap_cons, List.filterMap_nil, Option.map, List.mem_cons, List.not_mem_nil, or_false, false_or, forall_eq_or_imp, forall_eq, implies_true, false_imp_iff, List.length_map, and_true, true_and, and_self, if_true, if_false, Bool.false_eq_true, reduceCtorEq, Nat.reduceAdd, Nat.reduceSub, Int.reduceLT, Int.reduceLE, Int.reduceNeg, decide_true, decide_false, decide_eq_true_eq, Bool.not_true, Bool.not_false, Bool.not_eq_true', decide_eq_false_iff_not, ite_true, ite_false]
    refine compL_ints (ints_map rows) (fun z => decide ((i : Int) < absI z)) PyData.int (sizeLine_ge (by omega)) (fun v F Z hv h1 h2 => ?_) ?_
    · simp only [e_dCmb, e_dSortK, e_keyS, e_dSeq, e_dIfS, e_dRet, e_dRetN, e_dRetB, e_dAsg, e_dPar, e_dAsgG, e_dDrop, e_dNext, e_dBrk, e_dCont, e_dNever, e_dFor, e_dFreeze, e_dRetO, e_dNewL, e_dApp, e_dWhile, e_dVar, e_dC, e_dOp1, e_dOp2, e_dCB, e_dNil, e_dCons, e_dB, e_dAnd, e_dOr, e_dNot, e_dAndV, e_dOrV, e_dNotV, e_dIf, e_dTup, e_dLst, e_dIsI, e_dCall, e_dCallK, e_dChain, e_dSl, e_dPart, e_dNoPart, e_dYes, e_dFnCall, e_dCallF, e_dIter, e_dRng1, e_dRng2, e_dEnum, e_dComp, e_gN, e_gBw, e_gOw, e_gT, e_gTn, e_gTc, e_dDef, e_lamM, e_gL, onIB_i, onIB_b, bwS_b, lenBS_b, e_dCompB, plain_bowls, isOwn_bowls, inOp_li, inOp_ti, e_dLenSet, e_dCallD, e_dPl, e_dNewO, e_dCopyO, e_dNewD, e_dDisp, e_prs_nil, e_prs_cons, e_dSets, e_dSetsN, e_sets_cons, e_sets_nil, e_dAppPop, e_dGet2, e_dKeys, e_dVals, e_dItems, e_dPut, e_dFreezeD, e_dSumV, onDc_d, onDc_o, onDz_d, keyR_i, keyR_s, flatK_nil, merge1, e_dStar, e_dComp2, e_dPar3, e_dZip, repS_t, repS_l, ixS_t0, ixS_t1, onBs_tt, rg1S_t, rg1S_l, rg2S_t, rg2S_l, revS_t, revS_l, onDs_map, onDs_map0, startR, lamR, slotR, wipeR, hideR, fits, perm,
  plain_d, plain_bowl, plain_ro, onD_d, onI_i, onB_b, onSq_l, onSq_t, onSq_o, onSq_r, onLs_l, onLs_o, onLs_r, onSeq_l, onSeq_t, onSeq_r, onDs_nil, onDs_d, addS_i, addS_t, addS_l, intP_i, int2_i, negS_i, bix_i, one_s, two_s, isN_d, notN_d, eqS_ii, neS_ii, eqS_in, eqS_bb, ty_tuple_none, ty_tuple_bool, ty_tuple_int, ty_tuple_str, ty_tuple_tuple, ty_tuple_list, ty_tuple_dict, ty_list_none, ty_list_bool, ty_list_int, ty_list_str, ty_list_tuple, ty_list_list, ty_list_dict, ty_bool_none, ty_bool_bool, ty_bool_int, ty_bool_str, ty_bool_tuple, ty_bool_list, ty_bool_dict, ty_int_none, ty_int_bool, ty_int_int, ty_int_str, ty_int_tuple, ty_int_list, ty_int_dict, ty_str_none, ty_str_bool, ty_str_int, ty_str_str, ty_str_tuple, ty_str_list, ty_str_dict, ty_dict_none, ty_dict_bool, ty_dict_int, ty_dict_str, ty_dict_tuple, ty_dict_list, ty_dict_dict, not_true_eq_false, not_false_eq_true, Bool.and_true, Bool.true_and, Bool.and_false, Bool.false_and, Bool.or_true, Bool.true_or, Bool.or_false, Bool.false_or, Bool.true_eq_false, Int.toNat_natCast, isOwn_d, isOwn_bowl, isOwn_ro, isOwn_fn, onIs_map, onBs_map,
  List.map_cons, List.map_nil, List.length_cons, List.length_nil, List.replicate_succ, List.replicate_zero, List.cons_append, List.nil_append, List.append_nil, List.getElem?_cons_zero, List.getElem?_cons_succ, List.set_cons_zero, List.set_cons_succ, List.filterMap_cons, List.filterMap_nil, Option.map, List.mem_cons, List.not_mem_nil, or_false, false_or, forall_eq_or_imp, forall_eq, implies_true, false_imp_iff, List.length_map, and_true, true_and, and_self, if_true, if_false, Bool.false_eq_true, reduceCtorEq, Nat.reduceAdd, Nat.reduceSub, Int.reduceLT, Int.reduceLE, Int.reduceNeg, decide_true, decide_false, decide_eq_true_eq, Bool.not_true, Bool.not_false, Bool.not_eq_true', decide_eq_false_iff_not, ite_true, ite_false]; exact ite_fil h1 h2
    simp only [e_dCmb, e_dSortK, e_keyS, e_dSeq, e_dIfS, e_dRet, e_dRetN, e_dRetB, e_dAsg, e_dPar, e_dAsgG, e_dDrop, e_dNext, e_dBrk, e_dCont, e_dNever, e_dFor, e_dFreeze, e_dRetO, e_dNewL, e_dApp, e_dWhile, e_dVar, e_dC, e_dOp1, e_dOp2, e_dCB, e_dNil, e_dCons, e_dB, e_dAnd, e_dOr, e_dNot, e_dAndV, e_dOrV, e_dNotV, e_dIf, e_dTup, e_dLst, e_dIsI, e_dCall, e_dCallK, e_dChain, e_dSl, e_dPart, e_dNoPart, e_dYes, e_dFnCall, e_dCallF, e_dIter, e_dRng1, e_dRng2, e_dEnum, e_dComp, e_gN, e_gBw, e_gOw, e_gT, e_gTn, e_gTc, e_dDef, e_lamM, e_gL, onIB_i, onIB_b, bwS_b, lenBS_b, e_dCompB, plain_bowls, isOwn_bowls, inOp_li, inOp_ti, e_dLenSet, e_dCallD, e_dPl, e_dNewO, e_dCopyO, e_dNewD, e_dDisp, e_prs_nil, e_prs_cons, e_dSets, e_dSetsN, e_sets_cons, e_sets_nil, e_dAppPop, e_dGet2, e_dKeys, e_dVals, e_dItems, e_dPut, e_dFreezeD, e_dSumV, onDc_d, onDc_o, onDz_d, keyR_i, keyR_s, flatK_nil, merge1, e_dStar, e_dComp2, e_dPar3, e_dZip, repS_t, repS_l, ixS_t0, ixS_t1, onBs_tt, rg1S_t, rg1S_l, rg2S_t, rg2S_l, revS_t, revS_l, onDs_map, onDs_map0, startR, lamR, slotR, wipeR, hideR, fits, perm,
  plain_d, plain_bowl, plain_ro, onD_d, onI_i, onB_b, onSq_l, onSq_t, onSq_o, onSq_r, onLs_l, onLs_o, onLs_r, onSeq_l, onSeq_t, onSeq_r, onDs_nil, onDs_d, addS_i, addS_t, addS_l, intP_i, int2_i, negS_i, bix_i, one_s, two_s, isN_d, notN_d, eqS_ii, neS_ii, eqS_in, eqS_bb, ty_tuple_none, ty_tuple_bool, ty_tuple_int, ty_tuple_str, ty_tuple_tuple, ty_tuple_list, ty_tuple_dict, ty_list_none, ty_list_bool, ty_list_int, ty_list_str, ty_list_tuple, ty_list_list, ty_list_dict, ty_bool_none, ty_bool_bool, ty_bool_int, ty_bool_str, ty_bool_tuple, ty_bool_list, ty_bool_dict, ty_int_none, ty_int_bool, ty_int_int, ty_int_str, ty_int_tuple, ty_int_list, ty_int_dict, ty_str_none, ty_str_bool, ty_str_int, ty_str_str, ty_str_tuple, ty_str_list, ty_str_dict, ty_dict_none, ty_dict_bool, ty_dict_int, ty_dict_str, ty_dict_tuple, ty_dict_list, ty_dict_dict, not_true_eq_false, not_false_eq_true, Bool.and_true, Bool.true_and, Bool.and_false, Bool.false_and, Bool.or_true, Bool.true_or, Bool.or_false, Bool.false_or, Bool.true_eq_false, Int.toNat_natCast, isOwn_d, isOwn_bowl, isOwn_ro, isOwn_fn, onIs_map, onBs_map,
  List.map_cons, List.map_nil, List.length_cons, List.length_nil, List.replicate_succ, List.replicate_zero, List.cons_append, List.nil_append, List.append_nil, List.getElem?_cons_zero, List.getElem?_cons_succ, List.set_cons_zero, List.set_cons_succ, List.filterMap_cons, List.filterMap_nil, Option.map, List.mem_cons, List.not_mem_nil, or_false, false_or, forall_eq_or_imp, forall_eq, implies_true, false_imp_iff, List.length_map, and_true, true_and, and_self, if_true, if_false, Bool.false_eq_true, reduceCtorEq, Nat.reduceAdd, Nat.reduceSub, Int.reduceLT, Int.reduceLE, Int.reduceNeg, decide_true, decide_false, decide_eq_true_eq, Bool.not_true, Bool.not_false, Bool.not_eq_true', decide_eq_false_iff_not, ite_true, ite_false]
    refine ⟨mulOk_r (by omega) (by omega), mulOk_r (by omega) (by omega), ?_⟩
    show if beyI rows i * y ≤ x * rows.length then _ else _
    by_cases hc : beyI rows i * y ≤ x * rows.length
    · rw [if_pos hc]
      refine h i (BdI.same ⟨by omega, hno, .inr hc⟩ hl.symm fun c => (beyI_perm hp c).symm)
    · rw [if_neg hc]
      refine hX _ ⟨⟨_, _, rfl⟩, fun c hcc => ?_⟩
      by_cases e : c = i
      · subst e; omega
      · exact hno c (by omega)
  · obtain ⟨⟨u, v, rfl⟩, hno⟩ := hI
    rw [Nat.zero_add, rngS_len] at hno
    simp only [e_dCmb, e_dSortK, e_keyS, e_dSeq, e_dIfS, e_dRet, e_dRetN, e_dRetB, e_dAsg, e_dPar, e_dAsgG, e_dDrop, e_dNext, e_dBrk, e_dCont, e_dNever, e_dFor, e_dFreeze, e_dRetO, e_dNewL, e_dApp, e_dWhile, e_dVar, e_dC, e_dOp1, e_dOp2, e_dCB, e_dNil, e_dCons, e_dB, e_dAnd, e_dOr, e_dNot, e_dAndV, e_dOrV, e_dNotV, e_dIf, e_dTup, e_dLst, e_dIsI, e_dCall, e_dCallK, e_dChain, e_dSl, e_dPart, e_dNoPart, e_dYes, e_dFnCall, e_dCallF, e_dIter, e_dRng1, e_dRng2, e_dEnum, e_dComp, e_gN, e_gBw, e_gOw, e_gT, e_gTn, e_gTc, e_dDef, e_lamM, e_gL, onIB_i, onIB_b, bwS_b, lenBS_b, e_dCompB, plain_bowls, isOwn_bowls, inOp_li, inOp_ti, e_dLenSet, e_dCallD, e_dPl, e_dNewO, e_dCopyO, e_dNewD, e_dDisp, e_prs_nil, e_prs_cons, e_dSets, e_dSetsN, e_sets_cons, e_sets_nil, e_dAppPop, e_dGet2, e_dKeys, e_dVals, e_dItems, e_dPut, e_dFreezeD, e_dSumV, onDc_d, onDc_o, onDz_d, keyR_i, keyR_s, flatK_nil, merge1, e_dStar, e_dComp2, e_dPar3, e_dZip, repS_t, repS_l, ixS_t0, ixS_t1, onBs_tt, rg1S_t, rg1S_l, rg2S_t, rg2S_l, revS_t, revS_l, onDs_map, onDs_map0, startR, lamR, slotR, wipeR, hideR, fits, perm,
  plain_d, plain_bowl, plain_ro, onD_d, onI_i, onB_b, onSq_l, onSq_t, onSq_o, onSq_r, onLs_l, onLs_o, onLs_r, onSeq_l, onSeq_t, onSeq_r, onDs_nil, onDs_d, addS_i, addS_t, addS_l, intP_i, int2_i, negS_i, bix_i, one_s, two_s, isN_d, notN_d, eqS_ii, neS_ii, eqS_in, eqS_bb, ty_tuple_none, ty_tuple_bool, ty_tuple_int, ty_tuple_str, ty_tuple_tuple, ty_tuple_list, ty_tuple_dict, ty_list_none, ty_list_bool, ty_list_int, ty_list_str, ty_list_tuple, ty_list_list, ty_list_dict, ty_bool_none, ty_bool_bool, ty_bool_int, ty_bool_str, ty_bool_tuple, ty_bool_list, ty_bool_dict, ty_int_none, ty_int_bool, ty_int_int, ty_int_str, ty_int_tuple, ty_int_list, ty_int_dict, ty_str_none, ty_str_bool, ty_str_int, ty_str_str, ty_str_tuple, ty_str_list, ty_str_dict, ty_dict_none, ty_dict_bool, ty_dict_int, ty_dict_str, ty_dict_tuple, ty_dict_list, ty_dict_dict, not_true_eq_false, not_false_eq_true, Bool.and_true, Bool.true_and, Bool.and_false, Bool.false_and, Bool.or_true, Bool.true_or, Bool.or_false, Bool.false_or, Bool.true_eq_false, Int.toNat_natCast, isOwn_d, isOwn_bowl, isOwn_ro, isOwn_fn, onIs_map, onBs_map,
  List.map_cons, List.map_nil, List.length_cons, List.length_nil, List.replicate_succ, List.replicate_zero, List.cons_append, List.nil_append, List.append_nil, List.getElem?_cons_zero, List.getElem?_cons_succ, List.set_cons_zero, List.set_cons_succ, List.filterMap_cons, List.filterMap_nil, Option.map, List.mem_cons, List.not_mem_nil, or_false, false_or, forall_eq_or_imp, forall_eq, implies_true, false_imp_iff, List.length_map, and_true, true_and, and_self, if_true, if_false, Bool.false_eq_true, reduceCtorEq, Nat.reduceAdd, Nat.reduceSub, Int.reduceLT, Int.reduceLE, Int.reduceNeg, decide_true, decide_false, decide_eq_true_eq, Bool.not_true, Bool.not_false, Bool.not_eq_true', decide_eq_false_iff_not, ite_true, ite_false]
    refine ⟨mulOk_r (by omega) (by omega), ?_⟩
    rw [← Int.natCast_mul]
    exact h (a * b) (BdI.same ⟨Nat.le_refl _, fun c hc => hno c (by omega), .inl rfl⟩ hl.symm fun c => (beyI_perm hp c).symm)
structure Lvl (x y : Int) : Prop where
  p : 0 < x
  l : x < y
  m : y ≤ 100
  g : gI x y = 1
theorem w__law_level {Q : S → Prop} {E : Exn → Prop} (h : ∀ x y : Int, Lvl x y → Q (.d (.tuple [.int x, .int y]))) : m__law_level [.bowl] Q E := by
  simp only [m__law_level, b__law_level, e_dCmb, e_dSortK, e_keyS, e_dSeq, e_dIfS, e_dRet, e_dRetN, e_dRetB, e_dAsg, e_dPar, e_dAsgG, e_dDrop, e_dNext, e_dBrk, e_dCont, e_dNever, e_dFor, e_dFreeze, e_dRetO, e_dNewL, e_dApp, e_dWhile, e_dVar, e_dC, e_dOp1, e_dOp2, e_dCB, e_dNil, e_dCons, e_dB, e_dAnd, e_dOr, e_dNot, e_dAndV, e_dOrV, e_dNotV, e_dIf, e_dTup, e_dLst, e_dIsI, e_dCall, e_dCallK, e_dChain, e_dSl, e_dPart, e_dNoPart, e_dYes, e_dFnCall, e_dCallF, e_dIter, e_dRng1, e_dRng2, e_dEnum, e_dComp, e_gN, e_gBw, e_gOw, e_gT, e_gTn, e_gTc, e_dDef, e_lamM, e_gL, onIB_i, onIB_b, bwS_b, lenBS_b, e_dCompB, plain_bowls, isOwn_bowls, inOp_li, inOp_ti, e_dLenSet, e_dCallD, e_dPl, e_dNewO, e_dCopyO, e_dNewD, e_dDisp, e_prs_nil, e_prs_cons, e_dSets, e_dSetsN, e_sets_cons, e_sets_nil, e_dAppPop, e_dGet2, e_dKeys, e_dVals, e_dItems, e_dPut, e_dFreezeD, e_dSumV, onDc_d, onDc_o, onDz_d, keyR_i, keyR_s, flatK_nil, merge1, e_dStar, e_dComp2, e_dPar3, e_dZip, repS_t, repS_l, ixS_t0, ixS_t1, onBs_tt, rg1S_t, rg1S_l, rg2S_t, rg2S_l, revS_t, revS_l, onDs_map, onDs_map0, startR, lamR, slotR, wipeR, hideR, fits, perm,
  plain_d, plain_bowl, plain_ro, onD_d, onI_i, onB_b, onSq_l, onSq_t, onSq_o, onSq_r, onLs_l, onLs_o, onLs_r, onSeq_l, onSeq_t, onSeq_r, onDs_nil, onDs_d, addS_i, addS_t, addS_l, intP_i, int2_i, negS_i, bix_i, one_s, two_s, isN_d, notN_d, eqS_ii, neS_ii, eqS_in, eqS_bb, ty_tuple_none, ty_tuple_bool, ty_tuple_int, ty_tuple_str, ty_tuple_tuple, ty_tuple_list, ty_tuple_dict, ty_list_none, ty_list_bool, ty_list_int, ty_list_str, ty_list_tuple, ty_list_list, ty_list_dict, ty_bool_none, ty_bool_bool, ty_bool_int, ty_bool_str, ty_bool_tuple, ty_bool_list, ty_bool_dict, ty_int_none, ty_int_bool, ty_int_int, ty_int_str, ty_int_tuple, ty_int_list, ty_int_dict, ty_str_none, ty_str_bool, ty_str_int, ty_str_str, ty_str_tuple, ty_str_list, ty_str_dict, ty_dict_none, ty_dict_bool, ty_dict_int, ty_dict_str, ty_dict_tuple, ty_dict_list, ty_dict_dict, not_true_eq_false, not_false_eq_true, Bool.and_true, Bool.true_and, Bool.and_false, Bool.false_and, Bool.or_true, Bool.true_or, Bool.or_false, Bool.false_or, Bool.true_eq_false, Int.toNat_natCast, isOwn_d, isOwn_bowl, isOwn_ro, isOwn_fn, onIs_map, onBs_map,
  List.map_cons, List.map_nil, List.length_cons, List.length_nil, List.replicate_succ, List.replicate_zero, List.cons_append, List.nil_append, List.append_nil, List.getElem?_cons_zero, List.getElem?_cons_succ, List.set_cons_zero, List.set_cons_succ, List.filterMap_cons, List.filterMap_nil, Option.map, List.mem_cons, List.not_mem_nil, or_false, false_or, forall_eq_or_imp, forall_eq, implies_true, false_imp_iff, List.length_map, and_true, true_and, and_self, if_true, if_false, Bool.false_eq_true, reduceCtorEq, Nat.reduceAdd, Nat.reduceSub, Int.reduceLT, Int.reduceLE, Int.reduceNeg, decide_true, decide_false, decide_eq_true_eq, Bool.not_true, Bool.not_false, Bool.not_eq_true', decide_eq_false_iff_not, ite_true, ite_false]
  refine ⟨by decide, by decide, by decide, by decide, by decide, by decide, by decide, by decide, by decide, ?_⟩
  refine w__law_of (l := [.tuple [.int 1, .int 2], .tuple [.int 1, .int 5], .tuple [.int 1, .int 10], .tuple [.int 1, .int 20], .tuple [.int 9, .int 10], .tuple [.int 2, .int 3], .tuple [.int 1, .int 100], .tuple [.int 1, .int 3]]) (fun _ => rfl) rfl (by simp) (by simp) fun d hd => ?_
  obtain ⟨x, y, rfl, hg⟩ : ∃ x y : Int, d = .tuple [.int x, .int y] ∧ Lvl x y := by
    simp only [List.mem_cons, List.not_mem_nil, or_false] at hd
    rcases hd with rfl | rfl | rfl | rfl | rfl | rfl | rfl | rfl <;> exact ⟨_, _, rfl, by decide, by decide, by decide, by decide +kernel⟩
  simp only [e_dCmb, e_dSortK, e_keyS, e_dSeq, e_dIfS, e_dRet, e_dRetN, e_dRetB, e_dAsg, e_dPar, e_dAsgG, e_dDrop, e_dNext, e_dBrk, e_dCont, e_dNever, e_dFor, e_dFreeze, e_dRetO, e_dNewL, e_dApp, e_dWhile, e_dVar, e_dC, e_dOp1, e_dOp2, e_dCB, e_dNil, e_dCons, e_dB, e_dAnd, e_dOr, e_dNot, e_dAndV, e_dOrV, e_dNotV, e_dIf, e_dTup, e_dLst, e_dIsI, e_dCall, e_dCallK, e_dChain, e_dSl, e_dPart, e_dNoPart, e_dYes, e_dFnCall, e_dCallF, e_dIter, e_dRng1, e_dRng2, e_dEnum, e_dComp, e_gN, e_gBw, e_gOw, e_gT, e_gTn, e_gTc, e_dDef, e_lamM, e_gL, onIB_i, onIB_b, bwS_b, lenBS_b, e_dCompB, plain_bowls, isOwn_bowls, inOp_li, inOp_ti, e_dLenSet, e_dCallD, e_dPl, e_dNewO, e_dCopyO, e_dNewD, e_dDisp, e_prs_nil, e_prs_cons, e_dSets, e_dSetsN, e_sets_cons, e_sets_nil, e_dAppPop, e_dGet2, e_dKeys, e_dVals, e_dItems, e_dPut, e_dFreezeD, e_dSumV, onDc_d, onDc_o, onDz_d, keyR_i, keyR_s, flatK_nil, merge1, e_dStar, e_dComp2, e_dPar3, e_dZip, repS_t, repS_l, ixS_t0, ixS_t1, onBs_tt, rg1S_t, rg1S_l, rg2S_t, rg2S_l, revS_t, revS_l, onDs_map, onDs_map0, startR, lamR, slotR, wipeR, hideR, fits, perm,
  plain_d, plain_bowl, plain_ro, onD_d, onI_i, onB_b, onSq_l, onSq_t, onSq_o, onSq_r, onLs_l, onLs_o, onLs_r, onSeq_l, onSeq_t, onSeq_r, onDs_nil, onDs_d, addS_i, addS_t, addS_l, intP_i, int2_i, negS_i, bix_i, one_s, two_s, isN_d, notN_d, eqS_ii, neS_ii, eqS_in, eqS_bb, ty_tuple_none, ty_tuple_bool, ty_tuple_int, ty_tuple_str, ty_tuple_tuple, ty_tuple_list, ty_tuple_dict, ty_list_none, ty_list_bool, ty_list_int, ty_list_str, ty_list_tuple, ty_list_list, ty_list_dict, ty_bool_none, ty_bool_bool, ty_bool_int, ty_bool_str, ty_bool_tuple, ty_bool_list, ty_bool_dict, ty_int_none, ty_int_bool, ty_int_int, ty_int_str, ty_int_tuple, ty_int_list, ty_int_dict, ty_str_none, ty_str_bool, ty_str_int, ty_str_str, ty_str_tuple, ty_str_list, ty_str_dict, ty_dict_none, ty_dict_bool, ty_dict_int, ty_dict_str, ty_dict_tuple, ty_dict_list, ty_dict_dict, not_true_eq_false, not_false_eq_true, Bool.and_true, Bool.true_and, Bool.and_false, Bool.false_and, Bool.or_true, Bool.true_or, Bool.or_false, Bool.false_or, Bool.true_eq_false, Int.toNat_natCast, isOwn_d, isOwn_bowl, isOwn_ro, isOwn_fn, onIs_map, onBs_map,
  List.map_cons, List.map_nil, List.length_cons, List.length_nil, List.replicate_succ, List.replicate_zero, List.cons_append, List.nil_append, List.append_nil, List.getElem?_cons_zero, List.getElem?_cons_succ, List.set_cons_zero, List.set_cons_succ, List.filterMap_cons, List.filterMap_nil, Option.map, List.mem_cons, List.not_mem_nil, or_false, false_or, forall_eq_or_imp, forall_eq, implies_true, false_imp_iff, List.length_map, and_true, true_and, and_self, if_true, if_false, Bool.false_eq_true, reduceCtorEq, Nat.reduceAdd, Nat.reduceSub, Int.reduceLT, Int.reduceLE, Int.reduceNeg, decide_true, decide_false, decide_eq_true_eq, Bool.not_true, Bool.not_false, Bool.not_eq_true', decide_eq_false_iff_not, ite_true, ite_false]
  exact h x y hg
theorem w__law_is_below {x y p q : Int} {Q : S → Prop} {E : Exn → Prop} (g : Lvl x y) (g2 : Lvl p q) (h : Q (.d (.bool (decide (x * q < p * y))))) : m__law_is_below [.d (.tuple [.int x, .int y]), .d (.tuple [.int p, .int q])] Q E := by
  have := g.p
  have := g.l
  have := g.m
  have := g2.p
  have := g2.l
  have := g2.m
  simp only [m__law_is_below, b__law_is_below, e_dCmb, e_dSortK, e_keyS, e_dSeq, e_dIfS, e_dRet, e_dRetN, e_dRetB, e_dAsg, e_dPar, e_dAsgG, e_dDrop, e_dNext, e_dBrk, e_dCont, e_dNever, e_dFor, e_dFreeze, e_dRetO, e_dNewL, e_dApp, e_dWhile, e_dVar, e_dC, e_dOp1, e_dOp2, e_dCB, e_dNil, e_dCons, e_dB, e_dAnd, e_dOr, e_dNot, e_dAndV, e_dOrV, e_dNotV, e_dIf, e_dTup, e_dLst, e_dIsI, e_dCall, e_dCallK, e_dChain, e_dSl, e_dPart, e_dNoPart, e_dYes, e_dFnCall, e_dCallF, e_dIter, e_dRng1, e_dRng2, e_dEnum, e_dComp, e_gN, e_gBw, e_gOw, e_gT, e_gTn, e_gTc, e_dDef, e_lamM, e_gL, onIB_i, onIB_b, bwS_b, lenBS_b, e_dCompB, plain_bowls, isOwn_bowls, inOp_li, inOp_ti, e_dLenSet, e_dCallD, e_dPl, e_dNewO, e_dCopyO, e_dNewD, e_dDisp, e_prs_nil, e_prs_cons, e_dSets, e_dSetsN, e_sets_cons, e_sets_nil, e_dAppPop, e_dGet2, e_dKeys, e_dVals, e_dItems, e_dPut, e_dFreezeD, e_dSumV, onDc_d, onDc_o, onDz_d, keyR_i, keyR_s, flatK_nil, merge1, e_dStar, e_dComp2, e_dPar3, e_dZip, repS_t, repS_l, ixS_t0, ixS_t1, onBs_tt, rg1S_t, rg1S_l, rg2S_t, rg2S_l, revS_t, revS_l, onDs_map, onDs_map0, startR, lamR, slotR, wipeR, hideR, fits, perm,
  plain_d, plain_bowl, plain_ro, onD_d, onI_i, onB_b, onSq_l, onSq_t, onSq_o, onSq_r, onLs_l, onLs_o, onLs_r, onSeq_l, onSeq_t, onSeq_r, onDs_nil, onDs_d, addS_i, addS_t, addS_l, intP_i, int2_i, negS_i, bix_i, one_s, two_s, isN_d, notN_d, eqS_ii, neS_ii, eqS_in, eqS_bb, ty_tuple_none, ty_tuple_bool, ty_tuple_int, ty_tuple_str, ty_tuple_tuple, ty_tuple_list, ty_tuple_dict, ty_list_none, ty_list_bool, ty_list_int, ty_list_str, ty_list_tuple, ty_list_list, ty_list_dict, ty_bool_none, ty_bool_bool, ty_bool_int, ty_bool_str, ty_bool_tuple, ty_bool_list, ty_bool_dict, ty_int_none, ty_int_bool, ty_int_int, ty_int_str, ty_int_tuple, ty_int_list, ty_int_dict, ty_str_none, ty_str_bool, ty_str_int, ty_str_str, ty_str_tuple, ty_str_list, ty_str_dict, ty_dict_none, ty_dict_bool, ty_dict_int, ty_dict_str, ty_dict_tuple, ty_dict_list, ty_dict_dict, not_true_eq_false, not_false_eq_true, Bool.and_true, Bool.true_and, Bool.and_false, Bool.false_and, Bool.or_true, Bool.true_or, Bool.or_false, Bool.false_or, Bool.true_eq_false, Int.toNat_natCast, isOwn_d, isOwn_bowl, isOwn_ro, isOwn_fn, onIs_map, onBs_map,
  List.map_cons, List.map_nil, List.length_cons, List.length_nil, List.replicate_succ, List.replicate_zero, List.cons_append, List.nil_append, List.append_nil, List.getElem?_cons_zero, List.getElem?_cons_succ, List.set_cons_zero, List.set_cons_succ, List.filterMap_cons, List.filterMap_nil, Option.map, List.mem_cons, List.not_mem_nil, or_false, false_or, forall_eq_or_imp, forall_eq, implies_true, false_imp_iff, List.length_map, and_true, true_and, and_self, if_true, if_false, Bool.false_eq_true, reduceCtorEq, Nat.reduceAdd, Nat.reduceSub, Int.reduceLT, Int.reduceLE, Int.reduceNeg, decide_true, decide_false, decide_eq_true_eq, Bool.not_true, Bool.not_false, Bool.not_eq_true', decide_eq_false_iff_not, ite_true, ite_false]
  exact ⟨mulOk_l (by omega) (by omega), mulOk_l (by omega) (by omega), h⟩
theorem w__law_right {Q : S → Prop} {E : Exn → Prop} (h : Q (.d (.bool true))) : m__law_right [.bowl] Q E := by
  simp only [m__law_right, b__law_right, e_dCmb, e_dSortK, e_keyS, e_dSeq, e_dIfS, e_dRet, e_dRetN, e_dRetB, e_dAsg, e_dPar, e_dAsgG, e_dDrop, e_dNext, e_dBrk, e_dCont, e_dNever, e_dFor, e_dFreeze, e_dRetO, e_dNewL, e_dApp, e_dWhile, e_dVar, e_dC, e_dOp1, e_dOp2, e_dCB, e_dNil, e_dCons, e_dB, e_dAnd, e_dOr, e_dNot, e_dAndV, e_dOrV, e_dNotV, e_dIf, e_dTup, e_dLst, e_dIsI, e_dCall, e_dCallK, e_dChain, e_dSl, e_dPart, e_dNoPart, e_dYes, e_dFnCall, e_dCallF, e_dIter, e_dRng1, e_dRng2, e_dEnum, e_dComp, e_gN, e_gBw, e_gOw, e_gT, e_gTn, e_gTc, e_dDef, e_lamM, e_gL, onIB_i, onIB_b, bwS_b, lenBS_b, e_dCompB, plain_bowls, isOwn_bowls, inOp_li, inOp_ti, e_dLenSet, e_dCallD, e_dPl, e_dNewO, e_dCopyO, e_dNewD, e_dDisp, e_prs_nil, e_prs_cons, e_dSets, e_dSetsN, e_sets_cons, e_sets_nil, e_dAppPop, e_dGet2, e_dKeys, e_dVals, e_dItems, e_dPut, e_dFreezeD, e_dSumV, onDc_d, onDc_o, onDz_d, keyR_i, keyR_s, flatK_nil, merge1, e_dStar, e_dComp2, e_dPar3, e_dZip, repS_t, repS_l, ixS_t0, ixS_t1, onBs_tt, rg1S_t, rg1S_l, rg2S_t, rg2S_l, revS_t, revS_l, onDs_map, onDs_map0, startR, lamR, slotR, wipeR, hideR, fits, perm,
  plain_d, plain_bowl, plain_ro, onD_d, onI_i, onB_b, onSq_l, onSq_t, onSq_o, onSq_r, onLs_l, onLs_o, onLs_r, onSeq_l, onSeq_t, onSeq_r, onDs_nil, onDs_d, addS_i, addS_t, addS_l, intP_i, int2_i, negS_i, bix_i, one_s, two_s, isN_d, notN_d, eqS_ii, neS_ii, eqS_in, eqS_bb, ty_tuple_none, ty_tuple_bool, ty_tuple_int, ty_tuple_str, ty_tuple_tuple, ty_tuple_list, ty_tuple_dict, ty_list_none, ty_list_bool, ty_list_int, ty_list_str, ty_list_tuple, ty_list_list, ty_list_dict, ty_bool_none, ty_bool_bool, ty_bool_int, ty_bool_str, ty_bool_tuple, ty_bool_list, ty_bool_dict, ty_int_none, ty_int_bool, ty_int_int, ty_int_str, ty_int_tuple, ty_int_list, ty_int_dict, ty_str_none, ty_str_bool, ty_str_int, ty_str_str, ty_str_tuple, ty_str_list, ty_str_dict, ty_dict_none, ty_dict_bool, ty_dict_int, ty_dict_str, ty_dict_tuple, ty_dict_list, ty_dict_dict, not_true_eq_false, not_false_eq_true, Bool.and_true, Bool.true_and, Bool.and_false, Bool.false_and, Bool.or_true, Bool.true_or, Bool.or_false, Bool.false_or, Bool.true_eq_false, Int.toNat_natCast, isOwn_d, isOwn_bowl, isOwn_ro, isOwn_fn, onIs_map, onBs_map,
  List.map_cons, List.map_nil, List.length_cons, List.length_nil, List.replicate_succ, List.replicate_zero, List.cons_append, List.nil_append, List.append_nil, List.getElem?_cons_zero, List.getElem?_cons_succ, List.set_cons_zero, List.set_cons_succ, List.filterMap_cons, List.filterMap_nil, Option.map, List.mem_cons, List.not_mem_nil, or_false, false_or, forall_eq_or_imp, forall_eq, implies_true, false_imp_iff, List.length_map, and_true, true_and, and_self, if_true, if_false, Bool.false_eq_true, reduceCtorEq, Nat.reduceAdd, Nat.reduceSub, Int.reduceLT, Int.reduceLE, Int.reduceNeg, decide_true, decide_false, decide_eq_true_eq, Bool.not_true, Bool.not_false, Bool.not_eq_true', decide_eq_false_iff_not, ite_true, ite_false]
  refine ⟨⟨by decide, by decide, by decide, by decide⟩, ?_⟩
  refine forL_same (fun ρ => ∃ a b c d e f g i, ρ = [some .bowl, a, b, c, d, e, f, g, i]) ⟨_, _, _, _, _, _, _, _, rfl⟩ (fun s ρ X hs hI hX => ?_) fun ρ hI => ?_
  · obtain ⟨a, b, c, d, e, f, g, i, rfl⟩ := hI
    obtain ⟨i0, _, rfl⟩ := rngS_mem hs
    simp only [e_dCmb, e_dSortK, e_keyS, e_dSeq, e_dIfS, e_dRet, e_dRetN, e_dRetB, e_dAsg, e_dPar, e_dAsgG, e_dDrop, e_dNext, e_dBrk, e_dCont, e_dNever, e_dFor, e_dFreeze, e_dRetO, e_dNewL, e_dApp, e_dWhile, e_dVar, e_dC, e_dOp1, e_dOp2, e_dCB, e_dNil, e_dCons, e_dB, e_dAnd, e_dOr, e_dNot, e_dAndV, e_dOrV, e_dNotV, e_dIf, e_dTup, e_dLst, e_dIsI, e_dCall, e_dCallK, e_dChain, e_dSl, e_dPart, e_dNoPart, e_dYes, e_dFnCall, e_dCallF, e_dIter, e_dRng1, e_dRng2, e_dEnum, e_dComp, e_gN, e_gBw, e_gOw, e_gT, e_gTn, e_gTc, e_dDef, e_lamM, e_gL, onIB_i, onIB_b, bwS_b, lenBS_b, e_dCompB, plain_bowls, isOwn_bowls, inOp_li, inOp_ti, e_dLenSet, e_dCallD, e_dPl, e_dNewO, e_dCopyO, e_dNewD, e_dDisp, e_prs_nil, e_prs_cons, e_dSets, e_dSetsN, e_sets_cons, e_sets_nil, e_dAppPop, e_dGet2, e_dKeys, e_dVals, e_dItems, e_dPut, e_dFreezeD, e_dSumV, onDc_d, onDc_o, onDz_d, keyR_i, keyR_s, flatK_nil, merge1, e_dStar, e_dComp2, e_dPar3, e_dZip, repS_t, repS_l, ixS_t0, ixS_t1, onBs_tt, rg1S_t, rg1S_l, rg2S_t, rg2S_l, revS_t, revS_l, onDs_map, onDs_map0, startR, lamR, slotR, wipeR, hideR, fits, perm,
  plain_d, plain_bowl, plain_ro, onD_d, onI_i, onB_b, onSq_l, onSq_t, onSq_o, onSq_r, onLs_l, onLs_o, onLs_r, onSeq_l, onSeq_t, onSeq_r, onDs_nil, onDs_d, addS_i, addS_t, addS_l, intP_i, int2_i, negS_i, bix_i, one_s, two_s, isN_d, notN_d, eqS_ii, neS_ii, eqS_in, eqS_bb, ty_tuple_none, ty_tuple_bool, ty_tuple_int, ty_tuple_str, ty_tuple_tuple, ty_tuple_list, ty_tuple_dict, ty_list_none, ty_list_bool, ty_list_int, ty_list_str, ty_list_tuple, ty_list_list, ty_list_dict, ty_bool_none, ty_bool_bool, ty_bool_int, ty_bool_str, ty_bool_tuple, ty_bool_list, ty_bool_dict, ty_int_none, ty_int_bool, ty_int_int, ty_int_str, ty_int_tuple, ty_int_list, ty_int_dict, ty_str_none, ty_str_bool, ty_str_int, ty_str_str, ty_str_tuple, ty_str_list, ty_str_dict, ty_dict_none, ty_dict_bool, ty_dict_int, ty_dict_str, ty_dict_tuple, ty_dict_list, ty_dict_dict, not_true_eq_false, not_false_eq_true, Bool.and_true, Bool.true_and, Bool.and_false, Bool.false_and, Bool.or_true, Bool.true_or, Bool.or_false, Bool.false_or, Bool.true_eq_false, Int.toNat_natCast, isOwn_d, isOwn_bowl, isOwn_ro, isOwn_fn, onIs_map, onBs_map,
  List.map_cons, List.map_nil, List.length_cons, List.length_nil, List.replicate_succ, List.replicate_zero, List.cons_append, List.nil_append, List.append_nil, List.getElem?_cons_zero, List.getElem?_cons_succ, List.set_cons_zero, List.set_cons_succ, List.filterMap_cons, List.filterMap_nil, Option.map, List.mem_cons, List.not_mem_nil, or_false, false_or, forall_eq_or_imp, forall_eq, implies_true, false_imp_iff, List.length_map, and_true, true_and, and_self, if_true, if_false, Bool.false_eq_true, reduceCtorEq, Nat.reduceAdd, Nat.reduceSub, Int.reduceLT, Int.reduceLE, Int.reduceNeg, decide_true, decide_false, decide_eq_true_eq, Bool.not_true, Bool.not_false, Bool.not_eq_true', decide_eq_false_iff_not, ite_true, ite_false]
    refine w__law_draw (by decide) (by decide) fun r r0 r1 => ?_
    simp only [e_dCmb, e_dSortK, e_keyS, e_dSeq, e_dIfS, e_dRet, e_dRetN, e_dRetB, e_dAsg, e_dPar, e_dAsgG, e_dDrop, e_dNext, e_dBrk, e_dCont, e_dNever, e_dFor, e_dFreeze, e_dRetO, e_dNewL, e_dApp, e_dWhile, e_dVar, e_dC, e_dOp1, e_dOp2, e_dCB, e_dNil, e_dCons, e_dB, e_dAnd, e_dOr, e_dNot, e_dAndV, e_dOrV, e_dNotV, e_dIf, e_dTup, e_dLst, e_dIsI, e_dCall, e_dCallK, e_dChain, e_dSl, e_dPart, e_dNoPart, e_dYes, e_dFnCall, e_dCallF, e_dIter, e_dRng1, e_dRng2, e_dEnum, e_dComp, e_gN, e_gBw, e_gOw, e_gT, e_gTn, e_gTc, e_dDef, e_lamM, e_gL, onIB_i, onIB_b, bwS_b, lenBS_b, e_dCompB, plain_bowls, isOwn_bowls, inOp_li, inOp_ti, e_dLenSet, e_dCallD, e_dPl, e_dNewO, e_dCopyO, e_dNewD, e_dDisp, e_prs_nil, e_prs_cons, e_dSets, e_dSetsN, e_sets_cons, e_sets_nil, e_dAppPop, e_dGet2, e_dKeys, e_dVals, e_dItems, e_dPut, e_dFreezeD, e_dSumV, onDc_d, onDc_o, onDz_d, keyR_i, keyR_s, flatK_nil, merge1, e_dStar, e_dComp2, e_dPar3, e_dZip, repS_t, repS_l, ixS_t0, ixS_t1, onBs_tt, rg1S_t, rg1S_l, rg2S_t, rg2S_l, revS_t, revS_l, onDs_map, onDs_map0, startR, lamR, slotR, wipeR, hideR, fits, perm,
  plain_d, plain_bowl, plain_ro, onD_d, onI_i, onB_b, onSq_l, onSq_t, onSq_o, onSq_r, onLs_l, onLs_o, onLs_r, onSeq_l, onSeq_t, onSeq_r, onDs_nil, onDs_d, addS_i, addS_t, addS_l, intP_i, int2_i, negS_i, bix_i, one_s, two_s, isN_d, notN_d, eqS_ii, neS_ii, eqS_in, eqS_bb, ty_tuple_none, ty_tuple_bool, ty_tuple_int, ty_tuple_str, ty_tuple_tuple, ty_tuple_list, ty_tuple_dict, ty_list_none, ty_list_bool, ty_list_int, ty_list_str, ty_list_tuple, ty_list_list, ty_list_dict, ty_bool_none, ty_bool_bool, ty_bool_int, ty_bool_str, ty_bool_tuple, ty_bool_list, ty_bool_dict, ty_int_none, ty_int_bool, ty_int_int, ty_int_str, ty_int_tuple, ty_int_list, ty_int_dict, ty_str_none, ty_str_bool, ty_str_int, ty_str_str, ty_str_tuple, ty_str_list, ty_str_dict, ty_dict_none, ty_dict_bool, ty_dict_int, ty_dict_str, ty_dict_tuple, ty_dict_list, ty_dict_dict, not_true_eq_false, not_false_eq_true, Bool.and_true, Bool.true_and, Bool.and_false, Bool.false_and, Bool.or_true, Bool.true_or, Bool.or_false, Bool.false_or, Bool.true_eq_false, Int.toNat_natCast, isOwn_d, isOwn_bowl, isOwn_ro, isOwn_fn, onIs_map, onBs_map,
  List.map_cons, List.map_nil, List.length_cons, List.length_nil, List.replicate_succ, List.replicate_zero, List.cons_append, List.nil_append, List.append_nil, List.getElem?_cons_zero, List.getElem?_cons_succ, List.set_cons_zero, List.set_cons_succ, List.filterMap_cons, List.filterMap_nil, Option.map, List.mem_cons, List.not_mem_nil, or_false, false_or, forall_eq_or_imp, forall_eq, implies_true, false_imp_iff, List.length_map, and_true, true_and, and_self, if_true, if_false, Bool.false_eq_true, reduceCtorEq, Nat.reduceAdd, Nat.reduceSub, Int.reduceLT, Int.reduceLE, Int.reduceNeg, decide_true, decide_false, decide_eq_true_eq, Bool.not_true, Bool.not_false, Bool.not_eq_true', decide_eq_false_iff_not, ite_true, ite_false]
    refine w__law_draw (by split <;> omega) (by split <;> omega) fun r2 r20 r21 => ?_
    obtain ⟨sa, rfl⟩ : ∃ sa : Nat, r = sa := ⟨r.toNat, by omega⟩
    obtain ⟨sb, rfl⟩ : ∃ sb : Nat, r2 = sb := ⟨r2.toNat, by omega⟩
    have hab : (sa + 1) + (sb + 1) ≤ 10 := by split at r21 <;> omega
    simp only [e_dCmb, e_dSortK, e_keyS, e_dSeq, e_dIfS, e_dRet, e_dRetN, e_dRetB, e_dAsg, e_dPar, e_dAsgG, e_dDrop, e_dNext, e_dBrk, e_dCont, e_dNever, e_dFor, e_dFreeze, e_dRetO, e_dNewL, e_dApp, e_dWhile, e_dVar, e_dC, e_dOp1, e_dOp2, e_dCB, e_dNil, e_dCons, e_dB, e_dAnd, e_dOr, e_dNot, e_dAndV, e_dOrV, e_dNotV, e_dIf, e_dTup, e_dLst, e_dIsI, e_dCall, e_dCallK, e_dChain, e_dSl, e_dPart, e_dNoPart, e_dYes, e_dFnCall, e_dCallF, e_dIter, e_dRng1, e_dRng2, e_dEnum, e_dComp, e_gN, e_gBw, e_gOw, e_gT, e_gTn, e_gTc, e_dDef, e_lamM, e_gL, onIB_i, onIB_b, bwS_b, lenBS_b, e_dCompB, plain_bowls, isOwn_bowls, inOp_li, inOp_ti, e_dLenSet, e_dCallD, e_dPl, e_dNewO, e_dCopyO, e_dNewD, e_dDisp, e_prs_nil, e_prs_cons, e_dSets, e_dSetsN, e_sets_cons, e_sets_nil, e_dAppPop, e_dGet2, e_dKeys, e_dVals, e_dItems, e_dPut, e_dFreezeD, e_dSumV, onDc_d, onDc_o, onDz_d, keyR_i, keyR_s, flatK_nil, merge1, e_dStar, e_dComp2, e_dPar3, e_dZip, repS_t, repS_l, ixS_t0, ixS_t1, onBs_tt, rg1S_t, rg1S_l, rg2S_t, rg2S_l, revS_t, revS_l, onDs_map, onDs_map0, startR, lamR, slotR, wipeR, hideR, fits, perm,
  plain_d, plain_bowl, plain_ro, onD_d, onI_i, onB_b, onSq_l, onSq_t, onSq_o, onSq_r, onLs_l, onLs_o, onLs_r, onSeq_l, onSeq_t, onSeq_r, onDs_nil, onDs_d, addS_i, addS_t, addS_l, intP_i, int2_i, negS_i, bix_i, one_s, two_s, isN_d, notN_d, eqS_ii, neS_ii, eqS_in, eqS_bb, ty_tuple_none, ty_tuple_bool, ty_tuple_int, ty_tuple_str, ty_tuple_tuple, ty_tuple_list, ty_tuple_dict, ty_list_none, ty_list_bool, ty_list_int, ty_list_str, ty_list_tuple, ty_list_list, ty_list_dict, ty_bool_none, ty_bool_bool, ty_bool_int, ty_bool_str, ty_bool_tuple, ty_bool_list, ty_bool_dict, ty_int_none, ty_int_bool, ty_int_int, ty_int_str, ty_int_tuple, ty_int_list, ty_int_dict, ty_str_none, ty_str_bool, ty_str_int, ty_str_str, ty_str_tuple, ty_str_list, ty_str_dict, ty_dict_none, ty_dict_bool, ty_dict_int, ty_dict_str, ty_dict_tuple, ty_dict_list, ty_dict_dict, not_true_eq_false, not_false_eq_true, Bool.and_true, Bool.true_and, Bool.and_false, Bool.false_and, Bool.or_true, Bool.true_or, Bool.or_false, Bool.false_or, Bool.true_eq_false, Int.toNat_natCast, isOwn_d, isOwn_bowl, isOwn_ro, isOwn_fn, onIs_map, onBs_map,
  List.map_cons, List.map_nil, List.length_cons, List.length_nil, List.replicate_succ, List.replicate_zero, List.cons_append, List.nil_append, List.append_nil, List.getElem?_cons_zero, List.getElem?_cons_succ, List.set_cons_zero, List.set_cons_succ, List.filterMap_cons, List.filterMap_nil, Option.map, List.mem_cons, List.not_mem_nil, or_false, false_or, forall_eq_or_imp, forall_eq, implies_true, false_imp_iff, List.length_map, and_true, true_and, and_self, if_true, if_false, Bool.false_eq_true, reduceCtorEq, Nat.reduceAdd, Nat.reduceSub, Int.reduceLT, Int.reduceLE, Int.reduceNeg, decide_true, decide_false, decide_eq_true_eq, Bool.not_true, Bool.not_false, Bool.not_eq_true', decide_eq_false_iff_not, ite_true, ite_false]
    rw [show (1 : Int) + (sa : Int) = ((sa + 1 : Nat) : Int) by omega, show (1 : Int) + (sb : Int) = ((sb + 1 : Nat) : Int) by omega]
    refine w__law_level fun x y g1 => ?_
    refine w__law_level fun p q g2 => ?_
    have := g1.p
    have := g1.l
    have := g1.m
    have := g2.p
    have := g2.l
    have := g2.m
    simp only [e_dCmb, e_dSortK, e_keyS, e_dSeq, e_dIfS, e_dRet, e_dRetN, e_dRetB, e_dAsg, e_dPar, e_dAsgG, e_dDrop, e_dNext, e_dBrk, e_dCont, e_dNever, e_dFor, e_dFreeze, e_dRetO, e_dNewL, e_dApp, e_dWhile, e_dVar, e_dC, e_dOp1, e_dOp2, e_dCB, e_dNil, e_dCons, e_dB, e_dAnd, e_dOr, e_dNot, e_dAndV, e_dOrV, e_dNotV, e_dIf, e_dTup, e_dLst, e_dIsI, e_dCall, e_dCallK, e_dChain, e_dSl, e_dPart, e_dNoPart, e_dYes, e_dFnCall, e_dCallF, e_dIter, e_dRng1, e_dRng2, e_dEnum, e_dComp, e_gN, e_gBw, e_gOw, e_gT, e_gTn, e_gTc, e_dDef, e_lamM, e_gL, onIB_i, onIB_b, bwS_b, lenBS_b, e_dCompB, plain_bowls, isOwn_bowls, inOp_li, inOp_ti, e_dLenSet, e_dCallD, e_dPl, e_dNewO, e_dCopyO, e_dNewD, e_dDisp, e_prs_nil, e_prs_cons, e_dSets, e_dSetsN, e_sets_cons, e_sets_nil, e_dAppPop, e_dGet2, e_dKeys, e_dVals, e_dItems, e_dPut, e_dFreezeD, e_dSumV, onDc_d, onDc_o, onDz_d, keyR_i, keyR_s, flatK_nil, merge1, e_dStar, e_dComp2, e_dPar3, e_dZip, repS_t, repS_l, ixS_t0, ixS_t1, onBs_tt, rg1S_t, rg1S_l, rg2S_t, rg2S_l, revS_t, revS_l, onDs_map, onDs_map0, startR, lamR, slotR, wipeR, hideR, fits, perm,
  plain_d, plain_bowl, plain_ro, onD_d, onI_i, onB_b, onSq_l, onSq_t, onSq_o, onSq_r, onLs_l, onLs_o, onLs_r, onSeq_l, onSeq_t, onSeq_r, onDs_nil, onDs_d, addS_i, addS_t, addS_l, intP_i, int2_i, negS_i, bix_i, one_s, two_s, isN_d, notN_d, eqS_ii, neS_ii, eqS_in, eqS_bb, ty_tuple_none, ty_tuple_bool, ty_tuple_int, ty_tuple_str, ty_tuple_tuple, ty_tuple_list, ty_tuple_dict, ty_list_none, ty_list_bool, ty_list_int, ty_list_str, ty_list_tuple, ty_list_list, ty_list_dict, ty_bool_none, ty_bool_bool, ty_bool_int, ty_bool_str, ty_bool_tuple, ty_bool_list, ty_bool_dict, ty_int_none, ty_int_bool, ty_int_int, ty_int_str, ty_int_tuple, ty_int_list, ty_int_dict, ty_str_none, ty_str_bool, ty_str_int, ty_str_str, ty_str_tuple, ty_str_list, ty_str_dict, ty_dict_none, ty_dict_bool, ty_dict_int, ty_dict_str, ty_dict_tuple, ty_dict_list, ty_dict_dict, not_true_eq_false, not_false_eq_true, Bool.and_true, Bool.true_and, Bool.and_false, Bool.false_and, Bool.or_true, Bool.true_or, Bool.or_false, Bool.false_or, Bool.true_eq_false, Int.toNat_natCast, isOwn_d, isOwn_bowl, isOwn_ro, isOwn_fn, onIs_map, onBs_map,
  List.map_cons, List.map_nil, List.length_cons, List.length_nil, List.replicate_succ, List.replicate_zero, List.cons_append, List.nil_append, List.append_nil, List.getElem?_cons_zero, List.getElem?_cons_succ, List.set_cons_zero, List.set_cons_succ, List.filterMap_cons, List.filterMap_nil, Option.map, List.mem_cons, List.not_mem_nil, or_false, false_or, forall_eq_or_imp, forall_eq, implies_true, false_imp_iff, List.length_map, and_true, true_and, and_self, if_true, if_false, Bool.false_eq_true, reduceCtorEq, Nat.reduceAdd, Nat.reduceSub, Int.reduceLT, Int.reduceLE, Int.reduceNeg, decide_true, decide_false, decide_eq_true_eq, Bool.not_true, Bool.not_false, Bool.not_eq_true', decide_eq_false_iff_not, ite_true, ite_false]
    refine w__law_bound hab g1.p g1.l (by omega) fun c1 h1 => ?_
    simp only [e_dCmb, e_dSortK, e_keyS, e_dSeq, e_dIfS, e_dRet, e_dRetN, e_dRetB, e_dAsg, e_dPar, e_dAsgG, e_dDrop, e_dNext, e_dBrk, e_dCont, e_dNever, e_dFor, e_dFreeze, e_dRetO, e_dNewL, e_dApp, e_dWhile, e_dVar, e_dC, e_dOp1, e_dOp2, e_dCB, e_dNil, e_dCons, e_dB, e_dAnd, e_dOr, e_dNot, e_dAndV, e_dOrV, e_dNotV, e_dIf, e_dTup, e_dLst, e_dIsI, e_dCall, e_dCallK, e_dChain, e_dSl, e_dPart, e_dNoPart, e_dYes, e_dFnCall, e_dCallF, e_dIter, e_dRng1, e_dRng2, e_dEnum, e_dComp, e_gN, e_gBw, e_gOw, e_gT, e_gTn, e_gTc, e_dDef, e_lamM, e_gL, onIB_i, onIB_b, bwS_b, lenBS_b, e_dCompB, plain_bowls, isOwn_bowls, inOp_li, inOp_ti, e_dLenSet, e_dCallD, e_dPl, e_dNewO, e_dCopyO, e_dNewD, e_dDisp, e_prs_nil, e_prs_cons, e_dSets, e_dSetsN, e_sets_cons, e_sets_nil, e_dAppPop, e_dGet2, e_dKeys, e_dVals, e_dItems, e_dPut, e_dFreezeD, e_dSumV, onDc_d, onDc_o, onDz_d, keyR_i, keyR_s, flatK_nil, merge1, e_dStar, e_dComp2, e_dPar3, e_dZip, repS_t, repS_l, ixS_t0, ixS_t1, onBs_tt, rg1S_t, rg1S_l, rg2S_t, rg2S_l, revS_t, revS_l, onDs_map, onDs_map0, startR, lamR, slotR, wipeR, hideR, fits, perm,
  plain_d, plain_bowl, plain_ro, onD_d, onI_i, onB_b, onSq_l, onSq_t, onSq_o, onSq_r, onLs_l, onLs_o, onLs_r, onSeq_l, onSeq_t, onSeq_r, onDs_nil, onDs_d, addS_i, addS_t, addS_l, intP_i, int2_i, negS_i, bix_i, one_s, two_s, isN_d, notN_d, eqS_ii, neS_ii, eqS_in, eqS_bb, ty_tuple_none, ty_tuple_bool, ty_tuple_int, ty_tuple_str, ty_tuple_tuple, ty_tuple_list, ty_tuple_dict, ty_list_none, ty_list_bool, ty_list_int, ty_list_str, ty_list_tuple, ty_list_list, ty_list_dict, ty_bool_none, ty_bool_bool, ty_bool_int, ty_bool_str, ty_bool_tuple, ty_bool_list, ty_bool_dict, ty_int_none, ty_int_bool, ty_int_int, ty_int_str, ty_int_tuple, ty_int_list, ty_int_dict, ty_str_none, ty_str_bool, ty_str_int, ty_str_str, ty_str_tuple, ty_str_list, ty_str_dict, ty_dict_none, ty_dict_bool, ty_dict_int, ty_dict_str, ty_dict_tuple, ty_dict_list, ty_dict_dict, not_true_eq_false, not_false_eq_true, Bool.and_true, Bool.true_and, Bool.and_false, Bool.false_and, Bool.or_true, Bool.true_or, Bool.or_false, Bool.false_or, Bool.true_eq_false, Int.toNat_natCast, isOwn_d, isOwn_bowl, isOwn_ro, isOwn_fn, onIs_map, onBs_map,
  List.map_cons, List.map_nil, List.length_cons, List.length_nil, List.replicate_succ, List.replicate_zero, List.cons_append, List.nil_append, List.append_nil, List.getElem?_cons_zero, List.getElem?_cons_succ, List.set_cons_zero, List.set_cons_succ, List.filterMap_cons, List.filterMap_nil, Option.map, List.mem_cons, List.not_mem_nil, or_false, false_or, forall_eq_or_imp, forall_eq, implies_true, false_imp_iff, List.length_map, and_true, true_and, and_self, if_true, if_false, Bool.false_eq_true, reduceCtorEq, Nat.reduceAdd, Nat.reduceSub, Int.reduceLT, Int.reduceLE, Int.reduceNeg, decide_true, decide_false, decide_eq_true_eq, Bool.not_true, Bool.not_false, Bool.not_eq_true', decide_eq_false_iff_not, ite_true, ite_false]
    refine w_bound (by omega) (by omega) hab g2.p g2.l (by omega) g2.g fun c2 h2 => ?_
    simp only [e_dCmb, e_dSortK, e_keyS, e_dSeq, e_dIfS, e_dRet, e_dRetN, e_dRetB, e_dAsg, e_dPar, e_dAsgG, e_dDrop, e_dNext, e_dBrk, e_dCont, e_dNever, e_dFor, e_dFreeze, e_dRetO, e_dNewL, e_dApp, e_dWhile, e_dVar, e_dC, e_dOp1, e_dOp2, e_dCB, e_dNil, e_dCons, e_dB, e_dAnd, e_dOr, e_dNot, e_dAndV, e_dOrV, e_dNotV, e_dIf, e_dTup, e_dLst, e_dIsI, e_dCall, e_dCallK, e_dChain, e_dSl, e_dPart, e_dNoPart, e_dYes, e_dFnCall, e_dCallF, e_dIter, e_dRng1, e_dRng2, e_dEnum, e_dComp, e_gN, e_gBw, e_gOw, e_gT, e_gTn, e_gTc, e_dDef, e_lamM, e_gL, onIB_i, onIB_b, bwS_b, lenBS_b, e_dCompB, plain_bowls, isOwn_bowls, inOp_li, inOp_ti, e_dLenSet, e_dCallD, e_dPl, e_dNewO, e_dCopyO, e_dNewD, e_dDisp, e_prs_nil, e_prs_cons, e_dSets, e_dSetsN, e_sets_cons, e_sets_nil, e_dAppPop, e_dGet2, e_dKeys, e_dVals, e_dItems, e_dPut, e_dFreezeD, e_dSumV, onDc_d, onDc_o, onDz_d, keyR_i, keyR_s, flatK_nil, merge1, e_dStar, e_dComp2, e_dPar3, e_dZip, repS_t, repS_l, ixS_t0, ixS_t1, onBs_tt, rg1S_t, rg1S_l, rg2S_t, rg2S_l, revS_t, revS_l, onDs_map, onDs_map0, startR, lamR, slotR, wipeR, hideR, fits, perm,
  plain_d, plain_bowl, plain_ro, onD_d, onI_i, onB_b, onSq_l, onSq_t, onSq_o, onSq_r, onLs_l, onLs_o, onLs_r, onSeq_l, onSeq_t, onSeq_r, onDs_nil, onDs_d, addS_i, addS_t, addS_l, intP_i, int2_i, negS_i, bix_i, one_s, two_s, isN_d, notN_d, eqS_ii, neS_ii, eqS_in, eqS_bb, ty_tuple_none, ty_tuple_bool, ty_tuple_int, ty_tuple_str, ty_tuple_tuple, ty_tuple_list, ty_tuple_dict, ty_list_none, ty_list_bool, ty_list_int, ty_list_str, ty_list_tuple, ty_list_list, ty_list_dict, ty_bool_none, ty_bool_bool, ty_bool_int, ty_bool_str, ty_bool_tuple, ty_bool_list, ty_bool_dict, ty_int_none, ty_int_bool, ty_int_int, ty_int_str, ty_int_tuple, ty_int_list, ty_int_dict, ty_str_none, ty_str_bool, ty_str_int, ty_str_str, ty_str_tuple, ty_str_list, ty_str_dict, ty_dict_none, ty_dict_bool, ty_dict_int, ty_dict_str, ty_dict_tuple, ty_dict_list, ty_dict_dict, not_true_eq_false, not_false_eq_true, Bool.and_true, Bool.true_and, Bool.and_false, Bool.false_and, Bool.or_true, Bool.true_or, Bool.or_false, Bool.false_or, Bool.true_eq_false, Int.toNat_natCast, isOwn_d, isOwn_bowl, isOwn_ro, isOwn_fn, onIs_map, onBs_map,
  List.map_cons, List.map_nil, List.length_cons, List.length_nil, List.replicate_succ, List.replicate_zero, List.cons_append, List.nil_append, List.append_nil, List.getElem?_cons_zero, List.getElem?_cons_succ, List.set_cons_zero, List.set_cons_succ, List.filterMap_cons, List.filterMap_nil, Option.map, List.mem_cons, List.not_mem_nil, or_false, false_or, forall_eq_or_imp, forall_eq, implies_true, false_imp_iff, List.length_map, and_true, true_and, and_self, if_true, if_false, Bool.false_eq_true, reduceCtorEq, Nat.reduceAdd, Nat.reduceSub, Int.reduceLT, Int.reduceLE, Int.reduceNeg, decide_true, decide_false, decide_eq_true_eq, Bool.not_true, Bool.not_false, Bool.not_eq_true', decide_eq_false_iff_not, ite_true, ite_false]
    refine w_bound (by omega) (by omega) hab g1.p g1.l (by omega) g1.g fun c3 h3 => ?_
    obtain rfl := h3.uniq h1
    simp only [e_dCmb, e_dSortK, e_keyS, e_dSeq, e_dIfS, e_dRet, e_dRetN, e_dRetB, e_dAsg, e_dPar, e_dAsgG, e_dDrop, e_dNext, e_dBrk, e_dCont, e_dNever, e_dFor, e_dFreeze, e_dRetO, e_dNewL, e_dApp, e_dWhile, e_dVar, e_dC, e_dOp1, e_dOp2, e_dCB, e_dNil, e_dCons, e_dB, e_dAnd, e_dOr, e_dNot, e_dAndV, e_dOrV, e_dNotV, e_dIf, e_dTup, e_dLst, e_dIsI, e_dCall, e_dCallK, e_dChain, e_dSl, e_dPart, e_dNoPart, e_dYes, e_dFnCall, e_dCallF, e_dIter, e_dRng1, e_dRng2, e_dEnum, e_dComp, e_gN, e_gBw, e_gOw, e_gT, e_gTn, e_gTc, e_dDef, e_lamM, e_gL, onIB_i, onIB_b, bwS_b, lenBS_b, e_dCompB, plain_bowls, isOwn_bowls, inOp_li, inOp_ti, e_dLenSet, e_dCallD, e_dPl, e_dNewO, e_dCopyO, e_dNewD, e_dDisp, e_prs_nil, e_prs_cons, e_dSets, e_dSetsN, e_sets_cons, e_sets_nil, e_dAppPop, e_dGet2, e_dKeys, e_dVals, e_dItems, e_dPut, e_dFreezeD, e_dSumV, onDc_d, onDc_o, onDz_d, keyR_i, keyR_s, flatK_nil, merge1, e_dStar, e_dComp2, e_dPar3, e_dZip, repS_t, repS_l, ixS_t0, ixS_t1, onBs_tt, rg1S_t, rg1S_l, rg2S_t, rg2S_l, revS_t, revS_l, onDs_map, onDs_map0, startR, lamR, slotR, wipeR, hideR, fits, perm,
  plain_d, plain_bowl, plain_ro, onD_d, onI_i, onB_b, onSq_l, onSq_t, onSq_o, onSq_r, onLs_l, onLs_o, onLs_r, onSeq_l, onSeq_t, onSeq_r, onDs_nil, onDs_d, addS_i, addS_t, addS_l, intP_i, int2_i, negS_i, bix_i, one_s, two_s, isN_d, notN_d, eqS_ii, neS_ii, eqS_in, eqS_bb, ty_tuple_none, ty_tuple_bool, ty_tuple_int, ty_tuple_str, ty_tuple_tuple, ty_tuple_list, ty_tuple_dict, ty_list_none, ty_list_bool, ty_list_int, ty_list_str, ty_list_tuple, ty_list_list, ty_list_dict, ty_bool_none, ty_bool_bool, ty_bool_int, ty_bool_str, ty_bool_tuple, ty_bool_list, ty_bool_dict, ty_int_none, ty_int_bool, ty_int_int, ty_int_str, ty_int_tuple, ty_int_list, ty_int_dict, ty_str_none, ty_str_bool, ty_str_int, ty_str_str, ty_str_tuple, ty_str_list, ty_str_dict, ty_dict_none, ty_dict_bool, ty_dict_int, ty_dict_str, ty_dict_tuple, ty_dict_list, ty_dict_dict, not_true_eq_false, not_false_eq_true, Bool.and_true, Bool.true_and, Bool.and_false, Bool.false_and, Bool.or_true, Bool.true_or, Bool.or_false, Bool.false_or, Bool.true_eq_false, Int.toNat_natCast, isOwn_d, isOwn_bowl, isOwn_ro, isOwn_fn, onIs_map, onBs_map,
  List.map_cons, List.map_nil, List.length_cons, List.length_nil, List.replicate_succ, List.replicate_zero, List.cons_append, List.nil_append, List.append_nil, List.getElem?_cons_zero, List.getElem?_cons_succ, List.set_cons_zero, List.set_cons_succ, List.filterMap_cons, List.filterMap_nil, Option.map, List.mem_cons, List.not_mem_nil, or_false, false_or, forall_eq_or_imp, forall_eq, implies_true, false_imp_iff, List.length_map, and_true, true_and, and_self, if_true, if_false, Bool.false_eq_true, reduceCtorEq, Nat.reduceAdd, Nat.reduceSub, Int.reduceLT, Int.reduceLE, Int.reduceNeg, decide_true, decide_false, decide_eq_true_eq, Bool.not_true, Bool.not_false, Bool.not_eq_true', decide_eq_false_iff_not, ite_true, ite_false]
    refine w_bound (by omega) (by omega) hab g1.p g1.l (by omega) g1.g fun c4 h4 => ?_
    obtain rfl := h4.uniq h1
    simp only [e_dCmb, e_dSortK, e_keyS, e_dSeq, e_dIfS, e_dRet, e_dRetN, e_dRetB, e_dAsg, e_dPar, e_dAsgG, e_dDrop, e_dNext, e_dBrk, e_dCont, e_dNever, e_dFor, e_dFreeze, e_dRetO, e_dNewL, e_dApp, e_dWhile, e_dVar, e_dC, e_dOp1, e_dOp2, e_dCB, e_dNil, e_dCons, e_dB, e_dAnd, e_dOr, e_dNot, e_dAndV, e_dOrV, e_dNotV, e_dIf, e_dTup, e_dLst, e_dIsI, e_dCall, e_dCallK, e_dChain, e_dSl, e_dPart, e_dNoPart, e_dYes, e_dFnCall, e_dCallF, e_dIter, e_dRng1, e_dRng2, e_dEnum, e_dComp, e_gN, e_gBw, e_gOw, e_gT, e_gTn, e_gTc, e_dDef, e_lamM, e_gL, onIB_i, onIB_b, bwS_b, lenBS_b, e_dCompB, plain_bowls, isOwn_bowls, inOp_li, inOp_ti, e_dLenSet, e_dCallD, e_dPl, e_dNewO, e_dCopyO, e_dNewD, e_dDisp, e_prs_nil, e_prs_cons, e_dSets, e_dSetsN, e_sets_cons, e_sets_nil, e_dAppPop, e_dGet2, e_dKeys, e_dVals, e_dItems, e_dPut, e_dFreezeD, e_dSumV, onDc_d, onDc_o, onDz_d, keyR_i, keyR_s, flatK_nil, merge1, e_dStar, e_dComp2, e_dPar3, e_dZip, repS_t, repS_l, ixS_t0, ixS_t1, onBs_tt, rg1S_t, rg1S_l, rg2S_t, rg2S_l, revS_t, revS_l, onDs_map, onDs_map0, startR, lamR, slotR, wipeR, hideR, fits, perm,
  plain_d, plain_bowl, plain_ro, onD_d, onI_i, onB_b, onSq_l, onSq_t, onSq_o, onSq_r, onLs_l, onLs_o, onLs_r, onSeq_l, onSeq_t, onSeq_r, onDs_nil, onDs_d, addS_i, addS_t, addS_l, intP_i, int2_i, negS_i, bix_i, one_s, two_s, isN_d, notN_d, eqS_ii, neS_ii, eqS_in, eqS_bb, ty_tuple_none, ty_tuple_bool, ty_tuple_int, ty_tuple_str, ty_tuple_tuple, ty_tuple_list, ty_tuple_dict, ty_list_none, ty_list_bool, ty_list_int, ty_list_str, ty_list_tuple, ty_list_list, ty_list_dict, ty_bool_none, ty_bool_bool, ty_bool_int, ty_bool_str, ty_bool_tuple, ty_bool_list, ty_bool_dict, ty_int_none, ty_int_bool, ty_int_int, ty_int_str, ty_int_tuple, ty_int_list, ty_int_dict, ty_str_none, ty_str_bool, ty_str_int, ty_str_str, ty_str_tuple, ty_str_list, ty_str_dict, ty_dict_none, ty_dict_bool, ty_dict_int, ty_dict_str, ty_dict_tuple, ty_dict_list, ty_dict_dict, not_true_eq_false, not_false_eq_true, Bool.and_true, Bool.true_and, Bool.and_false, Bool.false_and, Bool.or_true, Bool.true_or, Bool.or_false, Bool.false_or, Bool.true_eq_false, Int.toNat_natCast, isOwn_d, isOwn_bowl, isOwn_ro, isOwn_fn, onIs_map, onBs_map,
  List.map_cons, List.map_nil, List.length_cons, List.length_nil, List.replicate_succ, List.replicate_zero, List.cons_append, List.nil_append, List.append_nil, List.getElem?_cons_zero, List.getElem?_cons_succ, List.set_cons_zero, List.set_cons_succ, List.filterMap_cons, List.filterMap_nil, Option.map, List.mem_cons, List.not_mem_nil, or_false, false_or, forall_eq_or_imp, forall_eq, implies_true, false_imp_iff, List.length_map, and_true, true_and, and_self, if_true, if_false, Bool.false_eq_true, reduceCtorEq, Nat.reduceAdd, Nat.reduceSub, Int.reduceLT, Int.reduceLE, Int.reduceNeg, decide_true, decide_false, decide_eq_true_eq, Bool.not_true, Bool.not_false, Bool.not_eq_true', decide_eq_false_iff_not, ite_true, ite_false]
    refine w_bound (by omega) (by omega) (by omega) g1.p g1.l (by omega) g1.g fun c5 h5 => ?_
    obtain rfl := (h5.swap (by omega)).uniq (by rw [Nat.mul_comm]; exact h1)
    simp only [e_dCmb, e_dSortK, e_keyS, e_dSeq, e_dIfS, e_dRet, e_dRetN, e_dRetB, e_dAsg, e_dPar, e_dAsgG, e_dDrop, e_dNext, e_dBrk, e_dCont, e_dNever, e_dFor, e_dFreeze, e_dRetO, e_dNewL, e_dApp, e_dWhile, e_dVar, e_dC, e_dOp1, e_dOp2, e_dCB, e_dNil, e_dCons, e_dB, e_dAnd, e_dOr, e_dNot, e_dAndV, e_dOrV, e_dNotV, e_dIf, e_dTup, e_dLst, e_dIsI, e_dCall, e_dCallK, e_dChain, e_dSl, e_dPart, e_dNoPart, e_dYes, e_dFnCall, e_dCallF, e_dIter, e_dRng1, e_dRng2, e_dEnum, e_dComp, e_gN, e_gBw, e_gOw, e_gT, e_gTn, e_gTc, e_dDef, e_lamM, e_gL, onIB_i, onIB_b, bwS_b, lenBS_b, e_dCompB, plain_bowls, isOwn_bowls, inOp_li, inOp_ti, e_dLenSet, e_dCallD, e_dPl, e_dNewO, e_dCopyO, e_dNewD, e_dDisp, e_prs_nil, e_prs_cons, e_dSets, e_dSetsN, e_sets_cons, e_sets_nil, e_dAppPop, e_dGet2, e_dKeys, e_dVals, e_dItems, e_dPut, e_dFreezeD, e_dSumV, onDc_d, onDc_o, onDz_d, keyR_i, keyR_s, flatK_nil, merge1, e_dStar, e_dComp2, e_dPar3, e_dZip, repS_t, repS_l, ixS_t0, ixS_t1, onBs_tt, rg1S_t, rg1S_l, rg2S_t, rg2S_l, revS_t, revS_l, onDs_map, onDs_map0, startR, lamR, slotR, wipeR, hideR, fits, perm,
  plain_d, plain_bowl, plain_ro, onD_d, onI_i, onB_b, onSq_l, onSq_t, onSq_o, onSq_r, onLs_l, onLs_o, onLs_r, onSeq_l, onSeq_t, onSeq_r, onDs_nil, onDs_d, addS_i, addS_t, addS_l, intP_i, int2_i, negS_i, bix_i, one_s, two_s, isN_d, notN_d, eqS_ii, neS_ii, eqS_in, eqS_bb, ty_tuple_none, ty_tuple_bool, ty_tuple_int, ty_tuple_str, ty_tuple_tuple, ty_tuple_list, ty_tuple_dict, ty_list_none, ty_list_bool, ty_list_int, ty_list_str, ty_list_tuple, ty_list_list, ty_list_dict, ty_bool_none, ty_bool_bool, ty_bool_int, ty_bool_str, ty_bool_tuple, ty_bool_list, ty_bool_dict, ty_int_none, ty_int_bool, ty_int_int, ty_int_str, ty_int_tuple, ty_int_list, ty_int_dict, ty_str_none, ty_str_bool, ty_str_int, ty_str_str, ty_str_tuple, ty_str_list, ty_str_dict, ty_dict_none, ty_dict_bool, ty_dict_int, ty_dict_str, ty_dict_tuple, ty_dict_list, ty_dict_dict, not_true_eq_false, not_false_eq_true, Bool.and_true, Bool.true_and, Bool.and_false, Bool.false_and, Bool.or_true, Bool.true_or, Bool.or_false, Bool.false_or, Bool.true_eq_false, Int.toNat_natCast, isOwn_d, isOwn_bowl, isOwn_ro, isOwn_fn, onIs_map, onBs_map,
  List.map_cons, List.map_nil, List.length_cons, List.length_nil, List.replicate_succ, List.replicate_zero, List.cons_append, List.nil_append, List.append_nil, List.getElem?_cons_zero, List.getElem?_cons_succ, List.set_cons_zero, List.set_cons_succ, List.filterMap_cons, List.filterMap_nil, Option.map, List.mem_cons, List.not_mem_nil, or_false, false_or, forall_eq_or_imp, forall_eq, implies_true, false_imp_iff, List.length_map, and_true, true_and, and_self, if_true, if_false, Bool.false_eq_true, reduceCtorEq, Nat.reduceAdd, Nat.reduceSub, Int.reduceLT, Int.reduceLE, Int.reduceNeg, decide_true, decide_false, decide_eq_true_eq, Bool.not_true, Bool.not_false, Bool.not_eq_true', decide_eq_false_iff_not, ite_true, ite_false]
    have w1 : x * q ≤ p * y → c2 ≤ c5 := fun z => BdI.wide h1 h2 (by omega) (by omega) z
    have w2 : p * y ≤ x * q → c5 ≤ c2 := fun z => BdI.wide h2 h1 (by omega) (by omega) z
    have hl := h1.le
    refine ⟨by decide, by decide, ?_⟩
    refine w__law_same (n := 5) (.tup 4 _ (by simp) (by simp [Smp.int])) ?_
    simp only [e_dCmb, e_dSortK, e_keyS, e_dSeq, e_dIfS, e_dRet, e_dRetN, e_dRetB, e_dAsg, e_dPar, e_dAsgG, e_dDrop, e_dNext, e_dBrk, e_dCont, e_dNever, e_dFor, e_dFreeze, e_dRetO, e_dNewL, e_dApp, e_dWhile, e_dVar, e_dC, e_dOp1, e_dOp2, e_dCB, e_dNil, e_dCons, e_dB, e_dAnd, e_dOr, e_dNot, e_dAndV, e_dOrV, e_dNotV, e_dIf, e_dTup, e_dLst, e_dIsI, e_dCall, e_dCallK, e_dChain, e_dSl, e_dPart, e_dNoPart, e_dYes, e_dFnCall, e_dCallF, e_dIter, e_dRng1, e_dRng2, e_dEnum, e_dComp, e_gN, e_gBw, e_gOw, e_gT, e_gTn, e_gTc, e_dDef, e_lamM, e_gL, onIB_i, onIB_b, bwS_b, lenBS_b, e_dCompB, plain_bowls, isOwn_bowls, inOp_li, inOp_ti, e_dLenSet, e_dCallD, e_dPl, e_dNewO, e_dCopyO, e_dNewD, e_dDisp, e_prs_nil, e_prs_cons, e_dSets, e_dSetsN, e_sets_cons, e_sets_nil, e_dAppPop, e_dGet2, e_dKeys, e_dVals, e_dItems, e_dPut, e_dFreezeD, e_dSumV, onDc_d, onDc_o, onDz_d, keyR_i, keyR_s, flatK_nil, merge1, e_dStar, e_dComp2, e_dPar3, e_dZip, repS_t, repS_l, ixS_t0, ixS_t1, onBs_tt, rg1S_t, rg1S_l, rg2S_t, rg2S_l, revS_t, revS_l, onDs_map, onDs_map0, startR, lamR, slotR, wipeR, hideR, fits, perm,
  plain_d, plain_bowl, plain_ro, onD_d, onI_i, onB_b, onSq_l, onSq_t, onSq_o, onSq_r, onLs_l, onLs_o, onLs_r, onSeq_l, onSeq_t, onSeq_r, onDs_nil, onDs_d, addS_i, addS_t, addS_l, intP_i, int2_i, negS_i, bix_i, one_s, two_s, isN_d, notN_d, eqS_ii, neS_ii, eqS_in, eqS_bb, ty_tuple_none, ty_tuple_bool, ty_tuple_int, ty_tuple_str, ty_tuple_tuple, ty_tuple_list, ty_tuple_dict, ty_list_none, ty_list_bool, ty_list_int, ty_list_str, ty_list_tuple, ty_list_list, ty_list_dict, ty_bool_none, ty_bool_bool, ty_bool_int, ty_bool_str, ty_bool_tuple, ty_bool_list, ty_bool_dict, ty_int_none, ty_int_bool, ty_int_int, ty_int_str, ty_int_tuple, ty_int_list, ty_int_dict, ty_str_none, ty_str_bool, ty_str_int, ty_str_str, ty_str_tuple, ty_str_list, ty_str_dict, ty_dict_none, ty_dict_bool, ty_dict_int, ty_dict_str, ty_dict_tuple, ty_dict_list, ty_dict_dict, not_true_eq_false, not_false_eq_true, Bool.and_true, Bool.true_and, Bool.and_false, Bool.false_and, Bool.or_true, Bool.true_or, Bool.or_false, Bool.false_or, Bool.true_eq_false, Int.toNat_natCast, isOwn_d, isOwn_bowl, isOwn_ro, isOwn_fn, onIs_map, onBs_map,
  List.map_cons, List.map_nil, List.length_cons, List.length_nil, List.replicate_succ, List.replicate_zero, List.cons_append, List.nil_append, List.append_nil, List.getElem?_cons_zero, List.getElem?_cons_succ, List.set_cons_zero, List.set_cons_succ, List.filterMap_cons, List.filterMap_nil, Option.map, List.mem_cons, List.not_mem_nil, or_false, false_or, forall_eq_or_imp, forall_eq, implies_true, false_imp_iff, List.length_map, and_true, true_and, and_self, if_true, if_false, Bool.false_eq_true, reduceCtorEq, Nat.reduceAdd, Nat.reduceSub, Int.reduceLT, Int.reduceLE, Int.reduceNeg, decide_true, decide_false, decide_eq_true_eq, Bool.not_true, Bool.not_false, Bool.not_eq_true', decide_eq_false_iff_not, ite_true, ite_false]
    have hmm : ((sa + 1 : Nat) : Int) * ((sb + 1 : Nat) : Int) = ((sa + 1) * (sb + 1) : Nat) := by rw [Int.natCast_mul]
    rw [if_pos (by omega), hmm, if_neg (by omega)]
    refine ⟨mulOk_r (by omega) (by omega), ?_⟩
    have last : m__law_is_below [S.d (PyData.tuple [.int p, .int q]), S.d (PyData.tuple [.int x, .int y])] (fun s => onB s fun c => if c = false then if (c5 : Int) < c2 then Q (S.d (PyData.bool false)) else X [some S.bowl, some (S.d (PyData.int i0)), some (S.d (PyData.int (sa + 1 : Nat))), some (S.d (PyData.int (sb + 1 : Nat))), some (S.d (PyData.tuple [.int x, .int y])), some (S.d (PyData.tuple [.int p, .int q])), some (S.d (PyData.int c5)), some (S.d (PyData.int c2)), some (S.d (PyData.tuple [.int c5, .int c5, .int c5]))] else X [some S.bowl, some (S.d (PyData.int i0)), some (S.d (PyData.int (sa + 1 : Nat))), some (S.d (PyData.int (sb + 1 : Nat))), some (S.d (PyData.tuple [.int x, .int y])), some (S.d (PyData.tuple [.int p, .int q])), some (S.d (PyData.int c5)), some (S.d (PyData.int c2)), some (S.d (PyData.tuple [.int c5, .int c5, .int c5]))]) (fun x => E x) := by
      refine w__law_is_below g2 g1 ?_
      by_cases k : p * y < x * q
      · rw [decide_eq_true k]
        simp only [e_dCmb, e_dSortK, e_keyS, e_dSeq, e_dIfS, e_dRet, e_dRetN, e_dRetB, e_dAsg, e_dPar, e_dAsgG, e_dDrop, e_dNext, e_dBrk, e_dCont, e_dNever, e_dFor, e_dFreeze, e_dRetO, e_dNewL, e_dApp, e_dWhile, e_dVar, e_dC, e_dOp1, e_dOp2, e_dCB, e_dNil, e_dCons, e_dB, e_dAnd, e_dOr, e_dNot, e_dAndV, e_dOrV, e_dNotV, e_dIf, e_dTup, e_dLst, e_dIsI, e_dCall, e_dCallK, e_dChain, e_dSl, e_dPart, e_dNoPart, e_dYes, e_dFnCall, e_dCallF, e_dIter, e_dRng1, e_dRng2, e_dEnum, e_dComp, e_gN, e_gBw, e_gOw, e_gT, e_gTn, e_gTc, e_dDef, e_lamM, e_gL, onIB_i, onIB_b, bwS_b, lenBS_b, e_dCompB, plain_bowls, isOwn_bowls, inOp_li, inOp_ti, e_dLenSet, e_dCallD, e_dPl, e_dNewO, e_dCopyO, e_dNewD, e_dDisp, e_prs_nil, e_prs_cons, e_dSets, e_dSetsN, e_sets_cons, e_sets_nil, e_dAppPop, e_dGet2, e_dKeys, e_dVals, e_dItems, e_dPut, e_dFreezeD, e_dSumV, onDc_d, onDc_o, onDz_d, keyR_i, keyR_s, flatK_nil, merge1, e_dStar, e_dComp2, e_dPar3, e_dZip, repS_t, repS_l, ixS_t0, ixS_t1, onBs_tt, rg1S_t, rg1S_l, rg2S_t, rg2S_l, revS_t, revS_l, onDs_map, onDs_map0, startR, lamR, slotR, wipeR, hideR, fits, perm,
  plain_d, plain_bowl, plain_ro, onD_d, onI_i, onB_b, onSq_l, onSq_t, onSq_o, onSq_r, onLs_l, onLs_o, onLs_r, onSeq_l, onSeq_t, onSeq_r, onDs_nil, onDs_d, addS_i, addS_t, addS_l, intP_i, int2_i, negS_i, bix_i, one_s, two_s, isN_d, notN_d, eqS_ii, neS_ii, eqS_in, eqS_bb, ty_tuple_none, ty_tuple_bool, ty_tuple_int, ty_tuple_str, ty_tuple_tuple, ty_tuple_list, ty_tuple_dict, ty_list_none, ty_list_bool, ty_list_int, ty_list_str, ty_list_tuple, ty_list_list, ty_list_dict, ty_bool_none, ty_bool_bool, ty_bool_int, ty_bool_str, ty_bool_tuple, ty_bool_list, ty_bool_dict, ty_int_none, ty_int_bool, ty_int_int, ty_int_str, ty_int_tuple, ty_int_list, ty_int_dict, ty_str_none, ty_str_bool, ty_str_int, ty_str_str, ty_str_tuple, ty_str_list, ty_str_dict, ty_dict_none, ty_dict_bool, ty_dict_int, ty_dict_str, ty_dict_tuple, ty_dict_list, ty_dict_dict, not_true_eq_false, not_false_eq_true, Bool.and_true, Bool.true_and, Bool.and_false, Bool.false_and, Bool.or_true, Bool.true_or, Bool.or_false, Bool.false_or, Bool.true_eq_false, Int.toNat_natCast, isOwn_d, isOwn_bowl, isOwn_ro, isOwn_fn, onIs_map, onBs_map,
  List.map_cons, List.map_nil, List.length_cons, List.length_nil, List.replicate_succ, List.replicate_zero, List.cons_append, List.nil_append, List.append_nil, List.getElem?_cons_zero, List.getElem?_cons_succ, List.set_cons_zero, List.set_cons_succ, List.filterMap_cons, List.filterMap_nil, Option.map, List.mem_cons, List.not_mem_nil, or_false, false_or, forall_eq_or_imp, forall_eq, implies_true, false_imp_iff, List.length_map, and_true, true_and, and_self, if_true, if_false, Bool.false_eq_true, reduceCtorEq, Nat.reduceAdd, Nat.reduceSub, Int.reduceLT, Int.reduceLE, Int.reduceNeg, decide_true, decide_false, decide_eq_true_eq, Bool.not_true, Bool.not_false, Bool.not_eq_true', decide_eq_false_iff_not, ite_true, ite_false]
        exact hX _ ⟨_, _, _, _, _, _, _, _, rfl⟩
      · rw [decide_eq_false k]
        simp only [e_dCmb, e_dSortK, e_keyS, e_dSeq, e_dIfS, e_dRet, e_dRetN, e_dRetB, e_dAsg, e_dPar, e_dAsgG, e_dDrop, e_dNext, e_dBrk, e_dCont, e_dNever, e_dFor, e_dFreeze, e_dRetO, e_dNewL, e_dApp, e_dWhile, e_dVar, e_dC, e_dOp1, e_dOp2, e_dCB, e_dNil, e_dCons, e_dB, e_dAnd, e_dOr, e_dNot, e_dAndV, e_dOrV, e_dNotV, e_dIf, e_dTup, e_dLst, e_dIsI, e_dCall, e_dCallK, e_dChain, e_dSl, e_dPart, e_dNoPart, e_dYes, e_dFnCall, e_dCallF, e_dIter, e_dRng1, e_dRng2, e_dEnum, e_dComp, e_gN, e_gBw, e_gOw, e_gT, e_gTn, e_gTc, e_dDef, e_lamM, e_gL, onIB_i, onIB_b, bwS_b, lenBS_b, e_dCompB, plain_bowls, isOwn_bowls, inOp_li, inOp_ti, e_dLenSet, e_dCallD, e_dPl, e_dNewO, e_dCopyO, e_dNewD, e_dDisp, e_prs_nil, e_prs_cons, e_dSets, e_dSetsN, e_sets_cons, e_sets_nil, e_dAppPop, e_dGet2, e_dKeys, e_dVals, e_dItems, e_dPut, e_dFreezeD, e_dSumV, onDc_d, onDc_o, onDz_d, keyR_i, keyR_s, flatK_nil, merge1, e_dStar, e_dComp2, e_dPar3, e_dZip, repS_t, repS_l, ixS_t0, ixS_t1, onBs_tt, rg1S_t, rg1S_l, rg2S_t, rg2S_l, revS_t, revS_l, onDs_map, onDs_map0, startR, lamR, slotR, wipeR, hideR, fits, perm,
  plain_d, plain_bowl, plain_ro, onD_d, onI_i, onB_b, onSq_l, onSq_t, onSq_o, onSq_r, onLs_l, onLs_o, onLs_r, onSeq_l, onSeq_t, onSeq_r, onDs_nil, onDs_d, addS_i, addS_t, addS_l, intP_i, int2_i, negS_i, bix_i, one_s, two_s, isN_d, notN_d, eqS_ii, neS_ii, eqS_in, eqS_bb, ty_tuple_none, ty_tuple_bool, ty_tuple_int, ty_tuple_str, ty_tuple_tuple, ty_tuple_list, ty_tuple_dict, ty_list_none, ty_list_bool, ty_list_int, ty_list_str, ty_list_tuple, ty_list_list, ty_list_dict, ty_bool_none, ty_bool_bool, ty_bool_int, ty_bool_str, ty_bool_tuple, ty_bool_list, ty_bool_dict, ty_int_none, ty_int_bool, ty_int_int, ty_int_str, ty_int_tuple, ty_int_list, ty_int_dict, ty_str_none, ty_str_bool, ty_str_int, ty_str_str, ty_str_tuple, ty_str_list, ty_str_dict, ty_dict_none, ty_dict_bool, ty_dict_int, ty_dict_str, ty_dict_tuple, ty_dict_list, ty_dict_dict, not_true_eq_false, not_false_eq_true, Bool.and_true, Bool.true_and, Bool.and_false, Bool.false_and, Bool.or_true, Bool.true_or, Bool.or_false, Bool.false_or, Bool.true_eq_false, Int.toNat_natCast, isOwn_d, isOwn_bowl, isOwn_ro, isOwn_fn, onIs_map, onBs_map,
  List.map_cons, List.map_nil, List.length_cons, List.length_nil, List.replicate_succ, List.replicate_zero, List.cons_append, List.nil_append, List.append_nil, List.getElem?_cons_zero, List.getElem?_cons_succ, List.set_cons_zero, List.set_cons_succ, List.filterMap_cons, List.filterMap_nil, Option.map, List.mem_cons, List.not_mem_nil, or_false, false_or, forall_eq_or_imp, forall_eq, implies_true, false_imp_iff, List.length_map, and_true, true_and, and_self, if_true, if_false, Bool.false_eq_true, reduceCtorEq, Nat.reduceAdd, Nat.reduceSub, Int.reduceLT, Int.reduceLE, Int.reduceNeg, decide_true, decide_false, decide_eq_true_eq, Bool.not_true, Bool.not_false, Bool.not_eq_true', decide_eq_false_iff_not, ite_true, ite_false]
        have := w1 (by omega)
        rw [if_neg (by omega)]
        exact hX _ ⟨_, _, _, _, _, _, _, _, rfl⟩
    refine w__law_is_below g1 g2 ?_
    by_cases k : x * q < p * y
    · rw [decide_eq_true k]
      simp only [e_dCmb, e_dSortK, e_keyS, e_dSeq, e_dIfS, e_dRet, e_dRetN, e_dRetB, e_dAsg, e_dPar, e_dAsgG, e_dDrop, e_dNext, e_dBrk, e_dCont, e_dNever, e_dFor, e_dFreeze, e_dRetO, e_dNewL, e_dApp, e_dWhile, e_dVar, e_dC, e_dOp1, e_dOp2, e_dCB, e_dNil, e_dCons, e_dB, e_dAnd, e_dOr, e_dNot, e_dAndV, e_dOrV, e_dNotV, e_dIf, e_dTup, e_dLst, e_dIsI, e_dCall, e_dCallK, e_dChain, e_dSl, e_dPart, e_dNoPart, e_dYes, e_dFnCall, e_dCallF, e_dIter, e_dRng1, e_dRng2, e_dEnum, e_dComp, e_gN, e_gBw, e_gOw, e_gT, e_gTn, e_gTc, e_dDef, e_lamM, e_gL, onIB_i, onIB_b, bwS_b, lenBS_b, e_dCompB, plain_bowls, isOwn_bowls, inOp_li, inOp_ti, e_dLenSet, e_dCallD, e_dPl, e_dNewO, e_dCopyO, e_dNewD, e_dDisp, e_prs_nil, e_prs_cons, e_dSets, e_dSetsN, e_sets_cons, e_sets_nil, e_dAppPop, e_dGet2, e_dKeys, e_dVals, e_dItems, e_dPut, e_dFreezeD, e_dSumV, onDc_d, onDc_o, onDz_d, keyR_i, keyR_s, flatK_nil, merge1, e_dStar, e_dComp2, e_dPar3, e_dZip, repS_t, repS_l, ixS_t0, ixS_t1, onBs_tt, rg1S_t, rg1S_l, rg2S_t, rg2S_l, revS_t, revS_l, onDs_map, onDs_map0, startR, lamR, slotR, wipeR, hideR, fits, perm,
  plain_d, plain_bowl, plain_ro, onD_d, onI_i, onB_b, onSq_l, onSq_t, onSq_o, onSq_r, onLs_l, onLs_o, onLs_r, onSeq_l, onSeq_t, onSeq_r, onDs_nil, onDs_d, addS_i, addS_t, addS_l, intP_i, int2_i, negS_i, bix_i, one_s, two_s, isN_d, notN_d, eqS_ii, neS_ii, eqS_in, eqS_bb, ty_tuple_none, ty_tuple_bool, ty_tuple_int, ty_tuple_str, ty_tuple_tuple, ty_tuple_list, ty_tuple_dict, ty_list_none, ty_list_bool, ty_list_int, ty_list_str, ty_list_tuple, ty_list_list, ty_list_dict, ty_bool_none, ty_bool_bool, ty_bool_int, ty_bool_str, ty_bool_tuple, ty_bool_list, ty_bool_dict, ty_int_none, ty_int_bool, ty_int_int, ty_int_str, ty_int_tuple, ty_int_list, ty_int_dict, ty_str_none, ty_str_bool, ty_str_int, ty_str_str, ty_str_tuple, ty_str_list, ty_str_dict, ty_dict_none, ty_dict_bool, ty_dict_int, ty_dict_str, ty_dict_tuple, ty_dict_list, ty_dict_dict, not_true_eq_false, not_false_eq_true, Bool.and_true, Bool.true_and, Bool.and_false, Bool.false_and, Bool.or_true, Bool.true_or, Bool.or_false, Bool.false_or, Bool.true_eq_false, Int.toNat_natCast, isOwn_d, isOwn_bowl, isOwn_ro, isOwn_fn, onIs_map, onBs_map,
  List.map_cons, List.map_nil, List.length_cons, List.length_nil, List.replicate_succ, List.replicate_zero, List.cons_append, List.nil_append, List.append_nil, List.getElem?_cons_zero, List.getElem?_cons_succ, List.set_cons_zero, List.set_cons_succ, List.filterMap_cons, List.filterMap_nil, Option.map, List.mem_cons, List.not_mem_nil, or_false, false_or, forall_eq_or_imp, forall_eq, implies_true, false_imp_iff, List.length_map, and_true, true_and, and_self, if_true, if_false, Bool.false_eq_true, reduceCtorEq, Nat.reduceAdd, Nat.reduceSub, Int.reduceLT, Int.reduceLE, Int.reduceNeg, decide_true, decide_false, decide_eq_true_eq, Bool.not_true, Bool.not_false, Bool.not_eq_true', decide_eq_false_iff_not, ite_true, ite_false]
      exact last
    · rw [decide_eq_false k]
      simp only [e_dCmb, e_dSortK, e_keyS, e_dSeq, e_dIfS, e_dRet, e_dRetN, e_dRetB, e_dAsg, e_dPar, e_dAsgG, e_dDrop, e_dNext, e_dBrk, e_dCont, e_dNever, e_dFor, e_dFreeze, e_dRetO, e_dNewL, e_dApp, e_dWhile, e_dVar, e_dC, e_dOp1, e_dOp2, e_dCB, e_dNil, e_dCons, e_dB, e_dAnd, e_dOr, e_dNot, e_dAndV, e_dOrV, e_dNotV, e_dIf, e_dTup, e_dLst, e_dIsI, e_dCall, e_dCallK, e_dChain, e_dSl, e_dPart, e_dNoPart, e_dYes, e_dFnCall, e_dCallF, e_dIter, e_dRng1, e_dRng2, e_dEnum, e_dComp, e_gN, e_gBw, e_gOw, e_gT, e_gTn, e_gTc, e_dDef, e_lamM, e_gL, onIB_i, onIB_b, bwS_b, lenBS_b, e_dCompB, plain_bowls, isOwn_bowls, inOp_li, inOp_ti, e_dLenSet, e_dCallD, e_dPl, e_dNewO, e_dCopyO, e_dNewD, e_dDisp, e_prs_nil, e_prs_cons, e_dSets, e_dSetsN, e_sets_cons, e_sets_nil, e_dAppPop, e_dGet2, e_dKeys, e_dVals, e_dItems, e_dPut, e_dFreezeD, e_dSumV, onDc_d, onDc_o, onDz_d, keyR_i, keyR_s, flatK_nil, merge1, e_dStar, e_dComp2, e_dPar3, e_dZip, repS_t, repS_l, ixS_t0, ixS_t1, onBs_tt, rg1S_t, rg1S_l, rg2S_t, rg2S_l, revS_t, revS_l, onDs_map, onDs_map0, startR, lamR, slotR, wipeR, hideR, fits, perm,
  plain_d, plain_bowl, plain_ro, onD_d, onI_i, onB_b, onSq_l, onSq_t, onSq_o, onSq_r, onLs_l, onLs_o, onLs_r, onSeq_l, onSeq_t, onSeq_r, onDs_nil, onDs_d, addS_i, addS_t, addS_l, intP_i, int2_i, negS_i, bix_i, one_s, two_s, isN_d, notN_d, eqS_ii, neS_ii, eqS_in, eqS_bb, ty_tuple_none, ty_tuple_bool, ty_tuple_int, ty_tuple_str, ty_tuple_tuple, ty_tuple_list, ty_tuple_dict, ty_list_none, ty_list_bool, ty_list_int, ty_list_str, ty_list_tuple, ty_list_list, ty_list_dict, ty_bool_none, ty_bool_bool, ty_bool_int, ty_bool_str, ty_bool_tuple, ty_bool_list, ty_bool_dict, ty_int_none, ty_int_bool, ty_int_int, ty_int_str, ty_int_tuple, ty_int_list, ty_int_dict, ty_str_none, ty_str_bool, ty_str_int, ty_str_str, ty_str_tuple, ty_str_list, ty_str_dict, ty_dict_none, ty_dict_bool, ty_dict_int, ty_dict_str, ty_dict_tuple, ty_dict_list, ty_dict_dict, not_true_eq_false, not_false_eq_true, Bool.and_true, Bool.true_and, Bool.and_false, Bool.false_and, Bool.or_true, Bool.true_or, Bool.or_false, Bool.false_or, Bool.true_eq_false, Int.toNat_natCast, isOwn_d, isOwn_bowl, isOwn_ro, isOwn_fn, onIs_map, onBs_map,
  List.map_cons, List.map_nil, List.length_cons, List.length_nil, List.replicate_succ, List.replicate_zero, List.cons_append, List.nil_append, List.append_nil, List.getElem?_cons_zero, List.getElem?_cons_succ, List.set_cons_zero, List.set_cons_succ, List.filterMap_cons, List.filterMap_nil, Option.map, List.mem_cons, List.not_mem_nil, or_false, false_or, forall_eq_or_imp, forall_eq, implies_true, false_imp_iff, List.length_map, and_true, true_and, and_self, if_true, if_false, Bool.false_eq_true, reduceCtorEq, Nat.reduceAdd, Nat.reduceSub, Int.reduceLT, Int.reduceLE, Int.reduceNeg, decide_true, decide_false, decide_eq_true_eq, Bool.not_true, Bool.not_false, Bool.not_eq_true', decide_eq_false_iff_not, ite_true, ite_false]
      have := w2 (by omega)
      rw [if_neg (by omega)]
      exact last
  · obtain ⟨a, b, c, d, e, f, g, i, rfl⟩ := hI
    simp only [e_dCmb, e_dSortK, e_keyS, e_dSeq, e_dIfS, e_dRet, e_dRetN, e_dRetB, e_dAsg, e_dPar, e_dAsgG, e_dDrop, e_dNext, e_dBrk, e_dCont, e_dNever, e_dFor, e_dFreeze, e_dRetO, e_dNewL, e_dApp, e_dWhile, e_dVar, e_dC, e_dOp1, e_dOp2, e_dCB, e_dNil, e_dCons, e_dB, e_dAnd, e_dOr, e_dNot, e_dAndV, e_dOrV, e_dNotV, e_dIf, e_dTup, e_dLst, e_dIsI, e_dCall, e_dCallK, e_dChain, e_dSl, e_dPart, e_dNoPart, e_dYes, e_dFnCall, e_dCallF, e_dIter, e_dRng1, e_dRng2, e_dEnum, e_dComp, e_gN, e_gBw, e_gOw, e_gT, e_gTn, e_gTc, e_dDef, e_lamM, e_gL, onIB_i, onIB_b, bwS_b, lenBS_b, e_dCompB, plain_bowls, isOwn_bowls, inOp_li, inOp_ti, e_dLenSet, e_dCallD, e_dPl, e_dNewO, e_dCopyO, e_dNewD, e_dDisp, e_prs_nil, e_prs_cons, e_dSets, e_dSetsN, e_sets_cons, e_sets_nil, e_dAppPop, e_dGet2, e_dKeys, e_dVals, e_dItems, e_dPut, e_dFreezeD, e_dSumV, onDc_d, onDc_o, onDz_d, keyR_i, keyR_s, flatK_nil, merge1, e_dStar, e_dComp2, e_dPar3, e_dZip, repS_t, repS_l, ixS_t0, ixS_t1, onBs_tt, rg1S_t, rg1S_l, rg2S_t, rg2S_l, revS_t, revS_l, onDs_map, onDs_map0, startR, lamR, slotR, wipeR, hideR, fits, perm,
  plain_d, plain_bowl, plain_ro, onD_d, onI_i, onB_b, onSq_l, onSq_t, onSq_o, onSq_r, onLs_l, onLs_o, onLs_r, onSeq_l, onSeq_t, onSeq_r, onDs_nil, onDs_d, addS_i, addS_t, addS_l, intP_i, int2_i, negS_i, bix_i, one_s, two_s, isN_d, notN_d, eqS_ii, neS_ii, eqS_in, eqS_bb, ty_tuple_none, ty_tuple_bool, ty_tuple_int, ty_tuple_str, ty_tuple_tuple, ty_tuple_list, ty_tuple_dict, ty_list_none, ty_list_bool, ty_list_int, ty_list_str, ty_list_tuple, ty_list_list, ty_list_dict, ty_bool_none, ty_bool_bool, ty_bool_int, ty_bool_str, ty_bool_tuple, ty_bool_list, ty_bool_dict, ty_int_none, ty_int_bool, ty_int_int, ty_int_str, ty_int_tuple, ty_int_list, ty_int_dict, ty_str_none, ty_str_bool, ty_str_int, ty_str_str, ty_str_tuple, ty_str_list, ty_str_dict, ty_dict_none, ty_dict_bool, ty_dict_int, ty_dict_str, ty_dict_tuple, ty_dict_list, ty_dict_dict, not_true_eq_false, not_false_eq_true, Bool.and_true, Bool.true_and, Bool.and_false, Bool.false_and, Bool.or_true, Bool.true_or, Bool.or_false, Bool.false_or, Bool.true_eq_false, Int.toNat_natCast, isOwn_d, isOwn_bowl, isOwn_ro, isOwn_fn, onIs_map, onBs_map,
  List.map_cons, List.map_nil, List.length_cons, List.length_nil, List.replicate_succ, List.replicate_zero, List.cons_append, List.nil_append, List.append_nil, List.getElem?_cons_zero, List.getElem?_cons_succ, List.set_cons_zero, List.set_cons_succ, List.filterMap_cons, List.filterMap_nil, Option.map, List.mem_cons, List.not_mem_nil, or_false, false_or, forall_eq_or_imp, forall_eq, implies_true, false_imp_iff, List.length_map, and_true, true_and, and_self, if_true, if_false, Bool.false_eq_true, reduceCtorEq, Nat.reduceAdd, Nat.reduceSub, Int.reduceLT, Int.reduceLE, Int.reduceNeg, decide_true, decide_false, decide_eq_true_eq, Bool.not_true, Bool.not_false, Bool.not_eq_true', decide_eq_false_iff_not, ite_true, ite_false]
    exact h
theorem w_law {ns : List Int} {s : S} {Q : S → Prop} {E : Exn → Prop} (hs : s = .d (.list (ns.map .int)) ∨ s = .ro (ns.map .int)) (hn : ns.length ≤ 63) (h : Q (.d (.bool true))) : m_law [s] Q E := by
  have key : rngOk 0 (if (if 3 < (ns.length : Int) then (3 : Int) else ns.length) > 1 then (if 3 < (ns.length : Int) then (3 : Int) else ns.length) else 1) := ⟨by decide, by decide, by split <;> (try split) <;> omega, by split <;> (try split) <;> omega⟩
  rcases hs with rfl | rfl <;> simp only [m_law, b_law, e_dCmb, e_dSortK, e_keyS, e_dSeq, e_dIfS, e_dRet, e_dRetN, e_dRetB, e_dAsg, e_dPar, e_dAsgG, e_dDrop, e_dNext, e_dBrk, e_dCont, e_dNever, e_dFor, e_dFreeze, e_dRetO, e_dNewL, e_dApp, e_dWhile, e_dVar, e_dC, e_dOp1, e_dOp2, e_dCB, e_dNil, e_dCons, e_dB, e_dAnd, e_dOr, e_dNot, e_dAndV, e_dOrV, e_dNotV, e_dIf, e_dTup, e_dLst, e_dIsI, e_dCall, e_dCallK, e_dChain, e_dSl, e_dPart, e_dNoPart, e_dYes, e_dFnCall, e_dCallF, e_dIter, e_dRng1, e_dRng2, e_dEnum, e_dComp, e_gN, e_gBw, e_gOw, e_gT, e_gTn, e_gTc, e_dDef, e_lamM, e_gL, onIB_i, onIB_b, bwS_b, lenBS_b, e_dCompB, plain_bowls, isOwn_bowls, inOp_li, inOp_ti, e_dLenSet, e_dCallD, e_dPl, e_dNewO, e_dCopyO, e_dNewD, e_dDisp, e_prs_nil, e_prs_cons, e_dSets, e_dSetsN, e_sets_cons, e_sets_nil, e_dAppPop, e_dGet2, e_dKeys, e_dVals, e_dItems, e_dPut, e_dFreezeD, e_dSumV, onDc_d, onDc_o, onDz_d, keyR_i, keyR_s, flatK_nil, merge1, e_dStar, e_dComp2, e_dPar3, e_dZip, repS_t, repS_l, ixS_t0, ixS_t1, onBs_tt, rg1S_t, rg1S_l, rg2S_t, rg2S_l, revS_t, revS_l, onDs_map, onDs_map0, startR, lamR, slotR, wipeR, hideR, fits, perm,
  plain_d, plain_bowl, plain_ro, onD_d, onI_i, onB_b, onSq_l, onSq_t, onSq_o, onSq_r, onLs_l, onLs_o, onLs_r, onSeq_l, onSeq_t, onSeq_r, onDs_nil, onDs_d, addS_i, addS_t, addS_l, intP_i, int2_i, negS_i, bix_i, one_s, two_s, isN_d, notN_d, eqS_ii, neS_ii, eqS_in, eqS_bb, ty_tuple_none, ty_tuple_bool, ty_tuple_int, ty_tuple_str, ty_tuple_tuple, ty_tuple_list, ty_tuple_dict, ty_list_none, ty_list_bool, ty_list_int, ty_list_str, ty_list_tuple, ty_list_list, ty_list_dict, ty_bool_none, ty_bool_bool, ty_bool_int, ty_bool_str, ty_bool_tuple, ty_bool_list, ty_bool_dict, ty_int_none, ty_int_bool, ty_int_int, ty_int_str, ty_int_tuple, ty_int_list, ty_int_dict, ty_str_none, ty_str_bool, ty_str_int, ty_str_str, ty_str_tuple, ty_str_list, ty_str_dict, ty_dict_none, ty_dict_bool, ty_dict_int, ty_dict_str, ty_dict_tuple, ty_dict_list, ty_dict_dict, not_true_eq_false, not_false_eq_true, Bool.and_true, Bool.true_and, Bool.and_false, Bool.false_and, Bool.or_true, Bool.true_or, Bool.or_false, Bool.false_or, Bool.true_eq_false, Int.toNat_natCast, isOwn_d, isOwn_bowl, isOwn_ro, isOwn_fn, onIs_map, onBs_map,
  List.map_cons, List.map_nil, List.length_cons, List.length_nil, List.replicate_succ, List.replicate_zero, List.cons_append, List.nil_append, List.append_nil, List.getElem?_cons_zero, List.getElem?_cons_succ, List.set_cons_zero, List.set_cons_succ, List.filterMap_cons, List.filterMap_nil, Option.map, List.mem_cons, List.not_mem_nil, or_false, false_or, forall_eq_or_imp, forall_eq, implies_true, false_imp_iff, List.length_map, and_true, true_and, and_self, if_true, if_false, Bool.false_eq_true, reduceCtorEq, Nat.reduceAdd, Nat.reduceSub, Int.reduceLT, Int.reduceLE, Int.reduceNeg, decide_true, decide_false, decide_eq_true_eq, Bool.not_true, Bool.not_false, Bool.not_eq_true', decide_eq_false_iff_not, ite_true, ite_false]
  all_goals
    refine ⟨key, ?_⟩
    refine compL_each (fun d => d = .bool true) (by rw [rngS_len]; refine sizeLine_ge ?_; split <;> (try split) <;> omega) (fun s F Z hs hF => ?_) fun ds hlen hall => ?_
    · obtain ⟨i, hi, rfl⟩ := rngS_mem hs
      simp only [e_dCmb, e_dSortK, e_keyS, e_dSeq, e_dIfS, e_dRet, e_dRetN, e_dRetB, e_dAsg, e_dPar, e_dAsgG, e_dDrop, e_dNext, e_dBrk, e_dCont, e_dNever, e_dFor, e_dFreeze, e_dRetO, e_dNewL, e_dApp, e_dWhile, e_dVar, e_dC, e_dOp1, e_dOp2, e_dCB, e_dNil, e_dCons, e_dB, e_dAnd, e_dOr, e_dNot, e_dAndV, e_dOrV, e_dNotV, e_dIf, e_dTup, e_dLst, e_dIsI, e_dCall, e_dCallK, e_dChain, e_dSl, e_dPart, e_dNoPart, e_dYes, e_dFnCall, e_dCallF, e_dIter, e_dRng1, e_dRng2, e_dEnum, e_dComp, e_gN, e_gBw, e_gOw, e_gT, e_gTn, e_gTc, e_dDef, e_lamM, e_gL, onIB_i, onIB_b, bwS_b, lenBS_b, e_dCompB, plain_bowls, isOwn_bowls, inOp_li, inOp_ti, e_dLenSet, e_dCallD, e_dPl, e_dNewO, e_dCopyO, e_dNewD, e_dDisp, e_prs_nil, e_prs_cons, e_dSets, e_dSetsN, e_sets_cons, e_sets_nil, e_dAppPop, e_dGet2, e_dKeys, e_dVals, e_dItems, e_dPut, e_dFreezeD, e_dSumV, onDc_d, onDc_o, onDz_d, keyR_i, keyR_s, flatK_nil, merge1, e_dStar, e_dComp2, e_dPar3, e_dZip, repS_t, repS_l, ixS_t0, ixS_t1, onBs_tt, rg1S_t, rg1S_l, rg2S_t, rg2S_l, revS_t, revS_l, onDs_map, onDs_map0, startR, lamR, slotR, wipeR, hideR, fits, perm,
  plain_d, plain_bowl, plain_ro, onD_d, onI_i, onB_b, onSq_l, onSq_t, onSq_o, onSq_r, onLs_l, onLs_o, onLs_r, onSeq_l, onSeq_t, onSeq_r, onDs_nil, onDs_d, addS_i, addS_t, addS_l, intP_i, int2_i, negS_i, bix_i, one_s, two_s, isN_d, notN_d, eqS_ii, neS_ii, eqS_in, eqS_bb, ty_tuple_none, ty_tuple_bool, ty_tuple_int, ty_tuple_str, ty_tuple_tuple, ty_tuple_list, ty_tuple_dict, ty_list_none, ty_list_bool, ty_list_int, ty_list_str, ty_list_tuple, ty_list_list, ty_list_dict, ty_bool_none, ty_bool_bool, ty_bool_int, ty_bool_str, ty_bool_tuple, ty_bool_list, ty_bool_dict, ty_int_none, ty_int_bool, ty_int_int, ty_int_str, ty_int_tuple, ty_int_list, ty_int_dict, ty_str_none, ty_str_bool, ty_str_int, ty_str_str, ty_str_tuple, ty_str_list, ty_str_dict, ty_dict_none, ty_dict_bool, ty_dict_int, ty_dict_str, ty_dict_tuple, ty_dict_list, ty_dict_dict, not_true_eq_false, not_false_eq_true, Bool.and_true, Bool.true_and, Bool.and_false, Bool.false_and, Bool.or_true, Bool.true_or, Bool.or_false, Bool.false_or, Bool.true_eq_false, Int.toNat_natCast, isOwn_d, isOwn_bowl, isOwn_ro, isOwn_fn, onIs_map, onBs_map,
  List.map_cons, List.map_nil, List.length_cons, List.length_nil, List.replicate_succ, List.replicate_zero, List.cons_append, List.nil_append, List.append_nil, List.getElem?_cons_zero, List.getElem?_cons_succ, List.set_cons_zero, List.set_cons_succ, List.filterMap_cons, List.filterMap_nil, Option.map, List.mem_cons, List.not_mem_nil, or_false, false_or, forall_eq_or_imp, forall_eq, implies_true, false_imp_iff, List.length_map, and_true, true_and, and_self, if_true, if_false, Bool.false_eq_true, reduceCtorEq, Nat.reduceAdd, Nat.reduceSub, Int.reduceLT, Int.reduceLE, Int.reduceNeg, decide_true, decide_false, decide_eq_true_eq, Bool.not_true, Bool.not_false, Bool.not_eq_true', decide_eq_false_iff_not, ite_true, ite_false]
      refine w__law_bowl (ns := ns) (by simp) (by omega) ?_
      simp only [e_dCmb, e_dSortK, e_keyS, e_dSeq, e_dIfS, e_dRet, e_dRetN, e_dRetB, e_dAsg, e_dPar, e_dAsgG, e_dDrop, e_dNext, e_dBrk, e_dCont, e_dNever, e_dFor, e_dFreeze, e_dRetO, e_dNewL, e_dApp, e_dWhile, e_dVar, e_dC, e_dOp1, e_dOp2, e_dCB, e_dNil, e_dCons, e_dB, e_dAnd, e_dOr, e_dNot, e_dAndV, e_dOrV, e_dNotV, e_dIf, e_dTup, e_dLst, e_dIsI, e_dCall, e_dCallK, e_dChain, e_dSl, e_dPart, e_dNoPart, e_dYes, e_dFnCall, e_dCallF, e_dIter, e_dRng1, e_dRng2, e_dEnum, e_dComp, e_gN, e_gBw, e_gOw, e_gT, e_gTn, e_gTc, e_dDef, e_lamM, e_gL, onIB_i, onIB_b, bwS_b, lenBS_b, e_dCompB, plain_bowls, isOwn_bowls, inOp_li, inOp_ti, e_dLenSet, e_dCallD, e_dPl, e_dNewO, e_dCopyO, e_dNewD, e_dDisp, e_prs_nil, e_prs_cons, e_dSets, e_dSetsN, e_sets_cons, e_sets_nil, e_dAppPop, e_dGet2, e_dKeys, e_dVals, e_dItems, e_dPut, e_dFreezeD, e_dSumV, onDc_d, onDc_o, onDz_d, keyR_i, keyR_s, flatK_nil, merge1, e_dStar, e_dComp2, e_dPar3, e_dZip, repS_t, repS_l, ixS_t0, ixS_t1, onBs_tt, rg1S_t, rg1S_l, rg2S_t, rg2S_l, revS_t, revS_l, onDs_map, onDs_map0, startR, lamR, slotR, wipeR, hideR, fits, perm,
  plain_d, plain_bowl, plain_ro, onD_d, onI_i, onB_b, onSq_l, onSq_t, onSq_o, onSq_r, onLs_l, onLs_o, onLs_r, onSeq_l, onSeq_t, onSeq_r, onDs_nil, onDs_d, addS_i, addS_t, addS_l, intP_i, int2_i, negS_i, bix_i, one_s, two_s, isN_d, notN_d, eqS_ii, neS_ii, eqS_in, eqS_bb, ty_tuple_none, ty_tuple_bool, ty_tuple_int, ty_tuple_str, ty_tuple_tuple, ty_tuple_list, ty_tuple_dict, ty_list_none, ty_list_bool, ty_list_int, ty_list_str, ty_list_tuple, ty_list_list, ty_list_dict, ty_bool_none, ty_bool_bool, ty_bool_int, ty_bool_str, ty_bool_tuple, ty_bool_list, ty_bool_dict, ty_int_none, ty_int_bool, ty_int_int, ty_int_str, ty_int_tuple, ty_int_list, ty_int_dict, ty_str_none, ty_str_bool, ty_str_int, ty_str_str, ty_str_tuple, ty_str_list, ty_str_dict, ty_dict_none, ty_dict_bool, ty_dict_int, ty_dict_str, ty_dict_tuple, ty_dict_list, ty_dict_dict, not_true_eq_false, not_false_eq_true, Bool.and_true, Bool.true_and, Bool.and_false, Bool.false_and, Bool.or_true, Bool.true_or, Bool.or_false, Bool.false_or, Bool.true_eq_false, Int.toNat_natCast, isOwn_d, isOwn_bowl, isOwn_ro, isOwn_fn, onIs_map, onBs_map,
  List.map_cons, List.map_nil, List.length_cons, List.length_nil, List.replicate_succ, List.replicate_zero, List.cons_append, List.nil_append, List.append_nil, List.getElem?_cons_zero, List.getElem?_cons_succ, List.set_cons_zero, List.set_cons_succ, List.filterMap_cons, List.filterMap_nil, Option.map, List.mem_cons, List.not_mem_nil, or_false, false_or, forall_eq_or_imp, forall_eq, implies_true, false_imp_iff, List.length_map, and_true, true_and, and_self, if_true, if_false, Bool.false_eq_true, reduceCtorEq, Nat.reduceAdd, Nat.reduceSub, Int.reduceLT, Int.reduceLE, Int.reduceNeg, decide_true, decide_false, decide_eq_true_eq, Bool.not_true, Bool.not_false, Bool.not_eq_true', decide_eq_false_iff_not, ite_true, ite_false]
      refine w__law_right ?_
      simp only [e_dCmb, e_dSortK, e_keyS, e_dSeq, e_dIfS, e_dRet, e_dRetN, e_dRetB, e_dAsg, e_dPar, e_dAsgG, e_dDrop, e_dNext, e_dBrk, e_dCont, e_dNever, e_dFor, e_dFreeze, e_dRetO, e_dNewL, e_dApp, e_dWhile, e_dVar, e_dC, e_dOp1, e_dOp2, e_dCB, e_dNil, e_dCons, e_dB, e_dAnd, e_dOr, e_dNot, e_dAndV, e_dOrV, e_dNotV, e_dIf, e_dTup, e_dLst, e_dIsI, e_dCall, e_dCallK, e_dChain, e_dSl, e_dPart, e_dNoPart, e_dYes, e_dFnCall, e_dCallF, e_dIter, e_dRng1, e_dRng2, e_dEnum, e_dComp, e_gN, e_gBw, e_gOw, e_gT, e_gTn, e_gTc, e_dDef, e_lamM, e_gL, onIB_i, onIB_b, bwS_b, lenBS_b, e_dCompB, plain_bowls, isOwn_bowls, inOp_li, inOp_ti, e_dLenSet, e_dCallD, e_dPl, e_dNewO, e_dCopyO, e_dNewD, e_dDisp, e_prs_nil, e_prs_cons, e_dSets, e_dSetsN, e_sets_cons, e_sets_nil, e_dAppPop, e_dGet2, e_dKeys, e_dVals, e_dItems, e_dPut, e_dFreezeD, e_dSumV, onDc_d, onDc_o, onDz_d, keyR_i, keyR_s, flatK_nil, merge1, e_dStar, e_dComp2, e_dPar3, e_dZip, repS_t, repS_l, ixS_t0, ixS_t1, onBs_tt, rg1S_t, rg1S_l, rg2S_t, rg2S_l, revS_t, revS_l, onDs_map, onDs_map0, startR, lamR, slotR, wipeR, hideR, fits, perm,
  plain_d, plain_bowl, plain_ro, onD_d, onI_i, onB_b, onSq_l, onSq_t, onSq_o, onSq_r, onLs_l, onLs_o, onLs_r, onSeq_l, onSeq_t, onSeq_r, onDs_nil, onDs_d, addS_i, addS_t, addS_l, intP_i, int2_i, negS_i, bix_i, one_s, two_s, isN_d, notN_d, eqS_ii, neS_ii, eqS_in, eqS_bb, ty_tuple_none, ty_tuple_bool, ty_tuple_int, ty_tuple_str, ty_tuple_tuple, ty_tuple_list, ty_tuple_dict, ty_list_none, ty_list_bool, ty_list_int, ty_list_str, ty_list_tuple, ty_list_list, ty_list_dict, ty_bool_none, ty_bool_bool, ty_bool_int, ty_bool_str, ty_bool_tuple, ty_bool_list, ty_bool_dict, ty_int_none, ty_int_bool, ty_int_int, ty_int_str, ty_int_tuple, ty_int_list, ty_int_dict, ty_str_none, ty_str_bool, ty_str_int, ty_str_str, ty_str_tuple, ty_str_list, ty_str_dict, ty_dict_none, ty_dict_bool, ty_dict_int, ty_dict_str, ty_dict_tuple, ty_dict_list, ty_dict_dict, not_true_eq_false, not_false_eq_true, Bool.and_true, Bool.true_and, Bool.and_false, Bool.false_and, Bool.or_true, Bool.true_or, Bool.or_false, Bool.false_or, Bool.true_eq_false, Int.toNat_natCast, isOwn_d, isOwn_bowl, isOwn_ro, isOwn_fn, onIs_map, onBs_map,
  List.map_cons, List.map_nil, List.length_cons, List.length_nil, List.replicate_succ, List.replicate_zero, List.cons_append, List.nil_append, List.append_nil, List.getElem?_cons_zero, List.getElem?_cons_succ, List.set_cons_zero, List.set_cons_succ, List.filterMap_cons, List.filterMap_nil, Option.map, List.mem_cons, List.not_mem_nil, or_false, false_or, forall_eq_or_imp, forall_eq, implies_true, false_imp_iff, List.length_map, and_true, true_and, and_self, if_true, if_false, Bool.false_eq_true, reduceCtorEq, Nat.reduceAdd, Nat.reduceSub, Int.reduceLT, Int.reduceLE, Int.reduceNeg, decide_true, decide_false, decide_eq_true_eq, Bool.not_true, Bool.not_false, Bool.not_eq_true', decide_eq_false_iff_not, ite_true, ite_false]
      exact hF _ rfl
    · rw [all_true hall, onBs_map]
      have e : (List.replicate ds.length true).all id = true := by simp
      rw [e]
      exact h
end Lw
namespace PySem.F
theorem slot_cmb_iter : Slot "itertools.combinations" "__iter__" "itertools.combinations.__iter__" := .of (owner := "itertools.combinations") (n := "__iter__") (by rw [typeLookup_type, builtinLookup_eq_fast]; kernel_rfl) (by decide +kernel) (by decide +kernel) (by decide +kernel) (by first | exact .inl (by decide +kernel) | exact .inr (by decide +kernel)) (by rw [isSubtype_type]; kernel_rfl)
theorem slot_cmb_next : Slot "itertools.combinations" "__next__" "itertools.combinations.__next__" := .of (owner := "itertools.combinations") (n := "__next__") (by rw [typeLookup_type, builtinLookup_eq_fast]; kernel_rfl) (by decide +kernel) (by decide +kernel) (by decide +kernel) (by first | exact .inl (by decide +kernel) | exact .inr (by decide +kernel)) (by rw [isSubtype_type]; kernel_rfl)
theorem slot_cmb_init : Slot "itertools.combinations" "__init__" "object.__init__" := .of (owner := "object") (n := "__init__") (by rw [typeLookup_type, builtinLookup_eq_fast]; kernel_rfl) (by decide +kernel) (by decide +kernel) (by decide +kernel) (by first | exact .inl (by decide +kernel) | exact .inr (by decide +kernel)) (by rw [isSubtype_type]; kernel_rfl)
theorem entry_cmb_next : entryFor table "itertools.combinations.__next__" = some Builtin.«itertools.combinations.__next__» := entryFor_of_tree (by kernel_rfl)
theorem entry_cmb_new : entryFor table "itertools.combinations.__new__" = some Builtin.«itertools.combinations.__new__» := entryFor_of_tree (by kernel_rfl)
theorem entry_cmb_iter : entryFor table "itertools.combinations.__iter__" = some Builtin.«dict_keyiterator.__iter__» := entryFor_alias (id' := "dict_keyiterator.__iter__") (by kernel_rfl) (by first | rfl | decide +kernel | (unfold String.splitOn; simp +decide [String.splitOnAux])) (by decide +kernel) (by kernel_rfl)
theorem mro_cmb : mroOf (.type "itertools.combinations") = pure [.type "itertools.combinations", .type "object"] := by rw [mroOf_type]; kernel_rfl
theorem lookup_cmb_new : typeLookup (.type "itertools.combinations") "__new__" = pure (some (.builtin "itertools.combinations.__new__")) := by rw [typeLookup_type, builtinLookup_eq_fast]; kernel_rfl
theorem called_cmb : TypeCalled "itertools.combinations" "itertools.combinations.__new__" "object.__init__" := ⟨by decide +kernel, by decide +kernel, ⟨_, _, mro_cmb⟩, madeBy_type mro_cmb lookup_cmb_new (by decide +kernel), by decide +kernel, by rw [isSubtype_type]; kernel_rfl, slot_cmb_init⟩
theorem typeCall_cmb_2 (a b : Value) : checkTypeCall "itertools.combinations" ⟨[a, b], []⟩ = pure () := by kernel_rfl
theorem newCall_cmb_2 (a b : Value) : checkBuiltinCall "itertools.combinations.__new__" ⟨[.type "itertools.combinations", a, b], []⟩ = pure () := by kernel_rfl
theorem owner_cmb : Manifest.owners.lookup (String.ofList ['s', 'n', 'o', 'i', 't', 'a', 'n', 'i', 'b', 'm', 'o', 'c', '.', 's', 'l', 'o', 'o', 't', 'r', 'e', 't', 'i'].reverse) = some Manifest.sig_itertools_combinations := by kernel_rfl
theorem args_cmb_next (a : Value) : argsOk "itertools.combinations.__next__" ⟨[a], []⟩ := by unfold argsOk; rw [signature?_of (id := "itertools.combinations.__next__") (n := ['_', '_', 't', 'x', 'e', 'n', '_', '_']) (o := ['s', 'n', 'o', 'i', 't', 'a', 'n', 'i', 'b', 'm', 'o', 'c', '.', 's', 'l', 'o', 'o', 't', 'r', 'e', 't', 'i']) (by kernel_rfl) owner_cmb]; kernel_rfl
theorem args_cmb_iter (a : Value) : argsOk "itertools.combinations.__iter__" ⟨[a], []⟩ := by unfold argsOk; rw [signature?_of (id := "itertools.combinations.__iter__") (n := ['_', '_', 'r', 'e', 't', 'i', '_', '_']) (o := ['s', 'n', 'o', 'i', 't', 'a', 'n', 'i', 'b', 'm', 'o', 'c', '.', 's', 'l', 'o', 'o', 't', 'r', 'e', 't', 'i']) (by kernel_rfl) owner_cmb]; kernel_rfl
end PySem.F
namespace DL
open PySem PySem.Spec PyProof.Rows L2
open AutoSeq1 (wpAny_loadPart')
theorem cat_cmb : ("itertools." ++ "combinations" : String) = "itertools.combinations" := by decide +kernel
theorem sub_cmb : isSubtype (.type "itertools.combinations") (.type ("itertools." ++ "combinations")) = pure true := by rw [cat_cmb, isSubtype_type]; kernel_rfl
theorem bind_cmb (a b : Value) : Builtin.Itertools.itBindNamed "combinations" ["iterable", "r"] 2 2 [a, b] [] = pure [some a, some b] := by kernel_rfl
def cmbO (pl : Addr) (st : Int) (old : Value) (ix : List Nat) : Obj := { cls := .type "itertools.combinations", dict := none, data := .fields ([.ref pl, rawInt st, old] ++ ix.map fun (j : Nat) => rawInt (j : Int)).toArray, slots := #[] }
theorem meets_cmb_new (l : Addr) (T : String) (o : Obj) (items : Array Value) (n r : Nat) (t : Tok) (hT : T = "list" ∨ T = "tuple") (hc : o.cls = .type T) (hd : o.data = .seq items n) (hsz : items.size ≤ sizeLine) (hr : r ≤ 1000) :
    Meets (Builtin.«itertools.combinations.__new__» ⟨[.type "itertools.combinations", .ref l, .int (r : Int) t], []⟩) (fun _ R s => s.heap.get? l = some o ∧
      ∀ h' : Heap, (∀ b u, s.heap.get? b = some u → h'.get? b = some u) → R (.ok (.ret (.ref (h'.push { cls := .type "tuple", data := .seq items }).objs.size)))
        { s with heap := (h'.push { cls := .type "tuple", data := .seq items }).push (cmbO h'.objs.size (if r > items.size then 2 else 0) .none (List.range r)) }) :=
  .of_wp fun prog w A R s h => by
    obtain ⟨hp, g, d, tk, os⟩ := s
    obtain ⟨hl, h⟩ := h
    have hsub := sub_cmb
    have f1 := AutoSeq1.idx_int
    have hb := bind_cmb
    wp_walk using wpAny_loadPart' hl
    have c0 : (decide ((r : Int) < -(2 ^ 63)) || decide ((r : Int) ≥ 2 ^ 63)) = false := by
      rw [Bool.or_eq_false_iff]
      exact ⟨decide_eq_false (by omega), decide_eq_false (by omega)⟩
    refine wpAny_ite_false (decide_eq_false (by rw [c0]; exact Bool.false_ne_true)) ?_
    refine wpAny_pure ?_
    refine wpAny_bind (wpAny_collect_seq (T := T) l hT hl hc hd (fun h' hk => ?_) hsz)
    refine wpAny_ite_false (decide_eq_false (by omega)) ?_
    refine wpAny_ite_false (decide_eq_false (by unfold Builtin.Itertools.itTooMany; simp; omega)) ?_
    refine wpAny_bind (wpAny_newTuple ?_ (by simpa using hsz))
    refine wpAny_pure ?_
    have q := h h' hk
    refine wpAny_bind ?_
    unfold Builtin.Itertools.itNewRecord
    refine wpAny_ite_true (by decide +kernel) ?_
    refine wpAny_newObj_type ?_ (by
      have hs : 1000000 ≤ sizeLine := by decide
      show _ ≤ _
      simp
      omega)
    refine wpAny_pure ⟨_, rfl, ?_⟩
    simp only [Array.toArray_toList, Array.length_toList, Int.toNat_natCast]
    exact q
end DL
namespace DL
open PySem PySem.Spec PyProof.Rows L2
section
variable {prog : Program} {w : World} {A : Around} {E : Value → Shared → Prop} {s : Shared}
abbrev tupO (xs : Array Value) : Obj := { cls := .type "tuple", data := .seq xs }
abbrev pickC (items : Array Value) (ix : List Nat) : List Value := ix.map fun j => items.getD j .none
theorem wpAny_numbers {c pl : Addr} {st : Int} {old : Value} {ix : List Nat} {Q : List Nat → Shared → Prop} (hc : s.heap.get? c = some (cmbO pl st old ix)) (h : Q ix s) : wpAny (model prog w) A (Builtin.Itertools.itNumbersFrom (.ref c) 3) Q E s := by
  show wpAny _ _ (load c >>= _) _ _ s
  refine wpAny_bind (wpAny_load hc (wpAny_pure ?_))
  have e : ((([Value.ref pl, rawInt st, old] ++ ix.map fun (j : Nat) => rawInt (j : Int)).toArray.toList.drop 3).map fun | .int n _ => n.toNat | _ => 0) = ix := by
    simp [rawInt, Function.comp_def]
  show Q (((([Value.ref pl, rawInt st, old] ++ ix.map fun (j : Nat) => rawInt (j : Int)).toArray.toList.drop 3).map fun | .int n _ => n.toNat | _ => 0)) s
  rw [e]
  exact h
theorem wpAny_intField1 {c pl : Addr} {st : Int} {old : Value} {ix : List Nat} {Q : Int → Shared → Prop} (hc : s.heap.get? c = some (cmbO pl st old ix)) (h : Q st s) : wpAny (model prog w) A (Builtin.Itertools.itIntField (.ref c) 1) Q E s := by
  show wpAny _ _ (field (.ref c) 1 >>= _) _ _ s
  exact wpAny_bind (wpAny_field hc rfl (x := rawInt st) rfl (wpAny_pure h))
theorem wpAny_poolItems {pl : Addr} {items : Array Value} {Q : Array Value → Shared → Prop} (hp : s.heap.get? pl = some (tupO items)) (h : Q items s) : wpAny (model prog w) A (Builtin.Itertools.itPoolItems (.ref pl)) Q E s := by
  show wpAny _ _ (seqItems? (.ref pl) >>= _) _ _ s
  exact wpAny_bind (wpAny_seqItems hp rfl (wpAny_pure h))
theorem wpAny_setState {c pl : Addr} {st : Int} {old : Value} {ix : List Nat} {y : Int} {Q : Unit → Shared → Prop} (hc : s.heap.get? c = some (cmbO pl st old ix))
    (h : ∀ h', h'.get? c = some (cmbO pl y old ix) → Heap.SameBut c s.heap h' → Q () { s with heap := h' }) : wpAny (model prog w) A (setField (.ref c) 1 (rawInt y)) Q E s := by
  refine wpAny_setField_rec hc (by simp) fun h' e sb => h h' ?_ sb
  rw [e]
  rfl
theorem wpAny_setLast {c pl : Addr} {st : Int} {old y : Value} {ix : List Nat} {Q : Unit → Shared → Prop} (hc : s.heap.get? c = some (cmbO pl st old ix))
    (h : ∀ h', h'.get? c = some (cmbO pl st y ix) → Heap.SameBut c s.heap h' → Q () { s with heap := h' }) : wpAny (model prog w) A (setField (.ref c) 2 y) Q E s := by
  refine wpAny_setField_rec hc (by simp) fun h' e sb => h h' ?_ sb
  rw [e]
  rfl
theorem wpAny_setNumbers {c pl : Addr} {st : Int} {old : Value} {ix jx : List Nat} {Q : Unit → Shared → Prop} (hz : jx.length ≤ 1000) (hc : s.heap.get? c = some (cmbO pl st old ix))
    (h : ∀ h', h'.get? c = some (cmbO pl st old jx) → Heap.SameBut c s.heap h' → Q () { s with heap := h' }) : wpAny (model prog w) A (Builtin.Itertools.itSetNumbersFrom (.ref c) 3 jx) Q E s := by
  refine wpAny_updateFields hc rfl (h _ ?_ (Heap.SameBut.update ..)) ?_
  · rw [Heap.get?_update_self _ hc rfl]
    simp [Obj.mapFields, cmbO]
  · have : 1000000 ≤ sizeLine := by decide
    simp
    omega
end
end DL
namespace DL
open PySem PySem.Spec PyProof.Rows L2
section
variable {prog : Program} {w : World} {A : Around} {E : Value → Shared → Prop} {s : Shared}
theorem cmb_hand {c pl : Addr} {old : Value} {jx : List Nat} {items : Array Value} {Q : Value → Shared → Prop} (hne : pl ≠ c) (hz : jx.length ≤ 1000)
    (hc : s.heap.get? c = some (cmbO pl 1 old jx)) (hp : s.heap.get? pl = some (tupO items))
    (h : ∀ h', h'.get? c = some (cmbO pl 1 (.ref s.heap.objs.size) jx) → h'.get? s.heap.objs.size = some (tupO (pickC items jx).toArray) → h'.objs.size = s.heap.objs.size + 1 →
      (∀ b o, b ≠ c → s.heap.get? b = some o → h'.get? b = some o) → Q (.ref s.heap.objs.size) { s with heap := h' }) :
    wpAny (model prog w) A ((Builtin.Itertools.itPoolItems (.ref pl) >>= fun xs => newTuple (jx.map fun j => xs.getD j .none)) >>= fun v => field (.ref c) 2 >>= fun u => setField (.ref c) 2 v >>= fun _ => letGo [u] [v] >>= fun _ => ret v) (fun fin s' => ∃ v, fin = .done (.ret v) ∧ Q v s') E s := by
  refine wpAny_bind (wpAny_bind (wpAny_poolItems hp (wpAny_newTuple ?_ (by
    have : 1000000 ≤ sizeLine := by decide
    simp
    omega))))
  have hlt : c < s.heap.objs.size := Heap.lt_size hc
  have hc1 : (s.heap.push (tupO (pickC items jx).toArray)).get? c = some (cmbO pl 1 old jx) := Heap.get?_push_of_some _ hc
  refine wpAny_bind (wpAny_field hc1 rfl (x := old) rfl ?_)
  refine wpAny_bind (wpAny_setLast hc1 fun h' hc2 sb => ?_)
  refine wpAny_bind (wpAny_letGo ?_)
  refine wpAny_pure ⟨_, rfl, ?_⟩
  refine h h' hc2 ?_ ?_ fun b o hb e => ?_
  · exact (sb.2 _ (Nat.ne_of_gt hlt)).trans (Heap.get?_push_size _ rfl)
  · rw [sb.1, Heap.size_push]
  · exact (sb.2 b hb).trans (Heap.get?_push_of_some _ e)
theorem cmb_next_item {c pl : Addr} {st : Int} {old : Value} {ix jx : List Nat} {items : Array Value} {Q : Value → Shared → Prop} (hne : pl ≠ c) (hz : jx.length ≤ 1000)
    (hc : s.heap.get? c = some (cmbO pl st old ix)) (hp : s.heap.get? pl = some (tupO items)) (hs : (st = 0 ∧ jx = ix) ∨ (st = 1 ∧ stC items.size ix = some jx))
    (h : ∀ h', h'.get? c = some (cmbO pl 1 (.ref s.heap.objs.size) jx) → h'.get? s.heap.objs.size = some (tupO (pickC items jx).toArray) → h'.objs.size = s.heap.objs.size + 1 →
      (∀ b o, b ≠ c → s.heap.get? b = some o → h'.get? b = some o) → Q (.ref s.heap.objs.size) { s with heap := h' }) :
    wpAny (model prog w) A (Builtin.«itertools.combinations.__next__» ⟨[.ref c], []⟩) (fun fin s' => ∃ v, fin = .done (.ret v) ∧ Q v s') E s := by
  show wpAny _ _ (field (.ref c) 0 >>= _) _ _ _
  refine wpAny_bind (wpAny_field hc rfl (x := .ref pl) rfl ?_)
  show wpAny _ _ (Builtin.Itertools.itNumbersFrom (.ref c) 3 >>= _) _ _ _
  refine wpAny_bind (wpAny_numbers hc ?_)
  show wpAny _ _ (Builtin.Itertools.itIntField (.ref c) 1 >>= _) _ _ _
  refine wpAny_bind (wpAny_intField1 hc ?_)
  have fin : ∀ h1, h1.get? c = some (cmbO pl 1 old jx) → Heap.SameBut c s.heap h1 →
      wpAny (model prog w) A ((Builtin.Itertools.itPoolItems (.ref pl) >>= fun xs => newTuple (jx.map fun j => xs.getD j .none)) >>= fun v => field (.ref c) 2 >>= fun u => setField (.ref c) 2 v >>= fun _ => letGo [u] [v] >>= fun _ => ret v) (fun fin s' => ∃ v, fin = .done (.ret v) ∧ Q v s') E { s with heap := h1 } := fun h1 hc1 sb1 => by
    refine cmb_hand (s := { s with heap := h1 }) hne hz hc1 ((sb1.2 _ hne).trans hp) fun h' a1 a2 a3 a4 => ?_
    have es : ({ s with heap := h1 } : Shared).heap.objs.size = s.heap.objs.size := sb1.1
    rw [es] at a1 a2 a3 ⊢
    exact h h' a1 a2 a3 fun b o hb e => a4 b o hb ((sb1.2 b hb).trans e)
  rcases hs with ⟨rfl, rfl⟩ | ⟨rfl, e⟩
  · show wpAny _ _ (setField (.ref c) 1 (rawInt 1) >>= _) _ _ _
    refine wpAny_bind (wpAny_setState hc fun h1 hc1 sb1 => ?_)
    exact fin h1 hc1 sb1
  · show wpAny _ _ (Builtin.Itertools.itPoolItems (.ref pl) >>= _) _ _ _
    refine wpAny_bind (wpAny_poolItems hp ?_)
    split
    · rename_i m he
      have he : stC items.size ix = some m := he
      rw [e] at he
      cases he
      refine wpAny_bind (wpAny_setNumbers hz hc fun h1 hc1 sb1 => ?_)
      exact fin h1 hc1 sb1
    · rename_i he
      have he : stC items.size ix = none := he
      rw [e] at he
      cases he
theorem cmb_next_end {c pl : Addr} {st : Int} {old : Value} {ix : List Nat} {items : Array Value} {Q : Fin → Shared → Prop} (hh : A.handled = none) (hne : pl ≠ c)
    (hc : s.heap.get? c = some (cmbO pl st old ix)) (hp : s.heap.get? pl = some (tupO items)) (hs : st = 2 ∨ (st = 1 ∧ stC items.size ix = none))
    (hE : ∀ h' e, (∀ b o, b ≠ c → s.heap.get? b = some o → h'.get? b = some o) → (∃ o, h'.get? e = some o ∧ o.cls = .type "StopIteration") → E (.ref e) { s with heap := h' }) :
    wpAny (model prog w) A (Builtin.«itertools.combinations.__next__» ⟨[.ref c], []⟩) Q E s := by
  have stop : ∀ h1 (t : Fin → Sem Fin), Heap.ExtBut c s.heap h1 → wpAny (model prog w) A (Builtin.Itertools.itStop (α := Fin)) Q E { s with heap := h1 } := fun h1 t hk => by
    unfold Builtin.Itertools.itStop
    refine wpAny_bind ?_
    simp only [newExc, newTuple]
    refine wpAny_bind (wpAny_newObj_type ?_ (by size_fits))
    refine wpAny_bind (m := firstArgMember _ _) (wpAny_of_eq (a := Value.none) (by first | rfl | (simp only [firstArgMember]; rfl)) ?_)
    refine wpAny_newObj_type ?_ (by size_fits)
    simp only [raiseNew]
    refine wpAny_bind (wpAny_handled ?_)
    first | rw [show A.in1.handled = none from hh] | rw [hh]
    refine wpAny_bind (wpAny_pure (wpAny_throw ?_))
    exact hE _ _ ((hk.push _).push _) ⟨_, Heap.get?_push_size _ rfl, rfl⟩
  show wpAny _ _ (field (.ref c) 0 >>= _) _ _ _
  refine wpAny_bind (wpAny_field hc rfl (x := .ref pl) rfl ?_)
  show wpAny _ _ (Builtin.Itertools.itNumbersFrom (.ref c) 3 >>= _) _ _ _
  refine wpAny_bind (wpAny_numbers hc ?_)
  show wpAny _ _ (Builtin.Itertools.itIntField (.ref c) 1 >>= _) _ _ _
  refine wpAny_bind (wpAny_intField1 hc ?_)
  rcases hs with rfl | ⟨rfl, e⟩
  · show wpAny _ _ (rule _ >>= _) _ _ _
    refine wpAny_bind (wpAny_rule ?_)
    exact stop s.heap pure (fun b o hb e => e)
  · show wpAny _ _ (Builtin.Itertools.itPoolItems (.ref pl) >>= _) _ _ _
    refine wpAny_bind (wpAny_poolItems hp ?_)
    split
    · rename_i m he
      have he : stC items.size ix = some m := he
      rw [e] at he
      cases he
    · refine wpAny_bind (wpAny_setState hc fun h1 hc1 sb1 => ?_)
      exact stop h1 pure sb1.extBut
end
end DL
namespace DL
open PySem PySem.Spec PyProof.Rows L2
/-! ### combinations, walked -/
def Itcm (xs : List V) (r : Nat) : It :=
  ⟨fun i _ => i < (cmb 0 xs.length r).length, fun i H v H' => ∃ T ix, v = .ref T ∧ H T = none ∧ (cmb 0 xs.length r)[i]? = some ix ∧ H' = upd H T (.tup (ix.map fun j => xs.getD j .non)), fun i _ => (cmb 0 xs.length r).length ≤ i⟩
/-- how an iterator over choices stands ahead of turn i -/
def CmSt (n r i : Nat) (st : Int) (ix : List Nat) : Prop := (i = 0 ∧ r ≤ n ∧ st = 0 ∧ ix = List.range r) ∨ (i = 0 ∧ n < r ∧ st = 2) ∨ (0 < i ∧ st = 1 ∧ (cmb 0 n r)[i - 1]? = some ix)
theorem CmSt.step {n r i : Nat} {st : Int} {ix : List Nat} (h : CmSt n r i st ix) (hi : i < (cmb 0 n r).length) : ∃ jx, (cmb 0 n r)[i]? = some jx ∧ ((st = 0 ∧ jx = ix) ∨ (st = 1 ∧ stC n ix = some jx)) := by
  rcases h with ⟨rfl, hr, rfl, rfl⟩ | ⟨rfl, hr, rfl⟩ | ⟨hi0, rfl, e⟩
  · have q := cmb_head n 0 r hr
    refine ⟨_, q, .inl ⟨rfl, ?_⟩⟩
    simp
  · rw [cmb_nil n 0 r hr] at hi
    exact absurd hi (by simp)
  · refine ⟨_, List.getElem?_eq_getElem hi, .inr ⟨rfl, ?_⟩⟩
    have q := cmb_suc n 0 r (i - 1) ix e
    rw [Nat.zero_add, show i - 1 + 1 = i by omega, List.getElem?_eq_getElem hi] at q
    rw [stC_eq, q]
theorem CmSt.over {n r i : Nat} {st : Int} {ix : List Nat} (h : CmSt n r i st ix) (hi : (cmb 0 n r).length ≤ i) : st = 2 ∨ (st = 1 ∧ stC n ix = none) := by
  rcases h with ⟨rfl, hr, rfl, rfl⟩ | ⟨rfl, hr, rfl⟩ | ⟨hi0, rfl, e⟩
  · have q := cmb_head n 0 r hr
    rw [List.getElem?_eq_none hi] at q
    cases q
  · exact .inl rfl
  · have q := cmb_suc n 0 r (i - 1) ix e
    rw [Nat.zero_add, show i - 1 + 1 = i by omega, List.getElem?_eq_none hi] at q
    exact .inr ⟨rfl, by rw [stC_eq, q]⟩
theorem pick_vals {xs : List V} {its : List Value} (r : Vals xs its) : ∀ ix : List Nat, (∀ j ∈ ix, j < xs.length) → Vals (ix.map fun j => xs.getD j .non) (pickC its.toArray ix)
  | [], _ => .nil
  | j :: ix, h => by
    have hj := h j List.mem_cons_self
    obtain ⟨u, hu, ru⟩ := r.get (List.getElem?_eq_getElem hj)
    refine .cons ?_ (pick_vals r ix fun i hi => h i (List.mem_cons_of_mem _ hi))
    have e1 : xs.getD j .non = xs[j] := by rw [List.getD_eq_getElem?_getD, List.getElem?_eq_getElem hj]; rfl
    have e2 : its.toArray.getD j Value.none = u := by simp [Array.getD_eq_getD_getElem?, hu]
    show L2.RelV (xs.getD j .non) (its.toArray.getD j .none)
    rw [e1, e2]
    exact ru
section
variable {prog : Program} {w : World} {A : Around} {E : Value → Shared → Prop} {s : Shared}
theorem pyNext_cmb_item {c pl : Addr} {st : Int} {old : Value} {ix jx : List Nat} {items : Array Value} {Q : Option Value → Shared → Prop} (hne : pl ≠ c) (hz : jx.length ≤ 1000)
    (hc : s.heap.get? c = some (cmbO pl st old ix)) (hp : s.heap.get? pl = some (tupO items)) (hs : (st = 0 ∧ jx = ix) ∨ (st = 1 ∧ stC items.size ix = some jx))
    (h : ∀ h', h'.get? c = some (cmbO pl 1 (.ref s.heap.objs.size) jx) → h'.get? s.heap.objs.size = some (tupO (pickC items jx).toArray) → h'.objs.size = s.heap.objs.size + 1 →
      (∀ b o, b ≠ c → s.heap.get? b = some o → h'.get? b = some o) → Q (some (.ref s.heap.objs.size)) { s with heap := h' }) : wpAny (model prog w) A (pyNext (.ref c)) Q E s := by
  have hT : s.TypeIs (.ref c) "itertools.combinations" := ⟨_, hc, rfl⟩
  unfold pyNext
  exact wpAny_bind (wpAny_attempt (wpAny_callSpecial?_slot (name := Str.ofString "__next__") hT F.slot_cmb_next (wpAny_call_entry F.slot_cmb_next hT F.entry_cmb_next (cmb_next_item hne hz hc hp hs fun h' a1 a2 a3 a4 => wpAny_pure (h h' a1 a2 a3 a4)) (F.args_cmb_next _))))
theorem pyNext_cmb_end {c pl : Addr} {st : Int} {old : Value} {ix : List Nat} {items : Array Value} {Q : Option Value → Shared → Prop} (hh : A.handled = none) (hne : pl ≠ c)
    (hc : s.heap.get? c = some (cmbO pl st old ix)) (hp : s.heap.get? pl = some (tupO items)) (hs : st = 2 ∨ (st = 1 ∧ stC items.size ix = none))
    (h : ∀ h', (∀ b o, b ≠ c → s.heap.get? b = some o → h'.get? b = some o) → Q none { s with heap := h' }) : wpAny (model prog w) A (pyNext (.ref c)) Q E s := by
  have hT : s.TypeIs (.ref c) "itertools.combinations" := ⟨_, hc, rfl⟩
  unfold pyNext
  refine wpAny_bind (wpAny_attempt (wpAny_callSpecial?_slot (name := Str.ofString "__next__") hT F.slot_cmb_next (wpAny_call_entry F.slot_cmb_next hT F.entry_cmb_next (cmb_next_end hh hne hc hp hs fun h' e hk he => ?_) (F.args_cmb_next _))))
  obtain ⟨o, ho, hc⟩ := he
  refine wpAny_bind (wpAny_isInstance (T := "StopIteration") (b := true) ⟨o, ho, hc⟩ isSubtype_stop ?_)
  exact wpAny_pure (h _ hk)
theorem pyIter_cmb {c pl : Addr} {st : Int} {old : Value} {ix : List Nat} {Q : Value → Shared → Prop} (hc : s.heap.get? c = some (cmbO pl st old ix)) (h : Q (.ref c) s) : wpAny (model prog w) A (pyIter (.ref c)) Q E s := by
  have hT : s.TypeIs (.ref c) "itertools.combinations" := ⟨_, hc, rfl⟩
  refine wpAny_pyIter_slot hT F.slot_cmb_iter (wpAny_call_entry F.slot_cmb_iter hT F.entry_cmb_iter ?_ (F.args_cmb_iter _))
  show wpAny _ _ (ret (.ref c)) _ _ s
  exact wpAny_pure ⟨_, rfl, "itertools.combinations", _, hT, F.slot_cmb_next.lookup, h⟩
end
theorem turn_cmb {P : Program} {w : World} {K : PySem.W.Frag} {tg : Expr} {xs : List V} {its : List Value} {r : Nat} (c pl : Addr) (rv : Vals xs its) (hr : r ≤ 1000) :
    Turn P w K tg (Itcm xs r) [c, pl] c (fun i h => ∃ st old ix, h.get? c = some (cmbO pl st old ix) ∧ h.get? pl = some (tupO its.toArray) ∧ pl ≠ c ∧ CmSt xs.length r i st ix) where
  mem := by simp
  obj := fun i h stt b hb => by
    obtain ⟨st, old, ix, hc, hp, hne, hs⟩ := stt
    have e' : b = c ∨ b = pl := by simpa using hb
    rcases e' with z | z
    · rw [z]; exact ⟨_, hc, fun v q => nomatch q⟩
    · rw [z]; exact ⟨_, hp, fun v q => nomatch q⟩
  keep := fun i h h' stt k => by
    obtain ⟨st, old, ix, hc, hp, hne, hs⟩ := stt
    exact ⟨st, old, ix, k c (by simp) _ hc, k pl (by simp) _ hp, hne, hs⟩
  item := by
    intro X hP hw hK hcm i pins s σ H E I hf stt hg
    subst hP hw hK
    obtain ⟨st, old, ix, hc, hp, hne, hs⟩ := stt
    have hsz : its.toArray.size = xs.length := by rw [List.size_toArray, ← rv.length]
    obtain ⟨jx, hj, hst⟩ := hs.step hg
    have hjm : jx ∈ cmb 0 xs.length r := List.mem_of_getElem? hj
    obtain ⟨hl, hb⟩ := cmb_len _ _ _ _ hjm
    have hcl : c < s.heap.objs.size := Heap.lt_size hc
    have hpl : pl < s.heap.objs.size := Heap.lt_size hp
    refine pyNext_cmb_item (jx := jx) hne (by omega) hc hp (by rw [hsz]; exact hst) fun h' a1 a2 a3 a4 => ?_
    have pv := pick_vals rv jx fun j h => by have := hb j h; omega
    have new : ObjOk X.prog X.w (upd H s.heap.objs.size (.tup (jx.map fun j => xs.getD j .non))) h' s.heap.objs.size (.tup (jx.map fun j => xs.getD j .non)) :=
      ⟨by
        have h1 : 1000000 ≤ sizeLine := by decide
        show (jx.map fun j => xs.getD j V.non).length ≤ sizeLine
        rw [List.length_map]
        omega, _, pv, ⟨_, a2, rfl, _, rfl⟩⟩
    have I1 : Inv X pins σ (upd H s.heap.objs.size (.tup (jx.map fun j => xs.getD j .non))) { s with heap := h' } :=
      I.turnedNew (t' := s.toks) (ch := [c, pl]) (fun b ob hb q => a4 b ob (fun z => hb (by simp [z])) q) hf (Nat.le_refl _) new
    have hn : H s.heap.objs.size = none := I.hok.fresh (Nat.le_refl _)
    refine ⟨_, rfl, go_of (s := { s with heap := h' }) (n := "itertools.combinations") a1 rfl rfl (by decide) ⟨.ref s.heap.objs.size, _, I1, rfl, ⟨s.heap.objs.size, jx, rfl, hn, hj, rfl⟩, ⟨1, _, jx, a1, a4 pl _ hne hp, hne, .inr (.inr ⟨Nat.succ_pos _, rfl, hj⟩)⟩, fun b hb => ?_⟩⟩
    have hb' : b < s.heap.objs.size := by
      have e' : b = c ∨ b = pl := by simpa using hb
      rcases e' with z | z
      · rw [z]; exact hcl
      · rw [z]; exact hpl
    rw [upd_ne (Nat.ne_of_lt hb')]
    exact (hf b hb).1
  done := by
    intro X hP hw hK hcm i pins s σ H E I hf stt hg
    subst hP hw hK
    obtain ⟨st, old, ix, hc, hp, hne, hs⟩ := stt
    have hsz : its.toArray.size = xs.length := by rw [List.size_toArray, ← rv.length]
    obtain ⟨f0, f1, f2, f3, f4, f5⟩ := hf c (by simp)
    refine pyNext_cmb_end (I.ok.hd hcm) hne hc hp (by rw [hsz]; exact hs.over hg) fun h' eb => ⟨rfl, I.turned (t' := s.toks) (fun b o hb q => eb b o hb q) f0 f1 f3 f4 f5⟩
  self := fun A i s Q E stt h => by
    obtain ⟨st, old, ix, hc, hp, hne, hs⟩ := stt
    exact pyIter_cmb hc h
theorem call_cmb {prog : Program} {w : World} {A : Around} {E : Value → Shared → Prop} {s : Shared} {l : Addr} {T : String} {o : Obj} {items : Array Value} {n r : Nat} {t : Tok} {Q : Value → Shared → Prop} (hT : T = "list" ∨ T = "tuple") (hl : s.heap.get? l = some o) (hc : o.cls = .type T) (hd : o.data = .seq items n) (hsz : items.size ≤ sizeLine) (hr : r ≤ 1000)
    (h : ∀ h1 h2 : Heap, (∀ b u, s.heap.get? b = some u → h1.get? b = some u) → (∀ b u, h1.get? b = some u → h2.get? b = some u) → h2.get? h1.objs.size = some (tupO items) → h2.get? (h1.objs.size + 1) = some (cmbO h1.objs.size (if r > items.size then 2 else 0) .none (List.range r)) → Q (.ref (h1.objs.size + 1)) { s with heap := h2 }) :
    wpAny (model prog w) A (call (.type "itertools.combinations") [.ref l, .int (r : Int) t]) Q E s := by
  refine callType_new F.called_cmb (by decide) (F.typeCall_cmb_2 _ _) (F.newCall_cmb_2 _ _) (fun obj => F.args_object_init_3 obj _ _) F.entry_cmb_new (meets_cmb_new l T o items n r t hT hc hd hsz hr) ⟨hl, fun h1 hk => ?_⟩
  have z1 : (h1.push (tupO items)).objs.size = h1.objs.size + 1 := Heap.size_push ..
  have g2 : ((h1.push (tupO items)).push (cmbO h1.objs.size (if r > items.size then 2 else 0) .none (List.range r))).get? (h1.push (tupO items)).objs.size = some _ := Heap.get?_push_size _ rfl
  show _ ∧ _
  rw [z1] at g2
  rw [z1]
  exact ⟨⟨_, g2, rfl⟩, h h1 _ hk (fun b u e => Heap.get?_push_of_some _ (Heap.get?_push_of_some _ e)) (Heap.get?_push_of_some _ (Heap.get?_push_size _ rfl)) g2⟩
def iCmb (K : PySem.W.Frag) (ta : TA) : TI := fun σ H R => ta σ H fun vs H1 => ∃ (l : Addr) (xs : List V) (r : Nat), vs = [.ref l, .int (r : Int)] ∧ (SqL K H1 l xs ∨ SqT K H1 l xs) ∧ r ≤ 1000 ∧ R (Itcm xs r) H1
theorem pi_cmb {X : Cx} {a b tg : Expr} {ta : TA} {p pos : Pos} (hg : Gl X "combinations") (hm : X.mg "combinations" = some (.type "itertools.combinations")) (ha : PA X [a, b] ta)
    (hs : starEach [a, b] X.env = (false, eval a X.env) :: starEach [b] X.env := by rfl) (hpl : (backTo pos (starEach [b] X.env)).any (·.1) = false := by rfl) : PI X tg (.Call (.Name "combinations" p) [a, b] [] pos) (iCmb X.K ta) := by
  refine ⟨fun pins s σ H R I h => ?_⟩
  refine Call_ (ld_glob I hg hm (PyProof.Rows.callWith_type1 (thn (ha.run pos pins s σ H _ I h) fun us s1 ⟨vs, H1, I1, r1, q1⟩ => ?_) hs hpl))
  obtain ⟨l, xs, r, e, hq, hr, q⟩ := q1
  subst e
  cases r1 with
  | cons ra rr =>
    cases rr with
    | cons rb rr =>
      cases rr
      cases ra
      obtain ⟨t, rfl⟩ := rb
      have key : ∀ (T : String) (o : Obj) (its : List Value) (n : Nat), (T = "list" ∨ T = "tuple") → s1.heap.get? l = some o → o.cls = .type T → o.data = .seq its.toArray n → Vals xs its → its.length ≤ sizeLine → wpAny (model X.prog X.w) X.A (call (.type "itertools.combinations") [.ref l, .int (r : Int) t]) (fun v s2 => wpAny (model X.prog X.w) X.A (pyIter v) (PIE X pins σ tg R) X.xe s2) X.xe s1 := by
        intro T o its n hT ho hc hd rv hz
        refine call_cmb hT ho hc hd (by rw [List.size_toArray]; exact hz) hr fun h1 h2 k1 k2 gp gc => ?_
        refine pyIter_cmb gc ?_
        have I2 : Inv X pins σ H1 { s1 with heap := h1 } := I1.kept (t' := s1.toks) k1
        have I3 : Inv X pins σ H1 { s1 with heap := h2 } := I2.kept (t' := s1.toks) k2
        refine ⟨h1.objs.size + 1, [h1.objs.size + 1, h1.objs.size], _, _, H1, rfl, I3, turn_cmb (h1.objs.size + 1) h1.objs.size rv hr, ⟨_, _, _, gc, gp, Nat.ne_of_lt (Nat.lt_succ_self _), ?_⟩, fun b hb => ?_, q⟩
        · rw [List.size_toArray, ← rv.length]
          by_cases hh : r > xs.length
          · rw [if_pos hh]; exact .inr (.inl ⟨rfl, hh, rfl⟩)
          · rw [if_neg hh]; exact .inl ⟨rfl, Nat.le_of_not_lt hh, rfl, rfl⟩
        · have e' : b = h1.objs.size + 1 ∨ b = h1.objs.size := by simpa using hb
          have hle : h1.objs.size ≤ b := by
            rcases e' with z | z
            · rw [z]; exact Nat.le_add_right _ _
            · rw [z]; exact Nat.le_refl _
          exact I2.fpOk hle (I2.hok.fresh hle)
      rcases hq with hq | hq
      · obtain ⟨its, rv, p', hz⟩ := I1.list hq
        obtain ⟨o, ho, hc, n, hd⟩ := p'.isList
        exact key "list" o its n (.inl rfl) ho hc hd rv (by rw [← rv.length]; exact hz)
      · obtain ⟨its, rv, ⟨o, ho, hc, n, hd⟩, hz⟩ := I1.tuple hq
        exact key "tuple" o its n (.inr rfl) ho hc hd rv (by rw [← rv.length]; exact hz)
end DL
namespace DL
open PySem PySem.Spec PyProof.Rows L2
/-! ### sorted by a key that tells a number and a tuple of whole numbers -/
theorem lexLt_asym : ∀ xs ys : List Int, HT.lexLt xs ys = true → HT.lexLt ys xs = false
  | [], [], h => by cases h
  | [], _ :: _, _ => rfl
  | _ :: _, [], h => by cases h
  | x :: xs, y :: ys, h => by
    rw [HT.lexLt_cons] at h ⊢
    by_cases e : x = y
    · rw [if_pos e] at h
      rw [if_pos e.symm]
      exact lexLt_asym xs ys h
    · rw [if_neg e] at h
      rw [if_neg (fun z => e z.symm)]
      have := of_decide_eq_true h
      exact decide_eq_false (by omega)
theorem lexLt_tr : ∀ xs ys zs : List Int, HT.lexLt ys xs = false → HT.lexLt zs ys = false → HT.lexLt zs xs = false
  | [], ys, [], _, _ => rfl
  | [], [], _ :: _, h1, h2 => h2
  | [], _ :: _, _ :: _, h1, h2 => rfl
  | x :: xs, [], zs, h1, _ => by cases h1
  | _ :: _, _ :: _, [], _, h2 => by cases h2
  | x :: xs, y :: ys, z :: zs, h1, h2 => by
    rw [HT.lexLt_cons] at h1 h2 ⊢
    by_cases e1 : y = x
    · rw [if_pos e1] at h1
      by_cases e2 : z = y
      · rw [if_pos e2] at h2
        rw [if_pos (e2.trans e1)]
        exact lexLt_tr xs ys zs h1 h2
      · rw [if_neg e2] at h2
        rw [if_neg (fun q => e2 (q.trans e1.symm)), ← e1]
        exact h2
    · rw [if_neg e1] at h1
      have a := of_decide_eq_false h1
      by_cases e2 : z = y
      · rw [if_neg (by omega)]
        exact decide_eq_false (by omega)
      · rw [if_neg e2] at h2
        have b := of_decide_eq_false h2
        rw [if_neg (by omega)]
        exact decide_eq_false (by omega)
def KeyAt (h : Heap) (v : Value) (k : List Int) : Prop := ∃ (n : Int) (ns : List Int) (a b : Addr) (o : Obj) (t : Tok) (e : Nat), k = n :: ns ∧ v = .ref a ∧ h.get? a = some o ∧ o.cls = .type "tuple" ∧ o.data = .seq #[.int n t, .ref b] e ∧ TS.TupInts h (.ref b) ns
theorem swo_lexK (kf : Value → List Int) : SrtO.Swo fun v u => HT.lexLt (kf v) (kf u) := ⟨fun x y h => lexLt_asym _ _ h, fun x y z h1 h2 => lexLt_tr _ _ _ h1 h2⟩
theorem tupInts_key {prog : Program} {w : World} {h : Heap} {b : Addr} {ns : List Int} (t : TS.TupInts h (.ref b) ns) : IsTupleKey (intKind prog w) h ns b := by
  obtain ⟨a, xs, e, ⟨o, ho, hc, n, hd⟩, i⟩ := t
  cases e
  refine ⟨o, xs, n, ho, hc, hd, ?_⟩
  generalize xs.toList = l at i
  induction i with
  | nil => exact .nil
  | cons n t r ih => exact .cons (by simp [intKind, Value.isInt]) ih
section
variable {prog : Program} {w : World} {A : Around} {E : Value → Shared → Prop} {s : Shared}
theorem key_cmp {vs : List Value} {kf : Value → List Int} (hu : A.units < cLine) (hp : ∀ v ∈ vs, KeyAt s.heap v (kf v)) : SrtO.Cmp prog w A s (tuples' true) (fun p => p.1 ∈ vs) (SrtO.lt2 fun v u => HT.lexLt (kf v) (kf u)) := by
  intro p q hm hm'
  have h1 := hp _ hm
  have h2 := hp _ hm'
  show wpAny (model prog w) A (keyLt' (tuples' true) p.1 q.1) (fun r s' => s' = s ∧ r = HT.lexLt (kf p.1) (kf q.1)) (fun _ _ => False) s
  obtain ⟨x, ns, a, b, o, t, n, ek, e, ho, hc, hd, hT⟩ := h1
  obtain ⟨x', ms, a', b', o', t', n', ek', e', ho', hc', hd', hT'⟩ := h2
  rw [e, e', ← e, ← e', ek, ek', e, e']
  refine PySem.W.kat_lt ho hd ho' hd' ?_
  show PySem.W.KatLex prog w A true (decide (2 < 2)) _ [(.int x t, .int x' t'), (.ref b, .ref b')] 0 s
  refine PySem.W.kat_cons (SeqAt.EqAt.int_int x t x' t' prog w _ _ ?_)
  refine PySem.W.kat_go (fun e1 => ?_) (fun e1 => ?_)
  · have ex : x = x' := by simpa using e1
    refine PySem.W.kat_yes (PySem.W.kat_cons (wpAny_eqBool_tuple hu (tupInts_key hT) (tupInts_key hT') ?_))
    refine PySem.W.kat_go (fun e2 => ?_) (fun e2 => ?_)
    · have ey : ns = ms := of_decide_eq_true e2
      have e3 : HT.lexLt (x :: ns) (x' :: ms) = false := by
        rw [HT.lexLt_cons, if_pos ex, ey]
        cases hh : HT.lexLt ms ms with
        | false => rfl
        | true => rw [lexLt_asym _ _ hh] at hh; cases hh
      exact PySem.W.kat_yes (PySem.W.kat_nil ⟨rfl, e3.symm⟩)
    · have e3 : HT.lexLt (x :: ns) (x' :: ms) = HT.lexLt ns ms := by rw [HT.lexLt_cons, if_pos ex]
      obtain ⟨c, xs, z, hc1, i1⟩ := hT
      cases z
      obtain ⟨c', xs', z, hc2, i2⟩ := hT'
      cases z
      refine PySem.W.kat_no (PySem.W.kat_one _ _ (HT.lt_tupInts hc1 hc2 i1 i2 hu ?_))
      exact (show s = s ∧ HT.lexLt ns ms = HT.lexLt (x :: ns) (x' :: ms) from ⟨rfl, e3.symm⟩)
  · have ex : ¬ x = x' := by simpa using e1
    have e3 : HT.lexLt (x :: ns) (x' :: ms) = decide (x < x') := by rw [HT.lexLt_cons, if_neg ex]
    exact PySem.W.kat_no (oneLt_int ⟨rfl, e3.symm⟩)
theorem keys_firsts {h : Heap} {kf : Value → List Int} : ∀ vs : List Value, (∀ v ∈ vs, KeyAt h v (kf v)) → ∃ fs, PySem.W.KatTups h vs fs ∧ fs.length = vs.length ∧ ∀ f, f ∈ fs → ∃ n t, f = Value.int n t
  | [], _ => ⟨[], PySem.W.KatTups.nil, rfl, fun f hf => by simp at hf⟩
  | v :: vs, x => by
    obtain ⟨fs, k, hl, hi⟩ := keys_firsts vs fun u hu => x u (List.mem_cons_of_mem _ hu)
    obtain ⟨n, ns, a, b, o, t, e, ek, ev, ho, hc, hd, hT⟩ := x v List.mem_cons_self
    subst ev
    refine ⟨.int n t :: fs, PySem.W.KatTups.cons ho hc hd rfl k, by simp [hl], fun f hf => ?_⟩
    rcases List.mem_cons.mp hf with rfl | hf
    · exact ⟨n, t, rfl⟩
    · exact hi f hf
theorem keys_kind {vs : List Value} {kf : Value → List Int} {Q : SortKind → Shared → Prop} (hp : ∀ v ∈ vs, KeyAt s.heap v (kf v)) (h0 : 0 < vs.length) (h : Q (tuples' true) s) : wpAny (model prog w) A (keyKind' vs.toArray) Q E s := by
  obtain ⟨fs, h1, h2, h3⟩ := keys_firsts vs hp
  refine PySem.W.kat_kind (T := .type "int") h1 (by omega) (fun f hm => ?_) (by rfl) ?_
  · obtain ⟨x, t, rfl⟩ := h3 f hm
    exact PySem.W.Looks.now
  · have e : (Value.type "int" != Value.type "tuple") = true := by first | decide +kernel | rfl | decide
    rw [e]
    exact h
theorem zip_snd : ∀ {ks vs : List Value}, ks.length = vs.length → (ks.zip vs).map (fun p : Keyed => p.2) = vs
  | [], [], _ => rfl
  | k :: ks, v :: vs, h => by
    rw [List.zip_cons_cons, List.map_cons, zip_snd (by simpa using h)]
  | [], _ :: _, h => by simp at h
  | _ :: _, [], h => by simp at h
theorem sort_tail {a kS : Addr} {ks vs : List Value} {e e1 : Nat} {st : SortSt} {P : PySem.Fin → Shared → Prop} (hoa : s.heap.get? a = some (seqObj "list" #[] e1)) (hok : s.heap.get? kS = some (seqObj "list" ks.toArray e)) (hne : kS ≠ a) (hl : ks.length = vs.length) (hz : vs.length ≤ sizeLine)
    (hp : (arrOf st).toList.Perm (ks.zip vs)) (hf : failedOf st = none)
    (h : ∀ (h' : Heap) (out : List Value) (n m : Nat), out.Perm vs → h'.get? a = some (seqObj "list" out.toArray n) → h'.get? kS = some (seqObj "list" #[] m) → (∀ b o, b ≠ a → b ≠ kS → s.heap.get? b = some o → h'.get? b = some o) → P (.done (.ret .none)) { s with heap := h' }) :
    wpAny (model prog w) A (ksk_tail a false e1 (.ref kS) st) P E s := by
  have hperm : ((arrOf st).map (·.2)).toList.Perm vs := by
    rw [Array.toList_map, ← zip_snd hl]
    exact hp.map _
  have hout : ((arrOf st).map (·.2)).size ≤ sizeLine + 1 := by
    have := hperm.length_eq
    rw [Array.length_toList] at this
    omega
  have s1 := Heap.SameBut.update s.heap kS (Obj.mapSeq fun _ => (#[] : Array Value))
  have na1 : (s.heap.update kS (Obj.mapSeq fun _ => (#[] : Array Value))).get? a = some (seqObj "list" #[] e1) := (s1.2 a hne.symm).trans hoa
  have s2 := Heap.SameBut.update (s.heap.update kS (Obj.mapSeq fun _ => (#[] : Array Value))) a (Obj.mapSeq fun _ => (arrOf st).map (·.2))
  obtain ⟨c2, hc2⟩ : ∃ c2, ((s.heap.update kS (Obj.mapSeq fun _ => (#[] : Array Value))).update a (Obj.mapSeq fun _ => (arrOf st).map (·.2))).get? a = some (seqObj "list" ((arrOf st).map (·.2)) c2) := ⟨_, get?_update_seq na1 fun _ => (arrOf st).map (·.2)⟩
  obtain ⟨c3, hc3⟩ : ∃ c3, (s.heap.update kS (Obj.mapSeq fun _ => (#[] : Array Value))).get? kS = some (seqObj "list" #[] c3) := ⟨_, get?_update_seq hok fun _ => #[]⟩
  unfold ksk_tail
  try dsimp only
  refine wpAny_bind (listUpdate_at hok rfl ?_ (by rw [List.size_toArray, hl]; exact hz) (Nat.zero_le _))
  refine wpAny_bind (wpAny_letGo ?_)
  refine wpAny_bind (seqEpoch_at na1 rfl ?_)
  refine wpAny_bind (listUpdate_at na1 rfl ?_ (Nat.zero_le _) hout)
  rw [hf]
  simp only [bne_self_eq_false, Bool.false_eq_true, if_false]
  refine wpAny_pure (h _ ((arrOf st).map (·.2)).toList c2 c3 hperm ?_ ((s2.2 kS hne).trans hc3) fun b o h1 h2 e => (s2.2 b h1).trans ((s1.2 b h2).trans e))
  rw [Array.toArray_toList]
  exact hc2
theorem sort_end {a kS : Addr} {ks vs : List Value} {e e1 : Nat} {kf : Value → List Int} {P : PySem.Fin → Shared → Prop} (hu : A.units < cLine) (hoa : s.heap.get? a = some (seqObj "list" #[] e1)) (hok : s.heap.get? kS = some (seqObj "list" ks.toArray e)) (hne : kS ≠ a) (hl : ks.length = vs.length) (hz : vs.length ≤ sizeLine)
    (hk : ∀ v ∈ ks, KeyAt s.heap v (kf v))
    (h : ∀ (h' : Heap) (out : List Value) (n m : Nat), out.Perm vs → h'.get? a = some (seqObj "list" out.toArray n) → h'.get? kS = some (seqObj "list" #[] m) → (∀ b o, b ≠ a → b ≠ kS → s.heap.get? b = some o → h'.get? b = some o) → P (.done (.ret .none)) { s with heap := h' }) :
    wpAny (model prog w) A (ksk_end a false vs.toArray e1 (.ref kS) ks.toArray) P E s := by
  have hzl : (ks.toArray.zip vs.toArray).toList = ks.zip vs := ksk_zip ks.toArray vs
  unfold ksk_end
  try dsimp only
  simp only [Bool.false_eq_true, if_false]
  by_cases h2 : vs.toArray.size < 2
  · rw [if_pos h2, if_pos h2]
    refine wpAny_bind (wpAny_pure ?_)
    rw [StateT.run_pure]
    refine wpAny_bind (wpAny_pure ?_)
    try dsimp only
    refine sort_tail (st := SortSt.mk' general' (ks.toArray.zip vs.toArray) #[] 7 none) hoa hok hne hl hz ?_ rfl h
    show (ks.toArray.zip vs.toArray).toList.Perm _
    rw [hzl]
  · rw [if_neg h2, if_neg h2]
    rw [List.size_toArray] at h2
    refine wpAny_bind (keys_kind hk (by omega) ?_)
    refine wpAny_bind (wpAny_mono (SrtO.wpS_sortO (P := fun p => p.1 ∈ ks) (st0 := SortSt.mk' (tuples' true) (ks.toArray.zip vs.toArray) #[] 7 none)
      (Q := fun _ st' => (arrOf st').toList.Perm (ks.zip vs) ∧ failedOf st' = none) (SrtO.swo2 (swo_lexK kf)) (key_cmp hu hk) rfl ?_ rfl rfl fun st' a1 a2 a3 => ⟨by
        have := a2.perm
        rw [show (arrOf (SortSt.mk' (tuples' true) (ks.toArray.zip vs.toArray) #[] 7 none)).toList = ks.zip vs from hzl] at this
        exact this, a3⟩) ?_ fun _ _ e => e)
    · intro p hm
      have hm : p ∈ (ks.toArray.zip vs.toArray).toList := hm
      rw [hzl] at hm
      exact (List.of_mem_zip hm).1
    · rintro ⟨⟨⟩, st'⟩ s' ⟨rfl, hp, hf⟩
      try dsimp only
      exact sort_tail hoa hok hne hl hz hp hf h
end
end DL
namespace DL
open PySem PySem.Spec PyProof.Rows L2 LamX NdefX
section
variable {X : Cx} {C : Cn} {pins : List (Addr × Obj)} {σ : L2.St} {H : Hp} {s : Shared}
/-- a new list, filled by us, comes to be a thing that is told of -/
theorem adopt {h' : Heap} {t' : Nat} {a : Addr} {o : HO} (I : Inv X pins σ H s) (f : FpOk X pins H a) (k : ∀ b u, b ≠ a → s.heap.get? b = some u → h'.get? b = some u) (new : ObjOk X.prog X.w (upd H a o) h' a o) : Inv X pins σ (upd H a o) { s with heap := h', toks := t' } := by
  have hn := f.1
  have nb : ∀ b u, H b = some u → b ≠ a := fun b u e z => by rw [z, hn] at e; cases e
  refine I.step (g' := s.gens) (d' := s.drawn) (ch := [a]) (fun b hb => ?_) (fun b o _ _ hc e _ => k b o (fun z => hc (by simp [z])) e) (fun b o _ _ hc e _ => ⟨o.slots, k b o (fun z => hc (by simp [z])) e⟩)
    (fun b o hc _ n => by rw [upd_ne (fun z => hc (by simp [z]))]; exact n) (fun b o hc e => ⟨o, k b o (fun z => hc (by simp [z])) e⟩) (fun b xs e => by rw [upd_ne (nb b _ e)]; exact e) (fun b o u e => by rw [upd_ne (nb b _ e)]; exact e) (fun b ps e => ⟨#[], by rw [upd_ne (nb b _ e), e]; simp⟩)
    (fun m hm => ?_) (fun b u e => ?_) I.bare
  · have e : b = a := by simpa using hb
    subst e
    exact ⟨f.2.2.2.1, f.2.1, f.2.2.2.2.1, f.2.2.2.2.2⟩
  · obtain ⟨o, es, ep, ho, r⟩ := hm
    exact ⟨o, es, ep, k _ o (Ne.symm f.2.1) ho, r⟩
  · by_cases hb : b = a
    · subst hb
      rw [upd_same] at e
      cases e
      exact new
    · rw [upd_ne hb] at e
      refine (I.hok b u e).stay (fun c v hc q => k c v ?_ q) (fun c q => by rw [upd_ne (nb c _ q)]; exact q) fun c xs q => by rw [upd_ne (nb c _ q)]; exact q
      rcases hc with z | z
      · rw [z]; exact hb
      · exact nb c _ z
theorem perm_rel {K : PySem.W.Frag} {ex : Addr → Prop} {H : Hp} {vs out : List Value} (p : out.Perm vs) : ∀ {l : List D} {xs : List V}, RepL K ex H l xs → Vals xs vs → ∃ l' ys, l'.Perm l ∧ RepL K ex H l' ys ∧ Vals ys out := by
  induction p with
  | nil => exact fun {l xs} r v => ⟨l, xs, .refl _, r, v⟩
  | @cons u a b p ih =>
    intro l xs r v
    cases v with
    | @cons x _ xs' _ rx v =>
      cases l with
      | nil => simp only [RepL] at r; cases r
      | cons d l =>
        simp only [RepL] at r
        obtain ⟨v0, r0, e, r1, r2⟩ := r
        cases e
        obtain ⟨l', ys, p', h1, h2⟩ := ih r2 v
        exact ⟨d :: l', x :: ys, p'.cons d, by simp only [RepL]; exact ⟨_, _, rfl, r1, h1⟩, .cons rx h2⟩
  | @swap u1 u2 b =>
    intro l xs r v
    cases v with
    | @cons x _ xs' _ rx v =>
      cases v with
      | @cons x2 _ xs2 _ rx2 v =>
        cases l with
        | nil => simp only [RepL] at r; cases r
        | cons d l =>
          cases l with
          | nil => simp only [RepL] at r; obtain ⟨_, _, e, _, e2⟩ := r; cases e; cases e2
          | cons d2 l =>
            simp only [RepL] at r
            obtain ⟨v0, r0, e, r1, v1, r3, e2, r4, r5⟩ := r
            cases e
            cases e2
            exact ⟨d2 :: d :: l, x2 :: x :: xs2, .swap _ _ _, by simp only [RepL]; exact ⟨_, _, rfl, r4, _, _, rfl, r1, r5⟩, .cons rx2 (.cons rx v)⟩
  | trans p q ih1 ih2 =>
    intro l xs r v
    obtain ⟨l1, y1, p1, h1, h2⟩ := ih2 r v
    obtain ⟨l2, y2, p2, h3, h4⟩ := ih1 h1 h2
    exact ⟨l2, y2, p2.trans p1, h3, h4⟩
/-- a lambda that stands as a value -/
def EL (X : Cx) (C : Cn) (k nφ : Nat) (e : Expr) (φ : Rho → MF) : Prop := ∀ (pins : List (Addr × Obj)) (s : Shared) (σ : L2.St) (H : Hp) (w : Wd) (ρ : Rho) (Z : Value → Shared → Prop), Inv X pins σ H s → St C.K w ρ σ H → Ok C.T w H →
  (∀ (f : Addr) (H1 : Hp) (s1 : Shared), Le w H w H1 → Ok C.T w H1 → Inv X pins σ H1 s1 → CloAt X.prog X.w X.K X.mg X.base C k nφ (φ ρ) ⟨f, w, H1⟩ s1 H1 → Z (.ref f) s1) → wpAny (model X.prog X.w) X.A (eval e X.env) Z X.xe s
theorem el_lam {k nφ l : Nat} {c P : Addr} {params : Arguments} {body : Expr} {scope : Scope} {lpos : Pos} {N ps fr : List Str} {js : List Nat} {mb : ME} (TB : TabB X.base X.mg c P) (hcode : X.env.code = .ref c) (hm : (P, X.env.qual ++ "<lambda>") ∈ C.T) (hu : ∀ p ∈ C.T, p.1 = P → p.2 = X.env.qual ++ "<lambda>")
    (S : NScope N ps fr scope) (hfree : ∀ y ∈ scope.names, y.2 = .free → X.env.scope.names.lookup y.1 = some .cell ∨ X.env.scope.names.lookup y.1 = some .free) (hfr : ∀ y ∈ fr, (y, NameKind.free) ∈ scope.names) (hjs : js.map (fun j => X.N[j]?) = fr.map some) (hn : ps.length = nφ) (hl : N.length = l)
    (hb : ∀ (cl : List (Str × Addr)) (pm cv ctv : Value) (us : List Value), us.length = ps.length → bindArgs (PySem.W.kla_fn "<lambda>" (X.env.qual ++ "<lambda>") params body scope cl pm cv ctv) ⟨us, []⟩ = pure (ps.zip us)) (hK : C.K = X.K)
    (hbody : ∀ (f c' : Addr) (A : Around) (outer : List Env) (s s2 : Shared) (H1 H2 : Hp) (E : XK), Room k (ncx (L2.CX X.prog X.w) X.prog X.w X.K X.mg X.base N ⟨"<lambda>", X.env.qual ++ "<lambda>", params, [], scope, cloFrom X.env.cells scope.names [], c'⟩ f A outer s2 H2 E).A → (X.ex = [] → Kept X.s_0 X.H_0 s2 H2) →
      PE (ncx (L2.CX X.prog X.w) X.prog X.w X.K X.mg X.base N ⟨"<lambda>", X.env.qual ++ "<lambda>", params, [], scope, cloFrom X.env.cells scope.names [], c'⟩ f A outer s2 H2 E) body (lift { C with W := fun cls d _ H => E cls d H } mb))
    (hdef : defaultsOf params X.env = ([], []) := by rfl) : EL X C (k + 1) nφ (.Lambda params body scope lpos) (lamM l js mb) := by
  intro pins s σ H w ρ Z I st ok hz
  have hfr2 : ∀ y ∈ scope.names, y.2 = .free → ∃ c, X.env.cells.lookup y.1 = some c := fun y hy e => (hfree y hy e).elim (fun z => I.ok.has _ (.inl z)) fun z => I.ok.has _ (.inr z)
  refine lam_made I TB hcode hm hu ok.tabs hdef hfr2 fun f c' pm ctv H1 s1 I1 eN nn T1 hf nf hc => ?_
  have le1 : Le w H w H1 := ⟨fun _ z => z, fun _ z => z, fun _ z => .inl z, fun _ z => .inl z, fun a o e _ n => eN a o e n, nn⟩
  have ok1 : Ok C.T w H1 := by
    refine ⟨fun a z => ?_, fun a z => ?_, T1⟩
    · obtain ⟨u, e, l⟩ := ok.al a z
      exact ⟨u, eN _ _ e fun _ z => by subst z; exact l, l⟩
    · obtain ⟨x, y, t, e⟩ := ok.bowl a z
      exact ⟨x, y, t, eN _ _ e fun _ z => by cases z⟩
  have st1 := st.le ok le1
  refine hz f H1 s1 le1 ok1 I1 ⟨ok1, ⟨_, _, hf, rfl, nf⟩, ?_⟩
  intro A outer s2 H2 us vs ss wd Q' E2 Q E hr e0 kp fl ok2 rv ra hft hφ hk hx2
  obtain ⟨⟨sl, of2⟩, nf2⟩ := kp f _ hf nf (.inr ⟨_, rfl⟩)
  have hc2 : H2 c' = some (CodeO c' (X.env.qual ++ "<lambda>")) := fl.keep _ _ hc (ok1.nex hc fun z => by unfold CodeO at z; exact z) fun ps z => codeO_ne ps z
  obtain ⟨⟨oc, cvs, t, hoc, hdc, hvc⟩, _, _⟩ := e0.hok c' _ hc2
  have lim : s2.heap.NoLimit := e0.mod.nolimit.keeps fun b o e => (e0.bs b o e).1
  have C0 := cells_of I1 (Caps.made (js := js) I1.ok hfree hfr hjs)
  have C2 : CellsAt (cloFrom X.env.cells scope.names []) fr (js.map (slotAt σ)) s2.heap H2 := by
    have kc : ∀ (c : Addr) (v : Option Value), H1 c = none → s1.heap.IsCell c v → s2.heap.IsCell c v ∧ H2 c = none := fun c v n ⟨o, ho, hd⟩ => by
      obtain ⟨⟨sl, e⟩, n2⟩ := kp c o ho n (.inl ⟨v, hd⟩)
      exact ⟨⟨_, e, hd⟩, n2⟩
    refine ⟨C0.len, fun y c e => ?_, C0.inj, fun i y e => ?_⟩
    · obtain ⟨n, v, z⟩ := C0.all y c e
      obtain ⟨z2, n2⟩ := kc c v n z
      exact ⟨n2, v, z2⟩
    · obtain ⟨c, hc, hv⟩ := C0.has i y e
      refine ⟨c, hc, fun v ev => ?_⟩
      obtain ⟨u, r, z⟩ := hv v ev
      exact ⟨u, r, (kc c _ (C0.all y c hc).1 z).1⟩
  have hlen : vs.length = ps.length := by rw [ra.len, hft.1, hn]
  refine PySem.W.kla_callFunE hr.depth of2 rfl S.co S.gen rfl ⟨c', oc, cvs, t, rfl, hoc, hdc, hvc⟩ ?_
  rw [hb _ _ _ _ us (by rw [← rv.length]; exact hlen)]
  refine wpAny_pure (wpAny_newFunctionEnv S.nocell (fun ⟨n, _⟩ hy => S.par n (List.of_mem_zip hy).1) (fun h₁ hns hsb => ⟨lim.fresh _ hsb, ?_⟩) S.kind)
  have kp2 : ∀ b o, s2.heap.get? b = some o → h₁.get? b = some o := fun b o e => hsb.extBut b o (Nat.ne_of_lt (Heap.lt_size e)) (Heap.get?_push_of_some _ e)
  generalize hF : (⟨"<lambda>", X.env.qual ++ "<lambda>", params, [], scope, cloFrom X.env.cells scope.names [], c'⟩ : NF) = G
  have J : Inv (ncx (L2.CX X.prog X.w) X.prog X.w X.K X.mg X.base N ⟨"<lambda>", X.env.qual ++ "<lambda>", params, [], scope, cloFrom X.env.cells scope.names [], c'⟩ f A outer s2 H2 E) [] (startF N vs (js.map (slotAt σ))) H2 { s2 with heap := h₁, toks := s2.toks + (ps.zip us).length } := inv_startN S hr.hd e0 hlen rv C2 hns kp2
  have st2 : St C.K wd (lamR l js ρ ss) (startF N vs (js.map (slotAt σ))) H2 := by
    rw [← hl]
    exact lam_slots ok1 st1 fl hft.2 ra
  have B := hbody f c' A outer s s2 H1 H2 E (hr.deeper _) fun hex => (Kept.of I1 hex).trans kp
  have hrd : lift { C with W := fun cls d _ H => E cls d H } mb (startF N vs (js.map (slotAt σ))) H2 (fun v H' => Q v H') := mk (C := { C with W := fun cls d _ H => E cls d H }) st2 ok2 hφ (fun w' s' u H' l o r q => by
    obtain ⟨no, q⟩ := plain_of q
    exact hk w' s' u H' l o r no q) hx2
  exact PySem.W.kla_codeExpr (wpAny_mono (B.run [] _ _ H2 _ J hrd) (fun v s' hq => by
    obtain ⟨w', H', J', rv', q⟩ := hq
    exact ⟨w', H', J'.os, J'.bare, J'.base, J'.hok, rv', q⟩) fun e s' hq => hq)
end
end DL
namespace DL
open PySem PySem.Spec PyProof.Rows L2 LamX NdefX
theorem vals_at {xs : List V} {vs : List Value} (r : Vals xs vs) {i : Nat} {u : Value} (h : vs[i]? = some u) : ∃ x, xs[i]? = some x ∧ RelV x u := by
  induction r generalizing i with
  | nil => simp at h
  | @cons x v xs vs r t ih =>
    cases i with
    | zero => 
      have e : v = u := by simpa using h
      subst e
      exact ⟨x, rfl, r⟩
    | succ i => exact ih (by simpa using h)
theorem repL_at {K : PySem.W.Frag} {ex : Addr → Prop} {H : Hp} : ∀ {l : List D} {xs : List V} {i : Nat} {x : V}, RepL K ex H l xs → xs[i]? = some x → ∃ d, d ∈ l ∧ Rep K ex H d x
  | [], xs, i, x, r, h => by
    simp only [RepL] at r
    subst r
    simp at h
  | d :: l, xs, i, x, r, h => by
    simp only [RepL] at r
    obtain ⟨v, r0, rfl, r1, r2⟩ := r
    cases i with
    | zero =>
      have e : v = x := by simpa using h
      subst e
      exact ⟨d, List.mem_cons_self, r1⟩
    | succ i =>
      obtain ⟨d', hm, hr⟩ := repL_at (i := i) r2 (by simpa using h)
      exact ⟨d', List.mem_cons_of_mem _ hm, hr⟩
theorem key_at {X : Cx} {C : Cn} {pins : List (Addr × Obj)} {σ : L2.St} {H : Hp} {s : Shared} {wd : Wd} {d : D} {v : V} {u : Value} (I : Inv X pins σ H s) (hK : X.K = C.K) (kd : KeyD d) (r : Rep C.K wd.ex H d v) (rv : RelV v u) : ∃ k, KeyAt s.heap u k := by
  obtain ⟨n, ns, rfl⟩ := kd
  simp only [Rep, RepL] at r
  obtain ⟨a, vs, rfl, hs, v1, r1, rfl, rfl, v2, r2, rfl, ⟨b, us, rfl, hb, hu⟩, rfl⟩ := r
  obtain rfl : u = Value.ref a := rv
  have e : us = ns.map V.int := repL_ints hu
  subst e
  rw [← hK] at hs hb
  obtain ⟨its, rs, ⟨o, ho, hc, nn, hd⟩, _⟩ := I.tuple hs
  obtain ⟨its2, rs2, p2, _⟩ := I.tuple hb
  cases rs with
  | cons q1 rs =>
    cases rs with
    | cons q2 rs =>
      cases rs
      obtain ⟨t, rfl⟩ := q1
      cases q2
      exact ⟨n :: ns, n, ns, a, b, o, t, nn, rfl, rfl, ho, hc, hd, b, its2.toArray, rfl, p2, rs2.ints⟩
section
variable {X : Cx} {C : Cn}
theorem Un.kept {fs : List Addr} {H H' : Hp} {s s' : Shared} (u : Un fs [] H H' s.heap s'.heap) : Kept s H s' H' := fun b o e n _ => ⟨u.any e n (by simp), u.free b o e n (by simp)⟩
end
end DL
namespace DL
open PySem PySem.Spec PyProof.Rows L2 LamX NdefX
section
variable {X : Cx} {C : Cn} {pins : List (Addr × Obj)} {σ : L2.St}
/-- how it stands ahead of the next key -/
structure KSt (X : Cx) (C : Cn) (pins : List (Addr × Obj)) (σ : L2.St) (w1 : Wd) (H1 : Hp) (s1 : Shared) (a kS : Addr) (e1 : Nat) (ks : List Value) (wd : Wd) (H : Hp) (s : Shared) : Prop where
  I : Inv X pins σ H s
  ok : Ok C.T wd H
  le : Le w1 H1 wd H
  kp : Kept s1 H1 s H
  oa : s.heap.get? a = some (seqObj "list" #[] e1)
  ok2 : ∃ e, s.heap.get? kS = some (seqObj "list" ks.toArray e)
  fa : FpOk X pins H a
  fk : FpOk X pins H kS
  keys : ∀ k ∈ ks, ∃ d v, KeyD d ∧ Rep C.K wd.ex H d v ∧ RelV v k
theorem fp_to {b : Addr} {H H' : Hp} (f : FpOk X pins H b) (n : H' b = none) : FpOk X pins H' b := ⟨n, f.2.1, f.2.2.1, f.2.2.2.1, f.2.2.2.2.1, f.2.2.2.2.2⟩
theorem KSt.turn {w1 : Wd} {H1 : Hp} {s1 s : Shared} {a kS : Addr} {e1 k : Nat} {ks : List Value} {wd : Wd} {H : Hp} {φ : MF} {f : Addr} {x : V} {u : Value} {d : D} (T : KSt X C pins σ w1 H1 s1 a kS e1 ks wd H s) (hne : kS ≠ a)
    (hclo : CloAt X.prog X.w X.K X.mg X.base C k 1 φ ⟨f, w1, H1⟩ s1 H1) (hr : Room k X.A.in1.in1) (rx : RelV x u) (rd : Rep C.K wd.ex H d x) (hφ : φ [.d d] keyS (fun _ => False)) (hz : ks.length < sizeLine) :
    wpAny (model X.prog X.w) X.A.in1.in1 (call (.ref f) [u]) (fun key s2 => ∃ e, s2.heap.get? kS = some (seqObj "list" ks.toArray e) ∧ ∃ wd' H', KSt X C pins σ w1 H1 s1 a kS e1 (ks ++ [key]) wd' H' { s2 with heap := s2.heap.update kS (Obj.mapSeq (·.push key)) }) (fun _ _ => False) s := by
  obtain ⟨e, hok⟩ := T.ok2
  have hp : ∀ p ∈ (a, seqObj "list" #[] e1) :: (kS, seqObj "list" ks.toArray e) :: pins, s.heap.get? p.1 = some p.2 ∧ H p.1 = none ∧ p.1 ≠ X.env.locals ∧ p.1 ∉ X.fs ∧ ∀ v, p.2.data ≠ .cell v := fun p hm => by
    rcases List.mem_cons.mp hm with rfl | hm
    · exact ⟨T.oa, T.fa.1, T.fa.2.1, T.fa.2.2.1, fun v z => nomatch z⟩
    · rcases List.mem_cons.mp hm with rfl | hm
      · exact ⟨hok, T.fk.1, T.fk.2.1, T.fk.2.2.1, fun v z => nomatch z⟩
      · exact T.I.pin p (List.mem_append_right _ hm)
  have I' : Inv X ((a, seqObj "list" #[] e1) :: (kS, seqObj "list" ks.toArray e) :: pins) σ H s := T.I.pins_of hp
  have env0 : Env0 X.prog X.w X.K X.mg X.base X.A.in1.in1 X.stack s H := ⟨T.I.env0.frames, T.I.env0.mod, T.I.env0.bs, T.I.env0.bsz, T.I.env0.funs, T.I.env0.frf, T.I.env0.hok, T.I.env0.bare⟩
  refine wpAny_call (codeAny_mono (hclo.run X.A.in1.in1 X.stack s H [u] [x] [.d d] wd keyS (fun _ => False) (fun v H' => ∃ wd' d', Le wd H wd' H' ∧ Ok C.T wd' H' ∧ KeyD d' ∧ Rep C.K wd'.ex H' d' v) (fun _ _ _ => False) hr env0 T.kp T.le.fle T.ok (.cons rx .nil) (.cons rd .nil) ⟨rfl, fun t ht => by
      have e : t = .d d := by simpa using ht
      rw [e]
      rfl⟩ hφ (fun w' s' u' H' l o r' _ q => ?_) fun _ _ _ _ _ _ _ _ q => q.elim) fun r s2 hq => ?_)
  · cases s' with
    | d d' => exact ⟨w', d', l, o, q, r'⟩
    | _ => exact q.elim
  · cases r with
    | error e =>
      have hq : L2.CX X.prog X.w X.stack H s (fun _ _ _ => False) e s2 := hq
      obtain ⟨_, _, _, _, _, _, _, _, _, _, _, h⟩ := hq
      exact (by first | exact h.elim | exact h.2.elim)
    | ok f' =>
      cases f' with
      | next => exact False.elim hq
      | brk => exact False.elim hq
      | cont => exact False.elim hq
      | ret key =>
        have hq : CE X.stack X.prog X.w H s (fun v H' => ∃ wd' d', Le wd H wd' H' ∧ Ok C.T wd' H' ∧ KeyD d' ∧ Rep C.K wd'.ex H' d' v) key s2 := hq
        obtain ⟨v, H', eo, bare, un, hok', rv, wd', d', l, o, kd, rd'⟩ := hq
        have kp2 : Kept s H s2 H' := fun b ob e n _ => ⟨un.any e n (by simp), un.free b ob e n (by simp)⟩
        obtain ⟨_, H2, I2, _, eH⟩ := I'.after (Q := fun v' H2 => H2 = H') ⟨v, H', eo, bare, un, hok', rv, rfl⟩
        subst eH
        have pa := I2.pin (a, seqObj "list" #[] e1) (List.mem_append_right _ List.mem_cons_self)
        have pk := I2.pin (kS, seqObj "list" ks.toArray e) (List.mem_append_right _ (List.mem_cons_of_mem _ List.mem_cons_self))
        have I3 : Inv X pins σ H2 s2 := I2.pins_of fun p hm => I2.pin p (List.mem_append_right _ (List.mem_cons_of_mem _ (List.mem_cons_of_mem _ hm)))
        have fa : FpOk X pins H2 a := fp_to T.fa pa.2.1
        have fk : FpOk X pins H2 kS := fp_to T.fk pk.2.1
        have sb := Heap.SameBut.update s2.heap kS (Obj.mapSeq (·.push key))
        obtain ⟨c2, hc2⟩ : ∃ c2, (s2.heap.update kS (Obj.mapSeq (·.push key))).get? kS = some (seqObj "list" (ks.toArray.push key) c2) := ⟨_, get?_update_seq pk.1 (·.push key)⟩
        refine ⟨e, pk.1, wd', H2, ?_, o, T.le.trans l, fun b ob e n hk => ?_, (sb.2 a hne.symm).trans pa.1, ⟨c2, by rw [hc2]; simp⟩, fa, fk, fun k hk => ?_⟩
        · exact I3.turned (t' := s2.toks) (it := kS) (fun b u hb e => (sb.2 b hb).trans e) fk.1 fk.2.1 fk.2.2.2.1 fk.2.2.2.2.1 fk.2.2.2.2.2
        · obtain ⟨⟨sl, e2⟩, n2⟩ := (T.kp.trans kp2) b ob e n hk
          refine ⟨⟨sl, (sb.2 b fun z => ?_).trans e2⟩, n2⟩
          rw [z, pk.1] at e2
          have e3 := congrArg Obj.data (Option.some.inj e2)
          rcases hk with ⟨v, hv⟩ | ⟨fd, hv⟩
          · rw [show ({ ob with slots := sl } : Obj).data = ob.data from rfl, hv] at e3
            cases e3
          · rw [show ({ ob with slots := sl } : Obj).data = ob.data from rfl, hv] at e3
            cases e3
        · rcases List.mem_append.mp hk with hk | hk
          · obtain ⟨d0, v0, h1, h2, h3⟩ := T.keys k hk
            exact ⟨d0, v0, h1, Rep.le T.ok l d0 v0 h2, h3⟩
          · have e : k = key := by simpa using hk
            subst e
            exact ⟨d', v, kd, rd', rv⟩
end
end DL
namespace DL
open PySem PySem.Spec PyProof.Rows L2 LamX NdefX
section
variable {X : Cx} {C : Cn} {pins : List (Addr × Obj)} {σ : L2.St}
theorem sort_rest {w1 : Wd} {H1 : Hp} {s1 s : Shared} {a kS : Addr} {e1 k : Nat} {wd : Wd} {H : Hp} {φ : MF} {f : Addr} {l : List D} {xs : List V} {vs : List Value} {P : PySem.Fin → Shared → Prop} {E : Value → Shared → Prop} (T : KSt X C pins σ w1 H1 s1 a kS e1 [] wd H s) (hne : kS ≠ a) (hK : X.K = C.K)
    (hclo : CloAt X.prog X.w X.K X.mg X.base C k 1 φ ⟨f, w1, H1⟩ s1 H1) (hr : Room k X.A.in1.in1) (ok1 : Ok C.T w1 H1) (rl : RepL C.K w1.ex H1 l xs) (rv : Vals xs vs) (hφ : ∀ d ∈ l, φ [.d d] keyS (fun _ => False)) (hz : vs.length ≤ 1000000)
    (h : ∀ (wd' : Wd) (H' : Hp) (s' : Shared) (out : List Value) (n : Nat), Inv X pins σ H' s' → Ok C.T wd' H' → Le w1 H1 wd' H' → FpOk X pins H' a → out.Perm vs → s'.heap.get? a = some (seqObj "list" out.toArray n) → P (.done (.ret .none)) s') :
    wpAny (model X.prog X.w) X.A.in1.in1 (ksk_rest a (.ref f) false vs.toArray e1 (.ref kS)) P E s := by
  have hsl : 1000000 ≤ sizeLine := by decide
  unfold ksk_rest
  refine wpAny_bind (wpAny_rule ?_)
  first
    | rw [List.forIn_toArray]
    | (rw [← Array.forIn_toList]; simp only [List.toList_toArray])
    | rw [← Array.forIn_toList]
  refine wpAny_bind (ksk_fold (fun i s' => ∃ wd' H' ks, KSt X C pins σ w1 H1 s1 a kS e1 ks wd' H' s' ∧ ks.length = i) vs 0 s ⟨wd, H, [], T, rfl⟩ ?step ?done)
  case step =>
    rintro j u s' hu ⟨wd', H', ks, T', hl⟩
    simp only [Nat.zero_add] at hl ⊢
    have hj : j < vs.length := (List.getElem?_eq_some_iff.mp hu).1
    obtain ⟨x, hx, rx⟩ := vals_at rv hu
    obtain ⟨d, hd, rd⟩ := repL_at rl hx
    refine wpAny_bind (wpAny_attempt (wpAny_mono (T'.turn hne hclo hr rx (Rep.le ok1 T'.le d x rd) (hφ d hd) (by omega)) (fun key s2 hk => ?_) fun _ _ hF => hF.elim))
    obtain ⟨e, hok, wd2, H2, T2⟩ := hk
    try dsimp only
    refine wpAny_bind (listUpdate_at hok rfl ?_ (by rw [List.size_toArray]; omega) (by
      rw [Array.size_push, List.size_toArray]
      omega))
    exact wpAny_pure ⟨rfl, wd2, H2, ks ++ [key], T2, by simp [hl]⟩
  case done =>
    rintro s' ⟨wd', H', ks, T', hl⟩
    have hl : ks.length = vs.length := by omega
    obtain ⟨e, hok⟩ := T'.ok2
    try dsimp only
    refine wpAny_bind (listItems_at hok rfl ?_)
    have hkey : ∀ u : Value, ∃ k : List Int, u ∈ ks → KeyAt s'.heap u k := fun u => by
      rcases Classical.em (u ∈ ks) with hm | hm
      · obtain ⟨d, v, kd, rd, ru⟩ := T'.keys u hm
        obtain ⟨k, hk⟩ := key_at T'.I hK kd rd ru
        exact ⟨k, fun _ => hk⟩
      · exact ⟨[], fun z => absurd z hm⟩
    refine sort_end (kf := fun u => (hkey u).choose) hr.units0 T'.oa hok hne hl (by omega) (fun u hm => (hkey u).choose_spec hm) fun h' out n m hp ha hk' kp => ?_
    have I2 : Inv X pins σ H' { s' with heap := h' } := T'.I.turnedL (t' := s'.toks) (ch := [a, kS]) (fun b o hb q => kp b o (fun z => hb (by simp [z])) (fun z => hb (by simp [z])) q) fun b hb => by
      have e' : b = a ∨ b = kS := by simpa using hb
      rcases e' with z | z
      · rw [z]; exact T'.fa
      · rw [z]; exact T'.fk
    exact h wd' H' _ out n I2 T'.ok T'.le T'.fa hp ha
theorem pd_sortedK {k : Nat} {e lam : Expr} {m : ME} {φ : Rho → MF} {p pos kp : Pos} (he : PE X e (lift C m)) (hl : EL X C k 1 lam φ) (hr : Room (k + 1) X.A) (hm : X.mg "sorted" = none) (hg : Gl X "sorted" := by rfl) (hK : X.K = C.K := by rfl)
    (hs : starEach [e] X.env = (false, eval e X.env) :: starEach [] X.env := by rfl) (h1 : backTo pos (starEach [e] X.env) = (false, eval e X.env) :: backTo pos (starEach [] X.env) := by rfl) (h2 : (backTo pos (starEach [e] X.env)).any (·.1) = false := by rfl)
    (h3 : (backToKw pos (keywordEach [⟨some "key", lam, kp⟩] X.env)).all (·.1.isSome) = true := by rfl) (h4 : (backToKw pos (keywordEach [⟨some "key", lam, kp⟩] X.env)).any (·.1.isNone) = false := by rfl) :
    PE X (.Call (.Name "sorted" p) [e] [⟨some "key", lam, kp⟩] pos) (lift C (dSortK φ m)) := by
  refine ⟨fun pins s σ H Q I h => ?_⟩
  obtain ⟨w, ρ, Q', E', st, ok, hq, ct⟩ := h
  have hsl : 1000000 ≤ sizeLine := by decide
  refine wpAny_Call_Name_kw (ld_blt I hg hm (u := .builtin "sorted") (by decide +kernel) ?_)
  have ha : lift C m σ H (fun v H1 => ∃ (w1 : Wd) (t : S), Le w H w1 H1 ∧ Ok C.T w1 H1 ∧ SRep C.K w1 H1 t v ∧ onLs t fun l => l.length ≤ 1000000 ∧ (∀ d ∈ l, φ ρ [.d d] keyS (fun _ => False)) ∧ ∀ out : List PyData, out.Perm l → Q' (.d (.list out))) := mk st ok hq (fun w1 t v H1 le ok1 r q => ⟨w1, t, le, ok1, r, q⟩) ct.ex
  refine PyProof.Rows.callWith_kw ?_ h1 h2 h3 h4
  rw [hs]
  refine Calls.spliced_cons (thn (he.run pins s σ H _ I ha) fun u s0 ⟨v, H0, I0, r0, w0, t, le0, ok0, rt, q0⟩ => Calls.spliced_nil ?_)
  obtain ⟨l0, al, xs0, rfl, _, _, _⟩ := onLs_of (C := C) rt q0
  obtain rfl : u = Value.ref al := r0
  show wpAny _ _ (evalAll ((do let v ← eval lam X.env; standAt pos; pure v) :: [])) _ _ s0
  refine wpAny_evalAll_cons (wpAny_bind (hl pins s0 σ H0 w0 ρ _ I0 (st.le ok le0) ok0 fun f H1 s1 le1 ok1 I1 hclo => wpAny_bind (wpAny_standAt (wpAny_pure (wpAny_evalAll_nil ?_)))))
  show wpAny _ _ (call (.builtin "sorted") [.ref al] [(Str.ofString "key", .ref f)]) _ _ s1
  obtain ⟨l, al2, xs, e2, hsq1, rl1, hz, hφ, hout⟩ := onLs_of (C := C) (SRep.le ok0 le1 rt) q0
  cases e2
  rw [← hK] at hsq1
  obtain ⟨vs, rv, hpl, hz2⟩ := I1.list hsq1
  have hvl : vs.length ≤ 1000000 := by rw [← rv.length, rl1.length]; exact hz
  refine call_function_entry_kw kind_sorted plain_sorted entry_sorted (ksk_s1 _ _) ?_
  unfold Builtin.«sorted»
  refine wpAny_bind (m := checkCount "sorted" 1 1 _) (wpAny_pure ?_)
  refine wpAny_bind (collect_list hpl.isList ?_ (by omega))
  refine wpAny_bind (wpAny_newList ?_ (by omega))
  have hszz : ((s1.heap.push (seqObj "list" #[] 0)).update s1.heap.objs.size (Obj.mapSeq (· ++ vs.toArray))).objs.size = s1.heap.objs.size + 1 := by
    rw [Heap.size_update, size_push']
  have hoL : (((s1.heap.push (seqObj "list" #[] 0)).update s1.heap.objs.size (Obj.mapSeq (· ++ vs.toArray))).push (seqObj "list" vs.toArray 0)).get? (s1.heap.objs.size + 1) = some (seqObj "list" vs.toArray 0) := by
    rw [← hszz]; exact Heap.get?_push_size _ rfl
  have keep : ∀ b o, s1.heap.get? b = some o → (((s1.heap.push (seqObj "list" #[] 0)).update s1.heap.objs.size (Obj.mapSeq (· ++ vs.toArray))).push (seqObj "list" vs.toArray 0)).get? b = some o := fun b o q => by
    have hlt : b < s1.heap.objs.size := Heap.lt_size q
    rw [Heap.get?_push_ne _ _ _ (by rw [hszz]; exact Nat.ne_of_lt (Nat.lt_succ_of_lt hlt)), Heap.get?_update_ne _ _ _ _ (Nat.ne_of_lt hlt), Heap.get?_push_ne _ _ _ (Nat.ne_of_lt hlt)]
    exact q
  show wpAny _ _ _ _ _ { s1 with heap := ((s1.heap.push (seqObj "list" #[] 0)).update s1.heap.objs.size (Obj.mapSeq (· ++ vs.toArray))).push (seqObj "list" vs.toArray 0) }
  rw [hszz]
  generalize hg2 : ((s1.heap.push (seqObj "list" #[] 0)).update s1.heap.objs.size (Obj.mapSeq (· ++ vs.toArray))).push (seqObj "list" vs.toArray 0) = g at hoL keep ⊢
  have hgs : g.objs.size = s1.heap.objs.size + 2 := by rw [← hg2, size_push', hszz]
  refine wpAny_bind (wpAny_holding (wpAny_call_entry_kw slot_list_sort ⟨_, hoL, rfl⟩ entry_list_sort ?_ (ksk_l1 _ _)))
  rw [ksk_t1]
  have s2 := Heap.SameBut.update g (s1.heap.objs.size + 1) (Obj.mapSeq fun _ => (#[] : Array Value))
  obtain ⟨e1, ho1⟩ : ∃ e1, (g.update (s1.heap.objs.size + 1) (Obj.mapSeq fun _ => (#[] : Array Value))).get? (s1.heap.objs.size + 1) = some (seqObj "list" #[] e1) := ⟨_, get?_update_seq hoL fun _ => #[]⟩
  have hkS : ((g.update (s1.heap.objs.size + 1) (Obj.mapSeq fun _ => (#[] : Array Value))).push (seqObj "tuple" vs.toArray 0)).objs.size = s1.heap.objs.size + 3 := by rw [size_push', Heap.size_update, hgs]
  unfold ksk_tree
  refine wpAny_bind (listItems_at hoL rfl ?_)
  refine wpAny_bind (listUpdate_at hoL rfl ?_ (by rw [List.size_toArray]; omega) (Nat.zero_le _))
  refine wpAny_bind (seqEpoch_at ho1 rfl ?_)
  refine wpAny_bind (wpAny_newTuple ?_ (by show vs.length ≤ _; omega))
  refine wpAny_bind (wpAny_newList ?_ (Nat.zero_le _))
  refine wpAny_holding ?_
  have ne1 : ∀ b o, s1.heap.get? b = some o → b ≠ s1.heap.objs.size + 1 := fun b o e => Nat.ne_of_lt (Nat.lt_succ_of_lt (Heap.lt_size e))
  have kept2 : ∀ b o, s1.heap.get? b = some o → (((g.update (s1.heap.objs.size + 1) (Obj.mapSeq fun _ => (#[] : Array Value))).push (seqObj "tuple" vs.toArray 0)).push (seqObj "list" #[] 0)).get? b = some o := fun b o e =>
    Heap.get?_push_of_some _ (Heap.get?_push_of_some _ ((s2.2 b (ne1 b o e)).trans (keep b o e)))
  have I2 : Inv X pins σ H1 { s1 with heap := ((g.update (s1.heap.objs.size + 1) (Obj.mapSeq fun _ => (#[] : Array Value))).push (seqObj "tuple" vs.toArray 0)).push (seqObj "list" #[] 0) } := I1.kept (t' := s1.toks) kept2
  have na : H1 (s1.heap.objs.size + 1) = none := I1.hok.fresh (Nat.le_succ _)
  have nk : H1 (s1.heap.objs.size + 3) = none := I1.hok.fresh (Nat.le_add_right _ _)
  have T : KSt X C pins σ w0 H1 s1 (s1.heap.objs.size + 1) (s1.heap.objs.size + 3) e1 [] w0 H1 { s1 with heap := ((g.update (s1.heap.objs.size + 1) (Obj.mapSeq fun _ => (#[] : Array Value))).push (seqObj "tuple" vs.toArray 0)).push (seqObj "list" #[] 0) } :=
    ⟨I2, ok1, Le.refl _ _, fun b o e n _ => ⟨⟨o.slots, kept2 b o e⟩, n⟩, Heap.get?_push_of_some _ (Heap.get?_push_of_some _ ho1), ⟨0, by rw [← hkS]; exact Heap.get?_push_size _ rfl⟩, I1.fpOk (Nat.le_succ _) na, I1.fpOk (Nat.le_add_right _ _) nk, fun k hk => absurd hk (by simp)⟩
  have hr2 : Room k X.A.in1.in1 := ⟨hr.hd, by have := hr.dp; show X.A.depth + 3 * k + 5 < _; omega, by have := hr.un; show X.A.units + 1 + 1 + 16 * k + 200 < _; omega⟩
  rw [hkS]
  refine sort_rest T (show s1.heap.objs.size + 3 ≠ s1.heap.objs.size + 1 by omega) hK hclo hr2 ok1 rl1 rv hφ hvl fun wd' H' s' out n I3 ok3 le3 fa hp ha => ⟨_, rfl, ?_⟩
  refine wpAny_pure ⟨_, rfl, ?_⟩
  obtain ⟨l', ys, p', rl', rv'⟩ := perm_rel hp (RepL.le ok1 le3 l xs rl1) rv
  have I4 : Inv X pins σ (upd H' (s1.heap.objs.size + 1) (.lst ys)) { s' with heap := s'.heap } := adopt (t' := s'.toks) I3 fa (fun b u _ e => e) ⟨by
    rw [rv'.length, hp.length_eq]
    omega, out, n, rv', ha⟩
  exact ⟨.ref (s1.heap.objs.size + 1), _, I4, rfl, (((ct.le le0).le le1).le le3).newL ok3 rl' (hout l' p') fa.1⟩
end
end DL
namespace DL
open PySem PySem.Spec PyProof.Rows L2 LamX NdefX
theorem repL_pick {K : PySem.W.Frag} {ex : Addr → Prop} {H : Hp} {l : List PyData} {vs : List V} (r : RepL K ex H l vs) : ∀ ix : List Nat, (∀ j ∈ ix, j < l.length) → RepL K ex H (ix.map fun j => l.getD j .none) (ix.map fun j => vs.getD j .non)
  | [], _ => by simp only [List.map_nil, RepL]
  | j :: ix, h => by
    simp only [List.map_cons, RepL]
    obtain ⟨v, hv, rv⟩ := repL_get r (List.getElem?_eq_getElem (h j List.mem_cons_self))
    refine ⟨_, _, rfl, ?_, repL_pick r ix fun i hi => h i (List.mem_cons_of_mem _ hi)⟩
    rw [List.getD_eq_getElem?_getD, List.getD_eq_getElem?_getD, hv, List.getElem?_eq_getElem (h j List.mem_cons_self)]
    exact rv
theorem good_cmb {C : Cn} {w : Wd} {H : Hp} {l : List PyData} {vs : List V} {r : Nat} (ok : Ok C.T w H) (rl : RepL C.K w.ex H l vs) : Good C (Itcm vs r) (chT l r) w H := fun w' H' fl ok' => by
  have rl' := RepL.fle ok fl l vs rl
  have hlen := rl.length
  have eL : chT l r = (cmb 0 vs.length r).map fun ix => S.d (.tuple (ix.map fun j => l.getD j .none)) := by
    unfold chT
    rw [← cmb_list l .none r, List.map_map, hlen]
    rfl
  refine ⟨fun i s e => ?_, ?_⟩
  · rw [eL, List.getElem?_map] at e
    cases hc : (cmb 0 vs.length r)[i]? with
    | none => rw [hc] at e; cases e
    | some ix =>
      rw [hc] at e
      cases e
      refine ⟨(List.getElem?_eq_some_iff.mp hc).1, fun x H'' y => ?_⟩
      obtain ⟨T, jx, rfl, n, ej, rfl⟩ := y
      rw [hc] at ej
      cases ej
      refine ⟨Le.new1 n, ok'.new1 n, ?_⟩
      have hb := (cmb_len _ _ _ _ (List.mem_of_getElem? hc)).2
      have rp := repL_pick rl' ix fun j h => by have := hb j h; omega
      simp only [SRep, Rep]
      exact ⟨T, _, rfl, .inl (.inl upd_same), RepL.le ok' (Le.new1 n) _ _ rp⟩
  · show (cmb 0 vs.length r).length ≤ (chT l r).length
    rw [eL, List.length_map]
    exact Nat.le_refl _
theorem cmb_ok {C : Cn} {ma : MA} : IsI C (dCmb ma) (iCmb C.K (liftA C ma)) := fun w ρ σ H F E' R st ok hm hx hk => by
  refine mk st ok hm (fun w1 ss vs H1 le ok1 r q => ?_) hx
  split at q
  · rename_i s r0
    cases r with
    | cons r1 r =>
      cases r with
      | cons r2 r =>
        cases r
        obtain rfl := sint r2
        unfold onSeq at q
        split at q
        · rename_i l
          have r1 : Rep C.K w1.ex H1 (.list l) _ := r1
          simp only [Rep] at r1
          obtain ⟨a, vs, rfl, fz, h2⟩ := r1
          refine ⟨a, vs, r0.toNat, by rw [Int.toNat_of_nonneg q.1], .inl (.inl (.inl fz.1)), by omega, hk w1 H1 _ _ le ok1 q.2.2 (good_cmb ok1 h2)⟩
        · rename_i l
          have r1 : Rep C.K w1.ex H1 (.tuple l) _ := r1
          simp only [Rep] at r1
          obtain ⟨a, vs, rfl, h1, h2⟩ := r1
          refine ⟨a, vs, r0.toNat, by rw [Int.toNat_of_nonneg q.1], .inr h1, by omega, hk w1 H1 _ _ le ok1 q.2.2 (good_cmb ok1 h2)⟩
        · rename_i l
          obtain ⟨a, vs, rfl, h1, h2⟩ := r1
          refine ⟨a, vs, r0.toNat, by rw [Int.toNat_of_nonneg q.1], .inl h1.sq, by omega, hk w1 H1 _ _ le ok1 q.2.2 (good_cmb ok1 h2)⟩
        · exact q.elim
  · exact q.elim
theorem pi_cmbD {X : Cx} {C : Cn} {e e2 tg : Expr} {mr : MA} {p pos : Pos} (hm : X.mg "combinations" = some (.type "itertools.combinations")) (ha : PA X [e, e2] (liftA C mr)) (hg : Gl X "combinations" := by rfl) (hs : starEach [e, e2] X.env = (false, eval e X.env) :: starEach [e2] X.env := by rfl) (hpl : (backTo pos (starEach [e2] X.env)).any (·.1) = false := by rfl) :
    PI X tg (.Call (.Name "combinations" p) [e, e2] [] pos) (iCmb X.K (liftA C mr)) := pi_cmb hg hm ha hs hpl
end DL
namespace Lw
open PySem PySem.Spec PyProof.Rows L2 LamX NdefX DL
def topS (i : Nat) : Stmt := PySem.Challenge.pw_shiftranges_k19_whole_bounds.main.body.getD i (.Pass ⟨0, 0, 0, 0⟩)
abbrev s31 : Stmt := topS 31
abbrev N31 : List Str := ["bowl", "many", "figure", "turn"]
theorem S31 : FnScope N31 ["bowl", "many"] (defScope s31) := ⟨rfl, rfl, rfl, by decide +kernel, rfl, by decide +kernel, by decide +kernel⟩
abbrev s32 : Stmt := topS 32
abbrev N32 : List Str := ["bowl", "some"]
theorem S32 : FnScope N32 ["bowl", "some"] (defScope s32) := ⟨rfl, rfl, rfl, by decide +kernel, rfl, by decide +kernel, by decide +kernel⟩
abbrev s40 : Stmt := topS 40
abbrev N40 : List Str := ["bowl"]
theorem S40 : FnScope N40 ["bowl"] (defScope s40) := ⟨rfl, rfl, rfl, by decide +kernel, rfl, by decide +kernel, by decide +kernel⟩
abbrev s34 : Stmt := topS 34
abbrev N34 : List Str := ["many", "found", "k", "some"]
theorem S34 : FnScope N34 ["many"] (defScope s34) := ⟨rfl, rfl, rfl, by decide +kernel, rfl, by decide +kernel, by decide +kernel⟩
abbrev s36 : Stmt := topS 36
abbrev N36 : List Str := ["some", "among", "x", "each"]
theorem S36 : FnScope N36 ["some", "among"] (defScope s36) := ⟨rfl, rfl, rfl, by decide +kernel, rfl, by decide +kernel, by decide +kernel⟩
abbrev s37 : Stmt := topS 37
abbrev N37 : List Str := ["one", "two", "measure", "total", "high", "x"]
theorem S37 : FnScope N37 ["one", "two", "measure"] (defScope s37) := ⟨rfl, rfl, rfl, by decide +kernel, rfl, by decide +kernel, by decide +kernel⟩
abbrev s38 : Stmt := topS 38
abbrev N38 : List Str := ["one", "two", "measure", "whole", "found", "some", "mine", "left", "k"]
theorem S38 : FnScope N38 ["one", "two", "measure"] (defScope s38) := ⟨rfl, rfl, rfl, by decide +kernel, rfl, by decide +kernel, by decide +kernel⟩
abbrev s39 : Stmt := topS 39
abbrev N39 : List Str := ["size", "second", "level", "values", "rows", "most", "x"]
theorem S39 : FnScope N39 ["size", "second", "level"] (defScope s39) := ⟨rfl, rfl, rfl, by decide +kernel, rfl, by decide +kernel, by decide +kernel⟩
abbrev s7 : Stmt := topS 7
abbrev N7 : List Str := ["value"]
theorem S7 : FnScope N7 ["value"] (defScope s7) := ⟨rfl, rfl, rfl, by decide +kernel, rfl, by decide +kernel, by decide +kernel⟩
abbrev s8 : Stmt := topS 8
abbrev N8 : List Str := ["value", "least", "most"]
theorem S8 : FnScope N8 ["value", "least", "most"] (defScope s8) := ⟨rfl, rfl, rfl, by decide +kernel, rfl, by decide +kernel, by decide +kernel⟩
abbrev s20 : Stmt := topS 20
abbrev N20 : List Str := ["number", "least", "most"]
theorem S20 : FnScope N20 ["number", "least", "most"] (defScope s20) := ⟨rfl, rfl, rfl, by decide +kernel, rfl, by decide +kernel, by decide +kernel⟩
abbrev s27 : Stmt := topS 27
abbrev N27 : List Str := ["size", "second"]
theorem S27 : FnScope N27 ["size", "second"] (defScope s27) := ⟨rfl, rfl, rfl, by decide +kernel, rfl, by decide +kernel, by decide +kernel⟩
abbrev s9 : Stmt := topS 9
abbrev N9 : List Str := ["value", "many"]
theorem S9 : FnScope N9 ["value", "many"] (defScope s9) := ⟨rfl, rfl, rfl, by decide +kernel, rfl, by decide +kernel, by decide +kernel⟩
abbrev s10 : Stmt := topS 10
abbrev N10 : List Str := ["value"]
theorem S10 : FnScope N10 ["value"] (defScope s10) := ⟨rfl, rfl, rfl, by decide +kernel, rfl, by decide +kernel, by decide +kernel⟩
abbrev s12 : Stmt := topS 12
abbrev N12 : List Str := ["value", "each"]
theorem S12 : FnScope N12 ["value"] (defScope s12) := ⟨rfl, rfl, rfl, by decide +kernel, rfl, by decide +kernel, by decide +kernel⟩
abbrev s16 : Stmt := topS 16
abbrev N16 : List Str := ["value"]
theorem S16 : FnScope N16 ["value"] (defScope s16) := ⟨rfl, rfl, rfl, by decide +kernel, rfl, by decide +kernel, by decide +kernel⟩
abbrev s19 : Stmt := topS 19
abbrev N19 : List Str := ["level"]
theorem S19 : FnScope N19 ["level"] (defScope s19) := ⟨rfl, rfl, rfl, by decide +kernel, rfl, by decide +kernel, by decide +kernel⟩
abbrev s23 : Stmt := topS 23
abbrev N23 : List Str := ["dealt", "bound", "each"]
theorem S23 : FnScope N23 ["dealt", "bound"] (defScope s23) := ⟨rfl, rfl, rfl, by decide +kernel, rfl, by decide +kernel, by decide +kernel⟩
abbrev s22 : Stmt := topS 22
abbrev N22 : List Str := ["dealt", "most", "level", "found"]
theorem S22 : FnScope N22 ["dealt", "most", "level"] (defScope s22) := ⟨rfl, rfl, rfl, by decide +kernel, rfl, by decide +kernel, by decide +kernel⟩
abbrev s17 : Stmt := topS 17
abbrev N17 : List Str := ["weights", "size", "some"]
theorem S17 : FnScope N17 ["weights", "size"] (defScope s17) := ⟨rfl, rfl, rfl, by decide +kernel, rfl, by decide +kernel, by decide +kernel⟩
abbrev s24 : Stmt := topS 24
abbrev N24 : List Str := ["many", "at"]
theorem S24 : FnScope N24 ["many"] (defScope s24) := ⟨rfl, rfl, rfl, by decide +kernel, rfl, by decide +kernel, by decide +kernel⟩
abbrev s25 : Stmt := topS 25
abbrev N25 : List Str := ["size", "second", "level"]
theorem S25 : FnScope N25 ["size", "second", "level"] (defScope s25) := ⟨rfl, rfl, rfl, by decide +kernel, rfl, by decide +kernel, by decide +kernel⟩
abbrev s28 : Stmt := topS 28
abbrev N28 : List Str := ["size", "second", "level"]
theorem S28 : FnScope N28 ["size", "second", "level"] (defScope s28) := ⟨rfl, rfl, rfl, by decide +kernel, rfl, by decide +kernel, by decide +kernel⟩
abbrev s33 : Stmt := topS 33
abbrev N33 : List Str := ["told", "due", "k"]
theorem S33 : FnScope N33 ["told", "due"] (defScope s33) := ⟨rfl, rfl, rfl, by decide +kernel, rfl, by decide +kernel, by decide +kernel⟩
abbrev s35 : Stmt := topS 35
abbrev N35 : List Str := ["one", "two"]
theorem S35 : FnScope N35 ["one", "two"] (defScope s35) := ⟨rfl, rfl, rfl, by decide +kernel, rfl, by decide +kernel, by decide +kernel⟩
abbrev s41 : Stmt := topS 41
abbrev N41 : List Str := ["bowl", "lap", "size", "second", "level", "other", "due", "beside", "told"]
theorem S41 : FnScope N41 ["bowl"] (defScope s41) := ⟨rfl, rfl, rfl, by decide +kernel, rfl, by decide +kernel, by decide +kernel⟩
abbrev s30 : Stmt := topS 30
abbrev N30 : List Str := ["script", "lap", "stir", "cell", "own"]
theorem S30 : FnScope N30 ["script", "lap"] (defScope s30) := ⟨rfl, rfl, rfl, by decide +kernel, rfl, by decide +kernel, by decide +kernel⟩
abbrev s42 : Stmt := topS 42
abbrev N42 : List Str := ["script", "lap"]
theorem S42 : FnScope N42 ["script"] (defScope s42) := ⟨rfl, rfl, rfl, by decide +kernel, rfl, by decide +kernel, by decide +kernel⟩
structure Z (P : Program) (w : World) (K : PySem.W.Frag) (mg : Str → Option Value) (base : Heap) (T : List (Addr × Str)) where
  f__law_draw : Addr
  d__law_draw : FuncData
  F__law_draw : Fun K "_law_draw" "_law_draw" s31 f__law_draw d__law_draw
  g__law_draw : mg "_law_draw" = some (.ref f__law_draw)
  f__law_of : Addr
  d__law_of : FuncData
  F__law_of : Fun K "_law_of" "_law_of" s32 f__law_of d__law_of
  g__law_of : mg "_law_of" = some (.ref f__law_of)
  f__law_level : Addr
  d__law_level : FuncData
  F__law_level : Fun K "_law_level" "_law_level" s40 f__law_level d__law_level
  g__law_level : mg "_law_level" = some (.ref f__law_level)
  f__law_sets : Addr
  d__law_sets : FuncData
  F__law_sets : Fun K "_law_sets" "_law_sets" s34 f__law_sets d__law_sets
  g__law_sets : mg "_law_sets" = some (.ref f__law_sets)
  c__law_sets : Addr
  t__law_sets : Addr
  L__law_sets : FunC K "_law_sets" "_law_sets" s34 f__law_sets d__law_sets (.ref c__law_sets)
  tb__law_sets : TabB base mg c__law_sets t__law_sets
  tm__law_sets : (t__law_sets, ("_law_sets" : Str) ++ ".<locals>." ++ "<lambda>") ∈ T
  tu__law_sets : ∀ p ∈ T, p.1 = t__law_sets → p.2 = ("_law_sets" : Str) ++ ".<locals>." ++ "<lambda>"
  f__law_ranks : Addr
  d__law_ranks : FuncData
  F__law_ranks : Fun K "_law_ranks" "_law_ranks" s36 f__law_ranks d__law_ranks
  g__law_ranks : mg "_law_ranks" = some (.ref f__law_ranks)
  f__law_measure : Addr
  d__law_measure : FuncData
  F__law_measure : Fun K "_law_measure" "_law_measure" s37 f__law_measure d__law_measure
  g__law_measure : mg "_law_measure" = some (.ref f__law_measure)
  f__law_dealt : Addr
  d__law_dealt : FuncData
  F__law_dealt : Fun K "_law_dealt" "_law_dealt" s38 f__law_dealt d__law_dealt
  g__law_dealt : mg "_law_dealt" = some (.ref f__law_dealt)
  f__law_bound : Addr
  d__law_bound : FuncData
  F__law_bound : Fun K "_law_bound" "_law_bound" s39 f__law_bound d__law_bound
  g__law_bound : mg "_law_bound" = some (.ref f__law_bound)
  f_is_whole : Addr
  d_is_whole : FuncData
  F_is_whole : Fun K "is_whole" "is_whole" s7 f_is_whole d_is_whole
  g_is_whole : mg "is_whole" = some (.ref f_is_whole)
  f_is_between : Addr
  d_is_between : FuncData
  F_is_between : Fun K "is_between" "is_between" s8 f_is_between d_is_between
  g_is_between : mg "is_between" = some (.ref f_is_between)
  f_check_number : Addr
  d_check_number : FuncData
  F_check_number : Fun K "check_number" "check_number" s20 f_check_number d_check_number
  g_check_number : mg "check_number" = some (.ref f_check_number)
  f_check_sizes : Addr
  d_check_sizes : FuncData
  F_check_sizes : Fun K "check_sizes" "check_sizes" s27 f_check_sizes d_check_sizes
  g_check_sizes : mg "check_sizes" = some (.ref f_check_sizes)
  f_is_tuple_of : Addr
  d_is_tuple_of : FuncData
  F_is_tuple_of : Fun K "is_tuple_of" "is_tuple_of" s9 f_is_tuple_of d_is_tuple_of
  g_is_tuple_of : mg "is_tuple_of" = some (.ref f_is_tuple_of)
  f_is_pair : Addr
  d_is_pair : FuncData
  F_is_pair : Fun K "is_pair" "is_pair" s10 f_is_pair d_is_pair
  g_is_pair : mg "is_pair" = some (.ref f_is_pair)
  f_is_fraction : Addr
  d_is_fraction : FuncData
  F_is_fraction : Fun K "is_fraction" "is_fraction" s12 f_is_fraction d_is_fraction
  g_is_fraction : mg "is_fraction" = some (.ref f_is_fraction)
  f_is_open_part : Addr
  d_is_open_part : FuncData
  F_is_open_part : Fun K "is_open_part" "is_open_part" s16 f_is_open_part d_is_open_part
  g_is_open_part : mg "is_open_part" = some (.ref f_is_open_part)
  f_check_level : Addr
  d_check_level : FuncData
  F_check_level : Fun K "check_level" "check_level" s19 f_check_level d_check_level
  g_check_level : mg "check_level" = some (.ref f_check_level)
  f_beyond : Addr
  d_beyond : FuncData
  F_beyond : Fun K "beyond" "beyond" s23 f_beyond d_beyond
  g_beyond : mg "beyond" = some (.ref f_beyond)
  f_least_bound : Addr
  d_least_bound : FuncData
  F_least_bound : Fun K "least_bound" "least_bound" s22 f_least_bound d_least_bound
  g_least_bound : mg "least_bound" = some (.ref f_least_bound)
  f_dealt_by : Addr
  d_dealt_by : FuncData
  F_dealt_by : Fun K "dealt_by" "dealt_by" s17 f_dealt_by d_dealt_by
  g_dealt_by : mg "dealt_by" = some (.ref f_dealt_by)
  f_unlike_leads : Addr
  d_unlike_leads : FuncData
  F_unlike_leads : Fun K "unlike_leads" "unlike_leads" s24 f_unlike_leads d_unlike_leads
  g_unlike_leads : mg "unlike_leads" = some (.ref f_unlike_leads)
  f_bound_by : Addr
  d_bound_by : FuncData
  F_bound_by : Fun K "bound_by" "bound_by" s25 f_bound_by d_bound_by
  g_bound_by : mg "bound_by" = some (.ref f_bound_by)
  f_bound : Addr
  d_bound : FuncData
  F_bound : Fun K "bound" "bound" s28 f_bound d_bound
  g_bound : mg "bound" = some (.ref f_bound)
  f__law_same : Addr
  d__law_same : FuncData
  F__law_same : Fun K "_law_same" "_law_same" s33 f__law_same d__law_same
  g__law_same : mg "_law_same" = some (.ref f__law_same)
  f__law_is_below : Addr
  d__law_is_below : FuncData
  F__law_is_below : Fun K "_law_is_below" "_law_is_below" s35 f__law_is_below d__law_is_below
  g__law_is_below : mg "_law_is_below" = some (.ref f__law_is_below)
  f__law_right : Addr
  d__law_right : FuncData
  F__law_right : Fun K "_law_right" "_law_right" s41 f__law_right d__law_right
  g__law_right : mg "_law_right" = some (.ref f__law_right)
  f__law_bowl : Addr
  d__law_bowl : FuncData
  F__law_bowl : Fun K "_law_bowl" "_law_bowl" s30 f__law_bowl d__law_bowl
  g__law_bowl : mg "_law_bowl" = some (.ref f__law_bowl)
  f_law : Addr
  d_law : FuncData
  F_law : Fun K "law" "law" s42 f_law d_law
  g_law : mg "law" = some (.ref f_law)
  u_divmod : mg "divmod" = none
  u_int : mg "int" = none
  u_len : mg "len" = none
  u_range : mg "range" = none
  u_sorted : mg "sorted" = none
  u_sum : mg "sum" = none
  u_tuple : mg "tuple" = none
  u_list : mg "list" = none
  u_abs : mg "abs" = none
  u_isinstance : mg "isinstance" = none
  u_bool : mg "bool" = none
  u_all : mg "all" = none
  u_str : mg "str" = none
  u_min : mg "min" = none
  u_max : mg "max" = none
  w_gcd : mg "gcd" = some (.builtin "math.gcd")
  t_combinations : mg "combinations" = some (.type "itertools.combinations")
  v_MOST_GROUP : GlobD K mg "MOST_GROUP" Lw.v_MOST_GROUP
  v_MOST_BOTH : GlobD K mg "MOST_BOTH" Lw.v_MOST_BOTH
section
variable {P : Program} {w : World} {K : PySem.W.Frag} {mg : Str → Option Value} {base : Heap} {T : List (Addr × Str)} {N : String → Addr → Prop} {W : WX} (z : Z P w K mg base T)
theorem bi__law_draw : Binds K z.d__law_draw ["bowl", "many"] [] := z.F__law_draw.binds (ps := ["bowl", "many"]) fun _ _ _ _ _ _ us hl => match us, hl with | [_, _], _ => rfl
theorem bi__law_of : Binds K z.d__law_of ["bowl", "some"] [] := z.F__law_of.binds (ps := ["bowl", "some"]) fun _ _ _ _ _ _ us hl => match us, hl with | [_, _], _ => rfl
theorem bi__law_level : Binds K z.d__law_level ["bowl"] [] := z.F__law_level.binds (ps := ["bowl"]) fun _ _ _ _ _ _ us hl => match us, hl with | [_], _ => rfl
theorem bi__law_sets : Binds K z.d__law_sets ["many"] [] := z.F__law_sets.binds (ps := ["many"]) fun _ _ _ _ _ _ us hl => match us, hl with | [_], _ => rfl
theorem bi__law_ranks : Binds K z.d__law_ranks ["some", "among"] [] := z.F__law_ranks.binds (ps := ["some", "among"]) fun _ _ _ _ _ _ us hl => match us, hl with | [_, _], _ => rfl
theorem bi__law_measure : Binds K z.d__law_measure ["one", "two", "measure"] [] := z.F__law_measure.binds (ps := ["one", "two", "measure"]) fun _ _ _ _ _ _ us hl => match us, hl with | [_, _, _], _ => rfl
theorem bi__law_dealt : Binds K z.d__law_dealt ["one", "two", "measure"] [] := z.F__law_dealt.binds (ps := ["one", "two", "measure"]) fun _ _ _ _ _ _ us hl => match us, hl with | [_, _, _], _ => rfl
theorem bi__law_bound : Binds K z.d__law_bound ["size", "second", "level"] [] := z.F__law_bound.binds (ps := ["size", "second", "level"]) fun _ _ _ _ _ _ us hl => match us, hl with | [_, _, _], _ => rfl
theorem bi_is_whole : Binds K z.d_is_whole ["value"] [] := z.F_is_whole.binds (ps := ["value"]) fun _ _ _ _ _ _ us hl => match us, hl with | [_], _ => rfl
theorem bi_is_between : Binds K z.d_is_between ["value", "least", "most"] [] := z.F_is_between.binds (ps := ["value", "least", "most"]) fun _ _ _ _ _ _ us hl => match us, hl with | [_, _, _], _ => rfl
theorem bi_check_number : Binds K z.d_check_number ["number", "least", "most"] [] := z.F_check_number.binds (ps := ["number", "least", "most"]) fun _ _ _ _ _ _ us hl => match us, hl with | [_, _, _], _ => rfl
theorem bi_check_sizes : Binds K z.d_check_sizes ["size", "second"] [] := z.F_check_sizes.binds (ps := ["size", "second"]) fun _ _ _ _ _ _ us hl => match us, hl with | [_, _], _ => rfl
theorem bi_is_tuple_of : Binds K z.d_is_tuple_of ["value", "many"] [] := z.F_is_tuple_of.binds (ps := ["value", "many"]) fun _ _ _ _ _ _ us hl => match us, hl with | [_, _], _ => rfl
theorem bi_is_pair : Binds K z.d_is_pair ["value"] [] := z.F_is_pair.binds (ps := ["value"]) fun _ _ _ _ _ _ us hl => match us, hl with | [_], _ => rfl
theorem bi_is_fraction : Binds K z.d_is_fraction ["value"] [] := z.F_is_fraction.binds (ps := ["value"]) fun _ _ _ _ _ _ us hl => match us, hl with | [_], _ => rfl
theorem bi_is_open_part : Binds K z.d_is_open_part ["value"] [] := z.F_is_open_part.binds (ps := ["value"]) fun _ _ _ _ _ _ us hl => match us, hl with | [_], _ => rfl
theorem bi_check_level : Binds K z.d_check_level ["level"] [] := z.F_check_level.binds (ps := ["level"]) fun _ _ _ _ _ _ us hl => match us, hl with | [_], _ => rfl
theorem bi_beyond : Binds K z.d_beyond ["dealt", "bound"] [] := z.F_beyond.binds (ps := ["dealt", "bound"]) fun _ _ _ _ _ _ us hl => match us, hl with | [_, _], _ => rfl
theorem bi_least_bound : Binds K z.d_least_bound ["dealt", "most", "level"] [] := z.F_least_bound.binds (ps := ["dealt", "most", "level"]) fun _ _ _ _ _ _ us hl => match us, hl with | [_, _, _], _ => rfl
theorem bi_dealt_by : Binds K z.d_dealt_by ["weights", "size"] [] := z.F_dealt_by.binds (ps := ["weights", "size"]) fun _ _ _ _ _ _ us hl => match us, hl with | [_, _], _ => rfl
theorem bi_unlike_leads : Binds K z.d_unlike_leads ["many"] [] := z.F_unlike_leads.binds (ps := ["many"]) fun _ _ _ _ _ _ us hl => match us, hl with | [_], _ => rfl
theorem bi_bound_by : Binds K z.d_bound_by ["size", "second", "level"] [] := z.F_bound_by.binds (ps := ["size", "second", "level"]) fun _ _ _ _ _ _ us hl => match us, hl with | [_, _, _], _ => rfl
theorem bi_bound : Binds K z.d_bound ["size", "second", "level"] [] := z.F_bound.binds (ps := ["size", "second", "level"]) fun _ _ _ _ _ _ us hl => match us, hl with | [_, _, _], _ => rfl
theorem bi__law_same : Binds K z.d__law_same ["told", "due"] [] := z.F__law_same.binds (ps := ["told", "due"]) fun _ _ _ _ _ _ us hl => match us, hl with | [_, _], _ => rfl
theorem bi__law_is_below : Binds K z.d__law_is_below ["one", "two"] [] := z.F__law_is_below.binds (ps := ["one", "two"]) fun _ _ _ _ _ _ us hl => match us, hl with | [_, _], _ => rfl
theorem bi__law_right : Binds K z.d__law_right ["bowl"] [] := z.F__law_right.binds (ps := ["bowl"]) fun _ _ _ _ _ _ us hl => match us, hl with | [_], _ => rfl
theorem bi__law_bowl : Binds K z.d__law_bowl ["script", "lap"] [] := z.F__law_bowl.binds (ps := ["script", "lap"]) fun _ _ _ _ _ _ us hl => match us, hl with | [_, _], _ => rfl
theorem bi_law : Binds K z.d_law ["script"] [] := z.F_law.binds (ps := ["script"]) fun _ _ _ _ _ _ us hl => match us, hl with | [_], _ => rfl
theorem kb_bound_0_2_1_0 : KB K z.d_bound ["size", "second", "level"] ["level", "second", "size"] 0 [2, 1, 0] := kb_mk z.F_bound fun _ _ _ _ _ _ us ws h1 h2 => match us, h1, ws, h2 with | [], _, [_, _, _], _ => rfl
theorem ok__law_draw : FnOk P w K mg base (L2.CX P w) 1 z.f__law_draw z.d__law_draw ["bowl", "many"] (liftSp ⟨K, T, N, W⟩ 2 m__law_draw) := def_ok z.F__law_draw S31 rfl rfl fun cdv A outer s H E w0 H0 hr =>
  psd_cons (psd_if (pt_cmpD c_gt (pd_bix (pd_var 0) (pd_int)) (pd_int)) (psd_cons (psd_asgS (gsTup rfl (gsCons (gsBw (i := 0)) (gsCons (gsN (i := 2)) (gsNil)))) (pg_tup (by rfl) (pgs_cons (pg_subL 0 (pd_int)) (pgs_cons (pg_name (i := 2) S31.nd (by rfl) (by first | exact Or.inl rfl | exact Or.inr rfl)) (pgs_nil)))) (pd_divmod z.u_divmod (pa_consD (pd_bix (pd_var 0) (pd_int)) (pa_consD (pd_var 1) pa_nilD)))) (psd_one (psd_ret (pd_var 2)))) (psd_nil)) (psd_cons (psd_asgS (gsBw (i := 0)) (pg_subL 0 (pd_int)) (pd_add (pd_bix (pd_var 0) (pd_int)) (pd_int))) (psd_cons (psd_set 3 S31.nd (pd_mod (pd_intC z.u_int (pa_consD (pd_add (pd_mul (pd_bix (pd_var 0) (pd_int)) (pd_int)) (pd_mul (pd_int) (pd_bix (pd_var 0) (pd_int)))) pa_nilD)) (pd_int))) (psd_cons (psd_asgS (gsBw (i := 0)) (pg_subL 0 (pd_int)) (pd_mod (pd_intC z.u_int (pa_consD (pd_add (pd_mul (pd_var 3) (pd_add (pd_mod (pd_intC z.u_int (pa_consD (pd_var 3) pa_nilD)) (pd_int)) (pd_int))) (pd_mul (pd_int) (pd_bix (pd_var 0) (pd_int)))) pa_nilD)) (pd_int))) (psd_one (psd_ret (pd_mod (pd_intC z.u_int (pa_consD (pd_div (pd_bix (pd_var 0) (pd_int)) (pd_int)) pa_nilD)) (pd_var 1)))))))
theorem ok__law_of : FnOk P w K mg base (L2.CX P w) 2 z.f__law_of z.d__law_of ["bowl", "some"] (liftSp ⟨K, T, N, W⟩ 2 m__law_of) := def_ok z.F__law_of S32 rfl rfl fun cdv A outer s H E w0 H0 hr =>
  psd_one (psd_ret (pd_ix (pd_var 1) (pd_call (ok__law_draw z) (hr.mono (by decide)) (takes_of (by rfl) (by rfl) (by rfl) (by rfl)) (by rfl) z.g__law_draw z.F__law_draw.kp (bi__law_draw z) (pa_consD (pd_var 0) (pa_consD (pd_len z.u_len (pa_consD (pd_var 1) pa_nilD)) pa_nilD)))))
theorem ok__law_level : FnOk P w K mg base (L2.CX P w) 3 z.f__law_level z.d__law_level ["bowl"] (liftSp ⟨K, T, N, W⟩ 1 m__law_level) := def_ok z.F__law_level S40 rfl rfl fun cdv A outer s H E w0 H0 hr =>
  psd_one (psd_ret (pd_call (ok__law_of z) (hr.mono (by decide)) (takes_of (by rfl) (by rfl) (by rfl) (by rfl)) (by rfl) z.g__law_of z.F__law_of.kp (bi__law_of z) (pa_consD (pd_var 0) (pa_consD (pd_tup (pa_consD (pd_tup (pa_consD (pd_int) (pa_consD (pd_int) pa_nilD))) (pa_consD (pd_tup (pa_consD (pd_int) (pa_consD (pd_int) pa_nilD))) (pa_consD (pd_tup (pa_consD (pd_int) (pa_consD (pd_int) pa_nilD))) (pa_consD (pd_tup (pa_consD (pd_int) (pa_consD (pd_int) pa_nilD))) (pa_consD (pd_tup (pa_consD (pd_int) (pa_consD (pd_int) pa_nilD))) (pa_consD (pd_tup (pa_consD (pd_int) (pa_consD (pd_int) pa_nilD))) (pa_consD (pd_tup (pa_consD (pd_int) (pa_consD (pd_int) pa_nilD))) (pa_consD (pd_tup (pa_consD (pd_int) (pa_consD (pd_int) pa_nilD))) pa_nilD))))))))) pa_nilD))))
theorem ok__law_sets : FnOk P w K mg base (L2.CX P w) 3 z.f__law_sets z.d__law_sets ["many"] (liftSp ⟨K, T, N, W⟩ 1 m__law_sets) := def_okC z.L__law_sets S34 rfl rfl fun A outer s H E w0 H0 hr =>
  psd_cons (psd_set 1 S34.nd (pd_lst (pa_consD (pd_tup pa_nilD) pa_nilD))) (psd_cons (psd_for (ix := fun _ => True) (passes_of (by rfl)) (by rfl) rng1_ok (pi_range1 (by rfl) z.u_range (pa_consD (pd_var 0) pa_nilD)) (gN_ok (i := 2) trivial) (pg_name (i := 2) S34.nd (by rfl) (by first | exact Or.inl rfl | exact Or.inr rfl)) (psd_one (psd_set 1 S34.nd (pd_add (pd_var 1) (pd_comp (own := [("some", 3)]) (by rfl) S34.nd iter_ok (pi_iter (pd_var 1)) (blkOk_by (N := N34) (sc := (defScope s34)) (by decide +kernel)) (gN_ok (i := 3) (by simp)) (fun _ _ _ _ _ => pg_name (i := 3) S34.nd (by rfl) (by first | exact Or.inl rfl | exact Or.inr rfl)) (fun _ _ _ _ _ => pts_nilD) (fun _ _ _ _ _ => pd_add (pd_var 3) (pd_tup (pa_consD (pd_var 2) pa_nilD)))))))) (psd_one (psd_ret (pd_sortedK (k := 1) (pd_var 1) (el_lam (N := ["some"]) (ps := ["some"]) (fr := []) (js := []) z.tb__law_sets (by rfl) z.tm__law_sets z.tu__law_sets (nscope_by (by decide +kernel)) (lamFree (sc := (defScope s34)) (by decide +kernel)) (by decide +kernel) (by rfl) (by rfl) (by rfl) (fun cl pm cv ctv us hl => match us, hl with | [_], _ => rfl) (by rfl) (fun f c' A outer s s2 H1 H2 E hr kp => pd_tup (pa_consD (pd_len z.u_len (pa_consD (pd_var 0) pa_nilD)) (pa_consD (pd_var 0) pa_nilD)))) (hr.mono (by decide)) z.u_sorted))))
theorem ok__law_ranks : FnOk P w K mg base (L2.CX P w) 1 z.f__law_ranks z.d__law_ranks ["some", "among"] (liftSp ⟨K, T, N, W⟩ 2 m__law_ranks) := def_ok z.F__law_ranks S36 rfl rfl fun cdv A outer s H E w0 H0 hr =>
  psd_one (psd_ret (pd_comp (own := [("each", 3)]) (by rfl) S36.nd iter_ok (pi_iter (pd_var 0)) (blkOk_by (N := N36) (sc := (defScope s36)) (by decide +kernel)) (gN_ok (i := 3) (by simp)) (fun _ _ _ _ _ => pg_name (i := 3) S36.nd (by rfl) (by first | exact Or.inl rfl | exact Or.inr rfl)) (fun _ _ _ _ _ => pts_nilD) (fun _ _ _ _ _ => pd_add (pd_add (pd_mul (pd_int) (pd_len z.u_len (pa_consD (pd_comp (own := [("x", 2)]) (by rfl) S36.nd iter_ok (pi_iter (pd_var 1)) (blkOk_by (N := N36) (by kernel_rfl)) (gN_ok (i := 2) (by simp)) (fun _ _ _ _ _ => pg_name (i := 2) S36.nd (by rfl) (by first | exact Or.inl rfl | exact Or.inr rfl)) (fun _ _ _ _ _ => pts_oneD (pt_cmpD c_lt (pd_var 2) (pd_var 3))) (fun _ _ _ _ _ => pd_var 2)) pa_nilD))) (pd_len z.u_len (pa_consD (pd_comp (own := [("x", 2)]) (by rfl) S36.nd iter_ok (pi_iter (pd_var 1)) (blkOk_by (N := N36) (by kernel_rfl)) (gN_ok (i := 2) (by simp)) (fun _ _ _ _ _ => pg_name (i := 2) S36.nd (by rfl) (by first | exact Or.inl rfl | exact Or.inr rfl)) (fun _ _ _ _ _ => pts_oneD (pt_cmpD (c_eq hr) (pd_var 2) (pd_var 3))) (fun _ _ _ _ _ => pd_var 2)) pa_nilD))) (pd_int))))
theorem ok__law_measure : FnOk P w K mg base (L2.CX P w) 2 z.f__law_measure z.d__law_measure ["one", "two", "measure"] (liftSp ⟨K, T, N, W⟩ 3 m__law_measure) := def_ok z.F__law_measure S37 rfl rfl fun cdv A outer s H E w0 H0 hr =>
  psd_cons (psd_if (pt_cmpD (c_eq hr) (pd_var 2) (pd_str)) (psd_one (psd_ret (pd_sum (by rfl) z.u_sum (pa_consD (pd_var 0) pa_nilD)))) (psd_nil)) (psd_cons (psd_if (pt_cmpD (c_eq hr) (pd_var 2) (pd_str)) (psd_one (psd_ret (pd_sum (by rfl) z.u_sum (pa_consD (pd_call (ok__law_ranks z) (hr.mono (by decide)) (takes_of (by rfl) (by rfl) (by rfl) (by rfl)) (by rfl) z.g__law_ranks z.F__law_ranks.kp (bi__law_ranks z) (pa_consD (pd_var 0) (pa_consD (pd_add (pd_var 0) (pd_var 1)) pa_nilD))) pa_nilD)))) (psd_nil)) (psd_cons (psd_set 3 S37.nd (pd_int)) (psd_cons (psd_for (ix := fun _ => True) (passes_of (by rfl)) (by rfl) iter_ok (pi_iter (pd_var 0)) (gN_ok (i := 4) trivial) (pg_name (i := 4) S37.nd (by rfl) (by first | exact Or.inl rfl | exact Or.inr rfl)) (psd_one (psd_set 3 S37.nd (pd_sub (pd_add (pd_var 3) (pd_len z.u_len (pa_consD (pd_comp (own := [("x", 5)]) (by rfl) S37.nd iter_ok (pi_iter (pd_var 1)) (blkOk_by (N := N37) (sc := (defScope s37)) (by decide +kernel)) (gN_ok (i := 5) (by simp)) (fun _ _ _ _ _ => pg_name (i := 5) S37.nd (by rfl) (by first | exact Or.inl rfl | exact Or.inr rfl)) (fun _ _ _ _ _ => pts_oneD (pt_cmpD c_gt (pd_var 4) (pd_var 5))) (fun _ _ _ _ _ => pd_var 5)) pa_nilD))) (pd_len z.u_len (pa_consD (pd_comp (own := [("x", 5)]) (by rfl) S37.nd iter_ok (pi_iter (pd_var 1)) (blkOk_by (N := N37) (sc := (defScope s37)) (by decide +kernel)) (gN_ok (i := 5) (by simp)) (fun _ _ _ _ _ => pg_name (i := 5) S37.nd (by rfl) (by first | exact Or.inl rfl | exact Or.inr rfl)) (fun _ _ _ _ _ => pts_oneD (pt_cmpD c_lt (pd_var 4) (pd_var 5))) (fun _ _ _ _ _ => pd_var 5)) pa_nilD)))))) (psd_one (psd_ret (pd_var 3))))))
theorem ok__law_dealt : FnOk P w K mg base (L2.CX P w) 4 z.f__law_dealt z.d__law_dealt ["one", "two", "measure"] (liftSp ⟨K, T, N, W⟩ 3 m__law_dealt) := def_ok z.F__law_dealt S38 rfl rfl fun cdv A outer s H E w0 H0 hr =>
  psd_cons (psd_setsN [3, 4] rfl (pita_cons (pit_pl (pd_add (pd_var 0) (pd_var 1))) (pita_cons (pit_lst pa_nilD) pita_nil)) (pg_tup (by rfl) (pgs_cons (pg_name (i := 3) S38.nd (by rfl) (by first | exact Or.inl rfl | exact Or.inr rfl)) (pgs_cons (pg_name (i := 4) S38.nd (by rfl) (by first | exact Or.inl rfl | exact Or.inr rfl)) (pgs_nil))))) (psd_cons (psd_for (ix := fun _ => True) (passes_of (by rfl)) (by rfl) iter_ok (pi_iter (pd_call (ok__law_sets z) (hr.mono (by decide)) (takes_of (by rfl) (by rfl) (by rfl) (by rfl)) (by rfl) z.g__law_sets z.F__law_sets.kp (bi__law_sets z) (pa_consD (pd_len z.u_len (pa_consD (pd_var 3) pa_nilD)) pa_nilD))) (gN_ok (i := 5) trivial) (pg_name (i := 5) S38.nd (by rfl) (by first | exact Or.inl rfl | exact Or.inr rfl)) (psd_one (psd_if (pt_cmpD (c_eq hr) (pd_len z.u_len (pa_consD (pd_var 5) pa_nilD)) (pd_len z.u_len (pa_consD (pd_var 0) pa_nilD))) (psd_cons (psd_par 6 7 (by rfl) S38.nd (pd_tuple z.u_tuple (pa_consD (pd_comp (own := [("k", 8)]) (by rfl) S38.nd iter_ok (pi_iter (pd_var 5)) (blkOk_by (N := N38) (sc := (defScope s38)) (by decide +kernel)) (gN_ok (i := 8) (by simp)) (fun _ _ _ _ _ => pg_name (i := 8) S38.nd (by rfl) (by first | exact Or.inl rfl | exact Or.inr rfl)) (fun _ _ _ _ _ => pts_nilD) (fun _ _ _ _ _ => pd_ix (pd_var 3) (pd_var 8))) pa_nilD)) (pd_tuple z.u_tuple (pa_consD (pd_comp (own := [("k", 8)]) (by rfl) S38.nd rng1_ok (pi_range1 (by rfl) z.u_range (pa_consD (pd_len z.u_len (pa_consD (pd_var 3) pa_nilD)) pa_nilD)) (blkOk_by (N := N38) (sc := (defScope s38)) (by decide +kernel)) (gN_ok (i := 8) (by simp)) (fun _ _ _ _ _ => pg_name (i := 8) S38.nd (by rfl) (by first | exact Or.inl rfl | exact Or.inr rfl)) (fun _ _ _ _ _ => pts_oneD (pt_cmpD c_notin (pd_var 8) (pd_var 5))) (fun _ _ _ _ _ => pd_ix (pd_var 3) (pd_var 8))) pa_nilD))) (psd_one (psd_app 4 (pd_call (ok__law_measure z) (hr.mono (by decide)) (takes_of (by rfl) (by rfl) (by rfl) (by rfl)) (by rfl) z.g__law_measure z.F__law_measure.kp (bi__law_measure z) (pa_consD (pd_var 6) (pa_consD (pd_var 7) (pa_consD (pd_var 2) pa_nilD))))))) (psd_nil)))) (psd_freeze 4 (psd_one (psd_ret (pd_var 4)))))
theorem ok__law_bound : FnOk P w K mg base (L2.CX P w) 5 z.f__law_bound z.d__law_bound ["size", "second", "level"] (liftSp ⟨K, T, N, W⟩ 3 m__law_bound) := def_ok z.F__law_bound S39 rfl rfl fun cdv A outer s H E w0 H0 hr =>
  psd_cons (psd_set 3 S39.nd (pd_lstRg1 (by rfl) z.u_list z.u_range (pd_add (pd_var 0) (pd_var 1)))) (psd_cons (psd_set 4 S39.nd (pd_call (ok__law_dealt z) (hr.mono (by decide)) (takes_of (by rfl) (by rfl) (by rfl) (by rfl)) (by rfl) z.g__law_dealt z.F__law_dealt.kp (bi__law_dealt z) (pa_consD (pd_tuple z.u_tuple (pa_consD (pd_slice (pd_var 3) (po_noneD) (po_someD (pd_var 0))) pa_nilD)) (pa_consD (pd_tuple z.u_tuple (pa_consD (pd_slice (pd_var 3) (po_someD (pd_var 0)) (po_noneD)) pa_nilD)) (pa_consD (pd_str) pa_nilD))))) (psd_cons (psd_for (ix := fun _ => True) (passes_of (by rfl)) (by rfl) rng1_ok (pi_range1 (by rfl) z.u_range (pa_consD (pd_add (pd_mul (pd_var 0) (pd_var 1)) (pd_int)) pa_nilD)) (gN_ok (i := 5) trivial) (pg_name (i := 5) S39.nd (by rfl) (by first | exact Or.inl rfl | exact Or.inr rfl)) (psd_one (psd_if (pt_cmpD c_le (pd_mul (pd_len z.u_len (pa_consD (pd_comp (own := [("x", 6)]) (by rfl) S39.nd iter_ok (pi_iter (pd_var 4)) (blkOk_by (N := N39) (sc := (defScope s39)) (by decide +kernel)) (gN_ok (i := 6) (by simp)) (fun _ _ _ _ _ => pg_name (i := 6) S39.nd (by rfl) (by first | exact Or.inl rfl | exact Or.inr rfl)) (fun _ _ _ _ _ => pts_oneD (pt_cmpD c_gt (pd_abs z.u_abs (pa_consD (pd_var 6) pa_nilD)) (pd_var 5))) (fun _ _ _ _ _ => pd_var 6)) pa_nilD)) (pd_ix (pd_var 2) (pd_int))) (pd_mul (pd_ix (pd_var 2) (pd_int)) (pd_len z.u_len (pa_consD (pd_var 4) pa_nilD)))) (psd_one (psd_ret (pd_var 5))) (psd_nil)))) (psd_one (psd_ret (pd_mul (pd_var 0) (pd_var 1))))))
theorem ok_is_whole : FnOk P w K mg base (L2.CX P w) 1 z.f_is_whole z.d_is_whole ["value"] (liftSp ⟨K, T, N, W⟩ 1 m_is_whole) := def_ok z.F_is_whole S7 rfl rfl fun cdv A outer s H E w0 H0 hr =>
  psd_one (psd_ret (pd_and (pd_isi2 z.u_isinstance z.u_int (pd_var 0) (by decide +kernel) (by decide) (by decide) (by decide)) (pd_one (pd_not (pd_isi2 z.u_isinstance z.u_bool (pd_var 0) (by decide +kernel) (by decide) (by decide) (by decide))))))
theorem ok_is_between : FnOk P w K mg base (L2.CX P w) 2 z.f_is_between z.d_is_between ["value", "least", "most"] (liftSp ⟨K, T, N, W⟩ 3 m_is_between) := def_ok z.F_is_between S8 rfl rfl fun cdv A outer s H E w0 H0 hr =>
  psd_one (psd_ret (pd_and (pd_call (ok_is_whole z) (hr.mono (by decide)) (takes_of (by rfl) (by rfl) (by rfl) (by rfl)) (by rfl) z.g_is_whole z.F_is_whole.kp (bi_is_whole z) (pa_consD (pd_var 0) pa_nilD)) (pd_one (pd_chain c_le c_le (pd_var 1) (pd_var 0) (pd_var 2)))))
theorem ok_check_number : FnOk P w K mg base (L2.CX P w) 3 z.f_check_number z.d_check_number ["number", "least", "most"] (liftSp ⟨K, T, N, W⟩ 3 m_check_number) := def_ok z.F_check_number S20 rfl rfl fun cdv A outer s H E w0 H0 hr =>
  psd_one (psd_if (pt_notD (pt_valD (pd_call (ok_is_between z) (hr.mono (by decide)) (takes_of (by rfl) (by rfl) (by rfl) (by rfl)) (by rfl) z.g_is_between z.F_is_between.kp (bi_is_between z) (pa_consD (pd_var 0) (pa_consD (pd_var 1) (pa_consD (pd_var 2) pa_nilD)))))) (psd_one (psd_never)) (psd_nil))
theorem ok_check_sizes : FnOk P w K mg base (L2.CX P w) 4 z.f_check_sizes z.d_check_sizes ["size", "second"] (liftSp ⟨K, T, N, W⟩ 2 m_check_sizes) := def_ok z.F_check_sizes S27 rfl rfl fun cdv A outer s H E w0 H0 hr =>
  psd_cons (psd_expr (pd_call (ok_check_number z) (hr.mono (by decide)) (takes_of (by rfl) (by rfl) (by rfl) (by rfl)) (by rfl) z.g_check_number z.F_check_number.kp (bi_check_number z) (pa_consD (pd_var 0) (pa_consD (pd_int) (pa_consD (pd_glob z.v_MOST_GROUP) pa_nilD))))) (psd_cons (psd_expr (pd_call (ok_check_number z) (hr.mono (by decide)) (takes_of (by rfl) (by rfl) (by rfl) (by rfl)) (by rfl) z.g_check_number z.F_check_number.kp (bi_check_number z) (pa_consD (pd_var 1) (pa_consD (pd_int) (pa_consD (pd_glob z.v_MOST_GROUP) pa_nilD))))) (psd_one (psd_if (pt_cmpD c_gt (pd_add (pd_var 0) (pd_var 1)) (pd_glob z.v_MOST_BOTH)) (psd_one (psd_never)) (psd_nil))))
theorem ok_is_tuple_of : FnOk P w K mg base (L2.CX P w) 1 z.f_is_tuple_of z.d_is_tuple_of ["value", "many"] (liftSp ⟨K, T, N, W⟩ 2 m_is_tuple_of) := def_ok z.F_is_tuple_of S9 rfl rfl fun cdv A outer s H E w0 H0 hr =>
  psd_one (psd_ret (pd_and (pd_isi2 z.u_isinstance z.u_tuple (pd_var 0) (by decide +kernel) (by decide) (by decide) (by decide)) (pd_one (pd_cmp (c_eq hr) (pd_len z.u_len (pa_consD (pd_var 0) pa_nilD)) (pd_var 1)))))
theorem ok_is_pair : FnOk P w K mg base (L2.CX P w) 2 z.f_is_pair z.d_is_pair ["value"] (liftSp ⟨K, T, N, W⟩ 1 m_is_pair) := def_ok z.F_is_pair S10 rfl rfl fun cdv A outer s H E w0 H0 hr =>
  psd_one (psd_ret (pd_call (ok_is_tuple_of z) (hr.mono (by decide)) (takes_of (by rfl) (by rfl) (by rfl) (by rfl)) (by rfl) z.g_is_tuple_of z.F_is_tuple_of.kp (bi_is_tuple_of z) (pa_consD (pd_var 0) (pa_consD (pd_int) pa_nilD))))
theorem ok_is_fraction : FnOk P w K mg base (L2.CX P w) 3 z.f_is_fraction z.d_is_fraction ["value"] (liftSp ⟨K, T, N, W⟩ 1 m_is_fraction) := def_ok z.F_is_fraction S12 rfl rfl fun cdv A outer s H E w0 H0 hr =>
  psd_cons (psd_if (PW.pt (pw_orD (pt_notD (pt_valD (pd_call (ok_is_pair z) (hr.mono (by decide)) (takes_of (by rfl) (by rfl) (by rfl) (by rfl)) (by rfl) z.g_is_pair z.F_is_pair.kp (bi_is_pair z) (pa_consD (pd_var 0) pa_nilD)))) (pw_or1D (pt_notD (pt_valD (pd_all (by rfl) z.u_all (pa_consD (pd_comp (own := [("each", 1)]) (by rfl) S12.nd iter_ok (pi_iter (pd_var 0)) (blkOk_by (N := N12) (sc := (defScope s12)) (by decide +kernel)) (gN_ok (i := 1) (by simp)) (fun _ _ _ _ _ => pg_name (i := 1) S12.nd (by rfl) (by first | exact Or.inl rfl | exact Or.inr rfl)) (fun _ _ _ _ _ => pts_nilD) (fun _ _ _ _ _ => pd_call (ok_is_whole z) (hr.mono (by decide)) takes_quiet (by rfl) z.g_is_whole z.F_is_whole.kp (bi_is_whole z) (pa_consD (pd_var 1) pa_nilD))) pa_nilD))))))) (psd_one (psd_ret (pd_bl))) (psd_nil)) (psd_one (psd_ret (pd_and (pd_cmp c_gt (pd_ix (pd_var 0) (pd_int)) (pd_int)) (pd_one (pd_cmp (c_eq hr) (pd_gcd z.w_gcd (pa_consD (pd_ix (pd_var 0) (pd_int)) (pa_consD (pd_ix (pd_var 0) (pd_int)) pa_nilD))) (pd_int))))))
theorem ok_is_open_part : FnOk P w K mg base (L2.CX P w) 4 z.f_is_open_part z.d_is_open_part ["value"] (liftSp ⟨K, T, N, W⟩ 1 m_is_open_part) := def_ok z.F_is_open_part S16 rfl rfl fun cdv A outer s H E w0 H0 hr =>
  psd_one (psd_ret (pd_and (pd_call (ok_is_fraction z) (hr.mono (by decide)) (takes_of (by rfl) (by rfl) (by rfl) (by rfl)) (by rfl) z.g_is_fraction z.F_is_fraction.kp (bi_is_fraction z) (pa_consD (pd_var 0) pa_nilD)) (pd_one (pd_chain c_lt c_lt (pd_int) (pd_ix (pd_var 0) (pd_int)) (pd_ix (pd_var 0) (pd_int))))))
theorem ok_check_level : FnOk P w K mg base (L2.CX P w) 5 z.f_check_level z.d_check_level ["level"] (liftSp ⟨K, T, N, W⟩ 1 m_check_level) := def_ok z.F_check_level S19 rfl rfl fun cdv A outer s H E w0 H0 hr =>
  psd_one (psd_if (pt_notD (pt_valD (pd_call (ok_is_open_part z) (hr.mono (by decide)) (takes_of (by rfl) (by rfl) (by rfl) (by rfl)) (by rfl) z.g_is_open_part z.F_is_open_part.kp (bi_is_open_part z) (pa_consD (pd_var 0) pa_nilD)))) (psd_one (psd_never)) (psd_nil))
theorem ok_beyond : FnOk P w K mg base (L2.CX P w) 1 z.f_beyond z.d_beyond ["dealt", "bound"] (liftSp ⟨K, T, N, W⟩ 2 m_beyond) := def_ok z.F_beyond S23 rfl rfl fun cdv A outer s H E w0 H0 hr =>
  psd_one (psd_ret (pd_len z.u_len (pa_consD (pd_comp (own := [("each", 2)]) (by rfl) S23.nd iter_ok (pi_iter (pd_var 0)) (blkOk_by (N := N23) (sc := (defScope s23)) (by decide +kernel)) (gN_ok (i := 2) (by simp)) (fun _ _ _ _ _ => pg_name (i := 2) S23.nd (by rfl) (by first | exact Or.inl rfl | exact Or.inr rfl)) (fun _ _ _ _ _ => pts_oneD (pt_cmpD c_gt (pd_abs z.u_abs (pa_consD (pd_var 2) pa_nilD)) (pd_var 1))) (fun _ _ _ _ _ => pd_var 2)) pa_nilD)))
theorem ok_least_bound : FnOk P w K mg base (L2.CX P w) 2 z.f_least_bound z.d_least_bound ["dealt", "most", "level"] (liftSp ⟨K, T, N, W⟩ 3 m_least_bound) := def_ok z.F_least_bound S22 rfl rfl fun cdv A outer s H E w0 H0 hr =>
  psd_cons (psd_set 3 S22.nd (pd_int)) (psd_cons (psd_while (passes_of (by rfl)) (PW.pt (pw_andD (pt_cmpD c_lt (pd_var 3) (pd_var 1)) (pw_and1D (pt_cmpD c_gt (pd_mul (pd_call (ok_beyond z) (hr.mono (by decide)) (takes_of (by rfl) (by rfl) (by rfl) (by rfl)) (by rfl) z.g_beyond z.F_beyond.kp (bi_beyond z) (pa_consD (pd_var 0) (pa_consD (pd_var 3) pa_nilD))) (pd_ix (pd_var 2) (pd_int))) (pd_mul (pd_ix (pd_var 2) (pd_int)) (pd_len z.u_len (pa_consD (pd_var 0) pa_nilD))))))) (psd_one (psd_set 3 S22.nd (pd_add (pd_var 3) (pd_int))))) (psd_one (psd_ret (pd_var 3))))
theorem ok_dealt_by : FnOk P w K mg base (L2.CX P w) 1 z.f_dealt_by z.d_dealt_by ["weights", "size"] (liftSp ⟨K, T, N, W⟩ 2 m_dealt_by) := def_ok z.F_dealt_by S17 rfl rfl fun cdv A outer s H E w0 H0 hr =>
  psd_one (psd_ret (pd_comp (own := [("some", 2)]) (by rfl) S17.nd cmb_ok (pi_cmbD z.t_combinations (pa_consD (pd_var 0) (pa_consD (pd_intC z.u_int (pa_consD (pd_var 1) pa_nilD)) pa_nilD))) (blkOk_by (N := N17) (sc := (defScope s17)) (by decide +kernel)) (gN_ok (i := 2) (by simp)) (fun _ _ _ _ _ => pg_name (i := 2) S17.nd (by rfl) (by first | exact Or.inl rfl | exact Or.inr rfl)) (fun _ _ _ _ _ => pts_nilD) (fun _ _ _ _ _ => pd_sum (by rfl) z.u_sum (pa_consD (pd_var 2) pa_nilD))))
theorem ok_unlike_leads : FnOk P w K mg base (L2.CX P w) 1 z.f_unlike_leads z.d_unlike_leads ["many"] (liftSp ⟨K, T, N, W⟩ 1 m_unlike_leads) := def_ok z.F_unlike_leads S24 rfl rfl fun cdv A outer s H E w0 H0 hr =>
  psd_one (psd_ret (pd_comp (own := [("at", 1)]) (by rfl) S24.nd rng1_ok (pi_range1 (by rfl) z.u_range (pa_consD (pd_var 0) pa_nilD)) (blkOk_by (N := N24) (sc := (defScope s24)) (by decide +kernel)) (gN_ok (i := 1) (by simp)) (fun _ _ _ _ _ => pg_name (i := 1) S24.nd (by rfl) (by first | exact Or.inl rfl | exact Or.inr rfl)) (fun _ _ _ _ _ => pts_nilD) (fun _ _ _ _ _ => pd_sub (pd_mul (pd_int) (pd_var 1)) (pd_sub (pd_var 0) (pd_int)))))
theorem ok_bound_by : FnOk P w K mg base (L2.CX P w) 3 z.f_bound_by z.d_bound_by ["size", "second", "level"] (liftSp ⟨K, T, N, W⟩ 3 m_bound_by) := def_ok z.F_bound_by S25 rfl rfl fun cdv A outer s H E w0 H0 hr =>
  psd_one (psd_ret (pd_call (ok_least_bound z) (hr.mono (by decide)) (takes_of (by rfl) (by rfl) (by rfl) (by rfl)) (by rfl) z.g_least_bound z.F_least_bound.kp (bi_least_bound z) (pa_consD (pd_call (ok_dealt_by z) (hr.mono (by decide)) (takes_of (by rfl) (by rfl) (by rfl) (by rfl)) (by rfl) z.g_dealt_by z.F_dealt_by.kp (bi_dealt_by z) (pa_consD (pd_call (ok_unlike_leads z) (hr.mono (by decide)) (takes_of (by rfl) (by rfl) (by rfl) (by rfl)) (by rfl) z.g_unlike_leads z.F_unlike_leads.kp (bi_unlike_leads z) (pa_consD (pd_add (pd_var 0) (pd_var 1)) pa_nilD)) (pa_consD (pd_var 0) pa_nilD))) (pa_consD (pd_mul (pd_var 0) (pd_var 1)) (pa_consD (pd_var 2) pa_nilD)))))
theorem ok_bound : FnOk P w K mg base (L2.CX P w) 6 z.f_bound z.d_bound ["size", "second", "level"] (liftSp ⟨K, T, N, W⟩ 3 m_bound) := def_ok z.F_bound S28 rfl rfl fun cdv A outer s H E w0 H0 hr =>
  psd_cons (psd_expr (pd_call (ok_check_sizes z) (hr.mono (by decide)) (takes_of (by rfl) (by rfl) (by rfl) (by rfl)) (by rfl) z.g_check_sizes z.F_check_sizes.kp (bi_check_sizes z) (pa_consD (pd_var 0) (pa_consD (pd_var 1) pa_nilD)))) (psd_cons (psd_expr (pd_call (ok_check_level z) (hr.mono (by decide)) (takes_of (by rfl) (by rfl) (by rfl) (by rfl)) (by rfl) z.g_check_level z.F_check_level.kp (bi_check_level z) (pa_consD (pd_var 2) pa_nilD))) (psd_one (psd_ret (pd_call (ok_bound_by z) (hr.mono (by decide)) (takes_of (by rfl) (by rfl) (by rfl) (by rfl)) (by rfl) z.g_bound_by z.F_bound_by.kp (bi_bound_by z) (pa_consD (pd_var 0) (pa_consD (pd_var 1) (pa_consD (pd_var 2) pa_nilD)))))))
theorem ok__law_same : ∀ n : Nat, FnOk P w K mg base (L2.CX P w) (n + 1) z.f__law_same z.d__law_same ["told", "due"] (liftSp ⟨K, T, N, W⟩ 2 (m__law_same n))
  | 0 => ⟨liftSp.len, fun A outer s H args us vs Q E hr e0 hb r ⟨_, _, _, _, _, _, _, _, q, _⟩ => q.elim⟩
  | n + 1 => by
    have ih := ok__law_same n
    exact def_ok z.F__law_same S33 rfl rfl fun cdv A outer s H E w0 H0 hr =>
      psd_cons (psd_if (pt_valD (pd_isi2 z.u_isinstance z.u_tuple (pd_var 1) (by decide +kernel) (by decide) (by decide) (by decide))) (psd_cons (psd_if (PW.pt (pw_orD (pt_notD (pt_valD (pd_isi2 z.u_isinstance z.u_tuple (pd_var 0) (by decide +kernel) (by decide) (by decide) (by decide)))) (pw_or1D (pt_cmpD (c_ne hr) (pd_len z.u_len (pa_consD (pd_var 0) pa_nilD)) (pd_len z.u_len (pa_consD (pd_var 1) pa_nilD)))))) (psd_one (psd_ret (pd_bl))) (psd_nil)) (psd_one (psd_ret (pd_all (by rfl) z.u_all (pa_consD (pd_comp (own := [("k", 2)]) (by rfl) S33.nd rng1_ok (pi_range1 (by rfl) z.u_range (pa_consD (pd_len z.u_len (pa_consD (pd_var 1) pa_nilD)) pa_nilD)) (blkOk_by (N := N33) (sc := (defScope s33)) (by decide +kernel)) (gN_ok (i := 2) (by simp)) (fun _ _ _ _ _ => pg_name (i := 2) S33.nd (by rfl) (by first | exact Or.inl rfl | exact Or.inr rfl)) (fun _ _ _ _ _ => pts_nilD) (fun _ _ _ _ _ => pd_call ih (hr.mono (by omega)) takes_quiet (by rfl) z.g__law_same z.F__law_same.kp (bi__law_same z) (pa_consD (pd_ix (pd_var 0) (pd_var 2)) (pa_consD (pd_ix (pd_var 1) (pd_var 2)) pa_nilD)))) pa_nilD))))) (psd_nil)) (psd_cons (psd_if (pt_cmpD c_is (pd_var 1) (pd_non)) (psd_one (psd_ret (pd_cmp c_is (pd_var 0) (pd_non)))) (psd_nil)) (psd_cons (psd_if (pt_valD (pd_isi2 z.u_isinstance z.u_bool (pd_var 1) (by decide +kernel) (by decide) (by decide) (by decide))) (psd_one (psd_ret (pd_and (pd_isi2 z.u_isinstance z.u_bool (pd_var 0) (by decide +kernel) (by decide) (by decide) (by decide)) (pd_one (pd_cmp (c_eq hr) (pd_var 0) (pd_var 1)))))) (psd_nil)) (psd_cons (psd_if (pt_valD (pd_isi2 z.u_isinstance z.u_int (pd_var 1) (by decide +kernel) (by decide) (by decide) (by decide))) (psd_one (psd_ret (pd_and (pd_isi2 z.u_isinstance z.u_int (pd_var 0) (by decide +kernel) (by decide) (by decide) (by decide)) (pd_and (pd_not (pd_isi2 z.u_isinstance z.u_bool (pd_var 0) (by decide +kernel) (by decide) (by decide) (by decide))) (pd_one (pd_cmp (c_eq hr) (pd_var 0) (pd_var 1))))))) (psd_nil)) (psd_cons (psd_if (pt_valD (pd_isi2 z.u_isinstance z.u_str (pd_var 1) (by decide +kernel) (by decide) (by decide) (by decide))) (psd_one (psd_ret (pd_and (pd_isi2 z.u_isinstance z.u_str (pd_var 0) (by decide +kernel) (by decide) (by decide) (by decide)) (pd_one (pd_cmp (c_eq hr) (pd_var 0) (pd_var 1)))))) (psd_nil)) (psd_one (psd_ret (pd_cmp (c_eq hr) (pd_var 0) (pd_var 1))))))))
theorem ok__law_is_below : FnOk P w K mg base (L2.CX P w) 1 z.f__law_is_below z.d__law_is_below ["one", "two"] (liftSp ⟨K, T, N, W⟩ 2 m__law_is_below) := def_ok z.F__law_is_below S35 rfl rfl fun cdv A outer s H E w0 H0 hr =>
  psd_one (psd_ret (pd_cmp c_lt (pd_mul (pd_ix (pd_var 0) (pd_int)) (pd_ix (pd_var 1) (pd_int))) (pd_mul (pd_ix (pd_var 1) (pd_int)) (pd_ix (pd_var 0) (pd_int)))))
theorem ok__law_right : FnOk P w K mg base (L2.CX P w) 8 z.f__law_right z.d__law_right ["bowl"] (liftSp ⟨K, T, N, W⟩ 1 m__law_right) := def_ok z.F__law_right S41 rfl rfl fun cdv A outer s H E w0 H0 hr =>
  psd_cons (psd_for (ix := fun _ => True) (passes_of (by rfl)) (by rfl) rng1_ok (pi_range1 (by rfl) z.u_range (pa_consD (pd_int) pa_nilD)) (gN_ok (i := 1) trivial) (pg_name (i := 1) S41.nd (by rfl) (by first | exact Or.inl rfl | exact Or.inr rfl)) (psd_cons (psd_set 2 S41.nd (pd_add (pd_int) (pd_call (ok__law_draw z) (hr.mono (by decide)) (takes_of (by rfl) (by rfl) (by rfl) (by rfl)) (by rfl) z.g__law_draw z.F__law_draw.kp (bi__law_draw z) (pa_consD (pd_var 0) (pa_consD (pd_int) pa_nilD))))) (psd_cons (psd_set 3 S41.nd (pd_add (pd_int) (pd_call (ok__law_draw z) (hr.mono (by decide)) (takes_of (by rfl) (by rfl) (by rfl) (by rfl)) (by rfl) z.g__law_draw z.F__law_draw.kp (bi__law_draw z) (pa_consD (pd_var 0) (pa_consD (pd_min2 (by rfl) z.u_min (pa_consD (pd_int) (pa_consD (pd_sub (pd_int) (pd_var 2)) pa_nilD))) pa_nilD))))) (psd_cons (psd_par 4 5 (by rfl) S41.nd (pd_call (ok__law_level z) (hr.mono (by decide)) (takes_of (by rfl) (by rfl) (by rfl) (by rfl)) (by rfl) z.g__law_level z.F__law_level.kp (bi__law_level z) (pa_consD (pd_var 0) pa_nilD)) (pd_call (ok__law_level z) (hr.mono (by decide)) (takes_of (by rfl) (by rfl) (by rfl) (by rfl)) (by rfl) z.g__law_level z.F__law_level.kp (bi__law_level z) (pa_consD (pd_var 0) pa_nilD))) (psd_cons (psd_par 6 7 (by rfl) S41.nd (pd_call (ok__law_bound z) (hr.mono (by decide)) (takes_of (by rfl) (by rfl) (by rfl) (by rfl)) (by rfl) z.g__law_bound z.F__law_bound.kp (bi__law_bound z) (pa_consD (pd_var 2) (pa_consD (pd_var 3) (pa_consD (pd_var 4) pa_nilD)))) (pd_call (ok_bound z) (hr.mono (by decide)) (takes_of (by rfl) (by rfl) (by rfl) (by rfl)) (by rfl) z.g_bound z.F_bound.kp (bi_bound z) (pa_consD (pd_var 2) (pa_consD (pd_var 3) (pa_consD (pd_var 5) pa_nilD))))) (psd_cons (psd_set 8 S41.nd (pd_tup (pa_consD (pd_call (ok_bound z) (hr.mono (by decide)) (takes_of (by rfl) (by rfl) (by rfl) (by rfl)) (by rfl) z.g_bound z.F_bound.kp (bi_bound z) (pa_consD (pd_var 2) (pa_consD (pd_var 3) (pa_consD (pd_var 4) pa_nilD)))) (pa_consD (pd_callK0 (ok_bound z) (hr.mono (by decide)) (takes_of (by rfl) (by rfl) (by rfl) (by rfl)) (by rfl) z.g_bound z.F_bound.kp (kb_bound_0_2_1_0 z) (pk_consD (pd_var 4) (pk_consD (pd_var 3) (pk_consD (pd_var 2) pk_nilD)))) (pa_consD (pd_call (ok_bound z) (hr.mono (by decide)) (takes_of (by rfl) (by rfl) (by rfl) (by rfl)) (by rfl) z.g_bound z.F_bound.kp (bi_bound z) (pa_consD (pd_var 3) (pa_consD (pd_var 2) (pa_consD (pd_var 4) pa_nilD)))) pa_nilD))))) (psd_cons (psd_if (PW.pt (pw_orD (pt_notD (pt_valD (pd_call (ok__law_same z 6) (hr.mono (by decide)) (takes_of (by rfl) (by rfl) (by rfl) (by rfl)) (by rfl) z.g__law_same z.F__law_same.kp (bi__law_same z) (pa_consD (pd_var 8) (pa_consD (pd_tup (pa_consD (pd_var 6) (pa_consD (pd_var 6) (pa_consD (pd_var 6) pa_nilD)))) pa_nilD))))) (pw_or1D (pt_notD (pt_chainD c_le c_le (pd_int) (pd_var 6) (pd_mul (pd_var 2) (pd_var 3))))))) (psd_one (psd_ret (pd_bl))) (psd_nil)) (psd_one (psd_if (PW.pt (pw_orD (PW.pt (pw_andD (pt_notD (pt_valD (pd_call (ok__law_is_below z) (hr.mono (by decide)) (takes_of (by rfl) (by rfl) (by rfl) (by rfl)) (by rfl) z.g__law_is_below z.F__law_is_below.kp (bi__law_is_below z) (pa_consD (pd_var 4) (pa_consD (pd_var 5) pa_nilD))))) (pw_and1D (pt_cmpD c_lt (pd_var 7) (pd_var 6))))) (pw_or1D (PW.pt (pw_andD (pt_notD (pt_valD (pd_call (ok__law_is_below z) (hr.mono (by decide)) (takes_of (by rfl) (by rfl) (by rfl) (by rfl)) (by rfl) z.g__law_is_below z.F__law_is_below.kp (bi__law_is_below z) (pa_consD (pd_var 5) (pa_consD (pd_var 4) pa_nilD))))) (pw_and1D (pt_cmpD c_gt (pd_var 7) (pd_var 6)))))))) (psd_one (psd_ret (pd_bl))) (psd_nil)))))))))) (psd_one (psd_ret (pd_bl)))
theorem ok__law_bowl : FnOk P w K mg base (L2.CX P w) 1 z.f__law_bowl z.d__law_bowl ["script", "lap"] (liftSp ⟨K, T, N, W⟩ 2 m__law_bowl) := def_ok z.F__law_bowl S30 rfl rfl fun cdv A outer s H E w0 H0 hr =>
  psd_cons (psd_set 2 S30.nd (pd_add (pd_int) (pd_mul (pd_int) (pd_var 1)))) (psd_cons (psd_for (ix := fun _ => True) (passes_of (by rfl)) (by rfl) iter_ok (pi_iter (pd_slice (pd_var 0) (po_noneD) (po_someD (pd_int)))) (gN_ok (i := 3) trivial) (pg_name (i := 3) S30.nd (by rfl) (by first | exact Or.inl rfl | exact Or.inr rfl)) (psd_one (psd_set 2 S30.nd (pd_mod (pd_intC z.u_int (pa_consD (pd_add (pd_add (pd_mul (pd_var 2) (pd_int)) (pd_mul (pd_mod (pd_intC z.u_int (pa_consD (pd_var 3) pa_nilD)) (pd_int)) (pd_int))) (pd_int)) pa_nilD)) (pd_int))))) (psd_cons (psd_set 4 S30.nd (pd_if (pt_cmpD c_lt (pd_var 1) (pd_len z.u_len (pa_consD (pd_var 0) pa_nilD))) (pd_intC z.u_int (pa_consD (pd_ix (pd_var 0) (pd_var 1)) pa_nilD)) (pd_int))) (psd_cons (psd_set 2 S30.nd (pd_mod (pd_intC z.u_int (pa_consD (pd_add (pd_add (pd_mul (pd_var 2) (pd_int)) (pd_mul (pd_mod (pd_var 4) (pd_int)) (pd_int))) (pd_int)) pa_nilD)) (pd_int))) (psd_one (psd_retB (pa_consD (pd_if (PW.pt (pw_orD (pt_cmpD c_lt (pd_var 4) (pd_int)) (pw_or1D (pt_cmpD c_ge (pd_var 4) (pd_pow (pd_int) (pd_int)))))) (pd_abs z.u_abs (pa_consD (pd_var 4) pa_nilD)) (pd_int)) (pa_consD (pd_var 2) (pa_consD (pd_int) pa_nilD))))))))
theorem ok_law : FnOk P w K mg base (L2.CX P w) 9 z.f_law z.d_law ["script"] (liftSp ⟨K, T, N, W⟩ 1 m_law) := def_ok z.F_law S42 rfl rfl fun cdv A outer s H E w0 H0 hr =>
  psd_one (psd_ret (pd_all (by rfl) z.u_all (pa_consD (pd_comp (own := [("lap", 1)]) (by rfl) S42.nd rng1_ok (pi_range1 (by rfl) z.u_range (pa_consD (pd_max2 (by rfl) z.u_max (pa_consD (pd_int) (pa_consD (pd_min2 (by rfl) z.u_min (pa_consD (pd_len z.u_len (pa_consD (pd_var 0) pa_nilD)) (pa_consD (pd_int) pa_nilD))) pa_nilD))) pa_nilD)) (blkOk_by (N := N42) (sc := (defScope s42)) (by decide +kernel)) (gN_ok (i := 1) (by simp)) (fun _ _ _ _ _ => pg_name (i := 1) S42.nd (by rfl) (by first | exact Or.inl rfl | exact Or.inr rfl)) (fun _ _ _ _ _ => pts_nilD) (fun _ _ _ _ _ => pd_call (ok__law_right z) (hr.mono (by decide)) takes_quiet (by rfl) z.g__law_right z.F__law_right.kp (bi__law_right z) (pa_consD (pd_call (ok__law_bowl z) (hr.mono (by decide)) takes_quiet (by rfl) z.g__law_bowl z.F__law_bowl.kp (bi__law_bowl z) (pa_consD (pd_var 0) (pa_consD (pd_var 1) pa_nilD))) pa_nilD))) pa_nilD)))
end
end Lw
namespace Lw
open PySem PySem.Spec PyProof.Rows L2 LamX NdefX DL
theorem all_mk {l : PySem.W.OpenLaw} {w : World} {K : PySem.W.Frag} {h : Heap} {mg : Str → Option Value} {fa : Addr} {od0 an0 od1 an1 od2 an2 od3 an3 od4 an4 od5 an5 od6 an6 od7 an7 od8 an8 od9 an9 od10 an10 od11 an11 od12 an12 od13 an13 od14 an14 od15 an15 od16 an16 od17 an17 od18 an18 od19 an19 od20 an20 od21 an21 od22 an22 od23 an23 od24 an24 od25 an25 od26 an26 od27 an27 xo__law_sets : Option Addr} {sl0 sl1 sl2 sl3 sl4 sl5 sl6 sl7 sl8 sl9 sl10 sl11 sl12 sl13 sl14 sl15 sl16 sl17 sl18 sl19 sl20 sl21 sl22 sl23 sl24 sl25 sl26 sl27 xs__law_sets : Array (Option Value)} {oc0 kV0 dc0 pm0 ct0 cd0 oc1 kV1 dc1 pm1 ct1 cd1 oc2 kV2 dc2 pm2 ct2 cd2 oc3 kV3 dc3 pm3 ct3 oc4 kV4 dc4 pm4 ct4 cd4 oc5 kV5 dc5 pm5 ct5 cd5 oc6 kV6 dc6 pm6 ct6 cd6 oc7 kV7 dc7 pm7 ct7 cd7 oc8 kV8 dc8 pm8 ct8 cd8 oc9 kV9 dc9 pm9 ct9 cd9 oc10 kV10 dc10 pm10 ct10 cd10 oc11 kV11 dc11 pm11 ct11 cd11 oc12 kV12 dc12 pm12 ct12 cd12 oc13 kV13 dc13 pm13 ct13 cd13 oc14 kV14 dc14 pm14 ct14 cd14 oc15 kV15 dc15 pm15 ct15 cd15 oc16 kV16 dc16 pm16 ct16 cd16 oc17 kV17 dc17 pm17 ct17 cd17 oc18 kV18 dc18 pm18 ct18 cd18 oc19 kV19 dc19 pm19 ct19 cd19 oc20 kV20 dc20 pm20 ct20 cd20 oc21 kV21 dc21 pm21 ct21 cd21 oc22 kV22 dc22 pm22 ct22 cd22 oc23 kV23 dc23 pm23 ct23 cd23 oc24 kV24 dc24 pm24 ct24 cd24 oc25 kV25 dc25 pm25 ct25 cd25 oc26 kV26 dc26 pm26 ct26 cd26 oc27 kV27 dc27 pm27 ct27 cd27 : Value} {f0 f1 f2 f3 f4 f5 f6 f7 f8 f9 f10 f11 f12 f13 f14 f15 f16 f17 f18 f19 f20 f21 f22 f23 f24 f25 f26 f27 c__law_sets t__law_sets : Addr} {xv__law_sets : Array Value} {vt_MOST_GROUP vt_MOST_BOTH : Tok} (X : K.In h) (G : h.Ns mainGlobals mg) (hfa : mg "law" = some (.ref fa))
    (a0 : PySem.W.nsIn K mainGlobals "_law_draw" = some (some (.ref f0))) (l0 : K.lookup f0 = some ⟨oc0, od0, .func (PySem.W.fnOf "_law_draw" "_law_draw" (defArgs s31) (defBody s31) (defScope s31) .none kV0 dc0 pm0 an0 cd0 ct0), sl0⟩) (c0 : PySem.W.codeIn K cd0 "_law_draw" = true) (k0 : PySem.W.keepIn K (.ref f0) = true)
    (a1 : PySem.W.nsIn K mainGlobals "_law_of" = some (some (.ref f1))) (l1 : K.lookup f1 = some ⟨oc1, od1, .func (PySem.W.fnOf "_law_of" "_law_of" (defArgs s32) (defBody s32) (defScope s32) .none kV1 dc1 pm1 an1 cd1 ct1), sl1⟩) (c1 : PySem.W.codeIn K cd1 "_law_of" = true) (k1 : PySem.W.keepIn K (.ref f1) = true)
    (a2 : PySem.W.nsIn K mainGlobals "_law_level" = some (some (.ref f2))) (l2 : K.lookup f2 = some ⟨oc2, od2, .func (PySem.W.fnOf "_law_level" "_law_level" (defArgs s40) (defBody s40) (defScope s40) .none kV2 dc2 pm2 an2 cd2 ct2), sl2⟩) (c2 : PySem.W.codeIn K cd2 "_law_level" = true) (k2 : PySem.W.keepIn K (.ref f2) = true)
    (a3 : PySem.W.nsIn K mainGlobals "_law_sets" = some (some (.ref f3))) (l3 : K.lookup f3 = some ⟨oc3, od3, .func (PySem.W.fnOf "_law_sets" "_law_sets" (defArgs s34) (defBody s34) (defScope s34) .none kV3 dc3 pm3 an3 (.ref c__law_sets) ct3), sl3⟩) (c3 : PySem.W.codeIn K (.ref c__law_sets) "_law_sets" = true) (k3 : PySem.W.keepIn K (.ref f3) = true)
    (a4 : PySem.W.nsIn K mainGlobals "_law_ranks" = some (some (.ref f4))) (l4 : K.lookup f4 = some ⟨oc4, od4, .func (PySem.W.fnOf "_law_ranks" "_law_ranks" (defArgs s36) (defBody s36) (defScope s36) .none kV4 dc4 pm4 an4 cd4 ct4), sl4⟩) (c4 : PySem.W.codeIn K cd4 "_law_ranks" = true) (k4 : PySem.W.keepIn K (.ref f4) = true)
    (a5 : PySem.W.nsIn K mainGlobals "_law_measure" = some (some (.ref f5))) (l5 : K.lookup f5 = some ⟨oc5, od5, .func (PySem.W.fnOf "_law_measure" "_law_measure" (defArgs s37) (defBody s37) (defScope s37) .none kV5 dc5 pm5 an5 cd5 ct5), sl5⟩) (c5 : PySem.W.codeIn K cd5 "_law_measure" = true) (k5 : PySem.W.keepIn K (.ref f5) = true)
    (a6 : PySem.W.nsIn K mainGlobals "_law_dealt" = some (some (.ref f6))) (l6 : K.lookup f6 = some ⟨oc6, od6, .func (PySem.W.fnOf "_law_dealt" "_law_dealt" (defArgs s38) (defBody s38) (defScope s38) .none kV6 dc6 pm6 an6 cd6 ct6), sl6⟩) (c6 : PySem.W.codeIn K cd6 "_law_dealt" = true) (k6 : PySem.W.keepIn K (.ref f6) = true)
    (a7 : PySem.W.nsIn K mainGlobals "_law_bound" = some (some (.ref f7))) (l7 : K.lookup f7 = some ⟨oc7, od7, .func (PySem.W.fnOf "_law_bound" "_law_bound" (defArgs s39) (defBody s39) (defScope s39) .none kV7 dc7 pm7 an7 cd7 ct7), sl7⟩) (c7 : PySem.W.codeIn K cd7 "_law_bound" = true) (k7 : PySem.W.keepIn K (.ref f7) = true)
    (a8 : PySem.W.nsIn K mainGlobals "is_whole" = some (some (.ref f8))) (l8 : K.lookup f8 = some ⟨oc8, od8, .func (PySem.W.fnOf "is_whole" "is_whole" (defArgs s7) (defBody s7) (defScope s7) .none kV8 dc8 pm8 an8 cd8 ct8), sl8⟩) (c8 : PySem.W.codeIn K cd8 "is_whole" = true) (k8 : PySem.W.keepIn K (.ref f8) = true)
    (a9 : PySem.W.nsIn K mainGlobals "is_between" = some (some (.ref f9))) (l9 : K.lookup f9 = some ⟨oc9, od9, .func (PySem.W.fnOf "is_between" "is_between" (defArgs s8) (defBody s8) (defScope s8) .none kV9 dc9 pm9 an9 cd9 ct9), sl9⟩) (c9 : PySem.W.codeIn K cd9 "is_between" = true) (k9 : PySem.W.keepIn K (.ref f9) = true)
    (a10 : PySem.W.nsIn K mainGlobals "check_number" = some (some (.ref f10))) (l10 : K.lookup f10 = some ⟨oc10, od10, .func (PySem.W.fnOf "check_number" "check_number" (defArgs s20) (defBody s20) (defScope s20) .none kV10 dc10 pm10 an10 cd10 ct10), sl10⟩) (c10 : PySem.W.codeIn K cd10 "check_number" = true) (k10 : PySem.W.keepIn K (.ref f10) = true)
    (a11 : PySem.W.nsIn K mainGlobals "check_sizes" = some (some (.ref f11))) (l11 : K.lookup f11 = some ⟨oc11, od11, .func (PySem.W.fnOf "check_sizes" "check_sizes" (defArgs s27) (defBody s27) (defScope s27) .none kV11 dc11 pm11 an11 cd11 ct11), sl11⟩) (c11 : PySem.W.codeIn K cd11 "check_sizes" = true) (k11 : PySem.W.keepIn K (.ref f11) = true)
    (a12 : PySem.W.nsIn K mainGlobals "is_tuple_of" = some (some (.ref f12))) (l12 : K.lookup f12 = some ⟨oc12, od12, .func (PySem.W.fnOf "is_tuple_of" "is_tuple_of" (defArgs s9) (defBody s9) (defScope s9) .none kV12 dc12 pm12 an12 cd12 ct12), sl12⟩) (c12 : PySem.W.codeIn K cd12 "is_tuple_of" = true) (k12 : PySem.W.keepIn K (.ref f12) = true)
    (a13 : PySem.W.nsIn K mainGlobals "is_pair" = some (some (.ref f13))) (l13 : K.lookup f13 = some ⟨oc13, od13, .func (PySem.W.fnOf "is_pair" "is_pair" (defArgs s10) (defBody s10) (defScope s10) .none kV13 dc13 pm13 an13 cd13 ct13), sl13⟩) (c13 : PySem.W.codeIn K cd13 "is_pair" = true) (k13 : PySem.W.keepIn K (.ref f13) = true)
    (a14 : PySem.W.nsIn K mainGlobals "is_fraction" = some (some (.ref f14))) (l14 : K.lookup f14 = some ⟨oc14, od14, .func (PySem.W.fnOf "is_fraction" "is_fraction" (defArgs s12) (defBody s12) (defScope s12) .none kV14 dc14 pm14 an14 cd14 ct14), sl14⟩) (c14 : PySem.W.codeIn K cd14 "is_fraction" = true) (k14 : PySem.W.keepIn K (.ref f14) = true)
    (a15 : PySem.W.nsIn K mainGlobals "is_open_part" = some (some (.ref f15))) (l15 : K.lookup f15 = some ⟨oc15, od15, .func (PySem.W.fnOf "is_open_part" "is_open_part" (defArgs s16) (defBody s16) (defScope s16) .none kV15 dc15 pm15 an15 cd15 ct15), sl15⟩) (c15 : PySem.W.codeIn K cd15 "is_open_part" = true) (k15 : PySem.W.keepIn K (.ref f15) = true)
    (a16 : PySem.W.nsIn K mainGlobals "check_level" = some (some (.ref f16))) (l16 : K.lookup f16 = some ⟨oc16, od16, .func (PySem.W.fnOf "check_level" "check_level" (defArgs s19) (defBody s19) (defScope s19) .none kV16 dc16 pm16 an16 cd16 ct16), sl16⟩) (c16 : PySem.W.codeIn K cd16 "check_level" = true) (k16 : PySem.W.keepIn K (.ref f16) = true)
    (a17 : PySem.W.nsIn K mainGlobals "beyond" = some (some (.ref f17))) (l17 : K.lookup f17 = some ⟨oc17, od17, .func (PySem.W.fnOf "beyond" "beyond" (defArgs s23) (defBody s23) (defScope s23) .none kV17 dc17 pm17 an17 cd17 ct17), sl17⟩) (c17 : PySem.W.codeIn K cd17 "beyond" = true) (k17 : PySem.W.keepIn K (.ref f17) = true)
    (a18 : PySem.W.nsIn K mainGlobals "least_bound" = some (some (.ref f18))) (l18 : K.lookup f18 = some ⟨oc18, od18, .func (PySem.W.fnOf "least_bound" "least_bound" (defArgs s22) (defBody s22) (defScope s22) .none kV18 dc18 pm18 an18 cd18 ct18), sl18⟩) (c18 : PySem.W.codeIn K cd18 "least_bound" = true) (k18 : PySem.W.keepIn K (.ref f18) = true)
    (a19 : PySem.W.nsIn K mainGlobals "dealt_by" = some (some (.ref f19))) (l19 : K.lookup f19 = some ⟨oc19, od19, .func (PySem.W.fnOf "dealt_by" "dealt_by" (defArgs s17) (defBody s17) (defScope s17) .none kV19 dc19 pm19 an19 cd19 ct19), sl19⟩) (c19 : PySem.W.codeIn K cd19 "dealt_by" = true) (k19 : PySem.W.keepIn K (.ref f19) = true)
    (a20 : PySem.W.nsIn K mainGlobals "unlike_leads" = some (some (.ref f20))) (l20 : K.lookup f20 = some ⟨oc20, od20, .func (PySem.W.fnOf "unlike_leads" "unlike_leads" (defArgs s24) (defBody s24) (defScope s24) .none kV20 dc20 pm20 an20 cd20 ct20), sl20⟩) (c20 : PySem.W.codeIn K cd20 "unlike_leads" = true) (k20 : PySem.W.keepIn K (.ref f20) = true)
    (a21 : PySem.W.nsIn K mainGlobals "bound_by" = some (some (.ref f21))) (l21 : K.lookup f21 = some ⟨oc21, od21, .func (PySem.W.fnOf "bound_by" "bound_by" (defArgs s25) (defBody s25) (defScope s25) .none kV21 dc21 pm21 an21 cd21 ct21), sl21⟩) (c21 : PySem.W.codeIn K cd21 "bound_by" = true) (k21 : PySem.W.keepIn K (.ref f21) = true)
    (a22 : PySem.W.nsIn K mainGlobals "bound" = some (some (.ref f22))) (l22 : K.lookup f22 = some ⟨oc22, od22, .func (PySem.W.fnOf "bound" "bound" (defArgs s28) (defBody s28) (defScope s28) .none kV22 dc22 pm22 an22 cd22 ct22), sl22⟩) (c22 : PySem.W.codeIn K cd22 "bound" = true) (k22 : PySem.W.keepIn K (.ref f22) = true)
    (a23 : PySem.W.nsIn K mainGlobals "_law_same" = some (some (.ref f23))) (l23 : K.lookup f23 = some ⟨oc23, od23, .func (PySem.W.fnOf "_law_same" "_law_same" (defArgs s33) (defBody s33) (defScope s33) .none kV23 dc23 pm23 an23 cd23 ct23), sl23⟩) (c23 : PySem.W.codeIn K cd23 "_law_same" = true) (k23 : PySem.W.keepIn K (.ref f23) = true)
    (a24 : PySem.W.nsIn K mainGlobals "_law_is_below" = some (some (.ref f24))) (l24 : K.lookup f24 = some ⟨oc24, od24, .func (PySem.W.fnOf "_law_is_below" "_law_is_below" (defArgs s35) (defBody s35) (defScope s35) .none kV24 dc24 pm24 an24 cd24 ct24), sl24⟩) (c24 : PySem.W.codeIn K cd24 "_law_is_below" = true) (k24 : PySem.W.keepIn K (.ref f24) = true)
    (a25 : PySem.W.nsIn K mainGlobals "_law_right" = some (some (.ref f25))) (l25 : K.lookup f25 = some ⟨oc25, od25, .func (PySem.W.fnOf "_law_right" "_law_right" (defArgs s41) (defBody s41) (defScope s41) .none kV25 dc25 pm25 an25 cd25 ct25), sl25⟩) (c25 : PySem.W.codeIn K cd25 "_law_right" = true) (k25 : PySem.W.keepIn K (.ref f25) = true)
    (a26 : PySem.W.nsIn K mainGlobals "_law_bowl" = some (some (.ref f26))) (l26 : K.lookup f26 = some ⟨oc26, od26, .func (PySem.W.fnOf "_law_bowl" "_law_bowl" (defArgs s30) (defBody s30) (defScope s30) .none kV26 dc26 pm26 an26 cd26 ct26), sl26⟩) (c26 : PySem.W.codeIn K cd26 "_law_bowl" = true) (k26 : PySem.W.keepIn K (.ref f26) = true)
    (a27 : PySem.W.nsIn K mainGlobals "law" = some (some (.ref f27))) (l27 : K.lookup f27 = some ⟨oc27, od27, .func (PySem.W.fnOf "law" "law" (defArgs s42) (defBody s42) (defScope s42) .none kV27 dc27 pm27 an27 cd27 ct27), sl27⟩) (c27 : PySem.W.codeIn K cd27 "law" = true) (k27 : PySem.W.keepIn K (.ref f27) = true)
    (xl__law_sets : K.lookup c__law_sets = some ⟨.type "code", xo__law_sets, .fields xv__law_sets, xs__law_sets⟩) (xi__law_sets : xv__law_sets[11]? = some (.ref t__law_sets)) (xh__law_sets : PySem.W.codeHdIn K c__law_sets t__law_sets = true) (xn__law_sets : K.lookup t__law_sets = none) (xt__law_sets : h.get? t__law_sets = some { cls := .none, data := .fields #[] })
    (u_divmod : PySem.W.nsIn K mainGlobals "divmod" = some none)
    (u_int : PySem.W.nsIn K mainGlobals "int" = some none)
    (u_len : PySem.W.nsIn K mainGlobals "len" = some none)
    (u_range : PySem.W.nsIn K mainGlobals "range" = some none)
    (u_sorted : PySem.W.nsIn K mainGlobals "sorted" = some none)
    (u_sum : PySem.W.nsIn K mainGlobals "sum" = some none)
    (u_tuple : PySem.W.nsIn K mainGlobals "tuple" = some none)
    (u_list : PySem.W.nsIn K mainGlobals "list" = some none)
    (u_abs : PySem.W.nsIn K mainGlobals "abs" = some none)
    (u_isinstance : PySem.W.nsIn K mainGlobals "isinstance" = some none)
    (u_bool : PySem.W.nsIn K mainGlobals "bool" = some none)
    (u_all : PySem.W.nsIn K mainGlobals "all" = some none)
    (u_str : PySem.W.nsIn K mainGlobals "str" = some none)
    (u_min : PySem.W.nsIn K mainGlobals "min" = some none)
    (u_max : PySem.W.nsIn K mainGlobals "max" = some none)
    (w_gcd : PySem.W.nsIn K mainGlobals "gcd" = some (some (.builtin "math.gcd")))
    (t_combinations : PySem.W.nsIn K mainGlobals "combinations" = some (some (.type "itertools.combinations")))
    (v_MOST_GROUP : PySem.W.nsIn K mainGlobals "MOST_GROUP" = some (some (.int 9 vt_MOST_GROUP)))
    (v_MOST_BOTH : PySem.W.nsIn K mainGlobals "MOST_BOTH" = some (some (.int 10 vt_MOST_BOTH))) :
    LawAtS l w K (L2.CX l.prog w) 9 63 "script" mg fa h := by
  have e := hfa.symm.trans (PySem.W.mg_of X G a27)
  cases e
  refine ⟨PySem.W.fnOf "law" "law" (defArgs s42) (defBody s42) (defScope s42) .none kV27 dc27 pm27 an27 cd27 ct27, [(c__law_sets, t__law_sets)], liftSp ⟨K, [(t__law_sets, ("_law_sets" : Str) ++ ".<locals>." ++ "<lambda>")], fun _ _ => False, fun _ _ _ _ => False⟩ 1 m_law, (List.forall_mem_cons.mpr ⟨xt__law_sets, (fun _ h => nomatch h)⟩), (List.forall_mem_cons.mpr ⟨xn__law_sets, (fun _ h => nomatch h)⟩), (List.forall_mem_cons.mpr ⟨codeHd_mk X xl__law_sets xi__law_sets xh__law_sets, (fun _ h => nomatch h)⟩), fun s v => .of_eq rfl, fun H a ns hl _ hT hS => law_sp (List.forall_mem_cons.mpr ⟨hT _ (.head _), (fun _ h => nomatch h)⟩) hS fun s hs => w_law hs hl rfl, fun base KB GB TB => ok_law (T := [(t__law_sets, ("_law_sets" : Str) ++ ".<locals>." ++ "<lambda>")])
    { f__law_draw := _, d__law_draw := _, F__law_draw := fun_mk l0 c0 k0, g__law_draw := PySem.W.mg_of X G a0,
      f__law_of := _, d__law_of := _, F__law_of := fun_mk l1 c1 k1, g__law_of := PySem.W.mg_of X G a1,
      f__law_level := _, d__law_level := _, F__law_level := fun_mk l2 c2 k2, g__law_level := PySem.W.mg_of X G a2,
      f__law_sets := _, d__law_sets := _, F__law_sets := fun_mk l3 c3 k3, g__law_sets := PySem.W.mg_of X G a3, c__law_sets := c__law_sets, t__law_sets := t__law_sets, L__law_sets := ⟨⟨_, _, _, _, _, _, _, _, rfl, l3, c3⟩⟩, tb__law_sets := TB (c__law_sets, t__law_sets) (.head _), tm__law_sets := .head _,
      tu__law_sets := (fun p hp e => by (simp only [List.mem_cons, List.not_mem_nil, or_false] at hp; rcases hp with rfl <;> first | rfl)),
      f__law_ranks := _, d__law_ranks := _, F__law_ranks := fun_mk l4 c4 k4, g__law_ranks := PySem.W.mg_of X G a4,
      f__law_measure := _, d__law_measure := _, F__law_measure := fun_mk l5 c5 k5, g__law_measure := PySem.W.mg_of X G a5,
      f__law_dealt := _, d__law_dealt := _, F__law_dealt := fun_mk l6 c6 k6, g__law_dealt := PySem.W.mg_of X G a6,
      f__law_bound := _, d__law_bound := _, F__law_bound := fun_mk l7 c7 k7, g__law_bound := PySem.W.mg_of X G a7,
      f_is_whole := _, d_is_whole := _, F_is_whole := fun_mk l8 c8 k8, g_is_whole := PySem.W.mg_of X G a8,
      f_is_between := _, d_is_between := _, F_is_between := fun_mk l9 c9 k9, g_is_between := PySem.W.mg_of X G a9,
      f_check_number := _, d_check_number := _, F_check_number := fun_mk l10 c10 k10, g_check_number := PySem.W.mg_of X G a10,
      f_check_sizes := _, d_check_sizes := _, F_check_sizes := fun_mk l11 c11 k11, g_check_sizes := PySem.W.mg_of X G a11,
      f_is_tuple_of := _, d_is_tuple_of := _, F_is_tuple_of := fun_mk l12 c12 k12, g_is_tuple_of := PySem.W.mg_of X G a12,
      f_is_pair := _, d_is_pair := _, F_is_pair := fun_mk l13 c13 k13, g_is_pair := PySem.W.mg_of X G a13,
      f_is_fraction := _, d_is_fraction := _, F_is_fraction := fun_mk l14 c14 k14, g_is_fraction := PySem.W.mg_of X G a14,
      f_is_open_part := _, d_is_open_part := _, F_is_open_part := fun_mk l15 c15 k15, g_is_open_part := PySem.W.mg_of X G a15,
      f_check_level := _, d_check_level := _, F_check_level := fun_mk l16 c16 k16, g_check_level := PySem.W.mg_of X G a16,
      f_beyond := _, d_beyond := _, F_beyond := fun_mk l17 c17 k17, g_beyond := PySem.W.mg_of X G a17,
      f_least_bound := _, d_least_bound := _, F_least_bound := fun_mk l18 c18 k18, g_least_bound := PySem.W.mg_of X G a18,
      f_dealt_by := _, d_dealt_by := _, F_dealt_by := fun_mk l19 c19 k19, g_dealt_by := PySem.W.mg_of X G a19,
      f_unlike_leads := _, d_unlike_leads := _, F_unlike_leads := fun_mk l20 c20 k20, g_unlike_leads := PySem.W.mg_of X G a20,
      f_bound_by := _, d_bound_by := _, F_bound_by := fun_mk l21 c21 k21, g_bound_by := PySem.W.mg_of X G a21,
      f_bound := _, d_bound := _, F_bound := fun_mk l22 c22 k22, g_bound := PySem.W.mg_of X G a22,
      f__law_same := _, d__law_same := _, F__law_same := fun_mk l23 c23 k23, g__law_same := PySem.W.mg_of X G a23,
      f__law_is_below := _, d__law_is_below := _, F__law_is_below := fun_mk l24 c24 k24, g__law_is_below := PySem.W.mg_of X G a24,
      f__law_right := _, d__law_right := _, F__law_right := fun_mk l25 c25 k25, g__law_right := PySem.W.mg_of X G a25,
      f__law_bowl := _, d__law_bowl := _, F__law_bowl := fun_mk l26 c26 k26, g__law_bowl := PySem.W.mg_of X G a26,
      f_law := _, d_law := _, F_law := fun_mk l27 c27 k27, g_law := PySem.W.mg_of X G a27,
      u_divmod := PySem.W.mg_none_of X G u_divmod,
      u_int := PySem.W.mg_none_of X G u_int,
      u_len := PySem.W.mg_none_of X G u_len,
      u_range := PySem.W.mg_none_of X G u_range,
      u_sorted := PySem.W.mg_none_of X G u_sorted,
      u_sum := PySem.W.mg_none_of X G u_sum,
      u_tuple := PySem.W.mg_none_of X G u_tuple,
      u_list := PySem.W.mg_none_of X G u_list,
      u_abs := PySem.W.mg_none_of X G u_abs,
      u_isinstance := PySem.W.mg_none_of X G u_isinstance,
      u_bool := PySem.W.mg_none_of X G u_bool,
      u_all := PySem.W.mg_none_of X G u_all,
      u_str := PySem.W.mg_none_of X G u_str,
      u_min := PySem.W.mg_none_of X G u_min,
      u_max := PySem.W.mg_none_of X G u_max,
      w_gcd := PySem.W.mg_of X G w_gcd,
      t_combinations := PySem.W.mg_of X G t_combinations,
      v_MOST_GROUP := (GlobD.int (PySem.W.mg_of X G v_MOST_GROUP)),
      v_MOST_BOTH := (GlobD.int (PySem.W.mg_of X G v_MOST_BOTH)) }⟩
end Lw
open PySem PySem.W PyProof.Rows
set_option maxHeartbeats 0 in
theorem PySem.Challenge.cw_shiftranges_k19_whole_bounds_holds : PySem.Challenge.rw_shiftranges_k19_whole_bounds.Holds := by
  w_on; o_law; k_head; (case hw => w_witness2)
  k_fill
  refine LamX.walk_ofTs (l := PySem.Challenge.rw_shiftranges_k19_whole_bounds) (n := 63) (k := 9) (x := "script") (CX := fun w => L2.CX (PySem.Challenge.rw_shiftranges_k19_whole_bounds).prog w) rfl (by decide) rfl ⟨rfl, by decide, by decide⟩ (fun w h Y => PySem.W.km_in_of Y) ?F (fun _ _ _ _ _ h => DL.cx_none h)
  case F =>
    intro w mg fa h Y KX G hmg
    refine' Lw.all_mk KX G hmg ?a0 ?l0 ?c0 ?k0 ?a1 ?l1 ?c1 ?k1 ?a2 ?l2 ?c2 ?k2 ?a3 ?l3 ?c3 ?k3 ?a4 ?l4 ?c4 ?k4 ?a5 ?l5 ?c5 ?k5 ?a6 ?l6 ?c6 ?k6 ?a7 ?l7 ?c7 ?k7 ?a8 ?l8 ?c8 ?k8 ?a9 ?l9 ?c9 ?k9 ?a10 ?l10 ?c10 ?k10 ?a11 ?l11 ?c11 ?k11 ?a12 ?l12 ?c12 ?k12 ?a13 ?l13 ?c13 ?k13 ?a14 ?l14 ?c14 ?k14 ?a15 ?l15 ?c15 ?k15 ?a16 ?l16 ?c16 ?k16 ?a17 ?l17 ?c17 ?k17 ?a18 ?l18 ?c18 ?k18 ?a19 ?l19 ?c19 ?k19 ?a20 ?l20 ?c20 ?k20 ?a21 ?l21 ?c21 ?k21 ?a22 ?l22 ?c22 ?k22 ?a23 ?l23 ?c23 ?k23 ?a24 ?l24 ?c24 ?k24 ?a25 ?l25 ?c25 ?k25 ?a26 ?l26 ?c26 ?k26 ?a27 ?l27 ?c27 ?k27 ?xl__law_sets ?xi__law_sets ?xh__law_sets ?xn__law_sets ?xt__law_sets ?u_divmod ?u_int ?u_len ?u_range ?u_sorted ?u_sum ?u_tuple ?u_list ?u_abs ?u_isinstance ?u_bool ?u_all ?u_str ?u_min ?u_max ?w_gcd ?t_combinations ?v_MOST_GROUP ?v_MOST_BOTH
    (case a0 => k_is); (case l0 => k_is); (case c0 => k_is); (case k0 => k_is); (case a1 => k_is); (case l1 => k_is); (case c1 => k_is); (case k1 => k_is); (case a2 => k_is); (case l2 => k_is); (case c2 => k_is); (case k2 => k_is); (case a3 => k_is); (case l3 => k_is); (case c3 => k_is); (case k3 => k_is); (case a4 => k_is); (case l4 => k_is); (case c4 => k_is); (case k4 => k_is); (case a5 => k_is); (case l5 => k_is); (case c5 => k_is); (case k5 => k_is); (case a6 => k_is); (case l6 => k_is); (case c6 => k_is); (case k6 => k_is); (case a7 => k_is); (case l7 => k_is); (case c7 => k_is); (case k7 => k_is); (case a8 => k_is); (case l8 => k_is); (case c8 => k_is); (case k8 => k_is); (case a9 => k_is); (case l9 => k_is); (case c9 => k_is); (case k9 => k_is); (case a10 => k_is); (case l10 => k_is); (case c10 => k_is); (case k10 => k_is); (case a11 => k_is); (case l11 => k_is); (case c11 => k_is); (case k11 => k_is); (case a12 => k_is); (case l12 => k_is); (case c12 => k_is); (case k12 => k_is); (case a13 => k_is); (case l13 => k_is); (case c13 => k_is); (case k13 => k_is); (case a14 => k_is); (case l14 => k_is); (case c14 => k_is); (case k14 => k_is); (case a15 => k_is); (case l15 => k_is); (case c15 => k_is); (case k15 => k_is); (case a16 => k_is); (case l16 => k_is); (case c16 => k_is); (case k16 => k_is); (case a17 => k_is); (case l17 => k_is); (case c17 => k_is); (case k17 => k_is); (case a18 => k_is); (case l18 => k_is); (case c18 => k_is); (case k18 => k_is); (case a19 => k_is); (case l19 => k_is); (case c19 => k_is); (case k19 => k_is); (case a20 => k_is); (case l20 => k_is); (case c20 => k_is); (case k20 => k_is); (case a21 => k_is); (case l21 => k_is); (case c21 => k_is); (case k21 => k_is); (case a22 => k_is); (case l22 => k_is); (case c22 => k_is); (case k22 => k_is); (case a23 => k_is); (case l23 => k_is); (case c23 => k_is); (case k23 => k_is); (case a24 => k_is); (case l24 => k_is); (case c24 => k_is); (case k24 => k_is); (case a25 => k_is); (case l25 => k_is); (case c25 => k_is); (case k25 => k_is); (case a26 => k_is); (case l26 => k_is); (case c26 => k_is); (case k26 => k_is); (case a27 => k_is); (case l27 => k_is); (case c27 => k_is); (case k27 => k_is); (case xl__law_sets => k_is); (case xi__law_sets => rfl); (case xh__law_sets => first | k_is | rfl | kernel_rfl); (case xn__law_sets => first | rfl | kernel_rfl); (case xt__law_sets => exact PySem.W.km_tabs_of Y _ (by decide)); (case u_divmod => k_is); (case u_int => k_is); (case u_len => k_is); (case u_range => k_is); (case u_sorted => k_is); (case u_sum => k_is); (case u_tuple => k_is); (case u_list => k_is); (case u_abs => k_is); (case u_isinstance => k_is); (case u_bool => k_is); (case u_all => k_is); (case u_str => k_is); (case u_min => k_is); (case u_max => k_is); (case w_gcd => k_is); (case t_combinations => k_is); (case v_MOST_GROUP => k_is); (case v_MOST_BOTH => k_is)
