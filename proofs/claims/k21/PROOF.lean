import PyProof.Rows.All
import Wide.All
import OpenK.AllK
import Wide.FinOn
import HandS.Base
import HandS.Call
import HandS.List
import HandS.Exc
import HandS.ExcOwn
import HandS.Defaults
import HandS.Words
import HandS.EndBits
import HandS.IsInst
import HandS.SlotsOwn
import KE.KOpsOwn
import KE.RegKIsAll
import HandS.Comp
import KE.KExcSuper
import HandS.ExcInit
import HandS.ExcField
import HandS.ExcIs
import PyProof.Rows.SeqMore
import HandS.MakeKw
import HandS.MakeKwOnly
import HandS.Style
import PyProof.LongRange
import HandS.Conv
import HandS.Iter
import HandS.Flow
import KE.GoesEnum
import KE.GoesZip
import HandS.Text
import HandS.Replace
import PyProof.StrOps2
import PyProof.StrLawsIn
import HandS.ClsMeth
import HandS.FStr
import KE.KSuper
import HandS.SortInts
import HandS.Property
import HandS.Star
import HandS.IterVal
import KE.KOwnIter
import HandS.StrMore
import PySem.Challenge.RW_barclips_k21_lead_parts
set_option Elab.async false
set_option linter.all false
set_option autoImplicit false
set_option maxRecDepth 100000
set_option maxHeartbeats 4000000
namespace Pd
open PySem PySem.Spec PyProof.Rows L2
inductive D where
  | non | bl (b : Bool) | int (i : Int) | str (x : Str) | ref (a : Addr) | ty (n : String)
  | tup (l : List D) | lst (l : List D) | ins (C : Addr) (l : List (Str × D))
mutual
def Rep (K : PySem.W.Frag) (G : Hp) : D → V → Prop
  | .non, v => v = .non
  | .bl b, v => v = .bl b
  | .int i, v => v = .int i
  | .str x, v => v = .str x
  | .ref a, v => v = .ref a
  | .ty n, v => v = .ty n
  | .tup l, v => ∃ a xs, v = .ref a ∧ SqT K G a xs ∧ Reps K G l xs
  | .lst l, v => ∃ a xs, v = .ref a ∧ SqL K G a xs ∧ Reps K G l xs
  | .ins C l, v => ∃ a dx fs, v = .ref a ∧ G a = some (.ins C dx fs) ∧ RepF K G l fs
def Reps (K : PySem.W.Frag) (G : Hp) : List D → List V → Prop
  | [], xs => xs = []
  | d :: l, xs => ∃ x r, xs = x :: r ∧ Rep K G d x ∧ Reps K G l r
def RepF (K : PySem.W.Frag) (G : Hp) : List (Str × D) → List (Str × V) → Prop
  | [], fs => fs = []
  | (f, d) :: l, fs => ∃ x r, fs = (f, x) :: r ∧ Rep K G d x ∧ RepF K G l r
end
def Sub (G G' : Hp) : Prop := ∀ a o, G a = some o → G' a = some o
theorem Sub.refl (G : Hp) : Sub G G := fun _ _ h => h
theorem Sub.trans {G G1 G2 : Hp} (a : Sub G G1) (b : Sub G1 G2) : Sub G G2 := fun x o h => b x o (a x o h)
theorem SqL.sub {K : PySem.W.Frag} {G G' : Hp} {a : Addr} {xs : List V} (e : Sub G G') (h : SqL K G a xs) : SqL K G' a xs := by
  rcases h with (h | ⟨o, h⟩) | h
  · exact .inl (.inl (e _ _ h))
  · exact .inl (.inr ⟨o, e _ _ h⟩)
  · exact .inr h
theorem SqT.sub {K : PySem.W.Frag} {G G' : Hp} {a : Addr} {xs : List V} (e : Sub G G') (h : SqT K G a xs) : SqT K G' a xs := by
  rcases h with (h | ⟨o, h⟩) | h
  · exact .inl (.inl (e _ _ h))
  · exact .inl (.inr ⟨o, e _ _ h⟩)
  · exact .inr h
mutual
theorem Rep.sub {K : PySem.W.Frag} {G G' : Hp} (e : Sub G G') : ∀ (d : D) (v : V), Rep K G d v → Rep K G' d v
  | .non, _, h => h
  | .bl _, _, h => h
  | .int _, _, h => h
  | .str _, _, h => h
  | .ref _, _, h => h
  | .ty _, _, h => h
  | .tup l, _, ⟨a, xs, e1, s, r⟩ => ⟨a, xs, e1, SqT.sub e s, Reps.sub e l xs r⟩
  | .lst l, _, ⟨a, xs, e1, s, r⟩ => ⟨a, xs, e1, SqL.sub e s, Reps.sub e l xs r⟩
  | .ins _ l, _, ⟨a, dx, fs, e1, s, r⟩ => ⟨a, dx, fs, e1, e _ _ s, RepF.sub e l fs r⟩
theorem Reps.sub {K : PySem.W.Frag} {G G' : Hp} (e : Sub G G') : ∀ (l : List D) (xs : List V), Reps K G l xs → Reps K G' l xs
  | [], _, h => h
  | d :: l, _, ⟨x, r, e1, h1, h2⟩ => ⟨x, r, e1, Rep.sub e d x h1, Reps.sub e l r h2⟩
theorem RepF.sub {K : PySem.W.Frag} {G G' : Hp} (e : Sub G G') : ∀ (l : List (Str × D)) (fs : List (Str × V)), RepF K G l fs → RepF K G' l fs
  | [], _, h => h
  | (_, d) :: l, _, ⟨x, r, e1, h1, h2⟩ => ⟨x, r, e1, Rep.sub e d x h1, RepF.sub e l r h2⟩
end
end Pd
namespace Pd
open PySem PySem.Spec PyProof.Rows L2
inductive MO where
  | lst (l : List D)
  | ins (C dx : Addr) (l : List (Str × D))
abbrev Mem := Addr → Option MO
def mset (m : Mem) (p : Addr) (o : MO) : Mem := fun b => if b = p then some o else m b
def mdel (m : Mem) (p : Addr) : Mem := fun b => if b = p then none else m b
theorem mset_same {m : Mem} {p : Addr} {o : MO} : mset m p o p = some o := if_pos rfl
theorem mset_ne {m : Mem} {p q : Addr} {o : MO} (h : q ≠ p) : mset m p o q = m q := if_neg h
theorem mset_mset {m : Mem} {p : Addr} {o u : MO} : mset (mset m p o) p u = mset m p u := by
  funext b; unfold mset; split <;> rfl
theorem mdel_mset {m : Mem} {p : Addr} {o : MO} (h : m p = none) : mdel (mset m p o) p = m := by
  funext b; unfold mdel mset; split
  · rename_i e; subst e; exact h.symm
  · rfl
def RepM (K : PySem.W.Frag) (G : Hp) : MO → HO → Prop
  | .lst l, o => ∃ xs, o = .lst xs ∧ Reps K G l xs
  | .ins C dx l, o => ∃ fs, o = .ins C dx fs ∧ RepF K G l fs
theorem RepM.sub {K : PySem.W.Frag} {G G' : Hp} (e : Sub G G') : ∀ {o : MO} {u : HO}, RepM K G o u → RepM K G' o u
  | .lst _, _, ⟨xs, e1, r⟩ => ⟨xs, e1, Reps.sub e _ _ r⟩
  | .ins _ _ _, _, ⟨fs, e1, r⟩ => ⟨fs, e1, RepF.sub e _ _ r⟩
structure Cur (K : PySem.W.Frag) (G : Hp) (m : Mem) (H : Hp) : Prop where
  ex : Sub G H
  mm : ∀ a o, m a = some o → G a = none ∧ ∃ u, H a = some u ∧ RepM K G o u
section
variable {K : PySem.W.Frag} {G G' H H' : Hp} {m m' : Mem} {p : Addr} {o : HO}
theorem Cur.none (c : Cur K G m H) (h : H p = none) : G p = none ∧ m p = none := by
  constructor
  · cases e : G p with
    | none => rfl
    | some u => rw [c.ex _ _ e] at h; cases h
  · cases e : m p with
    | none => rfl
    | some u => obtain ⟨_, w, q, _⟩ := c.mm _ _ e; rw [q] at h; cases h
theorem sub_upd (h : G p = none) : Sub G (upd G p o) := fun a u e => by rw [upd_ne (ne_of_none e h)]; exact e
theorem sub_upd2 (s : Sub G H) : Sub (upd G p o) (upd H p o) := fun a u e => by
  by_cases z : a = p
  · subst z; rw [upd_same] at e ⊢; exact e
  · rw [upd_ne z] at e ⊢; exact s a u e
theorem Cur.new (c : Cur K G m H) (h : H p = Option.none) : Cur K (upd G p o) m (upd H p o) := by
  refine ⟨sub_upd2 c.ex, fun a u e => ?_⟩
  obtain ⟨h1, w, h2, h3⟩ := c.mm a u e
  have ne : a ≠ p := ne_of_none h2 h
  refine ⟨by rw [upd_ne ne]; exact h1, w, by rw [upd_ne ne]; exact h2, RepM.sub (sub_upd (c.none h).1) h3⟩
theorem Cur.grow (c : Cur K G m H) (h : H p = Option.none) : Cur K G m (upd H p o) := by
  refine ⟨fun a u e => ?_, fun a u e => ?_⟩
  · have q := c.ex _ _ e; rw [upd_ne (ne_of_none q h)]; exact q
  · obtain ⟨h1, w, h2, h3⟩ := c.mm a u e
    exact ⟨h1, w, by rw [upd_ne (ne_of_none h2 h)]; exact h2, h3⟩
theorem Cur.newM {u : MO} (c : Cur K G m H) (h : H p = Option.none) (r : RepM K G u o) : Cur K G (mset m p u) (upd H p o) := by
  refine ⟨fun a u e => ?_, fun a v e => ?_⟩
  · have q := c.ex _ _ e; rw [upd_ne (ne_of_none q h)]; exact q
  · by_cases z : a = p
    · subst z
      rw [mset_same] at e; cases e
      exact ⟨(c.none h).1, o, upd_same, r⟩
    · rw [mset_ne z] at e
      obtain ⟨h1, w, h2, h3⟩ := c.mm a v e
      exact ⟨h1, w, by rw [upd_ne z]; exact h2, h3⟩
theorem Cur.wr {u v : MO} (c : Cur K G m H) (h : m p = some v) (r : RepM K G u o) : Cur K G (mset m p u) (upd H p o) := by
  obtain ⟨h1, w, h2, h3⟩ := c.mm p v h
  refine ⟨fun a u e => ?_, fun a v e => ?_⟩
  · have ne : a ≠ p := ne_of_none e h1
    rw [upd_ne ne]; exact c.ex _ _ e
  · by_cases z : a = p
    · subst z
      rw [mset_same] at e; cases e
      exact ⟨h1, o, upd_same, r⟩
    · rw [mset_ne z] at e
      obtain ⟨h1, w, h2, h3⟩ := c.mm a v e
      exact ⟨h1, w, by rw [upd_ne z]; exact h2, h3⟩
theorem Cur.freeze {u : MO} (c : Cur K G m H) (h : m p = some u) : ∃ o, H p = some o ∧ RepM K G u o ∧ Sub G (upd G p o) ∧ Cur K (upd G p o) (mdel m p) H := by
  obtain ⟨h1, w, h2, h3⟩ := c.mm p u h
  refine ⟨w, h2, h3, sub_upd h1, fun a v e => ?_, fun a v e => ?_⟩
  · by_cases z : a = p
    · subst z; rw [upd_same] at e; rw [h2]; exact e
    · rw [upd_ne z] at e; exact c.ex _ _ e
  · have ne : a ≠ p := by
      intro z; subst z
      simp [mdel] at e
    have e' : m a = some v := by
      unfold mdel at e; rw [if_neg ne] at e; exact e
    obtain ⟨h1', w', h2', h3'⟩ := c.mm a v e'
    exact ⟨by rw [upd_ne ne]; exact h1', w', h2', RepM.sub (sub_upd h1) h3'⟩
theorem Cur.drop (c : Cur K G m H) : Cur K G (mdel m p) H := ⟨c.ex, fun a v e => by
  have ne : a ≠ p := by
    intro z; subst z
    simp [mdel] at e
  unfold mdel at e; rw [if_neg ne] at e; exact c.mm a v e⟩
end
abbrev DE := List (Nat × D)
def lk : DE → Nat → Option D
  | [], _ => none
  | (j, d) :: r, i => match Nat.beq j i with
    | true => some d
    | false => lk r i
theorem lk_cons {j i : Nat} {d : D} {r : DE} : lk ((j, d) :: r) i = if j = i then some d else lk r i := by
  show (match Nat.beq j i with | true => some d | false => lk r i) = _
  by_cases h : j = i
  · subst h; rw [Nat.beq_refl, if_pos rfl]
  · have e : Nat.beq j i = false := by
      cases q : Nat.beq j i with
      | false => rfl
      | true => exact absurd (Nat.eq_of_beq_eq_true q) h
    rw [e, if_neg h]
structure RepE (K : PySem.W.Frag) (n : Nat) (G : Hp) (σ : L2.St) (ρ : DE) : Prop where
  len : σ.length = n
  at_ : ∀ (i : Nat) d, lk ρ i = some d → ∃ v, σ[i]? = some (some v) ∧ Rep K G d v
theorem RepE.sub {K : PySem.W.Frag} {n : Nat} {G G' : Hp} {σ : L2.St} {ρ : DE} (r : RepE K n G σ ρ) (e : Sub G G') : RepE K n G' σ ρ :=
  ⟨r.len, fun i d h => let ⟨v, a, b⟩ := r.at_ i d h; ⟨v, a, Rep.sub e d v b⟩⟩
theorem RepE.set {K : PySem.W.Frag} {n : Nat} {G : Hp} {σ : L2.St} {ρ : DE} {d : D} {v : V} (r : RepE K n G σ ρ) (h : Rep K G d v) (i : Nat) (hi : i < n) : RepE K n G (σ.set i (some v)) ((i, d) :: ρ) := by
  refine ⟨by simp [r.len], fun j u e => ?_⟩
  rw [lk_cons] at e
  by_cases z : i = j
  · subst z
    rw [if_pos rfl] at e
    cases e
    exact ⟨v, by rw [List.getElem?_set_self (by rw [r.len]; exact hi)], h⟩
  · rw [if_neg z] at e
    rw [List.getElem?_set_ne z]
    exact r.at_ j u e
theorem RepE.weak {K : PySem.W.Frag} {n : Nat} {G : Hp} {σ : L2.St} {ρ ρ' : DE} (r : RepE K n G σ ρ) (h : ∀ i d, lk ρ' i = some d → lk ρ i = some d) : RepE K n G σ ρ' := ⟨r.len, fun i d e => r.at_ i d (h i d e)⟩
theorem ix_lt {N : List Str} {i : Nat} {x : Str} (h : N[i]? = some x) : i < N.length := (List.getElem?_eq_some_iff.mp h).1
def VP (K : PySem.W.Frag) (G : Hp) (Q : D → Mem → Prop) (Q' : VK) : Prop := ∀ v d m' G' H', Sub G G' → Cur K G' m' H' → Rep K G' d v → Q d m' → Q' v H'
def BP (K : PySem.W.Frag) (G : Hp) (Q : Bool → Mem → Prop) (Q' : Bool → Hp → Prop) : Prop := ∀ b m' G' H', Sub G G' → Cur K G' m' H' → Q b m' → Q' b H'
def LP (K : PySem.W.Frag) (G : Hp) (Q : List D → Mem → Prop) (Q' : List V → Hp → Prop) : Prop := ∀ vs ds m' G' H', Sub G G' → Cur K G' m' H' → Reps K G' ds vs → Q ds m' → Q' vs H'
structure RR where
  nx : DE → Mem → Prop
  rt : D → Mem → Prop
  bk : DE → Mem → Prop := fun _ _ => False
  ct : DE → Mem → Prop := fun _ _ => False
def NP (K : PySem.W.Frag) (n : Nat) (G : Hp) (N : DE → Mem → Prop) (N' : L2.St → Hp → Prop) : Prop := ∀ σ' ρ' m' G' H', Sub G G' → RepE K n G' σ' ρ' → Cur K G' m' H' → N ρ' m' → N' σ' H'
structure FP (K : PySem.W.Frag) (n : Nat) (G : Hp) (R : RR) (D : Ends) : Prop where
  nx : NP K n G R.nx D.nx
  rt : VP K G R.rt D.rt
  bk : NP K n G R.bk D.bk
  ct : NP K n G R.ct D.ct
section
variable {K : PySem.W.Frag} {G G' : Hp}
theorem VP.sub {Q : D → Mem → Prop} {Q' : VK} (h : VP K G Q Q') (e : Sub G G') : VP K G' Q Q' := fun v d m' G2 H' s => h v d m' G2 H' (e.trans s)
theorem BP.sub {Q : Bool → Mem → Prop} {Q' : Bool → Hp → Prop} (h : BP K G Q Q') (e : Sub G G') : BP K G' Q Q' := fun v m' G2 H' s => h v m' G2 H' (e.trans s)
theorem LP.sub {Q : List D → Mem → Prop} {Q' : List V → Hp → Prop} (h : LP K G Q Q') (e : Sub G G') : LP K G' Q Q' := fun v d m' G2 H' s => h v d m' G2 H' (e.trans s)
theorem NP.sub {n : Nat} {N : DE → Mem → Prop} {N' : L2.St → Hp → Prop} (h : NP K n G N N') (e : Sub G G') : NP K n G' N N' := fun σ ρ m' G2 H' s => h σ ρ m' G2 H' (e.trans s)
theorem FP.sub {n : Nat} {R : RR} {D : Ends} (h : FP K n G R D) (e : Sub G G') : FP K n G' R D := ⟨h.nx.sub e, h.rt.sub e, h.bk.sub e, h.ct.sub e⟩
theorem Cur.vp {Q : D → Mem → Prop} {Q' : VK} {m : Mem} {H : Hp} {d : D} {v : V} (c : Cur K G m H) (k : VP K G Q Q') (r : Rep K G d v) (q : Q d m) : Q' v H := k v d m G H (Sub.refl G) c r q
end
section
variable (X : Cx)
def teX (e : Expr) : TE := fun σ H Q => ∀ pins s, Inv X pins σ H s → wpAny (model X.prog X.w) X.A (eval e X.env) (EP X pins σ Q) X.xe s
def ttX (e : Expr) : TT := fun σ H Q => ∀ pins s, Inv X pins σ H s → wpAny (model X.prog X.w) X.A (isTrue e X.env (eval e X.env)) (TP X pins σ Q) X.xe s
def twX (e : Expr) : TT := fun σ H Q => ∀ whole pins s, Inv X pins σ H s → wpAny (model X.prog X.w) X.A (isTrue e X.env whole) (TP X pins σ Q) X.xe s
def taX (es : List Expr) : TA := fun σ H Q => ∀ pos pins s, Inv X pins σ H s → wpAny (model X.prog X.w) X.A (spliced (backTo pos (starEach es X.env))) (AP X pins σ Q) X.xe s
def tsX (st : Stmt) : TS := fun D σ H => ∀ pins s, Inv X pins σ H s → wpAny (model X.prog X.w) X.A (exec st X.env) (SP X pins D) X.xe s
def tssX (st : List Stmt) : TS := fun D σ H => ∀ pins s, Inv X pins σ H s → wpAny (model X.prog X.w) X.A (execs st X.env) (SP X pins D) X.xe s
def opX (f : Value → Value → Sem Value) : R2 := fun x y H Q => ∀ pins s σ v u, Inv X pins σ H s → RelV x v → RelV y u → wpAny (model X.prog X.w) X.A (f v u) (EP X pins σ Q) X.xe s
def unX (f : Value → Sem Value) : V → Hp → VK → Prop := fun x H Q => ∀ pins s σ v, Inv X pins σ H s → RelV x v → wpAny (model X.prog X.w) X.A (f v) (EP X pins σ Q) X.xe s
end
section
variable {X : Cx}
theorem peX (e : Expr) : PE X e (teX X e) := ⟨fun pins s σ H Q I h => h pins s I⟩
theorem ptX (e : Expr) : PT X e (ttX X e) := ⟨fun pins s σ H Q I h => h pins s I⟩
theorem pwX (e : Expr) : PW X e (twX X e) := ⟨fun whole pins s σ H Q I h => h whole pins s I⟩
theorem paX (es : List Expr) : PA X es (taX X es) := ⟨fun pos pins s σ H Q I h => h pos pins s I⟩
theorem psX (st : Stmt) : PS X st (tsX X st) := ⟨fun pins s σ H D I h => h pins s I⟩
theorem pssX (st : List Stmt) : PSs X st (tssX X st) := ⟨fun pins s σ H D I h => h pins s I⟩
theorem oprX (f : Value → Value → Sem Value) : OpR X f (opX X f) := fun pins s σ H x y v u Q I rx ry h => h pins s σ v u I rx ry
theorem unrX (f : Value → Sem Value) : UnR X f (unX X f) := fun pins s σ H x v Q I rx h => h pins s σ v I rx
theorem teX_of {e : Expr} {t : TE} (h : PE X e t) {σ : L2.St} {H : Hp} {Q : VK} (q : t σ H Q) : teX X e σ H Q := fun pins s I => h.run pins s σ H Q I q
theorem ttX_of {e : Expr} {t : TT} (h : PT X e t) {σ : L2.St} {H : Hp} {Q : Bool → Hp → Prop} (q : t σ H Q) : ttX X e σ H Q := fun pins s I => h.run pins s σ H Q I q
theorem twX_of {e : Expr} {t : TT} (h : PW X e t) {σ : L2.St} {H : Hp} {Q : Bool → Hp → Prop} (q : t σ H Q) : twX X e σ H Q := fun whole pins s I => h.run whole pins s σ H Q I q
theorem taX_of {es : List Expr} {t : TA} (h : PA X es t) {σ : L2.St} {H : Hp} {Q : List V → Hp → Prop} (q : t σ H Q) : taX X es σ H Q := fun pos pins s I => h.run pos pins s σ H Q I q
theorem tsX_of {st : Stmt} {t : TS} (h : PS X st t) {D : Ends} {σ : L2.St} {H : Hp} (q : t D σ H) : tsX X st D σ H := fun pins s I => h.run pins s σ H D I q
theorem tssX_of {st : List Stmt} {t : TS} (h : PSs X st t) {D : Ends} {σ : L2.St} {H : Hp} (q : t D σ H) : tssX X st D σ H := fun pins s I => h.run pins s σ H D I q
theorem opX_of {f : Value → Value → Sem Value} {r : R2} (h : OpR X f r) {x y : V} {H : Hp} {Q : VK} (q : r x y H Q) : opX X f x y H Q := fun pins s σ v u I rx ry => h pins s σ H x y v u Q I rx ry q
theorem unX_of {f : Value → Sem Value} {r : V → Hp → VK → Prop} (h : UnR X f r) {x : V} {H : Hp} {Q : VK} (q : r x H Q) : unX X f x H Q := fun pins s σ v I rx => h pins s σ H x v Q I rx q
end
structure Bx where
  X : Cx
  G0 : Hp
section
variable (B : Bx)
def WE (e : Expr) (ρ : DE) (m : Mem) (Q : D → Mem → Prop) : Prop := ∀ G σ H, Sub B.G0 G → RepE B.X.K B.X.N.length G σ ρ → Cur B.X.K G m H → ∀ Q' : VK, VP B.X.K G Q Q' → teX B.X e σ H Q'
def WT (e : Expr) (ρ : DE) (m : Mem) (Q : Bool → Mem → Prop) : Prop := ∀ G σ H, Sub B.G0 G → RepE B.X.K B.X.N.length G σ ρ → Cur B.X.K G m H → ∀ Q' : Bool → Hp → Prop, BP B.X.K G Q Q' → ttX B.X e σ H Q'
def WW (e : Expr) (ρ : DE) (m : Mem) (Q : Bool → Mem → Prop) : Prop := ∀ G σ H, Sub B.G0 G → RepE B.X.K B.X.N.length G σ ρ → Cur B.X.K G m H → ∀ Q' : Bool → Hp → Prop, BP B.X.K G Q Q' → twX B.X e σ H Q'
def WA (es : List Expr) (ρ : DE) (m : Mem) (Q : List D → Mem → Prop) : Prop := ∀ G σ H, Sub B.G0 G → RepE B.X.K B.X.N.length G σ ρ → Cur B.X.K G m H → ∀ Q' : List V → Hp → Prop, LP B.X.K G Q Q' → taX B.X es σ H Q'
def WS (st : Stmt) (ρ : DE) (m : Mem) (R : RR) : Prop := ∀ G σ H, Sub B.G0 G → RepE B.X.K B.X.N.length G σ ρ → Cur B.X.K G m H → ∀ D : Ends, FP B.X.K B.X.N.length G R D → tsX B.X st D σ H
def WSs (st : List Stmt) (ρ : DE) (m : Mem) (R : RR) : Prop := ∀ G σ H, Sub B.G0 G → RepE B.X.K B.X.N.length G σ ρ → Cur B.X.K G m H → ∀ D : Ends, FP B.X.K B.X.N.length G R D → tssX B.X st D σ H
def WB (f : Value → Value → Sem Value) (x y : D) (m : Mem) (Q : D → Mem → Prop) : Prop := ∀ G H v u, Sub B.G0 G → Cur B.X.K G m H → Rep B.X.K G x v → Rep B.X.K G y u → ∀ Q' : VK, VP B.X.K G Q Q' → opX B.X f v u H Q'
def WU (f : Value → Sem Value) (x : D) (m : Mem) (Q : D → Mem → Prop) : Prop := ∀ G H v, Sub B.G0 G → Cur B.X.K G m H → Rep B.X.K G x v → ∀ Q' : VK, VP B.X.K G Q Q' → unX B.X f v H Q'
end
section
variable {B : Bx} {a b c e : Expr} {es : List Expr} {ρ : DE} {m : Mem} {Q : D → Mem → Prop} {pos p2 : Pos}
theorem we_name (i : Nat) {x : Str} {d : D} (hN : B.X.N[i]? = some x) (hv : Vis B.X.env.scope x) (h : lk ρ i = some d) (q : Q d m)
    (hd : (x == ("__debug__" : Str)) = false := by decide) (hcd : (x == ("__classdict__" : Str)) = false := by decide) : WE B (.Name x pos) ρ m Q := fun G σ H _ r c Q' k => by
  obtain ⟨v, h1, h2⟩ := r.at_ i d h
  exact teX_of (pe_var hN hv hd hcd) ⟨v, h1, c.vp k h2 q⟩
theorem we_int {i : Int} {j} (q : Q (.int i) m) : WE B (.Constant (.int i) j pos) ρ m Q := fun G σ H _ r c Q' k => teX_of pe_int (c.vp k (d := .int i) rfl q)
theorem we_bl {i : Bool} {j} (q : Q (.bl i) m) : WE B (.Constant (.bool i) j pos) ρ m Q := fun G σ H _ r c Q' k => teX_of pe_bl (c.vp k (d := .bl i) rfl q)
theorem we_non {j} (q : Q .non m) : WE B (.Constant .none j pos) ρ m Q := fun G σ H _ r c Q' k => teX_of pe_non (c.vp k (d := .non) rfl q)
theorem we_str {x : Str} {j} (q : Q (.str x) m) : WE B (.Constant (.str x) j pos) ρ m Q := fun G σ H _ r c Q' k => teX_of pe_str (c.vp k (d := .str x) rfl q)
theorem we_glob {x : Str} {v : V} {u : Value} {d : D} (hg : Gl B.X x) (hm : B.X.mg x = some u) (r0 : RelV v u) (rd : Rep B.X.K B.G0 d v) (q : Q d m) (hd : (x == ("__debug__" : Str)) = false := by decide) : WE B (.Name x pos) ρ m Q :=
  fun G σ H s r c Q' k => teX_of (pe_glob hg hm r0 hd) (c.vp k (Rep.sub s d v rd) q)
theorem we_bin {op : Operator} (h : WE B a ρ m fun x m1 => WE B b ρ m1 fun y m2 => WB B (binaryOp op) x y m2 Q) : WE B (.BinOp a op b pos) ρ m Q := fun G σ H s r c Q' k => by
  refine teX_of (pe_op (oprX _) (peX a) (peX b)) ?_
  refine h G σ H s r c _ fun v d m1 G1 H1 s1 c1 r1 h1 => ?_
  refine h1 G1 σ H1 (s.trans s1) (r.sub s1) c1 _ fun u d2 m2 G2 H2 s2 c2 r2 h2 => ?_
  exact h2 G2 H2 v u ((s.trans s1).trans s2) c2 (Rep.sub s2 _ _ r1) r2 Q' (k.sub (s1.trans s2))
theorem we_un {op : UnaryOp} (h : WE B a ρ m fun x m1 => WU B (unaryOp op) x m1 Q) : WE B (.UnaryOp op a pos) ρ m Q := fun G σ H s r c Q' k => by
  refine teX_of (pe_un (unrX _) (peX a)) ?_
  refine h G σ H s r c _ fun v d m1 G1 H1 s1 c1 r1 h1 => ?_
  exact h1 G1 H1 v (s.trans s1) c1 r1 Q' (k.sub s1)
theorem we_cmp {op : CmpOp} (h : WE B a ρ m fun x m1 => WE B b ρ m1 fun y m2 => WB B (compareOp op) x y m2 Q) (hm : behindInMarks op b = false) : WE B (.Compare a [op] [b] pos) ρ m Q := fun G σ H s r c Q' k => by
  refine teX_of (pe_cmpR (oprX _) (peX a) (peX b) hm) ?_
  refine h G σ H s r c _ fun v d m1 G1 H1 s1 c1 r1 h1 => ?_
  refine h1 G1 σ H1 (s.trans s1) (r.sub s1) c1 _ fun u d2 m2 G2 H2 s2 c2 r2 h2 => ?_
  exact h2 G2 H2 v u ((s.trans s1).trans s2) c2 (Rep.sub s2 _ _ r1) r2 Q' (k.sub (s1.trans s2))
theorem we_ifexp {c : Expr} (h : WT B c ρ m fun k m1 => if k = true then WE B a ρ m1 Q else WE B b ρ m1 Q) : WE B (.IfExp c a b pos) ρ m Q := fun G σ H s r cu Q' k => by
  refine teX_of (pe_ifExp (ptX c) (peX a) (peX b)) ?_
  refine h G σ H s r cu _ fun t m1 G1 H1 s1 c1 h1 => ?_
  cases t with
  | true => rw [if_pos rfl] at h1 ⊢; exact h1 G1 σ H1 (s.trans s1) (r.sub s1) c1 Q' (k.sub s1)
  | false => rw [if_neg Bool.false_ne_true] at h1 ⊢; exact h1 G1 σ H1 (s.trans s1) (r.sub s1) c1 Q' (k.sub s1)
variable {T : Bool → Mem → Prop}
theorem wt_cmp {op : CmpOp} (h : WE B a ρ m fun x m1 => WE B b ρ m1 fun y m2 => WB B (compareOp op) x y m2 fun z m3 => ∃ k, z = .bl k ∧ T k m3) (hm : behindInMarks op b = false) : WT B (.Compare a [op] [b] pos) ρ m T := fun G σ H s r c Q' k => by
  refine ttX_of (pt_cmpR (oprX _) (peX a) (peX b) hm) ?_
  refine h G σ H s r c _ fun v d m1 G1 H1 s1 c1 r1 h1 => ?_
  refine h1 G1 σ H1 (s.trans s1) (r.sub s1) c1 _ fun u d2 m2 G2 H2 s2 c2 r2 h2 => ?_
  refine h2 G2 H2 v u ((s.trans s1).trans s2) c2 (Rep.sub s2 _ _ r1) r2 _ fun z d3 m3 G3 H3 s3 c3 r3 h3 => ?_
  obtain ⟨t, rfl, q⟩ := h3
  exact ⟨t, r3, k t m3 G3 H3 ((s1.trans s2).trans s3) c3 q⟩
theorem wt_chain {op op' : CmpOp} (h : WE B a ρ m fun x m1 => WE B b ρ m1 fun y m2 => WB B (compareOp op) x y m2 fun z m3 => ∃ k, z = .bl k ∧
      if k = true then WE B c ρ m3 fun w m4 => WB B (compareOp op') y w m4 fun z' m5 => ∃ k', z' = .bl k' ∧ T k' m5 else T false m3)
    (hm : lastMarks [op, op'] [b, c] = false) : WT B (.Compare a [op, op'] [b, c] pos) ρ m T := fun G σ H s r cu Q' k => by
  refine ttX_of (pt_chain (oprX _) (oprX _) (peX a) (peX b) (peX c) hm) ?_
  refine h G σ H s r cu _ fun v d m1 G1 H1 s1 c1 r1 h1 => ?_
  refine h1 G1 σ H1 (s.trans s1) (r.sub s1) c1 _ fun u d2 m2 G2 H2 s2 c2 r2 h2 => ?_
  refine h2 G2 H2 v u ((s.trans s1).trans s2) c2 (Rep.sub s2 _ _ r1) r2 _ fun z d3 m3 G3 H3 s3 c3 r3 h3 => ?_
  obtain ⟨t, rfl, q⟩ := h3
  refine ⟨t, r3, ?_⟩
  cases t with
  | true =>
    rw [if_pos rfl] at q ⊢
    refine q G3 σ H3 (((s.trans s1).trans s2).trans s3) (r.sub ((s1.trans s2).trans s3)) c3 _ fun w d4 m4 G4 H4 s4 c4 r4 h4 => ?_
    refine h4 G4 H4 u w ((((s.trans s1).trans s2).trans s3).trans s4) c4 (Rep.sub (s3.trans s4) _ _ r2) r4 _ fun z' d5 m5 G5 H5 s5 c5 r5 h5 => ?_
    obtain ⟨t', rfl, q'⟩ := h5
    exact ⟨t', r5, k t' m5 G5 H5 ((((s1.trans s2).trans s3).trans s4).trans s5) c5 q'⟩
  | false =>
    rw [if_neg Bool.false_ne_true] at q ⊢
    exact ⟨false, rfl, k false m3 G3 H3 ((s1.trans s2).trans s3) c3 q⟩
theorem wt_val (h : WE B e ρ m fun z m1 => ∃ k, z = .bl k ∧ T k m1) (he : ∀ whole, isTrue e B.X.env whole = (do let v ← whole; standAt e.pos; holding [v] (truthy v)) := by intro _; rfl) : WT B e ρ m T := fun G σ H s r c Q' k => by
  refine ttX_of (pt_val (peX e) he) ?_
  refine h G σ H s r c _ fun v d m1 G1 H1 s1 c1 r1 h1 => ?_
  obtain ⟨t, rfl, q⟩ := h1
  exact ⟨t, r1, k t m1 G1 H1 s1 c1 q⟩
theorem wt_not (h : WT B a ρ m fun k m1 => T (!k) m1) : WT B (.UnaryOp .Not a pos) ρ m T := fun G σ H s r c Q' k => by
  refine ttX_of (pt_not (ptX a)) ?_
  exact h G σ H s r c _ fun t m1 G1 H1 s1 c1 q => k _ m1 G1 H1 s1 c1 q
theorem wt_ww (h : WW B e ρ m T) : WT B e ρ m T := fun G σ H s r c Q' k => ttX_of (pwX e).pt (h G σ H s r c Q' k)
theorem ww_and1 (h : WT B a ρ m T) : WW B (.BoolOp .And [a] pos) ρ m T := fun G σ H s r c Q' k => twX_of (pw_and1 (ptX a)) (h G σ H s r c Q' k)
theorem ww_or1 (h : WT B a ρ m T) : WW B (.BoolOp .Or [a] pos) ρ m T := fun G σ H s r c Q' k => twX_of (pw_or1 (ptX a)) (h G σ H s r c Q' k)
theorem ww_and (h : WT B a ρ m fun k m1 => if k = true then WW B (.BoolOp .And (b :: es) pos) ρ m1 T else T false m1) : WW B (.BoolOp .And (a :: b :: es) pos) ρ m T := fun G σ H s r c Q' k => by
  refine twX_of (pw_and (ptX a) (pwX _)) ?_
  refine h G σ H s r c _ fun t m1 G1 H1 s1 c1 q => ?_
  cases t with
  | true => rw [if_pos rfl] at q ⊢; exact q G1 σ H1 (s.trans s1) (r.sub s1) c1 Q' (k.sub s1)
  | false => rw [if_neg Bool.false_ne_true] at q ⊢; exact k _ m1 G1 H1 s1 c1 q
theorem ww_or (h : WT B a ρ m fun k m1 => if k = true then T true m1 else WW B (.BoolOp .Or (b :: es) pos) ρ m1 T) : WW B (.BoolOp .Or (a :: b :: es) pos) ρ m T := fun G σ H s r c Q' k => by
  refine twX_of (pw_or (ptX a) (pwX _)) ?_
  refine h G σ H s r c _ fun t m1 G1 H1 s1 c1 q => ?_
  cases t with
  | true => rw [if_pos rfl] at q ⊢; exact k _ m1 G1 H1 s1 c1 q
  | false => rw [if_neg Bool.false_ne_true] at q ⊢; exact q G1 σ H1 (s.trans s1) (r.sub s1) c1 Q' (k.sub s1)
theorem we_one {op} (h : WE B a ρ m Q) : WE B (.BoolOp op [a] pos) ρ m Q := fun G σ H s r c Q' k => teX_of (pe_one (peX a)) (h G σ H s r c Q' k)
theorem we_and (h : WE B a ρ m fun z m1 => ∃ t, z = .bl t ∧ if t = true then WE B (.BoolOp .And (b :: es) pos) ρ m1 Q else Q (.bl false) m1) : WE B (.BoolOp .And (a :: b :: es) pos) ρ m Q := fun G σ H s r c Q' k => by
  refine teX_of (pe_and (peX a) (peX _)) ?_
  refine h G σ H s r c _ fun v d m1 G1 H1 s1 c1 r1 q => ?_
  obtain ⟨t, rfl, q⟩ := q
  refine ⟨t, r1, ?_⟩
  cases t with
  | true => rw [if_pos rfl] at q ⊢; exact q G1 σ H1 (s.trans s1) (r.sub s1) c1 Q' (k.sub s1)
  | false => rw [if_neg Bool.false_ne_true] at q ⊢; exact k _ (.bl false) m1 G1 H1 s1 c1 rfl q
theorem we_or (h : WE B a ρ m fun z m1 => ∃ t, z = .bl t ∧ if t = true then Q (.bl true) m1 else WE B (.BoolOp .Or (b :: es) pos) ρ m1 Q) : WE B (.BoolOp .Or (a :: b :: es) pos) ρ m Q := fun G σ H s r c Q' k => by
  refine teX_of (pe_or (peX a) (peX _)) ?_
  refine h G σ H s r c _ fun v d m1 G1 H1 s1 c1 r1 q => ?_
  obtain ⟨t, rfl, q⟩ := q
  refine ⟨t, r1, ?_⟩
  cases t with
  | true => rw [if_pos rfl] at q ⊢; exact k _ (.bl true) m1 G1 H1 s1 c1 rfl q
  | false => rw [if_neg Bool.false_ne_true] at q ⊢; exact q G1 σ H1 (s.trans s1) (r.sub s1) c1 Q' (k.sub s1)
theorem we_not (h : WE B a ρ m fun z m1 => ∃ t, z = .bl t ∧ Q (.bl (!t)) m1) : WE B (.UnaryOp .Not a pos) ρ m Q := fun G σ H s r c Q' k => by
  refine teX_of (pe_not (peX a)) ?_
  refine h G σ H s r c _ fun v d m1 G1 H1 s1 c1 r1 q => ?_
  obtain ⟨t, rfl, q⟩ := q
  exact ⟨t, r1, k _ (.bl (!t)) m1 G1 H1 s1 c1 rfl q⟩
theorem wa_nil {QL : List D → Mem → Prop} (q : QL [] m) : WA B [] ρ m QL := fun G σ H s r c Q' k => taX_of pa_nil (k [] [] m G H (Sub.refl G) c rfl q)
theorem wa_cons {QL : List D → Mem → Prop} (h : WE B e ρ m fun d m1 => WA B es ρ m1 fun l m2 => QL (d :: l) m2) (hs : starEach (e :: es) B.X.env = (false, eval e B.X.env) :: starEach es B.X.env) : WA B (e :: es) ρ m QL := fun G σ H s r c Q' k => by
  refine taX_of (pa_cons (peX e) (paX es) hs) ?_
  refine h G σ H s r c _ fun v d m1 G1 H1 s1 c1 r1 h1 => ?_
  refine h1 G1 σ H1 (s.trans s1) (r.sub s1) c1 _ fun vs ds m2 G2 H2 s2 c2 r2 q => ?_
  exact k (v :: vs) (d :: ds) m2 G2 H2 (s1.trans s2) c2 ⟨v, vs, rfl, Rep.sub s2 _ _ r1, r2⟩ q
theorem reps_len {K : PySem.W.Frag} {G : Hp} : ∀ {l : List D} {xs : List V}, Reps K G l xs → xs.length = l.length
  | [], _, h => by subst h; rfl
  | _ :: _, _, ⟨_, _, e, _, r⟩ => by subst e; simp [reps_len r]
theorem we_tup {x1} (h : WA B es ρ m fun l m1 => l.length ≤ sizeLine ∧ Q (.tup l) m1) : WE B (.Tuple es x1 pos) ρ m Q := fun G σ H s r c Q' k => by
  refine teX_of (pe_tup (paX es)) ?_
  refine h G σ H s r c _ fun vs ds m1 G1 H1 s1 c1 r1 q => ?_
  refine ⟨by rw [reps_len r1]; exact q.1, fun p hp => ?_⟩
  exact k (.ref p) (.tup ds) m1 _ _ (s1.trans (sub_upd (c1.none hp).1)) (c1.new hp) ⟨p, vs, rfl, SqT.of upd_same, Reps.sub (sub_upd (c1.none hp).1) _ _ r1⟩ q.2
theorem we_lst (h : WA B es ρ m fun l m1 => l.length ≤ sizeLine ∧ Q (.lst l) m1) : WE B (.List es pos) ρ m Q := fun G σ H s r c Q' k => by
  refine teX_of (pe_lst (paX es)) ?_
  refine h G σ H s r c _ fun vs ds m1 G1 H1 s1 c1 r1 q => ?_
  refine ⟨by rw [reps_len r1]; exact q.1, fun p hp => ?_⟩
  exact k (.ref p) (.lst ds) m1 _ _ (s1.trans (sub_upd (c1.none hp).1)) (c1.new hp) ⟨p, vs, rfl, SqL.of upd_same, Reps.sub (sub_upd (c1.none hp).1) _ _ r1⟩ q.2
theorem we_lstM (h : WA B es ρ m fun l m1 => l.length ≤ sizeLine ∧ ∀ p, m1 p = none → Q (.ref p) (mset m1 p (.lst l))) : WE B (.List es pos) ρ m Q := fun G σ H s r c Q' k => by
  refine teX_of (pe_lst (paX es)) ?_
  refine h G σ H s r c _ fun vs ds m1 G1 H1 s1 c1 r1 q => ?_
  refine ⟨by rw [reps_len r1]; exact q.1, fun p hp => ?_⟩
  exact k (.ref p) (.ref p) _ G1 _ s1 (c1.newM (u := .lst ds) hp ⟨vs, rfl, r1⟩) rfl (q.2 p (c1.none hp).2)
theorem WE.mono {Q2 : D → Mem → Prop} (h : WE B e ρ m Q2) (i : ∀ d m', Q2 d m' → Q d m') : WE B e ρ m Q := fun G σ H s r c Q' k => h G σ H s r c Q' fun v d m1 G1 H1 s1 c1 r1 q => k v d m1 G1 H1 s1 c1 r1 (i d m1 q)
def Fz (Q : D → Mem → Prop) (d : D) (m : Mem) : Prop := Q d m ∨ ∃ p l, d = .ref p ∧ m p = some (.lst l) ∧ Q (.lst l) (mdel m p)
theorem fz_ok {K : PySem.W.Frag} {G H : Hp} {Q : D → Mem → Prop} {Q' : VK} (k : VP K G Q Q') : VP K G (Fz Q) Q' := fun v d m1 G1 H1 s1 c1 r1 q => by
  rcases q with q | ⟨p, l, rfl, hp, q⟩
  · exact k v d m1 G1 H1 s1 c1 r1 q
  · obtain ⟨o, h1, h2, h3, h4⟩ := c1.freeze hp
    obtain ⟨xs, rfl, h2⟩ := h2
    exact k v (.lst l) _ _ H1 (s1.trans h3) h4 ⟨p, xs, r1, SqL.of upd_same, Reps.sub h3 _ _ h2⟩ q
theorem we_fz (h : WE B e ρ m (Fz Q)) : WE B e ρ m Q := fun G σ H s r c Q' k => h G σ H s r c Q' (fz_ok (H := H) k)
end
end Pd
namespace Pd
open PySem PySem.Spec PyProof.Rows L2
def tgX (X : Cx) (e : Expr) : TG := fun v σ H Q => ∀ pins s u, Inv X pins σ H s → RelV v u → wpAny (model X.prog X.w) X.A (assign e X.env u) (fun _ s' => ∃ σ' H', Inv X pins σ' H' s' ∧ Q σ' H') X.xe s
def tgsX (X : Cx) (es : List Expr) : TGs := fun vs σ H Q => ∀ pins s us, Inv X pins σ H s → Vals vs us → wpAny (model X.prog X.w) X.A (assignInOrder ((assignEach es X.env).map (·.2)) us) (fun _ s' => ∃ σ' H', Inv X pins σ' H' s' ∧ Q σ' H') X.xe s
section
variable {X : Cx}
theorem pgX (e : Expr) : PG X e (tgX X e) := ⟨fun pins s σ H v u Q I r h => h pins s u I r⟩
theorem pgsX (es : List Expr) : PGs X es (tgsX X es) := ⟨fun pins s σ H vs us Q I r h => h pins s us I r⟩
theorem tgX_of {e : Expr} {t : TG} (h : PG X e t) {v : V} {σ : L2.St} {H : Hp} {Q : L2.St → Hp → Prop} (q : t v σ H Q) : tgX X e v σ H Q := fun pins s u I r => h.run pins s σ H v u Q I r q
theorem tgsX_of {e : List Expr} {t : TGs} (h : PGs X e t) {v : List V} {σ : L2.St} {H : Hp} {Q : L2.St → Hp → Prop} (q : t v σ H Q) : tgsX X e v σ H Q := fun pins s u I r => h.run pins s σ H v u Q I r q
end
section
variable (B : Bx)
def WG (tg : Expr) (d : D) (ρ : DE) (m : Mem) (N : DE → Mem → Prop) : Prop := ∀ G σ H v, Sub B.G0 G → RepE B.X.K B.X.N.length G σ ρ → Cur B.X.K G m H → Rep B.X.K G d v → ∀ N' : L2.St → Hp → Prop, NP B.X.K B.X.N.length G N N' → tgX B.X tg v σ H N'
def WGs (tgs : List Expr) (ds : List D) (ρ : DE) (m : Mem) (N : DE → Mem → Prop) : Prop := ∀ G σ H vs, Sub B.G0 G → RepE B.X.K B.X.N.length G σ ρ → Cur B.X.K G m H → Reps B.X.K G ds vs → ∀ N' : L2.St → Hp → Prop, NP B.X.K B.X.N.length G N N' → tgsX B.X tgs vs σ H N'
abbrev Pss : Prop := PassesOwn (model B.X.prog B.X.w) B.X.A B.X.env B.X.xe
end
section
variable {B : Bx} {a b c e tg : Expr} {es : List Expr} {ρ : DE} {m : Mem} {Q : D → Mem → Prop} {N : DE → Mem → Prop} {R : RR} {pos p2 : Pos} {st : Stmt} {body rest orelse : List Stmt}
theorem wg_name (i : Nat) {x : Str} {d : D} (hN : B.X.N.Nodup) (hi : B.X.N[i]? = some x) (hx : Loc B.X.env.scope x) (hf : B.X.fn x = true ∨ B.X.env.scope.names.lookup x = some .local) (q : N ((i, d) :: ρ) m) : WG B (.Name x pos) d ρ m N := fun G σ H v s r c rd N' k =>
  tgX_of (pg_name hN hi hx hf) (k _ _ m G H (Sub.refl G) (r.set rd i (ix_lt hi)) c q)
theorem wgs_nil (q : N ρ m) : WGs B [] [] ρ m N := fun G σ H vs s r c rd N' k => by
  obtain rfl : vs = [] := rd
  exact tgsX_of pgs_nil ⟨rfl, k _ _ m G H (Sub.refl G) r c q⟩
theorem wgs_cons {d : D} {ds : List D} (h : WG B e d ρ m fun ρ1 m1 => WGs B es ds ρ1 m1 N) (hs : (assignEach (e :: es) B.X.env).map (·.2) = assign e B.X.env :: (assignEach es B.X.env).map (·.2)) : WGs B (e :: es) (d :: ds) ρ m N := fun G σ H vs s r c rd N' k => by
  obtain ⟨v, vs, rfl, r1, r2⟩ := rd
  refine tgsX_of (pgs_cons (pgX e) (pgsX es) hs) ⟨v, vs, rfl, ?_⟩
  refine h G σ H v s r c r1 _ fun σ1 ρ1 m1 G1 H1 s1 re1 c1 q => ?_
  exact q G1 σ1 H1 vs (s.trans s1) re1 c1 (Reps.sub s1 _ _ r2) N' (k.sub s1)
theorem wg_tup {ds : List D} {n k0 : Nat} (hc : B.X.calm = true) (h : WGs B es ds ρ m N) (hl : ds.length = n) (hn : (assignEach es B.X.env).length = n) (hst : (assignEach es B.X.env).findIdx? (·.1) = none) : WG B (.Tuple es k0 pos) (.tup ds) ρ m N := fun G σ H v s r c rd N' k => by
  obtain ⟨p, xs, rfl, hq, rx⟩ := rd
  exact tgX_of (pg_tup hc (pgsX es) hn hst) ⟨p, xs, rfl, SqT.sub c.ex hq, (reps_len rx).trans hl, h G σ H xs s r c rx N' k⟩
theorem wss_nil (q : R.nx ρ m) : WSs B [] ρ m R := fun G σ H s r c D k => tssX_of pss_nil (k.nx σ ρ m G H (Sub.refl G) r c q)
theorem wss_cons (h : WS B st ρ m { R with nx := fun ρ1 m1 => WSs B rest ρ1 m1 R }) : WSs B (st :: rest) ρ m R := fun G σ H s r c D k => by
  refine tssX_of (pss_cons (psX st) (pssX rest)) ?_
  refine h G σ H s r c { D with nx := tssX B.X rest D } ⟨fun σ1 ρ1 m1 G1 H1 s1 r1 c1 q => ?_, k.rt, k.bk, k.ct⟩
  exact q G1 σ1 H1 (s.trans s1) r1 c1 D (k.sub s1)
theorem ws_pass (q : R.nx ρ m) : WS B (.Pass pos) ρ m R := fun G σ H s r c D k => tsX_of ps_pass (k.nx σ ρ m G H (Sub.refl G) r c q)
theorem ws_break (q : R.bk ρ m) : WS B (.Break pos) ρ m R := fun G σ H s r c D k => tsX_of ps_break (k.bk σ ρ m G H (Sub.refl G) r c q)
theorem ws_continue (q : R.ct ρ m) : WS B (.Continue pos) ρ m R := fun G σ H s r c D k => tsX_of ps_continue (k.ct σ ρ m G H (Sub.refl G) r c q)
theorem ws_expr (h : WE B e ρ m fun _ m1 => R.nx ρ m1) (hs : swapsWith e none pos.line B.X.env = pure false) : WS B (.Expr e pos) ρ m R := fun G σ H s r c D k => by
  refine tsX_of (ps_expr (peX e) hs) ?_
  exact h G σ H s r c _ fun v d m1 G1 H1 s1 c1 r1 q => k.nx σ ρ m1 G1 H1 s1 (r.sub s1) c1 q
theorem ws_ret (h : WE B e ρ m R.rt) : WS B (.Return (some e) pos) ρ m R := fun G σ H s r c D k => by
  refine tsX_of (ps_ret (peX e)) ?_
  exact h G σ H s r c _ k.rt
theorem ws_retN (q : R.rt .non m) : WS B (.Return none pos) ρ m R := fun G σ H s r c D k => tsX_of ps_retN (k.rt .non .non m G H (Sub.refl G) c rfl q)
theorem ws_if {orelse : List Stmt} (h : WT B c ρ m fun k m1 => if k = true then WSs B body ρ m1 R else WSs B orelse ρ m1 R) : WS B (.If c body orelse pos) ρ m R := fun G σ H s r cu D k => by
  refine tsX_of (ps_if (ptX c) (pssX body) (pssX orelse)) ?_
  refine h G σ H s r cu _ fun t m1 G1 H1 s1 c1 q => ?_
  cases t with
  | true => rw [if_pos rfl] at q ⊢; exact q G1 σ H1 (s.trans s1) (r.sub s1) c1 D (k.sub s1)
  | false => rw [if_neg Bool.false_ne_true] at q ⊢; exact q G1 σ H1 (s.trans s1) (r.sub s1) c1 D (k.sub s1)
theorem ws_set (i : Nat) {x : Str} {pos' : Pos} (hN : B.X.N.Nodup) (hi : B.X.N[i]? = some x) (hx : Loc B.X.env.scope x) (h : WE B e ρ m fun d m1 => R.nx ((i, d) :: ρ) m1) (hs : swapsWith e (some (.Name x pos')) pos.line B.X.env = pure false) (hf : B.X.fn x = true ∨ B.X.env.scope.names.lookup x = some .local) :
    WS B (.Assign [.Name x pos'] e pos) ρ m R := fun G σ H s r c D k => by
  refine tsX_of (ps_set hN hi hx (peX e) hs hf) ?_
  exact h G σ H s r c _ fun v d m1 G1 H1 s1 c1 r1 q => k.nx _ _ m1 G1 H1 s1 ((r.sub s1).set r1 i (ix_lt hi)) c1 q
theorem ws_asg (h : WE B e ρ m fun d m1 => WG B tg d ρ m1 R.nx) (hs : swapsWithSole [tg] e pos.line B.X.env = pure false) (hw : swappedStores [tg] e B.X.env = pure none) (h1 : (assignEach [tg] B.X.env).map (·.2) = [assign tg B.X.env]) : WS B (.Assign [tg] e pos) ρ m R := fun G σ H s r c D k => by
  refine tsX_of (ps_asg (peX e) (pgX tg) hs hw h1) ?_
  refine h G σ H s r c _ fun v d m1 G1 H1 s1 c1 r1 q => ?_
  exact q G1 σ H1 v (s.trans s1) (r.sub s1) c1 r1 _ (k.nx.sub s1)
theorem ws_par (i j : Nat) {x y : Str} {px py pt : Pos} {kt k2 pt2} (hc : B.X.calm = true) (hN : B.X.N.Nodup) (hi : B.X.N[i]? = some x) (hj : B.X.N[j]? = some y) (hij : i ≠ j)
    (hx : B.X.env.scope.names.lookup x = some .local) (hy : B.X.env.scope.names.lookup y = some .local)
    (h : WE B a ρ m fun d m1 => WE B b ρ m1 fun d2 m2 => R.nx ((j, d2) :: (i, d) :: ρ) m2)
    (hw : swappedStores [.Tuple [.Name x px, .Name y py] kt pt] (.Tuple [a, b] k2 pt2) B.X.env = pure (some [x, y]))
    (hs : swapsWithSole [.Tuple [.Name x px, .Name y py] kt pt] (.Tuple [a, b] k2 pt2) pos.line B.X.env = pure false)
    (h1 : starEach [a, b] B.X.env = (false, eval a B.X.env) :: starEach [b] B.X.env) (h2 : starEach [b] B.X.env = (false, eval b B.X.env) :: starEach [] B.X.env) :
    WS B (.Assign [.Tuple [.Name x px, .Name y py] kt pt] (.Tuple [a, b] k2 pt2) pos) ρ m R := fun G σ H s r c D k => by
  refine tsX_of (ps_par hc hN hi hj hij hx hy (pa_cons (peX a) (pa_cons (peX b) pa_nil h2) h1) hw hs) ?_
  refine h G σ H s r c _ fun v d m1 G1 H1 s1 c1 r1 q => ?_
  refine q G1 σ H1 (s.trans s1) (r.sub s1) c1 _ fun u d2 m2 G2 H2 s2 c2 r2 q2 => ?_
  exact ⟨v, u, rfl, k.nx _ _ m2 G2 H2 (s1.trans s2) (((r.sub (s1.trans s2)).set (Rep.sub s2 _ _ r1) i (ix_lt hi)).set r2 j (ix_lt hj)) c2 q2⟩
def forD (B : Bx) (tg : Expr) (body : List Stmt) (R : RR) : List D → DE → Mem → Prop
  | [], ρ, m => R.nx ρ m
  | d :: ds, ρ, m => WG B tg d ρ m fun ρ1 m1 => WSs B body ρ1 m1 { nx := forD B tg body R ds, rt := R.rt, bk := R.nx, ct := forD B tg body R ds }
theorem turn_ok {d : D} {ds : List D} (w : forD B tg body R (d :: ds) ρ m) {G : Hp} {σ : L2.St} {H : Hp} {v : V} {D : Ends} (s : Sub B.G0 G) (r : RepE B.X.K B.X.N.length G σ ρ) (cu : Cur B.X.K G m H) (rd : Rep B.X.K G d v) (k : FP B.X.K B.X.N.length G R D)
    (T : L2.St → Hp → Prop) (hT : NP B.X.K B.X.N.length G (forD B tg body R ds) T) :
    tgX B.X tg v σ H fun σ2 H2 => tssX B.X body { D with nx := T, ct := T, bk := D.nx } σ2 H2 := by
  refine w G σ H v s r cu rd _ fun σ1 ρ1 m1 G1 H1 s1 r1 c1 q => ?_
  exact q G1 σ1 H1 (s.trans s1) r1 c1 _ ⟨hT.sub s1, k.rt.sub s1, k.nx.sub s1, hT.sub s1⟩
theorem reps_get {K : PySem.W.Frag} {G : Hp} : ∀ {l : List D} {xs : List V} {i : Nat} {x : V}, Reps K G l xs → xs[i]? = some x → ∃ d, l[i]? = some d ∧ Rep K G d x
  | [], _, i, x, h, e => by subst h; simp at e
  | d :: _, _, 0, x, ⟨y, _, e1, r1, _⟩, e => by subst e1; simp at e; subst e; exact ⟨d, rfl, r1⟩
  | _ :: _, _, i + 1, x, ⟨_, _, e1, _, r2⟩, e => by
    subst e1
    obtain ⟨d, a, b⟩ := reps_get (i := i) (x := x) r2 (by simpa using e)
    exact ⟨d, by simpa using a, b⟩
theorem reps_get' {K : PySem.W.Frag} {G : Hp} {l : List D} {xs : List V} {i : Nat} {d : D} (r : Reps K G l xs) (e : l[i]? = some d) : ∃ x, xs[i]? = some x ∧ Rep K G d x := by
  have hl := reps_len r
  have hi : i < l.length := (List.getElem?_eq_some_iff.mp e).1
  have hx : xs[i]? = some xs[i] := List.getElem?_eq_getElem (by omega)
  obtain ⟨d', a, b⟩ := reps_get r hx
  rw [e] at a; cases a
  exact ⟨_, hx, b⟩
theorem drop_get {α : Type} {l : List α} {i : Nat} {d : α} (e : l[i]? = some d) : l.drop i = d :: l.drop (i + 1) := by
  obtain ⟨h, e⟩ := List.getElem?_eq_some_iff.mp e
  rw [List.drop_eq_getElem_cons h, e]
theorem ws_for_list {ds : List D} (hp : Pss B) (hc : B.X.calm = true) (h : WE B e ρ m fun d m1 => ∃ ds, d = .lst ds ∧ forD B tg body R ds ρ m1)
    (hs : ∀ x, foldedSetIterable e B.X.env x = pure x) : WS B (.For tg e body [] pos) ρ m R := fun G σ H s r c D k => by
  refine tsX_of (ps_for hp hc (pi_list (peX e)) (pgX tg) (pssX body) hs) ?_
  refine h G σ H s r c _ fun v d m1 G1 H1 s1 c1 r1 q => ?_
  obtain ⟨ds, rfl, q⟩ := q
  obtain ⟨p, xs, rfl, hq, rx⟩ := r1
  refine ⟨p, rfl, ⟨xs, SqL.sub c1.ex hq⟩, for_list (K := B.X.K) (a := p) (xs := xs) (fun i σ' H' => ∃ ρ' m' G', Sub G1 G' ∧ RepE B.X.K B.X.N.length G' σ' ρ' ∧ Cur B.X.K G' m' H' ∧ forD B tg body R (ds.drop i) ρ' m')
    ⟨ρ, m1, G1, Sub.refl _, r.sub s1, c1, by rw [List.drop_zero]; exact q⟩ (fun i σ' H' _ ⟨_, _, _, s2, _, c2, _⟩ => SqL.sub (s2.trans c2.ex) hq) (fun i x σ' H' hx ⟨ρ', m', G', s2, r2, c2, w⟩ => ?_) fun σ' H' ⟨ρ', m', G', s2, r2, c2, w⟩ => ?_⟩
  · obtain ⟨d, hd, rd⟩ := reps_get rx hx
    rw [drop_get hd] at w
    exact turn_ok w ((s.trans s1).trans s2) r2 c2 (Rep.sub s2 _ _ rd) (k.sub (s1.trans s2)) _ fun σ3 ρ3 m3 G3 H3 s3 r3 c3 w3 => ⟨ρ3, m3, G3, s2.trans s3, r3, c3, w3⟩
  · rw [reps_len rx, List.drop_length] at w
    exact k.nx σ' ρ' m' G' H' (s1.trans s2) r2 c2 w
theorem ws_for_tup {ds : List D} (hp : Pss B) (hc : B.X.calm = true) (h : WE B e ρ m fun d m1 => ∃ ds, d = .tup ds ∧ forD B tg body R ds ρ m1)
    (hs : ∀ x, foldedSetIterable e B.X.env x = pure x) : WS B (.For tg e body [] pos) ρ m R := fun G σ H s r c D k => by
  refine tsX_of (ps_for hp hc (pi_tup (peX e)) (pgX tg) (pssX body) hs) ?_
  refine h G σ H s r c _ fun v d m1 G1 H1 s1 c1 r1 q => ?_
  obtain ⟨ds, rfl, q⟩ := q
  obtain ⟨p, xs, rfl, hq, rx⟩ := r1
  refine ⟨p, rfl, ⟨xs, SqT.sub c1.ex hq⟩, for_tup (K := B.X.K) (a := p) (xs := xs) (fun i σ' H' => ∃ ρ' m' G', Sub G1 G' ∧ RepE B.X.K B.X.N.length G' σ' ρ' ∧ Cur B.X.K G' m' H' ∧ forD B tg body R (ds.drop i) ρ' m')
    ⟨ρ, m1, G1, Sub.refl _, r.sub s1, c1, by rw [List.drop_zero]; exact q⟩ (fun i σ' H' _ ⟨_, _, _, s2, _, c2, _⟩ => SqT.sub (s2.trans c2.ex) hq) (fun i x σ' H' hx ⟨ρ', m', G', s2, r2, c2, w⟩ => ?_) fun σ' H' ⟨ρ', m', G', s2, r2, c2, w⟩ => ?_⟩
  · obtain ⟨d, hd, rd⟩ := reps_get rx hx
    rw [drop_get hd] at w
    exact turn_ok w ((s.trans s1).trans s2) r2 c2 (Rep.sub s2 _ _ rd) (k.sub (s1.trans s2)) _ fun σ3 ρ3 m3 G3 H3 s3 r3 c3 w3 => ⟨ρ3, m3, G3, s2.trans s3, r3, c3, w3⟩
  · rw [reps_len rx, List.drop_length] at w
    exact k.nx σ' ρ' m' G' H' (s1.trans s2) r2 c2 w
def rngD (lo : Int) (n : Nat) : List D := (List.range n).map fun i => .int (lo + (i : Nat))
theorem rngD_get {lo : Int} {n i : Nat} (h : i < n) : (rngD lo n)[i]? = some (.int (lo + (i : Nat))) := by simp [rngD, h]
theorem rngD_len {lo : Int} {n : Nat} : (rngD lo n).length = n := by simp [rngD]
theorem ws_for_range1 {p : Pos} (hp : Pss B) (hc : B.X.calm = true) (hg : Gl B.X "range") (hm : B.X.mg "range" = none)
    (h : WE B a ρ m fun d m1 => ∃ j : Int, d = .int j ∧ -(2 ^ 62) ≤ j ∧ j < 2 ^ 62 ∧ forD B tg body R (rngD 0 j.toNat) ρ m1) (h1 : starEach [a] B.X.env = (false, eval a B.X.env) :: starEach [] B.X.env) (hs1 : starEach [a] B.X.env = [(false, eval a B.X.env)])
    (hs : ∀ x, foldedSetIterable (.Call (.Name "range" p) [a] [] p2) B.X.env x = pure x) : WS B (.For tg (.Call (.Name "range" p) [a] [] p2) body [] pos) ρ m R := fun G σ H s r c D k => by
  refine tsX_of (ps_for hp hc (pi_range1 hg hm (pa_cons (peX a) pa_nil h1) hs1) (pgX tg) (pssX body) hs) ?_
  refine h G σ H s r c _ fun v d m1 G1 H1 s1 c1 r1 q => ?_
  obtain ⟨j, rfl, b1, b2, q⟩ := q
  obtain rfl : v = .int j := r1
  refine ⟨j, rfl, b1, b2, for_range (lo := 0) (n := j.toNat) (fun i σ' H' => ∃ ρ' m' G', Sub G1 G' ∧ RepE B.X.K B.X.N.length G' σ' ρ' ∧ Cur B.X.K G' m' H' ∧ forD B tg body R ((rngD 0 j.toNat).drop i) ρ' m')
    ⟨ρ, m1, G1, Sub.refl _, r.sub s1, c1, by rw [List.drop_zero]; exact q⟩ (fun i σ' H' hx ⟨ρ', m', G', s2, r2, c2, w⟩ => ?_) fun σ' H' ⟨ρ', m', G', s2, r2, c2, w⟩ => ?_⟩
  · rw [drop_get (rngD_get hx)] at w
    exact turn_ok w ((s.trans s1).trans s2) r2 c2 (show Rep B.X.K G' (.int (0 + (i : Nat))) (.int (0 + (i : Nat))) from rfl) (k.sub (s1.trans s2)) _ fun σ3 ρ3 m3 G3 H3 s3 r3 c3 w3 => ⟨ρ3, m3, G3, s2.trans s3, r3, c3, w3⟩
  · have e : (rngD 0 j.toNat).drop j.toNat = [] := List.drop_of_length_le (by rw [rngD_len]; exact Nat.le_refl _)
    rw [e] at w
    exact k.nx σ' ρ' m' G' H' (s1.trans s2) r2 c2 w
theorem ws_while (W : Nat → DE → Mem → Prop) (hp : Pss B) (h0 : ∃ n, W n ρ m)
    (h : ∀ n ρ1 m1, W n ρ1 m1 → WT B c ρ1 m1 fun k m2 => if k = true then WSs B body ρ1 m2 { nx := fun ρ3 m3 => ∃ n', n' < n ∧ W n' ρ3 m3, rt := R.rt, bk := R.nx, ct := fun ρ3 m3 => ∃ n', n' < n ∧ W n' ρ3 m3 } else R.nx ρ1 m2) :
    WS B (.While c body [] pos) ρ m R := fun G σ H s r cu D k => by
  refine tsX_of (ps_while hp (ptX c) (pssX body)) ?_
  obtain ⟨n0, w0⟩ := h0
  refine ⟨fun n σ' H' => ∃ ρ' m' G', Sub G G' ∧ RepE B.X.K B.X.N.length G' σ' ρ' ∧ Cur B.X.K G' m' H' ∧ W n ρ' m', ⟨n0, ρ, m, G, Sub.refl _, r, cu, w0⟩, ?_⟩
  rintro n σ' H' ⟨ρ', m', G', s', r', c', w⟩
  refine h n ρ' m' w G' σ' H' (s.trans s') r' c' _ fun t m2 G2 H2 s2 c2 q => ?_
  cases t with
  | true =>
    rw [if_pos rfl] at q ⊢
    refine ⟨fun σ3 H3 => ∃ n' ρ3 m3 G3, n' < n ∧ Sub G G3 ∧ RepE B.X.K B.X.N.length G3 σ3 ρ3 ∧ Cur B.X.K G3 m3 H3 ∧ W n' ρ3 m3, fun σ3 H3 ⟨n', ρ3, m3, G3, l, s3, r3, c3, w3⟩ => ⟨n', l, ρ3, m3, G3, s3, r3, c3, w3⟩, ?_⟩
    exact q G2 σ' H2 ((s.trans s').trans s2) (r'.sub s2) c2 _ ⟨fun σ3 ρ3 m3 G3 H3 s3 r3 c3 ⟨n', l, w3⟩ => ⟨n', ρ3, m3, G3, l, (s'.trans s2).trans s3, r3, c3, w3⟩, k.rt.sub (s'.trans s2), k.nx.sub (s'.trans s2), fun σ3 ρ3 m3 G3 H3 s3 r3 c3 ⟨n', l, w3⟩ => ⟨n', ρ3, m3, G3, l, (s'.trans s2).trans s3, r3, c3, w3⟩⟩
  | false =>
    rw [if_neg Bool.false_ne_true] at q ⊢
    exact k.nx σ' ρ' m2 G2 H2 (s'.trans s2) (r'.sub s2) c2 q
theorem WSs.env {ρ' : DE} (h : WSs B body ρ' m R) (k0 : ∀ i d, lk ρ' i = some d → lk ρ i = some d) : WSs B body ρ m R := fun G σ H s r c D k => h G σ H s (r.weak k0) c D k
theorem WS.env {ρ' : DE} (h : WS B st ρ' m R) (k0 : ∀ i d, lk ρ' i = some d → lk ρ i = some d) : WS B st ρ m R := fun G σ H s r c D k => h G σ H s (r.weak k0) c D k
theorem WSs.mono {R' : RR} (h : WSs B body ρ m R) (h1 : ∀ ρ m, R.nx ρ m → R'.nx ρ m) (h2 : ∀ d m, R.rt d m → R'.rt d m) (h3 : ∀ ρ m, R.bk ρ m → R'.bk ρ m) (h4 : ∀ ρ m, R.ct ρ m → R'.ct ρ m) : WSs B body ρ m R' := fun G σ H s r c D k =>
  h G σ H s r c D ⟨fun a b c d e f g i j => k.nx a b c d e f g i (h1 _ _ j), fun a b c d e f g i j => k.rt a b c d e f g i (h2 _ _ j), fun a b c d e f g i j => k.bk a b c d e f g i (h3 _ _ j), fun a b c d e f g i j => k.ct a b c d e f g i (h4 _ _ j)⟩
end
end Pd
namespace Pd
open PySem PySem.Spec PyProof.Rows L2
section
variable {B : Bx} {x y : D} {m : Mem} {Q : D → Mem → Prop} {f : Value → Value → Sem Value} {i j : Int} {d : D} {p : Addr} {l : List D}
theorem wb_of {r : R2} (o : OpR B.X f r) (h : ∀ G H v u, Cur B.X.K G m H → Rep B.X.K G x v → Rep B.X.K G y u → ∀ Q' : VK, VP B.X.K G Q Q' → r v u H Q') : WB B f x y m Q := fun G H v u s c r1 r2 Q' k => opX_of o (h G H v u c r1 r2 Q' k)
theorem wb_I {C : Int → Int → Prop} {g : Int → Int → V} {g' : Int → Int → D} (o : OpR B.X f (rI C g)) (hg : ∀ G i j, Rep B.X.K G (g' i j) (g i j)) (hc : C i j) (q : Q (g' i j) m) : WB B f (.int i) (.int j) m Q :=
  wb_of o fun G H v u c r1 r2 Q' k => ⟨i, j, r1, r2, hc, c.vp k (hg G i j) q⟩
theorem wb_I0 {g : Int → Int → V} {g' : Int → Int → D} (o : OpR B.X f (rI0 g)) (hg : ∀ G i j, Rep B.X.K G (g' i j) (g i j)) (q : Q (g' i j) m) : WB B f (.int i) (.int j) m Q :=
  wb_of o fun G H v u c r1 r2 Q' k => ⟨i, j, r1, r2, c.vp k (hg G i j) q⟩
theorem wb_add (q : Q (.int (i + j)) m) : WB B (binaryOp .Add) (.int i) (.int j) m Q := wb_I0 (g' := fun i j => .int (i + j)) op_add (fun _ _ _ => rfl) q
theorem wb_sub (q : Q (.int (i - j)) m) : WB B (binaryOp .Sub) (.int i) (.int j) m Q := wb_I0 (g' := fun i j => .int (i - j)) op_sub (fun _ _ _ => rfl) q
theorem op_mulX : OpR B.X (binaryOp .Mult) (rI IntMulOk fun i j => .int (i * j)) := opI fun _ _ _ _ _ _ _ hc q => mul_int q hc
theorem wb_mul (hc : IntMulOk i j) (q : Q (.int (i * j)) m) : WB B (binaryOp .Mult) (.int i) (.int j) m Q := wb_I (g' := fun i j => .int (i * j)) op_mulX (fun _ _ _ => rfl) hc q
theorem wb_mod (hc : 0 < j) (q : Q (.int (i % j)) m) : WB B (binaryOp .Mod) (.int i) (.int j) m Q := wb_I (g' := fun i j => .int (i % j)) op_mod (fun _ _ _ => rfl) hc q
def CDivX (_ j : Int) : Prop := 0 < j ∧ j.natAbs.log2 < 9000
theorem op_divX : OpR B.X (binaryOp .FloorDiv) (rI CDivX fun i j => .int (i / j)) := opI fun i j _ _ _ _ _ hc q => by
  have h1 : (0 : Int) < j := hc.1
  exact floordiv_int (by omega) (by rw [Int.fdiv_eq_ediv_of_nonneg i (by omega)]; exact q) (.inl (PyProof.noPylong_of_log2 hc.2))
theorem wb_div (hc : CDivX i j) (q : Q (.int (i / j)) m) : WB B (binaryOp .FloorDiv) (.int i) (.int j) m Q := wb_I (g' := fun i j => .int (i / j)) op_divX (fun _ _ _ => rfl) hc q
def CPowX (i j : Int) : Prop := 0 ≤ j ∧ (Builtin.Int.intBits i : Int) * j ≤ 2 ^ 27
theorem op_powX : OpR B.X (binaryOp .Pow) (rI CPowX fun i j => .int (i ^ j.toNat)) := opI fun _ _ _ _ _ _ _ hc q => pow_int hc.1 hc.2 q
theorem wb_pow (hc : CPowX i j) (q : Q (.int (i ^ j.toNat)) m) : WB B (binaryOp .Pow) (.int i) (.int j) m Q := wb_I (g' := fun i j => .int (i ^ j.toNat)) op_powX (fun _ _ _ => rfl) hc q
theorem wb_lt (q : Q (.bl (decide (i < j))) m) : WB B (compareOp .Lt) (.int i) (.int j) m Q := wb_I0 (g' := fun i j => .bl (decide (i < j))) op_lt (fun _ _ _ => rfl) q
theorem wb_le (q : Q (.bl (decide (i ≤ j))) m) : WB B (compareOp .LtE) (.int i) (.int j) m Q := wb_I0 (g' := fun i j => .bl (decide (i ≤ j))) op_le (fun _ _ _ => rfl) q
theorem wb_gt (q : Q (.bl (decide (j < i))) m) : WB B (compareOp .Gt) (.int i) (.int j) m Q := wb_I0 (g' := fun i j => .bl (decide (j < i))) op_gt (fun _ _ _ => rfl) q
theorem wb_ge (q : Q (.bl (decide (j ≤ i))) m) : WB B (compareOp .GtE) (.int i) (.int j) m Q := wb_I0 (g' := fun i j => .bl (decide (j ≤ i))) op_ge (fun _ _ _ => rfl) q
theorem wb_eqI (q : Q (.bl (decide (i = j))) m) : WB B (compareOp .Eq) (.int i) (.int j) m Q := wb_of op_eq fun G H v u c r1 r2 Q' k => by
  obtain rfl : v = .int i := r1; obtain rfl : u = .int j := r2
  refine ⟨rfl, ?_⟩
  refine c.vp k (d := .bl (decide (i = j))) ?_ q
  show V.bl _ = V.bl _
  congr 1
  exact decide_eq_decide.mpr ⟨fun h => by injection h, fun h => by rw [h]⟩
theorem wb_neI (q : Q (.bl (!decide (i = j))) m) : WB B (compareOp .NotEq) (.int i) (.int j) m Q := wb_of op_ne fun G H v u c r1 r2 Q' k => by
  obtain rfl : v = .int i := r1; obtain rfl : u = .int j := r2
  refine ⟨rfl, ?_⟩
  refine c.vp k (d := .bl (!decide (i = j))) ?_ q
  show V.bl _ = V.bl _
  congr 2
  exact decide_eq_decide.mpr ⟨fun h => by injection h, fun h => by rw [h]⟩
theorem wb_eqB {i j : Bool} (q : Q (.bl (decide (i = j))) m) : WB B (compareOp .Eq) (.bl i) (.bl j) m Q := wb_of op_eq fun G H v u c r1 r2 Q' k => by
  obtain rfl : v = .bl i := r1; obtain rfl : u = .bl j := r2
  refine ⟨rfl, ?_⟩
  refine c.vp k (d := .bl (decide (i = j))) ?_ q
  show V.bl _ = V.bl _
  congr 1
  exact decide_eq_decide.mpr ⟨fun h => by injection h, fun h => by rw [h]⟩
theorem wb_neB {i j : Bool} (q : Q (.bl (!decide (i = j))) m) : WB B (compareOp .NotEq) (.bl i) (.bl j) m Q := wb_of op_ne fun G H v u c r1 r2 Q' k => by
  obtain rfl : v = .bl i := r1; obtain rfl : u = .bl j := r2
  refine ⟨rfl, ?_⟩
  refine c.vp k (d := .bl (!decide (i = j))) ?_ q
  show V.bl _ = V.bl _
  congr 2
  exact decide_eq_decide.mpr ⟨fun h => by injection h, fun h => by rw [h]⟩
theorem wb_eqS {i j : Str} (q : Q (.bl (decide (i = j))) m) : WB B (compareOp .Eq) (.str i) (.str j) m Q := wb_of op_eq fun G H v u c r1 r2 Q' k => by
  obtain rfl : v = .str i := r1; obtain rfl : u = .str j := r2
  refine ⟨rfl, ?_⟩
  refine c.vp k (d := .bl (decide (i = j))) ?_ q
  show V.bl _ = V.bl _
  congr 1
  exact decide_eq_decide.mpr ⟨fun h => by injection h, fun h => by rw [h]⟩
theorem wb_neS {i j : Str} (q : Q (.bl (!decide (i = j))) m) : WB B (compareOp .NotEq) (.str i) (.str j) m Q := wb_of op_ne fun G H v u c r1 r2 Q' k => by
  obtain rfl : v = .str i := r1; obtain rfl : u = .str j := r2
  refine ⟨rfl, ?_⟩
  refine c.vp k (d := .bl (!decide (i = j))) ?_ q
  show V.bl _ = V.bl _
  congr 2
  exact decide_eq_decide.mpr ⟨fun h => by injection h, fun h => by rw [h]⟩
def isN : D → Bool
  | .non => true
  | _ => false
theorem rep_isN {K : PySem.W.Frag} {G : Hp} {d : D} {v : V} (r : Rep K G d v) : decide (v = V.non) = isN d := by
  cases d with
  | non => obtain rfl : v = .non := r; rfl
  | bl b => obtain rfl : v = .bl b := r; rfl
  | int b => obtain rfl : v = .int b := r; rfl
  | str b => obtain rfl : v = .str b := r; rfl
  | ref b => obtain rfl : v = .ref b := r; rfl
  | ty b => obtain rfl : v = .ty b := r; rfl
  | tup b => obtain ⟨a, xs, rfl, _⟩ := r; rfl
  | lst b => obtain ⟨a, xs, rfl, _⟩ := r; rfl
  | ins b c => obtain ⟨a, dx, fs, rfl, _⟩ := r; rfl
theorem wb_is (q : Q (.bl (isN x)) m) : WB B (compareOp .Is) x .non m Q := wb_of op_isN fun G H v u c r1 r2 Q' k => ⟨r2, by rw [rep_isN r1]; exact c.vp k (d := .bl (isN x)) rfl q⟩
theorem wb_isnot (q : Q (.bl (!isN x)) m) : WB B (compareOp .IsNot) x .non m Q := wb_of op_notN fun G H v u c r1 r2 Q' k => ⟨r2, by rw [rep_isN r1]; exact c.vp k (d := .bl (!isN x)) rfl q⟩
theorem wu_neg (q : Q (.int (-i)) m) : WU B (unaryOp .USub) (.int i) m Q := fun G H v s c r Q' k => unX_of un_neg ⟨i, r, c.vp k (d := .int (-i)) rfl q⟩
end
section
variable (B : Bx)
def ixX (X : Cx) : R2 := fun x y H Q => ∀ value slice pins s σ v u, Inv X pins σ H s → RelV x v → RelV y u → subscripted slice false v u = operate [v, u] (getItem v u) → wpAny (model X.prog X.w) X.A (subscriptTail value slice v u) (EP X pins σ Q) X.xe s
def WI (x y : D) (m : Mem) (Q : D → Mem → Prop) : Prop := ∀ G H v u, Sub B.G0 G → Cur B.X.K G m H → Rep B.X.K G x v → Rep B.X.K G y u → ∀ Q' : VK, VP B.X.K G Q Q' → ixX B.X v u H Q'
end
theorem ixrX {X : Cx} : IxR X (ixX X) := fun value slice pins s σ H x y v u Q I rx ry h hs => h value slice pins s σ v u I rx ry hs
section
variable {B : Bx} {x y : D} {m : Mem} {Q : D → Mem → Prop} {i j : Int} {d : D} {p : Addr} {l : List D} {a b e o : Expr} {ρ : DE} {pos : Pos} {N : DE → Mem → Prop}
theorem we_ix (h : WE B a ρ m fun x m1 => WE B b ρ m1 fun y m2 => WI B x y m2 Q) (hs : PlainIx b) : WE B (.Subscript a b pos) ρ m Q := fun G σ H s r c Q' k => by
  refine teX_of (pe_ix ixrX (peX a) (peX b) hs) ?_
  refine h G σ H s r c _ fun v d m1 G1 H1 s1 c1 r1 h1 => ?_
  refine h1 G1 σ H1 (s.trans s1) (r.sub s1) c1 _ fun u d2 m2 G2 H2 s2 c2 r2 h2 => ?_
  exact h2 G2 H2 v u ((s.trans s1).trans s2) c2 (Rep.sub s2 _ _ r1) r2 Q' (k.sub (s1.trans s2))
theorem reps_at {K : PySem.W.Frag} {G : Hp} {l : List D} {xs : List V} (r : Reps K G l xs) (h : atI l i = some d) : ∃ v, atI xs i = some v ∧ Rep K G d v := by
  unfold atI at h ⊢
  rw [reps_len r]
  cases e : ixN l.length i with
  | none => rw [e] at h; cases h
  | some j =>
    rw [e] at h
    exact reps_get' r h
theorem wi_list (h : atI l i = some d) (q : Q d m) : WI B (.lst l) (.int i) m Q := fun G H v u s c r1 r2 Q' k => by
  obtain ⟨p, xs, rfl, hq, rx⟩ := r1
  obtain ⟨w, h1, h2⟩ := reps_at rx h
  intro value slice pins s' σ v' u' I rv ru hs
  exact ix_list value slice pins s' σ H _ _ v' u' Q' I rv ru ⟨p, xs, i, w, rfl, r2, SqL.sub c.ex hq, h1, c.vp k h2 q⟩ hs
theorem wi_tup (h : atI l i = some d) (q : Q d m) : WI B (.tup l) (.int i) m Q := fun G H v u s c r1 r2 Q' k => by
  obtain ⟨p, xs, rfl, hq, rx⟩ := r1
  obtain ⟨w, h1, h2⟩ := reps_at rx h
  intro value slice pins s' σ v' u' I rv ru hs
  exact ix_tup value slice pins s' σ H _ _ v' u' Q' I rv ru ⟨p, xs, i, w, rfl, r2, SqT.sub c.ex hq, h1, c.vp k h2 q⟩ hs
theorem wi_mut (hm : m p = some (.lst l)) (h : atI l i = some d) (q : Q d m) : WI B (.ref p) (.int i) m Q := fun G H v u s c r1 r2 Q' k => by
  obtain rfl : v = .ref p := r1
  obtain ⟨_, o, ho, xs, rfl, rx⟩ := c.mm p _ hm
  obtain ⟨w, h1, h2⟩ := reps_at rx h
  intro value slice pins s' σ v' u' I rv ru hs
  exact ix_list value slice pins s' σ H _ _ v' u' Q' I rv ru ⟨p, xs, i, w, rfl, r2, SqL.of ho, h1, c.vp k h2 q⟩ hs
theorem atI_in {l : List D} {i : Int} (h0 : 0 ≤ i) (h1 : i < l.length) : ∃ d, d ∈ l ∧ atI l i = some d ∧ l[i.toNat]? = some d := by
  have hj : i.toNat < l.length := by omega
  refine ⟨l[i.toNat], List.getElem_mem hj, ?_, List.getElem?_eq_getElem hj⟩
  have e : i = ((i.toNat : Nat) : Int) := by omega
  exact (congrArg (fun z => atI l z) e).trans (atI_nat (List.getElem?_eq_getElem hj))
theorem wg_sub (h : WE B o ρ m fun x m1 => WE B b ρ m1 fun y m2 => ∃ p l k j, x = .ref p ∧ y = .int k ∧ m2 p = some (.lst l) ∧ ixN l.length k = some j ∧ N ρ (mset m2 p (.lst (l.set j d))))
    (ha : ∀ v, assign (.Subscript o b pos) B.X.env v = (do
      let ov ← holding [v] (eval o B.X.env)
      let iv ← holding [v, ov] (eval b B.X.env)
      standAt pos
      holding [v, ov, iv] (setItem ov iv v)
      release [v, ov, iv] [])) : WG B (.Subscript o b pos) d ρ m N := fun G σ H v s r c rd N' k => by
  refine tgX_of (pg_sub (peX o) (peX b) set_list ha) ?_
  refine h G σ H s r c _ fun w x m1 G1 H1 s1 c1 r1 h1 => ?_
  refine h1 G1 σ H1 (s.trans s1) (r.sub s1) c1 _ fun u y m2 G2 H2 s2 c2 r2 h2 => ?_
  obtain ⟨p, l, i, j, rfl, rfl, hm, hj, q⟩ := h2
  obtain ⟨_, o', ho, xs, rfl, rx⟩ := c2.mm p _ hm
  refine ⟨p, xs, i, j, r1, r2, ho, by rw [reps_len rx]; exact hj, ?_⟩
  have rs : ∀ {l : List D} {xs : List V} (j : Nat), Reps B.X.K G2 l xs → Reps B.X.K G2 (l.set j d) (xs.set j v) := by
    intro l
    induction l with
    | nil => intro xs j h; obtain rfl : xs = [] := h; exact rfl
    | cons a l ih =>
      intro xs j h
      obtain ⟨x, t, rfl, ha, ht⟩ := h
      cases j with
      | zero => exact ⟨v, t, rfl, Rep.sub (s1.trans s2) _ _ rd, ht⟩
      | succ j => exact ⟨x, t.set j v, rfl, ha, ih j ht⟩
  exact k σ ρ _ G2 _ (s1.trans s2) (r.sub (s1.trans s2)) (c2.wr (u := .lst (l.set j d)) hm ⟨_, rfl, rs j rx⟩) q
end
abbrev XD := Addr → List (Str × D) → Mem → Prop
def noX : XD := fun _ _ _ => False
def XRep (K : PySem.W.Frag) (G H : Hp) (d : Option Addr) (l : List (Str × D)) : Prop := (d = none ∧ l = []) ∨ ∃ dd fs, d = some dd ∧ H dd = some (.xd fs) ∧ RepF K G l fs
def XP (K : PySem.W.Frag) (G : Hp) (Xd : XD) (E : XK) : Prop := ∀ C d l m' G' H', Sub G G' → Cur K G' m' H' → XRep K G' H' d l → Xd C l m' → E (.ref C) d H'
def XO (B : Bx) (σ : L2.St) (G : Hp) (Xd : XD) : Prop := ∃ W : WX, Takes B.X W ∧ ∀ C d l m' G' H', Sub G G' → Cur B.X.K G' m' H' → XRep B.X.K G' H' d l → Xd C l m' → W (.ref C) d σ H'
def XOK (B : Bx) (Xd : XD) : Prop := ∃ W : WX, Takes B.X W ∧ ∀ C d l m' G' H' σ, Sub B.G0 G' → Cur B.X.K G' m' H' → XRep B.X.K G' H' d l → Xd C l m' → W (.ref C) d σ H'
def XR (B : Bx) (ρ : DE) (Xd : XD) : Prop := ∀ G σ, Sub B.G0 G → RepE B.X.K B.X.N.length G σ ρ → XO B σ G Xd
theorem takes0' {X : Cx} : Takes X (fun _ _ _ _ => False) := fun _ _ x => by
  obtain ⟨_, _, _, _, _, _, _, _, _, _, _, _, _, _, _, _, z⟩ := x
  exact z.elim
theorem xok_no (B : Bx) : XOK B noX := ⟨_, takes0', fun _ _ _ _ _ _ _ _ _ _ z => z.elim⟩
theorem XOK.imp {B : Bx} {Xd Xd' : XD} (h : XOK B Xd) (i : ∀ C l m, Xd' C l m → Xd C l m) : XOK B Xd' := let ⟨W, t, k⟩ := h; ⟨W, t, fun C d l m' G' H' σ a b c e => k C d l m' G' H' σ a b c (i _ _ _ e)⟩
theorem XOK.xo {B : Bx} {Xd : XD} (h : XOK B Xd) {σ : L2.St} {G : Hp} (s : Sub B.G0 G) : XO B σ G Xd := let ⟨W, t, k⟩ := h; ⟨W, t, fun C d l m' G' H' a b c e => k C d l m' G' H' σ (s.trans a) b c e⟩
theorem XOK.xr {B : Bx} {Xd : XD} (h : XOK B Xd) {ρ : DE} : XR B ρ Xd := fun _ _ s _ => h.xo s
theorem XO.imp {B : Bx} {Xd Xd' : XD} {σ : L2.St} {G : Hp} (h : XO B σ G Xd) (i : ∀ C l m, Xd' C l m → Xd C l m) : XO B σ G Xd' := let ⟨W, t, k⟩ := h; ⟨W, t, fun C d l m' G' H' a b c e => k C d l m' G' H' a b c (i _ _ _ e)⟩
theorem XR.imp {B : Bx} {Xd Xd' : XD} {ρ : DE} (h : XR B ρ Xd) (i : ∀ C l m, Xd' C l m → Xd C l m) : XR B ρ Xd' := fun G σ s r => (h G σ s r).imp i
abbrev PD := List D → Mem → (D → Mem → Prop) → XD → Prop
def spD (K : PySem.W.Frag) (P : PD) : Sp := fun vs H Q E => ∃ G m ds Qd Xd, Cur K G m H ∧ Reps K G ds vs ∧ P ds m Qd Xd ∧ VP K G Qd Q ∧ XP K G Xd E
def Runs (B : Bx) (f : Value) (P : PD) : Prop := ∀ pins s σ H us vs ds m G Q Qd Xd, Inv B.X pins σ H s → Vals vs us → Sub B.G0 G → Cur B.X.K G m H → Reps B.X.K G ds vs → P ds m Qd Xd → VP B.X.K G Qd Q → XO B σ G Xd →
  wpAny (model B.X.prog B.X.w) B.X.A (call f us) (EP B.X pins σ Q) B.X.xe s
def RunsK (B : Bx) (f : Value) (n : Nat) (ks : List Str) (P : List D → PD) : Prop := ∀ pins s σ H us vs ws zs ds es m G Q Qd Xd, Inv B.X pins σ H s → Vals vs us → Vals zs ws → us.length = n → ws.length = ks.length → Sub B.G0 G → Cur B.X.K G m H → Reps B.X.K G ds vs → Reps B.X.K G es zs → P es ds m Qd Xd → VP B.X.K G Qd Q → XO B σ G Xd →
  wpAny (model B.X.prog B.X.w) B.X.A (call f us (ks.zip ws)) (EP B.X pins σ Q) B.X.xe s
def xeD (K : PySem.W.Frag) (G : Hp) (Xd : XD) : XK := fun cls d H' => ∃ C l m' G', cls = .ref C ∧ Sub G G' ∧ Cur K G' m' H' ∧ XRep K G' H' d l ∧ Xd C l m'
theorem xp_xeD (K : PySem.W.Frag) (G : Hp) (Xd : XD) : XP K G Xd (xeD K G Xd) := fun C d l m' G' H' h1 h2 h3 h4 => ⟨C, l, m', G', rfl, h1, h2, h3, h4⟩
theorem XO.pass {B : Bx} {σ : L2.St} {G : Hp} {Xd : XD} (h : XO B σ G Xd) : PassesAt (L2.CX B.X.prog B.X.w) B.X σ (xeD B.X.K G Xd) := fun pins H s e s' I c => by
  obtain ⟨W, tk, hW⟩ := h
  refine tk e s' (XE.of_call I (fun cls d H' z => ?_) c)
  obtain ⟨C, l, m', G', rfl, h1, h2, h3, h4⟩ := z
  exact hW C d l m' G' H' h1 h2 h3 h4
section
variable {X : Cx} {CX : CXT} {k : Nat} {f C : Addr} {fd : FuncData} {ps : List Str} {sp : Sp} {E : XK} {pins : List (Addr × Obj)} {σ : L2.St} {H : Hp} {s : Shared} {Q : VK} {us bs : List Value} {vs : List V} {kw : List (Str × Value)}
theorem run_fnA (F : FnOk X.prog X.w X.K X.mg X.base CX k f fd ps sp) (hr : Room k X.A) (hx : PassesAt CX X σ E) (I : Inv X pins σ H s) (hb : BindsTo s fd ⟨us, kw⟩ (ps.zip bs)) (r : Vals vs bs) (h : sp vs H Q E) :
    wpAny (model X.prog X.w) X.A (call (.ref f) us kw) (EP X pins σ Q) X.xe s :=
  wpAny_call (codeAny_mono (F.run X.A X.stack s H ⟨us, kw⟩ bs vs Q E hr I.env0 hb r h) fun r s' hq => match r, hq with
    | .error e, hq => hx pins H s e s' I hq
    | .ok (.ret u), hq => I.after hq
    | .ok .next, hq => hq.elim
    | .ok .brk, hq => hq.elim
    | .ok .cont, hq => hq.elim)
theorem run_mkA (M : Mk X.K C f) (F : FnOk X.prog X.w X.K X.mg X.base CX k f fd ps sp) (hr : Room (k + 1) X.A) (hx : PassesAt CX X σ E) (I : Inv X pins σ H s) (r : Vals vs bs)
    (hb : ∀ (s' : Shared) (x : Addr), X.K.In s'.heap → BindsTo s' fd ⟨.ref x :: us, kw⟩ (ps.zip (.ref x :: bs)))
    (h : ∀ x dx, H x = none → H dx = none → dx ≠ x → sp (.ref x :: vs) (upd (upd H dx (.own x)) x (.ins C dx [])) (fun v H2 => v = .non ∧ Q (.ref x) H2) E) :
    wpAny (model X.prog X.w) X.A (call (.ref C) us kw) (EP X pins σ Q) X.xe s := by
  have J := Inv.made (C := C) I
  have q0 := h (s.heap.objs.size + 1) s.heap.objs.size (I.hok.fresh (Nat.le_succ _)) (I.hok.fresh (Nat.le_refl _)) (Nat.ne_of_lt (Nat.lt_succ_self _))
  refine wpAny_call (make_map (f := f) I.kIn M.makes M.init (beq_iff_eq.mp M.fn) (codeAny_mono (F.run _ X.stack _ _ ⟨.ref (s.heap.objs.size + 1) :: us, kw⟩ (.ref (s.heap.objs.size + 1) :: bs) (.ref (s.heap.objs.size + 1) :: vs) _ _ (hr.make C us kw) (J.env0.make C us kw) (hb _ _ J.kIn) (.cons rfl r) q0) fun r s' hq => ?_))
  match r, hq with
  | .error e, hq => exact hx pins _ _ e s' J hq
  | .ok (.ret u), hq =>
    obtain ⟨v, H', J', rv, ev, q3⟩ := J.after hq
    subst ev
    exact ⟨rv, V.ref (s.heap.objs.size + 1), H', J', rfl, q3⟩
  | .ok .next, hq => exact hq.elim
  | .ok .brk, hq => exact hq.elim
  | .ok .cont, hq => exact hq.elim
end
theorem reps_app {K : PySem.W.Frag} {G : Hp} : ∀ {l l2 : List D} {xs ys : List V}, Reps K G l xs → Reps K G l2 ys → Reps K G (l ++ l2) (xs ++ ys)
  | [], _, _, _, h1, h2 => by obtain rfl := h1; exact h2
  | _ :: _, _, _, ys, ⟨x, t, e, ha, ht⟩, h2 => by subst e; exact ⟨x, t ++ ys, rfl, ha, reps_app ht h2⟩
theorem runs_fnD {B : Bx} {k : Nat} {f : Addr} {fd : FuncData} {ps : List Str} {P : PD} {dvs : List V} {dss : List Value} {dl : List D} (F : FnOk B.X.prog B.X.w B.X.K B.X.mg B.X.base (L2.CX B.X.prog B.X.w) k f fd ps (spD B.X.K P)) (hr : Room k B.X.A) (hb : Binds B.X.K fd ps dss) (hd : Vals dvs dss)
    (hdl : ∀ G, Sub B.G0 G → Reps B.X.K G dl dvs) : Runs B (.ref f) (fun ds => P (ds ++ dl)) := by
  intro pins s σ H us vs ds m G Q Qd Xd I rv s0 c rd hp kq hx
  have sp : spD B.X.K P (vs ++ dvs) H Q (xeD B.X.K G Xd) := ⟨G, m, ds ++ dl, Qd, Xd, c, reps_app rd (hdl G s0), hp, kq, xp_xeD _ _ _⟩
  have rr := rv.append hd
  exact run_fnA F hr hx.pass I (hb s us I.kIn (by rw [← rr.length]; exact F.len _ _ _ _ sp)) rr sp
theorem runs_fn {B : Bx} {k : Nat} {f : Addr} {fd : FuncData} {ps : List Str} {P : PD} (F : FnOk B.X.prog B.X.w B.X.K B.X.mg B.X.base (L2.CX B.X.prog B.X.w) k f fd ps (spD B.X.K P)) (hr : Room k B.X.A) (hb : Binds B.X.K fd ps []) : Runs B (.ref f) P := by
  have h := runs_fnD (dl := []) F hr hb .nil (fun G _ => rfl)
  simpa only [List.append_nil] using h
theorem runs_fnK {B : Bx} {k n : Nat} {f : Addr} {fd : FuncData} {ps ks : List Str} {P : PD} {g : List Value → List Value → List Value} {gV : List V → List V → List V} {gD : List D → List D → List D}
    (F : FnOk B.X.prog B.X.w B.X.K B.X.mg B.X.base (L2.CX B.X.prog B.X.w) k f fd ps (spD B.X.K P)) (hr : Room k B.X.A) (hb : KBn B.X.K fd ps n ks g gV)
    (hg : ∀ G ds es vs zs, Sub B.G0 G → Reps B.X.K G ds vs → Reps B.X.K G es zs → Reps B.X.K G (gD ds es) (gV vs zs)) : RunsK B (.ref f) n ks (fun es ds => P (gD ds es)) := by
  intro pins s σ H us vs ws zs ds es m G Q Qd Xd I rv rz l1 l2 s0 c rd re hp kq hx
  exact run_fnA F hr hx.pass I (hb.to s us ws I.kIn l1 l2) (hb.rel rv rz) ⟨G, m, gD ds es, Qd, Xd, c, hg G ds es vs zs s0 rd re, hp, kq, xp_xeD _ _ _⟩
end Pd
namespace Pd
open PySem PySem.Spec PyProof.Rows L2
structure Cal (B : Bx) (x : Str) (P : PD) : Prop where
  ex : ∃ f : Addr, B.X.mg x = some (.ref f) ∧ PySem.W.keepIn B.X.K (.ref f) = true ∧ Runs B (.ref f) P
structure CalM (B : Bx) (C : Addr) (n : Str) (P : PD) : Prop where
  ex : ∃ f : Addr, Meth B.X.K C n f ∧ Runs B (.ref f) P
structure FldOk (B : Bx) (C : Addr) (f : Str) : Prop where
  cl : Cls B.X.K C
  na : NoAttr B.X.K C f
theorem repf_get {K : PySem.W.Frag} {G : Hp} {f : Str} {d : D} : ∀ {l : List (Str × D)} {fs : List (Str × V)}, RepF K G l fs → l.lookup f = some d → ∃ v, fs.lookup f = some v ∧ Rep K G d v
  | [], _, _, e => by cases e
  | (g, u) :: l, _, ⟨x, r, e1, h1, h2⟩, e => by
    subst e1
    by_cases q : f = g
    · subst q
      simp only [List.lookup, beq_self_eq_true] at e ⊢
      cases e
      exact ⟨x, rfl, h1⟩
    · have q' : (f == g) = false := by simpa using q
      simp only [List.lookup, q'] at e ⊢
      exact repf_get h2 e
theorem repf_none {K : PySem.W.Frag} {G : Hp} {f : Str} : ∀ {l : List (Str × D)} {fs : List (Str × V)}, RepF K G l fs → l.lookup f = none → fs.lookup f = none
  | [], fs, h, _ => by obtain rfl : fs = [] := h; rfl
  | (g, u) :: l, _, ⟨x, r, e1, h1, h2⟩, e => by
    subst e1
    by_cases q : f = g
    · subst q
      simp [List.lookup] at e
    · have q' : (f == g) = false := by simpa using q
      simp only [List.lookup, q'] at e ⊢
      exact repf_none h2 e
theorem repf_len {K : PySem.W.Frag} {G : Hp} : ∀ {l : List (Str × D)} {fs : List (Str × V)}, RepF K G l fs → fs.length = l.length
  | [], fs, h => by obtain rfl : fs = [] := h; rfl
  | (g, u) :: l, _, ⟨x, r, e1, h1, h2⟩ => by subst e1; simp [repf_len h2]
def putD (f : Str) (d : D) : List (Str × D) → List (Str × D)
  | [] => [(f, d)]
  | (g, u) :: l => if g = f then (g, d) :: l else (g, u) :: putD f d l
theorem repf_put {K : PySem.W.Frag} {G : Hp} {f : Str} {d : D} {v : V} (hv : Rep K G d v) : ∀ {l : List (Str × D)} {fs : List (Str × V)}, RepF K G l fs → RepF K G (putD f d l) (putF f v fs)
  | [], fs, h => by obtain rfl : fs = [] := h; exact ⟨v, [], rfl, hv, rfl⟩
  | (g, u) :: l, _, ⟨x, r, e1, h1, h2⟩ => by
    subst e1
    unfold putD putF
    by_cases q : g = f
    · rw [if_pos q, if_pos q]
      exact ⟨v, r, rfl, hv, h2⟩
    · rw [if_neg q, if_neg q]
      exact ⟨x, _, rfl, h1, repf_put hv h2⟩
section
variable {B : Bx} {x y d : D} {m : Mem} {Q : D → Mem → Prop} {i j : Int} {p q C : Addr} {l : List D} {a b e o : Expr} {es : List Expr} {ρ : DE} {pos p2 apos : Pos} {N : DE → Mem → Prop} {R : RR} {P : PD} {n f : Str} {fl : List (Str × D)}
theorem we_callR (hg : Gl B.X n) (hc : Cal B n P) (h : WA B (e :: es) ρ m fun ds m1 => ∃ Xd, P ds m1 Q Xd ∧ XR B ρ Xd) (hdb : (n == ("__debug__" : Str)) = false := by decide)
    (he : starEach (e :: es) B.X.env = (false, eval e B.X.env) :: starEach es B.X.env) (hpl : (backTo pos (starEach es B.X.env)).any (·.1) = false) : WE B (.Call (.Name n p2) (e :: es) [] pos) ρ m Q := fun G σ H s r c Q' k pins s1 I => by
  obtain ⟨f, hm, hk, run⟩ := hc.ex
  refine wpAny_Call_Name_kw (ld_glob I hg hm ?_ hdb)
  refine PySem.W.callWith_K (h₀ := B.X.base) I.ok.mod.kin hk (thn (h G σ H s r c (fun vs H1 => ∃ ds m1 G1 Xd, Sub G G1 ∧ Cur B.X.K G1 m1 H1 ∧ Reps B.X.K G1 ds vs ∧ P ds m1 Q Xd ∧ XR B ρ Xd) (fun vs ds m1 G1 H1 s1 c1 r1 ⟨Xd, q1, q2⟩ => ⟨ds, m1, G1, Xd, s1, c1, r1, q1, q2⟩) pos pins s1 I) fun us s2 ⟨vs, H1, I1, rv, ds, m1, G1, Xd, s2', c1, r1, q1, q2⟩ => ⟨I1.kIn, ?_⟩) he hpl
  exact run pins s2 σ H1 us vs ds m1 G1 Q' Q Xd I1 rv (s.trans s2') c1 r1 q1 (k.sub s2') (q2 _ _ (s.trans s2') (r.sub s2'))
theorem we_call0R (hg : Gl B.X n) (hc : Cal B n P) (h : ∃ Xd, P [] m Q Xd ∧ XR B ρ Xd) (hdb : (n == ("__debug__" : Str)) = false := by decide) : WE B (.Call (.Name n p2) [] [] pos) ρ m Q := fun G σ H s r c Q' k pins s1 I => by
  obtain ⟨f, hm, hk, run⟩ := hc.ex
  obtain ⟨Xd, q1, q2⟩ := h
  refine wpAny_Call_Name_kw (ld_glob I hg hm ?_ hdb)
  exact PySem.W.callWith_K0 I.kIn hk (run pins s1 σ H [] [] [] m G Q' Q Xd I .nil s c rfl q1 k (q2 _ _ s r))
theorem WA.mono {QL QL' : List D → Mem → Prop} (h : WA B es ρ m QL) (i : ∀ l m, QL l m → QL' l m) : WA B es ρ m QL' := fun G σ H s r c Q' k => h G σ H s r c Q' fun a b c d e f g j l => k a b c d e f g j (i _ _ l)
theorem WE.mono' {Q2 : D → Mem → Prop} (h : WE B e ρ m Q2) (i : ∀ d m', Q2 d m' → Q d m') : WE B e ρ m Q := h.mono i
theorem we_call (hg : Gl B.X n) (hc : Cal B n P) (h : WA B (e :: es) ρ m fun ds m1 => ∃ Xd, P ds m1 Q Xd ∧ XOK B Xd) (hdb : (n == ("__debug__" : Str)) = false := by decide)
    (he : starEach (e :: es) B.X.env = (false, eval e B.X.env) :: starEach es B.X.env) (hpl : (backTo pos (starEach es B.X.env)).any (·.1) = false) : WE B (.Call (.Name n p2) (e :: es) [] pos) ρ m Q :=
  we_callR hg hc (h.mono fun _ _ ⟨Xd, a, b⟩ => ⟨Xd, a, b.xr⟩) hdb he hpl
theorem we_call0 (hg : Gl B.X n) (hc : Cal B n P) (h : ∃ Xd, P [] m Q Xd ∧ XOK B Xd) (hdb : (n == ("__debug__" : Str)) = false := by decide) : WE B (.Call (.Name n p2) [] [] pos) ρ m Q := we_call0R hg hc (let ⟨Xd, a, b⟩ := h; ⟨Xd, a, b.xr⟩) hdb
def InsOf (x : D) (m : Mem) (C : Addr) (fl : List (Str × D)) : Prop := x = .ins C fl ∨ ∃ p dx, x = .ref p ∧ m p = some (.ins C dx fl)
theorem insof_get {K : PySem.W.Frag} {G H : Hp} {v : V} (h : InsOf x m C fl) (c : Cur K G m H) (r : Rep K G x v) : ∃ a dx fs, v = .ref a ∧ H a = some (.ins C dx fs) ∧ RepF K G fl fs := by
  rcases h with rfl | ⟨p, dx, rfl, hm⟩
  · obtain ⟨a, dx, fs, rfl, ha, rf⟩ := r
    exact ⟨a, dx, fs, rfl, c.ex _ _ ha, rf⟩
  · obtain ⟨_, o, ho, fs, rfl, rf⟩ := c.mm p _ hm
    exact ⟨p, dx, fs, r, ho, rf⟩
theorem we_methR {pl : Sem Bool} (h : WE B o ρ m fun x m1 => ∃ C fl P, InsOf x m1 C fl ∧ fl.lookup n = none ∧ Cls B.X.K C ∧ CalM B C n P ∧ WA B (e :: es) ρ m1 fun ds m2 => ∃ Xd, P (x :: ds) m2 Q Xd ∧ XR B ρ Xd)
    (hst : starEach (e :: es) B.X.env = (false, eval e B.X.env) :: starEach es B.X.env) (hpl : (backTo pos (starEach es B.X.env)).any (·.1) = false)
    (ht : eval (.Call (.Attribute o n apos) (e :: es) [] pos) B.X.env = (do
      let ov ← eval o B.X.env
      standAt apos.atName
      let (f, first) ← holding [ov] (getMethod ov n pl)
      callWith pos f first (backTo pos (starEach (e :: es) B.X.env)) (backToKw pos (keywordEach [] B.X.env)))) : WE B (.Call (.Attribute o n apos) (e :: es) [] pos) ρ m Q := fun G σ H s r c Q' k pins s1 I => by
  refine PySem.W.methodCall_KW (pl := pl) (thn (h G σ H s r c (fun v H1 => ∃ x m1 G1 C fl P, Sub G G1 ∧ Cur B.X.K G1 m1 H1 ∧ Rep B.X.K G1 x v ∧ InsOf x m1 C fl ∧ fl.lookup n = none ∧ Cls B.X.K C ∧ CalM B C n P ∧ WA B (e :: es) ρ m1 fun ds m2 => ∃ Xd, P (x :: ds) m2 Q Xd ∧ XR B ρ Xd)
    (fun v x m1 G1 H1 s1 c1 r1 ⟨C, fl, P, q1, q2, q3, q4, q5⟩ => ⟨x, m1, G1, C, fl, P, s1, c1, r1, q1, q2, q3, q4, q5⟩) pins s1 I) fun u s2 ⟨v, H1, I1, rv, x, m1, G1, C, fl, P, sb1, c1, r1, q1, q2, q3, q4, q5⟩ => ?_) ht
  obtain ⟨a, dx, fs, rfl, ha, rf⟩ := insof_get q1 c1 r1
  obtain rfl : u = Value.ref a := rv
  obtain ⟨g, hm, run⟩ := q4.ex
  refine getmeth_ok I1 ha q3 hm (repf_none rf q2) ?_
  refine PySem.W.callWith_K (first := [.ref a]) (h₀ := B.X.base) I1.ok.mod.kin hm.kp (thn (q5 G1 σ H1 (s.trans sb1) (r.sub sb1) c1 (fun vs H2 => ∃ ds m2 G2 Xd, Sub G1 G2 ∧ Cur B.X.K G2 m2 H2 ∧ Reps B.X.K G2 ds vs ∧ P (x :: ds) m2 Q Xd ∧ XR B ρ Xd) (fun vs ds m2 G2 H2 s2 c2 r2 ⟨Xd, q1, q2⟩ => ⟨ds, m2, G2, Xd, s2, c2, r2, q1, q2⟩) pos pins s2 I1) fun us s3 ⟨vs, H2, I2, rvs, ds, m2, G2, Xd, sb2, c2, r2, q6, q7⟩ => ⟨I2.kIn, ?_⟩) hst hpl
  exact run pins s3 σ H2 (.ref a :: us) (.ref a :: vs) (x :: ds) m2 G2 Q' Q Xd I2 (.cons rfl rvs) ((s.trans sb1).trans sb2) c2 ⟨_, _, rfl, Rep.sub sb2 _ _ r1, r2⟩ q6 (k.sub (sb1.trans sb2)) (q7 _ _ ((s.trans sb1).trans sb2) (r.sub (sb1.trans sb2)))
theorem we_meth0R {pl : Sem Bool} (h : WE B o ρ m fun x m1 => ∃ C fl P, InsOf x m1 C fl ∧ fl.lookup n = none ∧ Cls B.X.K C ∧ CalM B C n P ∧ ∃ Xd, P [x] m1 Q Xd ∧ XR B ρ Xd)
    (ht : eval (.Call (.Attribute o n apos) [] [] pos) B.X.env = (do
      let ov ← eval o B.X.env
      standAt apos.atName
      let (f, first) ← holding [ov] (getMethod ov n pl)
      callWith pos f first (backTo pos (starEach [] B.X.env)) (backToKw pos (keywordEach [] B.X.env)))) : WE B (.Call (.Attribute o n apos) [] [] pos) ρ m Q := fun G σ H s r c Q' k pins s1 I => by
  refine PySem.W.methodCall_KW (pl := pl) (thn (h G σ H s r c (fun v H1 => ∃ x m1 G1 C fl P, Sub G G1 ∧ Cur B.X.K G1 m1 H1 ∧ Rep B.X.K G1 x v ∧ InsOf x m1 C fl ∧ fl.lookup n = none ∧ Cls B.X.K C ∧ CalM B C n P ∧ ∃ Xd, P [x] m1 Q Xd ∧ XR B ρ Xd)
    (fun v x m1 G1 H1 s1 c1 r1 ⟨C, fl, P, q1, q2, q3, q4, q5⟩ => ⟨x, m1, G1, C, fl, P, s1, c1, r1, q1, q2, q3, q4, q5⟩) pins s1 I) fun u s2 ⟨v, H1, I1, rv, x, m1, G1, C, fl, P, sb1, c1, r1, q1, q2, q3, q4, Xd, q5, q6⟩ => ?_) ht
  obtain ⟨a, dx, fs, rfl, ha, rf⟩ := insof_get q1 c1 r1
  obtain rfl : u = Value.ref a := rv
  obtain ⟨g, hm, run⟩ := q4.ex
  refine getmeth_ok I1 ha q3 hm (repf_none rf q2) ?_
  exact PySem.W.callWith_K0 (first := [.ref a]) I1.kIn hm.kp (run pins s2 σ H1 [.ref a] [.ref a] [x] m1 G1 Q' Q Xd I1 (.cons rfl .nil) (s.trans sb1) c1 ⟨_, _, rfl, r1, rfl⟩ q5 (k.sub sb1) (q6 _ _ (s.trans sb1) (r.sub sb1)))
theorem we_meth {pl : Sem Bool} (h : WE B o ρ m fun x m1 => ∃ C fl P, InsOf x m1 C fl ∧ fl.lookup n = none ∧ Cls B.X.K C ∧ CalM B C n P ∧ WA B (e :: es) ρ m1 fun ds m2 => ∃ Xd, P (x :: ds) m2 Q Xd ∧ XOK B Xd)
    (hst : starEach (e :: es) B.X.env = (false, eval e B.X.env) :: starEach es B.X.env) (hpl : (backTo pos (starEach es B.X.env)).any (·.1) = false)
    (ht : eval (.Call (.Attribute o n apos) (e :: es) [] pos) B.X.env = (do
      let ov ← eval o B.X.env
      standAt apos.atName
      let (f, first) ← holding [ov] (getMethod ov n pl)
      callWith pos f first (backTo pos (starEach (e :: es) B.X.env)) (backToKw pos (keywordEach [] B.X.env)))) : WE B (.Call (.Attribute o n apos) (e :: es) [] pos) ρ m Q :=
  we_methR (h.mono fun _ _ ⟨C, fl, P, a1, a2, a3, a4, a5⟩ => ⟨C, fl, P, a1, a2, a3, a4, a5.mono fun _ _ ⟨Xd, a, b⟩ => ⟨Xd, a, b.xr⟩⟩) hst hpl ht
theorem we_meth0 {pl : Sem Bool} (h : WE B o ρ m fun x m1 => ∃ C fl P, InsOf x m1 C fl ∧ fl.lookup n = none ∧ Cls B.X.K C ∧ CalM B C n P ∧ ∃ Xd, P [x] m1 Q Xd ∧ XOK B Xd)
    (ht : eval (.Call (.Attribute o n apos) [] [] pos) B.X.env = (do
      let ov ← eval o B.X.env
      standAt apos.atName
      let (f, first) ← holding [ov] (getMethod ov n pl)
      callWith pos f first (backTo pos (starEach [] B.X.env)) (backToKw pos (keywordEach [] B.X.env)))) : WE B (.Call (.Attribute o n apos) [] [] pos) ρ m Q :=
  we_meth0R (h.mono fun _ _ ⟨C, fl, P, a1, a2, a3, a4, Xd, a, b⟩ => ⟨C, fl, P, a1, a2, a3, a4, Xd, a, b.xr⟩) ht
theorem we_fld (h : WE B o ρ m fun x m1 => ∃ C fl d, InsOf x m1 C fl ∧ FldOk B C f ∧ fl.lookup f = some d ∧ Q d m1) (hb : attributeBase o f B.X.env (eval o B.X.env) = eval o B.X.env) : WE B (.Attribute o f pos) ρ m Q := fun G σ H s r c Q' k => by
  refine teX_of (pe_fld (peX o) hb) ?_
  refine h G σ H s r c _ fun v x m1 G1 H1 s1 c1 r1 ⟨C, fl, d, q1, q2, q3, q4⟩ => ?_
  obtain ⟨a, dx, fs, rfl, ha, rf⟩ := insof_get q1 c1 r1
  obtain ⟨w, h1, h2⟩ := repf_get rf q3
  exact ⟨a, C, dx, fs, w, rfl, ha, q2.cl, q2.na, h1, k w d m1 G1 H1 s1 c1 h2 q4⟩
theorem ws_fld {pos' : Pos} (h : WE B e ρ m fun d m1 => WE B o ρ m1 fun x m2 => ∃ p C dx fl, x = .ref p ∧ m2 p = some (.ins C dx fl) ∧ FldOk B C f ∧ fl.length < 1000 ∧ R.nx ρ (mset m2 p (.ins C dx (putD f d fl))))
    (hs : swapsWith e (some (.Attribute o f pos')) pos.line B.X.env = pure false) : WS B (.Assign [.Attribute o f pos'] e pos) ρ m R := fun G σ H s r c D k => by
  refine tsX_of (ps_fld (peX o) (peX e) hs) ?_
  refine h G σ H s r c _ fun v d m1 G1 H1 s1 c1 r1 h1 => ?_
  refine h1 G1 σ H1 (s.trans s1) (r.sub s1) c1 _ fun u x m2 G2 H2 s2 c2 r2 ⟨p, C, dx, fl, ex, q1, q2, q3, q4⟩ => ?_
  subst ex
  obtain rfl : u = .ref p := r2
  obtain ⟨_, o', ho, fs, rfl, rf⟩ := c2.mm p _ q1
  refine ⟨p, C, dx, fs, rfl, ho, q2.cl, q2.na, by rw [repf_len rf]; exact q3, ?_⟩
  exact k.nx σ ρ _ G2 _ (s1.trans s2) (r.sub (s1.trans s2)) (c2.wr (u := .ins C dx (putD f d fl)) q1 ⟨_, rfl, repf_put (Rep.sub s2 _ _ r1) rf⟩) q4
theorem wb_in_own (h : InsOf y m C fl) (hc : CalM B C "__contains__" P) (hp : ∃ Xd, P [y, x] m (fun d m' => ∃ t, d = .bl t ∧ Q (.bl t) m') Xd ∧ XOK B Xd) : WB B (compareOp .In) x y m Q := fun G H v u s c r1 r2 Q' k pins s1 σ v' u' I rv ru => by
  obtain ⟨a, dx, fs, rfl, ha, rf⟩ := insof_get h c r2
  obtain rfl : u' = Value.ref a := ru
  obtain ⟨g, hm, run⟩ := hc.ex
  obtain ⟨mA, J, _⟩ := ins_get I.hok ha
  obtain ⟨od, J, _⟩ := J.look
  obtain ⟨mF, hF⟩ := I.fr
  obtain ⟨Xd, q1, q2⟩ := hp
  refine PySem.W.in_K hF I.ok.mod.kin J hm.at_ hm.fn ?_
  refine thn (run pins s1 σ H [.ref a, v'] [.ref a, v] [y, x] m G (fun w H2 => ∃ t, w = .bl t ∧ Q' (.bl t) H2) (fun d m' => ∃ t, d = .bl t ∧ Q (.bl t) m') Xd I (.cons rfl (.cons rv .nil)) s c ⟨_, _, rfl, r2, _, _, rfl, r1, rfl⟩ q1 (fun w d m' G' H' s' c' rd ⟨t, ed, qd⟩ => ?_) (q2.xo s)) fun w s2 ⟨w', H2, I2, rw', t, ew, q3⟩ => ?_
  · subst ed
    exact ⟨t, rd, k w (.bl t) m' G' H' s' c' rd qd |> fun z => by obtain rfl : w = .bl t := rd; exact z⟩
  · subst ew
    obtain rfl : w = Value.bool t := rw'
    exact wpAny_truthy_bool ⟨.bl t, H2, I2, rfl, q3⟩
end
end Pd
namespace Pd
open PySem PySem.Spec PyProof.Rows L2
def mkP (C : Addr) (P : PD) : PD := fun ds m Q Xd => ∀ x dx, m x = none → P (.ref x :: ds) (mset m x (.ins C dx [])) (fun d m' => d = .non ∧ ∃ fl, m' x = some (.ins C dx fl) ∧ Q (.ins C fl) (mdel m' x)) (fun E l m' => Xd E l (mdel m' x))
def mkPM (C : Addr) (P : PD) : PD := fun ds m Q Xd => ∀ x dx, m x = none → P (.ref x :: ds) (mset m x (.ins C dx [])) (fun d m' => d = .non ∧ Q (.ref x) m') (fun E l m' => Xd E l (mdel m' x))
theorem cur_made {K : PySem.W.Frag} {G H : Hp} {m : Mem} {C x dx : Addr} (c : Cur K G m H) (hx : H x = none) (hdx : H dx = none) (hne : dx ≠ x) : Cur K G (mset m x (.ins C dx [])) (upd (upd H dx (.own x)) x (.ins C dx [])) := by
  have c1 := c.grow (o := .own x) hdx
  have hx1 : upd H dx (.own x) x = none := by rw [upd_ne (Ne.symm hne)]; exact hx
  exact c1.newM (u := .ins C dx []) hx1 ⟨[], rfl, rfl⟩
theorem vp_made {K : PySem.W.Frag} {G : Hp} {C x dx : Addr} {Qd : D → Mem → Prop} {Q : VK} (kq : VP K G Qd Q) : VP K G (fun d m' => d = .non ∧ ∃ fl, m' x = some (.ins C dx fl) ∧ Qd (.ins C fl) (mdel m' x)) (fun v H2 => v = .non ∧ Q (.ref x) H2) := by
  intro v d m' G' H' s' c' r' ⟨ed, fl, q1, q2⟩
  subst ed
  obtain ⟨o, h1, h2, h3, h4⟩ := c'.freeze q1
  obtain ⟨fs, rfl, rf⟩ := h2
  exact ⟨r', kq (.ref x) (.ins C fl) _ _ H' (s'.trans h3) h4 ⟨x, dx, fs, rfl, upd_same, RepF.sub h3 _ _ rf⟩ q2⟩
theorem vp_madeM {K : PySem.W.Frag} {G : Hp} {x : Addr} {Qd : D → Mem → Prop} {Q : VK} (kq : VP K G Qd Q) : VP K G (fun d m' => d = .non ∧ Qd (.ref x) m') (fun v H2 => v = .non ∧ Q (.ref x) H2) := by
  intro v d m' G' H' s' c' r' ⟨ed, q⟩
  subst ed
  exact ⟨r', kq (.ref x) (.ref x) m' G' H' s' c' rfl q⟩
theorem xp_made {K : PySem.W.Frag} {G : Hp} {x : Addr} {Xd : XD} : XP K G (fun E l m' => Xd E l (mdel m' x)) (xeD K G Xd) := fun C d l m' G' H' h1 h2 h3 h4 => ⟨C, l, mdel m' x, G', rfl, h1, h2.drop, h3, h4⟩
theorem runs_mkM {B : Bx} {k : Nat} {C f : Addr} {fd : FuncData} {ps : List Str} {P : PD} {dvs : List V} {dss : List Value} {dl : List D} (M : Mk B.X.K C f) (F : FnOk B.X.prog B.X.w B.X.K B.X.mg B.X.base (L2.CX B.X.prog B.X.w) k f fd ps (spD B.X.K P)) (hr : Room (k + 1) B.X.A)
    (hb : Binds B.X.K fd ps dss) (hd : Vals dvs dss) (hdl : ∀ G, Sub B.G0 G → Reps B.X.K G dl dvs) : Runs B (.ref C) (mkPM C fun ds => P (ds ++ dl)) := by
  intro pins s σ H us vs ds m G Q Qd Xd I rv s0 c rd hp kq hx
  have sp : ∀ x dx, H x = none → H dx = none → dx ≠ x → spD B.X.K P (.ref x :: (vs ++ dvs)) (upd (upd H dx (.own x)) x (.ins C dx [])) (fun v H2 => v = .non ∧ Q (.ref x) H2) (xeD B.X.K G Xd) := fun x dx h1 h2 h3 =>
    ⟨G, _, .ref x :: (ds ++ dl), _, _, cur_made c h1 h2 h3, ⟨_, _, rfl, rfl, reps_app rd (hdl G s0)⟩, hp x dx (c.none h1).2, vp_madeM kq, xp_made⟩
  have rr := rv.append hd
  have hl := F.len _ _ _ _ (sp (s.heap.objs.size + 1) s.heap.objs.size (I.hok.fresh (Nat.le_succ _)) (I.hok.fresh (Nat.le_refl _)) (Nat.ne_of_lt (Nat.lt_succ_self _)))
  exact run_mkA M F hr hx.pass I rr (fun s' x X => hb s' (.ref x :: us) X (by rw [← hl]; simp [rr.length])) sp
theorem runs_mk {B : Bx} {k : Nat} {C f : Addr} {fd : FuncData} {ps : List Str} {P : PD} {dvs : List V} {dss : List Value} {dl : List D} (M : Mk B.X.K C f) (F : FnOk B.X.prog B.X.w B.X.K B.X.mg B.X.base (L2.CX B.X.prog B.X.w) k f fd ps (spD B.X.K P)) (hr : Room (k + 1) B.X.A)
    (hb : Binds B.X.K fd ps dss) (hd : Vals dvs dss) (hdl : ∀ G, Sub B.G0 G → Reps B.X.K G dl dvs) : Runs B (.ref C) (mkP C fun ds => P (ds ++ dl)) := by
  intro pins s σ H us vs ds m G Q Qd Xd I rv s0 c rd hp kq hx
  have sp : ∀ x dx, H x = none → H dx = none → dx ≠ x → spD B.X.K P (.ref x :: (vs ++ dvs)) (upd (upd H dx (.own x)) x (.ins C dx [])) (fun v H2 => v = .non ∧ Q (.ref x) H2) (xeD B.X.K G Xd) := fun x dx h1 h2 h3 =>
    ⟨G, _, .ref x :: (ds ++ dl), _, _, cur_made c h1 h2 h3, ⟨_, _, rfl, rfl, reps_app rd (hdl G s0)⟩, hp x dx (c.none h1).2, vp_made kq, xp_made⟩
  have rr := rv.append hd
  have hl := F.len _ _ _ _ (sp (s.heap.objs.size + 1) s.heap.objs.size (I.hok.fresh (Nat.le_succ _)) (I.hok.fresh (Nat.le_refl _)) (Nat.ne_of_lt (Nat.lt_succ_self _)))
  exact run_mkA M F hr hx.pass I rr (fun s' x X => hb s' (.ref x :: us) X (by rw [← hl]; simp [rr.length])) sp
theorem runs_mkK {B : Bx} {k n : Nat} {C f : Addr} {fd : FuncData} {ps ks : List Str} {P : PD} {g g' : List Value → List Value → List Value} {gV gV' : List V → List V → List V} {gD : List D → List D → List D}
    (M : Mk B.X.K C f) (F : FnOk B.X.prog B.X.w B.X.K B.X.mg B.X.base (L2.CX B.X.prog B.X.w) k f fd ps (spD B.X.K P)) (hr : Room (k + 1) B.X.A) (hb : KBn B.X.K fd ps (n + 1) ks g gV)
    (hg : ∀ x us ws, g (x :: us) ws = x :: g' us ws) (hgV : ∀ x vs zs, gV (x :: vs) zs = x :: gV' vs zs)
    (hD : ∀ G ds es vs zs, Sub B.G0 G → Reps B.X.K G ds vs → Reps B.X.K G es zs → Reps B.X.K G (gD ds es) (gV' vs zs)) : RunsK B (.ref C) n ks (fun es ds => mkP C P (gD ds es)) := by
  intro pins s σ H us vs ws zs ds es m G Q Qd Xd I rv rz l1 l2 s0 c rd re hp kq hx
  have rr : Vals (gV (.ref 0 :: vs) zs) (g (.ref 0 :: us) ws) := hb.rel (.cons rfl rv) rz
  rw [hg, hgV] at rr
  cases rr with
  | cons _ rr =>
  refine run_mkA M F hr hx.pass I rr (fun s' x X => ?_) fun x dx h1 h2 h3 => ⟨G, _, .ref x :: gD ds es, _, _, cur_made c h1 h2 h3, ⟨_, _, rfl, rfl, hD G _ _ _ _ s0 rd re⟩, hp x dx (c.none h1).2, vp_made kq, xp_made⟩
  have b := hb.to s' (.ref x :: us) ws X (by simp [l1]) l2
  rw [hg] at b
  exact b
def clX (X : Cx) (f : Value) : List V → Hp → VK → Prop := fun xs H Q => ∀ pins s σ us, Inv X pins σ H s → Vals xs us → wpAny (model X.prog X.w) X.A (call f us) (EP X pins σ Q) X.xe s
theorem clrX {X : Cx} (f : Value) : CallR X f (clX X f) := fun pins s σ H xs us Q I r h => h pins s σ us I r
def WC (B : Bx) (f : Value) (ds : List D) (m : Mem) (Q : D → Mem → Prop) : Prop := ∀ G H vs, Sub B.G0 G → Cur B.X.K G m H → Reps B.X.K G ds vs → ∀ Q' : VK, VP B.X.K G Q Q' → clX B.X f vs H Q'
section
variable {B : Bx} {x y d : D} {m : Mem} {Q : D → Mem → Prop} {i j : Int} {p q C : Addr} {l ds : List D} {a b e o : Expr} {es : List Expr} {ρ : DE} {pos p2 apos : Pos} {N : DE → Mem → Prop} {R : RR} {P : PD} {n f : Str} {id T : String}
theorem wc_of {f : Value} {r : List V → Hp → VK → Prop} (h : CallR B.X f r) (k : ∀ G H vs, Cur B.X.K G m H → Reps B.X.K G ds vs → ∀ Q' : VK, VP B.X.K G Q Q' → r vs H Q') : WC B f ds m Q := fun G H vs s c rd Q' kq pins s1 σ us I rv => h pins s1 σ H vs us Q' I rv (k G H vs c rd Q' kq)
theorem we_callB (hg : Gl B.X n) (hm : B.X.mg n = none) (hv : bootBuiltins n = some (.builtin id)) (h : WA B (e :: es) ρ m fun ds m1 => WC B (.builtin id) ds m1 Q) (hn : n ≠ "__name__") (hdb : (n == ("__debug__" : Str)) = false)
    (he : starEach (e :: es) B.X.env = (false, eval e B.X.env) :: starEach es B.X.env) (hpl : (backTo pos (starEach es B.X.env)).any (·.1) = false) : WE B (.Call (.Name n p2) (e :: es) [] pos) ρ m Q := fun G σ H s r c Q' k => by
  refine teX_of (pe_callB (clrX _) hg hm hv (paX _) hn hdb he hpl) ?_
  exact h G σ H s r c _ fun vs ds m1 G1 H1 s1 c1 r1 q => q G1 H1 vs (s.trans s1) c1 r1 Q' (k.sub s1)
theorem we_callTy (hg : Gl B.X n) (hm : B.X.mg n = none) (hv : bootBuiltins n = some (.type T)) (h : WA B (e :: es) ρ m fun ds m1 => WC B (.type T) ds m1 Q) (hn : n ≠ "__name__") (hdb : (n == ("__debug__" : Str)) = false)
    (he : starEach (e :: es) B.X.env = (false, eval e B.X.env) :: starEach es B.X.env) (hpl : (backTo pos (starEach es B.X.env)).any (·.1) = false) : WE B (.Call (.Name n p2) (e :: es) [] pos) ρ m Q := fun G σ H s r c Q' k => by
  refine teX_of (pe_callTy (clrX _) hg hm hv (paX _) hn hdb he hpl) ?_
  exact h G σ H s r c _ fun vs ds m1 G1 H1 s1 c1 r1 q => q G1 H1 vs (s.trans s1) c1 r1 Q' (k.sub s1)
theorem rep1 {K : PySem.W.Frag} {G : Hp} {d : D} {vs : List V} (h : Reps K G [d] vs) : ∃ v, vs = [v] ∧ Rep K G d v := by
  obtain ⟨v, r, rfl, h1, h2⟩ := h
  obtain rfl : r = [] := h2
  exact ⟨v, rfl, h1⟩
theorem rep2 {K : PySem.W.Frag} {G : Hp} {d e : D} {vs : List V} (h : Reps K G [d, e] vs) : ∃ v u, vs = [v, u] ∧ Rep K G d v ∧ Rep K G e u := by
  obtain ⟨v, r, rfl, h1, h2⟩ := h
  obtain ⟨u, rfl, h3⟩ := rep1 h2
  exact ⟨v, u, rfl, h1, h3⟩
theorem wc_abs (q : Q (.int (if i < 0 then -i else i)) m) : WC B (.builtin "abs") [.int i] m Q := wc_of call_abs fun G H vs c rd Q' k => by
  obtain ⟨v, rfl, r⟩ := rep1 rd
  obtain rfl : v = .int i := r
  exact ⟨i, rfl, c.vp k (d := .int _) rfl q⟩
theorem wc_int (q : Q (.int i) m) : WC B (.type "int") [.int i] m Q := wc_of call_int1 fun G H vs c rd Q' k => by
  obtain ⟨v, rfl, r⟩ := rep1 rd
  obtain rfl : v = .int i := r
  exact .inl ⟨i, rfl, c.vp k (d := .int _) rfl q⟩
theorem wc_str (hb : i.natAbs.log2 < 1920) (q : Q (.str (toString i)) m) : WC B (.type "str") [.int i] m Q := wc_of call_str_int fun G H vs c rd Q' k => by
  obtain ⟨v, rfl, r⟩ := rep1 rd
  obtain rfl : v = .int i := r
  exact ⟨i, rfl, hb, c.vp k (d := .str _) rfl q⟩
theorem wc_lenL (q : Q (.int l.length) m) : WC B (.builtin "len") [.lst l] m Q := wc_of call_len_seq fun G H vs c rd Q' k => by
  obtain ⟨v, rfl, p, xs, rfl, hq, rx⟩ := rep1 rd
  exact ⟨p, xs, rfl, .inl (SqL.sub c.ex hq), by rw [reps_len rx]; exact c.vp k (d := .int _) rfl q⟩
theorem wc_lenT (q : Q (.int l.length) m) : WC B (.builtin "len") [.tup l] m Q := wc_of call_len_seq fun G H vs c rd Q' k => by
  obtain ⟨v, rfl, p, xs, rfl, hq, rx⟩ := rep1 rd
  exact ⟨p, xs, rfl, .inr (SqT.sub c.ex hq), by rw [reps_len rx]; exact c.vp k (d := .int _) rfl q⟩
theorem wc_lenM (hm : m p = some (.lst l)) (q : Q (.int l.length) m) : WC B (.builtin "len") [.ref p] m Q := wc_of call_len_seq fun G H vs c rd Q' k => by
  obtain ⟨v, rfl, r⟩ := rep1 rd
  obtain rfl : v = .ref p := r
  obtain ⟨_, o, ho, xs, rfl, rx⟩ := c.mm p _ hm
  exact ⟨p, xs, rfl, .inl (SqL.of ho), by rw [reps_len rx]; exact c.vp k (d := .int _) rfl q⟩
theorem wc_lenS {z : Str} (hz : z.length ≤ sizeLine) (q : Q (.int z.length) m) : WC B (.builtin "len") [.str z] m Q := wc_of call_len_str fun G H vs c rd Q' k => by
  obtain ⟨v, rfl, r⟩ := rep1 rd
  obtain rfl : v = .str z := r
  exact ⟨z, rfl, hz, c.vp k (d := .int _) rfl q⟩
theorem we_append (h : WE B o ρ m fun x m1 => ∃ p l0, x = .ref p ∧ m1 p = some (.lst l0) ∧ WE B e ρ m1 fun d m2 => ∃ l, m2 p = some (.lst l) ∧ l.length < sizeLine ∧ Q .non (mset m2 p (.lst (l ++ [d]))))
    (hbase : attributeBase o ("append" : Str) B.X.env (eval o B.X.env) = eval o B.X.env)
    (hfew : ((backTo pos (starEach [e] B.X.env)).all (fun x => !x.1) && (backToKw pos (keywordEach [] B.X.env)).all (fun x => x.1.isSome)
      && decide ((e :: []).length + ([] : List Keyword).length + (if ([] : List Keyword).isEmpty then 0 else 1) < 30)) = true)
    (hline : (apos.endLine == pos.line) = true) (hs : starEach [e] B.X.env = (false, eval e B.X.env) :: starEach [] B.X.env) (hplain : (backTo pos (starEach [] B.X.env)).any (·.1) = false) :
    WE B (.Call (.Attribute o "append" apos) [e] [] pos) ρ m Q := fun G σ H s r c Q' k => by
  refine teX_of (pe_bm PySem.F.plainAttrs_list PySem.F.slot_list_append PySem.F.type_list_append mt_append (peX o) (pa_cons (peX e) pa_nil hs) hbase hfew hline hs hplain) ?_
  refine h G σ H s r c _ fun v x m1 G1 H1 s1 c1 r1 ⟨p, l0, ex, hm0, q0⟩ => ?_
  subst ex
  obtain rfl : v = .ref p := r1
  obtain ⟨_, o0, ho0, xs0, rfl, _⟩ := c1.mm p _ hm0
  refine ⟨.inl ⟨rfl, _, SqL.of ho0⟩, ?_⟩
  refine q0 G1 σ H1 (s.trans s1) (r.sub s1) c1 _ fun u d m2 G2 H2 s2 c2 r2 ⟨l, hm, hl, q⟩ => ?_
  obtain ⟨_, o', ho, xs, rfl, rx⟩ := c2.mm p _ hm
  refine ⟨p, xs, u, rfl, rfl, ho, by rw [reps_len rx]; exact hl, ?_⟩
  exact k .non .non _ G2 _ (s1.trans s2) (c2.wr (u := .lst (l ++ [d])) hm ⟨_, rfl, reps_app rx ⟨_, _, rfl, r2, rfl⟩⟩) rfl q
def cutD (l : List D) (lo hi : Option Int) : List D := (l.drop (HT.sIx l.length 0 lo)).take (HT.sIx l.length l.length hi - HT.sIx l.length 0 lo)
theorem reps_drop {K : PySem.W.Frag} {G : Hp} : ∀ {l : List D} {xs : List V} (k : Nat), Reps K G l xs → Reps K G (l.drop k) (xs.drop k)
  | _, _, 0, h => by simpa using h
  | [], _, k + 1, h => by obtain rfl := h; simp [Reps]
  | _ :: _, _, k + 1, ⟨x, t, e, _, ht⟩ => by subst e; simpa using reps_drop k ht
theorem reps_take {K : PySem.W.Frag} {G : Hp} : ∀ {l : List D} {xs : List V} (k : Nat), Reps K G l xs → Reps K G (l.take k) (xs.take k)
  | _, _, 0, h => by simp [Reps]
  | [], _, k + 1, h => by obtain rfl := h; simp [Reps]
  | _ :: _, _, k + 1, ⟨x, t, e, ha, ht⟩ => by subst e; simp only [List.take_succ_cons]; exact ⟨x, _, rfl, ha, reps_take k ht⟩
theorem reps_cut {K : PySem.W.Frag} {G : Hp} {l : List D} {xs : List V} (lo hi : Option Int) (h : Reps K G l xs) : Reps K G (cutD l lo hi) (cutV xs lo hi) := by
  unfold cutD cutV
  rw [reps_len h]
  exact reps_take _ (reps_drop _ h)
theorem we_cut0 {hi : Expr} (h : WE B e ρ m fun x m1 => ∃ l, x = .lst l ∧ WE B hi ρ m1 fun y m2 => ∃ i, y = .int i ∧ Q (.lst (cutD l none (some i))) m2) : WE B (.Subscript e (.Slice none (some hi) none p2) pos) ρ m Q := fun G σ H s r c Q' k => by
  refine teX_of (pe_slice sl_list (peX e) po_none (po_some (peX hi))) ?_
  refine h G σ H s r c _ fun v x m1 G1 H1 s1 c1 r1 ⟨l, ex, q0⟩ => ?_
  subst ex
  refine q0 G1 σ H1 (s.trans s1) (r.sub s1) c1 _ fun u y m2 G2 H2 s2 c2 r2 ⟨i, ey, q⟩ => ?_
  subst ey
  obtain ⟨p, xs, rfl, hq, rx⟩ := Rep.sub s2 _ _ r1
  refine ⟨i, r2, p, xs, rfl, SqL.sub c2.ex hq, fun p' hp => ?_⟩
  have sb := sub_upd (o := .lst (cutV xs none (some i))) (c2.none hp).1
  exact k (.ref p') (.lst (cutD l none (some i))) m2 _ _ ((s1.trans s2).trans sb) (c2.new hp) ⟨p', _, rfl, SqL.of upd_same, reps_cut _ _ (Reps.sub sb _ _ rx)⟩ q
end
def startD : Nat → List D → DE
  | _, [] => []
  | i, d :: l => (i, d) :: startD (i + 1) l
theorem startD_get : ∀ {l : List D} {k i : Nat} {d : D}, lk (startD k l) i = some d → k ≤ i ∧ l[i - k]? = some d
  | [], _, _, _, h => by cases h
  | e :: l, k, i, d, h => by
    have h' : lk ((k, e) :: startD (k + 1) l) i = some d := h
    rw [lk_cons] at h'
    by_cases z : k = i
    · subst z
      rw [if_pos rfl] at h'
      cases h'
      exact ⟨Nat.le_refl _, by simp⟩
    · rw [if_neg z] at h'
      obtain ⟨h1, h2⟩ := startD_get h'
      refine ⟨by omega, ?_⟩
      have e2 : i - k = (i - (k + 1)) + 1 := by omega
      rw [e2]
      simpa using h2
theorem repe_start {K : PySem.W.Frag} {G : Hp} {N : List Str} {ds : List D} {vs : List V} (r : Reps K G ds vs) (hn : ds.length ≤ N.length) : RepE K N.length G (L2.start N vs) (startD 0 ds) := by
  have hl := reps_len r
  refine ⟨by simp [L2.start, hl]; omega, fun i d h => ?_⟩
  obtain ⟨_, h2⟩ := startD_get h
  rw [Nat.sub_zero] at h2
  obtain ⟨x, h3, h4⟩ := reps_get' r h2
  have hi : i < vs.length := (List.getElem?_eq_some_iff.mp h3).1
  refine ⟨x, ?_, h4⟩
  unfold L2.start
  rw [List.getElem?_append_left (by simpa using hi), List.getElem?_map, h3]
  rfl
section
variable {P : Program} {w : World} {K : PySem.W.Frag} {mg : Str → Option Value} {base : Heap}
theorem fn_okD {qual : Str} {N ps : List Str} {k : Nat} {PP : PD} {f : Addr} {x : Str} {params : Arguments} {body : List Stmt} {scope : Scope} {fd : FuncData}
    (F : ∃ (oc : Value) (od : Option Addr) (dV kV doc pm : Value) (an : Option Addr) (cdv ct : Value) (osl : Array (Option Value)), fd = PySem.W.fnOf x qual params body scope dV kV doc pm an cdv ct ∧ K.lookup f = some ⟨oc, od, .func fd, osl⟩ ∧ PySem.W.codeIn K cdv qual = true)
    (S : FnScope N ps scope) (len : ∀ ds m Q Xd, PP ds m Q Xd → ds.length = ps.length)
    (hbody : ∀ (B : Bx) (cdv : Value) (A : Around) (outer : List Env) (s : Shared) (H : Hp) (E : XK), B.X = cxOf (L2.CX P w) P w K mg base N qual scope f cdv A outer s H E → Room k B.X.A → Pss B → ∀ ds m Q Xd, PP ds m Q Xd → XOK B Xd →
      WSs B body (startD 0 ds) m { nx := fun _ m' => Q .non m', rt := Q }) : FnOk P w K mg base (L2.CX P w) (k + 1) f fd ps (spD K PP) := by
  obtain ⟨oc, od, dV, kV, doc, pm, an, cdv, ct, osl, rfl, lk, hcd⟩ := F
  refine fn_of lk hcd S (fun vs H Q E ⟨G, m, ds, Qd, Xd, _, rd, hp, _⟩ => by rw [reps_len rd]; exact len _ _ _ _ hp) fun A outer s H vs Q E hr hsp => ?_
  obtain ⟨G, m, ds, Qd, Xd, c, rd, hp, kq, kx⟩ := hsp
  refine ⟨tssX _ body, pssX body, ?_⟩
  refine hbody ⟨cxOf (L2.CX P w) P w K mg base N qual scope f cdv A outer s H E, G⟩ cdv A outer s H E rfl hr (passes_of rfl) ds m Qd Xd hp ?_ G (L2.start N vs) H (Sub.refl G) (repe_start rd ?_) c _ ?_
  · exact ⟨fun cls d _ H => E cls d H, takes_of rfl rfl rfl rfl, fun C d l m' G' H' σ h1 h2 h3 h4 => kx C d l m' G' H' h1 h2 h3 h4⟩
  · have h1 := len _ _ _ _ hp
    have h2 := congrArg List.length S.pre
    rw [List.length_take] at h2
    show ds.length ≤ N.length
    omega
  · exact ⟨fun σ' ρ' m' G' H' s' r' c' q => kq .non .non m' G' H' s' c' rfl q, kq, fun σ' ρ' m' G' H' s' r' c' q => q.elim, fun σ' ρ' m' G' H' s' r' c' q => q.elim⟩
end
end Pd
namespace Pd
open PySem PySem.Spec PyProof.Rows L2
structure Sl (B : Bx) (x : Str) (i : Nat) : Prop where
  n : B.X.N[i]? = some x
  l : Loc B.X.env.scope x
  f : B.X.fn x = true ∨ B.X.env.scope.names.lookup x = some .local
theorem Sl.v {B : Bx} {x : Str} {i : Nat} (s : Sl B x i) : Vis B.X.env.scope x := s.l.elim .inl fun h => .inr (.inl h)
structure Bok (B : Bx) : Prop where
  nd : B.X.N.Nodup
  calm : B.X.calm = true
  pss : Pss B
section
variable {B : Bx} {a b c e tg : Expr} {es : List Expr} {ρ : DE} {m : Mem} {Q : D → Mem → Prop} {N : DE → Mem → Prop} {R : RR} {pos p2 : Pos} {st : Stmt} {body rest orelse : List Stmt} {x : Str} {i : Nat} {d : D}
theorem we_nm (s : Sl B x i) (h : lk ρ i = some d) (q : Q d m) (hd : (x == ("__debug__" : Str)) = false := by decide) (hcd : (x == ("__classdict__" : Str)) = false := by decide) : WE B (.Name x pos) ρ m Q := we_name i s.n s.v h q hd hcd
theorem wg_nm (k : Bok B) (s : Sl B x i) (q : N ((i, d) :: ρ) m) : WG B (.Name x pos) d ρ m N := wg_name i k.nd s.n s.l s.f q
theorem ws_st {pos' : Pos} (k : Bok B) (s : Sl B x i) (h : WE B e ρ m fun d m1 => R.nx ((i, d) :: ρ) m1) (hs : swapsWith e (some (.Name x pos')) pos.line B.X.env = pure false) : WS B (.Assign [.Name x pos'] e pos) ρ m R := ws_set i k.nd s.n s.l h hs s.f
end
def Sz (n : Nat) (x : Int) : Prop := x.natAbs < 2 ^ n
section
variable {a b n : Nat} {x y : Int}
theorem Sz.mono (h : Sz a x) (k : a ≤ b) : Sz b x := Nat.lt_of_lt_of_le h (Nat.pow_le_pow_right (by decide) k)
theorem sz_le (h0 : 0 ≤ x) (h1 : x ≤ y) (h : Sz a y) : Sz a x := Nat.lt_of_le_of_lt (by omega) h
theorem sz_lt (h0 : 0 ≤ x) (h1 : x < y) (h : Sz a y) : Sz a x := Nat.lt_of_le_of_lt (by omega) h
theorem sz_neg (h : Sz a x) : Sz a (-x) := by unfold Sz at *; rw [Int.natAbs_neg]; exact h
theorem sz_add (h : Sz a x) (k : Sz b y) : Sz (max a b + 1) (x + y) := by
  have h1 := (h.mono (Nat.le_max_left a b) : Sz (max a b) x)
  have h2 := (k.mono (Nat.le_max_right a b) : Sz (max a b) y)
  unfold Sz at *
  rw [Nat.pow_succ]
  have := Int.natAbs_add_le x y
  omega
theorem sz_sub (h : Sz a x) (k : Sz b y) : Sz (max a b + 1) (x - y) := by
  rw [Int.sub_eq_add_neg]; exact sz_add h (sz_neg k)
theorem sz_mul (h : Sz a x) (k : Sz b y) : Sz (a + b) (x * y) := by
  unfold Sz at *
  rw [Int.natAbs_mul, Nat.pow_add]
  exact Nat.mul_lt_mul'' h k
theorem sz_mod (h0 : 0 < y) (k : Sz b y) : Sz b (x % y) := sz_lt (Int.emod_nonneg _ (by omega)) (Int.emod_lt_of_pos _ h0) k
theorem sz_log (h : Sz a x) (h0 : 0 < a) : x.natAbs.log2 < a := by
  by_cases z : x.natAbs = 0
  · have e : Nat.log2 0 = 0 := by decide
    rw [z, e]; exact h0
  · exact (Nat.log2_lt z).mpr h
theorem sz_bits (h : Sz a x) : Builtin.Int.intBits x ≤ a := by
  unfold Builtin.Int.intBits
  split
  · exact Nat.zero_le _
  · rename_i z
    have z' : x.natAbs ≠ 0 := fun q => z (by simpa using q)
    have := (Nat.log2_lt z').mpr h
    omega
theorem mulok (h : Sz a x) (k : Sz b y) (hab : a + b ≤ 1000000) : IntMulOk x y := by
  have h1 := sz_bits h
  have h2 := sz_bits k
  have e : bitsLine = 134217728 := by decide
  unfold IntMulOk
  intro z
  rw [Bool.and_eq_true] at z
  have z2 := z.2
  unfold Builtin.Int.intTooBig at z2
  have z3 := of_decide_eq_true z2
  rw [e] at z3
  omega
theorem mulok_r (h1 : -(2 ^ 64) < y) (h2 : y < 2 ^ 64) : IntMulOk x y := .of_right (intBits_le_64 h1 h2)
theorem mulok_l (h1 : -(2 ^ 64) < x) (h2 : x < 2 ^ 64) : IntMulOk x y := .of_left (intBits_le_64 h1 h2)
theorem divok (h : 0 < y) (k : Sz b y) (hb : 0 < b) (h9 : b ≤ 9000) : CDivX x y := ⟨h, Nat.lt_of_lt_of_le (sz_log k hb) h9⟩
theorem sz_nat {k : Nat} (h : k < 2 ^ n) : Sz n (k : Int) := by unfold Sz; simpa using h
end
theorem ite_dec {p : Prop} [Decidable p] {A B : Prop} (h1 : p → A) (h2 : ¬ p → B) : if decide p = true then A else B := by
  by_cases h : p
  · rw [if_pos (decide_eq_true h)]; exact h1 h
  · rw [if_neg (by simp [h])]; exact h2 h
theorem ite_ndec {p : Prop} [Decidable p] {A B : Prop} (h1 : ¬ p → A) (h2 : p → B) : if (!decide p) = true then A else B := by
  by_cases h : p
  · rw [if_neg (by simp [h])]; exact h2 h
  · rw [if_pos (by simp [h])]; exact h1 h
theorem ite_yes {p : Prop} [Decidable p] {A B : Prop} (h : p) (k : A) : if decide p = true then A else B := by rw [if_pos (decide_eq_true h)]; exact k
theorem ite_no {p : Prop} [Decidable p] {A B : Prop} (h : ¬ p) (k : B) : if decide p = true then A else B := by rw [if_neg (by simp [h])]; exact k
theorem ite_nyes {p : Prop} [Decidable p] {A B : Prop} (h : ¬ p) (k : A) : if (!decide p) = true then A else B := by rw [if_pos (by simp [h])]; exact k
theorem ite_nno {p : Prop} [Decidable p] {A B : Prop} (h : p) (k : B) : if (!decide p) = true then A else B := by rw [if_neg (by simp [h])]; exact k
theorem ite_t {A B : Prop} (k : A) : if true = true then A else B := by rw [if_pos rfl]; exact k
theorem ite_f {A B : Prop} (k : B) : if false = true then A else B := by rw [if_neg Bool.false_ne_true]; exact k
end Pd
namespace Pd
open PySem PySem.Spec PyProof.Rows L2
structure Bi (B : Bx) (n : Str) (id : String) : Prop where
  g : Gl B.X n
  m : B.X.mg n = none
  v : bootBuiltins n = some (.builtin id)
structure Bt (B : Bx) (n : Str) (T : String) : Prop where
  g : Gl B.X n
  m : B.X.mg n = none
  v : bootBuiltins n = some (.type T)
section
variable {B : Bx} {a b c e tg : Expr} {es : List Expr} {ρ : DE} {m : Mem} {Q : D → Mem → Prop} {N : DE → Mem → Prop} {R : RR} {pos p2 : Pos} {st : Stmt} {body rest orelse : List Stmt} {n x : Str} {i : Nat} {d : D} {id T : String} {P : PD}
theorem we_bi (h0 : Bi B n id) (h : WA B (e :: es) ρ m fun ds m1 => WC B (.builtin id) ds m1 Q) (hn : n ≠ "__name__") (hdb : (n == ("__debug__" : Str)) = false)
    (he : starEach (e :: es) B.X.env = (false, eval e B.X.env) :: starEach es B.X.env) (hpl : (backTo pos (starEach es B.X.env)).any (·.1) = false) : WE B (.Call (.Name n p2) (e :: es) [] pos) ρ m Q := we_callB h0.g h0.m h0.v h hn hdb he hpl
theorem we_bt (h0 : Bt B n T) (h : WA B (e :: es) ρ m fun ds m1 => WC B (.type T) ds m1 Q) (hn : n ≠ "__name__") (hdb : (n == ("__debug__" : Str)) = false)
    (he : starEach (e :: es) B.X.env = (false, eval e B.X.env) :: starEach es B.X.env) (hpl : (backTo pos (starEach es B.X.env)).any (·.1) = false) : WE B (.Call (.Name n p2) (e :: es) [] pos) ρ m Q := we_callTy h0.g h0.m h0.v h hn hdb he hpl
theorem ws_for_r1 {p : Pos} {a : Expr} (k : Bok B) (h0 : Bt B "range" "range") 
    (h : WE B a ρ m fun d m1 => ∃ j : Int, d = .int j ∧ -(2 ^ 62) ≤ j ∧ j < 2 ^ 62 ∧ forD B tg body R (rngD 0 j.toNat) ρ m1) (h1 : starEach [a] B.X.env = (false, eval a B.X.env) :: starEach [] B.X.env) (hs1 : starEach [a] B.X.env = [(false, eval a B.X.env)])
    (hs : ∀ x, foldedSetIterable (.Call (.Name "range" p) [a] [] p2) B.X.env x = pure x) : WS B (.For tg (.Call (.Name "range" p) [a] [] p2) body [] pos) ρ m R := ws_for_range1 k.pss k.calm h0.g h0.m h h1 hs1 hs
theorem ws_for_l (k : Bok B) (h : WE B e ρ m fun d m1 => ∃ ds, d = .lst ds ∧ forD B tg body R ds ρ m1) (hs : ∀ x, foldedSetIterable e B.X.env x = pure x) : WS B (.For tg e body [] pos) ρ m R := ws_for_list (ds := []) k.pss k.calm h hs
theorem ws_for_t (k : Bok B) (h : WE B e ρ m fun d m1 => ∃ ds, d = .tup ds ∧ forD B tg body R ds ρ m1) (hs : ∀ x, foldedSetIterable e B.X.env x = pure x) : WS B (.For tg e body [] pos) ρ m R := ws_for_tup (ds := []) k.pss k.calm h hs
structure GCal (B : Bx) (n : Str) (P : PD) : Prop where
  g : Gl B.X n
  c : Cal B n P
theorem we_gc (h0 : GCal B n P) (h : WA B (e :: es) ρ m fun ds m1 => ∃ Xd, P ds m1 Q Xd ∧ XOK B Xd) (hdb : (n == ("__debug__" : Str)) = false := by decide)
    (he : starEach (e :: es) B.X.env = (false, eval e B.X.env) :: starEach es B.X.env) (hpl : (backTo pos (starEach es B.X.env)).any (·.1) = false) : WE B (.Call (.Name n p2) (e :: es) [] pos) ρ m Q := we_call h0.g h0.c h hdb he hpl
theorem we_gc0 (h0 : GCal B n P) (h : ∃ Xd, P [] m Q Xd ∧ XOK B Xd) (hdb : (n == ("__debug__" : Str)) = false := by decide) : WE B (.Call (.Name n p2) [] [] pos) ρ m Q := we_call0 h0.g h0.c h hdb
end
section
variable (P : Program) (w : World) (K : PySem.W.Frag) (mg : Str → Option Value) (base : Heap)
structure GDef (x : Str) (st : Stmt) (ps : List Str) : Prop where
  ex : ∃ (f : Addr) (fd : FuncData), mg x = some (.ref f) ∧ Fun K x x st f fd ∧ Binds K fd ps []
structure GF (x : Str) (k : Nat) (PP : PD) : Prop where
  ex : ∃ (f : Addr) (fd : FuncData) (ps : List Str), mg x = some (.ref f) ∧ PySem.W.keepIn K (.ref f) = true ∧ Binds K fd ps [] ∧ FnOk P w K mg base (L2.CX P w) k f fd ps (spD K PP)
end
section
variable {P : Program} {w : World} {K : PySem.W.Frag} {mg : Str → Option Value} {base : Heap}
theorem cal_of {B : Bx} {x : Str} {k k' : Nat} {PP : PD} (g : GF P w K mg base x k PP) (hr : Room k' B.X.A) (hk : k ≤ k') (h : B.X.prog = P ∧ B.X.w = w ∧ B.X.K = K ∧ B.X.mg = mg ∧ B.X.base = base) (hg : Gl B.X x) : GCal B x PP := by
  obtain ⟨f, fd, ps, h1, h2, h3, h4⟩ := g.ex
  obtain ⟨rfl, rfl, rfl, rfl, rfl⟩ := h
  exact ⟨hg, ⟨f, h1, h2, runs_fn h4 (hr.mono hk) h3⟩⟩
theorem gf_ok {N ps : List Str} {k : Nat} {PP : PD} {x : Str} {st : Stmt} (D : GDef K mg x st ps) (S : FnScope N ps (defScope st)) (len : ∀ ds m Q Xd, PP ds m Q Xd → ds.length = ps.length)
    (hbody : ∀ (B : Bx) (f : Addr) (cdv : Value) (A : Around) (outer : List Env) (s : Shared) (H : Hp) (E : XK), B.X = cxOf (L2.CX P w) P w K mg base N x (defScope st) f cdv A outer s H E → Room k B.X.A → Bok B → ∀ ds m Q Xd, PP ds m Q Xd → XOK B Xd →
      WSs B (defBody st) (startD 0 ds) m { nx := fun _ m' => Q .non m', rt := Q }) : GF P w K mg base x (k + 1) PP := by
  obtain ⟨f, fd, h1, F, hb⟩ := D.ex
  refine ⟨f, fd, ps, h1, F.kp, hb, ?_⟩
  obtain ⟨oc, od, kV, doc, pm, an, cdv, ct, osl, e1, e2, e3⟩ := F.ex
  exact fn_okD ⟨oc, od, .none, kV, doc, pm, an, cdv, ct, osl, e1, e2, e3⟩ S len fun B cdv A outer s H E hB hr hp ds m Q Xd h hx => hbody B f cdv A outer s H E hB hr ⟨by rw [hB]; exact S.nd, by rw [hB]; rfl, hp⟩ ds m Q Xd h hx
end
theorem boot_len' : bootBuiltins "len" = some (.builtin "len") := by decide +kernel
theorem boot_abs' : bootBuiltins "abs" = some (.builtin "abs") := by decide +kernel
theorem boot_int' : bootBuiltins "int" = some (.type "int") := by decide +kernel
theorem boot_str' : bootBuiltins "str" = some (.type "str") := by decide +kernel
theorem boot_range' : bootBuiltins "range" = some (.type "range") := by decide +kernel
theorem boot_list' : bootBuiltins "list" = some (.type "list") := by decide +kernel
theorem boot_tuple' : bootBuiltins "tuple" = some (.type "tuple") := by decide +kernel
theorem boot_bool' : bootBuiltins "bool" = some (.type "bool") := by decide +kernel
theorem boot_isinstance' : bootBuiltins "isinstance" = some (.builtin "isinstance") := by decide +kernel
theorem boot_sum' : bootBuiltins "sum" = some (.builtin "sum") := by decide +kernel
theorem boot_enumerate' : bootBuiltins "enumerate" = some (.type "enumerate") := by decide +kernel
end Pd
namespace Pd
open PySem PySem.Spec PyProof.Rows L2
def Has (ρ ρ0 : DE) : Prop := ∀ i d, lk ρ0 i = some d → lk ρ i = some d
theorem has_nil {ρ : DE} : Has ρ [] := fun _ _ h => by cases h
theorem has_cons {ρ ρ0 : DE} {i : Nat} {d : D} (h : lk ρ i = some d) (k : Has ρ ρ0) : Has ρ ((i, d) :: ρ0) := fun j e q => by
  rw [lk_cons] at q
  by_cases z : i = j
  · subst z; rw [if_pos rfl] at q; cases q; exact h
  · rw [if_neg z] at q; exact k j e q
theorem Has.up {ρ ρ0 : DE} {i : Nat} {d : D} (h : Has ρ ρ0) (n : lk ρ0 i = none) : Has ((i, d) :: ρ) ρ0 := fun j e q => by
  rw [lk_cons]
  by_cases z : i = j
  · subst z; rw [n] at q; cases q
  · rw [if_neg z]; exact h j e q
theorem Has.at_ {ρ ρ0 : DE} {i : Nat} {d : D} (h : Has ρ ρ0) (n : lk ρ0 i = some d) : lk ρ i = some d := h i d n
section
variable {B : Bx} {a b c e tg : Expr} {es : List Expr} {ρ : DE} {m : Mem} {Q : D → Mem → Prop} {N : DE → Mem → Prop} {R : RR} {pos p2 : Pos} {st : Stmt} {body rest orelse : List Stmt} {x : Str} {i : Nat} {d : D} {ds : List D}
theorem WG.mono {N' : DE → Mem → Prop} (h : WG B tg d ρ m N) (i : ∀ ρ m, N ρ m → N' ρ m) : WG B tg d ρ m N' := fun G σ H v s r c rd N2 k => h G σ H v s r c rd N2 fun a b c d e f g j l => k a b c d e f g j (i _ _ l)
theorem WS.mono {R' : RR} (h : WS B st ρ m R) (h1 : ∀ ρ m, R.nx ρ m → R'.nx ρ m) (h2 : ∀ d m, R.rt d m → R'.rt d m) (h3 : ∀ ρ m, R.bk ρ m → R'.bk ρ m) (h4 : ∀ ρ m, R.ct ρ m → R'.ct ρ m) : WS B st ρ m R' := fun G σ H s r c D k =>
  h G σ H s r c D ⟨fun a b c d e f g i j => k.nx a b c d e f g i (h1 _ _ j), fun a b c d e f g i j => k.rt a b c d e f g i (h2 _ _ j), fun a b c d e f g i j => k.bk a b c d e f g i (h3 _ _ j), fun a b c d e f g i j => k.ct a b c d e f g i (h4 _ _ j)⟩
theorem ws_join (J : DE → Mem → Prop) (h : WS B st ρ m { R with nx := J }) (k : ∀ ρ' m', J ρ' m' → R.nx ρ' m') : WS B st ρ m R := h.mono k (fun _ _ q => q) (fun _ _ q => q) fun _ _ q => q
theorem forD_inv (I : List D → DE → Mem → Prop) (h : ∀ d ds ρ m, I (d :: ds) ρ m → WG B tg d ρ m fun ρ1 m1 => WSs B body ρ1 m1 { nx := I ds, rt := R.rt, bk := R.nx, ct := I ds }) (h0 : ∀ ρ m, I [] ρ m → R.nx ρ m) : ∀ ds ρ m, I ds ρ m → forD B tg body R ds ρ m
  | [], ρ, m, i => h0 ρ m i
  | d :: ds, ρ, m, i => (h d ds ρ m i).mono fun ρ1 m1 q => q.mono (forD_inv I h h0 ds) (fun _ _ q => q) (fun _ _ q => q) (forD_inv I h h0 ds)
theorem szl {n : Nat} (h : n ≤ 1000) : n ≤ sizeLine := Nat.le_of_lt (small1000 h)
end
end Pd
namespace Pd
open PySem PySem.Spec PyProof.Rows L2
section
variable {B : Bx} {m : Mem} {Q : D → Mem → Prop} {i : Int} {l : List D}
theorem wi_tupA (h0 : 0 ≤ i) (h1 : i < l.length) (q : ∀ d, d ∈ l → Q d m) : WI B (.tup l) (.int i) m Q := by
  obtain ⟨d, a, b, _⟩ := atI_in h0 h1
  exact wi_tup b (q d a)
theorem wi_listA (h0 : 0 ≤ i) (h1 : i < l.length) (q : ∀ d, d ∈ l → Q d m) : WI B (.lst l) (.int i) m Q := by
  obtain ⟨d, a, b, _⟩ := atI_in h0 h1
  exact wi_list b (q d a)
end
theorem all_nil {α : Type} {P : α → Prop} : ∀ d, d ∈ ([] : List α) → P d := fun _ h => by cases h
theorem all_cons {α : Type} {P : α → Prop} {a : α} {l : List α} (h : P a) (k : ∀ d, d ∈ l → P d) : ∀ d, d ∈ a :: l → P d := fun d q => by
  rcases List.mem_cons.mp q with e | q
  · subst e; exact h
  · exact k d q
end Pd
namespace Pd
open PySem PySem.Spec PyProof.Rows L2
theorem Runs.imp {B : Bx} {f : Value} {P P' : PD} (r : Runs B f P) (h : ∀ ds m Q Xd, P' ds m Q Xd → P ds m Q Xd) : Runs B f P' := fun pins s σ H us vs ds m G Q Qd Xd I rv s0 c rd hp => r pins s σ H us vs ds m G Q Qd Xd I rv s0 c rd (h ds m Qd Xd hp)
theorem Runs.or {B : Bx} {f : Value} {P P' : PD} (r : Runs B f P) (r' : Runs B f P') : Runs B f (fun ds m Q Xd => P ds m Q Xd ∨ P' ds m Q Xd) := fun pins s σ H us vs ds m G Q Qd Xd I rv s0 c rd hp => by
  rcases hp with hp | hp
  · exact r pins s σ H us vs ds m G Q Qd Xd I rv s0 c rd hp
  · exact r' pins s σ H us vs ds m G Q Qd Xd I rv s0 c rd hp
section
variable {B : Bx} {ρ : DE} {m : Mem} {Q : D → Mem → Prop} {R : RR} {st : Stmt} {body rest : List Stmt} {p : Addr} {l : List D} {i : Nat} {C dx : Addr} {fl : List (Str × D)}
theorem wss_fz (i : Nat) (h : lk ρ i = some (.ref p)) (hm : m p = some (.lst l)) (k : WSs B rest ((i, .lst l) :: ρ) (mdel m p) R) : WSs B rest ρ m R := fun G σ H s r c D kk => by
  obtain ⟨o, h1, h2, h3, h4⟩ := c.freeze hm
  obtain ⟨xs, rfl, rx⟩ := h2
  refine k _ σ H (s.trans h3) ⟨r.len, fun j d e => ?_⟩ h4 D (kk.sub h3)
  rw [lk_cons] at e
  by_cases z : i = j
  · subst z
    rw [if_pos rfl] at e
    cases e
    obtain ⟨v, e1, e2⟩ := r.at_ i _ h
    exact ⟨v, e1, p, xs, e2, SqL.of upd_same, Reps.sub h3 _ _ rx⟩
  · rw [if_neg z] at e
    obtain ⟨v, e1, e2⟩ := r.at_ j d e
    exact ⟨v, e1, Rep.sub h3 _ _ e2⟩
theorem wss_drop (p : Addr) (k : WSs B rest ρ (mdel m p) R) : WSs B rest ρ m R := fun G σ H s r c D kk => k G σ H s r c.drop D kk
end
section
variable (P : Program) (w : World) (K : PySem.W.Frag) (mg : Str → Option Value) (base : Heap)
def DefAt (x qual : Str) (st : Stmt) (f : Addr) (fd : FuncData) : Prop := ∃ (oc : Value) (od : Option Addr) (dV kV doc pm : Value) (an : Option Addr) (cdv ct : Value) (osl : Array (Option Value)),
  fd = PySem.W.fnOf x qual (defArgs st) (defBody st) (defScope st) dV kV doc pm an cdv ct ∧ K.lookup f = some ⟨oc, od, .func fd, osl⟩ ∧ PySem.W.codeIn K cdv qual = true
structure MDef (C : Addr) (n qual : Str) (st : Stmt) (ps : List Str) : Prop where
  ex : ∃ (f : Addr) (fd : FuncData), Meth K C n f ∧ DefAt K n qual st f fd ∧ Binds K fd ps []
structure MF (C : Addr) (n : Str) (k : Nat) (PP : PD) : Prop where
  ex : ∃ (f : Addr) (fd : FuncData) (ps : List Str), Meth K C n f ∧ Binds K fd ps [] ∧ FnOk P w K mg base (L2.CX P w) k f fd ps (spD K PP)
structure CDef (x : Str) (C : Addr) (qual : Str) (st : Stmt) (dvs : List V) (kws : List (Str × V)) : Prop where
  ex : ∃ (f : Addr) (fd : FuncData), mg x = some (.ref C) ∧ Mk K C f ∧ FunD K "__init__" qual (defArgs st) (defBody st) (defScope st) dvs kws f fd
structure CF (x : Str) (C : Addr) (qual : Str) (st : Stmt) (ps : List Str) (k : Nat) (dvs : List V) (kws : List (Str × V)) (PP : PD) : Prop where
  ex : ∃ (f : Addr) (fd : FuncData), mg x = some (.ref C) ∧ Mk K C f ∧ FunD K "__init__" qual (defArgs st) (defBody st) (defScope st) dvs kws f fd ∧ FnOk P w K mg base (L2.CX P w) k f fd ps (spD K PP)
end
section
variable {P : Program} {w : World} {K : PySem.W.Frag} {mg : Str → Option Value} {base : Heap}
abbrev Hs (P : Program) (w : World) (K : PySem.W.Frag) (mg : Str → Option Value) (base : Heap) (B : Bx) : Prop := B.X.prog = P ∧ B.X.w = w ∧ B.X.K = K ∧ B.X.mg = mg ∧ B.X.base = base
theorem calm_of {B : Bx} {C : Addr} {n : Str} {k k' : Nat} {PP : PD} (g : MF P w K mg base C n k PP) (hr : Room k' B.X.A) (hk : k ≤ k') (h : Hs P w K mg base B) : CalM B C n PP := by
  obtain ⟨f, fd, ps, h1, h3, h4⟩ := g.ex
  obtain ⟨rfl, rfl, rfl, rfl, rfl⟩ := h
  exact ⟨f, h1, runs_fn h4 (hr.mono hk) h3⟩
theorem calc_of {B : Bx} {x : Str} {C : Addr} {qual : Str} {st : Stmt} {ps : List Str} {k k' : Nat} {dvs dv : List V} {kws : List (Str × V)} {PP : PD} (dl : List D) (g : CF P w K mg base x C qual st ps k dvs kws PP) (hr : Room k' B.X.A) (hk : k + 1 ≤ k') (h : Hs P w K mg base B) (hg : Gl B.X x)
    (hb : ∀ f fd, FunD K "__init__" qual (defArgs st) (defBody st) (defScope st) dvs kws f fd → ∃ ds, Vals dv ds ∧ Binds K fd ps ds) (hd : ∀ G, Reps K G dl dv) : GCal B x (mkP C fun ds => PP (ds ++ dl)) := by
  obtain ⟨f, fd, h1, h2, h3, h6⟩ := g.ex
  obtain ⟨ds, h4, h5⟩ := hb f fd h3
  obtain ⟨rfl, rfl, rfl, rfl, rfl⟩ := h
  exact ⟨hg, ⟨C, h1, h2.kp, runs_mk h2 h6 (hr.mono hk) h5 h4 fun G _ => hd G⟩⟩
theorem GCal.or {B : Bx} {x : Str} {P P' : PD} (g : GCal B x P) (g' : GCal B x P') : GCal B x (fun ds m Q Xd => P ds m Q Xd ∨ P' ds m Q Xd) := by
  obtain ⟨f, a, b, c⟩ := g.c.ex
  obtain ⟨f', a', b', c'⟩ := g'.c.ex
  rw [a] at a'
  cases a'
  exact ⟨g.g, ⟨f, a, b, Runs.or c c'⟩⟩
structure GCalK (B : Bx) (x : Str) (n : Nat) (ks : List Str) (P : List D → PD) : Prop where
  g : Gl B.X x
  ex : ∃ f : Addr, B.X.mg x = some (.ref f) ∧ PySem.W.keepIn B.X.K (.ref f) = true ∧ RunsK B (.ref f) n ks P
theorem GCalK.imp {B : Bx} {x : Str} {n : Nat} {ks : List Str} {P P' : List D → PD} (g : GCalK B x n ks P) (h : ∀ es ds m Q Xd, es.length = ks.length → ds.length = n → P' es ds m Q Xd → P es ds m Q Xd) : GCalK B x n ks P' :=
  ⟨g.g, let ⟨f, a, b, c⟩ := g.ex; ⟨f, a, b, fun pins s σ H us vs ws zs ds es m G Q Qd Xd I rv rz l1 l2 s0 cu rd re hp => c pins s σ H us vs ws zs ds es m G Q Qd Xd I rv rz l1 l2 s0 cu rd re (h es ds m Qd Xd (by rw [← reps_len re, rz.length]; exact l2) (by rw [← reps_len rd, rv.length]; exact l1) hp)⟩⟩
theorem calk_of {B : Bx} {x : Str} {C : Addr} {qual : Str} {st : Stmt} {ps ks : List Str} {n k k' : Nat} {dvs : List V} {kws : List (Str × V)} {PP : PD} {gV gV' : List V → List V → List V} {gD : List D → List D → List D} (g : CF P w K mg base x C qual st ps k dvs kws PP) (hr : Room k' B.X.A) (hk : k + 1 ≤ k') (h : Hs P w K mg base B) (hg : Gl B.X x)
    (hb : ∀ f fd, FunD K "__init__" qual (defArgs st) (defBody st) (defScope st) dvs kws f fd → ∃ g g' : List Value → List Value → List Value, KBn K fd ps (n + 1) ks g gV ∧ ∀ x us ws, g (x :: us) ws = x :: g' us ws) (hgV : ∀ x vs zs, gV (x :: vs) zs = x :: gV' vs zs)
    (hD : ∀ G ds es vs zs, Reps K G ds vs → Reps K G es zs → Reps K G (gD ds es) (gV' vs zs)) : GCalK B x n ks (fun es ds => mkP C PP (gD ds es)) := by
  obtain ⟨f, fd, h1, h2, h3, h6⟩ := g.ex
  obtain ⟨gg, g', h4, h5⟩ := hb f fd h3
  obtain ⟨rfl, rfl, rfl, rfl, rfl⟩ := h
  exact ⟨hg, ⟨C, h1, h2.kp, runs_mkK h2 h6 (hr.mono hk) h4 h5 hgV fun G ds es vs zs _ => hD G ds es vs zs⟩⟩
theorem GCal.imp {B : Bx} {x : Str} {P P' : PD} (g : GCal B x P) (h : ∀ ds m Q Xd, P' ds m Q Xd → P ds m Q Xd) : GCal B x P' := ⟨g.g, let ⟨f, a, b, c⟩ := g.c.ex; ⟨f, a, b, c.imp h⟩⟩
theorem CalM.imp {B : Bx} {C : Addr} {n : Str} {P P' : PD} (g : CalM B C n P) (h : ∀ ds m Q Xd, P' ds m Q Xd → P ds m Q Xd) : CalM B C n P' := ⟨let ⟨f, a, c⟩ := g.ex; ⟨f, a, c.imp h⟩⟩
theorem fn_ok2 {N ps : List Str} {k : Nat} {PP : PD} {x qual : Str} {st : Stmt} {f : Addr} {fd : FuncData} (F : DefAt K x qual st f fd) (S : FnScope N ps (defScope st)) (len : ∀ ds m Q Xd, PP ds m Q Xd → ds.length = ps.length)
    (hbody : ∀ (B : Bx) (f : Addr) (cdv : Value) (A : Around) (outer : List Env) (s : Shared) (H : Hp) (E : XK), B.X = cxOf (L2.CX P w) P w K mg base N qual (defScope st) f cdv A outer s H E → Room k B.X.A → Bok B → ∀ ds m Q Xd, PP ds m Q Xd → XOK B Xd →
      WSs B (defBody st) (startD 0 ds) m { nx := fun _ m' => Q .non m', rt := Q }) : FnOk P w K mg base (L2.CX P w) (k + 1) f fd ps (spD K PP) := by
  obtain ⟨oc, od, dV, kV, doc, pm, an, cdv, ct, osl, e1, e2, e3⟩ := F
  exact fn_okD ⟨oc, od, dV, kV, doc, pm, an, cdv, ct, osl, e1, e2, e3⟩ S len fun B cdv A outer s H E hB hr hp ds m Q Xd h hx => hbody B f cdv A outer s H E hB hr ⟨by rw [hB]; exact S.nd, by rw [hB]; rfl, hp⟩ ds m Q Xd h hx
theorem mf_ok {N ps : List Str} {k : Nat} {PP : PD} {C : Addr} {n qual : Str} {st : Stmt} (GD : MDef K C n qual st ps) (S : FnScope N ps (defScope st)) (len : ∀ ds m Q Xd, PP ds m Q Xd → ds.length = ps.length)
    (hbody : ∀ (B : Bx) (f : Addr) (cdv : Value) (A : Around) (outer : List Env) (s : Shared) (H : Hp) (E : XK), B.X = cxOf (L2.CX P w) P w K mg base N qual (defScope st) f cdv A outer s H E → Room k B.X.A → Bok B → ∀ ds m Q Xd, PP ds m Q Xd → XOK B Xd →
      WSs B (defBody st) (startD 0 ds) m { nx := fun _ m' => Q .non m', rt := Q }) : MF P w K mg base C n (k + 1) PP := by
  obtain ⟨f, fd, h1, F, hb⟩ := GD.ex
  exact ⟨f, fd, ps, h1, hb, fn_ok2 F S len hbody⟩
theorem cf_ok {N ps : List Str} {k : Nat} {PP : PD} {C : Addr} {x qual : Str} {st : Stmt} {dvs : List V} {kws : List (Str × V)} (GD : CDef K mg x C qual st dvs kws) (S : FnScope N ps (defScope st)) (len : ∀ ds m Q Xd, PP ds m Q Xd → ds.length = ps.length)
    (hbody : ∀ (B : Bx) (f : Addr) (cdv : Value) (A : Around) (outer : List Env) (s : Shared) (H : Hp) (E : XK), B.X = cxOf (L2.CX P w) P w K mg base N qual (defScope st) f cdv A outer s H E → Room k B.X.A → Bok B → ∀ ds m Q Xd, PP ds m Q Xd → XOK B Xd →
      WSs B (defBody st) (startD 0 ds) m { nx := fun _ m' => Q .non m', rt := Q }) : CF P w K mg base x C qual st ps (k + 1) dvs kws PP := by
  obtain ⟨f, fd, h1, h2, h3⟩ := GD.ex
  refine ⟨f, fd, h1, h2, h3, ?_⟩
  obtain ⟨oc, od, dV, kV, doc, pm, an, cdv, ct, osl, e1, e2, e3, _⟩ := h3.ex
  exact fn_ok2 ⟨oc, od, dV, kV, doc, pm, an, cdv, ct, osl, e1, e2, e3⟩ S len hbody
end
end Pd
namespace Pd
open PySem
theorem putD_len (f : Str) (d : D) : ∀ l : List (Str × D), (putD f d l).length ≤ l.length + 1
  | [] => Nat.le_refl _
  | (g, u) :: l => by
    unfold putD
    split
    · exact Nat.le_succ _
    · simp only [List.length_cons]; exact Nat.succ_le_succ (putD_len f d l)
theorem putD_lt {f : Str} {d : D} {l : List (Str × D)} {n : Nat} (h : l.length < n) : (putD f d l).length < n + 1 := Nat.lt_of_le_of_lt (putD_len f d l) (Nat.succ_lt_succ h)
end Pd
namespace Pd
open PySem PySem.Spec PyProof.Rows L2
def pLaw : PD := fun ds m Q _ => ∃ (ns : List Int), ds = [.lst (ns.map D.int)] ∧ ns.length ≤ 63 ∧ (∀ z ∈ ns, Builtin.Int.intBits z ≤ 1048576) ∧ ∀ m', Q (.bl true) m'
theorem reps_ints {K : PySem.W.Frag} {G : Hp} : ∀ ns : List Int, Reps K G (ns.map D.int) (ns.map V.int)
  | [] => rfl
  | n :: ns => ⟨.int n, ns.map V.int, rfl, rfl, reps_ints ns⟩
theorem law_sp {K : PySem.W.Frag} {H : Hp} {a : Addr} {ns : List Int} (hl : ns.length ≤ 63) (hz : ∀ z ∈ ns, Builtin.Int.intBits z ≤ 1048576) (hS : SqL K H a (ns.map V.int)) : spD K pLaw [.ref a] H (fun v _ => v = .bl true) fun _ _ _ => False := by
  refine ⟨H, fun _ => none, [.lst (ns.map D.int)], fun d _ => d = .bl true, noX, ⟨Sub.refl _, fun a o e => by cases e⟩, ⟨.ref a, [], rfl, ⟨a, ns.map V.int, rfl, hS, reps_ints ns⟩, rfl⟩, ⟨ns, rfl, hl, hz, fun _ => rfl⟩, ?_, ?_⟩
  · intro v d m' G' H' _ _ r e
    subst e
    exact r
  · intro C d l m' G' H' _ _ _ z
    exact z.elim
theorem law_walk {l : PySem.W.OpenLaw} {k : Nat} {x : Str} {q : Program} {loose : List Str} {XP : (Str → Option Value) → Heap → Prop} {YP : World → Heap → Prop} {d : DefRec} {K : Params → PySem.W.Frag} (hn : l.most = some 63) (hdf : d.params.defaults = []) (hr : Room k callerA)
    (hY : ∀ (w : World) (h : Heap), YP w h → (K w.params).In h)
    (F : ∀ (w : World) (mg : Str → Option Value) (fa : Addr) (h : Heap), (K w.params).In h → h.Ns mainGlobals mg → mg d.name = some (.ref fa) →
      ∃ fd : FuncData, (∀ (s : Shared) (u : Value), BindsTo s fd ⟨[u], []⟩ [(x, u)]) ∧ ∀ base : Heap, (K w.params).In base → base.Ns mainGlobals mg → FnOk l.prog w (K w.params) mg base (L2.CX l.prog w) k fa fd [x] (spD (K w.params) pLaw)) :
    PySem.W.WalkO q loose XP YP l.row.toRowW d [] (fun f vs => PySem.call f vs) :=
  L2.walk_ofB (n := 63) (k := k) (x := x) (CX := fun w => L2.CX l.prog w) (sp := fun w => spD (K w.params) pLaw) hn (by decide) hdf hr hY F (fun w H a ns hl hz _ hS => law_sp hl hz hS) fun w H s e s' h => by
    obtain ⟨_, _, _, _, _, _, _, _, _, _, _, _, z⟩ := h
    exact z
theorem gf_at {P : Program} {w : World} {K : PySem.W.Frag} {mg : Str → Option Value} {base : Heap} {x p : Str} {k : Nat} {PP : PD} {N : List Str} {st : Stmt} {f : Addr} {fd : FuncData} (GD : GDef K mg x st [p]) (F : Fun K x x st f fd) (hm : mg x = some (.ref f)) (g : ∀ f fd, Fun K x x st f fd → FnOk P w K mg base (L2.CX P w) k f fd [p] (spD K PP)) :
    FnOk P w K mg base (L2.CX P w) k f fd [p] (spD K PP) := g f fd F
theorem lf_ok {P : Program} {w : World} {K : PySem.W.Frag} {mg : Str → Option Value} {base : Heap} {N ps : List Str} {k : Nat} {PP : PD} {x : Str} {st : Stmt} {f : Addr} {fd : FuncData} (F : Fun K x x st f fd) (S : FnScope N ps (defScope st)) (len : ∀ ds m Q Xd, PP ds m Q Xd → ds.length = ps.length)
    (hbody : ∀ (B : Bx) (f : Addr) (cdv : Value) (A : Around) (outer : List Env) (s : Shared) (H : Hp) (E : XK), B.X = cxOf (L2.CX P w) P w K mg base N x (defScope st) f cdv A outer s H E → Room k B.X.A → Bok B → ∀ ds m Q Xd, PP ds m Q Xd → XOK B Xd →
      WSs B (defBody st) (startD 0 ds) m { nx := fun _ m' => Q .non m', rt := Q }) : FnOk P w K mg base (L2.CX P w) (k + 1) f fd ps (spD K PP) := by
  obtain ⟨oc, od, kV, doc, pm, an, cdv, ct, osl, e1, e2, e3⟩ := F.ex
  exact fn_ok2 ⟨oc, od, .none, kV, doc, pm, an, cdv, ct, osl, e1, e2, e3⟩ S len hbody
end Pd
namespace Pd
open PySem PySem.Spec PyProof.Rows L2
section
variable {prog : Program} {w : World} {A : Around} {E : Value → Shared → Prop} {s : Shared} {K : PySem.W.Frag} {x C L f : Addr} {h₀ : Heap} {mm : Str → Option Value} {ox : Obj} {od : Option Obj} {nm : String}
open PySem.W
theorem fills_R {M : Model} {h : Heap} {cd : ClassData} {rest : List Value} (X : K.In h) (hc : clsIn K C = some cd) (hm : cd.mro = .ref C :: rest) (h0 : findIn K (.ref C) (PySem.dunder nm) = some none)
    (hs : findIn K (.ref C) (dunderR nm) = some (some (.ref f))) : Looks M h (fillsNumberSlot (.ref C) nm) true := by
  intro A Q E s k q
  unfold fillsNumberSlot
  refine wpAny_bind ((looks_clsIn X hc).andThen (f := fun cd => pure cd.mro) .now A _ E s k ?_)
  rw [hm, List.anyM_cons]
  refine wpAny_bind ?_
  show wpAny M A (List.anyM _ [PySem.dunder nm, dunderR nm]) _ _ _
  rw [List.anyM_cons]
  refine wpAny_bind (wpAny_bind (looks_findIn X h0 A _ E s k ?_))
  refine wpAny_pure ?_
  dsimp only
  rw [List.anyM_cons]
  refine wpAny_bind (wpAny_bind (looks_findIn X hs A _ E s k ?_))
  dsimp only
  rw [if_pos (show (!ownNameWrapper (.ref f) (dunderR nm)) = true from rfl)]
  refine wpAny_pure ?_
  rw [if_pos rfl]
  refine wpAny_pure ?_
  rw [if_pos rfl]
  exact wpAny_pure q
structure RefOp (op : Operator) (idl : String) : Prop where
  fl : fillsNumberSlot (.type "int") op.info.2 = pure true
  sl : Slot "int" (PySem.dunder op.info.2) idl
  no : ∀ {prog : Program} {w : World} {A : Around} {E : Value → Shared → Prop} {s : Shared} {i : Int} {t : Tok} {x : Addr} {ox : Obj} {Q : Value → Shared → Prop}, s.heap.get? x = some ox → (∀ p, ox.data ≠ .prim p) → Q .notImplemented s →
    wpAny (model prog w) A (call (.builtin idl) [.int i t, .ref x]) Q E s
theorem asInt_no {M : Model} {A : Around} {E : Value → Shared → Prop} {s : Shared} {x : Addr} {ox : Obj} {Q : Option Int → Shared → Prop} (h : s.heap.get? x = some ox) (hn : ∀ p, ox.data ≠ .prim p) (q : Q none s) : wpAny M A (asInt? (.ref x)) Q E s := by
  unfold asInt?
  refine wpAny_bind (wpAny_load h ?_)
  rcases ox with ⟨c, d, dt, sl⟩
  cases dt <;> first | exact wpAny_pure q | exact absurd rfl (hn _)
theorem intBin_no {M : Model} {A : Around} {E : Value → Shared → Prop} {s : Shared} {i : Int} {t : Tok} {x : Addr} {ox : Obj} {Q : Fin → Shared → Prop} {n : String} {f : Int → Int → Sem Fin} (h : s.heap.get? x = some ox) (hn : ∀ p, ox.data ≠ .prim p) (q : Q (.done (.ret .notImplemented)) s) :
    wpAny M A (Builtin.Int.intBinary n f false ⟨[.int i t, .ref x], []⟩) Q E s := by
  unfold Builtin.Int.intBinary
  show wpAny M A (do let y ← asInt? (.ref x); _) Q E s
  exact wpAny_bind (asInt_no h hn (wpAny_bind (wpAny_rule (wpAny_pure q))))
theorem ref_add : RefOp .Add "int.__add__" := ⟨F.fills_int_add, F.slot_int_add, fun h hn q => wpAny_call_entry F.slot_int_add (typeIs_int _ _ _) F.entry_int_add (intBin_no h hn ⟨_, rfl, q⟩) (F.args_int_add_2 _ _)⟩
theorem ref_mul : RefOp .Mult "int.__mul__" := ⟨F.fills_int_mul, F.slot_int_mul, fun h hn q => wpAny_call_entry F.slot_int_mul (typeIs_int _ _ _) F.entry_int_mul (intBin_no h hn ⟨_, rfl, q⟩) (F.args_int_mul_2 _ _)⟩
theorem ref_mod : RefOp .Mod "int.__mod__" := ⟨F.fills_int_mod, F.slot_int_mod, fun h hn q => wpAny_call_entry F.slot_int_mod (typeIs_int _ _ _) F.entry_int_mod (intBin_no h hn ⟨_, rfl, q⟩) (F.args_int_mod_2 _ _)⟩
theorem ref_div : RefOp .FloorDiv "int.__floordiv__" := ⟨F.fills_int_floordiv, F.slot_int_floordiv, fun h hn q => wpAny_call_entry F.slot_int_floordiv (typeIs_int _ _ _) F.entry_int_floordiv
  (by
    show wpAny _ _ (do Builtin.exactOperandsForPylong false _; Builtin.Int.intBinary _ _ false _) _ _ _
    refine wpAny_bind ?_
    unfold Builtin.exactOperandsForPylong
    rw [if_pos (show List.any [Value.int _ _, Value.ref _] Value.onHeap = true from rfl)]
    dsimp only
    refine wpAny_bind (wpAny_pure (wpAny_bind (asInt_no h hn ?_)))
    exact wpAny_pure (intBin_no h hn ⟨_, rfl, q⟩)) (F.args_int_floordiv_2 _ _)⟩
theorem op_reflected {op : Operator} {idl : String} {i : Int} {t : Tok} {Q : Value → Shared → Prop} (Z : RefOp op idl) (F : Fr h₀ L s.heap mm) (X₀ : K.In h₀) (I : InstAt s.heap x ox C od) (hp : ∀ p, ox.data ≠ .prim p) (hc : selfFirst K C = true)
    (h0 : findIn K (.ref C) (PySem.dunder op.info.2) = some none ∨ ∃ g, findIn K (.ref C) (PySem.dunder op.info.2) = some (some (.ref g))) (hs : findIn K (.ref C) (dunderR op.info.2) = some (some (.ref f))) (hf : isFn K (.ref f) = true) (hsub : subIn K (.ref C) (.type "int") = some false)
    (h : wpAny (model prog w) A (call (.ref f) [.ref x, .int i t]) (PySem.W.CmpBack Q) E s) : wpAny (model prog w) A (binaryOp op (.int i t) (.ref x)) Q E s := by
  have X := X₀.keeps F.keep
  obtain ⟨cd, rest, hcd, hm⟩ := ksp_first hc
  obtain ⟨fl, sl, no⟩ := Z
  rcases hi : op.info with ⟨sym, nm'⟩
  rw [hi] at hs h0 fl sl
  dsimp only at hs h0 fl sl
  have one := ksp_try (name := dunderR nm') X I hs hf h
  have fr : Looks (model prog w) s.heap (fillsNumberSlot (.ref C) nm') true := by
    rcases h0 with h0 | ⟨g, h0⟩
    · exact fills_R X hcd hm h0 hs
    · exact fills_K X hcd hm h0
  have hne : (Value.type "int" == Value.ref C) = false := Bool.eq_false_iff.mpr fun q => by cases beq_iff_eq.mp q
  have hpy : numberSlotInPython (.type "int") nm' = pure false := rfl
  simp only [binaryOp, hi]
  refine wpAny_holding (wpAny_bind ?_)
  unfold binaryOp1
  refine wpAny_bind (wpAny_of_eq (show typeOf (.int i t) = pure (.type "int") from rfl) (wpAny_bind (I.type.here (wpAny_bind (wpAny_of_eq fl ?_)))))
  simp only [hne, Bool.false_eq_true, if_false]
  refine wpAny_bind (fr.here ?_)
  simp only [Bool.and_self, if_true]
  refine wpAny_bind ((looks_subIn X hsub).here ?_)
  simp only [Bool.false_eq_true, if_false, pure_bind, Bool.not_false, Bool.and_self, if_true, hpy]
  refine wpAny_bind (wpAny_tryMethod_declines (typeIs_int _ _ _) sl (no I.at_ hp ⟨rfl, ?_⟩))
  dsimp only
  refine wpAny_bind (wpAny_mono one (fun r s' hr' => ?_) fun _ _ e => e)
  obtain ⟨v, rfl, hq⟩ := hr'
  exact wpAny_bind (wpAny_rule (wpAny_pure (wpAny_pure hq)))
end
section
variable {B : Bx} {x y d : D} {m : Mem} {Q : D → Mem → Prop} {i j : Int} {p q C C' : Addr} {l ds : List D} {a b e o : Expr} {es : List Expr} {ρ : DE} {pos p2 apos : Pos} {N : DE → Mem → Prop} {R : RR} {P : PD} {n f : Str} {id T : String} {fl : List (Str × D)} {t : Bool}
theorem we_ty (h0 : Bt B n T) (q : Q (.ty T) m) (hn : n ≠ "__name__" := by decide) (hd : (n == ("__debug__" : Str)) = false := by decide) : WE B (.Name n pos) ρ m Q := fun G σ H s r c Q' k => teX_of (pe_bltn h0.g h0.m h0.v (v := .ty T) rfl hn hd) (c.vp k (d := .ty T) rfl q)
structure GCls (B : Bx) (n : Str) (C : Addr) : Prop where
  g : Gl B.X n
  m : B.X.mg n = some (.ref C)
theorem we_cls (h0 : GCls B n C) (q : Q (.ref C) m) (hd : (n == ("__debug__" : Str)) = false := by decide) : WE B (.Name n pos) ρ m Q := we_glob h0.g h0.m (v := .ref C) (d := .ref C) rfl rfl q hd
def tyD : D → Option String
  | .non => some "NoneType" | .bl _ => some "bool" | .int _ => some "int" | .str _ => some "str" | .tup _ => some "tuple" | .lst _ => some "list"
  | _ => none
theorem tyd_ok {K : PySem.W.Frag} {G H : Hp} {d : D} {v : V} {T : String} (r : Rep K G d v) (s : Sub G H) (h : tyD d = some T) : TyX K H v (.type T) := by
  cases d with
  | non => obtain rfl : v = .non := r; cases h; exact .base .non
  | bl b => obtain rfl : v = .bl b := r; cases h; exact .base (.bl b)
  | int b => obtain rfl : v = .int b := r; cases h; exact .base (.int b)
  | str b => obtain rfl : v = .str b := r; cases h; exact .base (.str b)
  | ref b => cases h
  | ty b => cases h
  | tup b =>
    obtain ⟨a, xs, rfl, hq, _⟩ := r
    cases h
    rcases SqT.sub s hq with (h | ⟨o, h⟩) | ⟨o, _, _, h1, h2, _⟩
    · exact .base (.tup h)
    · exact .fTuple h
    · exact .kTuple h1 h2
  | lst b =>
    obtain ⟨a, xs, rfl, hq, _⟩ := r
    cases h
    rcases SqL.sub s hq with (h | ⟨o, h⟩) | ⟨o, _, _, h1, h2, _⟩
    · exact .base (.lst h)
    · exact .base (.frz h)
    · exact .kList h1 h2
  | ins b c => cases h
theorem wc_isi {T' : String} (h : tyD d = some T) (hk : kitB T T' = some t) (q : Q (.bl t) m) : WC B (.builtin "isinstance") [d, .ty T'] m Q := wc_of call_isi fun G H vs c rd Q' k => by
  obtain ⟨v, u, rfl, r1, r2⟩ := rep2 rd
  obtain rfl : u = .ty T' := r2
  exact ⟨v, .ty T', _, _, t, rfl, .ty T', tyd_ok r1 c.ex h, kit_ty hk, c.vp k (d := .bl t) rfl q⟩
inductive DK where
  | non | bl | int | str | tup | lst
def dk : D → Option DK
  | .non => some .non | .bl _ => some .bl | .int _ => some .int | .str _ => some .str | .tup _ => some .tup | .lst _ => some .lst
  | _ => none
def DK.ty : DK → String
  | .non => "NoneType" | .bl => "bool" | .int => "int" | .str => "str" | .tup => "tuple" | .lst => "list"
theorem dk_ty {k : DK} (h : dk d = some k) : tyD d = some k.ty := by
  cases d <;> cases h <;> rfl
def isInt : DK → Bool | .int | .bl => true | _ => false
def isBool : DK → Bool | .bl => true | _ => false
def isStr : DK → Bool | .str => true | _ => false
def isList : DK → Bool | .lst => true | _ => false
def isTuple : DK → Bool | .tup => true | _ => false
theorem wc_isInt {k : DK} (h : dk d = some k) (q : Q (.bl (isInt k)) m) : WC B (.builtin "isinstance") [d, .ty "int"] m Q := by
  cases k <;> exact wc_isi (dk_ty h) (by decide +kernel) q
theorem wc_isBool {k : DK} (h : dk d = some k) (q : Q (.bl (isBool k)) m) : WC B (.builtin "isinstance") [d, .ty "bool"] m Q := by
  cases k <;> exact wc_isi (dk_ty h) (by decide +kernel) q
theorem wc_isStr {k : DK} (h : dk d = some k) (q : Q (.bl (isStr k)) m) : WC B (.builtin "isinstance") [d, .ty "str"] m Q := by
  cases k <;> exact wc_isi (dk_ty h) (by decide +kernel) q
theorem wc_isList {k : DK} (h : dk d = some k) (q : Q (.bl (isList k)) m) : WC B (.builtin "isinstance") [d, .ty "list"] m Q := by
  cases k <;> exact wc_isi (dk_ty h) (by decide +kernel) q
theorem wc_isTuple {k : DK} (h : dk d = some k) (q : Q (.bl (isTuple k)) m) : WC B (.builtin "isinstance") [d, .ty "tuple"] m Q := by
  cases k <;> exact wc_isi (dk_ty h) (by decide +kernel) q
structure OwnC (K : PySem.W.Frag) (C : Addr) : Prop where
  cl : Cls K C
  ha : PySem.W.findIn K (.ref C) "__class__" = some (some (.builtin "object.__class__"))
  hn : PySem.W.specialIn K (.builtin "object.__class__") "__get__" = some (some (.builtin "getset_descriptor.__get__"))
  htk : PySem.W.takesIn K (.builtin "object.__class__") = some true
  hm : PySem.W.mroIn K C (.type "object") = some true
theorem insof_ty {K : PySem.W.Frag} {G H : Hp} {v : V} (h : InsOf x m C fl) (c : Cur K G m H) (r : Rep K G x v) (o : OwnC K C) : TyX K H v (.ref C) := by
  obtain ⟨a, dx, fs, rfl, ha, rf⟩ := insof_get h c r
  exact .base (.ins ha o.cl o.ha o.hn o.htk o.hm)
theorem wc_isOwn (h : InsOf x m C fl) (o : OwnC B.X.K C) (hk : PySem.W.kitOne B.X.K (.ref C) (.ref C') = some t) (q : Q (.bl t) m) : WC B (.builtin "isinstance") [x, .ref C'] m Q := wc_of call_isi fun G H vs c rd Q' k => by
  obtain ⟨v, u, rfl, r1, r2⟩ := rep2 rd
  obtain rfl : u = .ref C' := r2
  exact ⟨v, .ref C', _, _, t, rfl, .own C', insof_ty h c r1 o, hk, c.vp k (d := .bl t) rfl q⟩
theorem wc_isOwnTy {T' : String} (h : InsOf x m C fl) (o : OwnC B.X.K C) (hk : PySem.W.kitOne B.X.K (.ref C) (.type T') = some t) (q : Q (.bl t) m) : WC B (.builtin "isinstance") [x, .ty T'] m Q := wc_of call_isi fun G H vs c rd Q' k => by
  obtain ⟨v, u, rfl, r1, r2⟩ := rep2 rd
  obtain rfl : u = .ty T' := r2
  exact ⟨v, .ty T', _, _, t, rfl, .ty T', insof_ty h c r1 o, hk, c.vp k (d := .bl t) rfl q⟩
theorem wc_isNot {kk : DK} (h : dk d = some kk) (hk : PySem.W.kitOne B.X.K (.type kk.ty) (.ref C') = some t) (q : Q (.bl t) m) : WC B (.builtin "isinstance") [d, .ref C'] m Q := wc_of call_isi fun G H vs c rd Q' k => by
  obtain ⟨v, u, rfl, r1, r2⟩ := rep2 rd
  obtain rfl : u = .ref C' := r2
  exact ⟨v, .ref C', _, _, t, rfl, .own C', tyd_ok r1 c.ex (dk_ty h), hk, c.vp k (d := .bl t) rfl q⟩
structure OpC (K : PySem.W.Frag) (C : Addr) : Prop where
  sf : PySem.W.selfFirst K C = true
  ni : PySem.W.subIn K (.ref C) (.type "int") = some false
  in_ : PySem.W.subIn K (.type "int") (.ref C) = some false
theorem wb_refl {op : Operator} {idl : String} (Z : RefOp op idl) (h : InsOf x m C fl) (o : OpC B.X.K C) (h0 : PySem.W.findIn B.X.K (.ref C) (PySem.dunder op.info.2) = some none ∨ ∃ g, PySem.W.findIn B.X.K (.ref C) (PySem.dunder op.info.2) = some (some (.ref g)))
    (hc : CalM B C (dunderR op.info.2) P) (hp : ∃ Xd, P [x, .int i] m Q Xd ∧ XOK B Xd) : WB B (binaryOp op) (.int i) x m Q := fun G H v u s c r1 r2 Q' k pins s1 σ v' u' I rv ru => by
  obtain ⟨a, dx, fs, rfl, ha, rf⟩ := insof_get h c r2
  obtain rfl : u' = Value.ref a := ru
  obtain rfl : v = V.int i := r1
  obtain ⟨t, rfl⟩ : ∃ t, v' = Value.int i t := rv
  obtain ⟨g, hm, run⟩ := hc.ex
  obtain ⟨mA, J, _⟩ := ins_get I.hok ha
  obtain ⟨od, J, _⟩ := J.look
  obtain ⟨mF, hF⟩ := I.fr
  obtain ⟨Xd, q1, q2⟩ := hp
  refine op_reflected Z hF I.ok.mod.kin J (fun p e => by cases e) o.sf h0 hm.at_ hm.fn o.ni ?_
  exact thn (run pins s1 σ H [.ref a, .int i t] [.ref a, .int i] [x, .int i] m G Q' Q Xd I (.cons rfl (.cons ⟨t, rfl⟩ .nil)) s c ⟨_, _, rfl, r2, _, _, rfl, rfl, rfl⟩ q1 k (q2.xo s)) fun w s2 ⟨w', H2, I2, rw', q3⟩ => SlX.cmpback rw' ⟨w', H2, I2, rw', q3⟩
theorem wb_ownI {op : Operator} {rc fo ro : Option Value} (h : InsOf x m C fl) (o : OpC B.X.K C) (hc : CalM B C (PySem.dunder op.info.2) P) (hr : PySem.W.findIn B.X.K (.ref C) (dunderR op.info.2) = some rc) (hrp : rc = none ∨ ∃ g : Addr, rc = some (.ref g))
    (h1 : PySem.W.findIn B.X.K (.type "int") (PySem.dunder op.info.2) = some fo) (h2 : PySem.W.findIn B.X.K (.type "int") (dunderR op.info.2) = some ro)
    (hp : ∃ Xd, P [x, .int i] m Q Xd ∧ XOK B Xd) : WB B (binaryOp op) x (.int i) m Q := fun G H v u s c r1 r2 Q' k pins s1 σ v' u' I rv ru => by
  obtain ⟨a, dx, fs, rfl, ha, rf⟩ := insof_get h c r1
  obtain rfl : v' = Value.ref a := rv
  obtain rfl : u = V.int i := r2
  obtain ⟨t, rfl⟩ : ∃ t, u' = Value.int i t := ru
  obtain ⟨g, hm, run⟩ := hc.ex
  obtain ⟨mA, J, _⟩ := ins_get I.hok ha
  obtain ⟨od, J, _⟩ := J.look
  obtain ⟨mF, hF⟩ := I.fr
  obtain ⟨Xd, q1, q2⟩ := hp
  refine PySem.W.ksp_binT (T := "int") hF I.ok.mod.kin J rfl o.sf hm.at_ hm.fn hr hrp h1 h2 o.in_ ?_
  exact thn (run pins s1 σ H [.ref a, .int i t] [.ref a, .int i] [x, .int i] m G Q' Q Xd I (.cons rfl (.cons ⟨t, rfl⟩ .nil)) s c ⟨_, _, rfl, r1, _, _, rfl, rfl, rfl⟩ q1 k (q2.xo s)) fun w s2 ⟨w', H2, I2, rw', q3⟩ => SlX.cmpback rw' ⟨w', H2, I2, rw', q3⟩
theorem wb_radd (h : InsOf x m C fl) (o : OpC B.X.K C) (h0 : PySem.W.findIn B.X.K (.ref C) "__add__" = some none ∨ ∃ g, PySem.W.findIn B.X.K (.ref C) "__add__" = some (some (.ref g))) (hc : CalM B C "__radd__" P) (hp : ∃ Xd, P [x, .int i] m Q Xd ∧ XOK B Xd) : WB B (binaryOp .Add) (.int i) x m Q :=
  wb_refl ref_add h o (by rw [show PySem.dunder Operator.Add.info.2 = "__add__" from by decide +kernel]; exact h0) (by rw [show dunderR Operator.Add.info.2 = "__radd__" from by decide +kernel]; exact hc) hp
theorem wb_rmul (h : InsOf x m C fl) (o : OpC B.X.K C) (h0 : PySem.W.findIn B.X.K (.ref C) "__mul__" = some none ∨ ∃ g, PySem.W.findIn B.X.K (.ref C) "__mul__" = some (some (.ref g))) (hc : CalM B C "__rmul__" P) (hp : ∃ Xd, P [x, .int i] m Q Xd ∧ XOK B Xd) : WB B (binaryOp .Mult) (.int i) x m Q :=
  wb_refl ref_mul h o (by rw [show PySem.dunder Operator.Mult.info.2 = "__mul__" from by decide +kernel]; exact h0) (by rw [show dunderR Operator.Mult.info.2 = "__rmul__" from by decide +kernel]; exact hc) hp
theorem wb_rdiv (h : InsOf x m C fl) (o : OpC B.X.K C) (h0 : PySem.W.findIn B.X.K (.ref C) "__floordiv__" = some none ∨ ∃ g, PySem.W.findIn B.X.K (.ref C) "__floordiv__" = some (some (.ref g))) (hc : CalM B C "__rfloordiv__" P) (hp : ∃ Xd, P [x, .int i] m Q Xd ∧ XOK B Xd) : WB B (binaryOp .FloorDiv) (.int i) x m Q :=
  wb_refl ref_div h o (by rw [show PySem.dunder Operator.FloorDiv.info.2 = "__floordiv__" from by decide +kernel]; exact h0) (by rw [show dunderR Operator.FloorDiv.info.2 = "__rfloordiv__" from by decide +kernel]; exact hc) hp
theorem wb_rmod (h : InsOf x m C fl) (o : OpC B.X.K C) (h0 : PySem.W.findIn B.X.K (.ref C) "__mod__" = some none ∨ ∃ g, PySem.W.findIn B.X.K (.ref C) "__mod__" = some (some (.ref g))) (hc : CalM B C "__rmod__" P) (hp : ∃ Xd, P [x, .int i] m Q Xd ∧ XOK B Xd) : WB B (binaryOp .Mod) (.int i) x m Q :=
  wb_refl ref_mod h o (by rw [show PySem.dunder Operator.Mod.info.2 = "__mod__" from by decide +kernel]; exact h0) (by rw [show dunderR Operator.Mod.info.2 = "__rmod__" from by decide +kernel]; exact hc) hp
theorem wb_oadd (h : InsOf x m C fl) (o : OpC B.X.K C) (hc : CalM B C "__add__" P) (h0 : PySem.W.findIn B.X.K (.ref C) "__radd__" = some none ∨ ∃ g, PySem.W.findIn B.X.K (.ref C) "__radd__" = some (some (.ref g))) (hp : ∃ Xd, P [x, .int i] m Q Xd ∧ XOK B Xd) : WB B (binaryOp .Add) x (.int i) m Q := by
  have e1 : PySem.dunder Operator.Add.info.2 = "__add__" := by decide +kernel
  have e2 : dunderR Operator.Add.info.2 = "__radd__" := by decide +kernel
  obtain ⟨fo, hfo⟩ := Option.isSome_iff_exists.mp (show (PySem.fastLookup "int" "__add__").isSome = true by decide +kernel)
  obtain ⟨ro, hro⟩ := Option.isSome_iff_exists.mp (show (PySem.fastLookup "int" "__radd__").isSome = true by decide +kernel)
  rcases h0 with h0 | ⟨g, h0⟩
  · exact wb_ownI (fo := fo) (ro := ro) h o (by rw [e1]; exact hc) (by rw [e2]; exact h0) (.inl rfl) (by rw [e1]; exact hfo) (by rw [e2]; exact hro) hp
  · exact wb_ownI (fo := fo) (ro := ro) h o (by rw [e1]; exact hc) (by rw [e2]; exact h0) (.inr ⟨g, rfl⟩) (by rw [e1]; exact hfo) (by rw [e2]; exact hro) hp
theorem wb_omul (h : InsOf x m C fl) (o : OpC B.X.K C) (hc : CalM B C "__mul__" P) (h0 : PySem.W.findIn B.X.K (.ref C) "__rmul__" = some none ∨ ∃ g, PySem.W.findIn B.X.K (.ref C) "__rmul__" = some (some (.ref g))) (hp : ∃ Xd, P [x, .int i] m Q Xd ∧ XOK B Xd) : WB B (binaryOp .Mult) x (.int i) m Q := by
  have e1 : PySem.dunder Operator.Mult.info.2 = "__mul__" := by decide +kernel
  have e2 : dunderR Operator.Mult.info.2 = "__rmul__" := by decide +kernel
  obtain ⟨fo, hfo⟩ := Option.isSome_iff_exists.mp (show (PySem.fastLookup "int" "__mul__").isSome = true by decide +kernel)
  obtain ⟨ro, hro⟩ := Option.isSome_iff_exists.mp (show (PySem.fastLookup "int" "__rmul__").isSome = true by decide +kernel)
  rcases h0 with h0 | ⟨g, h0⟩
  · exact wb_ownI (fo := fo) (ro := ro) h o (by rw [e1]; exact hc) (by rw [e2]; exact h0) (.inl rfl) (by rw [e1]; exact hfo) (by rw [e2]; exact hro) hp
  · exact wb_ownI (fo := fo) (ro := ro) h o (by rw [e1]; exact hc) (by rw [e2]; exact h0) (.inr ⟨g, rfl⟩) (by rw [e1]; exact hfo) (by rw [e2]; exact hro) hp
theorem wb_odiv (h : InsOf x m C fl) (o : OpC B.X.K C) (hc : CalM B C "__floordiv__" P) (h0 : PySem.W.findIn B.X.K (.ref C) "__rfloordiv__" = some none ∨ ∃ g, PySem.W.findIn B.X.K (.ref C) "__rfloordiv__" = some (some (.ref g))) (hp : ∃ Xd, P [x, .int i] m Q Xd ∧ XOK B Xd) : WB B (binaryOp .FloorDiv) x (.int i) m Q := by
  have e1 : PySem.dunder Operator.FloorDiv.info.2 = "__floordiv__" := by decide +kernel
  have e2 : dunderR Operator.FloorDiv.info.2 = "__rfloordiv__" := by decide +kernel
  obtain ⟨fo, hfo⟩ := Option.isSome_iff_exists.mp (show (PySem.fastLookup "int" "__floordiv__").isSome = true by decide +kernel)
  obtain ⟨ro, hro⟩ := Option.isSome_iff_exists.mp (show (PySem.fastLookup "int" "__rfloordiv__").isSome = true by decide +kernel)
  rcases h0 with h0 | ⟨g, h0⟩
  · exact wb_ownI (fo := fo) (ro := ro) h o (by rw [e1]; exact hc) (by rw [e2]; exact h0) (.inl rfl) (by rw [e1]; exact hfo) (by rw [e2]; exact hro) hp
  · exact wb_ownI (fo := fo) (ro := ro) h o (by rw [e1]; exact hc) (by rw [e2]; exact h0) (.inr ⟨g, rfl⟩) (by rw [e1]; exact hfo) (by rw [e2]; exact hro) hp
theorem wb_omod (h : InsOf x m C fl) (o : OpC B.X.K C) (hc : CalM B C "__mod__" P) (h0 : PySem.W.findIn B.X.K (.ref C) "__rmod__" = some none ∨ ∃ g, PySem.W.findIn B.X.K (.ref C) "__rmod__" = some (some (.ref g))) (hp : ∃ Xd, P [x, .int i] m Q Xd ∧ XOK B Xd) : WB B (binaryOp .Mod) x (.int i) m Q := by
  have e1 : PySem.dunder Operator.Mod.info.2 = "__mod__" := by decide +kernel
  have e2 : dunderR Operator.Mod.info.2 = "__rmod__" := by decide +kernel
  obtain ⟨fo, hfo⟩ := Option.isSome_iff_exists.mp (show (PySem.fastLookup "int" "__mod__").isSome = true by decide +kernel)
  obtain ⟨ro, hro⟩ := Option.isSome_iff_exists.mp (show (PySem.fastLookup "int" "__rmod__").isSome = true by decide +kernel)
  rcases h0 with h0 | ⟨g, h0⟩
  · exact wb_ownI (fo := fo) (ro := ro) h o (by rw [e1]; exact hc) (by rw [e2]; exact h0) (.inl rfl) (by rw [e1]; exact hfo) (by rw [e2]; exact hro) hp
  · exact wb_ownI (fo := fo) (ro := ro) h o (by rw [e1]; exact hc) (by rw [e2]; exact h0) (.inr ⟨g, rfl⟩) (by rw [e1]; exact hfo) (by rw [e2]; exact hro) hp
theorem wb_osub (h : InsOf x m C fl) (o : OpC B.X.K C) (hc : CalM B C "__sub__" P) (h0 : PySem.W.findIn B.X.K (.ref C) "__rsub__" = some none ∨ ∃ g, PySem.W.findIn B.X.K (.ref C) "__rsub__" = some (some (.ref g))) (hp : ∃ Xd, P [x, .int i] m Q Xd ∧ XOK B Xd) : WB B (binaryOp .Sub) x (.int i) m Q := by
  have e1 : PySem.dunder Operator.Sub.info.2 = "__sub__" := by decide +kernel
  have e2 : dunderR Operator.Sub.info.2 = "__rsub__" := by decide +kernel
  obtain ⟨fo, hfo⟩ := Option.isSome_iff_exists.mp (show (PySem.fastLookup "int" "__sub__").isSome = true by decide +kernel)
  obtain ⟨ro, hro⟩ := Option.isSome_iff_exists.mp (show (PySem.fastLookup "int" "__rsub__").isSome = true by decide +kernel)
  rcases h0 with h0 | ⟨g, h0⟩
  · exact wb_ownI (fo := fo) (ro := ro) h o (by rw [e1]; exact hc) (by rw [e2]; exact h0) (.inl rfl) (by rw [e1]; exact hfo) (by rw [e2]; exact hro) hp
  · exact wb_ownI (fo := fo) (ro := ro) h o (by rw [e1]; exact hc) (by rw [e2]; exact h0) (.inr ⟨g, rfl⟩) (by rw [e1]; exact hfo) (by rw [e2]; exact hro) hp
theorem wc_isIntT {k : DK} (h : dk d = some k) (hk : isInt k = true) (q : Q (.bl true) m) : WC B (.builtin "isinstance") [d, .ty "int"] m Q := wc_isInt h (by rw [hk]; exact q)
theorem wc_isIntF {k : DK} (h : dk d = some k) (hk : isInt k = false) (q : Q (.bl false) m) : WC B (.builtin "isinstance") [d, .ty "int"] m Q := wc_isInt h (by rw [hk]; exact q)
theorem wc_isBoolT {k : DK} (h : dk d = some k) (hk : isBool k = true) (q : Q (.bl true) m) : WC B (.builtin "isinstance") [d, .ty "bool"] m Q := wc_isBool h (by rw [hk]; exact q)
theorem wc_isBoolF {k : DK} (h : dk d = some k) (hk : isBool k = false) (q : Q (.bl false) m) : WC B (.builtin "isinstance") [d, .ty "bool"] m Q := wc_isBool h (by rw [hk]; exact q)
theorem wc_isStrT {k : DK} (h : dk d = some k) (hk : isStr k = true) (q : Q (.bl true) m) : WC B (.builtin "isinstance") [d, .ty "str"] m Q := wc_isStr h (by rw [hk]; exact q)
theorem wc_isStrF {k : DK} (h : dk d = some k) (hk : isStr k = false) (q : Q (.bl false) m) : WC B (.builtin "isinstance") [d, .ty "str"] m Q := wc_isStr h (by rw [hk]; exact q)
theorem wc_isListT {k : DK} (h : dk d = some k) (hk : isList k = true) (q : Q (.bl true) m) : WC B (.builtin "isinstance") [d, .ty "list"] m Q := wc_isList h (by rw [hk]; exact q)
theorem wc_isListF {k : DK} (h : dk d = some k) (hk : isList k = false) (q : Q (.bl false) m) : WC B (.builtin "isinstance") [d, .ty "list"] m Q := wc_isList h (by rw [hk]; exact q)
theorem wc_isTupleT {k : DK} (h : dk d = some k) (hk : isTuple k = true) (q : Q (.bl true) m) : WC B (.builtin "isinstance") [d, .ty "tuple"] m Q := wc_isTuple h (by rw [hk]; exact q)
theorem wc_isTupleF {k : DK} (h : dk d = some k) (hk : isTuple k = false) (q : Q (.bl false) m) : WC B (.builtin "isinstance") [d, .ty "tuple"] m Q := wc_isTuple h (by rw [hk]; exact q)
theorem wb_isT (h : isN x = true) (q : Q (.bl true) m) : WB B (compareOp .Is) x .non m Q := wb_is (by rw [h]; exact q)
theorem wb_isF (h : isN x = false) (q : Q (.bl false) m) : WB B (compareOp .Is) x .non m Q := wb_is (by rw [h]; exact q)
theorem wb_isnotT (h : isN x = false) (q : Q (.bl true) m) : WB B (compareOp .IsNot) x .non m Q := wb_isnot (by rw [h]; exact q)
theorem wb_isnotF (h : isN x = true) (q : Q (.bl false) m) : WB B (compareOp .IsNot) x .non m Q := wb_isnot (by rw [h]; exact q)
theorem wb_neBT {i j : Bool} (h : (!decide (i = j)) = true) (q : Q (.bl true) m) : WB B (compareOp .NotEq) (.bl i) (.bl j) m Q := wb_neB (by rw [h]; exact q)
theorem wb_eqBT {i j : Bool} (h : decide (i = j) = true) (q : Q (.bl true) m) : WB B (compareOp .Eq) (.bl i) (.bl j) m Q := wb_eqB (by rw [h]; exact q)
theorem wb_neBF {i j : Bool} (h : (!decide (i = j)) = false) (q : Q (.bl false) m) : WB B (compareOp .NotEq) (.bl i) (.bl j) m Q := wb_neB (by rw [h]; exact q)
theorem wb_eqBF {i j : Bool} (h : decide (i = j) = false) (q : Q (.bl false) m) : WB B (compareOp .Eq) (.bl i) (.bl j) m Q := wb_eqB (by rw [h]; exact q)
def PlD : Nat → D → Prop
  | _, .non => True | _, .bl _ => True | _, .int _ => True | _, .str _ => True
  | n + 1, .tup l => l.length < 2 ^ 62 ∧ ∀ d ∈ l, PlD n d
  | n + 1, .lst l => l.length < 2 ^ 62 ∧ ∀ d ∈ l, PlD n d
  | _, _ => False
theorem pld_le {n n' : Nat} : ∀ {d : D}, n ≤ n' → PlD n d → PlD n' d := by
  induction n generalizing n' with
  | zero => intro d h p; cases d <;> first | exact p.elim | (cases n' <;> exact True.intro)
  | succ n ih =>
    intro d h p
    obtain ⟨k, rfl⟩ : ∃ k, n' = k + 1 := ⟨n' - 1, by omega⟩
    cases d <;> first | exact p.elim | exact True.intro | exact ⟨p.1, fun d hd => ih (by omega) (p.2 d hd)⟩
theorem forD_at (ds : List D) (I : Nat → DE → Mem → Prop) {body : List Stmt} {tg : Expr} (h : ∀ i d ρ m, ds[i]? = some d → I i ρ m → WG B tg d ρ m fun ρ1 m1 => WSs B body ρ1 m1 { nx := I (i + 1), rt := R.rt, bk := R.nx, ct := I (i + 1) }) (h0 : ∀ ρ m, I ds.length ρ m → R.nx ρ m) (hi : I 0 ρ m) : forD B tg body R ds ρ m := by
  refine forD_inv (fun rest ρ m => ∃ i, rest = ds.drop i ∧ i ≤ ds.length ∧ I i ρ m) ?_ ?_ ds ρ m ⟨0, by simp, by omega, hi⟩
  · rintro d rest ρ m ⟨i, e, hl, hI⟩
    have hlt : i < ds.length := by
      rcases Nat.lt_or_ge i ds.length with h | h
      · exact h
      · rw [List.drop_of_length_le h] at e; cases e
    rw [List.drop_eq_getElem_cons hlt] at e
    injection e with e1 e2
    subst e1
    refine (h i _ ρ m (List.getElem?_eq_getElem hlt) hI).mono fun ρ1 m1 q => q.mono (fun ρ m x => ?_) (fun _ _ q => q) (fun _ _ q => q) (fun ρ m x => ?_)
    · exact ⟨i + 1, e2, hlt, x⟩
    · exact ⟨i + 1, e2, hlt, x⟩
  · rintro ρ m ⟨i, e, hl, hI⟩
    have : i = ds.length := by
      rcases Nat.lt_or_ge i ds.length with h | h
      · rw [List.drop_eq_getElem_cons h] at e; cases e
      · omega
    subst this
    exact h0 ρ m hI
theorem forD_rng {n : Nat} (I : Nat → DE → Mem → Prop) {body : List Stmt} {tg : Expr} (h : ∀ i ρ m, i < n → I i ρ m → WG B tg (.int (i : Nat)) ρ m fun ρ1 m1 => WSs B body ρ1 m1 { nx := I (i + 1), rt := R.rt, bk := R.nx, ct := I (i + 1) }) (h0 : ∀ ρ m, I n ρ m → R.nx ρ m) (hi : I 0 ρ m) : forD B tg body R (rngD 0 n) ρ m := by
  refine forD_at _ I (fun i d ρ m hd hI => ?_) (by rw [rngD_len]; exact h0) hi
  have hlt : i < n := by have := (List.getElem?_eq_some_iff.mp hd).1; rwa [rngD_len] at this
  rw [rngD_get hlt] at hd
  obtain rfl : D.int (0 + (i : Nat)) = d := Option.some.inj hd
  have e : (0 : Int) + (i : Nat) = (i : Nat) := by omega
  rw [e]
  exact h i ρ m hlt hI
theorem atI_n {l : List D} {i : Nat} {d : D} (h : l[i]? = some d) : atI l (i : Nat) = some d := atI_nat h
theorem Has.on {ρ ρ0 : DE} {i : Nat} {d : D} (h : Has ρ ρ0) : Has ((i, d) :: ρ) ((i, d) :: ρ0) := fun j e q => by
  rw [lk_cons] at q ⊢
  split
  · rename_i z; rw [if_pos z] at q; exact q
  · rename_i z; rw [if_neg z] at q; exact h j e q
theorem ite_nt {A B : Prop} (k : B) : if (!true) = true then A else B := by rw [if_neg (by decide)]; exact k
theorem ite_nf {A B : Prop} (k : A) : if (!false) = true then A else B := by rw [if_pos (by decide)]; exact k
end
end Pd
namespace Pd
open PySem PySem.Spec PyProof.Rows L2
def blkB (B : Bx) (sc : Scope) (s : Shared) (H : Hp) (C : Addr) (cl : List (Str × Addr)) (fp : List Addr) : Bx := ⟨B.X.blk s H sc (compEnvC sc cl C B.X.env) fp, B.G0⟩
def IsBlk (B : Bx) (sc : Scope) (B' : Bx) : Prop := ∃ s H C cl fp, B' = blkB B sc s H C cl fp
def bTE (B : Bx) (sc : Scope) (e : Expr) : TE := fun σ H Q => ∀ s H0 C cl fp, teX (blkB B sc s H0 C cl fp).X e σ H Q
def bTT (B : Bx) (sc : Scope) : List Expr → TT
  | [] => tYes
  | c :: _ => fun σ H Q => ∀ s H0 C cl fp, ttX (blkB B sc s H0 C cl fp).X c σ H Q
def tstD (I : Bx → Prop) (ρ : DE) (m : Mem) (T : Bool → Mem → Prop) : List Expr → Prop
  | [] => T true m
  | c :: _ => ∀ B', I B' → WT B' c ρ m T
def lcD (I : Bx → Prop) (elt : Expr) (ifs : List Expr) (j : Nat) (ρ : DE) (Q : D → Mem → Prop) (p : Addr) : List D → List D → Mem → Prop
  | [], acc, m => Q (.lst acc) (mdel m p) ∨ Q (.ref p) m
  | d :: ds, acc, m => tstD I ((j, d) :: ρ) m (fun b m1 => if b = true then ∀ B', I B' → WE B' elt ((j, d) :: ρ) m1 fun y m2 => m2 p = some (.lst acc) ∧ acc.length < sizeLine ∧ lcD I elt ifs j ρ Q p ds (acc ++ [y]) (mset m2 p (.lst (acc ++ [y])))
      else m1 p = some (.lst acc) ∧ lcD I elt ifs j ρ Q p ds acc m1) ifs
section
variable {B : Bx} {sc : Scope} {elt iter : Expr} {ifs : List Expr} {j : Nat} {v : Str} {ρ : DE} {m : Mem} {Q : D → Mem → Prop} {pos vp : Pos}
theorem lc_step {p : Addr} {d : D} {ds acc : List D} {G : Hp} {σ : L2.St} {H : Hp} {x : V} (hif : ifs.length ≤ 1) (w : lcD (IsBlk B sc) elt ifs j ρ Q p (d :: ds) acc m) (hj : j < B.X.N.length) (s : Sub B.G0 G) (r : RepE B.X.K B.X.N.length G σ ρ) (cu : Cur B.X.K G m H) (rd : Rep B.X.K G d x)
    (Pn : Hp → Prop) (hP : ∀ G' m' acc' H', Sub G G' → Cur B.X.K G' m' H' → m' p = some (.lst acc') → lcD (IsBlk B sc) elt ifs j ρ Q p ds acc' m' → Pn H') :
    gName j x (wipe σ [j]) H fun σ2 H2 => wipe σ2 [j] = wipe σ [j] ∧ bTT B sc ifs σ2 H2 fun b H3 => if b = true then bTE B sc elt σ2 H3 fun y H4 => ∃ acc, H4 p = some (.lst acc) ∧ acc.length < sizeLine ∧ Pn (upd H4 p (.lst (acc ++ [y]))) else Pn H3 := by
  have e1 : (wipe σ [j]).set j (some x) = σ.set j (some x) := by show ((wipe σ []).set j none).set j (some x) = _; rw [List.set_set]; rfl
  refine ⟨?_, ?_⟩
  · rw [e1]
    show (σ.set j (some x)).set j none = σ.set j none
    rw [List.set_set]
  · rw [e1]
    have r2 : RepE B.X.K B.X.N.length G (σ.set j (some x)) ((j, d) :: ρ) := r.set rd j hj
    have body : ∀ (G3 : Hp) (H3 : Hp) (m3 : Mem) (b : Bool), Sub G G3 → Cur B.X.K G3 m3 H3 → (if b = true then ∀ B', IsBlk B sc B' → WE B' elt ((j, d) :: ρ) m3 fun y m2 => m2 p = some (.lst acc) ∧ acc.length < sizeLine ∧ lcD (IsBlk B sc) elt ifs j ρ Q p ds (acc ++ [y]) (mset m2 p (.lst (acc ++ [y])))
        else m3 p = some (.lst acc) ∧ lcD (IsBlk B sc) elt ifs j ρ Q p ds acc m3) → (if b = true then bTE B sc elt (σ.set j (some x)) H3 fun y H4 => ∃ acc, H4 p = some (.lst acc) ∧ acc.length < sizeLine ∧ Pn (upd H4 p (.lst (acc ++ [y]))) else Pn H3) := by
      intro G3 H3 m3 b s3 c3 q
      cases b with
      | true =>
        rw [if_pos rfl] at q ⊢
        intro s0 H0 C cl fp
        refine q _ ⟨s0, H0, C, cl, fp, rfl⟩ G3 _ H3 (s.trans s3) (r2.sub s3) c3 _ fun y d4 m4 G4 H4 s4 c4 r4 ⟨q1, q2, q3⟩ => ?_
        obtain ⟨_, o, ho, xs, rfl, rx⟩ := c4.mm p _ q1
        have rx2 : Reps B.X.K G4 (acc ++ [d4]) (xs ++ [y]) := reps_app rx ⟨y, [], rfl, r4, rfl⟩
        refine ⟨xs, ho, by rw [reps_len rx]; exact q2, hP G4 _ _ _ (s3.trans s4) (c4.wr (u := .lst (acc ++ [d4])) q1 ⟨_, rfl, rx2⟩) mset_same q3⟩
      | false =>
        rw [if_neg Bool.false_ne_true] at q ⊢
        exact hP G3 m3 acc H3 s3 c3 q.1 q.2
    match ifs, hif, w, body with
    | [], _, w, body =>
      exact body G H m true (Sub.refl G) cu w
    | c :: _, _, w, body =>
      intro s0 H0 C cl fp
      exact w _ ⟨s0, H0, C, cl, fp, rfl⟩ G _ H s r2 cu _ fun b m3 G3 H3 s3 c3 q => body G3 H3 m3 b s3 c3 q
theorem lc_tt (hif : ifs.length ≤ 1) : ∀ (s : Shared) (H : Hp) (C : Addr) (cl : List (Str × Addr)) (fp : List Addr), PTs (B.X.blk s H sc (compEnvC sc cl C B.X.env) fp) ifs (bTT B sc ifs) := by
  intro s H C cl fp
  match ifs, hif with
  | [], _ => exact pts_nil
  | [c], _ => exact pts_one ⟨fun pins s1 σ H1 Q I h => (ptX c).run pins s1 σ H1 Q I (h s H C cl fp)⟩
theorem lc_te : ∀ (s : Shared) (H : Hp) (C : Addr) (cl : List (Str × Addr)) (fp : List Addr), PE (B.X.blk s H sc (compEnvC sc cl C B.X.env) fp) elt (bTE B sc elt) := fun s H C cl fp => ⟨fun pins s1 σ H1 Q I h => (peX elt).run pins s1 σ H1 Q I (h s H C cl fp)⟩
theorem lc_tg (hN : B.X.N.Nodup) (hi : B.X.N[j]? = some v) (hx : sc.names.lookup v = some .local) : ∀ (s : Shared) (H : Hp) (C : Addr) (cl : List (Str × Addr)) (fp : List Addr), PG (B.X.blk s H sc (compEnvC sc cl C B.X.env) fp) (.Name v vp) (gName j) := fun s H C cl fp =>
  have h : (relS sc B.X.env.scope).names.lookup v = some .local := lookup_relS_keep (by decide) hx
  pg_name hN hi (.inl h) (.inr h)
theorem tlcL (hif : ifs.length ≤ 1) (hi : B.X.N[j]? = some v) (h : WE B iter ρ m fun d m1 => ∃ ds, d = .lst ds ∧ ∀ p, m1 p = none → lcD (IsBlk B sc) elt ifs j ρ Q p ds [] (mset m1 p (.lst []))) {G : Hp} {σ : L2.St} {H : Hp} (s : Sub B.G0 G) (r : RepE B.X.K B.X.N.length G σ ρ) (c : Cur B.X.K G m H) {Q' : VK} (kq : VP B.X.K G Q Q') :
    tLc (iList B.X.K (teX B.X iter)) (gName j) (bTT B sc ifs) (bTE B sc elt) [j] σ H Q' := by
  refine h G σ H s r c _ fun w d m1 G1 H1 s1 c1 r1 q => ?_
  obtain ⟨ds, rfl, q⟩ := q
  obtain ⟨p, xs, rfl, hq, rx⟩ := r1
  refine ⟨p, rfl, ⟨xs, SqL.sub c1.ex hq⟩, fun D hD => ?_⟩
  refine lc_list (xs := xs) (fun i H => ∃ m' G' acc, Sub G1 G' ∧ Cur B.X.K G' m' H ∧ m' D = some (.lst acc) ∧ lcD (IsBlk B sc) elt ifs j ρ Q D (ds.drop i) acc m') ?_ (fun i H _ ⟨_, _, _, s2, c2, _⟩ => SqL.sub (s2.trans c2.ex) hq) (fun i x H hx ⟨m', G', acc, s2, c2, hd, w⟩ => ?_) fun H ⟨m', G', acc, s2, c2, hd, w⟩ => ?_
  · exact ⟨_, G1, [], Sub.refl _, c1.newM (u := .lst []) hD ⟨[], rfl, rfl⟩, mset_same, by rw [List.drop_zero]; exact q D (c1.none hD).2⟩
  · obtain ⟨d, hd', rd⟩ := reps_get rx hx
    rw [drop_get hd'] at w
    exact lc_step hif w (ix_lt hi) ((s.trans s1).trans s2) (r.sub (s1.trans s2)) c2 (Rep.sub s2 _ _ rd) _ fun G3 m3 acc3 H3 s3 c3 h3 w3 => ⟨m3, G3, acc3, s2.trans s3, c3, h3, w3⟩
  · rw [reps_len rx, List.drop_length] at w
    rcases w with w | w
    · obtain ⟨o, h1, h2, h3, h4⟩ := c2.freeze hd
      obtain ⟨ys, rfl, h2⟩ := h2
      exact kq (.ref D) (.lst acc) _ _ H ((s1.trans s2).trans h3) h4 ⟨D, ys, rfl, SqL.of upd_same, Reps.sub h3 _ _ h2⟩ w
    · exact kq (.ref D) (.ref D) _ _ H (s1.trans s2) c2 rfl w
theorem we_lcL (k : Bok B) (hif : ifs.length ≤ 1) (hi : B.X.N[j]? = some v) (hx : sc.names.lookup v = some .local) (ok : BlkOk B.X.N B.X.env.scope sc [(v, j)])
    (h : WE B iter ρ m fun d m1 => ∃ ds, d = .lst ds ∧ ∀ p, m1 p = none → lcD (IsBlk B sc) elt ifs j ρ Q p ds [] (mset m1 p (.lst []))) (hs : ∀ x, foldedSetIterable iter B.X.env x = pure x) : WE B (.ListComp elt [⟨.Name v vp, iter, ifs, 0⟩] sc pos) ρ m Q := fun G σ H s r c Q' kq =>
  teX_of (pe_lc k.calm k.nd (pi_list (peX iter)) ok (lc_tg k.nd hi hx) (lc_tt hif) lc_te hs) (tlcL hif hi h s r c kq)
theorem ws_lcL {i : Nat} {y : Str} {py spos : Pos} {R : RR} (k : Bok B) (hy : B.X.N[i]? = some y) (hyl : B.X.env.scope.names.lookup y = some .local) (hsw : swapsWith (.ListComp elt [⟨.Name v vp, iter, ifs, 0⟩] sc pos) (some (.Name y py)) spos.line B.X.env = pure true)
    (hif : ifs.length ≤ 1) (hi : B.X.N[j]? = some v) (hx : sc.names.lookup v = some .local) (ok : BlkOk B.X.N B.X.env.scope sc [(v, j)])
    (h : WE B iter ρ m fun d m1 => ∃ ds, d = .lst ds ∧ ∀ p, m1 p = none → lcD (IsBlk B sc) elt ifs j ρ (fun d m2 => R.nx ((i, d) :: ρ) m2) p ds [] (mset m1 p (.lst []))) (hs : ∀ x, foldedSetIterable iter B.X.env x = pure x) : WS B (.Assign [.Name y py] (.ListComp elt [⟨.Name v vp, iter, ifs, 0⟩] sc pos) spos) ρ m R := fun G σ H s r c D kq =>
  tsX_of (ps_setLc k.calm k.nd hy hyl hsw (pi_list (peX iter)) ok (lc_tg k.nd hi hx) (lc_tt hif) lc_te hs) (tlcL hif hi h s r c fun w d m1 G1 H1 s1 c1 r1 q => kq.nx _ _ m1 G1 H1 s1 ((r.sub s1).set r1 i (ix_lt hy)) c1 q)
theorem tlcR {a : Expr} (hif : ifs.length ≤ 1) (hi : B.X.N[j]? = some v) (h : WE B a ρ m fun d m1 => ∃ n : Int, d = .int n ∧ -(2 ^ 62) ≤ n ∧ n < 2 ^ 62 ∧ ∀ p, m1 p = none → lcD (IsBlk B sc) elt ifs j ρ Q p (rngD 0 n.toNat) [] (mset m1 p (.lst []))) {G : Hp} {σ : L2.St} {H : Hp} (s : Sub B.G0 G) (r : RepE B.X.K B.X.N.length G σ ρ) (c : Cur B.X.K G m H) {Q' : VK} (kq : VP B.X.K G Q Q') :
    tLc (iRng1 (tCons (teX B.X a) tNil)) (gName j) (bTT B sc ifs) (bTE B sc elt) [j] σ H Q' := by
  refine h G σ H s r c _ fun w d m1 G1 H1 s1 c1 r1 q => ?_
  obtain ⟨n, rfl, b1, b2, q⟩ := q
  obtain rfl : w = .int n := r1
  refine ⟨n, rfl, b1, b2, fun D hD => ?_⟩
  refine lc_range (lo := 0) (n := n.toNat) (fun i H => ∃ m' G' acc, Sub G1 G' ∧ Cur B.X.K G' m' H ∧ m' D = some (.lst acc) ∧ lcD (IsBlk B sc) elt ifs j ρ Q D ((rngD 0 n.toNat).drop i) acc m') ?_ (fun i H hx ⟨m', G', acc, s2, c2, hd, w⟩ => ?_) fun H ⟨m', G', acc, s2, c2, hd, w⟩ => ?_
  · exact ⟨_, G1, [], Sub.refl _, c1.newM (u := .lst []) hD ⟨[], rfl, rfl⟩, mset_same, by rw [List.drop_zero]; exact q D (c1.none hD).2⟩
  · rw [drop_get (rngD_get hx)] at w
    exact lc_step hif w (ix_lt hi) ((s.trans s1).trans s2) (r.sub (s1.trans s2)) c2 (show Rep B.X.K G' (.int (0 + (i : Nat))) (.int (0 + (i : Nat))) from rfl) _ fun G3 m3 acc3 H3 s3 c3 h3 w3 => ⟨m3, G3, acc3, s2.trans s3, c3, h3, w3⟩
  · have e : (rngD 0 n.toNat).drop n.toNat = [] := List.drop_of_length_le (by rw [rngD_len]; exact Nat.le_refl _)
    rw [e] at w
    rcases w with w | w
    · obtain ⟨o, h1, h2, h3, h4⟩ := c2.freeze hd
      obtain ⟨ys, rfl, h2⟩ := h2
      exact kq (.ref D) (.lst acc) _ _ H ((s1.trans s2).trans h3) h4 ⟨D, ys, rfl, SqL.of upd_same, Reps.sub h3 _ _ h2⟩ w
    · exact kq (.ref D) (.ref D) _ _ H (s1.trans s2) c2 rfl w
theorem we_lcR {a : Expr} {pr pc : Pos} (k : Bok B) (h0 : Bt B "range" "range") (hif : ifs.length ≤ 1) (hi : B.X.N[j]? = some v) (hx : sc.names.lookup v = some .local) (ok : BlkOk B.X.N B.X.env.scope sc [(v, j)])
    (h : WE B a ρ m fun d m1 => ∃ n : Int, d = .int n ∧ -(2 ^ 62) ≤ n ∧ n < 2 ^ 62 ∧ ∀ p, m1 p = none → lcD (IsBlk B sc) elt ifs j ρ Q p (rngD 0 n.toNat) [] (mset m1 p (.lst []))) (h1 : starEach [a] B.X.env = (false, eval a B.X.env) :: starEach [] B.X.env) (hs1 : starEach [a] B.X.env = [(false, eval a B.X.env)])
    (hs : ∀ x, foldedSetIterable (.Call (.Name "range" pr) [a] [] pc) B.X.env x = pure x) : WE B (.ListComp elt [⟨.Name v vp, .Call (.Name "range" pr) [a] [] pc, ifs, 0⟩] sc pos) ρ m Q := fun G σ H s r c Q' kq =>
  teX_of (pe_lc k.calm k.nd (pi_range1 h0.g h0.m (pa_cons (peX a) pa_nil h1) hs1) ok (lc_tg k.nd hi hx) (lc_tt hif) lc_te hs) (tlcR hif hi h s r c kq)
theorem ws_lcR {a : Expr} {pr pc : Pos} {i : Nat} {y : Str} {py spos : Pos} {R : RR} (k : Bok B) (h0 : Bt B "range" "range") (hy : B.X.N[i]? = some y) (hyl : B.X.env.scope.names.lookup y = some .local) (hsw : swapsWith (.ListComp elt [⟨.Name v vp, .Call (.Name "range" pr) [a] [] pc, ifs, 0⟩] sc pos) (some (.Name y py)) spos.line B.X.env = pure true) (hif : ifs.length ≤ 1) (hi : B.X.N[j]? = some v) (hx : sc.names.lookup v = some .local) (ok : BlkOk B.X.N B.X.env.scope sc [(v, j)])
    (h : WE B a ρ m fun d m1 => ∃ n : Int, d = .int n ∧ -(2 ^ 62) ≤ n ∧ n < 2 ^ 62 ∧ ∀ p, m1 p = none → lcD (IsBlk B sc) elt ifs j ρ (fun d m2 => R.nx ((i, d) :: ρ) m2) p (rngD 0 n.toNat) [] (mset m1 p (.lst []))) (h1 : starEach [a] B.X.env = (false, eval a B.X.env) :: starEach [] B.X.env) (hs1 : starEach [a] B.X.env = [(false, eval a B.X.env)])
    (hs : ∀ x, foldedSetIterable (.Call (.Name "range" pr) [a] [] pc) B.X.env x = pure x) : WS B (.Assign [.Name y py] (.ListComp elt [⟨.Name v vp, .Call (.Name "range" pr) [a] [] pc, ifs, 0⟩] sc pos) spos) ρ m R := fun G σ H s r c D kq =>
  tsX_of (ps_setLc k.calm k.nd hy hyl hsw (pi_range1 h0.g h0.m (pa_cons (peX a) pa_nil h1) hs1) ok (lc_tg k.nd hi hx) (lc_tt hif) lc_te hs) (tlcR hif hi h s r c fun w d m1 G1 H1 s1 c1 r1 q => kq.nx _ _ m1 G1 H1 s1 ((r.sub s1).set r1 i (ix_lt hy)) c1 q)
end
section
variable {B B' : Bx} {sc : Scope} {x : Str} {i : Nat}
theorem IsBlk.K (h : IsBlk B sc B') : B'.X.K = B.X.K := by obtain ⟨s, H, C, cl, fp, rfl⟩ := h; rfl
theorem IsBlk.A (h : IsBlk B sc B') : B'.X.A = B.X.A := by obtain ⟨s, H, C, cl, fp, rfl⟩ := h; rfl
theorem IsBlk.N (h : IsBlk B sc B') : B'.X.N = B.X.N := by obtain ⟨s, H, C, cl, fp, rfl⟩ := h; rfl
theorem IsBlk.mg (h : IsBlk B sc B') : B'.X.mg = B.X.mg := by obtain ⟨s, H, C, cl, fp, rfl⟩ := h; rfl
theorem IsBlk.calm (h : IsBlk B sc B') : B'.X.calm = B.X.calm := by obtain ⟨s, H, C, cl, fp, rfl⟩ := h; rfl
theorem IsBlk.scope (h : IsBlk B sc B') : B'.X.env.scope = relS sc B.X.env.scope := by obtain ⟨s, H, C, cl, fp, rfl⟩ := h; rfl
theorem IsBlk.room {k : Nat} (h : IsBlk B sc B') (r : Room k B.X.A) : Room k B'.X.A := by rw [h.A]; exact r
theorem IsBlk.hs {P : Program} {w : World} {K : PySem.W.Frag} {mg : Str → Option Value} {base : Heap} (h : IsBlk B sc B') (r : B.X.prog = P ∧ B.X.w = w ∧ B.X.K = K ∧ B.X.mg = mg ∧ B.X.base = base) : B'.X.prog = P ∧ B'.X.w = w ∧ B'.X.K = K ∧ B'.X.mg = mg ∧ B'.X.base = base := by
  obtain ⟨s, H, C, cl, fp, rfl⟩ := h; exact r
theorem IsBlk.gl {sc0 : Scope} (h : IsBlk B sc B') (e : B.X.env.scope = sc0) (l : (relS sc sc0).names.lookup x = some .globalImplicit) : Gl B'.X x := by
  show B'.X.env.scope.names.lookup x = _
  rw [h.scope, e]; exact l
structure Vs (B : Bx) (x : Str) (i : Nat) : Prop where
  n : B.X.N[i]? = some x
  v : Vis B.X.env.scope x
theorem IsBlk.vs {sc0 : Scope} (h : IsBlk B sc B') (e : B.X.env.scope = sc0) (n : B.X.N[i]? = some x) (l : (relS sc sc0).names.lookup x = some .local ∨ (relS sc sc0).names.lookup x = some .cell ∨ (relS sc sc0).names.lookup x = some .free) : Vs B' x i := by
  refine ⟨by rw [h.N]; exact n, ?_⟩
  show Vis B'.X.env.scope x
  rw [h.scope, e]; exact l
theorem we_nv {ρ : DE} {m : Mem} {Q : D → Mem → Prop} {d : D} {pos : Pos} (s : Vs B x i) (h : lk ρ i = some d) (q : Q d m) (hd : (x == ("__debug__" : Str)) = false := by decide) (hcd : (x == ("__classdict__" : Str)) = false := by decide) : WE B (.Name x pos) ρ m Q := we_name i s.n s.v h q hd hcd
end
section
variable {I : Bx → Prop} {elt : Expr} {ifs : List Expr} {j : Nat} {ρ : DE} {m : Mem} {Q : D → Mem → Prop}
theorem lcD_atG {p : Addr} (ds : List D) (J : Nat → List D → Mem → Prop) (hn : ds.length ≤ sizeLine) (h : ∀ i d acc m, ds[i]? = some d → acc.length = i → J i acc m → m p = some (.lst acc) → ∀ B', I B' → WE B' elt ((j, d) :: ρ) m fun y m2 => m2 p = some (.lst acc) ∧ J (i + 1) (acc ++ [y]) (mset m2 p (.lst (acc ++ [y]))))
    (h0 : ∀ acc m, acc.length = ds.length → J ds.length acc m → m p = some (.lst acc) → Q (.lst acc) (mdel m p) ∨ Q (.ref p) m) (hi : J 0 [] (mset m p (.lst []))) : lcD I elt [] j ρ Q p ds [] (mset m p (.lst [])) := by
  have key : ∀ (n i : Nat) (acc : List D) (m : Mem), ds.length - i = n → i ≤ ds.length → acc.length = i → J i acc m → m p = some (.lst acc) → lcD I elt [] j ρ Q p (ds.drop i) acc m := by
    intro n
    induction n with
    | zero =>
      intro i acc m e hi ha hJ hm
      have : i = ds.length := by omega
      subst this
      rw [List.drop_length]
      exact h0 acc m ha hJ hm
    | succ n ih =>
      intro i acc m e hi ha hJ hm
      have hlt : i < ds.length := by omega
      rw [List.drop_eq_getElem_cons hlt]
      unfold lcD
      unfold tstD
      dsimp only
      rw [if_pos rfl]
      intro B' hB
      refine (h i _ acc m (List.getElem?_eq_getElem hlt) ha hJ hm B' hB).mono fun y m2 ⟨q1, q2⟩ => ⟨q1, by omega, ?_⟩
      exact ih (i + 1) _ _ (by omega) hlt (by rw [List.length_append, ha]; rfl) q2 mset_same
  have := key _ 0 [] (mset m p (.lst [])) rfl (Nat.zero_le _) rfl hi mset_same
  rwa [List.drop_zero] at this
theorem lcD_at {p : Addr} (ds : List D) (J : Nat → List D → Mem → Prop) (hn : ds.length ≤ sizeLine) (h : ∀ i d acc m, ds[i]? = some d → acc.length = i → J i acc m → m p = some (.lst acc) → ∀ B', I B' → WE B' elt ((j, d) :: ρ) m fun y m2 => m2 p = some (.lst acc) ∧ J (i + 1) (acc ++ [y]) (mset m2 p (.lst (acc ++ [y]))))
    (h0 : ∀ acc m, acc.length = ds.length → J ds.length acc m → m p = some (.lst acc) → Q (.lst acc) (mdel m p)) (hi : J 0 [] (mset m p (.lst []))) : lcD I elt [] j ρ Q p ds [] (mset m p (.lst [])) :=
  lcD_atG ds J hn h (fun acc m a b c => .inl (h0 acc m a b c)) hi
theorem lcD_atM {p : Addr} (ds : List D) (J : Nat → List D → Mem → Prop) (hn : ds.length ≤ sizeLine) (h : ∀ i d acc m, ds[i]? = some d → acc.length = i → J i acc m → m p = some (.lst acc) → ∀ B', I B' → WE B' elt ((j, d) :: ρ) m fun y m2 => m2 p = some (.lst acc) ∧ J (i + 1) (acc ++ [y]) (mset m2 p (.lst (acc ++ [y]))))
    (h0 : ∀ acc m, acc.length = ds.length → J ds.length acc m → m p = some (.lst acc) → Q (.ref p) m) (hi : J 0 [] (mset m p (.lst []))) : lcD I elt [] j ρ Q p ds [] (mset m p (.lst [])) :=
  lcD_atG ds J hn h (fun acc m a b c => .inr (h0 acc m a b c)) hi
theorem lcD_pure {p : Addr} (ds : List D) (f : D → D) (hp : m p = none) (hn : ds.length ≤ sizeLine) (h : ∀ d, d ∈ ds → ∀ B', I B' → ∀ m', (∀ q o, m q = some o → m' q = some o) → WE B' elt ((j, d) :: ρ) m' fun y m2 => m2 = m' ∧ y = f d)
    (h0 : Q (.lst (ds.map f)) m) : lcD I elt [] j ρ Q p ds [] (mset m p (.lst [])) := by
  refine lcD_at ds (fun i acc m' => acc = (ds.take i).map f ∧ m' = mset m p (.lst acc)) hn ?_ ?_ ⟨rfl, rfl⟩
  · rintro i d acc m' hd ha ⟨e, rfl⟩ hm B' hB
    refine (h d (List.mem_of_getElem? hd) B' hB _ fun q o hq => ?_).mono fun y m2 ⟨e1, e2⟩ => ?_
    · rw [mset_ne (fun z => by subst z; rw [hp] at hq; cases hq)]; exact hq
    · subst e1 e2
      refine ⟨hm, ?_, mset_mset⟩
      have hlt := (List.getElem?_eq_some_iff.mp hd)
      obtain ⟨hlt, hd⟩ := hlt
      rw [List.take_succ_eq_append_getElem hlt, List.map_append, ← e, hd]; rfl
  · rintro acc m' _ ⟨e, rfl⟩ _
    rw [mdel_mset hp, e, List.take_length]
    exact h0
theorem lcD_pureI {c : Expr} {p : Addr} (ds : List D) (t : D → Bool) (f : D → D) (hp : m p = none) (hn : ds.length ≤ sizeLine) (ht : ∀ d, d ∈ ds → ∀ B', I B' → ∀ m', (∀ q o, m q = some o → m' q = some o) → WT B' c ((j, d) :: ρ) m' fun b m2 => m2 = m' ∧ b = t d)
    (h : ∀ d, d ∈ ds → t d = true → ∀ B', I B' → ∀ m', (∀ q o, m q = some o → m' q = some o) → WE B' elt ((j, d) :: ρ) m' fun y m2 => m2 = m' ∧ y = f d)
    (h0 : Q (.lst ((ds.filter t).map f)) m) : lcD I elt [c] j ρ Q p ds [] (mset m p (.lst [])) := by
  have key : ∀ (n i : Nat) (acc : List D), ds.length - i = n → i ≤ ds.length → acc = ((ds.take i).filter t).map f → lcD I elt [c] j ρ Q p (ds.drop i) acc (mset m p (.lst acc)) := by
    intro n
    induction n with
    | zero =>
      intro i acc e hi ha
      have : i = ds.length := by omega
      subst this
      rw [List.drop_length]
      refine .inl ?_
      show Q (.lst acc) (mdel _ p)
      rw [mdel_mset hp, ha, List.take_length]
      exact h0
    | succ n ih =>
      intro i acc e hi ha
      have hlt : i < ds.length := by omega
      have keep : ∀ q o, m q = some o → mset m p (.lst acc) q = some o := fun q o hq => by rw [mset_ne (fun z => by subst z; rw [hp] at hq; cases hq)]; exact hq
      have hmem := List.getElem_mem hlt
      have hal : acc.length ≤ i := by
        rw [ha, List.length_map]
        exact Nat.le_trans (List.length_filter_le _ _) (by rw [List.length_take]; omega)
      rw [List.drop_eq_getElem_cons hlt]
      intro B' hB G σ H s r cu Q' k
      refine ht _ hmem B' hB _ keep G σ H s r cu _ fun b m1 G1 H1 s1 c1 ⟨e1, e2⟩ => k b m1 G1 H1 s1 c1 ?_
      subst e1 e2
      cases hb : t ds[i] with
      | true =>
        rw [if_pos rfl]
        intro B2 hB2
        refine (h _ hmem hb B2 hB2 _ keep).mono fun y m2 ⟨e1, e2⟩ => ?_
        subst e1 e2
        refine ⟨mset_same, by omega, ?_⟩
        rw [mset_mset]
        refine ih (i + 1) _ (by omega) hlt ?_
        rw [List.take_succ_eq_append_getElem hlt, List.filter_append, List.map_append, ← ha]
        simp [hb]
      | false =>
        rw [if_neg Bool.false_ne_true]
        refine ⟨mset_same, ih (i + 1) _ (by omega) hlt ?_⟩
        rw [List.take_succ_eq_append_getElem hlt, List.filter_append, List.map_append, ← ha]
        simp [hb]
  have := key _ 0 [] rfl (Nat.zero_le _) rfl
  rwa [List.drop_zero] at this
theorem blk_t {B' : Bx} {e : Expr} {T T2 : Bool → Mem → Prop} (h : WT B' e ρ m T) (i : ∀ b m', T b m' → T2 b m') : WT B' e ρ m T2 := fun G σ H s r c Q' k => h G σ H s r c Q' fun b m1 G1 H1 s1 c1 q => k b m1 G1 H1 s1 c1 (i b m1 q)
end
structure CB (B : Bx) (N0 : List Str) (sc0 : Scope) : Prop where
  hN : B.X.N = N0
  hE : B.X.env.scope = sc0
theorem CB.ok {B : Bx} {N0 : List Str} {sc0 sc : Scope} {own : List (Str × Nat)} (c : CB B N0 sc0) (h : blkC N0 sc0 sc own = true) : BlkOk B.X.N B.X.env.scope sc own := by
  rw [c.hN, c.hE]; exact blkOk_by h
def swB (sc0 sc : Scope) (y : Str) (l1 l2 : Nat) : Bool := (if sc0.kind.isAnnotationScope then ScopeKind.function else sc0.kind) == .function && sc0.names.lookup y == some .local && l1 == l2 && !(sc.names.any fun (n, k) => n == y && (k == .local || k == .cell))
theorem CB.sw {B : Bx} {N0 : List Str} {sc0 sc : Scope} {y : Str} {elt : Expr} {gs : List Comprehension} {pos py : Pos} {l : Nat} {r : Bool} (c : CB B N0 sc0) (h : swB sc0 sc y py.line pos.line = r) : swapsWith (.ListComp elt gs sc pos) (some (.Name y py)) l B.X.env = pure r := by
  have e : swapsWith (.ListComp elt gs sc pos) (some (.Name y py)) l B.X.env = pure (swB B.X.env.scope sc y py.line pos.line) := rfl
  rw [e, c.hE, h]
section
variable {B : Bx} {sc sc0 : Scope} {N0 : List Str} {elt iter : Expr} {ifs : List Expr} {i j : Nat} {v y : Str} {ρ : DE} {m : Mem} {Q : D → Mem → Prop} {pos vp py spos pr pc : Pos} {a : Expr} {R : RR}
theorem we_lcl (k : Bok B) (cb : CB B N0 sc0) (hi : B.X.N[j]? = some v) (hif : ifs.length ≤ 1) (hx : sc.names.lookup v = some .local) (ok : blkC N0 sc0 sc [(v, j)] = true)
    (h : WE B iter ρ m fun d m1 => ∃ ds, d = .lst ds ∧ ∀ p, m1 p = none → lcD (IsBlk B sc) elt ifs j ρ Q p ds [] (mset m1 p (.lst []))) (hs : ∀ x, foldedSetIterable iter B.X.env x = pure x) : WE B (.ListComp elt [⟨.Name v vp, iter, ifs, 0⟩] sc pos) ρ m Q := we_lcL k hif hi hx (cb.ok ok) h hs
theorem ws_lcl (k : Bok B) (cb : CB B N0 sc0) (sy : Sl B y i) (hyl : sc0.names.lookup y = some .local) (hsw : swB sc0 sc y py.line pos.line = true) (hi : B.X.N[j]? = some v)
    (hif : ifs.length ≤ 1) (hx : sc.names.lookup v = some .local) (ok : blkC N0 sc0 sc [(v, j)] = true)
    (h : WE B iter ρ m fun d m1 => ∃ ds, d = .lst ds ∧ ∀ p, m1 p = none → lcD (IsBlk B sc) elt ifs j ρ (fun d m2 => R.nx ((i, d) :: ρ) m2) p ds [] (mset m1 p (.lst []))) (hs : ∀ x, foldedSetIterable iter B.X.env x = pure x) : WS B (.Assign [.Name y py] (.ListComp elt [⟨.Name v vp, iter, ifs, 0⟩] sc pos) spos) ρ m R :=
  ws_lcL k sy.n (by rw [cb.hE]; exact hyl) (cb.sw hsw) hif hi hx (cb.ok ok) h hs
theorem we_lcr (k : Bok B) (h0 : Bt B "range" "range") (cb : CB B N0 sc0) (hi : B.X.N[j]? = some v) (hif : ifs.length ≤ 1) (hx : sc.names.lookup v = some .local) (ok : blkC N0 sc0 sc [(v, j)] = true)
    (h : WE B a ρ m fun d m1 => ∃ n : Int, d = .int n ∧ -(2 ^ 62) ≤ n ∧ n < 2 ^ 62 ∧ ∀ p, m1 p = none → lcD (IsBlk B sc) elt ifs j ρ Q p (rngD 0 n.toNat) [] (mset m1 p (.lst []))) (h1 : starEach [a] B.X.env = (false, eval a B.X.env) :: starEach [] B.X.env) (hs1 : starEach [a] B.X.env = [(false, eval a B.X.env)])
    (hs : ∀ x, foldedSetIterable (.Call (.Name "range" pr) [a] [] pc) B.X.env x = pure x) : WE B (.ListComp elt [⟨.Name v vp, .Call (.Name "range" pr) [a] [] pc, ifs, 0⟩] sc pos) ρ m Q := we_lcR k h0 hif hi hx (cb.ok ok) h h1 hs1 hs
theorem ws_lcr (k : Bok B) (h0 : Bt B "range" "range") (cb : CB B N0 sc0) (sy : Sl B y i) (hyl : sc0.names.lookup y = some .local) (hsw : swB sc0 sc y py.line pos.line = true) (hi : B.X.N[j]? = some v) (hif : ifs.length ≤ 1) (hx : sc.names.lookup v = some .local) (ok : blkC N0 sc0 sc [(v, j)] = true)
    (h : WE B a ρ m fun d m1 => ∃ n : Int, d = .int n ∧ -(2 ^ 62) ≤ n ∧ n < 2 ^ 62 ∧ ∀ p, m1 p = none → lcD (IsBlk B sc) elt ifs j ρ (fun d m2 => R.nx ((i, d) :: ρ) m2) p (rngD 0 n.toNat) [] (mset m1 p (.lst []))) (h1 : starEach [a] B.X.env = (false, eval a B.X.env) :: starEach [] B.X.env) (hs1 : starEach [a] B.X.env = [(false, eval a B.X.env)])
    (hs : ∀ x, foldedSetIterable (.Call (.Name "range" pr) [a] [] pc) B.X.env x = pure x) : WS B (.Assign [.Name y py] (.ListComp elt [⟨.Name v vp, .Call (.Name "range" pr) [a] [] pc, ifs, 0⟩] sc pos) spos) ρ m R :=
  ws_lcR k h0 sy.n (by rw [cb.hE]; exact hyl) (cb.sw hsw) hif hi hx (cb.ok ok) h h1 hs1 hs
theorem ws_stc {gs : List Comprehension} (k : Bok B) (cb : CB B N0 sc0) (sy : Sl B y i) (hsw : swB sc0 sc y py.line pos.line = false) (h : WE B (.ListComp elt gs sc pos) ρ m fun d m1 => R.nx ((i, d) :: ρ) m1) : WS B (.Assign [.Name y py] (.ListComp elt gs sc pos) spos) ρ m R := ws_st k sy h (cb.sw hsw)
theorem bt_blk {B' : Bx} {n : Str} {T : String} (hb : IsBlk B sc B') (b : Bt B n T) (g : Gl B'.X n) : Bt B' n T := ⟨g, by rw [hb.mg]; exact b.m, b.v⟩
theorem bi_blk {B' : Bx} {n : Str} {T : String} (hb : IsBlk B sc B') (b : Bi B n T) (g : Gl B'.X n) : Bi B' n T := ⟨g, by rw [hb.mg]; exact b.m, b.v⟩
theorem cls_blk {B' : Bx} {n : Str} {C : Addr} (hb : IsBlk B sc B') (b : GCls B n C) (g : Gl B'.X n) : GCls B' n C := ⟨g, by rw [hb.mg]; exact b.m⟩
theorem fld_blk {B' : Bx} {f : Str} {C : Addr} (hb : IsBlk B sc B') (b : FldOk B C f) : FldOk B' C f := ⟨by rw [hb.K]; exact b.cl, by rw [hb.K]; exact b.na⟩
end
section
variable {B : Bx} {m : Mem} {Q : D → Mem → Prop}
theorem reps_intsI {K : PySem.W.Frag} {G : Hp} : ∀ {ns : List Int} {xs : List V}, Reps K G (ns.map D.int) xs → xs = ns.map V.int
  | [], _, h => h
  | n :: ns, _, ⟨x, r, e, h1, h2⟩ => by
    obtain rfl : x = .int n := h1
    rw [e, reps_intsI h2]; rfl
theorem wc_sum {ns : List Int} (k : Bok B) (q : Q (.int ns.sum) m) : WC B (.builtin "sum") [.lst (ns.map D.int)] m Q := wc_of (cr_sum k.calm) fun G H vs c rd Q' kq => by
  obtain ⟨v, rfl, p, xs, rfl, hq, rx⟩ := rep1 rd
  refine ⟨p, ns, rfl, ?_, c.vp kq (d := .int _) rfl q⟩
  rw [← reps_intsI rx]
  exact SqL.sub c.ex hq
end
theorem sub_emod_emod (t o s : Int) : (t - o % s) % s = (t - o) % s := by
  have e : t - o % s = (t - o) + s * (o / s) := by have := Int.emod_add_mul_ediv o s; omega
  rw [e, Int.add_mul_emod_self_left]
def PlDs (n : Nat) : List D → Prop
  | [] => True
  | d :: l => PlD n d ∧ PlDs n l
theorem plds_mem {n : Nat} : ∀ {l : List D}, PlDs n l → ∀ d ∈ l, PlD n d
  | [], _, d, h => by cases h
  | e :: l, ⟨h1, h2⟩, d, h => by
    rcases List.mem_cons.mp h with rfl | h
    · exact h1
    · exact plds_mem h2 d h
theorem pld_l {n : Nat} {l : List D} (hl : l.length ≤ 1000) (h : PlDs n l) : PlD (n + 1) (.lst l) := ⟨Nat.lt_of_le_of_lt hl (by decide), plds_mem h⟩
theorem pld_t {n : Nat} {l : List D} (hl : l.length ≤ 1000) (h : PlDs n l) : PlD (n + 1) (.tup l) := ⟨Nat.lt_of_le_of_lt hl (by decide), plds_mem h⟩
end Pd
namespace PdErr
open PySem PySem.W PySem.Calls PyProof.Rows PySem.HandSPX L2
def eS (e : Expr) (p0 p1 p2 p4 p5 : Pos) : Stmt := .Expr (.Call (.Attribute (.Call (.Name "super" p0) [] [] p1) "__init__" p2) [e] [] p4) p5
structure ErrC (K : Frag) (C cc : Addr) : Prop where
  oex : OexC K C
  sup : ks_superIn K C C "__init__" = some (some (.builtin "ValueError.__init__"))
  ve : subIn K (.ref C) (.type "ValueError") = some true
  me : mroIn K C (.ref C) = some true
  cell : ∃ cl cld csl, K.lookup cc = some ⟨cl, cld, .cell (some (.ref C)), csl⟩
  tp : nsIn K cStatics "thirdparty.any" = some none
structure ErrS (N : List Str) (sc : Scope) : Prop where
  kind : sc.kind = .function
  co : sc.isCoroutine = false
  gen : sc.isGenerator = false
  nd : N.Nodup
  par : ∀ x ∈ N, sc.names.lookup x = some .local
  nocell : ∀ x ∈ sc.names, x.2 ≠ .cell
  free : ∀ y ∈ sc.names, y.2 = .free → y.1 = ("__class__" : Str)
  ks : sc.names.lookup ("super" : Str) = some .globalImplicit
  kc : sc.names.lookup ("__class__" : Str) = some .free
  hd : ∃ r, N = ("self" : Str) :: r
def cxE (CX : CXT) (P : Program) (w : World) (K : Frag) (mg : Str → Option Value) (base : Heap) (N : List Str) (qual : Str) (scope : Scope) (f : Addr) (cd : Value) (cc : Addr) (A : Around) (outer : List Env) (s : Shared) (H : Hp) (E : XK) : Cx where
  prog := P
  w := w
  K := K
  mg := mg
  base := base
  A := A.deeper (ksEnv qual scope s.heap.objs.size f cd cc)
  N := N
  s_0 := s
  H_0 := H
  env := ksEnv qual scope s.heap.objs.size f cd cc
  outer := outer
  stack := ksEnv qual scope s.heap.objs.size f cd cc :: outer
  ex := []
  calm := true
  fn := fun _ => false
  pn := []
  xe := fun e s' => wpAny (model P w) (A.deeper (ksEnv qual scope s.heap.objs.size f cd cc)) (leaving (ksEnv qual scope s.heap.objs.size f cd cc) e) (fun _ s'' => CX outer H s E e s'') (fun e' s'' => CX outer H s E e' s'') s'
theorem lookup_nd {x : Str} {u : Value} : ∀ {l : List (Str × Value)}, (l.map (·.1)).Nodup → (x, u) ∈ l → l.lookup x = some u
  | [], _, h => by cases h
  | (y, v) :: l, nd, h => by
    rw [List.map_cons, List.nodup_cons] at nd
    rcases List.mem_cons.mp h with e | h
    · cases e; simp [List.lookup]
    · have ne : x ≠ y := fun z => nd.1 (List.mem_map.mpr ⟨(x, u), h, z⟩)
      have e : (x == y) = false := by simpa using ne
      simp only [List.lookup, e]
      exact lookup_nd nd.2 h
theorem zip_keys {l : List Str} {us : List Value} (h : us.length = l.length) : (l.zip us).map (·.1) = l := List.map_fst_zip (by omega)
theorem zip_mem {l : List Str} {us : List Value} {i : Nat} {x : Str} {u : Value} (h1 : l[i]? = some x) (h2 : us[i]? = some u) : (x, u) ∈ l.zip us := by
  refine List.mem_of_getElem? (i := i) ?_
  exact (List.getElem?_zip_eq_some (z := (x, u))).mpr ⟨h1, h2⟩
theorem inv_startE {CX : CXT} {P : Program} {w : World} {K : Frag} {mg : Str → Option Value} {base : Heap} {N : List Str} {qual : Str} {scope : Scope} {f cc C : Addr} {cd : Value} {A : Around} {outer : List Env} {s : Shared} {h1 : Heap} {tk : Nat} {H : Hp} {E : XK} {us : List Value} {vs : List V}
    (S : ErrS N scope) (T : ErrC K C cc) (hd : A.handled = none) (e0 : Env0 P w K mg base A outer s H) (hl : vs.length = N.length) (r : Vals vs us)
    (hn : h1.Ns s.heap.objs.size (fun x => (N.zip us).reverse.lookup x)) (hk : ∀ b o, s.heap.get? b = some o → h1.get? b = some o) :
    Inv (cxE CX P w K mg base N qual scope f cd cc A outer s H E) [] (start N vs) H { s with heap := h1, toks := tk } := by
  have noA : ∀ b : Addr, b ∉ (cxE CX P w K mg base N qual scope f cd cc A outer s H E).ex := fun b z => absurd (show b ∈ ([] : List Addr) from z) (by simp)
  obtain ⟨cl, cld, csl, hcell⟩ := T.cell
  have hb : base.get? cc = some ⟨cl, cld, .cell (some (.ref C)), csl⟩ := e0.mod.kin _ _ hcell
  have one : ∀ {x : Str} {c : Addr}, (cxE CX P w K mg base N qual scope f cd cc A outer s H E).env.cells.lookup x = some c → x = ("__class__" : Str) ∧ c = cc := fun {x c} h => by
    have h' : List.lookup x [(("__class__" : Str), cc)] = some c := h
    unfold List.lookup at h'
    split at h'
    · rename_i e; cases h'; exact ⟨by simpa using e, rfl⟩
    · cases h'
  refine ⟨⟨e0.mod, S.kind, rfl, rfl, Nat.le_refl _, fun y z c h1 h2 => (one h1).1.trans (one h2).1.symm, fun y hy => ?_, fun y c z _ => absurd (show false = true from z) Bool.false_ne_true, fun _ => hd, Around.frames_deeper e0.frames, .inr ⟨rfl, rfl⟩, fun b z => absurd z (noA b), e0.bs, e0.bsz, fun b _ _ => noA b, fun b z => absurd z (noA b), e0.funs, e0.frf⟩,
    rfl, e0.bare, Un.kept hk, ⟨_, hn, fun i y v h1 h2 h3 => ?_⟩, fun y c h => ?_, e0.hok.fresh (Nat.le_refl _), fun y c h => ?_, fun p hp => absurd (show p ∈ ([] : List (Addr × Obj)) from hp) (by simp), e0.hok.kept hk, ?_⟩
  · have hy : scope.names.lookup y = some .cell ∨ scope.names.lookup y = some .free := hy
    rcases hy with hy | hy
    · exact absurd rfl (S.nocell _ (PySem.mem_of_lookup hy))
    · have e := S.free _ (PySem.mem_of_lookup hy) rfl
      have e : y = ("__class__" : Str) := e
      subst e
      exact ⟨cc, by show List.lookup ("__class__" : Str) [(("__class__" : Str), cc)] = some cc; simp [List.lookup]⟩
  · have h2 : (start N vs)[i]? = some (some v) := h2
    have h1 : N[i]? = some y := h1
    unfold L2.start at h2
    rw [hl, Nat.sub_self, List.replicate_zero, List.append_nil, List.getElem?_map] at h2
    have ha : vs[i]? = some v := by
      cases e : vs[i]? with
      | none => rw [e] at h2; cases h2
      | some a => rw [e] at h2; cases h2; rfl
    obtain ⟨u, hu, rv⟩ := r.get ha
    refine ⟨u, rv, .inl ⟨S.par y (List.mem_of_getElem? h1), ?_⟩⟩
    have hlen : us.length = N.length := by rw [← r.length]; exact hl
    refine lookup_nd ?_ (List.mem_reverse.mpr (zip_mem h1 hu))
    rw [List.map_reverse, zip_keys hlen]
    exact List.pairwise_reverse.mpr (S.nd.imp fun h => Ne.symm h)
  · obtain ⟨_, rfl⟩ := one h
    exact ⟨_, _, hk _ _ (e0.bs _ _ hb).1, rfl⟩
  · obtain ⟨_, rfl⟩ := one h
    exact (e0.bs _ _ hb).2
  · unfold L2.start
    show _ = N.length
    rw [List.length_append, List.length_map, List.length_replicate]
    omega
section
variable {X : Cx} {pins : List (Addr × Obj)} {σ : L2.St} {H : Hp} {C cc x u : Addr}
theorem mw_call {s : Shared} {rest : List Value} {Q : Value → Shared → Prop} {E : Value → Shared → Prop} (T : OexC X.K C) (I : Inv X pins σ H s) (hu : s.heap.get? u = some (kxs_mw "ValueError.__init__" x)) (e : H x = some (exo x C none)) (hz : rest.length ≤ sizeLine)
    (h : ∀ s', Inv X pins σ H s' → Q .none s') : wpAny (model X.prog X.w) X.A (call (.ref u) rest) Q E s := by
  obtain ⟨nm, q, N, bs, bm, sn, sub, ab, col, dd, k0, k1, k2, k3, k5, hC, hbm⟩ := T.cls
  have FB := F.excBase_ValueError
  obtain ⟨t1, ho⟩ := exo_at I.hok e
  have hCh := I.kIn _ _ hC
  obtain ⟨hh, g, d, tk, os⟩ := s
  refine wpAny_call (codeAny_of_tree ?_)
  show wpAny _ X.A.in1 (callAny (.ref u) ⟨rest, []⟩) _ _ _
  simp only [callAny]
  refine wpAny_bind (wpAny_load hu ?_)
  simp only [kxs_mw, show (Value.type "method-wrapper" == Value.type "method" || Value.type "method-wrapper" == Value.type "builtin_function_or_method" || Value.type "method-wrapper" == Value.type "method-wrapper") = true by decide, if_true]
  refine KFB.if_so (by decide) ?_
  refine wpAny_bind (check_bound_init FB.toExcCallFacts hCh ho rfl ?_)
  refine wpAny_bind (wpAny_pure (wpAny_pure ?_))
  refine ⟨plainId_quiet FB.init.plain _, codeAny_builtin FB.initEntry ?_⟩
  refine exc_init_tree (cls := .ref C) (t0 := t1) (dv := none) (c2 := .none) (c3 := .none) (b4 := .bool false) ho hz fun h' k hx t' => ?_
  have J := I.write (t' := tk) (x := x) (e := x) (o := exo x C none) (by rw [e]; exact True.intro) (.inl rfl) k ⟨_, hx⟩ (exo_ok hx)
  have eu : upd H x (exo x C none) = H := by
    funext b
    by_cases hb : b = x
    · rw [hb, upd_same, e]
    · rw [upd_ne hb]
  rw [eu] at J
  exact h _ J
end
theorem err_fn {CX : CXT} {P : Program} {w : World} {K : Frag} {mg : Str → Option Value} {base : Heap} {k : Nat} {C fI cc cda : Addr} {qual file : Str} {params : Arguments} {e : Expr} {p0 p1 p2 p4 p5 : Pos} {rest : List Stmt} {sc : Scope} {N : List Str} {sp : Sp}
    {oc doc pm ct ccl : Value} {od an cdd : Option Addr} {osl ccs : Array (Option Value)} {vs0 : Array Value} {tf : Tok} {ar : Arg}
    (T : ErrC K C cc) (lk : K.lookup fI = some ⟨oc, od, .func (ksFn "__init__" qual params (eS e p0 p1 p2 p4 p5 :: rest) sc .none .none doc pm an (.ref cda) ct cc), osl⟩) (hcd : codeIn K (.ref cda) qual = true)
    (hcode : K.lookup cda = some ⟨ccl, cdd, .fields vs0, ccs⟩) (hvs : vs0[2]? = some (.str file tf)) (hfile : ((P.main.file : Str) == file) = true) (htop : (P.main.scope.names.lookup ("super" : Str)).isSome = false)
    (hm : mg "super" = none) (S : ErrS N sc) (har : (params.posonlyargs ++ params.args).head? = some ar) (hself : ar.arg = ("self" : Str))
    (len : ∀ vs H Q E, sp vs H Q E → vs.length = N.length)
    (hbody : ∀ (A : Around) (outer : List Env) (s : Shared) (H : Hp) (vs : List V) (Q : VK) (E : XK), Room k (A.deeper (ksEnv qual sc s.heap.objs.size fI (.ref cda) cc)) → sp vs H Q E →
      ∃ (te : TE) (t : TS) (x : Addr) (ws : List V), vs = .ref x :: ws ∧ H x = some (exo x C none) ∧ PE (cxE CX P w K mg base N qual sc fI (.ref cda) cc A outer s H E) e te ∧ PSs (cxE CX P w K mg base N qual sc fI (.ref cda) cc A outer s H E) rest t ∧
        te (start N vs) H fun v H1 => ([v] : List V).length = 1 ∧ H1 x = some (exo x C none) ∧ t { nx := fun _ H' => Q .non H', rt := Q } (start N vs) H1)
    (hst : ∀ (L : Addr), starEach [e] (ksEnv qual sc L fI (.ref cda) cc) = (false, eval e (ksEnv qual sc L fI (.ref cda) cc)) :: starEach [] (ksEnv qual sc L fI (.ref cda) cc))
    (hcall : ∀ (L : Addr), ∃ pl : Sem Bool, eval (.Call (.Attribute (.Call (.Name "super" p0) [] [] p1) "__init__" p2) [e] [] p4) (ksEnv qual sc L fI (.ref cda) cc) = (do
      let ov ← attributeBase (.Call (.Name "super" p0) [] [] p1) "__init__" (ksEnv qual sc L fI (.ref cda) cc) (eval (.Call (.Name "super" p0) [] [] p1) (ksEnv qual sc L fI (.ref cda) cc))
      standAt p2.atName
      let (f, first) ← holding [ov] (getMethod ov "__init__" pl)
      callWith p4 f first (backTo p4 (starEach [e] (ksEnv qual sc L fI (.ref cda) cc))) [])) (hsw : ∀ (L : Addr), swapsWith (.Call (.Attribute (.Call (.Name "super" p0) [] [] p1) "__init__" p2) [e] [] p4) none p5.line (ksEnv qual sc L fI (.ref cda) cc) = pure false) :
    FnOk P w K mg base CX (k + 1) fI (ksFn "__init__" qual params (eS e p0 p1 p2 p4 p5 :: rest) sc .none .none doc pm an (.ref cda) ct cc) N sp := by
  refine ⟨len, fun A outer s H args us vs Q E hr e0 hb r hsp => ?_⟩
  have hl := len _ _ _ _ hsp
  have KX : K.In s.heap := e0.mod.kin.keeps fun b o e => (e0.bs b o e).1
  have lim : s.heap.NoLimit := e0.mod.nolimit.keeps fun b o e => (e0.bs b o e).1
  refine ks_codeAny_call_defAt (binds := N.zip us) hr.depth (KX _ _ lk) rfl lim (codeRec_of KX hcd) rfl hb S.nocell (fun y hy => S.par _ (List.of_mem_zip hy).1) (fun h₁ hns hk => ?_) S.co S.gen S.kind
  obtain ⟨te, t, x, ws, ev, hx, he, ht, hq⟩ := hbody A outer s H vs Q E (hr.deeper _) hsp
  have I0 := inv_startE (CX := CX) (E := E) (qual := qual) (f := fI) (cd := .ref cda) (tk := s.toks + (N.zip us).length) S T hr.hd e0 hl r hns hk
  let X := cxE CX P w K mg base N qual sc fI (.ref cda) cc A outer s H E
  have I : Inv X [] (start N vs) H { s with heap := h₁, toks := s.toks + (N.zip us).length } := I0
  obtain ⟨nm, q, NN, bs, bm, sn, sub, ab, col, dd, k0, k1, k2, k3, k5, hC, hbm⟩ := T.oex.cls
  obtain ⟨cl, cld, csl, hcell⟩ := T.cell
  have hcl : clsIn K C = some { name := nm, bases := bs, mro := .ref C :: bm, ns := NN, qualname := q, hasDict := true, slotNames := sn, subclasses := sub, abstract := ab, collection := col, hasDel := false } := by unfold clsIn; rw [hC] <;> rfl
  have sup := T.sup
  unfold ks_superIn at sup
  rw [hcl] at sup
  obtain ⟨t1, ho⟩ := exo_at I.hok hx
  have hD := I.kIn _ _ hC
  have hxC : x ≠ C := by
    rintro rfl
    have z := hD.symm.trans ho
    cases z
  have hself0 : (start N vs)[0]? = some (some (.ref x)) := by subst ev; rfl
  obtain ⟨rr, hN⟩ := S.hd
  have hN0 : X.N[0]? = some ("self" : Str) := by show N[0]? = _; rw [hN]; rfl
  have Xk : K.In h₁ := I.kIn
  -- the slot self
  obtain ⟨m0, hns0, look0⟩ := I.loc
  obtain ⟨us0, ru0, lk0⟩ := look0 0 _ _ hN0 hself0 (.inl (S.par _ (by rw [hN]; exact List.mem_cons_self)))
  obtain rfl : us0 = Value.ref x := ru0
  have hm0 : m0 "self" = some (.ref x) := by
    rcases lk0 with ⟨_, z⟩ | ⟨k, c, z, _⟩
    · exact z
    · have k' : sc.names.lookup ("self" : Str) = some .cell ∨ sc.names.lookup ("self" : Str) = some .free := k
      rw [S.par _ (by rw [hN]; exact List.mem_cons_self)] at k'
      rcases k' with k' | k' <;> cases k'
  obtain ⟨mb, hmb1, hmb2⟩ := I.mod.blt
  show PySem.wpAt (model P w) (A.deeper (ksEnv qual sc s.heap.objs.size fI (.ref cda) cc)) (.func (eS e p0 p1 p2 p4 p5 :: rest) (ksEnv qual sc s.heap.objs.size fI (.ref cda) cc)) (execs (eS e p0 p1 p2 p4 p5 :: rest) (ksEnv qual sc s.heap.objs.size fI (.ref cda) cc)) _ _ _
  refine ks_wpAt_execs_cons ?_
  unfold eS
  obtain ⟨pl, hpl⟩ := hcall s.heap.objs.size
  refine' ks_wpAt_Expr_any (ks_wpAt_MethodCall (pl := pl) ?main hpl) ?int ?sw
  case int =>
    show (sc.kind == .module && _) = false
    rw [S.kind]; rfl
  case sw => exact hsw _
  refine ks_wpAt_super_base (env := X.env) S.ks S.kc (show (("__init__" : Str) == ("__class__" : Str)) = false by decide) rfl (Xk _ _ lk) rfl har rfl (Xk _ _ hcode) rfl hvs hfile htop ?_
  refine ks_loadName_global S.kind S.ks (loadGlobal_builtin (env := X.env) (I.mod.glob.keeps I.bk) hm (hmb1.keeps I.bk) ((hmb2 _ (by decide)).trans (show bootBuiltins "super" = some (.type "super") by decide +kernel)) ⟨rfl, ?_⟩)
  refine wpAny_loadName_free S.kind S.kc rfl ⟨_, Xk _ _ hcell, rfl⟩ ?_
  rw [hself]
  refine wpAny_loadName_local S.kind (S.par _ (by rw [hN]; exact List.mem_cons_self)) hns0 hm0 ?_
  refine ks_wpAny_isType_cls hD rfl ⟨rfl, ?_⟩
  refine ks_wpAny_call_super hD rfl ho rfl (fun c z => by cases z) (looks_mroIn Xk T.me) (fun h2 e2 kp2 => ?_)
  have X2 : K.In h2 := Xk.keeps kp2
  have hI : Looks (model P w) h2 (isInstance (.ref x) (.type "ValueError")) true := by
    have I2 : InstAt h2 x (excO C t1) C none := ⟨kp2 _ _ ho, rfl, rfl, trivial⟩
    exact I2.type.andThen (looks_subIn X2 T.ve)
  refine kxs_getMethod kxs_ValueError e2 (looks_opaque X2 T.tp) (l₀ := .ref C :: bm) (fun A Q E s k q => wpAny_bind ((looks_clsIn X2 hcl) A _ E s k (wpAny_pure q))) rfl X2 sup hI hxC (by decide) ?_
  dsimp only
  have kp3 : ∀ b o, h₁.get? b = some o → (h2.push (kxs_mw "ValueError.__init__" x)).get? b = some o := fun b o z => Heap.get?_push_of_some _ (kp2 b o z)
  have hu : (h2.push (kxs_mw "ValueError.__init__" x)).get? h2.objs.size = some (kxs_mw "ValueError.__init__" x) := Heap.get?_push_at rfl rfl
  have I3 : Inv X [] (start N vs) H { s with heap := h2.push (kxs_mw "ValueError.__init__" x), toks := s.toks + (N.zip us).length + 1 } := I.kept kp3
  have nH : h₁.objs.size ≤ h2.objs.size := Nat.le_of_lt (Heap.lt_size e2)
  have hfr : H h2.objs.size = none := I.hok.fresh nH
  have I4 : Inv X [(h2.objs.size, kxs_mw "ValueError.__init__" x)] (start N vs) H { s with heap := h2.push (kxs_mw "ValueError.__init__" x), toks := s.toks + (N.zip us).length + 1 } := I3.pins_of fun p hp => by
    rcases List.mem_singleton.mp hp with rfl
    refine ⟨hu, hfr, fun z => ?_, I.nofs nH, fun v z => by cases z⟩
    have := I.lt
    rw [← z] at this
    exact absurd nH (Nat.not_le_of_lt this)
  refine kxs_callWith (i := "ValueError.__init__") (x := x) (by rw [hst]; rfl) ?_
  have hA := (pa_cons he pa_nil (hst _)).run p4 [(h2.objs.size, kxs_mw "ValueError.__init__" x)] _ (L2.start N vs) H (fun ws H1 => ws.length = 1 ∧ H1 x = some (exo x C none) ∧ t { nx := fun _ H' => Q .non H', rt := Q } (L2.start N vs) H1) I4 hq
  have hA : wpAny (model P w) (A.deeper (ksEnv qual sc s.heap.objs.size fI (.ref cda) cc)) (spliced (backTo p4 (starEach [e] (ksEnv qual sc s.heap.objs.size fI (.ref cda) cc)))) _ _ _ := hA
  rw [hst] at hA ⊢
  refine evalArgs_plain (wpAny_mono hA (fun us1 s5 h5 => ?_) fun _ _ z => z)
  obtain ⟨ws1, H5, I5, rv5, ew5, ex5, q5⟩ := h5
  refine ⟨(I5.pin (h2.objs.size, kxs_mw "ValueError.__init__" x) (List.mem_append_right _ (List.mem_singleton.mpr rfl))).1, ?_⟩
  refine mw_call T.oex (I5.pins_of (pins' := []) (fun p hp => by cases hp)) (I5.pin (h2.objs.size, kxs_mw "ValueError.__init__" x) (List.mem_append_right _ (List.mem_singleton.mpr rfl))).1 ex5 ?_ fun s6 I6 => ?_
  · show us1.length ≤ sizeLine
    rw [← rv5.length, ew5, sizeLine_eq]; omega
  · refine wpAt_of_wpAny (wpAny_mono (ht.run [] s6 (L2.start N vs) H5 _ I6 q5) (fun fl s' hs => ?_) fun e s' hs => hs)
    have fin : ∀ {σ' : L2.St} {H' : Hp} {v : V} {u : Value}, Inv (cxE CX P w K mg base N qual sc fI (.ref cda) cc A outer s H E) [] σ' H' s' → RelV v u → Q v H' → CE outer P w H s Q u s' :=
      fun {σ' H' v u} J rv q => ⟨v, H', J.os, J.bare, J.base, J.hok, rv, q⟩
    cases fl with
    | ret u =>
      obtain ⟨v, σ', H', J, rv, q⟩ := hs
      exact fin J rv q
    | next =>
      obtain ⟨σ', H', J, q⟩ := hs
      exact fin (v := V.non) (u := Value.none) J rfl q
    | brk =>
      obtain ⟨_, _, _, q⟩ := hs
      exact False.elim q
    | cont =>
      obtain ⟨_, _, _, q⟩ := hs
      exact False.elim q
def eF (f : Str) (q1 q2 q3 q4 : Pos) : Stmt := .Assign [.Attribute (.Name "self" q1) f q2] (.Name f q3) q4
def spErr (C : Addr) (fs : List Str) (okw : List V → Prop) : Sp := fun vs H Q E => ∃ (x : Addr) (ws : List V), vs = .ref x :: ws ∧ ws.length = fs.length ∧ okw ws ∧ H x = some (exo x C none) ∧
  ∀ (d : Addr) (H2 : Hp), H d = none → d ≠ x → H2 x = some (exo x C (some d)) → H2 d = some (exd d (fs.zip ws).reverse) → (∀ b, b ≠ x → b ≠ d → H2 b = H b) → Q .non H2
inductive ErrE : Expr → List Str → (List V → Prop) → Prop where
  | str (x : Str) (j pos) (fs) : ErrE (.Constant (.str x) j pos) fs (fun _ => True)
  | cat (x : Str) (j p1 p2 p3) (f : Str) (fs) : f ≠ "__debug__" → f ≠ "__classdict__" → ErrE (.BinOp (.Constant (.str x) j p1) .Add (.Name f p2) p3) (f :: fs) (fun ws => ∃ z r, ws = .str z :: r ∧ x.length + z.length ≤ sizeLine)
theorem start_get {N : List Str} {vs : List V} {i : Nat} {v : V} (h : vs[i]? = some v) : (L2.start N vs)[i]? = some (some v) := by
  have hi : i < vs.length := (List.getElem?_eq_some_iff.mp h).1
  unfold L2.start
  rw [List.getElem?_append_left (by simpa using hi), List.getElem?_map, h]; rfl
theorem errE_pe {X : Cx} {e : Expr} {fs N : List Str} {okw : List V → Prop} {x : Addr} {ws : List V} (hE : ErrE e fs okw) (hN : X.N = ("self" : Str) :: fs) (hv : ∀ f ∈ fs, Vis X.env.scope f) :
    ∃ te : TE, PE X e te ∧ ∀ (H : Hp) (Q : VK), okw ws → (∀ v, Q v H) → te (L2.start N (.ref x :: ws)) H Q := by
  cases hE with
  | str z j pos fs => exact ⟨_, pe_str, fun H Q _ q => q _⟩
  | cat z j p1 p2 p3 f fs h1 h2 =>
    refine ⟨_, pe_op op_add_str pe_str (pe_var (i := 1) (by rw [hN]; rfl) (hv _ List.mem_cons_self) (by simpa using h1) (by simpa using h2)), fun H Q ok q => ?_⟩
    obtain ⟨s, r, rfl, hl⟩ := ok
    exact ⟨.str s, start_get (by rfl), z, s, rfl, rfl, hl, q _⟩
section
variable {X : Cx} {C : Addr} {f g : Str} {q1 q2 q3 q4 r1 r2 r3 r4 : Pos} {x : Addr} {N : List Str}
theorem ost1 {y : V} (T : OexC X.K C) (hN : X.N = [("self" : Str), f]) (hv0 : Vis X.env.scope "self") (hv : Vis X.env.scope f) (hd : (f == ("__debug__" : Str)) = false) (hcd : (f == ("__classdict__" : Str)) = false)
    (hno : PySem.W.findIn X.K (.ref C) f = some none) (hs : swapsWith (.Name f q3) (some (.Attribute (.Name "self" q1) f q2)) q4.line X.env = pure false) :
    ∃ t : TS, PSs X [eF f q1 q2 q3 q4] t ∧ ∀ (D : Ends) (H : Hp), H x = some (exo x C none) → (∀ d, H d = none → d ≠ x → D.nx (L2.start N [.ref x, y]) (upd (upd H d (exd d [(f, y)])) x (exo x C (some d)))) → t D (L2.start N [.ref x, y]) H := by
  refine ⟨_, pss_one (ps_ost (pe_var (i := 0) (by rw [hN]; rfl) hv0 (by decide) (by decide)) (pe_var (i := 1) (by rw [hN]; rfl) hv hd hcd) hs), fun D H hx k => ?_⟩
  exact ⟨y, start_get rfl, .ref x, start_get rfl, x, C, rfl, T, hno, .inl ⟨hx, fun d h1 h2 => k d h1 h2⟩⟩
theorem ost2 {y z : V} (T : OexC X.K C) (hN : X.N = [("self" : Str), f, g]) (hv0 : Vis X.env.scope "self") (hv : Vis X.env.scope f) (hvg : Vis X.env.scope g) (hd : (f == ("__debug__" : Str)) = false) (hcd : (f == ("__classdict__" : Str)) = false) (hdg : (g == ("__debug__" : Str)) = false) (hcdg : (g == ("__classdict__" : Str)) = false)
    (hno : PySem.W.findIn X.K (.ref C) f = some none) (hno' : PySem.W.findIn X.K (.ref C) g = some none) (hs : swapsWith (.Name f q3) (some (.Attribute (.Name "self" q1) f q2)) q4.line X.env = pure false) (hs' : swapsWith (.Name g r3) (some (.Attribute (.Name "self" r1) g r2)) r4.line X.env = pure false) :
    ∃ t : TS, PSs X [eF f q1 q2 q3 q4, eF g r1 r2 r3 r4] t ∧ ∀ (D : Ends) (H : Hp), H x = some (exo x C none) → (∀ d, H d = none → d ≠ x → D.nx (L2.start N [.ref x, y, z]) (upd (upd (upd H d (exd d [(f, y)])) x (exo x C (some d))) d (exd d [(g, z), (f, y)]))) → t D (L2.start N [.ref x, y, z]) H := by
  refine ⟨_, pss_cons (ps_ost (pe_var (i := 0) (by rw [hN]; rfl) hv0 (by decide) (by decide)) (pe_var (i := 1) (by rw [hN]; rfl) hv hd hcd) hs) (pss_one (ps_ost (pe_var (i := 0) (by rw [hN]; rfl) hv0 (by decide) (by decide)) (pe_var (i := 2) (by rw [hN]; rfl) hvg hdg hcdg) hs')), fun D H hx k => ?_⟩
  refine ⟨y, start_get rfl, .ref x, start_get rfl, x, C, rfl, T, hno, .inl ⟨hx, fun d h1 h2 => ?_⟩⟩
  exact ⟨z, start_get rfl, .ref x, start_get rfl, x, C, rfl, T, hno', .inr ⟨d, [(f, y)], upd_same, by rw [upd_ne h2, upd_same], by simp, k d h1 h2⟩⟩
end
end PdErr
namespace PdErr
open PySem PySem.Spec PyProof.Rows L2
abbrev Suite := Addr → Value → Option Addr → TS
def endAs (D : Ends) (i : Nat) : Ends := { nx := fun σ' H' => D.nx (σ'.set i none) H', rt := D.rt, bk := fun σ' H' => D.bk (σ'.set i none) H', ct := fun σ' H' => D.ct (σ'.set i none) H' }
def wAll (K : PySem.W.Frag) (Wo : WX) (D : Ends) : List (Value × Nat × Suite) → WX
  | [] => Wo
  | (c, i, ts) :: r => fun cls d σ H => ∃ b, PySem.W.exmOne K cls c = some b ∧ match b with
    | true => ∀ a, H a = none → ts a cls d (endAs D i) (σ.set i (some (.ref a))) H
    | false => wAll K Wo D r cls d σ H
inductive HdAs (X : Cx) : List ExceptHandler → List (Value × Nat × Suite) → Prop
  | nil : HdAs X [] []
  | cons {x n : Str} {c : Value} {i : Nat} {ts : Suite} {b0 : Stmt} {suite : List Stmt} {np p' : Pos} {hds : List ExceptHandler} {l : List (Value × Nat × Suite)} (hc : Names X x c) (hi : X.N[i]? = some n) (hl : X.env.kindOf n = some .local)
      (hsu : ∀ (a : Addr) (oe : Obj) (cls : Value) (d : Option Addr) (pn : List (Addr × Obj)), Zc cls d oe → (∃ vs, oe.data = .fields vs) → PSs (X.suite a ((a, oe) :: pn)) (b0 :: suite) (ts a cls d)) (r : HdAs X hds l) :
      HdAs X (.ExceptHandler (some (.Name x np)) (some n) (b0 :: suite) p' :: hds) ((c, i, ts) :: l)
structure Air (X : Cx) (pins : List (Addr × Obj)) (σ : L2.St) (H : Hp) (a : Addr) (cls : Value) (d : Option Addr) (B : Heap) (sI s : Shared) : Prop where
  J : Inv X pins σ H sI
  nb : ∀ b o, sI.heap.get? b = some o → b ∉ frs X.stack → B.get? b = some o
  up : sI.heap.UpToSlots s.heap
  fl : HandSPX.FlyingZ B (X.env :: X.outer) a (Zc cls d) s.heap
  na : H a = none
  os : s.os = sI.os
  ag : AllBare s.gens
section
variable {X : Cx} {pins : List (Addr × Obj)} {σ : L2.St} {H : Hp} {a : Addr} {cls : Value} {d : Option Addr} {B : Heap} {sI s : Shared}
theorem Air.move (w : Air X pins σ H a cls d B sI s) {h' : Heap} (fl : HandSPX.FlyingZ B (X.env :: X.outer) a (Zc cls d) h') (up : s.heap.UpToSlots h') : Air X pins σ H a cls d B sI { s with heap := h' } := ⟨w.J, w.nb, w.up.trans up, fl, w.na, w.os, w.ag⟩
theorem Air.suite (w : Air X pins σ H a cls d B sI s) (hf : X.env.frame = some X.env.locals) : ∃ oe vs, s.heap.get? a = some oe ∧ Zc cls d oe ∧ oe.data = .fields vs ∧ Inv (X.suite a ((a, oe) :: (X.pn ++ pins))) [] σ H s := by
  obtain ⟨oe, vs, he, hz, hd⟩ := w.fl.there
  have nfr : a ∉ frs (X.env :: X.outer) := fun hm => by
    obtain ⟨_, o', e', hnf⟩ := w.fl.2.2.1.mem hm
    rw [he] at e'; cases e'
    exact hnf _ hd
  have I : Inv X pins σ H s := w.J.landed w.nb w.fl.1 w.up w.os w.ag
  refine ⟨oe, vs, he, hz, hd, I.suite he hd w.na (fun z => nfr ?_) fun hm => nfr ?_⟩
  · exact List.mem_filterMap.mpr ⟨X.env, List.mem_cons_self, by rw [hf, z]⟩
  · obtain ⟨e, h1, h2⟩ := List.mem_filterMap.mp hm
    exact List.mem_filterMap.mpr ⟨e, List.mem_cons_of_mem _ h1, h2⟩
theorem Air.handled {Wo : WX} {D : Ends} (hs : X.stack = X.env :: X.outer) (hf : X.env.frame = some X.env.locals) (hN : X.N.Nodup) (tk : Takes X Wo) {hds : List ExceptHandler} {l : List (Value × Nat × Suite)} (hk : HdAs X hds l) :
    ∀ {s : Shared}, Air X pins σ H a cls d B sI s → wAll X.K Wo D l cls d σ H → wpAny (model X.prog X.w) X.A (handleBy (.ref a) X.env hds) (SP X pins D) X.xe s := by
  induction hk with
  | nil =>
    intro s w q
    refine wpAny_handleBy_nil ?_
    have done : ∀ {R : Flow → Shared → Prop}, wpAny (model X.prog X.w) X.A (setFlight (.ref a) X.env.frame) (fun _ s' => wpAny (model X.prog X.w) X.A (throw (.ref a) : Sem Flow) R X.xe s') X.xe s := by
      intro R
      rw [hf]
      exact HandSPX.setFlight_upZ w.fl fun h' hh u => wpAny_throw (tk _ _ ⟨a, B, sI, pins, σ, H, cls, d, rfl, w.J, w.nb, w.up.trans u, .inr (.inr (by rw [hs]; exact hh)), w.na, w.os, w.ag, q⟩)
    obtain ⟨_, _, _, oe, vs, T, _, _, he, _, hd, h1, _⟩ := id w.fl
    have nT : ¬ (Value.ref T == Value.none) = true := by simp
    unfold PySem.passOn
    refine wpAny_bind (wpAny_field he hd h1 ?_)
    rw [if_neg nT]
    first
      | exact wpAny_bind (wpAny_pure (wpAny_bind done))
      | exact wpAny_bind done
  | @cons x n c i ts b0 suite np p' hds' l' hc hi hl hsu r ih =>
    intro s w q
    obtain ⟨b, hb, q⟩ := q
    obtain ⟨oe, vs, he, hz, hd, S⟩ := w.suite hf
    refine wpAny_handleBy_cons (codeAny_handlers_test ?_) (fun z => nomatch z)
    have ty : PySem.W.Looks (model X.prog X.w) s.heap (typeOf (.ref a)) cls := fun A' Q' E' s' k z => wpAny_typeOf_ref (k _ _ he) (by rw [hz.1]; exact z)
    have mt := PySem.W.exm_one (M := model X.prog X.w) S.kIn ty hb
    have nm : ∀ {Q' : Value → Shared → Prop} {E' : Value → Shared → Prop}, Q' c s → wpAny (model X.prog X.w) (X.A.mark (some (.ref a))) (eval (.Name x np) X.env) Q' E' s := by
      intro Q' E' z
      obtain ⟨hg, hdb, e | ⟨e, hv, hn⟩⟩ := hc
      · exact ld_glob S hg e z hdb
      · exact ld_blt S hg e hv z hn hdb
    refine nm (mt.here ?_)
    cases b with
    | false => exact ih w q
    | true =>
      refine codeAny_handlers_suite_as (HandSPX.lands_againZ w.fl fun h4 fl4 up4 => ?_)
      obtain ⟨oe4, vs4, he4, hz4, hd4, S4⟩ := (w.move fl4 up4).suite hf
      refine store_ok (X := X.suite a ((a, oe4) :: (X.pn ++ pins))) S4 (v := .ref a) hN hi (.inl hl) rfl (fun s5 S5 => ?_) (.inr hl)
      refine wpAny_mono ((hsu a oe4 cls d (X.pn ++ pins) hz4 ⟨_, hd4⟩).run [] s5 _ H _ S5 (q a w.na)) (fun f s6 z => ?_) fun _ _ z => z.elim
      have un : ∀ {σ6 : L2.St} {H6 : Hp} {R : Shared → Prop}, Inv (X.suite a ((a, oe4) :: (X.pn ++ pins))) [] σ6 H6 s6 → (∀ s7, Inv X pins (σ6.set i none) H6 s7 → R s7) → wpAny (model X.prog X.w) X.A (do bindName X.env n .none; unbindBehindTheSuite X.env n p') (fun _ s7 => R s7) X.xe s6 :=
        fun S6 k => gone_ok (S6.unsuite w.J.ok) hN hi hl k
      match f, z with
      | .next, ⟨_, _, S6, q6⟩ => exact un S6 fun s7 J7 => ⟨_, _, J7, q6⟩
      | .brk, ⟨_, _, S6, q6⟩ => exact un S6 fun s7 J7 => ⟨_, _, J7, q6⟩
      | .cont, ⟨_, _, S6, q6⟩ => exact un S6 fun s7 J7 => ⟨_, _, J7, q6⟩
      | .ret u, ⟨_, _, _, S6, r6, q6⟩ => exact un S6 fun s7 J7 => ⟨_, _, _, J7, r6, q6⟩
end
section
variable {X : Cx} {body : List Stmt} {h0 : ExceptHandler} {hds : List ExceptHandler} {l : List (Value × Nat × Suite)} {pos : Pos} {tb : WX → TS} {Wo : WX}
theorem ps_tryN (hs : X.stack = X.env :: X.outer) (hf : X.env.frame = some X.env.locals) (hN : X.N.Nodup) (tk : Takes X Wo)
    (hb : ∀ (W : WX) (pn : List (Addr × Obj)) (xe : Value → Shared → Prop), Takes (X.tr pn xe) W → PassesOwn (model X.prog X.w) X.A X.env xe → PSs (X.tr pn xe) body (tb W))
    (hh : HdAs X (h0 :: hds) l) : PS X (.Try body (h0 :: hds) [] [] pos) (fun D σ H => tb (wAll X.K Wo D l) D σ H) := by
  refine ⟨fun pins s σ H D I h => wpAny_Try_except ?_⟩
  have run := (hb (wAll X.K Wo D l) (X.pn ++ pins) (fun e s1 => wpAny (model X.prog X.w) X.A (noteFrame e X.env) (fun _ s2 => wpAny (model X.prog X.w) X.A (setFlight e none) (fun _ s3 => wpAny (model X.prog X.w) X.A (handleBy e X.env (h0 :: hds)) (SP X pins D) X.xe s3) X.xe s2) X.xe s1) (fun u s' xx => ?_) PassesOwn.looking).run [] s σ H D (I.toTry _) h
  · refine wpAny_mono run (fun f s1 z => ?_) fun _ _ z => z
    match f, z with
    | .next, ⟨σ', H', J', q⟩ => exact wpAny_execs_nil ⟨σ', H', J'.ofTry I.ok, q⟩
    | .brk, ⟨σ', H', J', q⟩ => exact ⟨σ', H', J'.ofTry I.ok, q⟩
    | .cont, ⟨σ', H', J', q⟩ => exact ⟨σ', H', J'.ofTry I.ok, q⟩
    | .ret u, ⟨v, σ', H', J', r, q⟩ => exact ⟨v, σ', H', J'.ofTry I.ok, r, q⟩
  · obtain ⟨a, B, sI, pins', σ', H', cls, d, rfl, J', nb, up, sky, na, os, ag, q⟩ := xx
    have fr : X.A.frames = some (X.env :: X.outer) := by rw [I.ok.frames, hs]
    have sky' : Sky B (X.env :: X.outer) a (Zc cls d) X.env.locals s'.heap := by rw [← hs]; exact sky
    exact Sky.land Zc.steady fr hf sky' fun h3 fl3 up3 => Air.handled hs hf hN tk hh (s := { s' with heap := h3 }) ⟨J'.ofTry I.ok, nb, up.trans up3, fl3, na, os, ag⟩ q
end
end PdErr
namespace Pd
open PySem PySem.Spec PyProof.Rows L2 PdErr
section
variable {X : Cx}
theorem op_catQ : OpR X (binaryOp .Add) (fun x y H Q => ∃ l b xs zs, x = .ref l ∧ y = .ref b ∧ SqL X.K H l xs ∧ SqL X.K H b zs ∧ xs.length + zs.length ≤ sizeLine ∧ ∀ p, H p = none → Q (.ref p) (upd H p (.lst (xs ++ zs)))) := by
  intro pins s σ H x y v u Q I rx ry h
  obtain ⟨l, b, xs, zs, rfl, rfl, hl, hb, hz, q⟩ := h
  cases rx
  cases ry
  obtain ⟨i1, r1, ⟨⟨c1, d1, dt1, sl1⟩, n1, e1, t1, u1, w1⟩, _⟩ := I.list hl
  obtain ⟨i2, r2, ⟨⟨c2, d2, dt2, sl2⟩, n2, e2, t2, u2, w2⟩, _⟩ := I.list hb
  dsimp only at t1 u1 w1 t2 u2 w2
  subst t1 u1 w1 t2 u2 w2
  have z : i1.toArray.size + i2.toArray.size ≤ sizeLine := by rw [List.size_toArray, List.size_toArray, ← r1.length, ← r2.length]; exact hz
  refine concat_meets ⟨_, e1, rfl⟩ ⟨_, e2, rfl⟩ noFill_list_add seq_list_add PySem.F.slot_list_add PySem.F.entry_list_add (PySem.F.args_list_add_2 _ _) (list_addW l b i1.toArray i2.toArray n1 n2 none none sl1 sl2 z) ⟨e1, e2, ?_⟩
  have ea : i1.toArray ++ i2.toArray = (i1 ++ i2).toArray := by simp
  rw [ea]
  exact ⟨.ref _, _, I.lnew (t' := s.toks) (r1.append r2) (by rw [List.length_append]; exact hz), rfl, q _ I.fresh⟩
end
section
variable {B : Bx} {m : Mem} {Q : D → Mem → Prop} {l k : List D}
theorem wb_cat (hz : l.length + k.length ≤ sizeLine) (q : Q (.lst (l ++ k)) m) : WB B (binaryOp .Add) (.lst l) (.lst k) m Q := wb_of op_catQ fun G H v u c r1 r2 Q' kk => by
  obtain ⟨p1, xs, rfl, h1, a1⟩ := r1
  obtain ⟨p2, ys, rfl, h2, a2⟩ := r2
  refine ⟨p1, p2, xs, ys, rfl, rfl, SqL.sub c.ex h1, SqL.sub c.ex h2, by rw [reps_len a1, reps_len a2]; exact hz, fun p hp => ?_⟩
  have sb := sub_upd (o := .lst (xs ++ ys)) (c.none hp).1
  exact kk (.ref p) (.lst (l ++ k)) m _ _ sb (c.new hp) ⟨p, _, rfl, SqL.of upd_same, Reps.sub sb _ _ (reps_app a1 a2)⟩ q
end
theorem repf_app {K : PySem.W.Frag} {G : Hp} : ∀ {l l2 : List (Str × D)} {xs ys : List (Str × V)}, RepF K G l xs → RepF K G l2 ys → RepF K G (l ++ l2) (xs ++ ys)
  | [], _, _, _, h1, h2 => by obtain rfl := h1; exact h2
  | (_, _) :: _, _, _, ys, ⟨x, t, e, ha, ht⟩, h2 => by subst e; exact ⟨x, t ++ ys, rfl, ha, repf_app ht h2⟩
theorem repf_rev {K : PySem.W.Frag} {G : Hp} : ∀ {fs : List Str} {ds : List D} {vs : List V}, Reps K G ds vs → RepF K G (fs.zip ds).reverse (fs.zip vs).reverse
  | [], _, _, _ => by simp [RepF]
  | f :: fs, [], _, h => by obtain rfl := h; simp [RepF]
  | f :: fs, d :: ds, _, ⟨x, r, e, h1, h2⟩ => by
    subst e
    rw [List.zip_cons_cons, List.zip_cons_cons, List.reverse_cons, List.reverse_cons]
    exact repf_app (repf_rev h2) ⟨x, [], rfl, h1, rfl⟩
structure GErr (B : Bx) (n : Str) (C : Addr) (fs : List Str) (ok : List D → Prop) : Prop where
  g : Gl B.X n
  m : B.X.mg n = some (.ref C)
  T : OexC B.X.K C
  len : fs.length ≤ 900
  ex : ∃ (fI : Addr) (k : Nat) (fd : FuncData) (okw : List V → Prop), PySem.W.findIn B.X.K (.ref C) "__init__" = some (some (.ref fI)) ∧ PySem.W.typeIn B.X.K (.ref fI) = some (.type "function") ∧
    FnOk B.X.prog B.X.w B.X.K B.X.mg B.X.base (L2.CX B.X.prog B.X.w) k fI fd ("self" :: fs) (spErr C fs okw) ∧ Room (k + 1) B.X.A ∧ Binds B.X.K fd ("self" :: fs) [] ∧ ∀ G ds vs, Reps B.X.K G ds vs → ok ds → okw vs
section
variable {B : Bx} {e : Expr} {es : List Expr} {ρ : DE} {m : Mem} {R : RR} {pos p2 p3 : Pos} {n : Str} {C : Addr} {fs : List Str} {ok : List D → Prop} {Xd : XD}
theorem ws_raise (kk : Bok B) (g : GErr B n C fs ok) (hx : XR B ρ Xd) (h : WA B (e :: es) ρ m fun ds m1 => ds.length = fs.length ∧ ok ds ∧ Xd C (fs.zip ds).reverse m1) (hdb : (n == ("__debug__" : Str)) = false)
    (he : starEach (e :: es) B.X.env = (false, eval e B.X.env) :: starEach es B.X.env) (hpl : (backTo pos (starEach es B.X.env)).any (·.1) = false) :
    WS B (.Raise (some (.Call (.Name n p2) (e :: es) [] pos)) none p3) ρ m R := fun G σ H s r c D k pins s1 I => by
  obtain ⟨fI, lv, fd, okw, h1, h2, F, hr, hb, hok⟩ := g.ex
  obtain ⟨W, tk, hW⟩ := hx G σ s r
  refine (ps_raise (W := W) kk.calm tk (pmk_oex (CX := L2.CX B.X.prog B.X.w) (dvs := []) (ds := []) g.T h1 h2 F hr hb .nil (passes_call takes0' fun _ _ _ _ z => z) g.g g.m (paX (e :: es)) hdb he hpl)).run pins s1 σ H D I ?_
  refine h G σ H s r c _ fun vs ds m1 G1 H1 s1 c1 r1 ⟨q1, q2, q3⟩ => ?_
  have hl := reps_len r1
  refine ⟨by have := g.len; omega, fun a ha => ⟨a, vs, by simp, by omega, hok _ _ _ r1 q2, upd_same, fun d H2 hd hne e1 e2 e3 => ⟨rfl, d, _, e1, e2, ?_, ?_⟩⟩⟩
  · rw [upd_ne hne] at hd; exact hd
  · rw [upd_ne hne] at hd
    have eH : upd (del H2 a) d (.xd (fs.zip vs).reverse) = upd H1 d (.xd (fs.zip vs).reverse) := by
      funext b
      by_cases hbd : b = d
      · rw [hbd, upd_same, upd_same]
      · rw [upd_ne hbd, upd_ne hbd]
        by_cases hba : b = a
        · rw [hba, del_same, ha]
        · rw [del_ne hba, e3 b hba hbd, upd_ne hba]
    rw [eH]
    exact hW C (some d) (fs.zip ds).reverse m1 G1 (upd H1 d (.xd (fs.zip vs).reverse)) s1 (c1.grow hd) (.inr ⟨d, _, rfl, upd_same, repf_rev r1⟩) q3
end
structure Hd where
  c : Value
  i : Nat
  suite : List Stmt
def rmD (i : Nat) : DE → DE
  | [] => []
  | (j, d) :: r => match Nat.beq j i with
    | true => rmD i r
    | false => (j, d) :: rmD i r
theorem lk_rm {i j : Nat} : ∀ {ρ : DE} {d : D}, lk (rmD i ρ) j = some d → j ≠ i ∧ lk ρ j = some d
  | [], _, h => by cases h
  | (k, e) :: r, d, h => by
    unfold rmD at h
    cases hb : Nat.beq k i with
    | true =>
      rw [hb] at h
      have hk : k = i := Nat.eq_of_beq_eq_true hb
      obtain ⟨h1, h2⟩ := lk_rm h
      exact ⟨h1, by rw [lk_cons, if_neg (fun z => h1 (z.symm.trans hk))]; exact h2⟩
    | false =>
      rw [hb] at h
      have hk : k ≠ i := fun z => by rw [z, Nat.beq_refl] at hb; cases hb
      have h' : lk ((k, e) :: rmD i r) j = some d := h
      rw [lk_cons] at h' ⊢
      by_cases z : k = j
      · rw [if_pos z] at h' ⊢
        exact ⟨fun y => hk (z.trans y), h'⟩
      · rw [if_neg z] at h' ⊢
        exact lk_rm h'
theorem RepE.unset {K : PySem.W.Frag} {n : Nat} {G : Hp} {σ : L2.St} {ρ : DE} (r : RepE K n G σ ρ) (i : Nat) : RepE K n G (σ.set i none) (rmD i ρ) := by
  refine ⟨by rw [List.length_set]; exact r.len, fun j d h => ?_⟩
  obtain ⟨h1, h2⟩ := lk_rm h
  obtain ⟨v, h3, h4⟩ := r.at_ j d h2
  exact ⟨v, by rw [List.getElem?_set_ne (Ne.symm h1)]; exact h3, h4⟩
def endR (R : RR) (i : Nat) : RR := { nx := fun ρ m => R.nx (rmD i ρ) m, rt := R.rt, bk := fun ρ m => R.bk (rmD i ρ) m, ct := fun ρ m => R.ct (rmD i ρ) m }
structure SuOf (B B2 : Bx) (a C : Addr) (l : List (Str × D)) : Prop where
  ex : ∃ oe pn d, B2.X = B.X.suite a ((a, oe) :: pn) ∧ Zc (.ref C) d oe ∧ (∃ vs, oe.data = .fields vs) ∧ ((d = none ∧ l = []) ∨ ∃ dd fs, d = some dd ∧ B2.G0 dd = some (.xd fs) ∧ RepF B2.X.K B2.G0 l fs)
  g : Sub B.G0 B2.G0
structure TrOf (B B2 : Bx) : Prop where
  ex : ∃ pn xe, B2.X = B.X.tr pn xe
  g : Sub B.G0 B2.G0
  ps : Pss B2
def hdW (B : Bx) (Xo : XD) (R : RR) : List Hd → DE → XD
  | [], _ => Xo
  | h :: r, ρ => fun C l m => ∃ b, PySem.W.exmOne B.X.K (.ref C) h.c = some b ∧ match b with
    | true => ∀ (B2 : Bx) a, SuOf B B2 a C l → WSs B2 h.suite ((h.i, .ref a) :: ρ) m (endR R h.i)
    | false => hdW B Xo R r ρ C l m
inductive HdsD (B : Bx) : List ExceptHandler → List Hd → Prop
  | nil : HdsD B [] []
  | cons {x n : Str} {c : Value} {i : Nat} {b0 : Stmt} {suite : List Stmt} {np p' : Pos} {hds : List ExceptHandler} {l : List Hd} (hc : Names B.X x c) (s : Sl B n i) (hl : B.X.env.kindOf n = some .local) (r : HdsD B hds l) :
      HdsD B (.ExceptHandler (some (.Name x np)) (some n) (b0 :: suite) p' :: hds) (⟨c, i, b0 :: suite⟩ :: l)
structure Frm (B : Bx) : Prop where
  s : B.X.stack = B.X.env :: B.X.outer
  f : B.X.env.frame = some B.X.env.locals
theorem Cur.fixXd {K : PySem.W.Frag} {G H : Hp} {m : Mem} {dd : Addr} {fs : List (Str × V)} (c : Cur K G m H) (h : H dd = some (.xd fs)) : ∃ G2, Sub G G2 ∧ Cur K G2 m H ∧ G2 dd = some (.xd fs) := by
  cases hg : G dd with
  | some o =>
    have := c.ex _ _ hg
    rw [h] at this
    cases this
    exact ⟨G, Sub.refl G, c, hg⟩
  | none =>
    have hm : m dd = Option.none := by
      cases q : m dd with
      | none => rfl
      | some o =>
        obtain ⟨_, u, h1, h2⟩ := c.mm _ _ q
        rw [h] at h1
        cases h1
        cases o <;> obtain ⟨_, e, _⟩ := h2 <;> cases e
    refine ⟨upd G dd (.xd fs), sub_upd hg, ⟨fun a o e => ?_, fun a o e => ?_⟩, upd_same⟩
    · by_cases z : a = dd
      · rw [z, upd_same] at e; rw [z, h]; exact e
      · rw [upd_ne z] at e; exact c.ex _ _ e
    · obtain ⟨h1, u, h2, h3⟩ := c.mm a o e
      have ne : a ≠ dd := fun z => by rw [z, hm] at e; cases e
      exact ⟨by rw [upd_ne ne]; exact h1, u, h2, RepM.sub (sub_upd hg) h3⟩
def hdS (B : Bx) : List Hd → List (Value × Nat × Suite)
  | [] => []
  | h :: r => (h.c, h.i, fun a cls d D σ H => ∀ oe pn, Zc cls d oe → (∃ vs, oe.data = .fields vs) → tssX (B.X.suite a ((a, oe) :: pn)) h.suite D σ H) :: hdS B r
theorem hdS_ok {B : Bx} {hds : List ExceptHandler} {l : List Hd} (h : HdsD B hds l) : HdAs B.X hds (hdS B l) := by
  induction h with
  | nil => exact .nil
  | cons hc s hl r ih => exact .cons hc s.n hl (fun a oe cls d pn hz hf => ⟨fun pins s σ H D I q => q oe pn hz hf pins s I⟩) ih
theorem hdW_wish {B : Bx} {Xo : XD} {R : RR} {ρ : DE} {Wo : WX} {G0 G' : Hp} {Dn : Ends} {σ : L2.St} {H' : Hp} {C : Addr} {d : Option Addr} {l : List (Str × D)} {m' : Mem} (s0 : Sub B.G0 G0) (kf : FP B.X.K B.X.N.length G0 R Dn) (s1 : Sub G0 G') (r : RepE B.X.K B.X.N.length G' σ ρ) (c : Cur B.X.K G' m' H') (x : XRep B.X.K G' H' d l)
    (hWo : Xo C l m' → Wo (.ref C) d σ H') : ∀ hl : List Hd, (∀ h ∈ hl, h.i < B.X.N.length) → hdW B Xo R hl ρ C l m' → wAll B.X.K Wo Dn (hdS B hl) (.ref C) d σ H'
  | [], _, q => hWo q
  | h :: hl, hi, ⟨b, e, q⟩ => by
    refine ⟨b, e, ?_⟩
    cases b with
    | false => exact hdW_wish s0 kf s1 r c x hWo hl (fun h' q => hi h' (List.mem_cons_of_mem _ q)) q
    | true =>
      intro a na oe pn hz hf
      obtain ⟨G2, s2, c2, x2⟩ : ∃ G2, Sub G' G2 ∧ Cur B.X.K G2 m' H' ∧ ((d = none ∧ l = []) ∨ ∃ dd fs, d = some dd ∧ G2 dd = some (.xd fs) ∧ RepF B.X.K G2 l fs) := by
        rcases x with x | ⟨dd, fs, ed, eH, rf⟩
        · exact ⟨G', Sub.refl _, c, .inl x⟩
        · obtain ⟨G2, s2, c2, e2⟩ := c.fixXd eH
          exact ⟨G2, s2, c2, .inr ⟨dd, fs, ed, e2, RepF.sub s2 _ _ rf⟩⟩
      have su : SuOf B ⟨B.X.suite a ((a, oe) :: pn), G2⟩ a C l := ⟨⟨oe, pn, d, rfl, hz, hf, x2⟩, (s0.trans s1).trans s2⟩
      refine q _ a su G2 (σ.set h.i (some (.ref a))) H' (Sub.refl _) ((r.sub s2).set (d := .ref a) (v := .ref a) rfl h.i (hi h List.mem_cons_self)) c2 (endAs Dn h.i) ?_
      have kf2 := kf.sub (s1.trans s2)
      exact ⟨fun σ' ρ' m1 G3 H3 s3 r3 c3 z => kf2.nx _ _ m1 G3 H3 s3 (r3.unset h.i) c3 z, kf2.rt, fun σ' ρ' m1 G3 H3 s3 r3 c3 z => kf2.bk _ _ m1 G3 H3 s3 (r3.unset h.i) c3 z, fun σ' ρ' m1 G3 H3 s3 r3 c3 z => kf2.ct _ _ m1 G3 H3 s3 (r3.unset h.i) c3 z⟩
theorem hdsD_lt {B : Bx} {hds : List ExceptHandler} {l : List Hd} (h : HdsD B hds l) : ∀ x ∈ l, x.i < B.X.N.length := by
  induction h with
  | nil => intro x q; cases q
  | cons hc s hl r ih =>
    intro x q
    rcases List.mem_cons.mp q with e | q
    · rw [e]; exact ix_lt s.n
    · exact ih x q
theorem ws_try {B : Bx} {body : List Stmt} {h0 : ExceptHandler} {hds : List ExceptHandler} {hl : List Hd} {ρ : DE} {m : Mem} {R : RR} {pos : Pos} {Xo : XD} (kk : Bok B) (fr : Frm B) (hk : HdsD B (h0 :: hds) hl) (xo : XOK B Xo)
    (h : ∀ B2, TrOf B B2 → (∀ ρ', XR B2 ρ' (hdW B Xo R hl ρ')) → WSs B2 body ρ m R) : WS B (.Try body (h0 :: hds) [] [] pos) ρ m R := fun G σ H s r c D k => by
  obtain ⟨Wo, tko, hWo⟩ := xo
  refine tsX_of (ps_tryN fr.s fr.f kk.nd tko (tb := fun W D σ H => ∀ pn xe, Takes (B.X.tr pn xe) W → PassesOwn (model B.X.prog B.X.w) B.X.A B.X.env xe → tssX (B.X.tr pn xe) body D σ H) (fun W pn xe tk p => ⟨fun pins s σ H D I q => q pn xe tk p pins s I⟩) (hdS_ok hk)) ?_
  intro pn xe tk p
  refine h ⟨B.X.tr pn xe, G⟩ ⟨⟨pn, xe, rfl⟩, s, p⟩ (fun ρ' G1 σ1 s1 r1 => ?_) G σ H (Sub.refl G) r c D k
  exact ⟨_, tk, fun C d l m' G' H' s2 c2 x2 q => hdW_wish s k (s1.trans s2) (r1.sub s2) c2 x2 (fun z => hWo C d l m' G' H' σ1 ((s.trans s1).trans s2) c2 x2 z) hl (hdsD_lt hk) q⟩
end Pd
namespace PdErr
open PySem PySem.Spec PySem.Calls PyProof.Rows PySem.W L2
section
variable {prog : Program} {w : World} {A : Around} {E : Value → Shared → Prop} {s : Shared} {K : Frag} {x D : Addr} {ox : Obj} {od : Option Obj}
theorem exc_cls_found (T : ExcC K D) : findObj K D od "__class__" = some (.bind (.builtin "getset_descriptor.__get__") (.builtin "object.__class__")) := by
  obtain ⟨cd, hc, _⟩ := any_some T.hd
  unfold findObj
  rw [hc, Option.bind_some, T.ha, Option.bind_some]
  simp only [T.hn, T.ht, Option.bind_some]
theorem exc_cls_asked {Q : Option Value → Shared → Prop} (T : ExcC K D) (X : K.In s.heap) (I : InstAt s.heap x ox D od) (h : Q (some (.ref D)) { s with toks := s.toks + 1 }) : wpAny (model prog w) A (getAttr? (.ref x) "__class__") Q E s := by
  obtain ⟨hp, g, d, t, os⟩ := s
  have ty := I.type (M := model prog w)
  have ga := looks_findIn (M := model prog w) X T.hg
  have gt := looks_findIn (M := model prog w) X T.hk
  have fd := looks_find (M := model prog w) X I (exc_cls_found T)
  have isB : Looks (model prog w) hp (isInstance (.ref x) (.type "BaseException")) true := ty.andThen (looks_subIn X T.hs)
  have n2 : (Value.builtin "BaseException.__getattribute__" == Value.builtin "object.__getattribute__") = false := by decide +kernel
  have n1 : (onTheHeap (Value.ref D) && Value.builtin "BaseException.__getattribute__" == Value.builtin "object.__getattribute__") = false := by rw [n2]; rfl
  have n0 : (false && onTheHeap (Value.builtin "BaseException.__getattribute__")) = false := rfl
  unfold getAttr? getAttrBy? getAttrBy
  refine wpAny_bind (wpAny_mkText (wpAny_bind (wpAny_attempt (wpAny_holding (wpAny_bind (ty.at (wpAny_bind (ga.at ?_))))))))
  show wpAny _ _ (if (onTheHeap (Value.ref D) && Value.builtin "BaseException.__getattribute__" == Value.builtin "object.__getattribute__") = true then _ else _) _ _ _
  rw [n1, if_neg Bool.false_ne_true]
  unfold getAttrByItsOwn hookBefore
  refine wpAny_bind ?_
  rw [if_pos (show onTheHeap (Value.ref D) = true from rfl)]
  refine gt.at (wpAny_bind (wpAny_attempt (wpAny_holding ?_)))
  unfold callGetattribute
  rw [n0, if_neg Bool.false_ne_true]
  unfold boundAndCalled
  rw [F.excAttr_ValueError.ga.bind (.ref x)]
  refine wpAny_bind (wpAny_pure ?_)
  show wpAny _ _ (call (.builtin "BaseException.__getattribute__") [.ref x, .str "__class__" t]) _ _ _
  refine wpAny_call (codeAny_call_builtin F.excAttr_ValueError.ga.plain F.entry_bexc_ga (@check_slot (model prog w) _ _ ⟨hp, g, d, t + 1, os⟩ "BaseException.__getattribute__" "BaseException" "__getattribute__" (.ref x) [.str "__class__" t] [] _ (by decide +kernel) (by decide +kernel) isB (F.args_bexc_ga (.ref x) (.str "__class__" t)) ?_))
  unfold Builtin.«object.__getattribute__»
  refine wpAny_bind (wpAny_of_eq (a := ((Value.ref x : Value), [Value.str "__class__" t])) (by first | rfl | (simp only [slotArgs]; rfl)) (wpAny_bind (wpAny_pure (wpAny_bind (ty.at (wpAny_bind (fd.at ?_)))))))
  show wpAny _ _ (holding [Value.builtin "object.__class__"] (call (.builtin "getset_descriptor.__get__") [.builtin "object.__class__", .ref x, .ref D]) >>= ret) _ _ _
  refine wpAny_bind (wpAny_holding (wpAny_call (class_get (s := ⟨hp, g, d, t + 1, os⟩) (ox := ox) (od := od) X I T.hm (wpAny_pure ?_))))
  show wpAny _ _ (handedOut (.ref D)) _ _ _
  rw [handedOut_of (v := .ref D) rfl]
  first
    | exact wpAny_pure (wpAny_pure h)
    | exact wpAny_pure h
    | exact wpAny_pure (wpAny_bind (wpAny_pure (wpAny_pure h)))
theorem kitx_exc (T : ExcC K D) : KitX K (.ref x) (.ref D) (fun h => ∃ od, InstAt h x ox D od) where
  ty := fun _ _ _ ⟨_, I⟩ => I.type
  it := fun _ _ X _ => by
    obtain ⟨cd, hc, _⟩ := any_some T.hd
    unfold clsIn at hc
    split at hc
    · rename_i ho
      intro A' Q' E' s' k q
      unfold isType loadHead
      exact wpAny_bind (wpAny_loadPart (k _ _ (X _ _ ho)) (wpAny_pure q))
    · cases hc
  ne := fun h tp dd its n sl X htp => by
    obtain ⟨cd, hc, _⟩ := any_some T.hd
    refine Bool.eq_false_iff.mpr fun q => ?_
    obtain rfl : D = tp := Value.ref.inj (beq_iff_eq.mp q)
    unfold clsIn at hc
    split at hc
    · rename_i ho
      have z := (X _ _ ho).symm.trans htp
      cases z
    · cases hc
  ca := fun X ⟨_, I⟩ k => exc_cls_asked T X I k
end
end PdErr
namespace Pd
open PySem PySem.Spec PyProof.Rows L2 PdErr
section
variable {B B2 : Bx} {a b c e o : Expr} {es : List Expr} {ρ : DE} {m : Mem} {Q : D → Mem → Prop} {pos p2 apos : Pos} {n f : Str} {at' C C' : Addr} {l : List (Str × D)} {d : D} {t : Bool}
theorem su_inst {G H : Hp} {pins : List (Addr × Obj)} {σ : L2.St} {s : Shared} (su : SuOf B B2 at' C l) (I : Inv B2.X pins σ H s) (g : Sub B2.G0 G) (c : Sub G H) : ∃ ox od, PySem.W.InstAt s.heap at' ox C od ∧ ((l = [] ∧ od = none) ∨ ∃ dd fs oD, od = some oD ∧ H dd = some (.xd fs) ∧ s.heap.get? dd = some oD ∧ RepF B2.X.K G l fs) := by
  obtain ⟨oe, pn, dd, eX, hz, ⟨vs, hd⟩, hl⟩ := su.ex
  have hp := (I.pin (at', oe) (by rw [eX]; exact List.mem_append_left _ List.mem_cons_self)).1
  have nc : PySem.W.notCls oe = true := by unfold PySem.W.notCls; rw [hd] <;> rfl
  rcases hl with ⟨rfl, rfl⟩ | ⟨q, fs, rfl, hg, rf⟩
  · exact ⟨oe, none, ⟨hp, hz.1, nc, by rw [hz.2]; exact trivial⟩, .inl ⟨rfl, rfl⟩⟩
  · have hH := c _ _ (g _ _ hg)
    have hx : ObjOk B2.X.prog B2.X.w H s.heap q (.xd fs) := I.hok q _ hH
    obtain ⟨mA, hns, hr⟩ := hx
    obtain ⟨oD, ho, _⟩ := lookIn_ns hns
    exact ⟨oe, some oD, ⟨hp, hz.1, nc, by rw [hz.2]; exact ho⟩, .inr ⟨q, fs, oD, rfl, hH, ho, RepF.sub g _ _ rf⟩⟩
theorem we_exf (su : SuOf B B2 at' C l) (T : XfC B2.X.K C) (hno : PySem.W.findIn B2.X.K (.ref C) f = some none) (h : WE B2 o ρ m fun x m1 => x = .ref at' ∧ ∃ d, l.lookup f = some d ∧ Q d m1) (hb : attributeBase o f B2.X.env (eval o B2.X.env) = eval o B2.X.env) :
    WE B2 (.Attribute o f pos) ρ m Q := fun G σ H s r c Q' k pins s1 I => by
  refine attr_of hb (thn (h G σ H s r c (fun v H1 => ∃ x m1 G1, Sub G G1 ∧ Cur B2.X.K G1 m1 H1 ∧ Rep B2.X.K G1 x v ∧ x = .ref at' ∧ ∃ d, l.lookup f = some d ∧ Q d m1) (fun v x m1 G1 H1 s1 c1 r1 ⟨q1, q2⟩ => ⟨x, m1, G1, s1, c1, r1, q1, q2⟩) pins s1 I) fun u s2 ⟨v, H1, I1, rv, x, m1, G1, sb, c1, r1, ex, d, q1, q2⟩ => ?_)
  subst ex
  obtain rfl : v = .ref at' := r1
  obtain rfl : u = Value.ref at' := rv
  obtain ⟨oe, pn, dd, eX, hz, ⟨vs, hd⟩, hl⟩ := su.ex
  rcases hl with ⟨_, rfl⟩ | ⟨q, fs, rfl, hg, rf⟩
  · cases q1
  · have hp := (I1.pin (at', oe) (by rw [eX]; exact List.mem_append_left _ List.mem_cons_self)).1
    have hH := c1.ex _ _ ((s.trans sb) _ _ hg)
    obtain ⟨w, hw, rw'⟩ := repf_get (RepF.sub (s.trans sb) _ _ rf) q1
    have hx : ObjOk B2.X.prog B2.X.w H1 s2.heap q (.xd fs) := I1.hok q _ hH
    obtain ⟨mA, hns, hr⟩ := hx
    obtain ⟨oD, ho, hlk⟩ := lookIn_ns hns
    obtain ⟨u, hu, ru⟩ := RelO.some_of (v := w) (o := mA f) (by rw [← hw]; exact hr f)
    have nc : PySem.W.notCls oe = true := by unfold PySem.W.notCls; rw [hd] <;> rfl
    have J : PySem.W.InstAt s2.heap at' oe C (some oD) := ⟨hp, hz.1, nc, by rw [hz.2]; exact ho⟩
    exact HandSPX.exc_get I1.kIn J T.ga T.gg T.exC (PySem.W.findObj_own T.hdC hno rfl (by rw [hlk, hu])) (handed_of ru) ⟨w, H1, I1.tok _, ru, k w d m1 G1 H1 sb c1 rw' q2⟩
theorem wc_isE (su : SuOf B B2 at' C l) (T : ExcC B2.X.K C) (hk : PySem.W.kitOne B2.X.K (.ref C) (.ref C') = some t) (q : Q (.bl t) m) : WC B2 (.builtin "isinstance") [.ref at', .ref C'] m Q := fun G H vs s c rd Q' k pins s1 σ us I rv => by
  obtain ⟨v, u, rfl, r1, r2⟩ := rep2 rd
  obtain rfl : v = .ref at' := r1
  obtain rfl : u = .ref C' := r2
  obtain ⟨ox, od, J, _⟩ := su_inst su I s c.ex
  cases rv with
  | cons rx rr => cases rr with
    | cons rt rr =>
      cases rr; cases rx; cases rt
      exact PySem.W.kia_one (kitx_exc T (ox := ox)) I.kIn ⟨od, J⟩ hk (fun z => nomatch z) fun tk => ⟨.bl t, H, I.kept (t' := tk) fun _ _ z => z, rfl, k (.bl t) (.bl t) m G H (Sub.refl G) c rfl q⟩
theorem wc_isETy {T' : String} (su : SuOf B B2 at' C l) (T : ExcC B2.X.K C) (hk : PySem.W.kitOne B2.X.K (.ref C) (.type T') = some t) (q : Q (.bl t) m) : WC B2 (.builtin "isinstance") [.ref at', .ty T'] m Q := fun G H vs s c rd Q' k pins s1 σ us I rv => by
  obtain ⟨v, u, rfl, r1, r2⟩ := rep2 rd
  obtain rfl : v = .ref at' := r1
  obtain rfl : u = .ty T' := r2
  obtain ⟨ox, od, J, _⟩ := su_inst su I s c.ex
  cases rv with
  | cons rx rr => cases rr with
    | cons rt rr =>
      cases rr; cases rx; cases rt
      exact PySem.W.kia_one (kitx_exc T (ox := ox)) I.kIn ⟨od, J⟩ hk (fun z => nomatch z) fun tk => ⟨.bl t, H, I.kept (t' := tk) fun _ _ z => z, rfl, k (.bl t) (.bl t) m G H (Sub.refl G) c rfl q⟩
end
end Pd
namespace Pd
open PySem PySem.Spec PyProof.Rows L2 PdErr
def WBR (B : Bx) (ρ : DE) (f : Value → Value → Sem Value) (x y : D) (m : Mem) (Q : D → Mem → Prop) : Prop := ∀ G σ H v u, Sub B.G0 G → RepE B.X.K B.X.N.length G σ ρ → Cur B.X.K G m H → Rep B.X.K G x v → Rep B.X.K G y u → ∀ Q' : VK, VP B.X.K G Q Q' →
  ∀ pins s v' u', Inv B.X pins σ H s → RelV v v' → RelV u u' → wpAny (model B.X.prog B.X.w) B.X.A (f v' u') (EP B.X pins σ Q') B.X.xe s
section
variable {B : Bx} {x y d : D} {m : Mem} {Q : D → Mem → Prop} {i : Int} {C : Addr} {a b c e o : Expr} {es : List Expr} {ρ : DE} {pos p2 : Pos} {P : PD} {n : Str} {fl fl' : List (Str × D)}
theorem we_binR {op : Operator} (h : WE B a ρ m fun x m1 => WE B b ρ m1 fun y m2 => WBR B ρ (binaryOp op) x y m2 Q) : WE B (.BinOp a op b pos) ρ m Q := fun G σ H s r c Q' k pins s1 I => by
  refine wpAny_BinOp (thn (h G σ H s r c (fun v H1 => ∃ x m1 G1, Sub G G1 ∧ Cur B.X.K G1 m1 H1 ∧ Rep B.X.K G1 x v ∧ WE B b ρ m1 fun y m2 => WBR B ρ (binaryOp op) x y m2 Q) (fun v x m1 G1 H1 s1 c1 r1 q => ⟨x, m1, G1, s1, c1, r1, q⟩) pins s1 I) fun v' s2 ⟨v, H1, I1, rv, x, m1, G1, sb1, c1, r1, q1⟩ => ?_)
  refine thn (q1 G1 σ H1 (s.trans sb1) (r.sub sb1) c1 (fun u H2 => ∃ y m2 G2, Sub G1 G2 ∧ Cur B.X.K G2 m2 H2 ∧ Rep B.X.K G2 y u ∧ WBR B ρ (binaryOp op) x y m2 Q) (fun u y m2 G2 H2 s2 c2 r2 q => ⟨y, m2, G2, s2, c2, r2, q⟩) pins s2 I1) fun u' s3 ⟨u, H2, I2, ru, y, m2, G2, sb2, c2, r2, q2⟩ => ?_
  exact q2 G2 σ H2 v u ((s.trans sb1).trans sb2) (r.sub (sb1.trans sb2)) c2 (Rep.sub sb2 _ _ r1) r2 Q' (k.sub (sb1.trans sb2)) pins s3 v' u' I2 rv ru
theorem wb_wbr {f : Value → Value → Sem Value} (h : WB B f x y m Q) : WBR B ρ f x y m Q := fun G σ H v u s r c r1 r2 Q' k pins s1 v' u' I rv ru => h G H v u s c r1 r2 Q' k pins s1 σ v' u' I rv ru
theorem wbr_refl {op : Operator} {idl : String} (Z : RefOp op idl) (h : InsOf x m C fl) (o : OpC B.X.K C) (h0 : PySem.W.findIn B.X.K (.ref C) (PySem.dunder op.info.2) = some none ∨ ∃ g, PySem.W.findIn B.X.K (.ref C) (PySem.dunder op.info.2) = some (some (.ref g)))
    (hc : CalM B C (dunderR op.info.2) P) (hp : ∃ Xd, P [x, .int i] m Q Xd ∧ XR B ρ Xd) : WBR B ρ (binaryOp op) (.int i) x m Q := fun G σ H v u s r c r1 r2 Q' k pins s1 v' u' I rv ru => by
  obtain ⟨a, dx, fs, rfl, ha, rf⟩ := insof_get h c r2
  obtain rfl : u' = Value.ref a := ru
  obtain rfl : v = V.int i := r1
  obtain ⟨t, rfl⟩ : ∃ t, v' = Value.int i t := rv
  obtain ⟨g, hm, run⟩ := hc.ex
  obtain ⟨mA, J, _⟩ := ins_get I.hok ha
  obtain ⟨od, J, _⟩ := J.look
  obtain ⟨mF, hF⟩ := I.fr
  obtain ⟨Xd, q1, q2⟩ := hp
  refine op_reflected Z hF I.ok.mod.kin J (fun p e => by cases e) o.sf h0 hm.at_ hm.fn o.ni ?_
  exact thn (run pins s1 σ H [.ref a, .int i t] [.ref a, .int i] [x, .int i] m G Q' Q Xd I (.cons rfl (.cons ⟨t, rfl⟩ .nil)) s c ⟨_, _, rfl, r2, _, _, rfl, rfl, rfl⟩ q1 k (q2 G σ s r)) fun w s2 ⟨w', H2, I2, rw', q3⟩ => SlX.cmpback rw' ⟨w', H2, I2, rw', q3⟩
theorem wbr_ownI {op : Operator} {rc fo ro : Option Value} (h : InsOf x m C fl) (o : OpC B.X.K C) (hc : CalM B C (PySem.dunder op.info.2) P) (hr : PySem.W.findIn B.X.K (.ref C) (dunderR op.info.2) = some rc) (hrp : rc = none ∨ ∃ g : Addr, rc = some (.ref g))
    (h1 : PySem.W.findIn B.X.K (.type "int") (PySem.dunder op.info.2) = some fo) (h2 : PySem.W.findIn B.X.K (.type "int") (dunderR op.info.2) = some ro)
    (hp : ∃ Xd, P [x, .int i] m Q Xd ∧ XR B ρ Xd) : WBR B ρ (binaryOp op) x (.int i) m Q := fun G σ H v u s r c r1 r2 Q' k pins s1 v' u' I rv ru => by
  obtain ⟨a, dx, fs, rfl, ha, rf⟩ := insof_get h c r1
  obtain rfl : v' = Value.ref a := rv
  obtain rfl : u = V.int i := r2
  obtain ⟨t, rfl⟩ : ∃ t, u' = Value.int i t := ru
  obtain ⟨g, hm, run⟩ := hc.ex
  obtain ⟨mA, J, _⟩ := ins_get I.hok ha
  obtain ⟨od, J, _⟩ := J.look
  obtain ⟨mF, hF⟩ := I.fr
  obtain ⟨Xd, q1, q2⟩ := hp
  refine PySem.W.ksp_binT (T := "int") hF I.ok.mod.kin J rfl o.sf hm.at_ hm.fn hr hrp h1 h2 o.in_ ?_
  exact thn (run pins s1 σ H [.ref a, .int i t] [.ref a, .int i] [x, .int i] m G Q' Q Xd I (.cons rfl (.cons ⟨t, rfl⟩ .nil)) s c ⟨_, _, rfl, r1, _, _, rfl, rfl, rfl⟩ q1 k (q2 G σ s r)) fun w s2 ⟨w', H2, I2, rw', q3⟩ => SlX.cmpback rw' ⟨w', H2, I2, rw', q3⟩
theorem wbr_rmul (h : InsOf x m C fl) (o : OpC B.X.K C) (h0 : PySem.W.findIn B.X.K (.ref C) "__mul__" = some none ∨ ∃ g, PySem.W.findIn B.X.K (.ref C) "__mul__" = some (some (.ref g))) (hc : CalM B C "__rmul__" P) (hp : ∃ Xd, P [x, .int i] m Q Xd ∧ XR B ρ Xd) : WBR B ρ (binaryOp .Mult) (.int i) x m Q :=
  wbr_refl ref_mul h o (by rw [show PySem.dunder Operator.Mult.info.2 = "__mul__" from by decide +kernel]; exact h0) (by rw [show dunderR Operator.Mult.info.2 = "__rmul__" from by decide +kernel]; exact hc) hp
theorem own_side (h0 : PySem.W.findIn B.X.K (.ref C) n = some none ∨ ∃ g : Addr, PySem.W.findIn B.X.K (.ref C) n = some (some (.ref g))) : ∃ rc : Option Value, PySem.W.findIn B.X.K (.ref C) n = some rc ∧ (rc = none ∨ ∃ g : Addr, rc = some (.ref g)) := by
  rcases h0 with h0 | ⟨g, h0⟩
  · exact ⟨none, h0, .inl rfl⟩
  · exact ⟨_, h0, .inr ⟨g, rfl⟩⟩
theorem int_side {K : PySem.W.Frag} {nm : String} (h : (PySem.fastLookup "int" nm).isSome = true) : ∃ fo, PySem.W.findIn K (.type "int") nm = some fo := Option.isSome_iff_exists.mp h
theorem wbr_omul (h : InsOf x m C fl) (o : OpC B.X.K C) (hc : CalM B C "__mul__" P) (h0 : PySem.W.findIn B.X.K (.ref C) "__rmul__" = some none ∨ ∃ g : Addr, PySem.W.findIn B.X.K (.ref C) "__rmul__" = some (some (.ref g))) (hp : ∃ Xd, P [x, .int i] m Q Xd ∧ XR B ρ Xd) : WBR B ρ (binaryOp .Mult) x (.int i) m Q := by
  obtain ⟨rc, e1, e2⟩ := own_side h0
  obtain ⟨fo, e3⟩ := int_side (K := B.X.K) (nm := "__mul__") (by decide +kernel)
  obtain ⟨ro, e4⟩ := int_side (K := B.X.K) (nm := "__rmul__") (by decide +kernel)
  have n1 : PySem.dunder Operator.Mult.info.2 = "__mul__" := by decide +kernel
  have n2 : dunderR Operator.Mult.info.2 = "__rmul__" := by decide +kernel
  exact wbr_ownI h o (by rw [n1]; exact hc) (by rw [n2]; exact e1) e2 (by rw [n1]; exact e3) (by rw [n2]; exact e4) hp
theorem wbr_odiv (h : InsOf x m C fl) (o : OpC B.X.K C) (hc : CalM B C "__floordiv__" P) (h0 : PySem.W.findIn B.X.K (.ref C) "__rfloordiv__" = some none ∨ ∃ g : Addr, PySem.W.findIn B.X.K (.ref C) "__rfloordiv__" = some (some (.ref g))) (hp : ∃ Xd, P [x, .int i] m Q Xd ∧ XR B ρ Xd) : WBR B ρ (binaryOp .FloorDiv) x (.int i) m Q := by
  obtain ⟨rc, e1, e2⟩ := own_side h0
  obtain ⟨fo, e3⟩ := int_side (K := B.X.K) (nm := "__floordiv__") (by decide +kernel)
  obtain ⟨ro, e4⟩ := int_side (K := B.X.K) (nm := "__rfloordiv__") (by decide +kernel)
  have n1 : PySem.dunder Operator.FloorDiv.info.2 = "__floordiv__" := by decide +kernel
  have n2 : dunderR Operator.FloorDiv.info.2 = "__rfloordiv__" := by decide +kernel
  exact wbr_ownI h o (by rw [n1]; exact hc) (by rw [n2]; exact e1) e2 (by rw [n1]; exact e3) (by rw [n2]; exact e4) hp
def tkX (X : Cx) (kws : List Keyword) : TA := fun σ H Q => ∀ pos pins s, Inv X pins σ H s → wpAny (model X.prog X.w) X.A (evalAll ((backToKw pos (keywordEach kws X.env)).map (·.2))) (AP X pins σ Q) X.xe s
theorem pkX {X : Cx} (kws : List Keyword) : PK X kws (tkX X kws) := ⟨fun pos pins s σ H Q I h => h pos pins s I⟩
theorem tkX_of {X : Cx} {kws : List Keyword} {t : TA} (h : PK X kws t) {σ : L2.St} {H : Hp} {Q : List V → Hp → Prop} (q : t σ H Q) : tkX X kws σ H Q := fun pos pins s I => h.run pos pins s σ H Q I q
def WK (B : Bx) (kws : List Keyword) (ρ : DE) (m : Mem) (Q : List D → Mem → Prop) : Prop := ∀ G σ H, Sub B.G0 G → RepE B.X.K B.X.N.length G σ ρ → Cur B.X.K G m H → ∀ Q' : List V → Hp → Prop, LP B.X.K G Q Q' → tkX B.X kws σ H Q'
theorem wk_nil {QL : List D → Mem → Prop} (q : QL [] m) : WK B [] ρ m QL := fun G σ H s r c Q' k => tkX_of pk_nil (k [] [] m G H (Sub.refl G) c rfl q)
theorem wk_cons {QL : List D → Mem → Prop} {kws : List Keyword} {nm : Option Str} {kp : Pos} (h : WE B e ρ m fun d m1 => WK B kws ρ m1 fun l m2 => QL (d :: l) m2) : WK B (⟨nm, e, kp⟩ :: kws) ρ m QL := fun G σ H s r c Q' k => by
  refine tkX_of (pk_cons (peX e) (pkX kws)) ?_
  refine h G σ H s r c _ fun v d m1 G1 H1 s1 c1 r1 h1 => ?_
  refine h1 G1 σ H1 (s.trans s1) (r.sub s1) c1 _ fun vs ds m2 G2 H2 s2 c2 r2 q => ?_
  exact k (v :: vs) (d :: ds) m2 G2 H2 (s1.trans s2) c2 ⟨v, vs, rfl, Rep.sub s2 _ _ r1, r2⟩ q
theorem we_gckR {kws : List Keyword} {nn : Nat} {ks : List Str} {PK : List D → PD} (g : GCalK B n nn ks PK) (h : WA B (e :: es) ρ m fun ds m1 => ds.length = nn ∧ WK B kws ρ m1 fun ws m2 => ws.length = ks.length ∧ ∃ Xd, PK ws ds m2 Q Xd ∧ XR B ρ Xd) (hdb : (n == ("__debug__" : Str)) = false)
    (he : starEach (e :: es) B.X.env = (false, eval e B.X.env) :: starEach es B.X.env) (hall : (backToKw pos (keywordEach kws B.X.env)).all (·.1.isSome) = true) (hks : (backToKw pos (keywordEach kws B.X.env)).filterMap (·.1) = ks)
    (hpl : ((backTo pos (starEach (e :: es) B.X.env)).any (·.1) || (backToKw pos (keywordEach kws B.X.env)).any (·.1.isNone)) = false) : WE B (.Call (.Name n p2) (e :: es) kws pos) ρ m Q := fun G σ H s r c Q' k pins s1 I => by
  obtain ⟨f, hm, hk, run⟩ := g.ex
  refine wpAny_Call_Name_kw (ld_glob I g.g hm ?_ hdb)
  refine PySem.W.callWith_KW (h₀ := B.X.base) I.ok.mod.kin hk hall (thn (h G σ H s r c (fun vs H1 => ∃ ds m1 G1, Sub G G1 ∧ Cur B.X.K G1 m1 H1 ∧ Reps B.X.K G1 ds vs ∧ ds.length = nn ∧ WK B kws ρ m1 fun ws m2 => ws.length = ks.length ∧ ∃ Xd, PK ws ds m2 Q Xd ∧ XR B ρ Xd) (fun vs ds m1 G1 H1 s1 c1 r1 ⟨l1, q⟩ => ⟨ds, m1, G1, s1, c1, r1, l1, q⟩) pos pins s1 I) fun us s2 ⟨vs, H1, I1, rv, ds, m1, G1, sb1, c1, r1, l1, q1⟩ => ?_) hpl he
  refine thn (q1 G1 σ H1 (s.trans sb1) (r.sub sb1) c1 (fun zs H2 => ∃ ws m2 G2 Xd, Sub G1 G2 ∧ Cur B.X.K G2 m2 H2 ∧ Reps B.X.K G2 ws zs ∧ ws.length = ks.length ∧ PK ws ds m2 Q Xd ∧ XR B ρ Xd) (fun zs ws m2 G2 H2 s2 c2 r2 ⟨l2, Xd, q, x⟩ => ⟨ws, m2, G2, Xd, s2, c2, r2, l2, q, x⟩) pos pins s2 I1) fun us2 s3 ⟨zs, H2, I2, rz, ws, m2, G2, Xd, sb2, c2, r2, l2, q2, x2⟩ => ⟨I2.kIn, ?_⟩
  rw [hks]
  exact run pins s3 σ H2 us vs us2 zs ds ws m2 G2 Q' Q Xd I2 rv rz (by rw [← rv.length, reps_len r1]; exact l1) (by rw [← rz.length, reps_len r2]; exact l2) ((s.trans sb1).trans sb2) c2 (Reps.sub sb2 _ _ r1) r2 q2 (k.sub (sb1.trans sb2)) (x2 _ _ ((s.trans sb1).trans sb2) (r.sub (sb1.trans sb2)))
theorem we_gck0R {kws : List Keyword} {ks : List Str} {PK : List D → PD} (g : GCalK B n 0 ks PK) (h : WK B kws ρ m fun ws m2 => ws.length = ks.length ∧ ∃ Xd, PK ws [] m2 Q Xd ∧ XR B ρ Xd) (hdb : (n == ("__debug__" : Str)) = false)
    (hall : (backToKw pos (keywordEach kws B.X.env)).all (·.1.isSome) = true) (hks : (backToKw pos (keywordEach kws B.X.env)).filterMap (·.1) = ks)
    (hpl : ((backTo pos (starEach [] B.X.env)).any (·.1) || (backToKw pos (keywordEach kws B.X.env)).any (·.1.isNone)) = false) : WE B (.Call (.Name n p2) [] kws pos) ρ m Q := fun G σ H s r c Q' k pins s1 I => by
  obtain ⟨f, hm, hk, run⟩ := g.ex
  refine wpAny_Call_Name_kw (ld_glob I g.g hm ?_ hdb)
  refine PySem.W.callWith_KW0 (h₀ := B.X.base) I.ok.mod.kin hk hall (thn (h G σ H s r c (fun zs H2 => ∃ ws m2 G2 Xd, Sub G G2 ∧ Cur B.X.K G2 m2 H2 ∧ Reps B.X.K G2 ws zs ∧ ws.length = ks.length ∧ PK ws [] m2 Q Xd ∧ XR B ρ Xd) (fun zs ws m2 G2 H2 s2 c2 r2 ⟨l2, Xd, q, x⟩ => ⟨ws, m2, G2, Xd, s2, c2, r2, l2, q, x⟩) pos pins s1 I) fun us2 s3 ⟨zs, H2, I2, rz, ws, m2, G2, Xd, sb2, c2, r2, l2, q2, x2⟩ => ⟨I2.kIn, ?_⟩) hpl
  rw [hks]
  exact run pins s3 σ H2 [] [] us2 zs [] ws m2 G2 Q' Q Xd I2 .nil rz rfl (by rw [← rz.length, reps_len r2]; exact l2) (s.trans sb2) c2 rfl r2 q2 (k.sub sb2) (x2 _ _ (s.trans sb2) (r.sub sb2))
theorem we_gcR (h0 : GCal B n P) (h : WA B (e :: es) ρ m fun ds m1 => ∃ Xd, P ds m1 Q Xd ∧ XR B ρ Xd) (hdb : (n == ("__debug__" : Str)) = false)
    (he : starEach (e :: es) B.X.env = (false, eval e B.X.env) :: starEach es B.X.env) (hpl : (backTo pos (starEach es B.X.env)).any (·.1) = false) : WE B (.Call (.Name n p2) (e :: es) [] pos) ρ m Q := we_callR h0.g h0.c h hdb he hpl
theorem we_gc0R (h0 : GCal B n P) (h : ∃ Xd, P [] m Q Xd ∧ XR B ρ Xd) (hdb : (n == ("__debug__" : Str)) = false) : WE B (.Call (.Name n p2) [] [] pos) ρ m Q := we_call0R h0.g h0.c h hdb
end
section
variable {B B2 : Bx} {x : Str} {i : Nat} {at' C : Addr} {l : List (Str × D)} {k : Nat}
theorem TrOf.K (h : TrOf B B2) : B2.X.K = B.X.K := by obtain ⟨pn, xe, e⟩ := h.ex; rw [e]
theorem TrOf.sl (h : TrOf B B2) (s : Sl B x i) : Sl B2 x i := by obtain ⟨pn, xe, e⟩ := h.ex; exact ⟨by rw [e]; exact s.n, by rw [e]; exact s.l, by rw [e]; exact s.f⟩
theorem TrOf.bok (h : TrOf B B2) (k : Bok B) : Bok B2 := by obtain ⟨pn, xe, e⟩ := h.ex; exact ⟨by rw [e]; exact k.nd, by rw [e]; exact k.calm, h.ps⟩
theorem TrOf.room (h : TrOf B B2) (r : Room k B.X.A) : Room k B2.X.A := by obtain ⟨pn, xe, e⟩ := h.ex; rw [e]; exact r
theorem TrOf.hs {P : Program} {w : World} {K : PySem.W.Frag} {mg : Str → Option Value} {base : Heap} (h : TrOf B B2) (r : Hs P w K mg base B) : Hs P w K mg base B2 := by obtain ⟨pn, xe, e⟩ := h.ex; unfold Hs; rw [e]; exact r
theorem TrOf.gl (h : TrOf B B2) (g : Gl B.X x) : Gl B2.X x := by obtain ⟨pn, xe, e⟩ := h.ex; rw [e]; exact g
theorem TrOf.mg (h : TrOf B B2) : B2.X.mg = B.X.mg := by obtain ⟨pn, xe, e⟩ := h.ex; rw [e]
theorem TrOf.bi {id : String} (h : TrOf B B2) (b : Bi B x id) : Bi B2 x id := ⟨h.gl b.g, by rw [h.mg]; exact b.m, b.v⟩
theorem TrOf.bt {T : String} (h : TrOf B B2) (b : Bt B x T) : Bt B2 x T := ⟨h.gl b.g, by rw [h.mg]; exact b.m, b.v⟩
theorem TrOf.cls (h : TrOf B B2) (b : GCls B x C) : GCls B2 x C := ⟨h.gl b.g, by rw [h.mg]; exact b.m⟩
theorem SuOf.K (h : SuOf B B2 at' C l) : B2.X.K = B.X.K := by obtain ⟨oe, pn, d, e, _⟩ := h.ex; rw [e]
theorem SuOf.sl (h : SuOf B B2 at' C l) (s : Sl B x i) : Sl B2 x i := by obtain ⟨oe, pn, d, e, _⟩ := h.ex; exact ⟨by rw [e]; exact s.n, by rw [e]; exact s.l, by rw [e]; exact s.f⟩
theorem SuOf.nd (h : SuOf B B2 at' C l) (k : Bok B) : B2.X.N.Nodup := by obtain ⟨oe, pn, d, e, _⟩ := h.ex; rw [e]; exact k.nd
theorem SuOf.gl (h : SuOf B B2 at' C l) (g : Gl B.X x) : Gl B2.X x := by obtain ⟨oe, pn, d, e, _⟩ := h.ex; rw [e]; exact g
theorem SuOf.mg (h : SuOf B B2 at' C l) : B2.X.mg = B.X.mg := by obtain ⟨oe, pn, d, e, _⟩ := h.ex; rw [e]
theorem SuOf.bi {id : String} (h : SuOf B B2 at' C l) (b : Bi B x id) : Bi B2 x id := ⟨h.gl b.g, by rw [h.mg]; exact b.m, b.v⟩
theorem SuOf.bt {T : String} (h : SuOf B B2 at' C l) (b : Bt B x T) : Bt B2 x T := ⟨h.gl b.g, by rw [h.mg]; exact b.m, b.v⟩
theorem SuOf.cls {C' : Addr} (h : SuOf B B2 at' C l) (b : GCls B x C') : GCls B2 x C' := ⟨h.gl b.g, by rw [h.mg]; exact b.m⟩
theorem SuOf.pss (h : SuOf B B2 at' C l) : Pss B2 := by obtain ⟨oe, pn, d, e, _⟩ := h.ex; unfold Pss; rw [e]; exact PassesOwn.never
end
section
variable {B : Bx} {e : Expr} {ρ : DE} {m : Mem} {R : RR} {pos pos' : Pos} {x : Str} {i : Nat}
theorem ws_stn (nd : B.X.N.Nodup) (s : Sl B x i) (h : WE B e ρ m fun d m1 => R.nx ((i, d) :: ρ) m1) (hs : swapsWith e (some (.Name x pos')) pos.line B.X.env = pure false) : WS B (.Assign [.Name x pos'] e pos) ρ m R := ws_set i nd s.n s.l h hs s.f
end
end Pd
namespace Pd
open PySem PySem.Spec PyProof.Rows L2 PdErr
structure ErrK (K : PySem.W.Frag) (mg : Str → Option Value) (n : Str) (C : Addr) (fs : List Str) : Prop where
  gm : mg n = some (.ref C)
  xc : ExcC K C
  xf : XfC K C
  nf : ∀ f ∈ fs, PySem.W.findIn K (.ref C) f = some none
structure ErrI (P : Program) (w : World) (K : PySem.W.Frag) (mg : Str → Option Value) (base : Heap) (n : Str) (C : Addr) (fs : List Str) (ok : List D → Prop) : Prop where
  gm : mg n = some (.ref C)
  T : OexC K C
  len : fs.length ≤ 900
  ex : ∃ (fI : Addr) (fd : FuncData) (okw : List V → Prop), PySem.W.findIn K (.ref C) "__init__" = some (some (.ref fI)) ∧ PySem.W.typeIn K (.ref fI) = some (.type "function") ∧
    FnOk P w K mg base (L2.CX P w) 1 fI fd ("self" :: fs) (spErr C fs okw) ∧ Binds K fd ("self" :: fs) [] ∧ ∀ G ds vs, Reps K G ds vs → ok ds → okw vs
theorem gerr_of {P : Program} {w : World} {K : PySem.W.Frag} {mg : Str → Option Value} {base : Heap} {n : Str} {C : Addr} {fs : List Str} {ok : List D → Prop} {B : Bx} {k : Nat} (E : ErrI P w K mg base n C fs ok) (hr : Room k B.X.A) (hk : 2 ≤ k) (h : Hs P w K mg base B) (hg : Gl B.X n) : GErr B n C fs ok := by
  obtain ⟨fI, fd, okw, h1, h2, h3, h4, h5⟩ := E.ex
  have e1 := E.gm; have e2 := E.T; have e3 := E.len
  obtain ⟨rfl, rfl, rfl, rfl, rfl⟩ := h
  exact ⟨hg, e1, e2, e3, fI, 1, fd, okw, h1, h2, h3, hr.mono hk, h4, h5⟩
def okAny : List D → Prop := fun _ => True
def okCat (x : Str) : List D → Prop := fun ds => ∃ z r, ds = .str z :: r ∧ x.length + z.length ≤ sizeLine
section
variable {P : Program} {w : World} {K : PySem.W.Frag} {mg : Str → Option Value} {base : Heap} {C fI cc cda : Addr} {n qual file : Str} {st : Stmt} {f g : Str} {ok : List D → Prop} {okw : List V → Prop}
  {oc doc pm ct ccl : Value} {od an cdd : Option Addr} {osl ccs : Array (Option Value)} {vs0 : Array Value} {tf : Tok} {e : Expr} {p0 p1 p2 p4 p5 q1 q2 q3 q4 r1 r2 r3 r4 : Pos}
structure ErrP (e : Expr) (p0 p1 p2 p4 p5 : Pos) : Prop where
  st : ∀ env : Env, starEach [e] env = (false, eval e env) :: starEach [] env
  call : ∀ env : Env, ∃ pl : Sem Bool, eval (.Call (.Attribute (.Call (.Name "super" p0) [] [] p1) "__init__" p2) [e] [] p4) env = (do
      let ov ← attributeBase (.Call (.Name "super" p0) [] [] p1) "__init__" env (eval (.Call (.Name "super" p0) [] [] p1) env)
      standAt p2.atName
      let (f, first) ← holding [ov] (getMethod ov "__init__" pl)
      callWith p4 f first (backTo p4 (starEach [e] env)) [])
  sw : ∀ env : Env, swapsWith (.Call (.Attribute (.Call (.Name "super" p0) [] [] p1) "__init__" p2) [e] [] p4) none p5.line env = pure false
theorem err_i1 (gm : mg n = some (.ref C)) (T : ErrC K C cc) (lk : K.lookup fI = some ⟨oc, od, .func (PySem.W.ksFn "__init__" qual (defArgs st) (defBody st) (defScope st) .none .none doc pm an (.ref cda) ct cc), osl⟩) (hcd : PySem.W.codeIn K (.ref cda) qual = true)
    (hcode : K.lookup cda = some ⟨ccl, cdd, .fields vs0, ccs⟩) (hvs : vs0[2]? = some (.str file tf)) (hfile : ((P.main.file : Str) == file) = true) (htop : (P.main.scope.names.lookup ("super" : Str)).isSome = false) (hm : mg "super" = none)
    (iC : PySem.W.findIn K (.ref C) "__init__" = some (some (.ref fI))) (tC : PySem.W.typeIn K (.ref fI) = some (.type "function")) (nf : PySem.W.findIn K (.ref C) f = some none)
    (hb : defBody st = [eS e p0 p1 p2 p4 p5, eF f q1 q2 q3 q4]) (hE : ErrE e [f] okw) (hP : ErrP e p0 p1 p2 p4 p5) (hok : ∀ G ds vs, Reps K G ds vs → ok ds → okw vs) (S : ErrS ["self", f] (defScope st)) {ar : Arg} (har : ((defArgs st).posonlyargs ++ (defArgs st).args).head? = some ar) (hself : ar.arg = ("self" : Str))
    (hd : (f == ("__debug__" : Str)) = false) (hcdn : (f == ("__classdict__" : Str)) = false) (hbind : ∀ (us : List Value), us.length = 2 → bindArgs (PySem.W.ksFn "__init__" qual (defArgs st) (defBody st) (defScope st) .none .none doc pm an (.ref cda) ct cc) ⟨us, []⟩ = pure (([("self" : Str), f]).zip us)) :
    ErrI P w K mg base n C [f] ok := by
  refine ⟨gm, T.oex, by simp, fI, _, okw, iC, tC, ?_, Binds.all hbind, hok⟩
  rw [hb] at lk ⊢
  refine err_fn (k := 0) T lk hcd hcode hvs hfile htop hm S har hself (fun vs H Q E ⟨x, ws, h1, h2, _⟩ => by rw [h1]; simp [h2]) (fun A outer s H vs Q E hr ⟨x, ws, h1, h2, h3, h4, h5⟩ => ?_) (fun _ => hP.st _) (fun _ => hP.call _) (fun _ => hP.sw _)
  obtain ⟨y, rfl⟩ : ∃ y, ws = [y] := by
    cases ws with
    | nil => simp at h2
    | cons y r => cases r with
      | nil => exact ⟨y, rfl⟩
      | cons _ _ => simp at h2
  subst h1
  have vis : ∀ z ∈ [("self" : Str), f], Vis (PySem.W.ksEnv qual (defScope st) s.heap.objs.size fI (.ref cda) cc).scope z := fun z hz => .inl (S.par z hz)
  obtain ⟨te, pe, re⟩ := errE_pe (X := cxE (L2.CX P w) P w K mg base ["self", f] qual (defScope st) fI (.ref cda) cc A outer s H E) (N := ["self", f]) (x := x) hE rfl (fun z hz => vis z (List.mem_cons_of_mem _ hz))
  obtain ⟨t, ps, rt⟩ := ost1 (X := cxE (L2.CX P w) P w K mg base ["self", f] qual (defScope st) fI (.ref cda) cc A outer s H E) (N := ["self", f]) (x := x) (y := y) (q1 := q1) (q2 := q2) (q3 := q3) (q4 := q4) T.oex rfl (vis _ (by simp)) (vis _ (by simp)) hd hcdn nf rfl
  refine ⟨te, t, x, _, rfl, h4, pe, ps, re H _ h3 fun v => ⟨rfl, h4, rt _ H h4 fun d hd hne => ?_⟩⟩
  refine h5 d _ hd hne upd_same (by rw [upd_ne hne, upd_same]; rfl) fun b h1 h2 => by rw [upd_ne h1, upd_ne h2]
theorem err_i2 (gm : mg n = some (.ref C)) (T : ErrC K C cc) (lk : K.lookup fI = some ⟨oc, od, .func (PySem.W.ksFn "__init__" qual (defArgs st) (defBody st) (defScope st) .none .none doc pm an (.ref cda) ct cc), osl⟩) (hcd : PySem.W.codeIn K (.ref cda) qual = true)
    (hcode : K.lookup cda = some ⟨ccl, cdd, .fields vs0, ccs⟩) (hvs : vs0[2]? = some (.str file tf)) (hfile : ((P.main.file : Str) == file) = true) (htop : (P.main.scope.names.lookup ("super" : Str)).isSome = false) (hm : mg "super" = none)
    (iC : PySem.W.findIn K (.ref C) "__init__" = some (some (.ref fI))) (tC : PySem.W.typeIn K (.ref fI) = some (.type "function")) (nf : PySem.W.findIn K (.ref C) f = some none) (ng : PySem.W.findIn K (.ref C) g = some none)
    (hb : defBody st = [eS e p0 p1 p2 p4 p5, eF f q1 q2 q3 q4, eF g r1 r2 r3 r4]) (hE : ErrE e [f, g] okw) (hP : ErrP e p0 p1 p2 p4 p5) (hok : ∀ G ds vs, Reps K G ds vs → ok ds → okw vs) (S : ErrS ["self", f, g] (defScope st)) {ar : Arg} (har : ((defArgs st).posonlyargs ++ (defArgs st).args).head? = some ar) (hself : ar.arg = ("self" : Str))
    (hd : (f == ("__debug__" : Str)) = false) (hcdn : (f == ("__classdict__" : Str)) = false) (hd2 : (g == ("__debug__" : Str)) = false) (hcdn2 : (g == ("__classdict__" : Str)) = false) (hbind : ∀ (us : List Value), us.length = 3 → bindArgs (PySem.W.ksFn "__init__" qual (defArgs st) (defBody st) (defScope st) .none .none doc pm an (.ref cda) ct cc) ⟨us, []⟩ = pure (([("self" : Str), f, g]).zip us)) :
    ErrI P w K mg base n C [f, g] ok := by
  refine ⟨gm, T.oex, by simp, fI, _, okw, iC, tC, ?_, Binds.all hbind, hok⟩
  rw [hb] at lk ⊢
  refine err_fn (k := 0) T lk hcd hcode hvs hfile htop hm S har hself (fun vs H Q E ⟨x, ws, h1, h2, _⟩ => by rw [h1]; simp [h2]) (fun A outer s H vs Q E hr ⟨x, ws, h1, h2, h3, h4, h5⟩ => ?_) (fun _ => hP.st _) (fun _ => hP.call _) (fun _ => hP.sw _)
  obtain ⟨y, z, rfl⟩ : ∃ y z, ws = [y, z] := by
    match ws, h2 with
    | [y, z], _ => exact ⟨y, z, rfl⟩
  subst h1
  have vis : ∀ z ∈ [("self" : Str), f, g], Vis (PySem.W.ksEnv qual (defScope st) s.heap.objs.size fI (.ref cda) cc).scope z := fun z hz => .inl (S.par z hz)
  obtain ⟨te, pe, re⟩ := errE_pe (X := cxE (L2.CX P w) P w K mg base ["self", f, g] qual (defScope st) fI (.ref cda) cc A outer s H E) (N := ["self", f, g]) (x := x) hE rfl (fun z hz => vis z (List.mem_cons_of_mem _ hz))
  obtain ⟨t, ps, rt⟩ := ost2 (X := cxE (L2.CX P w) P w K mg base ["self", f, g] qual (defScope st) fI (.ref cda) cc A outer s H E) (N := ["self", f, g]) (x := x) (y := y) (z := z) (q1 := q1) (q2 := q2) (q3 := q3) (q4 := q4) (r1 := r1) (r2 := r2) (r3 := r3) (r4 := r4) T.oex rfl (vis _ (by simp)) (vis _ (by simp)) (vis _ (by simp)) hd hcdn hd2 hcdn2 nf ng rfl rfl
  refine ⟨te, t, x, _, rfl, h4, pe, ps, re H _ h3 fun v => ⟨rfl, h4, rt _ H h4 fun d hd hne => ?_⟩⟩
  refine h5 d _ hd hne (by rw [upd_ne (Ne.symm hne), upd_same]) upd_same fun b h1 h2 => by rw [upd_ne h2, upd_ne h1, upd_ne h2]
end
theorem exm_of {K : PySem.W.Frag} {C D : Addr} {b : Bool} (T : ExcC K D) (ht : PySem.W.typeIn K (.ref D) = some (.type "type")) (h : PySem.W.subIn K (.ref C) (.ref D) = some b) : PySem.W.exmOne K (.ref C) (.ref D) = some b := PySem.W.exm_ref T.hs T.hd ht h
structure GCst (mg : Str → Option Value) (n : Str) (d : D) : Prop where
  ex : ∃ (u : Value) (v : V), mg n = some u ∧ RelV v u ∧ ∀ K G, Rep K G d v
structure GVal (B : Bx) (n : Str) (d : D) : Prop where
  g : Gl B.X n
  ex : ∃ (u : Value) (v : V), B.X.mg n = some u ∧ RelV v u ∧ ∀ K G, Rep K G d v
theorem we_gv {B : Bx} {n : Str} {d : D} {ρ : DE} {m : Mem} {Q : D → Mem → Prop} {pos : Pos} (h : GVal B n d) (q : Q d m) (hd : (n == ("__debug__" : Str)) = false) : WE B (.Name n pos) ρ m Q := by
  obtain ⟨u, v, h1, h2, h3⟩ := h.ex
  exact we_glob h.g h1 h2 (h3 _ _) q hd
theorem boot_ValueError' : bootBuiltins "ValueError" = some (.type "ValueError") := by decide +kernel
theorem exf1 {f : Str} {d : D} {l : List (Str × D)} : List.lookup f ((f, d) :: l) = some d := by simp [List.lookup]
theorem exf2 {f g : Str} {d e : D} {l : List (Str × D)} (h : (f == g) = false) : List.lookup f ((g, e) :: (f, d) :: l) = some d := by simp [List.lookup, h]
theorem endR_nx {R : RR} {i : Nat} {ρ : DE} {m : Mem} (h : R.nx (rmD i ρ) m) : (endR R i).nx ρ m := h
theorem forD_nil {B : Bx} {tg : Expr} {body : List Stmt} {R : RR} {ρ : DE} {m : Mem} (h : R.nx ρ m) : forD B tg body R [] ρ m := h
theorem nx_forD {B : Bx} {tg : Expr} {body : List Stmt} {R : RR} {ds : List D} {ρ : DE} {m : Mem} {rt : D → Mem → Prop} {bk ct : DE → Mem → Prop} (e : ds = []) (h : R.nx ρ m) : ({ nx := forD B tg body R ds, rt := rt, bk := bk, ct := ct } : RR).nx ρ m := by
  subst e; exact h
theorem forD_nil' {B : Bx} {tg : Expr} {body : List Stmt} {R : RR} {ds : List D} {ρ : DE} {m : Mem} (e : ds = []) (h : R.nx ρ m) : forD B tg body R ds ρ m := by subst e; exact h
theorem ite_join {B : Bx} {b o : List Stmt} {ρ : DE} {m : Mem} {R : RR} {t : Bool} (J : DE → Mem → Prop) (h1 : t = true → WSs B b ρ m { R with nx := J }) (h2 : t = false → WSs B o ρ m { R with nx := J }) (k : ∀ ρ' m', J ρ' m' → R.nx ρ' m') : if t = true then WSs B b ρ m R else WSs B o ρ m R := by
  cases t with
  | true => rw [if_pos rfl]; exact (h1 rfl).mono k (fun _ _ q => q) (fun _ _ q => q) fun _ _ q => q
  | false => rw [if_neg Bool.false_ne_true]; exact (h2 rfl).mono k (fun _ _ q => q) (fun _ _ q => q) fun _ _ q => q
end Pd
namespace Pd
open PySem PySem.Spec PyProof.Rows L2 PdErr
section
variable {B : Bx} {x y d : D} {m : Mem} {Q : D → Mem → Prop} {i : Int} {C : Addr} {a b c e o : Expr} {es : List Expr} {ρ : DE} {pos p2 apos : Pos} {P : PD} {n : Str} {fl fl' : List (Str × D)}
theorem wb_nin_own (h : InsOf y m C fl) (hc : CalM B C "__contains__" P) (hp : ∃ Xd, P [y, x] m (fun d m' => ∃ t, d = .bl t ∧ Q (.bl (!t)) m') Xd ∧ XOK B Xd) : WB B (compareOp .NotIn) x y m Q := fun G H v u s c r1 r2 Q' k pins s1 σ v' u' I rv ru => by
  obtain ⟨a, dx, fs, rfl, ha, rf⟩ := insof_get h c r2
  obtain rfl : u' = Value.ref a := ru
  obtain ⟨g, hm, run⟩ := hc.ex
  obtain ⟨mA, J, _⟩ := ins_get I.hok ha
  obtain ⟨od, J, _⟩ := J.look
  obtain ⟨mF, hF⟩ := I.fr
  obtain ⟨Xd, q1, q2⟩ := hp
  refine PySem.W.notIn_K hF I.ok.mod.kin J hm.at_ hm.fn ?_
  refine thn (run pins s1 σ H [.ref a, v'] [.ref a, v] [y, x] m G (fun w H2 => ∃ t, w = .bl t ∧ Q' (.bl (!t)) H2) (fun d m' => ∃ t, d = .bl t ∧ Q (.bl (!t)) m') Xd I (.cons rfl (.cons rv .nil)) s c ⟨_, _, rfl, r2, _, _, rfl, r1, rfl⟩ q1 (fun w d m' G' H' s' c' rd ⟨t, ed, qd⟩ => ?_) (q2.xo s)) fun w s2 ⟨w', H2, I2, rw', t, ew, q3⟩ => ?_
  · subst ed
    exact ⟨t, rd, k (.bl (!t)) (.bl (!t)) m' G' H' s' c' rfl qd⟩
  · subst ew
    obtain rfl : w = Value.bool t := rw'
    exact wpAny_truthy_bool ⟨.bl (!t), H2, I2, rfl, q3⟩
end
theorem we_mthR {B : Bx} {e o : Expr} {es : List Expr} {ρ : DE} {m : Mem} {Q : D → Mem → Prop} {pos apos : Pos} {n : Str} {C : Addr} {P : PD} {pl : Sem Bool} (mm : CalM B C n P) (h : WE B o ρ m fun x m1 => ∃ fl, InsOf x m1 C fl ∧ fl.lookup n = none ∧ Cls B.X.K C ∧ WA B (e :: es) ρ m1 fun ds m2 => ∃ Xd, P (x :: ds) m2 Q Xd ∧ XR B ρ Xd)
    (hst : starEach (e :: es) B.X.env = (false, eval e B.X.env) :: starEach es B.X.env) (hpl : (backTo pos (starEach es B.X.env)).any (·.1) = false)
    (ht : eval (.Call (.Attribute o n apos) (e :: es) [] pos) B.X.env = (do
      let ov ← eval o B.X.env
      standAt apos.atName
      let (f, first) ← holding [ov] (getMethod ov n pl)
      callWith pos f first (backTo pos (starEach (e :: es) B.X.env)) (backToKw pos (keywordEach [] B.X.env)))) : WE B (.Call (.Attribute o n apos) (e :: es) [] pos) ρ m Q :=
  we_methR (h.mono fun x m1 ⟨fl, a, b, c, d⟩ => ⟨C, fl, P, a, b, c, mm, d⟩) hst hpl ht
section
variable {B : Bx} {x y d : D} {m : Mem} {Q : D → Mem → Prop} {p C : Addr} {e o : Expr} {es : List Expr} {ρ : DE} {pos apos : Pos} {l : List D} {t : Bool} {T' : String}
theorem wc_isM (hm : m p = some (.lst l)) (hk : kitB "list" T' = some t) (q : Q (.bl t) m) : WC B (.builtin "isinstance") [.ref p, .ty T'] m Q := wc_of call_isi fun G H vs c rd Q' k => by
  obtain ⟨v, u, rfl, r1, r2⟩ := rep2 rd
  obtain rfl : v = .ref p := r1
  obtain rfl : u = .ty T' := r2
  obtain ⟨_, o, ho, xs, rfl, rx⟩ := c.mm p _ hm
  exact ⟨.ref p, .ty T', _, _, t, rfl, .ty T', .base (.lst ho), kit_ty hk, c.vp k (d := .bl t) rfl q⟩
theorem wc_isMList (hm : m p = some (.lst l)) (q : Q (.bl true) m) : WC B (.builtin "isinstance") [.ref p, .ty "list"] m Q := wc_isM hm (by decide +kernel) q
theorem wc_isMNot (hm : m p = some (.lst l)) (hk : PySem.W.kitOne B.X.K (.type "list") (.ref C) = some t) (q : Q (.bl t) m) : WC B (.builtin "isinstance") [.ref p, .ref C] m Q := wc_of call_isi fun G H vs c rd Q' k => by
  obtain ⟨v, u, rfl, r1, r2⟩ := rep2 rd
  obtain rfl : v = .ref p := r1
  obtain rfl : u = .ref C := r2
  obtain ⟨_, o, ho, xs, rfl, rx⟩ := c.mm p _ hm
  exact ⟨.ref p, .ref C, _, _, t, rfl, .own C, .base (.lst ho), hk, c.vp k (d := .bl t) rfl q⟩
theorem we_pop (h : WE B o ρ m fun x m1 => ∃ p l d, x = .ref p ∧ m1 p = some (.lst (l ++ [d])) ∧ Q d (mset m1 p (.lst l)))
    (hbase : attributeBase o ("pop" : Str) B.X.env (eval o B.X.env) = eval o B.X.env) (hline : (apos.endLine == pos.line) = true) : WE B (.Call (.Attribute o "pop" apos) [] [] pos) ρ m Q := fun G σ H s r c Q' k => by
  refine teX_of (pe_bm0 PySem.F.plainAttrs_list PySem.F.slot_list_pop PySem.F.type_list_pop mt_pop (peX o) hbase hline) ?_
  refine h G σ H s r c _ fun v x m1 G1 H1 s1 c1 r1 ⟨p, l, d, ex, hm, q⟩ => ?_
  subst ex
  obtain rfl : v = .ref p := r1
  obtain ⟨_, o', ho, xs, rfl, rx⟩ := c1.mm p _ hm
  have hl := reps_len rx
  rw [List.length_append, List.length_singleton] at hl
  have e1 : (l ++ [d])[xs.length - 1]? = some d := by rw [hl]; simp
  obtain ⟨y, hy, ry⟩ := reps_get' rx e1
  refine ⟨.inl ⟨rfl, _, SqL.of ho⟩, p, xs, y, rfl, rfl, ho, hy, ?_⟩
  have rx2 : Reps B.X.K G1 l xs.dropLast := by
    have z := reps_take (xs.length - 1) rx
    rw [hl, Nat.add_sub_cancel, List.take_left'] at z
    · rw [List.dropLast_eq_take, hl, Nat.add_sub_cancel]; exact z
    · rfl
  exact k y d _ G1 _ s1 (c1.wr (u := .lst l) hm ⟨_, rfl, rx2⟩) ry q
end
section
variable {B : Bx} {x y d : D} {m : Mem} {Q : D → Mem → Prop} {C : Addr} {ρ : DE} {P : PD} {fl fl' : List (Str × D)}
theorem wbr_oo {op : Operator} (h : InsOf x m C fl) (h' : InsOf y m C fl') (o : OpC B.X.K C) (hc : CalM B C (PySem.dunder op.info.2) P) (hp : ∃ Xd, P [x, y] m Q Xd ∧ XR B ρ Xd) : WBR B ρ (binaryOp op) x y m Q := fun G σ H v u s r c r1 r2 Q' k pins s1 v' u' I rv ru => by
  obtain ⟨a, dx, fs, rfl, ha, rf⟩ := insof_get h c r1
  obtain ⟨b, dy, gs, rfl, hb, rg⟩ := insof_get h' c r2
  obtain rfl : v' = Value.ref a := rv
  obtain rfl : u' = Value.ref b := ru
  obtain ⟨g, hm, run⟩ := hc.ex
  obtain ⟨mA, J, _⟩ := ins_get I.hok ha
  obtain ⟨od, J, _⟩ := J.look
  obtain ⟨mB, J2, _⟩ := ins_get I.hok hb
  obtain ⟨od2, J2, _⟩ := J2.look
  obtain ⟨mF, hF⟩ := I.fr
  obtain ⟨Xd, q1, q2⟩ := hp
  refine PySem.W.binop_K hF I.ok.mod.kin J J2.type o.sf hm.at_ hm.fn ?_
  exact thn (run pins s1 σ H [.ref a, .ref b] [.ref a, .ref b] [x, y] m G Q' Q Xd I (.cons rfl (.cons rfl .nil)) s c ⟨_, _, rfl, r1, _, _, rfl, r2, rfl⟩ q1 k (q2 G σ s r)) fun w s2 ⟨w', H2, I2, rw', q3⟩ => SlX.cmpback rw' ⟨w', H2, I2, rw', q3⟩
theorem wbr_oand (h : InsOf x m C fl) (h' : InsOf y m C fl') (o : OpC B.X.K C) (hc : CalM B C "__and__" P) (hp : ∃ Xd, P [x, y] m Q Xd ∧ XR B ρ Xd) : WBR B ρ (binaryOp .BitAnd) x y m Q :=
  wbr_oo h h' o (by rw [show PySem.dunder Operator.BitAnd.info.2 = "__and__" from by decide +kernel]; exact hc) hp
end
theorem Has.cut {ρ ρ0 : DE} {i : Nat} {d : D} (h : Has ρ ((i, d) :: ρ0)) (n : lk ρ0 i = none := by rfl) : Has ρ ρ0 := fun j e q => h j e (by
  rw [lk_cons]
  by_cases z : i = j
  · subst z; rw [n] at q; cases q
  · rw [if_neg z]; exact q)
end Pd
namespace Pd
open PySem PySem.Spec PyProof.Rows L2
structure StM (K : PySem.W.Frag) (C : Addr) (n : Str) (f : Addr) : Prop where
  rd : PySem.W.readsIn K C (.type "type") = true
  ga : PySem.W.specialIn K (.ref C) "__getattribute__" = some (some (.builtin "type.__getattribute__"))
  at_ : ∃ (p : Addr) (rest : List Value), PySem.W.findCls K (.ref C) (.type "type") n = some (.get (.builtin "staticmethod.__get__") (.ref p) .none (.ref C)) ∧ PySem.W.recIn K p "staticmethod" = some (.ref f :: rest)
  kp : PySem.W.keepIn K (.ref f) = true
section
variable (P : Program) (w : World) (K : PySem.W.Frag) (mg : Str → Option Value) (base : Heap)
structure SDef (C : Addr) (n qual : Str) (st : Stmt) (ps : List Str) : Prop where
  ex : ∃ (f : Addr) (fd : FuncData), StM K C n f ∧ DefAt K n qual st f fd ∧ Binds K fd ps []
structure SF (C : Addr) (n : Str) (k : Nat) (PP : PD) : Prop where
  ex : ∃ (f : Addr) (fd : FuncData) (ps : List Str), StM K C n f ∧ Binds K fd ps [] ∧ FnOk P w K mg base (L2.CX P w) k f fd ps (spD K PP)
end
structure CalS (B : Bx) (C : Addr) (n : Str) (P : PD) : Prop where
  ex : ∃ f : Addr, StM B.X.K C n f ∧ Runs B (.ref f) P
section
variable {P : Program} {w : World} {K : PySem.W.Frag} {mg : Str → Option Value} {base : Heap}
theorem cals_of {B : Bx} {C : Addr} {n : Str} {k k' : Nat} {PP : PD} (g : SF P w K mg base C n k PP) (hr : Room k' B.X.A) (hk : k ≤ k') (h : Hs P w K mg base B) : CalS B C n PP := by
  obtain ⟨f, fd, ps, h1, h3, h4⟩ := g.ex
  obtain ⟨rfl, rfl, rfl, rfl, rfl⟩ := h
  exact ⟨f, h1, runs_fn h4 (hr.mono hk) h3⟩
theorem sf_ok {N ps : List Str} {k : Nat} {PP : PD} {C : Addr} {n qual : Str} {st : Stmt} (GD : SDef K C n qual st ps) (S : FnScope N ps (defScope st)) (len : ∀ ds m Q Xd, PP ds m Q Xd → ds.length = ps.length)
    (hbody : ∀ (B : Bx) (f : Addr) (cdv : Value) (A : Around) (outer : List Env) (s : Shared) (H : Hp) (E : XK), B.X = cxOf (L2.CX P w) P w K mg base N qual (defScope st) f cdv A outer s H E → Room k B.X.A → Bok B → ∀ ds m Q Xd, PP ds m Q Xd → XOK B Xd →
      WSs B (defBody st) (startD 0 ds) m { nx := fun _ m' => Q .non m', rt := Q }) : SF P w K mg base C n (k + 1) PP := by
  obtain ⟨f, fd, h1, F, hb⟩ := GD.ex
  exact ⟨f, fd, ps, h1, hb, fn_ok2 F S len hbody⟩
end
section
variable {B : Bx} {x y d : D} {m : Mem} {Q : D → Mem → Prop} {C : Addr} {ρ : DE} {P : PD} {a b e o : Expr} {es : List Expr} {pos p2 apos : Pos} {n : Str} {l : List D} {i : Int}
theorem we_smR {pl : Sem Bool} (h : WE B o ρ m fun x m1 => ∃ C P, x = .ref C ∧ CalS B C n P ∧ WA B (e :: es) ρ m1 fun ds m2 => ∃ Xd, P ds m2 Q Xd ∧ XR B ρ Xd)
    (hst : starEach (e :: es) B.X.env = (false, eval e B.X.env) :: starEach es B.X.env) (hpl : (backTo pos (starEach es B.X.env)).any (·.1) = false)
    (ht : eval (.Call (.Attribute o n apos) (e :: es) [] pos) B.X.env = (do
      let ov ← eval o B.X.env
      standAt apos.atName
      let (f, first) ← holding [ov] (getMethod ov n pl)
      callWith pos f first (backTo pos (starEach (e :: es) B.X.env)) (backToKw pos (keywordEach [] B.X.env)))) : WE B (.Call (.Attribute o n apos) (e :: es) [] pos) ρ m Q := fun G σ H s r c Q' k pins s1 I => by
  refine PySem.W.methodCall_KW (pl := pl) (thn (h G σ H s r c (fun v H1 => ∃ x m1 G1 C P, Sub G G1 ∧ Cur B.X.K G1 m1 H1 ∧ Rep B.X.K G1 x v ∧ x = .ref C ∧ CalS B C n P ∧ WA B (e :: es) ρ m1 fun ds m2 => ∃ Xd, P ds m2 Q Xd ∧ XR B ρ Xd)
    (fun v x m1 G1 H1 s1 c1 r1 ⟨C, P, q1, q4, q5⟩ => ⟨x, m1, G1, C, P, s1, c1, r1, q1, q4, q5⟩) pins s1 I) fun u s2 ⟨v, H1, I1, rv, x, m1, G1, C, P, sb1, c1, r1, q1, q4, q5⟩ => ?_) ht
  subst q1
  obtain rfl : v = .ref C := r1
  obtain rfl : u = Value.ref C := rv
  obtain ⟨g, hm, run⟩ := q4.ex
  obtain ⟨p, rest, ha, hrec⟩ := hm.at_
  have hkin := I1.kIn
  refine PySem.W.method_cls hkin hm.ga ?_
  refine PySem.W.cls_bind hkin hm.rd ha (wpAny_call (PySem.W.sm_get (s := { s2 with toks := s2.toks + 1 }) hkin hrec (PySem.W.handed_on (show PySem.W.handedIn (.ref g) = true from rfl) ?_)))
  have I2 := I1.tok (s2.toks + 1)
  refine PySem.W.callWith_K (first := []) (h₀ := B.X.base) I1.ok.mod.kin hm.kp (thn (q5 G1 σ H1 (s.trans sb1) (r.sub sb1) c1 (fun vs H2 => ∃ ds m2 G2 Xd, Sub G1 G2 ∧ Cur B.X.K G2 m2 H2 ∧ Reps B.X.K G2 ds vs ∧ P ds m2 Q Xd ∧ XR B ρ Xd) (fun vs ds m2 G2 H2 s2 c2 r2 ⟨Xd, q1, q2⟩ => ⟨ds, m2, G2, Xd, s2, c2, r2, q1, q2⟩) pos pins _ I2) fun us s3 ⟨vs, H2, I2, rvs, ds, m2, G2, Xd, sb2, c2, r2, q6, q7⟩ => ⟨I2.kIn, ?_⟩) hst hpl
  exact run pins s3 σ H2 us vs ds m2 G2 Q' Q Xd I2 rvs ((s.trans sb1).trans sb2) c2 r2 q6 (k.sub (sb1.trans sb2)) (q7 _ _ ((s.trans sb1).trans sb2) (r.sub (sb1.trans sb2)))
theorem we_smn {x : Str} {p0 : Pos} {pl : Sem Bool} (h0 : GCls B x C) (hc : CalS B C n P) (h : WA B (e :: es) ρ m fun ds m2 => ∃ Xd, P ds m2 Q Xd ∧ XOK B Xd)
    (hd : (x == ("__debug__" : Str)) = false) (hst : starEach (e :: es) B.X.env = (false, eval e B.X.env) :: starEach es B.X.env) (hpl : (backTo pos (starEach es B.X.env)).any (·.1) = false)
    (ht : eval (.Call (.Attribute (.Name x p0) n apos) (e :: es) [] pos) B.X.env = (do
      let ov ← eval (.Name x p0) B.X.env
      standAt apos.atName
      let (f, first) ← holding [ov] (getMethod ov n pl)
      callWith pos f first (backTo pos (starEach (e :: es) B.X.env)) (backToKw pos (keywordEach [] B.X.env)))) : WE B (.Call (.Attribute (.Name x p0) n apos) (e :: es) [] pos) ρ m Q :=
  we_smR (we_cls h0 ⟨C, P, rfl, hc, h.mono fun _ _ ⟨Xd, q1, q2⟩ => ⟨Xd, q1, q2.xr⟩⟩ hd) hst hpl ht
theorem we_cut1 {lo : Expr} (h : WE B e ρ m fun x m1 => ∃ l, x = .lst l ∧ Pd.WE B lo ρ m1 fun y m2 => ∃ i, y = .int i ∧ Q (.lst (cutD l (some i) none)) m2) : WE B (.Subscript e (.Slice (some lo) none none p2) pos) ρ m Q := fun G σ H s r c Q' k => by
  refine teX_of (pe_slice sl_list (peX e) (po_some (peX lo)) po_none) ?_
  refine h G σ H s r c _ fun v x m1 G1 H1 s1 c1 r1 ⟨l, ex, q0⟩ => ?_
  subst ex
  refine q0 G1 σ H1 (s.trans s1) (r.sub s1) c1 _ fun u y m2 G2 H2 s2 c2 r2 ⟨i, ey, q⟩ => ?_
  subst ey
  obtain ⟨p, xs, rfl, hq, rx⟩ := Rep.sub s2 _ _ r1
  refine ⟨i, r2, p, xs, rfl, SqL.sub c2.ex hq, fun p' hp => ?_⟩
  have sb := sub_upd (o := .lst (cutV xs (some i) none)) (c2.none hp).1
  exact k (.ref p') (.lst (cutD l (some i) none)) m2 _ _ ((s1.trans s2).trans sb) (c2.new hp) ⟨p', _, rfl, SqL.of upd_same, reps_cut _ _ (Reps.sub sb _ _ rx)⟩ q
end
end Pd
namespace Pd
open PySem PySem.Spec PyProof.Rows L2
section
theorem WT.env {B : Bx} {c : Expr} {ρ ρ' : DE} {m : Mem} {Q : Bool → Mem → Prop} (h : WT B c ρ' m Q) (k0 : Has ρ ρ') : WT B c ρ m Q := fun G σ H s r cu Q' k => h G σ H s (r.weak k0) cu Q' k
variable {B : Bx} {m : Mem} {ρ : DE} {R : RR} {a b : Expr} {x y : Str} {i j : Nat} {px py pt pos : Pos} {sc : Scope} {kt k2 pt2}
theorem sw_of {env : Env} {sc : Scope} {ts : List Expr} {v : Expr} {r : Sem (Option (List Str))} (h : env.scope = sc) (e : swappedStores ts v { env with scope := sc } = r) : swappedStores ts v env = r := by subst h; exact e
theorem ws_sw (hE : B.X.env.scope = sc) (k : Bok B) (s1 : Sl B x i) (s2 : Sl B y j) (hij : i ≠ j) (hx : sc.names.lookup x = some .local) (hy : sc.names.lookup y = some .local)
    (hw : swappedStores [.Tuple [.Name x px, .Name y py] kt pt] (.Tuple [a, b] k2 pt2) { B.X.env with scope := sc } = pure (some [x, y]))
    (h : WE B a ρ m fun d m1 => Pd.WE B b ρ m1 fun d2 m2 => R.nx ((j, d2) :: (i, d) :: ρ) m2)
    (hs : swapsWithSole [.Tuple [.Name x px, .Name y py] kt pt] (.Tuple [a, b] k2 pt2) pos.line B.X.env = pure false)
    (h1 : starEach [a, b] B.X.env = (false, eval a B.X.env) :: starEach [b] B.X.env) (h2 : starEach [b] B.X.env = (false, eval b B.X.env) :: starEach [] B.X.env) :
    WS B (.Assign [.Tuple [.Name x px, .Name y py] kt pt] (.Tuple [a, b] k2 pt2) pos) ρ m R :=
  ws_par i j k.calm k.nd s1.n s2.n hij (by rw [hE]; exact hx) (by rw [hE]; exact hy) h (sw_of hE hw) hs h1 h2
end
end Pd
namespace Pd
open PySem PySem.Spec PyProof.Rows L2
section
variable {B : Bx} {ρ : DE} {m : Mem} {N : DE → Mem → Prop} {es : List Expr} {ds : List D} {n k0 : Nat} {pos : Pos}
theorem wg_tp (k : Bok B) (hn : (assignEach es B.X.env).length = n) (hst : (assignEach es B.X.env).findIdx? (·.1) = none) (hl : ds.length = n) (h : WGs B es ds ρ m N) : WG B (.Tuple es k0 pos) (.tup ds) ρ m N := wg_tup k.calm h hl hn hst
end
end Pd
namespace Pd
open PySem PySem.Spec PyProof.Rows L2
def Runs1 (B : Bx) (f : Value) (P : PD) : Prop := ∀ pins s σ H us vs ds m G Q Qd Xd, Inv B.X pins σ H s → Vals vs us → Sub B.G0 G → Cur B.X.K G m H → Reps B.X.K G ds vs → P ds m Qd Xd → VP B.X.K G Qd Q → XO B σ G Xd →
  wpAny (model B.X.prog B.X.w) B.X.A.in1 (call f us) (EP B.X pins σ Q) B.X.xe s
theorem runs1_fn {B : Bx} {k : Nat} {f : Addr} {fd : FuncData} {ps : List Str} {P : PD} (F : FnOk B.X.prog B.X.w B.X.K B.X.mg B.X.base (L2.CX B.X.prog B.X.w) k f fd ps (spD B.X.K P)) (hr : Room (k + 1) B.X.A) (hb : Binds B.X.K fd ps []) : Runs1 B (.ref f) P := by
  intro pins s σ H us vs ds m G Q Qd Xd I rv s0 c rd hp kq hx
  have sp : spD B.X.K P vs H Q (xeD B.X.K G Xd) := ⟨G, m, ds, Qd, Xd, c, rd, hp, kq, xp_xeD _ _ _⟩
  have e := I.env0
  have e0 : Env0 B.X.prog B.X.w B.X.K B.X.mg B.X.base B.X.A.in1 B.X.stack s H := ⟨e.frames, e.mod, e.bs, e.bsz, e.funs, e.frf, e.hok, e.bare⟩
  have b0 := hb s us I.kIn (by have := F.len _ _ _ _ sp; have := rv.length; simp; omega)
  rw [List.append_nil] at b0
  refine wpAny_call (codeAny_mono (F.run B.X.A.in1 B.X.stack s H ⟨us, []⟩ us vs Q _ hr.in1 e0 b0 rv sp) fun r s' hq => ?_)
  match r, hq with
  | .error e, hq => exact hx.pass pins H s e s' I hq
  | .ok (.ret u), hq => exact I.after hq
  | .ok .next, hq => exact hq.elim
  | .ok .brk, hq => exact hq.elim
  | .ok .cont, hq => exact hq.elim
structure CalM1 (B : Bx) (C : Addr) (n : Str) (P : PD) : Prop where
  ex : ∃ f : Addr, Meth B.X.K C n f ∧ Runs1 B (.ref f) P
theorem calm1_of {P : Program} {w : World} {K : PySem.W.Frag} {mg : Str → Option Value} {base : Heap} {B : Bx} {C : Addr} {n : Str} {k k' : Nat} {PP : PD} (g : MF P w K mg base C n k PP) (hr : Room k' B.X.A) (hk : k + 1 ≤ k') (h : Hs P w K mg base B) : CalM1 B C n PP := by
  obtain ⟨f, fd, ps, h1, h3, h4⟩ := g.ex
  obtain ⟨rfl, rfl, rfl, rfl, rfl⟩ := h
  exact ⟨f, h1, runs1_fn h4 (hr.mono hk) h3⟩
section
variable {B : Bx} {x y d : D} {m : Mem} {Q : D → Mem → Prop} {C : Addr} {ρ : DE} {P : PD} {fl fl' : List (Str × D)} {k : Nat}
theorem wb_eqo (hr : Room k B.X.A) (h : InsOf x m C fl) (h' : InsOf y m C fl') (hc : CalM B C "__eq__" P) (hp : ∃ Xd, P [x, y] m Q Xd ∧ XOK B Xd) : WB B (compareOp .Eq) x y m Q := fun G H v u s c r1 r2 Q' k pins s1 σ v' u' I rv ru => by
  obtain ⟨a, dx, fs, rfl, ha, rf⟩ := insof_get h c r1
  obtain ⟨b, dy, gs, rfl, hb, rg⟩ := insof_get h' c r2
  obtain rfl : v' = Value.ref a := rv
  obtain rfl : u' = Value.ref b := ru
  obtain ⟨g, hm, run⟩ := hc.ex
  obtain ⟨mA, J, _⟩ := ins_get I.hok ha
  obtain ⟨od, J, _⟩ := J.look
  obtain ⟨mB, J2, _⟩ := ins_get I.hok hb
  obtain ⟨od2, J2, _⟩ := J2.look
  obtain ⟨mF, hF⟩ := I.fr
  obtain ⟨Xd, q1, q2⟩ := hp
  refine PySem.W.cmp_K (op := .Eq) (tb := .ref C) hr.units0 hF I.ok.mod.kin J J2.type (by simp [PySem.W.notFirst]) hm.at_ hm.fn ?_
  exact thn (run pins s1 σ H [.ref a, .ref b] [.ref a, .ref b] [x, y] m G Q' Q Xd I (.cons rfl (.cons rfl .nil)) s c ⟨_, _, rfl, r1, _, _, rfl, r2, rfl⟩ q1 k (q2.xo s)) fun w s2 ⟨w', H2, I2, rw', q3⟩ => SlX.cmpback rw' ⟨w', H2, I2, rw', q3⟩
theorem wb_eqp {kk : DK} (hr : Room k B.X.A) (h : InsOf x m C fl) (h' : dk y = some kk) (hn : PySem.W.subIn B.X.K (.type kk.ty) (.ref C) = some false) (hc : CalM B C "__eq__" P) (hp : ∃ Xd, P [x, y] m Q Xd ∧ XOK B Xd) : WB B (compareOp .Eq) x y m Q := fun G H v u s c r1 r2 Q' k pins s1 σ v' u' I rv ru => by
  obtain ⟨a, dx, fs, rfl, ha, rf⟩ := insof_get h c r1
  obtain rfl : v' = Value.ref a := rv
  obtain ⟨g, hm, run⟩ := hc.ex
  obtain ⟨mA, J, _⟩ := ins_get I.hok ha
  obtain ⟨od, J, _⟩ := J.look
  obtain ⟨mF, hF⟩ := I.fr
  obtain ⟨Xd, q1, q2⟩ := hp
  obtain ⟨PP, kx, hP, _⟩ := kit_of I ru (tyd_ok r2 c.ex (dk_ty h'))
  refine PySem.W.cmp_K (op := .Eq) (tb := .type kk.ty) hr.units0 hF I.ok.mod.kin J (kx.ty _ _ I.kIn hP) (by simp [PySem.W.notFirst, hn]) hm.at_ hm.fn ?_
  exact thn (run pins s1 σ H [.ref a, u'] [.ref a, u] [x, y] m G Q' Q Xd I (.cons rfl (.cons ru .nil)) s c ⟨_, _, rfl, r1, _, _, rfl, r2, rfl⟩ q1 k (q2.xo s)) fun w s2 ⟨w', H2, I2, rw', q3⟩ => SlX.cmpback rw' ⟨w', H2, I2, rw', q3⟩
end
section
open PySem.W
variable {prog : Program} {w : World} {A : Around} {E : Value → Shared → Prop} {s : Shared} {K : PySem.W.Frag} {x C L f : Addr} {h₀ : Heap} {mm : Str → Option Value} {ox : Obj} {od : Option Obj} {name : Str}
theorem ifBound_S {M : Model} {id : String} {args : List Value} {Q : Option Value → Shared → Prop} (X : K.In s.heap) (I : InstAt s.heap x ox C od) (hs : findIn K (.ref C) name = some (some (.builtin id))) (S : Slot "object" name id)
    (h : wpAny M A (call (.builtin id) (.ref x :: args)) (fun v => Q (some v)) E s) : wpAny M A (callSpecialIfBound? (.ref x) name args) Q E s := by
  simp only [callSpecialIfBound?, bindSpecialIfBound?]
  refine wpAny_holding (wpAny_bind (wpAny_bind (wpAny_bind (I.type.here ((looks_findIn X hs).here ?_)))))
  simp only [S.bind]
  refine wpAny_bind (wpAny_askSetting (wpAny_ite ?_))
  have fin : wpAny M A (call (.builtin id) ([.ref x] ++ args) >>= fun v => pure (some v)) Q E s := wpAny_bind (wpAny_mono h (fun v s' h' => wpAny_pure h') fun _ _ h' => h')
  split
  · exact wpAny_bind (wpAny_pure (wpAny_pure fin))
  · exact wpAny_tryCatch (wpAny_bind (wpAny_pure (wpAny_pure fin)))
theorem check_K {M : Model} {rest : List Value} {Q : Unit → Shared → Prop} (L0 : Looks M s.heap (typeOf (.ref x)) (.ref C)) (L1 : Looks M s.heap (isSubtype (.ref C) (.type "object")) true) (ha : argsOk "object.__ne__" ⟨.ref x :: rest, []⟩) (hq : Q () s) :
    wpAny M A (checkBuiltinCall "object.__ne__" ⟨.ref x :: rest, []⟩) Q E s := by
  simp only [checkBuiltinCall, F.cmpKind_ne, F.cmpSplit_ne]
  refine wpAny_bind ?_
  unfold isInstance
  refine wpAny_bind (L0.here (L1.here ?_))
  cases hsig : Manifest.signature? "object.__ne__" with
  | none => exact wpAny_pure hq
  | some sig =>
    simp only [argsOk, hsig] at ha
    have h2 : Bind.checkArgs "object.__ne__" sig ⟨.ref x :: rest, []⟩ = pure () := ha
    show wpAny M A (Bind.checkArgs "object.__ne__" sig ⟨.ref x :: rest, []⟩) Q E _
    rw [h2]; exact wpAny_pure hq
theorem ne_K {b : Value} {tb : Value} {Q : Value → Shared → Prop} (hu : A.units + 1 < cLine) (F0 : Fr h₀ L s.heap mm) (X₀ : K.In h₀) (I : InstAt s.heap x ox C od) (hb : Looks (model prog w) s.heap (typeOf b) tb) (hn : notFirst K C tb = true)
    (hs : findIn K (.ref C) "__ne__" = some (some (.builtin "object.__ne__"))) (hm : mroIn K C (.type "object") = some true) (he : findIn K (.ref C) "__eq__" = some (some (.ref f))) (hf : isFn K (.ref f) = true)
    (h : wpAny (model prog w) A.in1 (call (.ref f) [.ref x, b]) (fun v s' => ∃ t, v = .bool t ∧ Q (.bool (!t)) s') E s) : wpAny (model prog w) A (richCompare .NotEq (.ref x) b) Q E s := by
  have X := X₀.keeps F0.keep
  have one : wpAny (model prog w) A (tryCompare (.ref x) (cmpInfo .NotEq).2.1 b) (fun r s' => ∃ v, r = some v ∧ Q v s') E s := by
    rw [cmpInfo_NotEq]
    unfold tryCompare
    refine wpAny_bind (ifBound_S X I hs F.cmp_object.ne (wpAny_call (codeAny_call_builtin F.cmp_object.ne.plain F.cmpEntry_ne ?_)))
    obtain ⟨hh, g, dr, t, os⟩ := s
    have L0 := I.type (M := model prog w)
    have L1 := looks_mroIn (M := model prog w) X hm
    refine check_K L0 L1 (F.cmpArgs_ne _ _) ?_
    unfold Builtin.«object.__ne__»
    repeat (first
      | with_reducible refine wpAny_cRoomFor (Nat.lt_of_succ_lt hu) ?_
      | with_reducible refine wpAny_cRoomFor (A := A.in1) hu ?_
      | (refine wpAny_bind (m := callSpecialIfBound? (.ref x) (Str.ofString "__eq__") [b]) (ifBound_K X I he hf (wpAny_mono h (fun r s' hr => ?_) fun _ _ e => e)))
      | wp_step)
    obtain ⟨t, rfl, hq⟩ := hr
    refine wpAny_bind (m := truthy (.bool t)) (wpAny_truthy_bool ?_)
    exact wpAny_pure (wpAny_pure ⟨_, rfl, hq⟩)
  unfold richCompare
  simp only [oneThing_ref]
  refine wpAny_holding (wpAny_bind (wpAny_cRoomFor (Nat.lt_of_succ_lt hu) ?_))
  refine wpAny_bind (I.type.here (wpAny_bind (hb.here ?_)))
  split
  · rename_i q
    have e : subIn K tb (.ref C) = some false := by
      rcases Bool.or_eq_true_iff.mp hn with e | e
      · rw [beq_iff_eq.mp e] at q; simp at q
      · exact beq_iff_eq.mp e
    refine wpAny_bind ((looks_subIn X e).here ?_)
    simp only [Bool.false_eq_true, if_false]
    refine wpAny_bind (wpAny_mono one (fun r s' z => ?_) fun _ _ e => e)
    obtain ⟨v, rfl, hq⟩ := z
    exact wpAny_pure hq
  · refine wpAny_bind (wpAny_pure ?_)
    simp only [Bool.false_eq_true, if_false]
    refine wpAny_bind (wpAny_mono one (fun r s' z => ?_) fun _ _ e => e)
    obtain ⟨v, rfl, hq⟩ := z
    exact wpAny_pure hq
end
structure NeC (K : PySem.W.Frag) (C : Addr) : Prop where
  ne : PySem.W.findIn K (.ref C) "__ne__" = some (some (.builtin "object.__ne__"))
  hm : PySem.W.mroIn K C (.type "object") = some true
section
variable {B : Bx} {x y d : D} {m : Mem} {Q : D → Mem → Prop} {C : Addr} {ρ : DE} {P : PD} {fl fl' : List (Str × D)} {k : Nat}
theorem wb_neo (hr : Room (k + 1) B.X.A) (h : InsOf x m C fl) (h' : InsOf y m C fl') (nc : NeC B.X.K C) (hc : CalM1 B C "__eq__" P) (hp : ∃ Xd, P [x, y] m (fun d m' => ∃ t, d = .bl t ∧ Q (.bl (!t)) m') Xd ∧ XOK B Xd) : WB B (compareOp .NotEq) x y m Q := fun G H v u s c r1 r2 Q' kq pins s1 σ v' u' I rv ru => by
  obtain ⟨a, dx, fs, rfl, ha, rf⟩ := insof_get h c r1
  obtain ⟨b, dy, gs, rfl, hb, rg⟩ := insof_get h' c r2
  obtain rfl : v' = Value.ref a := rv
  obtain rfl : u' = Value.ref b := ru
  obtain ⟨g, hm, run⟩ := hc.ex
  obtain ⟨mA, J, _⟩ := ins_get I.hok ha
  obtain ⟨od, J, _⟩ := J.look
  obtain ⟨mB, J2, _⟩ := ins_get I.hok hb
  obtain ⟨od2, J2, _⟩ := J2.look
  obtain ⟨mF, hF⟩ := I.fr
  obtain ⟨Xd, q1, q2⟩ := hp
  refine ne_K (tb := .ref C) hr.in1.units0 hF I.ok.mod.kin J J2.type (by simp [PySem.W.notFirst]) nc.ne nc.hm hm.at_ hm.fn ?_
  refine thn (run pins s1 σ H [.ref a, .ref b] [.ref a, .ref b] [x, y] m G (fun w H2 => ∃ t, w = .bl t ∧ Q' (.bl (!t)) H2) (fun d m' => ∃ t, d = .bl t ∧ Q (.bl (!t)) m') Xd I (.cons rfl (.cons rfl .nil)) s c ⟨_, _, rfl, r1, _, _, rfl, r2, rfl⟩ q1 (fun w d m' G' H' s' c' rd ⟨t, ed, qd⟩ => ?_) (q2.xo s)) fun w s2 ⟨w', H2, I2, rw', t, ew, q3⟩ => ?_
  · subst ed
    obtain rfl : w = .bl t := rd
    exact ⟨t, rfl, kq (.bl (!t)) (.bl (!t)) m' G' H' s' c' rfl qd⟩
  · subst ew
    obtain rfl : w = Value.bool t := rw'
    exact ⟨t, rfl, .bl (!t), H2, I2, rfl, q3⟩
end
end Pd
namespace Pd
open PySem PySem.Spec PyProof.Rows L2
theorem wb_catS {B : Bx} {i j : Str} {m : Mem} {Q : D → Mem → Prop} (hz : i.length + j.length ≤ sizeLine) (q : Q (.str (i ++ j)) m) : WB B (binaryOp .Add) (.str i) (.str j) m Q := wb_of op_add_str fun G H v u c r1 r2 Q' kk => ⟨i, j, r1, r2, hz, c.vp kk (d := .str (i ++ j)) rfl q⟩
end Pd
namespace Pd
open PySem PySem.Spec PyProof.Rows L2
theorem turn_longr {P : Program} {w : World} {K : PySem.W.Frag} {tg : Expr} (it : Addr) (lo : Int) (n : Nat) : Turn P w K tg (Itr lo n) [it] it (fun i h => IsLongIter h it (lo + (i : Nat) * 1) ((n : Int) - (i : Nat)) 1) where
  mem := by simp
  obj := fun i h st b hb => by
    have e : b = it := by simpa using hb
    subst e
    exact ⟨_, st, fun v z => by
      have z' : Data.fields _ = Data.cell v := z
      cases z'⟩
  keep := fun i h h' st k => k it (by simp) _ st
  item := by
    intro X hP hw hK hc i pins s σ H E I hf st hg
    subst hP hw hK
    obtain ⟨f0, f1, f2, f3, f4, f5⟩ := hf it (by simp)
    have W := Walks.longrange (prog := X.prog) (w := X.w) (I.ok.hd hc) it lo 1 n
    refine W.item i s _ _ hg st fun v h' tk hv st' kk => ?_
    obtain ⟨t, rfl⟩ := hv
    have I1 : Inv X pins σ H { s with heap := h', toks := tk } := I.turned (fun b o hb e => kk b o (by simpa using hb) e) f0 f1 f3 f4 f5
    refine ⟨_, rfl, go_of (s := { s with heap := h', toks := tk }) (n := "longrange_iterator") st' rfl rfl (by decide) ⟨.int (lo + i), H, I1, ⟨t, ?_⟩, ⟨rfl, rfl⟩, st', fun b hb => (hf b hb).1⟩⟩
    rw [Int.mul_one]
  done := by
    intro X hP hw hK hc i pins s σ H E I hf st hg
    subst hP hw hK
    obtain ⟨f0, f1, f2, f3, f4, f5⟩ := hf it (by simp)
    exact wpAny_pyNext_long_end (I.ok.hd hc) st (by have : n ≤ i := hg; omega) fun h' eb => ⟨rfl, I.turned (t' := s.toks) (fun b o hb e => eb b o hb e) f0 f1 f3 f4 f5⟩
  self := fun _ _ _ _ _ st h => wpAny_pyIter_longiter st h
theorem range_itX {X : Cx} {tg : Expr} {pins : List (Addr × Obj)} {σ : L2.St} {H : Hp} {s : Shared} {R : It → Hp → Prop} {E : Value → Shared → Prop} {lo hi : Int} {t u v : Tok} {tk : Nat} (I : Inv X pins σ H s)
    (q : R (Itr lo (hi - lo).toNat) H) : wpAny (model X.prog X.w) X.A (pyIter (.ref s.heap.objs.size)) (PIE X pins σ tg R) E { s with heap := s.heap.push { cls := .type "range", data := .fields #[.int lo t, .int hi u, .int 1 v] }, toks := tk } := by
  have I1 : Inv X pins σ H { s with heap := s.heap.push { cls := .type "range", data := .fields #[.int lo t, .int hi u, .int 1 v] }, toks := tk } := I.kept fun b o e => Heap.get?_push_of_some _ e
  have e1 : lo + ((0 : Nat) : Int) * 1 = lo := by simp
  have e2 : (((hi - lo).toNat : Nat) : Int) - ((0 : Nat) : Int) = Builtin.Range.rangeSize lo hi 1 := by rw [rangeSize_one]; split <;> omega
  cases hs : Builtin.Range.small lo hi 1 with
  | true =>
    refine wpAny_pyIter_range (IsRange.new ..) hs ?_
    refine ⟨(s.heap.push { cls := .type "range", data := .fields #[.int lo t, .int hi u, .int 1 v] }).objs.size, [(s.heap.push { cls := .type "range", data := .fields #[.int lo t, .int hi u, .int 1 v] }).objs.size], _, _, H, rfl,
      I1.kept (t' := tk) fun b o e => Heap.get?_push_of_some _ e, turn_range _ lo (hi - lo).toNat, ?_, fun b hb => ?_, q⟩
    · show IsRangeIter _ _ (lo + ((0 : Nat) : Int) * 1) ((((hi - lo).toNat : Nat) : Int) - ((0 : Nat) : Int)) 1
      rw [e1, e2]
      exact Heap.get?_push_size _ rfl
    · have e : b = (s.heap.push { cls := .type "range", data := .fields #[.int lo t, .int hi u, .int 1 v] }).objs.size := by simpa using hb
      subst e
      exact I1.fpOk (Nat.le_refl _) (I1.hok.fresh (Nat.le_refl _))
  | false =>
    refine wpAny_pyIter_longrange (IsRange.new ..) hs ?_
    refine ⟨(s.heap.push { cls := .type "range", data := .fields #[.int lo t, .int hi u, .int 1 v] }).objs.size, [(s.heap.push { cls := .type "range", data := .fields #[.int lo t, .int hi u, .int 1 v] }).objs.size], _, _, H, rfl,
      I1.kept (t' := tk) fun b o e => Heap.get?_push_of_some _ e, turn_longr _ lo (hi - lo).toNat, ?_, fun b hb => ?_, q⟩
    · show IsLongIter _ _ (lo + ((0 : Nat) : Int) * 1) ((((hi - lo).toNat : Nat) : Int) - ((0 : Nat) : Int)) 1
      rw [e1, e2]
      exact Heap.get?_push_size _ rfl
    · have e : b = (s.heap.push { cls := .type "range", data := .fields #[.int lo t, .int hi u, .int 1 v] }).objs.size := by simpa using hb
      subst e
      exact I1.fpOk (Nat.le_refl _) (I1.hok.fresh (Nat.le_refl _))
def iRngX (ta : TA) : TI := fun σ H R => ta σ H fun vs H1 => ∃ i j : Int, vs = [.int i, .int j] ∧ R (Itr i (j - i).toNat) H1
theorem pi_rangeX {X : Cx} {tg a b : Expr} {ta : TA} {p pos : Pos} (hg : Gl X "range") (hm : X.mg "range" = none) (ha : PA X [a, b] ta) (hs : starEach [a, b] X.env = [(false, eval a X.env), (false, eval b X.env)]) (hs2 : starEach [b] X.env = [(false, eval b X.env)]) :
    PI X tg (.Call (.Name "range" p) [a, b] [] pos) (iRngX ta) := by
  refine ⟨fun pins s σ H R I h => ?_⟩
  refine Call_ (ld_blt I hg hm boot_range (PyProof.Rows.callWith_type1 (thn (ha.run pos pins s σ H _ I h) fun us s1 ⟨vs, H1, I1, r1, q1⟩ => ?_) (by rw [hs, hs2]) (by rw [hs2]; rfl)))
  obtain ⟨i, j, e, q⟩ := q1
  subst e
  cases r1 with
  | cons r rr =>
    cases rr with
    | cons r' rr =>
      cases rr
      obtain ⟨t, rfl⟩ := r
      obtain ⟨t', rfl⟩ := r'
      exact call_range_2 (range_itX I1 q)
section
variable {B : Bx} {a b e tg : Expr} {ρ : DE} {m : Mem} {R : RR} {body : List Stmt} {pos p2 p : Pos}
theorem ws_for_r2 (k : Bok B) (h0 : Bt B "range" "range")
    (h : WE B a ρ m fun x m1 => Pd.WE B b ρ m1 fun y m2 => ∃ i j : Int, x = .int i ∧ y = .int j ∧ forD B tg body R (rngD i (j - i).toNat) ρ m2) (h1 : starEach [a, b] B.X.env = (false, eval a B.X.env) :: starEach [b] B.X.env) (h2 : starEach [b] B.X.env = (false, eval b B.X.env) :: starEach [] B.X.env)
    (hs1 : starEach [a, b] B.X.env = [(false, eval a B.X.env), (false, eval b B.X.env)]) (hs2 : starEach [b] B.X.env = [(false, eval b B.X.env)])
    (hs : ∀ x, foldedSetIterable (.Call (.Name "range" p) [a, b] [] p2) B.X.env x = pure x) : WS B (.For tg (.Call (.Name "range" p) [a, b] [] p2) body [] pos) ρ m R := fun G σ H s r c D kk => by
  refine tsX_of (ps_for k.pss k.calm (pi_rangeX h0.g h0.m (pa_cons (peX a) (pa_cons (peX b) pa_nil h2) h1) hs1 hs2) (pgX tg) (pssX body) hs) ?_
  refine h G σ H s r c _ fun v d m1 G1 H1 s1 c1 r1 q => ?_
  refine q G1 σ H1 (s.trans s1) (r.sub s1) c1 _ fun v2 d2 m2 G2 H2 s2 c2 r2 ⟨i, j, e1, e2, fin⟩ => ?_
  subst e1 e2
  obtain rfl : v = .int i := r1
  obtain rfl : v2 = .int j := r2
  have s12 := s1.trans s2
  refine ⟨i, j, rfl, for_range (lo := i) (n := (j - i).toNat) (fun q σ' H' => ∃ ρ' m' G', Sub G2 G' ∧ RepE B.X.K B.X.N.length G' σ' ρ' ∧ Cur B.X.K G' m' H' ∧ forD B tg body R ((rngD i (j - i).toNat).drop q) ρ' m')
    ⟨ρ, m2, G2, Sub.refl _, r.sub s12, c2, by rw [List.drop_zero]; exact fin⟩ (fun q σ' H' hx ⟨ρ', m', G', s2, r2, c2, w⟩ => ?_) fun σ' H' ⟨ρ', m', G', s2, r2, c2, w⟩ => ?_⟩
  · rw [drop_get (rngD_get hx)] at w
    exact turn_ok w ((s.trans s12).trans s2) r2 c2 (show Rep B.X.K G' (.int (i + (q : Nat))) (.int (i + (q : Nat))) from rfl) (kk.sub (s12.trans s2)) _ fun σ3 ρ3 m3 G3 H3 s3 r3 c3 w3 => ⟨ρ3, m3, G3, s2.trans s3, r3, c3, w3⟩
  · have e : (rngD i (j - i).toNat).drop (j - i).toNat = [] := List.drop_of_length_le (by rw [rngD_len]; exact Nat.le_refl _)
    rw [e] at w
    exact kk.nx σ' ρ' m' G' H' (s12.trans s2) r2 c2 w
end
end Pd
namespace Pd
open PySem PySem.Spec PyProof.Rows L2
def Lv (x : D) (m : Mem) (l : List D) : Prop := x = .lst l ∨ ∃ p, x = .ref p ∧ m p = some (.lst l)
def Sv (x : D) (m : Mem) (l : List D) : Prop := Lv x m l ∨ x = .tup l
def NewL (Q : D → Mem → Prop) (l : List D) (m : Mem) : Prop := Q (.lst l) m ∨ ∀ p, m p = none → Q (.ref p) (mset m p (.lst l))
section
variable {B : Bx} {a b e tg : Expr} {x y d : D} {ρ : DE} {m : Mem} {Q : D → Mem → Prop} {R : RR} {body : List Stmt} {pos p2 p3 : Pos} {l k : List D} {i : Int}
theorem lv_get {K : PySem.W.Frag} {G H : Hp} {v : V} (h : Lv x m l) (c : Cur K G m H) (r : Rep K G x v) : ∃ p xs, v = .ref p ∧ SqL K H p xs ∧ Reps K G l xs := by
  rcases h with rfl | ⟨p, rfl, hm⟩
  · obtain ⟨p, xs, rfl, hq, rx⟩ := r
    exact ⟨p, xs, rfl, SqL.sub c.ex hq, rx⟩
  · obtain ⟨_, o, ho, xs, rfl, rx⟩ := c.mm p _ hm
    exact ⟨p, xs, r, SqL.of ho, rx⟩
theorem newl_ok {K : PySem.W.Frag} {G H : Hp} {xs : List V} {Q' : VK} (kq : VP K G Q Q') (c : Cur K G m H) (rx : Reps K G l xs) (q : NewL Q l m) : ∀ p, H p = none → Q' (.ref p) (upd H p (.lst xs)) := fun p hp => by
  rcases q with q | q
  · have sb := sub_upd (o := .lst xs) (c.none hp).1
    exact kq (.ref p) (.lst l) m _ _ sb (c.new hp) ⟨p, _, rfl, SqL.of upd_same, Reps.sub sb _ _ rx⟩ q
  · exact kq (.ref p) (.ref p) _ _ _ (Sub.refl G) (c.newM hp (u := .lst l) ⟨_, rfl, rx⟩) rfl (q p (c.none hp).2)
theorem wi_lv (h : Lv x m l) (hd : atI l i = some d) (q : Q d m) : WI B x (.int i) m Q := by
  rcases h with rfl | ⟨p, rfl, hm⟩
  · exact wi_list hd q
  · exact wi_mut hm hd q
theorem wc_lenV (h : Sv x m l) (q : Q (.int l.length) m) : WC B (.builtin "len") [x] m Q := by
  rcases h with (rfl | ⟨p, rfl, hm⟩) | rfl
  · exact wc_lenL q
  · exact wc_lenM hm q
  · exact wc_lenT q
theorem wb_catV (h : Lv x m l) (h' : Lv y m k) (hz : l.length + k.length ≤ sizeLine) (q : NewL Q (l ++ k) m) : WB B (binaryOp .Add) x y m Q := wb_of op_catQ fun G H v u c r1 r2 Q' kk => by
  obtain ⟨p1, xs, rfl, h1, a1⟩ := lv_get h c r1
  obtain ⟨p2, ys, rfl, h2, a2⟩ := lv_get h' c r2
  exact ⟨p1, p2, xs, ys, rfl, rfl, h1, h2, by rw [reps_len a1, reps_len a2]; exact hz, newl_ok kk c (reps_app a1 a2) q⟩
theorem we_cutV0 {hi : Expr} (h : WE B e ρ m fun x m1 => Pd.WE B hi ρ m1 fun y m2 => ∃ l i, Lv x m2 l ∧ y = .int i ∧ NewL Q (cutD l none (some i)) m2) : WE B (.Subscript e (.Slice none (some hi) none p2) pos) ρ m Q := fun G σ H s r c Q' k => by
  refine teX_of (pe_slice sl_list (peX e) po_none (po_some (peX hi))) ?_
  refine h G σ H s r c _ fun v x m1 G1 H1 s1 c1 r1 q0 => ?_
  refine q0 G1 σ H1 (s.trans s1) (r.sub s1) c1 _ fun u y m2 G2 H2 s2 c2 r2 ⟨l, i, hl, ey, q⟩ => ?_
  subst ey
  obtain ⟨p, xs, rfl, hq, rx⟩ := lv_get hl c2 (Rep.sub s2 _ _ r1)
  exact ⟨i, r2, p, xs, rfl, hq, newl_ok (k.sub (s1.trans s2)) c2 (reps_cut _ _ rx) q⟩
theorem we_cutV1 {lo : Expr} (h : WE B e ρ m fun x m1 => Pd.WE B lo ρ m1 fun y m2 => ∃ l i, Lv x m2 l ∧ y = .int i ∧ NewL Q (cutD l (some i) none) m2) : WE B (.Subscript e (.Slice (some lo) none none p2) pos) ρ m Q := fun G σ H s r c Q' k => by
  refine teX_of (pe_slice sl_list (peX e) (po_some (peX lo)) po_none) ?_
  refine h G σ H s r c _ fun v x m1 G1 H1 s1 c1 r1 q0 => ?_
  refine q0 G1 σ H1 (s.trans s1) (r.sub s1) c1 _ fun u y m2 G2 H2 s2 c2 r2 ⟨l, i, hl, ey, q⟩ => ?_
  subst ey
  obtain ⟨p, xs, rfl, hq, rx⟩ := lv_get hl c2 (Rep.sub s2 _ _ r1)
  exact ⟨i, r2, p, xs, rfl, hq, newl_ok (k.sub (s1.trans s2)) c2 (reps_cut _ _ rx) q⟩
theorem reps_rev {K : PySem.W.Frag} {G : Hp} : ∀ {l : List D} {xs : List V}, Reps K G l xs → Reps K G l.reverse xs.reverse
  | [], xs, h => by obtain rfl := h; exact rfl
  | _ :: _, _, ⟨x, t, e, ha, ht⟩ => by
    subst e
    rw [List.reverse_cons, List.reverse_cons]
    exact reps_app (reps_rev ht) ⟨x, [], rfl, ha, rfl⟩
theorem we_revV {n : Nat} {q1 q2 : Pos} (h : WE B e ρ m fun x m1 => ∃ l, Lv x m1 l ∧ NewL Q l.reverse m1) : WE B (.Subscript e (.Slice none none (some (.UnaryOp .USub (.Constant (.int 1) n q1) q2)) p3) pos) ρ m Q := fun G σ H s r c Q' k => by
  refine teX_of (pe_revL (peX e)) ?_
  refine h G σ H s r c _ fun v x m1 G1 H1 s1 c1 r1 ⟨l, hl, q⟩ => ?_
  obtain ⟨p, xs, rfl, hq, rx⟩ := lv_get hl c1 r1
  exact ⟨p, xs, rfl, hq, newl_ok (k.sub s1) c1 (reps_rev rx) q⟩
theorem wc_tupleV (h : Lv x m l) (q : Q (.tup l) m) : WC B (.type "tuple") [x] m Q := wc_of call_tuple_of fun G H vs c rd Q' k => by
  obtain ⟨v, rfl, r⟩ := rep1 rd
  obtain ⟨p, xs, rfl, hq, rx⟩ := lv_get h c r
  refine ⟨p, xs, rfl, .inl ⟨hq, fun t ht => ?_⟩⟩
  have sb := sub_upd (o := .tup xs) (c.none ht).1
  exact k (.ref t) (.tup l) m _ _ sb (c.new ht) ⟨t, _, rfl, SqT.of upd_same, Reps.sub sb _ _ rx⟩ q
theorem wc_min2 {j : Int} (hc : B.X.calm = true) (q : Q (.int (if j < i then j else i)) m) : WC B (.builtin "min") [.int i, .int j] m Q := wc_of (call_min2 hc) fun G H vs c rd Q' k => by
  obtain ⟨v, u, rfl, r1, r2⟩ := rep2 rd
  exact ⟨i, j, by rw [show v = V.int i from r1, show u = V.int j from r2], c.vp k (d := .int _) rfl q⟩
theorem ws_for_lm (k : Bok B) {p : Addr} {l : List D} (J : Nat → DE → Mem → Prop) (h : WE B e ρ m fun d m1 => d = .ref p ∧ J 0 ρ m1) (hJ : ∀ i ρ m, J i ρ m → m p = some (.lst l))
    (hb : ∀ i d ρ m, l[i]? = some d → J i ρ m → WG B tg d ρ m fun ρ1 m1 => WSs B body ρ1 m1 { nx := J (i + 1), rt := R.rt, bk := R.nx, ct := J (i + 1) }) (h0 : ∀ ρ m, J l.length ρ m → R.nx ρ m)
    (hs : ∀ x, foldedSetIterable e B.X.env x = pure x) : WS B (.For tg e body [] pos) ρ m R := fun G σ H s r c D kk => by
  refine tsX_of (ps_for k.pss k.calm (pi_list (peX e)) (pgX tg) (pssX body) hs) ?_
  refine h G σ H s r c _ fun v d m1 G1 H1 s1 c1 r1 ⟨ed, q⟩ => ?_
  subst ed
  obtain rfl : v = .ref p := r1
  have now : ∀ i ρ' m' G' H', Cur B.X.K G' m' H' → J i ρ' m' → ∃ xs, SqL B.X.K H' p xs ∧ Reps B.X.K G' l xs := fun i ρ' m' G' H' c' j => by
    obtain ⟨_, o, ho, xs, rfl, rx⟩ := c'.mm p _ (hJ i ρ' m' j)
    exact ⟨xs, SqL.of ho, rx⟩
  obtain ⟨xs0, hq0, _⟩ := now 0 ρ m1 G1 H1 c1 q
  refine ⟨p, rfl, ⟨xs0, hq0⟩, fun i n σ' H' => n = l.length - i ∧ i ≤ l.length ∧ ∃ ρ' m' G', Sub G1 G' ∧ RepE B.X.K B.X.N.length G' σ' ρ' ∧ Cur B.X.K G' m' H' ∧ J i ρ' m', ⟨l.length, by simp, Nat.zero_le _, ρ, m1, G1, Sub.refl _, r.sub s1, c1, q⟩, ?_⟩
  rintro i n σ' H' ⟨rfl, hi, ρ', m', G', s2, r2, c2, w⟩
  obtain ⟨xs, hq, rx⟩ := now i ρ' m' G' H' c2 w
  have hl := reps_len rx
  by_cases hlt : i < l.length
  · refine .inr ⟨⟨xs, xs[i]'(by omega), hq, by simp [hl, hlt]⟩, fun σ3 H3 => ∃ ρ3 m3 G3, Sub G1 G3 ∧ RepE B.X.K B.X.N.length G3 σ3 ρ3 ∧ Cur B.X.K G3 m3 H3 ∧ J (i + 1) ρ3 m3, fun σ3 H3 p3 => ⟨l.length - (i + 1), by omega, rfl, hlt, p3⟩, fun x H3 y => ?_⟩
    obtain ⟨e3, y⟩ := y
    subst e3
    have hx := y xs hq
    obtain ⟨d, hd, rd⟩ := reps_get rx hx
    refine hb i d ρ' m' hd w G' σ' _ x ((s.trans s1).trans s2) r2 c2 rd _ fun σ4 ρ4 m4 G4 H4 s4 r4 c4 q4 => ?_
    have hT : NP B.X.K B.X.N.length G' (J (i + 1)) (fun σ3 H3 => ∃ ρ3 m3 G3, Sub G1 G3 ∧ RepE B.X.K B.X.N.length G3 σ3 ρ3 ∧ Cur B.X.K G3 m3 H3 ∧ J (i + 1) ρ3 m3) := fun σ5 ρ5 m5 G5 H5 s5 r5 c5 q5 => ⟨ρ5, m5, G5, s2.trans s5, r5, c5, q5⟩
    have k4 := kk.sub ((s1.trans s2).trans s4)
    exact q4 G4 σ4 H4 (((s.trans s1).trans s2).trans s4) r4 c4 _ ⟨hT.sub s4, k4.rt, k4.nx, hT.sub s4⟩
  · have e : i = l.length := by omega
    subst e
    exact .inl ⟨⟨xs, hq, by omega⟩, kk.nx σ' ρ' m' G' H' (s1.trans s2) r2 c2 (h0 ρ' m' w)⟩
theorem forD_rng2 {lo : Int} {n : Nat} (J : Nat → DE → Mem → Prop) (h : ∀ i ρ m, i < n → J i ρ m → WG B tg (.int (lo + (i : Nat))) ρ m fun ρ1 m1 => WSs B body ρ1 m1 { nx := J (i + 1), rt := R.rt, bk := R.nx, ct := J (i + 1) }) (h0 : ∀ ρ m, J n ρ m → R.nx ρ m) (hi : J 0 ρ m) : forD B tg body R (rngD lo n) ρ m := by
  refine forD_at _ J (fun i d ρ m hd hj => ?_) (fun ρ m hj => h0 ρ m (by rw [rngD_len] at hj; exact hj)) hi
  have hl : i < n := by
    have := (List.getElem?_eq_some_iff.mp hd).1
    rw [rngD_len] at this
    exact this
  rw [rngD_get hl] at hd
  cases hd
  exact h i ρ m hl hj
end
end Pd
namespace Pd
open PySem PySem.Spec PyProof.Rows L2
theorem boot_min' : bootBuiltins "min" = some (.builtin "min") := by decide +kernel
theorem boot_max' : bootBuiltins "max" = some (.builtin "max") := by decide +kernel
theorem mdel_same {m : Mem} {p : Addr} : mdel m p p = none := if_pos rfl
theorem mdel_ne {m : Mem} {p q : Addr} (h : q ≠ p) : mdel m p q = m q := if_neg h
theorem mset_mdel {m : Mem} {p : Addr} {o : MO} (h : m p = some o) : mset (mdel m p) p o = m := by
  funext b
  unfold mset mdel
  by_cases e : b = p
  · subst e; rw [if_pos rfl]; exact h.symm
  · rw [if_neg e, if_neg e]
def Kq (m m' : Mem) (p : Addr) : Prop := ∀ q o, q ≠ p → m q = some o → m' q = some o
theorem Kq.refl (m : Mem) (p : Addr) : Kq m m p := fun _ _ _ e => e
theorem Kq.trans {m m1 m2 : Mem} {p : Addr} (a : Kq m m1 p) (b : Kq m1 m2 p) : Kq m m2 p := fun q o h e => b q o h (a q o h e)
theorem Kq.new {m m1 : Mem} {p q : Addr} {o : MO} (a : Kq m m1 p) (h : m1 q = none) : Kq m (mset m1 q o) p := fun r u hr e => by
  have e1 := a r u hr e
  have ne : r ≠ q := fun z => by rw [z, h] at e1; cases e1
  rw [mset_ne ne]; exact e1
theorem Kq.set {m m1 : Mem} {p q : Addr} {o : MO} (a : Kq m m1 p) (h : m q = none) : Kq m (mset m1 q o) p := fun r u hr e => by
  have ne : r ≠ q := fun z => by rw [z, h] at e; cases e
  rw [mset_ne ne]; exact a r u hr e
theorem Kq.del {m m1 : Mem} {p q : Addr} (a : Kq m m1 p) (h : m q = none) : Kq m (mdel m1 q) p := fun r u hr e => by
  have ne : r ≠ q := fun z => by rw [z, h] at e; cases e
  rw [mdel_ne ne]; exact a r u hr e
theorem Kq.none {m m1 : Mem} {p q : Addr} (a : Kq m m1 p) (hp : q ≠ p) (h : m1 q = none) : m q = none := by
  cases e : m q with
  | none => rfl
  | some o => rw [a q o hp e] at h; cases h
end Pd
namespace Pd
open PySem PySem.Spec PyProof.Rows L2
theorem cut_take {l : List D} {a : Int} (h0 : 0 ≤ a) (h1 : a ≤ l.length) : cutD l none (some a) = l.take a.toNat := by
  unfold cutD
  have e1 : HT.sIx l.length 0 none = 0 := rfl
  have e2 : HT.sIx l.length l.length (some a) = a.toNat := by
    show (if a < 0 then (a + (l.length : Int)).toNat else min a.toNat l.length) = a.toNat
    rw [if_neg (by omega)]; omega
  rw [e1, e2, List.drop_zero, Nat.sub_zero]
theorem cut_drop {l : List D} {a : Int} (h0 : 0 ≤ a) (h1 : a ≤ l.length) : cutD l (some a) none = l.drop a.toNat := by
  unfold cutD
  have e1 : HT.sIx l.length l.length none = l.length := rfl
  have e2 : HT.sIx l.length 0 (some a) = a.toNat := by
    show (if a < 0 then (a + (l.length : Int)).toNat else min a.toNat l.length) = a.toNat
    rw [if_neg (by omega)]; omega
  rw [e1, e2, List.take_of_length_le (by rw [List.length_drop]; exact Nat.le_refl _)]
end Pd
namespace Pd
open PySem PySem.Spec PyProof.Rows L2
section
variable {I : Bx → Prop} {elt : Expr} {j : Nat} {ρ : DE} {m : Mem} {Q : D → Mem → Prop}
theorem lcD_pureM {p : Addr} (ds : List D) (f : D → D) (hp : m p = none) (hn : ds.length ≤ sizeLine) (h : ∀ d, d ∈ ds → ∀ B', I B' → ∀ m', (∀ q o, m q = some o → m' q = some o) → Pd.WE B' elt ((j, d) :: ρ) m' fun y m2 => m2 = m' ∧ y = f d)
    (h0 : Q (.ref p) (mset m p (.lst (ds.map f)))) : lcD I elt [] j ρ Q p ds [] (mset m p (.lst [])) := by
  refine lcD_atM ds (fun i acc m' => acc = (ds.take i).map f ∧ m' = mset m p (.lst acc)) hn ?_ ?_ ⟨rfl, rfl⟩
  · rintro i d acc m' hd ha ⟨e, rfl⟩ hm B' hB
    have keep : ∀ q o, m q = some o → mset m p (.lst acc) q = some o := fun q o hq => by
      rw [mset_ne (fun z => by rw [z, hp] at hq; cases hq)]; exact hq
    refine (h d (List.mem_of_getElem? hd) B' hB _ keep).mono fun y m2 ⟨e1, e2⟩ => ?_
    subst e1 e2
    refine ⟨mset_same, ?_, mset_mset⟩
    obtain ⟨hl, rfl⟩ := List.getElem?_eq_some_iff.mp hd
    rw [e, List.take_succ_eq_append_getElem hl, List.map_append]; rfl
  · rintro acc m' ha ⟨e, rfl⟩ hm
    rw [List.take_length] at e
    rw [e]
    exact h0
end
end Pd
namespace Pd
open PySem PySem.Spec PyProof.Rows L2
theorem rev_fix {Q : D → Mem → Prop} {x : D} {m : Mem} {l : List D} (h : Lv x m l) (q : Q (.lst l.reverse) m) : ∃ l, Lv x m l ∧ NewL Q l.reverse m := ⟨l, h, .inl q⟩
end Pd
namespace Pd
open PySem PySem.Spec PyProof.Rows L2
theorem cut0_fix {Q : D → Mem → Prop} {x : D} {m : Mem} {l : List D} {i : Int} (h : Lv x m l) (q : Q (.lst (cutD l none (some i))) m) : ∃ l j, Lv x m l ∧ D.int i = D.int j ∧ NewL Q (cutD l none (some j)) m := ⟨l, i, h, rfl, .inl q⟩
theorem cut1_fix {Q : D → Mem → Prop} {x : D} {m : Mem} {l : List D} {i : Int} (h : Lv x m l) (q : Q (.lst (cutD l (some i) none)) m) : ∃ l j, Lv x m l ∧ D.int i = D.int j ∧ NewL Q (cutD l (some j) none) m := ⟨l, i, h, rfl, .inl q⟩
end Pd
namespace Pd
open PySem PySem.Spec PyProof.Rows L2
abbrev GRow := Int × Int
abbrev rowD (r : GRow) : D := .tup [.int r.1, .int r.2]
def hitR (r : GRow) (t : Int) : Bool := decide ((t - r.2) % r.1 = 0)
def hitB (rs : List GRow) (t : Int) : Bool := rs.any fun r => hitR r t
def Pos1 (rs : List GRow) : Prop := ∀ r ∈ rs, 0 < r.1
theorem map_get {α β : Type} {l : List α} {f : α → β} {i : Nat} {d : β} (h : (l.map f)[i]? = some d) : ∃ a, l[i]? = some a ∧ d = f a := by
  rw [List.getElem?_map] at h
  cases e : l[i]? with
  | none => rw [e] at h; cases h
  | some a => rw [e] at h; cases h; exact ⟨a, rfl, rfl⟩
theorem hit_yes {rs : List GRow} {t : Int} {r : GRow} {i : Nat} (h : rs[i]? = some r) (k : hitR r t = true) : hitB rs t = true := List.any_eq_true.mpr ⟨r, List.mem_of_getElem? h, k⟩
theorem hit_no {rs : List GRow} {t : Int} (h : ∀ r ∈ rs, hitR r t = false) : hitB rs t = false := by
  unfold hitB
  rw [List.any_eq_false]
  intro r hr
  rw [h r hr]; decide
theorem take_no {rs : List GRow} {t : Int} {i : Nat} {r : GRow} (h : ∀ x ∈ rs.take i, hitR x t = false) (hi : rs[i]? = some r) (k : hitR r t = false) : ∀ x ∈ rs.take (i + 1), hitR x t = false := by
  obtain ⟨hl, rfl⟩ := List.getElem?_eq_some_iff.mp hi
  rw [List.take_succ_eq_append_getElem hl]
  intro x hx
  rcases List.mem_append.mp hx with hx | hx
  · exact h x hx
  · rw [List.mem_singleton.mp hx]; exact k
def Rws (n : Nat) (rs : List GRow) : Prop := ∀ r ∈ rs, 0 < r.1 ∧ Sz n r.1 ∧ Sz n r.2
theorem rws_nil {n : Nat} : Rws n [] := fun r h => by cases h
theorem rws_app {n : Nat} {rs ss : List GRow} (h : Rws n rs) (k : Rws n ss) : Rws n (rs ++ ss) := fun r hr => (List.mem_append.mp hr).elim (h r) (k r)
theorem rws_one {n : Nat} {s o : Int} (h0 : 0 < s) (h1 : Sz n s) (h2 : Sz n o) : Rws n [(s, o)] := fun r hr => by rw [List.mem_singleton.mp hr]; exact ⟨h0, h1, h2⟩
theorem rws_sub {n : Nat} {rs ss : List GRow} (h : Rws n rs) (k : ∀ r ∈ ss, r ∈ rs) : Rws n ss := fun r hr => h r (k r hr)
theorem Rws.mono {n k : Nat} {rs : List GRow} (h : Rws n rs) (hk : n ≤ k) : Rws k rs := fun r hr => ⟨(h r hr).1, (h r hr).2.1.mono hk, (h r hr).2.2.mono hk⟩
theorem Rws.pos {n : Nat} {rs : List GRow} (h : Rws n rs) : Pos1 rs := fun r hr => (h r hr).1
theorem map_app1 {rs : List GRow} {s o : Int} : rs.map rowD ++ [.tup [.int s, .int o]] = (rs ++ [(s, o)]).map rowD := by rw [List.map_append]; rfl
theorem sz_dbl {n : Nat} {x : Int} (h : Sz n x) : Sz (n + 1) (x * 2) := by
  unfold Sz at *; rw [Nat.pow_succ]; omega
theorem atI_rows {rs : List GRow} {a : Int} (h0 : 0 ≤ a) (h1 : a < rs.length) : ∃ r, r ∈ rs ∧ rs[a.toNat]? = some r ∧ atI (rs.map rowD) a = some (rowD r) := by
  have hj : a.toNat < rs.length := by omega
  refine ⟨rs[a.toNat], List.getElem_mem hj, List.getElem?_eq_getElem hj, ?_⟩
  have e : a = ((a.toNat : Nat) : Int) := by omega
  have e2 : (rs.map rowD)[a.toNat]? = some (rowD rs[a.toNat]) := by rw [List.getElem?_map, List.getElem?_eq_getElem hj]; rfl
  exact (congrArg (fun z => atI (rs.map rowD) z) e).trans (atI_nat e2)
def splitR (old : GRow) (n : Int) : List GRow := (List.range n.toNat).map fun k => (old.1 * n, old.2 + old.1 * (0 + (k : Nat)))
theorem split_len {old : GRow} {n : Int} : (splitR old n).length = n.toNat := by simp [splitR]
def splitF (old : GRow) (n : Int) : D → D
  | .int k => rowD (old.1 * n, old.2 + old.1 * k)
  | _ => .non
theorem split_map {old : GRow} {n : Int} : (rngD 0 n.toNat).map (splitF old n) = (splitR old n).map rowD := by
  unfold rngD splitR
  rw [List.map_map, List.map_map]; rfl
theorem split_rws {old : GRow} {n : Int} {b : Nat} (h0 : 0 < n) (h1 : n ≤ 5) (h : 0 < old.1 ∧ Sz b old.1 ∧ Sz b old.2) : Rws (b + 4) (splitR old n) := by
  obtain ⟨a0, a1, a2⟩ := h
  intro r hr
  obtain ⟨k, hk, rfl⟩ := List.mem_map.mp hr
  have hk := List.mem_range.mp hk
  have z := sz_mul a1 (show Sz 3 (0 + (k : Int)) by unfold Sz; omega)
  refine ⟨Int.mul_pos a0 h0, (sz_mul a1 (show Sz 3 n by unfold Sz; omega)).mono (by omega), ?_⟩
  exact (sz_add a2 z).mono (by omega)
def Good (rs : List GRow) : Prop := ∀ r ∈ rs, 0 < r.1 ∧ 0 ≤ r.2 ∧ r.2 < r.1 ∧ Sz 1340 r.1
theorem Good.pos {rs : List GRow} (h : Good rs) : Pos1 rs := fun r hr => (h r hr).1
def normR (sh : Int) (rs : List GRow) : List GRow := rs.map fun r => (r.1, (r.2 + sh) % r.1)
theorem norm_good {sh : Int} {n : Nat} {rs : List GRow} (hn : n ≤ 1340) (h : Rws n rs) : Good (normR sh rs) := fun r hr => by
  obtain ⟨x, hx, rfl⟩ := List.mem_map.mp hr
  obtain ⟨a, b, _⟩ := h x hx
  exact ⟨a, Int.emod_nonneg _ (by omega), Int.emod_lt_of_pos _ a, b.mono hn⟩
def normF (sh : Int) : D → D
  | .tup [.int s, .int o] => rowD (s, (o + sh) % s)
  | _ => .non
theorem norm_map {sh : Int} {rs : List GRow} : (rs.map rowD).map (normF sh) = (normR sh rs).map rowD := by
  unfold normR
  rw [List.map_map, List.map_map]; rfl
def scaleR (u sh : Int) (rs : List GRow) : List GRow := rs.map fun r => (r.1 * u, r.2 * u + sh)
def scaleF (u sh : Int) : D → D
  | .tup [.int s, .int o] => rowD (s * u, o * u + sh)
  | _ => .non
theorem scale_map {u sh : Int} {rs : List GRow} : (rs.map rowD).map (scaleF u sh) = (scaleR u sh rs).map rowD := by
  unfold scaleR
  rw [List.map_map, List.map_map]; rfl
theorem scale_rws {u sh : Int} {rs : List GRow} (h0 : 0 < u) (h1 : Sz 101 u) (h2 : Sz 101 sh) (h : Rws 30 rs) : Rws 140 (scaleR u sh rs) := fun r hr => by
  obtain ⟨x, hx, rfl⟩ := List.mem_map.mp hr
  obtain ⟨a, b, c⟩ := h x hx
  exact ⟨Int.mul_pos a h0, (sz_mul b h1).mono (by decide), (sz_add (sz_mul c h1) h2).mono (by decide)⟩
def gapN (rs : List GRow) (t : Int) : Option Nat := (List.range 64).find? fun k => !hitB rs (t + (k : Nat))
def gapD (rs : List GRow) (t : Int) : D := match gapN rs t with
  | some k => .int (t + (k : Nat))
  | none => .non
theorem gap_some {rs : List GRow} {t : Int} {k : Nat} (hk : k < 64) (h : hitB rs (t + (k : Nat)) = false) (h2 : ∀ j < k, hitB rs (t + (j : Nat)) = true) : gapD rs t = .int (t + (k : Nat)) := by
  have e : gapN rs t = some k := by
    unfold gapN
    rw [List.find?_range_eq_some]
    exact ⟨by simp [h], List.mem_range.mpr hk, fun j hj => by simp [h2 j hj]⟩
  unfold gapD
  rw [e]
theorem gap_none {rs : List GRow} {t : Int} (h2 : ∀ j < 64, hitB rs (t + (j : Nat)) = true) : gapD rs t = .non := by
  have e : gapN rs t = none := by
    unfold gapN
    rw [List.find?_range_eq_none]
    intro j hj
    simp [h2 j hj]
  unfold gapD
  rw [e]
theorem gap_cases (rs : List GRow) (t : Int) : gapD rs t = .non ∨ ∃ v, gapD rs t = .int v ∧ hitB rs v = false := by
  unfold gapD
  cases e : gapN rs t with
  | none => exact .inl rfl
  | some k =>
    unfold gapN at e
    rw [List.find?_range_eq_some] at e
    exact .inr ⟨_, rfl, by simpa using e.1⟩
theorem gap_here {rs : List GRow} {t : Int} (h : hitB rs t = false) : gapD rs t = .int t := by
  have := gap_some (rs := rs) (t := t) (k := 0) (by decide) (by simpa using h) (fun j hj => absurd hj (Nat.not_lt_zero j))
  simpa using this
theorem gap_nil {t : Int} : gapD [] t = .int t := gap_here rfl
end Pd
namespace Pd
open PySem PySem.Spec PyProof.Rows L2
abbrev Yv := Nat → Int
def ysub (y e : Yv) : Yv := fun i => y i - e i
def ytl (y : Yv) : Yv := fun i => y (i + 1)
def ycons (c : Int) (e : Yv) : Yv
  | 0 => c
  | i + 1 => e i
inductive EX : Nat → (Int → Yv → Int) → Prop where
  | zero {F : Int → Yv → Int} (h : ∀ x y, F x y = 0) : EX 0 F
  | succ {n : Nat} {F F' T : Int → Yv → Int} {e : Yv} (h : EX n F') (ht : ∀ x y, T (x + 1) y = T x (ysub y e)) (hf : ∀ x y, F x y = T x y + F' x y) : EX (n + 1) F
theorem ysub_comm (y e f : Yv) : ysub (ysub y e) f = ysub (ysub y f) e := by
  funext i; show y i - e i - f i = y i - f i - e i; omega
theorem EX.diff {n : Nat} {F : Int → Yv → Int} (h : EX n F) (e : Yv) : EX n (fun x y => F (x + 1) y - F x (ysub y e)) := by
  induction h with
  | zero h => exact .zero fun x y => by rw [h, h]; rfl
  | succ h ht hf ih =>
    rename_i n F F' T e'
    refine .succ (F' := fun x y => F' (x + 1) y - F' x (ysub y e)) (T := fun x y => T (x + 1) y - T x (ysub y e)) (e := e') ih (fun x y => ?_) fun x y => ?_
    · show T (x + 1 + 1) y - T (x + 1) (ysub y e) = T (x + 1) (ysub y e') - T x (ysub (ysub y e') e)
      rw [ht (x + 1) y, ht x (ysub y e), ysub_comm]
    · show F (x + 1) y - F x (ysub y e) = T (x + 1) y - T x (ysub y e) + (F' (x + 1) y - F' x (ysub y e))
      rw [hf, hf]; omega
theorem EX.congr {n : Nat} {F G : Int → Yv → Int} (h : EX n F) (e : ∀ x y, G x y = F x y) : EX n G := by
  cases h with
  | zero h => exact .zero fun x y => by rw [e, h]
  | succ h ht hf => exact .succ h ht fun x y => by rw [e, hf]
theorem EX.van {n : Nat} : ∀ {F : Int → Yv → Int}, EX n F → ∀ t : Int, (∀ i : Nat, i < n → ∀ y, F (t + i) y = 0) → ∀ x y, F x y = 0 := by
  induction n with
  | zero =>
    intro F h t _ x y
    cases h with
    | zero h => exact h x y
  | succ n ih =>
    intro F h t hz
    have hd := h
    cases h with
    | succ h ht hf =>
      rename_i F' T e
      have hG : EX n (fun x y => F (x + 1) y - F x (ysub y e)) := by
        refine (h.diff e).congr fun x y => ?_
        show F (x + 1) y - F x (ysub y e) = F' (x + 1) y - F' x (ysub y e)
        rw [hf, hf, ht]; omega
      have g0 := ih hG t fun i hi y => by
        show F (t + i + 1) y - F (t + i) (ysub y e) = 0
        have a := hz (i + 1) (by omega) y
        have b := hz i (by omega) (ysub y e)
        rw [show t + ((i + 1 : Nat) : Int) = t + i + 1 by omega] at a
        rw [a, b]; rfl
      have stp : ∀ x y, F (x + 1) y = F x (ysub y e) := fun x y => by
        have := g0 x y
        omega
      have base : ∀ y, F t y = 0 := fun y => by have := hz 0 (by omega) y; simpa using this
      have up : ∀ (k : Nat) y, F (t + k) y = 0 := by
        intro k
        induction k with
        | zero => intro y; simpa using base y
        | succ k ih => intro y; rw [show t + ((k + 1 : Nat) : Int) = t + k + 1 by omega, stp]; exact ih _
      have dn : ∀ (k : Nat) y, F (t - k) y = 0 := by
        intro k
        induction k with
        | zero => intro y; simpa using base y
        | succ k ih =>
          intro y
          have a := stp (t - ((k + 1 : Nat) : Int)) (fun i => y i + e i)
          have ey : ysub (fun i => y i + e i) e = y := by funext i; show y i + e i - e i = y i; omega
          rw [ey, show t - ((k + 1 : Nat) : Int) + 1 = t - k by omega] at a
          rw [← a]; exact ih _
      intro x y
      by_cases hx : t ≤ x
      · have := up (x - t).toNat y
        rwa [show t + (((x - t).toNat : Nat) : Int) = x by omega] at this
      · have := dn (t - x).toNat y
        rwa [show t - (((t - x).toNat : Nat) : Int) = x by omega] at this
theorem EX.add {n k : Nat} {F G : Int → Yv → Int} (h : EX n F) (g : EX k G) : EX (n + k) (fun x y => F x y + G x y) := by
  induction h with
  | zero h =>
    rw [Nat.zero_add]
    exact g.congr fun x y => by rw [h]; omega
  | succ h ht hf ih =>
    rename_i n F F' T e
    rw [Nat.succ_add]
    exact .succ ih ht fun x y => by show F x y + G x y = T x y + (F' x y + G x y); rw [hf]; omega
def dlt (d z : Int) : Int := if z % d = 0 then 1 else 0
def PF : List GRow → Int → Yv → Int
  | [], _, _ => 1
  | r :: rs, x, y => (dlt r.1 (y 0) - dlt r.1 (y 0 - (x - r.2))) * PF rs x (ytl y)
theorem ex_l {n : Nat} {F : Int → Yv → Int} (h : EX n F) (d : Int) : EX n (fun x y => dlt d (y 0) * F x (ytl y)) := by
  induction h with
  | zero h => exact .zero fun x y => by rw [h, Int.mul_zero]
  | succ h ht hf ih =>
    rename_i n F F' T e
    refine .succ (T := fun x y => dlt d (y 0) * T x (ytl y)) (e := ycons 0 e) ih (fun x y => ?_) fun x y => ?_
    · show dlt d (y 0) * T (x + 1) (ytl y) = dlt d (y 0 - 0) * T x (ysub (ytl y) e)
      rw [ht, Int.sub_zero]
    · show dlt d (y 0) * F x (ytl y) = dlt d (y 0) * T x (ytl y) + dlt d (y 0) * F' x (ytl y)
      rw [hf, Int.mul_add]
theorem ex_r {n : Nat} {F : Int → Yv → Int} (h : EX n F) (d a : Int) : EX n (fun x y => -(dlt d (y 0 - (x - a)) * F x (ytl y))) := by
  induction h with
  | zero h => exact .zero fun x y => by rw [h, Int.mul_zero]; rfl
  | succ h ht hf ih =>
    rename_i n F F' T e
    refine .succ (T := fun x y => -(dlt d (y 0 - (x - a)) * T x (ytl y))) (e := ycons 1 e) ih (fun x y => ?_) fun x y => ?_
    · show -(dlt d (y 0 - (x + 1 - a)) * T (x + 1) (ytl y)) = -(dlt d (y 0 - 1 - (x - a)) * T x (ysub (ytl y) e))
      rw [ht, show y 0 - (x + 1 - a) = y 0 - 1 - (x - a) by omega]
    · show -(dlt d (y 0 - (x - a)) * F x (ytl y)) = -(dlt d (y 0 - (x - a)) * T x (ytl y)) + -(dlt d (y 0 - (x - a)) * F' x (ytl y))
      rw [hf, Int.mul_add]; omega
theorem ex_rows : ∀ rs : List GRow, EX (2 ^ rs.length) (PF rs)
  | [] => .succ (.zero (F := fun _ _ => 0) fun _ _ => rfl) (T := fun _ _ => 1) (e := fun _ => 0) (fun _ _ => rfl) fun _ _ => rfl
  | r :: rs => by
    have h := (ex_l (ex_rows rs) r.1).add (ex_r (ex_rows rs) r.1 r.2)
    rw [show 2 ^ (r :: rs).length = 2 ^ rs.length + 2 ^ rs.length by rw [List.length_cons, Nat.pow_succ]; omega]
    refine h.congr fun x y => ?_
    show (dlt r.1 (y 0) - dlt r.1 (y 0 - (x - r.2))) * PF rs x (ytl y) = _
    rw [Int.sub_mul]; omega
theorem pf_hit : ∀ {rs : List GRow} {x : Int}, hitB rs x = true → ∀ y, PF rs x y = 0
  | [], _, h, _ => by cases h
  | r :: rs, x, h, y => by
    unfold PF
    unfold hitB at h
    rw [List.any_cons, Bool.or_eq_true] at h
    rcases h with h | h
    · have hd : r.1 ∣ x - r.2 := Int.dvd_of_emod_eq_zero (of_decide_eq_true h)
      have e : dlt r.1 (y 0 - (x - r.2)) = dlt r.1 (y 0) := by
        unfold dlt
        have e2 : (y 0 - (x - r.2)) % r.1 = y 0 % r.1 := by
          rw [Int.emod_eq_emod_iff_emod_sub_eq_zero]
          refine Int.emod_eq_zero_of_dvd ?_
          rw [show y 0 - (x - r.2) - y 0 = -(x - r.2) by omega]
          exact Int.dvd_neg.mpr hd
        rw [e2]
      rw [e, Int.sub_self, Int.zero_mul]
    · rw [pf_hit h, Int.mul_zero]
theorem pf_miss : ∀ {rs : List GRow} {x : Int}, hitB rs x = false → PF rs x (fun _ => 0) = 1
  | [], _, _ => rfl
  | r :: rs, x, h => by
    unfold hitB at h
    rw [List.any_cons, Bool.or_eq_false_iff] at h
    have h1 : (x - r.2) % r.1 ≠ 0 := of_decide_eq_false h.1
    show (dlt r.1 0 - dlt r.1 (0 - (x - r.2))) * PF rs x (fun _ => 0) = 1
    rw [pf_miss h.2]
    have e1 : dlt r.1 0 = 1 := by unfold dlt; rw [if_pos (Int.zero_emod _)]
    have e2 : dlt r.1 (0 - (x - r.2)) = 0 := by
      unfold dlt
      rw [if_neg]
      intro z
      have := Int.dvd_of_emod_eq_zero z
      rw [Int.zero_sub] at this
      exact h1 (Int.emod_eq_zero_of_dvd (Int.dvd_neg.mp this))
    rw [e1, e2]; rfl
theorem cover_all {rs : List GRow} {t : Int} (hl : rs.length ≤ 6) (h : ∀ j < 64, hitB rs (t + (j : Nat)) = true) (x : Int) : hitB rs x = true := by
  have hv := (ex_rows rs).van t fun i hi y => pf_hit (h i (Nat.lt_of_lt_of_le hi (Nat.pow_le_pow_right (by decide) hl : 2 ^ rs.length ≤ 2 ^ 6))) y
  cases e : hitB rs x with
  | true => rfl
  | false =>
    have a := pf_miss e
    rw [hv] at a
    cases a
theorem gap_split (rs : List GRow) (t : Int) : (gapD rs t = .non ∧ ∀ j < 64, hitB rs (t + (j : Nat)) = true) ∨ ∃ k : Nat, k < 64 ∧ gapD rs t = .int (t + k) ∧ hitB rs (t + (k : Nat)) = false := by
  unfold gapD
  cases e : gapN rs t with
  | none =>
    unfold gapN at e
    rw [List.find?_range_eq_none] at e
    exact .inl ⟨rfl, fun j hj => by simpa using e j hj⟩
  | some k =>
    unfold gapN at e
    rw [List.find?_range_eq_some] at e
    exact .inr ⟨k, List.mem_range.mp e.2.1, rfl, by simpa using e.1⟩
end Pd
namespace Pd
open PySem PySem.Spec PyProof.Rows L2
theorem reps_rg {K : PySem.W.Frag} {G : Hp} {n : Int} : Reps K G (rngD 0 n.toNat) (rgV 0 n) := by
  unfold rngD rgV
  rw [Int.sub_zero]
  generalize List.range n.toNat = l
  induction l with
  | nil => rfl
  | cons a l ih => exact ⟨_, _, rfl, rfl, ih⟩
section
variable {B : Bx} {a : Expr} {ρ : DE} {m : Mem} {Q : D → Mem → Prop} {pos p p2 pos2 : Pos}
theorem we_lrg (k : Bok B) (hl : Bt B "list" "list") (hr : Bt B "range" "range") (h : WE B a ρ m fun x m1 => ∃ n, x = .int n ∧ 0 ≤ n ∧ n ≤ 1000000 ∧ NewL Q (rngD 0 n.toNat) m1)
    (n1 : starEach [a] B.X.env = (false, eval a B.X.env) :: starEach [] B.X.env) (n2 : starEach [.Call (.Name "range" p2) [a] [] pos2] B.X.env = (false, eval (.Call (.Name "range" p2) [a] [] pos2) B.X.env) :: starEach [] B.X.env) :
    WE B (.Call (.Name "list" p) [.Call (.Name "range" p2) [a] [] pos2] [] pos) ρ m Q := fun G σ H s r c Q' kq => by
  refine teX_of (pe_listRg k.calm hl.g hl.m (prg_1 hr.g hr.m (peX a) n1) n2) ?_
  refine h G σ H s r c _ fun v d m1 G1 H1 s1 c1 r1 ⟨n, ed, h0, h1, q⟩ => ?_
  subst ed
  exact ⟨n, r1, RgOk.of_le (by omega) (by omega) (by omega) (by omega), newl_ok (kq.sub s1) c1 reps_rg q⟩
end
end Pd
namespace Pd
open PySem PySem.Spec PyProof.Rows L2
section
variable {B : Bx} {a : Expr} {x : D} {ρ : DE} {m : Mem} {R : RR} {body : List Stmt} {pos p p2 tpos : Pos} {elts : List Expr} {kk : Nat} {l : List D}
theorem ws_for_en (k : Bok B) (h0 : Bt B "enumerate" "enumerate") (J : Nat → DE → Mem → Prop) (h : WE B a ρ m fun d m1 => d = x ∧ J 0 ρ m1) (hJ : ∀ i ρ m, J i ρ m → Lv x m l)
    (hb : ∀ i d ρ m, l[i]? = some d → J i ρ m → WG B (.Tuple elts kk tpos) (.tup [.int (i : Nat), d]) ρ m fun ρ1 m1 => WSs B body ρ1 m1 { nx := J (i + 1), rt := R.rt, bk := R.nx, ct := J (i + 1) }) (hfin : ∀ ρ m, J l.length ρ m → R.nx ρ m)
    (h1 : starEach [a] B.X.env = (false, eval a B.X.env) :: starEach [] B.X.env) (hs1 : starEach [a] B.X.env = [(false, eval a B.X.env)])
    (hs : ∀ x, foldedSetIterable (.Call (.Name "enumerate" p) [a] [] p2) B.X.env x = pure x) : WS B (.For (.Tuple elts kk tpos) (.Call (.Name "enumerate" p) [a] [] p2) body [] pos) ρ m R := fun G σ H s r c D kq => by
  refine tsX_of (ps_for k.pss k.calm (pi_enum h0.g h0.m (pa_cons (peX a) pa_nil h1) hs1) (pgX _) (pssX body) hs) ?_
  refine h G σ H s r c _ fun v d m1 G1 H1 s1 c1 r1 ⟨ed, q⟩ => ?_
  subst ed
  obtain ⟨pa, xs0, rfl, hq0, _⟩ := lv_get (hJ 0 ρ m1 q) c1 r1
  have now : ∀ i ρ' m' G' H', Sub G1 G' → Cur B.X.K G' m' H' → J i ρ' m' → ∃ xs, SqL B.X.K H' pa xs ∧ Reps B.X.K G' l xs := fun i ρ' m' G' H' s' c' j => by
    obtain ⟨p', xs, e, hq, rx⟩ := lv_get (hJ i ρ' m' j) c' (Rep.sub s' _ _ r1)
    injection e with e
    subst e
    exact ⟨xs, hq, rx⟩
  refine ⟨pa, xs0, rfl, hq0, fun i n σ' H' => n = l.length - i ∧ i ≤ l.length ∧ ∃ ρ' m' G', Sub G1 G' ∧ RepE B.X.K B.X.N.length G' σ' ρ' ∧ Cur B.X.K G' m' H' ∧ J i ρ' m', ⟨l.length, by simp, Nat.zero_le _, ρ, m1, G1, Sub.refl _, r.sub s1, c1, q⟩, ?_⟩
  rintro i n σ' H' ⟨rfl, hi, ρ', m', G', s2, r2, c2, w⟩
  obtain ⟨xs, hq, rx⟩ := now i ρ' m' G' H' s2 c2 w
  have hl := reps_len rx
  by_cases hlt : i < l.length
  · refine .inr ⟨⟨xs, xs[i]'(by omega), hq, by simp [hl, hlt]⟩, fun σ3 H3 => ∃ ρ3 m3 G3, Sub G1 G3 ∧ RepE B.X.K B.X.N.length G3 σ3 ρ3 ∧ Cur B.X.K G3 m3 H3 ∧ J (i + 1) ρ3 m3, fun σ3 H3 p3 => ⟨l.length - (i + 1), by omega, rfl, hlt, p3⟩, fun y H3 yl => ?_⟩
    obtain ⟨T, z, rfl, hT, rfl, yx⟩ := yl
    have hx := yx xs hq
    obtain ⟨d, hd, rd⟩ := reps_get rx hx
    have sb : Sub G' (upd G' T (.tup [.int (i : Nat), z])) := sub_upd (c2.none hT).1
    have c3 := c2.new (o := .tup [.int (i : Nat), z]) hT
    refine hb i d ρ' m' hd w _ σ' _ _ (((s.trans s1).trans s2).trans sb) (r2.sub sb) c3 ⟨T, _, rfl, SqT.of upd_same, _, _, rfl, rfl, _, _, rfl, Rep.sub sb _ _ rd, rfl⟩ _ fun σ4 ρ4 m4 G4 H4 s4 r4 c4 q4 => ?_
    have s3 := s2.trans sb
    have hT2 : NP B.X.K B.X.N.length (upd G' T (.tup [.int (i : Nat), z])) (J (i + 1)) (fun σ3 H3 => ∃ ρ3 m3 G3, Sub G1 G3 ∧ RepE B.X.K B.X.N.length G3 σ3 ρ3 ∧ Cur B.X.K G3 m3 H3 ∧ J (i + 1) ρ3 m3) := fun σ5 ρ5 m5 G5 H5 s5 r5 c5 q5 => ⟨ρ5, m5, G5, s3.trans s5, r5, c5, q5⟩
    have k4 := kq.sub ((s1.trans s3).trans s4)
    exact q4 G4 σ4 H4 (((s.trans s1).trans s3).trans s4) r4 c4 _ ⟨hT2.sub s4, k4.rt, k4.nx, hT2.sub s4⟩
  · have e : i = l.length := by omega
    subst e
    exact .inl ⟨⟨xs, hq, by omega⟩, kq.nx σ' ρ' m' G' H' (s1.trans s2) r2 c2 (hfin ρ' m' w)⟩
end
end Pd
namespace Pd
open PySem PySem.Spec PyProof.Rows L2
section
variable {B : Bx} {a tg : Expr} {ρ : DE} {m : Mem} {R : RR} {body orelse : List Stmt} {pos p p2 : Pos}
theorem ws_for_r1E (k : Bok B) (h0 : Bt B "range" "range") (J : Nat → DE → Mem → Prop) (h : WE B a ρ m fun d m1 => ∃ j : Int, d = .int j ∧ -(2 ^ 62) ≤ j ∧ j < 2 ^ 62 ∧ J 0 ρ m1 ∧
      (∀ i ρ m, i < j.toNat → J i ρ m → WG B tg (.int (i : Nat)) ρ m fun ρ1 m1 => WSs B body ρ1 m1 { nx := J (i + 1), rt := R.rt, bk := R.nx, ct := J (i + 1) }) ∧ ∀ ρ m, J j.toNat ρ m → WSs B orelse ρ m R)
    (h1 : starEach [a] B.X.env = (false, eval a B.X.env) :: starEach [] B.X.env) (hs1 : starEach [a] B.X.env = [(false, eval a B.X.env)])
    (hs : ∀ x, foldedSetIterable (.Call (.Name "range" p) [a] [] p2) B.X.env x = pure x) : WS B (.For tg (.Call (.Name "range" p) [a] [] p2) body orelse pos) ρ m R := fun G σ H s r c D kq => by
  refine tsX_of (ps_forE k.pss k.calm (pi_range1 h0.g h0.m (pa_cons (peX a) pa_nil h1) hs1) (pgX tg) (pssX body) (pssX orelse) hs) ?_
  refine h G σ H s r c _ fun v d m1 G1 H1 s1 c1 r1 ⟨j, ed, b1, b2, q, hb, he⟩ => ?_
  subst ed
  obtain rfl : v = .int j := r1
  refine ⟨j, rfl, b1, b2, fun i n σ' H' => n = j.toNat - i ∧ i ≤ j.toNat ∧ ∃ ρ' m' G', Sub G1 G' ∧ RepE B.X.K B.X.N.length G' σ' ρ' ∧ Cur B.X.K G' m' H' ∧ J i ρ' m', ⟨j.toNat, by simp, Nat.zero_le _, ρ, m1, G1, Sub.refl _, r.sub s1, c1, q⟩, ?_⟩
  rintro i n σ' H' ⟨rfl, hi, ρ', m', G', s2, r2, c2, w⟩
  by_cases hlt : i < j.toNat
  · refine .inr ⟨hlt, fun σ3 H3 => ∃ ρ3 m3 G3, Sub G1 G3 ∧ RepE B.X.K B.X.N.length G3 σ3 ρ3 ∧ Cur B.X.K G3 m3 H3 ∧ J (i + 1) ρ3 m3, fun σ3 H3 p3 => ⟨j.toNat - (i + 1), by omega, rfl, hlt, p3⟩, fun y H3 yl => ?_⟩
    obtain ⟨rfl, rfl⟩ := yl
    refine hb i ρ' m' hlt w G' σ' _ _ ((s.trans s1).trans s2) r2 c2 (show Rep B.X.K G' (.int (i : Nat)) (.int (0 + (i : Nat))) by rw [Int.zero_add]; rfl) _ fun σ4 ρ4 m4 G4 H4 s4 r4 c4 q4 => ?_
    have hT : NP B.X.K B.X.N.length G' (J (i + 1)) (fun σ3 H3 => ∃ ρ3 m3 G3, Sub G1 G3 ∧ RepE B.X.K B.X.N.length G3 σ3 ρ3 ∧ Cur B.X.K G3 m3 H3 ∧ J (i + 1) ρ3 m3) := fun σ5 ρ5 m5 G5 H5 s5 r5 c5 q5 => ⟨ρ5, m5, G5, s2.trans s5, r5, c5, q5⟩
    have k4 := kq.sub ((s1.trans s2).trans s4)
    exact q4 G4 σ4 H4 (((s.trans s1).trans s2).trans s4) r4 c4 _ ⟨hT.sub s4, k4.rt, k4.nx, hT.sub s4⟩
  · have e : i = j.toNat := by omega
    subst e
    exact .inl ⟨Nat.le_refl _, he ρ' m' w G' σ' H' ((s.trans s1).trans s2) r2 c2 D (kq.sub (s1.trans s2))⟩
end
end Pd
namespace Cyc
def Pr (p : Nat) : Prop := 1 < p ∧ ∀ m, m ∣ p → m = 1 ∨ m = p
theorem exists_pr : ∀ n : Nat, 1 < n → ∃ p, Pr p ∧ p ∣ n := by
  intro n
  induction n using Nat.strongRecOn with
  | _ n ih =>
    intro hn
    by_cases h : ∃ m, m ∣ n ∧ m ≠ 1 ∧ m ≠ n
    · obtain ⟨m, hm, h1, h2⟩ := h
      have hle : m ≤ n := Nat.le_of_dvd (by omega) hm
      have h0 : m ≠ 0 := fun z => by subst z; rw [Nat.zero_dvd] at hm; omega
      obtain ⟨p, hp, hd⟩ := ih m (by omega) (by omega)
      exact ⟨p, hp, Nat.dvd_trans hd hm⟩
    · refine ⟨n, ⟨hn, fun m hm => ?_⟩, Nat.dvd_refl n⟩
      by_cases h1 : m = 1
      · exact .inl h1
      · by_cases h2 : m = n
        · exact .inr h2
        · exact absurd ⟨m, hm, h1, h2⟩ h
theorem pr_cop {p c : Nat} (hp : Pr p) (h : ¬ p ∣ c) : Nat.Coprime p c := by
  rcases hp.2 (Nat.gcd p c) (Nat.gcd_dvd_left p c) with h1 | h1
  · exact h1
  · exact absurd (h1 ▸ Nat.gcd_dvd_right p c) h
theorem p_part {p : Nat} (hp : Pr p) : ∀ e : Nat, 0 < e → ∃ q M, e = q * M ∧ ¬ p ∣ M ∧ 0 < q ∧ ∀ c, ¬ p ∣ c → Nat.Coprime q c := by
  intro e
  induction e using Nat.strongRecOn with
  | _ e ih =>
    intro he
    by_cases h : p ∣ e
    · obtain ⟨f, rfl⟩ := h
      have hp1 := hp.1
      have hf : 0 < f := Nat.pos_of_ne_zero fun z => by subst z; simp at he
      have hlt : f < p * f := by
        have := Nat.mul_lt_mul_of_pos_right hp1 hf
        omega
      obtain ⟨q, M, e1, e2, e3, e4⟩ := ih f hlt hf
      refine ⟨p * q, M, by rw [e1, Nat.mul_assoc], e2, Nat.mul_pos (by omega) e3, fun c hc => Nat.Coprime.mul_left (pr_cop hp hc) (e4 c hc)⟩
    · exact ⟨1, e, by simp, h, by decide, fun c _ => Nat.gcd_one_left c⟩
theorem step_d {p d e q M : Nat} (hp : Pr p) (h0 : 0 < d) (he : 0 < e) (hd : d ∣ p * e) (hn : ¬ d ∣ e) (hq : e = q * M) (hc : ∀ c, ¬ p ∣ c → Nat.Coprime q c) : ∃ h, d = p * h ∧ h ∣ e ∧ q ∣ h := by
  have g0 : 0 < Nat.gcd d e := Nat.gcd_pos_of_pos_left e h0
  obtain ⟨d', hd'⟩ := Nat.gcd_dvd_left d e
  obtain ⟨e', he'⟩ := Nat.gcd_dvd_right d e
  have hcop : Nat.Coprime d' e' := by
    have := Nat.gcd_mul_left (Nat.gcd d e) d' e'
    rw [← hd', ← he'] at this
    exact Nat.eq_of_mul_eq_mul_left g0 (by rw [Nat.mul_one]; exact this.symm)
  generalize Nat.gcd d e = g at *
  have h1 : d' ∣ p * e' := by
    rw [hd', he'] at hd
    have : g * d' ∣ g * (p * e') := by rw [show g * (p * e') = p * (g * e') by rw [← Nat.mul_assoc, Nat.mul_comm g p, Nat.mul_assoc]]; exact hd
    exact Nat.dvd_of_mul_dvd_mul_left g0 this
  have h2 : d' ∣ p := Nat.Coprime.dvd_of_dvd_mul_right hcop h1
  rcases hp.2 d' h2 with h3 | h3
  · subst h3
    rw [Nat.mul_one] at hd'
    exact absurd (hd' ▸ ⟨e', he'⟩ : d ∣ e) hn
  · subst h3
    refine ⟨g, by rw [hd', Nat.mul_comm], ⟨e', he'⟩, ?_⟩
    have h4 : ¬ d' ∣ e' := fun z => by
      have := Nat.gcd_eq_left z
      rw [hcop] at this
      have := hp.1
      omega
    have h5 : q ∣ g * e' := ⟨M, by rw [← he', hq]⟩
    exact Nat.Coprime.dvd_of_dvd_mul_right (hc e' h4) h5
theorem bezout : ∀ a b : Nat, ∃ x y : Int, (a : Int) * x + b * y = Nat.gcd a b := by
  intro a b
  induction a, b using Nat.gcd.induction with
  | H0 b => exact ⟨0, 1, by simp⟩
  | H1 a b ha ih =>
    obtain ⟨x, y, h⟩ := ih
    refine ⟨y - (b / a : Nat) * x, x, ?_⟩
    rw [Nat.gcd_rec, ← h]
    have e : (b : Int) = a * (b / a : Nat) + (b % a : Nat) := by
      have := Nat.div_add_mod b a
      omega
    generalize (b / a : Nat) = u at *
    generalize (b % a : Nat) = v at *
    rw [e]
    grind
def lab (q p : Nat) (x : Int) : Int := (x / (q : Int)) % (p : Int)
theorem lab_add {q p : Nat} (hq : 0 < q) (x t : Int) : lab q p (x + (q : Int) * t) = (x / (q : Int) + t) % (p : Int) := by
  unfold lab
  rw [Int.add_mul_ediv_left _ _ (by omega)]
theorem lab_class {p q d : Nat} {x a : Int} (hq : 0 < q) (hd : p * q ∣ d) (h : (d : Int) ∣ x - a) : lab q p x = lab q p a := by
  obtain ⟨u, rfl⟩ := hd
  obtain ⟨t, ht⟩ := h
  have e : x = a + (q : Int) * ((p : Int) * ((u : Int) * t)) := by
    have : ((p * q * u : Nat) : Int) = (p : Int) * q * u := by simp
    rw [this] at ht
    grind
  rw [e, lab_add hq, Int.add_mul_emod_self_left]
  rfl
theorem lab_any {p q M : Nat} (hp : Pr p) (hM : ¬ p ∣ M) (hq : 0 < q) (x c : Int) (h0 : 0 ≤ c) (h1 : c < p) : ∃ j : Int, lab q p (x + ((q * M : Nat) : Int) * j) = c := by
  obtain ⟨u, v, h⟩ := bezout p M
  have hg : Nat.gcd p M = 1 := pr_cop hp hM
  rw [hg] at h
  refine ⟨v * (c - x / (q : Int)), ?_⟩
  have e : x + ((q * M : Nat) : Int) * (v * (c - x / (q : Int))) = x + (q : Int) * ((M : Int) * v * (c - x / (q : Int))) := by
    rw [Int.natCast_mul]; grind
  rw [e, lab_add hq]
  have e2 : (M : Int) * v = 1 - (p : Int) * u := by
    have : ((1 : Nat) : Int) = 1 := rfl
    omega
  have e3 : x / (q : Int) + (M : Int) * v * (c - x / (q : Int)) = c + (p : Int) * (-(u * (c - x / (q : Int)))) := by
    rw [e2]
    generalize x / (q : Int) = w
    grind
  rw [e3, Int.add_mul_emod_self_left]
  exact Int.emod_eq_of_lt h0 h1
theorem lab_back {p q h M e : Nat} {x a : Int} (hp : Pr p) (hq : 0 < q) (he : e = q * M) (hM : ¬ p ∣ M) (hh : h ∣ e) (hqh : q ∣ h) (hl : lab q p x = lab q p a) (hd : (h : Int) ∣ x - a) : ((p * h : Nat) : Int) ∣ x - a := by
  obtain ⟨h', rfl⟩ := hqh
  obtain ⟨t, ht⟩ := hd
  have h1 : h' ∣ M := by rw [he] at hh; exact Nat.dvd_of_mul_dvd_mul_left hq hh
  have h2 : ¬ p ∣ h' := fun z => hM (Nat.dvd_trans z h1)
  have e1 : x = a + (q : Int) * ((h' : Int) * t) := by
    rw [Int.natCast_mul] at ht; grind
  rw [e1, lab_add hq] at hl
  have h3 : (p : Int) ∣ (h' : Int) * t := by
    have := Int.emod_eq_emod_iff_emod_sub_eq_zero.mp (show (a / (q : Int) + (h' : Int) * t) % (p : Int) = (a / (q : Int)) % (p : Int) from hl)
    rw [show a / (q : Int) + (h' : Int) * t - a / (q : Int) = (h' : Int) * t by omega] at this
    exact Int.dvd_of_emod_eq_zero this
  have h4 : p ∣ h' * t.natAbs := by
    have := Int.natAbs_dvd_natAbs.mpr h3
    rw [Int.natAbs_mul] at this
    simpa using this
  have h5 : p ∣ t.natAbs := Nat.Coprime.dvd_of_dvd_mul_left (pr_cop hp h2) h4
  have h6 : (p : Int) ∣ t := Int.dvd_natAbs.mp (Int.natCast_dvd_natCast.mpr h5)
  obtain ⟨w, rfl⟩ := h6
  refine ⟨w, ?_⟩
  rw [e1, Int.natCast_mul, Int.natCast_mul]
  grind
def Cov (d : Nat → Nat) (a : Nat → Int) (S : List Nat) : Prop := ∀ x : Int, ∃ i ∈ S, ((d i : Nat) : Int) ∣ x - a i
def Irr (d : Nat → Nat) (a : Nat → Int) (S : List Nat) : Prop := Cov d a S ∧ ∀ i ∈ S, ¬ Cov d a (S.filter fun j => j != i)
theorem filter_lt {S : List Nat} {i : Nat} (h : i ∈ S) : (S.filter fun j => j != i).length < S.length := by
  induction S with
  | nil => cases h
  | cons b S ih =>
    rw [List.filter_cons]
    by_cases e : b = i
    · subst e
      have := List.length_filter_le (fun j => j != b) S
      simp
      omega
    · have hi : i ∈ S := by
        rcases List.mem_cons.mp h with z | z
        · exact absurd z.symm e
        · exact z
      have := ih hi
      rw [if_pos (by simp [e])]
      simp only [List.length_cons]
      omega
theorem irr_sub {d : Nat → Nat} {a : Nat → Int} : ∀ (n : Nat) (S : List Nat), S.length = n → S.Nodup → Cov d a S → ∃ C : List Nat, (∀ i ∈ C, i ∈ S) ∧ C.Nodup ∧ Irr d a C := by
  intro n
  induction n using Nat.strongRecOn with
  | _ n ih =>
    intro S hS hn hc
    by_cases h : ∃ i ∈ S, Cov d a (S.filter fun j => j != i)
    · obtain ⟨i, hi, h2⟩ := h
      obtain ⟨C, c1, c2, c3⟩ := ih _ (by have := filter_lt hi; omega) (S.filter fun j => j != i) rfl (hn.filter _) h2
      exact ⟨C, fun j hj => (List.mem_filter.mp (c1 j hj)).1, c2, c3⟩
    · exact ⟨S, fun _ h => h, hn, hc, fun i hi h2 => h ⟨i, hi, h2⟩⟩
def cnt (S : List Nat) (U : Nat → Bool) : Nat := (S.filter fun i => !U i).length
theorem cnt_pos {S : List Nat} {U : Nat → Bool} (h : ∃ i ∈ S, U i = false) : 1 ≤ cnt S U := by
  obtain ⟨i, hi, hu⟩ := h
  unfold cnt
  exact List.length_pos_of_mem (List.mem_filter.mpr ⟨hi, by simp [hu]⟩)
theorem cnt_zero {S : List Nat} {U : Nat → Bool} (h : ∀ i ∈ S, U i = true) : cnt S U = 0 := by
  unfold cnt
  rw [List.length_eq_zero_iff, List.filter_eq_nil_iff]
  intro i hi
  simp [h i hi]
theorem cnt_split {U : Nat → Bool} : ∀ {S C : List Nat}, S.Nodup → C.Nodup → (∀ i ∈ C, i ∈ S) → cnt S (fun i => U i || decide (i ∈ C)) + cnt C U = cnt S U := by
  intro S
  induction S with
  | nil =>
    intro C _ _ h
    have : C = [] := List.eq_nil_iff_forall_not_mem.mpr fun i hi => by cases h i hi
    subst this
    rfl
  | cons b S ih =>
    intro C hS hC h
    have hb : b ∉ S := (List.nodup_cons.mp hS).1
    have hS' := (List.nodup_cons.mp hS).2
    have key := ih (C := C.filter fun j => j != b) hS' (hC.filter _) fun i hi => by
      obtain ⟨h1, h2⟩ := List.mem_filter.mp hi
      rcases List.mem_cons.mp (h i h1) with z | z
      · simp [z] at h2
      · exact z
    have e1 : cnt S (fun i => U i || decide (i ∈ C)) = cnt S (fun i => U i || decide (i ∈ C.filter fun j => j != b)) := by
      unfold cnt
      congr 1
      refine List.filter_congr fun i hi => ?_
      have : i ≠ b := fun z => hb (z ▸ hi)
      simp [List.mem_filter, this]
    have e2 : cnt C U = cnt (C.filter fun j => j != b) U + (if b ∈ C ∧ U b = false then 1 else 0) := by
      clear ih key e1 h hS hS' hb
      unfold cnt
      induction C with
      | nil => simp
      | cons x C ihC =>
        have hx : x ∉ C := (List.nodup_cons.mp hC).1
        have := ihC (List.nodup_cons.mp hC).2
        by_cases ex : x = b
        · subst ex
          have hne : C.filter (fun j => j != x) = C := List.filter_eq_self.mpr fun j hj => by
            have : j ≠ x := fun z => hx (z ▸ hj)
            simp [this]
          simp only [List.filter_cons, bne_self_eq_false, Bool.false_eq_true, if_false, hne]
          cases U x <;> simp
        · have h1 : (x != b) = true := by simp [ex]
          have h2 : (b ∈ x :: C) ↔ b ∈ C := by simp [List.mem_cons, Ne.symm ex]
          simp only [List.filter_cons, h1, if_true, h2]
          cases hu : U x <;> simp_all <;> omega
    have e3 : ∀ V : Nat → Bool, cnt (b :: S) V = (if V b = false then 1 else 0) + cnt S V := by
      intro V
      unfold cnt
      rw [List.filter_cons]
      cases V b <;> simp <;> omega
    rw [e3, e3, e1, e2]
    by_cases hbC : b ∈ C <;> cases hu : U b <;> simp [hbC, hu] at * <;> omega
theorem two_le : ∀ p : Nat, 2 ≤ p → p * 2 ≤ 2 ^ p
  | 0, h => by omega
  | 1, h => by omega
  | 2, _ => by decide
  | p + 3, _ => by
    have := two_le (p + 2) (by omega)
    rw [Nat.pow_succ]; omega
theorem main : ∀ (N : Nat), 0 < N → ∀ (d : Nat → Nat) (a : Nat → Int) (S : List Nat) (U : Nat → Bool) (D : Nat), S.Nodup → (∀ i ∈ S, 0 < d i ∧ d i ∣ N) → Irr d a S → (∃ i ∈ S, U i = false) → 0 < D → (∀ i ∈ S, U i = true → d i ∣ D) →
    ∃ L, 0 < L ∧ D ∣ L ∧ (∀ i ∈ S, d i ∣ L) ∧ L * 2 ≤ D * 2 ^ cnt S U := by
  intro N
  induction N using Nat.strongRecOn with
  | _ N IH =>
    intro hN d a S U D hS hd hirr hU hD hUD
    by_cases hND : N ∣ D
    · refine ⟨D, hD, Nat.dvd_refl D, fun i hi => Nat.dvd_trans (hd i hi).2 hND, ?_⟩
      have h1 := cnt_pos hU
      have : 2 ^ 1 ≤ 2 ^ cnt S U := Nat.pow_le_pow_right (by decide) h1
      exact Nat.mul_le_mul_left D this
    · have g0 : 0 < Nat.gcd N D := Nat.gcd_pos_of_pos_left D hN
      obtain ⟨n', hn'⟩ := Nat.gcd_dvd_left N D
      have hn1 : 1 < n' := by
        rcases Nat.lt_or_ge 1 n' with h | h
        · exact h
        · exfalso
          have : n' = 0 ∨ n' = 1 := by omega
          rcases this with z | z
          · rw [z] at hn'; omega
          · rw [z, Nat.mul_one] at hn'
            exact hND (hn' ▸ Nat.gcd_dvd_right N D)
      obtain ⟨p, hp, f, hf⟩ := exists_pr n' hn1
      have hp1 := hp.1
      have he : N = p * (Nat.gcd N D * f) := by
        rw [Nat.mul_left_comm, ← hf]; exact hn'
      have hge : ∀ m, m ∣ N → m ∣ D → m ∣ Nat.gcd N D * f := fun m h1 h2 => Nat.dvd_trans (Nat.dvd_gcd h1 h2) ⟨f, rfl⟩
      generalize Nat.gcd N D * f = e at he hge
      have he0 : 0 < e := Nat.pos_of_ne_zero fun z => by rw [z, Nat.mul_zero] at he; omega
      have heN : e < N := by
        have := Nat.mul_lt_mul_of_pos_right hp1 he0
        omega
      by_cases hall : ∀ i ∈ S, d i ∣ e
      · exact IH e heN he0 d a S U D hS (fun i hi => ⟨(hd i hi).1, hall i hi⟩) hirr hU hD hUD
      · have hall : ∃ i ∈ S, ¬ d i ∣ e := by
          false_or_by_contra
          rename_i z
          exact hall fun i hi => by
            false_or_by_contra
            rename_i z2
            exact z ⟨i, hi, z2⟩
        obtain ⟨i0, hi0, hd0⟩ := hall
        obtain ⟨q, M, hqM, hM, hq, hqc⟩ := p_part hp e he0
        have st : ∀ i ∈ S, ¬ d i ∣ e → ∃ h, d i = p * h ∧ h ∣ e ∧ q ∣ h := fun i hi hn => step_d hp (hd i hi).1 he0 (he ▸ (hd i hi).2) hn hqM hqc
        have stq : ∀ i ∈ S, ¬ d i ∣ e → p * q ∣ d i := fun i hi hn => by
          obtain ⟨h, e1, _, e3⟩ := st i hi hn
          rw [e1]; exact Nat.mul_dvd_mul_left p e3
        let dr : Nat → Nat := fun i => if d i ∣ e then d i else d i / p
        have dr1 : ∀ i, d i ∣ e → dr i = d i := fun i h => if_pos h
        have dr2 : ∀ i ∈ S, ¬ d i ∣ e → d i = p * dr i ∧ dr i ∣ e ∧ q ∣ dr i := fun i hi hn => by
          obtain ⟨h, e1, e2, e3⟩ := st i hi hn
          have : dr i = h := by
            show (if d i ∣ e then d i else d i / p) = h
            rw [if_neg hn, e1, Nat.mul_div_cancel_left h (by omega)]
          rw [this]; exact ⟨e1, e2, e3⟩
        have dre : ∀ i ∈ S, 0 < dr i ∧ dr i ∣ e := fun i hi => by
          by_cases h : d i ∣ e
          · rw [dr1 i h]; exact ⟨(hd i hi).1, h⟩
          · obtain ⟨e1, e2, _⟩ := dr2 i hi h
            refine ⟨Nat.pos_of_ne_zero fun z => ?_, e2⟩
            have := (hd i hi).1
            rw [e1, z, Nat.mul_zero] at this
            omega
        have back : ∀ i ∈ S, ∀ x : Int, ((dr i : Nat) : Int) ∣ x - a i → (d i ∣ e ∨ lab q p x = lab q p (a i)) → ((d i : Nat) : Int) ∣ x - a i := fun i hi x h hl => by
          by_cases hde : d i ∣ e
          · rw [dr1 i hde] at h; exact h
          · obtain ⟨e1, e2, e3⟩ := dr2 i hi hde
            rw [e1]
            exact lab_back hp hq hqM hM e2 e3 (hl.resolve_left hde) h
        have sh : ∀ (c : Int), 0 ≤ c → c < p → ∀ x : Int, (∃ i ∈ S, d i ∣ e ∧ ((d i : Nat) : Int) ∣ x - a i) ∨ ∃ i ∈ S, ¬ d i ∣ e ∧ lab q p (a i) = c ∧ ((dr i : Nat) : Int) ∣ x - a i := by
          intro c c0 c1 x
          obtain ⟨j, hj⟩ := lab_any hp hM hq x c c0 c1
          rw [← hqM] at hj
          obtain ⟨i, hi, hdi⟩ := hirr.1 (x + (e : Int) * j)
          by_cases hde : d i ∣ e
          · refine .inl ⟨i, hi, hde, ?_⟩
            have h1 : ((d i : Nat) : Int) ∣ (e : Int) * j := Int.dvd_trans (Int.natCast_dvd_natCast.mpr hde) ⟨j, rfl⟩
            have := Int.dvd_sub hdi h1
            rwa [show x + (e : Int) * j - a i - (e : Int) * j = x - a i by omega] at this
          · refine .inr ⟨i, hi, hde, ?_, ?_⟩
            · rw [← lab_class hq (stq i hi hde) hdi]; exact hj
            · obtain ⟨e1, e2, _⟩ := dr2 i hi hde
              have h0 : ((dr i : Nat) : Int) ∣ ((d i : Nat) : Int) := Int.natCast_dvd_natCast.mpr ⟨p, by rw [Nat.mul_comm]; exact e1⟩
              have h1 : ((dr i : Nat) : Int) ∣ (e : Int) * j := Int.dvd_trans (Int.natCast_dvd_natCast.mpr e2) ⟨j, rfl⟩
              have := Int.dvd_sub (Int.dvd_trans h0 hdi) h1
              rwa [show x + (e : Int) * j - a i - (e : Int) * j = x - a i by omega] at this
        have some : ∀ (c : Int), 0 ≤ c → c < p → ∃ i ∈ S, ¬ d i ∣ e ∧ lab q p (a i) = c := by
          intro c c0 c1
          false_or_by_contra
          rename_i z
          refine hirr.2 i0 hi0 fun x => ?_
          rcases sh c c0 c1 x with ⟨i, hi, h1, h2⟩ | ⟨i, hi, h1, h2, _⟩
          · refine ⟨i, List.mem_filter.mpr ⟨hi, ?_⟩, h2⟩
            have : i ≠ i0 := fun z => hd0 (z ▸ h1)
            simp [this]
          · exact absurd ⟨i, hi, h1, h2⟩ z
        have key : ∀ c : Nat, c ≤ p → ∃ (V : Nat → Bool) (L : Nat), 0 < L ∧ D ∣ L ∧ (∀ i ∈ S, U i = true → V i = true) ∧ (∀ i ∈ S, V i = true → dr i ∣ L) ∧ (∀ i ∈ S, ¬ d i ∣ e → (V i = true ↔ lab q p (a i) < c)) ∧
            (∀ x : Int, lab q p x < c → ∃ i ∈ S, V i = true ∧ ((d i : Nat) : Int) ∣ x - a i) ∧ L * 2 ^ c * 2 ^ cnt S V ≤ D * 2 ^ cnt S U := by
          have lab0 : ∀ x : Int, 0 ≤ lab q p x := fun x => Int.emod_nonneg _ (by omega)
          intro c
          induction c with
          | zero =>
            intro _
            have hUe : ∀ i ∈ S, U i = true → d i ∣ e := fun i hi hu => hge _ (hd i hi).2 (hUD i hi hu)
            refine ⟨U, D, hD, Nat.dvd_refl D, fun _ _ h => h, fun i hi hu => ?_, fun i hi hn => ⟨fun hu => absurd (hUe i hi hu) hn, fun hl => ?_⟩, fun x hl => ?_, by rw [Nat.pow_zero, Nat.mul_one]; exact Nat.le_refl _⟩
            · rw [dr1 i (hUe i hi hu)]; exact hUD i hi hu
            · have := lab0 (a i); omega
            · have := lab0 x; omega
          | succ c ihc =>
            intro hcp
            obtain ⟨V, L, hL, hDL, hUV, hdr, hlab, hcov, hle⟩ := ihc (by omega)
            let Sc := S.filter fun i => decide (d i ∣ e) || decide (lab q p (a i) = c)
            have mSc : ∀ i, i ∈ Sc ↔ i ∈ S ∧ (d i ∣ e ∨ lab q p (a i) = c) := fun i => by
              show i ∈ S.filter _ ↔ _
              rw [List.mem_filter]; simp
            have cSc : Cov dr a Sc := fun x => by
              rcases sh c (by omega) (by omega) x with ⟨i, hi, h1, h2⟩ | ⟨i, hi, h1, h2, h3⟩
              · exact ⟨i, (mSc i).mpr ⟨hi, .inl h1⟩, by rw [dr1 i h1]; exact h2⟩
              · exact ⟨i, (mSc i).mpr ⟨hi, .inr h2⟩, h3⟩
            obtain ⟨C, hCS, hCn, hCi⟩ := irr_sub _ Sc rfl (hS.filter _) cSc
            have hCS' : ∀ i ∈ C, i ∈ S := fun i hi => ((mSc i).mp (hCS i hi)).1
            have orig : ∀ x : Int, lab q p x = c → ∃ i ∈ C, ((d i : Nat) : Int) ∣ x - a i := fun x hx => by
              obtain ⟨i, hi, h⟩ := hCi.1 x
              obtain ⟨h1, h2⟩ := (mSc i).mp (hCS i hi)
              exact ⟨i, hi, back i h1 x h (h2.imp id fun z => by rw [hx, z])⟩
            have K1 : ∀ i ∈ S, ¬ d i ∣ e → lab q p (a i) = c → i ∈ C := fun i hi hn hl => by
              false_or_by_contra
              rename_i z
              refine hirr.2 i hi fun x => ?_
              by_cases hx : lab q p x = c
              · obtain ⟨i', h1, h2⟩ := orig x hx
                refine ⟨i', List.mem_filter.mpr ⟨hCS' i' h1, ?_⟩, h2⟩
                have : i' ≠ i := fun w => z (w ▸ h1)
                simp [this]
              · obtain ⟨i', h1, h2⟩ := hirr.1 x
                refine ⟨i', List.mem_filter.mpr ⟨h1, ?_⟩, h2⟩
                have : i' ≠ i := fun w => hx (by rw [w] at h2; rw [lab_class hq (stq i hi hn) h2]; exact hl)
                simp [this]
            have hfree : ∃ i ∈ C, V i = false := by
              obtain ⟨i, hi, hn, hl⟩ := some c (by omega) (by omega)
              refine ⟨i, K1 i hi hn hl, ?_⟩
              cases hv : V i with
              | false => rfl
              | true =>
                have := (hlab i hi hn).mp hv
                omega
            obtain ⟨L', hL', hLL', hdL', hle'⟩ := IH e heN he0 dr a C V L hCn (fun i hi => dre i (hCS' i hi)) hCi hfree hL (fun i hi hv => hdr i (hCS' i hi) hv)
            have hsplit := cnt_split (U := V) hS hCn hCS'
            refine ⟨fun i => V i || decide (i ∈ C), L', hL', Nat.dvd_trans hDL hLL', fun i hi hu => by simp [hUV i hi hu], fun i hi hv => ?_, fun i hi hn => ⟨fun hv => ?_, fun hl => ?_⟩, fun x hx => ?_, ?_⟩
            · rcases Bool.or_eq_true_iff.mp hv with hv | hv
              · exact Nat.dvd_trans (hdr i hi hv) hLL'
              · exact hdL' i (of_decide_eq_true hv)
            · rcases Bool.or_eq_true_iff.mp hv with hv | hv
              · have := (hlab i hi hn).mp hv
                omega
              · have := ((mSc i).mp (hCS i (of_decide_eq_true hv))).2.resolve_left hn
                omega
            · by_cases hc : lab q p (a i) < c
              · simp [(hlab i hi hn).mpr hc]
              · simp [K1 i hi hn (by omega)]
            · by_cases hc : lab q p x < c
              · obtain ⟨i, h1, h2, h3⟩ := hcov x hc
                exact ⟨i, h1, by simp [h2], h3⟩
              · obtain ⟨i, h1, h2⟩ := orig x (by omega)
                exact ⟨i, hCS' i h1, by simp [h1], h2⟩
            · refine Nat.le_trans ?_ hle
              rw [← hsplit, Nat.pow_succ]
              generalize cnt S (fun i => V i || decide (i ∈ C)) = u
              generalize cnt C V = w at hle' ⊢
              rw [Nat.pow_add 2 u w]
              have h1 := Nat.mul_le_mul_right (2 ^ c * 2 ^ u) hle'
              have e1 : L' * (2 ^ c * 2) * 2 ^ u = L' * 2 * (2 ^ c * 2 ^ u) := by
                simp only [Nat.mul_assoc, Nat.mul_comm, Nat.mul_left_comm]
              have e2 : L * 2 ^ c * (2 ^ u * 2 ^ w) = L * 2 ^ w * (2 ^ c * 2 ^ u) := by
                simp only [Nat.mul_assoc, Nat.mul_comm, Nat.mul_left_comm]
              rw [e1, e2]; exact h1
        obtain ⟨V, L, hL, hDL, _, hdr, hlab, hcov, hle⟩ := key p (Nat.le_refl p)
        have hlp : ∀ x : Int, lab q p x < p := fun x => Int.emod_lt_of_pos _ (by omega)
        have hV : ∀ i ∈ S, V i = true := by
          intro i hi
          cases hv : V i with
          | true => rfl
          | false =>
            exfalso
            refine hirr.2 i hi fun x => ?_
            obtain ⟨i', h1, h2, h3⟩ := hcov x (hlp x)
            refine ⟨i', List.mem_filter.mpr ⟨h1, ?_⟩, h3⟩
            have : i' ≠ i := fun z => by rw [z, hv] at h2; cases h2
            simp [this]
        refine ⟨p * L, Nat.mul_pos (by omega) hL, Nat.dvd_trans hDL ⟨p, Nat.mul_comm p L⟩, fun i hi => ?_, ?_⟩
        · by_cases hde : d i ∣ e
          · have := hdr i hi (hV i hi)
            rw [dr1 i hde] at this
            exact Nat.dvd_trans this ⟨p, Nat.mul_comm p L⟩
          · rw [(dr2 i hi hde).1]
            exact Nat.mul_dvd_mul_left p (hdr i hi (hV i hi))
        · rw [cnt_zero hV, Nat.pow_zero, Nat.mul_one] at hle
          refine Nat.le_trans ?_ hle
          rw [show p * L * 2 = L * (p * 2) by rw [Nat.mul_comm p L, Nat.mul_assoc]]
          exact Nat.mul_le_mul_left L (two_le p hp1)
theorem cycle {d : Nat → Nat} {a : Nat → Int} {k : Nat} (h0 : ∀ i, i < k → 0 < d i) (h : ∀ x : Int, ∃ i, i < k ∧ ((d i : Nat) : Int) ∣ x - a i) :
    ∃ L, 0 < L ∧ L * 2 ≤ 2 ^ k ∧ ∀ x : Int, ∃ i, i < k ∧ d i ∣ L ∧ ((d i : Nat) : Int) ∣ x - a i := by
  have hc : Cov d a (List.range k) := fun x => by
    obtain ⟨i, h1, h2⟩ := h x
    exact ⟨i, List.mem_range.mpr h1, h2⟩
  obtain ⟨C, c1, c2, c3⟩ := irr_sub _ _ rfl List.nodup_range hc
  have cm : ∀ l : List Nat, ∃ N, 0 < N ∧ ∀ i ∈ l, i < k → d i ∣ N := by
    intro l
    induction l with
    | nil => exact ⟨1, by decide, fun i hi => by cases hi⟩
    | cons b l ih =>
      obtain ⟨N, n0, n1⟩ := ih
      by_cases hb : b < k
      · exact ⟨d b * N, Nat.mul_pos (h0 b hb) n0, fun i hi hk => by
          rcases List.mem_cons.mp hi with rfl | hi
          · exact ⟨N, rfl⟩
          · exact Nat.dvd_trans (n1 i hi hk) ⟨d b, Nat.mul_comm _ _⟩⟩
      · exact ⟨N, n0, fun i hi hk => by
          rcases List.mem_cons.mp hi with rfl | hi
          · exact absurd hk hb
          · exact n1 i hi hk⟩
  obtain ⟨N, n0, n1⟩ := cm C
  have lt : ∀ i ∈ C, i < k := fun i hi => List.mem_range.mp (c1 i hi)
  have ne : ∃ i ∈ C, (fun _ : Nat => false) i = false := by
    obtain ⟨i, hi, _⟩ := c3.1 0
    exact ⟨i, hi, rfl⟩
  obtain ⟨L, l0, _, l2, l3⟩ := main N n0 d a C (fun _ => false) 1 c2 (fun i hi => ⟨h0 i (lt i hi), n1 i hi (lt i hi)⟩) c3 ne (by decide) (fun i _ z => by cases z)
  refine ⟨L, l0, ?_, fun x => ?_⟩
  · have hlen : cnt C (fun _ => false) ≤ k := by
      have e : cnt C (fun _ => false) = C.length := by unfold cnt; simp
      rw [e]
      have hs := cnt_split (U := fun _ => false) (S := List.range k) List.nodup_range c2 c1
      have e2 : cnt (List.range k) (fun _ => false) = k := by
        show (List.filter (fun _ => true) (List.range k)).length = k
        rw [List.filter_eq_self.mpr (fun _ _ => rfl), List.length_range]
      rw [e, e2] at hs
      omega
    rw [Nat.one_mul] at l3
    exact Nat.le_trans l3 (Nat.pow_le_pow_right (by decide) hlen)
  · obtain ⟨i, hi, h2⟩ := c3.1 x
    exact ⟨i, lt i hi, l2 i hi, h2⟩
end Cyc
namespace Pd
open PySem
theorem cycle_rows {rs : List GRow} (hl : rs.length ≤ 6) (h0 : Pos1 rs) (h : ∀ x, hitB rs x = true) : ∃ L : Nat, 0 < L ∧ L ≤ 32 ∧ ∀ x : Int, ∃ (i : Nat) (r : GRow), rs[i]? = some r ∧ (L : Int) % r.1 = 0 ∧ hitR r x = true := by
  have gd : ∀ i (hi : i < rs.length), rs.getD i (1, 0) = rs[i] := fun i hi => by simp [hi]
  obtain ⟨L, l0, l1, l2⟩ := Cyc.cycle (d := fun i => (rs.getD i (1, 0)).1.toNat) (a := fun i => (rs.getD i (1, 0)).2) (k := rs.length) (fun i hi => by
      have := h0 rs[i] (List.getElem_mem hi)
      show 0 < (rs.getD i (1, 0)).1.toNat
      rw [gd i hi]; omega) (fun x => by
      obtain ⟨r, hr, hx⟩ := List.any_eq_true.mp (h x)
      obtain ⟨i, hi, rfl⟩ := List.getElem_of_mem hr
      refine ⟨i, hi, ?_⟩
      have p := h0 rs[i] (List.getElem_mem hi)
      show (((rs.getD i (1, 0)).1.toNat : Nat) : Int) ∣ x - (rs.getD i (1, 0)).2
      rw [gd i hi, Int.toNat_of_nonneg (by omega)]
      exact Int.dvd_of_emod_eq_zero (of_decide_eq_true hx))
  refine ⟨L, l0, ?_, fun x => ?_⟩
  · have : 2 ^ rs.length ≤ 2 ^ 6 := Nat.pow_le_pow_right (by decide) hl
    omega
  · obtain ⟨i, hi, hd, hx⟩ := l2 x
    have p := h0 rs[i] (List.getElem_mem hi)
    have hd' : rs[i].1.toNat ∣ L := by
      have z : (rs.getD i (1, 0)).1.toNat ∣ L := hd
      rw [gd i hi] at z; exact z
    have hx' : ((rs[i].1.toNat : Nat) : Int) ∣ x - rs[i].2 := by
      have z : (((rs.getD i (1, 0)).1.toNat : Nat) : Int) ∣ x - (rs.getD i (1, 0)).2 := hx
      rw [gd i hi] at z; exact z
    refine ⟨i, rs[i], List.getElem?_eq_getElem hi, ?_, ?_⟩
    · have := Int.natCast_dvd_natCast.mpr hd'
      rw [Int.toNat_of_nonneg (by omega)] at this
      exact Int.emod_eq_zero_of_dvd this
    · rw [Int.toNat_of_nonneg (by omega)] at hx'
      exact decide_eq_true (Int.emod_eq_zero_of_dvd hx')
end Pd
namespace Pd
open PySem PySem.Spec PyProof.Rows L2
def SqB (t : Bool) (K : PySem.W.Frag) (H : Hp) (a : Addr) (xs : List V) : Prop := match t with | true => SqT K H a xs | false => SqL K H a xs
def ItB (t : Bool) (h : Heap) (it a : Addr) (i : Nat) : Prop := match t with | true => h.IsTupleIter it a i | false => h.IsListIter it a i
def HpB (t : Bool) (h : Heap) (a : Addr) (items : Array Value) : Prop := match t with | true => h.IsTuple a items | false => h.IsList a items
def obB (t : Bool) (a : Addr) : Obj := match t with
  | true => { cls := .type "tuple_iterator", data := .fields #[.ref a, .int 0 0] }
  | false => { cls := .type "list_iterator", data := .fields #[.ref a, .int 0 0] }
theorem SqB.sub {t : Bool} {K : PySem.W.Frag} {G G' : Hp} {a : Addr} {xs : List V} (e : Sub G G') (h : SqB t K G a xs) : SqB t K G' a xs := by
  cases t with
  | true => exact SqT.sub e h
  | false => exact SqL.sub e h
section
variable {t : Bool} {X : Cx} {pins : List (Addr × Obj)} {σ : L2.St} {H : Hp} {s : Shared} {a : Addr} {xs ys : List V}
theorem Inv.sq (I : Inv X pins σ H s) (h : SqB t X.K H a xs) : ∃ its : List Value, Vals xs its ∧ HpB t s.heap a its.toArray := by
  cases t with
  | true => obtain ⟨its, rv, p, _⟩ := I.tuple h; exact ⟨its, rv, p⟩
  | false => obtain ⟨its, rv, p, _⟩ := I.list h; exact ⟨its, rv, p.isList⟩
theorem Inv.sq_inj (I : Inv X pins σ H s) (h : SqB t X.K H a xs) (h' : SqB t X.K H a ys) : xs = ys := by
  cases t with
  | true => exact I.tuple_inj h h'
  | false => exact I.list_inj h h'
theorem itB_obj {h : Heap} {it : Addr} {i : Nat} (x : ItB t h it a i) : ∃ o vs, h.get? it = some o ∧ o.data = .fields vs := by
  cases t with
  | true => obtain ⟨o, e, _, d⟩ := x; exact ⟨o, _, e, d⟩
  | false => obtain ⟨o, e, _, d⟩ := x; exact ⟨o, _, e, d⟩
theorem hpB_obj {h : Heap} {items : Array Value} (x : HpB t h a items) : ∃ o n, h.get? a = some o ∧ o.data = .seq items n := by
  cases t with
  | true => obtain ⟨o, e, _, n, d⟩ := x; exact ⟨o, n, e, d⟩
  | false => obtain ⟨o, e, _, n, d⟩ := x; exact ⟨o, n, e, d⟩
theorem itB_at {h h' : Heap} {it : Addr} {i : Nat} (x : ItB t h it a i) (k : ∀ o, h.get? it = some o → h'.get? it = some o) : ItB t h' it a i := by
  cases t with
  | true => exact Heap.IsTupleIter.at x k
  | false => exact Heap.IsListIter.at x k
theorem sq_ne {h : Heap} {it : Addr} {i : Nat} {items : Array Value} (x : ItB t h it a i) (y : HpB t h a items) : a ≠ it := fun z => by
  obtain ⟨o, vs, e, d⟩ := itB_obj x
  obtain ⟨o2, n, e2, d2⟩ := hpB_obj y
  rw [z, e] at e2; cases e2; rw [d] at d2; cases d2
theorem drawsB {prog : Program} {w : World} {A : Around} (hh : A.handled = none) (it a : Addr) (hne : a ≠ it) (items : Array Value) :
    Draws prog w A it [it, a] items.size (fun i v => items[i]? = some v) (fun i h => ItB t h it a i ∧ HpB t h a items) := by
  cases t with
  | true => exact Draws.tuple hh it a hne items
  | false => exact Draws.list hh it a hne items
theorem beginsB (t : Bool) (a : Addr) (items : Array Value) : Begins (.ref a) (obB t a) fun h => HpB t h a items := by
  cases t with
  | true => exact begins_tuple a items
  | false => exact begins_list a items
theorem itB_new {h : Heap} {it : Addr} (e : h.get? it = some (obB t a)) : ItB t h it a 0 := by
  cases t with
  | true => exact ⟨_, e, rfl, rfl⟩
  | false => exact ⟨_, e, rfl, rfl⟩
end
set_option maxHeartbeats 1000000 in
theorem new_enum1 {v : Value} {o : Obj} {Hc : Heap → Prop} (B : Begins v o Hc) : Meets (Builtin.«enumerate.__new__» ⟨[.type "enumerate", v], []⟩) (fun _ R s => Hc s.heap ∧
      R (.ok (.ret (.ref (s.heap.push o).objs.size))) { s with heap := (s.heap.push o).push { cls := .type "enumerate", data := .fields #[.none, .bool false, .ref s.heap.objs.size, rawInt 0, .none, .none] } }) :=
  .of_wp fun prog w A R s h => by
    obtain ⟨hp, gs, dr, tks, so⟩ := s
    obtain ⟨hc, hr⟩ := h
    have hsub := sub_enumerate
    have step : ∀ {A' : Around} {E : Value → Shared → Prop} {Q : Value → Shared → Prop}, Q (.ref hp.objs.size) ⟨hp.push o, gs, dr, tks, so⟩ → wpAny (model prog w) A' (pyIter v) Q E ⟨hp, gs, dr, tks, so⟩ := fun q => B.iter prog w _ _ ⟨hp, gs, dr, tks, so⟩ _ hc q
    wp_walk using step
    refine wpAny_stack_any fun st => wpAny_pure ?_
    split
    · rename_i c _ _ _ _ _
      cases (c == Value.type "enumerate") <;> (wp_walk using step; exact ⟨_, rfl, hr⟩)
    · wp_walk using step
      exact ⟨_, rfl, hr⟩
theorem call_enum1 {prog : Program} {w : World} {A : Around} {E : Value → Shared → Prop} {s : Shared} {v : Value} {o : Obj} {Hc : Heap → Prop} {Q : Value → Shared → Prop} (B : Begins v o Hc) (hc : Hc s.heap)
    (k : ∀ h', IsEnum h' (s.heap.objs.size + 1) s.heap.objs.size 0 .none → h'.get? s.heap.objs.size = some o → (∀ b u, s.heap.get? b = some u → h'.get? b = some u) → Q (.ref (s.heap.objs.size + 1)) { s with heap := h' }) :
    wpAny (model prog w) A (call (.type "enumerate") [v]) Q E s := by
  refine callType_new F.called_enumerate (by decide) (F.typeCall_enumerate_1 _) (F.newCall_enumerate_1 _) (fun obj => F.args_object_init_2 obj _) F.entry_enumerate_new (new_enum1 B) ⟨hc, ?_⟩
  have z1 : (s.heap.push o).objs.size = s.heap.objs.size + 1 := Heap.size_push ..
  show _ ∧ _
  rw [z1]
  have he : IsEnum ((s.heap.push o).push { cls := .type "enumerate", data := .fields #[.none, .bool false, .ref s.heap.objs.size, rawInt 0, .none, .none] }) (s.heap.objs.size + 1) s.heap.objs.size 0 .none := by
    have q := Heap.get?_push_size (s.heap.push o) (o := { cls := .type "enumerate", data := .fields #[.none, .bool false, .ref s.heap.objs.size, rawInt 0, .none, .none] }) rfl
    rw [z1] at q; exact q
  exact ⟨⟨_, he, rfl⟩, k _ he (Heap.get?_push_of_some _ (Heap.get?_push_size _ B.free)) fun b u x => Heap.get?_push_of_some _ (Heap.get?_push_of_some _ x)⟩
def IteB (t : Bool) (K : PySem.W.Frag) (a : Addr) : It :=
  ⟨fun i H => ∃ (xs : List V) (x : V), SqB t K H a xs ∧ xs[i]? = some x, fun i H v H' => ∃ T x, v = .ref T ∧ H T = none ∧ H' = upd H T (.tup [.int (i : Nat), x]) ∧ ∀ xs, SqB t K H a xs → xs[i]? = some x, fun i H => ∃ xs : List V, SqB t K H a xs ∧ xs.length = i⟩
theorem turn_enumB {P : Program} {w : World} {K : PySem.W.Frag} {t : Bool} {elts : List Expr} {kk : Nat} {tpos : Pos} (a e it : Addr) :
    Turn P w K (.Tuple elts kk tpos) (IteB t K a) [e, it] e (fun i h => (∃ old, IsEnum h e it ((i : Nat) : Int) old) ∧ ItB t h it a i ∧ e ≠ it) where
  mem := by simp
  obj := fun i h st b hb => by
    obtain ⟨⟨old, he⟩, hi, _⟩ := st
    obtain ⟨o, vs, ho, hd⟩ := itB_obj hi
    rcases List.mem_cons.mp hb with z | z
    · rw [z]; exact ⟨_, he, fun v q => nomatch q⟩
    · rw [List.mem_singleton.mp z]; exact ⟨o, ho, fun v q => by rw [hd] at q; cases q⟩
  keep := fun i h h' ⟨⟨old, he⟩, hi, hne⟩ k => ⟨⟨old, k e (by simp) _ he⟩, itB_at hi fun o q => k it (by simp) o q, hne⟩
  item := by
    intro X eP ew eK hc i pins s σ H E I hf st hg
    subst eP ew eK
    obtain ⟨⟨old, he⟩, hit, hne⟩ := st
    obtain ⟨xs, x, hq, hx⟩ := hg
    obtain ⟨its, rv, p⟩ := Inv.sq I hq
    obtain ⟨u, hu, ru⟩ := rv.get hx
    have lt_e : e < s.heap.objs.size := Heap.lt_size he
    obtain ⟨oi, vi, hoi, hdi⟩ := itB_obj hit
    have lt_i : it < s.heap.objs.size := Heap.lt_size hoi
    have nea : e ≠ a := fun z => by
      obtain ⟨o2, n, e2, d2⟩ := hpB_obj p
      rw [← z, he] at e2; cases e2; cases d2
    have hl : its.toArray.size = its.length := by simp
    have hlt : i < its.toArray.size := by rw [hl]; exact (List.getElem?_eq_some_iff.mp hu).1
    refine wpAny_pyNext_enum_itemD (drawsB (t := t) (A := X.A.in1) (I.ok.hd hc) it a (sq_ne hit p) its.toArray) he ⟨hit, p⟩ hlt hne (fun z => by
      rcases List.mem_cons.mp z with z | z
      · exact hne z
      · exact nea (List.mem_singleton.mp z)) fun y h' tk hy ho hit' hT _ hk => ?_
    obtain rfl : y = u := by
      have hu' : its.toArray[i]? = some u := by simpa using hu
      rw [hu'] at hy; exact (Option.some.inj hy).symm
    refine ⟨_, rfl, wpAny_letOwnedTupleGo_enum (s := { s with heap := h', toks := tk + 1 }) ho fun h'' he' sb => ?_⟩
    have hT2 : h''.get? s.heap.objs.size = some { cls := .type "tuple", data := .seq #[.int i tk, y] } := (sb.2 _ (Nat.ne_of_gt lt_e)).trans hT
    have new : ObjOk X.prog X.w (upd H s.heap.objs.size (.tup [.int (i : Nat), x])) h'' s.heap.objs.size (.tup [.int (i : Nat), x]) := ⟨by show 2 ≤ sizeLine; decide, [.int i tk, y], .cons ⟨_, rfl⟩ (.cons ru .nil), ⟨_, hT2, rfl, _, rfl⟩⟩
    have I1 : Inv X pins σ (upd H s.heap.objs.size (.tup [.int (i : Nat), x])) { s with heap := h'', toks := tk + 1 } := I.turnedNew (ch := [e, it]) (fun b ob hb q => (sb.2 b (fun z => hb (by simp [z]))).trans (hk b ob (fun z => hb (by simp [z])) (fun z => hb (by simp [z])) q)) hf (Nat.le_refl _) new
    refine ⟨.ref s.heap.objs.size, _, I1, rfl, ⟨_, x, rfl, I.hok.fresh (Nat.le_refl _), rfl, fun ys hy => by rw [Inv.sq_inj I hy hq]; exact hx⟩, ⟨⟨y, ?_⟩, itB_at hit'.1 fun o q => (sb.2 it (Ne.symm hne)).trans q, hne⟩, fun b hb => ?_⟩
    · rw [show ((i + 1 : Nat) : Int) = (i : Int) + 1 by omega]; exact he'
    · have hb' : b < s.heap.objs.size := by
        rcases List.mem_cons.mp hb with z | z
        · rw [z]; exact lt_e
        · rw [List.mem_singleton.mp z]; exact lt_i
      rw [upd_ne (Nat.ne_of_lt hb')]
      exact (hf b hb).1
  done := by
    intro X eP ew eK hc i pins s σ H E I hf st hg
    subst eP ew eK
    obtain ⟨⟨old, he⟩, hit, hne⟩ := st
    obtain ⟨xs, hq, hx⟩ := hg
    obtain ⟨its, rv, p⟩ := Inv.sq I hq
    obtain ⟨f0, f1, f2, f3, f4, f5⟩ := hf it (by simp)
    have hl : its.toArray.size = i := by
      have := rv.length
      simp; omega
    exact wpAny_pyNext_enum_endD (drawsB (t := t) (A := X.A.in1) (I.ok.hd hc) it a (sq_ne hit p) its.toArray) he (by rw [hl]; exact ⟨hit, p⟩) fun h' eb => ⟨rfl, I.turned (t' := s.toks) (fun b o hb q => eb b o hb q) f0 f1 f3 f4 f5⟩
  self := fun A i s Q E st h => let ⟨⟨_, he⟩, _⟩ := st; wpAny_pyIter_enum he h
def iEnumB (K : PySem.W.Frag) (ta : TA) : TI := fun σ H R => ta σ H fun vs H1 => ∃ t a xs, vs = [.ref a] ∧ SqB t K H1 a xs ∧ R (IteB t K a) H1
theorem pi_enumB {X : Cx} {e : Expr} {ta : TA} {p pos tpos : Pos} {elts : List Expr} {kk : Nat} (hg : Gl X "enumerate") (hm : X.mg "enumerate" = none) (ha : PA X [e] ta) (hs : starEach [e] X.env = [(false, eval e X.env)]) :
    PI X (.Tuple elts kk tpos) (.Call (.Name "enumerate" p) [e] [] pos) (iEnumB X.K ta) := by
  refine ⟨fun pins s σ H R I h => ?_⟩
  refine Call_ (ld_blt I hg hm boot_enumerate (PyProof.Rows.callWith_type1 (thn (ha.run pos pins s σ H _ I h) fun us s1 ⟨vs, H1, I1, r1, t, a, xs, ex, hq, q⟩ => ?_) hs rfl))
  subst ex
  cases r1 with
  | cons r rr =>
    cases rr
    cases r
    obtain ⟨its, rv, p'⟩ := Inv.sq I1 hq
    refine call_enum1 (beginsB t a its.toArray) p' fun h' he hit hk => wpAny_pyIter_enum he ?_
    have I2 : Inv X pins σ H1 { s1 with heap := h' } := I1.kept (t' := s1.toks) hk
    refine ⟨s1.heap.objs.size + 1, [s1.heap.objs.size + 1, s1.heap.objs.size], _, _, H1, rfl, I2, turn_enumB (t := t) a (s1.heap.objs.size + 1) s1.heap.objs.size, ⟨⟨.none, he⟩, itB_new hit, Nat.succ_ne_self _⟩, fun b hb => ?_, q⟩
    have hle : s1.heap.objs.size ≤ b := by
      rcases List.mem_cons.mp hb with z | z
      · rw [z]; exact Nat.le_succ _
      · rw [List.mem_singleton.mp z]; exact Nat.le_refl _
    exact I1.fpOk hle (I1.hok.fresh hle)
def tagD : D → Bool
  | .tup _ => true
  | _ => false
theorem sv_get {K : PySem.W.Frag} {G H : Hp} {m : Mem} {x : D} {l : List D} {v : V} (h : Sv x m l) (c : Cur K G m H) (r : Rep K G x v) : ∃ p xs, v = .ref p ∧ SqB (tagD x) K H p xs ∧ Reps K G l xs := by
  rcases h with h | rfl
  · obtain ⟨p, xs, e, hq, rx⟩ := lv_get h c r
    have ht : tagD x = false := by rcases h with rfl | ⟨_, rfl, _⟩ <;> rfl
    rw [ht]
    exact ⟨p, xs, e, hq, rx⟩
  · obtain ⟨p, xs, rfl, hq, rx⟩ := r
    exact ⟨p, xs, rfl, SqT.sub c.ex hq, rx⟩
section
variable {B : Bx} {a : Expr} {x : D} {ρ : DE} {m : Mem} {R : RR} {body : List Stmt} {pos p p2 tpos : Pos} {elts : List Expr} {kk : Nat} {l : List D}
theorem ws_for_enV (k : Bok B) (h0 : Bt B "enumerate" "enumerate") (J : Nat → DE → Mem → Prop) (h : WE B a ρ m fun d m1 => d = x ∧ J 0 ρ m1) (hJ : ∀ i ρ m, J i ρ m → Sv x m l)
    (hb : ∀ i d ρ m, l[i]? = some d → J i ρ m → WG B (.Tuple elts kk tpos) (.tup [.int (i : Nat), d]) ρ m fun ρ1 m1 => WSs B body ρ1 m1 { nx := J (i + 1), rt := R.rt, bk := R.nx, ct := J (i + 1) }) (hfin : ∀ ρ m, J l.length ρ m → R.nx ρ m)
    (h1 : starEach [a] B.X.env = (false, eval a B.X.env) :: starEach [] B.X.env) (hs1 : starEach [a] B.X.env = [(false, eval a B.X.env)])
    (hs : ∀ x, foldedSetIterable (.Call (.Name "enumerate" p) [a] [] p2) B.X.env x = pure x) : WS B (.For (.Tuple elts kk tpos) (.Call (.Name "enumerate" p) [a] [] p2) body [] pos) ρ m R := fun G σ H s r c D kq => by
  refine tsX_of (ps_for k.pss k.calm (pi_enumB h0.g h0.m (pa_cons (peX a) pa_nil h1) hs1) (pgX _) (pssX body) hs) ?_
  refine h G σ H s r c _ fun v d m1 G1 H1 s1 c1 r1 ⟨ed, q⟩ => ?_
  subst ed
  obtain ⟨pa, xs0, rfl, hq0, _⟩ := sv_get (hJ 0 ρ m1 q) c1 r1
  have now : ∀ i ρ' m' G' H', Sub G1 G' → Cur B.X.K G' m' H' → J i ρ' m' → ∃ xs, SqB (tagD d) B.X.K H' pa xs ∧ Reps B.X.K G' l xs := fun i ρ' m' G' H' s' c' j => by
    obtain ⟨p', xs, e, hq, rx⟩ := sv_get (hJ i ρ' m' j) c' (Rep.sub s' _ _ r1)
    injection e with e
    subst e
    exact ⟨xs, hq, rx⟩
  refine ⟨tagD d, pa, xs0, rfl, hq0, fun i n σ' H' => n = l.length - i ∧ i ≤ l.length ∧ ∃ ρ' m' G', Sub G1 G' ∧ RepE B.X.K B.X.N.length G' σ' ρ' ∧ Cur B.X.K G' m' H' ∧ J i ρ' m', ⟨l.length, by simp, Nat.zero_le _, ρ, m1, G1, Sub.refl _, r.sub s1, c1, q⟩, ?_⟩
  rintro i n σ' H' ⟨rfl, hi, ρ', m', G', s2, r2, c2, w⟩
  obtain ⟨xs, hq, rx⟩ := now i ρ' m' G' H' s2 c2 w
  have hl := reps_len rx
  by_cases hlt : i < l.length
  · refine .inr ⟨⟨xs, xs[i]'(by omega), hq, by simp [hl, hlt]⟩, fun σ3 H3 => ∃ ρ3 m3 G3, Sub G1 G3 ∧ RepE B.X.K B.X.N.length G3 σ3 ρ3 ∧ Cur B.X.K G3 m3 H3 ∧ J (i + 1) ρ3 m3, fun σ3 H3 p3 => ⟨l.length - (i + 1), by omega, rfl, hlt, p3⟩, fun y H3 yl => ?_⟩
    obtain ⟨T, z, rfl, hT, rfl, yx⟩ := yl
    have hx := yx xs hq
    obtain ⟨d', hd, rd⟩ := reps_get rx hx
    have sb : Sub G' (upd G' T (.tup [.int (i : Nat), z])) := sub_upd (c2.none hT).1
    have c3 := c2.new (o := .tup [.int (i : Nat), z]) hT
    refine hb i d' ρ' m' hd w _ σ' _ _ (((s.trans s1).trans s2).trans sb) (r2.sub sb) c3 ⟨T, _, rfl, SqT.of upd_same, _, _, rfl, rfl, _, _, rfl, Rep.sub sb _ _ rd, rfl⟩ _ fun σ4 ρ4 m4 G4 H4 s4 r4 c4 q4 => ?_
    have s3 := s2.trans sb
    have hT2 : NP B.X.K B.X.N.length (upd G' T (.tup [.int (i : Nat), z])) (J (i + 1)) (fun σ3 H3 => ∃ ρ3 m3 G3, Sub G1 G3 ∧ RepE B.X.K B.X.N.length G3 σ3 ρ3 ∧ Cur B.X.K G3 m3 H3 ∧ J (i + 1) ρ3 m3) := fun σ5 ρ5 m5 G5 H5 s5 r5 c5 q5 => ⟨ρ5, m5, G5, s3.trans s5, r5, c5, q5⟩
    have k4 := kq.sub ((s1.trans s3).trans s4)
    exact q4 G4 σ4 H4 (((s.trans s1).trans s3).trans s4) r4 c4 _ ⟨hT2.sub s4, k4.rt, k4.nx, hT2.sub s4⟩
  · have e : i = l.length := by omega
    subst e
    exact .inl ⟨⟨xs, hq, by omega⟩, kq.nx σ' ρ' m' G' H' (s1.trans s2) r2 c2 (hfin ρ' m' w)⟩
end
end Pd
namespace Pd
open PySem PySem.Spec PyProof.Rows L2
def ownB (L t : Int) (r : GRow) : Bool := decide (L % r.1 = 0) && hitR r t
def ownN (rs : List GRow) (L t : Int) : Option Nat := rs.findIdx? (ownB L t)
def optI : Option Nat → D
  | none => .non
  | some k => .int (k : Nat)
theorem own_some {rs : List GRow} {L t : Int} {i : Nat} {r : GRow} (h : rs[i]? = some r) (k : ownB L t r = true) (n : ∀ x ∈ rs.take i, ownB L t x = false) : ownN rs L t = some i := by
  obtain ⟨hi, rfl⟩ := List.getElem?_eq_some_iff.mp h
  unfold ownN
  rw [List.findIdx?_eq_some_iff_getElem]
  refine ⟨hi, k, fun j hj => ?_⟩
  have : rs[j] ∈ rs.take i := by
    rw [List.mem_take_iff_getElem]
    exact ⟨j, by omega, rfl⟩
  simp [n _ this]
theorem own_none {rs : List GRow} {L t : Int} (n : ∀ x ∈ rs, ownB L t x = false) : ownN rs L t = none := by
  unfold ownN
  rw [List.findIdx?_eq_none_iff]
  exact n
theorem own_take {rs : List GRow} {L t : Int} {i : Nat} {r : GRow} (h : ∀ x ∈ rs.take i, ownB L t x = false) (hi : rs[i]? = some r) (k : ownB L t r = false) : ∀ x ∈ rs.take (i + 1), ownB L t x = false := by
  obtain ⟨hl, rfl⟩ := List.getElem?_eq_some_iff.mp hi
  rw [List.take_succ_eq_append_getElem hl]
  intro x hx
  rcases List.mem_append.mp hx with hx | hx
  · exact h x hx
  · rw [List.mem_singleton.mp hx]; exact k
theorem own_get {rs : List GRow} {L t : Int} {i : Nat} (h : ownN rs L t = some i) : ∃ r, rs[i]? = some r ∧ L % r.1 = 0 ∧ hitR r t = true := by
  unfold ownN at h
  rw [List.findIdx?_eq_some_iff_getElem] at h
  obtain ⟨hi, k, _⟩ := h
  unfold ownB at k
  rw [Bool.and_eq_true] at k
  exact ⟨rs[i], List.getElem?_eq_getElem hi, of_decide_eq_true k.1, k.2⟩
theorem own_of {rs : List GRow} {L t : Int} {i : Nat} {r : GRow} (h : rs[i]? = some r) (h1 : L % r.1 = 0) (h2 : hitR r t = true) : ownN rs L t ≠ none := fun e => by
  unfold ownN at e
  rw [List.findIdx?_eq_none_iff] at e
  have := e r (List.mem_of_getElem? h)
  unfold ownB at this
  rw [h2, decide_eq_true h1] at this; cases this
def isCyc (rs : List GRow) (L : Nat) : Bool := (List.range L).all fun i => (ownN rs L i).isSome
def cycN (rs : List GRow) : Option Nat := (List.range 32).find? (fun k => isCyc rs (k + 1)) |>.map (· + 1)
def ownsL (rs : List GRow) (L : Nat) : List D := (List.range L).map fun i : Nat => optI (ownN rs L i)
theorem isCyc_get {rs : List GRow} {L i : Nat} (h : isCyc rs L = true) (hi : i < L) : ∃ k, ownN rs L i = some k := by
  have := List.all_eq_true.mp h i (List.mem_range.mpr hi)
  exact Option.isSome_iff_exists.mp this
theorem isCyc_no {rs : List GRow} {L i : Nat} (hi : i < L) (h : ownN rs L i = none) : isCyc rs L = false := by
  cases e : isCyc rs L with
  | false => rfl
  | true => obtain ⟨k, hk⟩ := isCyc_get e hi; rw [h] at hk; cases hk
theorem isCyc_yes {rs : List GRow} {L : Nat} (h : ∀ i < L, ∃ k, ownN rs L (i : Nat) = some k) : isCyc rs L = true := List.all_eq_true.mpr fun i hi => by
  obtain ⟨k, hk⟩ := h i (List.mem_range.mp hi)
  rw [hk]; rfl
theorem cyc_some {rs : List GRow} {k : Nat} (hk : k < 32) (h : isCyc rs (k + 1) = true) (n : ∀ j < k, isCyc rs (j + 1) = false) : cycN rs = some (k + 1) := by
  unfold cycN
  have : (List.range 32).find? (fun k => isCyc rs (k + 1)) = some k := by
    rw [List.find?_range_eq_some]
    exact ⟨h, List.mem_range.mpr hk, fun j hj => by simp [n j hj]⟩
  rw [this]; rfl
theorem cyc_none {rs : List GRow} (n : ∀ j < 32, isCyc rs (j + 1) = false) : cycN rs = none := by
  unfold cycN
  have : (List.range 32).find? (fun k => isCyc rs (k + 1)) = none := by
    rw [List.find?_range_eq_none]
    intro j hj
    simp [n j hj]
  rw [this]; rfl
theorem cyc_get {rs : List GRow} {L : Nat} (h : cycN rs = some L) : 1 ≤ L ∧ L ≤ 32 ∧ isCyc rs L = true ∧ ∀ j, 1 ≤ j → j < L → isCyc rs j = false := by
  unfold cycN at h
  obtain ⟨k, hk, rfl⟩ := Option.map_eq_some_iff.mp h
  rw [List.find?_range_eq_some] at hk
  obtain ⟨h1, h2, h3⟩ := hk
  have h2 := List.mem_range.mp h2
  refine ⟨by omega, by omega, h1, fun j j1 j2 => ?_⟩
  have := h3 (j - 1) (by omega)
  rw [show j - 1 + 1 = j by omega] at this
  simpa using this
theorem cyc_none_get {rs : List GRow} (h : cycN rs = none) {L : Nat} (l1 : 1 ≤ L) (l2 : L ≤ 32) : isCyc rs L = false := by
  unfold cycN at h
  rw [Option.map_eq_none_iff, List.find?_range_eq_none] at h
  have := h (L - 1) (by omega)
  rw [show L - 1 + 1 = L by omega] at this
  simpa using this
theorem hitR_mod {r : GRow} {L t : Int} (h : L % r.1 = 0) (hh : hitR r (t % L) = true) : hitR r t = true := by
  have h1 := Int.dvd_of_emod_eq_zero (of_decide_eq_true hh)
  have h2 := Int.dvd_of_emod_eq_zero h
  refine decide_eq_true (Int.emod_eq_zero_of_dvd ?_)
  have e := Int.mul_ediv_add_emod t L
  have : t - r.2 = L * (t / L) + (t % L - r.2) := by omega
  rw [this]
  exact Int.dvd_add (Int.dvd_trans h2 (Int.dvd_mul_right _ _)) h1
theorem cyc_hits {rs : List GRow} {L : Nat} (l0 : 0 < L) (h : isCyc rs L = true) (t : Int) : ∃ i r, ownN rs L (t % L) = some i ∧ rs[i]? = some r ∧ (L : Int) % r.1 = 0 ∧ hitR r t = true := by
  have h0 : 0 ≤ t % (L : Int) := Int.emod_nonneg _ (by omega)
  have h1 : t % (L : Int) < L := Int.emod_lt_of_pos _ (by omega)
  obtain ⟨k, hk⟩ := isCyc_get (i := (t % (L : Int)).toNat) h (by omega)
  rw [Int.toNat_of_nonneg h0] at hk
  obtain ⟨r, a, b, c⟩ := own_get hk
  exact ⟨k, r, hk, a, b, hitR_mod b c⟩
theorem cyc_all {rs : List GRow} {L : Nat} (h : cycN rs = some L) (t : Int) : hitB rs t = true := by
  obtain ⟨l1, _, hc, _⟩ := cyc_get h
  obtain ⟨i, r, _, a, _, c⟩ := cyc_hits (by omega) hc t
  exact hit_yes a c
theorem cyc_ex {rs : List GRow} (hl : rs.length ≤ 6) (h0 : Pos1 rs) (h : ∀ x, hitB rs x = true) : ∃ L, cycN rs = some L := by
  obtain ⟨L, l0, l1, hx⟩ := cycle_rows hl h0 h
  have hc : isCyc rs L = true := isCyc_yes fun i hi => by
    obtain ⟨j, r, a, b, c⟩ := hx (i : Nat)
    cases e : ownN rs L (i : Nat) with
    | none => exact absurd e (own_of a b c)
    | some k => exact ⟨k, rfl⟩
  cases e : cycN rs with
  | some L => exact ⟨L, rfl⟩
  | none => rw [cyc_none_get e l0 l1] at hc; cases hc
theorem cyc_ex64 {rs : List GRow} (hl : rs.length ≤ 6) (h0 : Pos1 rs) (h : ∀ j < 64, hitB rs (0 + (j : Nat)) = true) : ∃ L, cycN rs = some L := cyc_ex hl h0 fun x => cover_all hl h x
theorem wc_isLv {B : Bx} {m : Mem} {Q : D → Mem → Prop} {x : D} {l : List D} (h : Lv x m l) (q : Q (.bl true) m) : WC B (.builtin "isinstance") [x, .ty "list"] m Q := by
  rcases h with rfl | ⟨p, rfl, hm⟩
  · exact wc_isListT rfl rfl q
  · exact wc_isMList hm q
theorem optI_isN {o : Option Nat} : isN (optI o) = o.isNone := by cases o <;> rfl
theorem lv_isN {x : D} {m : Mem} {l : List D} (h : Lv x m l) : isN x = false := by rcases h with rfl | ⟨p, rfl, _⟩ <;> rfl
end Pd
namespace Pd
open PySem PySem.Spec PyProof.Rows L2
def TurnsD (K : PySem.W.Frag) (J : It) (G1 : Hp) (ds : List D) (St : Mem → Prop) : Prop := ∀ i G' m' H', Sub G1 G' → Cur K G' m' H' → St m' →
  (i < ds.length → J.go i H' ∧ ∀ v H2, J.yld i H' v H2 → ∃ G2 d, Sub G' G2 ∧ Cur K G2 m' H2 ∧ ds[i]? = some d ∧ Rep K G2 d v) ∧ (i = ds.length → J.stop i H')
def tiX (X : Cx) (tg iter : Expr) : TI := fun σ H R => ∀ pins s, Inv X pins σ H s → wpAny (model X.prog X.w) X.A (eval iter X.env) (fun v s1 => wpAny (model X.prog X.w) X.A (pyIter v) (PIE X pins σ tg R) X.xe s1) X.xe s
theorem piX {X : Cx} (tg iter : Expr) : PI X tg iter (tiX X tg iter) := ⟨fun pins s σ H R I h => h pins s I⟩
theorem tiX_of {X : Cx} {tg iter : Expr} {t : TI} (h : PI X tg iter t) {σ : L2.St} {H : Hp} {R : It → Hp → Prop} (q : t σ H R) : tiX X tg iter σ H R := fun pins s I => h.run pins s σ H R I q
abbrev QJ := List D → (Mem → Prop) → Mem → Prop
def WJ (B : Bx) (tg iter : Expr) (ρ : DE) (m : Mem) (Q : QJ) : Prop := ∀ G σ H, Sub B.G0 G → RepE B.X.K B.X.N.length G σ ρ → Cur B.X.K G m H → ∀ R : It → Hp → Prop,
  (∀ J m1 G1 H1 ds St, Sub G G1 → Cur B.X.K G1 m1 H1 → TurnsD B.X.K J G1 ds St → Q ds St m1 → R J H1) → tiX B.X tg iter σ H R
section
variable {B : Bx} {a b e tg iter : Expr} {x : D} {ρ : DE} {m : Mem} {R : RR} {Q : QJ} {body orelse : List Stmt} {pos p p2 tpos : Pos} {elts : List Expr} {kk : Nat} {l : List D}
theorem WJ.mono {Q' : QJ} (h : WJ B tg iter ρ m Q) (i : ∀ ds St m1, Q ds St m1 → Q' ds St m1) : WJ B tg iter ρ m Q' := fun G σ H s r c R k => h G σ H s r c R fun J m1 G1 H1 ds St s1 c1 t q => k J m1 G1 H1 ds St s1 c1 t (i ds St m1 q)
theorem turns_seq {t : Bool} {K : PySem.W.Frag} {J : It} {G1 : Hp} {p : Addr} {x : D} {l : List D} (r1 : Rep K G1 x (.ref p)) (ht : tagD x = t)
    (hg : ∀ i H xs y, SqB t K H p xs → xs[i]? = some y → J.go i H) (hy : ∀ i H v H', J.yld i H v H' → H' = H ∧ ∀ xs, SqB t K H p xs → xs[i]? = some v) (hs : ∀ i H xs, SqB t K H p xs → xs.length ≤ i → J.stop i H) : TurnsD K J G1 l (fun m' => Sv x m' l) := fun i G' m' H' s' c' hv => by
  obtain ⟨p', xs, e, hq, rx⟩ := sv_get hv c' (Rep.sub s' _ _ r1)
  injection e with e
  subst e
  rw [ht] at hq
  have hl := reps_len rx
  refine ⟨fun hi => ?_, fun hi => hs i H' xs hq (by omega)⟩
  have hx : xs[i]? = some (xs[i]'(by omega)) := List.getElem?_eq_getElem (by omega)
  refine ⟨hg i H' xs _ hq hx, fun v H2 y => ?_⟩
  obtain ⟨rfl, y⟩ := hy i H' v H2 y
  obtain ⟨d, hd, rd⟩ := reps_get rx (y xs hq)
  exact ⟨G', d, Sub.refl _, c', hd, rd⟩
theorem wj_seq (h : WE B iter ρ m fun d m1 => ∃ l, Sv d m1 l ∧ Q l (fun m' => Sv d m' l) m1) : WJ B tg iter ρ m Q := fun G σ H s r c R k => by
  intro pins s0 I
  refine thn (h G σ H s r c (fun v H1 => ∃ d m1 G1 l, Sub G G1 ∧ Cur B.X.K G1 m1 H1 ∧ Rep B.X.K G1 d v ∧ Sv d m1 l ∧ Q l (fun m' => Sv d m' l) m1) (fun v d m1 G1 H1 s1 c1 r1 ⟨l, q1, q2⟩ => ⟨d, m1, G1, l, s1, c1, r1, q1, q2⟩) pins s0 I) fun u s1 ⟨v, H1, I1, rv, d, m1, G1, l, sb, c1, r1, q1, q2⟩ => ?_
  obtain ⟨pa, xs, rfl, hq, rx⟩ := sv_get q1 c1 r1
  obtain rfl : u = Value.ref pa := rv
  cases ht : tagD d with
  | true =>
    rw [ht] at hq
    have hk : R (Itt B.X.K pa) H1 := k _ m1 G1 H1 l _ sb c1 (turns_seq r1 ht (fun i H xs y a b => ⟨xs, y, a, b⟩) (fun i H v H' y => y) (fun i H xs a b => ⟨xs, a, b⟩)) q2
    obtain ⟨its, rv2, p2, hz⟩ := I1.tuple hq
    refine wpAny_pyIter_tuple (show s1.heap.IsTuple pa its.toArray from p2) ?_
    refine ⟨s1.heap.objs.size, [s1.heap.objs.size], _, _, H1, rfl, I1.kept (t' := s1.toks) fun b o e => Heap.get?_push_of_some _ e, turn_tuple pa _, ⟨_, Heap.get?_push_size _ rfl, rfl, rfl⟩, fun b hb => ?_, hk⟩
    obtain rfl := List.mem_singleton.mp hb
    exact I1.fpOk (Nat.le_refl _) (I1.hok.fresh (Nat.le_refl _))
  | false =>
    rw [ht] at hq
    have hk : R (Itl B.X.K pa) H1 := k _ m1 G1 H1 l _ sb c1 (turns_seq r1 ht (fun i H xs y a b => ⟨xs, y, a, b⟩) (fun i H v H' y => y) (fun i H xs a b => ⟨xs, a, b⟩)) q2
    obtain ⟨its, rv2, p2, hz⟩ := I1.list hq
    refine wpAny_pyIter_list p2.isList ?_
    refine ⟨s1.heap.objs.size, [s1.heap.objs.size], _, _, H1, rfl, I1.kept (t' := s1.toks) fun b o e => Heap.get?_push_of_some _ e, turn_list pa _, ⟨_, Heap.get?_push_size _ rfl, rfl, rfl⟩, fun b hb => ?_, hk⟩
    obtain rfl := List.mem_singleton.mp hb
    exact I1.fpOk (Nat.le_refl _) (I1.hok.fresh (Nat.le_refl _))
theorem turns_rng {K : PySem.W.Frag} {G1 : Hp} {lo : Int} {n : Nat} : TurnsD K (Itr lo n) G1 (rngD lo n) (fun _ => True) := fun i G' m' H' s' c' _ => by
  refine ⟨fun hi => ?_, fun hi => ?_⟩
  · rw [rngD_len] at hi
    refine ⟨hi, fun v H2 ⟨e1, e2⟩ => ?_⟩
    subst e1 e2
    exact ⟨G', _, Sub.refl _, c', rngD_get hi, rfl⟩
  · rw [rngD_len] at hi
    show n ≤ i
    omega
theorem wj_r1 (h0 : Bt B "range" "range") (h : WE B a ρ m fun x m1 => ∃ j : Int, x = .int j ∧ -(2 ^ 62) ≤ j ∧ j < 2 ^ 62 ∧ Q (rngD 0 j.toNat) (fun _ => True) m1)
    (h1 : starEach [a] B.X.env = (false, eval a B.X.env) :: starEach [] B.X.env) (hs1 : starEach [a] B.X.env = [(false, eval a B.X.env)]) : WJ B tg (.Call (.Name "range" p) [a] [] p2) ρ m Q := fun G σ H s r c R k => by
  refine tiX_of (pi_range1 h0.g h0.m (pa_cons (peX a) pa_nil h1) hs1) ?_
  refine h G σ H s r c _ fun v d m1 G1 H1 s1 c1 r1 ⟨j, ed, b1, b2, q⟩ => ?_
  subst ed
  obtain rfl : v = .int j := r1
  exact ⟨j, rfl, b1, b2, k _ m1 G1 H1 _ _ s1 c1 turns_rng q⟩
theorem wj_r2 (h0 : Bt B "range" "range") (h : WE B a ρ m fun x m1 => Pd.WE B b ρ m1 fun y m2 => ∃ i j : Int, x = .int i ∧ y = .int j ∧ Q (rngD i (j - i).toNat) (fun _ => True) m2)
    (h1 : starEach [a, b] B.X.env = (false, eval a B.X.env) :: starEach [b] B.X.env) (h2 : starEach [b] B.X.env = (false, eval b B.X.env) :: starEach [] B.X.env)
    (hs1 : starEach [a, b] B.X.env = [(false, eval a B.X.env), (false, eval b B.X.env)]) (hs2 : starEach [b] B.X.env = [(false, eval b B.X.env)]) : WJ B tg (.Call (.Name "range" p) [a, b] [] p2) ρ m Q := fun G σ H s r c R k => by
  refine tiX_of (pi_rangeX h0.g h0.m (pa_cons (peX a) (pa_cons (peX b) pa_nil h2) h1) hs1 hs2) ?_
  refine h G σ H s r c _ fun v d m1 G1 H1 s1 c1 r1 q => ?_
  refine q G1 σ H1 (s.trans s1) (r.sub s1) c1 _ fun v2 d2 m2 G2 H2 s2 c2 r2 ⟨i, j, e1, e2, qq⟩ => ?_
  subst e1 e2
  obtain rfl : v = .int i := r1
  obtain rfl : v2 = .int j := r2
  exact ⟨i, j, rfl, k _ m2 G2 H2 _ _ (s1.trans s2) c2 turns_rng qq⟩
def enL (l : List D) : List D := (List.range l.length).zipWith (fun i d => .tup [.int (i : Nat), d]) l
theorem enL_len {l : List D} : (enL l).length = l.length := by simp [enL]
theorem enL_get {l : List D} {i : Nat} {d : D} (h : l[i]? = some d) : (enL l)[i]? = some (.tup [.int (i : Nat), d]) := by
  obtain ⟨hi, rfl⟩ := List.getElem?_eq_some_iff.mp h
  simp [enL, hi]
theorem wj_en (h0 : Bt B "enumerate" "enumerate") (h : WE B a ρ m fun x m1 => ∃ l, Sv x m1 l ∧ Q (enL l) (fun m' => Sv x m' l) m1)
    (h1 : starEach [a] B.X.env = (false, eval a B.X.env) :: starEach [] B.X.env) (hs1 : starEach [a] B.X.env = [(false, eval a B.X.env)]) : WJ B (.Tuple elts kk tpos) (.Call (.Name "enumerate" p) [a] [] p2) ρ m Q := fun G σ H s r c R k => by
  refine tiX_of (pi_enumB h0.g h0.m (pa_cons (peX a) pa_nil h1) hs1) ?_
  refine h G σ H s r c _ fun v d m1 G1 H1 s1 c1 r1 ⟨l, q1, q2⟩ => ?_
  obtain ⟨pa, xs0, rfl, hq0, _⟩ := sv_get q1 c1 r1
  refine ⟨tagD d, pa, xs0, rfl, hq0, k _ m1 G1 H1 _ _ s1 c1 (fun i G' m' H' s' c' hv => ?_) q2⟩
  obtain ⟨p', xs, e, hq, rx⟩ := sv_get hv c' (Rep.sub s' _ _ r1)
  injection e with e
  subst e
  have hl := reps_len rx
  rw [enL_len]
  refine ⟨fun hi => ?_, fun hi => ⟨xs, hq, by omega⟩⟩
  have hx : xs[i]? = some (xs[i]'(by omega)) := List.getElem?_eq_getElem (by omega)
  refine ⟨⟨xs, _, hq, hx⟩, fun v H2 ⟨T, y, e1, hT, e2, yx⟩ => ?_⟩
  subst e1 e2
  obtain ⟨d', hd, rd⟩ := reps_get rx (yx xs hq)
  have sb : Sub G' (upd G' T (.tup [.int (i : Nat), y])) := sub_upd (c'.none hT).1
  exact ⟨_, _, sb, c'.new hT, enL_get hd, T, _, rfl, SqT.of upd_same, _, _, rfl, rfl, _, _, rfl, Rep.sub sb _ _ rd, rfl⟩
theorem ws_forJ (k : Bok B) (h : WJ B tg iter ρ m fun ds St m1 => ∃ J : Nat → DE → Mem → Prop, J 0 ρ m1 ∧ (∀ i ρ m, J i ρ m → St m) ∧
      (∀ i d ρ m, ds[i]? = some d → J i ρ m → WG B tg d ρ m fun ρ1 m1 => WSs B body ρ1 m1 { nx := J (i + 1), rt := R.rt, bk := R.nx, ct := J (i + 1) }) ∧ ∀ ρ m, J ds.length ρ m → R.nx ρ m)
    (hs : ∀ x, foldedSetIterable iter B.X.env x = pure x) : WS B (.For tg iter body [] pos) ρ m R := fun G σ H s r c D kq => by
  refine tsX_of (ps_for k.pss k.calm (piX tg iter) (pgX tg) (pssX body) hs) ?_
  refine h G σ H s r c _ fun It0 m1 G1 H1 ds St s1 c1 tn ⟨J, j0, jS, jb, je⟩ => ?_
  refine ⟨fun i n σ' H' => n = ds.length - i ∧ i ≤ ds.length ∧ ∃ ρ' m' G', Sub G1 G' ∧ RepE B.X.K B.X.N.length G' σ' ρ' ∧ Cur B.X.K G' m' H' ∧ J i ρ' m', ⟨ds.length, by simp, Nat.zero_le _, ρ, m1, G1, Sub.refl _, r.sub s1, c1, j0⟩, ?_⟩
  rintro i n σ' H' ⟨rfl, hi, ρ', m', G', s2, r2, c2, w⟩
  obtain ⟨go, st⟩ := tn i G' m' H' s2 c2 (jS _ _ _ w)
  by_cases hlt : i < ds.length
  · obtain ⟨g1, g2⟩ := go hlt
    refine .inr ⟨g1, fun σ3 H3 => ∃ ρ3 m3 G3, Sub G1 G3 ∧ RepE B.X.K B.X.N.length G3 σ3 ρ3 ∧ Cur B.X.K G3 m3 H3 ∧ J (i + 1) ρ3 m3, fun σ3 H3 p3 => ⟨ds.length - (i + 1), by omega, rfl, hlt, p3⟩, fun y H3 yl => ?_⟩
    obtain ⟨G3, d, sb, c3, hd, rd⟩ := g2 y H3 yl
    refine jb i d ρ' m' hd w _ σ' _ _ (((s.trans s1).trans s2).trans sb) (r2.sub sb) c3 rd _ fun σ4 ρ4 m4 G4 H4 s4 r4 c4 q4 => ?_
    have s3 := s2.trans sb
    have hT2 : NP B.X.K B.X.N.length G3 (J (i + 1)) (fun σ3 H3 => ∃ ρ3 m3 G3, Sub G1 G3 ∧ RepE B.X.K B.X.N.length G3 σ3 ρ3 ∧ Cur B.X.K G3 m3 H3 ∧ J (i + 1) ρ3 m3) := fun σ5 ρ5 m5 G5 H5 s5 r5 c5 q5 => ⟨ρ5, m5, G5, s3.trans s5, r5, c5, q5⟩
    have k4 := kq.sub ((s1.trans s3).trans s4)
    exact q4 G4 σ4 H4 (((s.trans s1).trans s3).trans s4) r4 c4 _ ⟨hT2.sub s4, k4.rt, k4.nx, hT2.sub s4⟩
  · have e : i = ds.length := by omega
    subst e
    exact .inl ⟨st rfl, kq.nx σ' ρ' m' G' H' (s1.trans s2) r2 c2 (je ρ' m' w)⟩
theorem ws_forJE (k : Bok B) (h : WJ B tg iter ρ m fun ds St m1 => ∃ J : Nat → DE → Mem → Prop, J 0 ρ m1 ∧ (∀ i ρ m, J i ρ m → St m) ∧
      (∀ i d ρ m, ds[i]? = some d → J i ρ m → WG B tg d ρ m fun ρ1 m1 => WSs B body ρ1 m1 { nx := J (i + 1), rt := R.rt, bk := R.nx, ct := J (i + 1) }) ∧ ∀ ρ m, J ds.length ρ m → WSs B orelse ρ m R)
    (hs : ∀ x, foldedSetIterable iter B.X.env x = pure x) : WS B (.For tg iter body orelse pos) ρ m R := fun G σ H s r c D kq => by
  refine tsX_of (ps_forE k.pss k.calm (piX tg iter) (pgX tg) (pssX body) (pssX orelse) hs) ?_
  refine h G σ H s r c _ fun It0 m1 G1 H1 ds St s1 c1 tn ⟨J, j0, jS, jb, je⟩ => ?_
  refine ⟨fun i n σ' H' => n = ds.length - i ∧ i ≤ ds.length ∧ ∃ ρ' m' G', Sub G1 G' ∧ RepE B.X.K B.X.N.length G' σ' ρ' ∧ Cur B.X.K G' m' H' ∧ J i ρ' m', ⟨ds.length, by simp, Nat.zero_le _, ρ, m1, G1, Sub.refl _, r.sub s1, c1, j0⟩, ?_⟩
  rintro i n σ' H' ⟨rfl, hi, ρ', m', G', s2, r2, c2, w⟩
  obtain ⟨go, st⟩ := tn i G' m' H' s2 c2 (jS _ _ _ w)
  by_cases hlt : i < ds.length
  · obtain ⟨g1, g2⟩ := go hlt
    refine .inr ⟨g1, fun σ3 H3 => ∃ ρ3 m3 G3, Sub G1 G3 ∧ RepE B.X.K B.X.N.length G3 σ3 ρ3 ∧ Cur B.X.K G3 m3 H3 ∧ J (i + 1) ρ3 m3, fun σ3 H3 p3 => ⟨ds.length - (i + 1), by omega, rfl, hlt, p3⟩, fun y H3 yl => ?_⟩
    obtain ⟨G3, d, sb, c3, hd, rd⟩ := g2 y H3 yl
    refine jb i d ρ' m' hd w _ σ' _ _ (((s.trans s1).trans s2).trans sb) (r2.sub sb) c3 rd _ fun σ4 ρ4 m4 G4 H4 s4 r4 c4 q4 => ?_
    have s3 := s2.trans sb
    have hT2 : NP B.X.K B.X.N.length G3 (J (i + 1)) (fun σ3 H3 => ∃ ρ3 m3 G3, Sub G1 G3 ∧ RepE B.X.K B.X.N.length G3 σ3 ρ3 ∧ Cur B.X.K G3 m3 H3 ∧ J (i + 1) ρ3 m3) := fun σ5 ρ5 m5 G5 H5 s5 r5 c5 q5 => ⟨ρ5, m5, G5, s3.trans s5, r5, c5, q5⟩
    have k4 := kq.sub ((s1.trans s3).trans s4)
    exact q4 G4 σ4 H4 (((s.trans s1).trans s3).trans s4) r4 c4 _ ⟨hT2.sub s4, k4.rt, k4.nx, hT2.sub s4⟩
  · have e : i = ds.length := by omega
    subst e
    exact .inl ⟨st rfl, je ρ' m' w G' σ' H' ((s.trans s1).trans s2) r2 c2 D (kq.sub (s1.trans s2))⟩
end
inductive Tgt where
  | nm (j : Nat)
  | tp (js : List Nat)
def gNames : List Nat → TGs
  | [] => gNil
  | j :: js => gCons (gName j) (gNames js)
def Tgt.g (K : PySem.W.Frag) : Tgt → TG
  | .nm j => gName j
  | .tp js => gTup K js.length (gNames js)
def Tgt.js : Tgt → List Nat
  | .nm j => [j]
  | .tp js => js
def puts : List Nat → List D → DE → DE
  | j :: js, d :: ds, ρ => puts js ds ((j, d) :: ρ)
  | _, _, ρ => ρ
def Tgt.put : Tgt → D → DE → Option DE
  | .nm j, d, ρ => some ((j, d) :: ρ)
  | .tp js, .tup ds, ρ => if js.length = ds.length then some (puts js ds ρ) else none
  | .tp _, _, _ => none
inductive NmsOk (N : List Str) (sc : Scope) : List Expr → List Nat → Prop where
  | nil : NmsOk N sc [] []
  | cons {v : Str} {vp : Pos} {j : Nat} {es : List Expr} {js : List Nat} (hi : N[j]? = some v) (hx : sc.names.lookup v = some .local) (h : NmsOk N sc es js) : NmsOk N sc (.Name v vp :: es) (j :: js)
inductive TgtOk (N : List Str) (sc : Scope) : Expr → Tgt → Prop where
  | nm {v : Str} {vp : Pos} {j : Nat} (hi : N[j]? = some v) (hx : sc.names.lookup v = some .local) : TgtOk N sc (.Name v vp) (.nm j)
  | tp {es : List Expr} {k0 : Nat} {pos : Pos} {js : List Nat} (h : NmsOk N sc es js) : TgtOk N sc (.Tuple es k0 pos) (.tp js)
theorem nms_pgs {X : Cx} {N : List Str} {sc sc0 : Scope} (hN : X.N.Nodup) (eN : X.N = N) (hr : X.env.scope = relS sc sc0) : ∀ {es : List Expr} {js : List Nat}, NmsOk N sc es js → PGs X es (gNames js) ∧ (assignEach es X.env).length = js.length ∧ (assignEach es X.env).findIdx? (·.1) = none
  | _, _, .nil => ⟨pgs_nil, rfl, rfl⟩
  | _, _, .cons (v := v) hi hx h => by
    obtain ⟨a, b, c⟩ := nms_pgs hN eN hr h
    have e : X.env.scope.names.lookup v = some .local := by rw [hr]; exact lookup_relS_keep (by decide) hx
    refine ⟨pgs_cons (pg_name hN (by rw [eN]; exact hi) (.inl e) (.inr e)) a rfl, ?_, ?_⟩
    · show (_ :: assignEach _ X.env).length = _
      rw [List.length_cons, b]; rfl
    · show List.findIdx? (·.1) ((false, _) :: assignEach _ X.env) = none
      rw [List.findIdx?_cons, c]; rfl
theorem lc_tgG {B : Bx} {sc : Scope} {tg : Expr} {T : Tgt} (k : Bok B) (h : TgtOk B.X.N sc tg T) : ∀ (s : Shared) (H : Hp) (C : Addr) (cl : List (Str × Addr)) (fp : List Addr), PG (B.X.blk s H sc (compEnvC sc cl C B.X.env) fp) tg (T.g B.X.K) := fun s H C cl fp => by
  cases h with
  | nm hi hx => exact lc_tg k.nd hi hx s H C cl fp
  | tp h =>
    obtain ⟨a, b, c⟩ := nms_pgs (X := B.X.blk s H sc (compEnvC sc cl C B.X.env) fp) (sc0 := B.X.env.scope) k.nd rfl rfl h
    exact pg_tup k.calm a b c
theorem wipe_set {σ : L2.St} {i : Nat} {x : Option V} : ∀ {vs : List Nat}, i ∈ vs → wipe (σ.set i x) vs = wipe σ vs
  | v :: vs, h => by
    show (wipe (σ.set i x) vs).set v none = (wipe σ vs).set v none
    rcases List.mem_cons.mp h with e | h
    · subst e
      by_cases hm : i ∈ vs
      · rw [wipe_set hm]
      · have : ∀ (vs : List Nat), i ∉ vs → wipe (σ.set i x) vs = (wipe σ vs).set i x := by
          intro vs
          induction vs with
          | nil => intro _; rfl
          | cons w ws ih =>
            intro hw
            have h1 : i ≠ w := fun e => hw (by simp [e])
            have h2 : i ∉ ws := fun e => hw (by simp [e])
            show (wipe (σ.set i x) ws).set w none = ((wipe σ ws).set w none).set i x
            rw [ih h2, List.set_comm _ _ h1]
        rw [this vs hm, List.set_set]
    · rw [wipe_set h]
theorem wipe_idem {σ : L2.St} : ∀ {vs ws : List Nat}, (∀ v ∈ vs, v ∈ ws) → wipe (wipe σ vs) ws = wipe σ ws
  | [], _, _ => rfl
  | v :: vs, ws, h => by
    show wipe ((wipe σ vs).set v none) ws = _
    rw [wipe_set (h v (by simp)), wipe_idem fun u hu => h u (by simp [hu])]
theorem repe_wipe {K : PySem.W.Frag} {n : Nat} {G : Hp} {σ : L2.St} {ρ : DE} (r : RepE K n G σ ρ) : ∀ {vs : List Nat}, (∀ v ∈ vs, lk ρ v = none) → RepE K n G (wipe σ vs) ρ
  | [], _ => r
  | v :: vs, h => by
    have r1 := repe_wipe r (vs := vs) fun u hu => h u (by simp [hu])
    refine ⟨by show ((wipe σ vs).set v none).length = n; rw [List.length_set]; exact r1.len, fun i d e => ?_⟩
    obtain ⟨x, a, b⟩ := r1.at_ i d e
    have hne : v ≠ i := fun z => by rw [z] at h; have := h i (by simp); rw [this] at e; cases e
    exact ⟨x, by show ((wipe σ vs).set v none)[i]? = _; rw [List.getElem?_set_ne hne]; exact a, b⟩
def offD (vs : List Nat) : DE → DE
  | [] => []
  | (j, d) :: r => if j ∈ vs then offD vs r else (j, d) :: offD vs r
theorem lk_off {vs : List Nat} : ∀ {ρ : DE} {i : Nat} {d : D}, lk (offD vs ρ) i = some d → i ∉ vs ∧ lk ρ i = some d
  | [], _, _, h => by cases h
  | (j, u) :: r, i, d, h => by
    unfold offD at h
    by_cases hj : j ∈ vs
    · rw [if_pos hj] at h
      obtain ⟨a, b⟩ := lk_off h
      refine ⟨a, ?_⟩
      rw [lk_cons, if_neg (fun e : j = i => a (e ▸ hj))]; exact b
    · rw [if_neg hj, lk_cons] at h
      rw [lk_cons]
      by_cases e : j = i
      · subst e
        rw [if_pos rfl] at h ⊢
        exact ⟨hj, h⟩
      · rw [if_neg e] at h ⊢
        exact lk_off h
theorem off_no {vs : List Nat} {ρ : DE} {v : Nat} (hv : v ∈ vs) : lk (offD vs ρ) v = none := by
  cases e : lk (offD vs ρ) v with
  | none => rfl
  | some d => exact absurd hv (lk_off e).1
theorem repe_off {K : PySem.W.Frag} {n : Nat} {G : Hp} {σ : L2.St} {ρ : DE} {vs : List Nat} (r : RepE K n G σ ρ) : RepE K n G (wipe σ vs) (offD vs ρ) := repe_wipe (r.weak fun i d e => (lk_off e).2) fun v hv => off_no hv
theorem names_put {K : PySem.W.Frag} {n : Nat} {G H : Hp} {Q : L2.St → Hp → Prop} {vs : List Nat} {σ0 : L2.St} : ∀ {js : List Nat} {ds : List D} {xs : List V} {σ : L2.St} {ρ : DE}, RepE K n G σ ρ → Reps K G ds xs → js.length = ds.length → (∀ j ∈ js, j < n ∧ j ∈ vs) → wipe σ vs = wipe σ0 vs →
    (∀ σ2, RepE K n G σ2 (puts js ds ρ) → wipe σ2 vs = wipe σ0 vs → Q σ2 H) → gNames js xs σ H Q
  | [], [], _, σ, ρ, r, rd, _, _, hw, k => ⟨rd, k σ r hw⟩
  | j :: js, d :: ds, _, σ, ρ, r, ⟨x, t, e, h1, h2⟩, hl, hj, hw, k => by
    subst e
    refine ⟨x, t, rfl, ?_⟩
    have hj0 := hj j (by simp)
    exact names_put (ds := ds) (ρ := (j, d) :: ρ) (r.set h1 j hj0.1) h2 (by simpa using hl) (fun u hu => hj u (by simp [hu])) (by rw [wipe_set hj0.2]; exact hw) k
  | [], _ :: _, _, _, _, _, _, hl, _, _, _ => by cases hl
  | _ :: _, [], _, _, _, _, _, hl, _, _, _ => by cases hl
theorem tgt_put {K : PySem.W.Frag} {n : Nat} {G H : Hp} {Q : L2.St → Hp → Prop} {vs : List Nat} {T : Tgt} {d : D} {x : V} {σ : L2.St} {ρ ρ' : DE} {m : Mem} (c : Cur K G m H) (r : RepE K n G σ ρ) (rd : Rep K G d x) (hp : T.put d ρ = some ρ') (hj : ∀ j ∈ T.js, j < n ∧ j ∈ vs)
    (k : ∀ σ2, RepE K n G σ2 ρ' → wipe σ2 vs = wipe σ vs → Q σ2 H) : T.g K x σ H Q := by
  cases T with
  | nm j =>
    have e : (j, d) :: ρ = ρ' := Option.some.inj hp
    subst e
    obtain ⟨h1, h2⟩ := hj j (by simp [Tgt.js])
    exact k _ (r.set rd j h1) (wipe_set h2)
  | tp js =>
    cases d with
    | tup ds =>
      unfold Tgt.put at hp
      by_cases hl : js.length = ds.length
      · simp only [if_pos hl] at hp
        cases hp
        obtain ⟨a, xs, rfl, hq, rx⟩ := rd
        exact ⟨a, xs, rfl, SqT.sub c.ex hq, (reps_len rx).trans hl.symm, names_put r rx hl (fun j h => hj j h) rfl k⟩
      · simp only [if_neg hl] at hp; cases hp
    | _ => cases hp
def lcG (I : Bx → Prop) (elt : Expr) (ifs : List Expr) (T : Tgt) (St : Mem → Prop) (ρ : DE) (Q : D → Mem → Prop) (p : Addr) : List D → List D → Mem → Prop
  | [], acc, m => St m ∧ (Q (.lst acc) (mdel m p) ∨ Q (.ref p) m)
  | d :: ds, acc, m => St m ∧ ∃ ρ', T.put d ρ = some ρ' ∧ tstD I ρ' m (fun b m1 => if b = true then ∀ B', I B' → WE B' elt ρ' m1 fun y m2 => m2 p = some (.lst acc) ∧ acc.length < sizeLine ∧ lcG I elt ifs T St ρ Q p ds (acc ++ [y]) (mset m2 p (.lst (acc ++ [y])))
      else m1 p = some (.lst acc) ∧ lcG I elt ifs T St ρ Q p ds acc m1) ifs
theorem lcG_st {I : Bx → Prop} {elt : Expr} {ifs : List Expr} {T : Tgt} {St : Mem → Prop} {ρ : DE} {Q : D → Mem → Prop} {p : Addr} : ∀ {ds acc : List D} {m : Mem}, lcG I elt ifs T St ρ Q p ds acc m → St m
  | [], _, _, h => h.1
  | _ :: _, _, _, h => h.1
section
variable {B : Bx} {sc sc0 : Scope} {N0 : List Str} {elt iter tg : Expr} {ifs : List Expr} {T : Tgt} {own : List (Str × Nat)} {ρ : DE} {m : Mem} {Q : D → Mem → Prop} {pos vp : Pos}
theorem tlcG (hif : ifs.length ≤ 1) (hj : ∀ j ∈ T.js, j < B.X.N.length ∧ j ∈ own.map (·.2)) (h : WJ B tg iter ρ m fun ds St m1 => ∀ p, m1 p = none → lcG (IsBlk B sc) elt ifs T St (offD (own.map (·.2)) ρ) Q p ds [] (mset m1 p (.lst []))) {G : Hp} {σ : L2.St} {H : Hp} (s : Sub B.G0 G) (r : RepE B.X.K B.X.N.length G σ ρ) (c : Cur B.X.K G m H) {Q' : VK} (kq : VP B.X.K G Q Q') :
    tLc (tiX B.X tg iter) (T.g B.X.K) (bTT B sc ifs) (bTE B sc elt) (own.map (·.2)) σ H Q' := by
  refine h G σ H s r c _ fun J m1 G1 H1 ds St s1 c1 tn q => ?_
  intro D hD
  have q := q D (c1.none hD).2
  refine ⟨fun i n H => n = ds.length - i ∧ i ≤ ds.length ∧ ∃ m' G' acc, Sub G1 G' ∧ Cur B.X.K G' m' H ∧ m' D = some (.lst acc) ∧ lcG (IsBlk B sc) elt ifs T St (offD (own.map (·.2)) ρ) Q D (ds.drop i) acc m', ⟨ds.length, by simp, Nat.zero_le _, _, G1, [], Sub.refl _, c1.newM (u := .lst []) hD ⟨[], rfl, rfl⟩, mset_same, by rw [List.drop_zero]; exact q⟩, ?_⟩
  rintro i n H ⟨rfl, hi, m', G', acc, s2, c2, hd, w⟩
  obtain ⟨go, st⟩ := tn i G' m' H s2 c2 (lcG_st w)
  by_cases hlt : i < ds.length
  · obtain ⟨g1, g2⟩ := go hlt
    refine .inr ⟨g1, fun H3 => ∃ m' G' acc, Sub G1 G' ∧ Cur B.X.K G' m' H3 ∧ m' D = some (.lst acc) ∧ lcG (IsBlk B sc) elt ifs T St (offD (own.map (·.2)) ρ) Q D (ds.drop (i + 1)) acc m', fun H3 p3 => ⟨ds.length - (i + 1), by omega, rfl, hlt, p3⟩, fun x H2 yl => ?_⟩
    obtain ⟨G2, d, sb, c3, hd3, rd⟩ := g2 x H2 yl
    rw [drop_get hd3] at w
    obtain ⟨_, ρ', hp, w⟩ := w
    have s12 := (s.trans s1).trans (s2.trans sb)
    have r2 : RepE B.X.K B.X.N.length G2 (wipe σ (own.map (·.2))) (offD (own.map (·.2)) ρ) := repe_off (r.sub (s1.trans (s2.trans sb)))
    refine tgt_put c3 r2 rd hp hj fun σ2 r3 hw => ⟨hw.trans (wipe_idem fun _ h => h), ?_⟩
    have body : ∀ (G3 : Hp) (H3 : Hp) (m3 : Mem) (b : Bool), Sub G2 G3 → Cur B.X.K G3 m3 H3 → (if b = true then ∀ B', IsBlk B sc B' → WE B' elt ρ' m3 fun y m2 => m2 D = some (.lst acc) ∧ acc.length < sizeLine ∧ lcG (IsBlk B sc) elt ifs T St (offD (own.map (·.2)) ρ) Q D (ds.drop (i + 1)) (acc ++ [y]) (mset m2 D (.lst (acc ++ [y])))
        else m3 D = some (.lst acc) ∧ lcG (IsBlk B sc) elt ifs T St (offD (own.map (·.2)) ρ) Q D (ds.drop (i + 1)) acc m3) → (if b = true then bTE B sc elt σ2 H3 fun y H4 => ∃ acc, H4 D = some (.lst acc) ∧ acc.length < sizeLine ∧ (∃ m' G' acc', Sub G1 G' ∧ Cur B.X.K G' m' (upd H4 D (.lst (acc ++ [y]))) ∧ m' D = some (.lst acc') ∧ lcG (IsBlk B sc) elt ifs T St (offD (own.map (·.2)) ρ) Q D (ds.drop (i + 1)) acc' m') else ∃ m' G' acc, Sub G1 G' ∧ Cur B.X.K G' m' H3 ∧ m' D = some (.lst acc) ∧ lcG (IsBlk B sc) elt ifs T St (offD (own.map (·.2)) ρ) Q D (ds.drop (i + 1)) acc m') := by
      intro G3 H3 m3 b s3 c3 q
      cases b with
      | true =>
        rw [if_pos rfl] at q ⊢
        intro s0 H0 C cl fp
        refine q _ ⟨s0, H0, C, cl, fp, rfl⟩ G3 _ H3 (s12.trans s3) (r3.sub s3) c3 _ fun y d4 m4 G4 H4 s4 c4 r4 ⟨q1, q2, q3⟩ => ?_
        obtain ⟨_, o, ho, xs, rfl, rx⟩ := c4.mm D _ q1
        have rx2 : Reps B.X.K G4 (acc ++ [d4]) (xs ++ [y]) := reps_app rx ⟨y, [], rfl, r4, rfl⟩
        exact ⟨xs, ho, by rw [reps_len rx]; exact q2, _, G4, _, ((s2.trans sb).trans s3).trans s4, c4.wr (u := .lst (acc ++ [d4])) q1 ⟨_, rfl, rx2⟩, mset_same, q3⟩
      | false =>
        rw [if_neg Bool.false_ne_true] at q ⊢
        exact ⟨m3, G3, acc, (s2.trans sb).trans s3, c3, q.1, q.2⟩
    match ifs, hif, w, body with
    | [], _, w, body =>
      exact body G2 H2 m' true (Sub.refl G2) c3 w
    | c :: _, _, w, body =>
      intro s0 H0 C cl fp
      exact w _ ⟨s0, H0, C, cl, fp, rfl⟩ G2 _ H2 s12 r3 c3 _ fun b m3 G3 H3 s3 c3 q => body G3 H3 m3 b s3 c3 q
  · have e : i = ds.length := by omega
    subst e
    refine .inl ⟨st rfl, ?_⟩
    rw [List.drop_length] at w
    obtain ⟨_, w⟩ := w
    rcases w with w | w
    · obtain ⟨o, h1, h2, h3, h4⟩ := c2.freeze hd
      obtain ⟨ys, rfl, h2⟩ := h2
      exact kq (.ref D) (.lst acc) _ _ H ((s1.trans s2).trans h3) h4 ⟨D, ys, rfl, SqL.of upd_same, Reps.sub h3 _ _ h2⟩ w
    · exact kq (.ref D) (.ref D) _ _ H (s1.trans s2) c2 rfl w
theorem we_lcJ (k : Bok B) (cb : CB B N0 sc0) (T : Tgt) (own : List (Str × Nat)) (ht : TgtOk B.X.N sc tg T) (hj : ∀ j ∈ T.js, j < B.X.N.length ∧ j ∈ own.map (·.2)) (hif : ifs.length ≤ 1) (ok : blkC N0 sc0 sc own = true)
    (h : WJ B tg iter ρ m fun ds St m1 => ∀ p, m1 p = none → lcG (IsBlk B sc) elt ifs T St (offD (own.map (·.2)) ρ) Q p ds [] (mset m1 p (.lst []))) (hs : ∀ x, foldedSetIterable iter B.X.env x = pure x) : WE B (.ListComp elt [⟨tg, iter, ifs, 0⟩] sc pos) ρ m Q := fun G σ H s r c Q' kq =>
  teX_of (pe_lc k.calm k.nd (piX tg iter) (cb.ok ok) (lc_tgG k ht) (lc_tt hif) lc_te hs) (tlcG hif hj h s r c kq)
theorem ws_lcJ {i : Nat} {y : Str} {py spos : Pos} {R : RR} (k : Bok B) (cb : CB B N0 sc0) (T : Tgt) (own : List (Str × Nat)) (sy : Sl B y i) (hyl : sc0.names.lookup y = some .local) (hsw : swB sc0 sc y py.line pos.line = true) (ht : TgtOk B.X.N sc tg T) (hj : ∀ j ∈ T.js, j < B.X.N.length ∧ j ∈ own.map (·.2)) (hif : ifs.length ≤ 1) (ok : blkC N0 sc0 sc own = true)
    (h : WJ B tg iter ρ m fun ds St m1 => ∀ p, m1 p = none → lcG (IsBlk B sc) elt ifs T St (offD (own.map (·.2)) ρ) (fun d m2 => R.nx ((i, d) :: ρ) m2) p ds [] (mset m1 p (.lst []))) (hs : ∀ x, foldedSetIterable iter B.X.env x = pure x) : WS B (.Assign [.Name y py] (.ListComp elt [⟨tg, iter, ifs, 0⟩] sc pos) spos) ρ m R := fun G σ H s r c D kq =>
  tsX_of (ps_setLc k.calm k.nd sy.n (by rw [cb.hE]; exact hyl) (cb.sw hsw) (piX tg iter) (cb.ok ok) (lc_tgG k ht) (lc_tt hif) lc_te hs) (tlcG hif hj h s r c fun w d m1 G1 H1 s1 c1 r1 q => kq.nx _ _ m1 G1 H1 s1 ((r.sub s1).set r1 i (ix_lt sy.n)) c1 q)
end
section
variable {I : Bx → Prop} {elt c : Expr} {ifs : List Expr} {T : Tgt} {St : Mem → Prop} {ρ : DE} {m : Mem} {Q : D → Mem → Prop}
theorem lcG_pure {p : Addr} (ds : List D) (t : D → Bool) (f : D → D) (hp : m p = none) (hn : ds.length ≤ sizeLine) (hS : ∀ m', (∀ q o, m q = some o → m' q = some o) → St m')
    (h : ∀ d, d ∈ ds → ∃ ρ', T.put d ρ = some ρ' ∧ ∀ m', (∀ q o, m q = some o → m' q = some o) → tstD I ρ' m' (fun b m2 => m2 = m' ∧ b = t d) ifs ∧ (t d = true → ∀ B', I B' → WE B' elt ρ' m' fun y m2 => m2 = m' ∧ y = f d))
    (h0 : NewL Q ((ds.filter t).map f) m) : lcG I elt ifs T St ρ Q p ds [] (mset m p (.lst [])) := by
  have key : ∀ (ds : List D) (acc : List D), (∀ d, d ∈ ds → ∃ ρ', T.put d ρ = some ρ' ∧ ∀ m', (∀ q o, m q = some o → m' q = some o) → tstD I ρ' m' (fun b m2 => m2 = m' ∧ b = t d) ifs ∧ (t d = true → ∀ B', I B' → WE B' elt ρ' m' fun y m2 => m2 = m' ∧ y = f d)) → acc.length + ds.length ≤ sizeLine →
      NewL Q (acc ++ (ds.filter t).map f) m → lcG I elt ifs T St ρ Q p ds acc (mset m p (.lst acc)) := by
    intro ds
    induction ds with
    | nil =>
      intro acc _ _ h0
      have keep : ∀ q o, m q = some o → mset m p (.lst acc) q = some o := fun q o hq => by
        rw [mset_ne (fun z => by rw [z, hp] at hq; cases hq)]; exact hq
      refine ⟨hS _ keep, ?_⟩
      simp only [List.filter_nil, List.map_nil, List.append_nil] at h0
      rcases h0 with h0 | h0
      · exact .inl (by rw [mdel_mset hp]; exact h0)
      · exact .inr (h0 p hp)
    | cons d ds ih =>
      intro acc h hl h0
      rw [List.length_cons] at hl
      have keep : ∀ q o, m q = some o → mset m p (.lst acc) q = some o := fun q o hq => by
        rw [mset_ne (fun z => by rw [z, hp] at hq; cases hq)]; exact hq
      obtain ⟨ρ', hρ, hd⟩ := h d (by simp)
      obtain ⟨h1, h2⟩ := hd _ keep
      refine ⟨hS _ keep, ρ', hρ, ?_⟩
      have go : ∀ b m2, m2 = mset m p (.lst acc) ∧ b = t d → (if b = true then ∀ B', I B' → WE B' elt ρ' m2 fun y m3 => m3 p = some (.lst acc) ∧ acc.length < sizeLine ∧ lcG I elt ifs T St ρ Q p ds (acc ++ [y]) (mset m3 p (.lst (acc ++ [y])))
          else m2 p = some (.lst acc) ∧ lcG I elt ifs T St ρ Q p ds acc m2) := by
        rintro b m2 ⟨rfl, rfl⟩
        cases ht : t d with
        | true =>
          rw [if_pos rfl]
          intro B' hB
          refine (h2 ht B' hB).mono fun y m3 ⟨e1, e2⟩ => ?_
          subst e1 e2
          refine ⟨mset_same, by omega, ?_⟩
          rw [mset_mset]
          refine ih (acc ++ [f d]) (fun d' hd' => h d' (by simp [hd'])) (by simp; omega) ?_
          simp only [List.filter_cons, ht, if_true, List.map_cons] at h0
          rw [List.append_assoc]; exact h0
        | false =>
          rw [if_neg Bool.false_ne_true]
          refine ⟨mset_same, ih acc (fun d' hd' => h d' (by simp [hd'])) (by omega) ?_⟩
          simp only [List.filter_cons, ht] at h0
          exact h0
      cases ifs with
      | nil => exact go true _ ⟨rfl, by obtain ⟨_, e⟩ := h1; exact e⟩
      | cons c cs => exact fun B' hB => blk_t (h1 B' hB) go
  exact key ds [] h (by simpa using hn) (by simpa using h0)
theorem lcG_map {p : Addr} (ds : List D) (f : D → D) (hp : m p = none) (hn : ds.length ≤ sizeLine) (hS : ∀ m', (∀ q o, m q = some o → m' q = some o) → St m')
    (h : ∀ d, d ∈ ds → ∃ ρ', T.put d ρ = some ρ' ∧ ∀ m', (∀ q o, m q = some o → m' q = some o) → ∀ B', I B' → WE B' elt ρ' m' fun y m2 => m2 = m' ∧ y = f d)
    (h0 : NewL Q (ds.map f) m) : lcG I elt [] T St ρ Q p ds [] (mset m p (.lst [])) := by
  refine lcG_pure ds (fun _ => true) f hp hn hS (fun d hd => ?_) (by rw [List.filter_eq_self.mpr (fun _ _ => rfl)]; exact h0)
  obtain ⟨ρ', a, b⟩ := h d hd
  exact ⟨ρ', a, fun m' hm => ⟨⟨rfl, rfl⟩, fun _ => b m' hm⟩⟩
end
end Pd
namespace Pd
theorem gcdI_pos {s t : Int} (h0 : 0 < s) : (0 : Int) < ((Int.gcd s t : Nat) : Int) := by
  have : 0 < Int.gcd s t := Int.gcd_pos_of_ne_zero_left t (by omega)
  omega
theorem num_dvd {s t m : Int} (h0 : 0 < s) : t ∣ s * m ↔ t / ((Int.gcd s t : Nat) : Int) ∣ m := by
  have g0 := gcdI_pos (t := t) h0
  have gt : ((Int.gcd s t : Nat) : Int) ∣ t := Int.gcd_dvd_right s t
  have gs : ((Int.gcd s t : Nat) : Int) ∣ s := Int.gcd_dvd_left s t
  rw [← Int.dvd_gcd_mul_iff_dvd_mul, Int.gcd_comm]
  obtain ⟨k, hk⟩ := gt
  generalize ((Int.gcd s t : Nat) : Int) = g at *
  rw [hk, Int.mul_ediv_cancel_left k (by omega)]
  exact Int.mul_dvd_mul_iff_left (by omega)
theorem num_hit {s o t u c n : Int} (s0 : 0 < s) (t0 : 0 < t) (hs : c % s = o % s) (ht : c % t = u % t) :
    hitR (t / ((Int.gcd s t : Nat) : Int), ((c - o) / s) % (t / ((Int.gcd s t : Nat) : Int))) n = hitR (t, u) (o + s * n) := by
  unfold hitR
  refine decide_eq_decide.mpr ?_
  show (n - (c - o) / s % (t / ((Int.gcd s t : Nat) : Int))) % (t / ((Int.gcd s t : Nat) : Int)) = 0 ↔ (o + s * n - u) % t = 0
  have h1 : s ∣ c - o := Int.dvd_of_emod_eq_zero (Int.emod_eq_emod_iff_emod_sub_eq_zero.mp hs)
  have h2 : t ∣ c - u := Int.dvd_of_emod_eq_zero (Int.emod_eq_emod_iff_emod_sub_eq_zero.mp ht)
  obtain ⟨k, hk⟩ := h1
  have ek : (c - o) / s = k := by rw [hk]; exact Int.mul_ediv_cancel_left k (by omega)
  rw [ek, ← Int.dvd_iff_emod_eq_zero, ← Int.dvd_iff_emod_eq_zero]
  have e1 : n - k % (t / ((Int.gcd s t : Nat) : Int)) = (n - k) + (t / ((Int.gcd s t : Nat) : Int)) * (k / (t / ((Int.gcd s t : Nat) : Int))) := by
    have := Int.mul_ediv_add_emod k (t / ((Int.gcd s t : Nat) : Int))
    omega
  rw [e1, Int.dvd_add_left (Int.dvd_mul_right _ _), ← num_dvd s0]
  have e2 : o + s * n - u = s * (n - k) + (c - u) := by rw [Int.mul_sub]; omega
  rw [e2, Int.dvd_add_left h2]
theorem num_miss {s o t u n : Int} (h : ¬ ((Int.gcd s t : Nat) : Int) ∣ u - o) : hitR (t, u) (o + s * n) = false := by
  refine decide_eq_false fun e => h ?_
  have h1 : t ∣ o + s * n - u := Int.dvd_of_emod_eq_zero e
  have h2 : ((Int.gcd s t : Nat) : Int) ∣ o + s * n - u := Int.dvd_trans (Int.gcd_dvd_right s t) h1
  have h3 : ((Int.gcd s t : Nat) : Int) ∣ s * n := Int.dvd_trans (Int.gcd_dvd_left s t) (Int.dvd_mul_right _ _)
  have : u - o = s * n - (o + s * n - u) := by omega
  rw [this]
  exact Int.dvd_sub h3 h2
theorem hit_app {rs ss : List GRow} {t : Int} : hitB (rs ++ ss) t = (hitB rs t || hitB ss t) := List.any_append
theorem hit_one {r : GRow} {t : Int} : hitB [r] t = hitR r t := by simp [hitB]
def NumOf (r : GRow) (os ns : List GRow) : Prop := ∀ n, hitB ns n = hitB os (r.2 + r.1 * n)
theorem numOf_nil {r : GRow} : NumOf r [] [] := fun n => rfl
theorem numOf_yes {r q x : GRow} {os ns : List GRow} (h : NumOf r os ns) (k : ∀ n, hitR x n = hitR q (r.2 + r.1 * n)) : NumOf r (os ++ [q]) (ns ++ [x]) := fun n => by rw [hit_app, hit_app, hit_one, hit_one, h n, k n]
theorem numOf_no {r q : GRow} {os ns : List GRow} (h : NumOf r os ns) (k : ∀ n, hitR q (r.2 + r.1 * n) = false) : NumOf r (os ++ [q]) ns := fun n => by rw [hit_app, hit_one, h n, k n, Bool.or_false]
def freeN (r : GRow) (os : List GRow) (k : Int) : Option Nat := (List.range 64).find? fun j => !hitB os (r.2 + r.1 * (k + (j : Nat)))
theorem gapN_num {r : GRow} {os ns : List GRow} (h : NumOf r os ns) (k : Int) : gapN ns k = freeN r os k := by
  unfold gapN freeN
  congr 1
  funext j
  rw [h]
theorem free_some {r : GRow} {os : List GRow} {k : Int} {j : Nat} (hj : j < 64) (h : hitB os (r.2 + r.1 * (k + (j : Nat))) = false) (n : ∀ i < j, hitB os (r.2 + r.1 * (k + (i : Nat))) = true) : freeN r os k = some j := by
  unfold freeN
  rw [List.find?_range_eq_some]
  exact ⟨by simp [h], List.mem_range.mpr hj, fun i hi => by simp [n i hi]⟩
theorem free_none {r : GRow} {os : List GRow} {k : Int} (n : ∀ i < 64, hitB os (r.2 + r.1 * (k + (i : Nat))) = true) : freeN r os k = none := by
  unfold freeN
  rw [List.find?_range_eq_none]
  intro i hi
  simp [n i hi]
theorem free_get {r : GRow} {os : List GRow} {k : Int} {j : Nat} (h : freeN r os k = some j) : j < 64 ∧ hitB os (r.2 + r.1 * (k + (j : Nat))) = false ∧ ∀ i < j, hitB os (r.2 + r.1 * (k + (i : Nat))) = true := by
  unfold freeN at h
  rw [List.find?_range_eq_some] at h
  exact ⟨List.mem_range.mp h.2.1, by simpa using h.1, fun i hi => by simpa using h.2.2 i hi⟩
theorem free_none_get {r : GRow} {os : List GRow} {k : Int} (h : freeN r os k = none) : ∀ i < 64, hitB os (r.2 + r.1 * (k + (i : Nat))) = true := by
  unfold freeN at h
  rw [List.find?_range_eq_none] at h
  intro i hi
  simpa using h i hi
def dropAt {α : Type} (l : List α) (i : Nat) : List α := l.take i ++ l.drop (i + 1)
theorem dropAt_len {α : Type} {l : List α} {i : Nat} (h : i < l.length) : (dropAt l i).length + 1 = l.length := by
  unfold dropAt
  rw [List.length_append, List.length_take, List.length_drop]; omega
theorem dropAt_mem {α : Type} {l : List α} {i : Nat} {x : α} (h : x ∈ dropAt l i) : x ∈ l := (List.mem_append.mp h).elim List.mem_of_mem_take List.mem_of_mem_drop
theorem dropAt_map {α β : Type} {l : List α} {i : Nat} {f : α → β} : dropAt (l.map f) i = (dropAt l i).map f := by
  unfold dropAt
  rw [List.map_append, List.map_take, List.map_drop]
def needB (rs : List GRow) (i : Nat) : Bool := (freeN (rs.getD i (1, 0)) (dropAt rs i) 0).isNone
def needL (rs : List GRow) : List D := ((List.range rs.length).filter (needB rs)).map fun i => .int (i : Nat)
end Pd
namespace Pd
def lcmR (s t : Int) : Int := s * (t / ((Int.gcd s t : Nat) : Int))
theorem lcmR_pos {s t : Int} (h0 : 0 < s) (h1 : 0 < t) : 0 < lcmR s t := Int.mul_pos h0 (Int.ediv_pos_of_pos_of_dvd h1 (Int.le_of_lt (gcdI_pos h0)) (Int.gcd_dvd_right s t))
theorem lcmR_dvd {s t z : Int} (h0 : 0 < s) : lcmR s t ∣ z ↔ s ∣ z ∧ t ∣ z := by
  unfold lcmR
  have gs : ((Int.gcd s t : Nat) : Int) ∣ s := Int.gcd_dvd_left s t
  have gt : ((Int.gcd s t : Nat) : Int) ∣ t := Int.gcd_dvd_right s t
  constructor
  · intro h
    refine ⟨Int.dvd_trans (Int.dvd_mul_right _ _) h, Int.dvd_trans ?_ h⟩
    obtain ⟨a, ha⟩ := gs
    obtain ⟨k, hk⟩ := gt
    have g0 := gcdI_pos (t := t) h0
    generalize ((Int.gcd s t : Nat) : Int) = g at *
    rw [hk, Int.mul_ediv_cancel_left k (by omega), ha, Int.mul_comm g a, Int.mul_assoc]
    exact Int.dvd_mul_left _ _
  · rintro ⟨⟨k, rfl⟩, h⟩
    exact Int.mul_dvd_mul_left s ((num_dvd h0).mp h)
theorem lcmR_le {s t : Int} (h0 : 0 < s) (h1 : 0 < t) : lcmR s t ≤ s * t := Int.mul_le_mul_of_nonneg_left (Int.ediv_le_self _ (by omega)) (by omega)
theorem both_hit {s o t u c x : Int} (s0 : 0 < s) (hs : c % s = o % s) (ht : c % t = u % t) : hitR (lcmR s t, c) x = (hitR (s, o) x && hitR (t, u) x) := by
  unfold hitR
  rw [← Bool.decide_and]
  refine decide_eq_decide.mpr ?_
  show (x - c) % lcmR s t = 0 ↔ (x - o) % s = 0 ∧ (x - u) % t = 0
  rw [← Int.dvd_iff_emod_eq_zero, ← Int.dvd_iff_emod_eq_zero, ← Int.dvd_iff_emod_eq_zero, lcmR_dvd s0]
  have h1 : s ∣ c - o := Int.dvd_of_emod_eq_zero (Int.emod_eq_emod_iff_emod_sub_eq_zero.mp hs)
  have h2 : t ∣ c - u := Int.dvd_of_emod_eq_zero (Int.emod_eq_emod_iff_emod_sub_eq_zero.mp ht)
  have e1 : x - o = (x - c) + (c - o) := by omega
  have e2 : x - u = (x - c) + (c - u) := by omega
  rw [e1, e2, Int.dvd_add_left h1, Int.dvd_add_left h2]
theorem both_miss {s o t u x : Int} (h : ¬ ((Int.gcd s t : Nat) : Int) ∣ u - o) : (hitR (s, o) x && hitR (t, u) x) = false := by
  cases e : hitR (s, o) x with
  | false => rfl
  | true =>
    obtain ⟨n, hn⟩ := Int.dvd_of_emod_eq_zero (of_decide_eq_true e)
    have hx : x = o + s * n := by have : x - o = s * n := hn; omega
    rw [hx, num_miss h]; rfl
def one (b : Bool) : Int := if b then 1 else 0
abbrev Trm := GRow × Int
def tsum (ts : List Trm) (x : Int) : Int := (ts.map fun t => t.2 * one (hitR t.1 x)).sum
theorem tsum_app {ts us : List Trm} {x : Int} : tsum (ts ++ us) x = tsum ts x + tsum us x := by unfold tsum; rw [List.map_append, List.sum_append_int]
theorem tsum_cons {t : Trm} {ts : List Trm} {x : Int} : tsum (t :: ts) x = t.2 * one (hitR t.1 x) + tsum ts x := by unfold tsum; rw [List.map_cons, List.sum_cons]
def TermsOf (rs : List GRow) (ts : List Trm) : Prop := ∀ x, tsum ts x = one (!hitB rs x)
theorem terms_nil : TermsOf [] [((1, 0), 1)] := fun x => by
  have : hitR (1, 0) x = true := decide_eq_true (by show (x - 0) % 1 = 0; omega)
  unfold tsum
  simp [this, hitB, one]
def AddOf (r : GRow) (ts us : List Trm) : Prop := ∀ x, tsum us x = -(one (hitR r x) * tsum ts x)
theorem add_nil {r : GRow} : AddOf r [] [] := fun x => by simp [tsum]
theorem add_yes {r : GRow} {ts us : List Trm} {t : Trm} {c : GRow} (h : AddOf r ts us) (k : ∀ x, hitR c x = (hitR t.1 x && hitR r x)) : AddOf r (ts ++ [t]) (us ++ [(c, -t.2)]) := fun x => by
  have e1 : tsum [t] x = t.2 * one (hitR t.1 x) := by rw [tsum_cons]; simp [tsum]
  have e2 : tsum [(c, -t.2)] x = -t.2 * one (hitR c x) := by rw [tsum_cons]; simp [tsum]
  rw [tsum_app, tsum_app, h x, e1, e2, k x]
  cases hitR t.1 x <;> cases hitR r x <;> simp [one] <;> omega
theorem add_no {r : GRow} {ts us : List Trm} {t : Trm} (h : AddOf r ts us) (k : ∀ x, (hitR t.1 x && hitR r x) = false) : AddOf r (ts ++ [t]) us := fun x => by
  have e1 : tsum [t] x = t.2 * one (hitR t.1 x) := by rw [tsum_cons]; simp [tsum]
  rw [tsum_app, h x, e1]
  have kx := k x
  cases ha : hitR t.1 x <;> cases hb : hitR r x <;> rw [ha, hb] at kx <;> simp [one] at kx ⊢
theorem terms_row {rs : List GRow} {r : GRow} {ts us : List Trm} (h : TermsOf rs ts) (k : AddOf r ts us) : TermsOf (rs ++ [r]) (ts ++ us) := fun x => by
  rw [tsum_app, k x, h x, hit_app, hit_one]
  cases hitB rs x <;> cases hitR r x <;> simp [one]
theorem div_uni {a b q r : Int} (h0 : 0 < b) (e : r + b * q = a) (h1 : 0 ≤ r) (h2 : r < b) : a / b = q := ((Int.ediv_emod_unique h0).mpr ⟨e, h1, h2⟩).1
theorem div_step (x s : Int) (h0 : 0 < s) : x / s - (x - 1) / s = if x % s = 0 then 1 else 0 := by
  have e := Int.emod_add_mul_ediv x s
  have h1 := Int.emod_nonneg x (by omega : s ≠ 0)
  have h2 := Int.emod_lt_of_pos x h0
  split
  · rename_i z
    have : (x - 1) / s = x / s - 1 := div_uni (r := s - 1) h0 (by rw [Int.mul_sub]; omega) (by omega) (by omega)
    omega
  · rename_i z
    have : (x - 1) / s = x / s := div_uni (r := x % s - 1) h0 (by omega) (by omega) (by omega)
    omega
def cntR (r : GRow) (lo : Int) : Nat → Int
  | 0 => 0
  | n + 1 => cntR r lo n + one (hitR r (lo + (n : Nat)))
theorem cntR_is {r : GRow} (h0 : 0 < r.1) (lo : Int) : ∀ n : Nat, cntR r lo n = (lo + n - 1 - r.2) / r.1 - (lo - 1 - r.2) / r.1
  | 0 => by
    have : lo + ((0 : Nat) : Int) - 1 - r.2 = lo - 1 - r.2 := by omega
    rw [this, Int.sub_self]; rfl
  | n + 1 => by
    show cntR r lo n + one (hitR r (lo + (n : Nat))) = _
    rw [cntR_is h0 lo n]
    have q := div_step (lo + n - r.2) r.1 h0
    have e1 : lo + ((n + 1 : Nat) : Int) - 1 - r.2 = lo + n - r.2 := by omega
    have e2 : lo + (n : Int) - r.2 - 1 = lo + n - 1 - r.2 := by omega
    rw [e1]
    rw [e2] at q
    have e3 : one (hitR r (lo + (n : Nat))) = if (lo + (n : Int) - r.2) % r.1 = 0 then 1 else 0 := by
      unfold one hitR
      by_cases h : (lo + (n : Int) - r.2) % r.1 = 0 <;> simp [h]
    rw [e3]; omega
def betR (r : GRow) (lo hi : Int) : Int := if hi ≤ lo then 0 else (hi - 1 - r.2) / r.1 - (lo - 1 - r.2) / r.1
theorem betR_cnt {r : GRow} (h0 : 0 < r.1) (lo hi : Int) : betR r lo hi = cntR r lo (hi - lo).toNat := by
  unfold betR
  split
  · rename_i h
    rw [show (hi - lo).toNat = 0 by omega]; rfl
  · rename_i h
    rw [cntR_is h0]
    rw [show lo + (((hi - lo).toNat : Nat) : Int) - 1 - r.2 = hi - 1 - r.2 by omega]
def farR (r : GRow) (lo hi : Int) : Int := if hi ≤ lo then 0 else (r.2 - lo) / r.1 - (r.2 - hi) / r.1
theorem div_upto (y s : Int) (h0 : 0 < s) : (y - 1) / s = -((-y) / s) - 1 := by
  have e := Int.emod_add_mul_ediv (-y) s
  have h1 := Int.emod_nonneg (-y) (by omega : s ≠ 0)
  have h2 := Int.emod_lt_of_pos (-y) h0
  exact div_uni (r := s - (-y) % s - 1) h0 (by rw [Int.mul_sub, Int.mul_neg]; omega) (by omega) (by omega)
theorem farR_bet {r : GRow} (h0 : 0 < r.1) (lo hi : Int) : farR r lo hi = betR r lo hi := by
  unfold farR betR
  split
  · rfl
  · have c := div_upto (hi - r.2) r.1 h0
    have d := div_upto (lo - r.2) r.1 h0
    have e1 : hi - r.2 - 1 = hi - 1 - r.2 := by omega
    have e2 : lo - r.2 - 1 = lo - 1 - r.2 := by omega
    have e3 : -(hi - r.2) = r.2 - hi := by omega
    have e4 : -(lo - r.2) = r.2 - lo := by omega
    rw [e1, e3] at c; rw [e2, e4] at d
    omega
def gcnt (rs : List GRow) (lo : Int) : Nat → Int
  | 0 => 0
  | n + 1 => gcnt rs lo n + one (!hitB rs (lo + (n : Nat)))
def tcnt (ts : List Trm) (f : GRow → Int) : Int := (ts.map fun t => t.2 * f t.1).sum
theorem tcnt_add {ts : List Trm} {f g : GRow → Int} : tcnt ts (fun r => f r + g r) = tcnt ts f + tcnt ts g := by
  unfold tcnt
  induction ts with
  | nil => rfl
  | cons t ts ih => simp only [List.map_cons, List.sum_cons]; rw [ih, Int.mul_add]; omega
theorem tcnt_congr {ts : List Trm} {f g : GRow → Int} (h : ∀ t ∈ ts, f t.1 = g t.1) : tcnt ts f = tcnt ts g := by
  unfold tcnt
  congr 1
  exact List.map_congr_left fun t ht => by rw [h t ht]
theorem tcnt_zero {ts : List Trm} : tcnt ts (fun _ => 0) = 0 := by
  unfold tcnt
  induction ts with
  | nil => rfl
  | cons t ts ih => simp only [List.map_cons, List.sum_cons]; rw [ih]; omega
theorem terms_cnt {rs : List GRow} {ts : List Trm} (h : TermsOf rs ts) (lo : Int) : ∀ n : Nat, tcnt ts (fun r => cntR r lo n) = gcnt rs lo n
  | 0 => tcnt_zero
  | n + 1 => by
    show tcnt ts (fun r => cntR r lo n + one (hitR r (lo + (n : Nat)))) = gcnt rs lo n + one (!hitB rs (lo + (n : Nat)))
    rw [tcnt_add, terms_cnt h lo n]
    congr 1
    exact h (lo + (n : Nat))
def PosT (ts : List Trm) : Prop := ∀ t ∈ ts, 0 < t.1.1
def gapsI (rs : List GRow) (lo hi : Int) : Int := gcnt rs lo (hi - lo).toNat
theorem terms_bet {rs : List GRow} {ts : List Trm} (h : TermsOf rs ts) (p : PosT ts) (lo hi : Int) : tcnt ts (fun r => betR r lo hi) = gapsI rs lo hi := by
  rw [tcnt_congr (g := fun r => cntR r lo (hi - lo).toNat) fun t ht => betR_cnt (p t ht) lo hi]
  exact terms_cnt h lo _
theorem terms_far {rs : List GRow} {ts : List Trm} (h : TermsOf rs ts) (p : PosT ts) (lo hi : Int) : tcnt ts (fun r => farR r lo hi) = gapsI rs lo hi := by
  rw [tcnt_congr (g := fun r => betR r lo hi) fun t ht => farR_bet (p t ht) lo hi]
  exact terms_bet h p lo hi
theorem gcnt_nonneg {rs : List GRow} {lo : Int} : ∀ n, 0 ≤ gcnt rs lo n
  | 0 => Int.le_refl 0
  | n + 1 => by
    have := gcnt_nonneg (rs := rs) (lo := lo) n
    show 0 ≤ gcnt rs lo n + one (!hitB rs (lo + (n : Nat)))
    unfold one; split <;> omega
theorem gcnt_add {rs : List GRow} {lo : Int} (n : Nat) : ∀ k, gcnt rs lo (n + k) = gcnt rs lo n + gcnt rs (lo + n) k
  | 0 => (Int.add_zero _).symm
  | k + 1 => by
    show gcnt rs lo (n + k) + one (!hitB rs (lo + ((n + k : Nat) : Int))) = gcnt rs lo n + (gcnt rs (lo + n) k + one (!hitB rs (lo + n + (k : Nat))))
    rw [gcnt_add n k, show lo + ((n + k : Nat) : Int) = lo + n + (k : Nat) by omega]; omega
theorem gcnt_le {rs : List GRow} {lo : Int} : ∀ n, gcnt rs lo n ≤ n
  | 0 => Int.le_refl 0
  | n + 1 => by
    have := gcnt_le (rs := rs) (lo := lo) n
    show gcnt rs lo n + one (!hitB rs (lo + (n : Nat))) ≤ _
    unfold one; split <;> omega
theorem gcnt_mono {rs : List GRow} {lo : Int} {n k : Nat} (h : n ≤ k) : gcnt rs lo n ≤ gcnt rs lo k := by
  obtain ⟨d, rfl⟩ := Nat.le.dest h
  rw [gcnt_add]
  have := gcnt_nonneg (rs := rs) (lo := lo + n) d
  omega
theorem gapsI_none {rs : List GRow} {lo hi : Int} (h : hi ≤ lo) : gapsI rs lo hi = 0 := by
  unfold gapsI
  rw [show (hi - lo).toNat = 0 by omega]; rfl
theorem gapsI_n {rs : List GRow} {lo : Int} {n : Nat} : gapsI rs lo (lo + n) = gcnt rs lo n := by
  unfold gapsI
  rw [show (lo + (n : Int) - lo).toNat = n by omega]
end Pd
namespace Pd
theorem gcnt_one {rs : List GRow} {lo : Int} {j n : Nat} (hj : j < n) (h : hitB rs (lo + (j : Nat)) = false) : 1 ≤ gcnt rs lo n := by
  have a := gcnt_mono (rs := rs) (lo := lo) (show j + 1 ≤ n by omega)
  have b := gcnt_nonneg (rs := rs) (lo := lo) j
  have c : gcnt rs lo (j + 1) = gcnt rs lo j + one (!hitB rs (lo + (j : Nat))) := rfl
  rw [h] at c
  have : one (!false) = 1 := rfl
  omega
theorem blk_gap {rs : List GRow} (hl : rs.length ≤ 6) (h : ∃ x, hitB rs x = false) (lo : Int) : 1 ≤ gcnt rs lo 64 := by
  by_cases hc : ∀ j < 64, hitB rs (lo + (j : Nat)) = true
  · obtain ⟨x, hx⟩ := h
    rw [cover_all hl hc] at hx; cases hx
  · have : ∃ j, j < 64 ∧ hitB rs (lo + (j : Nat)) = false := by
      apply Classical.byContradiction
      intro q
      refine hc fun j hj => ?_
      cases e : hitB rs (lo + (j : Nat)) with
      | true => rfl
      | false => exact absurd ⟨j, hj, e⟩ q
    obtain ⟨j, hj, e⟩ := this
    exact gcnt_one hj e
theorem blks_gap {rs : List GRow} (hl : rs.length ≤ 6) (h : ∃ x, hitB rs x = false) (lo : Int) : ∀ k : Nat, (k : Int) ≤ gcnt rs lo (64 * k)
  | 0 => by rw [Nat.mul_zero]; exact Int.le_refl 0
  | k + 1 => by
    have a := blks_gap hl h lo k
    have b := blk_gap hl h (lo + ((64 * k : Nat) : Int))
    rw [show 64 * (k + 1) = 64 * k + 64 by omega, gcnt_add]
    omega
theorem nth_end {rs : List GRow} {s c : Int} {n : Nat} (h1 : gcnt rs s n ≤ c) (h2 : c < gcnt rs s (n + 1)) : gcnt rs s n = c ∧ hitB rs (s + n) = false := by
  have e : gcnt rs s (n + 1) = gcnt rs s n + one (!hitB rs (s + (n : Nat))) := rfl
  cases hh : hitB rs (s + (n : Nat)) with
  | false =>
    rw [hh] at e
    have : one (!false) = 1 := rfl
    exact ⟨by omega, rfl⟩
  | true =>
    rw [hh] at e
    have : one (!true) = 0 := rfl
    omega
theorem cntR_whole {r : GRow} {n : Nat} (h0 : 0 < r.1) (h : r.1 ∣ (n : Int)) : cntR r 0 n = (n : Int) / r.1 := by
  rw [cntR_is h0]
  obtain ⟨k, hk⟩ := h
  rw [hk, Int.mul_ediv_cancel_left k (by omega)]
  have : (0 + r.1 * k - 1 - r.2) = (0 - 1 - r.2) + r.1 * k := by omega
  rw [this, Int.add_mul_ediv_left _ _ (by omega)]; omega
def LcmOf (ss : List Int) (L : Int) : Prop := 0 < L ∧ ∀ z, L ∣ z ↔ ∀ s ∈ ss, s ∣ z
theorem lcm_nil : LcmOf [] 1 := ⟨by decide, fun z => ⟨fun _ s h => (by cases h), fun _ => Int.one_dvd z⟩⟩
theorem div_mul_lcm {a b : Int} (h0 : 0 < a) (h1 : 0 < b) : a / ((Int.gcd a b : Nat) : Int) * b = lcmR a b := by
  unfold lcmR
  have gs : ((Int.gcd a b : Nat) : Int) ∣ a := Int.gcd_dvd_left a b
  have gt : ((Int.gcd a b : Nat) : Int) ∣ b := Int.gcd_dvd_right a b
  have g0 := gcdI_pos (t := b) h0
  obtain ⟨x, hx⟩ := gs
  obtain ⟨y, hy⟩ := gt
  generalize ((Int.gcd a b : Nat) : Int) = g at *
  rw [hx, hy, Int.mul_ediv_cancel_left x (by omega), Int.mul_ediv_cancel_left y (by omega)]
  rw [← Int.mul_assoc, Int.mul_comm x g]
theorem lcm_add {ss : List Int} {L s : Int} (h : LcmOf ss L) (h0 : 0 < s) : LcmOf (ss ++ [s]) (lcmR L s) := by
  refine ⟨lcmR_pos h.1 h0, fun z => ?_⟩
  rw [lcmR_dvd h.1, h.2 z]
  constructor
  · rintro ⟨a, b⟩ x hx
    rcases List.mem_append.mp hx with hx | hx
    · exact a x hx
    · rw [List.mem_singleton.mp hx]; exact b
  · intro a
    exact ⟨fun x hx => a x (List.mem_append_left _ hx), a s (by simp)⟩
theorem lcm_uni {ss tt : List Int} {L M : Int} (h : LcmOf ss L) (k : LcmOf tt M) (e : ∀ z, (∀ s ∈ ss, s ∣ z) ↔ ∀ s ∈ tt, s ∣ z) : L = M := by
  have a : L ∣ M := (h.2 M).mpr ((e M).mpr ((k.2 M).mp (Int.dvd_refl M)))
  have b : M ∣ L := (k.2 L).mpr ((e L).mp ((h.2 L).mp (Int.dvd_refl L)))
  have := Int.le_of_dvd k.1 a
  have := Int.le_of_dvd h.1 b
  omega
def StepsOf (rs : List GRow) (ts : List Trm) : Prop := (∃ t ∈ ts, t.1 = (1, 0)) ∧ ∀ z : Int, (∀ t ∈ ts, t.1.1 ∣ z) ↔ ∀ r ∈ rs, r.1 ∣ z
theorem steps_nil : StepsOf [] [((1, 0), 1)] := ⟨⟨((1, 0), 1), (by simp), rfl⟩, fun z => ⟨fun _ r h => (by cases h), fun _ t ht => (by rw [List.mem_singleton.mp ht]; exact Int.one_dvd z)⟩⟩
def AddSt (r : GRow) (ts us : List Trm) : Prop := (∀ t ∈ ts, t.1 = (1, 0) → ∃ u ∈ us, ∀ z : Int, u.1.1 ∣ z ↔ r.1 ∣ z) ∧ ∀ u ∈ us, ∀ z : Int, (∀ t ∈ ts, t.1.1 ∣ z) → r.1 ∣ z → u.1.1 ∣ z
theorem steps_row {rs : List GRow} {r : GRow} {ts us : List Trm} (h : StepsOf rs ts) (k : AddSt r ts us) : StepsOf (rs ++ [r]) (ts ++ us) := by
  obtain ⟨⟨t0, h0, e0⟩, hz⟩ := h
  refine ⟨⟨t0, List.mem_append_left _ h0, e0⟩, fun z => ⟨fun a x hx => ?_, fun a t ht => ?_⟩⟩
  · have a1 := (hz z).mp fun t ht => a t (List.mem_append_left _ ht)
    rcases List.mem_append.mp hx with hx | hx
    · exact a1 x hx
    · rw [List.mem_singleton.mp hx]
      obtain ⟨u, hu, e⟩ := k.1 t0 h0 e0
      exact (e z).mp (a u (List.mem_append_right _ hu))
  · have a1 := (hz z).mpr fun x hx => a x (List.mem_append_left _ hx)
    rcases List.mem_append.mp ht with ht | ht
    · exact a1 t ht
    · exact k.2 t ht z a1 (a r (by simp))
theorem addst_nil {r : GRow} : AddSt r [] [] := ⟨fun t h => (by cases h), fun u h => (by cases h)⟩
theorem addst_yes {r : GRow} {ts us : List Trm} {t : Trm} {c : GRow} {g : Int} (h : AddSt r ts us) (h0 : 0 < t.1.1) (hc : c.1 = lcmR t.1.1 r.1) : AddSt r (ts ++ [t]) (us ++ [(c, g)]) := by
  refine ⟨fun x hx e => ?_, fun u hu z a b => ?_⟩
  · rcases List.mem_append.mp hx with hx | hx
    · obtain ⟨u, hu, k⟩ := h.1 x hx e
      exact ⟨u, List.mem_append_left _ hu, k⟩
    · obtain rfl := List.mem_singleton.mp hx
      refine ⟨(c, g), by simp, fun z => ?_⟩
      show c.1 ∣ z ↔ _
      rw [hc, lcmR_dvd h0, e]
      exact ⟨fun q => q.2, fun q => ⟨Int.one_dvd z, q⟩⟩
  · rcases List.mem_append.mp hu with hu | hu
    · exact h.2 u hu z (fun x hx => a x (List.mem_append_left _ hx)) b
    · obtain rfl := List.mem_singleton.mp hu
      show c.1 ∣ z
      rw [hc, lcmR_dvd h0]
      exact ⟨a t (by simp), b⟩
theorem addst_no {r : GRow} {ts us : List Trm} {t : Trm} (h : AddSt r ts us) (hn : ¬ ((Int.gcd t.1.1 r.1 : Nat) : Int) ∣ r.2 - t.1.2) : AddSt r (ts ++ [t]) us := by
  refine ⟨fun x hx e => ?_, fun u hu z a b => h.2 u hu z (fun x hx => a x (List.mem_append_left _ hx)) b⟩
  rcases List.mem_append.mp hx with hx | hx
  · exact h.1 x hx e
  · obtain rfl := List.mem_singleton.mp hx
    refine absurd ?_ hn
    rw [e]
    have : Int.gcd 1 r.1 = 1 := by simp
    rw [this]; exact Int.one_dvd _
theorem share_part {rs : List GRow} {ts : List Trm} {L : Int} (h : TermsOf rs ts) (p : PosT ts) (hL : 0 < L) (hd : ∀ t ∈ ts, t.1.1 ∣ L) : tcnt ts (fun r => L / r.1) = gcnt rs 0 L.toNat := by
  rw [← terms_cnt h 0 L.toNat]
  refine tcnt_congr fun t ht => ?_
  have e : ((L.toNat : Nat) : Int) = L := Int.toNat_of_nonneg (by omega)
  rw [cntR_whole (p t ht) (by rw [e]; exact hd t ht), e]
theorem gcnt_hits {rs ss : List GRow} {lo : Int} (h : ∀ x, hitB rs x = hitB ss x) : ∀ n, gcnt rs lo n = gcnt ss lo n
  | 0 => rfl
  | n + 1 => by
    show gcnt rs lo n + one (!hitB rs (lo + (n : Nat))) = gcnt ss lo n + one (!hitB ss (lo + (n : Nat)))
    rw [gcnt_hits h n, h]
theorem hit_rev {rs : List GRow} {t : Int} : hitB rs.reverse t = hitB rs t := by unfold hitB; rw [List.any_reverse]
end Pd
namespace Pd
theorem shift_n {T : Int → Yv → Int} {e : Yv} (h : ∀ x y, T (x + 1) y = T x (ysub y e)) : ∀ (n : Nat) x y, T (x + n) y = T x (fun i => y i - n * e i)
  | 0, x, y => by
    rw [show x + ((0 : Nat) : Int) = x by omega]
    congr 1; funext i; show y i = y i - ((0 : Nat) : Int) * e i; rw [show ((0 : Nat) : Int) = 0 from rfl, Int.zero_mul]; omega
  | n + 1, x, y => by
    rw [show x + ((n + 1 : Nat) : Int) = x + n + 1 by omega, h, shift_n h n]
    congr 1; funext i
    show ysub y e i - (n : Int) * e i = y i - ((n + 1 : Nat) : Int) * e i
    unfold ysub
    rw [Int.natCast_add, Int.add_mul]; omega
theorem EX.along {n : Nat} {F : Int → Yv → Int} (h : EX n F) (o : Int) (s : Nat) : EX n (fun x y => F (o + s * x) y) := by
  induction h with
  | zero h => exact .zero fun x y => h _ _
  | succ h ht hf ih =>
    rename_i n F F' T e
    refine .succ (T := fun x y => T (o + s * x) y) (e := fun i => s * e i) ih (fun x y => ?_) fun x y => hf _ _
    show T (o + (s : Int) * (x + 1)) y = T (o + s * x) (ysub y fun i => s * e i)
    rw [show o + (s : Int) * (x + 1) = (o + s * x) + s by rw [Int.mul_add]; omega, shift_n ht]
    rfl
theorem cover_along {rs : List GRow} {o s k : Int} (hs : 0 < s) (hl : rs.length ≤ 6) (h : ∀ j < 64, hitB rs (o + s * (k + (j : Nat))) = true) (n : Int) : hitB rs (o + s * n) = true := by
  have es : ((s.toNat : Nat) : Int) = s := Int.toNat_of_nonneg (by omega)
  have hv := ((ex_rows rs).along o s.toNat).van k fun i hi y => by
    show PF rs (o + (s.toNat : Int) * (k + (i : Nat))) y = 0
    rw [es]
    exact pf_hit (h i (Nat.lt_of_lt_of_le hi (Nat.pow_le_pow_right (by decide) hl : 2 ^ rs.length ≤ 2 ^ 6))) y
  cases e : hitB rs (o + s * n) with
  | true => rfl
  | false =>
    have a := pf_miss e
    have b := hv n (fun _ => 0)
    have b : PF rs (o + (s.toNat : Int) * n) (fun _ => 0) = 0 := b
    rw [es, a] at b
    cases b
def firstT (r : GRow) (st : Int) : Int := st + (r.2 - st) % r.1
def firstK (r : GRow) (st : Int) : Int := (firstT r st - r.2) / r.1
theorem firstT_k {r : GRow} (h0 : 0 < r.1) (st : Int) : firstT r st = r.2 + r.1 * firstK r st := by
  have hd : r.1 ∣ firstT r st - r.2 := by
    unfold firstT
    have e := Int.emod_add_mul_ediv (r.2 - st) r.1
    exact ⟨-((r.2 - st) / r.1), by rw [Int.mul_neg]; omega⟩
  unfold firstK
  have := Int.mul_ediv_cancel' hd
  omega
theorem firstT_ge {r : GRow} (h0 : 0 < r.1) (st : Int) : st ≤ firstT r st := by
  unfold firstT
  have := Int.emod_nonneg (r.2 - st) (by omega : r.1 ≠ 0)
  omega
theorem firstT_lt {r : GRow} (h0 : 0 < r.1) (st : Int) : firstT r st < st + r.1 := by
  unfold firstT
  have := Int.emod_lt_of_pos (r.2 - st) h0
  omega
def aloneT (r : GRow) (os : List GRow) (st : Int) : Option Int := (freeN r os (firstK r st)).map fun j => r.2 + r.1 * (firstK r st + (j : Nat))
def omin : Option Int → Option Int → Option Int
  | none, b => b
  | some a, none => some a
  | some a, some b => if b < a then some b else some a
theorem omin_none {a : Option Int} : omin a none = a := by cases a <;> rfl
theorem omin_ss {a b : Int} : omin (some a) (some b) = some (min a b) := by
  show (if b < a then some b else some a) = _
  split
  · congr 1; omega
  · congr 1; omega
theorem omin_assoc {a b c : Option Int} : omin (omin a b) c = omin a (omin b c) := by
  cases a with
  | none => rfl
  | some a =>
    cases b with
    | none => rfl
    | some b =>
      cases c with
      | none => rw [omin_none, omin_none]
      | some c => rw [omin_ss, omin_ss, omin_ss, omin_ss]; congr 1; omega
theorem omin_comm {a b : Option Int} : omin a b = omin b a := by
  cases a with
  | none => rw [omin_none]; rfl
  | some a =>
    cases b with
    | none => rfl
    | some b => rw [omin_ss, omin_ss]; congr 1; omega
def aloneL (rs os : List GRow) (st : Int) : Option Int := rs.foldl (fun a r => omin a (aloneT r os st)) none
theorem fold_omin {rs os : List GRow} {st : Int} : ∀ {a : Option Int}, rs.foldl (fun a r => omin a (aloneT r os st)) a = omin a (aloneL rs os st) := by
  unfold aloneL
  induction rs with
  | nil => intro a; exact omin_none.symm
  | cons r rs ih =>
    intro a
    show rs.foldl _ (omin a (aloneT r os st)) = omin a (rs.foldl _ (omin none (aloneT r os st)))
    rw [ih, ih (a := omin none (aloneT r os st)), omin_assoc]; rfl
theorem aloneL_snoc {rs os : List GRow} {st : Int} {r : GRow} : aloneL (rs ++ [r]) os st = omin (aloneL rs os st) (aloneT r os st) := by
  unfold aloneL
  rw [List.foldl_append]; rfl
def partT (rs os : List GRow) (st : Int) : Option Int := omin (aloneL rs os st) (aloneL os rs st)
theorem partT_comm {rs os : List GRow} {st : Int} : partT rs os st = partT os rs st := omin_comm
theorem omin_some {a b : Option Int} {d : Int} (h : omin a b = some d) : (a = some d ∨ b = some d) ∧ (∀ x, a = some x → d ≤ x) ∧ ∀ x, b = some x → d ≤ x := by
  cases a with
  | none =>
    have h : b = some d := h
    subst h
    exact ⟨.inr rfl, (fun x e => by cases e), fun x e => by cases e; omega⟩
  | some a =>
    cases b with
    | none =>
      have h : some a = some d := h
      cases h
      exact ⟨.inl rfl, (fun x e => by cases e; omega), fun x e => by cases e⟩
    | some b =>
      simp only [omin] at h
      split at h
      · cases h
        exact ⟨.inr rfl, (fun x e => by cases e; omega), fun x e => by cases e; omega⟩
      · cases h
        exact ⟨.inl rfl, (fun x e => by cases e; omega), fun x e => by cases e; omega⟩
theorem omin_no {a b : Option Int} (h : omin a b = none) : a = none ∧ b = none := by
  cases a <;> cases b <;> simp only [omin] at h
  · exact ⟨rfl, rfl⟩
  · cases h
  · cases h
  · split at h <;> cases h
theorem aloneL_some {os : List GRow} {st : Int} : ∀ {rs : List GRow} {d : Int}, aloneL rs os st = some d → (∃ r ∈ rs, aloneT r os st = some d) ∧ ∀ r ∈ rs, ∀ x, aloneT r os st = some x → d ≤ x := by
  intro rs
  induction rs with
  | nil => intro d h; cases h
  | cons r rs ih =>
    intro d h
    have h : rs.foldl (fun a r => omin a (aloneT r os st)) (omin none (aloneT r os st)) = some d := h
    rw [fold_omin] at h
    obtain ⟨a, b, c⟩ := omin_some h
    constructor
    · rcases a with a | a
      · exact ⟨r, by simp, a⟩
      · obtain ⟨⟨q, hq, e⟩, _⟩ := ih a
        exact ⟨q, by simp [hq], e⟩
    · intro q hq x e
      rcases List.mem_cons.mp hq with z | z
      · subst z; exact b x e
      · cases hk : aloneL rs os st with
        | none =>
          have : ∀ {rs : List GRow}, aloneL rs os st = none → ∀ q ∈ rs, aloneT q os st = none := by
            intro rs
            induction rs with
            | nil => intro _ q hq; cases hq
            | cons r rs ih2 =>
              intro hn q hq
              have hn : rs.foldl (fun a r => omin a (aloneT r os st)) (omin none (aloneT r os st)) = none := hn
              rw [fold_omin] at hn
              obtain ⟨n1, n2⟩ := omin_no hn
              rcases List.mem_cons.mp hq with z | z
              · subst z; exact n1
              · exact ih2 n2 q z
          rw [this hk q z] at e; cases e
        | some k =>
          have c1 := c k hk
          obtain ⟨_, c2⟩ := ih hk
          have := c2 q z x e
          omega
theorem aloneL_none {os : List GRow} {st : Int} : ∀ {rs : List GRow}, aloneL rs os st = none → ∀ q ∈ rs, aloneT q os st = none := by
  intro rs
  induction rs with
  | nil => intro _ q hq; cases hq
  | cons r rs ih =>
    intro hn q hq
    have hn : rs.foldl (fun a r => omin a (aloneT r os st)) (omin none (aloneT r os st)) = none := hn
    rw [fold_omin] at hn
    obtain ⟨n1, n2⟩ := omin_no hn
    rcases List.mem_cons.mp hq with z | z
    · subst z; exact n1
    · exact ih n2 q z
theorem alone_le {r : GRow} {os : List GRow} {st t : Int} (h0 : 0 < r.1) (hl : os.length ≤ 6) (ht : st ≤ t) (h1 : hitR r t = true) (h2 : hitB os t = false) : ∃ d, aloneT r os st = some d ∧ d ≤ t := by
  obtain ⟨n, hn⟩ := Int.dvd_of_emod_eq_zero (of_decide_eq_true h1)
  have et : t = r.2 + r.1 * n := by have : t - r.2 = r.1 * n := hn; omega
  have hge : firstK r st ≤ n := by
    have a := firstT_k h0 st
    have b := firstT_lt h0 st
    by_cases hc : firstK r st ≤ n
    · exact hc
    · exfalso
      have : r.1 * (n + 1) ≤ r.1 * firstK r st := Int.mul_le_mul_of_nonneg_left (by omega) (by omega)
      rw [Int.mul_add] at this
      omega
  unfold aloneT
  cases e : freeN r os (firstK r st) with
  | none =>
    have := cover_along h0 hl (free_none_get e) n
    rw [← et, h2] at this; cases this
  | some j =>
    refine ⟨_, rfl, ?_⟩
    obtain ⟨_, _, hall⟩ := free_get e
    have hj : firstK r st + (j : Nat) ≤ n := by
      apply Classical.byContradiction
      intro hc
      have hi : (n - firstK r st).toNat < j := by omega
      have := hall _ hi
      rw [show firstK r st + (((n - firstK r st).toNat : Nat) : Int) = n by omega, ← et, h2] at this
      cases this
    have := Int.mul_le_mul_of_nonneg_left hj (show 0 ≤ r.1 by omega)
    show r.2 + r.1 * (firstK r st + (j : Nat)) ≤ t
    omega
theorem alone_get {r : GRow} {os : List GRow} {st d : Int} (h0 : 0 < r.1) (h : aloneT r os st = some d) : st ≤ d ∧ hitR r d = true ∧ hitB os d = false := by
  unfold aloneT at h
  cases e : freeN r os (firstK r st) with
  | none => rw [e] at h; cases h
  | some j =>
    rw [e] at h
    obtain rfl : r.2 + r.1 * (firstK r st + (j : Nat)) = d := Option.some.inj h
    obtain ⟨_, hf, _⟩ := free_get e
    have a := firstT_k h0 st
    have b := firstT_ge h0 st
    refine ⟨?_, ?_, hf⟩
    · have := Int.mul_nonneg (show 0 ≤ r.1 by omega) (show (0 : Int) ≤ (j : Nat) by omega)
      rw [Int.mul_add]; omega
    · refine decide_eq_true ?_
      rw [show r.2 + r.1 * (firstK r st + (j : Nat)) - r.2 = r.1 * (firstK r st + (j : Nat)) by omega]
      exact Int.mul_emod_right _ _
theorem hitB_get {rs : List GRow} {t : Int} (h : hitB rs t = true) : ∃ r ∈ rs, hitR r t = true := List.any_eq_true.mp h
theorem part_none {rs os : List GRow} {st : Int} (p1 : Pos1 rs) (p2 : Pos1 os) (l1 : rs.length ≤ 6) (l2 : os.length ≤ 6) (h : partT rs os st = none) (t : Int) : hitB rs t = hitB os t := by
  obtain ⟨a, b⟩ := omin_no h
  have key : ∀ {rs os : List GRow}, Pos1 rs → os.length ≤ 6 → aloneL rs os st = none → hitB rs t = true → hitB os t = true := by
    intro rs os p l hn hh
    obtain ⟨r, hr, h1⟩ := hitB_get hh
    have h0 := p r hr
    have hn := aloneL_none hn r hr
    unfold aloneT at hn
    obtain ⟨n, hn2⟩ := Int.dvd_of_emod_eq_zero (of_decide_eq_true h1)
    have et : t = r.2 + r.1 * n := by have : t - r.2 = r.1 * n := hn2; omega
    rw [et]
    exact cover_along h0 l (free_none_get (Option.map_eq_none_iff.mp hn)) n
  cases e1 : hitB rs t with
  | true => exact (key p1 l2 a e1).symm
  | false =>
    cases e2 : hitB os t with
    | false => rfl
    | true => rw [key p2 l1 b e2] at e1; cases e1
theorem part_get {rs os : List GRow} {st d : Int} (p1 : Pos1 rs) (p2 : Pos1 os) (h : partT rs os st = some d) : st ≤ d ∧ hitB rs d ≠ hitB os d := by
  obtain ⟨a, _, _⟩ := omin_some h
  rcases a with a | a
  · obtain ⟨⟨r, hr, e⟩, _⟩ := aloneL_some a
    obtain ⟨x, y, z⟩ := alone_get (p1 r hr) e
    have : hitB rs d = true := List.any_eq_true.mpr ⟨r, hr, y⟩
    exact ⟨x, by rw [this, z]; decide⟩
  · obtain ⟨⟨r, hr, e⟩, _⟩ := aloneL_some a
    obtain ⟨x, y, z⟩ := alone_get (p2 r hr) e
    have : hitB os d = true := List.any_eq_true.mpr ⟨r, hr, y⟩
    exact ⟨x, by rw [this, z]; decide⟩
theorem part_le {rs os : List GRow} {st t : Int} (p1 : Pos1 rs) (p2 : Pos1 os) (l1 : rs.length ≤ 6) (l2 : os.length ≤ 6) (ht : st ≤ t) (h : hitB rs t ≠ hitB os t) : ∃ d, partT rs os st = some d ∧ d ≤ t := by
  have key : ∀ {rs os : List GRow}, Pos1 rs → os.length ≤ 6 → hitB rs t = true → hitB os t = false → ∃ d, aloneL rs os st = some d ∧ d ≤ t := by
    intro rs os p l ha hb
    obtain ⟨r, hr, h1⟩ := hitB_get ha
    obtain ⟨d, e, hd⟩ := alone_le (p r hr) l ht h1 hb
    cases hk : aloneL rs os st with
    | none => rw [aloneL_none hk r hr] at e; cases e
    | some k => exact ⟨k, rfl, Int.le_trans ((aloneL_some hk).2 r hr d e) hd⟩
  cases hp : partT rs os st with
  | some d =>
    refine ⟨d, rfl, ?_⟩
    obtain ⟨_, c1, c2⟩ := omin_some hp
    cases e1 : hitB rs t with
    | true =>
      cases e2 : hitB os t with
      | true => rw [e1, e2] at h; exact absurd rfl h
      | false => obtain ⟨k, a, b⟩ := key p1 l2 e1 e2; have := c1 k a; omega
    | false =>
      cases e2 : hitB os t with
      | false => rw [e1, e2] at h; exact absurd rfl h
      | true => obtain ⟨k, a, b⟩ := key p2 l1 e2 e1; have := c2 k a; omega
  | none => exact absurd (part_none p1 p2 l1 l2 hp t) h
theorem part_again {rs os : List GRow} {st d : Int} (p1 : Pos1 rs) (p2 : Pos1 os) (l1 : rs.length ≤ 6) (l2 : os.length ≤ 6) (h : partT rs os st = some d) : partT rs os d = some d := by
  obtain ⟨_, hn⟩ := part_get p1 p2 h
  obtain ⟨k, e, hk⟩ := part_le (st := d) p1 p2 l1 l2 (Int.le_refl d) hn
  obtain ⟨hg, _⟩ := part_get p1 p2 e
  rw [e]; congr 1; omega
theorem part_iff {rs os : List GRow} {st d t : Int} (p1 : Pos1 rs) (p2 : Pos1 os) (l1 : rs.length ≤ 6) (l2 : os.length ≤ 6) (h : partT rs os st = some d) (h1 : st ≤ t) (h2 : t ≤ d) : hitB rs t ≠ hitB os t ↔ t = d := by
  constructor
  · intro hn
    obtain ⟨k, e, hk⟩ := part_le p1 p2 l1 l2 h1 hn
    rw [h] at e; cases e; omega
  · rintro rfl
    exact (part_get p1 p2 h).2
end Pd
namespace Pd
open PySem PySem.Spec PyProof.Rows L2
theorem tail_of {rest : List Stmt} {R : RR} {P : Prop} (B : Bx) (J : DE → Mem → Prop) (f : (∀ ρ' m', J ρ' m' → WSs B rest ρ' m' R) → P) (t : ∀ ρ' m', J ρ' m' → WSs B rest ρ' m' R) : P := f t
end Pd
namespace Pd
open PySem PySem.Spec PyProof.Rows L2
theorem cover_pow {rs : List GRow} {t : Int} (h : ∀ j < 2 ^ rs.length, hitB rs (t + (j : Nat)) = true) (x : Int) : hitB rs x = true := by
  have hv := (ex_rows rs).van t fun i hi y => pf_hit (h i hi) y
  cases e : hitB rs x with
  | true => rfl
  | false =>
    have a := pf_miss e
    rw [hv] at a
    cases a
theorem cycle_half {rs : List GRow} (h0 : Pos1 rs) (h : ∀ x, hitB rs x = true) : ∃ L : Nat, 0 < L ∧ L * 2 ≤ 2 ^ rs.length ∧ isCyc rs L = true := by
  have gd : ∀ i (hi : i < rs.length), rs.getD i (1, 0) = rs[i] := fun i hi => by simp [hi]
  obtain ⟨L, l0, l1, l2⟩ := Cyc.cycle (d := fun i => (rs.getD i (1, 0)).1.toNat) (a := fun i => (rs.getD i (1, 0)).2) (k := rs.length) (fun i hi => by
      have := h0 rs[i] (List.getElem_mem hi)
      show 0 < (rs.getD i (1, 0)).1.toNat
      rw [gd i hi]; omega) (fun x => by
      obtain ⟨r, hr, hx⟩ := List.any_eq_true.mp (h x)
      obtain ⟨i, hi, rfl⟩ := List.getElem_of_mem hr
      refine ⟨i, hi, ?_⟩
      have p := h0 rs[i] (List.getElem_mem hi)
      show (((rs.getD i (1, 0)).1.toNat : Nat) : Int) ∣ x - (rs.getD i (1, 0)).2
      rw [gd i hi, Int.toNat_of_nonneg (by omega)]
      exact Int.dvd_of_emod_eq_zero (of_decide_eq_true hx))
  refine ⟨L, l0, l1, isCyc_yes fun i _ => ?_⟩
  obtain ⟨j, hj, hd, hx⟩ := l2 (i : Nat)
  have p := h0 rs[j] (List.getElem_mem hj)
  have hd' : rs[j].1.toNat ∣ L := by
    have z : (rs.getD j (1, 0)).1.toNat ∣ L := hd
    rw [gd j hj] at z; exact z
  have hx' : ((rs[j].1.toNat : Nat) : Int) ∣ (i : Nat) - rs[j].2 := by
    have z : (((rs.getD j (1, 0)).1.toNat : Nat) : Int) ∣ (i : Nat) - (rs.getD j (1, 0)).2 := hx
    rw [gd j hj] at z; exact z
  have e1 : (L : Int) % rs[j].1 = 0 := by
    have := Int.natCast_dvd_natCast.mpr hd'
    rw [Int.toNat_of_nonneg (by omega)] at this
    exact Int.emod_eq_zero_of_dvd this
  have e2 : hitR rs[j] (i : Nat) = true := by
    rw [Int.toNat_of_nonneg (by omega)] at hx'
    exact decide_eq_true (Int.emod_eq_zero_of_dvd hx')
  cases e : ownN rs L (i : Nat) with
  | none => exact absurd e (own_of (List.getElem?_eq_getElem hj) e1 e2)
  | some k => exact ⟨k, rfl⟩
theorem cyc_half {rs : List GRow} (hl : rs.length ≤ 6) (h0 : Pos1 rs) (h : ∀ x, hitB rs x = true) : ∃ L, cycN rs = some L ∧ 1 ≤ L ∧ L * 2 ≤ 2 ^ rs.length := by
  obtain ⟨L, e⟩ := cyc_ex hl h0 h
  obtain ⟨M, m0, m1, hm⟩ := cycle_half h0 h
  obtain ⟨l1, _, _, hmin⟩ := cyc_get e
  refine ⟨L, e, l1, ?_⟩
  have : L ≤ M := by
    apply Classical.byContradiction
    intro hc
    rw [hmin M m0 (by omega)] at hm; cases hm
  omega
theorem gap_pow (rs : List GRow) (hl : rs.length ≤ 6) (t : Int) : (gapD rs t = .non ∧ ∀ x, hitB rs x = true) ∨ ∃ k : Nat, k < 2 ^ rs.length ∧ gapD rs t = .int (t + k) ∧ hitB rs (t + (k : Nat)) = false := by
  rcases gap_split rs t with ⟨e, h⟩ | ⟨k, hk, e, h⟩
  · exact .inl ⟨e, fun x => cover_all hl h x⟩
  · refine .inr ⟨k, ?_, e, h⟩
    apply Classical.byContradiction
    intro hc
    have hall : ∀ j < 2 ^ rs.length, hitB rs (t + (j : Nat)) = true := by
      intro j hj
      cases ej : hitB rs (t + (j : Nat)) with
      | true => rfl
      | false =>
        exfalso
        have hj64 : j < 64 := Nat.lt_of_lt_of_le hj (Nat.pow_le_pow_right (by decide) hl : 2 ^ rs.length ≤ 2 ^ 6)
        have hp : ∃ i, i < 64 ∧ hitB rs (t + (i : Nat)) = false ∧ ∀ i2 < i, hitB rs (t + (i2 : Nat)) = true := by
          cases eg : gapN rs t with
          | none =>
            unfold gapN at eg
            rw [List.find?_range_eq_none] at eg
            have := eg j hj64
            rw [ej] at this; cases this
          | some i =>
            unfold gapN at eg
            rw [List.find?_range_eq_some] at eg
            exact ⟨i, List.mem_range.mp eg.2.1, by simpa using eg.1, fun i2 h2 => by simpa using eg.2.2 i2 h2⟩
        obtain ⟨i, hi, e1, e2⟩ := hp
        have ek := gap_some hi e1 e2
        rw [e] at ek
        have : k = i := by injection ek with ek; omega
        subst this
        have hkj : k ≤ j := by
          apply Classical.byContradiction
          intro z
          rw [e2 j (by omega)] at ej; cases ej
        omega
    rw [cover_pow hall] at h; cases h
theorem cyc_none_of {rs : List GRow} {x : Int} (h : hitB rs x = false) : cycN rs = none := by
  cases e : cycN rs with
  | none => rfl
  | some L => rw [cyc_all e] at h; cases h
section
variable {B : Bx} {a b c : Expr} {ρ : DE} {m : Mem} {Q : D → Mem → Prop} {pos : Pos}
theorem we_chain {op op' : CmpOp} (h : WE B a ρ m fun x m1 => WE B b ρ m1 fun y m2 => WB B (compareOp op) x y m2 fun z m3 => ∃ k, z = .bl k ∧
      if k = true then WE B c ρ m3 fun w m4 => WB B (compareOp op') y w m4 Q else Q (.bl false) m3)
    (hm : lastMarks [op, op'] [b, c] = false) : WE B (.Compare a [op, op'] [b, c] pos) ρ m Q := fun G σ H s r cu Q' k => by
  refine teX_of (pe_chain (oprX _) (oprX _) (peX a) (peX b) (peX c) hm) ?_
  refine h G σ H s r cu _ fun v d m1 G1 H1 s1 c1 r1 h1 => ?_
  refine h1 G1 σ H1 (s.trans s1) (r.sub s1) c1 _ fun u d2 m2 G2 H2 s2 c2 r2 h2 => ?_
  refine h2 G2 H2 v u ((s.trans s1).trans s2) c2 (Rep.sub s2 _ _ r1) r2 _ fun z d3 m3 G3 H3 s3 c3 r3 h3 => ?_
  obtain ⟨t, rfl, q⟩ := h3
  refine ⟨t, r3, ?_⟩
  cases t with
  | true =>
    rw [if_pos rfl] at q ⊢
    refine q G3 σ H3 (((s.trans s1).trans s2).trans s3) (r.sub ((s1.trans s2).trans s3)) c3 _ fun w d4 m4 G4 H4 s4 c4 r4 h4 => ?_
    exact h4 G4 H4 u w ((((s.trans s1).trans s2).trans s3).trans s4) c4 (Rep.sub (s3.trans s4) _ _ r2) r4 Q' (k.sub (((s1.trans s2).trans s3).trans s4))
  | false =>
    rw [if_neg Bool.false_ne_true] at q ⊢
    exact k _ (.bl false) m3 G3 H3 ((s1.trans s2).trans s3) c3 rfl q
end
end Pd
namespace Pd
open PySem PySem.Spec PyProof.Rows L2
def Rwn (n : Nat) (rs : List GRow) : Prop := ∀ r ∈ rs, 0 < r.1 ∧ Sz n r.1 ∧ 0 ≤ r.2 ∧ r.2 < r.1
theorem rwn_nil {n : Nat} : Rwn n [] := fun r h => by cases h
theorem rwn_app {n : Nat} {rs ss : List GRow} (h : Rwn n rs) (k : Rwn n ss) : Rwn n (rs ++ ss) := fun r hr => (List.mem_append.mp hr).elim (h r) (k r)
theorem rwn_one {n : Nat} {s o : Int} (h0 : 0 < s) (h1 : Sz n s) (h2 : 0 ≤ o) (h3 : o < s) : Rwn n [(s, o)] := fun r hr => by rw [List.mem_singleton.mp hr]; exact ⟨h0, h1, h2, h3⟩
theorem rwn_sub {n : Nat} {rs ss : List GRow} (h : Rwn n rs) (k : ∀ r ∈ ss, r ∈ rs) : Rwn n ss := fun r hr => h r (k r hr)
theorem Rwn.mono {n k : Nat} {rs : List GRow} (h : Rwn n rs) (hk : n ≤ k) : Rwn k rs := fun r hr => ⟨(h r hr).1, (h r hr).2.1.mono hk, (h r hr).2.2⟩
theorem Rwn.rws {n : Nat} {rs : List GRow} (h : Rwn n rs) : Rws n rs := fun r hr => ⟨(h r hr).1, (h r hr).2.1, sz_lt (h r hr).2.2.1 (h r hr).2.2.2 (h r hr).2.1⟩
theorem Rwn.pos {n : Nat} {rs : List GRow} (h : Rwn n rs) : Pos1 rs := fun r hr => (h r hr).1
theorem Rwn.good {n : Nat} {rs : List GRow} (h : Rwn n rs) (hn : n ≤ 1340) : Good rs := fun r hr => ⟨(h r hr).1, (h r hr).2.2.1, (h r hr).2.2.2, (h r hr).2.1.mono hn⟩
theorem Good.rwn {rs : List GRow} (h : Good rs) : Rwn 1340 rs := fun r hr => ⟨(h r hr).1, (h r hr).2.2.2, (h r hr).2.1, (h r hr).2.2.1⟩
theorem part_lt {s o n k : Int} (h0 : 0 ≤ o) (h1 : o < s) (k0 : 0 ≤ k) (k1 : k < n) : 0 ≤ o + s * k ∧ o + s * k < s * n := by
  have a := Int.mul_nonneg (show 0 ≤ s by omega) k0
  have b : s * (k + 1) ≤ s * n := Int.mul_le_mul_of_nonneg_left (by omega) (by omega)
  rw [Int.mul_add, Int.mul_one] at b
  exact ⟨by omega, by omega⟩
theorem split_rwn {old : GRow} {n : Int} {b : Nat} (h0 : 0 < n) (h1 : n ≤ 5) (h : 0 < old.1 ∧ Sz b old.1 ∧ 0 ≤ old.2 ∧ old.2 < old.1) : Rwn (b + 4) (splitR old n) := by
  obtain ⟨a0, a1, a2, a3⟩ := h
  intro r hr
  obtain ⟨k, hk, rfl⟩ := List.mem_map.mp hr
  have hk := List.mem_range.mp hk
  have z := part_lt a2 a3 (show (0 : Int) ≤ 0 + (k : Int) by omega) (show 0 + (k : Int) < n by omega)
  exact ⟨Int.mul_pos a0 h0, (sz_mul a1 (show Sz 3 n by unfold Sz; omega)).mono (by omega), z.1, z.2⟩
theorem norm_rwn {sh : Int} {n : Nat} {rs : List GRow} (h : Rws n rs) : Rwn n (normR sh rs) := fun r hr => by
  obtain ⟨x, hx, rfl⟩ := List.mem_map.mp hr
  obtain ⟨a, b, _⟩ := h x hx
  exact ⟨a, b, Int.emod_nonneg _ (by omega), Int.emod_lt_of_pos _ a⟩
def partR (r : GRow) (c : GRow) : GRow := (r.1 * c.1, r.2 + r.1 * c.2)
def partF (r : GRow) : D → D
  | .tup [.int s, .int o] => rowD (r.1 * s, r.2 + r.1 * o)
  | _ => .non
theorem part_map {r : GRow} {cs : List GRow} : (cs.map rowD).map (partF r) = (cs.map (partR r)).map rowD := by rw [List.map_map, List.map_map]; rfl
theorem part_rwn {r : GRow} {cs : List GRow} {a b : Nat} (h : Rwn b cs) (r0 : 0 < r.1) (r1 : Sz a r.1) (r2 : 0 ≤ r.2) (r3 : r.2 < r.1) : Rwn (a + b) (cs.map (partR r)) := fun q hq => by
  obtain ⟨c, hc, rfl⟩ := List.mem_map.mp hq
  obtain ⟨c0, c1, c2, c3⟩ := h c hc
  have z := part_lt r2 r3 c2 c3
  exact ⟨Int.mul_pos r0 c0, sz_mul r1 c1, z.1, z.2⟩
def Sim : Nat → Mem → D → D → Prop
  | 0, _, d, e => d = e ∧ PlD 0 e
  | n + 1, m, d, e => (d = e ∧ PlD 0 e) ∨ (∃ (l k : List D), Lv d m l ∧ e = .lst k ∧ l.length < 2 ^ 62 ∧ l.length = k.length ∧ ∀ (i : Nat) (x y : D), l[i]? = some x → k[i]? = some y → Sim n m x y) ∨
      ∃ (l k : List D), d = .tup l ∧ e = .tup k ∧ l.length < 2 ^ 62 ∧ l.length = k.length ∧ ∀ (i : Nat) (x y : D), l[i]? = some x → k[i]? = some y → Sim n m x y
theorem sim_of {m : Mem} : ∀ {n : Nat} {d : D}, PlD n d → Sim n m d d
  | 0, d, h => And.intro rfl h
  | n + 1, .non, h => Or.inl ⟨rfl, True.intro⟩
  | n + 1, .bl _, h => Or.inl ⟨rfl, True.intro⟩
  | n + 1, .int _, h => Or.inl ⟨rfl, True.intro⟩
  | n + 1, .str _, h => Or.inl ⟨rfl, True.intro⟩
  | n + 1, .lst l, h => Or.inr (Or.inl ⟨l, l, .inl rfl, rfl, h.1, rfl, fun i x y hx hy => by rw [hx] at hy; cases hy; exact sim_of (h.2 x (List.mem_of_getElem? hx))⟩)
  | n + 1, .tup l, h => Or.inr (Or.inr ⟨l, l, rfl, rfl, h.1, rfl, fun i x y hx hy => by rw [hx] at hy; cases hy; exact sim_of (h.2 x (List.mem_of_getElem? hx))⟩)
  | n + 1, .ref _, h => h.elim
  | n + 1, .ty _, h => h.elim
  | n + 1, .ins _ _, h => h.elim
theorem wc_isLvT {B : Bx} {m : Mem} {Q : D → Mem → Prop} {x : D} {l : List D} (h : Lv x m l) (q : Q (.bl false) m) : WC B (.builtin "isinstance") [x, .ty "tuple"] m Q := by
  rcases h with rfl | ⟨p, rfl, hm⟩
  · exact wc_isTupleF rfl rfl q
  · exact wc_isM hm (by decide +kernel) q
theorem wc_isLvI {B : Bx} {m : Mem} {Q : D → Mem → Prop} {x : D} {l : List D} (h : Lv x m l) (q : Q (.bl false) m) : WC B (.builtin "isinstance") [x, .ty "int"] m Q := by
  rcases h with rfl | ⟨p, rfl, hm⟩
  · exact wc_isIntF rfl rfl q
  · exact wc_isM hm (by decide +kernel) q
def enT (k : Nat) : D → Bool
  | .tup [.int i, _] => !decide (i = ((k : Nat) : Int))
  | _ => true
def enF : D → D
  | .tup [_, x] => x
  | _ => .non
theorem en_others {l : List D} {k : Nat} (hk : k < l.length) : ((enL l).filter (enT k)).map enF = dropAt l k := by
  have key : ∀ (l : List D) (n : Nat), (((List.range' n l.length).zipWith (fun i d => D.tup [.int ((i : Nat) : Int), d]) l).filter (enT k)).map enF = if n ≤ k ∧ k < n + l.length then dropAt l (k - n) else l := by
    intro l
    induction l with
    | nil => intro n; rw [if_neg (by simp)]; rfl
    | cons d l ih =>
      intro n
      rw [List.length_cons, List.range'_succ, List.zipWith_cons_cons, List.filter_cons]
      by_cases e : n = k
      · subst e
        have e0 : enT n (D.tup [.int ((n : Nat) : Int), d]) = false := by simp [enT]
        rw [if_neg (by rw [e0]; decide), ih (n + 1), if_neg (by omega), if_pos (by omega)]
        simp [dropAt]
      · have e0 : enT k (D.tup [.int ((n : Nat) : Int), d]) = true := by simp [enT]; omega
        rw [if_pos e0, List.map_cons, ih (n + 1)]
        show d :: _ = _
        by_cases h : n + 1 ≤ k ∧ k < n + 1 + l.length
        · rw [if_pos h, if_pos (by omega), show k - n = (k - (n + 1)) + 1 by omega]
          simp [dropAt]
        · rw [if_neg h, if_neg (by omega)]
  have := key l 0
  rw [if_pos (by omega)] at this
  unfold enL
  rw [List.range_eq_range']
  simpa using this
end Pd
namespace K
open PySem PySem.Spec PyProof.Rows L2 Pd
section
variable {B : Bx} {a b c e tg : Expr} {es : List Expr} {ρ : DE} {m : Mem} {Q : D → Mem → Prop} {N : DE → Mem → Prop} {nx : DE → Mem → Prop} {rt : D → Mem → Prop} {bk ct : DE → Mem → Prop} {pos p2 : Pos} {st : Stmt} {body rest orelse : List Stmt}
theorem wss_nil (q : nx ρ m) : WSs B [] ρ m (RR.mk nx rt bk ct) := Pd.wss_nil (R := RR.mk nx rt bk ct) q
end
section
variable {B : Bx} {a b c e tg : Expr} {es : List Expr} {ρ : DE} {m : Mem} {Q : D → Mem → Prop} {N : DE → Mem → Prop} {nx : DE → Mem → Prop} {rt : D → Mem → Prop} {bk ct : DE → Mem → Prop} {pos p2 : Pos} {st : Stmt} {body rest orelse : List Stmt}
theorem wss_cons (h : WS B st ρ m (RR.mk (fun ρ1 m1 => WSs B rest ρ1 m1 (RR.mk nx rt bk ct)) rt bk ct)) : WSs B (st :: rest) ρ m (RR.mk nx rt bk ct) := Pd.wss_cons (R := RR.mk nx rt bk ct) h
end
section
variable {B : Bx} {a b c e tg : Expr} {es : List Expr} {ρ : DE} {m : Mem} {Q : D → Mem → Prop} {N : DE → Mem → Prop} {nx : DE → Mem → Prop} {rt : D → Mem → Prop} {bk ct : DE → Mem → Prop} {pos p2 : Pos} {st : Stmt} {body rest orelse : List Stmt}
theorem ws_pass (q : nx ρ m) : WS B (.Pass pos) ρ m (RR.mk nx rt bk ct) := Pd.ws_pass (R := RR.mk nx rt bk ct) q
end
section
variable {B : Bx} {a b c e tg : Expr} {es : List Expr} {ρ : DE} {m : Mem} {Q : D → Mem → Prop} {N : DE → Mem → Prop} {nx : DE → Mem → Prop} {rt : D → Mem → Prop} {bk ct : DE → Mem → Prop} {pos p2 : Pos} {st : Stmt} {body rest orelse : List Stmt}
theorem ws_break (q : bk ρ m) : WS B (.Break pos) ρ m (RR.mk nx rt bk ct) := Pd.ws_break (R := RR.mk nx rt bk ct) q
end
section
variable {B : Bx} {a b c e tg : Expr} {es : List Expr} {ρ : DE} {m : Mem} {Q : D → Mem → Prop} {N : DE → Mem → Prop} {nx : DE → Mem → Prop} {rt : D → Mem → Prop} {bk ct : DE → Mem → Prop} {pos p2 : Pos} {st : Stmt} {body rest orelse : List Stmt}
theorem ws_continue (q : ct ρ m) : WS B (.Continue pos) ρ m (RR.mk nx rt bk ct) := Pd.ws_continue (R := RR.mk nx rt bk ct) q
end
section
variable {B : Bx} {a b c e tg : Expr} {es : List Expr} {ρ : DE} {m : Mem} {Q : D → Mem → Prop} {N : DE → Mem → Prop} {nx : DE → Mem → Prop} {rt : D → Mem → Prop} {bk ct : DE → Mem → Prop} {pos p2 : Pos} {st : Stmt} {body rest orelse : List Stmt}
theorem ws_expr (h : WE B e ρ m fun _ m1 => nx ρ m1) (hs : swapsWith e none pos.line B.X.env = pure false) : WS B (.Expr e pos) ρ m (RR.mk nx rt bk ct) := Pd.ws_expr (R := RR.mk nx rt bk ct) h hs
end
section
variable {B : Bx} {a b c e tg : Expr} {es : List Expr} {ρ : DE} {m : Mem} {Q : D → Mem → Prop} {N : DE → Mem → Prop} {nx : DE → Mem → Prop} {rt : D → Mem → Prop} {bk ct : DE → Mem → Prop} {pos p2 : Pos} {st : Stmt} {body rest orelse : List Stmt}
theorem ws_ret (h : WE B e ρ m rt) : WS B (.Return (some e) pos) ρ m (RR.mk nx rt bk ct) := Pd.ws_ret (R := RR.mk nx rt bk ct) h
end
section
variable {B : Bx} {a b c e tg : Expr} {es : List Expr} {ρ : DE} {m : Mem} {Q : D → Mem → Prop} {N : DE → Mem → Prop} {nx : DE → Mem → Prop} {rt : D → Mem → Prop} {bk ct : DE → Mem → Prop} {pos p2 : Pos} {st : Stmt} {body rest orelse : List Stmt}
theorem ws_retN (q : rt .non m) : WS B (.Return none pos) ρ m (RR.mk nx rt bk ct) := Pd.ws_retN (R := RR.mk nx rt bk ct) q
end
section
variable {B : Bx} {a b c e tg : Expr} {es : List Expr} {ρ : DE} {m : Mem} {Q : D → Mem → Prop} {N : DE → Mem → Prop} {nx : DE → Mem → Prop} {rt : D → Mem → Prop} {bk ct : DE → Mem → Prop} {pos p2 : Pos} {st : Stmt} {body rest orelse : List Stmt}
theorem ws_if {orelse : List Stmt} (h : WT B c ρ m fun k m1 => if k = true then WSs B body ρ m1 (RR.mk nx rt bk ct) else WSs B orelse ρ m1 (RR.mk nx rt bk ct)) : WS B (.If c body orelse pos) ρ m (RR.mk nx rt bk ct) := Pd.ws_if (R := RR.mk nx rt bk ct) h
end
section
variable {B : Bx} {a b c e tg : Expr} {es : List Expr} {ρ : DE} {m : Mem} {Q : D → Mem → Prop} {N : DE → Mem → Prop} {nx : DE → Mem → Prop} {rt : D → Mem → Prop} {bk ct : DE → Mem → Prop} {pos p2 : Pos} {st : Stmt} {body rest orelse : List Stmt}
theorem ws_asg (h : WE B e ρ m fun d m1 => WG B tg d ρ m1 nx) (hs : swapsWithSole [tg] e pos.line B.X.env = pure false) (hw : swappedStores [tg] e B.X.env = pure none) (h1 : (assignEach [tg] B.X.env).map (·.2) = [assign tg B.X.env]) : WS B (.Assign [tg] e pos) ρ m (RR.mk nx rt bk ct) := Pd.ws_asg (R := RR.mk nx rt bk ct) h hs hw h1
end
section
variable {B : Bx} {a b c e tg : Expr} {es : List Expr} {ρ : DE} {m : Mem} {Q : D → Mem → Prop} {N : DE → Mem → Prop} {nx : DE → Mem → Prop} {rt : D → Mem → Prop} {bk ct : DE → Mem → Prop} {pos p2 : Pos} {st : Stmt} {body rest orelse : List Stmt}
theorem ws_while (W : Nat → DE → Mem → Prop) (hp : Pss B) (h0 : ∃ n, W n ρ m)
    (h : ∀ n ρ1 m1, W n ρ1 m1 → WT B c ρ1 m1 fun k m2 => if k = true then WSs B body ρ1 m2 (RR.mk (fun ρ3 m3 => ∃ n', n' < n ∧ W n' ρ3 m3) (rt) (nx) (fun ρ3 m3 => ∃ n', n' < n ∧ W n' ρ3 m3)) else nx ρ1 m2) :
    WS B (.While c body [] pos) ρ m (RR.mk nx rt bk ct) := Pd.ws_while (R := RR.mk nx rt bk ct) W hp h0 h
end
section
variable {B : Bx} {x y d : D} {m : Mem} {Q : D → Mem → Prop} {i j : Int} {p q C : Addr} {l : List D} {a b e o : Expr} {es : List Expr} {ρ : DE} {pos p2 apos : Pos} {N : DE → Mem → Prop} {nx : DE → Mem → Prop} {rt : D → Mem → Prop} {bk ct : DE → Mem → Prop} {P : PD} {n f : Str} {fl : List (Str × D)}
theorem ws_fld {pos' : Pos} (h : WE B e ρ m fun d m1 => WE B o ρ m1 fun x m2 => ∃ p C dx fl, x = .ref p ∧ m2 p = some (.ins C dx fl) ∧ FldOk B C f ∧ fl.length < 1000 ∧ nx ρ (mset m2 p (.ins C dx (putD f d fl))))
    (hs : swapsWith e (some (.Attribute o f pos')) pos.line B.X.env = pure false) : WS B (.Assign [.Attribute o f pos'] e pos) ρ m (RR.mk nx rt bk ct) := Pd.ws_fld (R := RR.mk nx rt bk ct) h hs
end
section
variable {B : Bx} {a b c e tg : Expr} {es : List Expr} {ρ : DE} {m : Mem} {Q : D → Mem → Prop} {N : DE → Mem → Prop} {nx : DE → Mem → Prop} {rt : D → Mem → Prop} {bk ct : DE → Mem → Prop} {pos p2 : Pos} {st : Stmt} {body rest orelse : List Stmt} {x : Str} {i : Nat} {d : D}
theorem ws_st {pos' : Pos} (k : Bok B) (s : Sl B x i) (h : WE B e ρ m fun d m1 => nx ((i, d) :: ρ) m1) (hs : swapsWith e (some (.Name x pos')) pos.line B.X.env = pure false) : WS B (.Assign [.Name x pos'] e pos) ρ m (RR.mk nx rt bk ct) := Pd.ws_st (R := RR.mk nx rt bk ct) k s h hs
end
section
variable {B : Bx} {a b c e tg : Expr} {es : List Expr} {ρ : DE} {m : Mem} {Q : D → Mem → Prop} {N : DE → Mem → Prop} {nx : DE → Mem → Prop} {rt : D → Mem → Prop} {bk ct : DE → Mem → Prop} {pos p2 : Pos} {st : Stmt} {body rest orelse : List Stmt} {n x : Str} {i : Nat} {d : D} {id T : String} {P : PD}
theorem ws_for_r1 {p : Pos} {a : Expr} (k : Bok B) (h0 : Bt B "range" "range") 
    (h : WE B a ρ m fun d m1 => ∃ j : Int, d = .int j ∧ -(2 ^ 62) ≤ j ∧ j < 2 ^ 62 ∧ forD B tg body (RR.mk nx rt bk ct) (rngD 0 j.toNat) ρ m1) (h1 : starEach [a] B.X.env = (false, eval a B.X.env) :: starEach [] B.X.env) (hs1 : starEach [a] B.X.env = [(false, eval a B.X.env)])
    (hs : ∀ x, foldedSetIterable (.Call (.Name "range" p) [a] [] p2) B.X.env x = pure x) : WS B (.For tg (.Call (.Name "range" p) [a] [] p2) body [] pos) ρ m (RR.mk nx rt bk ct) := Pd.ws_for_r1 (R := RR.mk nx rt bk ct) k h0 h h1 hs1 hs
end
section
variable {B : Bx} {a b c e tg : Expr} {es : List Expr} {ρ : DE} {m : Mem} {Q : D → Mem → Prop} {N : DE → Mem → Prop} {nx : DE → Mem → Prop} {rt : D → Mem → Prop} {bk ct : DE → Mem → Prop} {pos p2 : Pos} {st : Stmt} {body rest orelse : List Stmt} {n x : Str} {i : Nat} {d : D} {id T : String} {P : PD}
theorem ws_for_l (k : Bok B) (h : WE B e ρ m fun d m1 => ∃ ds, d = .lst ds ∧ forD B tg body (RR.mk nx rt bk ct) ds ρ m1) (hs : ∀ x, foldedSetIterable e B.X.env x = pure x) : WS B (.For tg e body [] pos) ρ m (RR.mk nx rt bk ct) := Pd.ws_for_l (R := RR.mk nx rt bk ct) k h hs
end
section
variable {B : Bx} {a b c e tg : Expr} {es : List Expr} {ρ : DE} {m : Mem} {Q : D → Mem → Prop} {N : DE → Mem → Prop} {nx : DE → Mem → Prop} {rt : D → Mem → Prop} {bk ct : DE → Mem → Prop} {pos p2 : Pos} {st : Stmt} {body rest orelse : List Stmt} {n x : Str} {i : Nat} {d : D} {id T : String} {P : PD}
theorem ws_for_t (k : Bok B) (h : WE B e ρ m fun d m1 => ∃ ds, d = .tup ds ∧ forD B tg body (RR.mk nx rt bk ct) ds ρ m1) (hs : ∀ x, foldedSetIterable e B.X.env x = pure x) : WS B (.For tg e body [] pos) ρ m (RR.mk nx rt bk ct) := Pd.ws_for_t (R := RR.mk nx rt bk ct) k h hs
end
section
variable {B : Bx} {a b c e tg : Expr} {es : List Expr} {ρ : DE} {m : Mem} {Q : D → Mem → Prop} {N : DE → Mem → Prop} {nx : DE → Mem → Prop} {rt : D → Mem → Prop} {bk ct : DE → Mem → Prop} {pos p2 : Pos} {st : Stmt} {body rest orelse : List Stmt} {x : Str} {i : Nat} {d : D} {ds : List D}
theorem ws_join (J : DE → Mem → Prop) (h : WS B st ρ m (RR.mk (J) rt bk ct)) (k : ∀ ρ' m', J ρ' m' → nx ρ' m') : WS B st ρ m (RR.mk nx rt bk ct) := Pd.ws_join (R := RR.mk nx rt bk ct) J h k
end
section
variable {B : Bx} {a b c e tg : Expr} {es : List Expr} {ρ : DE} {m : Mem} {Q : D → Mem → Prop} {N : DE → Mem → Prop} {nx : DE → Mem → Prop} {rt : D → Mem → Prop} {bk ct : DE → Mem → Prop} {pos p2 : Pos} {st : Stmt} {body rest orelse : List Stmt} {x : Str} {i : Nat} {d : D} {ds : List D}
theorem forD_inv (I : List D → DE → Mem → Prop) (h : ∀ d ds ρ m, I (d :: ds) ρ m → WG B tg d ρ m fun ρ1 m1 => WSs B body ρ1 m1 (RR.mk (I ds) (rt) (nx) (I ds))) (h0 : ∀ ρ m, I [] ρ m → nx ρ m) : ∀ ds ρ m, I ds ρ m → forD B tg body (RR.mk nx rt bk ct) ds ρ m := Pd.forD_inv (R := RR.mk nx rt bk ct) I h h0
end
section
variable {B : Bx} {x y d : D} {m : Mem} {Q : D → Mem → Prop} {i j : Int} {p q C C' : Addr} {l ds : List D} {a b e o : Expr} {es : List Expr} {ρ : DE} {pos p2 apos : Pos} {N : DE → Mem → Prop} {nx : DE → Mem → Prop} {rt : D → Mem → Prop} {bk ct : DE → Mem → Prop} {P : PD} {n f : Str} {id T : String} {fl : List (Str × D)} {t : Bool}
theorem forD_at (ds : List D) (I : Nat → DE → Mem → Prop) {body : List Stmt} {tg : Expr} (h : ∀ i d ρ m, ds[i]? = some d → I i ρ m → WG B tg d ρ m fun ρ1 m1 => WSs B body ρ1 m1 (RR.mk (I (i + 1)) (rt) (nx) (I (i + 1)))) (h0 : ∀ ρ m, I ds.length ρ m → nx ρ m) (hi : I 0 ρ m) : forD B tg body (RR.mk nx rt bk ct) ds ρ m := Pd.forD_at (R := RR.mk nx rt bk ct) ds I h h0 hi
end
section
variable {B : Bx} {x y d : D} {m : Mem} {Q : D → Mem → Prop} {i j : Int} {p q C C' : Addr} {l ds : List D} {a b e o : Expr} {es : List Expr} {ρ : DE} {pos p2 apos : Pos} {N : DE → Mem → Prop} {nx : DE → Mem → Prop} {rt : D → Mem → Prop} {bk ct : DE → Mem → Prop} {P : PD} {n f : Str} {id T : String} {fl : List (Str × D)} {t : Bool}
theorem forD_rng {n : Nat} (I : Nat → DE → Mem → Prop) {body : List Stmt} {tg : Expr} (h : ∀ i ρ m, i < n → I i ρ m → WG B tg (.int (i : Nat)) ρ m fun ρ1 m1 => WSs B body ρ1 m1 (RR.mk (I (i + 1)) (rt) (nx) (I (i + 1)))) (h0 : ∀ ρ m, I n ρ m → nx ρ m) (hi : I 0 ρ m) : forD B tg body (RR.mk nx rt bk ct) (rngD 0 n) ρ m := Pd.forD_rng (R := RR.mk nx rt bk ct) I h h0 hi
end
section
variable {B : Bx} {sc sc0 : Scope} {N0 : List Str} {elt iter : Expr} {ifs : List Expr} {i j : Nat} {v y : Str} {ρ : DE} {m : Mem} {Q : D → Mem → Prop} {pos vp py spos pr pc : Pos} {a : Expr} {nx : DE → Mem → Prop} {rt : D → Mem → Prop} {bk ct : DE → Mem → Prop}
theorem ws_lcl (k : Bok B) (cb : CB B N0 sc0) (sy : Sl B y i) (hyl : sc0.names.lookup y = some .local) (hsw : swB sc0 sc y py.line pos.line = true) (hi : B.X.N[j]? = some v)
    (hif : ifs.length ≤ 1) (hx : sc.names.lookup v = some .local) (ok : blkC N0 sc0 sc [(v, j)] = true)
    (h : WE B iter ρ m fun d m1 => ∃ ds, d = .lst ds ∧ ∀ p, m1 p = none → lcD (IsBlk B sc) elt ifs j ρ (fun d m2 => nx ((i, d) :: ρ) m2) p ds [] (mset m1 p (.lst []))) (hs : ∀ x, foldedSetIterable iter B.X.env x = pure x) : WS B (.Assign [.Name y py] (.ListComp elt [⟨.Name v vp, iter, ifs, 0⟩] sc pos) spos) ρ m (RR.mk nx rt bk ct) := Pd.ws_lcl (R := RR.mk nx rt bk ct) k cb sy hyl hsw hi hif hx ok h hs
end
section
variable {B : Bx} {sc sc0 : Scope} {N0 : List Str} {elt iter : Expr} {ifs : List Expr} {i j : Nat} {v y : Str} {ρ : DE} {m : Mem} {Q : D → Mem → Prop} {pos vp py spos pr pc : Pos} {a : Expr} {nx : DE → Mem → Prop} {rt : D → Mem → Prop} {bk ct : DE → Mem → Prop}
theorem ws_lcr (k : Bok B) (h0 : Bt B "range" "range") (cb : CB B N0 sc0) (sy : Sl B y i) (hyl : sc0.names.lookup y = some .local) (hsw : swB sc0 sc y py.line pos.line = true) (hi : B.X.N[j]? = some v) (hif : ifs.length ≤ 1) (hx : sc.names.lookup v = some .local) (ok : blkC N0 sc0 sc [(v, j)] = true)
    (h : WE B a ρ m fun d m1 => ∃ n : Int, d = .int n ∧ -(2 ^ 62) ≤ n ∧ n < 2 ^ 62 ∧ ∀ p, m1 p = none → lcD (IsBlk B sc) elt ifs j ρ (fun d m2 => nx ((i, d) :: ρ) m2) p (rngD 0 n.toNat) [] (mset m1 p (.lst []))) (h1 : starEach [a] B.X.env = (false, eval a B.X.env) :: starEach [] B.X.env) (hs1 : starEach [a] B.X.env = [(false, eval a B.X.env)])
    (hs : ∀ x, foldedSetIterable (.Call (.Name "range" pr) [a] [] pc) B.X.env x = pure x) : WS B (.Assign [.Name y py] (.ListComp elt [⟨.Name v vp, .Call (.Name "range" pr) [a] [] pc, ifs, 0⟩] sc pos) spos) ρ m (RR.mk nx rt bk ct) := Pd.ws_lcr (R := RR.mk nx rt bk ct) k h0 cb sy hyl hsw hi hif hx ok h h1 hs1 hs
end
section
variable {B : Bx} {sc sc0 : Scope} {N0 : List Str} {elt iter : Expr} {ifs : List Expr} {i j : Nat} {v y : Str} {ρ : DE} {m : Mem} {Q : D → Mem → Prop} {pos vp py spos pr pc : Pos} {a : Expr} {nx : DE → Mem → Prop} {rt : D → Mem → Prop} {bk ct : DE → Mem → Prop}
theorem ws_stc {gs : List Comprehension} (k : Bok B) (cb : CB B N0 sc0) (sy : Sl B y i) (hsw : swB sc0 sc y py.line pos.line = false) (h : WE B (.ListComp elt gs sc pos) ρ m fun d m1 => nx ((i, d) :: ρ) m1) : WS B (.Assign [.Name y py] (.ListComp elt gs sc pos) spos) ρ m (RR.mk nx rt bk ct) := Pd.ws_stc (R := RR.mk nx rt bk ct) k cb sy hsw h
end
section
variable {B : Bx} {e : Expr} {ρ : DE} {m : Mem} {nx : DE → Mem → Prop} {rt : D → Mem → Prop} {bk ct : DE → Mem → Prop} {pos pos' : Pos} {x : Str} {i : Nat}
theorem ws_stn (nd : B.X.N.Nodup) (s : Sl B x i) (h : WE B e ρ m fun d m1 => nx ((i, d) :: ρ) m1) (hs : swapsWith e (some (.Name x pos')) pos.line B.X.env = pure false) : WS B (.Assign [.Name x pos'] e pos) ρ m (RR.mk nx rt bk ct) := Pd.ws_stn (R := RR.mk nx rt bk ct) nd s h hs
end
section
theorem endR_nx {nx : DE → Mem → Prop} {rt : D → Mem → Prop} {bk ct : DE → Mem → Prop} {i : Nat} {ρ : DE} {m : Mem} (h : nx (rmD i ρ) m) : (endR (RR.mk nx rt bk ct) i).nx ρ m := Pd.endR_nx (R := RR.mk nx rt bk ct) h
end
section
theorem forD_nil {B : Bx} {tg : Expr} {body : List Stmt} {nx : DE → Mem → Prop} {rt : D → Mem → Prop} {bk ct : DE → Mem → Prop} {ρ : DE} {m : Mem} (h : nx ρ m) : forD B tg body (RR.mk nx rt bk ct) [] ρ m := Pd.forD_nil (R := RR.mk nx rt bk ct) h
end
section
theorem forD_nil' {B : Bx} {tg : Expr} {body : List Stmt} {nx : DE → Mem → Prop} {rt : D → Mem → Prop} {bk ct : DE → Mem → Prop} {ds : List D} {ρ : DE} {m : Mem} (e : ds = []) (h : nx ρ m) : forD B tg body (RR.mk nx rt bk ct) ds ρ m := Pd.forD_nil' (R := RR.mk nx rt bk ct) e h
end
section
theorem ite_join {B : Bx} {b o : List Stmt} {ρ : DE} {m : Mem} {nx : DE → Mem → Prop} {rt : D → Mem → Prop} {bk ct : DE → Mem → Prop} {t : Bool} (J : DE → Mem → Prop) (h1 : t = true → WSs B b ρ m (RR.mk (J) rt bk ct)) (h2 : t = false → WSs B o ρ m (RR.mk (J) rt bk ct)) (k : ∀ ρ' m', J ρ' m' → nx ρ' m') : if t = true then WSs B b ρ m (RR.mk nx rt bk ct) else WSs B o ρ m (RR.mk nx rt bk ct) := Pd.ite_join (R := RR.mk nx rt bk ct) J h1 h2 k
end
section
variable {B : Bx} {m : Mem} {ρ : DE} {nx : DE → Mem → Prop} {rt : D → Mem → Prop} {bk ct : DE → Mem → Prop} {a b : Expr} {x y : Str} {i j : Nat} {px py pt pos : Pos} {sc : Scope} {kt k2 pt2}
theorem ws_sw (hE : B.X.env.scope = sc) (k : Bok B) (s1 : Sl B x i) (s2 : Sl B y j) (hij : i ≠ j) (hx : sc.names.lookup x = some .local) (hy : sc.names.lookup y = some .local)
    (hw : swappedStores [.Tuple [.Name x px, .Name y py] kt pt] (.Tuple [a, b] k2 pt2) { B.X.env with scope := sc } = pure (some [x, y]))
    (h : WE B a ρ m fun d m1 => Pd.WE B b ρ m1 fun d2 m2 => nx ((j, d2) :: (i, d) :: ρ) m2)
    (hs : swapsWithSole [.Tuple [.Name x px, .Name y py] kt pt] (.Tuple [a, b] k2 pt2) pos.line B.X.env = pure false)
    (h1 : starEach [a, b] B.X.env = (false, eval a B.X.env) :: starEach [b] B.X.env) (h2 : starEach [b] B.X.env = (false, eval b B.X.env) :: starEach [] B.X.env) :
    WS B (.Assign [.Tuple [.Name x px, .Name y py] kt pt] (.Tuple [a, b] k2 pt2) pos) ρ m (RR.mk nx rt bk ct) := Pd.ws_sw (R := RR.mk nx rt bk ct) hE k s1 s2 hij hx hy hw h hs h1 h2
end
section
variable {B : Bx} {a b e tg : Expr} {ρ : DE} {m : Mem} {nx : DE → Mem → Prop} {rt : D → Mem → Prop} {bk ct : DE → Mem → Prop} {body : List Stmt} {pos p2 p : Pos}
theorem ws_for_r2 (k : Bok B) (h0 : Bt B "range" "range")
    (h : WE B a ρ m fun x m1 => Pd.WE B b ρ m1 fun y m2 => ∃ i j : Int, x = .int i ∧ y = .int j ∧ forD B tg body (RR.mk nx rt bk ct) (rngD i (j - i).toNat) ρ m2) (h1 : starEach [a, b] B.X.env = (false, eval a B.X.env) :: starEach [b] B.X.env) (h2 : starEach [b] B.X.env = (false, eval b B.X.env) :: starEach [] B.X.env)
    (hs1 : starEach [a, b] B.X.env = [(false, eval a B.X.env), (false, eval b B.X.env)]) (hs2 : starEach [b] B.X.env = [(false, eval b B.X.env)])
    (hs : ∀ x, foldedSetIterable (.Call (.Name "range" p) [a, b] [] p2) B.X.env x = pure x) : WS B (.For tg (.Call (.Name "range" p) [a, b] [] p2) body [] pos) ρ m (RR.mk nx rt bk ct) := Pd.ws_for_r2 (R := RR.mk nx rt bk ct) k h0 h h1 h2 hs1 hs2 hs
end
section
variable {B : Bx} {a b e tg : Expr} {x y d : D} {ρ : DE} {m : Mem} {Q : D → Mem → Prop} {nx : DE → Mem → Prop} {rt : D → Mem → Prop} {bk ct : DE → Mem → Prop} {body : List Stmt} {pos p2 p3 : Pos} {l k : List D} {i : Int}
theorem ws_for_lm (k : Bok B) {p : Addr} {l : List D} (J : Nat → DE → Mem → Prop) (h : WE B e ρ m fun d m1 => d = .ref p ∧ J 0 ρ m1) (hJ : ∀ i ρ m, J i ρ m → m p = some (.lst l))
    (hb : ∀ i d ρ m, l[i]? = some d → J i ρ m → WG B tg d ρ m fun ρ1 m1 => WSs B body ρ1 m1 (RR.mk (J (i + 1)) (rt) (nx) (J (i + 1)))) (h0 : ∀ ρ m, J l.length ρ m → nx ρ m)
    (hs : ∀ x, foldedSetIterable e B.X.env x = pure x) : WS B (.For tg e body [] pos) ρ m (RR.mk nx rt bk ct) := Pd.ws_for_lm (R := RR.mk nx rt bk ct) k J h hJ hb h0 hs
end
section
variable {B : Bx} {a b e tg : Expr} {x y d : D} {ρ : DE} {m : Mem} {Q : D → Mem → Prop} {nx : DE → Mem → Prop} {rt : D → Mem → Prop} {bk ct : DE → Mem → Prop} {body : List Stmt} {pos p2 p3 : Pos} {l k : List D} {i : Int}
theorem forD_rng2 {lo : Int} {n : Nat} (J : Nat → DE → Mem → Prop) (h : ∀ i ρ m, i < n → J i ρ m → WG B tg (.int (lo + (i : Nat))) ρ m fun ρ1 m1 => WSs B body ρ1 m1 (RR.mk (J (i + 1)) (rt) (nx) (J (i + 1)))) (h0 : ∀ ρ m, J n ρ m → nx ρ m) (hi : J 0 ρ m) : forD B tg body (RR.mk nx rt bk ct) (rngD lo n) ρ m := Pd.forD_rng2 (R := RR.mk nx rt bk ct) J h h0 hi
end
section
variable {B : Bx} {a : Expr} {x : D} {ρ : DE} {m : Mem} {nx : DE → Mem → Prop} {rt : D → Mem → Prop} {bk ct : DE → Mem → Prop} {body : List Stmt} {pos p p2 tpos : Pos} {elts : List Expr} {kk : Nat} {l : List D}
theorem ws_for_en (k : Bok B) (h0 : Bt B "enumerate" "enumerate") (J : Nat → DE → Mem → Prop) (h : WE B a ρ m fun d m1 => d = x ∧ J 0 ρ m1) (hJ : ∀ i ρ m, J i ρ m → Lv x m l)
    (hb : ∀ i d ρ m, l[i]? = some d → J i ρ m → WG B (.Tuple elts kk tpos) (.tup [.int (i : Nat), d]) ρ m fun ρ1 m1 => WSs B body ρ1 m1 (RR.mk (J (i + 1)) (rt) (nx) (J (i + 1)))) (hfin : ∀ ρ m, J l.length ρ m → nx ρ m)
    (h1 : starEach [a] B.X.env = (false, eval a B.X.env) :: starEach [] B.X.env) (hs1 : starEach [a] B.X.env = [(false, eval a B.X.env)])
    (hs : ∀ x, foldedSetIterable (.Call (.Name "enumerate" p) [a] [] p2) B.X.env x = pure x) : WS B (.For (.Tuple elts kk tpos) (.Call (.Name "enumerate" p) [a] [] p2) body [] pos) ρ m (RR.mk nx rt bk ct) := Pd.ws_for_en (R := RR.mk nx rt bk ct) k h0 J h hJ hb hfin h1 hs1 hs
end
section
variable {B : Bx} {a tg : Expr} {ρ : DE} {m : Mem} {nx : DE → Mem → Prop} {rt : D → Mem → Prop} {bk ct : DE → Mem → Prop} {body orelse : List Stmt} {pos p p2 : Pos}
theorem ws_for_r1E (k : Bok B) (h0 : Bt B "range" "range") (J : Nat → DE → Mem → Prop) (h : WE B a ρ m fun d m1 => ∃ j : Int, d = .int j ∧ -(2 ^ 62) ≤ j ∧ j < 2 ^ 62 ∧ J 0 ρ m1 ∧
      (∀ i ρ m, i < j.toNat → J i ρ m → WG B tg (.int (i : Nat)) ρ m fun ρ1 m1 => WSs B body ρ1 m1 (RR.mk (J (i + 1)) (rt) (nx) (J (i + 1)))) ∧ ∀ ρ m, J j.toNat ρ m → WSs B orelse ρ m (RR.mk nx rt bk ct))
    (h1 : starEach [a] B.X.env = (false, eval a B.X.env) :: starEach [] B.X.env) (hs1 : starEach [a] B.X.env = [(false, eval a B.X.env)])
    (hs : ∀ x, foldedSetIterable (.Call (.Name "range" p) [a] [] p2) B.X.env x = pure x) : WS B (.For tg (.Call (.Name "range" p) [a] [] p2) body orelse pos) ρ m (RR.mk nx rt bk ct) := Pd.ws_for_r1E (R := RR.mk nx rt bk ct) k h0 J h h1 hs1 hs
end
section
variable {B : Bx} {a : Expr} {x : D} {ρ : DE} {m : Mem} {nx : DE → Mem → Prop} {rt : D → Mem → Prop} {bk ct : DE → Mem → Prop} {body : List Stmt} {pos p p2 tpos : Pos} {elts : List Expr} {kk : Nat} {l : List D}
theorem ws_for_enV (k : Bok B) (h0 : Bt B "enumerate" "enumerate") (J : Nat → DE → Mem → Prop) (h : WE B a ρ m fun d m1 => d = x ∧ J 0 ρ m1) (hJ : ∀ i ρ m, J i ρ m → Sv x m l)
    (hb : ∀ i d ρ m, l[i]? = some d → J i ρ m → WG B (.Tuple elts kk tpos) (.tup [.int (i : Nat), d]) ρ m fun ρ1 m1 => WSs B body ρ1 m1 (RR.mk (J (i + 1)) (rt) (nx) (J (i + 1)))) (hfin : ∀ ρ m, J l.length ρ m → nx ρ m)
    (h1 : starEach [a] B.X.env = (false, eval a B.X.env) :: starEach [] B.X.env) (hs1 : starEach [a] B.X.env = [(false, eval a B.X.env)])
    (hs : ∀ x, foldedSetIterable (.Call (.Name "enumerate" p) [a] [] p2) B.X.env x = pure x) : WS B (.For (.Tuple elts kk tpos) (.Call (.Name "enumerate" p) [a] [] p2) body [] pos) ρ m (RR.mk nx rt bk ct) := Pd.ws_for_enV (R := RR.mk nx rt bk ct) k h0 J h hJ hb hfin h1 hs1 hs
end
section
variable {B : Bx} {a b e tg iter : Expr} {x : D} {ρ : DE} {m : Mem} {nx : DE → Mem → Prop} {rt : D → Mem → Prop} {bk ct : DE → Mem → Prop} {Q : QJ} {body orelse : List Stmt} {pos p p2 tpos : Pos} {elts : List Expr} {kk : Nat} {l : List D}
theorem ws_forJ (k : Bok B) (h : WJ B tg iter ρ m fun ds St m1 => ∃ J : Nat → DE → Mem → Prop, J 0 ρ m1 ∧ (∀ i ρ m, J i ρ m → St m) ∧
      (∀ i d ρ m, ds[i]? = some d → J i ρ m → WG B tg d ρ m fun ρ1 m1 => WSs B body ρ1 m1 (RR.mk (J (i + 1)) (rt) (nx) (J (i + 1)))) ∧ ∀ ρ m, J ds.length ρ m → nx ρ m)
    (hs : ∀ x, foldedSetIterable iter B.X.env x = pure x) : WS B (.For tg iter body [] pos) ρ m (RR.mk nx rt bk ct) := Pd.ws_forJ (R := RR.mk nx rt bk ct) k h hs
end
section
variable {B : Bx} {a b e tg iter : Expr} {x : D} {ρ : DE} {m : Mem} {nx : DE → Mem → Prop} {rt : D → Mem → Prop} {bk ct : DE → Mem → Prop} {Q : QJ} {body orelse : List Stmt} {pos p p2 tpos : Pos} {elts : List Expr} {kk : Nat} {l : List D}
theorem ws_forJE (k : Bok B) (h : WJ B tg iter ρ m fun ds St m1 => ∃ J : Nat → DE → Mem → Prop, J 0 ρ m1 ∧ (∀ i ρ m, J i ρ m → St m) ∧
      (∀ i d ρ m, ds[i]? = some d → J i ρ m → WG B tg d ρ m fun ρ1 m1 => WSs B body ρ1 m1 (RR.mk (J (i + 1)) (rt) (nx) (J (i + 1)))) ∧ ∀ ρ m, J ds.length ρ m → WSs B orelse ρ m (RR.mk nx rt bk ct))
    (hs : ∀ x, foldedSetIterable iter B.X.env x = pure x) : WS B (.For tg iter body orelse pos) ρ m (RR.mk nx rt bk ct) := Pd.ws_forJE (R := RR.mk nx rt bk ct) k h hs
end
section
variable {B : Bx} {sc sc0 : Scope} {N0 : List Str} {elt iter tg : Expr} {ifs : List Expr} {T : Tgt} {own : List (Str × Nat)} {ρ : DE} {m : Mem} {Q : D → Mem → Prop} {pos vp : Pos}
theorem ws_lcJ {i : Nat} {y : Str} {py spos : Pos} {nx : DE → Mem → Prop} {rt : D → Mem → Prop} {bk ct : DE → Mem → Prop} (k : Bok B) (cb : CB B N0 sc0) (T : Tgt) (own : List (Str × Nat)) (sy : Sl B y i) (hyl : sc0.names.lookup y = some .local) (hsw : swB sc0 sc y py.line pos.line = true) (ht : TgtOk B.X.N sc tg T) (hj : ∀ j ∈ T.js, j < B.X.N.length ∧ j ∈ own.map (·.2)) (hif : ifs.length ≤ 1) (ok : blkC N0 sc0 sc own = true)
    (h : WJ B tg iter ρ m fun ds St m1 => ∀ p, m1 p = none → lcG (IsBlk B sc) elt ifs T St (offD (own.map (·.2)) ρ) (fun d m2 => nx ((i, d) :: ρ) m2) p ds [] (mset m1 p (.lst []))) (hs : ∀ x, foldedSetIterable iter B.X.env x = pure x) : WS B (.Assign [.Name y py] (.ListComp elt [⟨tg, iter, ifs, 0⟩] sc pos) spos) ρ m (RR.mk nx rt bk ct) := Pd.ws_lcJ (R := RR.mk nx rt bk ct) k cb T own sy hyl hsw ht hj hif ok h hs
end
end K
namespace Pd
open PySem PySem.Spec PyProof.Rows L2
structure LG (a b : Int) (i : Nat) (x y : Int) : Prop where
  x0 : 0 < x
  y0 : 0 ≤ y
  gc : Int.gcd x y = Int.gcd a b
  le : x * y * 2 ^ i ≤ 2 * (a * b)
  lt : i = 0 ∨ y < x
theorem lg_next {a b x y : Int} {i : Nat} (ha : 0 < a) (hb : 0 < b) (h : LG a b i x y) (hy : y ≠ 0) (h1 : i = 0 → x = a ∧ y = b) : LG a b (i + 1) y (x % y) := by
  have hy0 : 0 < y := by have := h.y0; omega
  have r0 := Int.emod_nonneg x hy
  have r1 := Int.emod_lt_of_pos x hy0
  refine ⟨hy0, r0, ?_, ?_, .inr r1⟩
  · rw [← h.gc, Int.gcd_comm x y]
    have e : x % y = x - y * (x / y) := by have := Int.mul_ediv_add_emod x y; omega
    rw [e]
    exact Int.gcd_sub_right_right_of_dvd x ⟨x / y, rfl⟩
  · have p0 : (0 : Int) < 2 ^ i := Int.pow_pos (by decide)
    rw [Int.pow_succ]
    by_cases hi : i = 0
    · obtain ⟨rfl, rfl⟩ := h1 hi
      subst hi
      have hr : x % y ≤ x := by
        have e := Int.mul_ediv_add_emod x y
        have := Int.mul_nonneg h.y0 (Int.ediv_nonneg (Int.le_of_lt h.x0) h.y0)
        omega
      have := Int.mul_le_mul_of_nonneg_left hr (Int.le_of_lt hy0)
      rw [Int.mul_comm y x] at this
      omega
    · have hlt : y < x := h.lt.resolve_left hi
      have hq : 1 ≤ x / y := Int.le_ediv_of_mul_le hy0 (by omega)
      have e := Int.mul_ediv_add_emod x y
      have e2 : y * 1 ≤ y * (x / y) := Int.mul_le_mul_of_nonneg_left hq (by omega)
      have hr : x % y * 2 ≤ x := by omega
      have k1 : y * (x % y * 2) ≤ y * x := Int.mul_le_mul_of_nonneg_left hr (by omega)
      have k2 := Int.mul_le_mul_of_nonneg_right k1 (Int.le_of_lt p0)
      have k3 := h.le
      have k4 : y * (x % y) * (2 ^ i * 2) = y * (x % y * 2) * 2 ^ i := by grind
      have k5 : x * y * 2 ^ i = y * x * 2 ^ i := by grind
      omega
theorem lg_end {a b x y : Int} (sa : Sz 1340 a) (sb : Sz 1340 b) (ha : 0 < a) (hb : 0 < b) (h : LG a b 5000 x y) : y = 0 := by
  by_cases hy : y = 0
  · exact hy
  · exfalso
    have x0 := h.x0
    have y0 := h.y0
    have hxy : 0 < x * y := Int.mul_pos x0 (by omega)
    have z := sz_mul (show Sz 2 2 by unfold Sz; decide) (sz_mul sa sb)
    have le := h.le
    have k : (1 : Int) * 2 ^ 5000 ≤ x * y * 2 ^ 5000 := Int.mul_le_mul_of_nonneg_right (by omega) (Int.le_of_lt (Int.pow_pos (by decide)))
    have ab : 0 < a * b := Int.mul_pos ha hb
    unfold Sz at z
    have z2 : 2 * (a * b) < (2 : Int) ^ 5000 := by
      have e : ((2 ^ (2 + (1340 + 1340)) : Nat) : Int) ≤ ((2 ^ 5000 : Nat) : Int) := Int.ofNat_le.mpr (Nat.pow_le_pow_right (by decide) (by decide))
      have e2 : ((2 ^ 5000 : Nat) : Int) = (2 : Int) ^ 5000 := by rw [Int.natCast_pow]; rfl
      rw [← e2]
      generalize (2 ^ 5000 : Nat) = N at e ⊢
      generalize (2 ^ (2 + (1340 + 1340)) : Nat) = M at e z
      omega
    generalize (2 : Int) ^ 5000 = N at *
    omega
abbrev trmD (t : Trm) : D := .tup [rowD t.1, .int t.2]
theorem sum_map {ts : List Trm} {f : GRow → Int} : (ts.map fun t => t.2 * f t.1).sum = tcnt ts f := rfl
def TmOk (b : Nat) (ts : List Trm) : Prop := ∀ t ∈ ts, 0 < t.1.1 ∧ Sz b t.1.1 ∧ 0 ≤ t.1.2 ∧ t.1.2 < t.1.1 ∧ (t.2 = 1 ∨ t.2 = -1)
theorem TmOk.mono {a b : Nat} {ts : List Trm} (h : TmOk a ts) (k : a ≤ b) : TmOk b ts := fun t ht => let ⟨x, y, z⟩ := h t ht; ⟨x, y.mono k, z⟩
theorem TmOk.app {b : Nat} {ts us : List Trm} (h : TmOk b ts) (k : TmOk b us) : TmOk b (ts ++ us) := fun t ht => (List.mem_append.mp ht).elim (h t) (k t)
theorem TmOk.pos {b : Nat} {ts : List Trm} (h : TmOk b ts) : PosT ts := fun t ht => (h t ht).1
theorem tm_one : TmOk 2 [((1, 0), 1)] := fun t ht => by rw [List.mem_singleton.mp ht]; exact ⟨by decide, by unfold Sz; decide, by decide, by decide, .inl rfl⟩
theorem lcmR_sz {s t : Int} {a b : Nat} (h0 : 0 < s) (h1 : 0 < t) (a1 : Sz a s) (a2 : Sz b t) : Sz (a + b) (lcmR s t) := sz_le (Int.le_of_lt (lcmR_pos h0 h1)) (lcmR_le h0 h1) (sz_mul a1 a2)
theorem tm_add {b c : Nat} {us : List Trm} {t : Trm} {r : GRow} {o : Int} (h : TmOk (b + c) us) (ht : 0 < t.1.1 ∧ Sz b t.1.1 ∧ 0 ≤ t.1.2 ∧ t.1.2 < t.1.1 ∧ (t.2 = 1 ∨ t.2 = -1)) (r0 : 0 < r.1) (rz : Sz c r.1) (o0 : 0 ≤ o) (o1 : o < lcmR t.1.1 r.1) : TmOk (b + c) (us ++ [((lcmR t.1.1 r.1, o), -t.2)]) := by
  refine h.app fun x hx => ?_
  rw [List.mem_singleton.mp hx]
  refine ⟨lcmR_pos ht.1 r0, lcmR_sz ht.1 r0 ht.2.1 rz, o0, o1, ?_⟩
  rcases ht.2.2.2.2 with e | e
  · exact .inr (by show -t.2 = -1; omega)
  · exact .inl (by show -t.2 = 1; omega)
structure Tms (b : Nat) (rs : List GRow) (ts : List Trm) : Prop where
  ok : TmOk b ts
  of : TermsOf rs ts
  st : StepsOf rs ts
  len : ts.length ≤ 2 ^ rs.length
theorem tms_nil : Tms 2 [] [((1, 0), 1)] := ⟨tm_one, terms_nil, steps_nil, Nat.le_refl _⟩
structure Adds (b : Nat) (r : GRow) (ts us : List Trm) : Prop where
  ok : TmOk b us
  of : AddOf r ts us
  st : AddSt r ts us
  len : us.length ≤ ts.length
theorem adds_nil {b : Nat} {r : GRow} : Adds b r [] [] := ⟨fun t h => (by cases h), add_nil, addst_nil, Nat.le_refl _⟩
theorem tms_row {b c : Nat} {rs : List GRow} {r : GRow} {ts us : List Trm} (h : Tms b rs ts) (k : Adds (b + c) r ts us) : Tms (b + c) (rs ++ [r]) (ts ++ us) :=
  ⟨(h.ok.mono (by omega)).app k.ok, terms_row h.of k.of, steps_row h.st k.st, by
    have := h.len; have := k.len
    rw [List.length_append, List.length_append, List.length_singleton, Nat.pow_succ]; omega⟩
theorem adds_no {b : Nat} {r : GRow} {ts us : List Trm} {t : Trm} (h : Adds b r ts us) (hn : ¬ ((Int.gcd t.1.1 r.1 : Nat) : Int) ∣ r.2 - t.1.2) : Adds b r (ts ++ [t]) us :=
  ⟨h.ok, add_no h.of fun x => both_miss (s := t.1.1) (o := t.1.2) (t := r.1) (u := r.2) hn, addst_no h.st hn, by have := h.len; rw [List.length_append]; omega⟩
theorem adds_yes {b c : Nat} {r : GRow} {ts us : List Trm} {t : Trm} {o : Int} (h : Adds (b + c) r ts us) (ht : 0 < t.1.1 ∧ Sz b t.1.1 ∧ 0 ≤ t.1.2 ∧ t.1.2 < t.1.1 ∧ (t.2 = 1 ∨ t.2 = -1)) (r0 : 0 < r.1) (rz : Sz c r.1) (o0 : 0 ≤ o) (o1 : o < lcmR t.1.1 r.1) (h1 : o % t.1.1 = t.1.2 % t.1.1) (h2 : o % r.1 = r.2 % r.1) :
    Adds (b + c) r (ts ++ [t]) (us ++ [((lcmR t.1.1 r.1, o), -t.2)]) :=
  ⟨tm_add h.ok ht r0 rz o0 o1, add_yes h.of fun x => both_hit (s := t.1.1) (o := t.1.2) (t := r.1) (u := r.2) ht.1 h1 h2, addst_yes h.st ht.1 rfl, by have := h.len; rw [List.length_append, List.length_append]; exact Nat.add_le_add this (Nat.le_refl _)⟩
def gapT (rs : List GRow) (lo : Int) : D → Bool
  | .int k => !hitB rs (lo + k)
  | _ => false
theorem gap_ones (rs : List GRow) (lo : Int) : ∀ n : Nat, ∃ ns : List Int, ((rngD 0 n).filter (gapT rs lo)).map (fun _ => D.int 1) = ns.map D.int ∧ ns.sum = gcnt rs lo n
  | 0 => ⟨[], rfl, rfl⟩
  | n + 1 => by
    obtain ⟨ns, e1, e2⟩ := gap_ones rs lo n
    have er : rngD 0 (n + 1) = rngD 0 n ++ [.int (n : Nat)] := by
      unfold rngD
      rw [List.range_succ, List.map_append, List.map_cons, List.map_nil, Int.zero_add]
    have eg : gcnt rs lo (n + 1) = gcnt rs lo n + one (!hitB rs (lo + (n : Nat))) := rfl
    rw [er, List.filter_append, List.map_append, e1, eg]
    cases h : hitB rs (lo + (n : Nat)) with
    | true =>
      refine ⟨ns, ?_, by rw [e2]; simp [one]⟩
      rw [show ([D.int (n : Nat)] : List D).filter (gapT rs lo) = [] by simp [gapT, h]]
      simp
    | false =>
      refine ⟨ns ++ [1], ?_, by rw [List.sum_append_int, e2]; simp [one]⟩
      rw [show ([D.int (n : Nat)] : List D).filter (gapT rs lo) = [.int (n : Nat)] by simp [gapT, h], List.map_append]; rfl
def farF (lo hi : Int) : D → D
  | .tup [.tup [.int s, .int o], .int g] => .int (g * farR (s, o) lo hi)
  | _ => .non
theorem far_map {ts : List Trm} {lo hi : Int} : (ts.map trmD).map (farF lo hi) = (ts.map fun t => t.2 * farR t.1 lo hi).map D.int := by rw [List.map_map, List.map_map]; rfl
def prodR (rs : List GRow) : Int := rs.foldr (fun r p => r.1 * p) 1
theorem prodR_pos {rs : List GRow} (h : Pos1 rs) : 0 < prodR rs := by
  induction rs with
  | nil => exact (by decide : (0 : Int) < 1)
  | cons r rs ih => exact Int.mul_pos (h r (by simp)) (ih fun x hx => h x (by simp [hx]))
theorem prodR_sz {rs : List GRow} {b : Nat} (h : ∀ r ∈ rs, Sz b r.1) : Sz (b * rs.length + 1) (prodR rs) := by
  induction rs with
  | nil =>
    show (1 : Int).natAbs < 2 ^ (b * 0 + 1)
    rw [Nat.mul_zero]; decide
  | cons r rs ih =>
    refine (sz_mul (h r (by simp)) (ih fun x hx => h x (by simp [hx]))).mono ?_
    rw [List.length_cons, Nat.mul_add]; omega
theorem prodR_dvd {rs : List GRow} : ∀ r ∈ rs, r.1 ∣ prodR rs := by
  induction rs with
  | nil => intro r h; cases h
  | cons q rs ih =>
    intro r h
    rcases List.mem_cons.mp h with e | h
    · subst e; exact Int.dvd_mul_right _ _
    · exact Int.dvd_trans (ih r h) (Int.dvd_mul_left _ _)
theorem lcm_sz {rs : List GRow} {ss : List Int} {L : Int} (h : Rwn 140 rs) (hl : rs.length ≤ 6) (hL : LcmOf ss L) (hs : ∀ z : Int, (∀ r ∈ rs, r.1 ∣ z) → ∀ s ∈ ss, s ∣ z) : Sz 1340 L := by
  have hd : L ∣ prodR rs := (hL.2 _).mpr (hs _ prodR_dvd)
  refine (sz_le (Int.le_of_lt hL.1) (Int.le_of_dvd (prodR_pos h.pos) hd) (prodR_sz fun r hr => (h r hr).2.1)).mono (by omega)
def shareT (rs : List GRow) (L : Int) : D := .tup [.int (gcnt rs 0 L.toNat / ((Int.gcd (gcnt rs 0 L.toNat) L : Nat) : Int)), .int (L / ((Int.gcd (gcnt rs 0 L.toNat) L : Nat) : Int))]
theorem share_rev {rs : List GRow} {L M : Int} (h : LcmOf (rs.map (·.1)) L) (k : LcmOf (rs.reverse.map (·.1)) M) : shareT rs.reverse M = shareT rs L := by
  have e : M = L := lcm_uni k h fun z => ⟨fun a s hs => a s (by rw [List.map_reverse]; exact List.mem_reverse.mpr hs), fun a s hs => a s (by rw [List.map_reverse] at hs; exact List.mem_reverse.mp hs)⟩
  subst e
  unfold shareT
  rw [gcnt_hits (ss := rs) fun x => hit_rev]
theorem share_same {rs : List GRow} {L M : Int} (h : LcmOf (rs.map (·.1)) L) (k : LcmOf (rs.map (·.1)) M) : M = L := lcm_uni k h fun _ => Iff.rfl
theorem share_nil {M : Int} (k : LcmOf (([] : List GRow).map (·.1)) M) : shareT [] M = .tup [.int 1, .int 1] := by
  have e : M = 1 := lcm_uni k lcm_nil fun _ => Iff.rfl
  subst e; rfl
theorem gcnt_single {r : GRow} : ∀ n : Nat, gcnt [r] 0 n = n - cntR r 0 n
  | 0 => rfl
  | n + 1 => by
    show gcnt [r] 0 n + one (!hitB [r] (0 + (n : Nat))) = ((n + 1 : Nat) : Int) - (cntR r 0 n + one (hitR r (0 + (n : Nat))))
    rw [gcnt_single n, hit_one]
    cases hitR r (0 + (n : Nat)) <;> simp [one] <;> omega
theorem share_one {s o M : Int} (h0 : 0 < s) (k : LcmOf ([((s, o) : GRow)].map (·.1)) M) : shareT [(s, o)] M = .tup [.int (s - 1), .int s] := by
  have e : M = s := by
    have a : s ∣ M := (k.2 M).mp (Int.dvd_refl M) s (by simp)
    have b : M ∣ s := (k.2 s).mpr fun x hx => by
      simp only [List.map_cons, List.map_nil, List.mem_singleton] at hx
      rw [hx]; exact Int.dvd_refl s
    have := Int.le_of_dvd k.1 a
    have := Int.le_of_dvd h0 b
    omega
  subst e
  have es : ((M.toNat : Nat) : Int) = M := Int.toNat_of_nonneg (by omega)
  have g : gcnt [(M, o)] 0 M.toNat = M - 1 := by
    rw [gcnt_single, cntR_whole h0 (by rw [es]; exact Int.dvd_refl M), es]
    show M - M / M = M - 1
    rw [Int.ediv_self (by omega)]
  have d : Int.gcd (M - 1) M = 1 := by
    have := Int.dvd_sub (Int.gcd_dvd_right (M - 1) M) (Int.gcd_dvd_left (M - 1) M)
    rw [show M - (M - 1) = 1 by omega] at this
    exact Nat.dvd_one.mp (Int.natCast_dvd_natCast.mp this)
  unfold shareT
  rw [g, d]
  simp
theorem lcm_steps {b : Nat} {rs : List GRow} {ts : List Trm} {L : Int} (h : Tms b rs ts) (k : LcmOf (ts.map fun t => t.1.1) L) : LcmOf (rs.map (·.1)) L := ⟨k.1, fun z => by
  rw [k.2 z]
  constructor
  · intro a s hs
    obtain ⟨r, hr, rfl⟩ := List.mem_map.mp hs
    exact (h.st.2 z).mp (fun t ht => a _ (List.mem_map.mpr ⟨t, ht, rfl⟩)) r hr
  · intro a s hs
    obtain ⟨t, ht, rfl⟩ := List.mem_map.mp hs
    exact (h.st.2 z).mpr (fun r hr => a _ (List.mem_map.mpr ⟨r, hr, rfl⟩)) t ht⟩
theorem gi_zero {b : Int} (hb : 0 < b) (sb : Sz 1340 b) : True := True.intro
theorem pow6 {n : Nat} (h : n ≤ 6) : 2 ^ n ≤ 64 := Nat.le_trans (Nat.pow_le_pow_right (by decide) h) (by decide : 2 ^ 6 ≤ 64)
theorem tms_1340 {rs : List GRow} {ts : List Trm} (h : Tms (2 + 140 * rs.length) rs ts) (hl : rs.length ≤ 6) : TmOk 1340 ts := h.ok.mono (by omega)
theorem tms_1000 {b : Nat} {rs : List GRow} {ts : List Trm} (h : Tms b rs ts) (hl : rs.length ≤ 6) : ts.length ≤ 1000 := Nat.le_trans h.len (Nat.le_trans (pow6 hl) (by decide))
end Pd
namespace Pd
open PySem PySem.Spec PyProof.Rows L2
def oD : Option Int → D
  | none => .non
  | some v => .int v
theorem oD_pld {n : Nat} {o : Option Int} : PlD n (oD o) := by cases o <;> cases n <;> exact True.intro
theorem oD_pair {o : Option Int} : PlD 6 (.lst [oD o, .non]) := pld_l (show (2 : Nat) ≤ 1000 by decide) ⟨oD_pld, True.intro, True.intro⟩
theorem gapD_num {r : GRow} {os ns : List GRow} (h : NumOf r os ns) (k : Int) : gapD ns k = oD ((freeN r os k).map fun j => k + (j : Nat)) := by
  unfold gapD
  rw [gapN_num h]
  cases freeN r os k <;> rfl
theorem firstT_num {r : GRow} (h0 : 0 < r.1) (st : Int) : (firstT r st - r.2) % r.1 = 0 := by
  rw [firstT_k h0 st, show r.2 + r.1 * firstK r st - r.2 = r.1 * firstK r st by omega]; exact Int.mul_emod_right _ _
theorem firstT_sz {r : GRow} {st : Int} (h0 : 0 < r.1) (h1 : Sz 1340 r.1) (h3 : Sz 1400 st) : Sz 1401 (firstT r st) := by
  have a := firstT_ge h0 st
  have b := firstT_lt h0 st
  unfold Sz at *
  have e1 : (2 : Nat) ^ 1340 ≤ 2 ^ 1400 := Nat.pow_le_pow_right (by decide) (by decide)
  have e2 : (2 : Nat) ^ 1401 = 2 ^ 1400 + 2 ^ 1400 := by rw [show (1401 : Nat) = 1400 + 1 from rfl, Nat.pow_succ]; omega
  rw [e2]
  generalize (2 : Nat) ^ 1400 = X at *
  generalize (2 : Nat) ^ 1340 = Y at *
  omega
theorem firstK_sz {r : GRow} {st : Int} (h0 : 0 < r.1) (h1 : Sz 1340 r.1) (h2 : Sz 1340 r.2) (h3 : Sz 1400 st) : Sz 1402 (firstK r st) :=
  Nat.lt_of_le_of_lt (Int.natAbs_ediv_le_natAbs _ _) (sz_sub (firstT_sz h0 h1 h3) h2)
theorem aloneT_lt {r : GRow} {os : List GRow} {st d : Int} (h0 : 0 < r.1) (h : aloneT r os st = some d) : d < st + r.1 * 65 := by
  unfold aloneT at h
  cases e : freeN r os (firstK r st) with
  | none => rw [e] at h; cases h
  | some j =>
    rw [e] at h
    obtain rfl : r.2 + r.1 * (firstK r st + (j : Nat)) = d := Option.some.inj h
    obtain ⟨hj, _, _⟩ := free_get e
    have a := firstT_k h0 st
    have b := firstT_lt h0 st
    have : r.1 * (j : Nat) ≤ r.1 * 64 := Int.mul_le_mul_of_nonneg_left (by omega) (by omega)
    rw [Int.mul_add]
    omega
theorem partT_sz {rs os : List GRow} {st d : Int} (p1 : Rws 1340 rs) (p2 : Rws 1340 os) (h3 : Sz 1390 st) (h : partT rs os st = some d) : Sz 1400 d := by
  obtain ⟨hge, _⟩ := part_get p1.pos p2.pos h
  obtain ⟨a, _, _⟩ := omin_some h
  have key : ∀ {r : GRow} {os : List GRow}, 0 < r.1 → Sz 1340 r.1 → aloneT r os st = some d → Sz 1400 d := by
    intro r os h0 h1 e
    have hlt := aloneT_lt h0 e
    unfold Sz at *
    have e1 : (2 : Nat) ^ 1340 ≤ 2 ^ 1390 := Nat.pow_le_pow_right (by decide) (by decide)
    have e2 : (2 : Nat) ^ 1400 = 2 ^ 1390 * 1024 := by rw [show (1400 : Nat) = 1390 + 10 from rfl, Nat.pow_add]
    rw [e2]
    generalize (2 : Nat) ^ 1390 = X at *
    generalize (2 : Nat) ^ 1340 = Y at *
    omega
  rcases a with a | a
  · obtain ⟨⟨r, hr, e⟩, _⟩ := aloneL_some a
    exact key (p1 r hr).1 (p1 r hr).2.1 e
  · obtain ⟨⟨r, hr, e⟩, _⟩ := aloneL_some a
    exact key (p2 r hr).1 (p2 r hr).2.1 e
theorem aloneL_take {rs os : List GRow} {st : Int} {i : Nat} {r : GRow} (h : rs[i]? = some r) : aloneL (rs.take (i + 1)) os st = omin (aloneL (rs.take i) os st) (aloneT r os st) := by
  obtain ⟨hl, hr⟩ := List.getElem?_eq_some_iff.mp h
  rw [List.take_succ_eq_append_getElem hl, hr, aloneL_snoc]
def wayO (rs os : List GRow) (st : Int) : Nat → Option Int
  | 0 => none
  | 1 => aloneL rs os st
  | _ => partT rs os st
theorem alone_at {r : GRow} {os : List GRow} {st : Int} {j : Nat} (h0 : 0 < r.1) (hj : j < 64) (h : hitB os (firstT r st + r.1 * (j : Nat)) = false) (n : ∀ i < j, hitB os (firstT r st + r.1 * (i : Nat)) = true) : aloneT r os st = some (firstT r st + r.1 * (j : Nat)) := by
  have e : ∀ i : Nat, firstT r st + r.1 * (i : Nat) = r.2 + r.1 * (firstK r st + (i : Nat)) := fun i => by rw [Int.mul_add, firstT_k h0 st]; omega
  unfold aloneT
  rw [free_some hj (by rw [← e]; exact h) fun i hi => by rw [← e]; exact n i hi, e]; rfl
theorem alone_no {r : GRow} {os : List GRow} {st : Int} (h0 : 0 < r.1) (n : ∀ i < 64, hitB os (firstT r st + r.1 * (i : Nat)) = true) : aloneT r os st = none := by
  have e : ∀ i : Nat, firstT r st + r.1 * (i : Nat) = r.2 + r.1 * (firstK r st + (i : Nat)) := fun i => by rw [Int.mul_add, firstT_k h0 st]; omega
  unfold aloneT
  rw [free_none fun i hi => by rw [← e]; exact n i hi]; rfl
theorem omin_lt {a b : Int} (h : b < a) : omin (some a) (some b) = some b := if_pos h
theorem omin_ge {a b : Int} (h : ¬ b < a) : omin (some a) (some b) = some a := if_neg h
end Pd
namespace Pd
open PySem PySem.Spec PyProof.Rows L2
section
variable {B : Bx} {a b e o tg iter : Expr} {x y : D} {ρ : DE} {m : Mem} {R : RR} {Q : D → Mem → Prop} {pos p p2 apos : Pos} {z w : Str} {i j : Int} {c : Nat}
def chD (z : Str) : List D := z.cps.toList.map fun c => .str ⟨#[c]⟩
theorem chD_len : (chD z).length = z.cps.size := by simp [chD]
theorem turns_str {K : PySem.W.Frag} {G1 : Hp} : TurnsD K (Its z) G1 (chD z) (fun _ => True) := fun i G' m' H' s' c' _ => by
  refine ⟨fun hi => ?_, fun hi => ?_⟩
  · rw [chD_len] at hi
    refine ⟨hi, fun v H2 ⟨e1, c, hc, ev⟩ => ?_⟩
    subst e1 ev
    refine ⟨G', .str ⟨#[c]⟩, Sub.refl _, c', ?_, rfl⟩
    rw [chD, List.getElem?_map, Array.getElem?_toList, hc]; rfl
  · rw [chD_len] at hi
    show z.cps.size ≤ i
    omega
theorem wj_str {Q : QJ} (h : WE B iter ρ m fun d m1 => ∃ z, d = .str z ∧ Q (chD z) (fun _ => True) m1) : WJ B tg iter ρ m Q := fun G σ H s r c R k => by
  refine tiX_of (pi_str (peX iter)) ?_
  refine h G σ H s r c _ fun v d m1 G1 H1 s1 c1 r1 ⟨z, ed, q⟩ => ?_
  subst ed
  obtain rfl : v = .str z := r1
  exact ⟨z, rfl, k _ m1 G1 H1 _ _ s1 c1 turns_str q⟩
theorem wb_inS (q : Q (.bl (decide (c ∈ z.cps.toList))) m) : WB B (compareOp .In) (.str ⟨#[c]⟩) (.str z) m Q := wb_of op_in_sign fun G H v u cu r1 r2 Q' kk => ⟨c, z, r1, r2, cu.vp kk (d := .bl (decide (c ∈ z.cps.toList))) rfl q⟩
theorem wb_ninS (q : Q (.bl (!decide (c ∈ z.cps.toList))) m) : WB B (compareOp .NotIn) (.str ⟨#[c]⟩) (.str z) m Q := wb_of op_notIn_sign fun G H v u cu r1 r2 Q' kk => ⟨c, z, r1, r2, cu.vp kk (d := .bl (!decide (c ∈ z.cps.toList))) rfl q⟩
theorem wi_str (hz : z.length ≤ sizeLine) (h : atI z.cps.toList i = some c) (q : Q (.str ⟨#[c]⟩) m) : WI B (.str z) (.int i) m Q := fun G H v u s cu r1 r2 Q' k => by
  intro value slice pins s' σ v' u' I rv ru hs
  exact ix_str value slice pins s' σ H _ _ v' u' Q' I rv ru ⟨z, i, c, r1, r2, hz, h, cu.vp k (d := .str ⟨#[c]⟩) rfl q⟩ hs
def flatD : D → Bool
  | .non => true
  | .bl _ => true
  | .int _ => true
  | .str _ => true
  | _ => false
def eqD : D → D → Bool
  | .non, .non => true
  | .bl a, .bl b => a == b
  | .bl a, .int b => (if a then 1 else 0) == b
  | .int a, .bl b => a == (if b then 1 else 0)
  | .int a, .int b => a == b
  | .str a, .str b => a == b
  | _, _ => false
theorem flat_rep {K : PySem.W.Frag} {G : Hp} {d : D} {v : V} (r : Rep K G d v) (h : flatD d = true) : flatV v = true := by
  cases d <;> first | (cases h; done) | (obtain rfl := r; rfl)
theorem eq_rep {K : PySem.W.Frag} {G : Hp} {d d2 : D} {v v2 : V} (r : Rep K G d v) (r2 : Rep K G d2 v2) (h : flatD d = true) (h2 : flatD d2 = true) : eqV v v2 = eqD d d2 := by
  cases d <;> first | (cases h; done) | (cases d2 <;> first | (cases h2; done) | (obtain rfl := r; obtain rfl := r2; rfl))
theorem flat_reps {K : PySem.W.Frag} {G : Hp} : ∀ {l : List D} {xs : List V}, Reps K G l xs → l.all flatD = true → xs.all flatV = true
  | [], _, r, _ => by obtain rfl := r; rfl
  | d :: l, _, ⟨x, r, e, h1, h2⟩, f => by
    subst e
    rw [List.all_cons, Bool.and_eq_true] at f
    rw [List.all_cons, flat_rep h1 f.1, flat_reps h2 f.2]; rfl
theorem in_reps {K : PySem.W.Frag} {G : Hp} {d : D} {v : V} (r0 : Rep K G d v) (f0 : flatD d = true) : ∀ {l : List D} {xs : List V}, Reps K G l xs → l.all flatD = true → inV v xs = l.any fun y => eqD y d
  | [], _, r, _ => by obtain rfl := r; rfl
  | d2 :: l, _, ⟨x, r, e, h1, h2⟩, f => by
    subst e
    rw [List.all_cons, Bool.and_eq_true] at f
    show (eqV x v || inV v r) = _
    rw [in_reps r0 f0 h2 f.2, eq_rep h1 r0 f.1 f0, List.any_cons]
theorem sq_of {t : Bool} {K : PySem.W.Frag} {H : Hp} {a : Addr} {xs : List V} (h : SqB t K H a xs) : SqL K H a xs ∨ SqT K H a xs := by
  cases t
  · exact .inl h
  · exact .inr h
theorem wb_inL {l : List D} (hy : Sv y m l) (f0 : flatD x = true) (f : l.all flatD = true) (q : Q (.bl (l.any fun y => eqD y x)) m) : WB B (compareOp .In) x y m Q := wb_of op_in_seq fun G H v u cu r1 r2 Q' kk => by
  obtain ⟨pa, xs, rfl, hq, rx⟩ := sv_get hy cu r2
  refine ⟨pa, xs, rfl, sq_of hq, flat_rep r1 f0, flat_reps rx f, ?_⟩
  rw [in_reps r1 f0 rx f]
  exact cu.vp kk (d := .bl (l.any fun y => eqD y x)) rfl q
theorem wb_ninL {l : List D} (hy : Sv y m l) (f0 : flatD x = true) (f : l.all flatD = true) (q : Q (.bl (!l.any fun y => eqD y x)) m) : WB B (compareOp .NotIn) x y m Q := wb_of op_notIn_seq fun G H v u cu r1 r2 Q' kk => by
  obtain ⟨pa, xs, rfl, hq, rx⟩ := sv_get hy cu r2
  refine ⟨pa, xs, rfl, sq_of hq, flat_rep r1 f0, flat_reps rx f, ?_⟩
  rw [in_reps r1 f0 rx f]
  exact cu.vp kk (d := .bl (!l.any fun y => eqD y x)) rfl q
theorem we_cutX0 {hi : Expr} (h : WE B e ρ m fun x m1 => Pd.WE B hi ρ m1 fun y m2 => (∃ l i, Lv x m2 l ∧ y = .int i ∧ NewL Q (cutD l none (some i)) m2) ∨ ∃ z i, x = .str z ∧ y = .int i ∧ z.length ≤ sizeLine ∧ Q (.str (cutS z none (some i))) m2) : WE B (.Subscript e (.Slice none (some hi) none p2) pos) ρ m Q := fun G σ H s r c Q' k => by
  refine teX_of (pe_slice (SlR.or sl_list sl_str) (peX e) po_none (po_some (peX hi))) ?_
  refine h G σ H s r c _ fun v x m1 G1 H1 s1 c1 r1 q0 => ?_
  refine q0 G1 σ H1 (s.trans s1) (r.sub s1) c1 _ fun u y m2 G2 H2 s2 c2 r2 hx => ?_
  rcases hx with ⟨l, i, hl, ey, q⟩ | ⟨z, i, ex, ey, hz, q⟩
  · subst ey
    obtain ⟨p, xs, rfl, hq, rx⟩ := lv_get hl c2 (Rep.sub s2 _ _ r1)
    exact ⟨i, r2, .inl ⟨p, xs, rfl, hq, newl_ok (k.sub (s1.trans s2)) c2 (reps_cut _ _ rx) q⟩⟩
  · subst ex ey
    obtain rfl : v = .str z := r1
    exact ⟨i, r2, .inr ⟨z, rfl, hz, c2.vp (k.sub (s1.trans s2)) (d := .str (cutS z none (some i))) rfl q⟩⟩
theorem we_cutX1 {lo : Expr} (h : WE B e ρ m fun x m1 => Pd.WE B lo ρ m1 fun y m2 => (∃ l i, Lv x m2 l ∧ y = .int i ∧ NewL Q (cutD l (some i) none) m2) ∨ ∃ z i, x = .str z ∧ y = .int i ∧ z.length ≤ sizeLine ∧ Q (.str (cutS z (some i) none)) m2) : WE B (.Subscript e (.Slice (some lo) none none p2) pos) ρ m Q := fun G σ H s r c Q' k => by
  refine teX_of (pe_slice (SlR.or sl_list sl_str) (peX e) (po_some (peX lo)) po_none) ?_
  refine h G σ H s r c _ fun v x m1 G1 H1 s1 c1 r1 q0 => ?_
  refine q0 G1 σ H1 (s.trans s1) (r.sub s1) c1 _ fun u y m2 G2 H2 s2 c2 r2 hx => ?_
  rcases hx with ⟨l, i, hl, ey, q⟩ | ⟨z, i, ex, ey, hz, q⟩
  · subst ey
    obtain ⟨p, xs, rfl, hq, rx⟩ := lv_get hl c2 (Rep.sub s2 _ _ r1)
    exact ⟨i, r2, .inl ⟨p, xs, rfl, hq, newl_ok (k.sub (s1.trans s2)) c2 (reps_cut _ _ rx) q⟩⟩
  · subst ex ey
    obtain rfl : v = .str z := r1
    exact ⟨i, r2, .inr ⟨z, rfl, hz, c2.vp (k.sub (s1.trans s2)) (d := .str (cutS z (some i) none)) rfl q⟩⟩
theorem cutX0_l {l : List D} (h : Lv x m l) (q : Q (.lst (cutD l none (some i))) m) : (∃ l j, Lv x m l ∧ D.int i = D.int j ∧ NewL Q (cutD l none (some j)) m) ∨ ∃ z j, x = .str z ∧ D.int i = D.int j ∧ z.length ≤ sizeLine ∧ Q (.str (cutS z none (some j))) m := .inl ⟨l, i, h, rfl, .inl q⟩
theorem cutX1_l {l : List D} (h : Lv x m l) (q : Q (.lst (cutD l (some i) none)) m) : (∃ l j, Lv x m l ∧ D.int i = D.int j ∧ NewL Q (cutD l (some j) none) m) ∨ ∃ z j, x = .str z ∧ D.int i = D.int j ∧ z.length ≤ sizeLine ∧ Q (.str (cutS z (some j) none)) m := .inl ⟨l, i, h, rfl, .inl q⟩
theorem cutX0_s (hz : z.length ≤ sizeLine) (q : Q (.str (cutS z none (some i))) m) : (∃ l j, Lv (D.str z) m l ∧ D.int i = D.int j ∧ NewL Q (cutD l none (some j)) m) ∨ ∃ w j, D.str z = .str w ∧ D.int i = D.int j ∧ w.length ≤ sizeLine ∧ Q (.str (cutS w none (some j))) m := .inr ⟨z, i, rfl, rfl, hz, q⟩
theorem cutX1_s (hz : z.length ≤ sizeLine) (q : Q (.str (cutS z (some i) none)) m) : (∃ l j, Lv (D.str z) m l ∧ D.int i = D.int j ∧ NewL Q (cutD l (some j) none) m) ∨ ∃ w j, D.str z = .str w ∧ D.int i = D.int j ∧ w.length ≤ sizeLine ∧ Q (.str (cutS w (some j) none)) m := .inr ⟨z, i, rfl, rfl, hz, q⟩
theorem wc_intS {n : Int} (h : PySem.intText? z = some n) (hz : z.length ≤ 640) (q : Q (.int n) m) : WC B (.type "int") [.str z] m Q := wc_of call_int_str fun G H vs c rd Q' k => by
  obtain ⟨v, rfl, r⟩ := rep1 rd
  obtain rfl : v = .str z := r
  exact ⟨z, n, rfl, h, hz, c.vp k (d := .int n) rfl q⟩
theorem we_strm {name : Str} {id : String} {r : V → List V → Hp → VK → Prop} (slot : PySem.Slot "str" name id) (hty : PySem.typeOf (.builtin id) = pure (.type "method_descriptor")) (hm : MtR B.X id r)
    (h : WE B o ρ m fun x m1 => ∃ z, x = .str z ∧ Pd.WE B a ρ m1 fun y m2 => ∃ w, y = .str w ∧ ∀ G H Q', Cur B.X.K G m2 H → VP B.X.K G Q Q' → r (.str z) [.str w] H Q')
    (hbase : attributeBase o name B.X.env (eval o B.X.env) = eval o B.X.env)
    (hfew : ((backTo pos (starEach [a] B.X.env)).all (fun x => !x.1) && (backToKw pos (keywordEach [] B.X.env)).all (fun x => x.1.isSome)
      && decide ((a :: []).length + ([] : List Keyword).length + (if ([] : List Keyword).isEmpty then 0 else 1) < 30)) = true)
    (hline : (apos.endLine == pos.line) = true) (hs : starEach [a] B.X.env = (false, eval a B.X.env) :: starEach [] B.X.env) (hplain : (backTo pos (starEach [] B.X.env)).any (·.1) = false) :
    WE B (.Call (.Attribute o name apos) [a] [] pos) ρ m Q := fun G σ H s r0 c Q' k => by
  refine teX_of (pe_bm PySem.F.plainAttrs_str slot hty hm (peX o) (pa_cons (peX a) pa_nil hs) hbase hfew hline hs hplain) ?_
  refine h G σ H s r0 c _ fun v x m1 G1 H1 s1 c1 r1 ⟨z, ex, q0⟩ => ?_
  subst ex
  obtain rfl : v = .str z := r1
  refine ⟨rfl, ?_⟩
  refine q0 G1 σ H1 (s.trans s1) (r0.sub s1) c1 _ fun u y m2 G2 H2 s2 c2 r2 ⟨w, ey, q⟩ => ?_
  subst ey
  obtain rfl : u = .str w := r2
  exact q G2 H2 Q' c2 (k.sub (s1.trans s2))
section
variable (hbase : ∀ name : Str, attributeBase o name B.X.env (eval o B.X.env) = eval o B.X.env)
    (hfew : ((backTo pos (starEach [a] B.X.env)).all (fun x => !x.1) && (backToKw pos (keywordEach [] B.X.env)).all (fun x => x.1.isSome)
      && decide ((a :: []).length + ([] : List Keyword).length + (if ([] : List Keyword).isEmpty then 0 else 1) < 30)) = true)
    (hline : (apos.endLine == pos.line) = true) (hs : starEach [a] B.X.env = (false, eval a B.X.env) :: starEach [] B.X.env) (hplain : (backTo pos (starEach [] B.X.env)).any (·.1) = false)
include hbase hfew hline hs hplain
theorem we_find (h : WE B o ρ m fun x m1 => ∃ z, x = .str z ∧ Pd.WE B a ρ m1 fun y m2 => ∃ w, y = .str w ∧ Q (.int (Txt.find z w)) m2) : WE B (.Call (.Attribute o "find" apos) [a] [] pos) ρ m Q :=
  we_strm PySem.F.slot_str_find PySem.F.type_str_find mt_find (WE.mono h fun x m1 ⟨z, e1, g⟩ => ⟨z, e1, WE.mono g fun y m2 ⟨w, e2, q⟩ => ⟨w, e2, fun G H Q' c k => ⟨z, w, rfl, rfl, c.vp k (d := .int (Txt.find z w)) rfl q⟩⟩⟩) (hbase _) hfew hline hs hplain
theorem we_sindex (h : WE B o ρ m fun x m1 => ∃ z, x = .str z ∧ Pd.WE B a ρ m1 fun y m2 => ∃ w, y = .str w ∧ ∃ i rest, PySem.Builtin.Str.occurrences z w 0 z.length 1 = i :: rest ∧ Q (.int (i : Nat)) m2) : WE B (.Call (.Attribute o "index" apos) [a] [] pos) ρ m Q :=
  we_strm PySem.F.slot_str_index PySem.F.type_str_index mt_sindex (WE.mono h fun x m1 ⟨z, e1, g⟩ => ⟨z, e1, WE.mono g fun y m2 ⟨w, e2, i, rest, ho, q⟩ => ⟨w, e2, fun G H Q' c k => ⟨z, w, i, rest, rfl, rfl, ho, c.vp k (d := .int (i : Nat)) rfl q⟩⟩⟩) (hbase _) hfew hline hs hplain
theorem we_part (h : WE B o ρ m fun x m1 => ∃ z, x = .str z ∧ Pd.WE B a ρ m1 fun y m2 => ∃ w, y = .str w ∧ (w.length == 0) = false ∧ z.length ≤ sizeLine ∧ Q (.tup [.str (Txt.partition z w).1, .str (Txt.partition z w).2.1, .str (Txt.partition z w).2.2]) m2) : WE B (.Call (.Attribute o "partition" apos) [a] [] pos) ρ m Q :=
  we_strm PySem.F.slot_str_partition PySem.F.type_str_partition mt_partition (WE.mono h fun x m1 ⟨z, e1, g⟩ => ⟨z, e1, WE.mono g fun y m2 ⟨w, e2, hw, hz, q⟩ => ⟨w, e2, fun G H Q' c k => ⟨z, w, rfl, rfl, hw, hz, fun p hp => by
    have sb := sub_upd (o := .tup [.str (Txt.partition z w).1, .str (Txt.partition z w).2.1, .str (Txt.partition z w).2.2]) (c.none hp).1
    exact k (.ref p) (.tup [.str (Txt.partition z w).1, .str (Txt.partition z w).2.1, .str (Txt.partition z w).2.2]) _ _ _ sb (c.new hp) ⟨p, _, rfl, SqT.of upd_same, ⟨_, _, rfl, rfl, _, _, rfl, rfl, _, _, rfl, rfl, rfl⟩⟩ q⟩⟩⟩) (hbase _) hfew hline hs hplain
end
theorem rep_fold {c : Nat} : ∀ (n : Nat) (acc : Array Nat), (List.replicate n #[c]).foldl (· ++ ·) acc = acc ++ (List.replicate n c).toArray
  | 0, acc => by simp
  | n + 1, acc => by
    rw [List.replicate_succ, List.foldl_cons, rep_fold n, List.replicate_succ]
    apply Array.ext'
    simp
theorem op_mul_str {X : Cx} : OpR X (binaryOp .Mult) (fun x y H Q => ∃ (c : Nat) (k : Int), x = .str ⟨#[c]⟩ ∧ y = .int k ∧ 2 ≤ k ∧ k ≤ 100000 ∧ Q (.str ⟨(List.replicate k.toNat c).toArray⟩) H) := by
  intro pins s σ H x y v u Q I rx ry h
  obtain ⟨c, k, rfl, rfl, h1, h2, q⟩ := h
  obtain ⟨t, rfl⟩ := rx
  obtain ⟨t', rfl⟩ := ry
  have hk : (k == 1 || (⟨#[c]⟩ : Str).length == 0) = false := by
    rw [show (⟨#[c]⟩ : Str).length = 1 from rfl]
    simp; omega
  have hl : (⟨#[c]⟩ : Str).length = 1 := rfl
  refine PySem.P.mul_str (by rw [decide_eq_false (by omega), decide_eq_false (by omega)]; rfl) (fun _ _ => ?_) (fun _ _ => ?_) ?_
  · rw [hl]
    have hq : 1 ≤ (2 ^ 63 - 1 : Int) / k := (Int.le_ediv_iff_mul_le (by omega)).mpr (by omega)
    show ¬ ((1 : Int) > (2 ^ 63 - 1) / k)
    omega
  · rw [hl]
    refine decide_eq_false (Nat.not_lt.mpr (Nat.le_trans (show 1 * k.toNat ≤ 100000 by omega) (by decide)))
  · rw [if_neg (by omega), if_neg (by rw [hk]; decide), show (⟨#[c]⟩ : Str).cps = #[c] from rfl, rep_fold]
    simp only [Array.empty_append]
    refine ⟨?_, .str _, H, I.tok _, ⟨_, rfl⟩, q⟩
    show (List.replicate k.toNat c).toArray.size ≤ sizeLine
    rw [List.size_toArray, List.length_replicate]
    exact Nat.le_trans (show k.toNat ≤ 100000 by omega) (by decide)
theorem wb_mulS (h1 : 2 ≤ i) (h2 : i ≤ 100000) (q : Q (.str ⟨(List.replicate i.toNat c).toArray⟩) m) : WB B (binaryOp .Mult) (.str ⟨#[c]⟩) (.int i) m Q := wb_of op_mul_str fun G H v u cu r1 r2 Q' kk => ⟨c, i, r1, r2, h1, h2, cu.vp kk (d := .str ⟨(List.replicate i.toNat c).toArray⟩) rfl q⟩
end
end Pd
namespace Pd
open PySem PySem.Spec PyProof.Rows L2
abbrev DVal := NumText.digitsVal
theorem dval_snoc {u : List Nat} {c : Nat} : NumText.digitsVal (u ++ [c]) = NumText.digitsVal u * 10 + (c - 48) := by
  unfold NumText.digitsVal
  rw [List.foldl_append]; rfl
theorem snoc_of {w : List Nat} (h : w ≠ []) : ∃ u c, w = u ++ [c] := ⟨w.dropLast, w.getLast h, (List.dropLast_concat_getLast h).symm⟩
theorem head_app {u v : List Nat} (h : u ≠ []) : (u ++ v).head? = u.head? := by cases u with
  | nil => exact absurd rfl h
  | cons a u => rfl
theorem canon : ∀ (n : Nat) (w : List Nat), w.length = n → NumText.AllDigits w → w ≠ [] → (w.head? = some 48 → w.length = 1) → TL.numL (NumText.digitsVal w) = w
  | 0, w, hl, _, h, _ => absurd (List.length_eq_zero_iff.mp hl) h
  | n + 1, w, hl, hd, h, h1 => by
    obtain ⟨u, c, rfl⟩ := snoc_of h
    have hc := hd c (by simp)
    by_cases hu : u = []
    · subst hu
      rw [dval_snoc, show NumText.digitsVal [] = 0 from rfl, TL.numL_lt (by omega), show 48 + (0 * 10 + (c - 48)) = c by omega]; rfl
    · have hdu : NumText.AllDigits u := fun x hx => hd x (by simp [hx])
      have hul : u.length ≠ 0 := fun z => hu (List.length_eq_zero_iff.mp z)
      rw [head_app hu] at h1
      have hh : u.head? ≠ some 48 := fun z => by
        have := h1 z
        rw [List.length_append, List.length_singleton] at this
        omega
      have ih := canon n u (by rw [List.length_append, List.length_singleton] at hl; omega) hdu hu (fun z => absurd z hh)
      have hp : 1 ≤ NumText.digitsVal u := by
        rcases Nat.eq_zero_or_pos (NumText.digitsVal u) with z | z
        · rw [z, TL.numL_lt (by decide)] at ih
          rw [← ih] at hh
          exact absurd rfl hh
        · exact z
      rw [dval_snoc, TL.numL_step (by omega), show (NumText.digitsVal u * 10 + (c - 48)) / 10 = NumText.digitsVal u by omega, ih, show 48 + (NumText.digitsVal u * 10 + (c - 48)) % 10 = c by omega]
theorem fold_lt : ∀ (w : List Nat) (a : Nat), NumText.AllDigits w → w.foldl (fun acc c => acc * 10 + (c - 48)) a < (a + 1) * 10 ^ w.length
  | [], a, _ => by simp
  | c :: w, a, h => by
    have hc := h c (by simp)
    have ih := fold_lt w (a * 10 + (c - 48)) fun x hx => h x (by simp [hx])
    rw [List.foldl_cons, List.length_cons, Nat.pow_succ]
    have e : (a * 10 + (c - 48) + 1) * 10 ^ w.length ≤ (a + 1) * (10 ^ w.length * 10) := by
      rw [Nat.mul_comm (10 ^ w.length) 10, ← Nat.mul_assoc]
      exact Nat.mul_le_mul_right _ (by omega)
    omega
theorem fold_ge : ∀ (w : List Nat) (a : Nat), a ≤ w.foldl (fun acc c => acc * 10 + (c - 48)) a
  | [], a => Nat.le_refl _
  | c :: w, a => by
    have := fold_ge w (a * 10 + (c - 48))
    rw [List.foldl_cons]
    omega
theorem dval_lt {w : List Nat} (h : NumText.AllDigits w) : NumText.digitsVal w < 10 ^ w.length := by
  have := fold_lt w 0 h
  rw [Nat.zero_add, Nat.one_mul] at this
  exact this
theorem numL_head : ∀ (k n : Nat), n ≤ k → n ≠ 0 → (TL.numL n).head? ≠ some 48
  | 0, n, h, h0 => absurd (by omega) h0
  | k + 1, n, h, h0 => by
    by_cases hn : n < 10
    · rw [TL.numL_lt hn]
      intro z
      have := Option.some.inj z
      omega
    · rw [TL.numL_step (by omega), head_app (TL.numL_ne _)]
      exact numL_head k (n / 10) (by omega) (by omega)
def plainL (w : List Nat) : Option Nat := if (1 ≤ w.length ∧ w.length ≤ 30) ∧ (∀ c ∈ w, 48 ≤ c ∧ c ≤ 57) ∧ ¬ (w.head? = some 48 ∧ 1 < w.length) then some (NumText.digitsVal w) else none
theorem plain_some {w : List Nat} {n : Nat} : plainL w = some n ↔ w = TL.numL n ∧ n < 10 ^ 30 := by
  unfold plainL
  constructor
  · intro h
    split at h
    · rename_i hc
      obtain ⟨⟨a, b⟩, c, d⟩ := hc
      cases h
      refine ⟨(canon _ w rfl c (fun z => by rw [z] at a; exact absurd a (by decide)) fun z => ?_).symm, Nat.lt_of_lt_of_le (dval_lt c) (Nat.pow_le_pow_right (by decide) b)⟩
      apply Classical.byContradiction
      intro hl
      exact d ⟨z, by omega⟩
    · cases h
  · rintro ⟨rfl, hn⟩
    have hne : (TL.numL n).length ≠ 0 := fun z => TL.numL_ne n (List.length_eq_zero_iff.mp z)
    rw [if_pos, TL.numL_val]
    refine ⟨⟨by omega, TL.numL_len (by decide) hn⟩, TL.numL_digits n, fun ⟨z, hl⟩ => ?_⟩
    by_cases h0 : n = 0
    · subst h0
      rw [TL.numL_lt (by decide)] at hl
      exact absurd hl (by decide)
    · exact numL_head n n (Nat.le_refl n) h0 z
def figL : Int → List Nat → Int
  | acc, [] => acc
  | acc, c :: cs => if 48 ≤ c ∧ c ≤ 57 then (if 10 ^ 30 ≤ acc * 10 + ((c : Int) - 48) then acc * 10 + ((c : Int) - 48) else figL (acc * 10 + ((c : Int) - 48)) cs) else -1
def figW (w : List Nat) : Int := if w = [] then -1 else figL 0 w
theorem figL_num : ∀ (w : List Nat) (a : Nat), NumText.AllDigits w → w.foldl (fun acc c => acc * 10 + (c - 48)) a < 10 ^ 30 → figL (a : Int) w = (w.foldl (fun acc c => acc * 10 + (c - 48)) a : Nat)
  | [], a, _, _ => rfl
  | c :: w, a, h, hl => by
    have hc := h c (by simp)
    rw [List.foldl_cons] at hl ⊢
    have hg := fold_ge w (a * 10 + (c - 48))
    have e : (a : Int) * 10 + ((c : Int) - 48) = ((a * 10 + (c - 48) : Nat) : Int) := by omega
    unfold figL
    rw [if_pos hc, e]
    rw [if_neg (fun z => by
      have z2 : 10 ^ 30 ≤ a * 10 + (c - 48) := by exact_mod_cast z
      exact absurd (Nat.lt_of_le_of_lt hg hl) (by omega))]
    exact figL_num w _ (fun x hx => h x (by simp [hx])) hl
theorem fig_num {n : Nat} (h : n < 10 ^ 30) : figW (TL.numL n) = (n : Int) := by
  unfold figW
  rw [if_neg (TL.numL_ne n)]
  have e := TL.numL_val n
  have := figL_num (TL.numL n) 0 (TL.numL_digits n) (by show NumText.digitsVal (TL.numL n) < _; rw [e]; exact h)
  rw [show ((0 : Nat) : Int) = 0 from rfl] at this
  rw [this]
  show ((NumText.digitsVal (TL.numL n) : Nat) : Int) = n
  rw [e]
def hdP (w : List Nat) : List Nat := w.takeWhile fun c => decide (c ≠ 43)
def tlP (w : List Nat) : List Nat := w.drop ((hdP w).length + 1)
def wordN (s r : Nat) : List Nat := if r = 0 then TL.numL s else TL.numL s ++ 43 :: TL.numL r
theorem no_plus (n : Nat) : 43 ∉ TL.numL n := TL.numL_free (.inl (by decide))
theorem hd_none {w : List Nat} (h : 43 ∉ w) : hdP w = w := by
  unfold hdP
  induction w with
  | nil => rfl
  | cons a w ih =>
    have ha : a ≠ 43 := fun z => h (by simp [z])
    rw [List.takeWhile_cons, if_pos (decide_eq_true ha), ih fun z => h (by simp [z])]
theorem hd_app {u v : List Nat} (h : 43 ∉ u) : hdP (u ++ 43 :: v) = u := by
  unfold hdP
  induction u with
  | nil => rfl
  | cons a u ih =>
    have ha : a ≠ 43 := fun z => h (by simp [z])
    rw [List.cons_append, List.takeWhile_cons, if_pos (decide_eq_true ha), ih fun z => h (by simp [z])]
theorem tl_app {u v : List Nat} (h : 43 ∉ u) : tlP (u ++ 43 :: v) = v := by
  unfold tlP
  rw [hd_app h, List.drop_append, List.drop_eq_nil_of_le (by omega), show u.length + 1 - u.length = 1 by omega]; rfl
theorem split_plus {w : List Nat} (h : 43 ∈ w) : w = hdP w ++ 43 :: tlP w ∧ 43 ∉ hdP w := by
  have key : ∀ {w : List Nat}, 43 ∈ w → ∃ u v, w = u ++ 43 :: v ∧ 43 ∉ u := by
    intro w
    induction w with
    | nil => intro h; cases h
    | cons a w ih =>
      intro h
      by_cases ha : a = 43
      · exact ⟨[], w, by rw [ha]; rfl, fun z => by cases z⟩
      · obtain ⟨u, v, e, hu⟩ := ih ((List.mem_cons.mp h).resolve_left fun z => ha z.symm)
        exact ⟨a :: u, v, by rw [e]; rfl, fun z => (List.mem_cons.mp z).elim (fun z => ha z.symm) hu⟩
  obtain ⟨u, v, e, hu⟩ := key h
  rw [e, hd_app hu, tl_app hu]
  exact ⟨rfl, hu⟩
def readW (w : List Nat) : Option (Nat × Nat) :=
  match plainL (hdP w) with
  | none => none
  | some s => if s = 0 then none else if 43 ∈ w then (match plainL (tlP w) with
    | none => none
    | some r => if 0 < r ∧ r < s then some (s, r) else none) else some (s, 0)
def IsG (w : List Nat) (s r : Nat) : Prop := 0 < s ∧ s < 10 ^ 30 ∧ r < s ∧ w = wordN s r
theorem read_iff {w : List Nat} {s r : Nat} : readW w = some (s, r) ↔ IsG w s r := by
  constructor
  · intro h
    unfold readW at h
    cases e : plainL (hdP w) with
    | none => rw [e] at h; cases h
    | some t =>
      rw [e] at h
      simp only at h
      obtain ⟨e1, e2⟩ := plain_some.mp e
      by_cases h0 : t = 0
      · rw [if_pos h0] at h; cases h
      · rw [if_neg h0] at h
        by_cases hp : 43 ∈ w
        · rw [if_pos hp] at h
          cases e3 : plainL (tlP w) with
          | none => rw [e3] at h; cases h
          | some q =>
            rw [e3] at h
            simp only at h
            obtain ⟨e4, e5⟩ := plain_some.mp e3
            by_cases hq : 0 < q ∧ q < t
            · rw [if_pos hq] at h
              cases h
              refine ⟨by omega, e2, hq.2, ?_⟩
              unfold wordN
              rw [if_neg (by omega), ← e1, ← e4]
              exact (split_plus hp).1
            · rw [if_neg hq] at h; cases h
        · rw [if_neg hp] at h
          cases h
          refine ⟨by omega, e2, by omega, ?_⟩
          unfold wordN
          rw [if_pos rfl, ← e1, hd_none hp]
  · rintro ⟨h1, h2, h3, rfl⟩
    have e1 := plain_some.mpr ⟨rfl, h2⟩
    unfold readW wordN
    by_cases hr : r = 0
    · rw [if_pos hr, hd_none (no_plus s), e1]
      simp only
      rw [if_neg (by omega), if_neg (no_plus s), hr]
    · rw [if_neg hr, hd_app (no_plus s), tl_app (no_plus s), e1, plain_some.mpr ⟨rfl, Nat.lt_trans h3 h2⟩]
      simp only
      rw [if_neg (by omega), if_pos (by simp), if_pos ⟨by omega, h3⟩]
def sizW (w : List Nat) : Int := if 43 ∈ w then figW (hdP w) else figW w
def rstW (w : List Nat) : Int := if 43 ∈ w then figW (tlP w) else 0
def classW (w : List Nat) : Option (Nat × Nat) :=
  if 1 ≤ sizW w ∧ sizW w < 10 ^ 30 ∧ 0 ≤ rstW w ∧ rstW w < sizW w ∧ wordN (sizW w).toNat (rstW w).toNat = w then some ((sizW w).toNat, (rstW w).toNat) else none
theorem class_iff {w : List Nat} {s r : Nat} : classW w = some (s, r) ↔ IsG w s r := by
  unfold classW
  constructor
  · intro h
    split at h
    · rename_i hc
      obtain ⟨a, b, c, d, e⟩ := hc
      cases h
      have hb : (sizW w).toNat < 10 ^ 30 := by
        have : ((10 : Int) ^ 30) = ((10 ^ 30 : Nat) : Int) := by norm_cast
        omega
      exact ⟨by omega, hb, by omega, e.symm⟩
    · cases h
  · rintro ⟨h1, h2, h3, rfl⟩
    have es : sizW (wordN s r) = s := by
      unfold sizW wordN
      by_cases hr : r = 0
      · rw [if_pos hr, if_neg (no_plus s), fig_num h2]
      · rw [if_neg hr, if_pos (by simp), hd_app (no_plus s), fig_num h2]
    have er : rstW (wordN s r) = r := by
      unfold rstW wordN
      by_cases hr : r = 0
      · rw [if_pos hr, if_neg (no_plus s), hr]; rfl
      · rw [if_neg hr, if_pos (by simp), tl_app (no_plus s), fig_num (Nat.lt_trans h3 h2)]
    have hb : (s : Int) < 10 ^ 30 := by exact_mod_cast h2
    rw [es, er, if_pos ⟨by omega, hb, by omega, by omega, rfl⟩]
    rfl
theorem class_read (w : List Nat) : classW w = readW w := by
  cases e : readW w with
  | some p =>
    obtain ⟨s, r⟩ := p
    exact class_iff.mpr (read_iff.mp e)
  | none =>
    cases e2 : classW w with
    | none => rfl
    | some p =>
      obtain ⟨s, r⟩ := p
      rw [read_iff.mpr (class_iff.mp e2)] at e; cases e
theorem plain_no1 {w : List Nat} (h : ¬ (1 ≤ w.length ∧ w.length ≤ 30)) : plainL w = none := if_neg fun z => h z.1
theorem plain_no2 {w : List Nat} {c : Nat} (hc : c ∈ w) (h : ¬ (48 ≤ c ∧ c ≤ 57)) : plainL w = none := if_neg fun z => h (z.2.1 c hc)
theorem plain_no3 {w : List Nat} (h : w.head? = some 48) (h1 : 1 < w.length) : plainL w = none := if_neg fun z => z.2.2 ⟨h, h1⟩
theorem plain_yes {w : List Nat} (h : 1 ≤ w.length ∧ w.length ≤ 30) (hd : ∀ c ∈ w, 48 ≤ c ∧ c ≤ 57) (h1 : ¬ (w.head? = some 48 ∧ 1 < w.length)) : plainL w = some (NumText.digitsVal w) := if_pos ⟨h, hd, h1⟩
theorem len_tl {z : Str} : z.cps.toList.length = z.length := Array.length_toList
theorem sg_eq {c k : Nat} {s : Str} (hs : s.cps.toList = [k]) : (⟨#[c]⟩ : Str) = s ↔ c = k := by
  constructor
  · intro h
    have e : ((⟨#[c]⟩ : Str)).cps.toList = s.cps.toList := by rw [h]
    rw [hs] at e
    exact List.head_eq_of_cons_eq e
  · rintro rfl
    cases s with
    | mk a =>
      congr 1
      apply Array.ext'
      exact hs.symm
theorem atI_head {α : Type} {a : α} {l : List α} : atI (a :: l) 0 = some a := by
  unfold atI ixN
  rw [if_pos (by decide), if_pos (by rw [List.length_cons]; omega)]; rfl
end Pd
namespace Pd
open PySem PySem.Spec PyProof.Rows L2
open PySem.StrLaws PySem.Builtin.Str
theorem occ_keep {s sub : Str} {hi : Nat} : ∀ (l : List Nat) (st : Array Nat × Nat), st.fst.size = 1 → (forIn l st (occBody s sub hi 1)).run.fst = st.fst
  | [], st, _ => rfl
  | a :: l, st, h => by
    rw [List.forIn_cons]
    unfold occBody
    rw [if_neg (fun z => by have := z.1.1.1; omega)]
    exact occ_keep l (st.fst, st.snd) h
theorem occ_first {s sub : Str} {hi i free : Nat} {v : List Nat} (hi1 : i + sub.length ≤ hi ∧ subAt s sub i = true) : ∀ (u : List Nat), (∀ j ∈ u, ¬ (j + sub.length ≤ hi ∧ subAt s sub j = true)) → free ≤ i →
    (forIn (u ++ i :: v) ((#[] : Array Nat), free) (occBody s sub hi 1)).run.fst = #[i]
  | [], _, hf => by
    rw [List.nil_append, List.forIn_cons]
    unfold occBody
    rw [if_pos ⟨⟨⟨by simp, hf⟩, hi1.1⟩, hi1.2⟩]
    exact occ_keep v ((#[] : Array Nat).push i, i + sub.length) (by simp)
  | a :: u, hn, hf => by
    rw [List.cons_append, List.forIn_cons]
    unfold occBody
    rw [if_neg (fun z => hn a (by simp) ⟨z.1.2, z.2⟩)]
    exact occ_first hi1 u (fun j hj => hn j (by simp [hj])) hf
theorem find_sign {z : Str} {c : Nat} {u v : List Nat} (e : z.cps.toList = u ++ c :: v) (h : c ∉ u) : PySem.Builtin.Str.occurrences z ⟨#[c]⟩ 0 z.length 1 = [u.length] := by
  have hl : z.length = u.length + (v.length + 1) := by rw [← len_tl, e, List.length_append, List.length_cons]
  rw [occ_eq]
  have er : List.range' 0 (z.length + 1 - 0) = List.range' 0 u.length ++ u.length :: List.range' (u.length + 1) (v.length + 1) := by
    rw [← List.range'_succ]
    have z2 : List.range' 0 u.length 1 ++ List.range' (0 + 1 * u.length) (v.length + 1 + 1) 1 = List.range' 0 (u.length + (v.length + 1 + 1)) 1 := List.range'_append
    rw [show 0 + 1 * u.length = u.length by omega] at z2
    rw [z2]
    congr 1; omega
  rw [er, occ_first ((subAt_one z c u.length).mpr (by rw [e]; simp)) _ (fun j hj hs => ?_) (Nat.zero_le _)]
  have := (subAt_one z c j).mp hs
  have hju : j < u.length := by
    have := List.mem_range'.mp hj
    omega
  rw [e, List.getElem?_append_left hju] at this
  exact h (List.mem_of_getElem? this)
theorem find_none {z : Str} {c : Nat} (h : c ∉ z.cps.toList) : PySem.Builtin.Str.occurrences z ⟨#[c]⟩ 0 z.length 1 = [] := by
  have := found_one z c
  rw [decide_eq_false h] at this
  simpa using this
theorem txt_find {z : Str} {c : Nat} {u v : List Nat} (e : z.cps.toList = u ++ c :: v) (h : c ∉ u) : Txt.find z ⟨#[c]⟩ = (u.length : Int) := by
  unfold Txt.find
  rw [find_sign e h]
theorem txt_find_no {z : Str} {c : Nat} (h : c ∉ z.cps.toList) : Txt.find z ⟨#[c]⟩ = -1 := by
  unfold Txt.find
  rw [find_none h]
theorem cutS_to {z : Str} {k : Nat} (hk : k ≤ z.length) : cutS z none (some (k : Int)) = ⟨(z.cps.toList.take k).toArray⟩ := by
  unfold cutS
  rw [HT.sIx_none, HT.sIx_nat, List.drop_zero, Nat.min_eq_left hk, Nat.sub_zero]
theorem cutS_from {z : Str} {k : Nat} (hk : k ≤ z.length) : cutS z (some (k : Int)) none = ⟨(z.cps.toList.drop k).toArray⟩ := by
  unfold cutS
  rw [HT.sIx_none, HT.sIx_nat, Nat.min_eq_left hk, List.take_of_length_le (by rw [List.length_drop, len_tl]; omega)]
end Pd
namespace Pd
open PySem PySem.Spec PyProof.Rows L2
def Runs2 (B : Bx) (f : Value) (P : PD) : Prop := ∀ pins s σ H us vs ds m G Q Qd Xd, Inv B.X pins σ H s → Vals vs us → Sub B.G0 G → Cur B.X.K G m H → Reps B.X.K G ds vs → P ds m Qd Xd → VP B.X.K G Qd Q → XO B σ G Xd →
  wpAny (model B.X.prog B.X.w) B.X.A.in1.in1 (call f us) (EP B.X pins σ Q) B.X.xe s
theorem runs2_fn {B : Bx} {k : Nat} {f : Addr} {fd : FuncData} {ps : List Str} {P : PD} (F : FnOk B.X.prog B.X.w B.X.K B.X.mg B.X.base (L2.CX B.X.prog B.X.w) k f fd ps (spD B.X.K P)) (hr : Room (k + 2) B.X.A) (hb : Binds B.X.K fd ps []) : Runs2 B (.ref f) P := by
  intro pins s σ H us vs ds m G Q Qd Xd I rv s0 c rd hp kq hx
  have sp : spD B.X.K P vs H Q (xeD B.X.K G Xd) := ⟨G, m, ds, Qd, Xd, c, rd, hp, kq, xp_xeD _ _ _⟩
  have e := I.env0
  have e0 : Env0 B.X.prog B.X.w B.X.K B.X.mg B.X.base B.X.A.in1.in1 B.X.stack s H := ⟨e.frames, e.mod, e.bs, e.bsz, e.funs, e.frf, e.hok, e.bare⟩
  have b0 := hb s us I.kIn (by have := F.len _ _ _ _ sp; have := rv.length; simp; omega)
  rw [List.append_nil] at b0
  refine wpAny_call (codeAny_mono (F.run B.X.A.in1.in1 B.X.stack s H ⟨us, []⟩ us vs Q _ (show Room (k + 1) B.X.A.in1 from hr.in1).in1 e0 b0 rv sp) fun r s' hq => ?_)
  match r, hq with
  | .error e, hq => exact hx.pass pins H s e s' I hq
  | .ok (.ret u), hq => exact I.after hq
  | .ok .next, hq => exact hq.elim
  | .ok .brk, hq => exact hq.elim
  | .ok .cont, hq => exact hq.elim
structure CalM2 (B : Bx) (C : Addr) (n : Str) (P : PD) : Prop where
  ex : ∃ f : Addr, Meth B.X.K C n f ∧ Runs2 B (.ref f) P
theorem calm2_of {P : Program} {w : World} {K : PySem.W.Frag} {mg : Str → Option Value} {base : Heap} {B : Bx} {C : Addr} {n : Str} {k k' : Nat} {PP : PD} (g : MF P w K mg base C n k PP) (hr : Room k' B.X.A) (hk : k + 2 ≤ k') (h : Hs P w K mg base B) : CalM2 B C n PP := by
  obtain ⟨f, fd, ps, h1, h3, h4⟩ := g.ex
  obtain ⟨rfl, rfl, rfl, rfl, rfl⟩ := h
  exact ⟨f, h1, runs2_fn h4 (hr.mono hk) h3⟩
section
variable {B : Bx} {x y d : D} {m : Mem} {Q : D → Mem → Prop} {C : Addr} {ρ : DE} {P : PD} {fl fl' : List (Str × D)} {k : Nat}
theorem strback {R : Value → Shared → Prop} {z : Str} {u : Value} {s : Shared} (r : RelV (.str z) u) (h : R u s) : PySem.W.StrBack R u s := by
  obtain ⟨t, rfl⟩ := r
  exact h
theorem wc_strO (hr : Room (k + 2) B.X.A) (h : InsOf x m C fl) (hc : CalM2 B C "__str__" P) (hp : ∃ Xd, P [x] m (fun d m' => ∃ z, d = .str z ∧ Q (.str z) m') Xd ∧ XOK B Xd) : WC B (.type "str") [x] m Q := fun G H vs s c rd Q' kq pins s1 σ us I rv => by
  obtain ⟨v, rfl, r1⟩ := rep1 rd
  obtain ⟨a, dx, fs, rfl, ha, rf⟩ := insof_get h c r1
  cases rv with
  | cons r0 r00 =>
    cases r00
    rename_i u
    obtain rfl : u = Value.ref a := r0
    obtain ⟨g, hm, run⟩ := hc.ex
    obtain ⟨mA, J, _⟩ := ins_get I.hok ha
    obtain ⟨od, J, _⟩ := J.look
    obtain ⟨Xd, q1, q2⟩ := hp
    refine PySem.W.kso_call (show Room (k + 1) B.X.A.in1 from hr.in1).in1.units0 I.kIn J hm.at_ hm.fn ?_
    refine thn (run pins s1 σ H [.ref a] [.ref a] [x] m G (fun w H2 => ∃ z, w = .str z ∧ Q' (.str z) H2) (fun d m' => ∃ z, d = .str z ∧ Q (.str z) m') Xd I (.cons rfl .nil) s c rd q1 (fun w d m' G' H' s' c' rd ⟨t, ed, qd⟩ => ?_) (q2.xo s)) fun w s2 ⟨w', H2, I2, rw', z, ew, q3⟩ => ?_
    · subst ed
      obtain rfl : w = .str t := rd
      exact ⟨t, rfl, kq (.str t) (.str t) m' G' H' s' c' rfl qd⟩
    · subst ew
      exact strback rw' ⟨.str z, H2, I2, rw', q3⟩
end
section
variable {B : Bx} {m : Mem} {Q : D → Mem → Prop} {ρ : DE} {e : Expr} {es : List Expr} {pos : Pos}
def WJs (B : Bx) (es : List Expr) (acc : Str) (ρ : DE) (m : Mem) (Q : Str → Mem → Prop) : Prop := ∀ G σ H, Sub B.G0 G → RepE B.X.K B.X.N.length G σ ρ → Cur B.X.K G m H → ∀ Q' : Str → Hp → Prop, (∀ z m' G' H', Sub G G' → Cur B.X.K G' m' H' → Q z m' → Q' z H') → tJs (es.map (teX B.X)) acc σ H Q'
theorem wjs_nil {acc : Str} {QS : Str → Mem → Prop} (q : QS acc m) : WJs B [] acc ρ m QS := fun G σ H s r c Q' k => k acc m G H (Sub.refl G) c q
theorem wjs_cons {acc : Str} {QS : Str → Mem → Prop} (h : WE B e ρ m fun d m1 => ∃ y, d = .str y ∧ (acc ++ y).length ≤ sizeLine ∧ WJs B es (acc ++ y) ρ m1 QS) : WJs B (e :: es) acc ρ m QS := fun G σ H s r c Q' k => by
  show teX B.X e σ H _
  refine h G σ H s r c _ fun v d m1 G1 H1 s1 c1 r1 ⟨y, ed, hy, q⟩ => ?_
  subst ed
  obtain rfl : v = .str y := r1
  exact ⟨y, rfl, hy, q G1 σ H1 (s.trans s1) (r.sub s1) c1 Q' fun z m' G' H' s' c' q' => k z m' G' H' (s1.trans s') c' q'⟩
theorem pj_all {X : Cx} : ∀ es : List Expr, PJ X es (es.map (teX X))
  | [] => .nil
  | e :: es => .cons (peX e) (pj_all es)
theorem we_joined {v1 v2 : Expr} (h : WJs B (v1 :: v2 :: es) Str.empty ρ m fun z m1 => Q (.str z) m1) : WE B (.JoinedStr (v1 :: v2 :: es) pos) ρ m Q := fun G σ H s r c Q' k => by
  refine teX_of (pe_joined (pj_all _)) ?_
  exact h G σ H s r c _ fun z m' G' H' s' c' q => k (.str z) (.str z) m' G' H' s' c' rfl q
theorem we_joined1 (h : WE B e ρ m Q) : WE B (.JoinedStr [e] pos) ρ m Q := fun G σ H s r c Q' k => teX_of (pe_joined1 (peX e)) (h G σ H s r c Q' k)
theorem we_fmt (h : WE B e ρ m fun d m1 => (∃ y, d = .str y ∧ y.length ≤ sizeLine ∧ Q (.str y) m1) ∨ ∃ i, d = .int i ∧ i.natAbs.log2 < 1920 ∧ Q (.str (toString i)) m1) : WE B (.FormattedValue e (-1) none pos) ρ m Q := fun G σ H s r c Q' k => by
  refine teX_of (pe_fmt (peX e)) ?_
  refine h G σ H s r c _ fun v d m1 G1 H1 s1 c1 r1 q => ?_
  rcases q with ⟨y, ed, hy, q⟩ | ⟨i, ed, hi, q⟩
  · subst ed
    obtain rfl : v = .str y := r1
    exact .inl ⟨y, rfl, hy, k (.str y) (.str y) m1 G1 H1 s1 c1 rfl q⟩
  · subst ed
    obtain rfl : v = .int i := r1
    exact .inr ⟨i, rfl, hi, k (.str (toString i)) (.str (toString i)) m1 G1 H1 s1 c1 rfl q⟩
end
structure ClM (K : PySem.W.Frag) (C : Addr) (n : Str) (f : Addr) : Prop where
  rd : ClX.CRead K C (.type "type")
  ex : ∃ p, ClX.CMet K C (.type "type") n p f
section
variable (P : Program) (w : World) (K : PySem.W.Frag) (mg : Str → Option Value) (base : Heap)
structure LDef (C : Addr) (n qual : Str) (st : Stmt) (ps : List Str) : Prop where
  ex : ∃ (f : Addr) (fd : FuncData), ClM K C n f ∧ DefAt K n qual st f fd ∧ Binds K fd ps []
structure LF (C : Addr) (n : Str) (k : Nat) (PP : PD) : Prop where
  ex : ∃ (f : Addr) (fd : FuncData) (ps : List Str), ClM K C n f ∧ Binds K fd ps [] ∧ FnOk P w K mg base (L2.CX P w) k f fd ps (spD K PP)
end
structure CalC (B : Bx) (C : Addr) (n : Str) (P : PD) : Prop where
  ex : ∃ (f : Addr) (fd : FuncData) (ps : List Str) (k : Nat), ClM B.X.K C n f ∧ Binds B.X.K fd ps [] ∧ FnOk B.X.prog B.X.w B.X.K B.X.mg B.X.base (L2.CX B.X.prog B.X.w) k f fd ps (spD B.X.K P) ∧ Room k B.X.A
section
variable {P : Program} {w : World} {K : PySem.W.Frag} {mg : Str → Option Value} {base : Heap}
theorem calc_of_l {B : Bx} {C : Addr} {n : Str} {k k' : Nat} {PP : PD} (g : LF P w K mg base C n k PP) (hr : Room k' B.X.A) (hk : k ≤ k') (h : Hs P w K mg base B) : CalC B C n PP := by
  obtain ⟨f, fd, ps, h1, h3, h4⟩ := g.ex
  obtain ⟨rfl, rfl, rfl, rfl, rfl⟩ := h
  exact ⟨f, fd, ps, k, h1, h3, h4, hr.mono hk⟩
theorem lf_ok2 {N ps : List Str} {k : Nat} {PP : PD} {C : Addr} {n qual : Str} {st : Stmt} (GD : LDef K C n qual st ps) (S : FnScope N ps (defScope st)) (len : ∀ ds m Q Xd, PP ds m Q Xd → ds.length = ps.length)
    (hbody : ∀ (B : Bx) (f : Addr) (cdv : Value) (A : Around) (outer : List Env) (s : Shared) (H : Hp) (E : XK), B.X = cxOf (L2.CX P w) P w K mg base N qual (defScope st) f cdv A outer s H E → Room k B.X.A → Bok B → ∀ ds m Q Xd, PP ds m Q Xd → XOK B Xd →
      WSs B (defBody st) (startD 0 ds) m { nx := fun _ m' => Q .non m', rt := Q }) : LF P w K mg base C n (k + 1) PP := by
  obtain ⟨f, fd, h1, F, hb⟩ := GD.ex
  exact ⟨f, fd, ps, h1, hb, fn_ok2 F S len hbody⟩
end
structure CalX (B : Bx) (C : Addr) (P : PD) : Prop where
  kp : PySem.W.keepIn B.X.K (.ref C) = true
  run : Runs B (.ref C) P
theorem CalX.or {B : Bx} {C : Addr} {P P' : PD} (g : CalX B C P) (g' : CalX B C P') : CalX B C (fun ds m Q Xd => P ds m Q Xd ∨ P' ds m Q Xd) := ⟨g.kp, Runs.or g.run g'.run⟩
theorem CalX.imp {B : Bx} {C : Addr} {P P' : PD} (g : CalX B C P) (h : ∀ ds m Q Xd, P' ds m Q Xd → P ds m Q Xd) : CalX B C P' := ⟨g.kp, g.run.imp h⟩
theorem calx_of {P : Program} {w : World} {K : PySem.W.Frag} {mg : Str → Option Value} {base : Heap} {B : Bx} {x : Str} {C : Addr} {qual : Str} {st : Stmt} {ps : List Str} {k k' : Nat} {dvs dv : List V} {kws : List (Str × V)} {PP : PD} (dl : List D) (g : CF P w K mg base x C qual st ps k dvs kws PP) (hr : Room k' B.X.A) (hk : k + 1 ≤ k') (h : Hs P w K mg base B)
    (hb : ∀ f fd, FunD K "__init__" qual (defArgs st) (defBody st) (defScope st) dvs kws f fd → ∃ ds, Vals dv ds ∧ Binds K fd ps ds) (hd : ∀ G, Reps K G dl dv) : CalX B C (mkP C fun ds => PP (ds ++ dl)) := by
  obtain ⟨f, fd, h1, h2, h3, h6⟩ := g.ex
  obtain ⟨ds, h4, h5⟩ := hb f fd h3
  obtain ⟨rfl, rfl, rfl, rfl, rfl⟩ := h
  exact ⟨h2.kp, runs_mk h2 h6 (hr.mono hk) h5 h4 fun G _ => hd G⟩
section
variable {B : Bx} {x y d : D} {m : Mem} {Q : D → Mem → Prop} {C : Addr} {ρ : DE} {P : PD} {a b e o : Expr} {es : List Expr} {pos p2 apos : Pos} {n : Str} {l : List D} {i : Nat}
theorem we_cmR {pl : Sem Bool} (h : WE B o ρ m fun x m1 => ∃ C P, x = .ref C ∧ CalC B C n P ∧ WA B (e :: es) ρ m1 fun ds m2 => ∃ Xd, P (.ref C :: ds) m2 Q Xd ∧ XR B ρ Xd)
    (hst : starEach (e :: es) B.X.env = (false, eval e B.X.env) :: starEach es B.X.env) (hpl : (backTo pos (starEach es B.X.env)).any (·.1) = false)
    (ht : eval (.Call (.Attribute o n apos) (e :: es) [] pos) B.X.env = (do
      let ov ← eval o B.X.env
      standAt apos.atName
      let (f, first) ← holding [ov] (getMethod ov n pl)
      callWith pos f first (backTo pos (starEach (e :: es) B.X.env)) (backToKw pos (keywordEach [] B.X.env)))) : WE B (.Call (.Attribute o n apos) (e :: es) [] pos) ρ m Q := fun G σ H s r c Q' k pins s1 I => by
  refine PySem.W.methodCall_KW (pl := pl) (thn (h G σ H s r c (fun v H1 => ∃ x m1 G1 C P, Sub G G1 ∧ Cur B.X.K G1 m1 H1 ∧ Rep B.X.K G1 x v ∧ x = .ref C ∧ CalC B C n P ∧ WA B (e :: es) ρ m1 fun ds m2 => ∃ Xd, P (.ref C :: ds) m2 Q Xd ∧ XR B ρ Xd)
    (fun v x m1 G1 H1 s1 c1 r1 ⟨C, P, q1, q4, q5⟩ => ⟨x, m1, G1, C, P, s1, c1, r1, q1, q4, q5⟩) pins s1 I) fun u s2 ⟨v, H1, I1, rv, x, m1, G1, C, P, sb1, c1, r1, q1, q4, q5⟩ => ?_) ht
  subst q1
  obtain rfl : v = .ref C := r1
  obtain rfl : u = Value.ref C := rv
  obtain ⟨f, fd, ps, kk, cm, hb, F, hr⟩ := q4.ex
  obtain ⟨p, cm2⟩ := cm.ex
  refine ClX.getmethcm_ok I1 cm.rd cm2 fun s3 I2 => ?_
  refine ClX.callwith_cm I2 (ClX.base_none I1 (Nat.le_refl _)) cm2.fi (thn (q5 G1 σ H1 (s.trans sb1) (r.sub sb1) c1 (fun vs H2 => ∃ ds m2 G2 Xd, Sub G1 G2 ∧ Cur B.X.K G2 m2 H2 ∧ Reps B.X.K G2 ds vs ∧ P (.ref C :: ds) m2 Q Xd ∧ XR B ρ Xd) (fun vs ds m2 G2 H2 s2 c2 r2 ⟨Xd, q1, q2⟩ => ⟨ds, m2, G2, Xd, s2, c2, r2, q1, q2⟩) pos _ s3 I2) fun us s4 ⟨vs, H2, I3, rvs, ds, m2, G2, Xd, sb2, c2, r2, q6, q7⟩ => ⟨⟨ClX.pin_at I3, I3.kIn⟩, ?_⟩) hst hpl
  have hx := q7 _ _ ((s.trans sb1).trans sb2) (r.sub (sb1.trans sb2))
  have sp : spD B.X.K P (.ref C :: vs) H2 Q' (xeD B.X.K G2 Xd) := ⟨G2, m2, .ref C :: ds, Q, Xd, c2, ⟨_, _, rfl, rfl, r2⟩, q6, k.sub (sb1.trans sb2), xp_xeD _ _ _⟩
  have rr : Vals (.ref C :: vs) (Value.ref C :: us) := .cons rfl rvs
  have b0 := hb s4 (.ref C :: us) I3.kIn (by have := F.len _ _ _ _ sp; have := rr.length; simp only [List.length_append, List.length_nil] at *; omega)
  rw [List.append_nil] at b0
  have z : wpAny (model B.X.prog B.X.w) B.X.A (call (.ref s2.heap.objs.size) us) (EP B.X ((s2.heap.objs.size, PySem.W.methodObj (.ref f) (.ref C)) :: pins) σ Q') B.X.xe s4 :=
    wpAny_call (PySem.W.method_call (ClX.pin_at I3) (codeAny_mono (F.run B.X.A B.X.stack s4 H2 ⟨.ref C :: us, []⟩ (.ref C :: us) (.ref C :: vs) Q' _ hr I3.env0 b0 rr sp) fun r s' hq => match r, hq with
    | .error e, hq => hx.pass _ H2 s4 e s' I3 hq
    | .ok (.ret u), hq => I3.after hq
    | .ok .next, hq => hq.elim
    | .ok .brk, hq => hq.elim
    | .ok .cont, hq => hq.elim))
  exact thn z fun _ _ y => ClX.unpinE y
theorem we_cmn {x : Str} {p0 : Pos} {pl : Sem Bool} (h0 : GCls B x C) (hc : CalC B C n P) (h : WA B (e :: es) ρ m fun ds m2 => ∃ Xd, P (.ref C :: ds) m2 Q Xd ∧ XR B ρ Xd)
    (hd : (x == ("__debug__" : Str)) = false) (hst : starEach (e :: es) B.X.env = (false, eval e B.X.env) :: starEach es B.X.env) (hpl : (backTo pos (starEach es B.X.env)).any (·.1) = false)
    (ht : eval (.Call (.Attribute (.Name x p0) n apos) (e :: es) [] pos) B.X.env = (do
      let ov ← eval (.Name x p0) B.X.env
      standAt apos.atName
      let (f, first) ← holding [ov] (getMethod ov n pl)
      callWith pos f first (backTo pos (starEach (e :: es) B.X.env)) (backToKw pos (keywordEach [] B.X.env)))) : WE B (.Call (.Attribute (.Name x p0) n apos) (e :: es) [] pos) ρ m Q :=
  we_cmR (we_cls h0 ⟨C, P, rfl, hc, h⟩ hd) hst hpl ht
theorem we_callCR {x : Str} {p : Pos} (sl : Sl B x i) (hl : lk ρ i = some (.ref C)) (g : CalX B C P) (h : WA B (e :: es) ρ m fun ds m1 => ∃ Xd, P ds m1 Q Xd ∧ XR B ρ Xd)
    (hdb : (x == ("__debug__" : Str)) = false) (hcd : (x == ("__classdict__" : Str)) = false)
    (he : starEach (e :: es) B.X.env = (false, eval e B.X.env) :: starEach es B.X.env) (hpl : (backTo pos (starEach es B.X.env)).any (·.1) = false) : WE B (.Call (.Name x p) (e :: es) [] pos) ρ m Q := fun G σ H s r cu Q' k pins s1 I => by
  obtain ⟨hk, run⟩ := g
  obtain ⟨v, hs, rv⟩ := r.at_ i _ hl
  obtain rfl : v = .ref C := rv
  refine wpAny_Call_Name_kw (thn ((pe_var (pos := p) sl.n sl.v hdb hcd).run pins s1 σ H (fun v H1 => v = .ref C ∧ H1 = H) I ⟨.ref C, hs, rfl, rfl⟩) fun u s2 ⟨v, H1, I1, r1, q1⟩ => ?_)
  obtain ⟨rfl, rfl⟩ := q1
  cases r1
  refine PySem.W.callWith_K (h₀ := B.X.base) I1.ok.mod.kin hk (thn (h G σ _ s r cu (fun vs H1 => ∃ ds m1 G1 Xd, Sub G G1 ∧ Cur B.X.K G1 m1 H1 ∧ Reps B.X.K G1 ds vs ∧ P ds m1 Q Xd ∧ XR B ρ Xd) (fun vs ds m1 G1 H1 s1 c1 r1 ⟨Xd, q1, q2⟩ => ⟨ds, m1, G1, Xd, s1, c1, r1, q1, q2⟩) pos pins s2 I1) fun us s3 ⟨vs, H2, I2, rv, ds, m2, G2, Xd, s2', c2, r2, q1, q2⟩ => ⟨I2.kIn, ?_⟩) he hpl
  exact run pins s3 σ H2 us vs ds m2 G2 Q' Q Xd I2 rv (s.trans s2') c2 r2 q1 (k.sub s2') (q2 _ _ (s.trans s2') (r.sub s2'))
theorem we_callC {x : Str} {p : Pos} (sl : Sl B x i) (hl : lk ρ i = some (.ref C)) (g : CalX B C P) (h : WA B (e :: es) ρ m fun ds m1 => ∃ Xd, P ds m1 Q Xd ∧ XOK B Xd)
    (hdb : (x == ("__debug__" : Str)) = false) (hcd : (x == ("__classdict__" : Str)) = false)
    (he : starEach (e :: es) B.X.env = (false, eval e B.X.env) :: starEach es B.X.env) (hpl : (backTo pos (starEach es B.X.env)).any (·.1) = false) : WE B (.Call (.Name x p) (e :: es) [] pos) ρ m Q :=
  we_callCR sl hl g (h.mono fun _ _ ⟨Xd, a, b⟩ => ⟨Xd, a, b.xr⟩) hdb hcd he hpl
end
theorem cutS_len {z : Str} {a b : Option Int} : (cutS z a b).length ≤ z.length := by
  unfold cutS
  show (List.toArray _).size ≤ z.length
  rw [List.size_toArray, List.length_take, List.length_drop, ← len_tl]
  omega
theorem cat_len (a b : Str) : (a ++ b).length = a.length + b.length := Array.size_append
theorem sgn_len {c : Nat} : ((⟨#[c]⟩ : Str)).length = 1 := rfl
theorem atI_sgn {z : Str} {i : Int} (h0 : 0 ≤ i) (h1 : i < z.length) : ∃ c, atI z.cps.toList i = some c := by
  have hj : i.toNat < z.cps.toList.length := by rw [len_tl]; omega
  refine ⟨z.cps.toList[i.toNat], ?_⟩
  unfold atI ixN
  rw [if_pos (by omega), if_pos (by omega)]
  exact List.getElem?_eq_getElem hj
theorem num_fit {n : Nat} (h : n < 10 ^ 500) : ((n : Nat) : Int).natAbs.log2 < 1920 := by
  have e : (10 : Nat) ^ 500 ≤ 2 ^ 1920 := by decide +kernel
  rcases Nat.eq_zero_or_pos n with z | z
  · subst z; decide
  · exact (Nat.log2_lt (by show n ≠ 0; omega)).mpr (by show n < 2 ^ 1920; omega)
theorem str_num (n : Nat) : (Str.ofString (toString ((n : Nat) : Int))) = ⟨(TL.numL n).toArray⟩ := TL.ext_tl (TL.tl_num n)
theorem str_len (n : Nat) (h : n < 10 ^ 500) : ((⟨(TL.numL n).toArray⟩ : Str)).length ≤ 500 := by
  have z1 := TL.numL_len (n := n) (k := 500) (by decide) h
  show (List.toArray _).size ≤ 500
  rw [List.size_toArray]; exact z1
def wrdG (s r : Nat) : Str := ⟨(wordN s r).toArray⟩
theorem wrdG0 {s : Nat} : wrdG s 0 = ⟨(TL.numL s).toArray⟩ := by unfold wrdG wordN; rw [if_pos rfl]
theorem wrdG1 {s r : Nat} (h : r ≠ 0) : (⟨(TL.numL s).toArray⟩ : Str) ++ ("+" : Str) ++ (⟨(TL.numL r).toArray⟩ : Str) = wrdG s r := by
  unfold wrdG wordN
  rw [if_neg h]
  refine TL.ext_tl ?_
  show ((TL.numL s).toArray ++ (("+" : Str)).cps ++ (TL.numL r).toArray).toList = (TL.numL s ++ 43 :: TL.numL r).toArray.toList
  rw [show (("+" : Str)).cps = #[43] by decide +kernel]
  simp
theorem wrdG_len {s r : Nat} (h1 : s < 10 ^ 500) (h2 : r < 10 ^ 500) : (wrdG s r).length ≤ 1001 := by
  have z1 := str_len s h1
  have z2 := str_len r h2
  by_cases h : r = 0
  · subst h; rw [wrdG0]; omega
  · rw [← wrdG1 h, cat_len, cat_len, show (("+" : Str)).length = 1 by decide +kernel]; omega
end Pd
namespace PdErr
open PySem PySem.W PySem.Calls PyProof.Rows PySem.HandSPX L2
structure SupS (N ps : List Str) (sc : Scope) : Prop where
  kind : sc.kind = .function
  co : sc.isCoroutine = false
  gen : sc.isGenerator = false
  nd : N.Nodup
  pre : N.take ps.length = ps
  par : ∀ x ∈ ps, sc.names.lookup x = some .local
  nocell : ∀ x ∈ sc.names, x.2 ≠ .cell
  free : ∀ y ∈ sc.names, y.2 = .free → y.1 = ("__class__" : Str)
  ks : sc.names.lookup ("super" : Str) = some .globalImplicit
  kc : sc.names.lookup ("__class__" : Str) = some .free
  hd : ∃ r, ps = ("self" : Str) :: r
theorem inv_startS {CX : CXT} {P : Program} {w : World} {K : Frag} {mg : Str → Option Value} {base : Heap} {N ps : List Str} {qual : Str} {scope : Scope} {f cc C : Addr} {cd : Value} {A : Around} {outer : List Env} {s : Shared} {h1 : Heap} {tk : Nat} {H : Hp} {E : XK} {us : List Value} {vs : List V}
    (S : SupS N ps scope) (T : ∃ cl cld csl, K.lookup cc = some ⟨cl, cld, .cell (some (.ref C)), csl⟩) (hd : A.handled = none) (e0 : Env0 P w K mg base A outer s H) (hl : vs.length = ps.length) (r : Vals vs us)
    (hn : h1.Ns s.heap.objs.size (fun x => (ps.zip us).reverse.lookup x)) (hk : ∀ b o, s.heap.get? b = some o → h1.get? b = some o) :
    Inv (cxE CX P w K mg base N qual scope f cd cc A outer s H E) [] (L2.start N vs) H { s with heap := h1, toks := tk } := by
  have hpl : ps.length ≤ N.length := by have := congrArg List.length S.pre; rw [List.length_take] at this; omega
  have noA : ∀ b : Addr, b ∉ (cxE CX P w K mg base N qual scope f cd cc A outer s H E).ex := fun b z => absurd (show b ∈ ([] : List Addr) from z) (by simp)
  obtain ⟨cl, cld, csl, hcell⟩ := T
  have hb : base.get? cc = some ⟨cl, cld, .cell (some (.ref C)), csl⟩ := e0.mod.kin _ _ hcell
  have one : ∀ {x : Str} {c : Addr}, (cxE CX P w K mg base N qual scope f cd cc A outer s H E).env.cells.lookup x = some c → x = ("__class__" : Str) ∧ c = cc := fun {x c} h => by
    have h' : List.lookup x [(("__class__" : Str), cc)] = some c := h
    unfold List.lookup at h'
    split at h'
    · rename_i e; cases h'; exact ⟨by simpa using e, rfl⟩
    · cases h'
  refine ⟨⟨e0.mod, S.kind, rfl, rfl, Nat.le_refl _, fun y z c h1 h2 => (one h1).1.trans (one h2).1.symm, fun y hy => ?_, fun y c z _ => absurd (show false = true from z) Bool.false_ne_true, fun _ => hd, Around.frames_deeper e0.frames, .inr ⟨rfl, rfl⟩, fun b z => absurd z (noA b), e0.bs, e0.bsz, fun b _ _ => noA b, fun b z => absurd z (noA b), e0.funs, e0.frf⟩,
    rfl, e0.bare, Un.kept hk, ⟨_, hn, fun i y v h1 h2 h3 => ?_⟩, fun y c h => ?_, e0.hok.fresh (Nat.le_refl _), fun y c h => ?_, fun p hp => absurd (show p ∈ ([] : List (Addr × Obj)) from hp) (by simp), e0.hok.kept hk, ?_⟩
  · have hy : scope.names.lookup y = some .cell ∨ scope.names.lookup y = some .free := hy
    rcases hy with hy | hy
    · exact absurd rfl (S.nocell _ (PySem.mem_of_lookup hy))
    · have e := S.free _ (PySem.mem_of_lookup hy) rfl
      have e : y = ("__class__" : Str) := e
      subst e
      exact ⟨cc, by show List.lookup ("__class__" : Str) [(("__class__" : Str), cc)] = some cc; simp [List.lookup]⟩
  · have h2 : (L2.start N vs)[i]? = some (some v) := h2
    have h1 : N[i]? = some y := h1
    have hi : i < vs.length := by
      unfold L2.start at h2
      by_cases hi : i < vs.length
      · exact hi
      · rw [List.getElem?_append_right (by simpa using hi)] at h2
        rw [List.getElem?_replicate] at h2
        split at h2 <;> cases h2
    have ha : vs[i]? = some v := by
      unfold L2.start at h2
      rw [List.getElem?_append_left (by simpa using hi), List.getElem?_map] at h2
      cases e : vs[i]? with
      | none => rw [e] at h2; cases h2
      | some a => rw [e] at h2; cases h2; rfl
    obtain ⟨u, hu, rv⟩ := r.get ha
    have hp : ps[i]? = some y := by
      rw [← S.pre, List.getElem?_take_of_lt (by omega)]; exact h1
    have ndP : ps.Nodup := by rw [← S.pre]; exact S.nd.sublist (List.take_sublist _ _)
    refine ⟨u, rv, .inl ⟨S.par y (List.mem_of_getElem? hp), ?_⟩⟩
    have hlen : us.length = ps.length := by rw [← r.length]; exact hl
    refine lookup_nd ?_ (List.mem_reverse.mpr (zip_mem hp hu))
    rw [List.map_reverse, zip_keys hlen]
    exact List.pairwise_reverse.mpr (ndP.imp fun h => Ne.symm h)
  · obtain ⟨_, rfl⟩ := one h
    exact ⟨_, _, hk _ _ (e0.bs _ _ hb).1, rfl⟩
  · obtain ⟨_, rfl⟩ := one h
    exact (e0.bs _ _ hb).2
  · unfold L2.start
    show _ = N.length
    rw [List.length_append, List.length_map, List.length_replicate]
    omega
structure SupK (P : Program) (K : Frag) (mg : Str → Option Value) (f cda cc C D f2 : Addr) (name : Str) (fd : FuncData) : Prop where
  lk : ∃ oc od osl, K.lookup f = some ⟨oc, od, .func fd, osl⟩
  code : ∃ ccl cdd vs0 ccs file tf, K.lookup cda = some ⟨ccl, cdd, .fields vs0, ccs⟩ ∧ vs0[2]? = some (.str file tf) ∧ ((P.main.file : Str) == file) = true
  top : (P.main.scope.names.lookup ("super" : Str)).isSome = false
  mgs : mg "super" = none
  cell : ∃ cl cld csl, K.lookup cc = some ⟨cl, cld, .cell (some (.ref D)), csl⟩
  isc : (clsIn K D).isSome = true
  me : mroIn K C (.ref D) = some true
  sup : ks_superIn K C D name = some (some (.ref f2))
  fty : typeIn K (.ref f2) = some (.type "function")
  fin : fnIn K f2 = true
  tp : nsIn K cStatics "thirdparty.any" = some none
  ncl : (name == ("__class__" : Str)) = false
  ar : ∃ ar, (fd.params.posonlyargs ++ fd.params.args).head? = some ar ∧ ar.arg = ("self" : Str)
section
variable {CX : CXT} {P : Program} {w : World} {K : Frag} {mg : Str → Option Value} {base : Heap} {N ps : List Str} {x qual name : Str} {params : Arguments} {bd : List Stmt} {sc : Scope} {dV kV doc pm ct : Value} {an : Option Addr} {f cda cc C D f2 : Addr} {A : Around} {outer : List Env} {s0 : Shared} {H0 : Hp} {E0 : XK}
theorem sup_eval {X : Cx} (hX : X = cxE CX P w K mg base N qual sc f (.ref cda) cc A outer s0 H0 E0) (S : SupS N ps sc) (T : SupK P K mg f cda cc C D f2 name (ksFn x qual params bd sc dV kV doc pm an (.ref cda) ct cc))
    {σ : L2.St} {H : Hp} {s : Shared} {xa dx : Addr} {fs : List (Str × V)} {body : List Stmt} {args : List Expr} {p0 p1 p2 p4 : Pos} {pl : Sem Bool} {Q : Value → Shared → Prop} (I : Inv X [] σ H s) (hs : σ[0]? = some (some (.ref xa))) (hx : H xa = some (.ins C dx fs))
    (h : ∀ q s1, Inv X [(q, methodObj (.ref f2) (.ref xa))] σ H s1 → X.base.get? q = none → wpAny (model P w) X.A (callWith p4 (.ref q) [] (backTo p4 (starEach args X.env)) []) Q X.xe s1)
    (hcall : eval (.Call (.Attribute (.Call (.Name "super" p0) [] [] p1) name p2) args [] p4) X.env = (do
      let ov ← attributeBase (.Call (.Name "super" p0) [] [] p1) name X.env (eval (.Call (.Name "super" p0) [] [] p1) X.env)
      standAt p2.atName
      let (f, first) ← holding [ov] (getMethod ov name pl)
      callWith p4 f first (backTo p4 (starEach args X.env)) [])) :
    PySem.wpAt (model P w) X.A (.func body X.env) (eval (.Call (.Attribute (.Call (.Name "super" p0) [] [] p1) name p2) args [] p4) X.env) Q X.xe s := by
  obtain ⟨oc, od, osl, lk⟩ := T.lk
  obtain ⟨ccl, cdd, vs0, ccs, file, tf, hcode, hvs, hfile⟩ := T.code
  obtain ⟨cl, cld, csl, hcell⟩ := T.cell
  obtain ⟨ar, har, hself⟩ := T.ar
  have eK : X.K = K := by rw [hX]; rfl
  have eE : X.env = ksEnv qual sc s0.heap.objs.size f (.ref cda) cc := by rw [hX]; rfl
  have eP : X.prog = P := by rw [hX]; rfl
  have eW : X.w = w := by rw [hX]; rfl
  have eN : X.N = N := by rw [hX]; rfl
  have eM : X.mg = mg := by rw [hX]; rfl
  have eL : X.env.locals = s0.heap.objs.size := by rw [hX]; rfl
  have eB : (X.env.scope) = sc := by rw [hX]; rfl
  have Xk : K.In s.heap := by rw [← eK]; exact I.kIn
  obtain ⟨rr, hps⟩ := S.hd
  have hN0 : X.N[0]? = some ("self" : Str) := by
    rw [eN]
    have e1 : ps[0]? = some ("self" : Str) := by rw [hps]; rfl
    rw [← S.pre, List.getElem?_take_of_lt (by rw [hps]; simp)] at e1
    exact e1
  have hlself : sc.names.lookup ("self" : Str) = some .local := S.par _ (by rw [hps]; exact List.mem_cons_self)
  obtain ⟨m0, hns0, look0⟩ := I.loc
  obtain ⟨us0, ru0, lk0⟩ := look0 0 _ _ hN0 hs (.inl (by rw [eB]; exact hlself))
  obtain rfl : us0 = Value.ref xa := ru0
  have hm0 : m0 "self" = some (.ref xa) := by
    rcases lk0 with ⟨_, z⟩ | ⟨k, c, z, _⟩
    · exact z
    · have k' : X.env.scope.names.lookup ("self" : Str) = some .cell ∨ X.env.scope.names.lookup ("self" : Str) = some .free := k
      rw [eB, hlself] at k'
      rcases k' with k' | k' <;> cases k'
  obtain ⟨mb, hmb1, hmb2⟩ := I.mod.blt
  obtain ⟨mA, J, _⟩ := ins_get I.hok hx
  obtain ⟨odx, J, _⟩ := J.look
  obtain ⟨cdD, hcD⟩ := Option.isSome_iff_exists.mp T.isc
  obtain ⟨oD, hD1, hD2⟩ : ∃ oD, s.heap.get? D = some oD ∧ oD.data = .cls cdD := by
    unfold clsIn at hcD
    split at hcD
    · rename_i c d cd' sl ho
      cases hcD
      exact ⟨_, Xk _ _ ho, rfl⟩
    · cases hcD
  have sup := T.sup
  unfold ks_superIn at sup
  obtain ⟨cdC, hcC⟩ : ∃ cd, clsIn K C = some cd := by
    cases e : clsIn K C with
    | none => rw [e] at sup; cases sup
    | some cd => exact ⟨cd, rfl⟩
  rw [hcC] at sup
  have hks : X.env.kindOf "super" = some .globalImplicit := by show X.env.scope.names.lookup ("super" : Str) = _; rw [eB]; exact S.ks
  have hkc : X.env.kindOf "__class__" = some .free := by show X.env.scope.names.lookup ("__class__" : Str) = _; rw [eB]; exact S.kc
  have hkind : X.env.scope.kind = .function := by rw [eB]; exact S.kind
  obtain ⟨ofn, hofn, hofc⟩ : ∃ of, K.lookup f2 = some of ∧ of.cls = .type "function" := by
    have ht' : (K.lookup f2).map (·.cls) = some (.type "function") := T.fty
    cases z : K.lookup f2 with
    | none => rw [z] at ht'; cases ht'
    | some of => rw [z] at ht'; exact ⟨of, rfl, Option.some.inj ht'⟩
  refine ks_wpAt_MethodCall (pl := pl) ?_ hcall
  refine ks_wpAt_super_base (prog := P) (w := w) (A := X.A) (E := X.xe) (s := s) (env := X.env) (body := body) (p0 := p0) (p1 := p1) (attr := name) (whole := eval (.Call (.Name "super" p0) [] [] p1) X.env) (Q := fun ov s₁ => wpAny (model P w) X.A (getMethod ov name pl) (fun fx s₂ => wpAny (model P w) X.A (callWith p4 fx.1 fx.2 (backTo p4 (starEach args X.env)) []) Q X.xe s₂) X.xe s₁)
    (f := f) (cc := cda) (fd := ksFn x qual params bd sc dV kV doc pm an (.ref cda) ct cc) (ar := ar) hks hkc T.ncl (by rw [eE]) (Xk _ _ lk) rfl har (by rw [eE]) (Xk _ _ hcode) rfl hvs hfile T.top ?_
  refine ks_loadName_global hkind hks (loadGlobal_builtin (env := X.env) (by rw [show X.env.globals = mainGlobals from I.ok.glob]; exact I.mod.glob.keeps I.bk) (by rw [eM]; exact T.mgs) (by rw [show X.env.builtins = builtinsNs from I.ok.blt]; exact hmb1.keeps I.bk) ((hmb2 _ (by decide)).trans (show bootBuiltins "super" = some (.type "super") by decide +kernel)) ⟨rfl, ?_⟩)
  refine wpAny_loadName_free hkind hkc (by rw [eE]; rfl) ⟨_, Xk _ _ hcell, rfl⟩ ?_
  rw [hself]
  refine wpAny_loadName_local hkind (by show X.env.scope.names.lookup ("self" : Str) = _; rw [eB]; exact hlself) hns0 hm0 ?_
  refine ks_wpAny_isType_cls hD1 hD2 ⟨rfl, ?_⟩
  refine ks_wpAny_call_super hD1 hD2 J.at_ J.cls (fun c e => ?_) (looks_mroIn Xk T.me) (fun h2 e2 kp2 => ?_)
  · have := J.no
    unfold notCls at this
    rw [e] at this
    exact Bool.noConfusion this
  have X2 : K.In h2 := Xk.keeps kp2
  refine ks_wpAny_getMethod_super e2 (looks_opaque X2 T.tp) (l₀ := cdC.mro) (fun A Q E s k q => wpAny_bind ((looks_clsIn X2 hcC) A _ E s k (wpAny_pure q))) rfl X2 sup (X2 _ _ hofn) hofc (ks_ne Xk J hcC) T.ncl ?_
  dsimp only
  have kp3 : ∀ b o, s.heap.get? b = some o → (h2.push (methodObj (.ref f2) (.ref xa))).get? b = some o := fun b o z => Heap.get?_push_of_some _ (kp2 b o z)
  have hu : (h2.push (methodObj (.ref f2) (.ref xa))).get? h2.objs.size = some (methodObj (.ref f2) (.ref xa)) := Heap.get?_push_at rfl rfl
  have nH : s.heap.objs.size ≤ h2.objs.size := Nat.le_of_lt (Heap.lt_size e2)
  have I4 : Inv X [(h2.objs.size, methodObj (.ref f2) (.ref xa))] σ H { s with heap := h2.push (methodObj (.ref f2) (.ref xa)), toks := s.toks + 1 } := ClX.pin_new I kp3 nH hu (fun v z => nomatch z)
  exact h _ _ I4 (ClX.base_none I nH)
end
end PdErr
namespace Pd
open PySem PySem.Spec PyProof.Rows L2 PdErr
section
variable {P : Program} {w : World} {K : PySem.W.Frag} {mg : Str → Option Value} {base : Heap} {N ps : List Str} {x qual name : Str} {params : Arguments} {sc : Scope} {dV kV doc pm ct : Value} {an : Option Addr} {f cda cc C DC f2 : Addr}
theorem sup_data {bd : List Stmt} {A : Around} {outer : List Env} {s0 : Shared} {H0 : Hp} {E0 : XK} {B : Bx} (hX : B.X = cxE (L2.CX P w) P w K mg base N qual sc f (.ref cda) cc A outer s0 H0 E0) (S : SupS N ps sc) (T : SupK P K mg f cda cc C DC f2 name (PySem.W.ksFn x qual params bd sc dV kV doc pm an (.ref cda) ct cc))
    {k2 : Nat} {fd2 : FuncData} {ps2 : List Str} {P2 : PD} (F2 : FnOk P w K mg base (L2.CX P w) k2 f2 fd2 ps2 (spD K P2)) (hb2 : Binds K fd2 ps2 []) (hr : Room k2 B.X.A)
    {args : List Expr} {ρ : DE} {m : Mem} {d0 : D} {fl : List (Str × D)} {Q : D → Mem → Prop} (h0 : lk ρ 0 = some d0) (hi : InsOf d0 m C fl)
    {body : List Stmt} {p0 p1 p2 p4 : Pos} {pl : Sem Bool}
    (ha : (args = [] ∧ ∃ Xd2, P2 [d0] m Q Xd2 ∧ XOK B Xd2) ∨ ∃ e es, args = e :: es ∧ starEach (e :: es) B.X.env = (false, eval e B.X.env) :: starEach es B.X.env ∧ (backTo p4 (starEach es B.X.env)).any (·.1) = false ∧
      WA B (e :: es) ρ m fun as m2 => ∃ Xd2, P2 (d0 :: as) m2 Q Xd2 ∧ XOK B Xd2)
    (hcall : eval (.Call (.Attribute (.Call (.Name "super" p0) [] [] p1) name p2) args [] p4) B.X.env = (do
      let ov ← attributeBase (.Call (.Name "super" p0) [] [] p1) name B.X.env (eval (.Call (.Name "super" p0) [] [] p1) B.X.env)
      standAt p2.atName
      let (f, first) ← holding [ov] (getMethod ov name pl)
      callWith p4 f first (backTo p4 (starEach args B.X.env)) []))
    {G : Hp} {σ : L2.St} {H : Hp} (s : Sub B.G0 G) (r : RepE B.X.K B.X.N.length G σ ρ) (c : Cur B.X.K G m H) {Q' : VK} (k : VP B.X.K G Q Q') {sh : Shared} (I : Inv B.X [] σ H sh) :
    PySem.wpAt (model P w) B.X.A (.func body B.X.env) (eval (.Call (.Attribute (.Call (.Name "super" p0) [] [] p1) name p2) args [] p4) B.X.env) (EP B.X [] σ Q') B.X.xe sh := by
  obtain ⟨v0, hs0, r0⟩ := r.at_ 0 d0 h0
  obtain ⟨xa, dx, fs, rfl, hx, rf⟩ := insof_get hi c r0
  have eK : B.X.K = K := by rw [hX]; rfl
  have eP : B.X.prog = P := by rw [hX]; rfl
  have eW : B.X.w = w := by rw [hX]; rfl
  have eM : B.X.mg = mg := by rw [hX]; rfl
  have eB : B.X.base = base := by rw [hX]; rfl
  refine sup_eval hX S T I hs0 hx (fun q s1 I1 hq => ?_) hcall
  subst eK eP eW eM eB
  have fin : ∀ (us : List Value) (vs : List V) (as : List D) (m2 : Mem) (G2 : Hp) (H2 : Hp) (s3 : Shared) (Xd2 : XD), Inv B.X [(q, PySem.W.methodObj (.ref f2) (.ref xa))] σ H2 s3 → Vals vs us → Sub G G2 → Cur B.X.K G2 m2 H2 → Reps B.X.K G2 as vs → P2 (d0 :: as) m2 Q Xd2 → XOK B Xd2 →
      wpAny (model B.X.prog B.X.w) B.X.A (call (.ref q) us) (EP B.X [] σ Q') B.X.xe s3 := fun us vs as m2 G2 H2 s3 Xd2 I3 rv sb c2 r2 q1 q2 => by
    have hx := (q2.xo (s.trans sb)).pass (σ := σ)
    have sp : spD B.X.K P2 (.ref xa :: vs) H2 Q' (xeD B.X.K G2 Xd2) := ⟨G2, m2, d0 :: as, Q, Xd2, c2, ⟨_, _, rfl, Rep.sub sb _ _ r0, r2⟩, q1, k.sub sb, xp_xeD _ _ _⟩
    have rr : Vals (.ref xa :: vs) (Value.ref xa :: us) := .cons rfl rv
    have b0 := hb2 s3 (.ref xa :: us) I3.kIn (by have := F2.len _ _ _ _ sp; have := rr.length; simp only [List.length_append, List.length_nil] at *; omega)
    rw [List.append_nil] at b0
    have z : wpAny (model B.X.prog B.X.w) B.X.A (call (.ref q) us) (EP B.X [(q, PySem.W.methodObj (.ref f2) (.ref xa))] σ Q') B.X.xe s3 :=
      wpAny_call (PySem.W.method_call (ClX.pin_at I3) (codeAny_mono (F2.run B.X.A B.X.stack s3 H2 ⟨.ref xa :: us, []⟩ (.ref xa :: us) (.ref xa :: vs) Q' _ hr I3.env0 b0 rr sp) fun r s' hq => match r, hq with
      | .error e, hq => hx _ H2 s3 e s' I3 hq
      | .ok (.ret u), hq => I3.after hq
      | .ok .next, hq => hq.elim
      | .ok .brk, hq => hq.elim
      | .ok .cont, hq => hq.elim))
    exact thn z fun _ _ y => ClX.unpinE y
  rcases ha with ⟨rfl, Xd2, q1, q2⟩ | ⟨e, es, rfl, hst, hpl, hA⟩
  · refine PySem.W.callWith_M0 (K := B.X.K) ⟨ClX.pin_at I1, I1.kIn⟩ T.fin ?_
    exact fin [] [] [] m G H s1 Xd2 I1 .nil (Sub.refl G) c rfl q1 q2
  · have hA := hA G σ H s r c (fun vs H2 => ∃ as m2 G2 Xd2, Sub G G2 ∧ Cur B.X.K G2 m2 H2 ∧ Reps B.X.K G2 as vs ∧ P2 (d0 :: as) m2 Q Xd2 ∧ XOK B Xd2) (fun vs ds m2 G2 H2 s2 c2 r2 ⟨Xd, q1, q2⟩ => ⟨ds, m2, G2, Xd, s2, c2, r2, q1, q2⟩)
    refine ClX.callwith_cm I1 hq T.fin (thn (hA p4 _ s1 I1) fun us s3 ⟨vs, H2, I3, rv, as, m2, G2, Xd2, sb, c2, r2, q1, q2⟩ => ⟨⟨ClX.pin_at I3, I3.kIn⟩, ?_⟩) hst hpl
    exact fin us vs as m2 G2 H2 s3 Xd2 I3 rv sb c2 r2 q1 q2
def SupAsk (B : Bx) (C : Addr) (P2 : PD) (args : List Expr) (p4 : Pos) (ρ : DE) (m : Mem) (Q : D → Mem → Prop) : Prop :=
  ∃ d0 fl, lk ρ 0 = some d0 ∧ InsOf d0 m C fl ∧ ((args = [] ∧ ∃ Xd2, P2 [d0] m Q Xd2 ∧ XOK B Xd2) ∨ ∃ e es, args = e :: es ∧ starEach (e :: es) B.X.env = (false, eval e B.X.env) :: starEach es B.X.env ∧ (backTo p4 (starEach es B.X.env)).any (·.1) = false ∧
      WA B (e :: es) ρ m fun as m2 => ∃ Xd2, P2 (d0 :: as) m2 Q Xd2 ∧ XOK B Xd2)
section
variable {rest : List Stmt} {args : List Expr} {p0 p1 p2 p4 p5 p6 : Pos} {k k2 : Nat} {fd2 : FuncData} {ps2 : List Str} {P2 PP : PD}
theorem sup_core {st : Stmt} {cont : (B : Bx) → List D → (D → Mem → Prop) → D → Mem → Prop} (Sto : Bx → Value → (Shared → Prop) → Shared → Prop) (hSto : ∀ B u R R' s, Sto B u R s → (∀ s, R s → R' s) → Sto B u R' s) (S : SupS N ps sc) (T : SupK P K mg f cda cc C DC f2 name (PySem.W.ksFn x qual params (st :: rest) sc dV kV doc pm an (.ref cda) ct cc)) (hcd : PySem.W.codeIn K (.ref cda) qual = true)
    (F2 : FnOk P w K mg base (L2.CX P w) k2 f2 fd2 ps2 (spD K P2)) (hb2 : Binds K fd2 ps2 []) (hk2 : k2 ≤ k) (len : ∀ ds m Q Xd, PP ds m Q Xd → ds.length = ps.length)
    (hst : ∀ (B : Bx) (A : Around) (outer : List Env) (s : Shared) (H : Hp) (E : XK), B.X = cxE (L2.CX P w) P w K mg base N qual sc f (.ref cda) cc A outer s H E → ∀ (σ : L2.St) (sh : Shared) (Q0 : Flow → Shared → Prop) (Q1 : Value → Shared → Prop),
      PySem.wpAt (model P w) B.X.A (.func (st :: rest) B.X.env) (eval (.Call (.Attribute (.Call (.Name "super" p0) [] [] p1) name p2) args [] p4) B.X.env) Q1 B.X.xe sh →
      (∀ u s', Q1 u s' → Sto B u (Q0 .next) s') →
      PySem.wpAt (model P w) B.X.A (.func (st :: rest) B.X.env) (exec st B.X.env) Q0 B.X.xe sh)
    (hcont : ∀ (B : Bx) (A : Around) (outer : List Env) (s : Shared) (H : Hp) (E : XK), B.X = cxE (L2.CX P w) P w K mg base N qual sc f (.ref cda) cc A outer s H E → Bok B → ∀ (ds : List D) (Q : D → Mem → Prop) (σ : L2.St) (G : Hp) (H3 : Hp) (s' : Shared) (u : Value) (v : V) (d : D) (m3 : Mem) (De : Ends), Sub B.G0 G → RepE B.X.K B.X.N.length G σ (startD 0 ds) → Cur B.X.K G m3 H3 → Rep B.X.K G d v → Inv B.X [] σ H3 s' → RelV v u → cont B ds Q d m3 →
      FP B.X.K B.X.N.length G { nx := fun _ m' => Q .non m', rt := Q } De →
      Sto B u (fun s2 => wpAny (model P w) B.X.A (execs rest B.X.env) (SP B.X [] De) B.X.xe s2) s')
    (hcall : ∀ (L : Addr), ∃ pl : Sem Bool, eval (.Call (.Attribute (.Call (.Name "super" p0) [] [] p1) name p2) args [] p4) (PySem.W.ksEnv qual sc L f (.ref cda) cc) = (do
      let ov ← attributeBase (.Call (.Name "super" p0) [] [] p1) name (PySem.W.ksEnv qual sc L f (.ref cda) cc) (eval (.Call (.Name "super" p0) [] [] p1) (PySem.W.ksEnv qual sc L f (.ref cda) cc))
      standAt p2.atName
      let (fn, first) ← holding [ov] (getMethod ov name pl)
      callWith p4 fn first (backTo p4 (starEach args (PySem.W.ksEnv qual sc L f (.ref cda) cc))) []))
    (hbody : ∀ (B : Bx) (A : Around) (outer : List Env) (s : Shared) (H : Hp) (E : XK), B.X = cxE (L2.CX P w) P w K mg base N qual sc f (.ref cda) cc A outer s H E → Room k B.X.A → Bok B → ∀ ds m Q Xd, PP ds m Q Xd → XOK B Xd →
      SupAsk B C P2 args p4 (startD 0 ds) m (cont B ds Q)) :
    FnOk P w K mg base (L2.CX P w) (k + 1) f (PySem.W.ksFn x qual params (st :: rest) sc dV kV doc pm an (.ref cda) ct cc) ps (spD K PP) := by
  refine ⟨fun vs H Q E ⟨G, m, ds, Qd, Xd, _, rd, hp, _⟩ => by rw [reps_len rd]; exact len _ _ _ _ hp, fun A outer s H args' us vs Q E hr e0 hb r hsp => ?_⟩
  obtain ⟨G, m, ds, Qd, Xd, c, rd, hp, kq, kx⟩ := hsp
  have hl : vs.length = ps.length := by rw [reps_len rd]; exact len _ _ _ _ hp
  have KX : K.In s.heap := e0.mod.kin.keeps fun b o e => (e0.bs b o e).1
  have lim : s.heap.NoLimit := e0.mod.nolimit.keeps fun b o e => (e0.bs b o e).1
  obtain ⟨oc, od, osl, lk⟩ := T.lk
  refine PySem.ks_codeAny_call_defAt (binds := ps.zip us) hr.depth (KX _ _ lk) rfl lim (PySem.W.codeRec_of KX hcd) rfl hb S.nocell (fun y hy => S.par _ (List.of_mem_zip hy).1) (fun h₁ hns hk => ?_) S.co S.gen S.kind
  have I0 := inv_startS (CX := L2.CX P w) (E := E) (qual := qual) (f := f) (cd := .ref cda) (tk := s.toks + (ps.zip us).length) (N := N) S T.cell hr.hd e0 hl r hns hk
  let B : Bx := ⟨cxE (L2.CX P w) P w K mg base N qual sc f (.ref cda) cc A outer s H E, G⟩
  have I : Inv B.X [] (L2.start N vs) H { s with heap := h₁, toks := s.toks + (ps.zip us).length } := I0
  have hbok : Bok B := ⟨S.nd, rfl, passes_of rfl⟩
  have hpl : ps.length ≤ N.length := by have := congrArg List.length S.pre; rw [List.length_take] at this; omega
  have hrep : RepE B.X.K B.X.N.length G (L2.start N vs) (startD 0 ds) := repe_start rd (by have := len _ _ _ _ hp; show ds.length ≤ N.length; omega)
  have hroom : Room k B.X.A := hr.deeper _
  have hxo : XOK B Xd := ⟨fun cls d _ H => E cls d H, takes_of rfl rfl rfl rfl, fun C d l m' G' H' σ h1 h2 h3 h4 => kx C d l m' G' H' h1 h2 h3 h4⟩
  obtain ⟨d0, fl, h0, hi, ha⟩ := hbody B A outer s H E rfl hroom hbok ds m Qd Xd hp hxo
  have hkn : ∃ De : Ends, De = { nx := fun _ H' => Q .non H', rt := Q } := ⟨_, rfl⟩
  obtain ⟨De, hDe⟩ := hkn
  have hFP : FP B.X.K B.X.N.length G { nx := fun _ m' => Qd .non m', rt := Qd } De := by
    subst hDe
    exact ⟨fun σ' ρ' m' G' H' s' r' c' q => kq .non .non m' G' H' s' c' rfl q, kq, fun σ' ρ' m' G' H' s' r' c' q => q.elim, fun σ' ρ' m' G' H' s' r' c' q => q.elim⟩
  have fin : ∀ {σ' : L2.St} {H' : Hp} {s' : Shared} {v : V} {u : Value}, Inv B.X [] σ' H' s' → RelV v u → Q v H' → CE outer P w H s Q u s' :=
    fun {σ' H' s' v u} J rv q => ⟨v, H', J.os, J.bare, J.base, J.hok, rv, q⟩
  obtain ⟨pl, hcl⟩ := hcall s.heap.objs.size
  show PySem.wpAt (model P w) B.X.A (.func (st :: rest) B.X.env) (execs (st :: rest) B.X.env) _ B.X.xe _
  refine PySem.ks_wpAt_execs_cons (hst B A outer s H E rfl (L2.start N vs) _ _ _ (sup_data (B := B) rfl S T F2 hb2 (hroom.mono hk2) h0 hi (Q := cont B ds Qd) ha hcl (Sub.refl G) hrep c (Q' := fun v H3 => ∃ d m3 G3, Sub G G3 ∧ Cur B.X.K G3 m3 H3 ∧ Rep B.X.K G3 d v ∧ cont B ds Qd d m3) (fun v d m3 G3 H3 s3 c3 r3 q => ⟨d, m3, G3, s3, c3, r3, q⟩) I) fun u s' ⟨v, H3, I3, rv, d, m3, G3, s3, c3, r3, q⟩ => ?_)
  refine hSto _ _ _ _ _ (hcont B A outer s H E rfl hbok ds Qd (L2.start N vs) G3 H3 s' u v d m3 De s3 (hrep.sub s3) c3 r3 I3 rv q (hFP.sub s3)) (fun s2 h2 => ?_)
  refine PySem.wpAt_of_wpAny (wpAny_mono h2 (fun fl s'' hs => ?_) fun e s' hs => hs)
  subst hDe
  cases fl with
  | ret u =>
    obtain ⟨v, σ', H', J, rv, q⟩ := hs
    exact fin J rv q
  | next =>
    obtain ⟨σ', H', J, q⟩ := hs
    exact fin (v := V.non) (u := Value.none) J rfl q
  | brk =>
    obtain ⟨_, _, _, q⟩ := hs
    exact False.elim q
  | cont =>
    obtain ⟨_, _, _, q⟩ := hs
    exact False.elim q
theorem sup_fnE (S : SupS N ps sc) (T : SupK P K mg f cda cc C DC f2 name (PySem.W.ksFn x qual params (.Expr (.Call (.Attribute (.Call (.Name "super" p0) [] [] p1) name p2) args [] p4) p5 :: rest) sc dV kV doc pm an (.ref cda) ct cc)) (hcd : PySem.W.codeIn K (.ref cda) qual = true)
    (F2 : FnOk P w K mg base (L2.CX P w) k2 f2 fd2 ps2 (spD K P2)) (hb2 : Binds K fd2 ps2 []) (hk2 : k2 ≤ k) (len : ∀ ds m Q Xd, PP ds m Q Xd → ds.length = ps.length)
    (hsw : ∀ (L : Addr), swapsWith (.Call (.Attribute (.Call (.Name "super" p0) [] [] p1) name p2) args [] p4) none p5.line (PySem.W.ksEnv qual sc L f (.ref cda) cc) = pure false)
    (hcall : ∀ (L : Addr), ∃ pl : Sem Bool, eval (.Call (.Attribute (.Call (.Name "super" p0) [] [] p1) name p2) args [] p4) (PySem.W.ksEnv qual sc L f (.ref cda) cc) = (do
      let ov ← attributeBase (.Call (.Name "super" p0) [] [] p1) name (PySem.W.ksEnv qual sc L f (.ref cda) cc) (eval (.Call (.Name "super" p0) [] [] p1) (PySem.W.ksEnv qual sc L f (.ref cda) cc))
      standAt p2.atName
      let (fn, first) ← holding [ov] (getMethod ov name pl)
      callWith p4 fn first (backTo p4 (starEach args (PySem.W.ksEnv qual sc L f (.ref cda) cc))) []))
    (hbody : ∀ (B : Bx) (A : Around) (outer : List Env) (s : Shared) (H : Hp) (E : XK), B.X = cxE (L2.CX P w) P w K mg base N qual sc f (.ref cda) cc A outer s H E → Room k B.X.A → Bok B → ∀ ds m Q Xd, PP ds m Q Xd → XOK B Xd →
      SupAsk B C P2 args p4 (startD 0 ds) m fun d m3 => WSs B rest (startD 0 ds) m3 { nx := fun _ m' => Q .non m', rt := Q }) :
    FnOk P w K mg base (L2.CX P w) (k + 1) f (PySem.W.ksFn x qual params (.Expr (.Call (.Attribute (.Call (.Name "super" p0) [] [] p1) name p2) args [] p4) p5 :: rest) sc dV kV doc pm an (.ref cda) ct cc) ps (spD K PP) := by
  refine sup_core (cont := fun B ds Q d m3 => WSs B rest (startD 0 ds) m3 { nx := fun _ m' => Q .non m', rt := Q }) (fun B u R s' => R s') (fun B u R R' s h k => k s h) S T hcd F2 hb2 hk2 len (fun B A outer s H E hB σ sh Q0 Q1 h h2 => ?_) (fun B A outer s H E hB hk ds Q σ G H3 s' u v d m3 De s0 r0 c0 rd I rv q fp => ?_) hcall hbody
  · refine PySem.ks_wpAt_Expr_any (PySem.ks_wpAt_mono h (fun u s' hu => h2 u s' hu) fun _ _ z => z) ?_ ?_
    · show (B.X.env.scope.kind == .module && _) = false
      rw [hB, show (cxE (L2.CX P w) P w K mg base N qual sc f (.ref cda) cc A outer s H E).env.scope = sc from rfl, S.kind]; rfl
    · rw [hB]; exact hsw _
  · have z := q G σ H3 s0 r0 c0 De fp [] s' I
    rw [show B.X.prog = P by rw [hB]; rfl, show B.X.w = w by rw [hB]; rfl] at z
    exact z
theorem sup_fnA {y : Str} {i : Nat} (S : SupS N ps sc) (T : SupK P K mg f cda cc C DC f2 name (PySem.W.ksFn x qual params (.Assign [.Name y p6] (.Call (.Attribute (.Call (.Name "super" p0) [] [] p1) name p2) args [] p4) p5 :: rest) sc dV kV doc pm an (.ref cda) ct cc)) (hcd : PySem.W.codeIn K (.ref cda) qual = true)
    (F2 : FnOk P w K mg base (L2.CX P w) k2 f2 fd2 ps2 (spD K P2)) (hb2 : Binds K fd2 ps2 []) (hk2 : k2 ≤ k) (len : ∀ ds m Q Xd, PP ds m Q Xd → ds.length = ps.length)
    (hy : N[i]? = some y) (hyl : sc.names.lookup y = some .local)
    (hsw : ∀ (L : Addr), swapsWith (.Call (.Attribute (.Call (.Name "super" p0) [] [] p1) name p2) args [] p4) (some (.Name y p6)) p5.line (PySem.W.ksEnv qual sc L f (.ref cda) cc) = pure false)
    (hcall : ∀ (L : Addr), ∃ pl : Sem Bool, eval (.Call (.Attribute (.Call (.Name "super" p0) [] [] p1) name p2) args [] p4) (PySem.W.ksEnv qual sc L f (.ref cda) cc) = (do
      let ov ← attributeBase (.Call (.Name "super" p0) [] [] p1) name (PySem.W.ksEnv qual sc L f (.ref cda) cc) (eval (.Call (.Name "super" p0) [] [] p1) (PySem.W.ksEnv qual sc L f (.ref cda) cc))
      standAt p2.atName
      let (fn, first) ← holding [ov] (getMethod ov name pl)
      callWith p4 fn first (backTo p4 (starEach args (PySem.W.ksEnv qual sc L f (.ref cda) cc))) []))
    (hbody : ∀ (B : Bx) (A : Around) (outer : List Env) (s : Shared) (H : Hp) (E : XK), B.X = cxE (L2.CX P w) P w K mg base N qual sc f (.ref cda) cc A outer s H E → Room k B.X.A → Bok B → ∀ ds m Q Xd, PP ds m Q Xd → XOK B Xd →
      SupAsk B C P2 args p4 (startD 0 ds) m fun d m3 => WSs B rest ((i, d) :: startD 0 ds) m3 { nx := fun _ m' => Q .non m', rt := Q }) :
    FnOk P w K mg base (L2.CX P w) (k + 1) f (PySem.W.ksFn x qual params (.Assign [.Name y p6] (.Call (.Attribute (.Call (.Name "super" p0) [] [] p1) name p2) args [] p4) p5 :: rest) sc dV kV doc pm an (.ref cda) ct cc) ps (spD K PP) := by
  refine sup_core (cont := fun B ds Q d m3 => WSs B rest ((i, d) :: startD 0 ds) m3 { nx := fun _ m' => Q .non m', rt := Q }) (fun B u R s' => wpAny (model P w) B.X.A (storeName B.X.env y u) (fun _ => R) B.X.xe s') (fun B u R R' s h k => wpAny_mono h (fun _ s z => k s z) fun _ _ z => z) S T hcd F2 hb2 hk2 len (fun B A outer s H E hB σ sh Q0 Q1 h h2 => ?_) (fun B A outer s H E hB hk ds Q σ G H3 s' u v d m3 De s0 r0 c0 rd I rv q fp => ?_) hcall hbody
  · refine PySem.ks_wpAt_Assign_Name (PySem.ks_wpAt_mono h (fun u s' hu => h2 u s' hu) fun _ _ z => z) ?_
    rw [hB]; exact hsw _
  · have hN : B.X.N = N := by rw [hB]; rfl
    have hy' : B.X.N[i]? = some y := by rw [hN]; exact hy
    have hl' : B.X.env.scope.names.lookup y = some .local := by rw [hB]; exact hyl
    refine store_ok I hk.nd hy' (.inl hl') rv (fun s2 I2 => ?_) (.inr hl')
    have hi : i < B.X.N.length := ix_lt hy'
    have z := q G _ H3 s0 (r0.set rd i hi) c0 De fp [] s2 I2
    rw [show B.X.prog = P by rw [hB]; rfl, show B.X.w = w by rw [hB]; rfl] at z
    exact z
end
end
end Pd
namespace Pd
open PySem PySem.Spec PyProof.Rows L2 PdErr
structure GCon (K : PySem.W.Frag) (C : Addr) (f : Str) (d : D) : Prop where
  ex : ∃ v u, Con K C f v u ∧ ∀ G, Rep K G d v
structure CalP (B : Bx) (C : Addr) (f : Str) (P : PD) : Prop where
  ex : ∃ (p g : Addr) (fd : FuncData) (ps : List Str) (k : Nat), PropOf B.X.K C f p g ∧ Binds B.X.K fd ps [] ∧ FnOk B.X.prog B.X.w B.X.K B.X.mg B.X.base (L2.CX B.X.prog B.X.w) k g fd ps (spD B.X.K P) ∧ Room (k + 1) B.X.A
section
variable (P : Program) (w : World) (K : PySem.W.Frag) (mg : Str → Option Value) (base : Heap)
structure PDef (C : Addr) (n qual : Str) (st : Stmt) (ps : List Str) : Prop where
  ex : ∃ (p f : Addr) (fd : FuncData), PropOf K C n p f ∧ DefAt K n qual st f fd ∧ Binds K fd ps []
structure PRF (C : Addr) (n : Str) (k : Nat) (PP : PD) : Prop where
  ex : ∃ (p f : Addr) (fd : FuncData) (ps : List Str), PropOf K C n p f ∧ Binds K fd ps [] ∧ FnOk P w K mg base (L2.CX P w) k f fd ps (spD K PP)
end
section
variable {P : Program} {w : World} {K : PySem.W.Frag} {mg : Str → Option Value} {base : Heap}
theorem calp_of {B : Bx} {C : Addr} {n : Str} {k k' : Nat} {PP : PD} (g : PRF P w K mg base C n k PP) (hr : Room k' B.X.A) (hk : k + 1 ≤ k') (h : Hs P w K mg base B) : CalP B C n PP := by
  obtain ⟨p, f, fd, ps, h1, h3, h4⟩ := g.ex
  obtain ⟨rfl, rfl, rfl, rfl, rfl⟩ := h
  exact ⟨p, f, fd, ps, k, h1, h3, h4, hr.mono hk⟩
theorem prf_ok {N ps : List Str} {k : Nat} {PP : PD} {C : Addr} {n qual : Str} {st : Stmt} (GD : PDef K C n qual st ps) (S : FnScope N ps (defScope st)) (len : ∀ ds m Q Xd, PP ds m Q Xd → ds.length = ps.length)
    (hbody : ∀ (B : Bx) (f : Addr) (cdv : Value) (A : Around) (outer : List Env) (s : Shared) (H : Hp) (E : XK), B.X = cxOf (L2.CX P w) P w K mg base N qual (defScope st) f cdv A outer s H E → Room k B.X.A → Bok B → ∀ ds m Q Xd, PP ds m Q Xd → XOK B Xd →
      WSs B (defBody st) (startD 0 ds) m { nx := fun _ m' => Q .non m', rt := Q }) : PRF P w K mg base C n (k + 1) PP := by
  obtain ⟨p, f, fd, h1, F, hb⟩ := GD.ex
  exact ⟨p, f, fd, ps, h1, hb, fn_ok2 F S len hbody⟩
end
section
variable {B : Bx} {x y d : D} {m : Mem} {Q : D → Mem → Prop} {C : Addr} {ρ : DE} {e o : Expr} {pos apos : Pos} {f : Str} {l ds : List D}
theorem we_con (h : WE B o ρ m fun x m1 => ∃ C fl d, InsOf x m1 C fl ∧ Cls B.X.K C ∧ GCon B.X.K C f d ∧ fl.lookup f = none ∧ Q d m1) (hb : attributeBase o f B.X.env (eval o B.X.env) = eval o B.X.env) : WE B (.Attribute o f pos) ρ m Q := fun G σ H s r c Q' k => by
  refine teX_of (pe_con (peX o) hb) ?_
  refine h G σ H s r c _ fun v d m1 G1 H1 s1 c1 r1 ⟨C, fl, u, q1, q2, q3, q4, q5⟩ => ?_
  obtain ⟨a, dx, fs, rfl, ha, rf⟩ := insof_get q1 c1 r1
  obtain ⟨w, u0, hc, hr⟩ := q3.ex
  exact ⟨a, C, dx, fs, w, u0, rfl, ha, q2, hc, repf_none rf q4, c1.vp (k.sub s1) (hr G1) q5⟩
theorem we_prp (h : WE B o ρ m fun x m1 => ∃ C fl P, InsOf x m1 C fl ∧ Cls B.X.K C ∧ CalP B C f P ∧ P [x] m1 Q noX) (hb : attributeBase o f B.X.env (eval o B.X.env) = eval o B.X.env) : WE B (.Attribute o f pos) ρ m Q := fun G σ H s r c Q' k pins s1 I => by
  refine attr_of hb (thn (h G σ H s r c (fun v H1 => ∃ x m1 G1 C fl P, Sub G G1 ∧ Cur B.X.K G1 m1 H1 ∧ Rep B.X.K G1 x v ∧ InsOf x m1 C fl ∧ Cls B.X.K C ∧ CalP B C f P ∧ P [x] m1 Q noX)
    (fun v x m1 G1 H1 s1 c1 r1 ⟨C, fl, P, q1, q2, q3, q4⟩ => ⟨x, m1, G1, C, fl, P, s1, c1, r1, q1, q2, q3, q4⟩) pins s1 I) fun u s2 ⟨v, H1, I1, rv, x, m1, G1, C, fl, P, sb1, c1, r1, q1, q2, q3, q4⟩ => ?_)
  obtain ⟨a, dx, fs, rfl, ha, rf⟩ := insof_get q1 c1 r1
  obtain rfl : u = Value.ref a := rv
  obtain ⟨p, g, fd, ps, kk, hp, hbd, F, hr⟩ := q3.ex
  refine getprop_ok (dvs := []) (ds := []) (E := fun _ _ _ => False) I1 ha q2 hp F hr hbd .nil (fun _ _ _ _ _ _ _ z => ?_) ⟨G1, m1, [x], Q, noX, c1, ⟨_, _, rfl, r1, rfl⟩, q4, k.sub sb1, fun _ _ _ _ _ _ _ _ _ z => z.elim⟩
  obtain ⟨_, _, _, _, _, _, _, _, _, _, _, _, _, z⟩ := z
theorem wc_tupleT (q : Q (.tup l) m) : WC B (.type "tuple") [.tup l] m Q := wc_of call_tupleT fun G H vs c rd Q' k => by
  obtain ⟨v, rfl, r⟩ := rep1 rd
  obtain ⟨a, xs, rfl, hq, rx⟩ := r
  exact ⟨a, xs, rfl, SqT.sub c.ex hq, k (.ref a) (.tup l) m G H (Sub.refl G) c ⟨a, xs, rfl, hq, rx⟩ q⟩
theorem wc_tupleS (h : Sv x m l) (q : Q (.tup l) m) : WC B (.type "tuple") [x] m Q := by
  rcases h with h | rfl
  · exact wc_tupleV h q
  · exact wc_tupleT q
theorem wc_listS (h : Sv x m l) (q : NewL Q l m) : WC B (.type "list") [x] m Q := wc_of call_list_of fun G H vs c rd Q' k => by
  obtain ⟨v, rfl, r⟩ := rep1 rd
  obtain ⟨p, xs, rfl, hq, rx⟩ := sv_get h c r
  exact ⟨p, xs, rfl, sq_of hq, newl_ok k c rx q⟩
theorem reps_intsD {K : PySem.W.Frag} {G : Hp} : ∀ {ns : List Int} {xs : List V}, Reps K G (ns.map D.int) xs → xs = ns.map V.int
  | [], _, h => h
  | n :: ns, _, ⟨x, r, e, h1, h2⟩ => by
    subst e
    obtain rfl : x = .int n := h1
    rw [reps_intsD (ns := ns) h2]; rfl
theorem ints_reps {K : PySem.W.Frag} {G : Hp} : ∀ {ns : List Int}, Reps K G (ns.map D.int) (ns.map V.int)
  | [] => rfl
  | n :: ns => ⟨_, _, rfl, rfl, ints_reps (ns := ns)⟩
theorem wc_sorted {ns : List Int} (h : Lv x m (ns.map D.int)) (q : ∀ out : List Int, out.Perm ns → out.Pairwise (· ≤ ·) → NewL Q (out.map D.int) m) : WC B (.builtin "sorted") [x] m Q := wc_of cr_sortedI fun G H vs c rd Q' k => by
  obtain ⟨v, rfl, r⟩ := rep1 rd
  obtain ⟨p, xs, rfl, hq, rx⟩ := lv_get h c r
  rw [reps_intsD rx] at hq
  exact ⟨p, ns, rfl, hq, fun out p h1 h2 hp => newl_ok k c ints_reps (q out h1 h2) p hp⟩
end
structure FunK (K : PySem.W.Frag) (x qual : Str) (st : Stmt) (kws : List (Str × V)) (fd : FuncData) (cda cc : Addr) : Prop where
  ex : ∃ (kV doc pm : Value) (an : Option Addr) (ct : Value), fd = PySem.W.ksFn x qual (defArgs st) (defBody st) (defScope st) .none kV doc pm an (.ref cda) ct cc ∧ KwdV K kV kws
  cd : PySem.W.codeIn K (.ref cda) qual = true
theorem FunK.kbinds0 {K : PySem.W.Frag} {x qual : Str} {st : Stmt} {kws : List (Str × V)} {fd : FuncData} {cda cc : Addr} {ps : List Str} (F : FunK K x qual st kws fd cda cc) (n : Nat) (ks : List Str) (ms : List (Str × V)) (g : {α : Type} → List α → List α → List α → List α) (hk : kws ≠ []) (hms : ∀ q ∈ ms, q ∈ kws)
    (hrel : ∀ {vs mz zs : List V} {us mv ws : List Value}, Vals vs us → Vals mz mv → Vals zs ws → Vals (g vs mz zs) (g us mv ws))
    (h : ∀ (D : Addr) (doc pm : Value) (an : Option Addr) (cdv ct : Value) (us mv ws : List Value), us.length = n → mv.length = ms.length → ws.length = ks.length →
      KwChain D ((ms.map (·.1)).zip mv) (bindArgs (PySem.W.ksFn x qual (defArgs st) (defBody st) (defScope st) .none (.ref D) doc pm an cdv ct cc) ⟨us, ks.zip ws⟩) (ps.zip (g us mv ws))) :
    ∃ mv : List Value, KBn K fd ps n ks (fun us ws => g us mv ws) (fun vs zs => g vs (ms.map (·.2)) zs) := by
  obtain ⟨kV, doc, pm, an, ct, rfl, hK⟩ := F.ex
  rcases hK with e | ⟨D, rfl, hq⟩
  · exact absurd e hk
  · obtain ⟨mv, hl, rk, hks⟩ := kwd_vals (ms := ms) fun q hm => hq q (hms q hm)
    exact ⟨mv, ⟨fun s us ws X l1 l2 => BindsTo.of_looks fun M => KwChain.looks X hks (h D doc pm an _ ct us mv ws l1 hl l2), fun r1 r2 => hrel r1 rk r2⟩⟩
section
variable (P : Program) (w : World) (K : PySem.W.Frag) (mg : Str → Option Value) (base : Heap)
structure KDef (x : Str) (C CS : Addr) (qual : Str) (st : Stmt) (kws : List (Str × V)) : Prop where
  ex : ∃ (f f2 cda cc : Addr) (fd : FuncData), mg x = some (.ref C) ∧ Mk K C f ∧ FunK K "__init__" qual st kws fd cda cc ∧ SupK P K mg f cda cc C C f2 "__init__" fd ∧ PySem.W.findIn K (.ref CS) "__init__" = some (some (.ref f2))
structure KF (x : Str) (C : Addr) (qual : Str) (st : Stmt) (ps : List Str) (k : Nat) (kws : List (Str × V)) (PP : PD) : Prop where
  ex : ∃ (f cda cc : Addr) (fd : FuncData), mg x = some (.ref C) ∧ Mk K C f ∧ FunK K "__init__" qual st kws fd cda cc ∧ FnOk P w K mg base (L2.CX P w) k f fd ps (spD K PP)
structure SMDef (C CS : Addr) (n qual : Str) (st : Stmt) (ps : List Str) : Prop where
  ex : ∃ (f f2 cda cc : Addr) (fd : FuncData), Meth K C n f ∧ FunK K n qual st [] fd cda cc ∧ SupK P K mg f cda cc C C f2 n fd ∧ PySem.W.findIn K (.ref CS) n = some (some (.ref f2)) ∧ Binds K fd ps []
end
section
variable {P : Program} {w : World} {K : PySem.W.Frag} {mg : Str → Option Value} {base : Heap}
theorem calkk_of {B : Bx} {x : Str} {C : Addr} {qual : Str} {st : Stmt} {ps ks : List Str} {n k k' : Nat} {kws : List (Str × V)} {PP : PD} {gV gV' : List V → List V → List V} {gD : List D → List D → List D} (g : KF P w K mg base x C qual st ps k kws PP) (hr : Room k' B.X.A) (hk : k + 1 ≤ k') (h : Hs P w K mg base B) (hg : Gl B.X x)
    (hb : ∀ fd cda cc, FunK K "__init__" qual st kws fd cda cc → ∃ g g' : List Value → List Value → List Value, KBn K fd ps (n + 1) ks g gV ∧ ∀ x us ws, g (x :: us) ws = x :: g' us ws) (hgV : ∀ x vs zs, gV (x :: vs) zs = x :: gV' vs zs)
    (hD : ∀ G ds es vs zs, Reps K G ds vs → Reps K G es zs → Reps K G (gD ds es) (gV' vs zs)) : GCalK B x n ks (fun es ds => mkP C PP (gD ds es)) := by
  obtain ⟨f, cda, cc, fd, h1, h2, h3, h6⟩ := g.ex
  obtain ⟨gg, g', h4, h5⟩ := hb fd cda cc h3
  obtain ⟨rfl, rfl, rfl, rfl, rfl⟩ := h
  exact ⟨hg, ⟨C, h1, h2.kp, runs_mkK h2 h6 (hr.mono hk) h4 h5 hgV fun G ds es vs zs _ => hD G ds es vs zs⟩⟩
theorem init_at {x : Str} {C f2 : Addr} {qual : Str} {st : Stmt} {ps : List Str} {k : Nat} {PP : PD} (g : CF P w K mg base x C qual st ps k [] [] PP) (h2 : PySem.W.findIn K (.ref C) "__init__" = some (some (.ref f2)))
    (h : ∀ (kV doc pm : Value) (an : Option Addr) (cdv ct : Value) (us : List Value), us.length = ps.length → bindArgs (PySem.W.fnOf "__init__" qual (defArgs st) (defBody st) (defScope st) .none kV doc pm an cdv ct) ⟨us, []⟩ = pure (ps.zip us)) :
    ∃ fd, Binds K fd ps [] ∧ FnOk P w K mg base (L2.CX P w) k f2 fd ps (spD K PP) := by
  obtain ⟨f, fd, _, hm, hf, F⟩ := g.ex
  have e := hm.init.symm.trans h2
  cases e
  exact ⟨fd, hf.bindsN h, F⟩
theorem meth_at {C f2 : Addr} {n : Str} {k : Nat} {PP : PD} (g : MF P w K mg base C n k PP) (h2 : PySem.W.findIn K (.ref C) n = some (some (.ref f2))) : ∃ fd ps, Binds K fd ps [] ∧ FnOk P w K mg base (L2.CX P w) k f2 fd ps (spD K PP) := by
  obtain ⟨f, fd, ps, hm, hb, F⟩ := g.ex
  have e := hm.at_.symm.trans h2
  cases e
  exact ⟨fd, ps, hb, F⟩
end
structure NilT (K : PySem.W.Frag) (a : Addr) : Prop where
  ex : ∃ (o : Obj) (n : Nat), K.lookup a = some o ∧ o.cls = .type "tuple" ∧ o.data = .seq #[] n
theorem NilT.rep {K : PySem.W.Frag} {a : Addr} (h : NilT K a) (G : Hp) : Rep K G (.tup []) (.ref a) := by
  obtain ⟨o, n, h1, h2, h3⟩ := h.ex
  exact ⟨a, [], rfl, .inr ⟨o, #[], n, h1, h2, h3, Nat.zero_le _, .nil⟩, rfl⟩
end Pd
namespace Pd
open PySem PySem.Spec PyProof.Rows L2
def isL (c : Nat) : Prop := 97 ≤ c ∧ c ≤ 122
def isG (c : Nat) : Prop := 48 ≤ c ∧ c ≤ 57
instance (c : Nat) : Decidable (isL c) := inferInstanceAs (Decidable (_ ∧ _))
instance (c : Nat) : Decidable (isG c) := inferInstanceAs (Decidable (_ ∧ _))
def okN (w : List Nat) : Prop := (1 ≤ w.length ∧ w.length ≤ 12) ∧ (∀ c, w.head? = some c → isL c) ∧ ∀ c ∈ w, isL c ∨ isG c
def okS (z : Str) : Prop := okN z.cps.toList
theorem let_in {c : Nat} : decide (c ∈ (("abcdefghijklmnopqrstuvwxyz" : Str)).cps.toList) = decide (isL c) := by
  rw [show (("abcdefghijklmnopqrstuvwxyz" : Str)).cps.toList = [97, 98, 99, 100, 101, 102, 103, 104, 105, 106, 107, 108, 109, 110, 111, 112, 113, 114, 115, 116, 117, 118, 119, 120, 121, 122] by decide +kernel]
  refine decide_eq_decide.mpr ?_
  unfold isL
  simp only [List.mem_cons, List.not_mem_nil, or_false]
  omega
theorem fig_inG {c : Nat} : decide (c ∈ (("0123456789" : Str)).cps.toList) = decide (isG c) := by
  rw [show (("0123456789" : Str)).cps.toList = [48, 49, 50, 51, 52, 53, 54, 55, 56, 57] by decide +kernel]
  refine decide_eq_decide.mpr ?_
  unfold isG
  simp only [List.mem_cons, List.not_mem_nil, or_false]
  omega
def lastG (l : Int) : List Int → Int
  | [] => l
  | g :: gs => lastG g gs
def badG (len : Option Int) (l g : Int) : Prop := g ≤ l ∨ ∃ n, len = some n ∧ n ≤ g
instance (len : Option Int) (l g : Int) : Decidable (badG len l g) := by
  unfold badG
  cases len with
  | none => exact decidable_of_iff (g ≤ l) ⟨.inl, fun h => h.elim id fun ⟨_, h, _⟩ => by cases h⟩
  | some n => exact decidable_of_iff (g ≤ l ∨ n ≤ g) ⟨fun h => h.imp id fun h => ⟨n, rfl, h⟩, fun h => h.imp id fun ⟨_, h, k⟩ => by cases h; exact k⟩
def firstB (len : Option Int) : Int → List Int → Option Int
  | _, [] => none
  | l, g :: gs => if badG len l g then some g else firstB len g gs
theorem firstB_bad {len : Option Int} {l g : Int} {gs : List Int} (h : badG len l g) : firstB len l (g :: gs) = some g := if_pos h
theorem firstB_go {len : Option Int} {l g : Int} {gs : List Int} (h : ¬ badG len l g) : firstB len l (g :: gs) = firstB len g gs := if_neg h
inductive CErr where
  | name | num (v : Int)
open Classical in
noncomputable def clipE (z : Str) (len : Option Int) (r : Int) (gs : List Int) : Option CErr :=
  if ¬ okS z then some .name else match len with
    | some n => if n < 1 then some (.num n) else if ¬ (1 ≤ r ∧ r ≤ 4) then some (.num r) else (firstB len (-1) gs).map .num
    | none => if ¬ (1 ≤ r ∧ r ≤ 4) ∨ r ≠ 1 then some (.num r) else (firstB len (-1) gs).map .num
theorem clipE_name {z : Str} {len : Option Int} {r : Int} {gs : List Int} (h : ¬ okS z) : clipE z len r gs = some .name := if_pos h
theorem clipE_len {z : Str} {n r : Int} {gs : List Int} (h : okS z) (h1 : n < 1) : clipE z (some n) r gs = some (.num n) := by
  unfold clipE; rw [if_neg (fun k => k h)]; simp only; rw [if_pos h1]
theorem clipE_r1 {z : Str} {n r : Int} {gs : List Int} (h : okS z) (h1 : ¬ n < 1) (h2 : ¬ (1 ≤ r ∧ r ≤ 4)) : clipE z (some n) r gs = some (.num r) := by
  unfold clipE; rw [if_neg (fun k => k h)]; simp only; rw [if_neg h1, if_pos h2]
theorem clipE_r0 {z : Str} {r : Int} {gs : List Int} (h : okS z) (h2 : ¬ (1 ≤ r ∧ r ≤ 4) ∨ r ≠ 1) : clipE z none r gs = some (.num r) := by
  unfold clipE; rw [if_neg (fun k => k h)]; simp only; rw [if_pos h2]
def clipOk (z : Str) (len : Option Int) (r : Int) : Prop := okS z ∧ (1 ≤ r ∧ r ≤ 4) ∧ match len with
  | some n => 1 ≤ n
  | none => r = 1
theorem clipE_g {z : Str} {len : Option Int} {r : Int} {gs : List Int} (h : clipOk z len r) : clipE z len r gs = (firstB len (-1) gs).map .num := by
  obtain ⟨h1, h2, h3⟩ := h
  unfold clipE; rw [if_neg (fun k => k h1)]
  cases len with
  | some n =>
    simp only at h3 ⊢
    rw [if_neg (by omega), if_neg (fun k => k h2)]
  | none =>
    simp only at h3 ⊢
    rw [if_neg (fun k => k.elim (fun k => k h2) fun k => k h3)]
def GoodG (len : Option Int) (l : Int) (gs : List Int) : Prop := firstB len l gs = none
theorem good_cons {len : Option Int} {l g : Int} {gs : List Int} : GoodG len l (g :: gs) ↔ ¬ badG len l g ∧ GoodG len g gs := by
  unfold GoodG
  constructor
  · intro h
    by_cases hb : badG len l g
    · rw [firstB_bad hb] at h; cases h
    · rw [firstB_go hb] at h; exact ⟨hb, h⟩
  · rintro ⟨a, b⟩
    rw [firstB_go a]; exact b
theorem firstB_app {len : Option Int} : ∀ {gs hs : List Int} {l : Int}, GoodG len l gs → firstB len l (gs ++ hs) = firstB len (lastG l gs) hs
  | [], hs, l, _ => rfl
  | g :: gs, hs, l, h => by
    obtain ⟨a, b⟩ := good_cons.mp h
    rw [List.cons_append, firstB_go a]
    exact firstB_app b
theorem good_app {len : Option Int} {gs hs : List Int} {l : Int} (h : GoodG len l (gs ++ hs)) : GoodG len l gs := by
  induction gs generalizing l with
  | nil => rfl
  | cons g gs ih =>
    rw [List.cons_append] at h
    obtain ⟨a, b⟩ := good_cons.mp h
    exact good_cons.mpr ⟨a, ih b⟩
theorem good_take {len : Option Int} {gs : List Int} {l : Int} (n : Nat) (h : GoodG len l gs) : GoodG len l (gs.take n) := good_app (hs := gs.drop n) (by rw [List.take_append_drop]; exact h)
theorem lastG_app : ∀ {gs : List Int} {g l : Int}, lastG l (gs ++ [g]) = g
  | [], _, _ => rfl
  | _ :: gs, g, l => lastG_app (gs := gs)
theorem lastG_take {gs : List Int} {n : Nat} {l g : Int} (h : gs[n]? = some g) : lastG l (gs.take (n + 1)) = g := by
  obtain ⟨hl, he⟩ := List.getElem?_eq_some_iff.mp h
  rw [List.take_succ_eq_append_getElem hl, he]
  exact lastG_app
theorem lastG_ge {len : Option Int} : ∀ {gs : List Int} {l : Int}, GoodG len l gs → l ≤ lastG l gs
  | [], l, _ => Int.le_refl l
  | g :: gs, l, h => by
    obtain ⟨a, b⟩ := good_cons.mp h
    have := lastG_ge b
    have : l < g := by
      apply Classical.byContradiction
      intro hn
      exact a (.inl (by omega))
    show l ≤ lastG g gs
    omega
theorem good_sorted {len : Option Int} : ∀ {gs : List Int} {l : Int}, gs.Pairwise (· < ·) → (∀ g ∈ gs, l < g ∧ ∀ n, len = some n → g < n) → GoodG len l gs
  | [], _, _, _ => rfl
  | g :: gs, l, h, k => by
    obtain ⟨h1, h2⟩ := List.pairwise_cons.mp h
    refine good_cons.mpr ⟨fun hb => ?_, good_sorted h2 fun x hx => ⟨h1 x hx, (k x (List.mem_cons_of_mem _ hx)).2⟩⟩
    obtain ⟨a, b⟩ := k g List.mem_cons_self
    rcases hb with hb | ⟨n, e, hb⟩
    · omega
    · have := b n e; omega
theorem firstB_put {len : Option Int} {gs : List Int} {e l : Int} {n : Nat} (h : GoodG len l gs) (hb : badG len (lastG l (gs.take n)) e) : firstB len l (gs.take n ++ [e] ++ gs.drop n) = some e := by
  rw [List.append_assoc, firstB_app (good_take n h), List.cons_append, firstB_bad hb]
theorem Sv.set_ins {d : D} {m : Mem} {l : List D} {x C dx : Addr} {fl : List (Str × D)} {o : MO} (h : Sv d m l) (hm : m x = some (.ins C dx fl)) : Sv d (mset m x o) l := by
  rcases h with (h | ⟨q, rfl, h⟩) | h
  · exact .inl (.inl h)
  · exact .inl (.inr ⟨q, rfl, by rw [mset_ne (fun e => by rw [e, hm] at h; cases h)]; exact h⟩)
  · exact .inr h
theorem strs_flat (l : List Str) : (l.map D.str).all flatD = true := by
  induction l with
  | nil => rfl
  | cons a l ih => rw [List.map_cons, List.all_cons, ih]; rfl
theorem strs_any {z : Str} {l : List Str} : ((l.map D.str).any fun y => eqD y (.str z)) = decide (z ∈ l) := by
  induction l with
  | nil => rfl
  | cons a l ih =>
    rw [List.map_cons, List.any_cons, ih]
    show ((a == z) || decide (z ∈ l)) = _
    by_cases h : a = z
    · subst h; simp
    · have h2 : ¬ z = a := fun e => h e.symm
      simp [h, h2]
theorem ints_flat (l : List Int) : (l.map D.int).all flatD = true := by
  induction l with
  | nil => rfl
  | cons a l ih => rw [List.map_cons, List.all_cons, ih]; rfl
theorem ints_any {z : Int} {l : List Int} : ((l.map D.int).any fun y => eqD y (.int z)) = decide (z ∈ l) := by
  induction l with
  | nil => rfl
  | cons a l ih =>
    rw [List.map_cons, List.any_cons, ih]
    show ((a == z) || decide (z ∈ l)) = _
    by_cases h : a = z
    · subst h; simp
    · have h2 : ¬ z = a := fun e => h e.symm
      simp [h, h2]
theorem len_sub {α : Type} [DecidableEq α] : ∀ {xs ys : List α}, xs.Nodup → (∀ x ∈ xs, x ∈ ys) → xs.length ≤ ys.length
  | [], _, _, _ => Nat.zero_le _
  | x :: xs, ys, h, k => by
    obtain ⟨h1, h2⟩ := List.nodup_cons.mp h
    have hx := k x List.mem_cons_self
    have := len_sub (ys := ys.erase x) h2 fun y hy => (List.mem_erase_of_ne (fun e => h1 (by rw [← e]; exact hy))).mpr (k y (List.mem_cons_of_mem _ hy))
    rw [List.length_erase_of_mem hx] at this
    have := List.length_pos_of_mem hx
    simp only [List.length_cons]
    omega
def spareN (k : Nat) : Str := ("spare" : Str) ++ ⟨(TL.numL k).toArray⟩
theorem spare_ok {k : Nat} (h : k < 100) : okS (spareN k) := by
  have h1 : (TL.numL k).length ≤ 2 := TL.numL_len (by decide) (show k < 10 ^ 2 by omega)
  have e : (spareN k).cps.toList = [115, 112, 97, 114, 101] ++ TL.numL k := by
    unfold spareN
    show ((("spare" : Str)).cps ++ (TL.numL k).toArray).toList = _
    rw [Array.toList_append, show (("spare" : Str)).cps.toList = [115, 112, 97, 114, 101] by decide +kernel]
  unfold okS okN
  rw [e]
  refine ⟨⟨by simp, by simp; omega⟩, fun c hc => ?_, fun c hc => ?_⟩
  · cases hc; decide
  · rcases List.mem_append.mp hc with hc | hc
    · left
      simp only [List.mem_cons, List.not_mem_nil, or_false] at hc
      rcases hc with rfl | rfl | rfl | rfl | rfl <;> decide
    · exact .inr (TL.numL_digits k c hc)
theorem spare_nodup : ((List.range 100).map spareN).Nodup := by decide +kernel
instance : DecidableEq Str := inferInstance
theorem spare_free {l : List Str} (h : l.length < 100) : ¬ ∀ k, k < 100 → spareN k ∈ l := fun k => by
  have := len_sub spare_nodup (ys := l) fun x hx => by
    obtain ⟨i, hi, rfl⟩ := List.mem_map.mp hx
    exact k i (List.mem_range.mp hi)
  rw [List.length_map, List.length_range] at this
  omega
theorem sg36 {i : Int} {c : Nat} (h : atI ((("abcdefghijklmnopqrstuvwxyz" : Str) ++ ("0123456789" : Str)).cps.toList) i = some c) : isL c ∨ isG c := by
  have hm : c ∈ (("abcdefghijklmnopqrstuvwxyz" : Str) ++ ("0123456789" : Str)).cps.toList := by
    unfold atI at h
    cases e : ixN _ i with
    | none => rw [e] at h; cases h
    | some j => rw [e] at h; exact List.mem_of_getElem? h
  exact of_decide_eq_true (List.all_eq_true.mp (by decide +kernel : (("abcdefghijklmnopqrstuvwxyz" : Str) ++ ("0123456789" : Str)).cps.toList.all (fun c => decide (isL c ∨ isG c)) = true) c hm)
theorem sg26 {i : Int} {c : Nat} (h : atI ((("abcdefghijklmnopqrstuvwxyz" : Str)).cps.toList) i = some c) : isL c := by
  have hm : c ∈ (("abcdefghijklmnopqrstuvwxyz" : Str)).cps.toList := by
    unfold atI at h
    cases e : ixN _ i with
    | none => rw [e] at h; cases h
    | some j => rw [e] at h; exact List.mem_of_getElem? h
  exact of_decide_eq_true (List.all_eq_true.mp (by decide +kernel : (("abcdefghijklmnopqrstuvwxyz" : Str)).cps.toList.all (fun c => decide (isL c)) = true) c hm)
theorem sg10 {i : Int} {c : Nat} (h : atI ((("0123456789" : Str)).cps.toList) i = some c) : isG c := by
  have hm : c ∈ (("0123456789" : Str)).cps.toList := by
    unfold atI at h
    cases e : ixN _ i with
    | none => rw [e] at h; cases h
    | some j => rw [e] at h; exact List.mem_of_getElem? h
  exact of_decide_eq_true (List.all_eq_true.mp (by decide +kernel : (("0123456789" : Str)).cps.toList.all (fun c => decide (isG c)) = true) c hm)
def okW (n : Nat) (z : Str) : Prop := (1 ≤ z.cps.toList.length ∧ z.cps.toList.length ≤ n) ∧ (∀ c, z.cps.toList.head? = some c → isL c) ∧ ∀ c ∈ z.cps.toList, isL c ∨ isG c
theorem okW_one {c : Nat} (h : isL c) : okW 1 ⟨#[c]⟩ := ⟨⟨Nat.le_refl _, Nat.le_refl _⟩, fun x hx => by cases hx; exact h, fun x hx => by rw [List.mem_singleton.mp hx]; exact .inl h⟩
theorem okW_app {n : Nat} {z : Str} {c : Nat} (h : okW n z) (hc : isL c ∨ isG c) : okW (n + 1) (z ++ ⟨#[c]⟩) := by
  obtain ⟨⟨a, b⟩, d, e⟩ := h
  have el : (z ++ ⟨#[c]⟩).cps.toList = z.cps.toList ++ [c] := by
    show (z.cps ++ #[c]).toList = _
    rw [Array.toList_append]
  unfold okW
  rw [el]
  refine ⟨⟨by simp, by simp; rw [← Array.length_toList]; exact b⟩, fun x hx => ?_, fun x hx => ?_⟩
  · rw [head_app (fun e => by rw [e] at a; simp at a)] at hx
    exact d x hx
  · rcases List.mem_append.mp hx with hx | hx
    · exact e x hx
    · rw [List.mem_singleton.mp hx]; exact hc
theorem okW_okS {n : Nat} {z : Str} (h : okW n z) (hn : n ≤ 12) : okS z := ⟨⟨h.1.1, Nat.le_trans h.1.2 hn⟩, h.2⟩
theorem okW_len {n : Nat} {z : Str} (h : okW n z) : z.length ≤ n := by rw [← len_tl]; exact h.1.2
theorem good_pw {len : Option Int} : ∀ {gs : List Int} {l : Int}, GoodG len l gs → gs.Pairwise (· < ·) ∧ ∀ g ∈ gs, l < g ∧ ∀ n, len = some n → g < n
  | [], _, _ => ⟨.nil, fun _ h => by cases h⟩
  | g :: gs, l, h => by
    obtain ⟨a, b⟩ := good_cons.mp h
    obtain ⟨c, d⟩ := good_pw b
    have hg : l < g ∧ ∀ n, len = some n → g < n := ⟨by
      apply Classical.byContradiction
      intro hn
      exact a (.inl (by omega)), fun n e => by
      apply Classical.byContradiction
      intro hn
      exact a (.inr ⟨n, e, by omega⟩)⟩
    refine ⟨List.pairwise_cons.mpr ⟨fun x hx => (d x hx).1, c⟩, fun x hx => ?_⟩
    rcases List.mem_cons.mp hx with rfl | hx
    · exact hg
    · exact ⟨Int.lt_trans hg.1 (d x hx).1, (d x hx).2⟩
theorem good_len {len len' : Option Int} {gs : List Int} {l : Int} (h : GoodG len l gs) (k : ∀ g ∈ gs, ∀ n, len' = some n → g < n) : GoodG len' l gs :=
  good_sorted (good_pw h).1 fun g hg => ⟨((good_pw h).2 g hg).1, k g hg⟩
theorem pw_lt : ∀ {l : List Int}, l.Pairwise (· ≤ ·) → l.Nodup → l.Pairwise (· < ·)
  | [], _, _ => .nil
  | a :: l, h, k => by
    obtain ⟨h1, h2⟩ := List.pairwise_cons.mp h
    obtain ⟨k1, k2⟩ := List.nodup_cons.mp k
    refine List.pairwise_cons.mpr ⟨fun x hx => ?_, pw_lt h2 k2⟩
    have := h1 x hx
    have : a ≠ x := fun e => k1 (by rw [e]; exact hx)
    omega
theorem last_ge {gs : List Int} {g : Int} (h : gs.Pairwise (· < ·)) (e : gs.getLast? = some g) : ∀ x ∈ gs, x ≤ g := by
  induction gs with
  | nil => intro x hx; cases hx
  | cons a gs ih =>
    obtain ⟨h1, h2⟩ := List.pairwise_cons.mp h
    intro x hx
    cases gs with
    | nil =>
      cases e
      rw [List.mem_singleton.mp hx]; exact Int.le_refl _
    | cons b gs =>
      have e2 : (b :: gs).getLast? = some g := by rw [← e]; rfl
      rcases List.mem_cons.mp hx with rfl | hx
      · have := h1 b List.mem_cons_self
        have := ih h2 e2 b List.mem_cons_self
        omega
      · exact ih h2 e2 x hx
theorem atI_last {α : Type} {l : List α} {a : α} (e : l.getLast? = some a) : atI l (-1) = some a := by
  have hl : 0 < l.length := by
    cases l with
    | nil => cases e
    | cons b l => simp
  unfold atI ixN
  rw [if_neg (by decide), if_pos (by omega)]
  show l[((-1 : Int) + (l.length : Int)).toNat]? = some a
  rw [show ((-1 : Int) + (l.length : Int)).toNat = l.length - 1 by omega, ← List.getLast?_eq_getElem?]
  exact e
structure GP (b : Nat) (z : Str) (s o : Int) (len : Option Int) (r : Int) (gs : List Int) : Prop where
  s0 : 0 < s
  sz : Sz b s
  oz : Sz b o
  ok : clipOk z len r
  gd : GoodG len (-1) gs
  gl : gs.length ≤ 40
  gz : ∀ g ∈ gs, Sz b g
  lz : ∀ n, len = some n → Sz b n
theorem GP.fine {b : Nat} {z : Str} {s o : Int} {len : Option Int} {r : Int} {gs : List Int} (h : GP b z s o len r gs) : clipE z len r gs = none := by
  rw [clipE_g h.ok, show firstB len (-1) gs = none from h.gd]; rfl
abbrev cpartD (z : Str) (s o : Int) (len : Option Int) (r : Int) (gs : List Int) : D := .lst [.str z, .int s, .int o, oD len, .int r, .lst (gs.map .int)]
def toldE (z : Str) : CErr → D
  | .name => .lst [.str "name", .str z]
  | .num v => .lst [.str "value", .int v]
def toldR (z : Str) : CErr → D
  | .name => .lst [.str "name", .str z, .bl true, .bl true, .bl false]
  | .num v => .lst [.str "value", .int v, .bl true, .bl true, .bl false]
theorem boot_sorted' : bootBuiltins "sorted" = some (.builtin "sorted") := by decide +kernel
theorem share {X P : Prop} (f : X → P) (x : X) : P := f x
end Pd
namespace Pd
open PySem PySem.Spec PyProof.Rows L2
def starP (n : Nat) (PP : PD) : PD := fun ds m Q Xd => ∃ ws rest, ds = ws ++ rest ∧ ws.length = n ∧ rest.length ≤ sizeLine ∧ PP (ws ++ [.tup rest]) m Q Xd
theorem reps_split {K : PySem.W.Frag} {G : Hp} : ∀ {l l2 : List D} {xs : List V}, Reps K G (l ++ l2) xs → ∃ ys zs, xs = ys ++ zs ∧ Reps K G l ys ∧ Reps K G l2 zs
  | [], _, xs, h => ⟨[], xs, rfl, rfl, h⟩
  | _ :: _, _, _, ⟨x, r, e, h1, h2⟩ => by
    subst e
    obtain ⟨ys, zs, e, a, b⟩ := reps_split h2
    exact ⟨x :: ys, zs, by rw [e]; rfl, ⟨x, ys, rfl, h1, a⟩, b⟩
section
variable (P : Program) (w : World) (K : PySem.W.Frag) (mg : Str → Option Value) (base : Heap)
structure VDef (x : Str) (C : Addr) (qual : Str) (st : Stmt) (ps : List Str) (pv : Str) : Prop where
  ex : ∃ (f : Addr) (fd : FuncData), mg x = some (.ref C) ∧ Mk K C f ∧ DefAt K "__init__" qual st f fd ∧ ∀ us rest : List Value, us.length = ps.length → bindArgs fd ⟨us ++ rest, []⟩ = (newTuple rest >>= fun t => pure (ps.zip us ++ [(pv, t)]))
structure VF (x : Str) (C : Addr) (n k : Nat) (PP : PD) : Prop where
  ex : ∃ f : Addr, mg x = some (.ref C) ∧ Mk K C f ∧ FnR P w K mg base (L2.CX P w) k f (spD K (starP n PP))
end
section
variable {P : Program} {w : World} {K : PySem.W.Frag} {mg : Str → Option Value} {base : Heap}
theorem vf_ok {N ps : List Str} {pv : Str} {k : Nat} {PP : PD} {C : Addr} {x qual : Str} {st : Stmt} (GD : VDef K mg x C qual st ps pv) (S : FnScope N (ps ++ [pv]) (defScope st)) (len : ∀ ds m Q Xd, PP ds m Q Xd → ds.length = ps.length + 1)
    (hbody : ∀ (B : Bx) (f : Addr) (cdv : Value) (A : Around) (outer : List Env) (s : Shared) (H : Hp) (E : XK), B.X = cxOf (L2.CX P w) P w K mg base N qual (defScope st) f cdv A outer s H E → Room k B.X.A → Bok B → ∀ ds m Q Xd, PP ds m Q Xd → XOK B Xd →
      WSs B (defBody st) (startD 0 ds) m { nx := fun _ m' => Q .non m', rt := Q }) : VF P w K mg base x C ps.length (k + 1) PP := by
  obtain ⟨f, fd, h1, h2, F, hb⟩ := GD.ex
  refine ⟨f, h1, h2, ?_⟩
  obtain ⟨oc, od, dV, kV, doc, pm, an, cdv, ct, osl, rfl, lk, hcd⟩ := F
  have key := StX.fn_star (CX := L2.CX P w) (P := P) (w := w) (mg := mg) (base := base) (k := k) (N := N) (sp := spD K PP) lk hcd S StX.cxUp hb fun A outer s H vs Q E hr hsp => by
    obtain ⟨G, m, ds, Qd, Xd, c, rd, hp, kq, kx⟩ := hsp
    refine ⟨tssX _ (defBody st), pssX (defBody st), ?_⟩
    refine hbody ⟨cxOf (L2.CX P w) P w K mg base N qual (defScope st) f cdv A outer s H E, G⟩ f cdv A outer s H E rfl hr ⟨S.nd, rfl, passes_of rfl⟩ ds m Qd Xd hp ?_ G (L2.start N vs) H (Sub.refl G) (repe_start rd ?_) c _ ?_
    · exact ⟨fun cls d _ H => E cls d H, takes_of rfl rfl rfl rfl, fun C d l m' G' H' σ h1 h2 h3 h4 => kx C d l m' G' H' h1 h2 h3 h4⟩
    · have h1 := len _ _ _ _ hp
      have h2 := congrArg List.length S.pre
      rw [List.length_take, List.length_append] at h2
      show ds.length ≤ N.length
      simp only [List.length_singleton] at h2
      omega
    · exact ⟨fun σ' ρ' m' G' H' s' r' c' q => kq .non .non m' G' H' s' c' rfl q, kq, fun σ' ρ' m' G' H' s' r' c' q => q.elim, fun σ' ρ' m' G' H' s' r' c' q => q.elim⟩
  intro A outer s H us vs Q E hr e0 rv hsp
  refine key A outer s H us vs Q E hr e0 rv ?_
  obtain ⟨G, m, ds, Qd, Xd, c, rd, ⟨ws, rest, rfl, hn, hl, hp⟩, kq, kx⟩ := hsp
  obtain ⟨ys, zs, rfl, r1, r2⟩ := reps_split rd
  refine ⟨ys, zs, rfl, (reps_len r1).trans hn, by rw [reps_len r2]; exact hl, fun p hp0 => ?_⟩
  have sb := sub_upd (o := HO.tup zs) (c.none hp0).1
  exact ⟨upd G p (.tup zs), m, ws ++ [.tup rest], Qd, Xd, c.new hp0, reps_app (Reps.sub sb _ _ r1) (show Reps K (upd G p (.tup zs)) [D.tup rest] [V.ref p] from ⟨_, _, rfl, ⟨p, zs, rfl, SqT.of upd_same, Reps.sub sb _ _ r2⟩, rfl⟩), hp, kq.sub sb, fun C d l m' G' H' s1 => kx C d l m' G' H' (sb.trans s1)⟩
theorem runs_mkR {B : Bx} {k : Nat} {C f : Addr} {PP : PD} (M : Mk B.X.K C f) (F : FnR B.X.prog B.X.w B.X.K B.X.mg B.X.base (L2.CX B.X.prog B.X.w) k f (spD B.X.K PP)) (hr : Room (k + 1) B.X.A) : Runs B (.ref C) (mkP C PP) := by
  intro pins s σ H us vs ds m G Q Qd Xd I rv s0 c rd hp kq hx
  have J := Inv.made (C := C) I
  have h1 := I.hok.fresh (Nat.le_succ s.heap.objs.size)
  have h2 := I.hok.fresh (Nat.le_refl s.heap.objs.size)
  have q0 : spD B.X.K PP (.ref (s.heap.objs.size + 1) :: vs) (upd (upd H s.heap.objs.size (.own (s.heap.objs.size + 1))) (s.heap.objs.size + 1) (.ins C s.heap.objs.size [])) (fun v H2 => v = .non ∧ Q (.ref (s.heap.objs.size + 1)) H2) (xeD B.X.K G Xd) :=
    ⟨G, _, .ref (s.heap.objs.size + 1) :: ds, _, _, cur_made c h1 h2 (Nat.ne_of_lt (Nat.lt_succ_self _)), ⟨_, _, rfl, rfl, rd⟩, hp _ _ (c.none h1).2, vp_made kq, xp_made⟩
  have rr : Vals (V.ref (s.heap.objs.size + 1) :: vs) (Value.ref (s.heap.objs.size + 1) :: us) := .cons rfl rv
  refine wpAny_call (make_map (f := f) I.kIn M.makes M.init (beq_iff_eq.mp M.fn) (codeAny_mono (F _ B.X.stack _ _ (.ref (s.heap.objs.size + 1) :: us) _ _ _ (hr.make C us []) (J.env0.make C us []) rr q0) fun r s' hq => ?_))
  match r, hq with
  | .error e, hq => exact hx.pass pins _ _ e s' J hq
  | .ok (.ret u), hq =>
    obtain ⟨v, H', J', rv, ev, q3⟩ := J.after hq
    subst ev
    exact ⟨rv, V.ref (s.heap.objs.size + 1), H', J', rfl, q3⟩
  | .ok .next, hq => exact hq.elim
  | .ok .brk, hq => exact hq.elim
  | .ok .cont, hq => exact hq.elim
theorem calv_of {B : Bx} {x : Str} {C : Addr} {n k k' : Nat} {PP : PD} (g : VF P w K mg base x C n k PP) (hr : Room k' B.X.A) (hk : k + 1 ≤ k') (h : Hs P w K mg base B) (hg : Gl B.X x) : GCal B x (mkP C (starP n PP)) := by
  obtain ⟨f, h1, h2, h3⟩ := g.ex
  obtain ⟨rfl, rfl, rfl, rfl, rfl⟩ := h
  exact ⟨hg, ⟨C, h1, h2.kp, runs_mkR h2 h3 (hr.mono hk)⟩⟩
end
end Pd
namespace Pd
open PySem PySem.Spec PyProof.Rows L2
structure CR where
  z : Str
  s : Int
  o : Int
  len : Option Int
  r : Int
  gs : List Int
abbrev rowT (c : CR) : D := .tup [.str c.z, .int c.s, .int c.o, oD c.len, .int c.r, .lst (c.gs.map .int)]
abbrev GoodC (b : Nat) (c : CR) : Prop := GP b c.z c.s c.o c.len c.r c.gs
def spanI (len : Option Int) (r : Int) : Int := match len with
  | some n => r * n
  | none => 0
def perI (cs : List CR) : Int := (cs.map fun c => spanI c.len c.r).sum
def blockF (s n : Int) (gs : List Int) : Nat → List Int
  | 0 => []
  | k + 1 => blockF s n gs k ++ gs.map fun g => s + (k : Int) * n + g
def cpartF (s : Int) (c : CR) : List Int := match c.len with
  | some n => blockF s n c.gs c.r.toNat
  | none => []
def placesF (s : Int) : List CR → List Int
  | [] => []
  | c :: cs => cpartF s c ++ placesF (s + spanI c.len c.r) cs
def whereF : Int → List CR → Option (CR × Int)
  | _, [] => none
  | p, c :: cs => if p < spanI c.len c.r then some (c, p) else whereF (p - spanI c.len c.r) cs
structure FitC (c : CR) : Prop where
  r0 : 1 ≤ c.r
  n0 : ∀ n, c.len = some n → 1 ≤ n
  gs : ∀ n, c.len = some n → ∀ g ∈ c.gs, 0 ≤ g ∧ g < n
  up : c.gs.Pairwise (· < ·)
theorem fit_of {b : Nat} {c : CR} (h : GoodC b c) : FitC c := by
  have pw := good_pw h.gd
  refine ⟨h.ok.2.1.1, fun n e => ?_, fun n e g hg => ⟨by have := (pw.2 g hg).1; omega, (pw.2 g hg).2 n e⟩, pw.1⟩
  have := h.ok.2.2
  rw [e] at this
  exact this
theorem span_nn {c : CR} (h : FitC c) : 0 ≤ spanI c.len c.r := by
  unfold spanI
  cases e : c.len with
  | none => exact Int.le_refl 0
  | some n => exact Int.mul_nonneg (by have := h.r0; omega) (by have := h.n0 n e; omega)
theorem per_cons {c : CR} {cs : List CR} : perI (c :: cs) = spanI c.len c.r + perI cs := by
  unfold perI; rw [List.map_cons, List.sum_cons]
theorem per_nn : ∀ {cs : List CR}, (∀ c ∈ cs, FitC c) → 0 ≤ perI cs
  | [], _ => Int.le_refl 0
  | c :: cs, h => by
    have a := span_nn (h c List.mem_cons_self)
    have b := per_nn fun x hx => h x (List.mem_cons_of_mem c hx)
    rw [per_cons]; omega
theorem block_mem {s n : Int} {gs : List Int} {x : Int} : ∀ {k : Nat}, x ∈ blockF s n gs k ↔ ∃ t : Nat, t < k ∧ ∃ g ∈ gs, x = s + (t : Int) * n + g
  | 0 => ⟨fun h => (by cases h), fun ⟨_, h, _⟩ => absurd h (by omega)⟩
  | k + 1 => by
    unfold blockF
    rw [List.mem_append, block_mem, List.mem_map]
    constructor
    · rintro (⟨t, h, g, a, b⟩ | ⟨g, a, b⟩)
      · exact ⟨t, by omega, g, a, b⟩
      · exact ⟨k, by omega, g, a, b.symm⟩
    · rintro ⟨t, h, g, a, b⟩
      rcases Nat.lt_succ_iff_lt_or_eq.mp h with h | rfl
      · exact .inl ⟨t, h, g, a, b⟩
      · exact .inr ⟨g, a, b.symm⟩
theorem mul_lt_of {t k : Nat} {n g : Int} (h : t < k) (g0 : 0 ≤ g) (g1 : g < n) : 0 ≤ (t : Int) * n + g ∧ (t : Int) * n + g < (k : Int) * n := by
  have a : 0 ≤ (t : Int) * n := Int.mul_nonneg (by omega) (by omega)
  have b : ((t : Int) + 1) * n ≤ (k : Int) * n := Int.mul_le_mul_of_nonneg_right (by omega) (by omega)
  rw [Int.add_mul, Int.one_mul] at b
  exact ⟨by omega, by omega⟩
theorem part_range {s : Int} {c : CR} (h : FitC c) {x : Int} (hx : x ∈ cpartF s c) : s ≤ x ∧ x < s + spanI c.len c.r := by
  unfold cpartF at hx
  unfold spanI
  cases e : c.len with
  | none => rw [e] at hx; cases hx
  | some n =>
    rw [e] at hx
    obtain ⟨t, ht, g, hg, rfl⟩ := block_mem.mp hx
    obtain ⟨g0, g1⟩ := h.gs n e g hg
    have := mul_lt_of ht g0 g1
    have hr := h.r0
    have er : ((c.r.toNat : Nat) : Int) = c.r := by omega
    rw [er] at this
    simp only
    omega
theorem places_range : ∀ {cs : List CR} {s x : Int}, (∀ c ∈ cs, FitC c) → x ∈ placesF s cs → s ≤ x ∧ x < s + perI cs
  | [], s, x, _, h => by cases h
  | c :: cs, s, x, hf, h => by
    have hc := hf c List.mem_cons_self
    have hf2 := fun y hy => hf y (List.mem_cons_of_mem c hy)
    have sn := span_nn hc
    have pn := per_nn hf2
    rw [per_cons]
    rcases List.mem_append.mp h with h | h
    · have := part_range hc h; omega
    · have := places_range hf2 h; omega
theorem block_up {s n : Int} {gs : List Int} (h : gs.Pairwise (· < ·)) (hg : ∀ g ∈ gs, 0 ≤ g ∧ g < n) : ∀ k : Nat, (blockF s n gs k).Pairwise (· < ·)
  | 0 => .nil
  | k + 1 => by
    unfold blockF
    refine List.pairwise_append.mpr ⟨block_up h hg k, ?_, fun x hx y hy => ?_⟩
    · exact List.pairwise_map.mpr (h.imp fun {a b} hab => by omega)
    · obtain ⟨t, ht, g, a, rfl⟩ := block_mem.mp hx
      obtain ⟨g2, b, rfl⟩ := List.mem_map.mp hy
      have := mul_lt_of ht (hg g a).1 (hg g a).2
      have := (hg g2 b).1
      omega
theorem part_up {s : Int} {c : CR} (h : FitC c) : (cpartF s c).Pairwise (· < ·) := by
  unfold cpartF
  cases e : c.len with
  | none => exact .nil
  | some n => exact block_up h.up (h.gs n e) _
theorem places_up : ∀ {cs : List CR} {s : Int}, (∀ c ∈ cs, FitC c) → (placesF s cs).Pairwise (· < ·)
  | [], _, _ => .nil
  | c :: cs, s, hf => by
    have hc := hf c List.mem_cons_self
    have hf2 := fun y hy => hf y (List.mem_cons_of_mem c hy)
    refine List.pairwise_append.mpr ⟨part_up hc, places_up hf2, fun x hx y hy => ?_⟩
    have a := part_range hc hx
    have b := places_range hf2 hy
    omega
theorem block_len {s n : Int} {gs : List Int} : ∀ k : Nat, (blockF s n gs k).length = k * gs.length
  | 0 => by simp [blockF]
  | k + 1 => by
    unfold blockF
    rw [List.length_append, block_len k, List.length_map, Nat.succ_mul]
def lapsI (c : CR) : Int := match c.len with
  | some _ => c.r
  | none => 0
def cntI (cs : List CR) : Int := (cs.map fun c => lapsI c * (c.gs.length : Int)).sum
theorem places_len : ∀ {cs : List CR} {s : Int}, (∀ c ∈ cs, FitC c) → ((placesF s cs).length : Int) = cntI cs
  | [], _, _ => rfl
  | c :: cs, s, hf => by
    have hc := hf c List.mem_cons_self
    have hf2 := fun y hy => hf y (List.mem_cons_of_mem c hy)
    unfold placesF cntI
    rw [List.length_append, List.map_cons, List.sum_cons]
    have ih : ((placesF (s + spanI c.len c.r) cs).length : Int) = cntI cs := places_len hf2
    unfold cntI at ih
    have : ((cpartF s c).length : Int) = lapsI c * (c.gs.length : Int) := by
      unfold cpartF lapsI
      cases e : c.len with
      | none => simp
      | some n =>
        simp only
        rw [block_len]
        have := hc.r0
        rw [Int.natCast_mul, show ((c.r.toNat : Nat) : Int) = c.r by omega]
    omega
theorem part_mem {s p : Int} {c : CR} (h : FitC c) (hp : 0 ≤ p) (hs : p < spanI c.len c.r) : s + p ∈ cpartF s c ↔ ∃ n, c.len = some n ∧ p % n ∈ c.gs := by
  unfold cpartF
  unfold spanI at hs
  cases e : c.len with
  | none => rw [e] at hs; simp only at hs; omega
  | some n =>
    rw [e] at hs
    simp only at hs ⊢
    have n0 := h.n0 n e
    rw [block_mem]
    constructor
    · rintro ⟨t, ht, g, hg, he⟩
      obtain ⟨g0, g1⟩ := h.gs n e g hg
      refine ⟨n, rfl, ?_⟩
      have : p = g + n * t := by rw [Int.mul_comm]; omega
      rw [this, Int.add_mul_emod_self_left, Int.emod_eq_of_lt g0 g1]
      exact hg
    · rintro ⟨n', e', hm⟩
      cases e'
      have d0 : 0 ≤ p / n := Int.ediv_nonneg hp (by omega)
      have hr := h.r0
      have d1 : p / n < c.r := Int.ediv_lt_of_lt_mul (by omega) hs
      have hd := Int.mul_ediv_add_emod p n
      refine ⟨(p / n).toNat, by omega, _, hm, ?_⟩
      rw [show (((p / n).toNat : Nat) : Int) = p / n by omega, Int.mul_comm]
      omega
theorem places_mem : ∀ {cs : List CR} {s p : Int}, (∀ c ∈ cs, FitC c) → 0 ≤ p → (s + p ∈ placesF s cs ↔ ∃ c rest n, whereF p cs = some (c, rest) ∧ c.len = some n ∧ rest % n ∈ c.gs)
  | [], s, p, _, _ => ⟨fun h => (by cases h), fun ⟨_, _, _, h, _⟩ => (by cases h)⟩
  | c :: cs, s, p, hf, hp => by
    have hc := hf c List.mem_cons_self
    have hf2 := fun y hy => hf y (List.mem_cons_of_mem c hy)
    unfold placesF whereF
    rw [List.mem_append]
    by_cases hs : p < spanI c.len c.r
    · rw [if_pos hs, part_mem hc hp hs]
      constructor
      · rintro (⟨n, a, b⟩ | h)
        · exact ⟨c, p, n, rfl, a, b⟩
        · have := places_range hf2 h; omega
      · rintro ⟨c', r', n, h, a, b⟩
        cases h
        exact .inl ⟨n, a, b⟩
    · rw [if_neg hs]
      have ih := places_mem (s := s + spanI c.len c.r) (p := p - spanI c.len c.r) hf2 (by omega)
      rw [show s + spanI c.len c.r + (p - spanI c.len c.r) = s + p by omega] at ih
      rw [← ih]
      constructor
      · rintro (h | h)
        · have := part_range hc h; omega
        · exact h
      · exact .inr
theorem where_some : ∀ {cs : List CR} {p : Int}, (∀ c ∈ cs, FitC c) → 0 ≤ p → p < perI cs → ∃ c rest n, whereF p cs = some (c, rest) ∧ c ∈ cs ∧ c.len = some n ∧ 0 ≤ rest ∧ rest < c.r * n
  | [], p, _, h0, h1 => by
    have : perI [] = 0 := rfl
    omega
  | c :: cs, p, hf, h0, h1 => by
    have hf2 := fun y hy => hf y (List.mem_cons_of_mem c hy)
    unfold whereF
    by_cases hs : p < spanI c.len c.r
    · rw [if_pos hs]
      cases e : c.len with
      | none => rw [e] at hs; unfold spanI at hs; simp only at hs; omega
      | some n => exact ⟨c, p, n, rfl, List.mem_cons_self, e, h0, by rw [e] at hs; exact hs⟩
    · rw [if_neg hs]
      rw [per_cons] at h1
      obtain ⟨c', r', n, a, b, d⟩ := where_some (p := p - spanI c.len c.r) hf2 (by omega) (by omega)
      exact ⟨c', r', n, a, List.mem_cons_of_mem _ b, d⟩
theorem per_app : ∀ {a b : List CR}, perI (a ++ b) = perI a + perI b
  | [], b => by show perI b = 0 + perI b; omega
  | c :: a, b => by rw [List.cons_append, per_cons, per_cons, per_app (a := a)]; omega
theorem places_app : ∀ {a b : List CR} {s : Int}, placesF s (a ++ b) = placesF s a ++ placesF (s + perI a) b
  | [], b, s => by show placesF s b = placesF (s + 0) b; rw [Int.add_zero]
  | c :: a, b, s => by
    rw [List.cons_append]
    show cpartF s c ++ placesF _ (a ++ b) = (cpartF s c ++ placesF _ a) ++ _
    rw [places_app (a := a), per_cons, List.append_assoc, Int.add_assoc]
theorem places_one {c : CR} {s : Int} : placesF s [c] = cpartF s c := by
  show cpartF s c ++ [] = _
  rw [List.append_nil]
theorem per_one {c : CR} : perI [c] = spanI c.len c.r := by rw [per_cons]; show _ + 0 = _; omega
theorem take_snoc {α : Type} {l : List α} {i : Nat} {a : α} (h : l[i]? = some a) : l.take (i + 1) = l.take i ++ [a] := by
  obtain ⟨hl, he⟩ := List.getElem?_eq_some_iff.mp h
  rw [List.take_succ_eq_append_getElem hl, he]
inductive TErr where
  | name | none | many | empty (z : Str) | twice (z : Str)
def dupF : List Str → List CR → Option Str
  | _, [] => Option.none
  | k, c :: cs => if c.z ∈ k then some c.z else dupF (k ++ [c.z]) cs
def hollowF : List CR → Option Str
  | [] => Option.none
  | c :: cs => if c.len = Option.none then some c.z else hollowF cs
open Classical in
noncomputable def trackE (nm : Str) (cs : List CR) : Option TErr :=
  if ¬ okS nm then some .name else if cs.length = 0 then some .none else if 3 < cs.length then some .many else
  match (if 1 < cs.length then hollowF cs else Option.none) with
  | some z => some (.empty z)
  | Option.none => (dupF [] cs).map .twice
theorem trackE_name {nm : Str} {cs : List CR} (h : ¬ okS nm) : trackE nm cs = some .name := if_pos h
theorem trackE_none {nm : Str} {cs : List CR} (h : okS nm) (h1 : cs.length = 0) : trackE nm cs = some .none := by
  unfold trackE; rw [if_neg (fun k => k h), if_pos h1]
theorem trackE_many {nm : Str} {cs : List CR} (h : okS nm) (h1 : 3 < cs.length) : trackE nm cs = some .many := by
  unfold trackE; rw [if_neg (fun k => k h), if_neg (by omega), if_pos h1]
theorem trackE_empty {nm z : Str} {cs : List CR} (h : okS nm) (h1 : 1 < cs.length) (h3 : cs.length ≤ 3) (he : hollowF cs = some z) : trackE nm cs = some (.empty z) := by
  unfold trackE; rw [if_neg (fun k => k h), if_neg (by omega), if_neg (by omega), if_pos h1, he]
theorem trackE_dup {nm : Str} {cs : List CR} (h : okS nm) (h1 : 1 ≤ cs.length) (h3 : cs.length ≤ 3) (he : 1 < cs.length → hollowF cs = Option.none) : trackE nm cs = (dupF [] cs).map .twice := by
  unfold trackE; rw [if_neg (fun k => k h), if_neg (by omega), if_neg (by omega)]
  by_cases h2 : 1 < cs.length
  · rw [if_pos h2, he h2]
  · rw [if_neg h2]
theorem dup_fresh : ∀ {cs : List CR} {k : List Str}, (k ++ cs.map (·.z)).Nodup → dupF k cs = Option.none
  | [], _, _ => rfl
  | c :: cs, k, h => by
    unfold dupF
    have hn : ¬ c.z ∈ k := fun hm => by
      have := (List.nodup_append.mp h).2.2 _ hm c.z (by simp)
      exact this rfl
    rw [if_neg hn]
    refine dup_fresh ?_
    rw [List.append_assoc]
    exact h
section
variable {B : Bx} {m : Mem} {Q : D → Mem → Prop}
theorem wc_lenN {z : Str} {n : Nat} (h : z.length = n) (hz : n ≤ sizeLine) (q : Q (.int n) m) : WC B (.builtin "len") [.str z] m Q := wc_lenS (by rw [h]; exact hz) (by rw [h]; exact q)
theorem wi_sgn {z : Str} {i : Int} {n : Nat} {P : Nat → Bool} (h0 : 0 ≤ i) (h1 : i < n) (hl : z.length = n) (hz : n ≤ sizeLine) (ha : z.cps.toList.all P = true) (q : ∀ c, P c = true → Q (.str ⟨#[c]⟩) m) : WI B (.str z) (.int i) m Q := by
  obtain ⟨c, hc⟩ := atI_sgn (z := z) h0 (by rw [hl]; exact h1)
  refine wi_str (by rw [hl]; exact hz) hc (q c (List.all_eq_true.mp ha c ?_))
  unfold atI at hc
  cases e : ixN z.cps.toList.length i with
  | none => rw [e] at hc; cases hc
  | some j => rw [e] at hc; exact List.mem_of_getElem? hc
end
end Pd
namespace Pd
open PySem PySem.Spec PyProof.Rows L2
section
variable {B : Bx} {m : Mem} {Q : D → Mem → Prop}
theorem wc_max {ns : List Int} (k : Bok B) (h : 0 < ns.length) (q : ∀ i, i ∈ ns → (∀ j ∈ ns, j ≤ i) → Q (.int i) m) : WC B (.builtin "max") [.lst (ns.map D.int)] m Q := wc_of (cr_max k.calm) fun G H vs c rd Q' kq => by
  obtain ⟨v, rfl, p, xs, rfl, hq, rx⟩ := rep1 rd
  refine ⟨p, ns, rfl, ?_, h, fun i h1 h2 => c.vp kq (d := .int _) rfl (q i h1 h2)⟩
  rw [← reps_intsI rx]
  exact SqL.sub c.ex hq
theorem wc_min {ns : List Int} (k : Bok B) (h : 0 < ns.length) (q : ∀ i, i ∈ ns → (∀ j ∈ ns, i ≤ j) → Q (.int i) m) : WC B (.builtin "min") [.lst (ns.map D.int)] m Q := wc_of (cr_min k.calm) fun G H vs c rd Q' kq => by
  obtain ⟨v, rfl, p, xs, rfl, hq, rx⟩ := rep1 rd
  refine ⟨p, ns, rfl, ?_, h, fun i h1 h2 => c.vp kq (d := .int _) rfl (q i h1 h2)⟩
  rw [← reps_intsI rx]
  exact SqL.sub c.ex hq
end
theorem Kq.nm {m m1 m2 : Mem} {p q : Addr} (a : Kq m m1 p) (h : m q = Option.none) (k : ∀ a, a ≠ p → a ≠ q → m2 a = m1 a) : Kq m m2 p := fun r u hr e => by
  have hne : r ≠ q := fun z => by rw [z, h] at e; cases e
  rw [k r hr hne]; exact a r u hr e
structure GT (b : Nat) (nm : Str) (cs : List CR) : Prop where
  nm : okS nm
  l1 : 1 ≤ cs.length
  l3 : cs.length ≤ 3
  gc : ∀ c ∈ cs, GoodC b c
  nd : (cs.map (·.z)).Nodup
  hol : 1 < cs.length → ∀ c ∈ cs, c.len ≠ none
theorem GP.mono {a b : Nat} {z : Str} {s o : Int} {len : Option Int} {r : Int} {gs : List Int} (h : GP a z s o len r gs) (k : a ≤ b) : GP b z s o len r gs :=
  ⟨h.s0, h.sz.mono k, h.oz.mono k, h.ok, h.gd, h.gl, fun g hg => (h.gz g hg).mono k, fun n e => (h.lz n e).mono k⟩
theorem GT.mono {a b : Nat} {nm : Str} {cs : List CR} (h : GT a nm cs) (k : a ≤ b) : GT b nm cs := ⟨h.nm, h.l1, h.l3, fun c hc => (h.gc c hc).mono k, h.nd, h.hol⟩
theorem GT.fit {b : Nat} {nm : Str} {cs : List CR} (h : GT b nm cs) : ∀ c ∈ cs, FitC c := fun c hc => fit_of (h.gc c hc)
theorem hollow_no : ∀ {cs : List CR}, (∀ c ∈ cs, c.len ≠ none) → hollowF cs = none
  | [], _ => rfl
  | c :: cs, h => by
    unfold hollowF
    rw [if_neg (h c List.mem_cons_self)]
    exact hollow_no fun d hd => h d (List.mem_cons_of_mem _ hd)
theorem GT.r4 {b : Nat} {nm : Str} {cs : List CR} (h : GT b nm cs) : ∀ c ∈ cs, 1 ≤ c.r ∧ c.r ≤ 4 := fun c hc => (h.gc c hc).ok.2.1
theorem GT.fine {b : Nat} {nm : Str} {cs : List CR} (h : GT b nm cs) : trackE nm cs = none := by
  rw [trackE_dup h.nm h.l1 h.l3 fun k => hollow_no (h.hol k), dup_fresh (k := []) h.nd]; rfl
theorem where_mem : ∀ {cs : List CR} {p : Int} {c : CR} {x : Int}, whereF p cs = some (c, x) → c ∈ cs
  | [], _, _, _, h => by cases h
  | a :: cs, p, c, x, h => by
    unfold whereF at h
    by_cases g : p < spanI a.len a.r
    · rw [if_pos g] at h; cases h; exact List.mem_cons_self
    · rw [if_neg g] at h; exact List.mem_cons_of_mem _ (where_mem h)
theorem name_one {cs : List CR} (h : (cs.map (·.z)).Nodup) {a b : CR} (ha : a ∈ cs) (hb : b ∈ cs) (e : a.z = b.z) : a = b := by
  induction cs with
  | nil => cases ha
  | cons c cs ih =>
    rw [List.map_cons, List.nodup_cons] at h
    rcases List.mem_cons.mp ha with rfl | ha2 <;> rcases List.mem_cons.mp hb with rfl | hb2
    · rfl
    · exact absurd (by rw [e]; exact List.mem_map_of_mem hb2) h.1
    · exact absurd (by rw [← e]; exact List.mem_map_of_mem ha2) h.1
    · exact ih h.2 ha2 hb2
theorem guard_iff {cs : List CR} {p : Int} {c : CR} {x n : Int} (hf : ∀ c ∈ cs, FitC c) (hp : 0 ≤ p) (hw : whereF p cs = some (c, x)) (hl : c.len = some n) : p ∈ placesF 0 cs ↔ x % n ∈ c.gs := by
  have h := places_mem (s := 0) (p := p) hf hp
  rw [Int.zero_add] at h
  rw [h]
  constructor
  · rintro ⟨c', x', n', a, b, d⟩
    rw [hw] at a; cases a
    rw [hl] at b; cases b
    exact d
  · exact fun d => ⟨c, x, n, hw, hl, d⟩
theorem per_take {cs : List CR} {i : Nat} {c : CR} (h : cs[i]? = some c) : perI (cs.take (i + 1)) = perI (cs.take i) + spanI c.len c.r := by
  rw [take_snoc h, per_app, per_one]
theorem per_take_le {cs : List CR} (hf : ∀ c ∈ cs, FitC c) (i : Nat) : 0 ≤ perI (cs.take i) ∧ perI (cs.take i) ≤ perI cs := by
  have h := List.take_append_drop i cs
  have e : perI cs = perI (cs.take i) + perI (cs.drop i) := by rw [← per_app, h]
  have a := per_nn fun c hc => hf c (List.mem_of_mem_take (i := i) hc)
  have b := per_nn fun c hc => hf c (List.mem_of_mem_drop (i := i) hc)
  omega
theorem sz_up {b : Nat} {i j : Int} (h : Sz b i) (k : j.natAbs ≤ i.natAbs + 1) : Sz (b + 1) j := by
  unfold Sz at h ⊢
  rw [Nat.pow_succ]
  have : 1 ≤ 2 ^ b := Nat.one_le_two_pow
  omega
theorem clipOk_some {z : Str} {n r : Int} (hz : okS z) (hr : 1 ≤ r ∧ r ≤ 4) (hn : 1 ≤ n) : clipOk z (some n) r := ⟨hz, hr, hn⟩
theorem clipOk_none {z : Str} (hz : okS z) : clipOk z none 1 := ⟨hz, by omega, rfl⟩
end Pd
namespace Pd
open PySem PySem.Spec PyProof.Rows L2
def findF (nm : Str) : List CR → Option CR
  | [] => none
  | c :: cs => if c.z = nm then some c else findF nm cs
def startF (nm : Str) : Int → List CR → Option Int
  | _, [] => none
  | s, c :: cs => if c.z = nm then some s else startF nm (s + spanI c.len c.r) cs
theorem find_mem {nm : Str} : ∀ {cs : List CR} {c : CR}, findF nm cs = some c → c ∈ cs ∧ c.z = nm
  | [], _, h => by cases h
  | a :: cs, c, h => by
    unfold findF at h
    by_cases g : a.z = nm
    · rw [if_pos g] at h; cases h; exact ⟨List.mem_cons_self, g⟩
    · rw [if_neg g] at h; exact ⟨List.mem_cons_of_mem _ (find_mem h).1, (find_mem h).2⟩
theorem findF_none {nm : Str} : ∀ {cs : List CR}, findF nm cs = none ↔ ∀ c ∈ cs, c.z ≠ nm
  | [] => ⟨fun _ _ h => (by cases h), fun _ => rfl⟩
  | a :: cs => by
    unfold findF
    by_cases g : a.z = nm
    · rw [if_pos g]; exact ⟨fun h => (by cases h), fun h => absurd g (h a List.mem_cons_self)⟩
    · rw [if_neg g, findF_none]
      exact ⟨fun h c hc => (by rcases List.mem_cons.mp hc with rfl | hc; exact g; exact h c hc), fun h c hc => h c (List.mem_cons_of_mem _ hc)⟩
theorem find_one {nm : Str} {cs : List CR} {c : CR} (hd : (cs.map (·.z)).Nodup) (hc : c ∈ cs) (e : c.z = nm) : findF nm cs = some c := by
  cases h : findF nm cs with
  | none => exact absurd e (findF_none.mp h c hc)
  | some d => rw [name_one hd (find_mem h).1 hc ((find_mem h).2.trans e.symm)]
theorem start_iff {nm : Str} : ∀ {cs : List CR} {s : Int}, startF nm s cs = none ↔ findF nm cs = none
  | [], _ => ⟨fun _ => rfl, fun _ => rfl⟩
  | a :: cs, s => by
    unfold startF findF
    by_cases g : a.z = nm
    · rw [if_pos g, if_pos g]; exact ⟨fun h => (by cases h), fun h => (by cases h)⟩
    · rw [if_neg g, if_neg g]; exact start_iff
theorem start_where : ∀ {cs : List CR} {s p : Int} {c : CR} {x : Int}, (cs.map (·.z)).Nodup → whereF p cs = some (c, x) → startF c.z s cs = some (s + p - x)
  | [], _, _, _, _, _, h => by cases h
  | a :: cs, s, p, c, x, hn, h => by
    unfold whereF at h
    unfold startF
    rw [List.map_cons, List.nodup_cons] at hn
    by_cases g : p < spanI a.len a.r
    · rw [if_pos g] at h; cases h
      rw [if_pos rfl, show s + p - p = s by omega]
    · rw [if_neg g] at h
      have hc := where_mem h
      rw [if_neg (fun e => hn.1 (by rw [e]; exact List.mem_map_of_mem hc)), start_where hn.2 h]
      congr 1
      omega
theorem start_take {nm : Str} : ∀ {cs : List CR} {i : Nat} {c : CR} {s : Int}, (cs.map (·.z)).Nodup → cs[i]? = some c → c.z = nm → startF nm s cs = some (s + perI (cs.take i))
  | [], _, _, _, _, h, _ => by simp at h
  | a :: cs, 0, c, s, _, h, e => by
    simp at h; subst h
    unfold startF
    rw [if_pos e]
    show _ = some (s + 0)
    rw [Int.add_zero]
  | a :: cs, i + 1, c, s, hn, h, e => by
    rw [List.getElem?_cons_succ] at h
    rw [List.map_cons, List.nodup_cons] at hn
    unfold startF
    rw [if_neg (fun z => hn.1 (by rw [z, ← e]; exact List.mem_map_of_mem (List.mem_of_getElem? h))), start_take hn.2 h e, List.take_succ_cons, per_cons, Int.add_assoc]
theorem start_le {cs : List CR} {i : Nat} {c : CR} (hf : ∀ c ∈ cs, FitC c) (h : cs[i]? = some c) : 0 ≤ perI (cs.take i) ∧ perI (cs.take i) + spanI c.len c.r ≤ perI cs := by
  have a := per_take h
  have b := per_take_le hf (i + 1)
  have d := per_take_le hf i
  omega
theorem turn_in {x n r : Int} (hn : 1 ≤ n) (h0 : 0 ≤ x) (h1 : x < r * n) : 0 ≤ x / n ∧ x / n < r ∧ 0 ≤ x % n ∧ x % n < n ∧ x / n * n + x % n = x := by
  refine ⟨Int.ediv_nonneg h0 (by omega), Int.ediv_lt_of_lt_mul (by omega) h1, Int.emod_nonneg _ (by omega), Int.emod_lt_of_pos _ (by omega), ?_⟩
  have := Int.mul_ediv_add_emod x n
  rw [Int.mul_comm]; exact this
theorem per_zero {b : Nat} {nm : Str} {cs : List CR} (hg : GT b nm cs) (h : perI cs = 0) : ∃ c, cs = [c] ∧ c.len = none := by
  match cs, hg with
  | [], hg => exact absurd hg.l1 (by decide)
  | c :: cs, hg =>
    have hc := hg.fit c List.mem_cons_self
    rw [per_cons] at h
    have hp := per_nn fun x hx => hg.fit x (List.mem_cons_of_mem c hx)
    have hs := span_nn hc
    have e : c.len = none := by
      cases e : c.len with
      | none => rfl
      | some n =>
        have n0 := hc.n0 n e
        have r0 := hc.r0
        have : 0 < spanI c.len c.r := by unfold spanI; rw [e]; exact Int.mul_pos (by omega) (by omega)
        omega
    cases cs with
    | nil => exact ⟨c, rfl, e⟩
    | cons d cs => exact absurd e (hg.hol (by simp) c List.mem_cons_self)
theorem per_none {c : CR} (h : c.len = none) : perI [c] = 0 := by
  rw [per_one]; unfold spanI; rw [h]
theorem per_some {b : Nat} {nm : Str} {cs : List CR} (hg : GT b nm cs) (h : perI cs ≠ 0) : ∀ c ∈ cs, ∃ n, c.len = some n := by
  intro c hc
  cases e : c.len with
  | some n => exact ⟨n, rfl⟩
  | none =>
    refine absurd ?_ h
    have l1 : cs.length = 1 := by
      have := hg.l1
      apply Classical.byContradiction
      intro z
      exact hg.hol (by omega) c hc e
    match cs, l1 with
    | [d], _ => rw [List.mem_singleton.mp hc] at e; exact per_none e
end Pd
namespace Pd
open PySem PySem.Spec PyProof.Rows L2
abbrev itT (t : Addr) : Obj := { cls := .type "tuple_iterator", data := .fields #[.ref t, .int 0 0] }
def ItT (t it : Addr) : HO := .ext fun h => h.get? it = some (itT t)
theorem itT_ok {P : Program} {w : World} {H : Hp} {h : Heap} {t it : Addr} (e : h.get? it = some (itT t)) : ObjOk P w H h it (ItT t it) := ⟨e, ⟨_, e⟩, fun h1 h2 q k => k _ q⟩
theorem itT_get {X : Cx} {pins : List (Addr × Obj)} {σ : L2.St} {H : Hp} {s : Shared} {t it : Addr} (I : Inv X pins σ H s) (e : H it = some (ItT t it)) : s.heap.get? it = some (itT t) := (I.hok it _ e).1
theorem call_iter_tup {prog : Program} {w : World} {A : Around} {E : Value → Shared → Prop} {s : Shared} {t : Addr} {items : Array Value} {Q : Value → Shared → Prop} (ht : s.heap.IsTuple t items) (h : Q (.ref s.heap.objs.size) { s with heap := s.heap.push (itT t) }) : wpAny (model prog w) A (call (.builtin "iter") [.ref t]) Q E s := by
  refine Calls.call_function_entry (by decide +kernel) (by decide +kernel) PySem.W.kdk_entry_iter (PySem.W.kdk_args_iter _) ?_
  unfold Builtin.«iter»
  refine wpAny_bind (m := someArgs "iter" 1 2 _) (wpAny_of_eq (a := [Value.ref t]) (by first | rfl | kernel_rfl!) ?_)
  show wpAny _ _ (pyIter (.ref t) >>= _) _ _ _
  refine wpAny_bind (wpAny_pyIter_tuple ht ?_)
  exact wpAny_pure ⟨_, rfl, h⟩
def rIterT (K : PySem.W.Frag) (n : Nat) : List V → Hp → VK → Prop := fun xs H Q => ∃ (t : Addr) (zs : List V), xs = [.ref t] ∧ SqT K H t zs ∧ ∀ it, H it = none → n ≤ it → Q (.ref it) (upd H it (ItT t it))
theorem call_iterT {X : Cx} : CallR X (.builtin "iter") (rIterT X.K X.s_0.heap.objs.size) := by
  intro pins s σ H xs us Q I r h
  obtain ⟨t, zs, rfl, hq, q⟩ := h
  obtain rfl := Vals.ref1 r
  obtain ⟨its, rv, pl, hz⟩ := I.tuple hq
  refine call_iter_tup (show s.heap.IsTuple t its.toArray from pl) ?_
  exact ⟨.ref s.heap.objs.size, _, I.laid (t' := s.toks) (fun b u e => Heap.get?_push_of_some _ e) (Nat.le_refl _) (itT_ok (Heap.get?_push_size _ rfl)), rfl, q _ (I.hok.fresh (Nat.le_refl _)) I.sz⟩
def ItRes (outer : List Env) (P : Program) (w : World) (H : Hp) (s : Shared) (t : Addr) (r : Result) (s' : Shared) : Prop := ∃ it, r = .ok (.ret (.ref it)) ∧ s.heap.objs.size ≤ it ∧ CE outer P w H s (fun v H' => v = .ref it ∧ H it = none ∧ H' = upd H it (ItT t it)) (.ref it) s'
section
variable (P : Program) (w : World) (K : PySem.W.Frag) (mg : Str → Option Value) (base : Heap)
structure ItF (C : Addr) (fld : Str) (k : Nat) : Prop where
  cl : Cls K C
  na : NoAttr K C fld
  ex : ∃ (f : Addr) (fd : FuncData), Meth K C "__iter__" f ∧ Binds K fd [("self" : Str)] [] ∧
    ∀ (A : Around) (outer : List Env) (s : Shared) (H : Hp) (a dx t : Addr) (fs : List (Str × V)) (xs : List V), Room k A → Env0 P w K mg base A outer s H → H a = some (.ins C dx fs) → fs.lookup fld = some (.ref t) → SqT K H t xs →
      codeAny (model P w) A (.call (.ref f) ⟨[.ref a], []⟩) (ItRes outer P w H s t) s
variable {P : Program} {w : World} {K : PySem.W.Frag} {mg : Str → Option Value} {base : Heap}
theorem boot_iter' : bootBuiltins "iter" = some (.builtin "iter") := by first | rfl | decide +kernel
theorem it_ok {C : Addr} {qual fld : Str} {st : Stmt} {p1 p2 p3 p4 p5 : Pos} {k : Nat} (GD : MDef K C "__iter__" qual st [("self" : Str)]) (S : FnScope [("self" : Str)] [("self" : Str)] (defScope st)) (hb : defBody st = [.Return (some (.Call (.Name "iter" p1) [.Attribute (.Name "self" p2) fld p3] [] p4)) p5])
    (hm : mg "iter" = none) (hg : ∀ (f : Addr) (cd : Value) (A : Around) (outer : List Env) (s : Shared) (H : Hp) (E : XK), Gl (cxOf (L2.CX P w) P w K mg base [("self" : Str)] qual (defScope st) f cd A outer s H E) "iter") (hv : (defScope st).names.lookup ("self" : Str) = some .local)
    (ht : ∀ env : Env, attributeBase (.Name "self" p2) fld env (eval (.Name "self" p2) env) = eval (.Name "self" p2) env) (hs : ∀ env : Env, starEach [.Attribute (.Name "self" p2) fld p3] env = (false, eval (.Attribute (.Name "self" p2) fld p3) env) :: starEach [] env)
    (cl : Cls K C) (na : NoAttr K C fld) : ItF P w K mg base C fld (k + 1) := by
  obtain ⟨f, fd, h1, F, h3⟩ := GD.ex
  obtain ⟨oc, od, dV, kV, doc, pm, an, cdv, ct, osl, rfl, lk, hcd⟩ := F
  refine ⟨cl, na, f, _, h1, h3, ?_⟩
  intro A outer s H a dx t fs xs hr e0 ha hl hq
  have KX : K.In s.heap := e0.mod.kin.keeps fun b o e => (e0.bs b o e).1
  have rv : Vals [V.ref a] [Value.ref a] := .cons rfl .nil
  have hbd := h3 s [.ref a] KX rfl
  rw [List.append_nil] at hbd
  let Q : VK := fun v H' => ∃ it, s.heap.objs.size ≤ it ∧ v = .ref it ∧ H it = none ∧ H' = upd H it (ItT t it)
  have hbody : ∃ t', PSs (cxOf (L2.CX P w) P w K mg base [("self" : Str)] qual (defScope st) f cdv A outer s H fun _ _ _ => False) (defBody st) t' ∧ t' { nx := fun _ H' => Q .non H', rt := Q } (L2.start [("self" : Str)] [V.ref a]) H := by
    rw [hb]
    exact ⟨_, pss_one (ps_ret (pe_callB call_iterT (hg _ _ _ _ _ _ _) hm boot_iter' (pa_cons (pe_fld (pe_var (i := 0) rfl (.inl hv)) (ht _)) pa_nil (hs _)) (by decide) (by decide) (hs _))), ⟨_, rfl, a, C, dx, fs, _, rfl, ha, cl, na, hl, t, xs, rfl, hq, fun it hi hn => ⟨it, hn, rfl, hi, rfl⟩⟩⟩
  have main : codeAny (model P w) A (.call (.ref f) ⟨[.ref a], []⟩) (L2.CR (L2.CX P w) outer P w H s Q fun _ _ _ => False) s := by
    refine codeAny_call_function hr.depth (KX _ _ lk) rfl S.co S.gen rfl (PySem.W.codeRec_of KX hcd) (hbd _ _ _ _ ?_)
    refine wpAny_newFunctionEnv_cells S.kind (fun y hy => .inl (by obtain rfl := List.mem_singleton.mp hy; exact hv)) fun env he s1 x => ?_
    subst he
    refine ⟨(e0.mod.nolimit.keeps fun b o e => (e0.bs b o e).1).keeps x.toInCall.keep, codeAny_func ?_⟩
    obtain ⟨t', hp, hq'⟩ := hbody
    refine wpAny_mono (hp.run [] s1 _ H _ (inv_start S hr.hd e0 rfl rv x) hq') (fun fl s' z => ?_) fun e s' z => z
    cases fl with
    | ret u =>
      obtain ⟨v, σ', H', J, rv2, q⟩ := z
      exact ⟨v, H', J.os, J.bare, J.base, J.hok, rv2, q⟩
    | next =>
      obtain ⟨_, _, _, it, _, e, _⟩ := z
      cases e
    | brk =>
      obtain ⟨_, _, _, q⟩ := z
      exact q.elim
    | cont =>
      obtain ⟨_, _, _, q⟩ := z
      exact q.elim
  refine codeAny_mono main fun r s' z => ?_
  cases r with
  | error e =>
    obtain ⟨a1, B1, H', cls, d1, e1, fl1, hok, ub, na1, os, ag, hE⟩ := z
    exact hE.elim
  | ok fl =>
    cases fl with
    | next => exact False.elim z
    | brk => exact False.elim z
    | cont => exact False.elim z
    | ret u =>
      obtain ⟨v, H', os, bare, un, hok, r, it, hsz, rfl, hn, rfl⟩ := z
      obtain rfl : u = Value.ref it := r
      exact ⟨it, rfl, hsz, V.ref it, _, os, bare, un, hok, rfl, rfl, hn, rfl⟩
end
def OwnI (B : Bx) (C : Addr) (fld : Str) : Prop := ∃ k, ItF B.X.prog B.X.w B.X.K B.X.mg B.X.base C fld k ∧ Room k B.X.A
theorem itb_of {P : Program} {w : World} {K : PySem.W.Frag} {mg : Str → Option Value} {base : Heap} {B : Bx} {C : Addr} {fld : Str} {k k' : Nat} (g : ItF P w K mg base C fld k) (hr : Room k' B.X.A) (hk : k ≤ k') (h : Hs P w K mg base B) : OwnI B C fld := by
  obtain ⟨rfl, rfl, rfl, rfl, rfl⟩ := h
  exact ⟨k, g, hr.mono hk⟩
section
variable {B : Bx} {tg iter : Expr} {ρ : DE} {m : Mem} {Q : QJ}
theorem wj_own {C : Addr} {fld : Str} (F : OwnI B C fld) (h : WE B iter ρ m fun d m1 => ∃ fl l, d = .ins C fl ∧ fl.lookup fld = some (.tup l) ∧ Q l (fun _ => True) m1) : WJ B tg iter ρ m Q := fun G σ H s r c R kk => by
  obtain ⟨k, F, hr⟩ := F
  intro pins s0 I
  refine thn (h G σ H s r c (fun v H1 => ∃ d m1 G1 fl l, Sub G G1 ∧ Cur B.X.K G1 m1 H1 ∧ Rep B.X.K G1 d v ∧ d = .ins C fl ∧ fl.lookup fld = some (.tup l) ∧ Q l (fun _ => True) m1) (fun v d m1 G1 H1 s1 c1 r1 ⟨fl, l, q1, q2, q3⟩ => ⟨d, m1, G1, fl, l, s1, c1, r1, q1, q2, q3⟩) pins s0 I) fun u s1 ⟨v, H1, I1, rv, d, m1, G1, fl, l, sb, c1, r1, q1, q2, q3⟩ => ?_
  subst q1
  obtain ⟨a, dx, fs, rfl, ha0, rf⟩ := r1
  have ha : H1 a = some (.ins C dx fs) := c1.ex _ _ ha0
  obtain rfl : u = Value.ref a := rv
  obtain ⟨vt, hvt, rt⟩ := repf_get rf q2
  obtain ⟨t, xs, rfl, hT, hX⟩ := rt
  have hT1 : SqT B.X.K H1 t xs := SqT.sub c1.ex hT
  obtain ⟨f, fd, hm, hb, hF⟩ := F.ex
  obtain ⟨mA, J, _⟩ := ins_get I1.hok ha
  obtain ⟨od, J, _⟩ := J.look
  obtain ⟨mF, hFr⟩ := I1.fr
  refine PySem.W.owit_iter hFr I1.ok.mod.kin J hm.at_ hm.fn ?_
  refine wpAny_call (codeAny_mono (hF B.X.A B.X.stack s1 H1 a dx t fs xs hr I1.env0 ha hvt hT1) fun r2 s2 hq => ?_)
  obtain ⟨it, rfl, hsz, v, H2, os, bare, un, hok, r, rfl, hn, rfl⟩ := hq
  have I2 : Inv B.X pins σ (upd H1 it (ItT t it)) s2 := by
    obtain ⟨hh, g, d, tk, os'⟩ := s2
    obtain rfl : os' = s1.os := os
    exact I1.call (h' := hh) (g' := g) (d' := d) (t' := tk) (ch := []) un hok bare (fun b z => absurd z (by simp))
  have hit : (upd H1 it (ItT t it)) it = some (ItT t it) := upd_same
  have eo := itT_get I2 hit
  have I3 : Inv B.X pins σ H1 s2 := by
    have := ItX.inv_drop I2 hit
    rwa [ItX.dropH_upd hn] at this
  have fp := ItX.inv_fp I2 hit (Nat.le_trans I1.sz hsz)
  rw [ItX.dropH_upd hn] at fp
  have hk : R (Itt B.X.K t) H1 := kk _ m1 G1 H1 l (fun _ => True) sb c1 (fun i G' m' H' s' c' _ => turns_seq (J := Itt B.X.K t) (x := .tup l) ⟨t, xs, rfl, hT, hX⟩ rfl (fun i H xs y a b => ⟨xs, y, a, b⟩) (fun i H v H' y => y) (fun i H xs a b => ⟨xs, a, b⟩) i G' m' H' s' c' (.inr rfl)) q3
  have st : s2.heap.IsTupleIter it t 0 := ⟨_, eo, rfl, rfl⟩
  have hT2 : s2.TypeIs (.ref it) "tuple_iterator" := ⟨_, eo, rfl⟩
  unfold PySem.W.OwitIt
  refine wpAny_specialOf hT2 slot_tupleiter_next.lookup ?_
  show PIE _ _ _ _ _ _ _
  refine ⟨it, [it], _, _, H1, rfl, I3, turn_tuple t it, st, fun b hb => ?_, hk⟩
  obtain rfl := List.mem_singleton.mp hb
  exact fp
end
end Pd
namespace Pd
open PySem PySem.Spec PyProof.Rows L2
theorem reps_strs {K : PySem.W.Frag} {G : Hp} : ∀ {ls : List Str} {xs : List V}, Reps K G (ls.map D.str) xs → xs = ls.map V.str
  | [], _, h => h
  | z :: ls, _, h => by
    obtain ⟨x, r, rfl, h1, h2⟩ := h
    obtain rfl : x = .str z := h1
    rw [reps_strs h2]; rfl
structure CCon (K : PySem.W.Frag) (C : Addr) (f : Str) (d : D) : Prop where
  ex : ∃ v u, ClX.CRead K C (.type "type") ∧ ClX.CVal K C (.type "type") f v u ∧ ∀ G, Rep K G d v
section
variable {B : Bx} {o a b e : Expr} {ρ : DE} {m : Mem} {Q : D → Mem → Prop} {pos p0 apos : Pos} {x f : Str} {C : Addr} {d : D}
theorem we_ccon (h0 : GCls B x C) (hc : CCon B.X.K C f d) (q : Q d m) (hd : (x == ("__debug__" : Str)) = false) (hb : attributeBase (.Name x p0) f B.X.env (eval (.Name x p0) B.X.env) = eval (.Name x p0) B.X.env) : WE B (.Attribute (.Name x p0) f pos) ρ m Q := fun G σ H s r c Q' k => by
  refine teX_of (ClX.pe_cval (peX _) hb) ?_
  refine we_cls (pos := p0) h0 (Q := fun y m1 => y = .ref C ∧ m1 = m) ⟨rfl, rfl⟩ hd G σ H s r c _ fun v y m1 G1 H1 s1 c1 r1 ⟨e1, e2⟩ => ?_
  subst e1 e2
  obtain rfl : v = .ref C := r1
  obtain ⟨w, u0, h1, h2, hr⟩ := hc.ex
  exact ⟨C, _, w, u0, rfl, h1, h2, c1.vp (k.sub s1) (hr G1) q⟩
theorem we_lindex (h : WE B o ρ m fun x m1 => ∃ ls : List Str, Lv x m1 (ls.map D.str) ∧ Pd.WE B a ρ m1 fun y m2 => Lv x m2 (ls.map D.str) ∧ ∃ z j, y = .str z ∧ ls[j]? = some z ∧ (∀ i, i < j → ls[i]? ≠ some z) ∧ Q (.int (j : Nat)) m2)
    (hbase : attributeBase o ("index" : Str) B.X.env (eval o B.X.env) = eval o B.X.env)
    (hfew : ((backTo pos (starEach [a] B.X.env)).all (fun x => !x.1) && (backToKw pos (keywordEach [] B.X.env)).all (fun x => x.1.isSome)
      && decide ((a :: []).length + ([] : List Keyword).length + (if ([] : List Keyword).isEmpty then 0 else 1) < 30)) = true)
    (hline : (apos.endLine == pos.line) = true) (hs : starEach [a] B.X.env = (false, eval a B.X.env) :: starEach [] B.X.env) (hplain : (backTo pos (starEach [] B.X.env)).any (·.1) = false) :
    WE B (.Call (.Attribute o "index" apos) [a] [] pos) ρ m Q := fun G σ H s r c Q' k => by
  refine teX_of (pe_bm PySem.F.plainAttrs_list PySem.F.slot_list_index PySem.F.type_list_index mt_index (peX o) (pa_cons (peX a) pa_nil hs) hbase hfew hline hs hplain) ?_
  refine h G σ H s r c _ fun v x m1 G1 H1 s1 c1 r1 ⟨ls, hv, q0⟩ => ?_
  obtain ⟨p, xs, rfl, hq, rx⟩ := lv_get hv c1 r1
  refine ⟨.inl ⟨rfl, _, hq⟩, ?_⟩
  refine q0 G1 σ H1 (s.trans s1) (r.sub s1) c1 _ fun u y m2 G2 H2 s2 c2 r2 ⟨hv2, z, j, ey, hj, hno, q⟩ => ?_
  subst ey
  obtain rfl : u = .str z := r2
  obtain ⟨p', xs2, e, hq2, rx2⟩ := lv_get hv2 c2 (Rep.sub s2 _ _ r1)
  injection e with e
  subst e
  obtain rfl : xs2 = ls.map V.str := reps_strs rx2
  refine ⟨_, _, .str z, j, .str z, rfl, rfl, hq2, rfl, List.all_eq_true.mpr fun y hy => ?_, ?_, ?_, fun i z' hi hz => ?_, ?_⟩
  · obtain ⟨w, _, rfl⟩ := List.mem_map.mp hy; rfl
  · rw [List.getElem?_map, hj]; rfl
  · show decide (z = z) = true
    exact decide_eq_true rfl
  · rw [List.getElem?_map] at hz
    obtain ⟨w, hw, rfl⟩ := Option.map_eq_some_iff.mp hz
    show decide (w = z) = false
    exact decide_eq_false fun e => hno i hi (by rw [hw, e])
  · exact k (.int j) (.int (j : Nat)) _ G2 _ (s1.trans s2) c2 rfl q
mutual
def pyD : D → PyData → Prop
  | .non, y => y = .none
  | .bl b, y => y = .bool b
  | .int i, y => y = .int i
  | .str x, y => y = .str x
  | .lst l, y => ∃ ds, y = .list ds ∧ pyDs l ds
  | .tup l, y => ∃ ds, y = .tuple ds ∧ pyDs l ds
  | _, _ => False
def pyDs : List D → List PyData → Prop
  | [], ys => ys = []
  | d :: l, ys => ∃ y r, ys = y :: r ∧ pyD d y ∧ pyDs l r
end
mutual
theorem py_dp {K : PySem.W.Frag} {G H : Hp} (s : Sub G H) : ∀ (d : D) (y : PyData) (v : V), pyD d y → Rep K G d v → Dp K H v y
  | .non, y, v, h, r => by obtain rfl := h; obtain rfl : v = .non := r; exact .non
  | .bl b, y, v, h, r => by obtain rfl := h; obtain rfl : v = .bl b := r; exact .bl b
  | .int i, y, v, h, r => by obtain rfl := h; obtain rfl : v = .int i := r; exact .int i
  | .str x, y, v, h, r => by obtain rfl := h; obtain rfl : v = .str x := r; exact .str x
  | .lst l, y, v, h, r => by
    obtain ⟨ds, rfl, h⟩ := h
    obtain ⟨a, xs, rfl, hq, rx⟩ := r
    exact .lst (SqL.sub s hq) (py_dps s l ds xs h rx)
  | .tup l, y, v, h, r => by
    obtain ⟨ds, rfl, h⟩ := h
    obtain ⟨a, xs, rfl, hq, rx⟩ := r
    exact .tup (SqT.sub s hq) (py_dps s l ds xs h rx)
  | .ref _, _, _, h, _ => h.elim
  | .ty _, _, _, h, _ => h.elim
  | .ins _ _, _, _, h, _ => h.elim
theorem py_dps {K : PySem.W.Frag} {G H : Hp} (s : Sub G H) : ∀ (l : List D) (ys : List PyData) (xs : List V), pyDs l ys → Reps K G l xs → DpAll K H xs ys
  | [], ys, xs, h, r => by obtain rfl := h; obtain rfl : xs = [] := r; exact .nil
  | d :: l, ys, xs, h, r => by
    obtain ⟨y, t, rfl, h1, h2⟩ := h
    obtain ⟨x, u, rfl, r1, r2⟩ := r
    exact .cons (py_dp s d y x h1 r1) (py_dps s l t u h2 r2)
end
theorem wb_eqPy {x y : D} {dx dy : PyData} {b : Bool} {k : Nat} (hr : Room k B.X.A) (h1 : pyD x dx) (h2 : pyD y dy) (s1 : SeqAt.shaped dx = true) (s2 : SeqAt.shaped dy = true) (hb : PyData.eqv dx dy = b) (q : Q (.bl b) m) : WB B (compareOp .Eq) x y m Q := wb_of (op_eqD hr.units) fun G H v u c r1 r2 Q' kk =>
  ⟨dx, dy, py_dp c.ex x dx v h1 r1, py_dp c.ex y dy u h2 r2, s1, s2, by rw [hb]; exact c.vp kk (d := .bl b) rfl q⟩
theorem wb_nePy {x y : D} {dx dy : PyData} {b : Bool} {k : Nat} (hr : Room k B.X.A) (h1 : pyD x dx) (h2 : pyD y dy) (s1 : SeqAt.shaped dx = true) (s2 : SeqAt.shaped dy = true) (hb : PyData.eqv dx dy = !b) (q : Q (.bl b) m) : WB B (compareOp .NotEq) x y m Q := wb_of (op_neD hr.units) fun G H v u c r1 r2 Q' kk =>
  ⟨dx, dy, py_dp c.ex x dx v h1 r1, py_dp c.ex y dy u h2 r2, s1, s2, by rw [hb, Bool.not_not]; exact c.vp kk (d := .bl b) rfl q⟩
end
theorem pld_mapL {α : Type} {n : Nat} {f : α → D} {l : List α} (h : l.length ≤ 1000) (hf : ∀ x ∈ l, PlD n (f x)) : PlD (n + 1) (.lst (l.map f)) := ⟨by rw [List.length_map]; omega, fun d hd => by
  obtain ⟨x, hx, rfl⟩ := List.mem_map.mp hd
  exact hf x hx⟩
theorem pld_mapT {α : Type} {n : Nat} {f : α → D} {l : List α} (h : l.length ≤ 1000) (hf : ∀ x ∈ l, PlD n (f x)) : PlD (n + 1) (.tup (l.map f)) := ⟨by rw [List.length_map]; omega, fun d hd => by
  obtain ⟨x, hx, rfl⟩ := List.mem_map.mp hd
  exact hf x hx⟩
theorem pld_str0 {n : Nat} {z : Str} : PlD n (.str z) := by cases n <;> exact True.intro
theorem pld_int0 {n : Nat} {i : Int} : PlD n (.int i) := by cases n <;> exact True.intro
theorem pld_bl0 {n : Nat} {i : Bool} : PlD n (.bl i) := by cases n <;> exact True.intro
theorem pld_oD0 {n : Nat} {i : Option Int} : PlD n (oD i) := by cases i <;> cases n <;> exact True.intro
theorem pld_strs {n : Nat} {l : List Str} (h : l.length ≤ 1000) : PlD (n + 1) (.lst (l.map D.str)) := pld_mapL h fun _ _ => pld_str0
theorem pld_intL {n : Nat} {l : List Int} (h : l.length ≤ 1000) : PlD (n + 1) (.lst (l.map D.int)) := pld_mapL h fun _ _ => pld_int0
theorem pld_strsT {n : Nat} {l : List Str} (h : l.length ≤ 1000) : PlD (n + 1) (.tup (l.map D.str)) := pld_mapT h fun _ _ => pld_str0
theorem pld_intT {n : Nat} {l : List Int} (h : l.length ≤ 1000) : PlD (n + 1) (.tup (l.map D.int)) := pld_mapT h fun _ _ => pld_int0
theorem wi_mutA {B : Bx} {m : Mem} {Q : D → Mem → Prop} {p : Addr} {l : List D} {i : Int} (h : m p = some (.lst l)) (h0 : 0 ≤ i) (h1 : i < l.length) (q : ∀ d, l[i.toNat]? = some d → Q d m) : WI B (.ref p) (.int i) m Q := by
  obtain ⟨d, _, ha, hd⟩ := atI_in h0 h1
  exact wi_mut h ha (q d hd)
def sOk (z : Str) : Prop := ∀ c ∈ z.cps.toList, c < 0x110000
theorem sOk_py {z : Str} (h : sOk z) : PyData.strOk z = true := by
  show z.cps.all (fun x => decide (x < 0x110000)) = true
  rw [← Array.all_toList]
  exact List.all_eq_true.mpr fun c hc => decide_eq_true (h c hc)
theorem sOk_cat {a b : Str} (h : sOk a) (k : sOk b) : sOk (a ++ b) := fun c hc => by
  have e : (a ++ b).cps.toList = a.cps.toList ++ b.cps.toList := by show (a.cps ++ b.cps).toList = _; exact Array.toList_append
  rw [e] at hc
  exact (List.mem_append.mp hc).elim (h c) (k c)
theorem sOk_cut {z : Str} {a b : Option Int} (h : sOk z) : sOk (cutS z a b) := fun c hc => h c (by
  unfold cutS at hc
  exact List.mem_of_mem_drop (List.mem_of_mem_take hc))
theorem sOk_okS {z : Str} (h : okS z) : sOk z := fun c hc => by
  have := h.2.2 c hc
  unfold isL isG at this
  omega
theorem sOk_one {c : Nat} (h : c < 0x110000) : sOk ⟨#[c]⟩ := fun d hd => by
  obtain rfl : d = c := by simpa using hd
  exact h
theorem sOk_lit {z : Str} (h : z.cps.toList.all (fun c => decide (c < 0x110000)) = true) : sOk z := fun c hc => of_decide_eq_true (List.all_eq_true.mp h c hc)
end Pd
namespace Pd
open PySem PySem.Spec PyProof.Rows L2
theorem reps_ofstrs {K : PySem.W.Frag} {G : Hp} : ∀ {ls : List Str}, Reps K G (ls.map D.str) (ls.map V.str)
  | [] => rfl
  | z :: ls => ⟨_, _, rfl, rfl, reps_ofstrs⟩
section
variable {B : Bx} {o a b e : Expr} {ρ : DE} {m : Mem} {Q : D → Mem → Prop} {pos p0 apos : Pos}
theorem we_split (h : WE B o ρ m fun x m1 => ∃ z, x = .str z ∧ Pd.WE B a ρ m1 fun y m2 => ∃ w, y = .str w ∧ (w.length == 0) = false ∧ z.length + 2 ≤ sizeLine ∧ NewL Q ((Txt.split z w).map D.str) m2)
    (hbase : attributeBase o ("split" : Str) B.X.env (eval o B.X.env) = eval o B.X.env)
    (hfew : ((backTo pos (starEach [a] B.X.env)).all (fun x => !x.1) && (backToKw pos (keywordEach [] B.X.env)).all (fun x => x.1.isSome)
      && decide ((a :: []).length + ([] : List Keyword).length + (if ([] : List Keyword).isEmpty then 0 else 1) < 30)) = true)
    (hline : (apos.endLine == pos.line) = true) (hs : starEach [a] B.X.env = (false, eval a B.X.env) :: starEach [] B.X.env) (hplain : (backTo pos (starEach [] B.X.env)).any (·.1) = false) :
    WE B (.Call (.Attribute o "split" apos) [a] [] pos) ρ m Q :=
  we_strm PySem.F.slot_str_split PySem.F.type_str_split mt_split (WE.mono h fun x m1 ⟨z, e1, g⟩ => ⟨z, e1, WE.mono g fun y m2 ⟨w, e2, hw, hz, q⟩ => ⟨w, e2, fun G H Q' c k => ⟨z, w, rfl, rfl, hw, hz, newl_ok k c reps_ofstrs q⟩⟩⟩) hbase hfew hline hs hplain
theorem we_join (h : WE B o ρ m fun x m1 => ∃ z, x = .str z ∧ Pd.WE B a ρ m1 fun y m2 => ∃ ls : List Str, Sv y m2 (ls.map D.str) ∧ (ls.map (·.length)).sum + ls.length * z.length ≤ 16777216 ∧ Q (.str (Txt.join z ls)) m2)
    (hbase : attributeBase o ("join" : Str) B.X.env (eval o B.X.env) = eval o B.X.env)
    (hfew : ((backTo pos (starEach [a] B.X.env)).all (fun x => !x.1) && (backToKw pos (keywordEach [] B.X.env)).all (fun x => x.1.isSome)
      && decide ((a :: []).length + ([] : List Keyword).length + (if ([] : List Keyword).isEmpty then 0 else 1) < 30)) = true)
    (hline : (apos.endLine == pos.line) = true) (hs : starEach [a] B.X.env = (false, eval a B.X.env) :: starEach [] B.X.env) (hplain : (backTo pos (starEach [] B.X.env)).any (·.1) = false) :
    WE B (.Call (.Attribute o "join" apos) [a] [] pos) ρ m Q := fun G σ H s r0 c Q' k => by
  refine teX_of (pe_bm PySem.F.plainAttrs_str PySem.F.slot_str_join PySem.F.type_str_join mt_join (peX o) (pa_cons (peX a) pa_nil hs) hbase hfew hline hs hplain) ?_
  refine h G σ H s r0 c _ fun v x m1 G1 H1 s1 c1 r1 ⟨z, ex, q0⟩ => ?_
  subst ex
  obtain rfl : v = .str z := r1
  refine ⟨rfl, ?_⟩
  refine q0 G1 σ H1 (s.trans s1) (r0.sub s1) c1 _ fun u y m2 G2 H2 s2 c2 r2 ⟨ls, hv, hz, q⟩ => ?_
  obtain ⟨p, xs, rfl, hq, rx⟩ := sv_get hv c2 r2
  obtain rfl := reps_strs rx
  refine ⟨z, p, ls, rfl, rfl, ?_, hz, k (.str (Txt.join z ls)) (.str (Txt.join z ls)) _ G2 _ (s1.trans s2) c2 rfl q⟩
  cases ht : tagD y with
  | true => rw [ht] at hq; exact .inr hq
  | false => rw [ht] at hq; exact .inl hq
theorem we_extend (h : WE B o ρ m fun x m1 => ∃ p l0, x = .ref p ∧ m1 p = some (.lst l0) ∧ Pd.WE B e ρ m1 fun d m2 => ∃ q l l2, d = .ref q ∧ q ≠ p ∧ m2 p = some (.lst l) ∧ m2 q = some (.lst l2) ∧ l.length + l2.length ≤ sizeLine ∧ Q .non (mdel (mset m2 p (.lst (l ++ l2))) q))
    (hbase : attributeBase o ("extend" : Str) B.X.env (eval o B.X.env) = eval o B.X.env)
    (hfew : ((backTo pos (starEach [e] B.X.env)).all (fun x => !x.1) && (backToKw pos (keywordEach [] B.X.env)).all (fun x => x.1.isSome)
      && decide ((e :: []).length + ([] : List Keyword).length + (if ([] : List Keyword).isEmpty then 0 else 1) < 30)) = true)
    (hline : (apos.endLine == pos.line) = true) (hs : starEach [e] B.X.env = (false, eval e B.X.env) :: starEach [] B.X.env) (hplain : (backTo pos (starEach [] B.X.env)).any (·.1) = false) :
    WE B (.Call (.Attribute o "extend" apos) [e] [] pos) ρ m Q := fun G σ H s r c Q' k => by
  refine teX_of (pe_bm PySem.F.plainAttrs_list PySem.F.slot_list_extend PySem.F.type_list_extend mt_extend (peX o) (pa_cons (peX e) pa_nil hs) hbase hfew hline hs hplain) ?_
  refine h G σ H s r c _ fun v x m1 G1 H1 s1 c1 r1 ⟨p, l0, ex, hm0, q0⟩ => ?_
  subst ex
  obtain rfl : v = .ref p := r1
  obtain ⟨_, o0, ho0, xs0, rfl, _⟩ := c1.mm p _ hm0
  refine ⟨.inl ⟨rfl, _, SqL.of ho0⟩, ?_⟩
  refine q0 G1 σ H1 (s.trans s1) (r.sub s1) c1 _ fun u d m2 G2 H2 s2 c2 r2 ⟨q, l, l2, ed, hqp, hm, hmq, hl, qq⟩ => ?_
  subst ed
  obtain rfl : u = .ref q := r2
  obtain ⟨_, o', ho, xs, rfl, rx⟩ := c2.mm p _ hm
  obtain ⟨_, o2, ho2, ys, rfl, ry⟩ := c2.mm q _ hmq
  refine ⟨p, q, xs, ys, rfl, rfl, ho, ho2, by rw [reps_len rx, reps_len ry]; exact hl, ?_⟩
  exact k .non .non _ G2 _ (s1.trans s2) ((c2.wr (u := .lst (l ++ l2)) hm ⟨_, rfl, reps_app rx ry⟩).drop) rfl qq
end
end Pd
namespace Pd
open PySem PySem.Spec PyProof.Rows L2
def joinW (ls : List Str) : Str := Txt.join (" " : Str) ls
theorem joinW_cons {a b : Str} {r : List Str} : joinW (a :: b :: r) = a ++ (" " : Str) ++ joinW (b :: r) := by
  unfold joinW; rw [TL.join_eq, TL.join_eq]; rfl
theorem joinW_one {a : Str} : joinW [a] = a := by unfold joinW; rw [TL.join_eq]; rfl
theorem str_assoc (a b c : Str) : a ++ b ++ c = a ++ (b ++ c) := TL.ext_tl (by rw [TL.tl_append, TL.tl_append, TL.tl_append, TL.tl_append, List.append_assoc])
theorem joinW_app : ∀ {a : List Str} {b : List Str}, a ≠ [] → b ≠ [] → joinW (a ++ b) = joinW a ++ (" " : Str) ++ joinW b
  | [], _, h, _ => absurd rfl h
  | [x], [], _, h => absurd rfl h
  | [x], y :: r, _, _ => by rw [joinW_one]; exact joinW_cons
  | x :: y :: r, b, _, h => by
    show joinW (x :: y :: (r ++ b)) = _
    rw [joinW_cons, joinW_cons, show y :: (r ++ b) = (y :: r) ++ b from rfl, joinW_app (by simp) h, str_assoc, str_assoc, str_assoc, str_assoc, str_assoc]
def noSp (z : Str) : Prop := 32 ∉ TL.tl z
theorem split_joinW {ls : List Str} (h : ls ≠ []) (hs : ∀ z ∈ ls, noSp z) : Txt.split (joinW ls) (" " : Str) = ls := TL.split_join (s := 32) (S := []) (by decide +kernel) (by decide +kernel) h hs
theorem okS_nosp {z : Str} (h : okS z) : noSp z := fun hm => by
  have := h.2.2 32 hm
  unfold isL isG at this
  omega
def numS (n : Nat) : Str := ⟨(TL.numL n).toArray⟩
theorem numS_of (n : Nat) : (Str.ofString (toString ((n : Nat) : Int))) = numS n := str_num n
theorem tl_numS {n : Nat} : TL.tl (numS n) = TL.numL n := by show (TL.numL n).toArray.toList = _; simp
theorem numS_nosp {n : Nat} : noSp (numS n) := by unfold noSp; rw [tl_numS]; exact TL.numL_free (.inl (by decide))
theorem numS_len {n : Nat} (h : n < 10 ^ 500) : (numS n).length ≤ 500 := str_len n h
theorem wrdG_nosp {s r : Nat} : noSp (wrdG s r) := by
  by_cases h : r = 0
  · subst h; rw [wrdG0]; exact numS_nosp
  · rw [← wrdG1 h]
    unfold noSp
    rw [TL.tl_append, TL.tl_append]
    intro hm
    rcases List.mem_append.mp hm with hm | hm
    · rcases List.mem_append.mp hm with hm | hm
      · exact numS_nosp hm
      · revert hm; decide +kernel
    · exact numS_nosp hm
def lenW : Option Int → Str
  | none => "empty"
  | some n => numS n.toNat
def wordsC (z : Str) (s r : Nat) (len : Option Int) (rd : Int) (gs : List Int) : List Str :=
  [z, wrdG s r, lenW len] ++ (if rd ≠ 1 then [("rounds" : Str), numS rd.toNat] else []) ++ (if gs ≠ [] then ("guards" : Str) :: gs.map (fun g => numS g.toNat) else [])
def wordsL (z : Str) (s r : Nat) (n : Int) (st : List Str) : List Str := [z, wrdG s r, numS n.toNat] ++ (if st ≠ [] then ("stops" : Str) :: st else [])
theorem lit_nosp {z : Str} (h : decide (32 ∈ TL.tl z) = false) : noSp z := of_decide_eq_false h
theorem wordsC_nosp {z : Str} {s r : Nat} {len : Option Int} {rd : Int} {gs : List Int} (h : okS z) : ∀ y ∈ wordsC z s r len rd gs, noSp y := fun y hy => by
  unfold wordsC at hy
  rcases List.mem_append.mp hy with hy | hy
  · rcases List.mem_append.mp hy with hy | hy
    · simp only [List.mem_cons, List.not_mem_nil, or_false] at hy
      rcases hy with rfl | rfl | rfl
      · exact okS_nosp h
      · exact wrdG_nosp
      · cases len with
        | none => exact lit_nosp (by decide +kernel)
        | some n => exact numS_nosp
    · split at hy
      · simp only [List.mem_cons, List.not_mem_nil, or_false] at hy
        rcases hy with rfl | rfl
        · exact lit_nosp (by decide +kernel)
        · exact numS_nosp
      · cases hy
  · split at hy
    · rcases List.mem_cons.mp hy with rfl | hy
      · exact lit_nosp (by decide +kernel)
      · obtain ⟨g, _, rfl⟩ := List.mem_map.mp hy
        exact numS_nosp
    · cases hy
theorem wordsL_nosp {z : Str} {s r : Nat} {n : Int} {st : List Str} (h : okS z) (hs : ∀ y ∈ st, okS y) : ∀ y ∈ wordsL z s r n st, noSp y := fun y hy => by
  unfold wordsL at hy
  rcases List.mem_append.mp hy with hy | hy
  · simp only [List.mem_cons, List.not_mem_nil, or_false] at hy
    rcases hy with rfl | rfl | rfl
    · exact okS_nosp h
    · exact wrdG_nosp
    · exact numS_nosp
  · split at hy
    · rcases List.mem_cons.mp hy with rfl | hy
      · exact lit_nosp (by decide +kernel)
      · exact okS_nosp (hs y hy)
    · cases hy
inductive LErr where
  | name | num | twice (z : Str)
def dupS : List Str → List Str → Option Str
  | _, [] => none
  | k, z :: zs => if z ∈ k then some z else dupS (k ++ [z]) zs
open Classical in
noncomputable def leadE (z : Str) (n : Int) (st : List Str) : Option LErr := if ¬ okS z then some .name else if n < 1 then some .num else (dupS [] st).map .twice
theorem leadE_name {z : Str} {n : Int} {st : List Str} (h : ¬ okS z) : leadE z n st = some .name := if_pos h
theorem leadE_num {z : Str} {n : Int} {st : List Str} (h : okS z) (h1 : n < 1) : leadE z n st = some .num := by unfold leadE; rw [if_neg (fun k => k h), if_pos h1]
theorem leadE_dup {z : Str} {n : Int} {st : List Str} (h : okS z) (h1 : ¬ n < 1) : leadE z n st = (dupS [] st).map .twice := by unfold leadE; rw [if_neg (fun k => k h), if_neg h1]
theorem dupS_fresh : ∀ {zs k : List Str}, (k ++ zs).Nodup → dupS k zs = none
  | [], _, _ => rfl
  | z :: zs, k, h => by
    show (if z ∈ k then some z else dupS (k ++ [z]) zs) = none
    have hz : z ∉ k := fun hm => (List.nodup_append.mp h).2.2 z hm z List.mem_cons_self rfl
    rw [if_neg hz]
    exact dupS_fresh (by rw [List.append_assoc]; exact h)
theorem leadE_fine {z : Str} {n : Int} {st : List Str} (h : okS z) (h1 : 1 ≤ n) (hd : st.Nodup) : leadE z n st = none := by
  rw [leadE_dup h (by omega), dupS_fresh (by simpa using hd)]; rfl
theorem ext_drop {m : Mem} {q q2 : Addr} {a b c : MO} (h : mset m q a q2 = none) : q2 ≠ q ∧ (mset (mset m q a) q2 b) q = some a ∧ mdel (mset (mset (mset m q a) q2 b) q c) q2 = mset m q c := by
  have hne : q2 ≠ q := fun e => by rw [e, mset_same] at h; cases h
  refine ⟨hne, by rw [mset_ne hne.symm, mset_same], ?_⟩
  rw [mset_ne hne] at h
  funext x
  unfold mdel mset
  by_cases e1 : x = q2
  · rw [if_pos e1, if_neg (by rw [e1]; exact hne), e1, h]
  · rw [if_neg e1]
    by_cases e2 : x = q
    · rw [if_pos e2, if_pos e2]
    · rw [if_neg e2, if_neg e1, if_neg e2, if_neg e2]
theorem sum_le {α : Type} {f : α → Nat} {b : Nat} : ∀ {l : List α}, (∀ x ∈ l, f x ≤ b) → (l.map f).sum ≤ b * l.length
  | [], _ => Nat.zero_le _
  | x :: l, h => by
    rw [List.map_cons, List.sum_cons, List.length_cons, Nat.mul_add]
    have := h x List.mem_cons_self
    have := sum_le fun y hy => h y (List.mem_cons_of_mem x hy)
    omega
theorem sp_len : ((" " : Str)).length = 1 := by decide +kernel
theorem joinW_len : ∀ {ls : List Str}, (joinW ls).length ≤ (ls.map fun z => z.length + 1).sum
  | [] => by show (joinW []).length ≤ 0; unfold joinW; rw [TL.join_eq]; exact Nat.le_refl 0
  | [a] => by rw [joinW_one, List.map_cons, List.sum_cons]; omega
  | a :: b :: r => by
    rw [joinW_cons, cat_len, cat_len, sp_len, List.map_cons, List.sum_cons]
    have := joinW_len (ls := b :: r)
    omega
theorem joinW_small {ls : List Str} {b n : Nat} (h : ∀ z ∈ ls, z.length ≤ b) (hn : ls.length ≤ n) : (joinW ls).length ≤ (b + 1) * n := by
  refine Nat.le_trans joinW_len (Nat.le_trans (sum_le (b := b + 1) fun z hz => ?_) (Nat.mul_le_mul_left _ hn))
  have := h z hz
  omega
theorem joinW_kw {W G : List Str} {k lit : Str} (hW : W ≠ []) (hG : G ≠ []) (hl : TL.tl lit = 32 :: TL.tl k ++ [32]) : joinW W ++ lit ++ joinW G = joinW (W ++ k :: G) := by
  rw [joinW_app hW (by simp)]
  cases G with
  | nil => exact absurd rfl hG
  | cons g gs =>
    rw [joinW_cons]
    refine TL.ext_tl ?_
    simp only [TL.tl_append]
    rw [hl, show TL.tl (" " : Str) = [32] by decide +kernel]
    simp
theorem joinW_head {a z w e lit : Str} (hl : TL.tl lit = TL.tl a ++ [32]) : lit ++ z ++ (" " : Str) ++ w ++ (" " : Str) ++ e = joinW [a, z, w, e] := by
  rw [joinW_cons, joinW_cons, joinW_cons, joinW_one]
  refine TL.ext_tl ?_
  simp only [TL.tl_append]
  rw [hl, show TL.tl (" " : Str) = [32] by decide +kernel]
  simp
theorem okS_l12 {z : Str} (h : okS z) : z.length ≤ 12 := by have := h.1.2; rw [len_tl] at this; exact this
end Pd
namespace Pd
open PySem PySem.Spec PyProof.Rows L2
theorem tw_all {g : Nat → Bool} : ∀ {w : List Nat}, (w.takeWhile g).length = w.length → ∀ c ∈ w, g c = true
  | [], _, c, hc => by cases hc
  | a :: w, h, c, hc => by
    cases e : g a with
    | false => rw [List.takeWhile_cons_of_neg (by rw [e]; decide)] at h; cases h
    | true =>
      rw [List.takeWhile_cons_of_pos e, List.length_cons, List.length_cons] at h
      rcases List.mem_cons.mp hc with rfl | hc
      · exact e
      · exact tw_all (by omega) c hc
theorem tw_full {g : Nat → Bool} : ∀ {w : List Nat}, (∀ c ∈ w, g c = true) → w.takeWhile g = w
  | [], _ => rfl
  | a :: w, h => by rw [List.takeWhile_cons_of_pos (h a List.mem_cons_self), tw_full fun c hc => h c (List.mem_cons_of_mem a hc)]
theorem tw_le {g : Nat → Bool} : ∀ {w : List Nat}, (w.takeWhile g).length ≤ w.length
  | [] => Nat.le_refl _
  | a :: w => by
    cases e : g a with
    | false => rw [List.takeWhile_cons_of_neg (by rw [e]; decide)]; exact Nat.zero_le _
    | true => rw [List.takeWhile_cons_of_pos e, List.length_cons, List.length_cons]; exact Nat.succ_le_succ tw_le
theorem tw_drop {g : Nat → Bool} : ∀ {w : List Nat}, (∀ c ∈ w.drop (w.takeWhile g).length, g c = true) → ∀ c ∈ w, g c = true
  | [], _, c, hc => by cases hc
  | a :: w, h, c, hc => by
    cases e : g a with
    | false =>
      rw [List.takeWhile_cons_of_neg (by rw [e]; decide)] at h
      exact h c hc
    | true =>
      rw [List.takeWhile_cons_of_pos e] at h
      rcases List.mem_cons.mp hc with rfl | hc
      · exact e
      · exact tw_drop (w := w) h c hc
theorem strip_empty {z y : Str} : Txt.stripChars z y = Str.empty ↔ ∀ c ∈ z.cps.toList, c ∈ y.cps.toList := by
  have hc : ∀ c, y.cps.contains c = true ↔ c ∈ y.cps.toList := fun c => by rw [Array.contains_iff_mem]; exact Array.mem_def
  have hlen : z.length = z.cps.toList.length := len_tl.symm
  unfold Txt.stripChars
  rw [PyProof.Rows.stripBy_eq]
  unfold PySem.Builtin.Str.strSub stripHi stripLo
  simp only [if_true]
  generalize hg : y.cps.contains = g at hc ⊢
  constructor
  · intro h c hcm
    have h2 : (z.cps.extract (z.cps.toList.takeWhile g).length (z.length - ((z.cps.toList.drop (z.cps.toList.takeWhile g).length).reverse.takeWhile g).length)).size = 0 := by
      have := congrArg (fun x : Str => x.cps.size) h
      exact this
    rw [Array.size_extract] at h2
    have hz : z.cps.size = z.cps.toList.length := by simp
    have l1 := tw_le (g := g) (w := z.cps.toList)
    have l2 := tw_le (g := g) (w := (z.cps.toList.drop (z.cps.toList.takeWhile g).length).reverse)
    rw [List.length_reverse, List.length_drop] at l2
    rw [hlen, hz] at h2
    have l3 : ((z.cps.toList.drop (z.cps.toList.takeWhile g).length).reverse.takeWhile g).length = (z.cps.toList.drop (z.cps.toList.takeWhile g).length).reverse.length := by
      rw [List.length_reverse, List.length_drop]
      omega
    have l4 := tw_all l3
    exact (hc c).mp (tw_drop (fun d hd => l4 d (List.mem_reverse.mpr hd)) c hcm)
  · intro h
    have e : z.cps.toList.takeWhile g = z.cps.toList := tw_full fun c hcm => (hc c).mpr (h c hcm)
    rw [e]
    have hz : z.cps.size = z.cps.toList.length := by simp
    show (⟨_⟩ : Str) = ⟨#[]⟩
    congr 1
    apply Array.eq_empty_of_size_eq_zero
    rw [Array.size_extract]
    omega
theorem strip_dec {z y : Str} : decide (Txt.stripChars z y = Str.empty) = decide (∀ c ∈ z.cps.toList, c ∈ y.cps.toList) := decide_eq_decide.mpr strip_empty
section
variable {B : Bx} {o a b e : Expr} {ρ : DE} {m : Mem} {Q : D → Mem → Prop} {pos p0 apos : Pos}
theorem we_strip (h : WE B o ρ m fun x m1 => ∃ z, x = .str z ∧ Pd.WE B a ρ m1 fun y m2 => ∃ w, y = .str w ∧ z.length ≤ sizeLine ∧ Q (.str (Txt.stripChars z w)) m2)
    (hbase : attributeBase o ("strip" : Str) B.X.env (eval o B.X.env) = eval o B.X.env)
    (hfew : ((backTo pos (starEach [a] B.X.env)).all (fun x => !x.1) && (backToKw pos (keywordEach [] B.X.env)).all (fun x => x.1.isSome)
      && decide ((a :: []).length + ([] : List Keyword).length + (if ([] : List Keyword).isEmpty then 0 else 1) < 30)) = true)
    (hline : (apos.endLine == pos.line) = true) (hs : starEach [a] B.X.env = (false, eval a B.X.env) :: starEach [] B.X.env) (hplain : (backTo pos (starEach [] B.X.env)).any (·.1) = false) :
    WE B (.Call (.Attribute o "strip" apos) [a] [] pos) ρ m Q :=
  we_strm PySem.F.slot_str_strip PySem.F.type_str_strip mt_stripChars (WE.mono h fun x m1 ⟨z, e1, g⟩ => ⟨z, e1, WE.mono g fun y m2 ⟨w, e2, hz, q⟩ => ⟨w, e2, fun G H Q' c k => ⟨z, w, rfl, rfl, hz, c.vp k (d := .str (Txt.stripChars z w)) rfl q⟩⟩⟩) hbase hfew hline hs hplain
end
end Pd
namespace K
open PySem PySem.Spec PyProof.Rows L2 Pd
local macro_rules | `(tactic| walk_at "attr") => `(tactic| first
  | ((with_reducible refine' we_ccon (f := "ROUNDS") ?k1 ?k2 ?_ ?k3 ?k4); (case k1 => walk_at "pd as"); (case k2 => walk_at "pd as"); (case k3 => decide); (case k4 => rfl))
  | ((with_reducible refine' we_con (f := "ROUNDS") ?_ ?k1); (case k1 => rfl))
  | ((with_reducible refine' we_ccon (f := "PATIENCE") ?k1 ?k2 ?_ ?k3 ?k4); (case k1 => walk_at "pd as"); (case k2 => walk_at "pd as"); (case k3 => decide); (case k4 => rfl))
  | ((with_reducible refine' we_con (f := "PATIENCE") ?_ ?k1); (case k1 => rfl))
  | ((with_reducible refine' we_ccon (f := "CLIPS") ?k1 ?k2 ?_ ?k3 ?k4); (case k1 => walk_at "pd as"); (case k2 => walk_at "pd as"); (case k3 => decide); (case k4 => rfl))
  | ((with_reducible refine' we_con (f := "CLIPS") ?_ ?k1); (case k1 => rfl))
  | ((with_reducible refine' we_prp (f := "span") ?_ ?k1); (case k1 => rfl))
  | ((with_reducible refine' we_prp (f := "empty") ?_ ?k1); (case k1 => rfl)))
local macro_rules | `(tactic| walk_at "pd as") => `(tactic| with_reducible assumption)
local macro_rules | `(tactic| walk_at "tz") => `(tactic| first | with_reducible assumption | omega)
local macro_rules | `(tactic| walk_at "pd go") => `(tactic| (refine wss_cons ?_))
local macro_rules | `(tactic| walk_at "pd WS") => `(tactic| first
  | ((with_reducible refine' ws_lcr ?k1 ?k2 ?k3 ?k11 ?k12 ?k13 ?k4 ?k5 ?k6 ?k7 ?_ ?k8 ?k9 ?k10); (case k1 => walk_at "pd as"); (case k2 => walk_at "pd as"); (case k3 => walk_at "pd as"); (case k11 => walk_at "pd as"); (case k12 => rfl); (case k13 => rfl); (case k4 => walk_at "pd as"); (case k5 => exact Nat.le_of_ble_eq_true rfl); (case k6 => rfl); (case k7 => decide +kernel); (case k8 => rfl); (case k9 => rfl); (case k10 => exact (fun _ => rfl)))
  | ((with_reducible refine' ws_lcl ?k1 ?k3 ?k11 ?k12 ?k13 ?k4 ?k5 ?k6 ?k7 ?_ ?k10); (case k1 => walk_at "pd as"); (case k3 => walk_at "pd as"); (case k11 => walk_at "pd as"); (case k12 => rfl); (case k13 => rfl); (case k4 => walk_at "pd as"); (case k5 => exact Nat.le_of_ble_eq_true rfl); (case k6 => rfl); (case k7 => decide +kernel); (case k10 => exact (fun _ => rfl)))
  | ((with_reducible refine' ws_stc ?k1 ?k3 ?k11 ?k13 ?_); (case k1 => walk_at "pd as"); (case k3 => walk_at "pd as"); (case k11 => walk_at "pd as"); (case k13 => rfl))
  | ((with_reducible refine' ws_st ?k1 ?k2 ?_ ?k3); (case k1 => walk_at "pd as"); (case k2 => walk_at "pd as"); (case k3 => rfl))
  | ((with_reducible refine' ws_stn ?k1 ?k2 ?_ ?k3); (case k1 => walk_at "pd as"); (case k2 => walk_at "pd as"); (case k3 => rfl))
  | ((with_reducible refine' ws_fld ?_ ?k1); (case k1 => rfl))
  | ((with_reducible refine' ws_sw ?kE ?k1 ?k2 ?k3 ?k4 ?k5 ?k6 ?k7 ?_ ?k8 ?k9 ?k10); (case kE => walk_at "pd as"); (case k1 => walk_at "pd as"); (case k2 => walk_at "pd as"); (case k3 => walk_at "pd as"); (case k4 => decide); (case k5 => rfl); (case k6 => rfl); (case k7 => rfl); (case k8 => rfl); (case k9 => rfl); (case k10 => rfl))
  | ((with_reducible refine' ws_asg ?_ ?k1 ?k2 ?k3); (case k1 => rfl); (case k2 => first | rfl | (refine' sw_of ?e ?r; (case e => walk_at "pd as"); (case r => rfl))); (case k3 => rfl))
  | ((with_reducible refine' ws_raise ?k1 ?k2 ?k3 ?_ ?k4 ?k5 ?k6); (case k1 => walk_at "pd as"); (case k2 => walk_at "pd as"); (case k3 => (refine XOK.xr ?_; walk_at "pd as")); (case k4 => decide); (case k5 => rfl); (case k6 => rfl))
  | (with_reducible refine ws_if ?_)
  | (with_reducible refine ws_ret ?_)
  | (with_reducible refine ws_pass ?_) | (with_reducible refine ws_break ?_) | (with_reducible refine ws_continue ?_)
  | ((with_reducible refine' ws_expr ?_ ?k1); (case k1 => rfl)))
local macro_rules | `(tactic| walk_at "pd for") => `(tactic| first
  | ((with_reducible refine' ws_for_r1 ?k1 ?k2 ?_ ?k3 ?k4 ?k5); (case k1 => walk_at "pd as"); (case k2 => walk_at "pd as"); (case k3 => rfl); (case k4 => rfl); (case k5 => exact (fun _ => rfl))))
local macro_rules | `(tactic| walk_at "pd WE") => `(tactic| first
  | ((with_reducible refine' we_nm ?k1 ?k2 ?_ ?k3 ?k4); (case k1 => walk_at "pd as"); (case k2 => first | rfl | walk_at "pd as"); (case k3 => decide); (case k4 => decide))
  | ((with_reducible refine' we_nv ?k1 ?k2 ?_ ?k3 ?k4); (case k1 => walk_at "pd as"); (case k2 => first | rfl | walk_at "pd as"); (case k3 => decide); (case k4 => decide))
  | ((with_reducible refine' we_ty ?k1 ?_ ?k3 ?k4); (case k1 => walk_at "pd as"); (case k3 => decide); (case k4 => decide))
  | ((with_reducible refine' we_cls ?k1 ?_ ?k4); (case k1 => walk_at "pd as"); (case k4 => decide))
  | ((with_reducible refine' we_gv ?k1 ?_ ?k4); (case k1 => walk_at "pd as"); (case k4 => decide))
  | (with_reducible refine we_int ?_) | (with_reducible refine we_bl ?_) | (with_reducible refine we_non ?_) | (with_reducible refine we_str ?_)
  | (with_reducible refine we_one ?_) | (with_reducible refine we_and ?_) | (with_reducible refine we_or ?_) | (with_reducible refine we_not ?_)
  | (with_reducible refine we_bin ?_)
  | (with_reducible refine we_tup ?_)
  | (with_reducible refine we_un ?_)
  | ((with_reducible refine' we_lrg ?k1 ?k2 ?k3 ?_ ?k4 ?k5); (case k1 => walk_at "pd as"); (case k2 => walk_at "pd as"); (case k3 => walk_at "pd as"); (case k4 => rfl); (case k5 => rfl))
  | ((with_reducible refine' we_bi ?k1 ?_ ?k2 ?k3 ?k4 ?k5); (case k1 => walk_at "pd as"); (case k2 => decide); (case k3 => decide); (case k4 => rfl); (case k5 => rfl))
  | ((with_reducible refine' we_bt ?k1 ?_ ?k2 ?k3 ?k4 ?k5); (case k1 => walk_at "pd as"); (case k2 => decide); (case k3 => decide); (case k4 => rfl); (case k5 => rfl))
  | ((with_reducible refine' we_gc ?k1 ?_ ?k3 ?k4 ?k5); (case k1 => walk_at "pd as"); (case k3 => decide); (case k4 => rfl); (case k5 => rfl))
  | ((with_reducible refine' we_callC ?k1 ?k2 ?k3 ?_ ?k5 ?k6 ?k7 ?k8); (case k1 => walk_at "pd as"); (case k2 => rfl); (case k3 => walk_at "pd as"); (case k5 => decide); (case k6 => decide); (case k7 => rfl); (case k8 => rfl))
  | ((with_reducible refine' we_gc0 ?k1 ?_ ?k3); (case k1 => walk_at "pd as"); (case k3 => decide))
  | ((with_reducible refine' we_gckR ?k1 ?_ ?k2 ?k3 ?k4 ?k5 ?k6); (case k1 => walk_at "pd as"); (case k2 => decide); (case k3 => rfl); (case k4 => rfl); (case k5 => rfl); (case k6 => rfl))
  | ((with_reducible refine' we_gck0R ?k1 ?_ ?k2 ?k4 ?k5 ?k6); (case k1 => walk_at "pd as"); (case k2 => decide); (case k4 => rfl); (case k5 => rfl); (case k6 => rfl))
  | ((with_reducible refine' we_append ?_ ?k1 ?k2 ?k3 ?k4 ?k5); (case k1 => rfl); (case k2 => rfl); (case k3 => rfl); (case k4 => rfl); (case k5 => rfl))
  | ((with_reducible refine' we_extend ?_ ?k1 ?k2 ?k3 ?k4 ?k5); (case k1 => rfl); (case k2 => rfl); (case k3 => rfl); (case k4 => rfl); (case k5 => rfl))
  | ((with_reducible refine' we_join ?_ ?k1 ?k2 ?k3 ?k4 ?k5); (case k1 => rfl); (case k2 => rfl); (case k3 => rfl); (case k4 => rfl); (case k5 => rfl))
  | ((with_reducible refine' we_split ?_ ?k1 ?k2 ?k3 ?k4 ?k5); (case k1 => rfl); (case k2 => rfl); (case k3 => rfl); (case k4 => rfl); (case k5 => rfl))
  | ((with_reducible refine' we_strip ?_ ?k1 ?k2 ?k3 ?k4 ?k5); (case k1 => rfl); (case k2 => rfl); (case k3 => rfl); (case k4 => rfl); (case k5 => rfl))
  | ((with_reducible refine' we_pop ?_ ?k1 ?k2); (case k1 => rfl); (case k2 => rfl))
  | (with_reducible refine we_cutX0 ?_)
  | (with_reducible refine we_cutX1 ?_)
  | ((with_reducible refine' we_find ?k1 ?k2 ?k3 ?k4 ?k5 ?_); (case k1 => exact (fun _ => rfl)); (case k2 => rfl); (case k3 => rfl); (case k4 => rfl); (case k5 => rfl))
  | ((with_reducible refine' we_lindex ?_ ?k1 ?k2 ?k3 ?k4 ?k5); (case k1 => rfl); (case k2 => rfl); (case k3 => rfl); (case k4 => rfl); (case k5 => rfl))
  | ((with_reducible refine' we_part ?k1 ?k2 ?k3 ?k4 ?k5 ?_); (case k1 => exact (fun _ => rfl)); (case k2 => rfl); (case k3 => rfl); (case k4 => rfl); (case k5 => rfl))
  | (with_reducible refine we_revV ?_)
  | ((with_reducible refine' we_smn ?k1 ?k2 ?_ ?k3 ?k4 ?k5 ?k6); (case k1 => walk_at "pd as"); (case k2 => walk_at "pd as"); (case k3 => decide); (case k4 => rfl); (case k5 => rfl); (case k6 => rfl))
  | ((with_reducible refine' we_cmn ?k1 ?k2 ?_ ?k3 ?k4 ?k5 ?k6); (case k1 => walk_at "pd as"); (case k2 => walk_at "pd as"); (case k3 => decide); (case k4 => rfl); (case k5 => rfl); (case k6 => rfl))
  | (with_reducible refine we_joined ?_)
  | (with_reducible refine we_joined1 ?_)
  | (with_reducible refine we_fmt ?_)
  | ((with_reducible refine' we_meth ?_ ?k1 ?k2 ?k3); (case k1 => rfl); (case k2 => rfl); (case k3 => rfl))
  | ((with_reducible refine' we_meth0 ?_ ?k3); (case k3 => rfl))
  | ((with_reducible refine' we_exf ?k1 ?k2 ?k3 ?_ ?k4); (case k1 => walk_at "pd as"); (case k2 => walk_at "pd as"); (case k3 => walk_at "pd as"); (case k4 => rfl))
  | (walk_at "attr")
  | ((with_reducible refine' we_fld ?_ ?k1); (case k1 => rfl))
  | ((with_reducible refine' we_lcr ?k1 ?k2 ?k3 ?k4 ?k5 ?k6 ?k7 ?_ ?k8 ?k9 ?k10); (case k1 => walk_at "pd as"); (case k2 => walk_at "pd as"); (case k3 => walk_at "pd as"); (case k4 => walk_at "pd as"); (case k5 => exact Nat.le_of_ble_eq_true rfl); (case k6 => rfl); (case k7 => decide +kernel); (case k8 => rfl); (case k9 => rfl); (case k10 => exact (fun _ => rfl)))
  | ((with_reducible refine' we_lcl ?k1 ?k3 ?k4 ?k5 ?k6 ?k7 ?_ ?k10); (case k1 => walk_at "pd as"); (case k3 => walk_at "pd as"); (case k4 => walk_at "pd as"); (case k5 => exact Nat.le_of_ble_eq_true rfl); (case k6 => rfl); (case k7 => decide +kernel); (case k10 => exact (fun _ => rfl)))
  | ((with_reducible refine' we_ix ?_ ?k1); (case k1 => exact (fun _ _ => rfl)))
  | ((with_reducible refine' we_cmp ?_ ?k1); (case k1 => first | exact nomark _ | rfl))
  | ((with_reducible refine' we_chain ?_ ?k1); (case k1 => rfl)))
local macro_rules | `(tactic| walk_at "pd WT") => `(tactic| first
  | ((with_reducible refine' wt_chain ?_ ?k1); (case k1 => rfl))
  | ((with_reducible refine' wt_cmp ?_ ?k1); (case k1 => first | exact nomark _ | rfl))
  | (with_reducible refine wt_not ?_)
  | ((with_reducible show WT _ (Expr.BoolOp _ _ _) _ _ _); (refine wt_ww ?_))
  | ((with_reducible refine' wt_val ?_ ?k1); (case k1 => exact (fun _ => rfl))))
local macro_rules | `(tactic| walk_at "pd WW") => `(tactic| first
  | (with_reducible refine ww_and ?_) | (with_reducible refine ww_and1 ?_) | (with_reducible refine ww_or ?_) | (with_reducible refine ww_or1 ?_))
local macro_rules | `(tactic| walk_at "pd WA") => `(tactic| first
  | ((with_reducible refine' wa_cons ?_ ?k1); (case k1 => rfl)) | (with_reducible refine wa_nil ?_))
local macro_rules | `(tactic| walk_at "pd WK") => `(tactic| first | (with_reducible refine wk_cons ?_) | (with_reducible refine wk_nil ?_))
local macro_rules | `(tactic| walk_at "pd WB") => `(tactic| first
  | ((with_reducible refine' wb_cat ?k1 ?_); (case k1 => exact szl (Nat.le_of_ble_eq_true rfl)))
  | (with_reducible refine wb_add ?_) | (with_reducible refine wb_sub ?_)
  | ((with_reducible refine' wb_mul ?k1 ?_); (case k1 => first | exact mulok_r (by decide) (by decide) | exact mulok_l (by decide) (by decide) | exact mulok_l (by omega) (by omega) | with_reducible assumption))
  | ((with_reducible refine' wb_mod ?k1 ?_); (case k1 => first | decide | with_reducible assumption | omega))
  | ((with_reducible refine' wb_div ?k1 ?_); (case k1 => first | exact ⟨by decide, by decide⟩ | with_reducible assumption))
  | ((with_reducible refine' wb_pow ?k1 ?_); (case k1 => exact ⟨by decide, by decide⟩))
  | ((with_reducible refine' wb_in_own ?k1 ?k2 ?_); (case k1 => exact .inl rfl); (case k2 => walk_at "pd as"))
  | ((with_reducible refine' wb_nin_own ?k1 ?k2 ?_); (case k1 => exact .inl rfl); (case k2 => walk_at "pd as"))
  | ((with_reducible refine' wb_isT ?k1 ?_); (case k1 => rfl))
  | ((with_reducible refine' wb_isF ?k1 ?_); (case k1 => rfl))
  | ((with_reducible refine' wb_isnotT ?k1 ?_); (case k1 => rfl))
  | ((with_reducible refine' wb_isnotF ?k1 ?_); (case k1 => rfl))
  | ((with_reducible refine' wb_neBT ?k1 ?_); (case k1 => rfl))
  | ((with_reducible refine' wb_neBF ?k1 ?_); (case k1 => rfl))
  | ((with_reducible refine' wb_eqBT ?k1 ?_); (case k1 => rfl))
  | ((with_reducible refine' wb_eqBF ?k1 ?_); (case k1 => rfl))
  | ((with_reducible refine' wb_rmod ?k1 ?k2 ?k3 ?k4 ?_); (case k1 => exact .inl rfl); (case k2 => walk_at "pd as"); (case k3 => walk_at "pd as"); (case k4 => walk_at "pd as"))
  | ((with_reducible refine' wb_rdiv ?k1 ?k2 ?k3 ?k4 ?_); (case k1 => exact .inl rfl); (case k2 => walk_at "pd as"); (case k3 => walk_at "pd as"); (case k4 => walk_at "pd as"))
  | ((with_reducible refine' wb_radd ?k1 ?k2 ?k3 ?k4 ?_); (case k1 => exact .inl rfl); (case k2 => walk_at "pd as"); (case k3 => walk_at "pd as"); (case k4 => walk_at "pd as"))
  | ((with_reducible refine' wb_rmul ?k1 ?k2 ?k3 ?k4 ?_); (case k1 => exact .inl rfl); (case k2 => walk_at "pd as"); (case k3 => walk_at "pd as"); (case k4 => walk_at "pd as"))
  | ((with_reducible refine' wb_oadd ?k1 ?k2 ?k4 ?k3 ?_); (case k1 => exact .inl rfl); (case k2 => walk_at "pd as"); (case k3 => walk_at "pd as"); (case k4 => walk_at "pd as"))
  | ((with_reducible refine' wb_osub ?k1 ?k2 ?k4 ?k3 ?_); (case k1 => exact .inl rfl); (case k2 => walk_at "pd as"); (case k3 => walk_at "pd as"); (case k4 => walk_at "pd as"))
  | ((with_reducible refine' wb_omul ?k1 ?k2 ?k4 ?k3 ?_); (case k1 => exact .inl rfl); (case k2 => walk_at "pd as"); (case k3 => walk_at "pd as"); (case k4 => walk_at "pd as"))
  | ((with_reducible refine' wb_odiv ?k1 ?k2 ?k4 ?k3 ?_); (case k1 => exact .inl rfl); (case k2 => walk_at "pd as"); (case k3 => walk_at "pd as"); (case k4 => walk_at "pd as"))
  | ((with_reducible refine' wb_omod ?k1 ?k2 ?k4 ?k3 ?_); (case k1 => exact .inl rfl); (case k2 => walk_at "pd as"); (case k3 => walk_at "pd as"); (case k4 => walk_at "pd as"))
  | (with_reducible refine wb_lt ?_) | (with_reducible refine wb_le ?_) | (with_reducible refine wb_gt ?_) | (with_reducible refine wb_ge ?_) | (with_reducible refine wb_eqI ?_) | (with_reducible refine wb_neI ?_) | (with_reducible refine wb_eqS ?_) | (with_reducible refine wb_neS ?_) | (with_reducible refine wb_eqB ?_) | (with_reducible refine wb_neB ?_)
  | ((with_reducible refine' wb_eqo ?k0 ?k1 ?k2 ?k3 ?_); (case k0 => walk_at "pd as"); (case k1 => exact .inl rfl); (case k2 => exact .inl rfl); (case k3 => walk_at "pd as"))
  | ((with_reducible refine' wb_eqp ?k0 ?k1 ?k2 ?k4 ?k3 ?_); (case k0 => walk_at "pd as"); (case k1 => exact .inl rfl); (case k2 => first | rfl | assumption); (case k4 => apply_assumption); (case k3 => walk_at "pd as"))
  | ((with_reducible refine' wb_neo ?k0 ?k1 ?k2 ?k4 ?k3 ?_); (case k0 => walk_at "pd as"); (case k1 => exact .inl rfl); (case k2 => exact .inl rfl); (case k4 => walk_at "pd as"); (case k3 => walk_at "pd as"))
  | (with_reducible refine wb_inS ?_) | (with_reducible refine wb_ninS ?_)
  | ((with_reducible refine' wb_catS ?k1 ?_); (case k1 => first | with_reducible assumption | omega)))
local macro_rules | `(tactic| walk_at "pd WC") => `(tactic| first
  | ((with_reducible refine' wc_str ?k1 ?_); (case k1 => first | with_reducible assumption | omega))
  | ((with_reducible refine' wc_strO ?k0 ?k1 ?k2 ?_); (case k0 => walk_at "pd as"); (case k1 => exact .inl rfl); (case k2 => walk_at "pd as"))
  | ((with_reducible refine' wc_lenS ?k1 ?_); (case k1 => first | with_reducible assumption | exact int_text_fits (by omega)))
  | ((with_reducible refine' wc_isIntT ?k1 ?k2 ?_); (case k1 => rfl); (case k2 => rfl))
  | ((with_reducible refine' wc_isIntF ?k1 ?k2 ?_); (case k1 => rfl); (case k2 => rfl))
  | ((with_reducible refine' wc_isBoolT ?k1 ?k2 ?_); (case k1 => rfl); (case k2 => rfl))
  | ((with_reducible refine' wc_isBoolF ?k1 ?k2 ?_); (case k1 => rfl); (case k2 => rfl))
  | ((with_reducible refine' wc_isStrT ?k1 ?k2 ?_); (case k1 => rfl); (case k2 => rfl))
  | ((with_reducible refine' wc_isStrF ?k1 ?k2 ?_); (case k1 => rfl); (case k2 => rfl))
  | ((with_reducible refine' wc_isListT ?k1 ?k2 ?_); (case k1 => rfl); (case k2 => rfl))
  | ((with_reducible refine' wc_isListF ?k1 ?k2 ?_); (case k1 => rfl); (case k2 => rfl))
  | ((with_reducible refine' wc_isTupleT ?k1 ?k2 ?_); (case k1 => rfl); (case k2 => rfl))
  | ((with_reducible refine' wc_isTupleF ?k1 ?k2 ?_); (case k1 => rfl); (case k2 => rfl))
  | ((with_reducible refine' wc_isE ?k1 ?k2 ?k3 ?_); (case k1 => walk_at "pd as"); (case k2 => walk_at "pd as"); (case k3 => walk_at "pd as"))
  | ((with_reducible refine' wc_isETy ?k1 ?k2 ?k3 ?_); (case k1 => walk_at "pd as"); (case k2 => walk_at "pd as"); (case k3 => walk_at "pd as"))
  | ((with_reducible refine' wc_isOwn ?k1 ?k2 ?k3 ?_); (case k1 => exact .inl rfl); (case k2 => walk_at "pd as"); (case k3 => walk_at "pd as"))
  | ((with_reducible refine' wc_isNot ?k1 ?k3 ?_); (case k1 => rfl); (case k3 => apply_assumption))
  | ((with_reducible refine' wc_lenM ?k1 ?_); (case k1 => first | with_reducible assumption | exact mset_same))
  | (with_reducible refine wc_abs ?_) | (with_reducible refine wc_int ?_) | (with_reducible refine wc_lenL ?_) | (with_reducible refine wc_lenT ?_))
local macro_rules | `(tactic| walk_at "pd WI") => `(tactic| first
  | ((with_reducible refine' wi_list ?k1 ?_); (case k1 => first | rfl | with_reducible assumption)) | ((with_reducible refine' wi_tup ?k1 ?_); (case k1 => rfl))
  | ((with_reducible refine' wi_mut ?k2 ?k1 ?_); (case k2 => first | with_reducible assumption | exact mset_same); (case k1 => rfl)))
local macro_rules | `(tactic| walk_at "pd WG") => `(tactic| first
  | ((with_reducible refine' wg_nm ?k1 ?k2 ?_); (case k1 => walk_at "pd as"); (case k2 => walk_at "pd as"))
  | ((with_reducible refine' wg_tp ?k1 ?k2 ?k3 ?k4 ?_); (case k1 => walk_at "pd as"); (case k2 => rfl); (case k3 => rfl); (case k4 => rfl))
  | ((with_reducible refine' wg_sub ?_ ?k1); (case k1 => exact (fun _ => rfl))))
local macro_rules | `(tactic| walk_at "pd1x") => `(tactic| first
  | (with_reducible refine wss_nil ?_)
  | (with_reducible refine endR_nx ?_)
  | ((with_reducible show WS _ _ _ _ _); walk_at "pd WS")
  | ((with_reducible show Pd.WE _ _ _ _ _); walk_at "pd WE")
  | ((with_reducible show WB _ _ _ _ _ _); walk_at "pd WB")
  | ((with_reducible show WA _ _ _ _ _); walk_at "pd WA")
  | ((with_reducible show WJs _ _ _ _ _ _); first | (with_reducible refine wjs_cons ?_) | (with_reducible refine wjs_nil ?_))
  | ((with_reducible show WC _ _ _ _ _); walk_at "pd WC")
  | ((with_reducible show WK _ _ _ _ _); walk_at "pd WK")
  | ((with_reducible show WT _ _ _ _ _); walk_at "pd WT")
  | ((with_reducible show WW _ _ _ _ _); walk_at "pd WW")
  | (with_reducible refine wu_neg ?_)
  | ((with_reducible show WI _ _ _ _ _); walk_at "pd WI")
  | ((with_reducible show WG _ _ _ _ _ _); walk_at "pd WG")
  | ((with_reducible show WGs _ _ _ _ _ _); first | ((with_reducible refine' wgs_cons ?_ ?k1); (case k1 => rfl)) | (with_reducible refine wgs_nil ?_))
  | (with_reducible refine ite_nt ?_) | (with_reducible refine ite_nf ?_) | (with_reducible refine ite_t ?_) | (with_reducible refine ite_f ?_)
  | ((with_reducible refine' And.intro ?k1 ?_); (case k1 => ((with_reducible show (_ : Nat) ≤ sizeLine); exact szl (Nat.le_of_ble_eq_true rfl))))
  | ((with_reducible refine' And.intro ?k1 ?_); (case k1 => ((with_reducible show (_ : Nat) = _); exact rfl)))
  | ((with_reducible show D.ref _ = D.ref _ ∧ _); walk_at "exf")
  | ((with_reducible show Or _ _); first
    | (refine cutX0_l (.inl rfl) ?_) | (refine cutX0_l (.inr ⟨_, rfl, by with_reducible assumption⟩) ?_) | (refine cutX0_l (.inr ⟨_, rfl, mset_same⟩) ?_) | (refine cutX1_l (.inl rfl) ?_) | (refine cutX1_l (.inr ⟨_, rfl, by with_reducible assumption⟩) ?_) | (refine cutX1_l (.inr ⟨_, rfl, mset_same⟩) ?_)
    | ((refine' cutX0_s ?k1 ?_); (case k1 => walk_at "tz")) | ((refine' cutX1_s ?k1 ?_); (case k1 => walk_at "tz")))
  | ((with_reducible show Exists _); first
    | (refine' ⟨_, _, _, _, rfl, ?k1, ?k2, ?k3, ?_⟩; (case k1 => first | with_reducible assumption | exact mset_same); (case k2 => with_reducible assumption); (case k3 => walk_at "flen"))
    | (refine rev_fix (.inl rfl) ?_) | (refine rev_fix (.inr ⟨_, rfl, by with_reducible assumption⟩) ?_) | (refine rev_fix (.inr ⟨_, rfl, mset_same⟩) ?_)
    | (refine' ⟨_, _, rfl, ?k1, ?_⟩; (case k1 => first | with_reducible assumption | exact mset_same))
    | (refine' ⟨_, _, _, .inl rfl, ?k1, ?k2, ?_⟩; (case k1 => with_reducible assumption); (case k2 => walk_at "flk"))
    | (refine' ⟨_, _, _, .inl rfl, ?k1, ?k2, ?_⟩; (case k1 => with_reducible assumption); (case k2 => with_reducible assumption))
    | (refine' ⟨_, _, _, .inl rfl, ?k1, ?k2, ?k3, ?_⟩; (case k3 => kernel_rfl); (case k2 => walk_at "pd as"); (case k1 => walk_at "pd as"))
    | (refine' ⟨_, _, _, .inr ⟨_, _, rfl, ?k0⟩, ?k1, ?k2, ?_⟩; (case k0 => first | with_reducible assumption | exact mset_same); (case k1 => with_reducible assumption); (case k2 => walk_at "flk"))
    | (refine' ⟨_, _, _, .inr ⟨_, _, rfl, ?k0⟩, ?k1, ?k2, ?k3, ?_⟩; (case k0 => first | with_reducible assumption | exact mset_same); (case k3 => kernel_rfl); (case k2 => walk_at "pd as"); (case k1 => walk_at "pd as"))
    | (refine' ⟨_, _, _, .inl rfl, ?k1, ?k2, ?k3, ?_⟩; (case k3 => walk_at "pd as"); (case k2 => walk_at "pd as"); (case k1 => kernel_rfl))
    | (refine ⟨_, rfl, ?_⟩)))
local macro_rules | `(tactic| walk_at "pd1") => `(tactic| first | (with_reducible refine wss_cons ?_) | walk_at "pd1x")
local macro_rules | `(tactic| walk_at "pd") => `(tactic| repeat (walk_at "pd1"))
local macro_rules | `(tactic| walk_at "pde") => `(tactic| repeat (walk_at "pd1x"))
local macro_rules | `(tactic| walk_at "has") => `(tactic| first | exact has_nil | (refine has_cons (by first | rfl | with_reducible assumption) ?_; walk_at "has"))
local macro_rules | `(tactic| walk_at "szc") => `(tactic| first | with_reducible assumption | ((show Int.natAbs _ < 2 ^ _); decide +kernel))
local macro_rules | `(tactic| walk_at "all") => `(tactic| first | exact all_nil | (refine all_cons ⟨_, rfl, by first | decide | decide +kernel, by walk_at "szc"⟩ ?_; walk_at "all"))
local macro_rules | `(tactic| walk_at "flen") => `(tactic| first | (refine putD_lt (n := 999) ?_; exact of_decide_eq_true rfl) | (refine putD_lt (n := 999) (putD_lt (n := 998) ?_); exact of_decide_eq_true rfl) | (refine putD_lt (n := 999) (putD_lt (n := 998) (putD_lt (n := 997) ?_)); exact of_decide_eq_true rfl) | (refine putD_lt (n := 999) (putD_lt (n := 998) (putD_lt (n := 997) (putD_lt (n := 996) ?_))); exact of_decide_eq_true rfl) | exact of_decide_eq_true rfl)
local macro_rules | `(tactic| walk_at "rng") => `(tactic| refine ⟨by decide, by decide, ?_⟩)
local macro_rules | `(tactic| walk_at "pld") => `(tactic| first | exact True.intro | (refine pld_l (Nat.le_of_ble_eq_true rfl) ?_; walk_at "pld") | (refine pld_t (Nat.le_of_ble_eq_true rfl) ?_; walk_at "pld") | (refine And.intro ?_ ?_ <;> walk_at "pld"))
local macro_rules | `(tactic| walk_at "exf") => `(tactic| (refine' And.intro rfl (Exists.intro _ (And.intro ?k1 ?_)); (case k1 => first | exact exf1 | (refine exf2 ?_; decide +kernel))))
local macro_rules | `(tactic| walk_at "fe") => `(tactic| first | ((with_reducible refine' nx_forD ?k1 ?_); (case k1 => rfl)) | ((with_reducible refine' forD_nil' ?k1 ?_); (case k1 => rfl)))
local macro_rules | `(tactic| walk_at "tg") => `(tactic| repeat (first | ((with_reducible show WG _ _ _ _ _ _); walk_at "pd WG") | ((with_reducible show WGs _ _ _ _ _ _); first | ((with_reducible refine' wgs_cons ?_ ?k1); (case k1 => rfl)) | (with_reducible refine wgs_nil ?_))))
local macro_rules | `(tactic| walk_at "wj") => `(tactic| first
  | ((with_reducible refine' wj_r1 ?k1 ?_ ?k2 ?k3); (case k1 => walk_at "pd as"); (case k2 => rfl); (case k3 => rfl))
  | ((with_reducible refine' wj_r2 ?k1 ?_ ?k2 ?k3 ?k4 ?k5); (case k1 => walk_at "pd as"); (case k2 => rfl); (case k3 => rfl); (case k4 => rfl); (case k5 => rfl))
  | ((with_reducible refine' wj_en ?k1 ?_ ?k2 ?k3); (case k1 => walk_at "pd as"); (case k2 => rfl); (case k3 => rfl))
  | (with_reducible refine wj_seq ?_))
local macro_rules | `(tactic| walk_at "pd forj") => `(tactic| first
  | ((with_reducible refine' ws_forJ ?k1 ?_ ?k2); (case k1 => walk_at "pd as"); (case k2 => exact (fun _ => rfl)); walk_at "wj")
  | ((with_reducible refine' ws_forJE ?k1 ?_ ?k2); (case k1 => walk_at "pd as"); (case k2 => exact (fun _ => rfl)); walk_at "wj"))
def top (i : Nat) : Stmt := PySem.Challenge.pw_barclips_k21_lead_parts.main.body.getD i (.Pass ⟨0, 0, 0, 0⟩)
structure Ad where
  sound : Addr
  clip : Addr
  lead : Addr
  grid : Addr
  e_BarclipsError : Addr
  e_BadName : Addr
  e_BadNumber : Addr
  e_BadWord : Addr
  e_Twice : Addr
  e_Apart : Addr
  tnil : Addr
  tnil2 : Addr
  tnil3 : Addr
structure SoundT (K : PySem.W.Frag) (mg : Str → Option Value) (C : Addr) : Prop where
  gm : mg "Sound" = some (.ref C)
  cl : Cls K C
  oc : OwnC K C
  op : OpC K C
  me : PySem.W.kitOne K (.ref C) (.ref C) = some true
  no : ∀ k : DK, PySem.W.kitOne K (.type k.ty) (.ref C) = some false
  ns : ∀ k : DK, PySem.W.subIn K (.type k.ty) (.ref C) = some false
  ne : NeC K C
  n_name : NoAttr K C "name"
  n_grid : NoAttr K C "grid"
structure ClipT (K : PySem.W.Frag) (mg : Str → Option Value) (C : Addr) : Prop where
  gm : mg "Clip" = some (.ref C)
  cl : Cls K C
  oc : OwnC K C
  op : OpC K C
  me : PySem.W.kitOne K (.ref C) (.ref C) = some true
  no : ∀ k : DK, PySem.W.kitOne K (.type k.ty) (.ref C) = some false
  ns : ∀ k : DK, PySem.W.subIn K (.type k.ty) (.ref C) = some false
  ne : NeC K C
  n_name : NoAttr K C "name"
  n_grid : NoAttr K C "grid"
  n_length : NoAttr K C "length"
  n_rounds : NoAttr K C "rounds"
  n_guards : NoAttr K C "guards"
  k_ROUNDS : GCon K C "ROUNDS" (.int 4)
structure LeadT (K : PySem.W.Frag) (mg : Str → Option Value) (C : Addr) : Prop where
  gm : mg "Lead" = some (.ref C)
  cl : Cls K C
  oc : OwnC K C
  op : OpC K C
  me : PySem.W.kitOne K (.ref C) (.ref C) = some true
  no : ∀ k : DK, PySem.W.kitOne K (.type k.ty) (.ref C) = some false
  ns : ∀ k : DK, PySem.W.subIn K (.type k.ty) (.ref C) = some false
  ne : NeC K C
  n_name : NoAttr K C "name"
  n_grid : NoAttr K C "grid"
  n_length : NoAttr K C "length"
  n_stops : NoAttr K C "stops"
  k_PATIENCE : GCon K C "PATIENCE" (.int 64)
structure GridT (K : PySem.W.Frag) (mg : Str → Option Value) (C : Addr) : Prop where
  gm : mg "Grid" = some (.ref C)
  cl : Cls K C
  oc : OwnC K C
  op : OpC K C
  me : PySem.W.kitOne K (.ref C) (.ref C) = some true
  no : ∀ k : DK, PySem.W.kitOne K (.type k.ty) (.ref C) = some false
  ns : ∀ k : DK, PySem.W.subIn K (.type k.ty) (.ref C) = some false
  ne : NeC K C
  n_step : NoAttr K C "step"
  n_offset : NoAttr K C "offset"
  haddD : ∃ g : Addr, PySem.W.findIn K (.ref C) "__add__" = some (some (.ref g))
  hraddD : ∃ g : Addr, PySem.W.findIn K (.ref C) "__radd__" = some (some (.ref g))
  hmulD : ∃ g : Addr, PySem.W.findIn K (.ref C) "__mul__" = some (some (.ref g))
  hrmulD : ∃ g : Addr, PySem.W.findIn K (.ref C) "__rmul__" = some (some (.ref g))
  hfloordivD : ∃ g : Addr, PySem.W.findIn K (.ref C) "__floordiv__" = some (some (.ref g))
  hrfloordivD : ∃ g : Addr, PySem.W.findIn K (.ref C) "__rfloordiv__" = some (some (.ref g))
  hrmodD : ∃ g : Addr, PySem.W.findIn K (.ref C) "__rmod__" = some (some (.ref g))
  xmodD : PySem.W.findIn K (.ref C) "__mod__" = some none
  xrsubD : PySem.W.findIn K (.ref C) "__rsub__" = some none
structure Kit (K : PySem.W.Frag) (Z : Ad) : Prop where
  k_Sound_Clip : PySem.W.kitOne K (.ref Z.sound) (.ref Z.clip) = some false
  k_Sound_Lead : PySem.W.kitOne K (.ref Z.sound) (.ref Z.lead) = some false
  k_Sound_Grid : PySem.W.kitOne K (.ref Z.sound) (.ref Z.grid) = some false
  k_Clip_Sound : PySem.W.kitOne K (.ref Z.clip) (.ref Z.sound) = some true
  k_Clip_Lead : PySem.W.kitOne K (.ref Z.clip) (.ref Z.lead) = some false
  k_Clip_Grid : PySem.W.kitOne K (.ref Z.clip) (.ref Z.grid) = some false
  k_Lead_Sound : PySem.W.kitOne K (.ref Z.lead) (.ref Z.sound) = some true
  k_Lead_Clip : PySem.W.kitOne K (.ref Z.lead) (.ref Z.clip) = some false
  k_Lead_Grid : PySem.W.kitOne K (.ref Z.lead) (.ref Z.grid) = some false
  k_Grid_Sound : PySem.W.kitOne K (.ref Z.grid) (.ref Z.sound) = some false
  k_Grid_Clip : PySem.W.kitOne K (.ref Z.grid) (.ref Z.clip) = some false
  k_Grid_Lead : PySem.W.kitOne K (.ref Z.grid) (.ref Z.lead) = some false
structure Ers (K : PySem.W.Frag) (mg : Str → Option Value) (Z : Ad) : Prop where
  k_BadName : ErrK K mg "BadName" Z.e_BadName ["name"]
  k_BadNumber : ErrK K mg "BadNumber" Z.e_BadNumber ["value"]
  k_Twice : ErrK K mg "Twice" Z.e_Twice ["name"]
  g_BadName : mg "BadName" = some (.ref Z.e_BadName)
  g_BadNumber : mg "BadNumber" = some (.ref Z.e_BadNumber)
  g_BarclipsError : mg "BarclipsError" = some (.ref Z.e_BarclipsError)
  g_Twice : mg "Twice" = some (.ref Z.e_Twice)
  x_BadName_BadName : PySem.W.exmOne K (.ref Z.e_BadName) (.ref Z.e_BadName) = some true
  x_BadName_BadNumber : PySem.W.exmOne K (.ref Z.e_BadName) (.ref Z.e_BadNumber) = some false
  x_BadName_Twice : PySem.W.exmOne K (.ref Z.e_BadName) (.ref Z.e_Twice) = some false
  i_BadName_BarclipsError : PySem.W.kitOne K (.ref Z.e_BadName) (.ref Z.e_BarclipsError) = some true
  i_BadName_BadNumber : PySem.W.kitOne K (.ref Z.e_BadName) (.ref Z.e_BadNumber) = some false
  i_BadName_Twice : PySem.W.kitOne K (.ref Z.e_BadName) (.ref Z.e_Twice) = some false
  i_BadName_BadName : PySem.W.kitOne K (.ref Z.e_BadName) (.ref Z.e_BadName) = some true
  v_BadName : PySem.W.kitOne K (.ref Z.e_BadName) (.type "ValueError") = some true
  x_BadNumber_BadName : PySem.W.exmOne K (.ref Z.e_BadNumber) (.ref Z.e_BadName) = some false
  x_BadNumber_BadNumber : PySem.W.exmOne K (.ref Z.e_BadNumber) (.ref Z.e_BadNumber) = some true
  x_BadNumber_Twice : PySem.W.exmOne K (.ref Z.e_BadNumber) (.ref Z.e_Twice) = some false
  i_BadNumber_BarclipsError : PySem.W.kitOne K (.ref Z.e_BadNumber) (.ref Z.e_BarclipsError) = some true
  i_BadNumber_BadNumber : PySem.W.kitOne K (.ref Z.e_BadNumber) (.ref Z.e_BadNumber) = some true
  i_BadNumber_Twice : PySem.W.kitOne K (.ref Z.e_BadNumber) (.ref Z.e_Twice) = some false
  i_BadNumber_BadName : PySem.W.kitOne K (.ref Z.e_BadNumber) (.ref Z.e_BadName) = some false
  v_BadNumber : PySem.W.kitOne K (.ref Z.e_BadNumber) (.type "ValueError") = some true
  x_Twice_BadName : PySem.W.exmOne K (.ref Z.e_Twice) (.ref Z.e_BadName) = some false
  x_Twice_BadNumber : PySem.W.exmOne K (.ref Z.e_Twice) (.ref Z.e_BadNumber) = some false
  x_Twice_Twice : PySem.W.exmOne K (.ref Z.e_Twice) (.ref Z.e_Twice) = some true
  i_Twice_BarclipsError : PySem.W.kitOne K (.ref Z.e_Twice) (.ref Z.e_BarclipsError) = some true
  i_Twice_BadNumber : PySem.W.kitOne K (.ref Z.e_Twice) (.ref Z.e_BadNumber) = some false
  i_Twice_Twice : PySem.W.kitOne K (.ref Z.e_Twice) (.ref Z.e_Twice) = some true
  i_Twice_BadName : PySem.W.kitOne K (.ref Z.e_Twice) (.ref Z.e_BadName) = some false
  v_Twice : PySem.W.kitOne K (.ref Z.e_Twice) (.type "ValueError") = some true
def SndC (Z : Ad) (C : Addr) : Prop := C = Z.sound ∨ C = Z.clip ∨ C = Z.lead
theorem SndC.sound (Z : Ad) : SndC Z Z.sound := .inl rfl
theorem SndC.clip (Z : Ad) : SndC Z Z.clip := .inr (.inl rfl)
theorem SndC.lead (Z : Ad) : SndC Z Z.lead := .inr (.inr rfl)
structure Tn (mg : Str → Option Value) : Prop where
  b_len : mg "len" = none
  b_tuple : mg "tuple" = none
  b_abs : mg "abs" = none
  b_int : mg "int" = none
  b_range : mg "range" = none
  b_str : mg "str" = none
  b_isinstance : mg "isinstance" = none
  b_bool : mg "bool" = none
  b_list : mg "list" = none
  b_ValueError : mg "ValueError" = none
abbrev s_check_name : Stmt := top 13
abbrev n_check_name : List Str := ["name", "sign"]
theorem sc_check_name : FnScope n_check_name ["name"] (defScope s_check_name) := ⟨rfl, rfl, rfl, by decide +kernel, rfl, by decide +kernel, by decide +kernel⟩
def p_check_name (Z : Ad) : PD := fun ds m Q Xd => ∃ z : Str, ds = [.str z] ∧ z.length ≤ sizeLine ∧ (okS z → Q (.str z) m) ∧ (¬ okS z → Xd Z.e_BadName [("name", .str z)] m)
theorem okS_len {z : Str} (h : okS z) : z.length ≤ sizeLine := by
  have h1 : z.cps.toList.length ≤ 12 := h.1.2
  rw [len_tl] at h1
  exact szl (by omega)
theorem use_check_name {B : Bx} {Z : Ad} {m : Mem} {Q : D → Mem → Prop} {z : Str} (hz : okS z) (h : Q (.str z) m) : ∃ Xd, p_check_name Z [.str z] m Q Xd ∧ XOK B Xd := ⟨noX, ⟨z, rfl, okS_len hz, fun _ => h, fun k => absurd hz k⟩, xok_no B⟩
theorem ok_check_name {Z : Ad} {P : Program} {w : World} {K : PySem.W.Frag} {mg : Str → Option Value} {base : Heap} (GD : GDef K mg "check_name" s_check_name ["name"]) (T : Tn mg) (E_BadName : ErrI P w K mg base "BadName" Z.e_BadName ["name"] okAny) (q_NAME_LENGTH : GCst mg "NAME_LENGTH" (.int 12)) (q_LETTERS : GCst mg "LETTERS" (.str "abcdefghijklmnopqrstuvwxyz")) (q_DIGITS : GCst mg "DIGITS" (.str "0123456789")) : GF P w K mg base "check_name" 3 (p_check_name Z) := by
  refine gf_ok GD sc_check_name (by intro ds m Q Xd h; obtain ⟨_, rfl, _⟩ := h; rfl) fun B f cdv A outer s H E hB hr k ds m Q Xd h hx => ?_
  have hs : Hs P w K mg base B := by unfold Hs; rw [hB]; exact ⟨rfl, rfl, rfl, rfl, rfl⟩
  have hK : B.X.K = K := hs.2.2.1
  have sl0 : Sl B "name" 0 := ⟨by rw [hB]; rfl, by rw [hB]; exact Or.inl rfl, by rw [hB]; exact Or.inl rfl⟩
  have sl1 : Sl B "sign" 1 := ⟨by rw [hB]; rfl, by rw [hB]; exact Or.inl rfl, by rw [hB]; exact Or.inl rfl⟩
  have b_len : Bi B "len" "len" := ⟨by rw [hB]; exact rfl, by rw [hB]; exact T.b_len, boot_len'⟩
  have ge_BadName : GErr B "BadName" Z.e_BadName ["name"] okAny := gerr_of E_BadName hr (by omega) hs (by rw [hB]; exact rfl)
  have gq_NAME_LENGTH : GVal B "NAME_LENGTH" (.int 12) := ⟨by rw [hB]; exact rfl, by rw [hB]; exact q_NAME_LENGTH.ex⟩
  have gq_LETTERS : GVal B "LETTERS" (.str "abcdefghijklmnopqrstuvwxyz") := ⟨by rw [hB]; exact rfl, by rw [hB]; exact q_LETTERS.ex⟩
  have gq_DIGITS : GVal B "DIGITS" (.str "0123456789") := ⟨by rw [hB]; exact rfl, by rw [hB]; exact q_DIGITS.ex⟩
  clear hB
  obtain ⟨z, rfl, hz, h1, h2⟩ := h
  refine wss_cons ?_
  walk_at "pd"
  refine ite_dec (fun g1 => ?_) (fun g1 => ?_)
  rotate_left
  · walk_at "pd"
    refine ws_raise k ge_BadName (XOK.xr hx) ?_ (by decide) rfl rfl
    walk_at "pd"
    exact ⟨True.intro, h2 fun k => g1 (by have := k.1.1; rw [len_tl] at this; omega)⟩
  walk_at "pd"
  refine ite_ndec (fun g2 => ?_) (fun g2 => ?_)
  · walk_at "pd"
    refine ws_raise k ge_BadName (XOK.xr hx) ?_ (by decide) rfl rfl
    walk_at "pd"
    exact ⟨True.intro, h2 fun k => g2 (by have := k.1.2; rw [len_tl] at this; omega)⟩
  have hne : z.cps.toList ≠ [] := fun e => by
    have := len_tl (z := z)
    rw [e] at this
    simp at this
    omega
  obtain ⟨c, cs, e⟩ := List.exists_cons_of_ne_nil hne
  walk_at "pd"
  refine wi_str (c := c) hz (by rw [e]; exact atI_head) ?_
  walk_at "pd"
  rw [let_in]
  walk_at "pd"
  refine ite_ndec (fun g3 => ?_) (fun g3 => ?_)
  · walk_at "pd"
    refine ws_raise k ge_BadName (XOK.xr hx) ?_ (by decide) rfl rfl
    walk_at "pd"
    exact ⟨True.intro, h2 fun k => g3 (k.2.1 c (by rw [e]; rfl))⟩
  walk_at "pd"
  refine ws_forJ k ?_ (fun _ => rfl)
  refine wj_str ?_
  walk_at "pd"
  refine ⟨fun i ρ m' => m' = m ∧ (∀ c ∈ z.cps.toList.take i, isL c ∨ isG c) ∧ Has ρ [(0, .str z)], ⟨rfl, by simp, by walk_at "has"⟩, fun _ _ _ _ => True.intro, ?_, ?_⟩
  · rintro i d ρ m' hi ⟨rfl, hno, hh⟩
    obtain ⟨c, hc, rfl⟩ := map_get hi
    walk_at "tg"
    refine WSs.env ?_ hh.on
    clear hh ρ
    refine wss_cons ?_
    walk_at "pd"
    rw [let_in]
    have good : isL c ∨ isG c → ∀ x ∈ z.cps.toList.take (i + 1), isL x ∨ isG x := fun hg => by
      obtain ⟨hl, he⟩ := List.getElem?_eq_some_iff.mp hc
      rw [List.take_succ_eq_append_getElem hl, he]
      intro x hx
      rcases List.mem_append.mp hx with hx | hx
      · exact hno x hx
      · rw [List.mem_singleton.mp hx]; exact hg
    refine ite_ndec (fun g4 => ?_) (fun g4 => ?_)
    · walk_at "pd"
      rw [fig_inG]
      refine ite_ndec (fun g5 => ?_) (fun g5 => ?_)
      · walk_at "pd"
        refine ws_raise k ge_BadName (XOK.xr hx) ?_ (by decide) rfl rfl
        walk_at "pd"
        exact ⟨True.intro, h2 fun k => (k.2.2 c (List.mem_of_getElem? hc)).elim g4 g5⟩
      · walk_at "pd"
        exact ⟨rfl, good (.inr g5), by walk_at "has"⟩
    · walk_at "pd"
      exact ⟨rfl, good (.inl g4), by walk_at "has"⟩
  · rintro ρ m' ⟨rfl, hno, hh⟩
    rw [chD_len, ← Array.length_toList, List.take_length] at hno
    refine WSs.env ?_ hh
    clear hh ρ
    walk_at "pd"
    refine h1 ⟨⟨by rw [len_tl]; omega, by rw [len_tl]; omega⟩, fun x hx => ?_, hno⟩
    rw [e] at hx
    cases hx
    exact g3
abbrev s_Sound_init : Stmt := inClass (top 16) 0
abbrev n_Sound_init : List Str := ["self", "name", "grid"]
theorem sc_Sound_init : FnScope n_Sound_init ["self", "name", "grid"] (defScope s_Sound_init) := ⟨rfl, rfl, rfl, by decide +kernel, rfl, by decide +kernel, by decide +kernel⟩
abbrev soundL (z : Str) (g : D) : List (Str × D) := [("name", .str z), ("grid", g)]
theorem sound_put (z : Str) (g : D) : putD "grid" g (putD "name" (.str z) []) = soundL z g := by
  show (if ("name" : Str) = "grid" then _ else (("name" : Str), D.str z) :: [(("grid" : Str), g)]) = _
  rw [if_neg (by decide +kernel)]
def p_Sound_init (Z : Ad) : PD := fun ds m Q Xd => ∃ x z g, ds = [.ref x, .str z, g] ∧ z.length ≤ sizeLine ∧ ∃ C dx, SndC Z C ∧ m x = some (.ins C dx []) ∧ (okS z → Q .non (mset m x (.ins C dx (soundL z g)))) ∧ (¬ okS z → Xd Z.e_BadName [("name", .str z)] m)
def p_Sound (Z : Ad) : PD := fun ds m Q Xd => ∃ z g, ds = [.str z, g] ∧ z.length ≤ sizeLine ∧ (okS z → Q (.ins Z.sound (soundL z g)) m) ∧ (¬ okS z → Xd Z.e_BadName [("name", .str z)] m)
theorem Sound_mk {Z : Ad} {m : Mem} {Q : D → Mem → Prop} {Xd : XD} {z : Str} {g : D} (hz : z.length ≤ sizeLine) (h1 : okS z → Q (.ins Z.sound (soundL z g)) m) (h2 : ¬ okS z → Xd Z.e_BadName [("name", .str z)] m) : mkP Z.sound (p_Sound_init Z) [.str z, g] m Q Xd :=
  fun x dx hx => ⟨x, z, g, rfl, hz, Z.sound, dx, SndC.sound Z, mset_same, fun h0 => ⟨rfl, _, mset_same, by rw [mset_mset, mdel_mset hx]; exact h1 h0⟩, fun h0 => by show Xd _ _ (mdel _ x); rw [mdel_mset hx]; exact h2 h0⟩
abbrev FD_Sound (K : PySem.W.Frag) (f : Addr) (fd : FuncData) : Prop := FunD K "__init__" "Sound.__init__" (defArgs s_Sound_init) (defBody s_Sound_init) (defScope s_Sound_init) [] [] f fd
theorem cdef_Sound_init {K : PySem.W.Frag} {mg : Str → Option Value} {C f : Addr} {oc kV dc pm cd ct : Value} {od an : Option Addr} {sl : Array (Option Value)} (hm : mg "Sound" = some (.ref C)) (M : Mk K C f)
    (l : K.lookup f = some ⟨oc, od, .func (PySem.W.fnOf "__init__" "Sound.__init__" (defArgs s_Sound_init) (defBody s_Sound_init) (defScope s_Sound_init) .none kV dc pm an cd ct), sl⟩) (c : PySem.W.codeIn K cd "Sound.__init__" = true) (kp : PySem.W.keepIn K (.ref f) = true) : CDef K mg "Sound" C "Sound.__init__" s_Sound_init [] [] :=
  ⟨f, _, hm, M, ⟨⟨oc, od, .none, kV, dc, pm, an, cd, ct, sl, rfl, l, c, .inl ⟨rfl, rfl⟩, .inl rfl⟩, kp⟩⟩
section
variable {Z : Ad} {P : Program} {w : World} {K : PySem.W.Frag} {mg : Str → Option Value} {base : Heap} {B : Bx} {k k' : Nat}
theorem Sound_call (c : CF P w K mg base "Sound" Z.sound "Sound.__init__" s_Sound_init ["self", "name", "grid"] k [] [] (p_Sound_init Z)) (hr : Room k' B.X.A) (hk : k + 1 ≤ k') (hs : Hs P w K mg base B) (hg : Gl B.X "Sound") : GCal B "Sound" (p_Sound Z) := by
  have a1 := calc_of (dv := []) [] c hr hk hs hg (fun f fd (F : FD_Sound K f fd) => ⟨[], .nil, F.bindsN (fun kV doc pm an cdv ct us hl => match us, hl with | [_, _, _], _ => rfl)⟩) (fun _ => rfl)
  refine a1.imp fun ds m Q Xd h => ?_
  obtain ⟨z, g, rfl, hz, h1, h2⟩ := h
  exact Sound_mk hz h1 h2
end
theorem ok_Sound_init {Z : Ad} {P : Program} {w : World} {K : PySem.W.Frag} {mg : Str → Option Value} {base : Heap} (GD : CDef K mg "Sound" Z.sound "Sound.__init__" s_Sound_init [] []) (T : Tn mg) (T_Sound : SoundT K mg Z.sound) (T_Clip : ClipT K mg Z.clip) (T_Lead : LeadT K mg Z.lead) (c_check_name : GF P w K mg base "check_name" 3 (p_check_name Z)) : CF P w K mg base "Sound" Z.sound "Sound.__init__" s_Sound_init ["self", "name", "grid"] 4 [] [] (p_Sound_init Z) := by
  refine cf_ok GD sc_Sound_init (by intro ds m Q Xd h; obtain ⟨_, _, _, rfl, _⟩ := h; rfl) fun B f cdv A outer s H E hB hr k ds m Q Xd h hx => ?_
  have hs : Hs P w K mg base B := by unfold Hs; rw [hB]; exact ⟨rfl, rfl, rfl, rfl, rfl⟩
  have hK : B.X.K = K := hs.2.2.1
  have sl0 : Sl B "self" 0 := ⟨by rw [hB]; rfl, by rw [hB]; exact Or.inl rfl, by rw [hB]; exact Or.inl rfl⟩
  have sl1 : Sl B "name" 1 := ⟨by rw [hB]; rfl, by rw [hB]; exact Or.inl rfl, by rw [hB]; exact Or.inl rfl⟩
  have sl2 : Sl B "grid" 2 := ⟨by rw [hB]; rfl, by rw [hB]; exact Or.inl rfl, by rw [hB]; exact Or.inl rfl⟩
  have g_check_name : GCal B "check_name" (p_check_name Z) := cal_of c_check_name hr (by omega) hs (by rw [hB]; exact rfl)
  have cl_Sound : Cls B.X.K Z.sound := by rw [hK]; exact T_Sound.cl
  have f_Sound_name : FldOk B Z.sound "name" := ⟨cl_Sound, by rw [hK]; exact T_Sound.n_name⟩
  have f_Sound_grid : FldOk B Z.sound "grid" := ⟨cl_Sound, by rw [hK]; exact T_Sound.n_grid⟩
  have cl_Clip : Cls B.X.K Z.clip := by rw [hK]; exact T_Clip.cl
  have kc_Clip_ROUNDS : GCon B.X.K Z.clip "ROUNDS" (.int 4) := by rw [hK]; exact T_Clip.k_ROUNDS
  have f_Clip_name : FldOk B Z.clip "name" := ⟨cl_Clip, by rw [hK]; exact T_Clip.n_name⟩
  have f_Clip_grid : FldOk B Z.clip "grid" := ⟨cl_Clip, by rw [hK]; exact T_Clip.n_grid⟩
  have f_Clip_length : FldOk B Z.clip "length" := ⟨cl_Clip, by rw [hK]; exact T_Clip.n_length⟩
  have f_Clip_rounds : FldOk B Z.clip "rounds" := ⟨cl_Clip, by rw [hK]; exact T_Clip.n_rounds⟩
  have f_Clip_guards : FldOk B Z.clip "guards" := ⟨cl_Clip, by rw [hK]; exact T_Clip.n_guards⟩
  have cl_Lead : Cls B.X.K Z.lead := by rw [hK]; exact T_Lead.cl
  have kc_Lead_PATIENCE : GCon B.X.K Z.lead "PATIENCE" (.int 64) := by rw [hK]; exact T_Lead.k_PATIENCE
  have f_Lead_name : FldOk B Z.lead "name" := ⟨cl_Lead, by rw [hK]; exact T_Lead.n_name⟩
  have f_Lead_grid : FldOk B Z.lead "grid" := ⟨cl_Lead, by rw [hK]; exact T_Lead.n_grid⟩
  have f_Lead_length : FldOk B Z.lead "length" := ⟨cl_Lead, by rw [hK]; exact T_Lead.n_length⟩
  have f_Lead_stops : FldOk B Z.lead "stops" := ⟨cl_Lead, by rw [hK]; exact T_Lead.n_stops⟩
  clear hB
  obtain ⟨x, z, g, rfl, hz, C, dx, hC, hm, h1, h2⟩ := h
  have fn : ∀ C, SndC Z C → FldOk B C "name" ∧ FldOk B C "grid" := by
    intro C hC
    rcases hC with rfl | rfl | rfl
    · exact ⟨f_Sound_name, f_Sound_grid⟩
    · exact ⟨f_Clip_name, f_Clip_grid⟩
    · exact ⟨f_Lead_name, f_Lead_grid⟩
  obtain ⟨fn1, fn2⟩ := fn C hC
  clear fn
  refine wss_cons ?_
  walk_at "pd"
  refine ⟨_, ⟨z, rfl, hz, fun ho => ?_, h2⟩, hx⟩
  walk_at "pd"
  rw [mset_mset, sound_put]
  exact h1 ho
abbrev s_Clip_init : Stmt := inClass (top 17) 1
abbrev n_Clip_init : List Str := ["self", "name", "grid", "length", "rounds", "guards", "last", "guard"]
theorem sc_Clip_init : PdErr.SupS n_Clip_init ["self", "name", "grid", "length", "rounds", "guards"] (defScope s_Clip_init) := ⟨rfl, rfl, rfl, by decide +kernel, rfl, by decide +kernel, by decide +kernel, by decide +kernel, rfl, rfl, ⟨_, rfl⟩⟩
abbrev clipL (z : Str) (g : D) (len : Option Int) (r : Int) (gs : List Int) : List (Str × D) := [("name", .str z), ("grid", g), ("length", oD len), ("rounds", .int r), ("guards", .tup (gs.map .int))]
abbrev clipD (Z : Ad) (z : Str) (g : D) (len : Option Int) (r : Int) (gs : List Int) : D := .ins Z.clip (clipL z g len r gs)
theorem clip_put (z : Str) (g : D) (len : Option Int) (r : Int) (gs : List Int) : putD "guards" (.tup (gs.map .int)) (putD "rounds" (.int r) (putD "length" (oD len) (soundL z g))) = clipL z g len r gs := by
  have e1 : ("name" : Str) ≠ "length" := by decide +kernel
  have e2 : ("grid" : Str) ≠ "length" := by decide +kernel
  have e3 : ("name" : Str) ≠ "rounds" := by decide +kernel
  have e4 : ("grid" : Str) ≠ "rounds" := by decide +kernel
  have e5 : ("length" : Str) ≠ "rounds" := by decide +kernel
  have e6 : ("name" : Str) ≠ "guards" := by decide +kernel
  have e7 : ("grid" : Str) ≠ "guards" := by decide +kernel
  have e8 : ("length" : Str) ≠ "guards" := by decide +kernel
  have e9 : ("rounds" : Str) ≠ "guards" := by decide +kernel
  simp [putD, e1, e2, e3, e4, e5, e6, e7, e8, e9]
theorem clip_name {z g len r gs} : (clipL z g len r gs).lookup ("name" : Str) = some (.str z) := by simp [List.lookup]
theorem clip_grid {z g len r gs} : (clipL z g len r gs).lookup ("grid" : Str) = some g := by
  have e1 : (("grid" : Str) == "name") = false := by decide +kernel
  simp [List.lookup, e1]
theorem clip_length {z g len r gs} : (clipL z g len r gs).lookup ("length" : Str) = some (oD len) := by
  have e1 : (("length" : Str) == "name") = false := by decide +kernel
  have e2 : (("length" : Str) == "grid") = false := by decide +kernel
  simp [List.lookup, e1, e2]
theorem clip_rounds {z g len r gs} : (clipL z g len r gs).lookup ("rounds" : Str) = some (.int r) := by
  have e1 : (("rounds" : Str) == "name") = false := by decide +kernel
  have e2 : (("rounds" : Str) == "grid") = false := by decide +kernel
  have e3 : (("rounds" : Str) == "length") = false := by decide +kernel
  simp [List.lookup, e1, e2, e3]
theorem clip_guards {z g len r gs} : (clipL z g len r gs).lookup ("guards" : Str) = some (.tup (gs.map .int)) := by
  have e1 : (("guards" : Str) == "name") = false := by decide +kernel
  have e2 : (("guards" : Str) == "grid") = false := by decide +kernel
  have e3 : (("guards" : Str) == "length") = false := by decide +kernel
  have e4 : (("guards" : Str) == "rounds") = false := by decide +kernel
  simp [List.lookup, e1, e2, e3, e4]
local macro_rules | `(tactic| walk_at "flk") => `(tactic| first | exact clip_name | exact clip_grid | exact clip_length | exact clip_rounds | exact clip_guards)
def p_Clip_init (Z : Ad) : PD := fun ds m Q Xd => ∃ x z g len r gd gs, ds = [.ref x, .str z, g, oD len, .int r, gd] ∧ z.length ≤ sizeLine ∧ gs.length ≤ 1000 ∧ Sv gd m (gs.map .int) ∧ ∃ dx, m x = some (.ins Z.clip dx []) ∧
  (clipE z len r gs = none → Q .non (mset m x (.ins Z.clip dx (clipL z g len r gs)))) ∧ (clipE z len r gs = some .name → Xd Z.e_BadName [("name", .str z)] m) ∧ (∀ v, clipE z len r gs = some (.num v) → Xd Z.e_BadNumber [("value", .int v)] (mset m x (.ins Z.clip dx (soundL z g))))
def clipP (Z : Ad) (z : Str) (g : D) (len : Option Int) (r : Int) (gd : D) (gs : List Int) (m : Mem) (Q : D → Mem → Prop) (Xd : XD) : Prop := z.length ≤ sizeLine ∧ gs.length ≤ 1000 ∧ Sv gd m (gs.map .int) ∧
  (clipE z len r gs = none → Q (clipD Z z g len r gs) m) ∧ (clipE z len r gs = some .name → Xd Z.e_BadName [("name", .str z)] m) ∧ (∀ v, clipE z len r gs = some (.num v) → Xd Z.e_BadNumber [("value", .int v)] m)
theorem Clip_mk {Z : Ad} {m : Mem} {Q : D → Mem → Prop} {Xd : XD} {z : Str} {g : D} {len : Option Int} {r : Int} {gd : D} {gs : List Int} (h : clipP Z z g len r gd gs m Q Xd) : mkP Z.clip (p_Clip_init Z) [.str z, g, oD len, .int r, gd] m Q Xd := by
  obtain ⟨h1, h2, h3, h4, h5, h6⟩ := h
  intro x dx hx
  have hs : Sv gd (mset m x (.ins Z.clip dx [])) (gs.map D.int) := by
    rcases h3 with (h | ⟨q, rfl, h⟩) | h
    · exact .inl (.inl h)
    · exact .inl (.inr ⟨q, rfl, by rw [mset_ne (fun e => by rw [e, hx] at h; cases h)]; exact h⟩)
    · exact .inr h
  refine ⟨x, z, g, len, r, gd, gs, rfl, h1, h2, hs, dx, mset_same, fun h0 => ⟨rfl, _, mset_same, by rw [mset_mset, mdel_mset hx]; exact h4 h0⟩, fun h0 => ?_, fun v h0 => ?_⟩
  · show Xd _ _ (mdel _ x)
    rw [mdel_mset hx]; exact h5 h0
  · show Xd _ _ (mdel _ x)
    rw [mset_mset, mdel_mset hx]; exact h6 v h0
def pk1_Clip (Z : Ad) : List D → PD := fun es ds m Q Xd => ∃ z g len, ds = [.str z] ∧ es = [g, oD len] ∧ clipP Z z g len 1 (.tup []) [] m Q Xd
def pk2_Clip (Z : Ad) : List D → PD := fun es ds m Q Xd => ∃ z g len gd gs, ds = [.str z] ∧ es = [g, oD len, gd] ∧ clipP Z z g len 1 gd gs m Q Xd
def pk3_Clip (Z : Ad) : List D → PD := fun es ds m Q Xd => ∃ z g len r, ds = [.str z] ∧ es = [g, oD len, .int r] ∧ clipP Z z g len r (.tup []) [] m Q Xd
def pk4_Clip (Z : Ad) : List D → PD := fun es ds m Q Xd => ∃ z g len r gd gs, ds = [.str z] ∧ es = [g, oD len, .int r, gd] ∧ clipP Z z g len r gd gs m Q Xd
section
variable {Z : Ad} {P : Program} {w : World} {K : PySem.W.Frag} {mg : Str → Option Value} {base : Heap} {B : Bx} {k k' : Nat}
abbrev FK_Clip (K : PySem.W.Frag) (Z : Ad) (fd : FuncData) (cda cc : Addr) : Prop := FunK K "__init__" "Clip.__init__" s_Clip_init [("rounds", V.int 1), ("guards", V.ref Z.tnil)] fd cda cc
abbrev CK_Clip (P : Program) (w : World) (K : PySem.W.Frag) (mg : Str → Option Value) (base : Heap) (Z : Ad) (k : Nat) : Prop := KF P w K mg base "Clip" Z.clip "Clip.__init__" s_Clip_init ["self", "name", "grid", "length", "rounds", "guards"] k [("rounds", V.int 1), ("guards", V.ref Z.tnil)] (p_Clip_init Z)
theorem Clip_call1 (c : CK_Clip P w K mg base Z k) (tn : NilT K Z.tnil) (hr : Room k' B.X.A) (hk : k + 1 ≤ k') (hs : Hs P w K mg base B) (hg : Gl B.X "Clip") : GCalK B "Clip" 1 ["grid", "length"] (pk1_Clip Z) := by
  have a := calkk_of (n := 1) (ks := ["grid", "length"]) (gV := fun vs zs => vs ++ (zs ++ [V.int 1, V.ref Z.tnil])) (gV' := fun vs zs => vs ++ (zs ++ [V.int 1, V.ref Z.tnil])) (gD := fun ds es => ds ++ (es ++ [.int 1, .tup []])) c hr hk hs hg (fun fd cda cc (F : FK_Clip K Z fd cda cc) => by
    obtain ⟨mv, hb⟩ := F.kbinds0 (ps := ["self", "name", "grid", "length", "rounds", "guards"]) 2 ["grid", "length"] [("rounds", V.int 1), ("guards", V.ref Z.tnil)] (fun us mv ws => us ++ (ws ++ mv)) (by simp) (fun q hq => hq) (fun r1 r2 r3 => r1.append (r3.append r2)) (fun D doc pm an cdv ct us mv ws h1 h2 h3 => match us, mv, ws, h1, h2, h3 with | [_, _], [_, _], [_, _], _, _, _ => ⟨_, _, _, _, _, _, rfl, rfl, ⟨_, _, _, _, _, _, rfl, rfl, rfl⟩⟩)
    exact ⟨_, fun us ws => us ++ (ws ++ mv), hb, fun _ _ _ => rfl⟩) (fun _ _ _ => rfl) (fun G ds es vs zs h1 h2 => reps_app h1 (reps_app h2 (show Reps K G [D.int 1, D.tup []] [V.int 1, V.ref Z.tnil] from ⟨_, _, rfl, rfl, _, _, rfl, tn.rep G, rfl⟩)))
  refine a.imp fun es ds m Q Xd _ _ h => ?_
  obtain ⟨z, g, len, rfl, rfl, h⟩ := h
  exact Clip_mk h
theorem Clip_call3 (c : CK_Clip P w K mg base Z k) (tn : NilT K Z.tnil) (hr : Room k' B.X.A) (hk : k + 1 ≤ k') (hs : Hs P w K mg base B) (hg : Gl B.X "Clip") : GCalK B "Clip" 1 ["grid", "length", "rounds"] (pk3_Clip Z) := by
  have a := calkk_of (n := 1) (ks := ["grid", "length", "rounds"]) (gV := fun vs zs => vs ++ (zs ++ [V.ref Z.tnil])) (gV' := fun vs zs => vs ++ (zs ++ [V.ref Z.tnil])) (gD := fun ds es => ds ++ (es ++ [.tup []])) c hr hk hs hg (fun fd cda cc (F : FK_Clip K Z fd cda cc) => by
    obtain ⟨mv, hb⟩ := F.kbinds0 (ps := ["self", "name", "grid", "length", "rounds", "guards"]) 2 ["grid", "length", "rounds"] [("guards", V.ref Z.tnil)] (fun us mv ws => us ++ (ws ++ mv)) (by simp) (fun q hq => List.mem_cons_of_mem _ hq) (fun r1 r2 r3 => r1.append (r3.append r2)) (fun D doc pm an cdv ct us mv ws h1 h2 h3 => match us, mv, ws, h1, h2, h3 with | [_, _], [_], [_, _, _], _, _, _ => ⟨_, _, _, _, _, _, rfl, rfl, rfl⟩)
    exact ⟨_, fun us ws => us ++ (ws ++ mv), hb, fun _ _ _ => rfl⟩) (fun _ _ _ => rfl) (fun G ds es vs zs h1 h2 => reps_app h1 (reps_app h2 ⟨_, _, rfl, tn.rep G, rfl⟩))
  refine a.imp fun es ds m Q Xd _ _ h => ?_
  obtain ⟨z, g, len, r, rfl, rfl, h⟩ := h
  exact Clip_mk h
theorem Clip_call4 (c : CK_Clip P w K mg base Z k) (tn : NilT K Z.tnil) (hr : Room k' B.X.A) (hk : k + 1 ≤ k') (hs : Hs P w K mg base B) (hg : Gl B.X "Clip") : GCalK B "Clip" 1 ["grid", "length", "rounds", "guards"] (pk4_Clip Z) := by
  have a := calkk_of (n := 1) (ks := ["grid", "length", "rounds", "guards"]) (gV := fun vs zs => vs ++ zs) (gV' := fun vs zs => vs ++ zs) (gD := fun ds es => ds ++ es) c hr hk hs hg (fun fd cda cc (F : FK_Clip K Z fd cda cc) => by
    obtain ⟨mv, hb⟩ := F.kbinds0 (ps := ["self", "name", "grid", "length", "rounds", "guards"]) 2 ["grid", "length", "rounds", "guards"] [] (fun us mv ws => us ++ ws) (by simp) (fun q hq => by cases hq) (fun r1 r2 r3 => r1.append r3) (fun D doc pm an cdv ct us mv ws h1 h2 h3 => match us, mv, ws, h1, h2, h3 with | [_, _], [], [_, _, _, _], _, _, _ => rfl)
    exact ⟨_, fun us ws => us ++ ws, hb, fun _ _ _ => rfl⟩) (fun _ _ _ => rfl) (fun G ds es vs zs h1 h2 => reps_app h1 h2)
  refine a.imp fun es ds m Q Xd _ _ h => ?_
  obtain ⟨z, g, len, r, gd, gs, rfl, rfl, h⟩ := h
  exact Clip_mk h
theorem Clip_call2 (c : CK_Clip P w K mg base Z k) (tn : NilT K Z.tnil) (hr : Room k' B.X.A) (hk : k + 1 ≤ k') (hs : Hs P w K mg base B) (hg : Gl B.X "Clip") : GCalK B "Clip" 1 ["grid", "length", "guards"] (pk2_Clip Z) := by
  have a := calkk_of (n := 1) (ks := ["grid", "length", "guards"]) (gV := fun vs zs => vs ++ (zs.take 2 ++ ([V.int 1] ++ zs.drop 2))) (gV' := fun vs zs => vs ++ (zs.take 2 ++ ([V.int 1] ++ zs.drop 2))) (gD := fun ds es => ds ++ (es.take 2 ++ ([.int 1] ++ es.drop 2))) c hr hk hs hg (fun fd cda cc (F : FK_Clip K Z fd cda cc) => by
    obtain ⟨mv, hb⟩ := F.kbinds0 (ps := ["self", "name", "grid", "length", "rounds", "guards"]) 2 ["grid", "length", "guards"] [("rounds", V.int 1)] (fun us mv ws => us ++ (ws.take 2 ++ (mv ++ ws.drop 2))) (by simp) (fun q hq => by rw [List.mem_singleton.mp hq]; exact List.mem_cons_self) (fun r1 r2 r3 => r1.append ((r3.take 2).append (r2.append (r3.drop 2)))) (fun D doc pm an cdv ct us mv ws h1 h2 h3 => match us, mv, ws, h1, h2, h3 with | [_, _], [_], [_, _, _], _, _, _ => ⟨_, _, _, _, _, _, rfl, rfl, rfl⟩)
    exact ⟨_, fun us ws => us ++ (ws.take 2 ++ (mv ++ ws.drop 2)), hb, fun _ _ _ => rfl⟩) (fun _ _ _ => rfl) (fun G ds es vs zs h1 h2 => reps_app h1 (reps_app (reps_take 2 h2) (reps_app (show Reps K G [D.int 1] [V.int 1] from ⟨_, _, rfl, rfl, rfl⟩) (reps_drop 2 h2))))
  refine a.imp fun es ds m Q Xd _ _ h => ?_
  obtain ⟨z, g, len, gd, gs, rfl, rfl, h⟩ := h
  exact Clip_mk h
end
theorem ok_Clip_init {Z : Ad} {P : Program} {w : World} {K : PySem.W.Frag} {mg : Str → Option Value} {base : Heap} (GD : KDef P K mg "Clip" Z.clip Z.sound "Clip.__init__" s_Clip_init [("rounds", V.int 1), ("guards", V.ref Z.tnil)]) (T : Tn mg) (T_Clip : ClipT K mg Z.clip) (T_Sound : SoundT K mg Z.sound) (c_Sound : CF P w K mg base "Sound" Z.sound "Sound.__init__" s_Sound_init ["self", "name", "grid"] 4 [] [] (p_Sound_init Z)) (tn : NilT K Z.tnil) (E_BadNumber : ErrI P w K mg base "BadNumber" Z.e_BadNumber ["value"] okAny) : KF P w K mg base "Clip" Z.clip "Clip.__init__" s_Clip_init ["self", "name", "grid", "length", "rounds", "guards"] 6 [("rounds", V.int 1), ("guards", V.ref Z.tnil)] (p_Clip_init Z) := by
  obtain ⟨f, f2, cda, cc, fd, hm0, hmk, hf0, hsup, hat⟩ := GD.ex
  obtain ⟨fd2, hb2, F2⟩ := init_at c_Sound hat (fun kV doc pm an cdv ct us hl => match us, hl with | [_, _, _], _ => rfl)
  refine ⟨f, cda, cc, fd, hm0, hmk, hf0, ?_⟩
  obtain ⟨kV, doc, pm, an, ct, rfl, _⟩ := hf0.ex
  refine sup_fnE (w := w) (base := base) (PP := p_Clip_init Z) (k := 5) sc_Clip_init hsup hf0.cd F2 hb2 (by omega) (by intro ds m Q Xd h; obtain ⟨_, _, _, _, _, _, _, rfl, _⟩ := h; rfl) (fun L => rfl) (fun L => ⟨_, rfl⟩) fun B A outer s H E hB hr k ds m Q Xd h hx => ?_
  have hs : Hs P w K mg base B := by unfold Hs; rw [hB]; exact ⟨rfl, rfl, rfl, rfl, rfl⟩
  have hK : B.X.K = K := hs.2.2.1
  have sl0 : Sl B "self" 0 := ⟨by rw [hB]; rfl, by rw [hB]; first | exact Or.inl rfl | exact Or.inr rfl, by rw [hB]; first | exact Or.inl rfl | exact Or.inr rfl⟩
  have sl1 : Sl B "name" 1 := ⟨by rw [hB]; rfl, by rw [hB]; first | exact Or.inl rfl | exact Or.inr rfl, by rw [hB]; first | exact Or.inl rfl | exact Or.inr rfl⟩
  have sl2 : Sl B "grid" 2 := ⟨by rw [hB]; rfl, by rw [hB]; first | exact Or.inl rfl | exact Or.inr rfl, by rw [hB]; first | exact Or.inl rfl | exact Or.inr rfl⟩
  have sl3 : Sl B "length" 3 := ⟨by rw [hB]; rfl, by rw [hB]; first | exact Or.inl rfl | exact Or.inr rfl, by rw [hB]; first | exact Or.inl rfl | exact Or.inr rfl⟩
  have sl4 : Sl B "rounds" 4 := ⟨by rw [hB]; rfl, by rw [hB]; first | exact Or.inl rfl | exact Or.inr rfl, by rw [hB]; first | exact Or.inl rfl | exact Or.inr rfl⟩
  have sl5 : Sl B "guards" 5 := ⟨by rw [hB]; rfl, by rw [hB]; first | exact Or.inl rfl | exact Or.inr rfl, by rw [hB]; first | exact Or.inl rfl | exact Or.inr rfl⟩
  have sl6 : Sl B "last" 6 := ⟨by rw [hB]; rfl, by rw [hB]; first | exact Or.inl rfl | exact Or.inr rfl, by rw [hB]; first | exact Or.inl rfl | exact Or.inr rfl⟩
  have sl7 : Sl B "guard" 7 := ⟨by rw [hB]; rfl, by rw [hB]; first | exact Or.inl rfl | exact Or.inr rfl, by rw [hB]; first | exact Or.inl rfl | exact Or.inr rfl⟩
  have b_tuple : Bt B "tuple" "tuple" := ⟨by rw [hB]; exact rfl, by rw [hB]; exact T.b_tuple, boot_tuple'⟩
  have ge_BadNumber : GErr B "BadNumber" Z.e_BadNumber ["value"] okAny := gerr_of E_BadNumber hr (by omega) hs (by rw [hB]; exact rfl)
  have cl_Clip : Cls B.X.K Z.clip := by rw [hK]; exact T_Clip.cl
  have kc_Clip_ROUNDS : GCon B.X.K Z.clip "ROUNDS" (.int 4) := by rw [hK]; exact T_Clip.k_ROUNDS
  have f_Clip_name : FldOk B Z.clip "name" := ⟨cl_Clip, by rw [hK]; exact T_Clip.n_name⟩
  have f_Clip_grid : FldOk B Z.clip "grid" := ⟨cl_Clip, by rw [hK]; exact T_Clip.n_grid⟩
  have f_Clip_length : FldOk B Z.clip "length" := ⟨cl_Clip, by rw [hK]; exact T_Clip.n_length⟩
  have f_Clip_rounds : FldOk B Z.clip "rounds" := ⟨cl_Clip, by rw [hK]; exact T_Clip.n_rounds⟩
  have f_Clip_guards : FldOk B Z.clip "guards" := ⟨cl_Clip, by rw [hK]; exact T_Clip.n_guards⟩
  have cl_Sound : Cls B.X.K Z.sound := by rw [hK]; exact T_Sound.cl
  have f_Sound_name : FldOk B Z.sound "name" := ⟨cl_Sound, by rw [hK]; exact T_Sound.n_name⟩
  have f_Sound_grid : FldOk B Z.sound "grid" := ⟨cl_Sound, by rw [hK]; exact T_Sound.n_grid⟩
  clear hB
  obtain ⟨x, z, g, len, r, gd, gs, rfl, hz, hl, hgd, dx, hm, h1, h2, h3⟩ := h
  refine ⟨_, _, rfl, .inr ⟨x, dx, rfl, hm⟩, .inr ⟨_, _, rfl, rfl, rfl, ?_⟩⟩
  walk_at "pd"
  refine ⟨_, ⟨x, z, g, rfl, hz, Z.clip, dx, SndC.clip Z, hm, fun ho => ?_, fun ho => h2 (clipE_name ho)⟩, hx⟩
  have hgd2 : Sv gd (mset m x (.ins Z.clip dx (soundL z g))) (gs.map D.int) := hgd.set_ins hm
  have hm2 : mset m x (.ins Z.clip dx (soundL z g)) x = some (.ins Z.clip dx (soundL z g)) := mset_same
  generalize hM : mset m x (.ins Z.clip dx (soundL z g)) = m2 at hm2 hgd2 h3
  have hend : ∀ {m' : Mem}, clipE z len r gs = none → m' = mset m2 x (.ins Z.clip dx (clipL z g len r gs)) → Q .non m' := fun he e => by
    rw [e, ← hM, mset_mset]
    exact h1 he
  show WSs B _ _ _ _
  refine' tail_of B (fun ρ m' => m' = m2 ∧ clipOk z len r ∧ Has ρ [(0, .ref x), (3, oD len), (4, .int r), (5, gd)]) (fun tail => ?_) ?_
  rotate_left 2
  · have bad : ∀ v, clipE z len r gs = some (.num v) → Xd Z.e_BadNumber [("value", .int v)] m2 := h3
    have ho' := ho
    cases len with
    | none =>
      refine wss_cons ?_
      walk_at "pde"
      refine wss_cons ?_
      rw [show oD none = D.non from rfl]
      walk_at "pde"
      refine ite_dec (fun g1 => ?_) (fun g1 => ?_)
      · walk_at "pde"
        refine ite_ndec (fun g2 => ?_) (fun g2 => ?_)
        · walk_at "pd"
          refine ws_raise k ge_BadNumber (XOK.xr hx) ?_ (by decide) rfl rfl
          walk_at "pd"
          exact ⟨True.intro, bad r (clipE_r0 ho (.inl fun h => g2 h.2))⟩
        · walk_at "pde"
          refine ite_ndec (fun g3 => ?_) (fun g3 => ?_)
          · walk_at "pd"
            refine ws_raise k ge_BadNumber (XOK.xr hx) ?_ (by decide) rfl rfl
            walk_at "pd"
            exact ⟨True.intro, bad r (clipE_r0 ho (.inr g3))⟩
          · walk_at "pde"
            exact tail _ _ ⟨rfl, ⟨ho, ⟨g1, g2⟩, g3⟩, by walk_at "has"⟩
      · walk_at "pd"
        refine ws_raise k ge_BadNumber (XOK.xr hx) ?_ (by decide) rfl rfl
        walk_at "pd"
        exact ⟨True.intro, bad r (clipE_r0 ho (.inl fun h => g1 h.1))⟩
    | some n =>
      rw [show oD (some n) = D.int n from rfl]
      refine wss_cons ?_
      walk_at "pde"
      refine ite_dec (fun g0 => ?_) (fun g0 => ?_)
      · walk_at "pd"
        refine ws_raise k ge_BadNumber (XOK.xr hx) ?_ (by decide) rfl rfl
        walk_at "pd"
        exact ⟨True.intro, bad n (clipE_len ho g0)⟩
      refine wss_nil ?_
      refine wss_cons ?_
      walk_at "pde"
      refine ite_dec (fun g1 => ?_) (fun g1 => ?_)
      · walk_at "pde"
        refine ite_ndec (fun g2 => ?_) (fun g2 => ?_)
        · walk_at "pd"
          refine ws_raise k ge_BadNumber (XOK.xr hx) ?_ (by decide) rfl rfl
          walk_at "pd"
          exact ⟨True.intro, bad r (clipE_r1 ho g0 fun h => g2 h.2)⟩
        · walk_at "pde"
          exact tail _ _ ⟨rfl, ⟨ho, ⟨g1, g2⟩, by show 1 ≤ n; omega⟩, by walk_at "has"⟩
      · walk_at "pd"
        refine ws_raise k ge_BadNumber (XOK.xr hx) ?_ (by decide) rfl rfl
        walk_at "pd"
        exact ⟨True.intro, bad r (clipE_r1 ho g0 fun h => g1 h.1)⟩
  rintro ρ m' ⟨rfl, hok, hh⟩
  refine WSs.env ?_ hh
  clear hh ρ
  refine wss_cons ?_
  walk_at "pd"
  refine ws_forJ k ?_ (fun _ => rfl)
  refine wj_seq ?_
  walk_at "pd"
  refine ⟨_, hgd2, ?_⟩
  have ce := clipE_g (gs := gs) hok
  have hl2 : (gs.map D.int).length = gs.length := List.length_map _
  refine ⟨fun i ρ m'' => m'' = m' ∧ ∃ l, firstB len (-1) gs = firstB len l (gs.drop i) ∧ Has ρ [(6, .int l), (0, .ref x), (3, oD len), (4, .int r), (5, gd)], ⟨rfl, -1, rfl, by walk_at "has"⟩, fun i ρ m'' h => by show Sv gd m'' _; rw [h.1]; exact hgd2, ?_, ?_⟩
  · rintro i d ρ m'' hi ⟨rfl, l, el, hh⟩
    rw [List.getElem?_map] at hi
    obtain ⟨gg, hgg, rfl⟩ := Option.map_eq_some_iff.mp hi
    obtain ⟨hlt, he⟩ := List.getElem?_eq_some_iff.mp hgg
    have ed : gs.drop i = gg :: gs.drop (i + 1) := by rw [List.drop_eq_getElem_cons hlt, he]
    walk_at "tg"
    refine WSs.env ?_ hh.on
    clear hh ρ
    have badg : badG len l gg → Xd Z.e_BadNumber [("value", .int gg)] m'' := fun hb => h3 gg (by rw [ce, el, ed, firstB_bad hb]; rfl)
    have goodg : ¬ badG len l gg → firstB len (-1) gs = firstB len gg (gs.drop (i + 1)) := fun hb => by rw [el, ed, firstB_go hb]
    refine wss_cons ?_
    walk_at "pd"
    refine ite_dec (fun k1 => ?_) (fun k1 => ?_)
    · walk_at "pd"
      refine ws_raise k ge_BadNumber (XOK.xr hx) ?_ (by decide) rfl rfl
      walk_at "pd"
      exact ⟨True.intro, badg (.inl k1)⟩
    · cases len with
      | none =>
        rw [show oD none = D.non from rfl]
        walk_at "pd"
        exact ⟨rfl, gg, goodg (fun h => h.elim k1 fun ⟨_, e, _⟩ => by cases e), by walk_at "has"⟩
      | some n =>
        rw [show oD (some n) = D.int n from rfl]
        walk_at "pd"
        refine ite_dec (fun k2 => ?_) (fun k2 => ?_)
        · walk_at "pd"
          refine ws_raise k ge_BadNumber (XOK.xr hx) ?_ (by decide) rfl rfl
          walk_at "pd"
          exact ⟨True.intro, badg (.inr ⟨n, rfl, k2⟩)⟩
        · walk_at "pd"
          exact ⟨rfl, gg, goodg (fun h => h.elim k1 fun ⟨_, e, h⟩ => by cases e; exact k2 h), by walk_at "has"⟩
  · rintro ρ m'' ⟨rfl, l, el, hh⟩
    rw [hl2, List.drop_length] at el
    refine WSs.env ?_ hh
    clear hh ρ
    walk_at "pd"
    refine wc_tupleS ((hgd2.set_ins hm2).set_ins mset_same) ?_
    walk_at "pd"
    exact hend (by rw [ce, el]; rfl) (by rw [mset_mset, mset_mset, clip_put])
abbrev s_Lead_init : Stmt := inClass (top 18) 1
abbrev n_Lead_init : List Str := ["self", "name", "grid", "length", "stops", "known", "stop"]
theorem sc_Lead_init : PdErr.SupS n_Lead_init ["self", "name", "grid", "length", "stops"] (defScope s_Lead_init) := ⟨rfl, rfl, rfl, by decide +kernel, rfl, by decide +kernel, by decide +kernel, by decide +kernel, rfl, rfl, ⟨_, rfl⟩⟩
abbrev leadL (z : Str) (g : D) (n : Int) (st : List Str) : List (Str × D) := [("name", .str z), ("grid", g), ("length", .int n), ("stops", .tup (st.map .str))]
abbrev leadD (Z : Ad) (z : Str) (g : D) (n : Int) (st : List Str) : D := .ins Z.lead (leadL z g n st)
theorem lead_put (z : Str) (g : D) (n : Int) (st : List Str) : putD "stops" (.tup (st.map .str)) (putD "length" (.int n) (soundL z g)) = leadL z g n st := by
  have e1 : ("name" : Str) ≠ "length" := by decide +kernel
  have e2 : ("grid" : Str) ≠ "length" := by decide +kernel
  have e3 : ("name" : Str) ≠ "stops" := by decide +kernel
  have e4 : ("grid" : Str) ≠ "stops" := by decide +kernel
  have e5 : ("length" : Str) ≠ "stops" := by decide +kernel
  simp [putD, e1, e2, e3, e4, e5]
theorem lead_name {z g n st} : (leadL z g n st).lookup ("name" : Str) = some (.str z) := by simp [List.lookup]
theorem lead_grid {z g n st} : (leadL z g n st).lookup ("grid" : Str) = some g := by
  have e1 : (("grid" : Str) == "name") = false := by decide +kernel
  simp [List.lookup, e1]
theorem lead_length {z g n st} : (leadL z g n st).lookup ("length" : Str) = some (.int n) := by
  have e1 : (("length" : Str) == "name") = false := by decide +kernel
  have e2 : (("length" : Str) == "grid") = false := by decide +kernel
  simp [List.lookup, e1, e2]
theorem lead_stops {z g n st} : (leadL z g n st).lookup ("stops" : Str) = some (.tup (st.map .str)) := by
  have e1 : (("stops" : Str) == "name") = false := by decide +kernel
  have e2 : (("stops" : Str) == "grid") = false := by decide +kernel
  have e3 : (("stops" : Str) == "length") = false := by decide +kernel
  simp [List.lookup, e1, e2, e3]
local macro_rules | `(tactic| walk_at "flk") => `(tactic| first | exact lead_name | exact lead_grid | exact lead_length | exact lead_stops)
def leadX (Z : Ad) (z : Str) (n : Int) (st : List Str) (Xd : XD) (m : Mem) : Prop := (leadE z n st = some .num → Xd Z.e_BadNumber [("value", .int n)] m) ∧ (∀ y, leadE z n st = some (.twice y) → Xd Z.e_Twice [("name", .str y)] m)
def p_Lead_init (Z : Ad) : PD := fun ds m Q Xd => ∃ x z g n sd st, ds = [.ref x, .str z, g, .int n, sd] ∧ z.length ≤ sizeLine ∧ st.length ≤ 1000 ∧ Sv sd m (st.map .str) ∧ ∃ dx, m x = some (.ins Z.lead dx []) ∧
  (leadE z n st = none → Q .non (mset m x (.ins Z.lead dx (leadL z g n st)))) ∧ (leadE z n st = some .name → Xd Z.e_BadName [("name", .str z)] m) ∧ leadX Z z n st Xd (mset m x (.ins Z.lead dx (soundL z g)))
def leadP (Z : Ad) (z : Str) (g : D) (n : Int) (sd : D) (st : List Str) (m : Mem) (Q : D → Mem → Prop) (Xd : XD) : Prop := z.length ≤ sizeLine ∧ st.length ≤ 1000 ∧ Sv sd m (st.map .str) ∧
  (leadE z n st = none → Q (leadD Z z g n st) m) ∧ (leadE z n st = some .name → Xd Z.e_BadName [("name", .str z)] m) ∧ leadX Z z n st Xd m
theorem Lead_mk {Z : Ad} {m : Mem} {Q : D → Mem → Prop} {Xd : XD} {z : Str} {g : D} {n : Int} {sd : D} {st : List Str} (h : leadP Z z g n sd st m Q Xd) : mkP Z.lead (p_Lead_init Z) [.str z, g, .int n, sd] m Q Xd := by
  obtain ⟨h1, h2, h3, h4, h5, h6, h7⟩ := h
  intro x dx hx
  have hs : Sv sd (mset m x (.ins Z.lead dx [])) (st.map D.str) := by
    rcases h3 with (h | ⟨q, rfl, h⟩) | h
    · exact .inl (.inl h)
    · exact .inl (.inr ⟨q, rfl, by rw [mset_ne (fun e => by rw [e, hx] at h; cases h)]; exact h⟩)
    · exact .inr h
  refine ⟨x, z, g, n, sd, st, rfl, h1, h2, hs, dx, mset_same, fun h0 => ⟨rfl, _, mset_same, by rw [mset_mset, mdel_mset hx]; exact h4 h0⟩, fun h0 => ?_, fun h0 => ?_, fun v h0 => ?_⟩
  · show Xd _ _ (mdel _ x)
    rw [mdel_mset hx]; exact h5 h0
  · show Xd _ _ (mdel _ x)
    rw [mset_mset, mdel_mset hx]; exact h6 h0
  · show Xd _ _ (mdel _ x)
    rw [mset_mset, mdel_mset hx]; exact h7 v h0
theorem leadP_ok {Z : Ad} {z : Str} {g : D} {n : Int} {sd : D} {st : List Str} {m : Mem} {Q : D → Mem → Prop} (h1 : z.length ≤ sizeLine) (h2 : st.length ≤ 1000) (h3 : Sv sd m (st.map .str)) (h4 : leadE z n st = none) (h : Q (leadD Z z g n st) m) : leadP Z z g n sd st m Q noX := ⟨h1, h2, h3, fun _ => h, fun e => (by rw [h4] at e; cases e), fun e => (by rw [h4] at e; cases e), fun v e => (by rw [h4] at e; cases e)⟩
def pk1_Lead (Z : Ad) : List D → PD := fun es ds m Q Xd => ∃ z g n, ds = [.str z] ∧ es = [g, .int n] ∧ leadP Z z g n (.tup []) [] m Q Xd
def pk2_Lead (Z : Ad) : List D → PD := fun es ds m Q Xd => ∃ z g n sd st, ds = [.str z] ∧ es = [g, .int n, sd] ∧ leadP Z z g n sd st m Q Xd
section
variable {Z : Ad} {P : Program} {w : World} {K : PySem.W.Frag} {mg : Str → Option Value} {base : Heap} {B : Bx} {k k' : Nat}
abbrev FK_Lead (K : PySem.W.Frag) (Z : Ad) (fd : FuncData) (cda cc : Addr) : Prop := FunK K "__init__" "Lead.__init__" s_Lead_init [("stops", V.ref Z.tnil2)] fd cda cc
abbrev CK_Lead (P : Program) (w : World) (K : PySem.W.Frag) (mg : Str → Option Value) (base : Heap) (Z : Ad) (k : Nat) : Prop := KF P w K mg base "Lead" Z.lead "Lead.__init__" s_Lead_init ["self", "name", "grid", "length", "stops"] k [("stops", V.ref Z.tnil2)] (p_Lead_init Z)
theorem Lead_call1 (c : CK_Lead P w K mg base Z k) (tn : NilT K Z.tnil2) (hr : Room k' B.X.A) (hk : k + 1 ≤ k') (hs : Hs P w K mg base B) (hg : Gl B.X "Lead") : GCalK B "Lead" 1 ["grid", "length"] (pk1_Lead Z) := by
  have a := calkk_of (n := 1) (ks := ["grid", "length"]) (gV := fun vs zs => vs ++ (zs ++ [V.ref Z.tnil2])) (gV' := fun vs zs => vs ++ (zs ++ [V.ref Z.tnil2])) (gD := fun ds es => ds ++ (es ++ [.tup []])) c hr hk hs hg (fun fd cda cc (F : FK_Lead K Z fd cda cc) => by
    obtain ⟨mv, hb⟩ := F.kbinds0 (ps := ["self", "name", "grid", "length", "stops"]) 2 ["grid", "length"] [("stops", V.ref Z.tnil2)] (fun us mv ws => us ++ (ws ++ mv)) (by simp) (fun q hq => hq) (fun r1 r2 r3 => r1.append (r3.append r2)) (fun D doc pm an cdv ct us mv ws h1 h2 h3 => match us, mv, ws, h1, h2, h3 with | [_, _], [_], [_, _], _, _, _ => ⟨_, _, _, _, _, _, rfl, rfl, rfl⟩)
    exact ⟨_, fun us ws => us ++ (ws ++ mv), hb, fun _ _ _ => rfl⟩) (fun _ _ _ => rfl) (fun G ds es vs zs h1 h2 => reps_app h1 (reps_app h2 ⟨_, _, rfl, tn.rep G, rfl⟩))
  refine a.imp fun es ds m Q Xd _ _ h => ?_
  obtain ⟨z, g, n, rfl, rfl, h⟩ := h
  exact Lead_mk h
theorem Lead_call2 (c : CK_Lead P w K mg base Z k) (tn : NilT K Z.tnil2) (hr : Room k' B.X.A) (hk : k + 1 ≤ k') (hs : Hs P w K mg base B) (hg : Gl B.X "Lead") : GCalK B "Lead" 1 ["grid", "length", "stops"] (pk2_Lead Z) := by
  have a := calkk_of (n := 1) (ks := ["grid", "length", "stops"]) (gV := fun vs zs => vs ++ zs) (gV' := fun vs zs => vs ++ zs) (gD := fun ds es => ds ++ es) c hr hk hs hg (fun fd cda cc (F : FK_Lead K Z fd cda cc) => by
    obtain ⟨mv, hb⟩ := F.kbinds0 (ps := ["self", "name", "grid", "length", "stops"]) 2 ["grid", "length", "stops"] [] (fun us mv ws => us ++ ws) (by simp) (fun q hq => by cases hq) (fun r1 r2 r3 => r1.append r3) (fun D doc pm an cdv ct us mv ws h1 h2 h3 => match us, mv, ws, h1, h2, h3 with | [_, _], [], [_, _, _], _, _, _ => rfl)
    exact ⟨_, fun us ws => us ++ ws, hb, fun _ _ _ => rfl⟩) (fun _ _ _ => rfl) (fun G ds es vs zs h1 h2 => reps_app h1 h2)
  refine a.imp fun es ds m Q Xd _ _ h => ?_
  obtain ⟨z, g, n, sd, st, rfl, rfl, h⟩ := h
  exact Lead_mk h
end
theorem ok_Lead_init {Z : Ad} {P : Program} {w : World} {K : PySem.W.Frag} {mg : Str → Option Value} {base : Heap} (GD : KDef P K mg "Lead" Z.lead Z.sound "Lead.__init__" s_Lead_init [("stops", V.ref Z.tnil2)]) (T : Tn mg) (T_Lead : LeadT K mg Z.lead) (T_Sound : SoundT K mg Z.sound) (c_Sound : CF P w K mg base "Sound" Z.sound "Sound.__init__" s_Sound_init ["self", "name", "grid"] 4 [] [] (p_Sound_init Z)) (tn2 : NilT K Z.tnil2) (E_BadNumber : ErrI P w K mg base "BadNumber" Z.e_BadNumber ["value"] okAny) (E_Twice : ErrI P w K mg base "Twice" Z.e_Twice ["name"] okAny) : KF P w K mg base "Lead" Z.lead "Lead.__init__" s_Lead_init ["self", "name", "grid", "length", "stops"] 6 [("stops", V.ref Z.tnil2)] (p_Lead_init Z) := by
  obtain ⟨f, f2, cda, cc, fd, hm0, hmk, hf0, hsup, hat⟩ := GD.ex
  obtain ⟨fd2, hb2, F2⟩ := init_at c_Sound hat (fun kV doc pm an cdv ct us hl => match us, hl with | [_, _, _], _ => rfl)
  refine ⟨f, cda, cc, fd, hm0, hmk, hf0, ?_⟩
  obtain ⟨kV, doc, pm, an, ct, rfl, _⟩ := hf0.ex
  refine sup_fnE (w := w) (base := base) (PP := p_Lead_init Z) (k := 5) sc_Lead_init hsup hf0.cd F2 hb2 (by omega) (by intro ds m Q Xd h; obtain ⟨_, _, _, _, _, _, rfl, _⟩ := h; rfl) (fun L => rfl) (fun L => ⟨_, rfl⟩) fun B A outer s H E hB hr k ds m Q Xd h hx => ?_
  have hs : Hs P w K mg base B := by unfold Hs; rw [hB]; exact ⟨rfl, rfl, rfl, rfl, rfl⟩
  have hK : B.X.K = K := hs.2.2.1
  have sl0 : Sl B "self" 0 := ⟨by rw [hB]; rfl, by rw [hB]; first | exact Or.inl rfl | exact Or.inr rfl, by rw [hB]; first | exact Or.inl rfl | exact Or.inr rfl⟩
  have sl1 : Sl B "name" 1 := ⟨by rw [hB]; rfl, by rw [hB]; first | exact Or.inl rfl | exact Or.inr rfl, by rw [hB]; first | exact Or.inl rfl | exact Or.inr rfl⟩
  have sl2 : Sl B "grid" 2 := ⟨by rw [hB]; rfl, by rw [hB]; first | exact Or.inl rfl | exact Or.inr rfl, by rw [hB]; first | exact Or.inl rfl | exact Or.inr rfl⟩
  have sl3 : Sl B "length" 3 := ⟨by rw [hB]; rfl, by rw [hB]; first | exact Or.inl rfl | exact Or.inr rfl, by rw [hB]; first | exact Or.inl rfl | exact Or.inr rfl⟩
  have sl4 : Sl B "stops" 4 := ⟨by rw [hB]; rfl, by rw [hB]; first | exact Or.inl rfl | exact Or.inr rfl, by rw [hB]; first | exact Or.inl rfl | exact Or.inr rfl⟩
  have sl5 : Sl B "known" 5 := ⟨by rw [hB]; rfl, by rw [hB]; first | exact Or.inl rfl | exact Or.inr rfl, by rw [hB]; first | exact Or.inl rfl | exact Or.inr rfl⟩
  have sl6 : Sl B "stop" 6 := ⟨by rw [hB]; rfl, by rw [hB]; first | exact Or.inl rfl | exact Or.inr rfl, by rw [hB]; first | exact Or.inl rfl | exact Or.inr rfl⟩
  have b_tuple : Bt B "tuple" "tuple" := ⟨by rw [hB]; exact rfl, by rw [hB]; exact T.b_tuple, boot_tuple'⟩
  have ge_BadNumber : GErr B "BadNumber" Z.e_BadNumber ["value"] okAny := gerr_of E_BadNumber hr (by omega) hs (by rw [hB]; exact rfl)
  have ge_Twice : GErr B "Twice" Z.e_Twice ["name"] okAny := gerr_of E_Twice hr (by omega) hs (by rw [hB]; exact rfl)
  have cl_Lead : Cls B.X.K Z.lead := by rw [hK]; exact T_Lead.cl
  have kc_Lead_PATIENCE : GCon B.X.K Z.lead "PATIENCE" (.int 64) := by rw [hK]; exact T_Lead.k_PATIENCE
  have f_Lead_name : FldOk B Z.lead "name" := ⟨cl_Lead, by rw [hK]; exact T_Lead.n_name⟩
  have f_Lead_grid : FldOk B Z.lead "grid" := ⟨cl_Lead, by rw [hK]; exact T_Lead.n_grid⟩
  have f_Lead_length : FldOk B Z.lead "length" := ⟨cl_Lead, by rw [hK]; exact T_Lead.n_length⟩
  have f_Lead_stops : FldOk B Z.lead "stops" := ⟨cl_Lead, by rw [hK]; exact T_Lead.n_stops⟩
  have cl_Sound : Cls B.X.K Z.sound := by rw [hK]; exact T_Sound.cl
  have f_Sound_name : FldOk B Z.sound "name" := ⟨cl_Sound, by rw [hK]; exact T_Sound.n_name⟩
  have f_Sound_grid : FldOk B Z.sound "grid" := ⟨cl_Sound, by rw [hK]; exact T_Sound.n_grid⟩
  clear hB
  obtain ⟨x, z, g, n, sd, st, rfl, hz, hl, hsd, dx, hm, h1, h2, h3, h4⟩ := h
  have e9 : sizeLine = 16777216 := sizeLine_eq
  refine ⟨_, _, rfl, .inr ⟨x, dx, rfl, hm⟩, .inr ⟨_, _, rfl, rfl, rfl, ?_⟩⟩
  walk_at "pd"
  refine ⟨_, ⟨x, z, g, rfl, hz, Z.lead, dx, SndC.lead Z, hm, fun ho => ?_, fun ho => h2 (leadE_name ho)⟩, hx⟩
  have hsd2 : Sv sd (mset m x (.ins Z.lead dx (soundL z g))) (st.map D.str) := hsd.set_ins hm
  have hm2 : mset m x (.ins Z.lead dx (soundL z g)) x = some (.ins Z.lead dx (soundL z g)) := mset_same
  generalize hM : mset m x (.ins Z.lead dx (soundL z g)) = m2 at hm2 hsd2 h3 h4
  have hend : ∀ {m' : Mem}, leadE z n st = none → m' = mset m2 x (.ins Z.lead dx (leadL z g n st)) → Q .non m' := fun he e => by
    rw [e, ← hM, mset_mset]
    exact h1 he
  refine wss_cons ?_
  walk_at "pd"
  refine ite_dec (fun g0 => ?_) (fun g0 => ?_)
  · walk_at "pd go"
    refine ws_raise k ge_BadNumber (XOK.xr hx) ?_ (by decide) rfl rfl
    walk_at "pd"
    exact ⟨True.intro, h3 (leadE_num ho g0)⟩
  have hdup := leadE_dup (st := st) ho g0
  walk_at "pd"
  refine we_lstM ?_
  walk_at "pd"
  intro q hq0
  have hxq : x ≠ q := fun e => by rw [← e, hm2] at hq0; cases hq0
  have hsd3 : ∀ l, Sv sd (mset m2 q (.lst l)) (st.map D.str) := fun l => by
    rcases hsd2 with (h | ⟨t, h, ht⟩) | h
    · exact .inl (.inl h)
    · exact .inl (.inr ⟨t, h, by rw [mset_ne (fun e => by rw [e, hq0] at ht; cases ht)]; exact ht⟩)
    · exact .inr h
  have hls : (st.map D.str).length = st.length := List.length_map _
  refine wss_cons ?_
  refine ws_forJ k ?_ (fun _ => rfl)
  refine wj_seq ?_
  walk_at "pd"
  refine ⟨_, hsd3 _, ?_⟩
  refine ⟨fun i ρ m'' => m'' = mset m2 q (.lst ((st.take i).map D.str)) ∧ dupS [] st = dupS (st.take i) (st.drop i) ∧ Has ρ [(0, .ref x), (3, .int n), (5, .ref q)], ⟨rfl, rfl, by walk_at "has"⟩, fun i ρ m' h => by rw [h.1]; exact hsd3 _, ?_, ?_⟩
  · rintro i d ρ m'' hi ⟨rfl, hdu, hh⟩
    rw [List.getElem?_map] at hi
    obtain ⟨y, hyi, rfl⟩ := Option.map_eq_some_iff.mp hi
    obtain ⟨hlt, he⟩ := List.getElem?_eq_some_iff.mp hyi
    have ed : st.drop i = y :: st.drop (i + 1) := by rw [List.drop_eq_getElem_cons hlt, he]
    rw [ed] at hdu
    have hq1 : mset m2 q (.lst ((st.take i).map D.str)) q = some (.lst ((st.take i).map D.str)) := mset_same
    walk_at "tg"
    refine WSs.env ?_ hh.on
    clear hh ρ
    refine wss_cons ?_
    walk_at "pd"
    refine wb_inL (l := (st.take i).map D.str) (.inl (.inr ⟨q, rfl, hq1⟩)) rfl (strs_flat _) ?_
    rw [strs_any]
    walk_at "pd"
    refine ite_dec (fun g3 => ?_) (fun g3 => ?_)
    · refine wss_drop q ?_
      rw [mdel_mset hq0]
      walk_at "pd go"
      refine ws_raise k ge_Twice (XOK.xr hx) ?_ (by decide) rfl rfl
      walk_at "pd"
      refine ⟨True.intro, h4 y ?_⟩
      rw [hdup, hdu]
      show Option.map LErr.twice (if y ∈ _ then _ else _) = _
      rw [if_pos g3]; rfl
    · walk_at "pd"
      refine ⟨_, hq1, by rw [List.length_map, List.length_take]; omega, ?_⟩
      walk_at "pd"
      refine ⟨by rw [mset_mset, take_snoc hyi, List.map_append]; rfl, ?_, by walk_at "has"⟩
      rw [hdu, take_snoc hyi]
      show (if y ∈ _ then _ else _) = _
      rw [if_neg g3]
  rintro ρ m'' ⟨rfl, hdu, hh⟩
  rw [hls, List.drop_length, List.take_length] at hdu
  rw [hls, List.take_length]
  refine WSs.env ?_ hh
  clear hh ρ
  have hok : leadE z n st = none := by rw [hdup, hdu]; rfl
  refine wss_fz 5 rfl (by rw [mset_same]) ?_
  rw [mdel_mset hq0]
  refine wss_cons ?_
  walk_at "pd"
  refine wc_tupleS (.inl (.inl rfl)) ?_
  walk_at "pd"
  refine hend hok ?_
  rw [mset_mset, ← lead_put]
abbrev s_Grid_init : Stmt := inClass (top 22) 0
abbrev n_Grid_init : List Str := ["self", "step", "offset"]
theorem sc_Grid_init : FnScope n_Grid_init ["self", "step", "offset"] (defScope s_Grid_init) := ⟨rfl, rfl, rfl, by decide +kernel, rfl, by decide +kernel, by decide +kernel⟩
abbrev gridL (s o : Int) : List (Str × D) := [("step", .int s), ("offset", .int o)]
abbrev gridD (Z : Ad) (s o : Int) : D := .ins Z.grid (gridL s o)
abbrev gridR (Z : Ad) (r : GRow) : D := gridD Z r.1 r.2
theorem grid_put (s o : Int) : putD "offset" (.int o) (putD "step" (.int s) []) = gridL s o := by
  show (if ("step" : Str) = "offset" then _ else (("step" : Str), D.int s) :: [(("offset" : Str), D.int o)]) = _
  rw [if_neg (by decide +kernel)]
theorem grid_step (s o : Int) : (gridL s o).lookup ("step" : Str) = some (D.int s) := by simp [List.lookup]
theorem grid_offset (s o : Int) : (gridL s o).lookup ("offset" : Str) = some (D.int o) := by
  have e : (("offset" : Str) == "step") = false := by decide +kernel
  simp [List.lookup, e]
theorem grid_no (s o : Int) {f : Str} (h1 : (f == "step") = false) (h2 : (f == "offset") = false) : (gridL s o).lookup f = none := by
  simp [List.lookup, h1, h2]
local macro_rules | `(tactic| walk_at "flk") => `(tactic| first | exact grid_step _ _ | exact grid_offset _ _)
def p_Grid_init (Z : Ad) : PD := fun ds m Q Xd => ∃ x s o, ds = [.ref x, .int s, .int o] ∧ ∃ dx, m x = some (.ins Z.grid dx []) ∧ (0 < s → Q .non (mset m x (.ins Z.grid dx (gridL s (o % s))))) ∧ (s ≤ 0 → Xd Z.e_BadNumber [("value", .int s)] m)
def p_Grid (Z : Ad) : PD := fun ds m Q Xd => ∃ s o, (ds = [.int s, .int o] ∨ (ds = [.int s] ∧ o = 0)) ∧ (0 < s → Q (gridD Z s (o % s)) m) ∧ (s ≤ 0 → Xd Z.e_BadNumber [("value", .int s)] m)
def pk_Grid (Z : Ad) : List D → PD := fun es ds m Q Xd => ∃ s o, ds = [.int s] ∧ es = [.int o] ∧ (0 < s → Q (gridD Z s (o % s)) m) ∧ (s ≤ 0 → Xd Z.e_BadNumber [("value", .int s)] m)
theorem Grid_mk {Z : Ad} {m : Mem} {Q : D → Mem → Prop} {Xd : XD} {s o : Int} (h1 : 0 < s → Q (gridD Z s (o % s)) m) (h2 : s ≤ 0 → Xd Z.e_BadNumber [("value", .int s)] m) : mkP Z.grid (p_Grid_init Z) [.int s, .int o] m Q Xd :=
  fun x dx hx => ⟨x, s, o, rfl, dx, mset_same, fun h0 => ⟨rfl, _, mset_same, by rw [mset_mset, mdel_mset hx]; exact h1 h0⟩, fun h0 => by show Xd _ _ (mdel _ x); rw [mdel_mset hx]; exact h2 h0⟩
theorem use_grid2 {B : Bx} {Z : Ad} {m : Mem} {Q : D → Mem → Prop} {s o : Int} (h0 : 0 < s) (h : Q (gridD Z s (o % s)) m) : ∃ Xd, p_Grid Z [.int s, .int o] m Q Xd ∧ XOK B Xd := ⟨noX, ⟨s, o, .inl rfl, fun _ => h, fun z => absurd h0 (by omega)⟩, xok_no B⟩
theorem use_grid1 {B : Bx} {Z : Ad} {m : Mem} {Q : D → Mem → Prop} {s : Int} (h0 : 0 < s) (h : Q (gridD Z s 0) m) : ∃ Xd, p_Grid Z [.int s] m Q Xd ∧ XOK B Xd := ⟨noX, ⟨s, 0, .inr ⟨rfl, rfl⟩, fun _ => by rw [Int.zero_emod]; exact h, fun z => absurd h0 (by omega)⟩, xok_no B⟩
theorem use_gridk {B : Bx} {ρ : DE} {Z : Ad} {m : Mem} {Q : D → Mem → Prop} {s o : Int} (h0 : 0 < s) (h : Q (gridD Z s (o % s)) m) : ∃ Xd, pk_Grid Z [.int o] [.int s] m Q Xd ∧ XR B ρ Xd := ⟨noX, ⟨s, o, rfl, rfl, fun _ => h, fun z => absurd h0 (by omega)⟩, (xok_no B).xr⟩
abbrev FD_Grid (K : PySem.W.Frag) (f : Addr) (fd : FuncData) : Prop := FunD K "__init__" "Grid.__init__" (defArgs s_Grid_init) (defBody s_Grid_init) (defScope s_Grid_init) [V.int 0] [] f fd
theorem cdef_Grid_init {K : PySem.W.Frag} {mg : Str → Option Value} {C f td : Addr} {oc oct kV dc pm cd ct : Value} {od odt an : Option Addr} {sl slt : Array (Option Value)} {tk : Tok} {nt : Nat} (hm : mg "Grid" = some (.ref C)) (M : Mk K C f)
    (l : K.lookup f = some ⟨oc, od, .func (PySem.W.fnOf "__init__" "Grid.__init__" (defArgs s_Grid_init) (defBody s_Grid_init) (defScope s_Grid_init) (.ref td) kV dc pm an cd ct), sl⟩) (c : PySem.W.codeIn K cd "Grid.__init__" = true) (kp : PySem.W.keepIn K (.ref f) = true)
    (t : K.lookup td = some ⟨oct, odt, .seq #[.int 0 tk] nt, slt⟩) : CDef K mg "Grid" C "Grid.__init__" s_Grid_init [V.int 0] [] :=
  ⟨f, _, hm, M, ⟨⟨oc, od, .ref td, kV, dc, pm, an, cd, ct, sl, rfl, l, c, .inr ⟨by simp, td, _, [.int 0 tk], nt, rfl, t, rfl, .cons ⟨tk, rfl⟩ .nil⟩, .inl rfl⟩, kp⟩⟩
section
variable {Z : Ad} {P : Program} {w : World} {K : PySem.W.Frag} {mg : Str → Option Value} {base : Heap} {B : Bx} {k k' : Nat}
theorem Grid_call (c : CF P w K mg base "Grid" Z.grid "Grid.__init__" s_Grid_init ["self", "step", "offset"] k [V.int 0] [] (p_Grid_init Z)) (hr : Room k' B.X.A) (hk : k + 1 ≤ k') (hs : Hs P w K mg base B) (hg : Gl B.X "Grid") : GCal B "Grid" (p_Grid Z) := by
  have a1 := calc_of (dv := []) [] c hr hk hs hg (fun f fd (F : FD_Grid K f fd) => F.binds1 3 1 (by simp) rfl (fun T kV doc pm an cdv ct us its h1 h2 => match us, its, h1, h2 with | [_, _, _], [_], _, _ => ⟨_, rfl, rfl⟩)) (fun _ => rfl)
  have a2 := calc_of (dv := [V.int 0]) [.int 0] c hr hk hs hg (fun f fd (F : FD_Grid K f fd) => F.binds1 2 0 (by simp) rfl (fun T kV doc pm an cdv ct us its h1 h2 => match us, its, h1, h2 with | [_, _], [_], _, _ => ⟨_, rfl, rfl⟩)) (fun _ => ⟨_, _, rfl, rfl, rfl⟩)
  refine (a1.or a2).imp fun ds m Q Xd h => ?_
  obtain ⟨s, o, h, h1, h2⟩ := h
  rcases h with rfl | ⟨rfl, rfl⟩
  · exact .inl (Grid_mk h1 h2)
  · exact .inr (Grid_mk h1 h2)
theorem Grid_callx (c : CF P w K mg base "Grid" Z.grid "Grid.__init__" s_Grid_init ["self", "step", "offset"] k [V.int 0] [] (p_Grid_init Z)) (hr : Room k' B.X.A) (hk : k + 1 ≤ k') (hs : Hs P w K mg base B) : CalX B Z.grid (p_Grid Z) := by
  have a1 := calx_of (dv := []) [] c hr hk hs (fun f fd (F : FD_Grid K f fd) => F.binds1 3 1 (by simp) rfl (fun T kV doc pm an cdv ct us its h1 h2 => match us, its, h1, h2 with | [_, _, _], [_], _, _ => ⟨_, rfl, rfl⟩)) (fun _ => rfl)
  have a2 := calx_of (dv := [V.int 0]) [.int 0] c hr hk hs (fun f fd (F : FD_Grid K f fd) => F.binds1 2 0 (by simp) rfl (fun T kV doc pm an cdv ct us its h1 h2 => match us, its, h1, h2 with | [_, _], [_], _, _ => ⟨_, rfl, rfl⟩)) (fun _ => ⟨_, _, rfl, rfl, rfl⟩)
  refine (a1.or a2).imp fun ds m Q Xd h => ?_
  obtain ⟨s, o, h, h1, h2⟩ := h
  rcases h with rfl | ⟨rfl, rfl⟩
  · exact .inl (Grid_mk h1 h2)
  · exact .inr (Grid_mk h1 h2)
theorem Grid_callk (c : CF P w K mg base "Grid" Z.grid "Grid.__init__" s_Grid_init ["self", "step", "offset"] k [V.int 0] [] (p_Grid_init Z)) (hr : Room k' B.X.A) (hk : k + 1 ≤ k') (hs : Hs P w K mg base B) (hg : Gl B.X "Grid") : GCalK B "Grid" 1 ["offset"] (pk_Grid Z) := by
  have a := calk_of (n := 1) (ks := ["offset"]) (gV := fun vs zs => vs ++ zs) (gV' := fun vs zs => vs ++ zs) (gD := fun ds es => ds ++ es) c hr hk hs hg (fun f fd (F : FD_Grid K f fd) => by
    obtain ⟨its, hb⟩ := F.kbindsD (ps := ["self", "step", "offset"]) 2 ["offset"] (fun us _ ws => us ++ ws) (by simp) (fun r1 _ r3 => r1.append r3) (fun T kV doc pm an cdv ct us its ws h1 h2 h3 => match us, its, ws, h1, h2, h3 with | [_, _], [_], [_], _, _, _ => ⟨_, rfl, rfl⟩)
    exact ⟨_, _, hb, fun _ _ _ => rfl⟩) (fun _ _ _ => rfl) (fun G ds es vs zs h1 h2 => reps_app h1 h2)
  refine a.imp fun es ds m Q Xd _ _ h => ?_
  obtain ⟨s, o, rfl, rfl, h1, h2⟩ := h
  exact Grid_mk h1 h2
end
theorem ok_Grid_init {Z : Ad} {P : Program} {w : World} {K : PySem.W.Frag} {mg : Str → Option Value} {base : Heap} (GD : CDef K mg "Grid" Z.grid "Grid.__init__" s_Grid_init [V.int 0] []) (T : Tn mg) (T_Grid : GridT K mg Z.grid) (E_BadNumber : ErrI P w K mg base "BadNumber" Z.e_BadNumber ["value"] okAny) : CF P w K mg base "Grid" Z.grid "Grid.__init__" s_Grid_init ["self", "step", "offset"] 3 [V.int 0] [] (p_Grid_init Z) := by
  refine cf_ok GD sc_Grid_init (by intro ds m Q Xd h; obtain ⟨_, _, _, rfl, _⟩ := h; rfl) fun B f cdv A outer s H E hB hr k ds m Q Xd h hx => ?_
  have hs : Hs P w K mg base B := by unfold Hs; rw [hB]; exact ⟨rfl, rfl, rfl, rfl, rfl⟩
  have hK : B.X.K = K := hs.2.2.1
  have sl0 : Sl B "self" 0 := ⟨by rw [hB]; rfl, by rw [hB]; exact Or.inl rfl, by rw [hB]; exact Or.inl rfl⟩
  have sl1 : Sl B "step" 1 := ⟨by rw [hB]; rfl, by rw [hB]; exact Or.inl rfl, by rw [hB]; exact Or.inl rfl⟩
  have sl2 : Sl B "offset" 2 := ⟨by rw [hB]; rfl, by rw [hB]; exact Or.inl rfl, by rw [hB]; exact Or.inl rfl⟩
  have ge_BadNumber : GErr B "BadNumber" Z.e_BadNumber ["value"] okAny := gerr_of E_BadNumber hr (by omega) hs (by rw [hB]; exact rfl)
  have cl_Grid : Cls B.X.K Z.grid := by rw [hK]; exact T_Grid.cl
  have f_Grid_step : FldOk B Z.grid "step" := ⟨cl_Grid, by rw [hK]; exact T_Grid.n_step⟩
  have f_Grid_offset : FldOk B Z.grid "offset" := ⟨cl_Grid, by rw [hK]; exact T_Grid.n_offset⟩
  clear hB
  obtain ⟨x, s, o, rfl, dx, hm, h1, h2⟩ := h
  refine wss_cons ?_
  walk_at "pd"
  refine ite_dec (fun hc => ?_) (fun hc => ?_)
  · refine wss_cons ?_
    refine ws_raise k ge_BadNumber (XOK.xr hx) ?_ (by decide) rfl rfl
    walk_at "pd"
    exact ⟨True.intro, h2 (by omega)⟩
  refine wss_nil ?_
  walk_at "pd"
  rw [mset_mset, grid_put]
  exact h1 (by omega)
abbrev s_law_box : Stmt := top 24
abbrev n_law_box : List Str := ["_law_script", "_law_at", "_law_cell", "_law_salt", "_law_one"]
theorem sc_law_box : FnScope n_law_box ["_law_script", "_law_at"] (defScope s_law_box) := ⟨rfl, rfl, rfl, by decide +kernel, rfl, by decide +kernel, by decide +kernel⟩
def boxL (a b c : Int) : MO := .lst [.int a, .int b, .int c]
def p_law_box : PD := fun ds m Q _ => ∃ (ns : List Int) (k : Int), ds = [.lst (ns.map D.int), .int k] ∧ 0 ≤ k ∧ ns.length ≤ 63 ∧ ∀ p a b c, m p = none → Q (.ref p) (mset m p (boxL a b c))
theorem use_box {B : Bx} {m : Mem} {Q : D → Mem → Prop} {ns : List Int} {k : Int} (h0 : 0 ≤ k) (hn : ns.length ≤ 63) (h : ∀ p m', (∃ a b c, m' p = some (.lst [.int a, .int b, .int c])) → m p = none → (∀ q, q ≠ p → m' q = m q) → Q (.ref p) m') : ∃ Xd, p_law_box [.lst (ns.map D.int), .int k] m Q Xd ∧ XOK B Xd :=
  ⟨noX, ⟨ns, k, rfl, h0, hn, fun p a b c hp => h p _ ⟨a, b, c, mset_same⟩ hp fun q hq => mset_ne hq⟩, xok_no B⟩
theorem ok_law_box {Z : Ad} {P : Program} {w : World} {K : PySem.W.Frag} {mg : Str → Option Value} {base : Heap} (GD : GDef K mg "_law_box" s_law_box ["_law_script", "_law_at"]) (T : Tn mg) : GF P w K mg base "_law_box" 1 (p_law_box) := by
  refine gf_ok GD sc_law_box (by intro ds m Q Xd h; obtain ⟨_, _, rfl, _⟩ := h; rfl) fun B f cdv A outer s H E hB hr k ds m Q Xd h hx => ?_
  have hs : Hs P w K mg base B := by unfold Hs; rw [hB]; exact ⟨rfl, rfl, rfl, rfl, rfl⟩
  have hK : B.X.K = K := hs.2.2.1
  have sl0 : Sl B "_law_script" 0 := ⟨by rw [hB]; rfl, by rw [hB]; exact Or.inl rfl, by rw [hB]; exact Or.inl rfl⟩
  have sl1 : Sl B "_law_at" 1 := ⟨by rw [hB]; rfl, by rw [hB]; exact Or.inl rfl, by rw [hB]; exact Or.inl rfl⟩
  have sl2 : Sl B "_law_cell" 2 := ⟨by rw [hB]; rfl, by rw [hB]; exact Or.inl rfl, by rw [hB]; exact Or.inl rfl⟩
  have sl3 : Sl B "_law_salt" 3 := ⟨by rw [hB]; rfl, by rw [hB]; exact Or.inl rfl, by rw [hB]; exact Or.inl rfl⟩
  have sl4 : Sl B "_law_one" 4 := ⟨by rw [hB]; rfl, by rw [hB]; exact Or.inl rfl, by rw [hB]; exact Or.inl rfl⟩
  have b_len : Bi B "len" "len" := ⟨by rw [hB]; exact rfl, by rw [hB]; exact T.b_len, boot_len'⟩
  have b_abs : Bi B "abs" "abs" := ⟨by rw [hB]; exact rfl, by rw [hB]; exact T.b_abs, boot_abs'⟩
  have b_int : Bt B "int" "int" := ⟨by rw [hB]; exact rfl, by rw [hB]; exact T.b_int, boot_int'⟩
  clear hB
  obtain ⟨ns, kk, rfl, hk, hn, hq⟩ := h
  refine wss_cons ?_
  walk_at "pd1"
  walk_at "pd1"
  refine wss_cons (ws_join (fun ρ m' => m = m' ∧ ∃ c, Has ρ [(0, .lst (ns.map D.int)), (1, .int kk), (2, .int c)]) ?_ ?_)
  · walk_at "pd"
    refine ite_dec (fun hc => ?_) (fun hc => ?_)
    · walk_at "pd"
      obtain ⟨d, h1, h2, h3⟩ := atI_in hk hc
      obtain ⟨n, _, rfl⟩ := List.mem_map.mp h1
      refine wi_list h2 ?_
      walk_at "pd"
      exact ⟨rfl, _, by walk_at "has"⟩
    · exact wss_nil ⟨rfl, _, by walk_at "has"⟩
  · rintro ρ m2 ⟨e, c0, hh⟩; subst e
    refine WSs.env ?_ hh
    clear hh ρ
    walk_at "pd"
    refine ws_for_l k ?_ (fun _ => rfl)
    walk_at "pd"
    refine forD_inv (fun ds ρ m' => m = m' ∧ (∀ d ∈ ds, ∃ n : Int, d = .int n) ∧ ∃ c, Has ρ [(2, .int c0), (3, .int c)]) ?_ ?_ _ _ _ ?_
    · rintro d ds ρ m2 ⟨e, hd, c, hh⟩; subst e
      obtain ⟨n, rfl⟩ := hd d List.mem_cons_self
      refine wg_nm k sl4 ?_
      refine WSs.env (ρ' := [(4, .int n), (2, .int c0), (3, .int c)]) ?_ (has_cons rfl (hh.up rfl))
      walk_at "pd"
      exact ⟨rfl, fun d q => hd d (List.mem_cons_of_mem _ q), _, by walk_at "has"⟩
    · rintro ρ m2 ⟨e, _, c, hh⟩; subst e
      refine WSs.env ?_ hh
      clear hh ρ
      walk_at "pd"
      refine ite_dec (fun hc => ?_) (fun hc => ?_)
      · walk_at "pd"
        refine we_lstM ?_
        walk_at "pd"
        exact fun p hp => hq p _ _ _ hp
      · walk_at "pd"
        refine we_lstM ?_
        walk_at "pd"
        exact fun p hp => hq p _ _ _ hp
    · refine ⟨rfl, fun d hd => ?_, _, by walk_at "has"⟩
      · have h1 : d ∈ ns.map D.int := List.mem_of_mem_drop (List.mem_of_mem_take hd)
        obtain ⟨n, _, rfl⟩ := List.mem_map.mp h1
        exact ⟨n, rfl⟩
abbrev s_law_draw : Stmt := top 25
abbrev n_law_draw : List Str := ["_law_box_here", "_law_many", "_law_found", "_law_total", "_law_turn", "_law_once", "_law_twice"]
theorem sc_law_draw : FnScope n_law_draw ["_law_box_here", "_law_many"] (defScope s_law_draw) := ⟨rfl, rfl, rfl, by decide +kernel, rfl, by decide +kernel, by decide +kernel⟩
def Bxd (m : Mem) (p : Addr) : Prop := ∃ a b c, m p = some (.lst [.int a, .int b, .int c])
theorem bxd {m : Mem} {p : Addr} {a b c : Int} : Bxd (mset m p (boxL a b c)) p := ⟨a, b, c, mset_same⟩
theorem bxd2 {m : Mem} {p : Addr} {a b c : Int} : Bxd (mset m p (.lst [.int a, .int b, .int c])) p := ⟨a, b, c, mset_same⟩
def p_law_draw : PD := fun ds m Q _ => ∃ p n, ds = [.ref p, .int n] ∧ Bxd m p ∧ 0 < n ∧ Sz 1900 n ∧ ∀ r a b c, 0 ≤ r → r < n → Q (.int r) (mset m p (boxL a b c))
def Kp (m m' : Mem) (p : Addr) : Prop := ∀ q, q ≠ p → m' q = m q
theorem kp_set {m : Mem} {p : Addr} {o : MO} : Kp m (mset m p o) p := fun q h => mset_ne h
theorem Kp.trans {m m1 m2 : Mem} {p : Addr} (a : Kp m m1 p) (b : Kp m1 m2 p) : Kp m m2 p := fun q h => (b q h).trans (a q h)
theorem Kp.kq {m m' : Mem} {p : Addr} (h : Kp m m' p) : Kq m m' p := fun q o n e => (h q n).trans e
theorem bxd_ne {m : Mem} {p q : Addr} {o : MO} (h : Bxd m p) (n : q ≠ p) : Bxd (mset m q o) p := by obtain ⟨a, b, c, h⟩ := h; exact ⟨a, b, c, by rw [mset_ne n.symm]; exact h⟩
theorem bxd_new {m : Mem} {p q : Addr} (h : Bxd m p) (n : m q = none) : q ≠ p := fun e => by obtain ⟨a, b, c, h⟩ := h; rw [e, h] at n; cases n
theorem use_draw {B : Bx} {m : Mem} {Q : D → Mem → Prop} {p : Addr} {n : Int} (hb : Bxd m p) (h0 : 0 < n) (hz : Sz 1900 n) (h : ∀ r m', Bxd m' p → Kp m m' p → 0 ≤ r → r < n → Q (.int r) m') : ∃ Xd, p_law_draw [.ref p, .int n] m Q Xd ∧ XOK B Xd :=
  ⟨noX, ⟨p, n, rfl, hb, h0, hz, fun r a b c h1 h2 => h r _ bxd kp_set h1 h2⟩, xok_no B⟩
theorem ok_law_draw {Z : Ad} {P : Program} {w : World} {K : PySem.W.Frag} {mg : Str → Option Value} {base : Heap} (GD : GDef K mg "_law_draw" s_law_draw ["_law_box_here", "_law_many"]) (T : Tn mg) : GF P w K mg base "_law_draw" 1 (p_law_draw) := by
  refine gf_ok GD sc_law_draw (by intro ds m Q Xd h; obtain ⟨_, _, rfl, _⟩ := h; rfl) fun B f cdv A outer s H E hB hr k ds m Q Xd h hx => ?_
  have hs : Hs P w K mg base B := by unfold Hs; rw [hB]; exact ⟨rfl, rfl, rfl, rfl, rfl⟩
  have hK : B.X.K = K := hs.2.2.1
  have sl0 : Sl B "_law_box_here" 0 := ⟨by rw [hB]; rfl, by rw [hB]; exact Or.inl rfl, by rw [hB]; exact Or.inl rfl⟩
  have sl1 : Sl B "_law_many" 1 := ⟨by rw [hB]; rfl, by rw [hB]; exact Or.inl rfl, by rw [hB]; exact Or.inl rfl⟩
  have sl2 : Sl B "_law_found" 2 := ⟨by rw [hB]; rfl, by rw [hB]; exact Or.inl rfl, by rw [hB]; exact Or.inl rfl⟩
  have sl3 : Sl B "_law_total" 3 := ⟨by rw [hB]; rfl, by rw [hB]; exact Or.inl rfl, by rw [hB]; exact Or.inl rfl⟩
  have sl4 : Sl B "_law_turn" 4 := ⟨by rw [hB]; rfl, by rw [hB]; exact Or.inl rfl, by rw [hB]; exact Or.inl rfl⟩
  have sl5 : Sl B "_law_once" 5 := ⟨by rw [hB]; rfl, by rw [hB]; exact Or.inl rfl, by rw [hB]; exact Or.inl rfl⟩
  have sl6 : Sl B "_law_twice" 6 := ⟨by rw [hB]; rfl, by rw [hB]; exact Or.inl rfl, by rw [hB]; exact Or.inl rfl⟩
  have b_range : Bt B "range" "range" := ⟨by rw [hB]; exact rfl, by rw [hB]; exact T.b_range, boot_range'⟩
  have b_len : Bi B "len" "len" := ⟨by rw [hB]; exact rfl, by rw [hB]; exact T.b_len, boot_len'⟩
  have b_str : Bt B "str" "str" := ⟨by rw [hB]; exact rfl, by rw [hB]; exact T.b_str, boot_str'⟩
  have b_int : Bt B "int" "int" := ⟨by rw [hB]; exact rfl, by rw [hB]; exact T.b_int, boot_int'⟩
  clear hB
  obtain ⟨p, n, rfl, ⟨a, b, c, hm⟩, h0, hz, hq⟩ := h
  refine wss_cons ?_
  walk_at "pd"
  refine ite_dec (fun hc => ?_) (fun hc => ?_)
  · walk_at "pd"
    refine wb_div (divok h0 hz (by decide) (by decide)) ?_
    walk_at "pd"
    exact ⟨p, _, _, 0, rfl, rfl, hm, rfl, by walk_at "pd"; exact hq _ _ _ _ (Int.emod_nonneg _ (by omega)) (Int.emod_lt_of_pos _ h0)⟩
  · refine wss_nil ?_
    walk_at "pd"
    refine ⟨p, _, _, 2, rfl, rfl, hm, rfl, ?_⟩
    walk_at "pd"
    have hl := sz_log hz (by decide)
    have hf : (Str.ofString (toString n)).length ≤ sizeLine := int_text_fits (by omega)
    have e9 : sizeLine = 16777216 := sizeLine_eq
    walk_at "pd for"
    walk_at "pd"
    refine ⟨by omega, by omega, ?_⟩
    refine forD_inv (fun ds ρ m' => mset m p (boxL a b (c + 1)) = m' ∧ (∀ d ∈ ds, ∃ n : Int, d = .int n) ∧ ∃ t, Has ρ [(0, .ref p), (1, .int n), (3, .int t)]) ?_ ?_ _ _ _ ?_
    · rintro d ds ρ m2 ⟨e, hd, t, hh⟩
      subst e
      obtain ⟨i, rfl⟩ := hd d List.mem_cons_self
      have hm2 : mset m p (boxL a b (c + 1)) p = some (.lst [.int a, .int b, .int (c + 1)]) := mset_same
      refine wg_nm k sl4 ?_
      refine WSs.env (ρ' := [(4, .int i), (0, .ref p), (1, .int n), (3, .int t)]) ?_ (has_cons rfl (hh.up rfl))
      walk_at "pd"
      exact ⟨rfl, fun d q => hd d (List.mem_cons_of_mem _ q), _, by walk_at "has"⟩
    · rintro ρ m2 ⟨e, _, t, hh⟩
      subst e
      refine WSs.env ?_ hh
      clear hh ρ
      walk_at "pd"
      exact hq _ _ _ _ (Int.emod_nonneg _ (by omega)) (Int.emod_lt_of_pos _ h0)
    · exact ⟨rfl, fun d hd => by obtain ⟨i, _, rfl⟩ := List.mem_map.mp hd; exact ⟨_, rfl⟩, _, by walk_at "has"⟩
abbrev s_law_int : Stmt := top 26
abbrev n_law_int : List Str := ["_law_x"]
theorem sc_law_int : FnScope n_law_int ["_law_x"] (defScope s_law_int) := ⟨rfl, rfl, rfl, by decide +kernel, rfl, by decide +kernel, by decide +kernel⟩
def kInt : DK → Bool
  | .int => true
  | _ => false
def p_law_int : PD := fun ds m Q _ => ∃ d k, ds = [d] ∧ dk d = some k ∧ Q (.bl (kInt k)) m
theorem use_int {B : Bx} {m : Mem} {Q : D → Mem → Prop} {i : Int} (h : Q (.bl true) m) : ∃ Xd, p_law_int [.int i] m Q Xd ∧ XOK B Xd := ⟨noX, ⟨_, .int, rfl, rfl, h⟩, xok_no B⟩
theorem ok_law_int {Z : Ad} {P : Program} {w : World} {K : PySem.W.Frag} {mg : Str → Option Value} {base : Heap} (GD : GDef K mg "_law_int" s_law_int ["_law_x"]) (T : Tn mg) : GF P w K mg base "_law_int" 1 (p_law_int) := by
  refine gf_ok GD sc_law_int (by intro ds m Q Xd h; obtain ⟨_, _, rfl, _⟩ := h; rfl) fun B f cdv A outer s H E hB hr k ds m Q Xd h hx => ?_
  have hs : Hs P w K mg base B := by unfold Hs; rw [hB]; exact ⟨rfl, rfl, rfl, rfl, rfl⟩
  have hK : B.X.K = K := hs.2.2.1
  have sl0 : Sl B "_law_x" 0 := ⟨by rw [hB]; rfl, by rw [hB]; exact Or.inl rfl, by rw [hB]; exact Or.inl rfl⟩
  have b_isinstance : Bi B "isinstance" "isinstance" := ⟨by rw [hB]; exact rfl, by rw [hB]; exact T.b_isinstance, boot_isinstance'⟩
  have b_int : Bt B "int" "int" := ⟨by rw [hB]; exact rfl, by rw [hB]; exact T.b_int, boot_int'⟩
  have b_bool : Bt B "bool" "bool" := ⟨by rw [hB]; exact rfl, by rw [hB]; exact T.b_bool, boot_bool'⟩
  clear hB
  obtain ⟨d, kk, rfl, hd, hq⟩ := h
  refine wss_cons ?_
  cases d with
  | non => cases hd; walk_at "pd"; exact hq
  | bl b => cases hd; walk_at "pd"; exact hq
  | int b => cases hd; walk_at "pd"; exact hq
  | str b => cases hd; walk_at "pd"; exact hq
  | tup b => cases hd; walk_at "pd"; exact hq
  | lst b => cases hd; walk_at "pd"; exact hq
  | ref b => cases hd
  | ty b => cases hd
  | ins b c => cases hd
abbrev s_law_same : Stmt := top 27
abbrev n_law_same : List Str := ["_law_got", "_law_due", "_law_k"]
theorem sc_law_same : FnScope n_law_same ["_law_got", "_law_due"] (defScope s_law_same) := ⟨rfl, rfl, rfl, by decide +kernel, rfl, by decide +kernel, by decide +kernel⟩
def pr_law_same (n : Nat) : PD := fun ds m Q _ => ∃ d e, ds = [d, e] ∧ Sim n m d e ∧ Q (.bl true) m
def p_law_same : PD := pr_law_same 6
theorem use_sim {B : Bx} {m : Mem} {Q : D → Mem → Prop} {d e : D} (p : Sim 6 m d e) (h : Q (.bl true) m) : ∃ Xd, p_law_same [d, e] m Q Xd ∧ XOK B Xd := ⟨noX, ⟨_, _, rfl, p, h⟩, xok_no B⟩
theorem use_same {B : Bx} {m : Mem} {Q : D → Mem → Prop} {d : D} (p : PlD 6 d) (h : Q (.bl true) m) : ∃ Xd, p_law_same [d, d] m Q Xd ∧ XOK B Xd := ⟨noX, ⟨_, _, rfl, sim_of p, h⟩, xok_no B⟩
theorem use_sameI {B : Bx} {m : Mem} {Q : D → Mem → Prop} {i j : Int} (p : i = j) (h : Q (.bl true) m) : ∃ Xd, p_law_same [.int i, .int j] m Q Xd ∧ XOK B Xd := ⟨noX, ⟨_, _, rfl, by rw [p]; exact sim_of True.intro, h⟩, xok_no B⟩
theorem use_sameB {B : Bx} {m : Mem} {Q : D → Mem → Prop} {i j : Bool} (p : i = j) (h : Q (.bl true) m) : ∃ Xd, p_law_same [.bl i, .bl j] m Q Xd ∧ XOK B Xd := ⟨noX, ⟨_, _, rfl, by rw [p]; exact sim_of True.intro, h⟩, xok_no B⟩
theorem sim_pair {m : Mem} {d : D} {l : List D} (hl : l.length ≤ 1000) (h : Lv d m l) (hp : PlDs 4 l) : Sim 6 m (.lst [d, .non]) (.lst [.lst l, .non]) := by
  refine Or.inr (Or.inl ⟨[d, .non], [.lst l, .non], .inl rfl, rfl, (show (2 : Nat) < 2 ^ 62 by decide), rfl, fun i x y hx hy => ?_⟩)
  match i, hx, hy with
  | 0, hx, hy =>
    cases hx; cases hy
    refine Or.inr (Or.inl ⟨l, l, h, rfl, Nat.lt_of_le_of_lt hl (by decide), rfl, fun i x y hx hy => ?_⟩)
    rw [hx] at hy; cases hy
    exact sim_of (plds_mem hp x (List.mem_of_getElem? hx))
  | 1, hx, hy => cases hx; cases hy; exact Or.inl ⟨rfl, True.intro⟩
  | i + 2, hx, hy => cases hx
theorem okr_law_same {Z : Ad} {P : Program} {w : World} {K : PySem.W.Frag} {mg : Str → Option Value} {base : Heap} (GD : GDef K mg "_law_same" s_law_same ["_law_got", "_law_due"]) (T : Tn mg) (c_law_int : GF P w K mg base "_law_int" 1 (p_law_int)) (n : Nat) (c_self : ∀ n1, n = n1 + 1 → GF P w K mg base "_law_same" (2 + n1) (pr_law_same n1)) : GF P w K mg base "_law_same" (2 + n) (pr_law_same n) := by
  rw [show 2 + n = (1 + n) + 1 by omega]
  refine gf_ok GD sc_law_same (by intro ds m Q Xd h; obtain ⟨_, _, rfl, _⟩ := h; rfl) fun B f cdv A outer s H E hB hr k ds m Q Xd h hx => ?_
  have hs : Hs P w K mg base B := by unfold Hs; rw [hB]; exact ⟨rfl, rfl, rfl, rfl, rfl⟩
  have hK : B.X.K = K := hs.2.2.1
  have sl0 : Sl B "_law_got" 0 := ⟨by rw [hB]; rfl, by rw [hB]; exact Or.inl rfl, by rw [hB]; exact Or.inl rfl⟩
  have sl1 : Sl B "_law_due" 1 := ⟨by rw [hB]; rfl, by rw [hB]; exact Or.inl rfl, by rw [hB]; exact Or.inl rfl⟩
  have sl2 : Sl B "_law_k" 2 := ⟨by rw [hB]; rfl, by rw [hB]; exact Or.inl rfl, by rw [hB]; exact Or.inl rfl⟩
  have b_isinstance : Bi B "isinstance" "isinstance" := ⟨by rw [hB]; exact rfl, by rw [hB]; exact T.b_isinstance, boot_isinstance'⟩
  have b_bool : Bt B "bool" "bool" := ⟨by rw [hB]; exact rfl, by rw [hB]; exact T.b_bool, boot_bool'⟩
  have b_int : Bt B "int" "int" := ⟨by rw [hB]; exact rfl, by rw [hB]; exact T.b_int, boot_int'⟩
  have b_str : Bt B "str" "str" := ⟨by rw [hB]; exact rfl, by rw [hB]; exact T.b_str, boot_str'⟩
  have b_list : Bt B "list" "list" := ⟨by rw [hB]; exact rfl, by rw [hB]; exact T.b_list, boot_list'⟩
  have b_tuple : Bt B "tuple" "tuple" := ⟨by rw [hB]; exact rfl, by rw [hB]; exact T.b_tuple, boot_tuple'⟩
  have b_len : Bi B "len" "len" := ⟨by rw [hB]; exact rfl, by rw [hB]; exact T.b_len, boot_len'⟩
  have b_range : Bt B "range" "range" := ⟨by rw [hB]; exact rfl, by rw [hB]; exact T.b_range, boot_range'⟩
  have g_law_int : GCal B "_law_int" (p_law_int) := cal_of c_law_int hr (by omega) hs (by rw [hB]; exact rfl)
  have g_self : ∀ n1, n = n1 + 1 → GCal B "_law_same" (pr_law_same n1) := fun n1 hn1 => cal_of (c_self n1 hn1) hr (by omega) hs (by rw [hB]; exact rfl)
  clear hB
  obtain ⟨d, e, rfl, hp, hq⟩ := h
  have hyes : ∀ {p : Prop} [Decidable p], p → Q (.bl true) m → Q (.bl (decide p)) m := fun hp q => by rw [decide_eq_true hp]; exact q
  have atom : d = e ∧ PlD 0 e → WSs B (defBody s_law_same) (startD 0 [d, e]) m { nx := fun _ m' => Q .non m', rt := Q } := by
    rintro ⟨rfl, ha⟩
    refine wss_cons ?_
    cases d with
    | non => walk_at "pd"; exact hq
    | bl b => walk_at "pd"; exact hyes rfl hq
    | int b =>
      walk_at "pd"
      refine use_int ⟨_, rfl, ?_⟩
      walk_at "pd"
      exact hyes rfl hq
    | str b => walk_at "pd"; exact hyes rfl hq
    | tup l => exact False.elim ha
    | lst l => exact False.elim ha
    | ref b => exact False.elim ha
    | ty b => exact False.elim ha
    | ins b c => exact False.elim ha
  cases n with
  | zero => exact atom hp
  | succ n =>
    have g_law_same := g_self n rfl
    rcases hp with hp | ⟨l, l2, hl, rfl, hz, hlen, hs⟩ | ⟨l, l2, rfl, rfl, hz, hlen, hs⟩
    · exact atom hp
    · refine wss_cons ?_
      walk_at "pd"
      refine wc_isLv hl ?_
      walk_at "pd"
      refine wc_isLvT hl ?_
      walk_at "pd"
      refine wc_lenV (.inl hl) ?_
      walk_at "pd"
      refine ite_nno (by omega) ?_
      walk_at "pd"
      walk_at "pd for"
      walk_at "pd"
      refine ⟨by omega, by omega, ?_⟩
      rw [Int.toNat_natCast]
      refine forD_rng (fun i ρ m' => m' = m ∧ Has ρ [(0, d), (1, .lst l2)]) ?_ ?_ ⟨rfl, by walk_at "has"⟩
      · rintro i ρ m' hi ⟨rfl, hh⟩
        refine wg_nm k sl2 ?_
        refine WSs.env ?_ hh.on
        clear hh ρ
        have ex := List.getElem?_eq_getElem (show i < l.length by omega)
        have ey := List.getElem?_eq_getElem hi
        walk_at "pd"
        refine wi_lv hl (atI_n ex) ?_
        walk_at "pd"
        refine wi_list (atI_n ey) ?_
        walk_at "pd"
        refine ⟨noX, ⟨_, _, rfl, hs i _ _ ex ey, ?_⟩, xok_no B⟩
        walk_at "pd"
        exact ⟨rfl, by walk_at "has"⟩
      · rintro ρ m' ⟨rfl, hh⟩
        walk_at "pd"
        exact hq
    · refine wss_cons ?_
      walk_at "pd"
      refine ite_nno (by omega) ?_
      walk_at "pd"
      walk_at "pd for"
      walk_at "pd"
      refine ⟨by omega, by omega, ?_⟩
      rw [Int.toNat_natCast]
      refine forD_rng (fun i ρ m' => m' = m ∧ Has ρ [(0, .tup l), (1, .tup l2)]) ?_ ?_ ⟨rfl, by walk_at "has"⟩
      · rintro i ρ m' hi ⟨rfl, hh⟩
        refine wg_nm k sl2 ?_
        refine WSs.env ?_ hh.on
        clear hh ρ
        have ex := List.getElem?_eq_getElem (show i < l.length by omega)
        have ey := List.getElem?_eq_getElem hi
        walk_at "pd"
        refine wi_tup (atI_n ex) ?_
        walk_at "pd"
        refine wi_tup (atI_n ey) ?_
        walk_at "pd"
        refine ⟨noX, ⟨_, _, rfl, hs i _ _ ex ey, ?_⟩, xok_no B⟩
        walk_at "pd"
        exact ⟨rfl, by walk_at "has"⟩
      · rintro ρ m' ⟨rfl, hh⟩
        walk_at "pd"
        exact hq
theorem ok_law_same {Z : Ad} {P : Program} {w : World} {K : PySem.W.Frag} {mg : Str → Option Value} {base : Heap} (GD : GDef K mg "_law_same" s_law_same ["_law_got", "_law_due"]) (T : Tn mg) (c_law_int : GF P w K mg base "_law_int" 1 (p_law_int)) : GF P w K mg base "_law_same" 8 (p_law_same) := by
  have h : ∀ n, GF P w K mg base "_law_same" (2 + n) (pr_law_same n) := by
    intro n
    induction n with
    | zero => exact okr_law_same (Z := Z) GD T c_law_int 0 (fun n1 e => absurd e (by omega))
    | succ n ih => exact okr_law_same (Z := Z) GD T c_law_int (n + 1) (fun n1 e => by obtain rfl : n1 = n := (by omega); exact ih)
  exact h 6
abbrev s_law_name : Stmt := top 28
abbrev n_law_name : List Str := ["_law_box_here", "_law_used", "_law_letters", "_law_turn", "_law_name_here", "_law_k"]
theorem sc_law_name : FnScope n_law_name ["_law_box_here", "_law_used"] (defScope s_law_name) := ⟨rfl, rfl, rfl, by decide +kernel, rfl, by decide +kernel, by decide +kernel⟩
def nmL (l : List Str) : MO := .lst (l.map D.str)
def p_law_name : PD := fun ds m Q _ => ∃ (p q : Addr) (l : List Str), ds = [.ref p, .ref q] ∧ Bxd m p ∧ m q = some (nmL l) ∧ l.length ≤ 90 ∧ ∀ (z : Str) m', okS z → z ∉ l → Bxd m' p → (∀ a, a ≠ p → a ≠ q → m' a = m a) → m' q = some (nmL (l ++ [z])) → Q (.str z) m'
theorem use_name {B : Bx} {m : Mem} {Q : D → Mem → Prop} {p q : Addr} {l : List Str} (hb : Bxd m p) (hq : m q = some (nmL l)) (hl : l.length ≤ 90) (h : ∀ (z : Str) m', okS z → z ∉ l → Bxd m' p → (∀ a, a ≠ p → a ≠ q → m' a = m a) → m' q = some (nmL (l ++ [z])) → Q (.str z) m') : ∃ Xd, p_law_name [.ref p, .ref q] m Q Xd ∧ XOK B Xd := ⟨noX, ⟨p, q, l, rfl, hb, hq, hl, h⟩, xok_no B⟩
theorem bxd_nm {m : Mem} {p q : Addr} {l : List Str} (h : Bxd m p) (k : m q = some (nmL l)) : q ≠ p := fun e => by
  obtain ⟨a, b, c, h⟩ := h
  rw [e, h] at k
  cases l with
  | nil => cases k
  | cons z l => cases k
theorem ok_law_name {Z : Ad} {P : Program} {w : World} {K : PySem.W.Frag} {mg : Str → Option Value} {base : Heap} (GD : GDef K mg "_law_name" s_law_name ["_law_box_here", "_law_used"]) (T : Tn mg) (c_law_draw : GF P w K mg base "_law_draw" 1 (p_law_draw)) : GF P w K mg base "_law_name" 2 (p_law_name) := by
  refine gf_ok GD sc_law_name (by intro ds m Q Xd h; obtain ⟨_, _, _, rfl, _⟩ := h; rfl) fun B f cdv A outer s H E hB hr k ds m Q Xd h hx => ?_
  have hs : Hs P w K mg base B := by unfold Hs; rw [hB]; exact ⟨rfl, rfl, rfl, rfl, rfl⟩
  have hK : B.X.K = K := hs.2.2.1
  have sl0 : Sl B "_law_box_here" 0 := ⟨by rw [hB]; rfl, by rw [hB]; exact Or.inl rfl, by rw [hB]; exact Or.inl rfl⟩
  have sl1 : Sl B "_law_used" 1 := ⟨by rw [hB]; rfl, by rw [hB]; exact Or.inl rfl, by rw [hB]; exact Or.inl rfl⟩
  have sl2 : Sl B "_law_letters" 2 := ⟨by rw [hB]; rfl, by rw [hB]; exact Or.inl rfl, by rw [hB]; exact Or.inl rfl⟩
  have sl3 : Sl B "_law_turn" 3 := ⟨by rw [hB]; rfl, by rw [hB]; exact Or.inl rfl, by rw [hB]; exact Or.inl rfl⟩
  have sl4 : Sl B "_law_name_here" 4 := ⟨by rw [hB]; rfl, by rw [hB]; exact Or.inl rfl, by rw [hB]; exact Or.inl rfl⟩
  have sl5 : Sl B "_law_k" 5 := ⟨by rw [hB]; rfl, by rw [hB]; exact Or.inl rfl, by rw [hB]; exact Or.inl rfl⟩
  have b_range : Bt B "range" "range" := ⟨by rw [hB]; exact rfl, by rw [hB]; exact T.b_range, boot_range'⟩
  have b_str : Bt B "str" "str" := ⟨by rw [hB]; exact rfl, by rw [hB]; exact T.b_str, boot_str'⟩
  have g_law_draw : GCal B "_law_draw" (p_law_draw) := cal_of c_law_draw hr (by omega) hs (by rw [hB]; exact rfl)
  clear hB
  obtain ⟨p, q, l, rfl, hb, hl0, hl9, hq⟩ := h
  have hqp := bxd_nm hb hl0
  have e9 : sizeLine = 16777216 := sizeLine_eq
  have l10 : (("0123456789" : Str)).length = 10 := by decide +kernel
  have l26 : (("abcdefghijklmnopqrstuvwxyz" : Str)).length = 26 := by decide +kernel
  have fin : ∀ {m' : Mem} (z : Str), okS z → z ∉ l → Bxd m' p → (∀ a, a ≠ p → a ≠ q → m' a = m a) → Q (.str z) (mset m' q (.lst (l.map D.str ++ [.str z]))) := fun {m'} z h1 h2 h3 h4 =>
    hq z _ h1 h2 (bxd_ne h3 hqp) (fun a h5 h6 => (mset_ne h6).trans (h4 a h5 h6)) (by rw [mset_same]; unfold nmL; rw [List.map_append]; rfl)
  refine wss_cons ?_
  walk_at "pd"
  walk_at "pd for"
  walk_at "pd"
  walk_at "rng"
  refine forD_inv (fun ds ρ m' => Bxd m' p ∧ m' q = some (nmL l) ∧ (∀ a, a ≠ p → a ≠ q → m' a = m a) ∧ (∀ d ∈ ds, ∃ n : Int, d = .int n) ∧ Has ρ [(0, .ref p), (1, .ref q), (2, .str "abcdefghijklmnopqrstuvwxyz")]) ?_ ?_ _ _ _ ?_
  · rintro d ds ρ m1 ⟨hb1, hl1, hk1, hd, hh⟩
    have hd2 : ∀ d ∈ ds, ∃ n : Int, d = .int n := fun d q => hd d (List.mem_cons_of_mem _ q)
    obtain ⟨n, rfl⟩ := hd d List.mem_cons_self
    refine wg_nm k sl3 ?_
    refine WSs.env ?_ (hh.up rfl)
    clear hh ρ
    refine wss_cons ?_
    walk_at "pd"
    refine use_draw hb1 (by decide) (by walk_at "szc") fun u m2 hb2 k2 u0 u1 => ?_
    obtain ⟨c, hc1⟩ := atI_sgn (z := "abcdefghijklmnopqrstuvwxyz") u0 (by rw [l26]; exact u1)
    refine wi_str (by omega) hc1 ?_
    have hc := sg26 hc1
    walk_at "pd"
    walk_at "pd for"
    walk_at "pd"
    refine use_draw hb2 (by decide) (by walk_at "szc") fun t m3 hb3 k3 t0 t1 => ?_
    refine wi_tupA t0 t1 fun d hd3 => ?_
    have hkk : ∃ n : Int, d = .int n ∧ (0 ≤ n ∧ n ≤ 11) ∧ Sz 9 n := (by walk_at "all" : ∀ d, d ∈ _ → ∃ n : Int, d = .int n ∧ (0 ≤ n ∧ n ≤ 11) ∧ Sz 9 n) d hd3
    obtain ⟨n2, rfl, ⟨n0, n1⟩, _⟩ := hkk
    walk_at "pd"
    refine ⟨by omega, by omega, ?_⟩
    have hl3 : m3 q = some (nmL l) := (k3 q hqp).trans ((k2 q hqp).trans hl1)
    have hk3 : ∀ a, a ≠ p → a ≠ q → m3 a = m a := fun a h5 h6 => (k3 a h5).trans ((k2 a h5).trans (hk1 a h5 h6))
    clear hk1 hl1 k2 k3 hb1 hb2 hd hd3
    refine forD_rng (fun i ρ m' => Bxd m' p ∧ m' q = some (nmL l) ∧ (∀ a, a ≠ p → a ≠ q → m' a = m a) ∧ ∃ z : Str, okW (i + 1) z ∧ Has ρ [(0, .ref p), (1, .ref q), (2, .str "abcdefghijklmnopqrstuvwxyz"), (4, .str z)]) ?_ ?_ ⟨hb3, hl3, hk3, _, okW_one hc, by walk_at "has"⟩
    · rintro i ρ m4 hi ⟨hb4, hl4, hk4, z, hz, hh⟩
      have hzl := okW_len hz
      refine wg_nm k sl5 ?_
      refine WSs.env ?_ (hh.up rfl)
      clear hh ρ
      refine wss_cons ?_
      walk_at "pd"
      refine use_draw hb4 (by decide) (by walk_at "szc") fun v m5 hb5 k5 v0 v1 => ?_
      obtain ⟨c2, hc2⟩ := atI_sgn (z := ("abcdefghijklmnopqrstuvwxyz" : Str) ++ ("0123456789" : Str)) v0 (by rw [cat_len, l10, l26]; exact v1)
      refine wi_str (by rw [cat_len]; omega) hc2 ?_
      refine wb_catS (by rw [sgn_len]; omega) ?_
      walk_at "pd"
      exact ⟨hb5, (k5 q hqp).trans hl4, fun a h5 h6 => (k5 a h5).trans (hk4 a h5 h6), z ++ ⟨#[c2]⟩, okW_app hz (sg36 hc2), by walk_at "has"⟩
    · rintro ρ m4 ⟨hb4, hl4, hk4, z, hz, hh⟩
      refine WSs.env ?_ hh
      clear hh ρ
      refine wss_cons ?_
      walk_at "pd"
      refine wb_ninL (l := l.map D.str) (.inl (.inr ⟨q, rfl, hl4⟩)) rfl (strs_flat l) ?_
      rw [strs_any]
      walk_at "pd"
      refine ite_ndec (fun g => ?_) (fun g => ?_)
      · walk_at "pd"
        refine ⟨q, _, rfl, hl4, ?_⟩
        walk_at "pd"
        refine ⟨_, hl4, by rw [List.length_map]; omega, ?_⟩
        walk_at "pd"
        exact fin z (okW_okS hz (by omega)) g hb4 hk4
      · walk_at "pd"
        exact ⟨hb4, hl4, hk4, hd2, by walk_at "has"⟩
  · rintro ρ m1 ⟨hb1, hl1, hk1, _, hh⟩
    refine WSs.env ?_ hh
    clear hh ρ
    walk_at "pd"
    walk_at "pd for"
    walk_at "pd"
    walk_at "rng"
    refine forD_rng (fun i ρ m' => m' = m1 ∧ (∀ k, k < i → spareN k ∈ l) ∧ Has ρ [(0, .ref p), (1, .ref q)]) ?_ ?_ ⟨rfl, fun k hk => absurd hk (by omega), by walk_at "has"⟩
    · rintro i ρ m' hi ⟨rfl, hs0, hh⟩
      have hi : i < 100 := hi
      refine wg_nm k sl5 ?_
      refine WSs.env ?_ hh.on
      clear hh ρ
      refine wss_cons ?_
      walk_at "pd"
      refine wc_str (num_fit (Nat.lt_trans hi (by decide +kernel))) ?_
      rw [str_num]
      refine wb_catS (by have := str_len i (Nat.lt_trans hi (by decide +kernel)); have : (("spare" : Str)).length = 5 := by decide +kernel
                         omega) ?_
      rw [show ("spare" : Str) ++ (⟨(TL.numL i).toArray⟩ : Str) = spareN i from rfl]
      walk_at "pd"
      refine wb_ninL (l := l.map D.str) (.inl (.inr ⟨q, rfl, hl1⟩)) rfl (strs_flat l) ?_
      rw [strs_any]
      walk_at "pd"
      refine ite_ndec (fun g => ?_) (fun g => ?_)
      · walk_at "pd"
        refine ⟨q, _, rfl, hl1, ?_⟩
        walk_at "pd"
        refine ⟨_, hl1, by rw [List.length_map]; omega, ?_⟩
        walk_at "pd"
        exact fin _ (spare_ok hi) g hb1 hk1
      · walk_at "pd"
        exact ⟨rfl, fun k hk => by
          rcases Nat.lt_succ_iff_lt_or_eq.mp hk with h | rfl
          · exact hs0 k h
          · exact g, by walk_at "has"⟩
    · rintro ρ m' ⟨rfl, hs0, hh⟩
      exact absurd hs0 (spare_free (by omega))
  · refine ⟨hb, hl0, fun a _ _ => rfl, fun d hd => ?_, by walk_at "has"⟩
    obtain ⟨i, _, rfl⟩ := List.mem_map.mp hd
    exact ⟨_, rfl⟩
abbrev s_law_signs : Stmt := top 29
abbrev n_law_signs : List Str := ["_law_found"]
theorem sc_law_signs : FnScope n_law_signs [] (defScope s_law_signs) := ⟨rfl, rfl, rfl, by decide +kernel, rfl, by decide +kernel, by decide +kernel⟩
def SG : Str := (" !\"#$&'()*+,-./0123456789:;<=>?@ABCDEFGHIJKLMNOPQRSTUVWXYZ[\\]^_`" : Str) ++ ("abcdefghijklmnopqrstuvwxyz{|}~" : Str)
theorem SG_len : SG.length = 94 := by decide +kernel
def p_law_signs : PD := fun ds m Q _ => ds = [] ∧ Q (.str SG) m
theorem use_signs {B : Bx} {m : Mem} {Q : D → Mem → Prop} (h : Q (.str SG) m) : ∃ Xd, p_law_signs [] m Q Xd ∧ XOK B Xd := ⟨noX, ⟨rfl, h⟩, xok_no B⟩
theorem ok_law_signs {Z : Ad} {P : Program} {w : World} {K : PySem.W.Frag} {mg : Str → Option Value} {base : Heap} (GD : GDef K mg "_law_signs" s_law_signs []) (T : Tn mg) : GF P w K mg base "_law_signs" 1 (p_law_signs) := by
  refine gf_ok GD sc_law_signs (by intro ds m Q Xd h; obtain ⟨rfl, _⟩ := h; rfl) fun B f cdv A outer s H E hB hr k ds m Q Xd h hx => ?_
  have hs : Hs P w K mg base B := by unfold Hs; rw [hB]; exact ⟨rfl, rfl, rfl, rfl, rfl⟩
  have hK : B.X.K = K := hs.2.2.1
  have sl0 : Sl B "_law_found" 0 := ⟨by rw [hB]; rfl, by rw [hB]; exact Or.inl rfl, by rw [hB]; exact Or.inl rfl⟩
  clear hB
  obtain ⟨rfl, hq⟩ := h
  refine wss_cons ?_
  walk_at "pd"
  refine wb_catS (by have e9 : sizeLine = 16777216 := sizeLine_eq
                     rw [e9]; decide +kernel) ?_
  exact hq
abbrev s_law_any_name : Stmt := top 30
abbrev n_law_any_name : List Str := ["_law_box_here", "_law_letters", "_law_name_here", "_law_many", "_law_k"]
theorem sc_law_any_name : FnScope n_law_any_name ["_law_box_here"] (defScope s_law_any_name) := ⟨rfl, rfl, rfl, by decide +kernel, rfl, by decide +kernel, by decide +kernel⟩
def p_law_any_name : PD := fun ds m Q _ => ∃ (p : Addr), ds = [.ref p] ∧ Bxd m p ∧ ∀ (z : Str) m', okS z → Bxd m' p → Kp m m' p → Q (.str z) m'
theorem use_any_name {B : Bx} {m : Mem} {Q : D → Mem → Prop} {p : Addr} (hb : Bxd m p) (h : ∀ (z : Str) m', okS z → Bxd m' p → Kp m m' p → Q (.str z) m') : ∃ Xd, p_law_any_name [.ref p] m Q Xd ∧ XOK B Xd := ⟨noX, ⟨p, rfl, hb, h⟩, xok_no B⟩
theorem ok_law_any_name {Z : Ad} {P : Program} {w : World} {K : PySem.W.Frag} {mg : Str → Option Value} {base : Heap} (GD : GDef K mg "_law_any_name" s_law_any_name ["_law_box_here"]) (T : Tn mg) (c_law_draw : GF P w K mg base "_law_draw" 1 (p_law_draw)) : GF P w K mg base "_law_any_name" 2 (p_law_any_name) := by
  refine gf_ok GD sc_law_any_name (by intro ds m Q Xd h; obtain ⟨_, rfl, _⟩ := h; rfl) fun B f cdv A outer s H E hB hr k ds m Q Xd h hx => ?_
  have hs : Hs P w K mg base B := by unfold Hs; rw [hB]; exact ⟨rfl, rfl, rfl, rfl, rfl⟩
  have hK : B.X.K = K := hs.2.2.1
  have sl0 : Sl B "_law_box_here" 0 := ⟨by rw [hB]; rfl, by rw [hB]; exact Or.inl rfl, by rw [hB]; exact Or.inl rfl⟩
  have sl1 : Sl B "_law_letters" 1 := ⟨by rw [hB]; rfl, by rw [hB]; exact Or.inl rfl, by rw [hB]; exact Or.inl rfl⟩
  have sl2 : Sl B "_law_name_here" 2 := ⟨by rw [hB]; rfl, by rw [hB]; exact Or.inl rfl, by rw [hB]; exact Or.inl rfl⟩
  have sl3 : Sl B "_law_many" 3 := ⟨by rw [hB]; rfl, by rw [hB]; exact Or.inl rfl, by rw [hB]; exact Or.inl rfl⟩
  have sl4 : Sl B "_law_k" 4 := ⟨by rw [hB]; rfl, by rw [hB]; exact Or.inl rfl, by rw [hB]; exact Or.inl rfl⟩
  have b_range : Bt B "range" "range" := ⟨by rw [hB]; exact rfl, by rw [hB]; exact T.b_range, boot_range'⟩
  have g_law_draw : GCal B "_law_draw" (p_law_draw) := cal_of c_law_draw hr (by omega) hs (by rw [hB]; exact rfl)
  clear hB
  obtain ⟨p, rfl, hb, hq⟩ := h
  have e9 : sizeLine = 16777216 := sizeLine_eq
  have l10 : (("0123456789" : Str)).length = 10 := by decide +kernel
  have l26 : (("abcdefghijklmnopqrstuvwxyz" : Str)).length = 26 := by decide +kernel
  refine wss_cons ?_
  walk_at "pd"
  refine use_draw hb (by decide) (by walk_at "szc") fun u m2 hb2 k2 u0 u1 => ?_
  obtain ⟨c, hc1⟩ := atI_sgn (z := "abcdefghijklmnopqrstuvwxyz") u0 (by rw [l26]; exact u1)
  refine wi_str (by omega) hc1 ?_
  have hc := sg26 hc1
  walk_at "pd"
  refine use_draw hb2 (by decide) (by walk_at "szc") fun t m3 hb3 k3 t0 t1 => ?_
  have kk3 := k2.trans k3
  walk_at "pd"
  refine' tail_of B (fun ρ m' => Bxd m' p ∧ Kp m m' p ∧ ∃ n : Int, 0 ≤ n ∧ n ≤ 11 ∧ Has ρ [(0, .ref p), (1, .str "abcdefghijklmnopqrstuvwxyz"), (2, .str ⟨#[c]⟩), (3, .int n)]) (fun tail => ?_) ?_
  rotate_left 2
  · refine ite_dec (fun g1 => ?_) (fun g1 => ?_)
    · walk_at "pde"
      refine wss_cons ?_
      walk_at "pde"
      refine use_draw hb3 (by decide) (by walk_at "szc") fun n m4 hb4 k4 n0 n1 => ?_
      walk_at "pde"
      exact tail _ _ ⟨hb4, kk3.trans k4, n, n0, by omega, by walk_at "has"⟩
    · refine wss_nil ?_
      exact tail _ _ ⟨hb3, kk3, 11, by decide, by decide, by walk_at "has"⟩
  rintro ρ m4 ⟨hb4, k4, n, n0, n1, hh⟩
  refine WSs.env ?_ hh
  clear hh ρ
  walk_at "pd"
  walk_at "pd for"
  walk_at "pd"
  refine ⟨by omega, by omega, ?_⟩
  refine forD_rng (fun i ρ m' => Bxd m' p ∧ Kp m m' p ∧ ∃ z : Str, okW (i + 1) z ∧ Has ρ [(0, .ref p), (1, .str "abcdefghijklmnopqrstuvwxyz"), (2, .str z)]) ?_ ?_ ⟨hb4, k4, _, okW_one hc, by walk_at "has"⟩
  · rintro i ρ m5 hi ⟨hb5, k5, z, hz, hh⟩
    have hzl := okW_len hz
    refine wg_nm k sl4 ?_
    refine WSs.env ?_ (hh.up rfl)
    clear hh ρ
    refine wss_cons ?_
    walk_at "pd"
    refine use_draw hb5 (by decide) (by walk_at "szc") fun v m6 hb6 k6 v0 v1 => ?_
    obtain ⟨c2, hc2⟩ := atI_sgn (z := ("abcdefghijklmnopqrstuvwxyz" : Str) ++ ("0123456789" : Str)) v0 (by rw [cat_len, l10, l26]; exact v1)
    refine wi_str (by rw [cat_len]; omega) hc2 ?_
    refine wb_catS (by rw [sgn_len]; omega) ?_
    walk_at "pd"
    exact ⟨hb6, k5.trans k6, z ++ ⟨#[c2]⟩, okW_app hz (sg36 hc2), by walk_at "has"⟩
  · rintro ρ m5 ⟨hb5, k5, z, hz, hh⟩
    refine WSs.env ?_ hh
    clear hh ρ
    walk_at "pd"
    exact hq z m5 (okW_okS hz (by omega)) hb5 k5
abbrev s_law_allowed : Stmt := top 31
abbrev n_law_allowed : List Str := ["_law_name_here", "_law_letters"]
theorem sc_law_allowed : FnScope n_law_allowed ["_law_name_here"] (defScope s_law_allowed) := ⟨rfl, rfl, rfl, by decide +kernel, rfl, by decide +kernel, by decide +kernel⟩
def p_law_allowed : PD := fun ds m Q _ => ∃ y : Str, ds = [.str y] ∧ y.length ≤ 100 ∧ (okS y → Q (.bl true) m) ∧ (¬ okS y → Q (.bl false) m)
theorem ok_law_allowed {Z : Ad} {P : Program} {w : World} {K : PySem.W.Frag} {mg : Str → Option Value} {base : Heap} (GD : GDef K mg "_law_allowed" s_law_allowed ["_law_name_here"]) (T : Tn mg) : GF P w K mg base "_law_allowed" 1 (p_law_allowed) := by
  refine gf_ok GD sc_law_allowed (by intro ds m Q Xd h; obtain ⟨_, rfl, _⟩ := h; rfl) fun B f cdv A outer s H E hB hr k ds m Q Xd h hx => ?_
  have hs : Hs P w K mg base B := by unfold Hs; rw [hB]; exact ⟨rfl, rfl, rfl, rfl, rfl⟩
  have hK : B.X.K = K := hs.2.2.1
  have sl0 : Sl B "_law_name_here" 0 := ⟨by rw [hB]; rfl, by rw [hB]; exact Or.inl rfl, by rw [hB]; exact Or.inl rfl⟩
  have sl1 : Sl B "_law_letters" 1 := ⟨by rw [hB]; rfl, by rw [hB]; exact Or.inl rfl, by rw [hB]; exact Or.inl rfl⟩
  have b_len : Bi B "len" "len" := ⟨by rw [hB]; exact rfl, by rw [hB]; exact T.b_len, boot_len'⟩
  clear hB
  obtain ⟨y, rfl, hl, h1, h2⟩ := h
  have e9 : sizeLine = 16777216 := sizeLine_eq
  refine wss_cons ?_
  walk_at "pd"
  refine wc_lenS (by omega) ?_
  walk_at "pd"
  have hlen : y.length = y.cps.toList.length := len_tl.symm
  refine ite_dec (fun g1 => ?_) (fun g1 => ?_)
  rotate_left 1
  · walk_at "pd"
    exact h2 fun h => g1 (by have := h.1.1; omega)
  walk_at "pde"
  refine ite_ndec (fun g2 => ?_) (fun g2 => ?_)
  · walk_at "pd"
    exact h2 fun h => g2 (by have := h.1.2; omega)
  walk_at "pde"
  refine ⟨Nat.le_trans cutS_len (by omega), ?_⟩
  walk_at "pde"
  have hin : ∀ c, c ∈ (("abcdefghijklmnopqrstuvwxyz" : Str)).cps.toList ↔ isL c := fun c => by have := let_in (c := c); exact decide_eq_decide.mp this
  have hin2 : ∀ c, c ∈ (("abcdefghijklmnopqrstuvwxyz" : Str) ++ ("0123456789" : Str)).cps.toList ↔ (isL c ∨ isG c) := fun c => by
    have e : (("abcdefghijklmnopqrstuvwxyz" : Str) ++ ("0123456789" : Str)).cps.toList = (("abcdefghijklmnopqrstuvwxyz" : Str)).cps.toList ++ (("0123456789" : Str)).cps.toList := by show (_ ++ _ : Array Nat).toList = _; exact Array.toList_append
    rw [e, List.mem_append]
    exact or_congr (hin c) (decide_eq_decide.mp fig_inG)
  have hhd : Txt.stripChars (cutS y none (some 1)) "abcdefghijklmnopqrstuvwxyz" = ("" : Str) ↔ ∀ c, y.cps.toList.head? = some c → isL c := by
    rw [show (("" : Str)) = Str.empty from rfl, strip_empty, show (1 : Int) = ((1 : Nat) : Int) from rfl, cutS_to (by omega)]
    show (∀ c ∈ ((y.cps.toList.take 1).toArray).toList, _) ↔ _
    rw [List.toList_toArray]
    cases hy : y.cps.toList with
    | nil => simp
    | cons a l =>
      constructor
      · intro h c hc
        obtain rfl : a = c := by simpa using hc
        exact (hin a).mp (h a (by simp))
      · intro h c hc
        obtain rfl : c = a := by simpa using hc
        exact (hin c).mpr (h c rfl)
  have hall : Txt.stripChars y (("abcdefghijklmnopqrstuvwxyz" : Str) ++ ("0123456789" : Str)) = ("" : Str) ↔ ∀ c ∈ y.cps.toList, isL c ∨ isG c := by
    rw [show (("" : Str)) = Str.empty from rfl, strip_empty]
    exact ⟨fun h c hc => (hin2 c).mp (h c hc), fun h c hc => (hin2 c).mpr (h c hc)⟩
  refine ite_ndec (fun g3 => ?_) (fun g3 => ?_)
  · walk_at "pd"
    exact h2 fun h => g3 (hhd.mpr h.2.1)
  walk_at "pd"
  refine wb_catS (by rw [e9]; decide +kernel) ?_
  refine ⟨_, rfl, by omega, ?_⟩
  walk_at "pd"
  by_cases g4 : Txt.stripChars y (("abcdefghijklmnopqrstuvwxyz" : Str) ++ ("0123456789" : Str)) = ("" : Str)
  · rw [decide_eq_true g4]
    exact h1 ⟨⟨by omega, by omega⟩, hhd.mp g3, hall.mp g4⟩
  · rw [decide_eq_false g4]
    exact h2 fun h => g4 (hall.mpr h.2.2)
abbrev s_law_sign : Stmt := top 32
abbrev n_law_sign : List Str := ["_law_box_here"]
theorem sc_law_sign : FnScope n_law_sign ["_law_box_here"] (defScope s_law_sign) := ⟨rfl, rfl, rfl, by decide +kernel, rfl, by decide +kernel, by decide +kernel⟩
def p_law_sign : PD := fun ds m Q _ => ∃ (p : Addr), ds = [.ref p] ∧ Bxd m p ∧ ∀ (c : Nat) m', Bxd m' p → Kp m m' p → Q (.str ⟨#[c]⟩) m'
theorem use_sign {B : Bx} {m : Mem} {Q : D → Mem → Prop} {p : Addr} (hb : Bxd m p) (h : ∀ (c : Nat) m', Bxd m' p → Kp m m' p → Q (.str ⟨#[c]⟩) m') : ∃ Xd, p_law_sign [.ref p] m Q Xd ∧ XOK B Xd := ⟨noX, ⟨p, rfl, hb, h⟩, xok_no B⟩
theorem ok_law_sign {Z : Ad} {P : Program} {w : World} {K : PySem.W.Frag} {mg : Str → Option Value} {base : Heap} (GD : GDef K mg "_law_sign" s_law_sign ["_law_box_here"]) (T : Tn mg) (c_law_draw : GF P w K mg base "_law_draw" 1 (p_law_draw)) (c_law_signs : GF P w K mg base "_law_signs" 1 (p_law_signs)) : GF P w K mg base "_law_sign" 2 (p_law_sign) := by
  refine gf_ok GD sc_law_sign (by intro ds m Q Xd h; obtain ⟨_, rfl, _⟩ := h; rfl) fun B f cdv A outer s H E hB hr k ds m Q Xd h hx => ?_
  have hs : Hs P w K mg base B := by unfold Hs; rw [hB]; exact ⟨rfl, rfl, rfl, rfl, rfl⟩
  have hK : B.X.K = K := hs.2.2.1
  have sl0 : Sl B "_law_box_here" 0 := ⟨by rw [hB]; rfl, by rw [hB]; exact Or.inl rfl, by rw [hB]; exact Or.inl rfl⟩
  have g_law_draw : GCal B "_law_draw" (p_law_draw) := cal_of c_law_draw hr (by omega) hs (by rw [hB]; exact rfl)
  have g_law_signs : GCal B "_law_signs" (p_law_signs) := cal_of c_law_signs hr (by omega) hs (by rw [hB]; exact rfl)
  clear hB
  obtain ⟨p, rfl, hb, hq⟩ := h
  have e9 : sizeLine = 16777216 := sizeLine_eq
  have l4 : (("_ .-" : Str)).length = 4 := by decide +kernel
  refine wss_cons ?_
  walk_at "pd"
  refine use_draw hb (by decide) (by walk_at "szc") fun t m1 hb1 k1 t0 t1 => ?_
  walk_at "pd"
  refine ite_dec (fun g1 => ?_) (fun g1 => ?_)
  · walk_at "pd"
    refine use_draw hb1 (by decide) (by walk_at "szc") fun v m2 hb2 k2 v0 v1 => ?_
    obtain ⟨c, hc⟩ := atI_sgn (z := "_ .-") v0 (by rw [l4]; exact v1)
    refine wi_str (by omega) hc ?_
    exact hq c m2 hb2 (k1.trans k2)
  · walk_at "pd"
    refine use_signs ?_
    walk_at "pd"
    refine use_draw hb1 (by decide) (by walk_at "szc") fun v m2 hb2 k2 v0 v1 => ?_
    obtain ⟨c, hc⟩ := atI_sgn (z := SG) v0 (by rw [SG_len]; exact v1)
    refine wi_str (by rw [SG_len]; omega) hc ?_
    exact hq c m2 hb2 (k1.trans k2)
abbrev s_law_bad_name : Stmt := top 33
abbrev n_law_bad_name : List Str := ["_law_box_here", "_law_name_here", "_law_kind", "_law_signs_here", "_law_at"]
theorem sc_law_bad_name : FnScope n_law_bad_name ["_law_box_here", "_law_name_here"] (defScope s_law_bad_name) := ⟨rfl, rfl, rfl, by decide +kernel, rfl, by decide +kernel, by decide +kernel⟩
def p_law_bad_name : PD := fun ds m Q _ => ∃ (p : Addr) (z : Str), ds = [.ref p, .str z] ∧ Bxd m p ∧ okS z ∧ ∀ (y : Str) m', Bxd m' p → Kp m m' p → ¬ okS y → y.length ≤ 100 → sOk y → Q (.str y) m'
theorem use_bad_name {B : Bx} {m : Mem} {Q : D → Mem → Prop} {p : Addr} {z : Str} (hb : Bxd m p) (hz : okS z) (h : ∀ (y : Str) m', Bxd m' p → Kp m m' p → ¬ okS y → y.length ≤ 100 → Q (.str y) m') : ∃ Xd, p_law_bad_name [.ref p, .str z] m Q Xd ∧ XOK B Xd := ⟨noX, ⟨p, z, rfl, hb, hz, fun y m' a b c d _ => h y m' a b c d⟩, xok_no B⟩
theorem use_bad_nameP {B : Bx} {m : Mem} {Q : D → Mem → Prop} {p : Addr} {z : Str} (hb : Bxd m p) (hz : okS z) (h : ∀ (y : Str) m', Bxd m' p → Kp m m' p → ¬ okS y → y.length ≤ 100 → sOk y → Q (.str y) m') : ∃ Xd, p_law_bad_name [.ref p, .str z] m Q Xd ∧ XOK B Xd := ⟨noX, ⟨p, z, rfl, hb, hz, h⟩, xok_no B⟩
theorem bad_len {y : Str} (h : 12 < y.length ∨ y.length = 0) : ¬ okS y := fun k => by
  have := k.1
  rw [len_tl] at this
  omega
theorem bad_sign {a b : Str} {c : Nat} (h : ¬ (isL c ∨ isG c)) : ¬ okS (a ++ ⟨#[c]⟩ ++ b) := fun k => h (k.2.2 c (by
  show c ∈ (a.cps ++ #[c] ++ b.cps).toList
  simp))
theorem bad_head {b : Str} {c : Nat} (h : ¬ isL c) : ¬ okS ((⟨#[c]⟩ : Str) ++ b) := fun k => h (k.2.1 c (by
  show (#[c] ++ b.cps).toList.head? = some c
  simp))
theorem ok_law_bad_name {Z : Ad} {P : Program} {w : World} {K : PySem.W.Frag} {mg : Str → Option Value} {base : Heap} (GD : GDef K mg "_law_bad_name" s_law_bad_name ["_law_box_here", "_law_name_here"]) (T : Tn mg) (c_law_draw : GF P w K mg base "_law_draw" 1 (p_law_draw)) : GF P w K mg base "_law_bad_name" 2 (p_law_bad_name) := by
  refine gf_ok GD sc_law_bad_name (by intro ds m Q Xd h; obtain ⟨_, _, rfl, _⟩ := h; rfl) fun B f cdv A outer s H E hB hr k ds m Q Xd h hx => ?_
  have hs : Hs P w K mg base B := by unfold Hs; rw [hB]; exact ⟨rfl, rfl, rfl, rfl, rfl⟩
  have hK : B.X.K = K := hs.2.2.1
  have sl0 : Sl B "_law_box_here" 0 := ⟨by rw [hB]; rfl, by rw [hB]; exact Or.inl rfl, by rw [hB]; exact Or.inl rfl⟩
  have sl1 : Sl B "_law_name_here" 1 := ⟨by rw [hB]; rfl, by rw [hB]; exact Or.inl rfl, by rw [hB]; exact Or.inl rfl⟩
  have sl2 : Sl B "_law_kind" 2 := ⟨by rw [hB]; rfl, by rw [hB]; exact Or.inl rfl, by rw [hB]; exact Or.inl rfl⟩
  have sl3 : Sl B "_law_signs_here" 3 := ⟨by rw [hB]; rfl, by rw [hB]; exact Or.inl rfl, by rw [hB]; exact Or.inl rfl⟩
  have sl4 : Sl B "_law_at" 4 := ⟨by rw [hB]; rfl, by rw [hB]; exact Or.inl rfl, by rw [hB]; exact Or.inl rfl⟩
  have b_len : Bi B "len" "len" := ⟨by rw [hB]; exact rfl, by rw [hB]; exact T.b_len, boot_len'⟩
  have g_law_draw : GCal B "_law_draw" (p_law_draw) := cal_of c_law_draw hr (by omega) hs (by rw [hB]; exact rfl)
  clear hB
  obtain ⟨p, z, rfl, hb, hz, hq⟩ := h
  have hz1 : z.length ≤ 12 := by have := hz.1.2; rw [len_tl] at this; exact this
  have hz0 : 1 ≤ z.length := by have := hz.1.1; rw [len_tl] at this; exact this
  have hzs := sOk_okS hz
  have e9 : sizeLine = 16777216 := sizeLine_eq
  have l13 : (("abcdefghijklm" : Str)).length = 13 := by decide +kernel
  have l10 : (("0123456789" : Str)).length = 10 := by decide +kernel
  refine wss_cons ?_
  walk_at "pd"
  refine use_draw hb (by decide) (by walk_at "szc") fun kd m1 hb1 k1 kd0 kd1 => ?_
  walk_at "pd"
  refine ite_dec (fun g1 => ?_) (fun g1 => ?_)
  · walk_at "pd"
    exact hq _ m1 hb1 k1 (bad_len (.inr rfl)) (by decide) (fun c h => by cases h)
  walk_at "pd"
  refine ite_dec (fun g2 => ?_) (fun g2 => ?_)
  · walk_at "pd"
    refine cutX0_s (by rw [cat_len]; omega) ?_
    walk_at "pd"
    refine hq _ m1 hb1 k1 (bad_len (.inl ?_)) (Nat.le_trans cutS_len (by rw [cat_len]; omega)) (sOk_cut (sOk_cat hzs (sOk_lit (by decide +kernel))))
    rw [show (13 : Int) = ((13 : Nat) : Int) from rfl, cutS_to (by rw [cat_len]; omega)]
    show 12 < (List.toArray _).size
    rw [List.size_toArray, List.length_take, len_tl, cat_len]
    omega
  walk_at "pd"
  refine ite_dec (fun g3 => ?_) (fun g3 => ?_)
  · walk_at "pd"
    refine use_draw hb1 (by decide) (by walk_at "szc") fun v m2 hb2 k2 v0 v1 => ?_
    obtain ⟨c, hc⟩ := atI_sgn (z := "0123456789") v0 (by rw [l10]; exact v1)
    refine wi_str (by omega) hc ?_
    walk_at "pd"
    have l1 : (cutS z (some 1) none).length ≤ z.length := cutS_len
    refine wb_catS (by rw [sgn_len]; omega) ?_
    have hcg := sg10 hc
    exact hq _ m2 hb2 (k1.trans k2) (bad_head fun h => by unfold isL at h; unfold isG at hcg; omega) (by rw [cat_len, sgn_len]; omega) (sOk_cat (sOk_one (by unfold isG at hcg; omega)) (sOk_cut hzs))
  walk_at "pd"
  refine wc_lenS (by omega) ?_
  walk_at "pd"
  refine use_draw hb1 (by omega) (show Sz 1900 _ from sz_le (by omega) (show ((z.length : Nat) : Int) ≤ 64 by omega) (by walk_at "szc")) fun a m2 hb2 k2 a0 a1 => ?_
  have l1 : (cutS z none (some a)).length ≤ z.length := cutS_len
  have l3 : (cutS z (some (a + 1)) none).length ≤ z.length := cutS_len
  walk_at "pd"
  refine wc_lenN (n := 58) (by decide +kernel) (by omega) ?_
  walk_at "pd"
  refine use_draw hb2 (by decide) (by walk_at "szc") fun v m3 hb3 k3 v0 v1 => ?_
  walk_at "pd"
  refine wi_sgn (n := 58) (P := fun c => decide (¬ (isL c ∨ isG c) ∧ c < 0x110000)) v0 v1 (by decide +kernel) (by omega) (by decide +kernel) fun c hc => ?_
  obtain ⟨hc, hcp⟩ := of_decide_eq_true hc
  refine wb_catS (by rw [sgn_len]; omega) ?_
  walk_at "pd"
  refine wb_catS (by rw [cat_len, sgn_len]; omega) ?_
  exact hq _ m3 hb3 ((k1.trans k2).trans k3) (bad_sign hc) (by rw [cat_len, cat_len, sgn_len]; omega) (sOk_cat (sOk_cat (sOk_cut hzs) (sOk_one hcp)) (sOk_cut hzs))
abbrev s_law_other_name : Stmt := top 34
abbrev n_law_other_name : List Str := ["_law_box_here", "_law_name_here", "_law_kind", "_law_k", "_law_at"]
theorem sc_law_other_name : FnScope n_law_other_name ["_law_box_here", "_law_name_here"] (defScope s_law_other_name) := ⟨rfl, rfl, rfl, by decide +kernel, rfl, by decide +kernel, by decide +kernel⟩
theorem joinE_len : ∀ {ls : List Str}, (Txt.join ("" : Str) ls).length ≤ (ls.map (·.length)).sum
  | [] => by rw [TL.join_eq]; exact Nat.le_refl 0
  | [a] => by rw [TL.join_eq, List.map_cons, List.sum_cons]; exact Nat.le_add_right _ _
  | a :: b :: r => by
    have ih := joinE_len (ls := b :: r)
    rw [TL.join_eq] at ih ⊢
    show (a ++ ("" : Str) ++ Str.join ("" : Str) (b :: r)).length ≤ _
    have l0 : (("" : Str)).length = 0 := rfl
    rw [cat_len, cat_len, l0, List.map_cons, List.sum_cons]
    omega
def p_law_other_name : PD := fun ds m Q _ => ∃ (p : Addr) (z : Str), ds = [.ref p, .str z] ∧ Bxd m p ∧ okS z ∧ ∀ (y : Str) m', Bxd m' p → Kp m m' p → y.length ≤ 100 → Q (.str y) m'
theorem use_other_nameK {B : Bx} {m : Mem} {Q : D → Mem → Prop} {p : Addr} {z : Str} (hb : Bxd m p) (hz : okS z) (h : ∀ (y : Str) m', Bxd m' p → Kp m m' p → y.length ≤ 100 → Q (.str y) m') : ∃ Xd, p_law_other_name [.ref p, .str z] m Q Xd ∧ XOK B Xd := ⟨noX, ⟨p, z, rfl, hb, hz, h⟩, xok_no B⟩
theorem ok_law_other_name {Z : Ad} {P : Program} {w : World} {K : PySem.W.Frag} {mg : Str → Option Value} {base : Heap} (GD : GDef K mg "_law_other_name" s_law_other_name ["_law_box_here", "_law_name_here"]) (T : Tn mg) (c_law_draw : GF P w K mg base "_law_draw" 1 (p_law_draw)) (c_law_signs : GF P w K mg base "_law_signs" 1 (p_law_signs)) (c_law_any_name : GF P w K mg base "_law_any_name" 2 (p_law_any_name)) (c_law_sign : GF P w K mg base "_law_sign" 2 (p_law_sign)) : GF P w K mg base "_law_other_name" 3 (p_law_other_name) := by
  refine gf_ok GD sc_law_other_name (by intro ds m Q Xd h; obtain ⟨_, _, rfl, _⟩ := h; rfl) fun B f cdv A outer s H E hB hr k ds m Q Xd h hx => ?_
  have hs : Hs P w K mg base B := by unfold Hs; rw [hB]; exact ⟨rfl, rfl, rfl, rfl, rfl⟩
  have hK : B.X.K = K := hs.2.2.1
  have cb : CB B n_law_other_name (defScope s_law_other_name) := ⟨by rw [hB]; rfl, by rw [hB]; rfl⟩
  have nv3 : B.X.N[3]? = some ("_law_k" : Str) := by rw [hB]; rfl
  have sl0 : Sl B "_law_box_here" 0 := ⟨by rw [hB]; rfl, by rw [hB]; first | exact Or.inl rfl | exact Or.inr rfl, by rw [hB]; first | exact Or.inl rfl | exact Or.inr rfl⟩
  have sl1 : Sl B "_law_name_here" 1 := ⟨by rw [hB]; rfl, by rw [hB]; first | exact Or.inl rfl | exact Or.inr rfl, by rw [hB]; first | exact Or.inl rfl | exact Or.inr rfl⟩
  have sl2 : Sl B "_law_kind" 2 := ⟨by rw [hB]; rfl, by rw [hB]; first | exact Or.inl rfl | exact Or.inr rfl, by rw [hB]; first | exact Or.inl rfl | exact Or.inr rfl⟩
  have sl4 : Sl B "_law_at" 4 := ⟨by rw [hB]; rfl, by rw [hB]; first | exact Or.inl rfl | exact Or.inr rfl, by rw [hB]; first | exact Or.inl rfl | exact Or.inr rfl⟩
  have b_range : Bt B "range" "range" := ⟨by rw [hB]; exact rfl, by rw [hB]; exact T.b_range, boot_range'⟩
  have b_len : Bi B "len" "len" := ⟨by rw [hB]; exact rfl, by rw [hB]; exact T.b_len, boot_len'⟩
  have g_law_draw : GCal B "_law_draw" (p_law_draw) := cal_of c_law_draw hr (by omega) hs (by rw [hB]; exact rfl)
  have g_law_any_name : GCal B "_law_any_name" (p_law_any_name) := cal_of c_law_any_name hr (by omega) hs (by rw [hB]; exact rfl)
  have g_law_sign : GCal B "_law_sign" (p_law_sign) := cal_of c_law_sign hr (by omega) hs (by rw [hB]; exact rfl)
  clear hB
  obtain ⟨p, z, rfl, hb, hz, hq⟩ := h
  have hz1 : z.length ≤ 12 := okS_l12 hz
  have hz0 : 1 ≤ z.length := by have := hz.1.1; rw [len_tl] at this; exact this
  have e9 : sizeLine = 16777216 := sizeLine_eq
  have l26 : (("abcdefghijklm0123456789nop" : Str)).length = 26 := by decide +kernel
  have l10 : (("0123456789" : Str)).length = 10 := by decide +kernel
  have szd : ∀ j : Int, 0 ≤ j → j ≤ 64 → Sz 1900 j := fun j h0 h1 => sz_le h0 h1 (by walk_at "szc")
  refine wss_cons ?_
  walk_at "pd"
  refine use_draw hb (by decide) (by walk_at "szc") fun kd m1 hb1 k1 kd0 kd1 => ?_
  walk_at "pd"
  refine ite_dec (fun g1 => ?_) (fun g1 => ?_)
  · walk_at "pd"
    refine use_draw hb1 (by decide) (by walk_at "szc") fun c m2 hb2 k2 c0 c1 => ?_
    obtain ⟨c, rfl⟩ := Int.eq_ofNat_of_zero_le c0
    walk_at "pd"
    refine ⟨by omega, by omega, fun v hv0 => ?_⟩
    have hvp : v ≠ p := bxd_new hb2 hv0
    rw [Int.toNat_natCast]
    show lcD _ _ _ _ _ _ v (rngD 0 c) [] _
    refine lcD_at _ (fun i acc m' => ∃ hl : List Str, acc = hl.map D.str ∧ hl.length = i ∧ Bxd m' p ∧ (∀ a, a ≠ p → a ≠ v → m' a = m2 a) ∧ ∀ y ∈ hl, y.length ≤ 1) (szl (by rw [rngD_len]; omega)) ?_ ?_ ⟨[], rfl, rfl, bxd_ne hb2 hvp, fun a _ h2 => mset_ne h2, fun y h => (by cases h)⟩
    · rintro i d acc m10 hdi ha ⟨hl, rfl, hai, hb, hke, hok⟩ hm B1 hb1'
      have hsB1 : Hs P w K mg base B1 := IsBlk.hs hb1' hs
      have hrB1 := IsBlk.room hb1' hr
      have hKB1 : B1.X.K = K := (IsBlk.K hb1').trans hK
      have gB1_law_signs : GCal B1 "_law_signs" (p_law_signs) := cal_of c_law_signs hrB1 (by omega) hsB1 (IsBlk.gl hb1' cb.hE (by first | rfl | decide +kernel))
      have gB1_law_draw : GCal B1 "_law_draw" (p_law_draw) := cal_of c_law_draw hrB1 (by omega) hsB1 (IsBlk.gl hb1' cb.hE (by first | rfl | decide +kernel))
      have vsB10 : Vs B1 "_law_box_here" 0 := IsBlk.vs hb1' cb.hE sl0.n (by first | exact Or.inl rfl | exact Or.inr (Or.inl rfl) | exact Or.inr (Or.inr rfl))
      walk_at "pd"
      refine use_signs ?_
      walk_at "pd"
      refine use_draw hb (by decide) (by walk_at "szc") fun t m11 hb11 k11 t0 t1 => ?_
      obtain ⟨c, hc⟩ := atI_sgn (z := SG) t0 (by rw [SG_len]; exact t1)
      refine wi_str (by rw [SG_len]; omega) hc ?_
      refine ⟨(k11 v hvp).trans hm, hl ++ [⟨#[c]⟩], by rw [List.map_append]; rfl, by rw [List.length_append, hai]; rfl, bxd_ne hb11 hvp, fun a ha1 ha2 => (mset_ne ha2).trans ((k11 a ha1).trans (hke a ha1 ha2)), fun x hx => ?_⟩
      rcases List.mem_append.mp hx with hx | hx
      · exact hok x hx
      · rw [List.mem_singleton.mp hx, sgn_len]; exact Nat.le_refl 1
    rintro far m10 hfl ⟨st, rfl, hsl, hb, hke, hsok⟩ _
    rw [rngD_len] at hsl
    have hsum := sum_le (f := fun z : Str => z.length) hsok
    refine ⟨st, .inl (.inl rfl), ?_, ?_⟩
    · show _ + _ * 0 ≤ _; omega
    refine hq _ _ ?_ ((k1.trans k2).trans fun a ha => ?_) (Nat.le_trans joinE_len (by omega))
    rotate_left 1
    · by_cases e : a = v
      · rw [e, hv0]; unfold mdel; rw [if_pos rfl]
      · rw [mdel_ne e]; exact hke a ha e
    obtain ⟨a, b, c, hb⟩ := hb
    exact ⟨a, b, c, by rw [mdel_ne hvp.symm]; exact hb⟩
  walk_at "pd"
  refine ite_dec (fun g2 => ?_) (fun g2 => ?_)
  · walk_at "pd"
    refine use_any_name hb1 fun y m2 hy hb2 k2 => ?_
    exact hq y m2 hb2 (k1.trans k2) (by have := okS_l12 hy; omega)
  walk_at "pd"
  refine ite_dec (fun g3 => ?_) (fun g3 => ?_)
  · walk_at "pd"
    refine use_draw hb1 (by decide) (by walk_at "szc") fun v m2 hb2 k2 v0 v1 => ?_
    walk_at "pd"
    refine cutX0_s (by rw [cat_len]; omega) ?_
    exact hq _ m2 hb2 (k1.trans k2) (Nat.le_trans cutS_len (by rw [cat_len]; omega))
  walk_at "pd"
  refine ite_dec (fun g4 => ?_) (fun g4 => ?_)
  · walk_at "pd"
    refine use_draw hb1 (by decide) (by walk_at "szc") fun v m2 hb2 k2 v0 v1 => ?_
    obtain ⟨c, hc⟩ := atI_sgn (z := "0123456789") v0 (by rw [l10]; exact v1)
    refine wi_str (by omega) hc ?_
    walk_at "pd"
    have l1 : (cutS z (some 1) none).length ≤ z.length := cutS_len
    refine wb_catS (by rw [sgn_len]; omega) ?_
    exact hq _ m2 hb2 (k1.trans k2) (by rw [cat_len, sgn_len]; omega)
  walk_at "pd"
  refine ite_dec (fun g5 => ?_) (fun g5 => ?_)
  · walk_at "pd"
    refine wc_lenS (by omega) ?_
    walk_at "pd"
    refine use_draw hb1 (by omega) (szd _ (by omega) (by omega)) fun a m2 hb2 k2 a0 a1 => ?_
    have l1 : (cutS z none (some a)).length ≤ z.length := cutS_len
    have l3 : (cutS z (some (a + 1)) none).length ≤ z.length := cutS_len
    walk_at "pd"
    refine use_sign hb2 fun c m3 hb3 k3 => ?_
    refine wb_catS (by rw [sgn_len]; omega) ?_
    walk_at "pd"
    refine wb_catS (by rw [cat_len, sgn_len]; omega) ?_
    exact hq _ m3 hb3 ((k1.trans k2).trans k3) (by rw [cat_len, cat_len, sgn_len]; omega)
  walk_at "pd"
  refine wc_lenS (by omega) ?_
  walk_at "pd"
  refine use_draw hb1 (by omega) (szd _ (by omega) (by omega)) fun a m2 hb2 k2 a0 a1 => ?_
  have l1 : (cutS z none (some a)).length ≤ z.length := cutS_len
  have l3 : (cutS z (some a) none).length ≤ z.length := cutS_len
  walk_at "pd"
  refine use_sign hb2 fun c m3 hb3 k3 => ?_
  refine wb_catS (by rw [sgn_len]; omega) ?_
  walk_at "pd"
  refine wb_catS (by rw [cat_len, sgn_len]; omega) ?_
  exact hq _ m3 hb3 ((k1.trans k2).trans k3) (by rw [cat_len, cat_len, sgn_len]; omega)
abbrev s_law_halts : Stmt := top 35
abbrev n_law_halts : List Str := ["_law_box_here", "_law_many", "_law_at", "_law_plain", "_law_k", "_law_used"]
theorem sc_law_halts : FnScope n_law_halts ["_law_box_here"] (defScope s_law_halts) := ⟨rfl, rfl, rfl, by decide +kernel, rfl, by decide +kernel, by decide +kernel⟩
def p_law_halts : PD := fun ds m Q _ => ∃ (p : Addr), ds = [.ref p] ∧ Bxd m p ∧ ∀ (hl : List Str) q m', Bxd (mset m' q (.lst (hl.map D.str))) p → m' q = none → q ≠ p → hl.length ≤ 8 → (∀ y ∈ hl, okS y) → hl.Nodup → Q (.ref q) (mset m' q (.lst (hl.map D.str)))
theorem use_halts {B : Bx} {m : Mem} {Q : D → Mem → Prop} {p : Addr} (hb : Bxd m p) (h : ∀ (hl : List Str) q m', Bxd (mset m' q (.lst (hl.map D.str))) p → m' q = none → q ≠ p → hl.length ≤ 8 → (∀ y ∈ hl, okS y) → hl.Nodup → Q (.ref q) (mset m' q (.lst (hl.map D.str)))) : ∃ Xd, p_law_halts [.ref p] m Q Xd ∧ XOK B Xd := ⟨noX, ⟨p, rfl, hb, h⟩, xok_no B⟩
def drum (a : Nat) (i : Nat) : Str := cutS ("kettledrum42" : Str) none (some (a : Int)) ++ ⟨#[("abcfghij" : Str).cps.toList.getD i 0]⟩ ++ cutS ("kettledrum42" : Str) (some ((a : Int) + 1)) none
def okB (z : Str) : Bool := decide (1 ≤ z.cps.toList.length) && decide (z.cps.toList.length ≤ 12) && (match z.cps.toList.head? with | some c => decide (isL c) | none => true) && z.cps.toList.all fun c => decide (isL c ∨ isG c)
theorem okB_ok {z : Str} (h : okB z = true) : okS z := by
  unfold okB at h
  simp only [Bool.and_eq_true, decide_eq_true_eq, List.all_eq_true] at h
  obtain ⟨⟨⟨h1, h2⟩, h3⟩, h4⟩ := h
  refine ⟨⟨h1, h2⟩, fun c hc => ?_, h4⟩
  rw [hc] at h3
  exact of_decide_eq_true h3
theorem drum_ok {a i : Nat} (ha : a < 12) (hi : i < 8) : okS (drum a i) := okB_ok ((by decide +kernel : ∀ a, a < 12 → ∀ i, i < 8 → okB (drum a i) = true) a ha i hi)
theorem drum_inj : ∀ a, a < 12 → ∀ i, i < 8 → ∀ j, j < 8 → drum a i = drum a j → i = j := by decide +kernel
theorem drum_nodup {a n : Nat} (ha : a < 12) (hn : n ≤ 8) : ((List.range n).map (drum a)).Nodup := by
  refine List.nodup_iff_pairwise_ne.mpr (List.pairwise_map.mpr ?_)
  refine List.Pairwise.imp_of_mem ?_ (List.nodup_iff_pairwise_ne.mp List.nodup_range)
  intro i j hi hj hne e
  exact hne (drum_inj a ha i (by have := List.mem_range.mp hi; omega) j (by have := List.mem_range.mp hj; omega) e)
theorem ok_law_halts {Z : Ad} {P : Program} {w : World} {K : PySem.W.Frag} {mg : Str → Option Value} {base : Heap} (GD : GDef K mg "_law_halts" s_law_halts ["_law_box_here"]) (T : Tn mg) (c_law_draw : GF P w K mg base "_law_draw" 1 (p_law_draw)) (c_law_name : GF P w K mg base "_law_name" 2 (p_law_name)) : GF P w K mg base "_law_halts" 3 (p_law_halts) := by
  refine gf_ok GD sc_law_halts (by intro ds m Q Xd h; obtain ⟨_, rfl, _⟩ := h; rfl) fun B f cdv A outer s H E hB hr k ds m Q Xd h hx => ?_
  have hs : Hs P w K mg base B := by unfold Hs; rw [hB]; exact ⟨rfl, rfl, rfl, rfl, rfl⟩
  have hK : B.X.K = K := hs.2.2.1
  have cb : CB B n_law_halts (defScope s_law_halts) := ⟨by rw [hB]; rfl, by rw [hB]; rfl⟩
  have nv4 : B.X.N[4]? = some ("_law_k" : Str) := by rw [hB]; rfl
  have sl0 : Sl B "_law_box_here" 0 := ⟨by rw [hB]; rfl, by rw [hB]; first | exact Or.inl rfl | exact Or.inr rfl, by rw [hB]; first | exact Or.inl rfl | exact Or.inr rfl⟩
  have sl1 : Sl B "_law_many" 1 := ⟨by rw [hB]; rfl, by rw [hB]; first | exact Or.inl rfl | exact Or.inr rfl, by rw [hB]; first | exact Or.inl rfl | exact Or.inr rfl⟩
  have sl2 : Sl B "_law_at" 2 := ⟨by rw [hB]; rfl, by rw [hB]; first | exact Or.inl rfl | exact Or.inr rfl, by rw [hB]; first | exact Or.inl rfl | exact Or.inr rfl⟩
  have sl3 : Sl B "_law_plain" 3 := ⟨by rw [hB]; rfl, by rw [hB]; first | exact Or.inl rfl | exact Or.inr rfl, by rw [hB]; first | exact Or.inl rfl | exact Or.inr rfl⟩
  have sl5 : Sl B "_law_used" 5 := ⟨by rw [hB]; rfl, by rw [hB]; first | exact Or.inl rfl | exact Or.inr rfl, by rw [hB]; first | exact Or.inl rfl | exact Or.inr rfl⟩
  have b_range : Bt B "range" "range" := ⟨by rw [hB]; exact rfl, by rw [hB]; exact T.b_range, boot_range'⟩
  have g_law_draw : GCal B "_law_draw" (p_law_draw) := cal_of c_law_draw hr (by omega) hs (by rw [hB]; exact rfl)
  clear hB
  obtain ⟨p, rfl, hb, hq⟩ := h
  have e9 : sizeLine = 16777216 := sizeLine_eq
  refine wss_cons ?_
  walk_at "pd"
  refine use_draw hb (by decide) (by walk_at "szc") fun t m1 hb1 k1 t0 t1 => ?_
  refine wi_tupA t0 t1 fun d hd => ?_
  have hkk : ∃ n : Int, d = .int n ∧ (0 ≤ n ∧ n ≤ 8) ∧ Sz 1900 n := (by walk_at "all" : ∀ d, d ∈ _ → ∃ n : Int, d = .int n ∧ (0 ≤ n ∧ n ≤ 8) ∧ Sz 1900 n) d hd
  obtain ⟨c, rfl, ⟨c0, c1⟩, _⟩ := hkk
  obtain ⟨c, rfl⟩ := Int.eq_ofNat_of_zero_le c0
  walk_at "pd"
  refine use_draw hb1 (by decide) (by walk_at "szc") fun u m2 hb2 k2 u0 u1 => ?_
  walk_at "pd"
  refine ite_dec (fun g1 => ?_) (fun g1 => ?_)
  · walk_at "pd go"
    walk_at "pd"
    refine use_draw hb2 (by decide) (by walk_at "szc") fun a m3 hb3 k3 a0 a1 => ?_
    walk_at "pd"
    obtain ⟨a, rfl⟩ := Int.eq_ofNat_of_zero_le a0
    have ha12 : a < 12 := by omega
    refine ⟨by omega, by omega, fun v hv0 => ?_⟩
    have hvp : v ≠ p := bxd_new hb3 hv0
    rw [Int.toNat_natCast]
    refine lcD_atM _ (fun i acc m' => acc = ((List.range i).map (drum a)).map D.str ∧ m' = mset m3 v (.lst acc)) (szl (by rw [rngD_len]; omega)) ?_ ?_ ⟨rfl, rfl⟩
    · rintro i d acc m10 hdi ha ⟨rfl, rfl⟩ hm B1 hb1'
      have hi : i < c := by
        have := (List.getElem?_eq_some_iff.mp hdi).1
        rwa [rngD_len] at this
      obtain rfl : d = .int (i : Nat) := by
        have e := rngD_get (lo := 0) (n := c) (i := i) hi
        rw [hdi] at e
        injection e with e
        rw [e]; simp
      have hsB1 : Hs P w K mg base B1 := IsBlk.hs hb1' hs
      have hrB1 := IsBlk.room hb1' hr
      have hKB1 : B1.X.K = K := (IsBlk.K hb1').trans hK
      have vsB13 : Vs B1 "_law_plain" 3 := IsBlk.vs hb1' cb.hE sl3.n (by first | exact Or.inl rfl | exact Or.inr (Or.inl rfl) | exact Or.inr (Or.inr rfl))
      have vsB14 : Vs B1 "_law_k" 4 := IsBlk.vs hb1' cb.hE nv4 (by first | exact Or.inl rfl | exact Or.inr (Or.inl rfl) | exact Or.inr (Or.inr rfl))
      have vsB12 : Vs B1 "_law_at" 2 := IsBlk.vs hb1' cb.hE sl2.n (by first | exact Or.inl rfl | exact Or.inr (Or.inl rfl) | exact Or.inr (Or.inr rfl))
      have l12 : (("kettledrum42" : Str)).length = 12 := by decide +kernel
      have l8 : (("abcfghij" : Str)).cps.toList.length = 8 := by decide +kernel
      have l1 : (cutS ("kettledrum42" : Str) none (some (a : Int))).length ≤ 12 := by rw [← l12]; exact cutS_len
      have l3 : (cutS ("kettledrum42" : Str) (some ((a : Int) + 1)) none).length ≤ 12 := by rw [← l12]; exact cutS_len
      walk_at "pd"
      refine wi_str (c := ("abcfghij" : Str).cps.toList.getD i 0) (by rw [e9]; decide +kernel) ?_ ?_
      · rw [atI_nat (xs := ("abcfghij" : Str).cps.toList) (j := i) (List.getElem?_eq_getElem (by omega)), List.getD_eq_getElem?_getD, List.getElem?_eq_getElem (by omega)]; rfl
      refine wb_catS (by rw [sgn_len]; omega) ?_
      walk_at "pd"
      refine wb_catS (by rw [cat_len, sgn_len]; omega) ?_
      refine ⟨mset_same, ?_, mset_mset⟩
      rw [List.range_succ, List.map_append, List.map_append]; rfl
    rintro far m10 hfl ⟨rfl, rfl⟩ _
    rw [rngD_len] at hfl
    rw [rngD_len]
    exact hq _ v m3 (bxd_ne hb3 hvp) hv0 hvp (by rw [List.length_map, List.length_range]; omega) (fun y hy => by
      obtain ⟨i, hi, rfl⟩ := List.mem_map.mp hy
      exact drum_ok ha12 (by have := List.mem_range.mp hi; omega)) (drum_nodup ha12 (by omega))
  · walk_at "pd"
    refine we_lstM ?_
    walk_at "pd"
    intro q hq0
    have hqp := bxd_new hb2 hq0
    walk_at "pd"
    refine ⟨by omega, by omega, fun v hv0 => ?_⟩
    have hvq : v ≠ q := fun e => by rw [e, mset_same] at hv0; cases hv0
    have hv2 : m2 v = none := by rw [← hv0, mset_ne hvq]
    have hvp : v ≠ p := bxd_new hb2 hv2
    rw [Int.toNat_natCast]
    refine lcD_atM _ (fun i acc m' => ∃ hl : List Str, acc = hl.map D.str ∧ hl.length = i ∧ Bxd m' p ∧ m' q = some (nmL hl) ∧ (∀ y ∈ hl, okS y) ∧ hl.Nodup) (szl (by rw [rngD_len]; omega)) ?_ ?_ ⟨[], rfl, rfl, bxd_ne (bxd_ne hb2 hqp) hvp, by rw [mset_ne hvq.symm, mset_same]; rfl, fun y h => (by cases h), .nil⟩
    · rintro i d acc m10 hdi ha ⟨hl, rfl, hai, hb, hu, hok, hnd⟩ hm B1 hb1'
      have hi : i < c := by
        have := (List.getElem?_eq_some_iff.mp hdi).1
        rwa [rngD_len] at this
      have hsB1 : Hs P w K mg base B1 := IsBlk.hs hb1' hs
      have hrB1 := IsBlk.room hb1' hr
      have hKB1 : B1.X.K = K := (IsBlk.K hb1').trans hK
      have gB1_law_name : GCal B1 "_law_name" (p_law_name) := cal_of c_law_name hrB1 (by omega) hsB1 (IsBlk.gl hb1' cb.hE (by first | rfl | decide +kernel))
      have vsB10 : Vs B1 "_law_box_here" 0 := IsBlk.vs hb1' cb.hE sl0.n (by first | exact Or.inl rfl | exact Or.inr (Or.inl rfl) | exact Or.inr (Or.inr rfl))
      have vsB15 : Vs B1 "_law_used" 5 := IsBlk.vs hb1' cb.hE sl5.n (by first | exact Or.inl rfl | exact Or.inr (Or.inl rfl) | exact Or.inr (Or.inr rfl))
      walk_at "pd"
      refine use_name hb hu (by omega) fun y m11 hy hyn hb11 k11 hu11 => ?_
      refine ⟨(k11 v hvp hvq).trans hm, hl ++ [y], by rw [List.map_append]; rfl, by rw [List.length_append, hai]; rfl, bxd_ne hb11 hvp, by rw [mset_ne hvq.symm, hu11], fun x hx => ?_, ?_⟩
      · rcases List.mem_append.mp hx with hx | hx
        · exact hok x hx
        · rw [List.mem_singleton.mp hx]; exact hy
      · refine List.nodup_append.mpr ⟨hnd, by simp, fun a ha b hb e => ?_⟩
        have := List.mem_singleton.mp hb
        subst this
        exact hyn (e ▸ ha)
    rintro far m10 hfl ⟨hl, rfl, hai, hb, hu, hok, hnd⟩ hm
    rw [rngD_len] at hai
    have em : m10 = mset (mdel m10 v) v (.lst (hl.map D.str)) := by
      funext x
      unfold mset mdel
      by_cases e : x = v
      · rw [if_pos e, e, hm]
      · rw [if_neg e, if_neg e]
    rw [em]
    rw [em] at hb
    exact hq hl v _ hb (by unfold mdel; rw [if_pos rfl]) hvp (by omega) hok hnd
abbrev s_law_first_twice : Stmt := top 36
abbrev n_law_first_twice : List Str := ["_law_names", "_law_k"]
theorem sc_law_first_twice : FnScope n_law_first_twice ["_law_names"] (defScope s_law_first_twice) := ⟨rfl, rfl, rfl, by decide +kernel, rfl, by decide +kernel, by decide +kernel⟩
def sD : Option Str → D
  | none => .non
  | some z => .str z
theorem first_ixS : ∀ {l : List Str} {z : Str}, z ∈ l → ∃ j : Nat, l[j]? = some z ∧ ∀ i, i < j → l[i]? ≠ some z
  | [], _, h => by cases h
  | y :: l, z, h => by
    by_cases e : y = z
    · exact ⟨0, by rw [e]; rfl, fun i hi => absurd hi (Nat.not_lt_zero i)⟩
    · have h2 : z ∈ l := by rcases List.mem_cons.mp h with h | h; exact absurd h.symm e; exact h
      obtain ⟨j, h3, h4⟩ := first_ixS h2
      refine ⟨j + 1, h3, fun i hi => ?_⟩
      cases i with
      | zero => intro h; injection h with h; exact e h
      | succ i => exact h4 i (by omega)
def p_law_first_twice : PD := fun ds m Q _ => ∃ (x : D) (ls : List Str), ds = [x] ∧ Lv x m (ls.map D.str) ∧ ls.length ≤ 100 ∧ Q (sD (dupS [] ls)) m
theorem ok_law_first_twice {Z : Ad} {P : Program} {w : World} {K : PySem.W.Frag} {mg : Str → Option Value} {base : Heap} (GD : GDef K mg "_law_first_twice" s_law_first_twice ["_law_names"]) (T : Tn mg) : GF P w K mg base "_law_first_twice" 1 (p_law_first_twice) := by
  refine gf_ok GD sc_law_first_twice (by intro ds m Q Xd h; obtain ⟨_, _, rfl, _⟩ := h; rfl) fun B f cdv A outer s H E hB hr k ds m Q Xd h hx => ?_
  have hs : Hs P w K mg base B := by unfold Hs; rw [hB]; exact ⟨rfl, rfl, rfl, rfl, rfl⟩
  have hK : B.X.K = K := hs.2.2.1
  have sl0 : Sl B "_law_names" 0 := ⟨by rw [hB]; rfl, by rw [hB]; exact Or.inl rfl, by rw [hB]; exact Or.inl rfl⟩
  have sl1 : Sl B "_law_k" 1 := ⟨by rw [hB]; rfl, by rw [hB]; exact Or.inl rfl, by rw [hB]; exact Or.inl rfl⟩
  have b_range : Bt B "range" "range" := ⟨by rw [hB]; exact rfl, by rw [hB]; exact T.b_range, boot_range'⟩
  have b_len : Bi B "len" "len" := ⟨by rw [hB]; exact rfl, by rw [hB]; exact T.b_len, boot_len'⟩
  clear hB
  obtain ⟨x, ls, rfl, hv, hl, hq⟩ := h
  have hln : (ls.map D.str).length = ls.length := List.length_map _
  walk_at "pd go"
  walk_at "pd for"
  walk_at "pd"
  refine wc_lenV (.inl hv) ?_
  rw [hln]
  refine ⟨_, rfl, by omega, by omega, ?_⟩
  rw [Int.toNat_natCast]
  refine forD_rng (fun i ρ m'' => m'' = m ∧ dupS [] ls = dupS (ls.take i) (ls.drop i) ∧ Has ρ [(0, x)]) ?_ ?_ ⟨rfl, rfl, by walk_at "has"⟩
  · rintro i ρ m'' hi ⟨rfl, hdu, hh⟩
    obtain ⟨y, hci⟩ : ∃ y, ls[i]? = some y := ⟨_, List.getElem?_eq_getElem hi⟩
    obtain ⟨hlt, he⟩ := List.getElem?_eq_some_iff.mp hci
    have ed : ls.drop i = y :: ls.drop (i + 1) := by rw [List.drop_eq_getElem_cons hlt, he]
    rw [ed] at hdu
    have hnd : (ls.map D.str)[i]? = some (.str y) := by rw [List.getElem?_map, hci]; rfl
    obtain ⟨j, hj1, hj2⟩ := first_ixS (List.mem_of_getElem? hci)
    have hji : j ≤ i := Nat.le_of_not_lt fun h => hj2 i h hci
    have hiff : j < i ↔ y ∈ ls.take i := by
      constructor
      · intro h
        exact List.mem_of_getElem? (i := j) (by rw [List.getElem?_take_of_lt h]; exact hj1)
      · intro h
        obtain ⟨t, ht, e⟩ := List.getElem_of_mem h
        have e2 := List.getElem?_eq_getElem ht
        rw [e] at e2
        have hti : t < i := by rw [List.length_take] at ht; omega
        rw [List.getElem?_take_of_lt hti] at e2
        exact Nat.lt_of_le_of_lt (Nat.le_of_not_lt fun h => hj2 t h e2) hti
    refine wg_nm k sl1 ?_
    refine WSs.env ?_ hh.on
    clear hh ρ
    refine wss_cons ?_
    walk_at "pd"
    refine ⟨ls, hv, ?_⟩
    walk_at "pd"
    refine wi_lv hv (atI_n hnd) ?_
    refine ⟨hv, y, j, rfl, hj1, hj2, ?_⟩
    walk_at "pd"
    refine ite_dec (fun g4 => ?_) (fun g4 => ?_)
    · walk_at "pd"
      refine wi_lv hv (atI_n hnd) ?_
      have hm := hiff.mp (by omega)
      have : dupS [] ls = some y := by
        rw [hdu]
        show (if y ∈ _ then _ else _) = _
        rw [if_pos hm]
      rw [this] at hq
      exact hq
    · walk_at "pd"
      refine ⟨rfl, ?_, by walk_at "has"⟩
      rw [hdu, take_snoc hci]
      show (if y ∈ _ then _ else _) = _
      rw [if_neg fun h => g4 (by have := hiff.mpr h; omega)]
  · rintro ρ m'' ⟨rfl, hdu, hh⟩
    rw [List.drop_length] at hdu
    refine WSs.env ?_ hh
    clear hh ρ
    walk_at "pd"
    have : dupS [] ls = none := hdu
    rw [this] at hq
    exact hq
abbrev s_law_spoilt : Stmt := top 37
abbrev n_law_spoilt : List Str := ["_law_box_here", "_law_name_here", "_law_size", "_law_halts_here", "_law_bad", "_law_first", "_law_second", "_law_due", "_law_turn", "_law_one", "_law_at"]
theorem sc_law_spoilt : FnScope n_law_spoilt ["_law_box_here", "_law_name_here", "_law_size", "_law_halts_here"] (defScope s_law_spoilt) := ⟨rfl, rfl, rfl, by decide +kernel, rfl, by decide +kernel, by decide +kernel⟩
def dueLE : LErr → Str → Int → List D
  | .name, z, _ => [.str "name", .str z]
  | .num, _, n => [.str "value", .int n]
  | .twice y, _, _ => [.str "twice", .str y]
theorem dupS_none : ∀ {zs k : List Str}, dupS k zs = none → zs.Nodup ∧ ∀ z ∈ zs, z ∉ k
  | [], _, _ => ⟨.nil, fun c h => by cases h⟩
  | z :: zs, k, h => by
    have h : (if z ∈ k then some z else dupS (k ++ [z]) zs) = none := h
    by_cases e : z ∈ k
    · rw [if_pos e] at h; cases h
    · rw [if_neg e] at h
      obtain ⟨h1, h2⟩ := dupS_none h
      refine ⟨List.nodup_cons.mpr ⟨fun hm => h2 z hm (List.mem_append.mpr (.inr (List.mem_singleton.mpr rfl))), h1⟩, fun x hx => ?_⟩
      rcases List.mem_cons.mp hx with rfl | hx
      · exact e
      · exact fun z => h2 x hx (List.mem_append.mpr (.inl z))
def p_law_spoilt : PD := fun ds m Q _ => ∃ (p : Addr) (z : Str) (n : Int) (st : List Str), ds = [.ref p, .str z, .int n, .lst (st.map D.str)] ∧ Bxd m p ∧ okS z ∧ 1 ≤ n ∧ st.length ≤ 8 ∧ ∀ (z' : Str) (n' : Int) (st' : List Str) (e : LErr) m', Bxd m' p → leadE z' n' st' = some e → z'.length ≤ 100 → st'.length ≤ 20 → Q (.lst [.lst [.str z', .int n', .lst (st'.map D.str)], .lst (dueLE e z' n')]) m'
theorem use_spoilt {B : Bx} {m : Mem} {Q : D → Mem → Prop} {p : Addr} {z : Str} {n : Int} {st : List Str} (hb : Bxd m p) (hz : okS z) (hn : 1 ≤ n) (hl : st.length ≤ 8) (h : ∀ (z' : Str) (n' : Int) (st' : List Str) (e : LErr) m', Bxd m' p → leadE z' n' st' = some e → z'.length ≤ 100 → st'.length ≤ 20 → Q (.lst [.lst [.str z', .int n', .lst (st'.map D.str)], .lst (dueLE e z' n')]) m') : ∃ Xd, p_law_spoilt [.ref p, .str z, .int n, .lst (st.map D.str)] m Q Xd ∧ XOK B Xd := ⟨noX, ⟨p, z, n, st, rfl, hb, hz, hn, hl, h⟩, xok_no B⟩
theorem ok_law_spoilt {Z : Ad} {P : Program} {w : World} {K : PySem.W.Frag} {mg : Str → Option Value} {base : Heap} (GD : GDef K mg "_law_spoilt" s_law_spoilt ["_law_box_here", "_law_name_here", "_law_size", "_law_halts_here"]) (T : Tn mg) (c_law_draw : GF P w K mg base "_law_draw" 1 (p_law_draw)) (c_law_bad_name : GF P w K mg base "_law_bad_name" 2 (p_law_bad_name)) (c_law_name : GF P w K mg base "_law_name" 2 (p_law_name)) (c_law_first_twice : GF P w K mg base "_law_first_twice" 1 (p_law_first_twice)) : GF P w K mg base "_law_spoilt" 3 (p_law_spoilt) := by
  refine gf_ok GD sc_law_spoilt (by intro ds m Q Xd h; obtain ⟨_, _, _, _, rfl, _⟩ := h; rfl) fun B f cdv A outer s H E hB hr k ds m Q Xd h hx => ?_
  have hs : Hs P w K mg base B := by unfold Hs; rw [hB]; exact ⟨rfl, rfl, rfl, rfl, rfl⟩
  have hK : B.X.K = K := hs.2.2.1
  have sl0 : Sl B "_law_box_here" 0 := ⟨by rw [hB]; rfl, by rw [hB]; exact Or.inl rfl, by rw [hB]; exact Or.inl rfl⟩
  have sl1 : Sl B "_law_name_here" 1 := ⟨by rw [hB]; rfl, by rw [hB]; exact Or.inl rfl, by rw [hB]; exact Or.inl rfl⟩
  have sl2 : Sl B "_law_size" 2 := ⟨by rw [hB]; rfl, by rw [hB]; exact Or.inl rfl, by rw [hB]; exact Or.inl rfl⟩
  have sl3 : Sl B "_law_halts_here" 3 := ⟨by rw [hB]; rfl, by rw [hB]; exact Or.inl rfl, by rw [hB]; exact Or.inl rfl⟩
  have sl4 : Sl B "_law_bad" 4 := ⟨by rw [hB]; rfl, by rw [hB]; exact Or.inl rfl, by rw [hB]; exact Or.inl rfl⟩
  have sl5 : Sl B "_law_first" 5 := ⟨by rw [hB]; rfl, by rw [hB]; exact Or.inl rfl, by rw [hB]; exact Or.inl rfl⟩
  have sl6 : Sl B "_law_second" 6 := ⟨by rw [hB]; rfl, by rw [hB]; exact Or.inl rfl, by rw [hB]; exact Or.inl rfl⟩
  have sl7 : Sl B "_law_due" 7 := ⟨by rw [hB]; rfl, by rw [hB]; exact Or.inl rfl, by rw [hB]; exact Or.inl rfl⟩
  have sl8 : Sl B "_law_turn" 8 := ⟨by rw [hB]; rfl, by rw [hB]; exact Or.inl rfl, by rw [hB]; exact Or.inl rfl⟩
  have sl9 : Sl B "_law_one" 9 := ⟨by rw [hB]; rfl, by rw [hB]; exact Or.inl rfl, by rw [hB]; exact Or.inl rfl⟩
  have sl10 : Sl B "_law_at" 10 := ⟨by rw [hB]; rfl, by rw [hB]; exact Or.inl rfl, by rw [hB]; exact Or.inl rfl⟩
  have b_list : Bt B "list" "list" := ⟨by rw [hB]; exact rfl, by rw [hB]; exact T.b_list, boot_list'⟩
  have b_len : Bi B "len" "len" := ⟨by rw [hB]; exact rfl, by rw [hB]; exact T.b_len, boot_len'⟩
  have b_range : Bt B "range" "range" := ⟨by rw [hB]; exact rfl, by rw [hB]; exact T.b_range, boot_range'⟩
  have g_law_draw : GCal B "_law_draw" (p_law_draw) := cal_of c_law_draw hr (by omega) hs (by rw [hB]; exact rfl)
  have g_law_bad_name : GCal B "_law_bad_name" (p_law_bad_name) := cal_of c_law_bad_name hr (by omega) hs (by rw [hB]; exact rfl)
  have g_law_name : GCal B "_law_name" (p_law_name) := cal_of c_law_name hr (by omega) hs (by rw [hB]; exact rfl)
  have g_law_first_twice : GCal B "_law_first_twice" (p_law_first_twice) := cal_of c_law_first_twice hr (by omega) hs (by rw [hB]; exact rfl)
  clear hB
  obtain ⟨p, z, n, st, rfl, hb, hz, hn, hl, hq⟩ := h
  have e9 : sizeLine = 16777216 := sizeLine_eq
  have hz1 := okS_l12 hz
  refine wss_cons ?_
  walk_at "pd"
  refine we_lstM ?_
  walk_at "pd"
  refine wc_listS (.inl (.inl rfl)) (.inl ?_)
  walk_at "pd"
  intro b hb0
  have hbp := bxd_new hb hb0
  walk_at "pd"
  refine use_draw (bxd_ne hb hbp) (by decide) (by walk_at "szc") fun f1 m1 hb1 k1 f10 f11 => ?_
  have hm1 := (k1 b hbp).trans mset_same
  walk_at "pd"
  refine use_draw hb1 (by decide) (by walk_at "szc") fun f2 m2 hb2 k2 f20 f21 => ?_
  have hm2 := (k2 b hbp).trans hm1
  clear hb1 hm1 k1 k2 hb hb0
  walk_at "pd"
  refine we_lstM ?_
  walk_at "pd"
  intro d hd0
  have hdp := bxd_new hb2 hd0
  have hdb : d ≠ b := fun e => by rw [e, hm2] at hd0; cases hd0
  have hb3 : Bxd (mset m2 d (.lst [])) p := bxd_ne hb2 hdp
  have hm3 : mset m2 d (.lst []) b = some (.lst [.str z, .int n, .lst (st.map D.str)]) := by rw [mset_ne hdb.symm]; exact hm2
  have hd3 : mset m2 d (.lst []) d = some (.lst []) := mset_same
  generalize mset m2 d (.lst []) = m3 at hb3 hm3 hd3 ⊢
  walk_at "pd"
  refine' tail_of B (fun ρ m' => Bxd m' p ∧ ∃ z' dl, m' b = some (.lst [.str z', .int n, .lst (st.map D.str)]) ∧ m' d = some (.lst dl) ∧ z'.length ≤ 100 ∧ ((okS z' ∧ dl = [] ∧ f1 ≠ 0) ∨ (¬ okS z' ∧ dl = [.lst [.str "name", .str z']])) ∧ Has ρ [(0, .ref p), (1, .str z), (2, .int n), (3, .lst (st.map D.str)), (4, .ref b), (5, .int f1), (6, .int f2), (7, .ref d)]) (fun tail => ?_) ?_
  rotate_left 2
  · refine' tail_of B (fun ρ m' => m' = m3 ∧ Has ρ [(0, .ref p), (1, .str z), (2, .int n), (3, .lst (st.map D.str)), (4, .ref b), (5, .int f1), (6, .int f2), (7, .ref d)]) (fun body => ?_) ?_
    rotate_left 2
    · by_cases g1 : f1 = 0
      · refine ite_yes g1 ?_
        walk_at "pde"
        exact body _ _ ⟨rfl, by walk_at "has"⟩
      refine ite_no g1 ?_
      walk_at "pde"
      by_cases g2 : f2 = 0
      · refine ite_yes g2 ?_
        exact body _ _ ⟨rfl, by walk_at "has"⟩
      refine ite_no g2 ?_
      refine wss_nil ?_
      exact tail _ _ ⟨hb3, z, [], hm3, hd3, by omega, .inl ⟨hz, rfl, g1⟩, by walk_at "has"⟩
    rintro ρ m4 ⟨rfl, hh⟩
    refine WSs.env ?_ hh
    clear hh ρ
    refine wss_cons ?_
    walk_at "pde"
    refine use_bad_nameP hb3 hz fun y m5 hb5 k5 hy hyl _ => ?_
    have hm5 := (k5 b hbp).trans hm3
    have hd5 := (k5 d hdp).trans hd3
    walk_at "pde"
    refine ⟨b, _, _, 0, rfl, rfl, hm5, by unfold ixN; simp, ?_⟩
    walk_at "pd"
    refine ⟨d, _, rfl, by rw [mset_ne hdb]; exact hd5, ?_⟩
    walk_at "pd"
    refine we_lst ?_
    walk_at "pd"
    refine ⟨_, by rw [mset_ne hdb]; exact hd5, by rw [e9]; simp, ?_⟩
    walk_at "pde"
    exact tail _ _ ⟨bxd_ne (bxd_ne hb5 hbp) hdp, y, [.lst [.str "name", .str y]], by rw [mset_ne hdb.symm, mset_same]; rfl, mset_same, hyl, .inr ⟨hy, rfl⟩, by walk_at "has"⟩
  clear hb3 hm3 hd3
  rintro ρ m4 ⟨hb4, z', dl, hm4, hd4, hzl, hP, hh⟩
  refine WSs.env ?_ hh
  clear hh ρ
  walk_at "pd"
  refine' tail_of B (fun ρ m' => Bxd m' p ∧ ∃ n' dl, m' b = some (.lst [.str z', .int n', .lst (st.map D.str)]) ∧ m' d = some (.lst dl) ∧ ((okS z' ∧ 1 ≤ n' ∧ dl = [] ∧ f1 = 2) ∨ (∃ e r, leadE z' n' st = some e ∧ (∀ st', leadE z' n' st' = some e) ∧ dl = .lst (dueLE e z' n') :: r)) ∧ dl.length ≤ 2 ∧ Has ρ [(0, .ref p), (1, .str z), (2, .int n), (3, .lst (st.map D.str)), (4, .ref b), (5, .int f1), (6, .int f2), (7, .ref d)]) (fun tail => ?_) ?_
  rotate_left 2
  · refine' tail_of B (fun ρ m' => m' = m4 ∧ Has ρ [(0, .ref p), (1, .str z), (2, .int n), (3, .lst (st.map D.str)), (4, .ref b), (5, .int f1), (6, .int f2), (7, .ref d)]) (fun body => ?_) ?_
    rotate_left 2
    · by_cases g1 : f1 = 1
      · refine ite_yes g1 ?_
        walk_at "pde"
        exact body _ _ ⟨rfl, by walk_at "has"⟩
      refine ite_no g1 ?_
      walk_at "pde"
      by_cases g2 : f2 = 1
      · refine ite_yes g2 ?_
        exact body _ _ ⟨rfl, by walk_at "has"⟩
      refine ite_no g2 ?_
      refine wss_nil ?_
      refine tail _ _ ⟨hb4, n, dl, hm4, hd4, ?_, ?_, by walk_at "has"⟩
      · rcases hP with ⟨h1, h2, h3⟩ | ⟨h1, h2⟩
        · exact .inl ⟨h1, hn, h2, by omega⟩
        · exact .inr ⟨.name, [], leadE_name h1, fun _ => leadE_name h1, h2⟩
      · rcases hP with ⟨h1, h2, h3⟩ | ⟨h1, h2⟩ <;> rw [h2] <;> simp
    rintro ρ m5 ⟨rfl, hh⟩
    refine WSs.env ?_ hh
    clear hh ρ
    refine wss_cons ?_
    walk_at "pde"
    refine use_draw hb4 (by decide) (by walk_at "szc") fun t m6 hb6 k6 t0 t1 => ?_
    have hm6 := (k6 b hbp).trans hm4
    have hd6 := (k6 d hdp).trans hd4
    refine wi_tupA t0 t1 fun dd hdd => ?_
    have hkk : ∃ n : Int, dd = .int n ∧ (0 < n ∧ n ≤ 10 ^ 30) ∧ Sz 1900 n := (by walk_at "all" : ∀ d, d ∈ _ → ∃ n : Int, d = .int n ∧ (0 < n ∧ n ≤ 10 ^ 30) ∧ Sz 1900 n) dd hdd
    obtain ⟨c, rfl, ⟨c0, c1⟩, c2⟩ := hkk
    walk_at "pde"
    refine use_draw hb6 c0 c2 fun v m7 hb7 k7 v0 v1 => ?_
    have hm7 := (k7 b hbp).trans hm6
    have hd7 := (k7 d hdp).trans hd6
    walk_at "pde"
    refine ⟨b, _, _, 1, rfl, rfl, hm7, by unfold ixN; simp, ?_⟩
    walk_at "pd"
    refine ⟨d, _, rfl, by rw [mset_ne hdb]; exact hd7, ?_⟩
    walk_at "pd"
    refine we_lst ?_
    walk_at "pd"
    refine ⟨_, by rw [mset_ne hdb]; exact hd7, ?_, ?_⟩
    · rcases hP with ⟨h1, h2, h3⟩ | ⟨h1, h2⟩ <;> rw [h2, e9] <;> simp
    walk_at "pde"
    refine tail _ _ ⟨bxd_ne (bxd_ne hb7 hbp) hdp, 0 - v, dl ++ [.lst [.str "value", .int (0 - v)]], by rw [mset_ne hdb.symm, mset_same]; rfl, mset_same, .inr ?_, ?_, by walk_at "has"⟩
    · rcases hP with ⟨h1, h2, h3⟩ | ⟨h1, h2⟩
      · exact ⟨.num, [], leadE_num h1 (by omega), fun _ => leadE_num h1 (by omega), by rw [h2]; rfl⟩
      · exact ⟨.name, [.lst [.str "value", .int (0 - v)]], leadE_name h1, fun _ => leadE_name h1, by rw [h2]; rfl⟩
    · rcases hP with ⟨h1, h2, h3⟩ | ⟨h1, h2⟩ <;> rw [h2] <;> simp
  clear hb4 hm4 hd4 hP dl
  rintro ρ m5 ⟨hb5, n', dl, hm5, hd5, hP, hdl, hh⟩
  refine WSs.env ?_ hh
  clear hh ρ
  walk_at "pd"
  refine' tail_of B (fun ρ m' => Bxd m' p ∧ ∃ st' e r, m' b = some (.lst [.str z', .int n', .lst (st'.map D.str)]) ∧ m' d = some (.lst (.lst (dueLE e z' n') :: r)) ∧ leadE z' n' st' = some e ∧ st'.length ≤ 20 ∧ Has ρ [(4, .ref b), (7, .ref d)]) (fun tail => ?_) ?_
  rotate_left 2
  · refine' tail_of B (fun ρ m' => m' = m5 ∧ Has ρ [(0, .ref p), (1, .str z), (2, .int n), (3, .lst (st.map D.str)), (4, .ref b), (5, .int f1), (6, .int f2), (7, .ref d)]) (fun body => ?_) ?_
    rotate_left 2
    · by_cases g1 : f1 = 2
      · refine ite_yes g1 ?_
        walk_at "pde"
        exact body _ _ ⟨rfl, by walk_at "has"⟩
      refine ite_no g1 ?_
      walk_at "pde"
      by_cases g2 : f2 = 2
      · refine ite_yes g2 ?_
        exact body _ _ ⟨rfl, by walk_at "has"⟩
      refine ite_no g2 ?_
      refine wss_nil ?_
      rcases hP with ⟨h1, h2, h3, h4⟩ | ⟨e, r, h1, h2, h3⟩
      · exact absurd h4 g1
      · exact tail _ _ ⟨hb5, st, e, r, hm5, by rw [← h3]; exact hd5, h1, by omega, by walk_at "has"⟩
    rintro ρ m6 ⟨rfl, hh⟩
    refine WSs.env ?_ hh
    clear hh ρ
    refine wss_cons ?_
    walk_at "pd"
    rw [List.length_map]
    refine' tail_of B (fun ρ m' => Bxd m' p ∧ ∃ st' : List Str, m' b = some (.lst [.str z', .int n', .lst (st'.map D.str)]) ∧ m' d = some (.lst dl) ∧ 1 ≤ st'.length ∧ st'.length ≤ 8 ∧ Has ρ [(0, .ref p), (4, .ref b), (7, .ref d)]) (fun tail2 => ?_) ?_
    rotate_left 2
    · refine ite_dec (fun g3 => ?_) (fun g3 => ?_)
      · refine wss_cons ?_
        walk_at "pde"
        refine we_lst ?_
        walk_at "pde"
        refine we_lstM ?_
        walk_at "pde"
        intro v hv0
        have hvp := bxd_new hb5 hv0
        have hvb : v ≠ b := fun e => by rw [e, hm5] at hv0; cases hv0
        have hvd : v ≠ d := fun e => by rw [e, hd5] at hv0; cases hv0
        walk_at "pde"
        refine use_name (l := []) (bxd_ne hb5 hvp) mset_same (Nat.zero_le _) fun y m7 hy _ hb7 k7 _ => ?_
        have hm7 : m7 b = some (.lst [.str z', .int n', .lst (st.map D.str)]) := by rw [k7 b hbp hvb.symm, mset_ne hvb.symm]; exact hm5
        have hd7 : m7 d = some (.lst dl) := by rw [k7 d hdp hvd.symm, mset_ne hvd.symm]; exact hd5
        walk_at "pde"
        refine ⟨b, _, _, 2, rfl, rfl, hm7, by unfold ixN; simp, ?_⟩
        walk_at "pde"
        exact tail2 _ _ ⟨bxd_ne hb7 hbp, [y], by rw [mset_same]; rfl, by rw [mset_ne hdb]; exact hd7, Nat.le_refl 1, Nat.le_of_ble_eq_true rfl, by walk_at "has"⟩
      · refine wss_nil ?_
        exact tail2 _ _ ⟨hb5, st, hm5, hd5, by omega, hl, by walk_at "has"⟩
    clear hb5 hm5 hd5
    rintro ρ m7 ⟨hb7, st7, hm7, hd7, hl0, hl8, hh⟩
    refine WSs.env ?_ hh
    clear hh ρ
    walk_at "pd"
    walk_at "pd for"
    walk_at "pd"
    refine use_draw hb7 (by decide) (by walk_at "szc") fun t m8 hb8 k8 t0 t1 => ?_
    have hm8 := (k8 b hbp).trans hm7
    have hd8 := (k8 d hdp).trans hd7
    walk_at "pd"
    refine ⟨by omega, by omega, ?_⟩
    refine forD_rng (fun i ρ m' => Bxd m' p ∧ ∃ st' : List Str, m' b = some (.lst [.str z', .int n', .lst (st'.map D.str)]) ∧ m' d = some (.lst dl) ∧ 1 ≤ st'.length ∧ st'.length ≤ 8 + i ∧ (1 ≤ i → ¬ st'.Nodup) ∧ Has ρ [(0, .ref p), (4, .ref b), (7, .ref d)]) ?_ ?_ ⟨hb8, st7, hm8, hd8, hl0, hl8, fun h => absurd h (by decide), by walk_at "has"⟩
    · clear hb7 hm7 hd7 hb8 hm8 hd8 k8
      rintro i ρ m9 hi ⟨hb9, st9, hm9, hd9, h90, h98, _, hh⟩
      have hi2 : i < 2 := by omega
      have hln : (st9.map D.str).length = st9.length := List.length_map _
      refine wg_nm k sl8 ?_
      refine WSs.env ?_ (hh.up rfl)
      clear hh ρ
      refine wss_cons ?_
      walk_at "pd"
      rw [hln]
      refine use_draw hb9 (by omega) (show Sz 1900 _ from sz_le (by omega) (show ((st9.length : Nat) : Int) ≤ 64 by omega) (by walk_at "szc")) fun a m10 hb10 k10 a0 a1 => ?_
      have hm10 := (k10 b hbp).trans hm9
      have hd10 := (k10 d hdp).trans hd9
      refine wi_listA a0 (by rw [hln]; omega) fun dd hdd => ?_
      obtain ⟨y, hy, rfl⟩ := List.mem_map.mp hdd
      walk_at "pd"
      rw [hln]
      refine use_draw hb10 (by omega) (show Sz 1900 _ from sz_le (by omega) (show ((st9.length : Nat) : Int) + 1 ≤ 64 by omega) (by walk_at "szc")) fun c m11 hb11 k11 c0 c1 => ?_
      have hm11 := (k11 b hbp).trans hm10
      have hd11 := (k11 d hdp).trans hd10
      walk_at "pd"
      refine we_lst ?_
      walk_at "pd"
      have hcut : Pd.cutD (st9.map D.str) none (some c) = (st9.take c.toNat).map D.str := by rw [cut_take c0 (by rw [hln]; omega), List.map_take]
      have hcut2 : Pd.cutD (st9.map D.str) (some c) none = (st9.drop c.toNat).map D.str := by rw [cut_drop c0 (by rw [hln]; omega), List.map_drop]
      rw [hcut]
      refine wb_catV (.inl rfl) (.inl rfl) (by rw [List.length_map, List.length_take, e9, List.length_singleton]; omega) (.inl ?_)
      walk_at "pd"
      rw [hcut2]
      refine wb_catV (.inl rfl) (.inl rfl) (by rw [List.length_append, List.length_map, List.length_map, List.length_take, List.length_drop, e9, List.length_singleton]; omega) (.inl ?_)
      walk_at "pd"
      refine ⟨b, _, _, 2, rfl, rfl, hm11, by unfold ixN; simp, ?_⟩
      have enew : (st9.take c.toNat).map D.str ++ [D.str y] ++ (st9.drop c.toNat).map D.str = (st9.take c.toNat ++ [y] ++ st9.drop c.toNat).map D.str := by simp
      rw [enew]
      walk_at "pd"
      refine ⟨bxd_ne hb11 hbp, st9.take c.toNat ++ [y] ++ st9.drop c.toNat, by rw [mset_same]; rfl, by rw [mset_ne hdb]; exact hd11, by simp; omega, by simp; omega, fun _ hnd => ?_, by walk_at "has"⟩
      have hy2 : y ∈ st9.take c.toNat ∨ y ∈ st9.drop c.toNat := by
        rw [← List.take_append_drop c.toNat st9] at hy
        exact List.mem_append.mp hy
      obtain ⟨h1, _, h3⟩ := List.nodup_append.mp hnd
      obtain ⟨_, _, h4⟩ := List.nodup_append.mp h1
      rcases hy2 with h | h
      · exact h4 y h y (List.mem_singleton.mpr rfl) rfl
      · exact h3 y (List.mem_append.mpr (.inr (List.mem_singleton.mpr rfl))) y h rfl
    · rintro ρ m9 ⟨hb9, st9, hm9, hd9, h90, h98, hdup, hh⟩
      have ht1 : 1 ≤ (1 + t).toNat := by omega
      have ht2 : (1 + t).toNat ≤ 2 := by omega
      have hnd := hdup ht1
      obtain ⟨y, hy⟩ : ∃ y, dupS [] st9 = some y := by
        cases e : dupS [] st9 with
        | none => exact absurd (dupS_none e).1 hnd
        | some y => exact ⟨y, rfl⟩
      refine WSs.env ?_ hh
      clear hh ρ
      refine wss_cons ?_
      walk_at "pd"
      refine we_lst ?_
      walk_at "pd"
      refine ⟨noX, ⟨_, st9, rfl, .inl rfl, by omega, ?_⟩, xok_no B⟩
      rw [hy]
      walk_at "pd"
      refine ⟨_, hd9, by rw [e9]; omega, ?_⟩
      walk_at "pde"
      rcases hP with ⟨h1, h2, h3, h4⟩ | ⟨e, r, h1, h2, h3⟩
      · refine tail _ _ ⟨bxd_ne hb9 hdp, st9, .twice y, [], by rw [mset_ne hdb.symm]; exact hm9, by rw [mset_same, h3]; rfl, ?_, by omega, by walk_at "has"⟩
        rw [leadE_dup h1 (by omega), hy]; rfl
      · exact tail _ _ ⟨bxd_ne hb9 hdp, st9, e, r ++ [.lst [.str "twice", .str y]], by rw [mset_ne hdb.symm]; exact hm9, by rw [mset_same, h3]; rfl, h2 st9, by omega, by walk_at "has"⟩
  rintro ρ m6 ⟨hb6, st', e, r, hm6, hd6, he, hl', hh⟩
  refine WSs.env ?_ hh
  clear hh ρ
  refine wss_fz 4 rfl hm6 ?_
  refine wss_fz 7 rfl (by rw [mdel_ne hdb]; exact hd6) ?_
  walk_at "pd"
  refine we_lst ?_
  walk_at "pd"
  refine wi_list (atI_n (i := 0) rfl) ?_
  walk_at "pd"
  refine hq z' n' st' e _ ?_ he hzl hl'
  obtain ⟨x1, x2, x3, hb6⟩ := hb6
  exact ⟨x1, x2, x3, by rw [mdel_ne hdp.symm, mdel_ne hbp.symm]; exact hb6⟩
abbrev s_law_refused : Stmt := top 38
abbrev n_law_refused : List Str := ["_law_name_here", "_law_launch", "_law_size", "_law_halts_here", "_law_told", "e"]
theorem sc_law_refused : FnScope n_law_refused ["_law_name_here", "_law_launch", "_law_size", "_law_halts_here"] (defScope s_law_refused) := ⟨rfl, rfl, rfl, by decide +kernel, rfl, by decide +kernel, by decide +kernel⟩
def p_law_refused (Z : Ad) : PD := fun ds m Q _ => ∃ z g n st, ds = [.str z, g, .int n, .tup (st.map D.str)] ∧ z.length ≤ sizeLine ∧ st.length ≤ 1000 ∧ leadE z n st ≠ none ∧ ∀ e, leadE z n st = some e → Q (.lst (dueLE e z n ++ [.bl true, .bl true, .bl false, .bl false])) m
theorem ok_law_refused {Z : Ad} {P : Program} {w : World} {K : PySem.W.Frag} {mg : Str → Option Value} {base : Heap} (GD : GDef K mg "_law_refused" s_law_refused ["_law_name_here", "_law_launch", "_law_size", "_law_halts_here"]) (T : Tn mg) (T_Lead : LeadT K mg Z.lead) (c_Lead : KF P w K mg base "Lead" Z.lead "Lead.__init__" s_Lead_init ["self", "name", "grid", "length", "stops"] 6 [("stops", V.ref Z.tnil2)] (p_Lead_init Z)) (tn2 : NilT K Z.tnil2) (R : Ers K mg Z) : GF P w K mg base "_law_refused" 8 (p_law_refused Z) := by
  refine gf_ok GD sc_law_refused (by intro ds m Q Xd h; obtain ⟨_, _, _, _, rfl, _⟩ := h; rfl) fun B f cdv A outer s H E hB hr k ds m Q Xd h hx => ?_
  have hs : Hs P w K mg base B := by unfold Hs; rw [hB]; exact ⟨rfl, rfl, rfl, rfl, rfl⟩
  have hK : B.X.K = K := hs.2.2.1
  have sl0 : Sl B "_law_name_here" 0 := ⟨by rw [hB]; rfl, by rw [hB]; exact Or.inl rfl, by rw [hB]; exact Or.inl rfl⟩
  have sl1 : Sl B "_law_launch" 1 := ⟨by rw [hB]; rfl, by rw [hB]; exact Or.inl rfl, by rw [hB]; exact Or.inl rfl⟩
  have sl2 : Sl B "_law_size" 2 := ⟨by rw [hB]; rfl, by rw [hB]; exact Or.inl rfl, by rw [hB]; exact Or.inl rfl⟩
  have sl3 : Sl B "_law_halts_here" 3 := ⟨by rw [hB]; rfl, by rw [hB]; exact Or.inl rfl, by rw [hB]; exact Or.inl rfl⟩
  have sl4 : Sl B "_law_told" 4 := ⟨by rw [hB]; rfl, by rw [hB]; exact Or.inl rfl, by rw [hB]; exact Or.inl rfl⟩
  have sl5 : Sl B "e" 5 := ⟨by rw [hB]; rfl, by rw [hB]; exact Or.inl rfl, by rw [hB]; exact Or.inl rfl⟩
  have b_isinstance : Bi B "isinstance" "isinstance" := ⟨by rw [hB]; exact rfl, by rw [hB]; exact T.b_isinstance, boot_isinstance'⟩
  have b_ValueError : Bt B "ValueError" "ValueError" := ⟨by rw [hB]; exact rfl, by rw [hB]; exact T.b_ValueError, boot_ValueError'⟩
  have gk1_Lead := Lead_call1 c_Lead tn2 hr (by omega) hs (show Gl B.X "Lead" by rw [hB]; exact rfl)
  have gk2_Lead := Lead_call2 c_Lead tn2 hr (by omega) hs (show Gl B.X "Lead" by rw [hB]; exact rfl)
  have fr : Frm B := ⟨by rw [hB]; rfl, by rw [hB]; rfl⟩
  have gc_BadName : GCls B "BadName" Z.e_BadName := ⟨by rw [hB]; exact rfl, by rw [hB]; exact R.g_BadName⟩
  have gc_BarclipsError : GCls B "BarclipsError" Z.e_BarclipsError := ⟨by rw [hB]; exact rfl, by rw [hB]; exact R.g_BarclipsError⟩
  have gc_BadNumber : GCls B "BadNumber" Z.e_BadNumber := ⟨by rw [hB]; exact rfl, by rw [hB]; exact R.g_BadNumber⟩
  have gc_Twice : GCls B "Twice" Z.e_Twice := ⟨by rw [hB]; exact rfl, by rw [hB]; exact R.g_Twice⟩
  have nm_BadName : Names B.X "BadName" (.ref Z.e_BadName) := ⟨gc_BadName.g, by decide, .inl gc_BadName.m⟩
  have nm_BadNumber : Names B.X "BadNumber" (.ref Z.e_BadNumber) := ⟨gc_BadNumber.g, by decide, .inl gc_BadNumber.m⟩
  have nm_Twice : Names B.X "Twice" (.ref Z.e_Twice) := ⟨gc_Twice.g, by decide, .inl gc_Twice.m⟩
  have lk5 : B.X.env.kindOf "e" = some .local := by rw [hB]; rfl
  have cl_Lead : Cls B.X.K Z.lead := by rw [hK]; exact T_Lead.cl
  have kc_Lead_PATIENCE : GCon B.X.K Z.lead "PATIENCE" (.int 64) := by rw [hK]; exact T_Lead.k_PATIENCE
  have f_Lead_name : FldOk B Z.lead "name" := ⟨cl_Lead, by rw [hK]; exact T_Lead.n_name⟩
  have f_Lead_grid : FldOk B Z.lead "grid" := ⟨cl_Lead, by rw [hK]; exact T_Lead.n_grid⟩
  have f_Lead_length : FldOk B Z.lead "length" := ⟨cl_Lead, by rw [hK]; exact T_Lead.n_length⟩
  have f_Lead_stops : FldOk B Z.lead "stops" := ⟨cl_Lead, by rw [hK]; exact T_Lead.n_stops⟩
  have cls_Lead : GCls B "Lead" Z.lead := ⟨by rw [hB]; exact rfl, by rw [hB]; exact T_Lead.gm⟩
  clear hB
  obtain ⟨z, g, n, st, rfl, hz, hl, hne, h1⟩ := h
  refine wss_cons ?_
  walk_at "pd"
  refine ws_try (hl := [⟨_, 5, _⟩, ⟨_, 5, _⟩, ⟨_, 5, _⟩]) k fr (.cons nm_BadName sl5 lk5 (.cons nm_BadNumber sl5 lk5 (.cons nm_Twice sl5 lk5 .nil))) (xok_no B) fun B2 t2 xr => ?_
  have kB2 := TrOf.bok t2 k
  have hsB2 : Hs P w K mg base B2 := TrOf.hs t2 hs
  have hrB2 := TrOf.room t2 hr
  have hKB2 : B2.X.K = K := (TrOf.K t2).trans hK
  have slB20 := TrOf.sl t2 sl0
  have slB21 := TrOf.sl t2 sl1
  have slB22 := TrOf.sl t2 sl2
  have slB23 := TrOf.sl t2 sl3
  have slB24 := TrOf.sl t2 sl4
  have slB25 := TrOf.sl t2 sl5
  have bB2_isinstance := TrOf.bi t2 b_isinstance
  have bB2_ValueError := TrOf.bt t2 b_ValueError
  have gk1B2_Lead := Lead_call1 c_Lead tn2 hrB2 (by omega) hsB2 (TrOf.gl t2 gk1_Lead.g)
  have gk2B2_Lead := Lead_call2 c_Lead tn2 hrB2 (by omega) hsB2 (TrOf.gl t2 gk1_Lead.g)
  have clsB2_Lead : GCls B2 "Lead" Z.lead := TrOf.cls t2 cls_Lead
  have clB2_Lead : Cls B2.X.K Z.lead := by rw [hKB2]; exact T_Lead.cl
  have fB2_Lead_name : FldOk B2 Z.lead "name" := ⟨clB2_Lead, by rw [hKB2]; exact T_Lead.n_name⟩
  have fB2_Lead_grid : FldOk B2 Z.lead "grid" := ⟨clB2_Lead, by rw [hKB2]; exact T_Lead.n_grid⟩
  have fB2_Lead_length : FldOk B2 Z.lead "length" := ⟨clB2_Lead, by rw [hKB2]; exact T_Lead.n_length⟩
  have fB2_Lead_stops : FldOk B2 Z.lead "stops" := ⟨clB2_Lead, by rw [hKB2]; exact T_Lead.n_stops⟩
  refine wss_cons ?_
  refine ws_expr ?_ rfl
  refine we_gckR gk2B2_Lead ?_ (by decide) rfl rfl rfl rfl
  walk_at "pd"
  refine ⟨_, ⟨z, g, n, _, st, rfl, rfl, hz, hl, .inr rfl, fun h => ?_, fun h => ⟨true, (by rw [hK]; exact R.x_BadName_BadName), fun B3 a su => ?g1⟩, fun h => ⟨false, (by rw [hK]; exact R.x_BadNumber_BadName), true, (by rw [hK]; exact R.x_BadNumber_BadNumber), fun B3 a su => ?g2⟩, fun y h => ⟨false, (by rw [hK]; exact R.x_Twice_BadName), false, (by rw [hK]; exact R.x_Twice_BadNumber), true, (by rw [hK]; exact R.x_Twice_Twice), fun B3 a su => ?g3⟩⟩, xr _⟩
  · exact absurd h hne
  case g1 =>
    have hq := h1 _ h
    have ndB3 := SuOf.nd su k
    have hKB3 : B3.X.K = K := (SuOf.K su).trans hK
    have slB30 := SuOf.sl su sl0
    have slB31 := SuOf.sl su sl1
    have slB32 := SuOf.sl su sl2
    have slB33 := SuOf.sl su sl3
    have slB34 := SuOf.sl su sl4
    have slB35 := SuOf.sl su sl5
    have bB3_isinstance := SuOf.bi su b_isinstance
    have bB3_ValueError := SuOf.bt su b_ValueError
    have gcB3_BadName := SuOf.cls su gc_BadName
    have gcB3_BadNumber := SuOf.cls su gc_BadNumber
    have gcB3_Twice := SuOf.cls su gc_Twice
    have gcB3_BarclipsError := SuOf.cls su gc_BarclipsError
    have gcB3_BadNumber := SuOf.cls su gc_BadNumber
    have gcB3_Twice := SuOf.cls su gc_Twice
    have gcB3_BadName := SuOf.cls su gc_BadName
    have xcB3 : ExcC B3.X.K Z.e_BadName := by rw [hKB3]; exact R.k_BadName.xc
    have xfB3 : XfC B3.X.K Z.e_BadName := by rw [hKB3]; exact R.k_BadName.xf
    have nfB3_name : PySem.W.findIn B3.X.K (.ref Z.e_BadName) "name" = some none := by rw [hKB3]; exact R.k_BadName.nf _ (by simp)
    have kiB3_BarclipsError : PySem.W.kitOne B3.X.K (.ref Z.e_BadName) (.ref Z.e_BarclipsError) = some true := by rw [hKB3]; exact R.i_BadName_BarclipsError
    have kiB3_BadNumber : PySem.W.kitOne B3.X.K (.ref Z.e_BadName) (.ref Z.e_BadNumber) = some false := by rw [hKB3]; exact R.i_BadName_BadNumber
    have kiB3_Twice : PySem.W.kitOne B3.X.K (.ref Z.e_BadName) (.ref Z.e_Twice) = some false := by rw [hKB3]; exact R.i_BadName_Twice
    have kiB3_BadName : PySem.W.kitOne B3.X.K (.ref Z.e_BadName) (.ref Z.e_BadName) = some true := by rw [hKB3]; exact R.i_BadName_BadName
    have kvB3 : PySem.W.kitOne B3.X.K (.ref Z.e_BadName) (.type "ValueError") = some true := by rw [hKB3]; exact R.v_BadName
    walk_at "pd"
    refine we_lst ?_
    walk_at "pd"
    refine we_lst ?_
    walk_at "pd"
    exact hq
  case g2 =>
    have hq := h1 _ h
    have ndB3 := SuOf.nd su k
    have hKB3 : B3.X.K = K := (SuOf.K su).trans hK
    have slB30 := SuOf.sl su sl0
    have slB31 := SuOf.sl su sl1
    have slB32 := SuOf.sl su sl2
    have slB33 := SuOf.sl su sl3
    have slB34 := SuOf.sl su sl4
    have slB35 := SuOf.sl su sl5
    have bB3_isinstance := SuOf.bi su b_isinstance
    have bB3_ValueError := SuOf.bt su b_ValueError
    have gcB3_BadName := SuOf.cls su gc_BadName
    have gcB3_BadNumber := SuOf.cls su gc_BadNumber
    have gcB3_Twice := SuOf.cls su gc_Twice
    have gcB3_BarclipsError := SuOf.cls su gc_BarclipsError
    have gcB3_BadNumber := SuOf.cls su gc_BadNumber
    have gcB3_Twice := SuOf.cls su gc_Twice
    have gcB3_BadName := SuOf.cls su gc_BadName
    have xcB3 : ExcC B3.X.K Z.e_BadNumber := by rw [hKB3]; exact R.k_BadNumber.xc
    have xfB3 : XfC B3.X.K Z.e_BadNumber := by rw [hKB3]; exact R.k_BadNumber.xf
    have nfB3_value : PySem.W.findIn B3.X.K (.ref Z.e_BadNumber) "value" = some none := by rw [hKB3]; exact R.k_BadNumber.nf _ (by simp)
    have kiB3_BarclipsError : PySem.W.kitOne B3.X.K (.ref Z.e_BadNumber) (.ref Z.e_BarclipsError) = some true := by rw [hKB3]; exact R.i_BadNumber_BarclipsError
    have kiB3_BadNumber : PySem.W.kitOne B3.X.K (.ref Z.e_BadNumber) (.ref Z.e_BadNumber) = some true := by rw [hKB3]; exact R.i_BadNumber_BadNumber
    have kiB3_Twice : PySem.W.kitOne B3.X.K (.ref Z.e_BadNumber) (.ref Z.e_Twice) = some false := by rw [hKB3]; exact R.i_BadNumber_Twice
    have kiB3_BadName : PySem.W.kitOne B3.X.K (.ref Z.e_BadNumber) (.ref Z.e_BadName) = some false := by rw [hKB3]; exact R.i_BadNumber_BadName
    have kvB3 : PySem.W.kitOne B3.X.K (.ref Z.e_BadNumber) (.type "ValueError") = some true := by rw [hKB3]; exact R.v_BadNumber
    walk_at "pd"
    refine we_lst ?_
    walk_at "pd"
    refine we_lst ?_
    walk_at "pd"
    exact hq
  case g3 =>
    have hq := h1 _ h
    have ndB3 := SuOf.nd su k
    have hKB3 : B3.X.K = K := (SuOf.K su).trans hK
    have slB30 := SuOf.sl su sl0
    have slB31 := SuOf.sl su sl1
    have slB32 := SuOf.sl su sl2
    have slB33 := SuOf.sl su sl3
    have slB34 := SuOf.sl su sl4
    have slB35 := SuOf.sl su sl5
    have bB3_isinstance := SuOf.bi su b_isinstance
    have bB3_ValueError := SuOf.bt su b_ValueError
    have gcB3_BadName := SuOf.cls su gc_BadName
    have gcB3_BadNumber := SuOf.cls su gc_BadNumber
    have gcB3_Twice := SuOf.cls su gc_Twice
    have gcB3_BarclipsError := SuOf.cls su gc_BarclipsError
    have gcB3_BadNumber := SuOf.cls su gc_BadNumber
    have gcB3_Twice := SuOf.cls su gc_Twice
    have gcB3_BadName := SuOf.cls su gc_BadName
    have xcB3 : ExcC B3.X.K Z.e_Twice := by rw [hKB3]; exact R.k_Twice.xc
    have xfB3 : XfC B3.X.K Z.e_Twice := by rw [hKB3]; exact R.k_Twice.xf
    have nfB3_name : PySem.W.findIn B3.X.K (.ref Z.e_Twice) "name" = some none := by rw [hKB3]; exact R.k_Twice.nf _ (by simp)
    have kiB3_BarclipsError : PySem.W.kitOne B3.X.K (.ref Z.e_Twice) (.ref Z.e_BarclipsError) = some true := by rw [hKB3]; exact R.i_Twice_BarclipsError
    have kiB3_BadNumber : PySem.W.kitOne B3.X.K (.ref Z.e_Twice) (.ref Z.e_BadNumber) = some false := by rw [hKB3]; exact R.i_Twice_BadNumber
    have kiB3_Twice : PySem.W.kitOne B3.X.K (.ref Z.e_Twice) (.ref Z.e_Twice) = some true := by rw [hKB3]; exact R.i_Twice_Twice
    have kiB3_BadName : PySem.W.kitOne B3.X.K (.ref Z.e_Twice) (.ref Z.e_BadName) = some false := by rw [hKB3]; exact R.i_Twice_BadName
    have kvB3 : PySem.W.kitOne B3.X.K (.ref Z.e_Twice) (.type "ValueError") = some true := by rw [hKB3]; exact R.v_Twice
    walk_at "pd"
    refine we_lst ?_
    walk_at "pd"
    refine we_lst ?_
    walk_at "pd"
    exact hq
abbrev s_law_tried : Stmt := top 39
abbrev n_law_tried : List Str := ["_law_name_here", "_law_launch", "_law_kind", "_law_told", "_law_made", "e"]
theorem sc_law_tried : FnScope n_law_tried ["_law_name_here", "_law_launch", "_law_kind"] (defScope s_law_tried) := ⟨rfl, rfl, rfl, by decide +kernel, rfl, by decide +kernel, by decide +kernel⟩
def p_law_tried (Z : Ad) : PD := fun ds m Q _ => ∃ (y : Str) (s o : Int) (kd : Int), ds = [.str y, gridD Z s o, .int kd] ∧ y.length ≤ 100 ∧ 0 ≤ kd ∧ kd < 3 ∧ (okS y → Q (.lst [.str "good", .str y, .bl true, .bl true, .int s, .int o]) m) ∧ (¬ okS y → Q (.lst [.str "bad", .str y, .bl true, .bl true, .bl false]) m)
theorem snd_nameT {z : Str} {g : D} : (soundL z g).lookup ("name" : Str) = some (.str z) := by simp [List.lookup]
theorem snd_gridT {z : Str} {g : D} : (soundL z g).lookup ("grid" : Str) = some g := by
  have e1 : (("grid" : Str) == "name") = false := by decide +kernel
  simp [List.lookup, e1]
theorem ok_law_tried {Z : Ad} {P : Program} {w : World} {K : PySem.W.Frag} {mg : Str → Option Value} {base : Heap} (GD : GDef K mg "_law_tried" s_law_tried ["_law_name_here", "_law_launch", "_law_kind"]) (T : Tn mg) (T_Sound : SoundT K mg Z.sound) (T_Clip : ClipT K mg Z.clip) (T_Lead : LeadT K mg Z.lead) (T_Grid : GridT K mg Z.grid) (c_Sound : CF P w K mg base "Sound" Z.sound "Sound.__init__" s_Sound_init ["self", "name", "grid"] 4 [] [] (p_Sound_init Z)) (c_Clip : KF P w K mg base "Clip" Z.clip "Clip.__init__" s_Clip_init ["self", "name", "grid", "length", "rounds", "guards"] 6 [("rounds", V.int 1), ("guards", V.ref Z.tnil)] (p_Clip_init Z)) (c_Lead : KF P w K mg base "Lead" Z.lead "Lead.__init__" s_Lead_init ["self", "name", "grid", "length", "stops"] 6 [("stops", V.ref Z.tnil2)] (p_Lead_init Z)) (c_Grid : CF P w K mg base "Grid" Z.grid "Grid.__init__" s_Grid_init ["self", "step", "offset"] 3 [V.int 0] [] (p_Grid_init Z)) (tn : NilT K Z.tnil) (tn2 : NilT K Z.tnil2) (KT : Kit K Z) (R : Ers K mg Z) : GF P w K mg base "_law_tried" 8 (p_law_tried Z) := by
  refine gf_ok GD sc_law_tried (by intro ds m Q Xd h; obtain ⟨_, _, _, _, rfl, _⟩ := h; rfl) fun B f cdv A outer s H E hB hr k ds m Q Xd h hx => ?_
  have hs : Hs P w K mg base B := by unfold Hs; rw [hB]; exact ⟨rfl, rfl, rfl, rfl, rfl⟩
  have hK : B.X.K = K := hs.2.2.1
  have sl0 : Sl B "_law_name_here" 0 := ⟨by rw [hB]; rfl, by rw [hB]; exact Or.inl rfl, by rw [hB]; exact Or.inl rfl⟩
  have sl1 : Sl B "_law_launch" 1 := ⟨by rw [hB]; rfl, by rw [hB]; exact Or.inl rfl, by rw [hB]; exact Or.inl rfl⟩
  have sl2 : Sl B "_law_kind" 2 := ⟨by rw [hB]; rfl, by rw [hB]; exact Or.inl rfl, by rw [hB]; exact Or.inl rfl⟩
  have sl3 : Sl B "_law_told" 3 := ⟨by rw [hB]; rfl, by rw [hB]; exact Or.inl rfl, by rw [hB]; exact Or.inl rfl⟩
  have sl4 : Sl B "_law_made" 4 := ⟨by rw [hB]; rfl, by rw [hB]; exact Or.inl rfl, by rw [hB]; exact Or.inl rfl⟩
  have sl5 : Sl B "e" 5 := ⟨by rw [hB]; rfl, by rw [hB]; exact Or.inl rfl, by rw [hB]; exact Or.inl rfl⟩
  have b_isinstance : Bi B "isinstance" "isinstance" := ⟨by rw [hB]; exact rfl, by rw [hB]; exact T.b_isinstance, boot_isinstance'⟩
  have b_ValueError : Bt B "ValueError" "ValueError" := ⟨by rw [hB]; exact rfl, by rw [hB]; exact T.b_ValueError, boot_ValueError'⟩
  have g_Sound := Sound_call c_Sound hr (by omega) hs (show Gl B.X "Sound" by rw [hB]; exact rfl)
  have gk1_Clip := Clip_call1 c_Clip tn hr (by omega) hs (show Gl B.X "Clip" by rw [hB]; exact rfl)
  have gk2_Clip := Clip_call2 c_Clip tn hr (by omega) hs (show Gl B.X "Clip" by rw [hB]; exact rfl)
  have gk3_Clip := Clip_call3 c_Clip tn hr (by omega) hs (show Gl B.X "Clip" by rw [hB]; exact rfl)
  have gk4_Clip := Clip_call4 c_Clip tn hr (by omega) hs (show Gl B.X "Clip" by rw [hB]; exact rfl)
  have gk1_Lead := Lead_call1 c_Lead tn2 hr (by omega) hs (show Gl B.X "Lead" by rw [hB]; exact rfl)
  have gk2_Lead := Lead_call2 c_Lead tn2 hr (by omega) hs (show Gl B.X "Lead" by rw [hB]; exact rfl)
  have g_Grid := Grid_call c_Grid hr (by omega) hs (show Gl B.X "Grid" by rw [hB]; exact rfl)
  have gk_Grid := Grid_callk c_Grid hr (by omega) hs (show Gl B.X "Grid" by rw [hB]; exact rfl)
  have fr : Frm B := ⟨by rw [hB]; rfl, by rw [hB]; rfl⟩
  have gc_BadName : GCls B "BadName" Z.e_BadName := ⟨by rw [hB]; exact rfl, by rw [hB]; exact R.g_BadName⟩
  have gc_BarclipsError : GCls B "BarclipsError" Z.e_BarclipsError := ⟨by rw [hB]; exact rfl, by rw [hB]; exact R.g_BarclipsError⟩
  have gc_BadNumber : GCls B "BadNumber" Z.e_BadNumber := ⟨by rw [hB]; exact rfl, by rw [hB]; exact R.g_BadNumber⟩
  have nm_BadName : Names B.X "BadName" (.ref Z.e_BadName) := ⟨gc_BadName.g, by decide, .inl gc_BadName.m⟩
  have lk5 : B.X.env.kindOf "e" = some .local := by rw [hB]; rfl
  have cl_Sound : Cls B.X.K Z.sound := by rw [hK]; exact T_Sound.cl
  have f_Sound_name : FldOk B Z.sound "name" := ⟨cl_Sound, by rw [hK]; exact T_Sound.n_name⟩
  have f_Sound_grid : FldOk B Z.sound "grid" := ⟨cl_Sound, by rw [hK]; exact T_Sound.n_grid⟩
  have cl_Clip : Cls B.X.K Z.clip := by rw [hK]; exact T_Clip.cl
  have kc_Clip_ROUNDS : GCon B.X.K Z.clip "ROUNDS" (.int 4) := by rw [hK]; exact T_Clip.k_ROUNDS
  have f_Clip_name : FldOk B Z.clip "name" := ⟨cl_Clip, by rw [hK]; exact T_Clip.n_name⟩
  have f_Clip_grid : FldOk B Z.clip "grid" := ⟨cl_Clip, by rw [hK]; exact T_Clip.n_grid⟩
  have f_Clip_length : FldOk B Z.clip "length" := ⟨cl_Clip, by rw [hK]; exact T_Clip.n_length⟩
  have f_Clip_rounds : FldOk B Z.clip "rounds" := ⟨cl_Clip, by rw [hK]; exact T_Clip.n_rounds⟩
  have f_Clip_guards : FldOk B Z.clip "guards" := ⟨cl_Clip, by rw [hK]; exact T_Clip.n_guards⟩
  have cl_Lead : Cls B.X.K Z.lead := by rw [hK]; exact T_Lead.cl
  have kc_Lead_PATIENCE : GCon B.X.K Z.lead "PATIENCE" (.int 64) := by rw [hK]; exact T_Lead.k_PATIENCE
  have f_Lead_name : FldOk B Z.lead "name" := ⟨cl_Lead, by rw [hK]; exact T_Lead.n_name⟩
  have f_Lead_grid : FldOk B Z.lead "grid" := ⟨cl_Lead, by rw [hK]; exact T_Lead.n_grid⟩
  have f_Lead_length : FldOk B Z.lead "length" := ⟨cl_Lead, by rw [hK]; exact T_Lead.n_length⟩
  have f_Lead_stops : FldOk B Z.lead "stops" := ⟨cl_Lead, by rw [hK]; exact T_Lead.n_stops⟩
  have cl_Grid : Cls B.X.K Z.grid := by rw [hK]; exact T_Grid.cl
  have f_Grid_step : FldOk B Z.grid "step" := ⟨cl_Grid, by rw [hK]; exact T_Grid.n_step⟩
  have f_Grid_offset : FldOk B Z.grid "offset" := ⟨cl_Grid, by rw [hK]; exact T_Grid.n_offset⟩
  have cls_Sound : GCls B "Sound" Z.sound := ⟨by rw [hB]; exact rfl, by rw [hB]; exact T_Sound.gm⟩
  have cls_Clip : GCls B "Clip" Z.clip := ⟨by rw [hB]; exact rfl, by rw [hB]; exact T_Clip.gm⟩
  have cls_Lead : GCls B "Lead" Z.lead := ⟨by rw [hB]; exact rfl, by rw [hB]; exact T_Lead.gm⟩
  have cls_Grid : GCls B "Grid" Z.grid := ⟨by rw [hB]; exact rfl, by rw [hB]; exact T_Grid.gm⟩
  have kt_Sound_Clip : PySem.W.kitOne B.X.K (.ref Z.sound) (.ref Z.clip) = some false := by rw [hK]; exact KT.k_Sound_Clip
  have kt_Sound_Lead : PySem.W.kitOne B.X.K (.ref Z.sound) (.ref Z.lead) = some false := by rw [hK]; exact KT.k_Sound_Lead
  have kt_Sound_Grid : PySem.W.kitOne B.X.K (.ref Z.sound) (.ref Z.grid) = some false := by rw [hK]; exact KT.k_Sound_Grid
  have kt_Clip_Sound : PySem.W.kitOne B.X.K (.ref Z.clip) (.ref Z.sound) = some true := by rw [hK]; exact KT.k_Clip_Sound
  have kt_Clip_Lead : PySem.W.kitOne B.X.K (.ref Z.clip) (.ref Z.lead) = some false := by rw [hK]; exact KT.k_Clip_Lead
  have kt_Clip_Grid : PySem.W.kitOne B.X.K (.ref Z.clip) (.ref Z.grid) = some false := by rw [hK]; exact KT.k_Clip_Grid
  have kt_Lead_Sound : PySem.W.kitOne B.X.K (.ref Z.lead) (.ref Z.sound) = some true := by rw [hK]; exact KT.k_Lead_Sound
  have kt_Lead_Clip : PySem.W.kitOne B.X.K (.ref Z.lead) (.ref Z.clip) = some false := by rw [hK]; exact KT.k_Lead_Clip
  have kt_Lead_Grid : PySem.W.kitOne B.X.K (.ref Z.lead) (.ref Z.grid) = some false := by rw [hK]; exact KT.k_Lead_Grid
  have kt_Grid_Sound : PySem.W.kitOne B.X.K (.ref Z.grid) (.ref Z.sound) = some false := by rw [hK]; exact KT.k_Grid_Sound
  have kt_Grid_Clip : PySem.W.kitOne B.X.K (.ref Z.grid) (.ref Z.clip) = some false := by rw [hK]; exact KT.k_Grid_Clip
  have kt_Grid_Lead : PySem.W.kitOne B.X.K (.ref Z.grid) (.ref Z.lead) = some false := by rw [hK]; exact KT.k_Grid_Lead
  have oc_Sound : OwnC B.X.K Z.sound := by rw [hK]; exact T_Sound.oc
  have op_Sound : OpC B.X.K Z.sound := by rw [hK]; exact T_Sound.op
  have me_Sound : PySem.W.kitOne B.X.K (.ref Z.sound) (.ref Z.sound) = some true := by rw [hK]; exact T_Sound.me
  have no_Sound : ∀ k : DK, PySem.W.kitOne B.X.K (.type k.ty) (.ref Z.sound) = some false := by rw [hK]; exact T_Sound.no
  have ns_Sound : ∀ k : DK, PySem.W.subIn B.X.K (.type k.ty) (.ref Z.sound) = some false := by rw [hK]; exact T_Sound.ns
  have ne_Sound : NeC B.X.K Z.sound := by rw [hK]; exact T_Sound.ne
  have oc_Clip : OwnC B.X.K Z.clip := by rw [hK]; exact T_Clip.oc
  have op_Clip : OpC B.X.K Z.clip := by rw [hK]; exact T_Clip.op
  have me_Clip : PySem.W.kitOne B.X.K (.ref Z.clip) (.ref Z.clip) = some true := by rw [hK]; exact T_Clip.me
  have no_Clip : ∀ k : DK, PySem.W.kitOne B.X.K (.type k.ty) (.ref Z.clip) = some false := by rw [hK]; exact T_Clip.no
  have ns_Clip : ∀ k : DK, PySem.W.subIn B.X.K (.type k.ty) (.ref Z.clip) = some false := by rw [hK]; exact T_Clip.ns
  have ne_Clip : NeC B.X.K Z.clip := by rw [hK]; exact T_Clip.ne
  have oc_Lead : OwnC B.X.K Z.lead := by rw [hK]; exact T_Lead.oc
  have op_Lead : OpC B.X.K Z.lead := by rw [hK]; exact T_Lead.op
  have me_Lead : PySem.W.kitOne B.X.K (.ref Z.lead) (.ref Z.lead) = some true := by rw [hK]; exact T_Lead.me
  have no_Lead : ∀ k : DK, PySem.W.kitOne B.X.K (.type k.ty) (.ref Z.lead) = some false := by rw [hK]; exact T_Lead.no
  have ns_Lead : ∀ k : DK, PySem.W.subIn B.X.K (.type k.ty) (.ref Z.lead) = some false := by rw [hK]; exact T_Lead.ns
  have ne_Lead : NeC B.X.K Z.lead := by rw [hK]; exact T_Lead.ne
  have oc_Grid : OwnC B.X.K Z.grid := by rw [hK]; exact T_Grid.oc
  have op_Grid : OpC B.X.K Z.grid := by rw [hK]; exact T_Grid.op
  have me_Grid : PySem.W.kitOne B.X.K (.ref Z.grid) (.ref Z.grid) = some true := by rw [hK]; exact T_Grid.me
  have no_Grid : ∀ k : DK, PySem.W.kitOne B.X.K (.type k.ty) (.ref Z.grid) = some false := by rw [hK]; exact T_Grid.no
  have ns_Grid : ∀ k : DK, PySem.W.subIn B.X.K (.type k.ty) (.ref Z.grid) = some false := by rw [hK]; exact T_Grid.ns
  have ne_Grid : NeC B.X.K Z.grid := by rw [hK]; exact T_Grid.ne
  have o_Grid_addD : PySem.W.findIn B.X.K (.ref Z.grid) "__add__" = some none ∨ ∃ g : Addr, PySem.W.findIn B.X.K (.ref Z.grid) "__add__" = some (some (.ref g)) := by rw [hK]; exact .inr T_Grid.haddD
  have o_Grid_raddD : PySem.W.findIn B.X.K (.ref Z.grid) "__radd__" = some none ∨ ∃ g : Addr, PySem.W.findIn B.X.K (.ref Z.grid) "__radd__" = some (some (.ref g)) := by rw [hK]; exact .inr T_Grid.hraddD
  have o_Grid_mulD : PySem.W.findIn B.X.K (.ref Z.grid) "__mul__" = some none ∨ ∃ g : Addr, PySem.W.findIn B.X.K (.ref Z.grid) "__mul__" = some (some (.ref g)) := by rw [hK]; exact .inr T_Grid.hmulD
  have o_Grid_rmulD : PySem.W.findIn B.X.K (.ref Z.grid) "__rmul__" = some none ∨ ∃ g : Addr, PySem.W.findIn B.X.K (.ref Z.grid) "__rmul__" = some (some (.ref g)) := by rw [hK]; exact .inr T_Grid.hrmulD
  have o_Grid_floordivD : PySem.W.findIn B.X.K (.ref Z.grid) "__floordiv__" = some none ∨ ∃ g : Addr, PySem.W.findIn B.X.K (.ref Z.grid) "__floordiv__" = some (some (.ref g)) := by rw [hK]; exact .inr T_Grid.hfloordivD
  have o_Grid_rfloordivD : PySem.W.findIn B.X.K (.ref Z.grid) "__rfloordiv__" = some none ∨ ∃ g : Addr, PySem.W.findIn B.X.K (.ref Z.grid) "__rfloordiv__" = some (some (.ref g)) := by rw [hK]; exact .inr T_Grid.hrfloordivD
  have o_Grid_rmodD : PySem.W.findIn B.X.K (.ref Z.grid) "__rmod__" = some none ∨ ∃ g : Addr, PySem.W.findIn B.X.K (.ref Z.grid) "__rmod__" = some (some (.ref g)) := by rw [hK]; exact .inr T_Grid.hrmodD
  have o_Grid_modD : PySem.W.findIn B.X.K (.ref Z.grid) "__mod__" = some none ∨ ∃ g : Addr, PySem.W.findIn B.X.K (.ref Z.grid) "__mod__" = some (some (.ref g)) := by rw [hK]; exact .inl T_Grid.xmodD
  have o_Grid_rsubD : PySem.W.findIn B.X.K (.ref Z.grid) "__rsub__" = some none ∨ ∃ g : Addr, PySem.W.findIn B.X.K (.ref Z.grid) "__rsub__" = some (some (.ref g)) := by rw [hK]; exact .inl T_Grid.xrsubD
  clear hB
  obtain ⟨y, s, o, kd, rfl, hy, k0, k1, h1, h2⟩ := h
  have e9 : sizeLine = 16777216 := sizeLine_eq
  have fn : ∀ C, SndC Z C → FldOk B C "name" ∧ FldOk B C "grid" := by
    intro C hC
    rcases hC with rfl | rfl | rfl
    · exact ⟨f_Sound_name, f_Sound_grid⟩
    · exact ⟨f_Clip_name, f_Clip_grid⟩
    · exact ⟨f_Lead_name, f_Lead_grid⟩
  refine wss_cons ?_
  walk_at "pd"
  refine ws_try (hl := [⟨_, 5, _⟩]) k fr (.cons nm_BadName sl5 lk5 .nil) (xok_no B) fun B2 t2 xr => ?_
  have kB2 := TrOf.bok t2 k
  have hsB2 : Hs P w K mg base B2 := TrOf.hs t2 hs
  have hrB2 := TrOf.room t2 hr
  have hKB2 : B2.X.K = K := (TrOf.K t2).trans hK
  have slB20 := TrOf.sl t2 sl0
  have slB21 := TrOf.sl t2 sl1
  have slB22 := TrOf.sl t2 sl2
  have slB23 := TrOf.sl t2 sl3
  have slB24 := TrOf.sl t2 sl4
  have slB25 := TrOf.sl t2 sl5
  have bB2_isinstance := TrOf.bi t2 b_isinstance
  have bB2_ValueError := TrOf.bt t2 b_ValueError
  have gB2_Sound := Sound_call c_Sound hrB2 (by omega) hsB2 (TrOf.gl t2 g_Sound.g)
  have gk1B2_Clip := Clip_call1 c_Clip tn hrB2 (by omega) hsB2 (TrOf.gl t2 gk1_Clip.g)
  have gk2B2_Clip := Clip_call2 c_Clip tn hrB2 (by omega) hsB2 (TrOf.gl t2 gk1_Clip.g)
  have gk3B2_Clip := Clip_call3 c_Clip tn hrB2 (by omega) hsB2 (TrOf.gl t2 gk1_Clip.g)
  have gk4B2_Clip := Clip_call4 c_Clip tn hrB2 (by omega) hsB2 (TrOf.gl t2 gk1_Clip.g)
  have gk1B2_Lead := Lead_call1 c_Lead tn2 hrB2 (by omega) hsB2 (TrOf.gl t2 gk1_Lead.g)
  have gk2B2_Lead := Lead_call2 c_Lead tn2 hrB2 (by omega) hsB2 (TrOf.gl t2 gk1_Lead.g)
  have gB2_Grid := Grid_call c_Grid hrB2 (by omega) hsB2 (TrOf.gl t2 g_Grid.g)
  have gkB2_Grid := Grid_callk c_Grid hrB2 (by omega) hsB2 (TrOf.gl t2 g_Grid.g)
  have clsB2_Sound : GCls B2 "Sound" Z.sound := TrOf.cls t2 cls_Sound
  have clsB2_Clip : GCls B2 "Clip" Z.clip := TrOf.cls t2 cls_Clip
  have clsB2_Lead : GCls B2 "Lead" Z.lead := TrOf.cls t2 cls_Lead
  have clsB2_Grid : GCls B2 "Grid" Z.grid := TrOf.cls t2 cls_Grid
  have clB2_Sound : Cls B2.X.K Z.sound := by rw [hKB2]; exact T_Sound.cl
  have fB2_Sound_name : FldOk B2 Z.sound "name" := ⟨clB2_Sound, by rw [hKB2]; exact T_Sound.n_name⟩
  have fB2_Sound_grid : FldOk B2 Z.sound "grid" := ⟨clB2_Sound, by rw [hKB2]; exact T_Sound.n_grid⟩
  have clB2_Clip : Cls B2.X.K Z.clip := by rw [hKB2]; exact T_Clip.cl
  have fB2_Clip_name : FldOk B2 Z.clip "name" := ⟨clB2_Clip, by rw [hKB2]; exact T_Clip.n_name⟩
  have fB2_Clip_grid : FldOk B2 Z.clip "grid" := ⟨clB2_Clip, by rw [hKB2]; exact T_Clip.n_grid⟩
  have fB2_Clip_length : FldOk B2 Z.clip "length" := ⟨clB2_Clip, by rw [hKB2]; exact T_Clip.n_length⟩
  have fB2_Clip_rounds : FldOk B2 Z.clip "rounds" := ⟨clB2_Clip, by rw [hKB2]; exact T_Clip.n_rounds⟩
  have fB2_Clip_guards : FldOk B2 Z.clip "guards" := ⟨clB2_Clip, by rw [hKB2]; exact T_Clip.n_guards⟩
  have clB2_Lead : Cls B2.X.K Z.lead := by rw [hKB2]; exact T_Lead.cl
  have fB2_Lead_name : FldOk B2 Z.lead "name" := ⟨clB2_Lead, by rw [hKB2]; exact T_Lead.n_name⟩
  have fB2_Lead_grid : FldOk B2 Z.lead "grid" := ⟨clB2_Lead, by rw [hKB2]; exact T_Lead.n_grid⟩
  have fB2_Lead_length : FldOk B2 Z.lead "length" := ⟨clB2_Lead, by rw [hKB2]; exact T_Lead.n_length⟩
  have fB2_Lead_stops : FldOk B2 Z.lead "stops" := ⟨clB2_Lead, by rw [hKB2]; exact T_Lead.n_stops⟩
  have clB2_Grid : Cls B2.X.K Z.grid := by rw [hKB2]; exact T_Grid.cl
  have fB2_Grid_step : FldOk B2 Z.grid "step" := ⟨clB2_Grid, by rw [hKB2]; exact T_Grid.n_step⟩
  have fB2_Grid_offset : FldOk B2 Z.grid "offset" := ⟨clB2_Grid, by rw [hKB2]; exact T_Grid.n_offset⟩
  have opB2_Sound : OpC B2.X.K Z.sound := by rw [hKB2]; exact T_Sound.op
  have ocB2_Sound : OwnC B2.X.K Z.sound := by rw [hKB2]; exact T_Sound.oc
  have opB2_Clip : OpC B2.X.K Z.clip := by rw [hKB2]; exact T_Clip.op
  have ocB2_Clip : OwnC B2.X.K Z.clip := by rw [hKB2]; exact T_Clip.oc
  have opB2_Lead : OpC B2.X.K Z.lead := by rw [hKB2]; exact T_Lead.op
  have ocB2_Lead : OwnC B2.X.K Z.lead := by rw [hKB2]; exact T_Lead.oc
  have opB2_Grid : OpC B2.X.K Z.grid := by rw [hKB2]; exact T_Grid.op
  have ocB2_Grid : OwnC B2.X.K Z.grid := by rw [hKB2]; exact T_Grid.oc
  have oB2_Grid_addD : PySem.W.findIn B2.X.K (.ref Z.grid) "__add__" = some none ∨ ∃ g : Addr, PySem.W.findIn B2.X.K (.ref Z.grid) "__add__" = some (some (.ref g)) := by rw [hKB2]; exact .inr T_Grid.haddD
  have oB2_Grid_raddD : PySem.W.findIn B2.X.K (.ref Z.grid) "__radd__" = some none ∨ ∃ g : Addr, PySem.W.findIn B2.X.K (.ref Z.grid) "__radd__" = some (some (.ref g)) := by rw [hKB2]; exact .inr T_Grid.hraddD
  have oB2_Grid_mulD : PySem.W.findIn B2.X.K (.ref Z.grid) "__mul__" = some none ∨ ∃ g : Addr, PySem.W.findIn B2.X.K (.ref Z.grid) "__mul__" = some (some (.ref g)) := by rw [hKB2]; exact .inr T_Grid.hmulD
  have oB2_Grid_rmulD : PySem.W.findIn B2.X.K (.ref Z.grid) "__rmul__" = some none ∨ ∃ g : Addr, PySem.W.findIn B2.X.K (.ref Z.grid) "__rmul__" = some (some (.ref g)) := by rw [hKB2]; exact .inr T_Grid.hrmulD
  have oB2_Grid_floordivD : PySem.W.findIn B2.X.K (.ref Z.grid) "__floordiv__" = some none ∨ ∃ g : Addr, PySem.W.findIn B2.X.K (.ref Z.grid) "__floordiv__" = some (some (.ref g)) := by rw [hKB2]; exact .inr T_Grid.hfloordivD
  have oB2_Grid_rfloordivD : PySem.W.findIn B2.X.K (.ref Z.grid) "__rfloordiv__" = some none ∨ ∃ g : Addr, PySem.W.findIn B2.X.K (.ref Z.grid) "__rfloordiv__" = some (some (.ref g)) := by rw [hKB2]; exact .inr T_Grid.hrfloordivD
  have oB2_Grid_rmodD : PySem.W.findIn B2.X.K (.ref Z.grid) "__rmod__" = some none ∨ ∃ g : Addr, PySem.W.findIn B2.X.K (.ref Z.grid) "__rmod__" = some (some (.ref g)) := by rw [hKB2]; exact .inr T_Grid.hrmodD
  have oB2_Grid_modD : PySem.W.findIn B2.X.K (.ref Z.grid) "__mod__" = some none ∨ ∃ g : Addr, PySem.W.findIn B2.X.K (.ref Z.grid) "__mod__" = some (some (.ref g)) := by rw [hKB2]; exact .inl T_Grid.xmodD
  have oB2_Grid_rsubD : PySem.W.findIn B2.X.K (.ref Z.grid) "__rsub__" = some none ∨ ∃ g : Addr, PySem.W.findIn B2.X.K (.ref Z.grid) "__rsub__" = some (some (.ref g)) := by rw [hKB2]; exact .inl T_Grid.xrsubD
  refine wss_cons ?_
  walk_at "pd"
  refine' tail_of B (fun ρ m' => m' = m ∧ ¬ okS y ∧ Has ρ [(3, .lst [.str "bad", .str y, .bl true, .bl true, .bl false])]) (fun tb => ?_) ?_
  rotate_left 2
  · refine' tail_of B (fun ρ m' => m' = m ∧ okS y ∧ ∃ C fl, SndC Z C ∧ fl.lookup ("name" : Str) = some (.str y) ∧ fl.lookup ("grid" : Str) = some (gridD Z s o) ∧ Has ρ [(3, .non), (4, .ins C fl)]) (fun tg => ?_) ?_
    rotate_left 2
    · refine ite_dec (fun g1 => ?_) (fun g1 => ?_)
      · refine wss_cons ?_
        refine ws_st kB2 slB24 ?_ rfl
        refine we_gcR gB2_Sound ?_ (by decide) rfl rfl
        walk_at "pd"
        refine ⟨_, ⟨y, _, rfl, by omega, fun ho => ?_, fun hn => ⟨true, (by rw [hK]; exact R.x_BadName_BadName), fun B3 a su => ?h1⟩⟩, xr _⟩
        · walk_at "pde"
          exact tg _ _ ⟨rfl, ho, _, _, SndC.sound Z, snd_nameT, snd_gridT, by walk_at "has"⟩
        case h1 =>
          have ndB3 := SuOf.nd su k
          have hKB3 : B3.X.K = K := (SuOf.K su).trans hK
          have slB30 := SuOf.sl su sl0
          have slB31 := SuOf.sl su sl1
          have slB32 := SuOf.sl su sl2
          have slB33 := SuOf.sl su sl3
          have slB34 := SuOf.sl su sl4
          have slB35 := SuOf.sl su sl5
          have bB3_isinstance := SuOf.bi su b_isinstance
          have bB3_ValueError := SuOf.bt su b_ValueError
          have gcB3_BadName := SuOf.cls su gc_BadName
          have gcB3_BarclipsError := SuOf.cls su gc_BarclipsError
          have gcB3_BadNumber := SuOf.cls su gc_BadNumber
          have xcB3 : ExcC B3.X.K Z.e_BadName := by rw [hKB3]; exact R.k_BadName.xc
          have xfB3 : XfC B3.X.K Z.e_BadName := by rw [hKB3]; exact R.k_BadName.xf
          have nfB3_name : PySem.W.findIn B3.X.K (.ref Z.e_BadName) "name" = some none := by rw [hKB3]; exact R.k_BadName.nf _ (by simp)
          have kiB3_BarclipsError : PySem.W.kitOne B3.X.K (.ref Z.e_BadName) (.ref Z.e_BarclipsError) = some true := by rw [hKB3]; exact R.i_BadName_BarclipsError
          have kiB3_BadNumber : PySem.W.kitOne B3.X.K (.ref Z.e_BadName) (.ref Z.e_BadNumber) = some false := by rw [hKB3]; exact R.i_BadName_BadNumber
          have kvB3 : PySem.W.kitOne B3.X.K (.ref Z.e_BadName) (.type "ValueError") = some true := by rw [hKB3]; exact R.v_BadName
          walk_at "pd"
          refine we_lst ?_
          walk_at "pde"
          exact tb _ _ ⟨rfl, hn, by walk_at "has"⟩
      refine wss_cons ?_
      walk_at "pde"
      refine ite_dec (fun g2 => ?_) (fun g2 => ?_)
      · refine wss_cons ?_
        refine ws_st kB2 slB24 ?_ rfl
        refine we_gckR gk1B2_Clip ?_ (by decide) rfl rfl rfl rfl
        walk_at "pd"
        refine ⟨_, ⟨y, _, some 4, rfl, rfl, by omega, Nat.zero_le _, .inr rfl, fun he => ?_, fun he => ⟨true, (by rw [hK]; exact R.x_BadName_BadName), fun B3 a su => ?h2⟩, fun v he => ?_⟩, xr _⟩
        · have ho : okS y := Classical.byContradiction fun z => by rw [clipE_name z] at he; cases he
          walk_at "pde"
          exact tg _ _ ⟨rfl, ho, _, _, SndC.clip Z, clip_name, clip_grid, by walk_at "has"⟩
        case h2 =>
          have hn : ¬ okS y := fun ho => by rw [clipE_g (clipOk_some ho (r := 1) ⟨by decide, by decide⟩ (by decide))] at he; cases he
          have ndB3 := SuOf.nd su k
          have hKB3 : B3.X.K = K := (SuOf.K su).trans hK
          have slB30 := SuOf.sl su sl0
          have slB31 := SuOf.sl su sl1
          have slB32 := SuOf.sl su sl2
          have slB33 := SuOf.sl su sl3
          have slB34 := SuOf.sl su sl4
          have slB35 := SuOf.sl su sl5
          have bB3_isinstance := SuOf.bi su b_isinstance
          have bB3_ValueError := SuOf.bt su b_ValueError
          have gcB3_BadName := SuOf.cls su gc_BadName
          have gcB3_BarclipsError := SuOf.cls su gc_BarclipsError
          have gcB3_BadNumber := SuOf.cls su gc_BadNumber
          have xcB3 : ExcC B3.X.K Z.e_BadName := by rw [hKB3]; exact R.k_BadName.xc
          have xfB3 : XfC B3.X.K Z.e_BadName := by rw [hKB3]; exact R.k_BadName.xf
          have nfB3_name : PySem.W.findIn B3.X.K (.ref Z.e_BadName) "name" = some none := by rw [hKB3]; exact R.k_BadName.nf _ (by simp)
          have kiB3_BarclipsError : PySem.W.kitOne B3.X.K (.ref Z.e_BadName) (.ref Z.e_BarclipsError) = some true := by rw [hKB3]; exact R.i_BadName_BarclipsError
          have kiB3_BadNumber : PySem.W.kitOne B3.X.K (.ref Z.e_BadName) (.ref Z.e_BadNumber) = some false := by rw [hKB3]; exact R.i_BadName_BadNumber
          have kvB3 : PySem.W.kitOne B3.X.K (.ref Z.e_BadName) (.type "ValueError") = some true := by rw [hKB3]; exact R.v_BadName
          walk_at "pd"
          refine we_lst ?_
          walk_at "pde"
          exact tb _ _ ⟨rfl, hn, by walk_at "has"⟩
        · by_cases ho : okS y
          · rw [clipE_g (clipOk_some ho (r := 1) ⟨by decide, by decide⟩ (by decide))] at he; cases he
          · rw [clipE_name ho] at he; cases he
      · refine wss_cons ?_
        refine ws_st kB2 slB24 ?_ rfl
        refine we_gckR gk1B2_Lead ?_ (by decide) rfl rfl rfl rfl
        walk_at "pd"
        refine ⟨_, ⟨y, _, 4, rfl, rfl, by omega, Nat.zero_le _, .inr rfl, fun he => ?_, fun he => ⟨true, (by rw [hK]; exact R.x_BadName_BadName), fun B3 a su => ?h3⟩, fun he => ?_, fun v he => ?_⟩, xr _⟩
        · have ho : okS y := Classical.byContradiction fun z => by rw [leadE_name z] at he; cases he
          walk_at "pde"
          exact tg _ _ ⟨rfl, ho, _, _, SndC.lead Z, lead_name, lead_grid, by walk_at "has"⟩
        case h3 =>
          have hn : ¬ okS y := fun ho => by rw [leadE_fine ho (by decide) .nil] at he; cases he
          have ndB3 := SuOf.nd su k
          have hKB3 : B3.X.K = K := (SuOf.K su).trans hK
          have slB30 := SuOf.sl su sl0
          have slB31 := SuOf.sl su sl1
          have slB32 := SuOf.sl su sl2
          have slB33 := SuOf.sl su sl3
          have slB34 := SuOf.sl su sl4
          have slB35 := SuOf.sl su sl5
          have bB3_isinstance := SuOf.bi su b_isinstance
          have bB3_ValueError := SuOf.bt su b_ValueError
          have gcB3_BadName := SuOf.cls su gc_BadName
          have gcB3_BarclipsError := SuOf.cls su gc_BarclipsError
          have gcB3_BadNumber := SuOf.cls su gc_BadNumber
          have xcB3 : ExcC B3.X.K Z.e_BadName := by rw [hKB3]; exact R.k_BadName.xc
          have xfB3 : XfC B3.X.K Z.e_BadName := by rw [hKB3]; exact R.k_BadName.xf
          have nfB3_name : PySem.W.findIn B3.X.K (.ref Z.e_BadName) "name" = some none := by rw [hKB3]; exact R.k_BadName.nf _ (by simp)
          have kiB3_BarclipsError : PySem.W.kitOne B3.X.K (.ref Z.e_BadName) (.ref Z.e_BarclipsError) = some true := by rw [hKB3]; exact R.i_BadName_BarclipsError
          have kiB3_BadNumber : PySem.W.kitOne B3.X.K (.ref Z.e_BadName) (.ref Z.e_BadNumber) = some false := by rw [hKB3]; exact R.i_BadName_BadNumber
          have kvB3 : PySem.W.kitOne B3.X.K (.ref Z.e_BadName) (.type "ValueError") = some true := by rw [hKB3]; exact R.v_BadName
          walk_at "pd"
          refine we_lst ?_
          walk_at "pde"
          exact tb _ _ ⟨rfl, hn, by walk_at "has"⟩
        · by_cases ho : okS y
          · rw [leadE_fine ho (by decide) .nil] at he; cases he
          · rw [leadE_name ho] at he; cases he
        · by_cases ho : okS y
          · rw [leadE_fine ho (by decide) .nil] at he; cases he
          · rw [leadE_name ho] at he; cases he
    · rintro ρ m' ⟨rfl, ho, C, fl, hC, hn, hg, hh⟩
      obtain ⟨fn1, fn2⟩ := fn C hC
      have ocC : OwnC B.X.K C := by
        rcases hC with rfl | rfl | rfl
        · exact oc_Sound
        · exact oc_Clip
        · exact oc_Lead
      refine WSs.env ?_ hh
      clear hh ρ
      have isS : PySem.W.kitOne B.X.K (.ref C) (.ref Z.sound) = some true := by
        rcases hC with rfl | rfl | rfl
        · exact me_Sound
        · exact kt_Clip_Sound
        · exact kt_Lead_Sound
      have clC : Cls B.X.K C := fn1.cl
      walk_at "pd"
      refine we_lst ?_
      walk_at "pd"
      refine we_lst ?_
      walk_at "pd"
      exact h1 ho
  · rintro ρ m' ⟨rfl, hn, hh⟩
    refine WSs.env ?_ hh
    clear hh ρ
    walk_at "pd"
    exact h2 hn
abbrev s_law_keeps : Stmt := top 40
abbrev n_law_keeps : List Str := ["_law_lead", "_law_name_here", "_law_step", "_law_offset", "_law_size", "_law_halts_here", "_law_got"]
theorem sc_law_keeps : FnScope n_law_keeps ["_law_lead", "_law_name_here", "_law_step", "_law_offset", "_law_size", "_law_halts_here"] (defScope s_law_keeps) := ⟨rfl, rfl, rfl, by decide +kernel, rfl, by decide +kernel, by decide +kernel⟩
def p_law_keeps (Z : Ad) : PD := fun ds m Q _ => ∃ z s o n st x, ds = [leadD Z z (gridD Z s o) n st, .str z, .int s, .int o, .int n, x] ∧ Sv x m (st.map D.str) ∧ st.length ≤ 100 ∧ Q (.bl true) m
theorem use_keeps {B : Bx} {Z : Ad} {m : Mem} {Q : D → Mem → Prop} {z : Str} {s o n : Int} {st : List Str} {x : D} (hs : Sv x m (st.map D.str)) (hl : st.length ≤ 100) (h : Q (.bl true) m) : ∃ Xd, p_law_keeps Z [leadD Z z (gridD Z s o) n st, .str z, .int s, .int o, .int n, x] m Q Xd ∧ XOK B Xd := ⟨noX, ⟨z, s, o, n, st, x, rfl, hs, hl, h⟩, xok_no B⟩
theorem ok_law_keeps {Z : Ad} {P : Program} {w : World} {K : PySem.W.Frag} {mg : Str → Option Value} {base : Heap} (GD : GDef K mg "_law_keeps" s_law_keeps ["_law_lead", "_law_name_here", "_law_step", "_law_offset", "_law_size", "_law_halts_here"]) (T : Tn mg) (T_Lead : LeadT K mg Z.lead) (T_Sound : SoundT K mg Z.sound) (T_Grid : GridT K mg Z.grid) (c_law_same : GF P w K mg base "_law_same" 8 (p_law_same)) (c_Lead : KF P w K mg base "Lead" Z.lead "Lead.__init__" s_Lead_init ["self", "name", "grid", "length", "stops"] 6 [("stops", V.ref Z.tnil2)] (p_Lead_init Z)) (c_Sound : CF P w K mg base "Sound" Z.sound "Sound.__init__" s_Sound_init ["self", "name", "grid"] 4 [] [] (p_Sound_init Z)) (c_Grid : CF P w K mg base "Grid" Z.grid "Grid.__init__" s_Grid_init ["self", "step", "offset"] 3 [V.int 0] [] (p_Grid_init Z)) (tn2 : NilT K Z.tnil2) (KT : Kit K Z) : GF P w K mg base "_law_keeps" 9 (p_law_keeps Z) := by
  refine gf_ok GD sc_law_keeps (by intro ds m Q Xd h; obtain ⟨_, _, _, _, _, _, rfl, _⟩ := h; rfl) fun B f cdv A outer s H E hB hr k ds m Q Xd h hx => ?_
  have hs : Hs P w K mg base B := by unfold Hs; rw [hB]; exact ⟨rfl, rfl, rfl, rfl, rfl⟩
  have hK : B.X.K = K := hs.2.2.1
  have sl0 : Sl B "_law_lead" 0 := ⟨by rw [hB]; rfl, by rw [hB]; exact Or.inl rfl, by rw [hB]; exact Or.inl rfl⟩
  have sl1 : Sl B "_law_name_here" 1 := ⟨by rw [hB]; rfl, by rw [hB]; exact Or.inl rfl, by rw [hB]; exact Or.inl rfl⟩
  have sl2 : Sl B "_law_step" 2 := ⟨by rw [hB]; rfl, by rw [hB]; exact Or.inl rfl, by rw [hB]; exact Or.inl rfl⟩
  have sl3 : Sl B "_law_offset" 3 := ⟨by rw [hB]; rfl, by rw [hB]; exact Or.inl rfl, by rw [hB]; exact Or.inl rfl⟩
  have sl4 : Sl B "_law_size" 4 := ⟨by rw [hB]; rfl, by rw [hB]; exact Or.inl rfl, by rw [hB]; exact Or.inl rfl⟩
  have sl5 : Sl B "_law_halts_here" 5 := ⟨by rw [hB]; rfl, by rw [hB]; exact Or.inl rfl, by rw [hB]; exact Or.inl rfl⟩
  have sl6 : Sl B "_law_got" 6 := ⟨by rw [hB]; rfl, by rw [hB]; exact Or.inl rfl, by rw [hB]; exact Or.inl rfl⟩
  have b_isinstance : Bi B "isinstance" "isinstance" := ⟨by rw [hB]; exact rfl, by rw [hB]; exact T.b_isinstance, boot_isinstance'⟩
  have b_tuple : Bt B "tuple" "tuple" := ⟨by rw [hB]; exact rfl, by rw [hB]; exact T.b_tuple, boot_tuple'⟩
  have g_law_same : GCal B "_law_same" (p_law_same) := cal_of c_law_same hr (by omega) hs (by rw [hB]; exact rfl)
  have gk1_Lead := Lead_call1 c_Lead tn2 hr (by omega) hs (show Gl B.X "Lead" by rw [hB]; exact rfl)
  have gk2_Lead := Lead_call2 c_Lead tn2 hr (by omega) hs (show Gl B.X "Lead" by rw [hB]; exact rfl)
  have g_Sound := Sound_call c_Sound hr (by omega) hs (show Gl B.X "Sound" by rw [hB]; exact rfl)
  have g_Grid := Grid_call c_Grid hr (by omega) hs (show Gl B.X "Grid" by rw [hB]; exact rfl)
  have gk_Grid := Grid_callk c_Grid hr (by omega) hs (show Gl B.X "Grid" by rw [hB]; exact rfl)
  have cl_Lead : Cls B.X.K Z.lead := by rw [hK]; exact T_Lead.cl
  have kc_Lead_PATIENCE : GCon B.X.K Z.lead "PATIENCE" (.int 64) := by rw [hK]; exact T_Lead.k_PATIENCE
  have f_Lead_name : FldOk B Z.lead "name" := ⟨cl_Lead, by rw [hK]; exact T_Lead.n_name⟩
  have f_Lead_grid : FldOk B Z.lead "grid" := ⟨cl_Lead, by rw [hK]; exact T_Lead.n_grid⟩
  have f_Lead_length : FldOk B Z.lead "length" := ⟨cl_Lead, by rw [hK]; exact T_Lead.n_length⟩
  have f_Lead_stops : FldOk B Z.lead "stops" := ⟨cl_Lead, by rw [hK]; exact T_Lead.n_stops⟩
  have cl_Sound : Cls B.X.K Z.sound := by rw [hK]; exact T_Sound.cl
  have f_Sound_name : FldOk B Z.sound "name" := ⟨cl_Sound, by rw [hK]; exact T_Sound.n_name⟩
  have f_Sound_grid : FldOk B Z.sound "grid" := ⟨cl_Sound, by rw [hK]; exact T_Sound.n_grid⟩
  have cl_Grid : Cls B.X.K Z.grid := by rw [hK]; exact T_Grid.cl
  have f_Grid_step : FldOk B Z.grid "step" := ⟨cl_Grid, by rw [hK]; exact T_Grid.n_step⟩
  have f_Grid_offset : FldOk B Z.grid "offset" := ⟨cl_Grid, by rw [hK]; exact T_Grid.n_offset⟩
  have cls_Lead : GCls B "Lead" Z.lead := ⟨by rw [hB]; exact rfl, by rw [hB]; exact T_Lead.gm⟩
  have cls_Sound : GCls B "Sound" Z.sound := ⟨by rw [hB]; exact rfl, by rw [hB]; exact T_Sound.gm⟩
  have cls_Grid : GCls B "Grid" Z.grid := ⟨by rw [hB]; exact rfl, by rw [hB]; exact T_Grid.gm⟩
  have kt_Lead_Sound : PySem.W.kitOne B.X.K (.ref Z.lead) (.ref Z.sound) = some true := by rw [hK]; exact KT.k_Lead_Sound
  have kt_Lead_Grid : PySem.W.kitOne B.X.K (.ref Z.lead) (.ref Z.grid) = some false := by rw [hK]; exact KT.k_Lead_Grid
  have kt_Sound_Lead : PySem.W.kitOne B.X.K (.ref Z.sound) (.ref Z.lead) = some false := by rw [hK]; exact KT.k_Sound_Lead
  have kt_Sound_Grid : PySem.W.kitOne B.X.K (.ref Z.sound) (.ref Z.grid) = some false := by rw [hK]; exact KT.k_Sound_Grid
  have kt_Grid_Lead : PySem.W.kitOne B.X.K (.ref Z.grid) (.ref Z.lead) = some false := by rw [hK]; exact KT.k_Grid_Lead
  have kt_Grid_Sound : PySem.W.kitOne B.X.K (.ref Z.grid) (.ref Z.sound) = some false := by rw [hK]; exact KT.k_Grid_Sound
  have oc_Lead : OwnC B.X.K Z.lead := by rw [hK]; exact T_Lead.oc
  have op_Lead : OpC B.X.K Z.lead := by rw [hK]; exact T_Lead.op
  have me_Lead : PySem.W.kitOne B.X.K (.ref Z.lead) (.ref Z.lead) = some true := by rw [hK]; exact T_Lead.me
  have no_Lead : ∀ k : DK, PySem.W.kitOne B.X.K (.type k.ty) (.ref Z.lead) = some false := by rw [hK]; exact T_Lead.no
  have ns_Lead : ∀ k : DK, PySem.W.subIn B.X.K (.type k.ty) (.ref Z.lead) = some false := by rw [hK]; exact T_Lead.ns
  have ne_Lead : NeC B.X.K Z.lead := by rw [hK]; exact T_Lead.ne
  have oc_Sound : OwnC B.X.K Z.sound := by rw [hK]; exact T_Sound.oc
  have op_Sound : OpC B.X.K Z.sound := by rw [hK]; exact T_Sound.op
  have me_Sound : PySem.W.kitOne B.X.K (.ref Z.sound) (.ref Z.sound) = some true := by rw [hK]; exact T_Sound.me
  have no_Sound : ∀ k : DK, PySem.W.kitOne B.X.K (.type k.ty) (.ref Z.sound) = some false := by rw [hK]; exact T_Sound.no
  have ns_Sound : ∀ k : DK, PySem.W.subIn B.X.K (.type k.ty) (.ref Z.sound) = some false := by rw [hK]; exact T_Sound.ns
  have ne_Sound : NeC B.X.K Z.sound := by rw [hK]; exact T_Sound.ne
  have oc_Grid : OwnC B.X.K Z.grid := by rw [hK]; exact T_Grid.oc
  have op_Grid : OpC B.X.K Z.grid := by rw [hK]; exact T_Grid.op
  have me_Grid : PySem.W.kitOne B.X.K (.ref Z.grid) (.ref Z.grid) = some true := by rw [hK]; exact T_Grid.me
  have no_Grid : ∀ k : DK, PySem.W.kitOne B.X.K (.type k.ty) (.ref Z.grid) = some false := by rw [hK]; exact T_Grid.no
  have ns_Grid : ∀ k : DK, PySem.W.subIn B.X.K (.type k.ty) (.ref Z.grid) = some false := by rw [hK]; exact T_Grid.ns
  have ne_Grid : NeC B.X.K Z.grid := by rw [hK]; exact T_Grid.ne
  have o_Grid_addD : PySem.W.findIn B.X.K (.ref Z.grid) "__add__" = some none ∨ ∃ g : Addr, PySem.W.findIn B.X.K (.ref Z.grid) "__add__" = some (some (.ref g)) := by rw [hK]; exact .inr T_Grid.haddD
  have o_Grid_raddD : PySem.W.findIn B.X.K (.ref Z.grid) "__radd__" = some none ∨ ∃ g : Addr, PySem.W.findIn B.X.K (.ref Z.grid) "__radd__" = some (some (.ref g)) := by rw [hK]; exact .inr T_Grid.hraddD
  have o_Grid_mulD : PySem.W.findIn B.X.K (.ref Z.grid) "__mul__" = some none ∨ ∃ g : Addr, PySem.W.findIn B.X.K (.ref Z.grid) "__mul__" = some (some (.ref g)) := by rw [hK]; exact .inr T_Grid.hmulD
  have o_Grid_rmulD : PySem.W.findIn B.X.K (.ref Z.grid) "__rmul__" = some none ∨ ∃ g : Addr, PySem.W.findIn B.X.K (.ref Z.grid) "__rmul__" = some (some (.ref g)) := by rw [hK]; exact .inr T_Grid.hrmulD
  have o_Grid_floordivD : PySem.W.findIn B.X.K (.ref Z.grid) "__floordiv__" = some none ∨ ∃ g : Addr, PySem.W.findIn B.X.K (.ref Z.grid) "__floordiv__" = some (some (.ref g)) := by rw [hK]; exact .inr T_Grid.hfloordivD
  have o_Grid_rfloordivD : PySem.W.findIn B.X.K (.ref Z.grid) "__rfloordiv__" = some none ∨ ∃ g : Addr, PySem.W.findIn B.X.K (.ref Z.grid) "__rfloordiv__" = some (some (.ref g)) := by rw [hK]; exact .inr T_Grid.hrfloordivD
  have o_Grid_rmodD : PySem.W.findIn B.X.K (.ref Z.grid) "__rmod__" = some none ∨ ∃ g : Addr, PySem.W.findIn B.X.K (.ref Z.grid) "__rmod__" = some (some (.ref g)) := by rw [hK]; exact .inr T_Grid.hrmodD
  have o_Grid_modD : PySem.W.findIn B.X.K (.ref Z.grid) "__mod__" = some none ∨ ∃ g : Addr, PySem.W.findIn B.X.K (.ref Z.grid) "__mod__" = some (some (.ref g)) := by rw [hK]; exact .inl T_Grid.xmodD
  have o_Grid_rsubD : PySem.W.findIn B.X.K (.ref Z.grid) "__rsub__" = some none ∨ ∃ g : Addr, PySem.W.findIn B.X.K (.ref Z.grid) "__rsub__" = some (some (.ref g)) := by rw [hK]; exact .inl T_Grid.xrsubD
  clear hB
  obtain ⟨z, s, o, n, st, x, rfl, hs1, hl, hq⟩ := h
  refine wss_cons ?_
  walk_at "pd"
  refine we_lst ?_
  walk_at "pd"
  refine we_lst ?_
  walk_at "pd"
  refine wc_tupleS hs1 ?_
  walk_at "pd"
  refine use_same (pld_l (Nat.le_of_ble_eq_true rfl) ⟨pld_str0, pld_int0, pld_int0, pld_int0, pld_strsT (by omega), True.intro⟩) ?_
  exact hq
abbrev s_law : Stmt := top 41
abbrev n_law : List Str := ["_law_script", "_law_box_here", "_law_name_here", "_law_step", "_law_offset", "_law_size", "_law_halts_here", "_law_launch", "_law_lead", "_law_turned", "_law_other", "_law_turn", "_law_found", "_law_told", "_law_tried_here", "_law_due", "_law_kind"]
theorem sc_law : FnScope n_law ["_law_script"] (defScope s_law) := ⟨rfl, rfl, rfl, by decide +kernel, rfl, by decide +kernel, by decide +kernel⟩
theorem bxd_eq {m m' : Mem} {p : Addr} (h : Bxd m p) (e : m' p = m p) : Bxd m' p := by obtain ⟨a, b, c, h⟩ := h; exact ⟨a, b, c, e.trans h⟩
def nOne : Str := "Not one"
theorem nOne_bad : ¬ okS nOne := fun h => by
  have := h.2.1 78 (by decide +kernel)
  unfold isL at this
  omega
theorem sz31i {i : Int} (h0 : 0 ≤ i) (h : i ≤ 10 ^ 31) : Sz 1900 i := by
  unfold Sz
  have e : (10 : Nat) ^ 31 < 2 ^ 1900 := Nat.lt_of_lt_of_le (show (10 : Nat) ^ 31 < 2 ^ 200 by decide +kernel) (Nat.pow_le_pow_right (by decide) (by decide))
  have : i.natAbs ≤ 10 ^ 31 := by omega
  omega
theorem set_nodup : ∀ {l : List Str} {i : Nat} {x : Str}, l.Nodup → x ∉ l → (l.set i x).Nodup
  | [], _, _, h, _ => h
  | a :: l, 0, x, h, hx => by
    obtain ⟨h1, h2⟩ := List.nodup_cons.mp h
    exact List.nodup_cons.mpr ⟨fun hm => hx (List.mem_cons_of_mem _ hm), h2⟩
  | a :: l, i + 1, x, h, hx => by
    obtain ⟨h1, h2⟩ := List.nodup_cons.mp h
    refine List.nodup_cons.mpr ⟨fun hm => ?_, set_nodup h2 fun hm => hx (List.mem_cons_of_mem _ hm)⟩
    rcases List.mem_or_eq_of_mem_set hm with hm | rfl
    · exact h1 hm
    · exact hx List.mem_cons_self
theorem pld_dueLE {e : LErr} {z : Str} {n : Int} : PlD 6 (.lst (dueLE e z n ++ [.bl true, .bl true, .bl false, .bl false])) := by
  cases e <;> (show PlD 6 (D.lst _)) <;> walk_at "pld"
theorem ok_law {Z : Ad} {P : Program} {w : World} {K : PySem.W.Frag} {mg : Str → Option Value} {base : Heap} {fL : Addr} {fdL : FuncData} (GD : Fun K "law" "law" s_law fL fdL) (T : Tn mg) (T_Lead : LeadT K mg Z.lead) (T_Clip : ClipT K mg Z.clip) (T_Grid : GridT K mg Z.grid) (T_Sound : SoundT K mg Z.sound) (c_law_same : GF P w K mg base "_law_same" 8 (p_law_same)) (c_law_box : GF P w K mg base "_law_box" 1 (p_law_box)) (c_law_any_name : GF P w K mg base "_law_any_name" 2 (p_law_any_name)) (c_law_draw : GF P w K mg base "_law_draw" 1 (p_law_draw)) (c_law_halts : GF P w K mg base "_law_halts" 3 (p_law_halts)) (c_law_keeps : GF P w K mg base "_law_keeps" 9 (p_law_keeps Z)) (c_law_spoilt : GF P w K mg base "_law_spoilt" 3 (p_law_spoilt)) (c_law_refused : GF P w K mg base "_law_refused" 8 (p_law_refused Z)) (c_law_other_name : GF P w K mg base "_law_other_name" 3 (p_law_other_name)) (c_law_allowed : GF P w K mg base "_law_allowed" 1 (p_law_allowed)) (c_law_tried : GF P w K mg base "_law_tried" 8 (p_law_tried Z)) (c_Lead : KF P w K mg base "Lead" Z.lead "Lead.__init__" s_Lead_init ["self", "name", "grid", "length", "stops"] 6 [("stops", V.ref Z.tnil2)] (p_Lead_init Z)) (c_Clip : KF P w K mg base "Clip" Z.clip "Clip.__init__" s_Clip_init ["self", "name", "grid", "length", "rounds", "guards"] 6 [("rounds", V.int 1), ("guards", V.ref Z.tnil)] (p_Clip_init Z)) (c_Grid : CF P w K mg base "Grid" Z.grid "Grid.__init__" s_Grid_init ["self", "step", "offset"] 3 [V.int 0] [] (p_Grid_init Z)) (tn : NilT K Z.tnil) (tn2 : NilT K Z.tnil2) (qc_Lead_PATIENCE : CCon K Z.lead "PATIENCE" (.int 64)) (qc_Clip_ROUNDS : CCon K Z.clip "ROUNDS" (.int 4)) : FnOk P w K mg base (L2.CX P w) 10 fL fdL ["_law_script"] (spD K pLaw) := by
  refine lf_ok GD sc_law (by intro ds m Q Xd h; obtain ⟨_, rfl, _⟩ := h; rfl) fun B f cdv A outer s H E hB hr k ds m Q Xd h hx => ?_
  have hs : Hs P w K mg base B := by unfold Hs; rw [hB]; exact ⟨rfl, rfl, rfl, rfl, rfl⟩
  have hK : B.X.K = K := hs.2.2.1
  have cb : CB B n_law (defScope s_law) := ⟨by rw [hB]; rfl, by rw [hB]; rfl⟩
  have nv11 : B.X.N[11]? = some ("_law_turn" : Str) := by rw [hB]; rfl
  have sl0 : Sl B "_law_script" 0 := ⟨by rw [hB]; rfl, by rw [hB]; first | exact Or.inl rfl | exact Or.inr rfl, by rw [hB]; first | exact Or.inl rfl | exact Or.inr rfl⟩
  have sl1 : Sl B "_law_box_here" 1 := ⟨by rw [hB]; rfl, by rw [hB]; first | exact Or.inl rfl | exact Or.inr rfl, by rw [hB]; first | exact Or.inl rfl | exact Or.inr rfl⟩
  have sl2 : Sl B "_law_name_here" 2 := ⟨by rw [hB]; rfl, by rw [hB]; first | exact Or.inl rfl | exact Or.inr rfl, by rw [hB]; first | exact Or.inl rfl | exact Or.inr rfl⟩
  have sl3 : Sl B "_law_step" 3 := ⟨by rw [hB]; rfl, by rw [hB]; first | exact Or.inl rfl | exact Or.inr rfl, by rw [hB]; first | exact Or.inl rfl | exact Or.inr rfl⟩
  have sl4 : Sl B "_law_offset" 4 := ⟨by rw [hB]; rfl, by rw [hB]; first | exact Or.inl rfl | exact Or.inr rfl, by rw [hB]; first | exact Or.inl rfl | exact Or.inr rfl⟩
  have sl5 : Sl B "_law_size" 5 := ⟨by rw [hB]; rfl, by rw [hB]; first | exact Or.inl rfl | exact Or.inr rfl, by rw [hB]; first | exact Or.inl rfl | exact Or.inr rfl⟩
  have sl6 : Sl B "_law_halts_here" 6 := ⟨by rw [hB]; rfl, by rw [hB]; first | exact Or.inl rfl | exact Or.inr rfl, by rw [hB]; first | exact Or.inl rfl | exact Or.inr rfl⟩
  have sl7 : Sl B "_law_launch" 7 := ⟨by rw [hB]; rfl, by rw [hB]; first | exact Or.inl rfl | exact Or.inr rfl, by rw [hB]; first | exact Or.inl rfl | exact Or.inr rfl⟩
  have sl8 : Sl B "_law_lead" 8 := ⟨by rw [hB]; rfl, by rw [hB]; first | exact Or.inl rfl | exact Or.inr rfl, by rw [hB]; first | exact Or.inl rfl | exact Or.inr rfl⟩
  have sl9 : Sl B "_law_turned" 9 := ⟨by rw [hB]; rfl, by rw [hB]; first | exact Or.inl rfl | exact Or.inr rfl, by rw [hB]; first | exact Or.inl rfl | exact Or.inr rfl⟩
  have sl10 : Sl B "_law_other" 10 := ⟨by rw [hB]; rfl, by rw [hB]; first | exact Or.inl rfl | exact Or.inr rfl, by rw [hB]; first | exact Or.inl rfl | exact Or.inr rfl⟩
  have sl11 : Sl B "_law_turn" 11 := ⟨by rw [hB]; rfl, by rw [hB]; first | exact Or.inl rfl | exact Or.inr rfl, by rw [hB]; first | exact Or.inl rfl | exact Or.inr rfl⟩
  have sl12 : Sl B "_law_found" 12 := ⟨by rw [hB]; rfl, by rw [hB]; first | exact Or.inl rfl | exact Or.inr rfl, by rw [hB]; first | exact Or.inl rfl | exact Or.inr rfl⟩
  have sl13 : Sl B "_law_told" 13 := ⟨by rw [hB]; rfl, by rw [hB]; first | exact Or.inl rfl | exact Or.inr rfl, by rw [hB]; first | exact Or.inl rfl | exact Or.inr rfl⟩
  have sl14 : Sl B "_law_tried_here" 14 := ⟨by rw [hB]; rfl, by rw [hB]; first | exact Or.inl rfl | exact Or.inr rfl, by rw [hB]; first | exact Or.inl rfl | exact Or.inr rfl⟩
  have sl15 : Sl B "_law_due" 15 := ⟨by rw [hB]; rfl, by rw [hB]; first | exact Or.inl rfl | exact Or.inr rfl, by rw [hB]; first | exact Or.inl rfl | exact Or.inr rfl⟩
  have sl16 : Sl B "_law_kind" 16 := ⟨by rw [hB]; rfl, by rw [hB]; first | exact Or.inl rfl | exact Or.inr rfl, by rw [hB]; first | exact Or.inl rfl | exact Or.inr rfl⟩
  have b_len : Bi B "len" "len" := ⟨by rw [hB]; exact rfl, by rw [hB]; exact T.b_len, boot_len'⟩
  have b_tuple : Bt B "tuple" "tuple" := ⟨by rw [hB]; exact rfl, by rw [hB]; exact T.b_tuple, boot_tuple'⟩
  have b_range : Bt B "range" "range" := ⟨by rw [hB]; exact rfl, by rw [hB]; exact T.b_range, boot_range'⟩
  have g_law_same : GCal B "_law_same" (p_law_same) := cal_of c_law_same hr (by omega) hs (by rw [hB]; exact rfl)
  have g_law_box : GCal B "_law_box" (p_law_box) := cal_of c_law_box hr (by omega) hs (by rw [hB]; exact rfl)
  have g_law_any_name : GCal B "_law_any_name" (p_law_any_name) := cal_of c_law_any_name hr (by omega) hs (by rw [hB]; exact rfl)
  have g_law_draw : GCal B "_law_draw" (p_law_draw) := cal_of c_law_draw hr (by omega) hs (by rw [hB]; exact rfl)
  have g_law_halts : GCal B "_law_halts" (p_law_halts) := cal_of c_law_halts hr (by omega) hs (by rw [hB]; exact rfl)
  have g_law_keeps : GCal B "_law_keeps" (p_law_keeps Z) := cal_of c_law_keeps hr (by omega) hs (by rw [hB]; exact rfl)
  have g_law_spoilt : GCal B "_law_spoilt" (p_law_spoilt) := cal_of c_law_spoilt hr (by omega) hs (by rw [hB]; exact rfl)
  have g_law_refused : GCal B "_law_refused" (p_law_refused Z) := cal_of c_law_refused hr (by omega) hs (by rw [hB]; exact rfl)
  have g_law_allowed : GCal B "_law_allowed" (p_law_allowed) := cal_of c_law_allowed hr (by omega) hs (by rw [hB]; exact rfl)
  have g_law_tried : GCal B "_law_tried" (p_law_tried Z) := cal_of c_law_tried hr (by omega) hs (by rw [hB]; exact rfl)
  have gk1_Lead := Lead_call1 c_Lead tn2 hr (by omega) hs (show Gl B.X "Lead" by rw [hB]; exact rfl)
  have gk2_Lead := Lead_call2 c_Lead tn2 hr (by omega) hs (show Gl B.X "Lead" by rw [hB]; exact rfl)
  have gk1_Clip := Clip_call1 c_Clip tn hr (by omega) hs (show Gl B.X "Clip" by rw [hB]; exact rfl)
  have gk2_Clip := Clip_call2 c_Clip tn hr (by omega) hs (show Gl B.X "Clip" by rw [hB]; exact rfl)
  have gk3_Clip := Clip_call3 c_Clip tn hr (by omega) hs (show Gl B.X "Clip" by rw [hB]; exact rfl)
  have gk4_Clip := Clip_call4 c_Clip tn hr (by omega) hs (show Gl B.X "Clip" by rw [hB]; exact rfl)
  have g_Grid := Grid_call c_Grid hr (by omega) hs (show Gl B.X "Grid" by rw [hB]; exact rfl)
  have gk_Grid := Grid_callk c_Grid hr (by omega) hs (show Gl B.X "Grid" by rw [hB]; exact rfl)
  have gqc_Lead_PATIENCE : CCon B.X.K Z.lead "PATIENCE" (.int 64) := by rw [hK]; exact qc_Lead_PATIENCE
  have gqc_Clip_ROUNDS : CCon B.X.K Z.clip "ROUNDS" (.int 4) := by rw [hK]; exact qc_Clip_ROUNDS
  have cl_Lead : Cls B.X.K Z.lead := by rw [hK]; exact T_Lead.cl
  have kc_Lead_PATIENCE : GCon B.X.K Z.lead "PATIENCE" (.int 64) := by rw [hK]; exact T_Lead.k_PATIENCE
  have f_Lead_name : FldOk B Z.lead "name" := ⟨cl_Lead, by rw [hK]; exact T_Lead.n_name⟩
  have f_Lead_grid : FldOk B Z.lead "grid" := ⟨cl_Lead, by rw [hK]; exact T_Lead.n_grid⟩
  have f_Lead_length : FldOk B Z.lead "length" := ⟨cl_Lead, by rw [hK]; exact T_Lead.n_length⟩
  have f_Lead_stops : FldOk B Z.lead "stops" := ⟨cl_Lead, by rw [hK]; exact T_Lead.n_stops⟩
  have cl_Clip : Cls B.X.K Z.clip := by rw [hK]; exact T_Clip.cl
  have kc_Clip_ROUNDS : GCon B.X.K Z.clip "ROUNDS" (.int 4) := by rw [hK]; exact T_Clip.k_ROUNDS
  have f_Clip_name : FldOk B Z.clip "name" := ⟨cl_Clip, by rw [hK]; exact T_Clip.n_name⟩
  have f_Clip_grid : FldOk B Z.clip "grid" := ⟨cl_Clip, by rw [hK]; exact T_Clip.n_grid⟩
  have f_Clip_length : FldOk B Z.clip "length" := ⟨cl_Clip, by rw [hK]; exact T_Clip.n_length⟩
  have f_Clip_rounds : FldOk B Z.clip "rounds" := ⟨cl_Clip, by rw [hK]; exact T_Clip.n_rounds⟩
  have f_Clip_guards : FldOk B Z.clip "guards" := ⟨cl_Clip, by rw [hK]; exact T_Clip.n_guards⟩
  have cl_Grid : Cls B.X.K Z.grid := by rw [hK]; exact T_Grid.cl
  have f_Grid_step : FldOk B Z.grid "step" := ⟨cl_Grid, by rw [hK]; exact T_Grid.n_step⟩
  have f_Grid_offset : FldOk B Z.grid "offset" := ⟨cl_Grid, by rw [hK]; exact T_Grid.n_offset⟩
  have cl_Sound : Cls B.X.K Z.sound := by rw [hK]; exact T_Sound.cl
  have f_Sound_name : FldOk B Z.sound "name" := ⟨cl_Sound, by rw [hK]; exact T_Sound.n_name⟩
  have f_Sound_grid : FldOk B Z.sound "grid" := ⟨cl_Sound, by rw [hK]; exact T_Sound.n_grid⟩
  have cls_Lead : GCls B "Lead" Z.lead := ⟨by rw [hB]; exact rfl, by rw [hB]; exact T_Lead.gm⟩
  have cls_Clip : GCls B "Clip" Z.clip := ⟨by rw [hB]; exact rfl, by rw [hB]; exact T_Clip.gm⟩
  have cls_Grid : GCls B "Grid" Z.grid := ⟨by rw [hB]; exact rfl, by rw [hB]; exact T_Grid.gm⟩
  have oc_Clip : OwnC B.X.K Z.clip := by rw [hK]; exact T_Clip.oc
  have op_Clip : OpC B.X.K Z.clip := by rw [hK]; exact T_Clip.op
  have me_Clip : PySem.W.kitOne B.X.K (.ref Z.clip) (.ref Z.clip) = some true := by rw [hK]; exact T_Clip.me
  have no_Clip : ∀ k : DK, PySem.W.kitOne B.X.K (.type k.ty) (.ref Z.clip) = some false := by rw [hK]; exact T_Clip.no
  have ns_Clip : ∀ k : DK, PySem.W.subIn B.X.K (.type k.ty) (.ref Z.clip) = some false := by rw [hK]; exact T_Clip.ns
  have ne_Clip : NeC B.X.K Z.clip := by rw [hK]; exact T_Clip.ne
  have oc_Lead : OwnC B.X.K Z.lead := by rw [hK]; exact T_Lead.oc
  have op_Lead : OpC B.X.K Z.lead := by rw [hK]; exact T_Lead.op
  have me_Lead : PySem.W.kitOne B.X.K (.ref Z.lead) (.ref Z.lead) = some true := by rw [hK]; exact T_Lead.me
  have no_Lead : ∀ k : DK, PySem.W.kitOne B.X.K (.type k.ty) (.ref Z.lead) = some false := by rw [hK]; exact T_Lead.no
  have ns_Lead : ∀ k : DK, PySem.W.subIn B.X.K (.type k.ty) (.ref Z.lead) = some false := by rw [hK]; exact T_Lead.ns
  have ne_Lead : NeC B.X.K Z.lead := by rw [hK]; exact T_Lead.ne
  clear hB
  obtain ⟨ns, rfl, hn, _, hq⟩ := h
  have e9 : sizeLine = 16777216 := sizeLine_eq
  refine wss_cons ?_
  walk_at "pd"
  refine we_lst ?_
  walk_at "pd"
  refine we_lst ?_
  walk_at "pd"
  refine use_same (by walk_at "pld") ?_
  walk_at "pd"
  refine use_box (by decide) hn fun p m1 hb _ _ => ?_
  walk_at "pd"
  refine use_any_name hb fun z m2 hz hb2 _ => ?_
  walk_at "pd"
  refine use_draw hb2 (by decide) (by walk_at "szc") fun t m3 hb3 _ t0 t1 => ?_
  refine wi_tupA t0 t1 fun d hd => ?_
  have hkk : ∃ n : Int, d = .int n ∧ (0 < n ∧ n ≤ 10 ^ 30) ∧ Sz 1900 n := (by walk_at "all" : ∀ d, d ∈ _ → ∃ n : Int, d = .int n ∧ (0 < n ∧ n ≤ 10 ^ 30) ∧ Sz 1900 n) d hd
  obtain ⟨n, rfl, ⟨n0, n1⟩, n2⟩ := hkk
  walk_at "pd"
  refine use_draw hb3 n0 n2 fun s m4 hb4 _ s0 s1 => ?_
  clear t0 t1 hd n2 hb hb2 hb3
  walk_at "pd"
  refine use_draw hb4 (by omega) (sz31i (by omega) (by omega)) fun o m5 hb5 _ o0 o1 => ?_
  walk_at "pd"
  refine use_draw hb5 (by decide) (by walk_at "szc") fun t m6 hb6 _ t0 t1 => ?_
  refine wi_tupA t0 t1 fun d hd => ?_
  have hkk : ∃ n : Int, d = .int n ∧ (0 < n ∧ n ≤ 10 ^ 30) ∧ Sz 1900 n := (by walk_at "all" : ∀ d, d ∈ _ → ∃ n : Int, d = .int n ∧ (0 < n ∧ n ≤ 10 ^ 30) ∧ Sz 1900 n) d hd
  obtain ⟨n', rfl, ⟨n0', n1'⟩, n2'⟩ := hkk
  walk_at "pd"
  refine use_draw hb6 n0' n2' fun v m7 hb7 _ v0 v1 => ?_
  walk_at "pd"
  refine use_halts hb7 fun hl q m8 hb8 hq0 hqp hl8 hok hnd => ?_
  have hm8 : mset m8 q (.lst (hl.map D.str)) q = some (.lst (hl.map D.str)) := mset_same
  generalize mset m8 q (.lst (hl.map D.str)) = m9 at hb8 hm8 ⊢
  clear hq0 n0 n1 hb4 hb5 hb6 t0 t1 hd n0' n1' n2' v1 hb7
  walk_at "pd"
  rw [List.length_map]
  refine' tail_of B (fun ρ m' => Bxd m' p ∧ ∃ hl : List Str, m' q = some (.lst (hl.map D.str)) ∧ hl.length ≤ 8 ∧ hl.Nodup ∧ Has ρ [(0, .lst (ns.map D.int)), (1, .ref p), (2, .str z), (3, .int (1 + s)), (4, .int o), (5, .int (1 + v)), (6, .ref q)]) (fun tail => ?_) ?_
  rotate_left 2
  · by_cases g : 0 < hl.length
    · refine ite_yes (by omega) ?_
      walk_at "pde"
      refine use_box (by decide) hn fun p3 m10 hb10 hpn km => ?_
      have hqp3 : q ≠ p3 := fun e => by rw [← e, hm8] at hpn; cases hpn
      have hpp3 : p ≠ p3 := (bxd_new hb8 hpn).symm
      walk_at "pde"
      refine use_draw hb10 (by decide) (by walk_at "szc") fun u m11 hb11 k11 _ _ => ?_
      have hm11 : m11 q = some (.lst (hl.map D.str)) := (k11 q hqp3).trans ((km q hqp3).trans hm8)
      have hbp : Bxd m11 p := bxd_eq hb8 ((k11 p hpp3).trans (km p hpp3))
      walk_at "pde"
      refine ite_dec (fun g2 => ?_) (fun g2 => ?_)
      · refine wss_cons ?_
        walk_at "pde"
        refine ⟨q, _, _, hl.length - 1, rfl, rfl, hm11, by unfold ixN; rw [List.length_map]; simp; omega, ?_⟩
        have es : (hl.map D.str).set (hl.length - 1) (.str "Not one") = (hl.set (hl.length - 1) nOne).map D.str := by rw [List.map_set]; rfl
        rw [es]
        walk_at "pde"
        exact tail _ _ ⟨bxd_ne hbp hqp, _, mset_same, by rw [List.length_set]; exact hl8, set_nodup hnd fun hm => nOne_bad (hok _ hm), by walk_at "has"⟩
      · refine wss_nil ?_
        exact tail _ _ ⟨hbp, hl, hm11, hl8, hnd, by walk_at "has"⟩
    · refine ite_no (by omega) ?_
      refine wss_nil ?_
      exact tail _ _ ⟨hb8, hl, hm8, hl8, hnd, by walk_at "has"⟩
  clear hm8 hl8 hok hnd hb8 hl
  rintro ρ m10 ⟨hb10, hl, hm10, hl8, hnd, hh⟩
  refine WSs.env ?_ hh
  clear hh ρ
  refine wss_fz 6 rfl hm10 ?_
  have hb11 : Bxd (mdel m10 q) p := by obtain ⟨x1, x2, x3, hb⟩ := hb10; exact ⟨x1, x2, x3, by rw [mdel_ne hqp.symm]; exact hb⟩
  generalize mdel m10 q = m11 at hb11 ⊢
  clear hb10 hm10
  walk_at "pd"
  refine use_grid2 (by omega) ?_
  rw [Int.emod_eq_of_lt o0 o1]
  walk_at "pd"
  rw [List.length_map]
  have hzl : z.length ≤ sizeLine := by have := okS_l12 hz; omega
  have hfine : leadE z (1 + v) hl = none := leadE_fine hz (by omega) hnd
  refine' tail_of B (fun ρ m' => Bxd m' p ∧ Has ρ [(0, .lst (ns.map D.int)), (1, .ref p), (2, .str z), (3, .int (1 + s)), (4, .int o), (5, .int (1 + v)), (6, .lst (hl.map D.str)), (7, gridD Z (1 + s) o), (8, leadD Z z (gridD Z (1 + s) o) (1 + v) hl)]) (fun tail => ?_) ?_
  rotate_left 2
  · refine' tail_of B (fun ρ m' => Bxd m' p ∧ Has ρ [(0, .lst (ns.map D.int)), (1, .ref p), (2, .str z), (3, .int (1 + s)), (4, .int o), (5, .int (1 + v)), (6, .lst (hl.map D.str)), (7, gridD Z (1 + s) o)]) (fun els => ?_) ?_
    rotate_left 2
    · by_cases g : hl.length = 0
      · obtain rfl := List.length_eq_zero_iff.mp g
        refine ite_yes (by simp) ?_
        walk_at "pde"
        refine use_draw hb11 (by decide) (by walk_at "szc") fun u m12 hb12 k12 _ _ => ?_
        walk_at "pde"
        refine ite_dec (fun g2 => ?_) (fun g2 => ?_)
        · refine wss_cons ?_
          walk_at "pde"
          refine we_gckR gk1_Lead ?_ (by decide) rfl rfl rfl rfl
          walk_at "pde"
          refine ⟨noX, ⟨z, _, _, rfl, rfl, leadP_ok hzl (Nat.zero_le _) (.inr rfl) hfine ?_⟩, (xok_no B).xr⟩
          walk_at "pde"
          exact tail _ _ ⟨hb12, by walk_at "has"⟩
        · exact els _ _ ⟨hb12, by walk_at "has"⟩
      · refine ite_no (by omega) ?_
        exact els _ _ ⟨hb11, by walk_at "has"⟩
    · rintro ρ m12 ⟨hb12, hh⟩
      refine WSs.env ?_ hh
      clear hh ρ
      refine wss_cons ?_
      walk_at "pde"
      refine wc_tupleS (.inl (.inl rfl)) ?_
      walk_at "pde"
      refine ⟨noX, ⟨z, _, _, _, hl, rfl, rfl, leadP_ok hzl (by omega) (.inr rfl) hfine ?_⟩, (xok_no B).xr⟩
      walk_at "pde"
      exact tail _ _ ⟨hb12, by walk_at "has"⟩
  clear hb11
  rintro ρ m12 ⟨hb12, hh⟩
  refine WSs.env ?_ hh
  clear hh ρ
  refine wss_cons ?_
  walk_at "pde"
  refine use_keeps (.inl (.inl rfl)) (by omega) ?_
  walk_at "pde"
  refine wss_cons ?_
  walk_at "pd WS"
  walk_at "pd WE"
  walk_at "pd WE"
  refine ⟨_, .inl rfl, .inr fun q2 hq2 => ?_⟩
  rw [← List.map_reverse]
  have hrl : hl.reverse.length ≤ 8 := by rw [List.length_reverse]; exact hl8
  have hrn : hl.reverse.Nodup := List.pairwise_reverse.mpr (List.Pairwise.imp (fun h e => h e.symm) hnd)
  walk_at "pd"
  refine use_grid2 (by omega) ?_
  rw [Int.emod_eq_of_lt o0 (by omega)]
  walk_at "pd"
  refine ⟨noX, ⟨z, _, _, _, hl.reverse, rfl, rfl, leadP_ok hzl (by omega) (.inl (.inr ⟨q2, rfl, mset_same⟩)) (leadE_fine hz (by omega) hrn) ?_⟩, (xok_no B).xr⟩
  walk_at "pd"
  refine ⟨_, mset_same, by rw [List.length_map, e9]; omega, ?_⟩
  rw [mset_mset]
  walk_at "pd"
  refine use_box (by decide) hn fun p2 m13 hb13 _ _ => ?_
  clear hb12 hq2
  walk_at "pd"
  walk_at "pd for"
  walk_at "pd"
  walk_at "rng"
  refine forD_rng (fun i ρ m' => Bxd m' p2 ∧ Has ρ ((1, .ref p2) :: [(0, .lst (ns.map D.int)), (2, .str z), (3, .int (1 + s)), (4, .int o), (5, .int (1 + v)), (6, .lst (hl.map D.str)), (7, gridD Z (1 + s) o), (8, leadD Z z (gridD Z (1 + s) o) (1 + v) hl), (10, leadD Z z (gridD Z (1 + s + 1) o) (1 + v + 1) hl.reverse)]) ) ?_ ?_ ⟨hb13, by walk_at "has"⟩
  · clear hb13
    rintro i ρ m14 hi ⟨hb14, hh⟩
    refine wg_nm k sl11 ?_
    refine WSs.env ?_ (hh.up rfl)
    clear hh ρ
    refine wss_cons ?_
    walk_at "pd"
    refine use_spoilt hb14 hz (by omega) hl8 fun z' n2 st' e m15 hb15 he hz' hst' => ?_
    walk_at "pd"
    refine wc_tupleS (.inl (.inl rfl)) ?_
    walk_at "pd"
    refine ⟨noX, ⟨z', _, n2, st', rfl, by omega, by omega, (by rw [he]; exact fun h => (by cases h)), fun e' he' => ?_⟩, xok_no B⟩
    obtain rfl : e = e' := by rw [he] at he'; injection he'
    walk_at "pd"
    refine we_lst ?_
    walk_at "pd"
    refine wb_catV (.inl rfl) (.inl rfl) (by cases e <;> exact szl (Nat.le_of_ble_eq_true rfl)) (.inl ?_)
    walk_at "pd"
    refine use_same pld_dueLE ?_
    walk_at "pd"
    refine use_keeps (.inl (.inl rfl)) (by omega) ?_
    walk_at "pd"
    rw [← List.map_reverse]
    refine use_keeps (.inl (.inl rfl)) (by omega) ?_
    walk_at "pd"
    exact ⟨hb15, by walk_at "has"⟩
  rintro ρ m14 ⟨hb14, hh⟩
  refine WSs.env ?_ hh
  clear hh ρ
  refine wss_cons ?_
  refine ws_forJ k ?_ (fun _ => rfl)
  refine wj_seq ?_
  walk_at "pd"
  refine we_lst ?_
  walk_at "pd"
  refine ⟨by decide, by decide, fun v0' hv0' => ?_⟩
  have hvp : v0' ≠ p2 := bxd_new hb14 hv0'
  show lcD _ _ _ _ _ _ v0' (rngD 0 3) [] _
  refine lcD_at _ (fun i acc m => ∃ ys : List Str, acc = ys.map D.str ∧ ys.length = i ∧ Bxd m p2 ∧ ∀ y ∈ ys, y.length ≤ 100) (szl (by rw [rngD_len]; decide)) ?_ ?_ ⟨[], rfl, rfl, bxd_ne hb14 hvp, fun y h => (by cases h)⟩
  · rintro i d acc m15 hdi ha ⟨ys, rfl, hai, hb, hys⟩ hm B1 hb1
    have hsB1 : Hs P w K mg base B1 := IsBlk.hs hb1 hs
    have hrB1 := IsBlk.room hb1 hr
    have hKB1 : B1.X.K = K := (IsBlk.K hb1).trans hK
    have gB1_law_other_name : GCal B1 "_law_other_name" (p_law_other_name) := cal_of c_law_other_name hrB1 (by omega) hsB1 (IsBlk.gl hb1 cb.hE (by first | rfl | decide +kernel))
    have vsB11 : Vs B1 "_law_box_here" 1 := IsBlk.vs hb1 cb.hE sl1.n (by first | exact Or.inl rfl | exact Or.inr (Or.inl rfl) | exact Or.inr (Or.inr rfl))
    have vsB12 : Vs B1 "_law_name_here" 2 := IsBlk.vs hb1 cb.hE sl2.n (by first | exact Or.inl rfl | exact Or.inr (Or.inl rfl) | exact Or.inr (Or.inr rfl))
    have clB1_Lead : Cls B1.X.K Z.lead := by rw [hKB1]; exact T_Lead.cl
    have fB1_Lead_name := fld_blk hb1 f_Lead_name
    have fB1_Lead_grid := fld_blk hb1 f_Lead_grid
    have fB1_Lead_length := fld_blk hb1 f_Lead_length
    have fB1_Lead_stops := fld_blk hb1 f_Lead_stops
    have clB1_Clip : Cls B1.X.K Z.clip := by rw [hKB1]; exact T_Clip.cl
    have fB1_Clip_name := fld_blk hb1 f_Clip_name
    have fB1_Clip_grid := fld_blk hb1 f_Clip_grid
    have fB1_Clip_length := fld_blk hb1 f_Clip_length
    have fB1_Clip_rounds := fld_blk hb1 f_Clip_rounds
    have fB1_Clip_guards := fld_blk hb1 f_Clip_guards
    have clB1_Grid : Cls B1.X.K Z.grid := by rw [hKB1]; exact T_Grid.cl
    have fB1_Grid_step := fld_blk hb1 f_Grid_step
    have fB1_Grid_offset := fld_blk hb1 f_Grid_offset
    have clB1_Sound : Cls B1.X.K Z.sound := by rw [hKB1]; exact T_Sound.cl
    have fB1_Sound_name := fld_blk hb1 f_Sound_name
    have fB1_Sound_grid := fld_blk hb1 f_Sound_grid
    have ocB1_Clip : OwnC B1.X.K Z.clip := by rw [hKB1]; exact T_Clip.oc
    have opB1_Clip : OpC B1.X.K Z.clip := by rw [hKB1]; exact T_Clip.op
    have meB1_Clip : PySem.W.kitOne B1.X.K (.ref Z.clip) (.ref Z.clip) = some true := by rw [hKB1]; exact T_Clip.me
    have ocB1_Lead : OwnC B1.X.K Z.lead := by rw [hKB1]; exact T_Lead.oc
    have opB1_Lead : OpC B1.X.K Z.lead := by rw [hKB1]; exact T_Lead.op
    have meB1_Lead : PySem.W.kitOne B1.X.K (.ref Z.lead) (.ref Z.lead) = some true := by rw [hKB1]; exact T_Lead.me
    walk_at "pd"
    refine use_other_nameK hb hz fun y m16 hb16 k16 hy => ?_
    refine ⟨(k16 v0' hvp).trans hm, ys ++ [y], by rw [List.map_append]; rfl, by rw [List.length_append, hai]; rfl, bxd_ne hb16 hvp, fun x hx => ?_⟩
    rcases List.mem_append.mp hx with hx | hx
    · exact hys x hx
    · rw [List.mem_singleton.mp hx]; exact hy
  rintro far m15 hfl ⟨ys, rfl, hai, _, hys⟩ _
  rw [rngD_len] at hai
  generalize mdel m15 v0' = m16
  refine wb_catV (.inl rfl) (.inl rfl) (by rw [List.length_map, e9, List.length_singleton]; omega) (.inl ?_)
  rw [show [D.str z] ++ ys.map D.str = (z :: ys).map D.str from rfl]
  have hall : ∀ y ∈ z :: ys, y.length ≤ 100 := fun y hy => by
    rcases List.mem_cons.mp hy with rfl | hy
    · have := okS_l12 hz; omega
    · exact hys y hy
  refine ⟨_, .inl (.inl rfl), ?_⟩
  refine ⟨fun i ρ m' => Has ρ [(2, .str z), (3, .int (1 + s)), (4, .int o), (7, gridD Z (1 + s) o)], by walk_at "has", fun i ρ m' h => .inl (.inl rfl), ?_, ?_⟩
  · rintro i d ρ m17 hi hh
    obtain ⟨y, hy, rfl⟩ := List.mem_map.mp (List.mem_of_getElem? hi)
    have hyl := hall y hy
    walk_at "tg"
    refine WSs.env ?_ hh.on
    clear hh ρ
    refine wss_cons ?_
    walk_at "pd"
    refine we_lst ?_
    walk_at "pd"
    refine' tail_of B (fun ρ m' => ∃ l : List D, ((okS y ∧ l = [.str "good", .str y, .bl true, .bl true, .int (1 + s), .int o]) ∨ (¬ okS y ∧ l = [.str "bad", .str y, .bl true, .bl true, .bl false])) ∧ Has ρ ((15, .lst l) :: (14, .str y) :: [(2, .str z), (3, .int (1 + s)), (4, .int o), (7, gridD Z (1 + s) o)]) ) (fun tail => ?_) ?_
    rotate_left 2
    · refine ⟨noX, ⟨y, rfl, hyl, fun ho => ?_, fun ho => ?_⟩, xok_no B⟩
      · walk_at "pde"
        refine wss_cons ?_
        walk_at "pde"
        refine we_lst ?_
        walk_at "pde"
        exact tail _ _ ⟨_, .inl ⟨ho, rfl⟩, by walk_at "has"⟩
      · walk_at "pde"
        exact tail _ _ ⟨_, .inr ⟨ho, rfl⟩, by walk_at "has"⟩
    rintro ρ m18 ⟨l, hl', hh⟩
    refine WSs.env ?_ hh
    clear hh ρ
    walk_at "pd"
    walk_at "pd for"
    walk_at "pd"
    walk_at "rng"
    refine forD_rng (fun i ρ m' => Has ρ ((15, .lst l) :: (14, .str y) :: [(2, .str z), (3, .int (1 + s)), (4, .int o), (7, gridD Z (1 + s) o)]) ) ?_ ?_ (by walk_at "has")
    · intro j ρ m19 hj hh
      have hj3 : j < 3 := hj
      refine wg_nm k sl16 ?_
      refine WSs.env ?_ hh.on
      clear hh ρ
      refine wss_cons ?_
      walk_at "pd"
      have fin : PlD 6 (.lst l) := by rcases hl' with ⟨_, e⟩ | ⟨_, e⟩ <;> (rw [e]; walk_at "pld")
      refine ⟨noX, ⟨y, 1 + s, o, _, rfl, hyl, by omega, by omega, fun ho => ?_, fun ho => ?_⟩, xok_no B⟩
      · rcases hl' with ⟨_, e⟩ | ⟨h, _⟩
        · rw [← e]
          walk_at "pd"
          refine use_same fin ?_
          walk_at "pd"
          walk_at "has"
        · exact absurd ho h
      · rcases hl' with ⟨h, _⟩ | ⟨_, e⟩
        · exact absurd h ho
        · rw [← e]
          walk_at "pd"
          refine use_same fin ?_
          walk_at "pd"
          walk_at "has"
    · intro ρ m19 hh
      refine WSs.env ?_ hh
      clear hh ρ
      walk_at "pd"
      walk_at "has"
  · intro ρ m17 hh
    walk_at "pd"
    exact hq _
theorem all_mk {l : PySem.W.OpenLaw} {w : World} {K : PySem.W.Frag} {h : Heap} {mg : Str → Option Value} {fa C0 C1 C2 C3 gs3_0 gs3_1 gs3_2 gs3_3 gs3_4 gs3_5 gs3_6 f0 f1 f2 f3 f4 f5 f6 f7 f8 f9 f10 f11 f12 f13 f14 f15 f16 f17 f18 f19 f20 f21 f22 td4 : Addr} (X : K.In h) (G : h.Ns mainGlobals mg) (hfa : mg "law" = some (.ref fa))
    {an0 an1 an4 an5 an6 an7 an8 an9 od0 od1 od4 od5 od6 od7 od8 od9 an10 an11 an12 an13 an14 an15 an16 an17 an18 an19 an20 an21 an22 od10 od11 od12 od13 od14 od15 od16 od17 od18 od19 od20 od21 od22 odt4 : Option Addr} {sl0 sl1 sl4 sl5 sl6 sl7 sl8 sl9 sl10 sl11 sl12 sl13 sl14 sl15 sl16 sl17 sl18 sl19 sl20 sl21 sl22 slt4 : Array (Option Value)} {cd0 cd1 cd4 cd5 cd6 cd7 cd8 cd9 ct0 ct1 ct4 ct5 ct6 ct7 ct8 ct9 dc0 dc1 dc4 dc5 dc6 dc7 dc8 dc9 kV0 kV1 kV4 kV5 kV6 kV7 kV8 kV9 oc0 oc1 oc4 oc5 oc6 oc7 oc8 oc9 pm0 pm1 pm4 pm5 pm6 pm7 pm8 pm9 cd10 cd11 cd12 cd13 cd14 cd15 cd16 cd17 cd18 cd19 cd20 cd21 cd22 ct10 ct11 ct12 ct13 ct14 ct15 ct16 ct17 ct18 ct19 ct20 ct21 ct22 dc10 dc11 dc12 dc13 dc14 dc15 dc16 dc17 dc18 dc19 dc20 dc21 dc22 kV10 kV11 kV12 kV13 kV14 kV15 kV16 kV17 kV18 kV19 kV20 kV21 kV22 oc10 oc11 oc12 oc13 oc14 oc15 oc16 oc17 oc18 oc19 oc20 oc21 oc22 oct4 pm10 pm11 pm12 pm13 pm14 pm15 pm16 pm17 pm18 pm19 pm20 pm21 pm22 : Value} {nt4 : Nat} {tk4 : Tok} {ktk1_0 : Tok} {ktk2_0 : Tok} {E0 : Addr} {E1 : Addr} {Enm1 Eq1 : Str} {EN1 : Addr} {Ebs1 Ebm1 Esb1 : List Value} {Esn1 : List Str} {Eab1 : Bool} {Eco1 : Option Bool} {Edd1 : Option Addr} {Eka1 Ekb1 Ekc1 Ekd1 Eke1 : Option Value} {Ei1 Ecd1 Ecc1 : Addr} {Eoc1 Edc1 Epm1 Ect1 Ecl1 Ecc21 : Value} {Eod1 Ean1 Ecld1 Ecld21 : Option Addr} {Eos1 Ecs1 Ecs21 : Array (Option Value)} {Evs1 : Array Value} {Etf1 : Tok} {Efi1 : Str} {E2 : Addr} {Enm2 Eq2 : Str} {EN2 : Addr} {Ebs2 Ebm2 Esb2 : List Value} {Esn2 : List Str} {Eab2 : Bool} {Eco2 : Option Bool} {Edd2 : Option Addr} {Eka2 Ekb2 Ekc2 Ekd2 Eke2 : Option Value} {Ei2 Ecd2 Ecc2 : Addr} {Eoc2 Edc2 Epm2 Ect2 Ecl2 Ecc22 : Value} {Eod2 Ean2 Ecld2 Ecld22 : Option Addr} {Eos2 Ecs2 Ecs22 : Array (Option Value)} {Evs2 : Array Value} {Etf2 : Tok} {Efi2 : Str} {E3 : Addr} {Enm3 Eq3 : Str} {EN3 : Addr} {Ebs3 Ebm3 Esb3 : List Value} {Esn3 : List Str} {Eab3 : Bool} {Eco3 : Option Bool} {Edd3 : Option Addr} {Eka3 Ekb3 Ekc3 Ekd3 Eke3 : Option Value} {Ei3 Ecd3 Ecc3 : Addr} {Eoc3 Edc3 Epm3 Ect3 Ecl3 Ecc23 : Value} {Eod3 Ean3 Ecld3 Ecld23 : Option Addr} {Eos3 Ecs3 Ecs23 : Array (Option Value)} {Evs3 : Array Value} {Etf3 : Tok} {Efi3 : Str} {qtk_DIGITS : Tok} {qtk_LETTERS : Tok} {qtk_NAME_LENGTH : Tok} {tnA : Addr} {tnd : Option Addr} {tnn : Nat} {tns : Array (Option Value)} {tnA2 : Addr} {tnd2 : Option Addr} {tnn2 : Nat} {tns2 : Array (Option Value)} {jcd2 jcc2 jkD2 : Addr} {joc2 jdc2 jpm2 jct2 jcl2 jl22 : Value} {jod2 jan2 jcdd2 jld2 : Option Addr} {jsl2 jcs2 jsl22 : Array (Option Value)} {jvs2 : Array Value} {jtf2 : Tok} {jfi2 : Str} {jkt2_0 : Tok} {jcd3 jcc3 jkD3 : Addr} {joc3 jdc3 jpm3 jct3 jcl3 jl23 : Value} {jod3 jan3 jcdd3 jld3 : Option Addr} {jsl3 jcs3 jsl23 : Array (Option Value)} {jvs3 : Array Value} {jtf3 : Tok} {jfi3 : Str} {cwt0 : Tok} {cwt1 : Tok}
    (aC0 : PySem.W.nsIn K mainGlobals "Sound" = some (some (.ref C0)))
    (pg0 : PySem.W.plainGet K C0 Str.empty = true) (hd0 : PySem.W.hasDictIn K C0 = true) (po0 : PySem.W.plainOver K C0 = true) (sa0 : PySem.W.findIn K (.ref C0) "__setattr__" = some (some (.builtin "object.__setattr__"))) (mk0 : PySem.W.makesIn K C0 = true) (kc0 : PySem.W.keepIn K (.ref C0) = true)
    (ha0 : PySem.W.findIn K (.ref C0) "__class__" = some (some (.builtin "object.__class__"))) (hm0 : PySem.W.mroIn K C0 (.type "object") = some true) (sf0 : PySem.W.selfFirst K C0 = true) (ni0 : PySem.W.subIn K (.ref C0) (.type "int") = some false) (ii0 : PySem.W.subIn K (.type "int") (.ref C0) = some false) (me0 : PySem.W.kitOne K (.ref C0) (.ref C0) = some true)
    (nk0_0 : PySem.W.kitOne K (.type "NoneType") (.ref C0) = some false)
    (nk0_1 : PySem.W.kitOne K (.type "bool") (.ref C0) = some false)
    (nk0_2 : PySem.W.kitOne K (.type "int") (.ref C0) = some false)
    (nk0_3 : PySem.W.kitOne K (.type "str") (.ref C0) = some false)
    (nk0_4 : PySem.W.kitOne K (.type "tuple") (.ref C0) = some false)
    (nk0_5 : PySem.W.kitOne K (.type "list") (.ref C0) = some false)
    (nj0_0 : PySem.W.subIn K (.type "NoneType") (.ref C0) = some false)
    (nj0_1 : PySem.W.subIn K (.type "bool") (.ref C0) = some false)
    (nj0_2 : PySem.W.subIn K (.type "int") (.ref C0) = some false)
    (nj0_3 : PySem.W.subIn K (.type "str") (.ref C0) = some false)
    (nj0_4 : PySem.W.subIn K (.type "tuple") (.ref C0) = some false)
    (nj0_5 : PySem.W.subIn K (.type "list") (.ref C0) = some false)
    (nx0 : PySem.W.findIn K (.ref C0) "__ne__" = some (some (.builtin "object.__ne__")))
    (na0_0 : PySem.W.findIn K (.ref C0) "name" = some none)
    (na0_1 : PySem.W.findIn K (.ref C0) "grid" = some none)
    (aC1 : PySem.W.nsIn K mainGlobals "Clip" = some (some (.ref C1)))
    (pg1 : PySem.W.plainGet K C1 Str.empty = true) (hd1 : PySem.W.hasDictIn K C1 = true) (po1 : PySem.W.plainOver K C1 = true) (sa1 : PySem.W.findIn K (.ref C1) "__setattr__" = some (some (.builtin "object.__setattr__"))) (mk1 : PySem.W.makesIn K C1 = true) (kc1 : PySem.W.keepIn K (.ref C1) = true)
    (ha1 : PySem.W.findIn K (.ref C1) "__class__" = some (some (.builtin "object.__class__"))) (hm1 : PySem.W.mroIn K C1 (.type "object") = some true) (sf1 : PySem.W.selfFirst K C1 = true) (ni1 : PySem.W.subIn K (.ref C1) (.type "int") = some false) (ii1 : PySem.W.subIn K (.type "int") (.ref C1) = some false) (me1 : PySem.W.kitOne K (.ref C1) (.ref C1) = some true)
    (nk1_0 : PySem.W.kitOne K (.type "NoneType") (.ref C1) = some false)
    (nk1_1 : PySem.W.kitOne K (.type "bool") (.ref C1) = some false)
    (nk1_2 : PySem.W.kitOne K (.type "int") (.ref C1) = some false)
    (nk1_3 : PySem.W.kitOne K (.type "str") (.ref C1) = some false)
    (nk1_4 : PySem.W.kitOne K (.type "tuple") (.ref C1) = some false)
    (nk1_5 : PySem.W.kitOne K (.type "list") (.ref C1) = some false)
    (nj1_0 : PySem.W.subIn K (.type "NoneType") (.ref C1) = some false)
    (nj1_1 : PySem.W.subIn K (.type "bool") (.ref C1) = some false)
    (nj1_2 : PySem.W.subIn K (.type "int") (.ref C1) = some false)
    (nj1_3 : PySem.W.subIn K (.type "str") (.ref C1) = some false)
    (nj1_4 : PySem.W.subIn K (.type "tuple") (.ref C1) = some false)
    (nj1_5 : PySem.W.subIn K (.type "list") (.ref C1) = some false)
    (nx1 : PySem.W.findIn K (.ref C1) "__ne__" = some (some (.builtin "object.__ne__")))
    (kv1_0 : PySem.W.findIn K (.ref C1) "ROUNDS" = some (some (.int 4 ktk1_0))) (kg1_0 : PySem.W.specialIn K (.int 4 ktk1_0) "__get__" = some none)
    (na1_0 : PySem.W.findIn K (.ref C1) "name" = some none)
    (na1_1 : PySem.W.findIn K (.ref C1) "grid" = some none)
    (na1_2 : PySem.W.findIn K (.ref C1) "length" = some none)
    (na1_3 : PySem.W.findIn K (.ref C1) "rounds" = some none)
    (na1_4 : PySem.W.findIn K (.ref C1) "guards" = some none)
    (aC2 : PySem.W.nsIn K mainGlobals "Lead" = some (some (.ref C2)))
    (pg2 : PySem.W.plainGet K C2 Str.empty = true) (hd2 : PySem.W.hasDictIn K C2 = true) (po2 : PySem.W.plainOver K C2 = true) (sa2 : PySem.W.findIn K (.ref C2) "__setattr__" = some (some (.builtin "object.__setattr__"))) (mk2 : PySem.W.makesIn K C2 = true) (kc2 : PySem.W.keepIn K (.ref C2) = true)
    (ha2 : PySem.W.findIn K (.ref C2) "__class__" = some (some (.builtin "object.__class__"))) (hm2 : PySem.W.mroIn K C2 (.type "object") = some true) (sf2 : PySem.W.selfFirst K C2 = true) (ni2 : PySem.W.subIn K (.ref C2) (.type "int") = some false) (ii2 : PySem.W.subIn K (.type "int") (.ref C2) = some false) (me2 : PySem.W.kitOne K (.ref C2) (.ref C2) = some true)
    (nk2_0 : PySem.W.kitOne K (.type "NoneType") (.ref C2) = some false)
    (nk2_1 : PySem.W.kitOne K (.type "bool") (.ref C2) = some false)
    (nk2_2 : PySem.W.kitOne K (.type "int") (.ref C2) = some false)
    (nk2_3 : PySem.W.kitOne K (.type "str") (.ref C2) = some false)
    (nk2_4 : PySem.W.kitOne K (.type "tuple") (.ref C2) = some false)
    (nk2_5 : PySem.W.kitOne K (.type "list") (.ref C2) = some false)
    (nj2_0 : PySem.W.subIn K (.type "NoneType") (.ref C2) = some false)
    (nj2_1 : PySem.W.subIn K (.type "bool") (.ref C2) = some false)
    (nj2_2 : PySem.W.subIn K (.type "int") (.ref C2) = some false)
    (nj2_3 : PySem.W.subIn K (.type "str") (.ref C2) = some false)
    (nj2_4 : PySem.W.subIn K (.type "tuple") (.ref C2) = some false)
    (nj2_5 : PySem.W.subIn K (.type "list") (.ref C2) = some false)
    (nx2 : PySem.W.findIn K (.ref C2) "__ne__" = some (some (.builtin "object.__ne__")))
    (kv2_0 : PySem.W.findIn K (.ref C2) "PATIENCE" = some (some (.int 64 ktk2_0))) (kg2_0 : PySem.W.specialIn K (.int 64 ktk2_0) "__get__" = some none)
    (na2_0 : PySem.W.findIn K (.ref C2) "name" = some none)
    (na2_1 : PySem.W.findIn K (.ref C2) "grid" = some none)
    (na2_2 : PySem.W.findIn K (.ref C2) "length" = some none)
    (na2_3 : PySem.W.findIn K (.ref C2) "stops" = some none)
    (aC3 : PySem.W.nsIn K mainGlobals "Grid" = some (some (.ref C3)))
    (pg3 : PySem.W.plainGet K C3 Str.empty = true) (hd3 : PySem.W.hasDictIn K C3 = true) (po3 : PySem.W.plainOver K C3 = true) (sa3 : PySem.W.findIn K (.ref C3) "__setattr__" = some (some (.builtin "object.__setattr__"))) (mk3 : PySem.W.makesIn K C3 = true) (kc3 : PySem.W.keepIn K (.ref C3) = true)
    (ha3 : PySem.W.findIn K (.ref C3) "__class__" = some (some (.builtin "object.__class__"))) (hm3 : PySem.W.mroIn K C3 (.type "object") = some true) (sf3 : PySem.W.selfFirst K C3 = true) (ni3 : PySem.W.subIn K (.ref C3) (.type "int") = some false) (ii3 : PySem.W.subIn K (.type "int") (.ref C3) = some false) (me3 : PySem.W.kitOne K (.ref C3) (.ref C3) = some true)
    (nk3_0 : PySem.W.kitOne K (.type "NoneType") (.ref C3) = some false)
    (nk3_1 : PySem.W.kitOne K (.type "bool") (.ref C3) = some false)
    (nk3_2 : PySem.W.kitOne K (.type "int") (.ref C3) = some false)
    (nk3_3 : PySem.W.kitOne K (.type "str") (.ref C3) = some false)
    (nk3_4 : PySem.W.kitOne K (.type "tuple") (.ref C3) = some false)
    (nk3_5 : PySem.W.kitOne K (.type "list") (.ref C3) = some false)
    (nj3_0 : PySem.W.subIn K (.type "NoneType") (.ref C3) = some false)
    (nj3_1 : PySem.W.subIn K (.type "bool") (.ref C3) = some false)
    (nj3_2 : PySem.W.subIn K (.type "int") (.ref C3) = some false)
    (nj3_3 : PySem.W.subIn K (.type "str") (.ref C3) = some false)
    (nj3_4 : PySem.W.subIn K (.type "tuple") (.ref C3) = some false)
    (nj3_5 : PySem.W.subIn K (.type "list") (.ref C3) = some false)
    (nx3 : PySem.W.findIn K (.ref C3) "__ne__" = some (some (.builtin "object.__ne__")))
    (hs3_0 : PySem.W.findIn K (.ref C3) "__add__" = some (some (.ref gs3_0)))
    (hs3_1 : PySem.W.findIn K (.ref C3) "__radd__" = some (some (.ref gs3_1)))
    (hs3_2 : PySem.W.findIn K (.ref C3) "__mul__" = some (some (.ref gs3_2)))
    (hs3_3 : PySem.W.findIn K (.ref C3) "__rmul__" = some (some (.ref gs3_3)))
    (hs3_4 : PySem.W.findIn K (.ref C3) "__floordiv__" = some (some (.ref gs3_4)))
    (hs3_5 : PySem.W.findIn K (.ref C3) "__rfloordiv__" = some (some (.ref gs3_5)))
    (hs3_6 : PySem.W.findIn K (.ref C3) "__rmod__" = some (some (.ref gs3_6)))
    (xs3_0 : PySem.W.findIn K (.ref C3) "__mod__" = some none)
    (xs3_1 : PySem.W.findIn K (.ref C3) "__rsub__" = some none)
    (na3_0 : PySem.W.findIn K (.ref C3) "step" = some none)
    (na3_1 : PySem.W.findIn K (.ref C3) "offset" = some none)
    (hnG : PySem.W.specialIn K (.builtin "object.__class__") "__get__" = some (some (.builtin "getset_descriptor.__get__"))) (htkG : PySem.W.takesIn K (.builtin "object.__class__") = some true)
    (tpE : PySem.W.nsIn K cStatics "thirdparty.any" = some none)
    (suE : PySem.W.nsIn K mainGlobals "super" = some none)
    (htE : (l.prog.main.scope.names.lookup ("super" : Str)).isSome = false)
    (Ea0 : PySem.W.nsIn K mainGlobals "BarclipsError" = some (some (.ref E0)))
    (Ebe0 : PySem.W.subIn K (.ref E0) (.type "BaseException") = some true)
    (Ehd0 : PySem.W.hasDictIn K E0 = true)
    (Ety0 : PySem.W.typeIn K (.ref E0) = some (.type "type"))
    (Ea1 : PySem.W.nsIn K mainGlobals "BadName" = some (some (.ref E1)))
    (Ebe1 : PySem.W.subIn K (.ref E1) (.type "BaseException") = some true)
    (Ehd1 : PySem.W.hasDictIn K E1 = true)
    (Ety1 : PySem.W.typeIn K (.ref E1) = some (.type "type"))
    (Ega1 : PySem.W.findIn K (.ref E1) "__getattribute__" = some (some (.builtin "BaseException.__getattribute__")))
    (Egg1 : PySem.W.findIn K (.ref E1) "__getattr__" = some none)
    (Ehc1 : PySem.W.findIn K (.ref E1) "__class__" = some (some (.builtin "object.__class__")))
    (Emo1 : PySem.W.mroIn K E1 (.type "object") = some true)
    (Ef1_0 : PySem.W.findIn K (.ref E1) "name" = some none)
    (Ec1 : K.lookup E1 = some (excClassObj Enm1 Eq1 E1 EN1 Ebs1 Ebm1 true Esn1 Esb1 Eab1 Eco1 Edd1 Eka1 Ekb1 Ekc1 Ekd1 Eke1 "ValueError.__new__"))
    (Erb1 : PySem.HandSPX.refsVE Ebm1 = true)
    (Esa1 : PySem.W.findIn K (.ref E1) "__setattr__" = some (some (.builtin "object.__setattr__")))
    (Ekp1 : PySem.W.keepIn K (.ref E1) = true)
    (Eve1 : PySem.W.subIn K (.ref E1) (.type "ValueError") = some true)
    (Eme1 : PySem.W.mroIn K E1 (.ref E1) = some true)
    (Esu1 : PySem.W.ks_superIn K E1 E1 "__init__" = some (some (.builtin "ValueError.__init__")))
    (Eii1 : PySem.W.findIn K (.ref E1) "__init__" = some (some (.ref Ei1)))
    (Eit1 : PySem.W.typeIn K (.ref Ei1) = some (.type "function"))
    (El1 : K.lookup Ei1 = some ⟨Eoc1, Eod1, .func (PySem.W.ksFn "__init__" "BadName.__init__" (defArgs (inClass (top 3) 0)) (defBody (inClass (top 3) 0)) (defScope (inClass (top 3) 0)) .none .none Edc1 Epm1 Ean1 (.ref Ecd1) Ect1 Ecc1), Eos1⟩)
    (Eco_1 : PySem.W.codeIn K (.ref Ecd1) "BadName.__init__" = true)
    (Elc1 : K.lookup Ecd1 = some ⟨Ecl1, Ecld1, .fields Evs1, Ecs1⟩)
    (Evf1 : Evs1[2]? = some (.str Efi1 Etf1))
    (Efl1 : ((l.prog.main.file : Str) == Efi1) = true)
    (Ecell1 : K.lookup Ecc1 = some ⟨Ecc21, Ecld21, .cell (some (.ref E1)), Ecs21⟩)
    (Ea2 : PySem.W.nsIn K mainGlobals "BadNumber" = some (some (.ref E2)))
    (Ebe2 : PySem.W.subIn K (.ref E2) (.type "BaseException") = some true)
    (Ehd2 : PySem.W.hasDictIn K E2 = true)
    (Ety2 : PySem.W.typeIn K (.ref E2) = some (.type "type"))
    (Ega2 : PySem.W.findIn K (.ref E2) "__getattribute__" = some (some (.builtin "BaseException.__getattribute__")))
    (Egg2 : PySem.W.findIn K (.ref E2) "__getattr__" = some none)
    (Ehc2 : PySem.W.findIn K (.ref E2) "__class__" = some (some (.builtin "object.__class__")))
    (Emo2 : PySem.W.mroIn K E2 (.type "object") = some true)
    (Ef2_0 : PySem.W.findIn K (.ref E2) "value" = some none)
    (Ec2 : K.lookup E2 = some (excClassObj Enm2 Eq2 E2 EN2 Ebs2 Ebm2 true Esn2 Esb2 Eab2 Eco2 Edd2 Eka2 Ekb2 Ekc2 Ekd2 Eke2 "ValueError.__new__"))
    (Erb2 : PySem.HandSPX.refsVE Ebm2 = true)
    (Esa2 : PySem.W.findIn K (.ref E2) "__setattr__" = some (some (.builtin "object.__setattr__")))
    (Ekp2 : PySem.W.keepIn K (.ref E2) = true)
    (Eve2 : PySem.W.subIn K (.ref E2) (.type "ValueError") = some true)
    (Eme2 : PySem.W.mroIn K E2 (.ref E2) = some true)
    (Esu2 : PySem.W.ks_superIn K E2 E2 "__init__" = some (some (.builtin "ValueError.__init__")))
    (Eii2 : PySem.W.findIn K (.ref E2) "__init__" = some (some (.ref Ei2)))
    (Eit2 : PySem.W.typeIn K (.ref Ei2) = some (.type "function"))
    (El2 : K.lookup Ei2 = some ⟨Eoc2, Eod2, .func (PySem.W.ksFn "__init__" "BadNumber.__init__" (defArgs (inClass (top 4) 0)) (defBody (inClass (top 4) 0)) (defScope (inClass (top 4) 0)) .none .none Edc2 Epm2 Ean2 (.ref Ecd2) Ect2 Ecc2), Eos2⟩)
    (Eco_2 : PySem.W.codeIn K (.ref Ecd2) "BadNumber.__init__" = true)
    (Elc2 : K.lookup Ecd2 = some ⟨Ecl2, Ecld2, .fields Evs2, Ecs2⟩)
    (Evf2 : Evs2[2]? = some (.str Efi2 Etf2))
    (Efl2 : ((l.prog.main.file : Str) == Efi2) = true)
    (Ecell2 : K.lookup Ecc2 = some ⟨Ecc22, Ecld22, .cell (some (.ref E2)), Ecs22⟩)
    (Ea3 : PySem.W.nsIn K mainGlobals "Twice" = some (some (.ref E3)))
    (Ebe3 : PySem.W.subIn K (.ref E3) (.type "BaseException") = some true)
    (Ehd3 : PySem.W.hasDictIn K E3 = true)
    (Ety3 : PySem.W.typeIn K (.ref E3) = some (.type "type"))
    (Ega3 : PySem.W.findIn K (.ref E3) "__getattribute__" = some (some (.builtin "BaseException.__getattribute__")))
    (Egg3 : PySem.W.findIn K (.ref E3) "__getattr__" = some none)
    (Ehc3 : PySem.W.findIn K (.ref E3) "__class__" = some (some (.builtin "object.__class__")))
    (Emo3 : PySem.W.mroIn K E3 (.type "object") = some true)
    (Ef3_0 : PySem.W.findIn K (.ref E3) "name" = some none)
    (Ec3 : K.lookup E3 = some (excClassObj Enm3 Eq3 E3 EN3 Ebs3 Ebm3 true Esn3 Esb3 Eab3 Eco3 Edd3 Eka3 Ekb3 Ekc3 Ekd3 Eke3 "ValueError.__new__"))
    (Erb3 : PySem.HandSPX.refsVE Ebm3 = true)
    (Esa3 : PySem.W.findIn K (.ref E3) "__setattr__" = some (some (.builtin "object.__setattr__")))
    (Ekp3 : PySem.W.keepIn K (.ref E3) = true)
    (Eve3 : PySem.W.subIn K (.ref E3) (.type "ValueError") = some true)
    (Eme3 : PySem.W.mroIn K E3 (.ref E3) = some true)
    (Esu3 : PySem.W.ks_superIn K E3 E3 "__init__" = some (some (.builtin "ValueError.__init__")))
    (Eii3 : PySem.W.findIn K (.ref E3) "__init__" = some (some (.ref Ei3)))
    (Eit3 : PySem.W.typeIn K (.ref Ei3) = some (.type "function"))
    (El3 : K.lookup Ei3 = some ⟨Eoc3, Eod3, .func (PySem.W.ksFn "__init__" "Twice.__init__" (defArgs (inClass (top 6) 0)) (defBody (inClass (top 6) 0)) (defScope (inClass (top 6) 0)) .none .none Edc3 Epm3 Ean3 (.ref Ecd3) Ect3 Ecc3), Eos3⟩)
    (Eco_3 : PySem.W.codeIn K (.ref Ecd3) "Twice.__init__" = true)
    (Elc3 : K.lookup Ecd3 = some ⟨Ecl3, Ecld3, .fields Evs3, Ecs3⟩)
    (Evf3 : Evs3[2]? = some (.str Efi3 Etf3))
    (Efl3 : ((l.prog.main.file : Str) == Efi3) = true)
    (Ecell3 : K.lookup Ecc3 = some ⟨Ecc23, Ecld23, .cell (some (.ref E3)), Ecs23⟩)
    (Ex1_1 : PySem.W.subIn K (.ref E1) (.ref E1) = some true)
    (Ex1_2 : PySem.W.subIn K (.ref E1) (.ref E2) = some false)
    (Ex1_3 : PySem.W.subIn K (.ref E1) (.ref E3) = some false)
    (Ek1_0 : PySem.W.kitOne K (.ref E1) (.ref E0) = some true)
    (Ek1_2 : PySem.W.kitOne K (.ref E1) (.ref E2) = some false)
    (Ek1_3 : PySem.W.kitOne K (.ref E1) (.ref E3) = some false)
    (Ek1_1 : PySem.W.kitOne K (.ref E1) (.ref E1) = some true)
    (Ev1 : PySem.W.kitOne K (.ref E1) (.type "ValueError") = some true)
    (Ex2_1 : PySem.W.subIn K (.ref E2) (.ref E1) = some false)
    (Ex2_2 : PySem.W.subIn K (.ref E2) (.ref E2) = some true)
    (Ex2_3 : PySem.W.subIn K (.ref E2) (.ref E3) = some false)
    (Ek2_0 : PySem.W.kitOne K (.ref E2) (.ref E0) = some true)
    (Ek2_2 : PySem.W.kitOne K (.ref E2) (.ref E2) = some true)
    (Ek2_3 : PySem.W.kitOne K (.ref E2) (.ref E3) = some false)
    (Ek2_1 : PySem.W.kitOne K (.ref E2) (.ref E1) = some false)
    (Ev2 : PySem.W.kitOne K (.ref E2) (.type "ValueError") = some true)
    (Ex3_1 : PySem.W.subIn K (.ref E3) (.ref E1) = some false)
    (Ex3_2 : PySem.W.subIn K (.ref E3) (.ref E2) = some false)
    (Ex3_3 : PySem.W.subIn K (.ref E3) (.ref E3) = some true)
    (Ek3_0 : PySem.W.kitOne K (.ref E3) (.ref E0) = some true)
    (Ek3_2 : PySem.W.kitOne K (.ref E3) (.ref E2) = some false)
    (Ek3_3 : PySem.W.kitOne K (.ref E3) (.ref E3) = some true)
    (Ek3_1 : PySem.W.kitOne K (.ref E3) (.ref E1) = some false)
    (Ev3 : PySem.W.kitOne K (.ref E3) (.type "ValueError") = some true)
    (qc_DIGITS : PySem.W.nsIn K mainGlobals "DIGITS" = some (some (.str "0123456789" qtk_DIGITS)))
    (qc_LETTERS : PySem.W.nsIn K mainGlobals "LETTERS" = some (some (.str "abcdefghijklmnopqrstuvwxyz" qtk_LETTERS)))
    (qc_NAME_LENGTH : PySem.W.nsIn K mainGlobals "NAME_LENGTH" = some (some (.int 12 qtk_NAME_LENGTH)))
    (kt_Sound_Clip : PySem.W.kitOne K (.ref C0) (.ref C1) = some false)
    (kt_Sound_Lead : PySem.W.kitOne K (.ref C0) (.ref C2) = some false)
    (kt_Sound_Grid : PySem.W.kitOne K (.ref C0) (.ref C3) = some false)
    (kt_Clip_Sound : PySem.W.kitOne K (.ref C1) (.ref C0) = some true)
    (kt_Clip_Lead : PySem.W.kitOne K (.ref C1) (.ref C2) = some false)
    (kt_Clip_Grid : PySem.W.kitOne K (.ref C1) (.ref C3) = some false)
    (kt_Lead_Sound : PySem.W.kitOne K (.ref C2) (.ref C0) = some true)
    (kt_Lead_Clip : PySem.W.kitOne K (.ref C2) (.ref C1) = some false)
    (kt_Lead_Grid : PySem.W.kitOne K (.ref C2) (.ref C3) = some false)
    (kt_Grid_Sound : PySem.W.kitOne K (.ref C3) (.ref C0) = some false)
    (kt_Grid_Clip : PySem.W.kitOne K (.ref C3) (.ref C1) = some false)
    (kt_Grid_Lead : PySem.W.kitOne K (.ref C3) (.ref C2) = some false)
    (a0 : PySem.W.nsIn K mainGlobals "check_name" = some (some (.ref f0)))
    (l0 : K.lookup f0 = some ⟨oc0, od0, .func (PySem.W.fnOf "check_name" "check_name" (defArgs s_check_name) (defBody s_check_name) (defScope s_check_name) .none kV0 dc0 pm0 an0 cd0 ct0), sl0⟩) (c0 : PySem.W.codeIn K cd0 "check_name" = true) (k0 : PySem.W.keepIn K (.ref f0) = true)
    (a1 : PySem.W.findIn K (.ref C0) "__init__" = some (some (.ref f1))) (i1 : PySem.W.isFn K (.ref f1) = true)
    (l1 : K.lookup f1 = some ⟨oc1, od1, .func (PySem.W.fnOf "__init__" "Sound.__init__" (defArgs s_Sound_init) (defBody s_Sound_init) (defScope s_Sound_init) .none kV1 dc1 pm1 an1 cd1 ct1), sl1⟩) (c1 : PySem.W.codeIn K cd1 "Sound.__init__" = true) (k1 : PySem.W.keepIn K (.ref f1) = true)
    (a2 : PySem.W.findIn K (.ref C1) "__init__" = some (some (.ref f2))) (i2 : PySem.W.isFn K (.ref f2) = true)
    (l2 : K.lookup f2 = some ⟨joc2, jod2, .func (PySem.W.ksFn "__init__" "Clip.__init__" (defArgs s_Clip_init) (defBody s_Clip_init) (defScope s_Clip_init) .none (.ref jkD2) jdc2 jpm2 jan2 (.ref jcd2) jct2 jcc2), jsl2⟩)
    (c2 : PySem.W.codeIn K (.ref jcd2) "Clip.__init__" = true)
    (k2 : PySem.W.keepIn K (.ref f2) = true)
    (jlc2 : K.lookup jcd2 = some ⟨jcl2, jcdd2, .fields jvs2, jcs2⟩)
    (jvf2 : jvs2[2]? = some (.str jfi2 jtf2))
    (jfl2 : ((l.prog.main.file : Str) == jfi2) = true)
    (jce2 : K.lookup jcc2 = some ⟨jl22, jld2, .cell (some (.ref C1)), jsl22⟩)
    (jme2 : PySem.W.mroIn K C1 (.ref C1) = some true)
    (jsu2 : PySem.W.ks_superIn K C1 C1 "__init__" = some (some (.ref f1)))
    (jft2 : PySem.W.typeIn K (.ref f1) = some (.type "function"))
    (jfn2 : PySem.W.fnIn K f1 = true)
    (jkw2_0 : PySem.W.nsIn K jkD2 "rounds" = some (some (.int 1 jkt2_0)))
    (jkw2_1 : PySem.W.nsIn K jkD2 "guards" = some (some (.ref tnA)))
    (a3 : PySem.W.findIn K (.ref C2) "__init__" = some (some (.ref f3))) (i3 : PySem.W.isFn K (.ref f3) = true)
    (l3 : K.lookup f3 = some ⟨joc3, jod3, .func (PySem.W.ksFn "__init__" "Lead.__init__" (defArgs s_Lead_init) (defBody s_Lead_init) (defScope s_Lead_init) .none (.ref jkD3) jdc3 jpm3 jan3 (.ref jcd3) jct3 jcc3), jsl3⟩)
    (c3 : PySem.W.codeIn K (.ref jcd3) "Lead.__init__" = true)
    (k3 : PySem.W.keepIn K (.ref f3) = true)
    (jlc3 : K.lookup jcd3 = some ⟨jcl3, jcdd3, .fields jvs3, jcs3⟩)
    (jvf3 : jvs3[2]? = some (.str jfi3 jtf3))
    (jfl3 : ((l.prog.main.file : Str) == jfi3) = true)
    (jce3 : K.lookup jcc3 = some ⟨jl23, jld3, .cell (some (.ref C2)), jsl23⟩)
    (jme3 : PySem.W.mroIn K C2 (.ref C2) = some true)
    (jsu3 : PySem.W.ks_superIn K C2 C2 "__init__" = some (some (.ref f1)))
    (jft3 : PySem.W.typeIn K (.ref f1) = some (.type "function"))
    (jfn3 : PySem.W.fnIn K f1 = true)
    (jkw3_0 : PySem.W.nsIn K jkD3 "stops" = some (some (.ref tnA2)))
    (a4 : PySem.W.findIn K (.ref C3) "__init__" = some (some (.ref f4))) (i4 : PySem.W.isFn K (.ref f4) = true)
    (l4 : K.lookup f4 = some ⟨oc4, od4, .func (PySem.W.fnOf "__init__" "Grid.__init__" (defArgs s_Grid_init) (defBody s_Grid_init) (defScope s_Grid_init) (.ref td4) kV4 dc4 pm4 an4 cd4 ct4), sl4⟩) (c4 : PySem.W.codeIn K cd4 "Grid.__init__" = true) (k4 : PySem.W.keepIn K (.ref f4) = true)
    (t4 : K.lookup td4 = some ⟨oct4, odt4, .seq #[.int 0 tk4] nt4, slt4⟩)
    (a5 : PySem.W.nsIn K mainGlobals "_law_box" = some (some (.ref f5)))
    (l5 : K.lookup f5 = some ⟨oc5, od5, .func (PySem.W.fnOf "_law_box" "_law_box" (defArgs s_law_box) (defBody s_law_box) (defScope s_law_box) .none kV5 dc5 pm5 an5 cd5 ct5), sl5⟩) (c5 : PySem.W.codeIn K cd5 "_law_box" = true) (k5 : PySem.W.keepIn K (.ref f5) = true)
    (a6 : PySem.W.nsIn K mainGlobals "_law_draw" = some (some (.ref f6)))
    (l6 : K.lookup f6 = some ⟨oc6, od6, .func (PySem.W.fnOf "_law_draw" "_law_draw" (defArgs s_law_draw) (defBody s_law_draw) (defScope s_law_draw) .none kV6 dc6 pm6 an6 cd6 ct6), sl6⟩) (c6 : PySem.W.codeIn K cd6 "_law_draw" = true) (k6 : PySem.W.keepIn K (.ref f6) = true)
    (a7 : PySem.W.nsIn K mainGlobals "_law_int" = some (some (.ref f7)))
    (l7 : K.lookup f7 = some ⟨oc7, od7, .func (PySem.W.fnOf "_law_int" "_law_int" (defArgs s_law_int) (defBody s_law_int) (defScope s_law_int) .none kV7 dc7 pm7 an7 cd7 ct7), sl7⟩) (c7 : PySem.W.codeIn K cd7 "_law_int" = true) (k7 : PySem.W.keepIn K (.ref f7) = true)
    (a8 : PySem.W.nsIn K mainGlobals "_law_same" = some (some (.ref f8)))
    (l8 : K.lookup f8 = some ⟨oc8, od8, .func (PySem.W.fnOf "_law_same" "_law_same" (defArgs s_law_same) (defBody s_law_same) (defScope s_law_same) .none kV8 dc8 pm8 an8 cd8 ct8), sl8⟩) (c8 : PySem.W.codeIn K cd8 "_law_same" = true) (k8 : PySem.W.keepIn K (.ref f8) = true)
    (a9 : PySem.W.nsIn K mainGlobals "_law_name" = some (some (.ref f9)))
    (l9 : K.lookup f9 = some ⟨oc9, od9, .func (PySem.W.fnOf "_law_name" "_law_name" (defArgs s_law_name) (defBody s_law_name) (defScope s_law_name) .none kV9 dc9 pm9 an9 cd9 ct9), sl9⟩) (c9 : PySem.W.codeIn K cd9 "_law_name" = true) (k9 : PySem.W.keepIn K (.ref f9) = true)
    (a10 : PySem.W.nsIn K mainGlobals "_law_signs" = some (some (.ref f10)))
    (l10 : K.lookup f10 = some ⟨oc10, od10, .func (PySem.W.fnOf "_law_signs" "_law_signs" (defArgs s_law_signs) (defBody s_law_signs) (defScope s_law_signs) .none kV10 dc10 pm10 an10 cd10 ct10), sl10⟩) (c10 : PySem.W.codeIn K cd10 "_law_signs" = true) (k10 : PySem.W.keepIn K (.ref f10) = true)
    (a11 : PySem.W.nsIn K mainGlobals "_law_any_name" = some (some (.ref f11)))
    (l11 : K.lookup f11 = some ⟨oc11, od11, .func (PySem.W.fnOf "_law_any_name" "_law_any_name" (defArgs s_law_any_name) (defBody s_law_any_name) (defScope s_law_any_name) .none kV11 dc11 pm11 an11 cd11 ct11), sl11⟩) (c11 : PySem.W.codeIn K cd11 "_law_any_name" = true) (k11 : PySem.W.keepIn K (.ref f11) = true)
    (a12 : PySem.W.nsIn K mainGlobals "_law_allowed" = some (some (.ref f12)))
    (l12 : K.lookup f12 = some ⟨oc12, od12, .func (PySem.W.fnOf "_law_allowed" "_law_allowed" (defArgs s_law_allowed) (defBody s_law_allowed) (defScope s_law_allowed) .none kV12 dc12 pm12 an12 cd12 ct12), sl12⟩) (c12 : PySem.W.codeIn K cd12 "_law_allowed" = true) (k12 : PySem.W.keepIn K (.ref f12) = true)
    (a13 : PySem.W.nsIn K mainGlobals "_law_sign" = some (some (.ref f13)))
    (l13 : K.lookup f13 = some ⟨oc13, od13, .func (PySem.W.fnOf "_law_sign" "_law_sign" (defArgs s_law_sign) (defBody s_law_sign) (defScope s_law_sign) .none kV13 dc13 pm13 an13 cd13 ct13), sl13⟩) (c13 : PySem.W.codeIn K cd13 "_law_sign" = true) (k13 : PySem.W.keepIn K (.ref f13) = true)
    (a14 : PySem.W.nsIn K mainGlobals "_law_bad_name" = some (some (.ref f14)))
    (l14 : K.lookup f14 = some ⟨oc14, od14, .func (PySem.W.fnOf "_law_bad_name" "_law_bad_name" (defArgs s_law_bad_name) (defBody s_law_bad_name) (defScope s_law_bad_name) .none kV14 dc14 pm14 an14 cd14 ct14), sl14⟩) (c14 : PySem.W.codeIn K cd14 "_law_bad_name" = true) (k14 : PySem.W.keepIn K (.ref f14) = true)
    (a15 : PySem.W.nsIn K mainGlobals "_law_other_name" = some (some (.ref f15)))
    (l15 : K.lookup f15 = some ⟨oc15, od15, .func (PySem.W.fnOf "_law_other_name" "_law_other_name" (defArgs s_law_other_name) (defBody s_law_other_name) (defScope s_law_other_name) .none kV15 dc15 pm15 an15 cd15 ct15), sl15⟩) (c15 : PySem.W.codeIn K cd15 "_law_other_name" = true) (k15 : PySem.W.keepIn K (.ref f15) = true)
    (a16 : PySem.W.nsIn K mainGlobals "_law_halts" = some (some (.ref f16)))
    (l16 : K.lookup f16 = some ⟨oc16, od16, .func (PySem.W.fnOf "_law_halts" "_law_halts" (defArgs s_law_halts) (defBody s_law_halts) (defScope s_law_halts) .none kV16 dc16 pm16 an16 cd16 ct16), sl16⟩) (c16 : PySem.W.codeIn K cd16 "_law_halts" = true) (k16 : PySem.W.keepIn K (.ref f16) = true)
    (a17 : PySem.W.nsIn K mainGlobals "_law_first_twice" = some (some (.ref f17)))
    (l17 : K.lookup f17 = some ⟨oc17, od17, .func (PySem.W.fnOf "_law_first_twice" "_law_first_twice" (defArgs s_law_first_twice) (defBody s_law_first_twice) (defScope s_law_first_twice) .none kV17 dc17 pm17 an17 cd17 ct17), sl17⟩) (c17 : PySem.W.codeIn K cd17 "_law_first_twice" = true) (k17 : PySem.W.keepIn K (.ref f17) = true)
    (a18 : PySem.W.nsIn K mainGlobals "_law_spoilt" = some (some (.ref f18)))
    (l18 : K.lookup f18 = some ⟨oc18, od18, .func (PySem.W.fnOf "_law_spoilt" "_law_spoilt" (defArgs s_law_spoilt) (defBody s_law_spoilt) (defScope s_law_spoilt) .none kV18 dc18 pm18 an18 cd18 ct18), sl18⟩) (c18 : PySem.W.codeIn K cd18 "_law_spoilt" = true) (k18 : PySem.W.keepIn K (.ref f18) = true)
    (a19 : PySem.W.nsIn K mainGlobals "_law_refused" = some (some (.ref f19)))
    (l19 : K.lookup f19 = some ⟨oc19, od19, .func (PySem.W.fnOf "_law_refused" "_law_refused" (defArgs s_law_refused) (defBody s_law_refused) (defScope s_law_refused) .none kV19 dc19 pm19 an19 cd19 ct19), sl19⟩) (c19 : PySem.W.codeIn K cd19 "_law_refused" = true) (k19 : PySem.W.keepIn K (.ref f19) = true)
    (a20 : PySem.W.nsIn K mainGlobals "_law_tried" = some (some (.ref f20)))
    (l20 : K.lookup f20 = some ⟨oc20, od20, .func (PySem.W.fnOf "_law_tried" "_law_tried" (defArgs s_law_tried) (defBody s_law_tried) (defScope s_law_tried) .none kV20 dc20 pm20 an20 cd20 ct20), sl20⟩) (c20 : PySem.W.codeIn K cd20 "_law_tried" = true) (k20 : PySem.W.keepIn K (.ref f20) = true)
    (a21 : PySem.W.nsIn K mainGlobals "_law_keeps" = some (some (.ref f21)))
    (l21 : K.lookup f21 = some ⟨oc21, od21, .func (PySem.W.fnOf "_law_keeps" "_law_keeps" (defArgs s_law_keeps) (defBody s_law_keeps) (defScope s_law_keeps) .none kV21 dc21 pm21 an21 cd21 ct21), sl21⟩) (c21 : PySem.W.codeIn K cd21 "_law_keeps" = true) (k21 : PySem.W.keepIn K (.ref f21) = true)
    (a22 : PySem.W.nsIn K mainGlobals "law" = some (some (.ref f22)))
    (l22 : K.lookup f22 = some ⟨oc22, od22, .func (PySem.W.fnOf "law" "law" (defArgs s_law) (defBody s_law) (defScope s_law) .none kV22 dc22 pm22 an22 cd22 ct22), sl22⟩) (c22 : PySem.W.codeIn K cd22 "law" = true) (k22 : PySem.W.keepIn K (.ref f22) = true)
    (csr0 : PySem.W.readsIn K C2 (.type "type") = true) (csg0 : PySem.W.specialIn K (.ref C2) "__getattribute__" = some (some (.builtin "type.__getattribute__"))) (cw0 : PySem.W.findCls K (.ref C2) (.type "type") "PATIENCE" = some (.val (.int 64 cwt0)))
    (csr1 : PySem.W.readsIn K C1 (.type "type") = true) (csg1 : PySem.W.specialIn K (.ref C1) "__getattribute__" = some (some (.builtin "type.__getattribute__"))) (cw1 : PySem.W.findCls K (.ref C1) (.type "type") "ROUNDS" = some (.val (.int 4 cwt1)))
    (tnl : K.lookup tnA = some ⟨.type "tuple", tnd, .seq #[] tnn, tns⟩)
    (tnl2 : K.lookup tnA2 = some ⟨.type "tuple", tnd2, .seq #[] tnn2, tns2⟩)
    (z_len : PySem.W.nsIn K mainGlobals "len" = some none)
    (z_tuple : PySem.W.nsIn K mainGlobals "tuple" = some none)
    (z_abs : PySem.W.nsIn K mainGlobals "abs" = some none)
    (z_int : PySem.W.nsIn K mainGlobals "int" = some none)
    (z_range : PySem.W.nsIn K mainGlobals "range" = some none)
    (z_str : PySem.W.nsIn K mainGlobals "str" = some none)
    (z_isinstance : PySem.W.nsIn K mainGlobals "isinstance" = some none)
    (z_bool : PySem.W.nsIn K mainGlobals "bool" = some none)
    (z_list : PySem.W.nsIn K mainGlobals "list" = some none)
    (z_ValueError : PySem.W.nsIn K mainGlobals "ValueError" = some none)
    : ∃ fd : FuncData, (∀ (s : Shared) (u : Value), BindsTo s fd ⟨[u], []⟩ [("_law_script", u)]) ∧ ∀ base : Heap, K.In base → base.Ns mainGlobals mg → FnOk l.prog w K mg base (L2.CX l.prog w) 10 fa fd ["_law_script"] (spD K pLaw) := by
  have e := hfa.symm.trans (PySem.W.mg_of X G a22)
  cases e
  have T : Tn mg := ⟨PySem.W.mg_none_of X G z_len, PySem.W.mg_none_of X G z_tuple, PySem.W.mg_none_of X G z_abs, PySem.W.mg_none_of X G z_int, PySem.W.mg_none_of X G z_range, PySem.W.mg_none_of X G z_str, PySem.W.mg_none_of X G z_isinstance, PySem.W.mg_none_of X G z_bool, PySem.W.mg_none_of X G z_list, PySem.W.mg_none_of X G z_ValueError⟩
  have q_DIGITS : GCst mg "DIGITS" (.str "0123456789") := ⟨_, (V.str "0123456789"), PySem.W.mg_of X G qc_DIGITS, ⟨_, rfl⟩, fun _ _ => rfl⟩
  have q_LETTERS : GCst mg "LETTERS" (.str "abcdefghijklmnopqrstuvwxyz") := ⟨_, (V.str "abcdefghijklmnopqrstuvwxyz"), PySem.W.mg_of X G qc_LETTERS, ⟨_, rfl⟩, fun _ _ => rfl⟩
  have q_NAME_LENGTH : GCst mg "NAME_LENGTH" (.int 12) := ⟨_, (V.int 12), PySem.W.mg_of X G qc_NAME_LENGTH, ⟨_, rfl⟩, fun _ _ => rfl⟩
  have ox1 : OexC K E1 := ⟨⟨Enm1, Eq1, EN1, Ebs1, Ebm1, Esn1, Esb1, Eab1, Eco1, Edd1, Eka1, Ekb1, Ekc1, Ekd1, Eke1, Ec1, Erb1⟩, Esa1, Ebe1, Ety1, Ekp1⟩
  have ec1 : PdErr.ErrC K E1 Ecc1 := ⟨ox1, Esu1, Eve1, Eme1, ⟨_, _, _, Ecell1⟩, tpE⟩
  have ox2 : OexC K E2 := ⟨⟨Enm2, Eq2, EN2, Ebs2, Ebm2, Esn2, Esb2, Eab2, Eco2, Edd2, Eka2, Ekb2, Ekc2, Ekd2, Eke2, Ec2, Erb2⟩, Esa2, Ebe2, Ety2, Ekp2⟩
  have ec2 : PdErr.ErrC K E2 Ecc2 := ⟨ox2, Esu2, Eve2, Eme2, ⟨_, _, _, Ecell2⟩, tpE⟩
  have ox3 : OexC K E3 := ⟨⟨Enm3, Eq3, EN3, Ebs3, Ebm3, Esn3, Esb3, Eab3, Eco3, Edd3, Eka3, Ekb3, Ekc3, Ekd3, Eke3, Ec3, Erb3⟩, Esa3, Ebe3, Ety3, Ekp3⟩
  have ec3 : PdErr.ErrC K E3 Ecc3 := ⟨ox3, Esu3, Eve3, Eme3, ⟨_, _, _, Ecell3⟩, tpE⟩
  have RR : Ers K mg (Ad.mk C0 C1 C2 C3 E0 E1 E2 0 E3 0 tnA tnA2 0) := ⟨⟨PySem.W.mg_of X G Ea1, ⟨Ega1, Egg1, Ebe1, Ehd1, Ehc1, hnG, htkG, Emo1⟩, ⟨Ega1, Egg1, Ebe1, Ehd1⟩, fun f hf => by first | (rcases List.mem_singleton.mp hf with rfl; exact Ef1_0)⟩, ⟨PySem.W.mg_of X G Ea2, ⟨Ega2, Egg2, Ebe2, Ehd2, Ehc2, hnG, htkG, Emo2⟩, ⟨Ega2, Egg2, Ebe2, Ehd2⟩, fun f hf => by first | (rcases List.mem_singleton.mp hf with rfl; exact Ef2_0)⟩, ⟨PySem.W.mg_of X G Ea3, ⟨Ega3, Egg3, Ebe3, Ehd3, Ehc3, hnG, htkG, Emo3⟩, ⟨Ega3, Egg3, Ebe3, Ehd3⟩, fun f hf => by first | (rcases List.mem_singleton.mp hf with rfl; exact Ef3_0)⟩, PySem.W.mg_of X G Ea1, PySem.W.mg_of X G Ea2, PySem.W.mg_of X G Ea0, PySem.W.mg_of X G Ea3, PySem.W.exm_ref Ebe1 Ehd1 Ety1 Ex1_1, PySem.W.exm_ref Ebe2 Ehd2 Ety2 Ex1_2, PySem.W.exm_ref Ebe3 Ehd3 Ety3 Ex1_3, Ek1_0, Ek1_2, Ek1_3, Ek1_1, Ev1, PySem.W.exm_ref Ebe1 Ehd1 Ety1 Ex2_1, PySem.W.exm_ref Ebe2 Ehd2 Ety2 Ex2_2, PySem.W.exm_ref Ebe3 Ehd3 Ety3 Ex2_3, Ek2_0, Ek2_2, Ek2_3, Ek2_1, Ev2, PySem.W.exm_ref Ebe1 Ehd1 Ety1 Ex3_1, PySem.W.exm_ref Ebe2 Ehd2 Ety2 Ex3_2, PySem.W.exm_ref Ebe3 Ehd3 Ety3 Ex3_3, Ek3_0, Ek3_2, Ek3_3, Ek3_1, Ev3⟩
  have T_Sound : SoundT K mg C0 := ⟨PySem.W.mg_of X G aC0, ⟨pg0, hd0, po0, sa0⟩, ⟨⟨pg0, hd0, po0, sa0⟩, ha0, hnG, htkG, hm0⟩, ⟨sf0, ni0, ii0⟩, me0, (fun k => match k with | .non => nk0_0 | .bl => nk0_1 | .int => nk0_2 | .str => nk0_3 | .tup => nk0_4 | .lst => nk0_5), (fun k => match k with | .non => nj0_0 | .bl => nj0_1 | .int => nj0_2 | .str => nj0_3 | .tup => nj0_4 | .lst => nj0_5), ⟨nx0, hm0⟩, na0_0, na0_1⟩
  have T_Clip : ClipT K mg C1 := ⟨PySem.W.mg_of X G aC1, ⟨pg1, hd1, po1, sa1⟩, ⟨⟨pg1, hd1, po1, sa1⟩, ha1, hnG, htkG, hm1⟩, ⟨sf1, ni1, ii1⟩, me1, (fun k => match k with | .non => nk1_0 | .bl => nk1_1 | .int => nk1_2 | .str => nk1_3 | .tup => nk1_4 | .lst => nk1_5), (fun k => match k with | .non => nj1_0 | .bl => nj1_1 | .int => nj1_2 | .str => nj1_3 | .tup => nj1_4 | .lst => nj1_5), ⟨nx1, hm1⟩, na1_0, na1_1, na1_2, na1_3, na1_4, ⟨V.int 4, _, ⟨kv1_0, ⟨_, rfl⟩, kg1_0, by decide +kernel⟩, fun _ => rfl⟩⟩
  have T_Lead : LeadT K mg C2 := ⟨PySem.W.mg_of X G aC2, ⟨pg2, hd2, po2, sa2⟩, ⟨⟨pg2, hd2, po2, sa2⟩, ha2, hnG, htkG, hm2⟩, ⟨sf2, ni2, ii2⟩, me2, (fun k => match k with | .non => nk2_0 | .bl => nk2_1 | .int => nk2_2 | .str => nk2_3 | .tup => nk2_4 | .lst => nk2_5), (fun k => match k with | .non => nj2_0 | .bl => nj2_1 | .int => nj2_2 | .str => nj2_3 | .tup => nj2_4 | .lst => nj2_5), ⟨nx2, hm2⟩, na2_0, na2_1, na2_2, na2_3, ⟨V.int 64, _, ⟨kv2_0, ⟨_, rfl⟩, kg2_0, by decide +kernel⟩, fun _ => rfl⟩⟩
  have T_Grid : GridT K mg C3 := ⟨PySem.W.mg_of X G aC3, ⟨pg3, hd3, po3, sa3⟩, ⟨⟨pg3, hd3, po3, sa3⟩, ha3, hnG, htkG, hm3⟩, ⟨sf3, ni3, ii3⟩, me3, (fun k => match k with | .non => nk3_0 | .bl => nk3_1 | .int => nk3_2 | .str => nk3_3 | .tup => nk3_4 | .lst => nk3_5), (fun k => match k with | .non => nj3_0 | .bl => nj3_1 | .int => nj3_2 | .str => nj3_3 | .tup => nj3_4 | .lst => nj3_5), ⟨nx3, hm3⟩, na3_0, na3_1, ⟨_, hs3_0⟩, ⟨_, hs3_1⟩, ⟨_, hs3_2⟩, ⟨_, hs3_3⟩, ⟨_, hs3_4⟩, ⟨_, hs3_5⟩, ⟨_, hs3_6⟩, xs3_0, xs3_1⟩
  have TN : NilT K tnA := ⟨_, _, tnl, rfl, rfl⟩
  have TN2 : NilT K tnA2 := ⟨_, _, tnl2, rfl, rfl⟩
  have KT : Kit K (Ad.mk C0 C1 C2 C3 E0 E1 E2 0 E3 0 tnA tnA2 0) := ⟨kt_Sound_Clip, kt_Sound_Lead, kt_Sound_Grid, kt_Clip_Sound, kt_Clip_Lead, kt_Clip_Grid, kt_Lead_Sound, kt_Lead_Clip, kt_Lead_Grid, kt_Grid_Sound, kt_Grid_Clip, kt_Grid_Lead⟩
  have F0 := fun_mk (st := s_check_name) l0 c0 k0
  have b0 := F0.binds (ps := ["name"]) fun _ _ _ _ _ _ us hl => match us, hl with | [_], _ => rfl
  have D0 : GDef K mg "check_name" s_check_name ["name"] := ⟨_, _, PySem.W.mg_of X G a0, F0, b0⟩
  have D1 : CDef K mg "Sound" C0 "Sound.__init__" s_Sound_init [] [] := cdef_Sound_init (PySem.W.mg_of X G aC0) ⟨mk0, a1, i1, kc0⟩ l1 c1 k1
  have D2 : KDef l.prog K mg "Clip" C1 C0 "Clip.__init__" s_Clip_init [("rounds", V.int 1), ("guards", V.ref tnA)] := ⟨_, _, _, _, _, PySem.W.mg_of X G aC1, ⟨mk1, a2, i2, kc1⟩, ⟨⟨_, _, _, _, _, rfl, .inr ⟨_, rfl, fun q hq => by rcases List.mem_cons.mp hq with rfl | hq; exact ⟨_, jkw2_0, ⟨_, rfl⟩⟩; rcases List.mem_cons.mp hq with rfl | hq; exact ⟨_, jkw2_1, rfl⟩; cases hq⟩⟩, c2⟩, ⟨⟨_, _, _, l2⟩, ⟨_, _, _, _, _, _, jlc2, jvf2, jfl2⟩, htE, PySem.W.mg_none_of X G suE, ⟨_, _, _, jce2⟩, (by obtain ⟨cd, hc, _⟩ := PySem.W.any_some hd1; rw [hc]; rfl), jme2, jsu2, jft2, jfn2, tpE, by decide, ⟨_, rfl, rfl⟩⟩, a1⟩
  have D3 : KDef l.prog K mg "Lead" C2 C0 "Lead.__init__" s_Lead_init [("stops", V.ref tnA2)] := ⟨_, _, _, _, _, PySem.W.mg_of X G aC2, ⟨mk2, a3, i3, kc2⟩, ⟨⟨_, _, _, _, _, rfl, .inr ⟨_, rfl, fun q hq => by rcases List.mem_cons.mp hq with rfl | hq; exact ⟨_, jkw3_0, rfl⟩; cases hq⟩⟩, c3⟩, ⟨⟨_, _, _, l3⟩, ⟨_, _, _, _, _, _, jlc3, jvf3, jfl3⟩, htE, PySem.W.mg_none_of X G suE, ⟨_, _, _, jce3⟩, (by obtain ⟨cd, hc, _⟩ := PySem.W.any_some hd2; rw [hc]; rfl), jme3, jsu3, jft3, jfn3, tpE, by decide, ⟨_, rfl, rfl⟩⟩, a1⟩
  have D4 : CDef K mg "Grid" C3 "Grid.__init__" s_Grid_init [V.int 0] [] := cdef_Grid_init (PySem.W.mg_of X G aC3) ⟨mk3, a4, i4, kc3⟩ l4 c4 k4 t4
  have F5 := fun_mk (st := s_law_box) l5 c5 k5
  have b5 := F5.binds (ps := ["_law_script", "_law_at"]) fun _ _ _ _ _ _ us hl => match us, hl with | [_, _], _ => rfl
  have D5 : GDef K mg "_law_box" s_law_box ["_law_script", "_law_at"] := ⟨_, _, PySem.W.mg_of X G a5, F5, b5⟩
  have F6 := fun_mk (st := s_law_draw) l6 c6 k6
  have b6 := F6.binds (ps := ["_law_box_here", "_law_many"]) fun _ _ _ _ _ _ us hl => match us, hl with | [_, _], _ => rfl
  have D6 : GDef K mg "_law_draw" s_law_draw ["_law_box_here", "_law_many"] := ⟨_, _, PySem.W.mg_of X G a6, F6, b6⟩
  have F7 := fun_mk (st := s_law_int) l7 c7 k7
  have b7 := F7.binds (ps := ["_law_x"]) fun _ _ _ _ _ _ us hl => match us, hl with | [_], _ => rfl
  have D7 : GDef K mg "_law_int" s_law_int ["_law_x"] := ⟨_, _, PySem.W.mg_of X G a7, F7, b7⟩
  have F8 := fun_mk (st := s_law_same) l8 c8 k8
  have b8 := F8.binds (ps := ["_law_got", "_law_due"]) fun _ _ _ _ _ _ us hl => match us, hl with | [_, _], _ => rfl
  have D8 : GDef K mg "_law_same" s_law_same ["_law_got", "_law_due"] := ⟨_, _, PySem.W.mg_of X G a8, F8, b8⟩
  have F9 := fun_mk (st := s_law_name) l9 c9 k9
  have b9 := F9.binds (ps := ["_law_box_here", "_law_used"]) fun _ _ _ _ _ _ us hl => match us, hl with | [_, _], _ => rfl
  have D9 : GDef K mg "_law_name" s_law_name ["_law_box_here", "_law_used"] := ⟨_, _, PySem.W.mg_of X G a9, F9, b9⟩
  have F10 := fun_mk (st := s_law_signs) l10 c10 k10
  have b10 := F10.binds (ps := []) fun _ _ _ _ _ _ us hl => match us, hl with | [], _ => rfl
  have D10 : GDef K mg "_law_signs" s_law_signs [] := ⟨_, _, PySem.W.mg_of X G a10, F10, b10⟩
  have F11 := fun_mk (st := s_law_any_name) l11 c11 k11
  have b11 := F11.binds (ps := ["_law_box_here"]) fun _ _ _ _ _ _ us hl => match us, hl with | [_], _ => rfl
  have D11 : GDef K mg "_law_any_name" s_law_any_name ["_law_box_here"] := ⟨_, _, PySem.W.mg_of X G a11, F11, b11⟩
  have F12 := fun_mk (st := s_law_allowed) l12 c12 k12
  have b12 := F12.binds (ps := ["_law_name_here"]) fun _ _ _ _ _ _ us hl => match us, hl with | [_], _ => rfl
  have D12 : GDef K mg "_law_allowed" s_law_allowed ["_law_name_here"] := ⟨_, _, PySem.W.mg_of X G a12, F12, b12⟩
  have F13 := fun_mk (st := s_law_sign) l13 c13 k13
  have b13 := F13.binds (ps := ["_law_box_here"]) fun _ _ _ _ _ _ us hl => match us, hl with | [_], _ => rfl
  have D13 : GDef K mg "_law_sign" s_law_sign ["_law_box_here"] := ⟨_, _, PySem.W.mg_of X G a13, F13, b13⟩
  have F14 := fun_mk (st := s_law_bad_name) l14 c14 k14
  have b14 := F14.binds (ps := ["_law_box_here", "_law_name_here"]) fun _ _ _ _ _ _ us hl => match us, hl with | [_, _], _ => rfl
  have D14 : GDef K mg "_law_bad_name" s_law_bad_name ["_law_box_here", "_law_name_here"] := ⟨_, _, PySem.W.mg_of X G a14, F14, b14⟩
  have F15 := fun_mk (st := s_law_other_name) l15 c15 k15
  have b15 := F15.binds (ps := ["_law_box_here", "_law_name_here"]) fun _ _ _ _ _ _ us hl => match us, hl with | [_, _], _ => rfl
  have D15 : GDef K mg "_law_other_name" s_law_other_name ["_law_box_here", "_law_name_here"] := ⟨_, _, PySem.W.mg_of X G a15, F15, b15⟩
  have F16 := fun_mk (st := s_law_halts) l16 c16 k16
  have b16 := F16.binds (ps := ["_law_box_here"]) fun _ _ _ _ _ _ us hl => match us, hl with | [_], _ => rfl
  have D16 : GDef K mg "_law_halts" s_law_halts ["_law_box_here"] := ⟨_, _, PySem.W.mg_of X G a16, F16, b16⟩
  have F17 := fun_mk (st := s_law_first_twice) l17 c17 k17
  have b17 := F17.binds (ps := ["_law_names"]) fun _ _ _ _ _ _ us hl => match us, hl with | [_], _ => rfl
  have D17 : GDef K mg "_law_first_twice" s_law_first_twice ["_law_names"] := ⟨_, _, PySem.W.mg_of X G a17, F17, b17⟩
  have F18 := fun_mk (st := s_law_spoilt) l18 c18 k18
  have b18 := F18.binds (ps := ["_law_box_here", "_law_name_here", "_law_size", "_law_halts_here"]) fun _ _ _ _ _ _ us hl => match us, hl with | [_, _, _, _], _ => rfl
  have D18 : GDef K mg "_law_spoilt" s_law_spoilt ["_law_box_here", "_law_name_here", "_law_size", "_law_halts_here"] := ⟨_, _, PySem.W.mg_of X G a18, F18, b18⟩
  have F19 := fun_mk (st := s_law_refused) l19 c19 k19
  have b19 := F19.binds (ps := ["_law_name_here", "_law_launch", "_law_size", "_law_halts_here"]) fun _ _ _ _ _ _ us hl => match us, hl with | [_, _, _, _], _ => rfl
  have D19 : GDef K mg "_law_refused" s_law_refused ["_law_name_here", "_law_launch", "_law_size", "_law_halts_here"] := ⟨_, _, PySem.W.mg_of X G a19, F19, b19⟩
  have F20 := fun_mk (st := s_law_tried) l20 c20 k20
  have b20 := F20.binds (ps := ["_law_name_here", "_law_launch", "_law_kind"]) fun _ _ _ _ _ _ us hl => match us, hl with | [_, _, _], _ => rfl
  have D20 : GDef K mg "_law_tried" s_law_tried ["_law_name_here", "_law_launch", "_law_kind"] := ⟨_, _, PySem.W.mg_of X G a20, F20, b20⟩
  have F21 := fun_mk (st := s_law_keeps) l21 c21 k21
  have b21 := F21.binds (ps := ["_law_lead", "_law_name_here", "_law_step", "_law_offset", "_law_size", "_law_halts_here"]) fun _ _ _ _ _ _ us hl => match us, hl with | [_, _, _, _, _, _], _ => rfl
  have D21 : GDef K mg "_law_keeps" s_law_keeps ["_law_lead", "_law_name_here", "_law_step", "_law_offset", "_law_size", "_law_halts_here"] := ⟨_, _, PySem.W.mg_of X G a21, F21, b21⟩
  have F22 := fun_mk (st := s_law) l22 c22 k22
  have qc_Lead_PATIENCE : CCon K C2 "PATIENCE" (.int 64) := ⟨V.int 64, _, ⟨csr0, csg0⟩, ⟨cw0, ⟨_, rfl⟩⟩, fun _ => rfl⟩
  have qc_Clip_ROUNDS : CCon K C1 "ROUNDS" (.int 4) := ⟨V.int 4, _, ⟨csr1, csg1⟩, ⟨cw1, ⟨_, rfl⟩⟩, fun _ => rfl⟩
  refine ⟨PySem.W.fnOf "law" "law" (defArgs s_law) (defBody s_law) (defScope s_law) .none kV22 dc22 pm22 an22 cd22 ct22, fun s u => .of_eq rfl, fun base _ _ => ?_⟩
  have E_BadName : ErrI l.prog w K mg base "BadName" E1 ["name"] okAny := err_i1 (e := (.Constant (.str "invalid name") _ _)) (PySem.W.mg_of X G Ea1) ec1 El1 Eco_1 Elc1 Evf1 Efl1 htE (PySem.W.mg_none_of X G suE) Eii1 Eit1 Ef1_0 rfl (.str _ _ _ _) ⟨fun _ => rfl, fun _ => ⟨_, rfl⟩, fun _ => rfl⟩ (fun _ _ _ _ _ => True.intro) ⟨rfl, rfl, rfl, by decide +kernel, by decide +kernel, by decide +kernel, by decide +kernel, rfl, rfl, ⟨_, rfl⟩⟩ rfl rfl (by decide) (by decide) (fun us hl => match us, hl with | [_, _], _ => rfl)
  have E_BadNumber : ErrI l.prog w K mg base "BadNumber" E2 ["value"] okAny := err_i1 (e := (.Constant (.str "number out of range") _ _)) (PySem.W.mg_of X G Ea2) ec2 El2 Eco_2 Elc2 Evf2 Efl2 htE (PySem.W.mg_none_of X G suE) Eii2 Eit2 Ef2_0 rfl (.str _ _ _ _) ⟨fun _ => rfl, fun _ => ⟨_, rfl⟩, fun _ => rfl⟩ (fun _ _ _ _ _ => True.intro) ⟨rfl, rfl, rfl, by decide +kernel, by decide +kernel, by decide +kernel, by decide +kernel, rfl, rfl, ⟨_, rfl⟩⟩ rfl rfl (by decide) (by decide) (fun us hl => match us, hl with | [_, _], _ => rfl)
  have E_Twice : ErrI l.prog w K mg base "Twice" E3 ["name"] okAny := err_i1 (e := (.Constant (.str "name occurs twice") _ _)) (PySem.W.mg_of X G Ea3) ec3 El3 Eco_3 Elc3 Evf3 Efl3 htE (PySem.W.mg_none_of X G suE) Eii3 Eit3 Ef3_0 rfl (.str _ _ _ _) ⟨fun _ => rfl, fun _ => ⟨_, rfl⟩, fun _ => rfl⟩ (fun _ _ _ _ _ => True.intro) ⟨rfl, rfl, rfl, by decide +kernel, by decide +kernel, by decide +kernel, by decide +kernel, rfl, rfl, ⟨_, rfl⟩⟩ rfl rfl (by decide) (by decide) (fun us hl => match us, hl with | [_, _], _ => rfl)
  have o_check_name := ok_check_name (Z := (Ad.mk C0 C1 C2 C3 E0 E1 E2 0 E3 0 tnA tnA2 0)) (P := l.prog) (w := w) (base := base) D0 T E_BadName q_NAME_LENGTH q_LETTERS q_DIGITS
  have o_Sound_init := ok_Sound_init (Z := (Ad.mk C0 C1 C2 C3 E0 E1 E2 0 E3 0 tnA tnA2 0)) (P := l.prog) (w := w) (base := base) D1 T T_Sound T_Clip T_Lead o_check_name
  have o_Clip_init := ok_Clip_init (Z := (Ad.mk C0 C1 C2 C3 E0 E1 E2 0 E3 0 tnA tnA2 0)) (P := l.prog) (w := w) (base := base) D2 T T_Clip T_Sound o_Sound_init TN E_BadNumber
  have o_Lead_init := ok_Lead_init (Z := (Ad.mk C0 C1 C2 C3 E0 E1 E2 0 E3 0 tnA tnA2 0)) (P := l.prog) (w := w) (base := base) D3 T T_Lead T_Sound o_Sound_init TN2 E_BadNumber E_Twice
  have o_Grid_init := ok_Grid_init (Z := (Ad.mk C0 C1 C2 C3 E0 E1 E2 0 E3 0 tnA tnA2 0)) (P := l.prog) (w := w) (base := base) D4 T T_Grid E_BadNumber
  have o_law_box := ok_law_box (Z := (Ad.mk C0 C1 C2 C3 E0 E1 E2 0 E3 0 tnA tnA2 0)) (P := l.prog) (w := w) (base := base) D5 T 
  have o_law_draw := ok_law_draw (Z := (Ad.mk C0 C1 C2 C3 E0 E1 E2 0 E3 0 tnA tnA2 0)) (P := l.prog) (w := w) (base := base) D6 T 
  have o_law_int := ok_law_int (Z := (Ad.mk C0 C1 C2 C3 E0 E1 E2 0 E3 0 tnA tnA2 0)) (P := l.prog) (w := w) (base := base) D7 T 
  have o_law_same := ok_law_same (Z := (Ad.mk C0 C1 C2 C3 E0 E1 E2 0 E3 0 tnA tnA2 0)) (P := l.prog) (w := w) (base := base) D8 T o_law_int
  have o_law_name := ok_law_name (Z := (Ad.mk C0 C1 C2 C3 E0 E1 E2 0 E3 0 tnA tnA2 0)) (P := l.prog) (w := w) (base := base) D9 T o_law_draw
  have o_law_signs := ok_law_signs (Z := (Ad.mk C0 C1 C2 C3 E0 E1 E2 0 E3 0 tnA tnA2 0)) (P := l.prog) (w := w) (base := base) D10 T 
  have o_law_any_name := ok_law_any_name (Z := (Ad.mk C0 C1 C2 C3 E0 E1 E2 0 E3 0 tnA tnA2 0)) (P := l.prog) (w := w) (base := base) D11 T o_law_draw
  have o_law_allowed := ok_law_allowed (Z := (Ad.mk C0 C1 C2 C3 E0 E1 E2 0 E3 0 tnA tnA2 0)) (P := l.prog) (w := w) (base := base) D12 T 
  have o_law_sign := ok_law_sign (Z := (Ad.mk C0 C1 C2 C3 E0 E1 E2 0 E3 0 tnA tnA2 0)) (P := l.prog) (w := w) (base := base) D13 T o_law_draw o_law_signs
  have o_law_bad_name := ok_law_bad_name (Z := (Ad.mk C0 C1 C2 C3 E0 E1 E2 0 E3 0 tnA tnA2 0)) (P := l.prog) (w := w) (base := base) D14 T o_law_draw
  have o_law_other_name := ok_law_other_name (Z := (Ad.mk C0 C1 C2 C3 E0 E1 E2 0 E3 0 tnA tnA2 0)) (P := l.prog) (w := w) (base := base) D15 T o_law_draw o_law_signs o_law_any_name o_law_sign
  have o_law_halts := ok_law_halts (Z := (Ad.mk C0 C1 C2 C3 E0 E1 E2 0 E3 0 tnA tnA2 0)) (P := l.prog) (w := w) (base := base) D16 T o_law_draw o_law_name
  have o_law_first_twice := ok_law_first_twice (Z := (Ad.mk C0 C1 C2 C3 E0 E1 E2 0 E3 0 tnA tnA2 0)) (P := l.prog) (w := w) (base := base) D17 T 
  have o_law_spoilt := ok_law_spoilt (Z := (Ad.mk C0 C1 C2 C3 E0 E1 E2 0 E3 0 tnA tnA2 0)) (P := l.prog) (w := w) (base := base) D18 T o_law_draw o_law_bad_name o_law_name o_law_first_twice
  have o_law_refused := ok_law_refused (Z := (Ad.mk C0 C1 C2 C3 E0 E1 E2 0 E3 0 tnA tnA2 0)) (P := l.prog) (w := w) (base := base) D19 T T_Lead o_Lead_init TN2 RR
  have o_law_tried := ok_law_tried (Z := (Ad.mk C0 C1 C2 C3 E0 E1 E2 0 E3 0 tnA tnA2 0)) (P := l.prog) (w := w) (base := base) D20 T T_Sound T_Clip T_Lead T_Grid o_Sound_init o_Clip_init o_Lead_init o_Grid_init TN TN2 KT RR
  have o_law_keeps := ok_law_keeps (Z := (Ad.mk C0 C1 C2 C3 E0 E1 E2 0 E3 0 tnA tnA2 0)) (P := l.prog) (w := w) (base := base) D21 T T_Lead T_Sound T_Grid o_law_same o_Lead_init o_Sound_init o_Grid_init TN2 KT
  exact ok_law (Z := (Ad.mk C0 C1 C2 C3 E0 E1 E2 0 E3 0 tnA tnA2 0)) F22 T T_Lead T_Clip T_Grid T_Sound o_law_same o_law_box o_law_any_name o_law_draw o_law_halts o_law_keeps o_law_spoilt o_law_refused o_law_other_name o_law_allowed o_law_tried o_Lead_init o_Clip_init o_Grid_init TN TN2 qc_Lead_PATIENCE qc_Clip_ROUNDS
end K
open PySem PySem.W PyProof.Rows
set_option maxRecDepth 100000 in
set_option maxHeartbeats 0 in
theorem PySem.Challenge.cw_barclips_k21_lead_parts_holds : PySem.Challenge.rw_barclips_k21_lead_parts.Holds := by
  w_on; o_law; k_head; (case hw => w_witness2)
  k_fill
  refine Pd.law_walk (l := PySem.Challenge.rw_barclips_k21_lead_parts) (k := 10) (x := "_law_script") rfl rfl ⟨rfl, by decide, by decide⟩ (fun w h Y => PySem.W.kIn_of Y) ?F
  case F =>
    intro w mg fa h KX G hmg
    refine' K.all_mk KX G hmg ?aC0 ?pg0 ?hd0 ?po0 ?sa0 ?mk0 ?kc0 ?ha0 ?hm0 ?sf0 ?ni0 ?ii0 ?me0 ?nk0_0 ?nk0_1 ?nk0_2 ?nk0_3 ?nk0_4 ?nk0_5 ?nj0_0 ?nj0_1 ?nj0_2 ?nj0_3 ?nj0_4 ?nj0_5 ?nx0 ?na0_0 ?na0_1 ?aC1 ?pg1 ?hd1 ?po1 ?sa1 ?mk1 ?kc1 ?ha1 ?hm1 ?sf1 ?ni1 ?ii1 ?me1 ?nk1_0 ?nk1_1 ?nk1_2 ?nk1_3 ?nk1_4 ?nk1_5 ?nj1_0 ?nj1_1 ?nj1_2 ?nj1_3 ?nj1_4 ?nj1_5 ?nx1 ?kv1_0 ?kg1_0 ?na1_0 ?na1_1 ?na1_2 ?na1_3 ?na1_4 ?aC2 ?pg2 ?hd2 ?po2 ?sa2 ?mk2 ?kc2 ?ha2 ?hm2 ?sf2 ?ni2 ?ii2 ?me2 ?nk2_0 ?nk2_1 ?nk2_2 ?nk2_3 ?nk2_4 ?nk2_5 ?nj2_0 ?nj2_1 ?nj2_2 ?nj2_3 ?nj2_4 ?nj2_5 ?nx2 ?kv2_0 ?kg2_0 ?na2_0 ?na2_1 ?na2_2 ?na2_3 ?aC3 ?pg3 ?hd3 ?po3 ?sa3 ?mk3 ?kc3 ?ha3 ?hm3 ?sf3 ?ni3 ?ii3 ?me3 ?nk3_0 ?nk3_1 ?nk3_2 ?nk3_3 ?nk3_4 ?nk3_5 ?nj3_0 ?nj3_1 ?nj3_2 ?nj3_3 ?nj3_4 ?nj3_5 ?nx3 ?hs3_0 ?hs3_1 ?hs3_2 ?hs3_3 ?hs3_4 ?hs3_5 ?hs3_6 ?xs3_0 ?xs3_1 ?na3_0 ?na3_1 ?hnG ?htkG ?tpE ?suE ?htE ?Ea0 ?Ebe0 ?Ehd0 ?Ety0 ?Ea1 ?Ebe1 ?Ehd1 ?Ety1 ?Ega1 ?Egg1 ?Ehc1 ?Emo1 ?Ef1_0 ?Ec1 ?Erb1 ?Esa1 ?Ekp1 ?Eve1 ?Eme1 ?Esu1 ?Eii1 ?Eit1 ?El1 ?Eco_1 ?Elc1 ?Evf1 ?Efl1 ?Ecell1 ?Ea2 ?Ebe2 ?Ehd2 ?Ety2 ?Ega2 ?Egg2 ?Ehc2 ?Emo2 ?Ef2_0 ?Ec2 ?Erb2 ?Esa2 ?Ekp2 ?Eve2 ?Eme2 ?Esu2 ?Eii2 ?Eit2 ?El2 ?Eco_2 ?Elc2 ?Evf2 ?Efl2 ?Ecell2 ?Ea3 ?Ebe3 ?Ehd3 ?Ety3 ?Ega3 ?Egg3 ?Ehc3 ?Emo3 ?Ef3_0 ?Ec3 ?Erb3 ?Esa3 ?Ekp3 ?Eve3 ?Eme3 ?Esu3 ?Eii3 ?Eit3 ?El3 ?Eco_3 ?Elc3 ?Evf3 ?Efl3 ?Ecell3 ?Ex1_1 ?Ex1_2 ?Ex1_3 ?Ek1_0 ?Ek1_2 ?Ek1_3 ?Ek1_1 ?Ev1 ?Ex2_1 ?Ex2_2 ?Ex2_3 ?Ek2_0 ?Ek2_2 ?Ek2_3 ?Ek2_1 ?Ev2 ?Ex3_1 ?Ex3_2 ?Ex3_3 ?Ek3_0 ?Ek3_2 ?Ek3_3 ?Ek3_1 ?Ev3 ?qc_DIGITS ?qc_LETTERS ?qc_NAME_LENGTH ?kt_Sound_Clip ?kt_Sound_Lead ?kt_Sound_Grid ?kt_Clip_Sound ?kt_Clip_Lead ?kt_Clip_Grid ?kt_Lead_Sound ?kt_Lead_Clip ?kt_Lead_Grid ?kt_Grid_Sound ?kt_Grid_Clip ?kt_Grid_Lead ?a0 ?l0 ?c0 ?k0 ?a1 ?i1 ?l1 ?c1 ?k1 ?a2 ?i2 ?l2 ?c2 ?k2 ?jlc2 ?jvf2 ?jfl2 ?jce2 ?jme2 ?jsu2 ?jft2 ?jfn2 ?jkw2_0 ?jkw2_1 ?a3 ?i3 ?l3 ?c3 ?k3 ?jlc3 ?jvf3 ?jfl3 ?jce3 ?jme3 ?jsu3 ?jft3 ?jfn3 ?jkw3_0 ?a4 ?i4 ?l4 ?c4 ?k4 ?t4 ?a5 ?l5 ?c5 ?k5 ?a6 ?l6 ?c6 ?k6 ?a7 ?l7 ?c7 ?k7 ?a8 ?l8 ?c8 ?k8 ?a9 ?l9 ?c9 ?k9 ?a10 ?l10 ?c10 ?k10 ?a11 ?l11 ?c11 ?k11 ?a12 ?l12 ?c12 ?k12 ?a13 ?l13 ?c13 ?k13 ?a14 ?l14 ?c14 ?k14 ?a15 ?l15 ?c15 ?k15 ?a16 ?l16 ?c16 ?k16 ?a17 ?l17 ?c17 ?k17 ?a18 ?l18 ?c18 ?k18 ?a19 ?l19 ?c19 ?k19 ?a20 ?l20 ?c20 ?k20 ?a21 ?l21 ?c21 ?k21 ?a22 ?l22 ?c22 ?k22 ?csr0 ?csg0 ?cw0 ?csr1 ?csg1 ?cw1 ?tnl ?tnl2 ?z_len ?z_tuple ?z_abs ?z_int ?z_range ?z_str ?z_isinstance ?z_bool ?z_list ?z_ValueError
    (case aC0 => first | k_is | kit_is); (case pg0 => first | k_is | kit_is); (case hd0 => first | k_is | kit_is); (case po0 => first | k_is | kit_is); (case sa0 => first | k_is | kit_is); (case mk0 => first | k_is | kit_is)
    (case kc0 => first | k_is | kit_is); (case ha0 => first | k_is | kit_is); (case hm0 => first | k_is | kit_is); (case sf0 => first | k_is | kit_is); (case ni0 => first | k_is | kit_is); (case ii0 => first | k_is | kit_is)
    (case me0 => first | k_is | kit_is); (case nk0_0 => first | k_is | kit_is); (case nk0_1 => first | k_is | kit_is); (case nk0_2 => first | k_is | kit_is); (case nk0_3 => first | k_is | kit_is); (case nk0_4 => first | k_is | kit_is)
    (case nk0_5 => first | k_is | kit_is); (case nj0_0 => first | k_is | kit_is); (case nj0_1 => first | k_is | kit_is); (case nj0_2 => first | k_is | kit_is); (case nj0_3 => first | k_is | kit_is); (case nj0_4 => first | k_is | kit_is)
    (case nj0_5 => first | k_is | kit_is); (case nx0 => first | k_is | kit_is); (case na0_0 => first | k_is | kit_is); (case na0_1 => first | k_is | kit_is); (case aC1 => first | k_is | kit_is); (case pg1 => first | k_is | kit_is)
    (case hd1 => first | k_is | kit_is); (case po1 => first | k_is | kit_is); (case sa1 => first | k_is | kit_is); (case mk1 => first | k_is | kit_is); (case kc1 => first | k_is | kit_is); (case ha1 => first | k_is | kit_is)
    (case hm1 => first | k_is | kit_is); (case sf1 => first | k_is | kit_is); (case ni1 => first | k_is | kit_is); (case ii1 => first | k_is | kit_is); (case me1 => first | k_is | kit_is); (case nk1_0 => first | k_is | kit_is)
    (case nk1_1 => first | k_is | kit_is); (case nk1_2 => first | k_is | kit_is); (case nk1_3 => first | k_is | kit_is); (case nk1_4 => first | k_is | kit_is); (case nk1_5 => first | k_is | kit_is); (case nj1_0 => first | k_is | kit_is)
    (case nj1_1 => first | k_is | kit_is); (case nj1_2 => first | k_is | kit_is); (case nj1_3 => first | k_is | kit_is); (case nj1_4 => first | k_is | kit_is); (case nj1_5 => first | k_is | kit_is); (case nx1 => first | k_is | kit_is)
    (case kv1_0 => first | k_is | kit_is); (case kg1_0 => first | k_is | kit_is); (case na1_0 => first | k_is | kit_is); (case na1_1 => first | k_is | kit_is); (case na1_2 => first | k_is | kit_is); (case na1_3 => first | k_is | kit_is)
    (case na1_4 => first | k_is | kit_is); (case aC2 => first | k_is | kit_is); (case pg2 => first | k_is | kit_is); (case hd2 => first | k_is | kit_is); (case po2 => first | k_is | kit_is); (case sa2 => first | k_is | kit_is)
    (case mk2 => first | k_is | kit_is); (case kc2 => first | k_is | kit_is); (case ha2 => first | k_is | kit_is); (case hm2 => first | k_is | kit_is); (case sf2 => first | k_is | kit_is); (case ni2 => first | k_is | kit_is)
    (case ii2 => first | k_is | kit_is); (case me2 => first | k_is | kit_is); (case nk2_0 => first | k_is | kit_is); (case nk2_1 => first | k_is | kit_is); (case nk2_2 => first | k_is | kit_is); (case nk2_3 => first | k_is | kit_is)
    (case nk2_4 => first | k_is | kit_is); (case nk2_5 => first | k_is | kit_is); (case nj2_0 => first | k_is | kit_is); (case nj2_1 => first | k_is | kit_is); (case nj2_2 => first | k_is | kit_is); (case nj2_3 => first | k_is | kit_is)
    (case nj2_4 => first | k_is | kit_is); (case nj2_5 => first | k_is | kit_is); (case nx2 => first | k_is | kit_is); (case kv2_0 => first | k_is | kit_is); (case kg2_0 => first | k_is | kit_is); (case na2_0 => first | k_is | kit_is)
    (case na2_1 => first | k_is | kit_is); (case na2_2 => first | k_is | kit_is); (case na2_3 => first | k_is | kit_is); (case aC3 => first | k_is | kit_is); (case pg3 => first | k_is | kit_is); (case hd3 => first | k_is | kit_is)
    (case po3 => first | k_is | kit_is); (case sa3 => first | k_is | kit_is); (case mk3 => first | k_is | kit_is); (case kc3 => first | k_is | kit_is); (case ha3 => first | k_is | kit_is); (case hm3 => first | k_is | kit_is)
    (case sf3 => first | k_is | kit_is); (case ni3 => first | k_is | kit_is); (case ii3 => first | k_is | kit_is); (case me3 => first | k_is | kit_is); (case nk3_0 => first | k_is | kit_is); (case nk3_1 => first | k_is | kit_is)
    (case nk3_2 => first | k_is | kit_is); (case nk3_3 => first | k_is | kit_is); (case nk3_4 => first | k_is | kit_is); (case nk3_5 => first | k_is | kit_is); (case nj3_0 => first | k_is | kit_is); (case nj3_1 => first | k_is | kit_is)
    (case nj3_2 => first | k_is | kit_is); (case nj3_3 => first | k_is | kit_is); (case nj3_4 => first | k_is | kit_is); (case nj3_5 => first | k_is | kit_is); (case nx3 => first | k_is | kit_is); (case hs3_0 => first | k_is | kit_is)
    (case hs3_1 => first | k_is | kit_is); (case hs3_2 => first | k_is | kit_is); (case hs3_3 => first | k_is | kit_is); (case hs3_4 => first | k_is | kit_is); (case hs3_5 => first | k_is | kit_is); (case hs3_6 => first | k_is | kit_is)
    (case xs3_0 => first | k_is | kit_is); (case xs3_1 => first | k_is | kit_is); (case na3_0 => first | k_is | kit_is); (case na3_1 => first | k_is | kit_is); (case hnG => first | k_is | kit_is); (case htkG => first | k_is | kit_is)
    (case tpE => first | k_is | kit_is); (case suE => first | k_is | kit_is); (case htE => rfl); (case Ea0 => first | k_is | kit_is); (case Ebe0 => first | k_is | kit_is); (case Ehd0 => first | k_is | kit_is)
    (case Ety0 => first | k_is | kit_is); (case Ea1 => first | k_is | kit_is); (case Ebe1 => first | k_is | kit_is); (case Ehd1 => first | k_is | kit_is); (case Ety1 => first | k_is | kit_is); (case Ega1 => first | k_is | kit_is)
    (case Egg1 => first | k_is | kit_is); (case Ehc1 => first | k_is | kit_is); (case Emo1 => first | k_is | kit_is); (case Ef1_0 => first | k_is | kit_is); (case Ec1 => first | k_is | kit_is); (case Erb1 => decide +kernel)
    (case Esa1 => first | k_is | kit_is); (case Ekp1 => first | k_is | kit_is); (case Eve1 => first | k_is | kit_is); (case Eme1 => first | k_is | kit_is); (case Esu1 => ks_is); (case Eii1 => first | k_is | kit_is)
    (case Eit1 => first | k_is | kit_is); (case El1 => first | k_is | kit_is); (case Eco_1 => first | k_is | kit_is); (case Elc1 => first | k_is | kit_is); (case Evf1 => rfl); (case Efl1 => first | rfl | decide +kernel)
    (case Ecell1 => first | k_is | kit_is); (case Ea2 => first | k_is | kit_is); (case Ebe2 => first | k_is | kit_is); (case Ehd2 => first | k_is | kit_is); (case Ety2 => first | k_is | kit_is); (case Ega2 => first | k_is | kit_is)
    (case Egg2 => first | k_is | kit_is); (case Ehc2 => first | k_is | kit_is); (case Emo2 => first | k_is | kit_is); (case Ef2_0 => first | k_is | kit_is); (case Ec2 => first | k_is | kit_is); (case Erb2 => decide +kernel)
    (case Esa2 => first | k_is | kit_is); (case Ekp2 => first | k_is | kit_is); (case Eve2 => first | k_is | kit_is); (case Eme2 => first | k_is | kit_is); (case Esu2 => ks_is); (case Eii2 => first | k_is | kit_is)
    (case Eit2 => first | k_is | kit_is); (case El2 => first | k_is | kit_is); (case Eco_2 => first | k_is | kit_is); (case Elc2 => first | k_is | kit_is); (case Evf2 => rfl); (case Efl2 => first | rfl | decide +kernel)
    (case Ecell2 => first | k_is | kit_is); (case Ea3 => first | k_is | kit_is); (case Ebe3 => first | k_is | kit_is); (case Ehd3 => first | k_is | kit_is); (case Ety3 => first | k_is | kit_is); (case Ega3 => first | k_is | kit_is)
    (case Egg3 => first | k_is | kit_is); (case Ehc3 => first | k_is | kit_is); (case Emo3 => first | k_is | kit_is); (case Ef3_0 => first | k_is | kit_is); (case Ec3 => first | k_is | kit_is); (case Erb3 => decide +kernel)
    (case Esa3 => first | k_is | kit_is); (case Ekp3 => first | k_is | kit_is); (case Eve3 => first | k_is | kit_is); (case Eme3 => first | k_is | kit_is); (case Esu3 => ks_is); (case Eii3 => first | k_is | kit_is)
    (case Eit3 => first | k_is | kit_is); (case El3 => first | k_is | kit_is); (case Eco_3 => first | k_is | kit_is); (case Elc3 => first | k_is | kit_is); (case Evf3 => rfl); (case Efl3 => first | rfl | decide +kernel)
    (case Ecell3 => first | k_is | kit_is); (case Ex1_1 => first | k_is | kit_is); (case Ex1_2 => first | k_is | kit_is); (case Ex1_3 => first | k_is | kit_is); (case Ek1_0 => first | k_is | kit_is); (case Ek1_2 => first | k_is | kit_is)
    (case Ek1_3 => first | k_is | kit_is); (case Ek1_1 => first | k_is | kit_is); (case Ev1 => first | k_is | kit_is); (case Ex2_1 => first | k_is | kit_is); (case Ex2_2 => first | k_is | kit_is); (case Ex2_3 => first | k_is | kit_is)
    (case Ek2_0 => first | k_is | kit_is); (case Ek2_2 => first | k_is | kit_is); (case Ek2_3 => first | k_is | kit_is); (case Ek2_1 => first | k_is | kit_is); (case Ev2 => first | k_is | kit_is); (case Ex3_1 => first | k_is | kit_is)
    (case Ex3_2 => first | k_is | kit_is); (case Ex3_3 => first | k_is | kit_is); (case Ek3_0 => first | k_is | kit_is); (case Ek3_2 => first | k_is | kit_is); (case Ek3_3 => first | k_is | kit_is); (case Ek3_1 => first | k_is | kit_is)
    (case Ev3 => first | k_is | kit_is); (case qc_DIGITS => first | k_is | kit_is); (case qc_LETTERS => first | k_is | kit_is); (case qc_NAME_LENGTH => first | k_is | kit_is); (case kt_Sound_Clip => first | k_is | kit_is); (case kt_Sound_Lead => first | k_is | kit_is)
    (case kt_Sound_Grid => first | k_is | kit_is); (case kt_Clip_Sound => first | k_is | kit_is); (case kt_Clip_Lead => first | k_is | kit_is); (case kt_Clip_Grid => first | k_is | kit_is); (case kt_Lead_Sound => first | k_is | kit_is); (case kt_Lead_Clip => first | k_is | kit_is)
    (case kt_Lead_Grid => first | k_is | kit_is); (case kt_Grid_Sound => first | k_is | kit_is); (case kt_Grid_Clip => first | k_is | kit_is); (case kt_Grid_Lead => first | k_is | kit_is); (case a0 => first | k_is | kit_is); (case l0 => first | k_is | kit_is)
    (case c0 => first | k_is | kit_is); (case k0 => first | k_is | kit_is); (case a1 => first | k_is | kit_is); (case i1 => first | k_is | kit_is); (case l1 => first | k_is | kit_is); (case c1 => first | k_is | kit_is)
    (case k1 => first | k_is | kit_is); (case a2 => first | k_is | kit_is); (case i2 => first | k_is | kit_is); (case l2 => first | k_is | kit_is); (case c2 => first | k_is | kit_is); (case k2 => first | k_is | kit_is)
    (case jlc2 => first | k_is | kit_is); (case jvf2 => rfl); (case jfl2 => first | rfl | decide +kernel); (case jce2 => first | k_is | kit_is); (case jme2 => first | k_is | kit_is); (case jsu2 => ks_is)
    (case jft2 => first | k_is | kit_is); (case jfn2 => first | k_is | kit_is); (case jkw2_0 => first | k_is | kit_is); (case jkw2_1 => first | k_is | kit_is); (case a3 => first | k_is | kit_is); (case i3 => first | k_is | kit_is)
    (case l3 => first | k_is | kit_is); (case c3 => first | k_is | kit_is); (case k3 => first | k_is | kit_is); (case jlc3 => first | k_is | kit_is); (case jvf3 => rfl); (case jfl3 => first | rfl | decide +kernel)
    (case jce3 => first | k_is | kit_is); (case jme3 => first | k_is | kit_is); (case jsu3 => ks_is); (case jft3 => first | k_is | kit_is); (case jfn3 => first | k_is | kit_is); (case jkw3_0 => first | k_is | kit_is)
    (case a4 => first | k_is | kit_is); (case i4 => first | k_is | kit_is); (case l4 => first | k_is | kit_is); (case c4 => first | k_is | kit_is); (case k4 => first | k_is | kit_is); (case t4 => first | k_is | kit_is)
    (case a5 => first | k_is | kit_is); (case l5 => first | k_is | kit_is); (case c5 => first | k_is | kit_is); (case k5 => first | k_is | kit_is); (case a6 => first | k_is | kit_is); (case l6 => first | k_is | kit_is)
    (case c6 => first | k_is | kit_is); (case k6 => first | k_is | kit_is); (case a7 => first | k_is | kit_is); (case l7 => first | k_is | kit_is); (case c7 => first | k_is | kit_is); (case k7 => first | k_is | kit_is)
    (case a8 => first | k_is | kit_is); (case l8 => first | k_is | kit_is); (case c8 => first | k_is | kit_is); (case k8 => first | k_is | kit_is); (case a9 => first | k_is | kit_is); (case l9 => first | k_is | kit_is)
    (case c9 => first | k_is | kit_is); (case k9 => first | k_is | kit_is); (case a10 => first | k_is | kit_is); (case l10 => first | k_is | kit_is); (case c10 => first | k_is | kit_is); (case k10 => first | k_is | kit_is)
    (case a11 => first | k_is | kit_is); (case l11 => first | k_is | kit_is); (case c11 => first | k_is | kit_is); (case k11 => first | k_is | kit_is); (case a12 => first | k_is | kit_is); (case l12 => first | k_is | kit_is)
    (case c12 => first | k_is | kit_is); (case k12 => first | k_is | kit_is); (case a13 => first | k_is | kit_is); (case l13 => first | k_is | kit_is); (case c13 => first | k_is | kit_is); (case k13 => first | k_is | kit_is)
    (case a14 => first | k_is | kit_is); (case l14 => first | k_is | kit_is); (case c14 => first | k_is | kit_is); (case k14 => first | k_is | kit_is); (case a15 => first | k_is | kit_is); (case l15 => first | k_is | kit_is)
    (case c15 => first | k_is | kit_is); (case k15 => first | k_is | kit_is); (case a16 => first | k_is | kit_is); (case l16 => first | k_is | kit_is); (case c16 => first | k_is | kit_is); (case k16 => first | k_is | kit_is)
    (case a17 => first | k_is | kit_is); (case l17 => first | k_is | kit_is); (case c17 => first | k_is | kit_is); (case k17 => first | k_is | kit_is); (case a18 => first | k_is | kit_is); (case l18 => first | k_is | kit_is)
    (case c18 => first | k_is | kit_is); (case k18 => first | k_is | kit_is); (case a19 => first | k_is | kit_is); (case l19 => first | k_is | kit_is); (case c19 => first | k_is | kit_is); (case k19 => first | k_is | kit_is)
    (case a20 => first | k_is | kit_is); (case l20 => first | k_is | kit_is); (case c20 => first | k_is | kit_is); (case k20 => first | k_is | kit_is); (case a21 => first | k_is | kit_is); (case l21 => first | k_is | kit_is)
    (case c21 => first | k_is | kit_is); (case k21 => first | k_is | kit_is); (case a22 => first | k_is | kit_is); (case l22 => first | k_is | kit_is); (case c22 => first | k_is | kit_is); (case k22 => first | k_is | kit_is)
    (case csr0 => first | k_is | kit_is); (case csg0 => first | k_is | kit_is); (case cw0 => first | k_is | kit_is); (case csr1 => first | k_is | kit_is); (case csg1 => first | k_is | kit_is); (case cw1 => first | k_is | kit_is)
    (case tnl => first | k_is | kit_is); (case tnl2 => first | k_is | kit_is); (case z_len => first | k_is | kit_is); (case z_tuple => first | k_is | kit_is); (case z_abs => first | k_is | kit_is); (case z_int => first | k_is | kit_is)
    (case z_range => first | k_is | kit_is); (case z_str => first | k_is | kit_is); (case z_isinstance => first | k_is | kit_is); (case z_bool => first | k_is | kit_is); (case z_list => first | k_is | kit_is); (case z_ValueError => first | k_is | kit_is)
