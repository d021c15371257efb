import PyProof.Rows.All
import Wide.All
import OpenK.AllK
import Wide.FinOn
import HandS.ForMost
import HandS.Flow
import HandS.Wide
import HandS.TupAny
import HandS.TupMul
import HandS.TupLe
import HandS.Zip
import HandS.FStr
import HandS.IsInst
import HandS.Style
import HandS.NoneIn
import PyProof.Rows.NestShow
import PyProof.ConsumeWalk
import PyProof.WalksMore
import HandS.StrMore
import HandS.Replace
import PyProof.Rows.SumAny
import PyProof.Rows.StrCountLaw
import KE.GoesZip
import KE.GoesMore
import KE.GoesEnum
import PyProof.ReprLen
import PySem.Challenge.RW_everycount_k05_letters_at_places
set_option Elab.async false
set_option linter.all false
set_option maxRecDepth 100000
/-! the data layer: immutable data as values, lists by address, and what stands for them in the heap -/
namespace G57
open PySem L2
inductive D where
  | non | bl (b : Bool) | int (i : Int) | str (x : List Nat) | tup (ds : List D) | rol (ds : List D) | ref (a : Addr)
inductive Ob where
  | lst (ds : List D)
abbrev Sto := Addr → Option Ob
def put (S : Sto) (a : Addr) (o : Ob) : Sto := fun b => if b = a then some o else S b
theorem put_same {S : Sto} {a : Addr} {o : Ob} : put S a o a = some o := if_pos rfl
theorem put_ne {S : Sto} {a b : Addr} {o : Ob} (h : b ≠ a) : put S a o b = S b := if_neg h
theorem put_put {S : Sto} {a : Addr} {o u : Ob} : put (put S a o) a u = put S a u := by
  funext b; unfold put; split <;> rfl
/-- a list that nobody changes -/
def SqF (K : PySem.W.Frag) (H : Hp) (a : Addr) (xs : List V) : Prop :=
  (∃ o, H a = some (.frz o (.lst xs))) ∨ ∀ H' : Hp, SqL K H' a xs
theorem SqF.sq {K : PySem.W.Frag} {H : Hp} {a : Addr} {xs : List V} (h : SqF K H a xs) : SqL K H a xs := by
  rcases h with ⟨o, h⟩ | h
  · exact .inl (.inr ⟨o, h⟩)
  · exact h H
mutual
def Rep (K : PySem.W.Frag) (H : Hp) : D → V → Prop
  | .non, v => v = .non
  | .bl b, v => v = .bl b
  | .int i, v => v = .int i
  | .str x, v => v = .str ⟨x.toArray⟩
  | .ref a, v => v = .ref a
  | .tup ds, v => ∃ a vs, v = .ref a ∧ SqT K H a vs ∧ Reps K H ds vs
  | .rol ds, v => ∃ a vs, v = .ref a ∧ SqF K H a vs ∧ Reps K H ds vs
def Reps (K : PySem.W.Frag) (H : Hp) : List D → List V → Prop
  | [], vs => vs = []
  | d :: ds, vs => ∃ v r, vs = v :: r ∧ Rep K H d v ∧ Reps K H ds r
end
/-- tuples and locked things stay -/
def Keep (H H' : Hp) : Prop := (∀ a xs, H a = some (.tup xs) → H' a = some (.tup xs)) ∧ ∀ a o u, H a = some (.frz o u) → H' a = some (.frz o u)
theorem Keep.refl {H : Hp} : Keep H H := ⟨fun _ _ e => e, fun _ _ _ e => e⟩
theorem Keep.trans {H H1 H2 : Hp} (a : Keep H H1) (b : Keep H1 H2) : Keep H H2 := ⟨fun _ _ e => b.1 _ _ (a.1 _ _ e), fun _ _ _ e => b.2 _ _ _ (a.2 _ _ _ e)⟩
theorem Keep.new {H : Hp} {p : Addr} {o : HO} (h : H p = none) : Keep H (upd H p o) :=
  ⟨fun _ _ e => by rw [upd_ne (ne_of_none e h)]; exact e, fun _ _ _ e => by rw [upd_ne (ne_of_none e h)]; exact e⟩
theorem Keep.lst {H : Hp} {p : Addr} {xs : List V} {o : HO} (h : H p = some (.lst xs)) : Keep H (upd H p o) :=
  ⟨fun _ _ e => by rw [upd_ne (ne_of e h (by intro z; cases z))]; exact e, fun _ _ _ e => by rw [upd_ne (ne_of e h (by intro z; cases z))]; exact e⟩
theorem Keep.sqt {K : PySem.W.Frag} {H H' : Hp} {a : Addr} {xs : List V} (k : Keep H H') (h : SqT K H a xs) : SqT K H' a xs := by
  rcases h with (h | ⟨o, h⟩) | h
  · exact .inl (.inl (k.1 _ _ h))
  · exact .inl (.inr ⟨o, k.2 _ _ _ h⟩)
  · exact .inr h
theorem Keep.sqf {K : PySem.W.Frag} {H H' : Hp} {a : Addr} {xs : List V} (k : Keep H H') (h : SqF K H a xs) : SqF K H' a xs := by
  rcases h with ⟨o, h⟩ | h
  · exact .inl ⟨o, k.2 _ _ _ h⟩
  · exact .inr h
mutual
theorem Rep.mono {K : PySem.W.Frag} {H H' : Hp} (k : Keep H H') : ∀ {d : D} {v : V}, Rep K H d v → Rep K H' d v
  | .non, _, h | .bl _, _, h | .int _, _, h | .str _, _, h | .ref _, _, h => by simpa only [Rep] using h
  | .tup ds, v, h => by
    simp only [Rep] at h ⊢
    obtain ⟨a, vs, e, q, r⟩ := h
    exact ⟨a, vs, e, k.sqt q, Reps.mono k r⟩
  | .rol ds, v, h => by
    simp only [Rep] at h ⊢
    obtain ⟨a, vs, e, q, r⟩ := h
    exact ⟨a, vs, e, k.sqf q, Reps.mono k r⟩
theorem Reps.mono {K : PySem.W.Frag} {H H' : Hp} (k : Keep H H') : ∀ {ds : List D} {vs : List V}, Reps K H ds vs → Reps K H' ds vs
  | [], _, h => by simpa only [Reps] using h
  | d :: ds, vs, h => by
    simp only [Reps] at h ⊢
    obtain ⟨v, r, e, q, t⟩ := h
    exact ⟨v, r, e, Rep.mono k q, Reps.mono k t⟩
end
/-- the lists that are told -/
def StoOk (K : PySem.W.Frag) (H : Hp) (S : Sto) : Prop := ∀ a o, S a = some o → match o with
  | .lst ds => ∃ vs, H a = some (.lst vs) ∧ Reps K H ds vs
abbrev En := List (Option D)
def RelE (K : PySem.W.Frag) (H : Hp) (env : En) (σ : L2.St) : Prop := env.length = σ.length ∧ ∀ (i : Nat) (d : D), env[i]? = some (some d) → ∃ v : V, σ[i]? = some (some v) ∧ Rep K H d v
theorem RelE.mono {K : PySem.W.Frag} {H H' : Hp} {env : En} {σ : L2.St} (k : Keep H H') (h : RelE K H env σ) : RelE K H' env σ :=
  ⟨h.1, fun i d e => let ⟨v, q, r⟩ := h.2 i d e; ⟨v, q, r.mono k⟩⟩
theorem RelE.set {K : PySem.W.Frag} {H : Hp} {env : En} {σ : L2.St} {i : Nat} {d : D} {v : V} (h : RelE K H env σ) (r : Rep K H d v) : RelE K H (env.set i (some d)) (σ.set i (some v)) := by
  refine ⟨by simp [h.1], fun j e q => ?_⟩
  by_cases hj : i = j
  · subst hj
    by_cases hi : i < env.length
    · rw [List.getElem?_set_self hi] at q
      cases q
      exact ⟨v, List.getElem?_set_self (by rw [← h.1]; exact hi), r⟩
    · rw [List.getElem?_eq_none (by simpa using hi)] at q; cases q
  · rw [List.getElem?_set_ne hj] at q ⊢
    exact h.2 j e q
theorem StoOk.fresh {K : PySem.W.Frag} {H : Hp} {S : Sto} (h : StoOk K H S) {p : Addr} (e : H p = none) : S p = none := by
  cases q : S p with
  | none => rfl
  | some o =>
    have := h p o q
    cases o
    obtain ⟨vs, z, _⟩ := this
    rw [e] at z; cases z
/-- a new thing that is no list of the store -/
theorem StoOk.new {K : PySem.W.Frag} {H : Hp} {S : Sto} (h : StoOk K H S) {p : Addr} {o : HO} (e : H p = none) : StoOk K (upd H p o) S := fun a ob q => by
  have := h a ob q
  cases ob
  obtain ⟨vs, z, r⟩ := this
  exact ⟨vs, by rw [upd_ne (ne_of_none z e)]; exact z, r.mono (Keep.new e)⟩
theorem StoOk.newL {K : PySem.W.Frag} {H : Hp} {S : Sto} (h : StoOk K H S) {p : Addr} {ds : List D} {vs : List V} (e : H p = none) (r : Reps K H ds vs) : StoOk K (upd H p (.lst vs)) (put S p (.lst ds)) := fun a ob q => by
  by_cases ha : a = p
  · subst ha
    rw [put_same] at q; cases q
    exact ⟨vs, upd_same, r.mono (Keep.new e)⟩
  · rw [put_ne ha] at q
    exact h.new e a ob q
theorem StoOk.write {K : PySem.W.Frag} {H : Hp} {S : Sto} (h : StoOk K H S) {p : Addr} {ds : List D} {us vs : List V} (e : H p = some (.lst us)) (r : Reps K H ds vs) : StoOk K (upd H p (.lst vs)) (put S p (.lst ds)) := fun a ob q => by
  by_cases ha : a = p
  · subst ha
    rw [put_same] at q; cases q
    exact ⟨vs, upd_same, r.mono (Keep.lst e)⟩
  · rw [put_ne ha] at q
    have := h a ob q
    cases ob
    obtain ⟨ws, z, t⟩ := this
    exact ⟨ws, by rw [upd_ne ha]; exact z, t.mono (Keep.lst e)⟩
/-! ### lists of data -/
section
variable {K : PySem.W.Frag} {H : Hp}
theorem Reps.length : ∀ {ds : List D} {vs : List V}, Reps K H ds vs → ds.length = vs.length
  | [], _, h => by simp only [Reps] at h; rw [h]; rfl
  | d :: ds, vs, h => by
    simp only [Reps] at h
    obtain ⟨v, r, e, _, t⟩ := h
    rw [e, List.length_cons, List.length_cons, t.length]
theorem Reps.nil : Reps K H [] [] := by simp only [Reps]
theorem Reps.cons {d : D} {v : V} {ds : List D} {vs : List V} (a : Rep K H d v) (b : Reps K H ds vs) : Reps K H (d :: ds) (v :: vs) := by simp only [Reps]; exact ⟨v, vs, rfl, a, b⟩
theorem Reps.inv {d : D} {v : V} {ds : List D} {vs : List V} (h : Reps K H (d :: ds) (v :: vs)) : Rep K H d v ∧ Reps K H ds vs := by
  simp only [Reps] at h
  obtain ⟨_, _, e, a, b⟩ := h
  cases e
  exact ⟨a, b⟩
theorem Reps.get : ∀ {ds : List D} {vs : List V} {i : Nat} {d : D}, Reps K H ds vs → ds[i]? = some d → ∃ v, vs[i]? = some v ∧ Rep K H d v
  | [], _, _, _, _, e => by simp at e
  | d :: ds, v :: vs, 0, _, h, e => by simp at e; subst e; exact ⟨v, rfl, h.inv.1⟩
  | d :: ds, v :: vs, i + 1, _, h, e => by
    simp at e
    obtain ⟨x, q, r⟩ := Reps.get h.inv.2 e
    exact ⟨x, by simpa using q, r⟩
  | d :: ds, [], _, _, h, _ => by simp only [Reps] at h; obtain ⟨_, _, e, _⟩ := h; cases e
theorem Reps.append : ∀ {ds es : List D} {vs us : List V}, Reps K H ds vs → Reps K H es us → Reps K H (ds ++ es) (vs ++ us)
  | [], _, _, _, h, g => by simp only [Reps] at h; subst h; exact g
  | d :: ds, _, v :: vs, _, h, g => .cons h.inv.1 (h.inv.2.append g)
  | d :: ds, _, [], _, h, _ => by simp only [Reps] at h; obtain ⟨_, _, e, _⟩ := h; cases e
theorem Reps.take : ∀ {ds : List D} {vs : List V} (n : Nat), Reps K H ds vs → Reps K H (ds.take n) (vs.take n)
  | _, _, 0, _ => by simp only [List.take_zero]; exact .nil
  | [], _, n + 1, h => by simp only [Reps] at h; subst h; exact .nil
  | d :: ds, v :: vs, n + 1, h => .cons h.inv.1 (h.inv.2.take n)
  | d :: ds, [], _, h => by simp only [Reps] at h; obtain ⟨_, _, e, _⟩ := h; cases e
theorem Reps.drop : ∀ {ds : List D} {vs : List V} (n : Nat), Reps K H ds vs → Reps K H (ds.drop n) (vs.drop n)
  | _, _, 0, h => h
  | [], _, n + 1, h => by simp only [Reps] at h; subst h; exact .nil
  | d :: ds, v :: vs, n + 1, h => h.inv.2.drop n
  | d :: ds, [], _, h => by simp only [Reps] at h; obtain ⟨_, _, e, _⟩ := h; cases e
theorem Reps.set : ∀ {ds : List D} {vs : List V} {d : D} {v : V} (n : Nat), Reps K H ds vs → Rep K H d v → Reps K H (ds.set n d) (vs.set n v)
  | [], _, _, _, _, h, _ => by simp only [Reps] at h; subst h; exact .nil
  | d :: ds, v :: vs, _, _, 0, h, r => .cons r h.inv.2
  | d :: ds, v :: vs, _, _, n + 1, h, r => .cons h.inv.1 (h.inv.2.set n r)
  | d :: ds, [], _, _, _, h, _ => by simp only [Reps] at h; obtain ⟨_, _, e, _⟩ := h; cases e
theorem Reps.rep {ds : List D} {vs : List V} (h : Reps K H ds vs) : ∀ n : Nat, Reps K H (List.replicate n ds).flatten (List.replicate n vs).flatten
  | 0 => .nil
  | n + 1 => by rw [List.replicate_succ, List.replicate_succ, List.flatten_cons, List.flatten_cons]; exact h.append (h.rep n)
theorem Reps.reverse : ∀ {ds : List D} {vs : List V}, Reps K H ds vs → Reps K H ds.reverse vs.reverse
  | [], _, h => by simp only [Reps] at h; subst h; exact .nil
  | d :: ds, v :: vs, h => by rw [List.reverse_cons, List.reverse_cons]; exact h.inv.2.reverse.append (.cons h.inv.1 .nil)
  | d :: ds, [], h => by simp only [Reps] at h; obtain ⟨_, _, e, _⟩ := h; cases e
end
/-! ### readings over data -/
abbrev DK := D → Sto → Prop
abbrev TD := En → Sto → DK → Prop
abbrev TBD := En → Sto → (Bool → Sto → Prop) → Prop
abbrev TAD := En → Sto → (List D → Sto → Prop) → Prop
def Lv (K : PySem.W.Frag) (H : Hp) (Qd : DK) (Q : VK) : Prop := ∀ d S' v H', Qd d S' → Keep H H' → Rep K H' d v → StoOk K H' S' → Q v H'
def liftE (K : PySem.W.Frag) (t : TD) : TE := fun σ H Q => ∃ env S Qd, RelE K H env σ ∧ StoOk K H S ∧ t env S Qd ∧ Lv K H Qd Q
def liftT (K : PySem.W.Frag) (t : TBD) : TT := fun σ H Q => ∃ env S, ∃ Qd : Bool → Sto → Prop, RelE K H env σ ∧ StoOk K H S ∧ t env S Qd ∧ ∀ b S' H', Qd b S' → Keep H H' → StoOk K H' S' → Q b H'
def liftA (K : PySem.W.Frag) (t : TAD) : TA := fun σ H Q => ∃ env S, ∃ Qd : List D → Sto → Prop, RelE K H env σ ∧ StoOk K H S ∧ t env S Qd ∧ ∀ ds S' vs H', Qd ds S' → Keep H H' → Reps K H' ds vs → StoOk K H' S' → Q vs H'
theorem _root_.L2.PE.weak {X : Cx} {e : Expr} {t t' : TE} (h : PE X e t) (w : ∀ σ H Q, t' σ H Q → t σ H Q) : PE X e t' := ⟨fun pins s σ H Q I q => h.run pins s σ H Q I (w σ H Q q)⟩
theorem _root_.L2.PT.weak {X : Cx} {e : Expr} {t t' : TT} (h : PT X e t) (w : ∀ σ H Q, t' σ H Q → t σ H Q) : PT X e t' := ⟨fun pins s σ H Q I q => h.run pins s σ H Q I (w σ H Q q)⟩
theorem _root_.L2.PA.weak {X : Cx} {e : List Expr} {t t' : TA} (h : PA X e t) (w : ∀ σ H Q, t' σ H Q → t σ H Q) : PA X e t' := ⟨fun pos pins s σ H Q I q => h.run pos pins s σ H Q I (w σ H Q q)⟩
abbrev QE (X : Cx) (e : Expr) (t : TD) : Prop := PE X e (liftE X.K t)
abbrev QT (X : Cx) (e : Expr) (t : TBD) : Prop := PT X e (liftT X.K t)
abbrev QA (X : Cx) (es : List Expr) (t : TAD) : Prop := PA X es (liftA X.K t)
/-- a two-place operation on data -/
abbrev R2D := D → D → Sto → DK → Prop
def liftR2 (K : PySem.W.Frag) (r : R2D) : R2 := fun x y H Q => ∃ a b S Qd, Rep K H a x ∧ Rep K H b y ∧ StoOk K H S ∧ r a b S Qd ∧ Lv K H Qd Q
abbrev R1D := D → Sto → DK → Prop
def liftR1 (K : PySem.W.Frag) (r : R1D) : V → Hp → VK → Prop := fun x H Q => ∃ a S Qd, Rep K H a x ∧ StoOk K H S ∧ r a S Qd ∧ Lv K H Qd Q
abbrev RLD := List D → Sto → DK → Prop
def liftRL (K : PySem.W.Frag) (r : RLD) : List V → Hp → VK → Prop := fun xs H Q => ∃ ds S Qd, Reps K H ds xs ∧ StoOk K H S ∧ r ds S Qd ∧ Lv K H Qd Q
theorem Lv.keep {K : PySem.W.Frag} {H H' : Hp} {Qd : DK} {Q : VK} (l : Lv K H Qd Q) (k : Keep H H') : Lv K H' Qd Q := fun d S' v H2 q k2 r s => l d S' v H2 q (k.trans k2) r s
section
variable {X : Cx} {a b c : Expr} {ta tb tc : TD} {pos : Pos}
theorem q_bin {op : Operator} {r : R2D} (ho : OpR X (binaryOp op) (liftR2 X.K r)) (ha : QE X a ta) (hb : QE X b tb) :
    QE X (.BinOp a op b pos) (fun env S Q => ta env S fun x S1 => tb env S1 fun y S2 => r x y S2 Q) :=
  (pe_op ho ha hb).weak fun σ H Q ⟨env, S, Qd, re, so, h, l⟩ =>
    ⟨env, S, _, re, so, h, fun x S1 v H1 h1 k1 r1 s1 => ⟨env, S1, _, re.mono k1, s1, h1, fun y S2 u H2 h2 k2 r2 s2 =>
      ⟨x, y, S2, Qd, r1.mono k2, r2, s2, h2, l.keep (k1.trans k2)⟩⟩⟩
theorem q_cmp {op : CmpOp} {r : R2D} (ho : OpR X (compareOp op) (liftR2 X.K r)) (ha : QE X a ta) (hb : QE X b tb) (hm : behindInMarks op b = false) :
    QE X (.Compare a [op] [b] pos) (fun env S Q => ta env S fun x S1 => tb env S1 fun y S2 => r x y S2 Q) :=
  (pe_cmpR ho ha hb hm).weak fun σ H Q ⟨env, S, Qd, re, so, h, l⟩ =>
    ⟨env, S, _, re, so, h, fun x S1 v H1 h1 k1 r1 s1 => ⟨env, S1, _, re.mono k1, s1, h1, fun y S2 u H2 h2 k2 r2 s2 =>
      ⟨x, y, S2, Qd, r1.mono k2, r2, s2, h2, l.keep (k1.trans k2)⟩⟩⟩
theorem q_nil : QA X [] (fun env S Q => Q [] S) := pa_nil.weak fun σ H Q ⟨env, S, Qd, re, so, h, l⟩ => l [] S [] H h .refl .nil so
theorem q_cons {e : Expr} {es : List Expr} {te : TD} {t : TAD} (he : QE X e te) (ht : QA X es t) (hs : starEach (e :: es) X.env = (false, eval e X.env) :: starEach es X.env) :
    QA X (e :: es) (fun env S Q => te env S fun x S1 => t env S1 fun xs S2 => Q (x :: xs) S2) :=
  (pa_cons he ht hs).weak fun σ H Q ⟨env, S, Qd, re, so, h, l⟩ =>
    ⟨env, S, _, re, so, h, fun x S1 v H1 h1 k1 r1 s1 => ⟨env, S1, _, re.mono k1, s1, h1, fun xs S2 vs H2 h2 k2 r2 s2 =>
      l (x :: xs) S2 (v :: vs) H2 h2 (k1.trans k2) (.cons (r1.mono k2) r2) s2⟩⟩
theorem q_var {i : Nat} {x : Str} (hN : X.N[i]? = some x) (hv : Vis X.env.scope x) (hd : (x == ("__debug__" : Str)) = false) (hcd : (x == ("__classdict__" : Str)) = false) :
    QE X (.Name x pos) (fun env S Q => ∃ d, env[i]? = some (some d) ∧ Q d S) :=
  (pe_var hN hv hd hcd).weak fun σ H Q ⟨env, S, Qd, re, so, ⟨d, e, h⟩, l⟩ => let ⟨v, e2, r⟩ := re.2 i d e; ⟨v, e2, l d S v H h .refl r so⟩
theorem q_con {d : D} {v : V} {e : Expr} (h : PE X e (tC v)) (hr : ∀ H, Rep X.K H d v) : QE X e (fun env S Q => Q d S) :=
  h.weak fun σ H Q ⟨env, S, Qd, re, so, h, l⟩ => l d S v H h .refl (hr H) so
end
end G57
set_option Elab.async false
set_option linter.all false
set_option maxRecDepth 100000
/-! operations on data -/
namespace G57
open PySem L2
theorem szl : sizeLine = 16777216 := by decide
theorem cps_app (x y : List Nat) : (⟨x.toArray⟩ : Str) ++ ⟨y.toArray⟩ = ⟨(x ++ y).toArray⟩ := by
  show Str.append _ _ = _
  unfold Str.append
  simp
theorem str_len (x : List Nat) : (⟨x.toArray⟩ : Str).length = x.length := by
  unfold Str.length
  simp
theorem Rep.tup_inv {K : PySem.W.Frag} {H : Hp} {ds : List D} {v : V} (h : Rep K H (.tup ds) v) : ∃ a vs, v = .ref a ∧ SqT K H a vs ∧ Reps K H ds vs := by
  simpa only [Rep] using h
theorem Rep.rol_inv {K : PySem.W.Frag} {H : Hp} {ds : List D} {v : V} (h : Rep K H (.rol ds) v) : ∃ a vs, v = .ref a ∧ SqF K H a vs ∧ Reps K H ds vs := by
  simpa only [Rep] using h
theorem Rep.tup_mk {K : PySem.W.Frag} {H : Hp} {ds : List D} {a : Addr} {vs : List V} (h : SqT K H a vs) (r : Reps K H ds vs) : Rep K H (.tup ds) (.ref a) := by
  simp only [Rep]; exact ⟨a, vs, rfl, h, r⟩
theorem Rep.int {K : PySem.W.Frag} {H : Hp} {i : Int} : Rep K H (.int i) (.int i) := by simp only [Rep]
theorem Rep.bl {K : PySem.W.Frag} {H : Hp} {i : Bool} : Rep K H (.bl i) (.bl i) := by simp only [Rep]
theorem Rep.non {K : PySem.W.Frag} {H : Hp} : Rep K H .non .non := by simp only [Rep]
theorem Rep.str {K : PySem.W.Frag} {H : Hp} {x : List Nat} : Rep K H (.str x) (.str ⟨x.toArray⟩) := by simp only [Rep]
theorem Rep.ref {K : PySem.W.Frag} {H : Hp} {a : Addr} : Rep K H (.ref a) (.ref a) := by simp only [Rep]
theorem Lv.tup {K : PySem.W.Frag} {H : Hp} {Qd : DK} {Q : VK} {S : Sto} {ds : List D} {vs : List V} (l : Lv K H Qd Q) (so : StoOk K H S) (h : Qd (.tup ds) S) (r : Reps K H ds vs) (p : Addr) (hp : H p = none) : Q (.ref p) (upd H p (.tup vs)) :=
  l (.tup ds) S (.ref p) _ h (Keep.new hp) (.tup_mk (.inl (.inl upd_same)) (r.mono (Keep.new hp))) (so.new hp)
theorem Lv.lst {K : PySem.W.Frag} {H : Hp} {Qd : DK} {Q : VK} {S : Sto} {ds : List D} {vs : List V} (l : Lv K H Qd Q) (so : StoOk K H S) (h : ∀ p, S p = none → Qd (.ref p) (put S p (.lst ds))) (r : Reps K H ds vs) (p : Addr) (hp : H p = none) : Q (.ref p) (upd H p (.lst vs)) :=
  l (.ref p) _ (.ref p) _ (h p (so.fresh hp)) (Keep.new hp) .ref (so.newL hp r)
def addD : R2D
  | .int i, .int j, S, Q => Q (.int (i + j)) S
  | .str x, .str y, S, Q => x.length + y.length ≤ 16777216 ∧ Q (.str (x ++ y)) S
  | .tup x, .tup y, S, Q => x.length + y.length ≤ 16777216 ∧ Q (.tup (x ++ y)) S
  | .ref p, .ref q, S, Q => ∃ xs ys, S p = some (.lst xs) ∧ S q = some (.lst ys) ∧ xs.length + ys.length ≤ 16777216 ∧ ∀ r, S r = none → Q (.ref r) (put S r (.lst (xs ++ ys)))
  | _, _, _, _ => False
def subD : R2D
  | .int i, .int j, S, Q => Q (.int (i - j)) S
  | _, _, _, _ => False
def mulD : R2D
  | .int i, .int j, S, Q => CMulW i j ∧ Q (.int (i * j)) S
  | .str x, .int j, S, Q => j < 2 ^ 40 ∧ -(2 ^ 40) < j ∧ x.length * j.toNat ≤ 16777216 ∧ Q (.str (List.replicate j.toNat x).flatten) S
  | .tup x, .int j, S, Q => j ≤ 1000 ∧ -1000 ≤ j ∧ x.length ≤ 1000 ∧ Q (.tup (List.replicate j.toNat x).flatten) S
  | .ref p, .int j, S, Q => ∃ xs, S p = some (.lst xs) ∧ j < 2 ^ 40 ∧ -(2 ^ 40) < j ∧ xs.length * j.toNat ≤ 16777216 ∧ ∀ r, S r = none → Q (.ref r) (put S r (.lst (List.replicate j.toNat xs).flatten))
  | _, _, _, _ => False
def fdivD : R2D
  | .int i, .int j, S, Q => 0 < j ∧ j < 2 ^ 8000 ∧ Q (.int (i / j)) S
  | _, _, _, _ => False
def modD : R2D
  | .int i, .int j, S, Q => 0 < j ∧ Q (.int (i % j)) S
  | _, _, _, _ => False
def powD : R2D
  | .int i, .int j, S, Q => CPow i j ∧ Q (.int (i ^ j.toNat)) S
  | _, _, _, _ => False
section
variable {X : Cx}
theorem addD_ok : OpR X (binaryOp .Add) (liftR2 X.K addD) := by
  intro pins s σ H x y v u Q I rx ry ⟨a, b, S, Qd, ra, rb, so, h, l⟩
  cases a <;> cases b <;> try exact h.elim
  case int.int i j =>
    simp only [Rep] at ra rb
    exact op_add pins s σ H x y v u Q I rx ry ⟨i, j, ra, rb, l _ S _ H h .refl .int so⟩
  case str.str i j =>
    simp only [Rep] at ra rb
    obtain ⟨h1, h2⟩ := h
    refine op_add_str pins s σ H x y v u Q I rx ry ⟨_, _, ra, rb, by rw [str_len, str_len, szl]; exact h1, ?_⟩
    rw [cps_app]
    exact l _ S _ H h2 .refl .str so
  case tup.tup ds es =>
    obtain ⟨p, ps, rfl, hp, rp⟩ := ra.tup_inv
    obtain ⟨q, qs, rfl, hq, rq⟩ := rb.tup_inv
    obtain ⟨h1, h2⟩ := h
    refine op_catA pins s σ H _ _ v u Q I rx ry ⟨p, q, ps, qs, rfl, rfl, hp, hq, by rw [← rp.length, ← rq.length, szl]; exact h1, fun e => ?_, fun e e2 => ?_, fun e e2 r hr => ?_⟩
    · have e' : ds = [] := List.eq_nil_of_length_eq_zero (by rw [rp.length, e]; rfl)
      subst e'
      exact l _ S _ H h2 .refl rb so
    · have e' : es = [] := List.eq_nil_of_length_eq_zero (by rw [rq.length, e2]; rfl)
      subst e'
      rw [List.append_nil] at h2
      exact l _ S _ H h2 .refl ra so
    · exact l.tup so h2 (rp.append rq) r hr
  case ref.ref p q =>
    simp only [Rep] at ra rb
    obtain ⟨xs, ys, e1, e2, hz, h⟩ := h
    obtain ⟨vs, f1, r1⟩ := so p _ e1
    obtain ⟨us, f2, r2⟩ := so q _ e2
    exact op_cat pins s σ H x y v u Q I rx ry ⟨p, q, vs, us, ra, rb, f1, f2, by rw [← r1.length, ← r2.length, szl]; exact hz, fun r hr => l.lst so h (r1.append r2) r hr⟩
theorem subD_ok : OpR X (binaryOp .Sub) (liftR2 X.K subD) := by
  intro pins s σ H x y v u Q I rx ry ⟨a, b, S, Qd, ra, rb, so, h, l⟩
  cases a <;> cases b <;> try exact h.elim
  case int.int i j =>
    simp only [Rep] at ra rb
    exact op_sub pins s σ H x y v u Q I rx ry ⟨i, j, ra, rb, l _ S _ H h .refl .int so⟩
theorem modD_ok : OpR X (binaryOp .Mod) (liftR2 X.K modD) := by
  intro pins s σ H x y v u Q I rx ry ⟨a, b, S, Qd, ra, rb, so, h, l⟩
  cases a <;> cases b <;> try exact h.elim
  case int.int i j =>
    simp only [Rep] at ra rb
    obtain ⟨h1, h2⟩ := h
    refine op_modN pins s σ H x y v u Q I rx ry ⟨i, j, ra, rb, by show j ≠ 0; omega, ?_⟩
    show Q (.int (i.fmod j)) H
    rw [Int.fmod_eq_emod_of_nonneg i (by omega)]
    exact l _ S _ H h2 .refl .int so
theorem fdivD_ok : OpR X (binaryOp .FloorDiv) (liftR2 X.K fdivD) := by
  intro pins s σ H x y v u Q I rx ry ⟨a, b, S, Qd, ra, rb, so, h, l⟩
  cases a <;> cases b <;> try exact h.elim
  case int.int i j =>
    simp only [Rep] at ra rb
    obtain ⟨h1, h2, h3⟩ := h
    refine op_fdivW pins s σ H x y v u Q I rx ry ⟨i, j, ra, rb, wide_div (b := 8000) h1 ?_ (by decide) (by decide), l _ S _ H h3 .refl .int so⟩
    have e : ((j.natAbs : Nat) : Int) = j := by omega
    have e2 : ((j.natAbs : Nat) : Int) < ((2 ^ 8000 : Nat) : Int) := by
      rw [e, Int.natCast_pow]
      exact h2
    exact Int.ofNat_lt.mp e2
theorem powD_ok : OpR X (binaryOp .Pow) (liftR2 X.K powD) := by
  intro pins s σ H x y v u Q I rx ry ⟨a, b, S, Qd, ra, rb, so, h, l⟩
  cases a <;> cases b <;> try exact h.elim
  case int.int i j =>
    simp only [Rep] at ra rb
    obtain ⟨h1, h2⟩ := h
    exact op_pow pins s σ H x y v u Q I rx ry ⟨i, j, ra, rb, h1, l _ S _ H h2 .refl .int so⟩
end
end G57
set_option Elab.async false
set_option linter.all false
set_option maxRecDepth 100000
set_option maxHeartbeats 4000000
namespace G57
open PySem L2 PySem.Spec PyProof.Rows
theorem tupMul_same (l : Addr) (its : Array Value) (n : Nat) (dd : Option Addr) (sl : Array (Option Value)) (x : Int) (u : Tok)
    (c0 : (decide (x < -(2 ^ 63)) || decide (x ≥ 2 ^ 63)) = false) (c1 : (its.isEmpty || x == 1) = true) :
    Meets (Builtin.«tuple.__mul__» ⟨[.ref l, .int x u], []⟩) (fun _ R s =>
      s.heap.get? l = some { cls := .type "tuple", dict := dd, data := .seq its n, slots := sl } ∧ R (.ok (.ret (.ref l))) s) :=
  .of_wp fun prog w A R s h => by
    obtain ⟨hp, g, d, tk, os⟩ := s
    obtain ⟨hl, h⟩ := h
    have f1 := AutoSeq1.idx_int
    wp_walk using wpAny_loadPart' hl
    repeat (first
      | exact ⟨_, rfl, h⟩
      | (refine wpAny_ite_false (decide_eq_false (by rw [c0]; simp)) ?_; wp_walk using wpAny_loadPart' hl)
      | (refine wpAny_ite_true (decide_eq_true c1) ?_; wp_walk using wpAny_loadPart' hl))
theorem tupMul_none (l : Addr) (its : Array Value) (n : Nat) (dd : Option Addr) (sl : Array (Option Value)) (x : Int) (u : Tok)
    (c0 : (decide (x < -(2 ^ 63)) || decide (x ≥ 2 ^ 63)) = false) (c1 : (its.isEmpty || x == 1) = false) (c2 : (decide (x ≤ 0) || its.isEmpty) = true) :
    Meets (Builtin.«tuple.__mul__» ⟨[.ref l, .int x u], []⟩) (fun _ R s =>
      s.heap.get? l = some { cls := .type "tuple", dict := dd, data := .seq its n, slots := sl } ∧
      R (.ok (.ret (Value.ref s.heap.objs.size))) { s with heap := s.heap.push { cls := Value.type "tuple", data := Data.seq #[] }, toks := s.toks }) :=
  .of_wp fun prog w A R s h => by
    obtain ⟨hp, g, d, tk, os⟩ := s
    obtain ⟨hl, h⟩ := h
    have f1 := AutoSeq1.idx_int
    wp_walk using wpAny_loadPart' hl
    repeat (first
      | exact ⟨_, rfl, h⟩
      | (refine wpAny_ite_false (decide_eq_false (by rw [c0]; simp)) ?_; wp_walk using wpAny_loadPart' hl)
      | (refine wpAny_ite_false (decide_eq_false (by rw [c1]; simp)) ?_; wp_walk using wpAny_loadPart' hl)
      | (refine wpAny_ite_true (decide_eq_true c2) ?_; wp_walk using wpAny_loadPart' hl))
section
variable {X : Cx}
theorem foldl_reps (x : List Nat) : ∀ (m : Nat) (acc : List Nat), (List.replicate m x.toArray).foldl (· ++ ·) acc.toArray = (acc ++ (List.replicate m x).flatten).toArray
  | 0, acc => by simp
  | m + 1, acc => by
    rw [List.replicate_succ, List.foldl_cons, List.replicate_succ, List.flatten_cons]
    rw [List.append_toArray, foldl_reps x m (acc ++ x), List.append_assoc]
theorem len_rep (x : List α) (m : Nat) : (List.replicate m x).flatten.length = m * x.length := by
  induction m with
  | zero => simp
  | succ m ih => rw [List.replicate_succ, List.flatten_cons, List.length_append, ih, Nat.succ_mul]; omega
theorem mulD_ok : OpR X (binaryOp .Mult) (liftR2 X.K mulD) := by
  intro pins s σ H x y v u Q I rx ry ⟨a, b, S, Qd, ra, rb, so, h, l⟩
  cases a <;> cases b <;> try exact h.elim
  case int.int i j =>
    simp only [Rep] at ra rb
    obtain ⟨h1, h2⟩ := h
    exact op_mulW pins s σ H x y v u Q I rx ry ⟨i, j, ra, rb, h1, l _ S _ H h2 .refl .int so⟩
  case str.int z j =>
    simp only [Rep] at ra rb
    subst ra rb
    obtain ⟨t, rfl⟩ := rx
    obtain ⟨t', rfl⟩ := ry
    obtain ⟨h1, h2, h3, h4⟩ := h
    have fin : ∀ tk tk', EP X pins σ Q (.str ⟨((List.replicate j.toNat z).flatten).toArray⟩ tk) { s with toks := tk' } := fun tk tk' => ⟨.str ⟨((List.replicate j.toNat z).flatten).toArray⟩, H, I.tok tk', ⟨tk, rfl⟩, l _ S _ H h4 .refl .str so⟩
    have fin0 : ∀ tk, EP X pins σ Q (.str ⟨((List.replicate j.toNat z).flatten).toArray⟩ tk) s := fun tk => ⟨.str ⟨((List.replicate j.toNat z).flatten).toArray⟩, H, I, ⟨tk, rfl⟩, l _ S _ H h4 .refl .str so⟩
    refine P.mul_str (by rw [decide_eq_false (by omega), decide_eq_false (by omega)]; rfl) (fun q1 q2 => ?_) (fun q1 q2 => ?_) ?_
    · rw [str_len]
      have : (z.length : Int) * j ≤ 16777216 := by
        have e : j = (j.toNat : Int) := by omega
        rw [e, ← Int.natCast_mul]
        exact Int.ofNat_le.mpr h3
      intro hq
      have h5 : (2 ^ 63 - 1) / j < (z.length : Int) := hq
      have h6 := Int.lt_mul_of_ediv_lt (by omega : (0 : Int) < j) h5
      omega
    · unfold Builtin.Str.tooLong
      rw [str_len]
      exact decide_eq_false (by rw [szl]; omega)
    · by_cases q1 : j < 1
      · rw [if_pos q1]
        refine ⟨by decide, ?_⟩
        have e : j.toNat = 0 := by omega
        have f := fin s.toks (s.toks + 1)
        rw [e] at f
        exact f
      · rw [if_neg q1]
        by_cases q2 : (j == 1 || (⟨z.toArray⟩ : Str).length == 0) = true
        · rw [if_pos q2]
          have f := fin0 t
          have e : (List.replicate j.toNat z).flatten = z := by
            rw [str_len] at q2
            rcases Bool.or_eq_true_iff.mp q2 with q | q
            · have e1 : j = 1 := by simpa using q
              subst e1; simp
            · have e1 : z = [] := by simpa using q
              subst e1; simp
          rw [e] at f
          exact f
        · rw [if_neg q2]
          refine ⟨?_, ?_⟩
          · have e := foldl_reps z j.toNat []
            rw [List.nil_append] at e
            show (⟨List.foldl _ _ (List.replicate j.toNat z.toArray)⟩ : Str).length ≤ sizeLine
            rw [show (#[] : Array Nat) = ([] : List Nat).toArray from rfl, e, str_len, len_rep, szl, Nat.mul_comm]
            exact h3
          · have e := foldl_reps z j.toNat []
            rw [List.nil_append] at e
            have f := fin s.toks (s.toks + 1)
            rw [← e] at f
            exact f
  case tup.int ds j =>
    obtain ⟨p, vs, rfl, hp, rp⟩ := ra.tup_inv
    simp only [Rep] at rb
    subst rb
    obtain ⟨h1, h2, h3, h4⟩ := h
    by_cases hj : vs ≠ [] ∧ 2 ≤ j
    · exact op_repT pins s σ H _ _ v u Q I rx ry ⟨p, j, vs, rfl, rfl, hp, hj.1, hj.2, h1, by rw [← rp.length]; exact h3, fun r hr => l.tup so h4 (rp.rep _) r hr⟩
    · cases rx
      obtain ⟨t, rfl⟩ := ry
      obtain ⟨its, r, ⟨⟨cls, dd, data, sl⟩, ho, hc, n, hd⟩, hs⟩ := I.tuple hp
      simp only at hc hd
      subst hc hd
      have c0 : (decide (j < -(2 ^ 63)) || decide (j ≥ 2 ^ 63)) = false := by
        rw [decide_eq_false (by omega), decide_eq_false (by omega)] <;> rfl
      by_cases c1 : (its.toArray.isEmpty || j == 1) = true
      · have e : (List.replicate j.toNat ds).flatten = ds := by
          rcases Bool.or_eq_true_iff.mp c1 with q | q
          · have e1 : its = [] := by simpa using q
            have e2 : ds = [] := List.eq_nil_of_length_eq_zero (by rw [rp.length, r.length, e1]; rfl)
            subst e2; simp
          · have e1 : j = 1 := by simpa using q
            subst e1; simp
        rw [e] at h4
        exact wpAny_binaryOp_repeat_ref (T := "tuple") (U := "int") (by decide) ⟨_, ho, rfl⟩ (fun s' => typeIs_int s' j t) noFill_tuple_mul F.fills_int_mul F.slot_int_rmul repeat_tuple F.slot_int_index.lookup
          (call_meets F.slot_int_rmul (typeIs_int s j t) F.entry_int_rmul (F.args_int_rmul_2 _ _) (int_rmul_tuple j t p its.toArray n dd sl)
          ⟨ho, rfl, ⟨_, ho, rfl⟩, call_meets F.slot_tuple_mul ⟨_, ho, rfl⟩ F.entry_tuple_mul (F.args_tuple_mul_2 _ _) (tupMul_same p its.toArray n dd sl j t c0 c1)
            ⟨ho, ⟨.ref p, H, I, rfl, l _ S _ H h4 .refl ra so⟩⟩⟩)
      · have c1' := Bool.eq_false_iff.mpr c1
        have jz : j ≤ 0 := by
          by_cases hv : vs ≠ []
          · have h5 : ¬ 2 ≤ j := fun z => hj ⟨hv, z⟩
            have h6 : j ≠ 1 := fun z => c1 (by rw [z]; simp)
            omega
          · have e0 : vs = [] := Classical.not_not.mp hv
            have e1 : its = [] := List.eq_nil_of_length_eq_zero (by rw [← r.length, e0]; rfl)
            exact absurd (by rw [e1]; rfl) c1
        have e : j.toNat = 0 := by omega
        rw [e, List.replicate_zero, List.flatten_nil] at h4
        refine wpAny_binaryOp_repeat_ref (T := "tuple") (U := "int") (by decide) ⟨_, ho, rfl⟩ (fun s' => typeIs_int s' j t) noFill_tuple_mul F.fills_int_mul F.slot_int_rmul repeat_tuple F.slot_int_index.lookup
          (call_meets F.slot_int_rmul (typeIs_int s j t) F.entry_int_rmul (F.args_int_rmul_2 _ _) (int_rmul_tuple j t p its.toArray n dd sl)
          ⟨ho, rfl, ⟨_, ho, rfl⟩, call_meets F.slot_tuple_mul ⟨_, ho, rfl⟩ F.entry_tuple_mul (F.args_tuple_mul_2 _ _) (tupMul_none p its.toArray n dd sl j t c0 c1' (by rw [decide_eq_true jz]; rfl)) ⟨ho, ?_⟩⟩)
        have hf : H s.heap.objs.size = none := I.hok.fresh (Nat.le_refl _)
        refine ⟨.ref s.heap.objs.size, _, I.laid (t' := s.toks) (o := .tup []) (fun b ob q => Heap.get?_push_of_some _ q) (Nat.le_refl _) ?_, rfl, l.tup so h4 .nil _ hf⟩
        exact ⟨by simp, [], .nil, IsTup.new _ _⟩
  case ref.int p j =>
    simp only [Rep] at ra rb
    obtain ⟨xs, e1, h1, h2, hz, h⟩ := h
    obtain ⟨vs, f1, r1⟩ := so p _ e1
    exact op_rep pins s σ H x y v u Q I rx ry ⟨p, j, vs, ra, rb, f1, by omega, by omega, by rw [← r1.length, szl]; exact hz, fun r hr => l.lst so h (r1.rep _) r hr⟩
end
end G57
set_option Elab.async false
set_option linter.all false
set_option maxRecDepth 100000
set_option maxHeartbeats 4000000
namespace G57
open PySem L2 PySem.Spec PyProof.Rows
/-! ### data as the library's own data -/
mutual
def py : D → PyData
  | .non => .none
  | .bl b => .bool b
  | .int i => .int i
  | .str x => .str ⟨x.toArray⟩
  | .tup ds => .tuple (pys ds)
  | .rol ds => .list (pys ds)
  | .ref _ => .none
def pys : List D → List PyData
  | [] => []
  | d :: ds => py d :: pys ds
end
mutual
/-- no list by address in it; signs are code points; at most n deep -/
def okD : Nat → D → Bool
  | _, .non | _, .bl _ | _, .int _ => true
  | _, .str x => x.all fun c => decide (c < 0x110000)
  | 0, .tup _ | 0, .rol _ => false
  | n + 1, .tup ds | n + 1, .rol ds => oksD n ds
  | _, .ref _ => false
def oksD : Nat → List D → Bool
  | _, [] => true
  | n, d :: ds => okD n d && oksD n ds
end
mutual
/-- numbers below 2 ^ 1900 -/
def shD : D → Bool
  | .int i => decide (i.natAbs < 2 ^ 1900)
  | .tup ds | .rol ds => shsD ds
  | _ => true
def shsD : List D → Bool
  | [] => true
  | d :: ds => shD d && shsD ds
end
def shS (S : Sto) : D → Bool
  | .ref p => match S p with
    | some (.lst ds) => shsD ds
    | none => false
  | d => shD d
def pyS (S : Sto) : D → PyData
  | .ref p => match S p with
    | some (.lst ds) => .list (pys ds)
    | none => .none
  | d => py d
def okS (S : Sto) : D → Bool
  | .ref p => match S p with
    | some (.lst ds) => oksD 40 ds
    | none => false
  | d => okD 41 d
mutual
theorem dp_of {K : PySem.W.Frag} {H : Hp} : ∀ (d : D) (n : Nat) (v : V), okD n d = true → Rep K H d v → Dp K H v (py d)
  | .non, _, v, _, r => by simp only [Rep] at r; subst r; simp only [py]; exact .non
  | .bl b, _, v, _, r => by simp only [Rep] at r; subst r; simp only [py]; exact .bl b
  | .int i, _, v, _, r => by simp only [Rep] at r; subst r; simp only [py]; exact .int i
  | .str x, _, v, _, r => by simp only [Rep] at r; subst r; simp only [py]; exact .str _
  | .tup ds, n, v, h, r => by
    obtain ⟨a, vs, rfl, q, r⟩ := r.tup_inv
    cases n with
    | zero => simp [okD] at h
    | succ n =>
      simp only [okD] at h
      simp only [py]
      exact .tup q (dps_of ds n vs h r)
  | .rol ds, n, v, h, r => by
    obtain ⟨a, vs, rfl, q, r⟩ := r.rol_inv
    cases n with
    | zero => simp [okD] at h
    | succ n =>
      simp only [okD] at h
      simp only [py]
      exact .lst q.sq (dps_of ds n vs h r)
  | .ref _, n, _, h, _ => by cases n <;> simp [okD] at h
theorem dps_of {K : PySem.W.Frag} {H : Hp} : ∀ (ds : List D) (n : Nat) (vs : List V), oksD n ds = true → Reps K H ds vs → DpAll K H vs (pys ds)
  | [], _, vs, _, r => by simp only [Reps] at r; subst r; simp only [pys]; exact .nil
  | d :: ds, n, v :: vs, h, r => by
    simp only [oksD, Bool.and_eq_true] at h
    simp only [pys]
    exact .cons (dp_of d n v h.1 r.inv.1) (dps_of ds n vs h.2 r.inv.2)
  | d :: ds, _, [], _, r => by simp only [Reps] at r; obtain ⟨_, _, e, _⟩ := r; cases e
end
theorem dpS {K : PySem.W.Frag} {H : Hp} {S : Sto} (so : StoOk K H S) {d : D} {v : V} (h : okS S d = true) (r : Rep K H d v) : Dp K H v (pyS S d) := by
  cases d with
  | ref p =>
    simp only [Rep] at r
    subst r
    simp only [okS] at h
    simp only [pyS]
    cases e : S p with
    | none => rw [e] at h; simp at h
    | some o =>
      cases o with
      | lst ds =>
        rw [e] at h
        obtain ⟨vs, q, r⟩ := so p _ e
        exact .lst (.inl (.inl q)) (dps_of ds 40 vs h r)
  | _ => exact dp_of _ 41 v h r
mutual
theorem ok_lay : ∀ (d : D) (n : Nat), okD n d = true → (py d).canLay0 = true ∧ (py d).depth ≤ n ∧ (py d).hasDict = false
  | .non, n, _ | .bl b, n, _ | .int b, n, _ => by simp [py, PyData.canLay0, PyData.depth, PyData.hasDict]
  | .str x, n, h => by
    have h1 : (x.all fun c => decide (c < 0x110000)) = true := by cases n <;> simpa only [okD] using h
    refine ⟨?_, by simp [py, PyData.depth], by simp [py, PyData.hasDict]⟩
    simp only [py, PyData.canLay0, PyData.strOk]
    simpa using h1
  | .tup ds, 0, h | .rol ds, 0, h => by simp [okD] at h
  | .tup ds, n + 1, h | .rol ds, n + 1, h => by
    simp only [okD] at h
    have := oks_lay ds n h
    simp only [py, PyData.canLay0, PyData.depth, PyData.hasDict]
    exact ⟨this.1, by omega, this.2.2⟩
  | .ref _, n, h => by cases n <;> simp [okD] at h
theorem oks_lay : ∀ (ds : List D) (n : Nat), oksD n ds = true → PyData.canLayAll0 (pys ds) = true ∧ PyData.depthAll (pys ds) ≤ n ∧ PyData.hasDictAll (pys ds) = false
  | [], n, _ => by simp [pys, PyData.canLayAll0, PyData.depthAll, PyData.hasDictAll]
  | d :: ds, n, h => by
    simp only [oksD, Bool.and_eq_true] at h
    have h1 := ok_lay d n h.1
    have h2 := oks_lay ds n h.2
    simp only [pys, PyData.canLayAll0, PyData.depthAll, PyData.hasDictAll, h1.1, h2.1, h1.2.2, h2.2.2, Bool.and_self, Bool.or_self, true_and, and_true]
    omega
end
mutual
theorem sh_show : ∀ d : D, shD d = true → (py d).showable = true
  | .non, _ | .bl b, _ | .str x, _ | .ref a, _ => by simp [py, PyData.showable]
  | .int i, h => by
    have h1 : i.natAbs < 2 ^ 1900 := of_decide_eq_true (by simpa only [shD] using h)
    have : i.natAbs < 2 ^ 1920 := Nat.lt_of_lt_of_le h1 (Nat.pow_le_pow_right (by decide) (by decide))
    simp only [py, PyData.showable]
    exact decide_eq_true (PySem.Spec.log2_small this)
  | .tup ds, h | .rol ds, h => by
    simp only [shD] at h
    simp only [py, PyData.showable]
    exact shs_show ds h
theorem shs_show : ∀ ds : List D, shsD ds = true → PyData.showableAll (pys ds) = true
  | [], _ => by simp [pys, PyData.showableAll]
  | d :: ds, h => by
    simp only [shsD, Bool.and_eq_true] at h
    simp only [pys, PyData.showableAll, sh_show d h.1, shs_show ds h.2, Bool.and_self]
end
theorem shS_show {S : Sto} {d : D} (h : shS S d = true) : (pyS S d).showable = true := by
  cases d with
  | ref p =>
    simp only [shS] at h
    simp only [pyS]
    cases e : S p with
    | none => rw [e] at h; simp at h
    | some o =>
      cases o with
      | lst ds => rw [e] at h; simp only [PyData.showable]; exact shs_show ds h
  | _ => exact sh_show _ h
theorem okS_lay {S : Sto} {d : D} (h : okS S d = true) : SeqAt.shaped (pyS S d) = true ∧ (pyS S d).hasDict = false ∧ (pyS S d).depth ≤ 41 := by
  have fin : (pyS S d).canLay0 = true ∧ (pyS S d).depth ≤ 41 ∧ (pyS S d).hasDict = false := by
    cases d with
    | ref p =>
      simp only [okS] at h
      simp only [pyS]
      cases e : S p with
      | none => rw [e] at h; simp at h
      | some o =>
        cases o with
        | lst ds =>
          rw [e] at h
          have := oks_lay ds 40 h
          simp only [PyData.canLay0, PyData.depth, PyData.hasDict]
          exact ⟨this.1, by omega, this.2.2⟩
    | _ => exact ok_lay _ 41 h
  obtain ⟨h1, h2, h4⟩ := fin
  refine ⟨?_, h4, h2⟩
  unfold SeqAt.shaped
  rw [h1, decide_eq_true (by omega)]
  rfl
/-! ### comparisons -/
def eqD (neg : Bool) : R2D
  | .int i, .int j, S, Q => Q (.bl (neg ^^ decide (i = j))) S
  | .str x, .str y, S, Q => Q (.bl (neg ^^ decide (x = y))) S
  | .bl x, .bl y, S, Q => Q (.bl (neg ^^ decide (x = y))) S
  | a, b, S, Q => okS S a = true ∧ okS S b = true ∧ Q (.bl (neg ^^ PyData.eqv (pyS S a) (pyS S b))) S
def ordD (p : Int → Int → Bool) (q : List Nat → List Nat → Bool) : R2D
  | .int i, .int j, S, Q => Q (.bl (p i j)) S
  | .str x, .str y, S, Q => Q (.bl (q x y)) S
  | _, _, _, _ => False
def flatD : D → Bool
  | .non | .bl _ | .int _ | .str _ => true
  | _ => false
def eqF : D → D → Bool
  | .non, .non => true
  | .bl a, .bl b => a == b
  | .bl a, .int b => (if a then 1 else 0) == b
  | .int a, .bl b => a == (if b then 1 else 0)
  | .int a, .int b => a == b
  | .str a, .str b => a == b
  | _, _ => false
def inD (neg : Bool) : R2D
  | .str [c], .str y, S, Q => Q (.bl (neg ^^ decide (c ∈ y))) S
  | a, .tup ds, S, Q => flatD a = true ∧ ds.all flatD = true ∧ Q (.bl (neg ^^ ds.any fun z => eqF z a)) S
  | a, .ref p, S, Q => ∃ ds, S p = some (.lst ds) ∧ flatD a = true ∧ ds.all flatD = true ∧ Q (.bl (neg ^^ ds.any fun z => eqF z a)) S
  | _, _, _, _ => False
def isNon : D → Bool
  | .non => true
  | _ => false
def isD (neg : Bool) : R2D
  | a, .non, S, Q => Q (.bl (neg ^^ isNon a)) S
  | .bl a, .bl b, S, Q => Q (.bl (neg ^^ decide (a = b))) S
  | .non, .bl _, S, Q => Q (.bl neg) S
  | _, _, _, _ => False
def cmpD : CmpOp → R2D
  | .Eq => eqD false
  | .NotEq => eqD true
  | .Lt => ordD (fun i j => decide (i < j)) (fun x y => decide (x < y))
  | .LtE => ordD (fun i j => decide (i ≤ j)) (fun x y => decide (x ≤ y))
  | .Gt => ordD (fun i j => decide (j < i)) (fun x y => decide (y < x))
  | .GtE => ordD (fun i j => decide (j ≤ i)) (fun x y => decide (y ≤ x))
  | .Is => isD false
  | .IsNot => isD true
  | .In => inD false
  | .NotIn => inD true
section
variable {X : Cx}
theorem str_inj {x y : List Nat} : decide (V.str ⟨x.toArray⟩ = V.str ⟨y.toArray⟩) = decide (x = y) := by
  by_cases h : x = y
  · subst h; simp
  · rw [decide_eq_false h, decide_eq_false]
    intro e
    injection e with e
    injection e with e
    exact h (by simpa using congrArg Array.toList e)
theorem eqD_ok (hu : X.A.units + 64 < cLine) (neg : Bool) : OpR X (compareOp (if neg then .NotEq else .Eq)) (liftR2 X.K (eqD neg)) := by
  intro pins s σ H x y v u Q I rx ry ⟨a, b, S, Qd, ra, rb, so, h, l⟩
  have scalar : ∀ (b' : Bool), scal x y = true → decide (x = y) = b' → Qd (.bl (neg ^^ b')) S → wpAny (model X.prog X.w) X.A (compareOp (if neg then .NotEq else .Eq) v u) (EP X pins σ Q) X.xe s := fun b' h1 h2 h3 => by
    cases neg with
    | false =>
      refine op_eq pins s σ H x y v u Q I rx ry ⟨h1, ?_⟩
      rw [h2]
      rw [Bool.false_xor] at h3
      exact l _ S _ H h3 .refl .bl so
    | true =>
      refine op_ne pins s σ H x y v u Q I rx ry ⟨h1, ?_⟩
      rw [h2]
      rw [Bool.true_xor] at h3
      exact l _ S _ H h3 .refl .bl so
  have gen : okS S a = true → okS S b = true → Qd (.bl (neg ^^ PyData.eqv (pyS S a) (pyS S b))) S → wpAny (model X.prog X.w) X.A (compareOp (if neg then .NotEq else .Eq) v u) (EP X pins σ Q) X.xe s := fun h1 h2 h3 => by
    cases neg with
    | false =>
      refine op_eqD hu pins s σ H x y v u Q I rx ry ⟨_, _, dpS so h1 ra, dpS so h2 rb, (okS_lay h1).1, (okS_lay h2).1, ?_⟩
      rw [Bool.false_xor] at h3
      exact l _ S _ H h3 .refl .bl so
    | true =>
      refine op_neD hu pins s σ H x y v u Q I rx ry ⟨_, _, dpS so h1 ra, dpS so h2 rb, (okS_lay h1).1, (okS_lay h2).1, ?_⟩
      rw [Bool.true_xor] at h3
      exact l _ S _ H h3 .refl .bl so
  cases a <;> cases b
  case int.int i j => simp only [Rep] at ra rb; subst ra rb; exact scalar _ rfl (by simp) h
  case str.str i j => simp only [Rep] at ra rb; subst ra rb; exact scalar _ rfl str_inj h
  case bl.bl i j => simp only [Rep] at ra rb; subst ra rb; exact scalar _ rfl (by simp) h
  all_goals exact gen h.1 h.2.1 h.2.2
theorem le_lists (x y : List Nat) : decide (x ≤ y) = !decide (y < x) := by
  by_cases h : y < x
  · rw [decide_eq_true h, decide_eq_false (List.not_le.mpr h)]; rfl
  · rw [decide_eq_false h, decide_eq_true (List.not_lt.mp h)]; rfl
end
end G57
set_option Elab.async false
set_option linter.all false
set_option maxRecDepth 100000
set_option maxHeartbeats 4000000
namespace G57
open PySem L2 PySem.Spec PyProof.Rows
section
variable {X : Cx}
theorem ordD_ok {op : CmpOp} {p : Int → Int → Bool} {q : List Nat → List Nat → Bool}
    (r1 : OpR X (compareOp op) (rI0 fun i j => .bl (p i j)))
    (r2 : OpR X (compareOp op) (fun x y H Q => ∃ i j, x = .str i ∧ y = .str j ∧ Q (.bl (q i.cps.toList j.cps.toList)) H)) :
    OpR X (compareOp op) (liftR2 X.K (ordD p q)) := by
  intro pins s σ H x y v u Q I rx ry ⟨a, b, S, Qd, ra, rb, so, h, l⟩
  cases a <;> cases b <;> try exact h.elim
  case int.int i j =>
    simp only [Rep] at ra rb
    exact r1 pins s σ H x y v u Q I rx ry ⟨i, j, ra, rb, l _ S _ H h .refl .bl so⟩
  case str.str i j =>
    simp only [Rep] at ra rb
    exact r2 pins s σ H x y v u Q I rx ry ⟨_, _, ra, rb, l _ S _ H h .refl .bl so⟩
theorem isD_ok (neg : Bool) : OpR X (compareOp (if neg then .IsNot else .Is)) (liftR2 X.K (isD neg)) := by
  intro pins s σ H x y v u Q I rx ry ⟨a, b, S, Qd, ra, rb, so, h, l⟩
  cases b with
  | non =>
    simp only [Rep] at rb
    subst rb
    have e : decide (x = .non) = isNon a := by
      cases a with
      | tup ds => obtain ⟨_, _, rfl, _⟩ := ra.tup_inv; rfl
      | rol ds => obtain ⟨_, _, rfl, _⟩ := ra.rol_inv; rfl
      | _ => simp only [Rep] at ra; subst ra; rfl
    have h : Qd (.bl (neg ^^ isNon a)) S := by cases a <;> exact h
    rw [← e] at h
    cases neg with
    | false => exact op_isN pins s σ H x _ v u Q I rx ry ⟨rfl, l _ S _ H (by rw [Bool.false_xor] at h; exact h) .refl .bl so⟩
    | true => exact op_notN pins s σ H x _ v u Q I rx ry ⟨rfl, l _ S _ H (by rw [Bool.true_xor] at h; exact h) .refl .bl so⟩
  | bl b =>
    simp only [Rep] at rb
    subst rb
    cases a <;> try exact h.elim
    case bl a =>
      simp only [Rep] at ra
      subst ra
      cases neg with
      | false => exact op_isBl pins s σ H _ _ v u Q I rx ry ⟨a, b, rfl, rfl, l _ S _ H (by have h : Qd (.bl (false ^^ decide (a = b))) S := h; rw [Bool.false_xor] at h; exact h) .refl .bl so⟩
      | true => exact op_notBl pins s σ H _ _ v u Q I rx ry ⟨a, b, rfl, rfl, l _ S _ H (by have h : Qd (.bl (true ^^ decide (a = b))) S := h; rw [Bool.true_xor] at h; exact h) .refl .bl so⟩
    case non =>
      simp only [Rep] at ra
      subst ra
      cases rx
      cases ry
      cases neg with
      | false =>
        show wpAny _ _ (compareOp .Is .none (.bool b)) _ _ s
        exact fun _ _ _ => ⟨.bl false, H, I, rfl, l _ S _ H h .refl .bl so⟩
      | true =>
        show wpAny _ _ (compareOp .IsNot .none (.bool b)) _ _ s
        exact fun _ _ _ => ⟨.bl true, H, I, rfl, l _ S _ H h .refl .bl so⟩
  | _ => cases a <;> exact h.elim
theorem flat_of {K : PySem.W.Frag} {H : Hp} {d : D} {v : V} (h : flatD d = true) (r : Rep K H d v) : flatV v = true := by
  cases d <;> simp [flatD] at h <;> (simp only [Rep] at r; subst r; rfl)
theorem eqF_of {K : PySem.W.Frag} {H : Hp} {d e : D} {v u : V} (r : Rep K H d v) (t : Rep K H e u) (hd : flatD d = true) (he : flatD e = true) : eqV v u = eqF d e := by
  cases d <;> simp [flatD] at hd <;> cases e <;> simp [flatD] at he <;> (simp only [Rep] at r t; subst r t; try rfl)
  rename_i x y
  show (_ == _) = (_ == _)
  by_cases h : x = y
  · subst h; simp
  · rw [beq_eq_false_iff_ne.mpr h]
    exact beq_eq_false_iff_ne.mpr fun e => h (by injection e with e; simpa using congrArg Array.toList e)
theorem flats_of {K : PySem.W.Frag} {H : Hp} : ∀ {ds : List D} {vs : List V}, ds.all flatD = true → Reps K H ds vs → vs.all flatV = true
  | [], _, _, r => by simp only [Reps] at r; subst r; rfl
  | d :: ds, v :: vs, h, r => by
    rw [List.all_cons, Bool.and_eq_true] at h ⊢
    exact ⟨flat_of h.1 r.inv.1, flats_of h.2 r.inv.2⟩
  | d :: ds, [], _, r => by simp only [Reps] at r; obtain ⟨_, _, e, _⟩ := r; cases e
theorem ins_of {K : PySem.W.Frag} {H : Hp} {a : D} {x : V} (ra : Rep K H a x) (ha : flatD a = true) : ∀ {ds : List D} {vs : List V}, ds.all flatD = true → Reps K H ds vs → inV x vs = ds.any fun z => eqF z a
  | [], _, _, r => by simp only [Reps] at r; subst r; rfl
  | d :: ds, v :: vs, h, r => by
    rw [List.all_cons, Bool.and_eq_true] at h
    have ih := ins_of ra ha h.2 r.inv.2
    unfold inV at ih ⊢
    rw [List.any_cons, List.any_cons, ih, eqF_of r.inv.1 ra h.1 ha]
  | d :: ds, [], _, r => by simp only [Reps] at r; obtain ⟨_, _, e, _⟩ := r; cases e
theorem inD_ok (neg : Bool) : OpR X (compareOp (if neg then .NotIn else .In)) (liftR2 X.K (inD neg)) := by
  intro pins s σ H x y v u Q I rx ry ⟨a, b, S, Qd, ra, rb, so, h, l⟩
  have gen : ∀ p ds vs, y = .ref p → (SqL X.K H p vs ∨ SqT X.K H p vs) → Reps X.K H ds vs → flatD a = true → ds.all flatD = true → Qd (.bl (neg ^^ ds.any fun z => eqF z a)) S →
      wpAny (model X.prog X.w) X.A (compareOp (if neg then .NotIn else .In) v u) (EP X pins σ Q) X.xe s := fun p ds vs e hq r f1 f2 h => by
    rw [← ins_of ra f1 f2 r] at h
    cases neg with
    | false => exact op_in_seq pins s σ H x y v u Q I rx ry ⟨p, vs, e, hq, flat_of f1 ra, flats_of f2 r, l _ S _ H (by rw [Bool.false_xor] at h; exact h) .refl .bl so⟩
    | true => exact op_notIn_seq pins s σ H x y v u Q I rx ry ⟨p, vs, e, hq, flat_of f1 ra, flats_of f2 r, l _ S _ H (by rw [Bool.true_xor] at h; exact h) .refl .bl so⟩
  cases b with
  | tup ds =>
    obtain ⟨p, vs, e, q, r⟩ := rb.tup_inv
    have h : flatD a = true ∧ ds.all flatD = true ∧ Qd (.bl (neg ^^ ds.any fun z => eqF z a)) S := by
      cases a with
      | str z => rcases z with _ | ⟨c, _ | ⟨c', z⟩⟩ <;> exact h
      | _ => exact h
    exact gen p ds vs e (.inr q) r h.1 h.2.1 h.2.2
  | ref p =>
    simp only [Rep] at rb
    have h : ∃ ds, S p = some (.lst ds) ∧ flatD a = true ∧ ds.all flatD = true ∧ Qd (.bl (neg ^^ ds.any fun z => eqF z a)) S := by
      cases a with
      | str z => rcases z with _ | ⟨c, _ | ⟨c', z⟩⟩ <;> exact h
      | _ => exact h
    obtain ⟨ds, e, h1, h2, h3⟩ := h
    obtain ⟨vs, q, r⟩ := so p _ e
    exact gen p ds vs rb (.inl (.inl (.inl q))) r h1 h2 h3
  | str z =>
    cases a with
    | str w =>
      rcases w with _ | ⟨c, _ | ⟨c', w⟩⟩
      · exact h.elim
      · simp only [Rep] at ra rb
        subst ra rb
        cases neg with
        | false => exact op_in_sign pins s σ H _ _ v u Q I rx ry ⟨c, _, rfl, rfl, l _ S _ H (by have h : Qd (.bl (false ^^ decide (c ∈ z))) S := h; rw [Bool.false_xor] at h; exact h) .refl .bl so⟩
        | true => exact op_notIn_sign pins s σ H _ _ v u Q I rx ry ⟨c, _, rfl, rfl, l _ S _ H (by have h : Qd (.bl (true ^^ decide (c ∈ z))) S := h; rw [Bool.true_xor] at h; exact h) .refl .bl so⟩
      · exact h.elim
    | _ => exact h.elim
  | _ => 
    cases a with
    | str z => rcases z with _ | ⟨c, _ | ⟨c', z⟩⟩ <;> exact h.elim
    | _ => exact h.elim
theorem cmpD_ok (hu : X.A.units + 64 < cLine) (op : CmpOp) : OpR X (compareOp op) (liftR2 X.K (cmpD op)) := by
  cases op with
  | Eq => exact eqD_ok hu false
  | NotEq => exact eqD_ok hu true
  | Is => exact isD_ok false
  | IsNot => exact isD_ok true
  | In => exact inD_ok false
  | NotIn => exact inD_ok true
  | Lt => exact ordD_ok op_lt op_lt_str
  | Gt => exact ordD_ok op_gt op_gt_str
  | LtE => exact ordD_ok op_le fun pins s σ H x y v u Q I rx ry ⟨i, j, e1, e2, q⟩ => op_le_str pins s σ H x y v u Q I rx ry ⟨i, j, e1, e2, by rw [← le_lists]; exact q⟩
  | GtE => exact ordD_ok op_ge fun pins s σ H x y v u Q I rx ry ⟨i, j, e1, e2, q⟩ => op_ge_str pins s σ H x y v u Q I rx ry ⟨i, j, e1, e2, by rw [← le_lists]; exact q⟩
end
/-! ### truth -/
def truD (S : Sto) : D → Option Bool
  | .non => some false
  | .bl b => some b
  | .int i => some (i != 0)
  | .str x => some (!x.isEmpty)
  | .tup ds => some (!ds.isEmpty)
  | .rol ds => some (!ds.isEmpty)
  | .ref p => match S p with
    | some (.lst ds) => some (!ds.isEmpty)
    | none => none
theorem isEmpty_reps {K : PySem.W.Frag} {H : Hp} {ds : List D} {vs : List V} (r : Reps K H ds vs) : ds.isEmpty = vs.isEmpty := by
  cases ds with
  | nil => simp only [Reps] at r; subst r; rfl
  | cons d ds => simp only [Reps] at r; obtain ⟨_, _, e, _⟩ := r; subst e; rfl
theorem truD_ok {K : PySem.W.Frag} {H : Hp} {S : Sto} (so : StoOk K H S) {d : D} {v : V} {b : Bool} (r : Rep K H d v) (h : truD S d = some b) (hz : ∀ x, d = .str x → x.length ≤ 16777216) : TruV K v H b := by
  cases d with
  | non => simp only [Rep] at r; subst r; simp only [truD] at h; cases h; rfl
  | bl c => simp only [Rep] at r; subst r; simp only [truD] at h; cases h; rfl
  | int i => simp only [Rep] at r; subst r; simp only [truD] at h; cases h; rfl
  | str x =>
    simp only [Rep] at r; subst r; simp only [truD] at h; cases h
    refine ⟨by rw [str_len, szl]; exact hz x rfl, ?_⟩
    rw [str_len]
    cases x with
    | nil => rfl
    | cons c x => simp; omega
  | tup ds =>
    obtain ⟨a, vs, rfl, q, r⟩ := r.tup_inv
    simp only [truD] at h; cases h
    exact .inr (.inl ⟨vs, q, by rw [isEmpty_reps r]⟩)
  | rol ds =>
    obtain ⟨a, vs, rfl, q, r⟩ := r.rol_inv
    simp only [truD] at h; cases h
    exact .inl ⟨vs, q.sq, by rw [isEmpty_reps r]⟩
  | ref p =>
    simp only [Rep] at r; subst r
    simp only [truD] at h
    cases e : S p with
    | none => rw [e] at h; cases h
    | some o =>
      cases o with
      | lst ds =>
        rw [e] at h; cases h
        obtain ⟨vs, q, r⟩ := so p _ e
        exact .inl ⟨vs, .inl (.inl q), by rw [isEmpty_reps r]⟩
/-! ### items and slices -/
theorem atI_reps {K : PySem.W.Frag} {H : Hp} {ds : List D} {vs : List V} {i : Int} {d : D} (r : Reps K H ds vs) (h : atI ds i = some d) : ∃ v, atI vs i = some v ∧ Rep K H d v := by
  unfold atI at h ⊢
  rw [r.length] at h
  obtain ⟨j, e1, e2⟩ := Option.bind_eq_some_iff.mp h
  obtain ⟨v, q, t⟩ := r.get e2
  exact ⟨v, by rw [e1]; exact q, t⟩
def idxD : R2D
  | .tup ds, .int i, S, Q => ∃ d, atI ds i = some d ∧ Q d S
  | .rol ds, .int i, S, Q => ∃ d, atI ds i = some d ∧ Q d S
  | .str x, .int i, S, Q => x.length ≤ 16777216 ∧ ∃ c, atI x i = some c ∧ Q (.str [c]) S
  | .ref p, .int i, S, Q => ∃ ds d, S p = some (.lst ds) ∧ atI ds i = some d ∧ Q d S
  | _, _, _, _ => False
def cutD {α : Type} (xs : List α) (lo hi : Option Int) : List α := (xs.drop (HT.sIx xs.length 0 lo)).take (HT.sIx xs.length xs.length hi - HT.sIx xs.length 0 lo)
def slD : D → Option Int → Option Int → Sto → DK → Prop
  | .tup ds, lo, hi, S, Q => Q (.tup (cutD ds lo hi)) S
  | .rol ds, lo, hi, S, Q => ∀ p, S p = none → Q (.ref p) (put S p (.lst (cutD ds lo hi)))
  | .str x, lo, hi, S, Q => x.length ≤ 16777216 ∧ Q (.str (cutD x lo hi)) S
  | .ref p, lo, hi, S, Q => ∃ ds, S p = some (.lst ds) ∧ ∀ r, S r = none → Q (.ref r) (put S r (.lst (cutD ds lo hi)))
  | _, _, _, _, _ => False
section
variable {X : Cx}
theorem idxD_ok : IxR X (liftR2 X.K idxD) := by
  intro value slice pins s σ H x y v u Q I rx ry ⟨a, b, S, Qd, ra, rb, so, h, l⟩ hs
  cases a <;> cases b <;> try exact h.elim
  case tup.int ds i =>
    obtain ⟨p, vs, rfl, q, r⟩ := ra.tup_inv
    simp only [Rep] at rb
    obtain ⟨d, e, h⟩ := h
    obtain ⟨z, e2, rz⟩ := atI_reps r e
    exact ix_tup value slice pins s σ H _ y v u Q I rx ry ⟨p, vs, i, z, rfl, rb, q, e2, l d S z H h .refl rz so⟩ hs
  case rol.int ds i =>
    obtain ⟨p, vs, rfl, q, r⟩ := ra.rol_inv
    simp only [Rep] at rb
    obtain ⟨d, e, h⟩ := h
    obtain ⟨z, e2, rz⟩ := atI_reps r e
    exact ix_list value slice pins s σ H _ y v u Q I rx ry ⟨p, vs, i, z, rfl, rb, q.sq, e2, l d S z H h .refl rz so⟩ hs
  case str.int w i =>
    simp only [Rep] at ra rb
    obtain ⟨hz, c, e, h⟩ := h
    exact ix_str value slice pins s σ H _ y v u Q I rx ry ⟨_, i, c, ra, rb, by rw [str_len, szl]; exact hz, e, l _ S _ H h .refl (by simp only [Rep]) so⟩ hs
  case ref.int p i =>
    simp only [Rep] at ra rb
    obtain ⟨ds, d, e0, e, h⟩ := h
    obtain ⟨vs, q, r⟩ := so p _ e0
    obtain ⟨z, e2, rz⟩ := atI_reps r e
    exact ix_list value slice pins s σ H _ y v u Q I rx ry ⟨p, vs, i, z, ra, rb, .inl (.inl q), e2, l d S z H h .refl rz so⟩ hs
theorem cut_reps {K : PySem.W.Frag} {H : Hp} {ds : List D} {vs : List V} {lo hi : Option Int} (r : Reps K H ds vs) : Reps K H (cutD ds lo hi) (cutV vs lo hi) := by
  unfold cutD cutV
  rw [r.length]
  exact (r.drop _).take _
def liftSl (K : PySem.W.Frag) : V → Option Int → Option Int → Hp → VK → Prop := fun x lo hi H Q => ∃ a S Qd, Rep K H a x ∧ StoOk K H S ∧ slD a lo hi S Qd ∧ Lv K H Qd Q
theorem slD_ok : SlR X (liftSl X.K) := by
  intro pins s σ H x v vl vu lo hi sl Q I rx hs pl pu ⟨a, S, Qd, ra, so, h, l⟩
  cases a <;> try exact h.elim
  case tup ds =>
    obtain ⟨p, vs, rfl, q, r⟩ := ra.tup_inv
    refine sl_tupA pins s σ H _ v vl vu lo hi sl Q I rx hs pl pu ⟨p, vs, rfl, q, fun hw => ?_, fun _ t ht => l.tup so h (cut_reps r) t ht⟩
    have e : cutD ds lo hi = ds := by
      unfold cutD
      rw [r.length, hw.1, hw.2, List.drop_zero, Nat.sub_zero, ← r.length, List.take_length]
    have h : Qd (.tup (cutD ds lo hi)) S := h
    rw [e] at h
    exact l _ S _ H h .refl ra so
  case rol ds =>
    obtain ⟨p, vs, rfl, q, r⟩ := ra.rol_inv
    exact sl_list pins s σ H _ v vl vu lo hi sl Q I rx hs pl pu ⟨p, vs, rfl, q.sq, fun t ht => l.lst so h (cut_reps r) t ht⟩
  case str z =>
    simp only [Rep] at ra
    obtain ⟨hz, h⟩ := h
    refine sl_str pins s σ H _ v vl vu lo hi sl Q I rx hs pl pu ⟨_, ra, by rw [str_len, szl]; exact hz, ?_⟩
    have e : cutS (⟨z.toArray⟩ : Str) lo hi = ⟨(cutD z lo hi).toArray⟩ := by
      unfold cutS cutD
      rw [str_len]
    rw [e]
    exact l _ S _ H h .refl .str so
  case ref p =>
    simp only [Rep] at ra
    obtain ⟨ds, e, h⟩ := h
    obtain ⟨vs, q, r⟩ := so p _ e
    exact sl_list pins s σ H _ v vl vu lo hi sl Q I rx hs pl pu ⟨p, vs, ra, .inl (.inl q), fun t ht => l.lst so h (cut_reps r) t ht⟩
end
end G57
set_option Elab.async false
set_option linter.all false
set_option maxRecDepth 100000
set_option maxHeartbeats 4000000
namespace G57
open PySem L2 PySem.Spec PyProof.Rows
/-! ### any, all, sum over a list or a tuple -/
section
variable {prog : Program} {w : World} {A : Around} {E : Value → Shared → Prop} {s : Shared} {l : Addr} {its : List Value} {Q : Value → Shared → Prop}
/-- what is walked: a list or a tuple -/
def Seen (h : Heap) (l : Addr) (its : List Value) : Prop := h.IsList l its.toArray ∨ h.IsTuple l its.toArray
theorem iter_seen (hh : A.handled = none) (hl : Seen s.heap l its)
    (h : ∀ (s₂ : Shared) (St : Nat → Heap → Prop), (∀ b o, s.heap.get? b = some o → s₂.heap.get? b = some o) → s₂.heap.objs.size = s.heap.objs.size + 1 → s₂.gens = s.gens → s₂.drawn = s.drawn → s₂.os = s.os → l < s.heap.objs.size →
      Walks prog w A s.heap.objs.size [s.heap.objs.size, l] [s.heap.objs.size] its.length (fun i v => its[i]? = some v) St → St 0 s₂.heap → Q (.ref s.heap.objs.size) s₂) :
    wpAny (model prog w) A (pyIter (.ref l)) Q E s := by
  rcases hl with hl | hl
  · have hlt : l < s.heap.objs.size := by obtain ⟨_, e, _⟩ := hl; exact Heap.lt_size e
    refine wpAny_pyIter_list hl (h _ (fun i h => h.IsListIter s.heap.objs.size l i ∧ h.IsList l its.toArray) (fun b o e => Heap.get?_push_of_some _ e) (Heap.size_push ..) rfl rfl rfl hlt ?_ ⟨⟨_, Heap.get?_push_size _ rfl, rfl, rfl⟩, hl.push _⟩)
    have W := Walks.list (prog := prog) (w := w) hh s.heap.objs.size l (Nat.ne_of_lt hlt) its.toArray
    simpa using W
  · have hlt : l < s.heap.objs.size := by obtain ⟨_, e, _⟩ := hl; exact Heap.lt_size e
    refine wpAny_pyIter_tuple hl (h _ (fun i h => h.IsTupleIter s.heap.objs.size l i ∧ h.IsTuple l its.toArray) (fun b o e => Heap.get?_push_of_some _ e) (Heap.size_push ..) rfl rfl rfl hlt ?_ ⟨⟨_, Heap.get?_push_size _ rfl, rfl, rfl⟩, hl.push _⟩)
    have W := Walks.tuple (prog := prog) (w := w) hh s.heap.objs.size l (Nat.ne_of_lt hlt) its.toArray
    simpa using W
end
def truF : D → Option Bool
  | .non => some false
  | .bl b => some b
  | .int i => some (i != 0)
  | _ => none
def trusF : List D → Option (List Bool)
  | [] => some []
  | d :: ds => match truF d, trusF ds with
    | some b, some bs => some (b :: bs)
    | _, _ => none
def intsF : List D → Option (List Int)
  | [] => some []
  | .int i :: ds => match intsF ds with
    | some is => some (i :: is)
    | none => none
  | _ :: _ => none
/-- a list, a tuple, as its items -/
def seqD (S : Sto) : D → Option (List D)
  | .tup ds | .rol ds => some ds
  | .ref p => match S p with
    | some (.lst ds) => some ds
    | none => none
  | _ => none
section
variable {X : Cx}
theorem seq_inv {K : PySem.W.Frag} {H : Hp} {S : Sto} (so : StoOk K H S) {d : D} {v : V} {ds : List D} (r : Rep K H d v) (h : seqD S d = some ds) :
    ∃ a vs, v = .ref a ∧ (SqL K H a vs ∨ SqT K H a vs) ∧ Reps K H ds vs := by
  cases d <;> simp only [seqD] at h <;> try cases h
  case tup => obtain ⟨a, vs, e, q, r⟩ := r.tup_inv; exact ⟨a, vs, e, .inr q, r⟩
  case rol => obtain ⟨a, vs, e, q, r⟩ := r.rol_inv; exact ⟨a, vs, e, .inl q.sq, r⟩
  case ref p =>
    simp only [Rep] at r
    cases e : S p with
    | none => rw [e] at h; cases h
    | some o =>
      cases o with
      | lst es =>
        rw [e] at h; cases h
        obtain ⟨vs, q, t⟩ := so p _ e
        exact ⟨p, vs, r, .inl (.inl (.inl q)), t⟩
theorem seen_of {pins : List (Addr × Obj)} {σ : L2.St} {H : Hp} {s : Shared} (I : Inv X pins σ H s) {a : Addr} {vs : List V} (h : SqL X.K H a vs ∨ SqT X.K H a vs) : ∃ its : List Value, Vals vs its ∧ Seen s.heap a its := by
  rcases h with h | h
  · obtain ⟨its, r, q, _⟩ := I.list h; exact ⟨its, r, .inl q.isList⟩
  · obtain ⟨its, r, q, _⟩ := I.tuple h; exact ⟨its, r, .inr q⟩
theorem trus_get {K : PySem.W.Frag} {H : Hp} : ∀ {ds : List D} {bs : List Bool} {vs : List V} {its : List Value} {i : Nat} {v : Value}, trusF ds = some bs → Reps K H ds vs → Vals vs its → its[i]? = some v →
    ∃ b, bs[i]? = some b ∧ ∀ (prog : Program) (w : World) (A : Around) (s : Shared) (Q : Bool → Shared → Prop) (E : Value → Shared → Prop), Q b s → wpAny (model prog w) A (truthy v) Q E s
  | [], _, _, _, _, _, _, r, t, e => by
    simp only [Reps] at r; subst r; cases t; simp at e
  | d :: ds, bs, [], _, _, _, _, r, _, _ => by simp only [Reps] at r; obtain ⟨_, _, e, _⟩ := r; cases e
  | d :: ds, bs, x :: vs, _, i, v, h, r, t, e => by
    simp only [trusF] at h
    cases h1 : truF d with
    | none => rw [h1] at h; cases h
    | some b =>
      cases h2 : trusF ds with
      | none => rw [h1, h2] at h; cases h
      | some bs' =>
        rw [h1, h2] at h; cases h
        cases t with
        | cons t1 t2 =>
          cases i with
          | zero =>
            rw [List.getElem?_cons_zero] at e
            cases e
            refine ⟨b, rfl, fun prog w A s Q E hq => ?_⟩
            have r1 := r.inv.1
            cases d <;> simp [truF] at h1
            case non => simp only [Rep] at r1; subst r1; cases t1; subst h1; exact fun _ _ _ => hq
            case bl c => simp only [Rep] at r1; subst r1; cases t1; subst h1; exact wpAny_truthy_bool hq
            case int c => simp only [Rep] at r1; subst r1; obtain ⟨_, rfl⟩ := t1; subst h1; exact PyProof.Rows.truthy_int hq
          | succ i =>
            rw [List.getElem?_cons_succ] at e ⊢
            exact trus_get h2 r.inv.2 t2 e
theorem trus_len : ∀ {ds : List D} {bs : List Bool}, trusF ds = some bs → bs.length = ds.length
  | [], _, h => by simp only [trusF] at h; cases h; rfl
  | d :: ds, bs, h => by
    simp only [trusF] at h
    cases h1 : truF d with
    | none => rw [h1] at h; cases h
    | some b =>
      cases h2 : trusF ds with
      | none => rw [h1, h2] at h; cases h
      | some bs' => rw [h1, h2] at h; cases h; rw [List.length_cons, List.length_cons, trus_len h2]
theorem ints_reps {K : PySem.W.Frag} {H : Hp} : ∀ {ds : List D} {is : List Int} {vs : List V}, intsF ds = some is → Reps K H ds vs → vs = is.map V.int
  | [], _, _, h, r => by simp only [intsF] at h; cases h; simp only [Reps] at r; exact r
  | d :: ds, is, [], _, r => by simp only [Reps] at r; obtain ⟨_, _, e, _⟩ := r; cases e
  | d :: ds, is, v :: vs, h, r => by
    cases d <;> simp only [intsF] at h <;> try cases h
    case int i =>
      cases h2 : intsF ds with
      | none => rw [h2] at h; cases h
      | some is' =>
        rw [h2] at h; cases h
        have r1 := r.inv.1
        simp only [Rep] at r1
        rw [List.map_cons, r1, ints_reps h2 r.inv.2]
theorem any_all_kept {s : Shared} {s₂ : Shared} {h' : Heap} (h1 : ∀ b o, s.heap.get? b = some o → s₂.heap.get? b = some o) (hk : ∀ b o, b ∉ [s.heap.objs.size] → s₂.heap.get? b = some o → h'.get? b = some o) :
    ∀ b o, s.heap.get? b = some o → h'.get? b = some o := fun b o e => hk b o (by
      intro hm
      rw [List.mem_singleton] at hm
      exact absurd (Heap.lt_size e) (by rw [hm]; exact Nat.lt_irrefl _)) (h1 b o e)
def anyD : RLD
  | [d], S, Q => ∃ ds bs, seqD S d = some ds ∧ trusF ds = some bs ∧ Q (.bl (bs.any id)) S
  | _, _, _ => False
def allD : RLD
  | [d], S, Q => ∃ ds bs, seqD S d = some ds ∧ trusF ds = some bs ∧ Q (.bl (bs.all id)) S
  | _, _, _ => False
def sumD : RLD
  | [d], S, Q => ∃ ds is, seqD S d = some ds ∧ intsF ds = some is ∧ Q (.int is.sum) S
  | _, _, _ => False
theorem one_arg {K : PySem.W.Frag} {H : Hp} {d : D} {xs : List V} {us : List Value} (r : Reps K H [d] xs) (t : Vals xs us) : ∃ x u, xs = [x] ∧ us = [u] ∧ Rep K H d x ∧ RelV x u := by
  simp only [Reps] at r
  obtain ⟨x, _, e, r1, rfl⟩ := r
  subst e
  cases t with
  | cons t1 t2 => cases t2; exact ⟨x, _, rfl, rfl, r1, t1⟩
theorem anyD_ok (hc : X.calm = true) : CallR X (.builtin "any") (liftRL X.K anyD) := by
  intro pins s σ H xs us Q I t ⟨ds, S, Qd, r, so, h, l⟩
  match ds, r, h with
  | [d], r, h =>
    obtain ⟨es, bs, e1, e2, h⟩ := h
    obtain ⟨x, u, rfl, rfl, r1, t1⟩ := one_arg r t
    obtain ⟨a, vs, rfl, q, rs⟩ := seq_inv so r1 e1
    cases t1
    obtain ⟨its, tv, hs⟩ := seen_of I q
    have hl : its.length = bs.length := by rw [trus_len e2, rs.length, tv.length]
    refine call_any_walk (iter_seen (I.ok.hd hc) hs fun s₂ St k1 k2 k3 k4 k5 k6 W st => ?_)
    refine ⟨_, _, _, _, _, St, fun i => bs.getD i false, rfl, W, st, fun i v s Q E hv hq => ?_, fun h' tk hk => ?_⟩
    · obtain ⟨b, eb, tr⟩ := trus_get e2 rs tv hv
      refine tr _ _ _ _ _ _ ?_
      have eg : bs.getD i false = b := by rw [List.getD_eq_getElem?_getD, eb] <;> rfl
      rw [← eg]; exact hq
    · obtain ⟨hh, g, d, tt, os⟩ := s₂
      obtain rfl : g = s.gens := k3
      obtain rfl : d = s.drawn := k4
      obtain rfl : os = s.os := k5
      refine ⟨.bl _, H, I.kept (any_all_kept k1 hk), rfl, ?_⟩
      rw [hl, L2.any_range]
      exact l _ S _ H h .refl .bl so
theorem allD_ok (hc : X.calm = true) : CallR X (.builtin "all") (liftRL X.K allD) := by
  intro pins s σ H xs us Q I t ⟨ds, S, Qd, r, so, h, l⟩
  match ds, r, h with
  | [d], r, h =>
    obtain ⟨es, bs, e1, e2, h⟩ := h
    obtain ⟨x, u, rfl, rfl, r1, t1⟩ := one_arg r t
    obtain ⟨a, vs, rfl, q, rs⟩ := seq_inv so r1 e1
    cases t1
    obtain ⟨its, tv, hs⟩ := seen_of I q
    have hl : its.length = bs.length := by rw [trus_len e2, rs.length, tv.length]
    refine call_all_walk (iter_seen (I.ok.hd hc) hs fun s₂ St k1 k2 k3 k4 k5 k6 W st => ?_)
    refine ⟨_, _, _, _, _, St, fun i => bs.getD i false, rfl, W, st, fun i v s Q E hv hq => ?_, fun h' tk hk => ?_⟩
    · obtain ⟨b, eb, tr⟩ := trus_get e2 rs tv hv
      refine tr _ _ _ _ _ _ ?_
      have eg : bs.getD i false = b := by rw [List.getD_eq_getElem?_getD, eb] <;> rfl
      rw [← eg]; exact hq
    · obtain ⟨hh, g, d, tt, os⟩ := s₂
      obtain rfl : g = s.gens := k3
      obtain rfl : d = s.drawn := k4
      obtain rfl : os = s.os := k5
      refine ⟨.bl _, H, I.kept (any_all_kept k1 hk), rfl, ?_⟩
      rw [hl, L2.all_range]
      exact l _ S _ H h .refl .bl so
theorem preSum_list (is : List Int) : preSum (fun i => is.getD i 0) is.length = is.sum := by
  have gen : ∀ n, n ≤ is.length → preSum (fun i => is.getD i 0) n = (is.take n).sum := by
    intro n
    induction n with
    | zero => intro _; rfl
    | succ n ih =>
      intro hn
      have e : preSum (fun i => is.getD i 0) (n + 1) = preSum (fun i => is.getD i 0) n + is.getD n 0 := rfl
      have e2 : is.take (n + 1) = is.take n ++ [is[n]] := by
        rw [List.take_add_one, List.getElem?_eq_getElem (by omega)] <;> rfl
      rw [e, ih (by omega), e2, List.sum_append, List.getD_eq_getElem?_getD, List.getElem?_eq_getElem (by omega)]
      simp
  rw [gen _ (Nat.le_refl _), List.take_length]
theorem sumD_ok (hc : X.calm = true) : CallR X (.builtin "sum") (liftRL X.K sumD) := by
  intro pins s σ H xs us Q I t ⟨ds, S, Qd, r, so, h, l⟩
  match ds, r, h with
  | [d], r, h =>
    obtain ⟨es, is, e1, e2, h⟩ := h
    obtain ⟨x, u, rfl, rfl, r1, t1⟩ := one_arg r t
    obtain ⟨a, vs, rfl, q, rs⟩ := seq_inv so r1 e1
    cases t1
    obtain ⟨its, tv, hs⟩ := seen_of I q
    have ev := ints_reps e2 rs
    subst ev
    have hl : its.length = is.length := by rw [← tv.length, List.length_map]
    refine call_sum_walkG (iter_seen (I.ok.hd hc) hs fun s₂ St k1 k2 k3 k4 k5 k6 W st => ?_)
    refine ⟨_, _, _, _, _, St, fun i => is.getD i 0, rfl, W, st, fun b hb => ?_, fun i v hv => ?_, fun h' tk t' hk => ?_⟩
    · rw [k2]
      simp only [List.mem_cons, List.mem_nil_iff, or_false] at hb
      rcases hb with rfl | rfl
      · exact Nat.lt_succ_self _
      · exact Nat.lt_succ_of_lt k6
    · have hi : i < its.length := by
        by_cases z : i < its.length
        · exact z
        · rw [List.getElem?_eq_none (by omega)] at hv; cases hv
      have : (is.map V.int)[i]? = some (V.int is[i]) := by rw [List.getElem?_map, List.getElem?_eq_getElem (by omega)]; rfl
      obtain ⟨u, hu, ru⟩ := tv.get this
      rw [hv] at hu; cases hu
      obtain ⟨tt, rfl⟩ := ru
      exact ⟨tt, by show _ = Value.int (is.getD i 0) tt; rw [List.getD_eq_getElem?_getD, List.getElem?_eq_getElem (by omega)]; rfl⟩
    · obtain ⟨hh, g, d, tt, os⟩ := s₂
      obtain rfl : g = s.gens := k3
      obtain rfl : d = s.drawn := k4
      obtain rfl : os = s.os := k5
      refine ⟨.int is.sum, H, I.kept (any_all_kept k1 hk), ⟨t', ?_⟩, ?_⟩
      · rw [hl, preSum_list]
      · exact l _ S _ H h .refl .int so
end
end G57
set_option Elab.async false
set_option linter.all false
set_option maxRecDepth 100000
set_option maxHeartbeats 400000
namespace G57
open PySem L2 PySem.Spec PyProof.Rows
def itxt (i : Int) : List Nat := (Str.ofString (toString i)).cps.toList
def rtxt (d : PyData) : List Nat := d.shown.cps.toList
def strsF : List D → Option (List (List Nat))
  | [] => some []
  | .str x :: ds => match strsF ds with
    | some xs => some (x :: xs)
    | none => none
  | _ :: _ => none
def joinL (sep : List Nat) : List (List Nat) → List Nat
  | [] => []
  | [x] => x
  | x :: y :: r => x ++ sep ++ joinL sep (y :: r)
def lenL : List (List Nat) → Nat
  | [] => 0
  | x :: xs => x.length + lenL xs
inductive Bi where
  | len | sum | any | all | abs | min | max | int | str | tuple | list | repr
def lenD : RLD
  | [.str x], S, Q => x.length ≤ 16777216 ∧ Q (.int x.length) S
  | [d], S, Q => ∃ ds, seqD S d = some ds ∧ Q (.int ds.length) S
  | _, _, _ => False
def absD : RLD
  | [.int i], S, Q => Q (.int i.natAbs) S
  | _, _, _ => False
def minD : RLD
  | [.int i, .int j], S, Q => Q (.int (min i j)) S
  | _, _, _ => False
def maxD : RLD
  | [.int i, .int j], S, Q => Q (.int (max i j)) S
  | _, _, _ => False
def intD : RLD
  | [.int i], S, Q => Q (.int i) S
  | [.bl b], S, Q => Q (.int (if b then 1 else 0)) S
  | [.str x], S, Q => ∃ n, PySem.intText? ⟨x.toArray⟩ = some n ∧ x.length ≤ 640 ∧ Q (.int n) S
  | _, _, _ => False
def strD : RLD
  | [.int i], S, Q => i.natAbs < 2 ^ 1900 ∧ Q (.str (itxt i)) S
  | _, _, _ => False
def tupleD : RLD
  | [d], S, Q => ∃ ds, seqD S d = some ds ∧ Q (.tup ds) S
  | _, _, _ => False
def listD : RLD
  | [d], S, Q => ∃ ds, seqD S d = some ds ∧ ∀ p, S p = none → Q (.ref p) (put S p (.lst ds))
  | _, _, _ => False
def reprD : RLD
  | [d], S, Q => okS S d = true ∧ shS S d = true ∧ (pyS S d).shown.length ≤ 16777216 ∧ Q (.str (rtxt (pyS S d))) S
  | _, _, _ => False
def biD : Bi → RLD
  | .len => lenD | .sum => sumD | .any => anyD | .all => allD | .abs => absD | .min => minD | .max => maxD
  | .int => intD | .str => strD | .tuple => tupleD | .list => listD | .repr => reprD
section
variable {X : Cx}
theorem seqs_ref {K : PySem.W.Frag} {H : Hp} {S : Sto} (so : StoOk K H S) {d : D} {xs : List V} {ds : List D} (r : Reps K H [d] xs) (h : seqD S d = some ds) :
    ∃ a vs, xs = [.ref a] ∧ (SqL K H a vs ∨ SqT K H a vs) ∧ Reps K H ds vs := by
  simp only [Reps] at r
  obtain ⟨x, _, e, r1, rfl⟩ := r
  obtain ⟨a, vs, rfl, q, t⟩ := seq_inv so r1 h
  exact ⟨a, vs, e, q, t⟩
theorem lenD_ok : CallR X (.builtin "len") (liftRL X.K lenD) := by
  intro pins s σ H xs us Q I t ⟨ds, S, Qd, r, so, h, l⟩
  unfold lenD at h
  split at h
  · rename_i x
    simp only [Reps, Rep] at r
    obtain ⟨_, _, rfl, rfl, rfl⟩ := r
    obtain ⟨hz, h⟩ := h
    refine call_len_str pins s σ H _ us Q I t ⟨_, rfl, by rw [str_len, szl]; exact hz, ?_⟩
    rw [str_len]
    exact l _ S _ H h .refl .int so
  · obtain ⟨es, e1, h⟩ := h
    obtain ⟨a, vs, rfl, q, rs⟩ := seqs_ref so r e1
    refine call_len_seq pins s σ H _ us Q I t ⟨a, vs, rfl, q, ?_⟩
    rw [← rs.length]
    exact l _ S _ H h .refl .int so
  · exact h.elim
theorem absD_ok : CallR X (.builtin "abs") (liftRL X.K absD) := by
  intro pins s σ H xs us Q I t ⟨ds, S, Qd, r, so, h, l⟩
  unfold absD at h
  split at h
  · rename_i i
    simp only [Reps, Rep] at r
    obtain ⟨_, _, rfl, rfl, rfl⟩ := r
    refine call_abs pins s σ H _ us Q I t ⟨i, rfl, ?_⟩
    have e : (if i < 0 then -i else i) = (i.natAbs : Int) := by split <;> omega
    rw [e]
    exact l _ S _ H h .refl .int so
  · exact h.elim
theorem minD_ok (hc : X.calm = true) : CallR X (.builtin "min") (liftRL X.K minD) := by
  intro pins s σ H xs us Q I t ⟨ds, S, Qd, r, so, h, l⟩
  unfold minD at h
  split at h
  · rename_i i j
    simp only [Reps, Rep] at r
    obtain ⟨_, _, rfl, rfl, _, _, rfl, rfl, rfl⟩ := r
    refine call_min2 hc pins s σ H _ us Q I t ⟨i, j, rfl, ?_⟩
    have e : (if j < i then j else i) = min i j := by split <;> omega
    rw [e]
    exact l _ S _ H h .refl .int so
  · exact h.elim
theorem maxD_ok (hc : X.calm = true) : CallR X (.builtin "max") (liftRL X.K maxD) := by
  intro pins s σ H xs us Q I t ⟨ds, S, Qd, r, so, h, l⟩
  unfold maxD at h
  split at h
  · rename_i i j
    simp only [Reps, Rep] at r
    obtain ⟨_, _, rfl, rfl, _, _, rfl, rfl, rfl⟩ := r
    refine call_max2 hc pins s σ H _ us Q I t ⟨i, j, rfl, ?_⟩
    have e : (if j > i then j else i) = max i j := by split <;> omega
    rw [e]
    exact l _ S _ H h .refl .int so
  · exact h.elim
theorem intD_ok : CallR X (.type "int") (liftRL X.K intD) := by
  intro pins s σ H xs us Q I t ⟨ds, S, Qd, r, so, h, l⟩
  unfold intD at h
  split at h
  · rename_i i
    simp only [Reps, Rep] at r
    obtain ⟨_, _, rfl, rfl, rfl⟩ := r
    exact call_int1 pins s σ H _ us Q I t (.inl ⟨i, rfl, l _ S _ H h .refl .int so⟩)
  · rename_i i
    simp only [Reps, Rep] at r
    obtain ⟨_, _, rfl, rfl, rfl⟩ := r
    exact call_int1 pins s σ H _ us Q I t (.inr ⟨i, rfl, l _ S _ H h .refl .int so⟩)
  · rename_i x
    simp only [Reps, Rep] at r
    obtain ⟨_, _, rfl, rfl, rfl⟩ := r
    obtain ⟨n, e, hz, h⟩ := h
    exact call_int_str pins s σ H _ us Q I t ⟨_, n, rfl, e, by rw [str_len]; exact hz, l _ S _ H h .refl .int so⟩
  · exact h.elim
theorem log2_1920 {i : Int} (h : i.natAbs < 2 ^ 1900) : i.natAbs.log2 < 1920 :=
  PySem.Spec.log2_small (Nat.lt_of_lt_of_le h (Nat.pow_le_pow_right (by decide) (by decide)))
theorem strD_ok : CallR X (.type "str") (liftRL X.K strD) := by
  intro pins s σ H xs us Q I t ⟨ds, S, Qd, r, so, h, l⟩
  unfold strD at h
  split at h
  · rename_i i
    simp only [Reps, Rep] at r
    obtain ⟨_, _, rfl, rfl, rfl⟩ := r
    exact call_str_int pins s σ H _ us Q I t ⟨i, rfl, log2_1920 h.1, l _ S _ H h.2 .refl (by simp only [Rep]; rfl) so⟩
  · exact h.elim
theorem tupleD_ok : CallR X (.type "tuple") (liftRL X.K tupleD) := by
  intro pins s σ H xs us Q I t ⟨ds, S, Qd, r, so, h, l⟩
  unfold tupleD at h
  split at h
  · rename_i d
    obtain ⟨es, e1, h⟩ := h
    obtain ⟨a, vs, rfl, q, rs⟩ := seqs_ref so r e1
    rcases q with q | q
    · exact call_tuple_of pins s σ H _ us Q I t ⟨a, vs, rfl, .inl ⟨q, fun p hp => l.tup so h rs p hp⟩⟩
    · exact call_tuple_of pins s σ H _ us Q I t ⟨a, vs, rfl, .inr ⟨q, l _ S _ H h .refl (.tup_mk q rs) so⟩⟩
  · exact h.elim
theorem listD_ok : CallR X (.type "list") (liftRL X.K listD) := by
  intro pins s σ H xs us Q I t ⟨ds, S, Qd, r, so, h, l⟩
  unfold listD at h
  split at h
  · rename_i d
    obtain ⟨es, e1, h⟩ := h
    obtain ⟨a, vs, rfl, q, rs⟩ := seqs_ref so r e1
    exact call_list_of pins s σ H _ us Q I t ⟨a, vs, rfl, q, fun p hp => l.lst so h rs p hp⟩
  · exact h.elim
theorem reprD_ok (hg : X.A.guards = some []) (hu : X.A.units + 64 < cLine) : CallR X (.builtin "repr") (liftRL X.K reprD) := by
  intro pins s σ H xs us Q I t ⟨ds, S, Qd, r, so, h, l⟩
  unfold reprD at h
  split at h
  · rename_i d
    obtain ⟨h1, hsh, h2, h3⟩ := h
    simp only [Reps] at r
    obtain ⟨x, _, rfl, r1, rfl⟩ := r
    cases t with
    | cons t1 t2 =>
      cases t2
      rename_i u
      obtain ⟨k1, k3, k4⟩ := okS_lay h1
      have k2 := shS_show hsh
      have dp := dpS so h1 r1
      have fin : ∀ h' tk tk', (∀ b o, s.heap.get? b = some o → h'.get? b = some o) → EP X pins σ Q (.str (pyS S d).shown tk) { s with heap := h', toks := tk' } := fun h' tk tk' hk =>
        ⟨.str (pyS S d).shown, H, I.kept hk, ⟨tk, rfl⟩, l _ S _ H h3 .refl (by simp only [Rep, rtxt]) so⟩
      have kk : ∀ b o, s.heap.get? b = some o → s.heap.get? b = some o := fun _ _ e => e
      obtain ⟨as, rd⟩ := Dp.reads I _ _ u dp t1
      generalize hpy : pyS S d = q at *
      cases rd with
      | none => exact PySem.P.repr_of_none (by have := fin s.heap s.toks (s.toks + 1) kk; simp only [PyData.shown] at this; exact this)
      | bool b => exact PySem.P.repr_of_bool (by have := fin s.heap s.toks (s.toks + 1) kk; simp only [PyData.shown] at this; exact this)
      | int i t => exact PySem.P.repr_of_int (by simpa [PyData.showable] using k2) (by have := fin s.heap s.toks (s.toks + 1) kk; simp only [PyData.shown] at this; exact this)
      | str x t => exact PySem.P.repr_of_str (by have := fin s.heap s.toks (s.toks + 1) kk; simp only [PyData.shown] at this; exact this) (by simp only [PyData.shown] at h2; rw [szl]; exact h2)
      | list e1 e2 e3 e4 => exact repr_of_reads' (.list e1 e2 e3 e4) k2 (PyData.noDict_hsm k3) hg (by omega) kk (fun h' u tk hk => fin h' u tk hk) (by rw [szl]; exact h2)
      | tuple e1 e2 e3 e4 => exact repr_of_reads' (.tuple e1 e2 e3 e4) k2 (PyData.noDict_hsm k3) hg (by omega) kk (fun h' u tk hk => fin h' u tk hk) (by rw [szl]; exact h2)
      | dict e1 e2 e3 e4 e5 => simp [PyData.hasDict] at k3
  · exact h.elim
end
end G57
set_option Elab.async false
set_option linter.all false
set_option maxRecDepth 100000
set_option maxHeartbeats 400000
namespace G57
open PySem L2 PySem.Spec PyProof.Rows
inductive Mt where
  | append | extend | pop | join | count
def appD : D → RLD
  | .ref p, [d], S, Q => ∃ ds, S p = some (.lst ds) ∧ ds.length < 16777216 ∧ Q .non (put S p (.lst (ds ++ [d])))
  | _, _, _, _ => False
def extD : D → RLD
  | .ref p, [.ref q], S, Q => ∃ ds es, S p = some (.lst ds) ∧ S q = some (.lst es) ∧ ds.length + es.length ≤ 16777216 ∧ Q .non (put S p (.lst (ds ++ es)))
  | _, _, _, _ => False
def popD : D → RLD
  | .ref p, [], S, Q => ∃ ds d, S p = some (.lst (ds ++ [d])) ∧ Q d (put S p (.lst ds))
  | .ref p, [.int i], S, Q => ∃ ds d, S p = some (.lst ds) ∧ 0 ≤ i ∧ i < 2 ^ 40 ∧ ds[i.toNat]? = some d ∧ Q d (put S p (.lst (ds.eraseIdx i.toNat)))
  | _, _, _, _ => False
def joinD : D → RLD
  | .str a, [d], S, Q => ∃ ds xs, seqD S d = some ds ∧ strsF ds = some xs ∧ lenL xs + xs.length * a.length ≤ 16777216 ∧ Q (.str (joinL a xs)) S
  | _, _, _, _ => False
def countD : D → RLD
  | .str a, [.str [c]], S, Q => Q (.int (a.count c)) S
  | _, _, _, _ => False
def mtD : Mt → D → RLD
  | .append => appD | .extend => extD | .pop => popD | .join => joinD | .count => countD
def liftM (K : PySem.W.Frag) (r : D → RLD) : V → List V → Hp → VK → Prop := fun x xs H Q => ∃ a ds S Qd, Rep K H a x ∧ Reps K H ds xs ∧ StoOk K H S ∧ r a ds S Qd ∧ Lv K H Qd Q
section
variable {X : Cx}
theorem Lv.put {K : PySem.W.Frag} {H : Hp} {Qd : DK} {Q : VK} {S : Sto} {p : Addr} {d : D} {v : V} {ds : List D} {us vs : List V} (l : Lv K H Qd Q) (so : StoOk K H S) (e : H p = some (.lst us)) (r : Reps K H ds vs) (rv : Rep K H d v) (h : Qd d (G57.put S p (.lst ds))) : Q v (upd H p (.lst vs)) :=
  l d _ v _ h (Keep.lst e) (rv.mono (Keep.lst e)) (so.write e r)
theorem appD_ok : MtM X "list.append" (liftM X.K appD) := by
  intro pins s σ H x xs v us Q I rx t ⟨a, ds, S, Qd, ra, r, so, h, l⟩
  unfold appD at h
  split at h
  · rename_i p d
    simp only [Rep] at ra
    simp only [Reps] at r
    obtain ⟨y, _, rfl, ry, rfl⟩ := r
    obtain ⟨es, e, hz, h⟩ := h
    obtain ⟨vs, q, rs⟩ := so p _ e
    exact mt_append pins s σ H x _ v us Q I rx t ⟨p, vs, y, ra, rfl, q, by rw [← rs.length, szl]; exact hz, l.put so q (rs.append (.cons ry .nil)) .non h⟩
  · exact h.elim
theorem extD_ok : MtM X "list.extend" (liftM X.K extD) := by
  intro pins s σ H x xs v us Q I rx t ⟨a, ds, S, Qd, ra, r, so, h, l⟩
  unfold extD at h
  split at h
  · rename_i p b
    simp only [Rep] at ra
    simp only [Reps, Rep] at r
    obtain ⟨y, _, rfl, rfl, rfl⟩ := r
    obtain ⟨es, fs, e, e2, hz, h⟩ := h
    obtain ⟨vs, q, rs⟩ := so p _ e
    obtain ⟨ws, q2, rs2⟩ := so b _ e2
    exact mt_extend pins s σ H x _ v us Q I rx t ⟨p, b, vs, ws, ra, rfl, q, q2, by rw [← rs.length, ← rs2.length, szl]; exact hz, l.put so q (rs.append rs2) .non h⟩
  · exact h.elim
theorem Reps.last {K : PySem.W.Frag} {H : Hp} {d : D} : ∀ {ds : List D} {vs : List V}, Reps K H (ds ++ [d]) vs → ∃ us v, vs = us ++ [v] ∧ Reps K H ds us ∧ Rep K H d v
  | [], vs, r => by
    simp only [List.nil_append, Reps] at r
    obtain ⟨v, _, rfl, r1, rfl⟩ := r
    exact ⟨[], v, rfl, .nil, r1⟩
  | e :: ds, vs, r => by
    simp only [List.cons_append, Reps] at r
    obtain ⟨v, w, rfl, r1, r2⟩ := r
    obtain ⟨us, z, rfl, r3, r4⟩ := Reps.last r2
    exact ⟨v :: us, z, rfl, .cons r1 r3, r4⟩
theorem Reps.erase {K : PySem.W.Frag} {H : Hp} : ∀ {ds : List D} {vs : List V} (n : Nat), Reps K H ds vs → Reps K H (ds.eraseIdx n) (vs.eraseIdx n)
  | [], _, _, h => by simp only [Reps] at h; subst h; exact .nil
  | d :: ds, v :: vs, 0, h => h.inv.2
  | d :: ds, v :: vs, n + 1, h => .cons h.inv.1 (h.inv.2.erase n)
  | d :: ds, [], _, h => by simp only [Reps] at h; obtain ⟨_, _, e, _⟩ := h; cases e
theorem popD_ok : MtM X "list.pop" (liftM X.K popD) := by
  intro pins s σ H x xs v us Q I rx t ⟨a, ds, S, Qd, ra, r, so, h, l⟩
  unfold popD at h
  split at h
  · rename_i p
    simp only [Rep] at ra
    simp only [Reps] at r
    subst r
    obtain ⟨es, d, e, h⟩ := h
    obtain ⟨vs, q, rs⟩ := so p _ e
    obtain ⟨ws, z, rfl, r1, r2⟩ := rs.last
    refine mt_pop pins s σ H x _ v us Q I rx t ⟨p, _, z, ra, rfl, q, by simp, ?_⟩
    rw [List.dropLast_concat]
    exact l.put so q r1 r2 h
  · rename_i p i
    simp only [Rep] at ra
    simp only [Reps, Rep] at r
    obtain ⟨y, _, rfl, rfl, rfl⟩ := r
    obtain ⟨es, d, e, h0, h1, h2, h⟩ := h
    obtain ⟨vs, q, rs⟩ := so p _ e
    obtain ⟨z, e3, rz⟩ := rs.get h2
    have hlt : i.toNat < vs.length := by
      by_cases k : i.toNat < vs.length
      · exact k
      · rw [List.getElem?_eq_none (by omega)] at e3; cases e3
    refine mt_popAt pins s σ H x _ v us Q I rx t ⟨p, vs, i, i.toNat, z, ra, rfl, q, by omega, by omega, ?_, e3, l.put so q (rs.erase _) rz h⟩
    unfold seqIndex?
    simp [show ¬ i < 0 by omega, h0]
    omega
  · exact h.elim
theorem strs_reps {K : PySem.W.Frag} {H : Hp} : ∀ {ds : List D} {xs : List (List Nat)} {vs : List V}, strsF ds = some xs → Reps K H ds vs → vs = (xs.map fun x => (⟨x.toArray⟩ : Str)).map V.str
  | [], _, _, h, r => by simp only [strsF] at h; cases h; simp only [Reps] at r; exact r
  | d :: ds, is, [], _, r => by simp only [Reps] at r; obtain ⟨_, _, e, _⟩ := r; cases e
  | d :: ds, is, v :: vs, h, r => by
    cases d <;> simp only [strsF] at h <;> try cases h
    case str i =>
      cases h2 : strsF ds with
      | none => rw [h2] at h; cases h
      | some is' =>
        rw [h2] at h; cases h
        have r1 := r.inv.1
        simp only [Rep] at r1
        rw [List.map_cons, List.map_cons, r1, strs_reps h2 r.inv.2]
theorem join_cps0 (a : List Nat) : ∀ xs : List (List Nat), Str.join ⟨a.toArray⟩ (xs.map fun x => (⟨x.toArray⟩ : Str)) = ⟨(joinL a xs).toArray⟩
  | [] => rfl
  | [x] => rfl
  | x :: y :: r => by
    have ih := join_cps0 a (y :: r)
    show (⟨x.toArray⟩ : Str) ++ ⟨a.toArray⟩ ++ Str.join ⟨a.toArray⟩ ((y :: r).map fun x => (⟨x.toArray⟩ : Str)) = _
    rw [ih, cps_app, cps_app]
    rfl
theorem join_cps (a : List Nat) (xs : List (List Nat)) : Txt.join ⟨a.toArray⟩ (xs.map fun x => (⟨x.toArray⟩ : Str)) = ⟨(joinL a xs).toArray⟩ :=
  (TL.join_eq _ _).trans (join_cps0 a xs)
theorem lenL_sum : ∀ xs : List (List Nat), ((xs.map fun x => (⟨x.toArray⟩ : Str)).map (·.length)).sum = lenL xs
  | [] => rfl
  | x :: r => by rw [List.map_cons, List.map_cons, List.sum_cons, lenL_sum r, str_len]; rfl
theorem joinD_ok : MtR X "str.join" (liftM X.K joinD) := by
  intro pins s σ H x xs v us Q I rx t ⟨a, ds, S, Qd, ra, r, so, h, l⟩
  unfold joinD at h
  split at h
  · rename_i z d
    simp only [Rep] at ra
    obtain ⟨es, ws, e1, e2, hz, h⟩ := h
    obtain ⟨p, vs, rfl, q, rs⟩ := seqs_ref so r e1
    have e3 := strs_reps e2 rs
    subst e3
    refine mt_join pins s σ H x _ v us Q I rx t ⟨_, p, _, ra, rfl, q, ?_, ?_⟩
    · rw [lenL_sum, List.length_map, str_len]; exact hz
    · rw [join_cps]; exact l _ S _ H h .refl .str so
  · exact h.elim
theorem cnt_count (c : Nat) : ∀ x : List Nat, cnt c x = (x.count c : Int)
  | [] => rfl
  | n :: x => by
    rw [cnt_cons, cnt_count c x, List.count_cons]
    by_cases h : n = c
    · subst h; simp; omega
    · simp [h]
theorem countD_ok : MtR X "str.count" (liftM X.K countD) := by
  intro pins s σ H x xs v us Q I rx t ⟨a, ds, S, Qd, ra, r, so, h, l⟩
  unfold countD at h
  split at h
  · rename_i z c
    simp only [Rep] at ra
    simp only [Reps, Rep] at r
    obtain ⟨y, _, rfl, rfl, rfl⟩ := r
    refine mt_count pins s σ H x _ v us Q I rx t ⟨_, _, ra, rfl, ?_⟩
    have e : Txt.count ⟨z.toArray⟩ ⟨#[c]⟩ = (z.count c : Int) := by
      rw [count_is]
      exact cnt_count c z
    rw [e]
    exact l _ S _ H h .refl .int so
  · exact h.elim
end
end G57
set_option Elab.async false
set_option linter.all false
set_option maxRecDepth 100000
set_option maxHeartbeats 400000
/-! the small language: what the text says, without places and names -/
namespace G57
open PySem L2
inductive Pt where
  | v (i : Nat) | t (p : Pt) | nil | cons (a r : Pt)
inductive Ex where
  | var (i : Nat) | con (d : D)
  | bin (op : Operator) (a b : Ex) | neg (a : Ex) | not (a : Ex)
  | cmp (op : CmpOp) (a b : Ex) | chain (o1 o2 : CmpOp) (a b c : Ex)
  | and (a b : Ex) | or (a b : Ex) | ite (c a b : Ex)
  | call (f : Nat) (as : Ex) | bi (f : Bi) (as : Ex) | mt (m : Mt) (o as : Ex)
  | tup (as : Ex) | lst (as : Ex) | idx (a b : Ex) | sl (a lo hi : Ex)
  | lc (vs : List Nat) (p : Pt) (it c e : Ex)
  | fs (as : Ex)
  | nil | cons (a r : Ex)
  | iE (a : Ex) | iR1 (a : Ex) | iR2 (a b : Ex) | iZ (a b : Ex) | iN (a : Ex)
inductive Sx where
  | asg (p : Pt) (e : Ex) | set (o i e : Ex) | ex (e : Ex) | ret (e : Ex)
  | iff (c : Ex) (a b : Sx) | loop (p : Pt) (it : Ex) (b : Sx) | wh (c : Ex) (b : Sx)
  | brk | cnt | pass
  | nil | cons (a r : Sx)
abbrev Spec := List D → Sto → DK → Prop
abbrev Tab := Nat → Option Spec
def opD : Operator → R2D
  | .Add => addD | .Sub => subD | .Mult => mulD | .FloorDiv => fdivD | .Mod => modD | .Pow => powD
  | _ => fun _ _ _ _ => False
def negD : D → Sto → DK → Prop
  | .int i, S, Q => Q (.int (-i)) S
  | _, _, _ => False
/-- a value's truth, with what is asked of a text's size -/
def truthD (d : D) (S : Sto) (Q : Bool → Prop) : Prop := match d with
  | .str x => x.length ≤ 16777216 ∧ Q (!x.isEmpty)
  | d => ∃ b, truD S d = some b ∧ Q b
def wipeD (env : En) : List Nat → En
  | [] => env
  | v :: vs => (wipeD env vs).set v none
mutual
def wpP : Pt → D → Sto → En → (En → Prop) → Prop
  | .v i, d, _, env, Q => Q (env.set i (some d))
  | .t p, d, S, env, Q => ∃ ds, seqD S d = some ds ∧ wpPs p ds S env Q
  | .nil, _, _, _, _ => False
  | .cons _ _, _, _, _, _ => False
def wpPs : Pt → List D → Sto → En → (En → Prop) → Prop
  | .nil, [], _, env, Q => Q env
  | .cons a r, d :: ds, S, env, Q => wpP a d S env fun env' => wpPs r ds S env' Q
  | _, _, _, _, _ => False
end
/-- a comprehension's turns -/
def lcRun (p : Addr) (G : Sto → Prop) (body : D → Sto → (Option D → Sto → Prop) → Prop) (Q : Sto → Prop) : List D → List D → Sto → Prop
  | [], _, S => Q S
  | x :: xs, acc, S => body x S fun y S1 => S1 p = some (.lst acc) ∧ match y with
    | none => G S1 ∧ lcRun p G body Q xs acc S1
    | some y => acc.length < 16777216 ∧ G (put S1 p (.lst (acc ++ [y]))) ∧ lcRun p G body Q xs (acc ++ [y]) (put S1 p (.lst (acc ++ [y])))
abbrev IK := List D → (Sto → Prop) → Sto → Prop
def iterD (d : D) (S : Sto) (K : IK) : Prop := match d with
  | .tup ds | .rol ds => K ds (fun _ => True) S
  | .str x => K (x.map fun c => .str [c]) (fun _ => True) S
  | .ref p => ∃ ds, S p = some (.lst ds) ∧ K ds (fun S => S p = some (.lst ds)) S
  | _ => False
def rngD (lo hi : Int) : List D := (List.range (hi - lo).toNat).map fun i => .int (lo + (i : Nat))
def smallI (i : Int) : Prop := -(2 ^ 62) ≤ i ∧ i < 2 ^ 62
def zipD : List D → List D → List D
  | x :: xs, y :: ys => .tup [x, y] :: zipD xs ys
  | _, _ => []
def enumD : Nat → List D → List D
  | _, [] => []
  | i, x :: xs => .tup [.int (i : Nat), x] :: enumD (i + 1) xs
def range1D (d : D) (S : Sto) (K : IK) : Prop := match d with
  | .int n => smallI n ∧ K (rngD 0 n) (fun _ => True) S
  | _ => False
def range2D (d e : D) (S : Sto) (K : IK) : Prop := match d, e with
  | .int m, .int n => smallI m ∧ smallI n ∧ K (rngD m n) (fun _ => True) S
  | _, _ => False
/-- what a datum is to zip and enumerate: its items, and what must stand still -/
def srcD (S : Sto) : D → Option (List D × (Sto → Prop))
  | .tup ds => some (ds, fun _ => True)
  | .rol ds => some (ds, fun _ => True)
  | .str x => some (x.map (fun c => .str [c]), fun _ => True)
  | .ref p => match S p with
    | some (.lst ds) => some (ds, fun S => S p = some (.lst ds))
    | none => none
  | _ => none
def zipsD (d e : D) (S : Sto) (K : IK) : Prop := ∃ xs G ys G', srcD S d = some (xs, G) ∧ srcD S e = some (ys, G') ∧ K (zipD xs ys) (fun S => G S ∧ G' S) S
def enumedD (d : D) (S : Sto) (K : IK) : Prop := ∃ xs G, srcD S d = some (xs, G) ∧ K (enumD 0 xs) G S
def fmtD (d : D) (Q : List Nat → Prop) : Prop := match d with
  | .str x => x.length ≤ 16777216 ∧ Q x
  | .int i => i.natAbs < 2 ^ 1900 ∧ Q (itxt i)
  | _ => False
def mtTy : Mt → D → Sto → Prop
  | .join, .str _, _ | .count, .str _, _ => True
  | .append, .ref p, S | .extend, .ref p, S | .pop, .ref p, S => ∃ ds, S p = some (.lst ds)
  | _, _, _ => False
section
variable (Φ : Tab)
mutual
def wpE : Ex → TD
  | .var i => fun env S Q => ∃ d, env[i]? = some (some d) ∧ Q d S
  | .con d => fun _ S Q => Q d S
  | .bin op a b => fun env S Q => wpE a env S fun x S1 => wpE b env S1 fun y S2 => opD op x y S2 Q
  | .neg a => fun env S Q => wpE a env S fun x S1 => negD x S1 Q
  | .not a => fun env S Q => wpE a env S fun x S1 => truthD x S1 fun b => Q (.bl (!b)) S1
  | .cmp op a b => fun env S Q => wpE a env S fun x S1 => wpE b env S1 fun y S2 => cmpD op x y S2 Q
  | .chain o1 o2 a b c => fun env S Q => wpE a env S fun x S1 => wpE b env S1 fun y S2 => cmpD o1 x y S2 fun z S3 => ∃ k, z = .bl k ∧
      (if k = true then wpE c env S3 fun w S4 => cmpD o2 y w S4 Q else Q (.bl false) S3)
  | .and a b => fun env S Q => wpE a env S fun x S1 => truthD x S1 fun t => if t = true then wpE b env S1 Q else Q x S1
  | .or a b => fun env S Q => wpE a env S fun x S1 => truthD x S1 fun t => if t = true then Q x S1 else wpE b env S1 Q
  | .ite c a b => fun env S Q => wpT c env S fun t S1 => if t = true then wpE a env S1 Q else wpE b env S1 Q
  | .call f as => fun env S Q => ∃ sp, Φ f = some sp ∧ wpA as env S fun ds S1 => sp ds S1 Q
  | .bi f as => fun env S Q => wpA as env S fun ds S1 => biD f ds S1 Q
  | .mt m o as => fun env S Q => wpE o env S fun x S1 => mtTy m x S1 ∧ wpA as env S1 fun ds S2 => mtD m x ds S2 Q
  | .tup as => fun env S Q => wpA as env S fun ds S1 => ds.length ≤ 16777216 ∧ Q (.tup ds) S1
  | .lst as => fun env S Q => wpA as env S fun ds S1 => ds.length ≤ 16777216 ∧ ∀ p, S1 p = none → Q (.ref p) (put S1 p (.lst ds))
  | .idx a b => fun env S Q => wpE a env S fun x S1 => wpE b env S1 fun y S2 => idxD x y S2 Q
  | .sl a lo hi => fun env S Q => wpE a env S fun x S1 => wpO lo env S1 fun l S2 => wpO hi env S2 fun h S3 => slD x l h S3 Q
  | .lc vs p it c e => fun env S Q => wpI it env S fun xs G S1 => ∀ a, S1 a = none → G (put S1 a (.lst [])) ∧ lcRun a G (fun x S2 k => wpP p x S2 (wipeD env vs) fun env2 => wpC c env2 S2 fun t S3 =>
      if t = true then wpE e env2 S3 fun y S4 => k (some y) S4 else k none S3) (fun S' => Q (.ref a) S') xs [] (put S1 a (.lst []))
  | .fs as => fun env S Q => wpJ as env S [] fun x S1 => Q (.str x) S1
  | .nil | .cons _ _ | .iE _ | .iR1 _ | .iR2 _ _ | .iZ _ _ | .iN _ => fun _ _ _ => False
def wpT : Ex → TBD
  | .not a => fun env S Q => wpT a env S fun b S1 => Q (!b) S1
  | .and a b => fun env S Q => wpT a env S fun t S1 => if t = true then wpT b env S1 Q else Q false S1
  | .or a b => fun env S Q => wpT a env S fun t S1 => if t = true then Q true S1 else wpT b env S1 Q
  | .cmp op a b => fun env S Q => wpE a env S fun x S1 => wpE b env S1 fun y S2 => cmpD op x y S2 fun z S3 => ∃ k, z = .bl k ∧ Q k S3
  | .chain o1 o2 a b c => fun env S Q => wpE a env S fun x S1 => wpE b env S1 fun y S2 => cmpD o1 x y S2 fun z S3 => ∃ k, z = .bl k ∧
      (if k = true then wpE c env S3 fun w S4 => cmpD o2 y w S4 fun z S5 => ∃ k, z = .bl k ∧ Q k S5 else Q false S3)
  | .var i => fun env S Q => ∃ d, env[i]? = some (some d) ∧ truthD d S fun b => Q b S
  | .call f as => fun env S Q => ∃ sp, Φ f = some sp ∧ wpA as env S fun ds S1 => sp ds S1 fun d S2 => truthD d S2 fun b => Q b S2
  | .bi f as => fun env S Q => wpA as env S fun ds S1 => biD f ds S1 fun d S2 => truthD d S2 fun b => Q b S2
  | .idx a b => fun env S Q => wpE a env S fun x S1 => wpE b env S1 fun y S2 => idxD x y S2 fun d S3 => truthD d S3 fun b => Q b S3
  | _ => fun _ _ _ => False
def wpC : Ex → TBD
  | .nil => fun _ S Q => Q true S
  | .cons c _ => wpT c
  | _ => fun _ _ _ => False
def wpA : Ex → TAD
  | .nil => fun _ S Q => Q [] S
  | .cons a r => fun env S Q => wpE a env S fun x S1 => wpA r env S1 fun xs S2 => Q (x :: xs) S2
  | _ => fun _ _ _ => False
def wpO : Ex → En → Sto → (Option Int → Sto → Prop) → Prop
  | .nil => fun _ S Q => Q none S
  | .cons a _ => fun env S Q => wpE a env S fun x S1 => ∃ i, x = .int i ∧ Q (some i) S1
  | _ => fun _ _ _ => False
def wpI : Ex → En → Sto → IK → Prop
  | .iE a => fun env S K => wpE a env S fun x S1 => iterD x S1 K
  | .iR1 a => fun env S K => wpE a env S fun x S1 => range1D x S1 K
  | .iR2 a b => fun env S K => wpE a env S fun x S1 => wpE b env S1 fun y S2 => range2D x y S2 K
  | .iZ a b => fun env S K => wpE a env S fun x S1 => wpE b env S1 fun y S2 => zipsD x y S2 K
  | .iN a => fun env S K => wpE a env S fun x S1 => enumedD x S1 K
  | _ => fun _ _ _ => False
def wpJ : Ex → En → Sto → List Nat → (List Nat → Sto → Prop) → Prop
  | .nil => fun _ S acc Q => Q acc S
  | .cons a r => fun env S acc Q => wpE a env S fun x S1 => fmtD x fun z => acc.length + z.length ≤ 16777216 ∧ wpJ r env S1 (acc ++ z) Q
  | _ => fun _ _ _ _ => False
end
structure EndsD where
  nx : En → Sto → Prop
  rt : DK
  bk : En → Sto → Prop := fun _ _ => False
  ct : En → Sto → Prop := fun _ _ => False
def setD : D → D → D → Sto → (Sto → Prop) → Prop
  | .ref p, .int i, d, S, Q => ∃ ds j, S p = some (.lst ds) ∧ ixN ds.length i = some j ∧ Q (put S p (.lst (ds.set j d)))
  | _, _, _, _, _ => False
def forRun (G : Sto → Prop) (body : D → En → Sto → (En → Sto → Prop) → Prop) (Q : En → Sto → Prop) : List D → En → Sto → Prop
  | [], env, S => Q env S
  | x :: xs, env, S => body x env S fun env' S' => G S' ∧ forRun G body Q xs env' S'
def whRun (test : En → Sto → (Bool → Sto → Prop) → Prop) (body : En → Sto → (En → Sto → Prop) → Prop) (Q : En → Sto → Prop) : Nat → En → Sto → Prop
  | 0, _, _ => False
  | n + 1, env, S => test env S fun t S1 => if t = true then body env S1 (whRun test body Q n) else Q env S1
def wpS : Sx → EndsD → En → Sto → Prop
  | .asg p e, E, env, S => wpE Φ e env S fun d S1 => wpP p d S1 env fun env' => E.nx env' S1
  | .set o i e, E, env, S => wpE Φ e env S fun d S1 => wpE Φ o env S1 fun x S2 => wpE Φ i env S2 fun y S3 => setD x y d S3 fun S4 => E.nx env S4
  | .ex e, E, env, S => wpE Φ e env S fun _ S1 => E.nx env S1
  | .ret e, E, env, S => wpE Φ e env S E.rt
  | .iff c a b, E, env, S => wpT Φ c env S fun t S1 => if t = true then wpS a E env S1 else wpS b E env S1
  | .loop p it b, E, env, S => wpI Φ it env S fun xs G S1 => forRun G (fun x env1 S2 N => wpP p x S2 env1 fun env2 => wpS b { nx := N, ct := N, bk := E.nx, rt := E.rt } env2 S2) E.nx xs env S1
  | .wh c b, E, env, S => ∃ n, whRun (wpT Φ c) (fun env1 S1 N => wpS b { nx := N, ct := N, bk := E.nx, rt := E.rt } env1 S1) E.nx n env S
  | .brk, E, env, S => E.bk env S
  | .cnt, E, env, S => E.ct env S
  | .pass, E, env, S => E.nx env S
  | .nil, E, env, S => E.nx env S
  | .cons a r, E, env, S => wpS a { E with nx := fun env' S' => wpS r E env' S' } env S
end
end G57
set_option Elab.async false
set_option linter.all false
set_option maxRecDepth 100000
set_option maxHeartbeats 400000
/-! from the text to the small language -/
namespace G57
open PySem L2
structure Gam where
  N : List Str
  sc : Scope
  st : List Str
  bs : List Str
  fs : List Str
  cs : List (Str × D)
def vix : List Str → Str → Option Nat
  | [], _ => none
  | y :: ys, x => if y = x then some 0 else (vix ys x).map (· + 1)
def visB (sc : Scope) (x : Str) : Bool := match sc.names.lookup x with
  | some .local | some .cell | some .free => true
  | _ => false
def glB (sc : Scope) (x : Str) : Bool := match sc.names.lookup x with
  | some .globalImplicit => true
  | _ => false
def plainName (x : Str) : Bool := !(x == ("__debug__" : Str)) && !(x == ("__classdict__" : Str)) && !(x == ("__name__" : Str))
def biOf (x : Str) : Option Bi :=
  if x = "len" then some .len else if x = "sum" then some .sum else if x = "any" then some .any else if x = "all" then some .all
  else if x = "abs" then some .abs else if x = "min" then some .min else if x = "max" then some .max else if x = "repr" then some .repr
  else if x = "int" then some .int else if x = "str" then some .str else if x = "tuple" then some .tuple else if x = "list" then some .list else none
def mtOf (x : Str) : Option Mt :=
  if x = "append" then some .append else if x = "extend" then some .extend else if x = "pop" then some .pop
  else if x = "join" then some .join else if x = "count" then some .count else none
/-- places of a pattern's names -/
def ptOf : Nat → Gam → Expr → Option Pt
  | 0, _, _ => none
  | n + 1, Γ, .Name x _ => if Γ.st.contains x && plainName x then (vix Γ.N x).map .v else none
  | n + 1, Γ, .Tuple es _ _ => (es.foldr (fun e r => match ptOf n Γ e, r with | some a, some b => some (.cons a b) | _, _ => none) (some .nil)).map .t
  | _, _, _ => none
def ownOf : Nat → Gam → Expr → Option (List (Str × Nat))
  | 0, _, _ => none
  | n + 1, Γ, .Name x _ => (vix Γ.N x).map fun i => [(x, i)]
  | n + 1, Γ, .Tuple es _ _ => es.foldr (fun e r => match ownOf n Γ e, r with | some a, some b => some (a ++ b) | _, _ => none) (some [])
  | _, _, _ => none
def blk (Γ : Gam) (scope : Scope) : Gam := { Γ with sc := relS scope Γ.sc, st := (scope.names.filter fun y => y.2 == .local || y.2 == .cell).map (·.1) }
def starry : Expr → Bool
  | .Starred _ _ => true
  | _ => false
def tupleT : Expr → Bool
  | .Tuple _ _ _ => true
  | _ => false
def superish : Expr → Bool
  | .Call (.Name _ _) [] [] _ => true
  | _ => false
def setish : Expr → Bool
  | .Set _ _ _ => true
  | _ => false
def opt2 {α β γ : Type} (a : Option α) (b : Option β) (f : α → β → γ) : Option γ := match a, b with
  | some x, some y => some (f x y)
  | _, _ => none
def opt3 {α β δ γ : Type} (a : Option α) (b : Option β) (d : Option δ) (f : α → β → δ → γ) : Option γ := match a, b, d with
  | some x, some y, some z => some (f x y z)
  | _, _, _ => none
def optLc (Γ : Gam) (scope : Scope) (own : Option (List (Str × Nat))) (p : Option Pt) (i c x : Option Ex) : Option Ex := match own, p, i, c, x with
  | some own, some p, some i, some c, some x => if blkC Γ.N Γ.sc scope own then some (.lc (own.map (·.2)) p i c x) else none
  | _, _, _, _, _ => none
mutual
def trE : Nat → Gam → Expr → Option Ex
  | 0, _, _ => none
  | n + 1, Γ, .Name x _ => if !plainName x then none else if visB Γ.sc x then (vix Γ.N x).map .var else if glB Γ.sc x then (Γ.cs.lookup x).map .con else none
  | n + 1, _, .Constant (.int i) _ _ => some (.con (.int i))
  | n + 1, _, .Constant (.bool b) _ _ => some (.con (.bl b))
  | n + 1, _, .Constant .none _ _ => some (.con .non)
  | n + 1, _, .Constant (.str x) _ _ => some (.con (.str x.cps.toList))
  | n + 1, Γ, .BinOp a op b _ => opt2 (trE n Γ a) (trE n Γ b) fun x y => .bin op x y
  | n + 1, Γ, .UnaryOp .USub a _ => (trE n Γ a).map .neg
  | n + 1, Γ, .UnaryOp .Not a _ => (trE n Γ a).map .not
  | n + 1, Γ, .BoolOp .And (a :: b :: []) _ => opt2 (trE n Γ a) (trE n Γ b) fun x y => .and x y
  | n + 1, Γ, .BoolOp .And (a :: b :: c :: r) p => opt2 (trE n Γ a) (trE n Γ (.BoolOp .And (b :: c :: r) p)) fun x y => .and x y
  | n + 1, Γ, .BoolOp .Or (a :: b :: []) _ => opt2 (trE n Γ a) (trE n Γ b) fun x y => .or x y
  | n + 1, Γ, .BoolOp .Or (a :: b :: c :: r) p => opt2 (trE n Γ a) (trE n Γ (.BoolOp .Or (b :: c :: r) p)) fun x y => .or x y
  | n + 1, Γ, .Compare a [op] [b] _ => if setish b then none else opt2 (trE n Γ a) (trE n Γ b) fun x y => .cmp op x y
  | n + 1, Γ, .Compare a [o1, o2] [b, c] _ => if setish b || setish c then none else opt3 (trE n Γ a) (trE n Γ b) (trE n Γ c) fun x y z => .chain o1 o2 x y z
  | n + 1, Γ, .IfExp c a b _ => opt3 (trE n Γ c) (trE n Γ a) (trE n Γ b) fun x y z => .ite x y z
  | n + 1, Γ, .Call (.Name f _) (a :: as) [] _ => if !plainName f || !glB Γ.sc f then none else
    if Γ.bs.contains f then opt2 (biOf f) (trA n Γ (a :: as)) fun b xs => .bi b xs
    else opt2 (vix Γ.fs f) (trA n Γ (a :: as)) fun i xs => .call i xs
  | n + 1, Γ, .Call (.Attribute o m apos) as [] cpos => if superish o || !(apos.endLine == cpos.line) || !decide (as.length < 20) then none else
    opt3 (mtOf m) (trE n Γ o) (trA n Γ as) fun m x xs => .mt m x xs
  | n + 1, Γ, .Tuple es _ _ => (trA n Γ es).map .tup
  | n + 1, Γ, .List es _ => (trA n Γ es).map .lst
  | n + 1, Γ, .Subscript a (.Slice lo hi none _) _ => opt3 (trE n Γ a) (trO n Γ lo) (trO n Γ hi) fun x y z => .sl x y z
  | n + 1, Γ, .Subscript a b _ => opt2 (trE n Γ a) (trE n Γ b) fun x y => .idx x y
  | n + 1, Γ, .ListComp e [⟨tg, it, ifs, 0⟩] scope _ => if setish it then none else optLc Γ scope (ownOf n Γ tg) (ptOf n (blk Γ scope) tg) (trI n Γ (tupleT tg) it) (trC n (blk Γ scope) ifs) (trE n (blk Γ scope) e)
  | n + 1, Γ, .JoinedStr (a :: b :: r) _ => (trJ n Γ (a :: b :: r)).map .fs
  | _, _, _ => none
def trA : Nat → Gam → List Expr → Option Ex
  | 0, _, _ => none
  | n + 1, _, [] => some .nil
  | n + 1, Γ, e :: es => if starry e then none else opt2 (trE n Γ e) (trA n Γ es) fun x y => .cons x y
def trJ : Nat → Gam → List Expr → Option Ex
  | 0, _, _ => none
  | n + 1, _, [] => some .nil
  | n + 1, Γ, .FormattedValue e (-1) none _ :: es => opt2 (trE n Γ e) (trJ n Γ es) fun x y => .cons x y
  | n + 1, Γ, .Constant (.str x) _ _ :: es => (trJ n Γ es).map (.cons (.con (.str x.cps.toList)))
  | _, _, _ => none
def trO : Nat → Gam → Option Expr → Option Ex
  | 0, _, _ => none
  | n + 1, _, none => some .nil
  | n + 1, Γ, some e => (trE n Γ e).map fun x => .cons x .nil
def trC : Nat → Gam → List Expr → Option Ex
  | 0, _, _ => none
  | n + 1, _, [] => some .nil
  | n + 1, Γ, [c] => (trE n Γ c).map fun x => .cons x .nil
  | _, _, _ => none
def trI : Nat → Gam → Bool → Expr → Option Ex
  | 0, _, _, _ => none
  | n + 1, Γ, tt, e => match e with
    | .Call (.Name f _) [a] [] _ =>
      if f = "range" then (if glB Γ.sc f && Γ.bs.contains f && !starry a then (trE n Γ a).map .iR1 else none)
      else if f = "enumerate" then (if tt && glB Γ.sc f && Γ.bs.contains f && !starry a then (trE n Γ a).map .iN else none)
      else (trE n Γ e).map .iE
    | .Call (.Name f _) [a, b] [] _ =>
      if f = "range" then (if glB Γ.sc f && Γ.bs.contains f && !starry a && !starry b then opt2 (trE n Γ a) (trE n Γ b) fun x y => .iR2 x y else none)
      else if f = "zip" then (if tt && glB Γ.sc f && Γ.bs.contains f && !starry a && !starry b then opt2 (trE n Γ a) (trE n Γ b) fun x y => .iZ x y else none)
      else (trE n Γ e).map .iE
    | _ => (trE n Γ e).map .iE
end
end G57
set_option Elab.async false
set_option linter.all false
set_option maxRecDepth 100000
set_option maxHeartbeats 400000
/-! rules for readings over data -/
namespace G57
open PySem L2 PySem.Spec PyProof.Rows
/-! ### defs, called where no repr is under way -/
structure FnG (P : Program) (w : World) (K : PySem.W.Frag) (mg : Str → Option Value) (base : Heap) (k : Nat) (f : Addr) (fd : FuncData) (ps : List Str) (sp : Sp) : Prop where
  len : ∀ vs H Q E, sp vs H Q E → vs.length = ps.length
  run : ∀ (A : Around) (outer : List Env) (s : Shared) (H : Hp) (args : Args) (us : List Value) (vs : List V) (Q : VK) (E : XK), Room k A → A.guards = some [] →
    Env0 P w K mg base A outer s H → BindsTo s fd args (ps.zip us) → Vals vs us → sp vs H Q E →
    codeAny (model P w) A (.call (.ref f) args) (CR CX0 outer P w H s Q E) s
theorem FnG.mono {P : Program} {w : World} {K : PySem.W.Frag} {mg : Str → Option Value} {base : Heap} {j k : Nat} {f : Addr} {fd : FuncData} {ps : List Str} {sp : Sp} (F : FnG P w K mg base j f fd ps sp) (h : j ≤ k) : FnG P w K mg base k f fd ps sp :=
  ⟨F.len, fun A outer s H args us vs Q E hr => F.run A outer s H args us vs Q E (hr.mono h)⟩
theorem fnG_of {P : Program} {w : World} {K : PySem.W.Frag} {mg : Str → Option Value} {base : Heap} {k : Nat} {x qual : Str} {st : Stmt} {f : Addr} {fd : FuncData} {N ps : List Str} {sp : Sp} (F : Fun K x qual st f fd) (S : FnScope N ps (defScope st))
    (len : ∀ vs H Q E, sp vs H Q E → vs.length = ps.length)
    (hbody : ∀ (cdv : Value) (A : Around) (outer : List Env) (s : Shared) (H : Hp) (vs : List V) (Q : VK) (E : XK), Room k (A.deeper (envOfC qual (defScope st) s.heap.objs.size f cdv)) → A.guards = some [] → sp vs H Q E →
      ∃ t, PSs (cxOf CX0 P w K mg base N qual (defScope st) f cdv A outer s H E).nox (defBody st) t ∧ t { nx := fun _ H' => Q .non H', rt := Q } (start N vs) H) : FnG P w K mg base (k + 1) f fd ps sp := by
  obtain ⟨oc, od, kV, doc, pm, an, cdv, ct, osl, rfl, lk, hcd⟩ := F.ex
  refine ⟨len, fun A outer s H args us vs Q E hr hg e0 hb r hsp => ?_⟩
  have hl := len _ _ _ _ hsp
  have keep0 : ∀ b o, base.get? b = some o → s.heap.get? b = some o :=
    fun b o e => (e0.bs b o e).1
  have KX : K.In s.heap := e0.mod.kin.keeps keep0
  have kinds : ∀ y ∈ ps.zip us, (defScope st).names.lookup y.1 = some .local ∨
      ((defScope st).names.lookup y.1 = some .cell ∧ ((cellsFrom (s.heap.objs.size + 1) (defScope st).names []).lookup y.1).isSome = true) := by
    intro ⟨n, v⟩ hy
    rcases S.par n (List.of_mem_zip hy).1 with q | q
    · exact .inl q
    · exact .inr ⟨q, PySem.W.cellsFrom_some _ _ _ (.inl q)⟩
  apply codeAny_call_function hr.depth (KX _ _ lk) rfl S.co S.gen rfl (PySem.W.codeRec_of KX hcd)
  refine hb _ _ _ _ (wpAny_newFunctionEnv_cells S.kind kinds fun env he s1 x => ?_)
  subst he
  refine ⟨(e0.mod.nolimit.keeps keep0).keeps x.toInCall.keep, codeAny_func ?_⟩
  obtain ⟨t, ht, hq⟩ := hbody cdv A outer s H vs Q E (hr.deeper _) hg hsp
  have I := inv_start (CX := CX0) (E := E) (w := w) S hr.hd e0 hl r x
  refine wpAny_mono (ht.nox.run [] s1 _ H _ I hq) (fun fl s' hs => ?_) fun e s' hs => hs
  cases fl with
  | ret u => obtain ⟨v, σ', H', J, rv, q⟩ := hs; exact ⟨v, H', J.os, J.bare, J.base, J.hok, rv, q⟩
  | next => obtain ⟨σ', H', J, q⟩ := hs; exact ⟨.non, H', J.os, J.bare, J.base, J.hok, rfl, q⟩
  | brk => obtain ⟨_, _, _, q⟩ := hs; exact False.elim q
  | cont => obtain ⟨_, _, _, q⟩ := hs; exact False.elim q
section
variable {X : Cx} {pos : Pos}
theorem pe_callG {k : Nat} {f : Addr} {fd : FuncData} {ps : List Str} {sp : Sp} {x : Str} {p : Pos} {e : Expr} {es : List Expr} {t : TA} (F : FnG X.prog X.w X.K X.mg X.base k f fd ps sp) (hr : Room k X.A) (hgd : X.A.guards = some [])
    (hg : Gl X x) (hm : X.mg x = some (.ref f)) (hk : PySem.W.keepIn X.K (.ref f) = true) (hb : Binds X.K fd ps []) (ha : PA X (e :: es) t) (hdb : (x == ("__debug__" : Str)) = false)
    (he : starEach (e :: es) X.env = (false, eval e X.env) :: starEach es X.env) (hpl : (backTo pos (starEach es X.env)).any (·.1) = false) : PE X (.Call (.Name x p) (e :: es) [] pos) (tCall sp [] E0 t) := by
  refine ⟨fun pins s σ H Q I h => wpAny_Call_Name_kw (ld_glob I hg hm ?_ hdb)⟩
  refine PySem.W.callWith_K (h₀ := X.base) I.ok.mod.kin hk (thn (ha.run pos pins s σ H _ I h) fun us s1 ⟨vs, H1, I1, r, q⟩ => ⟨I1.kIn, ?_⟩) he hpl
  have q' : sp vs H1 Q E0 := by have z : sp (vs ++ []) H1 Q E0 := q; rwa [List.append_nil] at z
  have hl : us.length = ps.length := by rw [← r.length]; exact F.len _ _ _ _ q'
  have b := hb s1 us I1.kIn (by rw [List.append_nil]; exact hl)
  rw [List.append_nil] at b
  refine wpAny_call (codeAny_mono (F.run X.A X.stack s1 H1 ⟨us, []⟩ us vs Q E0 hr hgd I1.env0 b r q') fun r s' hq => ?_)
  match r, hq with
  | .error e, hq => exact hq.elim
  | .ok (.ret u), hq => exact I1.after hq
  | .ok .next, hq => exact hq.elim
  | .ok .brk, hq => exact hq.elim
  | .ok .cont, hq => exact hq.elim
/-! ### what a def promises, over data -/
def liftSp (K : PySem.W.Frag) (n : Nat) (sp : Spec) : Sp := fun vs H Q _ => vs.length = n ∧ ∃ ds S Qd, Reps K H ds vs ∧ StoOk K H S ∧ sp ds S Qd ∧ Lv K H Qd Q
variable {a b c e : Expr} {es : List Expr} {ta tb tc te : TD} {tA tB : TBD} {t : TAD}
theorem q_call {k : Nat} {f : Addr} {fd : FuncData} {ps : List Str} {sp : Spec} {x : Str} {p : Pos} (F : FnG X.prog X.w X.K X.mg X.base k f fd ps (liftSp X.K ps.length sp)) (hr : Room k X.A) (hgd : X.A.guards = some [])
    (hlen : ∀ ds S Q, sp ds S Q → ds.length = ps.length)
    (hg : Gl X x) (hm : X.mg x = some (.ref f)) (hk : PySem.W.keepIn X.K (.ref f) = true) (hb : Binds X.K fd ps []) (ha : QA X (e :: es) t) (hdb : (x == ("__debug__" : Str)) = false)
    (he : starEach (e :: es) X.env = (false, eval e X.env) :: starEach es X.env) (hpl : (backTo pos (starEach es X.env)).any (·.1) = false) :
    QE X (.Call (.Name x p) (e :: es) [] pos) (fun env S Q => t env S fun ds S1 => sp ds S1 Q) :=
  (pe_callG F hr hgd hg hm hk hb ha hdb he hpl).weak fun σ H Q ⟨env, S, Qd, re, so, h, l⟩ =>
    ⟨env, S, _, re, so, h, fun ds S1 vs H1 h1 k1 r1 s1 => ⟨by rw [List.append_nil, ← r1.length]; exact hlen _ _ _ h1, ds, S1, Qd, by rw [List.append_nil]; exact r1, s1, h1, l.keep k1⟩⟩
theorem truth_tru {K : PySem.W.Frag} {H : Hp} {S : Sto} (so : StoOk K H S) {d : D} {v : V} {Qb : Bool → Prop} (r : Rep K H d v) (h : truthD d S Qb) : ∃ b, TruV K v H b ∧ Qb b := by
  cases d with
  | str x => exact ⟨_, truD_ok so r rfl (fun y e => by cases e; exact h.1), h.2⟩
  | _ => obtain ⟨b, e, q⟩ := h; exact ⟨b, truD_ok so r e (fun y e => by cases e), q⟩
theorem q_neg (ha : QE X a ta) : QE X (.UnaryOp .USub a pos) (fun env S Q => ta env S fun x S1 => negD x S1 Q) :=
  (pe_un un_neg ha).weak fun σ H Q ⟨env, S, Qd, re, so, h, l⟩ => ⟨env, S, _, re, so, h, fun x S1 v H1 h1 k1 r1 s1 => by
    cases x <;> try exact h1.elim
    rename_i i
    simp only [Rep] at r1
    exact ⟨i, r1, l _ S1 _ H1 h1 k1 .int s1⟩⟩
theorem q_not (ha : QE X a ta) : QE X (.UnaryOp .Not a pos) (fun env S Q => ta env S fun x S1 => truthD x S1 fun b => Q (.bl (!b)) S1) :=
  (pe_notT ha).weak fun σ H Q ⟨env, S, Qd, re, so, h, l⟩ => ⟨env, S, _, re, so, h, fun x S1 v H1 h1 k1 r1 s1 =>
    let ⟨b, q, z⟩ := truth_tru s1 r1 h1; ⟨b, q, l _ S1 _ H1 z k1 .bl s1⟩⟩
theorem q_and {rest : List Expr} (ha : QE X a ta) (hb : QE X (.BoolOp .And (b :: rest) pos) tb) :
    QE X (.BoolOp .And (a :: b :: rest) pos) (fun env S Q => ta env S fun x S1 => truthD x S1 fun t => if t = true then tb env S1 Q else Q x S1) :=
  (pe_andT ha hb).weak fun σ H Q ⟨env, S, Qd, re, so, h, l⟩ => ⟨env, S, _, re, so, h, fun x S1 v H1 h1 k1 r1 s1 => by
    obtain ⟨t, q, z⟩ := truth_tru s1 r1 h1
    refine ⟨t, q, ?_⟩
    cases t with
    | true => exact ⟨env, S1, Qd, re.mono k1, s1, z, l.keep k1⟩
    | false => exact l _ S1 _ H1 z k1 r1 s1⟩
theorem q_or {rest : List Expr} (ha : QE X a ta) (hb : QE X (.BoolOp .Or (b :: rest) pos) tb) :
    QE X (.BoolOp .Or (a :: b :: rest) pos) (fun env S Q => ta env S fun x S1 => truthD x S1 fun t => if t = true then Q x S1 else tb env S1 Q) :=
  (pe_orT ha hb).weak fun σ H Q ⟨env, S, Qd, re, so, h, l⟩ => ⟨env, S, _, re, so, h, fun x S1 v H1 h1 k1 r1 s1 => by
    obtain ⟨t, q, z⟩ := truth_tru s1 r1 h1
    refine ⟨t, q, ?_⟩
    cases t with
    | false => exact ⟨env, S1, Qd, re.mono k1, s1, z, l.keep k1⟩
    | true => exact l _ S1 _ H1 z k1 r1 s1⟩
theorem q_ite (hc : QT X c tA) (ha : QE X a ta) (hb : QE X b tb) : QE X (.IfExp c a b pos) (fun env S Q => tA env S fun t S1 => if t = true then ta env S1 Q else tb env S1 Q) :=
  (pe_ifExp hc ha hb).weak fun σ H Q ⟨env, S, Qd, re, so, h, l⟩ => ⟨env, S, _, re, so, h, fun t S1 H1 h1 k1 s1 => by
    cases t with
    | true => exact ⟨env, S1, Qd, re.mono k1, s1, h1, l.keep k1⟩
    | false => exact ⟨env, S1, Qd, re.mono k1, s1, h1, l.keep k1⟩⟩
theorem q_chain {o1 o2 : CmpOp} (hu : X.A.units + 64 < cLine) (ha : QE X a ta) (hb : QE X b tb) (hc : QE X c tc) (hm : lastMarks [o1, o2] [b, c] = false) :
    QE X (.Compare a [o1, o2] [b, c] pos) (fun env S Q => ta env S fun x S1 => tb env S1 fun y S2 => cmpD o1 x y S2 fun z S3 => ∃ k, z = .bl k ∧
      (if k = true then tc env S3 fun w S4 => cmpD o2 y w S4 Q else Q (.bl false) S3)) :=
  (pe_chain (cmpD_ok hu o1) (cmpD_ok hu o2) ha hb hc hm).weak fun σ H Q ⟨env, S, Qd, re, so, h, l⟩ => ⟨env, S, _, re, so, h, fun x S1 v H1 h1 k1 r1 s1 =>
    ⟨env, S1, _, re.mono k1, s1, h1, fun y S2 u H2 h2 k2 r2 s2 => ⟨x, y, S2, _, r1.mono k2, r2, s2, h2, fun z S3 w H3 h3 k3 r3 s3 => by
      obtain ⟨k, rfl, h3⟩ := h3
      simp only [Rep] at r3
      refine ⟨k, r3, ?_⟩
      cases k with
      | true => exact ⟨env, S3, _, re.mono (k1.trans (k2.trans k3)), s3, h3, fun w S4 u' H4 h4 k4 r4 s4 => ⟨y, w, S4, Qd, r2.mono (k3.trans k4), r4, s4, h4, l.keep (k1.trans (k2.trans (k3.trans k4)))⟩⟩
      | false => exact l _ S3 _ H3 h3 (k1.trans (k2.trans k3)) .bl s3⟩⟩⟩
theorem q_tup {k1 : Nat} (h : QA X es t) : QE X (.Tuple es k1 pos) (fun env S Q => t env S fun ds S1 => ds.length ≤ 16777216 ∧ Q (.tup ds) S1) :=
  (pe_tup h).weak fun σ H Q ⟨env, S, Qd, re, so, h, l⟩ => ⟨env, S, _, re, so, h, fun ds S1 vs H1 h1 k1 r1 s1 =>
    ⟨by rw [← r1.length, szl]; exact h1.1, fun p hp => (l.keep k1).tup s1 h1.2 r1 p hp⟩⟩
theorem q_lst (h : QA X es t) : QE X (.List es pos) (fun env S Q => t env S fun ds S1 => ds.length ≤ 16777216 ∧ ∀ p, S1 p = none → Q (.ref p) (put S1 p (.lst ds))) :=
  (pe_lst h).weak fun σ H Q ⟨env, S, Qd, re, so, h, l⟩ => ⟨env, S, _, re, so, h, fun ds S1 vs H1 h1 k1 r1 s1 =>
    ⟨by rw [← r1.length, szl]; exact h1.1, fun p hp => (l.keep k1).lst s1 h1.2 r1 p hp⟩⟩
theorem q_idx (ha : QE X a ta) (hb : QE X b tb) (hs : PlainIx b) : QE X (.Subscript a b pos) (fun env S Q => ta env S fun x S1 => tb env S1 fun y S2 => idxD x y S2 Q) :=
  (pe_ix idxD_ok ha hb hs).weak fun σ H Q ⟨env, S, Qd, re, so, h, l⟩ =>
    ⟨env, S, _, re, so, h, fun x S1 v H1 h1 k1 r1 s1 => ⟨env, S1, _, re.mono k1, s1, h1, fun y S2 u H2 h2 k2 r2 s2 =>
      ⟨x, y, S2, Qd, r1.mono k2, r2, s2, h2, l.keep (k1.trans k2)⟩⟩⟩
abbrev TOD := En → Sto → (Option Int → Sto → Prop) → Prop
def liftO (K : PySem.W.Frag) (t : TOD) : TO := fun σ H Q => ∃ env S, ∃ Qd : Option Int → Sto → Prop, RelE K H env σ ∧ StoOk K H S ∧ t env S Qd ∧ ∀ o S' H', Qd o S' → Keep H H' → StoOk K H' S' → Q o H'
theorem PO.weak' {o : Option Expr} {t t' : TO} (h : PO X o t) (w : ∀ σ H Q, t' σ H Q → t σ H Q) : PO X o t' := ⟨fun pins s σ H Q I q => h.run pins s σ H Q I (w σ H Q q)⟩
theorem q_on : PO X none (liftO X.K fun _ S Q => Q none S) := PO.weak' po_none fun σ H Q ⟨env, S, Qd, re, so, h, l⟩ => l none S H h .refl so
theorem q_os (he : QE X e te) : PO X (some e) (liftO X.K fun env S Q => te env S fun x S1 => ∃ i, x = .int i ∧ Q (some i) S1) :=
  PO.weak' (po_some he) fun σ H Q ⟨env, S, Qd, re, so, h, l⟩ => ⟨env, S, _, re, so, h, fun x S1 v H1 h1 k1 r1 s1 => by
    obtain ⟨i, rfl, h1⟩ := h1
    simp only [Rep] at r1
    exact ⟨i, r1, l _ S1 H1 h1 k1 s1⟩⟩
theorem q_sl {lo hi : Option Expr} {tl th : TOD} {p2 : Pos} (ha : QE X a ta) (hl : PO X lo (liftO X.K tl)) (hh : PO X hi (liftO X.K th)) :
    QE X (.Subscript a (.Slice lo hi none p2) pos) (fun env S Q => ta env S fun x S1 => tl env S1 fun l S2 => th env S2 fun h S3 => slD x l h S3 Q) :=
  (pe_slice slD_ok ha hl hh).weak fun σ H Q ⟨env, S, Qd, re, so, h, l⟩ =>
    ⟨env, S, _, re, so, h, fun x S1 v H1 h1 k1 r1 s1 => ⟨env, S1, _, re.mono k1, s1, h1, fun o S2 H2 h2 k2 s2 => ⟨env, S2, _, re.mono (k1.trans k2), s2, h2, fun o' S3 H3 h3 k3 s3 =>
      ⟨x, S3, Qd, r1.mono (k2.trans k3), s3, h3, l.keep (k1.trans (k2.trans k3))⟩⟩⟩⟩
end
end G57
set_option Elab.async false
set_option linter.all false
set_option maxRecDepth 100000
set_option maxHeartbeats 400000
namespace G57
open PySem L2 PySem.Spec PyProof.Rows
theorem _root_.L2.PW.weak {X : Cx} {e : Expr} {t t' : TT} (h : PW X e t) (w : ∀ σ H Q, t' σ H Q → t σ H Q) : PW X e t' := ⟨fun wh pins s σ H Q I q => h.run wh pins s σ H Q I (w σ H Q q)⟩
theorem _root_.L2.PI.weak {X : Cx} {tg e : Expr} {t t' : TI} (h : PI X tg e t) (w : ∀ σ H Q, t' σ H Q → t σ H Q) : PI X tg e t' := ⟨fun pins s σ H Q I q => h.run pins s σ H Q I (w σ H Q q)⟩
abbrev QW (X : Cx) (e : Expr) (t : TBD) : Prop := PW X e (liftT X.K t)
section
variable {X : Cx} {pos : Pos} {a b c e : Expr} {es rest : List Expr} {ta tb tc te : TD} {tA tB : TBD} {t : TAD}
/-! ### tests -/
theorem qt_not (ha : QT X a tA) : QT X (.UnaryOp .Not a pos) (fun env S Q => tA env S fun b S1 => Q (!b) S1) :=
  (pt_not ha).weak fun σ H Q ⟨env, S, Qd, re, so, h, l⟩ => ⟨env, S, _, re, so, h, fun b S1 H1 h1 k1 s1 => l _ S1 H1 h1 k1 s1⟩
theorem qw_and1 (ha : QT X a tA) : QW X (.BoolOp .And [a] pos) tA := pw_and1 ha
theorem qw_or1 (ha : QT X a tA) : QW X (.BoolOp .Or [a] pos) tA := pw_or1 ha
theorem qw_and (ha : QT X a tA) (hb : QW X (.BoolOp .And (b :: rest) pos) tB) : QW X (.BoolOp .And (a :: b :: rest) pos) (fun env S Q => tA env S fun t S1 => if t = true then tB env S1 Q else Q false S1) :=
  (pw_and ha hb).weak fun σ H Q ⟨env, S, Qd, re, so, h, l⟩ => ⟨env, S, _, re, so, h, fun t S1 H1 h1 k1 s1 => by
    cases t with
    | true => exact ⟨env, S1, Qd, re.mono k1, s1, h1, fun b S2 H2 h2 k2 s2 => l b S2 H2 h2 (k1.trans k2) s2⟩
    | false => exact l _ S1 H1 h1 k1 s1⟩
theorem qw_or (ha : QT X a tA) (hb : QW X (.BoolOp .Or (b :: rest) pos) tB) : QW X (.BoolOp .Or (a :: b :: rest) pos) (fun env S Q => tA env S fun t S1 => if t = true then Q true S1 else tB env S1 Q) :=
  (pw_or ha hb).weak fun σ H Q ⟨env, S, Qd, re, so, h, l⟩ => ⟨env, S, _, re, so, h, fun t S1 H1 h1 k1 s1 => by
    cases t with
    | false => exact ⟨env, S1, Qd, re.mono k1, s1, h1, fun b S2 H2 h2 k2 s2 => l b S2 H2 h2 (k1.trans k2) s2⟩
    | true => exact l _ S1 H1 h1 k1 s1⟩
theorem qt_cmp {op : CmpOp} (hu : X.A.units + 64 < cLine) (ha : QE X a ta) (hb : QE X b tb) (hm : behindInMarks op b = false) :
    QT X (.Compare a [op] [b] pos) (fun env S Q => ta env S fun x S1 => tb env S1 fun y S2 => cmpD op x y S2 fun z S3 => ∃ k, z = .bl k ∧ Q k S3) :=
  (pt_cmpR (cmpD_ok hu op) ha hb hm).weak fun σ H Q ⟨env, S, Qd, re, so, h, l⟩ =>
    ⟨env, S, _, re, so, h, fun x S1 v H1 h1 k1 r1 s1 => ⟨env, S1, _, re.mono k1, s1, h1, fun y S2 u H2 h2 k2 r2 s2 =>
      ⟨x, y, S2, _, r1.mono k2, r2, s2, h2, fun z S3 w H3 h3 k3 r3 s3 => by
        obtain ⟨k, rfl, h3⟩ := h3
        simp only [Rep] at r3
        exact ⟨k, r3, l _ S3 H3 h3 (k1.trans (k2.trans k3)) s3⟩⟩⟩⟩
theorem qt_chain {o1 o2 : CmpOp} (hu : X.A.units + 64 < cLine) (ha : QE X a ta) (hb : QE X b tb) (hc : QE X c tc) (hm : lastMarks [o1, o2] [b, c] = false) :
    QT X (.Compare a [o1, o2] [b, c] pos) (fun env S Q => ta env S fun x S1 => tb env S1 fun y S2 => cmpD o1 x y S2 fun z S3 => ∃ k, z = .bl k ∧
      (if k = true then tc env S3 fun w S4 => cmpD o2 y w S4 fun z S5 => ∃ k, z = .bl k ∧ Q k S5 else Q false S3)) :=
  (pt_chain (cmpD_ok hu o1) (cmpD_ok hu o2) ha hb hc hm).weak fun σ H Q ⟨env, S, Qd, re, so, h, l⟩ => ⟨env, S, _, re, so, h, fun x S1 v H1 h1 k1 r1 s1 =>
    ⟨env, S1, _, re.mono k1, s1, h1, fun y S2 u H2 h2 k2 r2 s2 => ⟨x, y, S2, _, r1.mono k2, r2, s2, h2, fun z S3 w H3 h3 k3 r3 s3 => by
      obtain ⟨k, rfl, h3⟩ := h3
      simp only [Rep] at r3
      refine ⟨k, r3, ?_⟩
      cases k with
      | true => exact ⟨env, S3, _, re.mono (k1.trans (k2.trans k3)), s3, h3, fun w S4 u' H4 h4 k4 r4 s4 => ⟨y, w, S4, _, r2.mono (k3.trans k4), r4, s4, h4, fun z S5 w' H5 h5 k5 r5 s5 => by
          obtain ⟨k, rfl, h5⟩ := h5
          simp only [Rep] at r5
          exact ⟨k, r5, l _ S5 H5 h5 (k1.trans (k2.trans (k3.trans (k4.trans k5)))) s5⟩⟩⟩
      | false => exact ⟨false, rfl, l _ S3 H3 h3 (k1.trans (k2.trans k3)) s3⟩⟩⟩⟩
theorem qt_truth (ha : QE X a ta) (he : ∀ whole, isTrue a X.env whole = (do let v ← whole; standAt a.pos; holding [v] (truthy v))) : QT X a (fun env S Q => ta env S fun d S1 => truthD d S1 fun b => Q b S1) :=
  (pt_truth ha he).weak fun σ H Q ⟨env, S, Qd, re, so, h, l⟩ => ⟨env, S, _, re, so, h, fun x S1 v H1 h1 k1 r1 s1 =>
    let ⟨b, q, z⟩ := truth_tru s1 r1 h1; ⟨b, q, l _ S1 H1 z k1 s1⟩⟩
/-! ### built-ins -/
theorem q_b {id : String} {r : RLD} {x : Str} {p : Pos} (hc : CallR X (.builtin id) (liftRL X.K r)) (hg : Gl X x) (hm : X.mg x = none) (hv : bootBuiltins x = some (.builtin id)) (ha : QA X (e :: es) t) (hn : x ≠ "__name__") (hdb : (x == ("__debug__" : Str)) = false)
    (he : starEach (e :: es) X.env = (false, eval e X.env) :: starEach es X.env) (hpl : (backTo pos (starEach es X.env)).any (·.1) = false) : QE X (.Call (.Name x p) (e :: es) [] pos) (fun env S Q => t env S fun ds S1 => r ds S1 Q) :=
  (pe_callB hc hg hm hv ha hn hdb he hpl).weak fun σ H Q ⟨env, S, Qd, re, so, h, l⟩ => ⟨env, S, _, re, so, h, fun ds S1 vs H1 h1 k1 r1 s1 => ⟨ds, S1, Qd, r1, s1, h1, l.keep k1⟩⟩
theorem q_ty {id : String} {r : RLD} {x : Str} {p : Pos} (hc : CallR X (.type id) (liftRL X.K r)) (hg : Gl X x) (hm : X.mg x = none) (hv : bootBuiltins x = some (.type id)) (ha : QA X (e :: es) t) (hn : x ≠ "__name__") (hdb : (x == ("__debug__" : Str)) = false)
    (he : starEach (e :: es) X.env = (false, eval e X.env) :: starEach es X.env) (hpl : (backTo pos (starEach es X.env)).any (·.1) = false) : QE X (.Call (.Name x p) (e :: es) [] pos) (fun env S Q => t env S fun ds S1 => r ds S1 Q) :=
  (pe_callTy hc hg hm hv ha hn hdb he hpl).weak fun σ H Q ⟨env, S, Qd, re, so, h, l⟩ => ⟨env, S, _, re, so, h, fun ds S1 vs H1 h1 k1 r1 s1 => ⟨ds, S1, Qd, r1, s1, h1, l.keep k1⟩⟩
theorem bt_len : bootBuiltins "len" = some (.builtin "len") := by decide +kernel
theorem bt_sum : bootBuiltins "sum" = some (.builtin "sum") := by decide +kernel
theorem bt_any : bootBuiltins "any" = some (.builtin "any") := by decide +kernel
theorem bt_all : bootBuiltins "all" = some (.builtin "all") := by decide +kernel
theorem bt_abs : bootBuiltins "abs" = some (.builtin "abs") := by decide +kernel
theorem bt_min : bootBuiltins "min" = some (.builtin "min") := by decide +kernel
theorem bt_max : bootBuiltins "max" = some (.builtin "max") := by decide +kernel
theorem bt_repr : bootBuiltins "repr" = some (.builtin "repr") := by decide +kernel
theorem bt_int : bootBuiltins "int" = some (.type "int") := by decide +kernel
theorem bt_str : bootBuiltins "str" = some (.type "str") := by decide +kernel
theorem bt_tuple : bootBuiltins "tuple" = some (.type "tuple") := by decide +kernel
theorem bt_list : bootBuiltins "list" = some (.type "list") := by decide +kernel
theorem biOf_inv {x : Str} {f : Bi} (h : biOf x = some f) : (x = "len" ∧ f = .len) ∨ (x = "sum" ∧ f = .sum) ∨ (x = "any" ∧ f = .any) ∨ (x = "all" ∧ f = .all) ∨ (x = "abs" ∧ f = .abs) ∨ (x = "min" ∧ f = .min) ∨ (x = "max" ∧ f = .max) ∨ (x = "repr" ∧ f = .repr) ∨ (x = "int" ∧ f = .int) ∨ (x = "str" ∧ f = .str) ∨ (x = "tuple" ∧ f = .tuple) ∨ (x = "list" ∧ f = .list) := by
  unfold biOf at h
  by_cases e0 : x = "len"
  · rw [if_pos e0] at h; cases h; exact Or.inl ⟨e0, rfl⟩
  rw [if_neg e0] at h
  by_cases e1 : x = "sum"
  · rw [if_pos e1] at h; cases h; exact Or.inr (Or.inl ⟨e1, rfl⟩)
  rw [if_neg e1] at h
  by_cases e2 : x = "any"
  · rw [if_pos e2] at h; cases h; exact Or.inr (Or.inr (Or.inl ⟨e2, rfl⟩))
  rw [if_neg e2] at h
  by_cases e3 : x = "all"
  · rw [if_pos e3] at h; cases h; exact Or.inr (Or.inr (Or.inr (Or.inl ⟨e3, rfl⟩)))
  rw [if_neg e3] at h
  by_cases e4 : x = "abs"
  · rw [if_pos e4] at h; cases h; exact Or.inr (Or.inr (Or.inr (Or.inr (Or.inl ⟨e4, rfl⟩))))
  rw [if_neg e4] at h
  by_cases e5 : x = "min"
  · rw [if_pos e5] at h; cases h; exact Or.inr (Or.inr (Or.inr (Or.inr (Or.inr (Or.inl ⟨e5, rfl⟩)))))
  rw [if_neg e5] at h
  by_cases e6 : x = "max"
  · rw [if_pos e6] at h; cases h; exact Or.inr (Or.inr (Or.inr (Or.inr (Or.inr (Or.inr (Or.inl ⟨e6, rfl⟩))))))
  rw [if_neg e6] at h
  by_cases e7 : x = "repr"
  · rw [if_pos e7] at h; cases h; exact Or.inr (Or.inr (Or.inr (Or.inr (Or.inr (Or.inr (Or.inr (Or.inl ⟨e7, rfl⟩)))))))
  rw [if_neg e7] at h
  by_cases e8 : x = "int"
  · rw [if_pos e8] at h; cases h; exact Or.inr (Or.inr (Or.inr (Or.inr (Or.inr (Or.inr (Or.inr (Or.inr (Or.inl ⟨e8, rfl⟩))))))))
  rw [if_neg e8] at h
  by_cases e9 : x = "str"
  · rw [if_pos e9] at h; cases h; exact Or.inr (Or.inr (Or.inr (Or.inr (Or.inr (Or.inr (Or.inr (Or.inr (Or.inr (Or.inl ⟨e9, rfl⟩)))))))))
  rw [if_neg e9] at h
  by_cases e10 : x = "tuple"
  · rw [if_pos e10] at h; cases h; exact Or.inr (Or.inr (Or.inr (Or.inr (Or.inr (Or.inr (Or.inr (Or.inr (Or.inr (Or.inr (Or.inl ⟨e10, rfl⟩))))))))))
  rw [if_neg e10] at h
  by_cases e11 : x = "list"
  · rw [if_pos e11] at h; cases h; exact Or.inr (Or.inr (Or.inr (Or.inr (Or.inr (Or.inr (Or.inr (Or.inr (Or.inr (Or.inr (Or.inr (⟨e11, rfl⟩)))))))))))
  rw [if_neg e11] at h
  cases h
theorem q_bi {f : Bi} {x : Str} {p : Pos} (hcalm : X.calm = true) (hgd : X.A.guards = some []) (hu : X.A.units + 64 < cLine) (hf : biOf x = some f) (hg : Gl X x) (hm : X.mg x = none) (ha : QA X (e :: es) t) (hn : x ≠ "__name__") (hdb : (x == ("__debug__" : Str)) = false)
    (he : starEach (e :: es) X.env = (false, eval e X.env) :: starEach es X.env) (hpl : (backTo pos (starEach es X.env)).any (·.1) = false) : QE X (.Call (.Name x p) (e :: es) [] pos) (fun env S Q => t env S fun ds S1 => biD f ds S1 Q) := by
  rcases biOf_inv hf with ⟨rfl, rfl⟩ | ⟨rfl, rfl⟩ | ⟨rfl, rfl⟩ | ⟨rfl, rfl⟩ | ⟨rfl, rfl⟩ | ⟨rfl, rfl⟩ | ⟨rfl, rfl⟩ | ⟨rfl, rfl⟩ | ⟨rfl, rfl⟩ | ⟨rfl, rfl⟩ | ⟨rfl, rfl⟩ | ⟨rfl, rfl⟩
  · exact q_b lenD_ok hg hm bt_len ha hn hdb he hpl
  · exact q_b (sumD_ok hcalm) hg hm bt_sum ha hn hdb he hpl
  · exact q_b (anyD_ok hcalm) hg hm bt_any ha hn hdb he hpl
  · exact q_b (allD_ok hcalm) hg hm bt_all ha hn hdb he hpl
  · exact q_b absD_ok hg hm bt_abs ha hn hdb he hpl
  · exact q_b (minD_ok hcalm) hg hm bt_min ha hn hdb he hpl
  · exact q_b (maxD_ok hcalm) hg hm bt_max ha hn hdb he hpl
  · exact q_b (reprD_ok hgd hu) hg hm bt_repr ha hn hdb he hpl
  · exact q_ty intD_ok hg hm bt_int ha hn hdb he hpl
  · exact q_ty strD_ok hg hm bt_str ha hn hdb he hpl
  · exact q_ty tupleD_ok hg hm bt_tuple ha hn hdb he hpl
  · exact q_ty listD_ok hg hm bt_list ha hn hdb he hpl
/-! ### methods of built-ins -/
def mtT : Mt → String
  | .join | .count => "str"
  | _ => "list"
theorem ty_of {m : Mt} {T : String} {K : PySem.W.Frag} {H : Hp} {S : Sto} (so : StoOk K H S) {d : D} {v : V} (r : Rep K H d v) (h : mtTy m d S) (hT : T = mtT m) : tyV K T v H := by
  subst hT
  cases m <;> cases d <;> try exact h.elim
  case join.str => simp only [Rep] at r; subst r; rfl
  case count.str => simp only [Rep] at r; subst r; rfl
  all_goals
    simp only [Rep] at r; subst r
    obtain ⟨ds, e⟩ := h
    obtain ⟨vs, q, _⟩ := so _ _ e
    exact Or.inl ⟨rfl, vs, Or.inl (Or.inl q)⟩
theorem q_m1 {m : Mt} {T id : String} {name : Str} {apos : Pos} {o : Expr} {to : TD} (pa : PlainAttrs T) (slot : Slot T name id) (hty : typeOf (.builtin id) = pure (.type "method_descriptor")) (hm : MtR X id (liftM X.K (mtD m)))
    (hT : T = mtT m) (ho : QE X o to) (ha : QA X (e :: es) t) (hbase : attributeBase o name X.env (eval o X.env) = eval o X.env)
    (hfew : ((backTo pos (starEach (e :: es) X.env)).all (fun x => !x.1) && (backToKw pos (keywordEach [] X.env)).all (fun x => x.1.isSome) && decide ((e :: es).length + ([] : List Keyword).length + (if ([] : List Keyword).isEmpty then 0 else 1) < 30)) = true)
    (hline : (apos.endLine == pos.line) = true) (hs : starEach (e :: es) X.env = (false, eval e X.env) :: starEach es X.env) (hplain : (backTo pos (starEach es X.env)).any (·.1) = false) :
    QE X (.Call (.Attribute o name apos) (e :: es) [] pos) (fun env S Q => to env S fun x S1 => mtTy m x S1 ∧ t env S1 fun ds S2 => mtD m x ds S2 Q) :=
  (pe_bm pa slot hty hm ho ha hbase hfew hline hs hplain).weak fun σ H Q ⟨env, S, Qd, re, so, h, l⟩ =>
    ⟨env, S, _, re, so, h, fun x S1 v H1 h1 k1 r1 s1 => ⟨ty_of s1 r1 h1.1 hT, env, S1, _, re.mono k1, s1, h1.2, fun ds S2 vs H2 h2 k2 r2 s2 => ⟨x, ds, S2, Qd, r1.mono k2, r2, s2, h2, l.keep (k1.trans k2)⟩⟩⟩
theorem q_m0 {m : Mt} {T id : String} {name : Str} {apos : Pos} {o : Expr} {to : TD} (pa : PlainAttrs T) (slot : Slot T name id) (hty : typeOf (.builtin id) = pure (.type "method_descriptor")) (hm : MtR X id (liftM X.K (mtD m)))
    (hT : T = mtT m) (ho : QE X o to) (hbase : attributeBase o name X.env (eval o X.env) = eval o X.env) (hline : (apos.endLine == pos.line) = true) :
    QE X (.Call (.Attribute o name apos) [] [] pos) (fun env S Q => to env S fun x S1 => mtTy m x S1 ∧ mtD m x [] S1 Q) :=
  (pe_bm0 pa slot hty hm ho hbase hline).weak fun σ H Q ⟨env, S, Qd, re, so, h, l⟩ =>
    ⟨env, S, _, re, so, h, fun x S1 v H1 h1 k1 r1 s1 => ⟨ty_of s1 r1 h1.1 hT, x, [], S1, Qd, r1, .nil, s1, h1.2, l.keep k1⟩⟩
/-! ### what a loop walks -/
abbrev TID := En → Sto → IK → Prop
/-- J yields xs, wherever the lists that it walks stand still -/
def Drv (K : PySem.W.Frag) (H0 : Hp) (J : It) (xs : List D) (G : Sto → Prop) : Prop := ∀ H S (i : Nat), Keep H0 H → StoOk K H S → G S →
  (∀ d, xs[i]? = some d → J.go i H ∧ ∀ v H', J.yld i H v H' → Keep H H' ∧ StoOk K H' S ∧ Rep K H' d v) ∧ (i = xs.length → J.stop i H)
def liftI (K : PySem.W.Frag) (t : TID) : TI := fun σ H R => ∃ env S, ∃ Kd : IK, RelE K H env σ ∧ StoOk K H S ∧ t env S Kd ∧
  ∀ xs G S' J H', Kd xs G S' → Keep H H' → StoOk K H' S' → G S' → Drv K H' J xs G → R J H'
abbrev QI (X : Cx) (tg it : Expr) (t : TID) : Prop := PI X tg it (liftI X.K t)
theorem drv_list {K : PySem.W.Frag} {H0 : Hp} {a : Addr} {xs : List D} {G : Sto → Prop} (h : ∀ H S, Keep H0 H → StoOk K H S → G S → ∃ vs, SqL K H a vs ∧ Reps K H xs vs) : Drv K H0 (Itl K a) xs G := fun H S i k so g => by
  obtain ⟨vs, q, r⟩ := h H S k so g
  refine ⟨fun d e => ?_, fun e => ⟨vs, q, by rw [e, r.length]; exact Nat.le_refl _⟩⟩
  obtain ⟨v, e2, rv⟩ := r.get e
  refine ⟨⟨vs, v, q, e2⟩, fun w H' y => ?_⟩
  obtain ⟨rfl, y⟩ := y
  have := y vs q
  rw [e2] at this; cases this
  exact ⟨.refl, so, rv⟩
end
end G57
set_option Elab.async false
set_option linter.all false
set_option maxRecDepth 100000
set_option maxHeartbeats 400000
namespace G57
open PySem L2 PySem.Spec PyProof.Rows
section
variable {K : PySem.W.Frag} {H0 : Hp} {G : Sto → Prop}
theorem drv_tup {a : Addr} {xs : List D} {vs : List V} (q : SqT K H0 a vs) (r : Reps K H0 xs vs) : Drv K H0 (Itt K a) xs G := fun H S i k so g => by
  refine ⟨fun d e => ?_, fun e => ⟨vs, k.sqt q, by rw [e, r.length]; exact Nat.le_refl _⟩⟩
  obtain ⟨v, e2, rv⟩ := r.get e
  refine ⟨⟨vs, v, k.sqt q, e2⟩, fun w H' y => ?_⟩
  obtain ⟨rfl, y⟩ := y
  have := y vs (k.sqt q)
  rw [e2] at this; cases this
  exact ⟨.refl, so, rv.mono k⟩
theorem drv_str {x : List Nat} : Drv K H0 (Its ⟨x.toArray⟩) (x.map fun c => .str [c]) G := fun H S i k so g => by
  refine ⟨fun d e => ?_, fun e => ?_⟩
  · rw [List.getElem?_map] at e
    obtain ⟨c, e1, rfl⟩ := Option.map_eq_some_iff.mp e
    have hlt : i < x.length := by
      by_cases z : i < x.length
      · exact z
      · rw [List.getElem?_eq_none (by omega)] at e1; cases e1
    refine ⟨by show i < x.toArray.size; simpa using hlt, fun w H' y => ?_⟩
    obtain ⟨rfl, c', e2, rfl⟩ := y
    have e3 : x[i]? = some c' := by simpa using e2
    rw [e1] at e3; cases e3
    exact ⟨.refl, so, by simp only [Rep]⟩
  · show x.toArray.size ≤ i
    rw [e]; simp
theorem drv_rng {lo : Int} {n : Nat} : Drv K H0 (Itr lo n) ((List.range n).map fun i => .int (lo + (i : Nat))) G := fun H S i k so g => by
  refine ⟨fun d e => ?_, fun e => ?_⟩
  · rw [List.getElem?_map] at e
    obtain ⟨c, e1, rfl⟩ := Option.map_eq_some_iff.mp e
    obtain ⟨hlt, e1⟩ := List.getElem?_eq_some_iff.mp e1
    rw [List.length_range] at hlt
    rw [List.getElem_range] at e1
    subst e1
    refine ⟨hlt, fun w H' y => ?_⟩
    obtain ⟨rfl, rfl⟩ := y
    exact ⟨.refl, so, .int⟩
  · show n ≤ i
    rw [e]; simp
theorem zip_get : ∀ {xs ys : List D} {i : Nat} {d : D}, (zipD xs ys)[i]? = some d → ∃ x y, xs[i]? = some x ∧ ys[i]? = some y ∧ d = .tup [x, y]
  | [], _, i, d, h => by simp [zipD] at h
  | x :: xs, [], i, d, h => by simp [zipD] at h
  | x :: xs, y :: ys, 0, d, h => by simp [zipD] at h; exact ⟨x, y, rfl, rfl, h.symm⟩
  | x :: xs, y :: ys, i + 1, d, h => by
    rw [zipD, List.getElem?_cons_succ] at h
    obtain ⟨a, b, e1, e2, e3⟩ := zip_get h
    exact ⟨a, b, by simpa using e1, by simpa using e2, e3⟩
theorem zip_len : ∀ {xs ys : List D}, (zipD xs ys).length = min xs.length ys.length
  | [], _ => by simp [zipD]
  | x :: xs, [] => by simp [zipD]
  | x :: xs, y :: ys => by simp only [zipD, List.length_cons, zip_len]; omega
theorem pair_new {H : Hp} {S : Sto} {x y : D} {u v : V} {T : Addr} (so : StoOk K H S) (rx : Rep K H x u) (ry : Rep K H y v) (hT : H T = none) :
    Keep H (upd H T (.tup [u, v])) ∧ StoOk K (upd H T (.tup [u, v])) S ∧ Rep K (upd H T (.tup [u, v])) (.tup [x, y]) (.ref T) :=
  ⟨.new hT, so.new hT, .tup_mk (.inl (.inl upd_same)) (.cons (rx.mono (.new hT)) (.cons (ry.mono (.new hT)) .nil))⟩
theorem drv_zipT {a b : Addr} {xs ys : List D} {us vs : List V} (q : SqT K H0 a us) (r : Reps K H0 xs us) (q' : SqT K H0 b vs) (r' : Reps K H0 ys vs) : Drv K H0 (RZ.ItzT K a b) (zipD xs ys) G := fun H S i k so g => by
  refine ⟨fun d e => ?_, fun e => ⟨us, vs, k.sqt q, k.sqt q', ?_⟩⟩
  · obtain ⟨x, y, e1, e2, rfl⟩ := zip_get e
    obtain ⟨u, f1, g1⟩ := r.get e1
    obtain ⟨v, f2, g2⟩ := r'.get e2
    refine ⟨⟨us, vs, u, v, k.sqt q, k.sqt q', f1, f2⟩, fun w H' z => ?_⟩
    obtain ⟨T, x1, y1, rfl, hT, rfl, z1, z2⟩ := z
    have z1 := z1 us (k.sqt q)
    have z2 := z2 vs (k.sqt q')
    rw [f1] at z1; rw [f2] at z2
    cases z1; cases z2
    exact pair_new so (g1.mono k) (g2.mono k) hT
  · rw [e, zip_len, ← r.length, ← r'.length]
    omega
theorem drv_zipL {a b : Addr} {xs ys : List D} (h : ∀ H S, Keep H0 H → StoOk K H S → G S → (∃ us, SqL K H a us ∧ Reps K H xs us) ∧ ∃ vs, SqL K H b vs ∧ Reps K H ys vs) : Drv K H0 (Itz K a b) (zipD xs ys) G := fun H S i k so g => by
  obtain ⟨⟨us, q, r⟩, vs, q', r'⟩ := h H S k so g
  refine ⟨fun d e => ?_, fun e => ⟨us, vs, q, q', ?_⟩⟩
  · obtain ⟨x, y, e1, e2, rfl⟩ := zip_get e
    obtain ⟨u, f1, g1⟩ := r.get e1
    obtain ⟨v, f2, g2⟩ := r'.get e2
    refine ⟨⟨us, vs, u, v, q, q', f1, f2⟩, fun w H' z => ?_⟩
    obtain ⟨T, x1, y1, rfl, hT, rfl, z1, z2⟩ := z
    have z1 := z1 us q
    have z2 := z2 vs q'
    rw [f1] at z1; rw [f2] at z2
    cases z1; cases z2
    exact pair_new so g1 g2 hT
  · rw [e, zip_len, ← r.length, ← r'.length]
    omega
theorem enum_get : ∀ {xs : List D} {j i : Nat} {d : D}, (enumD j xs)[i]? = some d → ∃ x, xs[i]? = some x ∧ d = .tup [.int ((j + i : Nat) : Int), x]
  | [], j, i, d, h => by simp [enumD] at h
  | x :: xs, j, 0, d, h => by simp [enumD] at h; exact ⟨x, rfl, by simpa using h.symm⟩
  | x :: xs, j, i + 1, d, h => by
    rw [enumD, List.getElem?_cons_succ] at h
    obtain ⟨a, e1, e3⟩ := enum_get h
    exact ⟨a, by simpa using e1, by rw [e3]; congr 3; omega⟩
theorem enum_len : ∀ {xs : List D} {j : Nat}, (enumD j xs).length = xs.length
  | [], _ => by simp [enumD]
  | x :: xs, j => by simp only [enumD, List.length_cons, enum_len]
theorem drv_enum {a : Addr} {xs : List D} (h : ∀ H S, Keep H0 H → StoOk K H S → G S → ∃ us, SqL K H a us ∧ Reps K H xs us) : Drv K H0 (Ite K a) (enumD 0 xs) G := fun H S i k so g => by
  obtain ⟨us, q, r⟩ := h H S k so g
  refine ⟨fun d e => ?_, fun e => ⟨us, q, by rw [e, enum_len, r.length]; exact Nat.le_refl _⟩⟩
  obtain ⟨x, e1, rfl⟩ := enum_get e
  obtain ⟨u, f1, g1⟩ := r.get e1
  refine ⟨⟨us, u, q, f1⟩, fun w H' z => ?_⟩
  obtain ⟨T, x1, rfl, hT, rfl, z1⟩ := z
  have z1 := z1 us q
  rw [f1] at z1; cases z1
  rw [Nat.zero_add]
  exact pair_new so .int g1 hT
end
section
variable {X : Cx} {pos : Pos} {tg a b e : Expr} {ta tb te : TD}
theorem lst_at {K : PySem.W.Frag} {H : Hp} {S : Sto} {p : Addr} {ds : List D} (so : StoOk K H S) (e : S p = some (.lst ds)) : ∃ vs, SqL K H p vs ∧ Reps K H ds vs := by
  obtain ⟨vs, q, r⟩ := so p _ e
  exact ⟨vs, .inl (.inl q), r⟩
theorem qi_E (he : QE X e te) : QI X tg e (fun env S K => te env S fun x S1 => iterD x S1 K) := by
  refine ⟨fun pins s σ H R I ⟨env, S, Kd, re, so, h, l⟩ => ?_⟩
  refine thn (he.run pins s σ H (fun x H1 => ∃ d S1, iterD d S1 Kd ∧ Keep H H1 ∧ Rep X.K H1 d x ∧ StoOk X.K H1 S1) I ⟨env, S, _, re, so, h, fun d S1 v H1 h1 k1 r1 s1 => ⟨d, S1, h1, k1, r1, s1⟩⟩) ?_
  rintro v s1 ⟨x, H1, I1, r1, d, S1, h1, k1, rd, so1⟩
  cases d <;> try exact h1.elim
  case tup ds =>
    obtain ⟨p, vs, rfl, q, r⟩ := rd.tup_inv
    cases r1
    obtain ⟨its, rv, pl, hz⟩ := I1.tuple q
    exact wpAny_pyIter_tuple (show s1.heap.IsTuple p its.toArray from pl) (pi_one (tk := s1.toks) I1 _ (turn_tuple p _) ⟨_, Heap.get?_push_size _ rfl, rfl, rfl⟩ (l _ _ S1 _ H1 h1 k1 so1 trivial (drv_tup q r)))
  case rol ds =>
    obtain ⟨p, vs, rfl, q, r⟩ := rd.rol_inv
    cases r1
    obtain ⟨its, rv, pl, hz⟩ := I1.list q.sq
    exact wpAny_pyIter_list pl.isList (pi_one (tk := s1.toks) I1 _ (turn_list p _) ⟨_, Heap.get?_push_size _ rfl, rfl, rfl⟩ (l _ _ S1 _ H1 h1 k1 so1 trivial (drv_list fun H2 S2 k2 s2 _ => ⟨vs, (k2.sqf q).sq, r.mono k2⟩)))
  case str w =>
    simp only [Rep] at rd
    subst rd
    obtain ⟨t, rfl⟩ := r1
    cases ha : (⟨w.toArray⟩ : Str).cps.all (· < 128)
    · exact wpAny_pyIter_wide ha (pi_one (tk := s1.toks) I1 _ (turn_str _ ⟨w.toArray⟩ t "str_iterator" (.inr rfl)) ⟨_, Heap.get?_push_size _ rfl, rfl, rfl⟩ (l _ _ S1 _ H1 h1 k1 so1 trivial drv_str))
    · exact wpAny_pyIter_ascii ha (pi_one (tk := s1.toks) I1 _ (turn_str _ ⟨w.toArray⟩ t "str_ascii_iterator" (.inl rfl)) ⟨_, Heap.get?_push_size _ rfl, rfl, rfl⟩ (l _ _ S1 _ H1 h1 k1 so1 trivial drv_str))
  case ref p =>
    simp only [Rep] at rd
    subst rd
    cases r1
    obtain ⟨ds, e1, h1⟩ := h1
    obtain ⟨vs, q, r⟩ := lst_at so1 e1
    obtain ⟨its, rv, pl, hz⟩ := I1.list q
    exact wpAny_pyIter_list pl.isList (pi_one (tk := s1.toks) I1 _ (turn_list p _) ⟨_, Heap.get?_push_size _ rfl, rfl, rfl⟩ (l _ _ S1 _ H1 h1 k1 so1 e1 (drv_list fun H2 S2 k2 s2 g => lst_at s2 g)))
theorem args1 (ha : QE X a ta) (hs : starEach [a] X.env = [(false, eval a X.env)]) : QA X [a] (fun env S Q => ta env S fun x S1 => Q [x] S1) := q_cons ha q_nil hs
theorem args2 (ha : QE X a ta) (hb : QE X b tb) (hs : starEach [a, b] X.env = (false, eval a X.env) :: starEach [b] X.env) (hs2 : starEach [b] X.env = [(false, eval b X.env)]) :
    QA X [a, b] (fun env S Q => ta env S fun x S1 => tb env S1 fun y S2 => Q [x, y] S2) := q_cons ha (args1 hb hs2) hs
def on1 (f : D → Sto → Prop) : List D → Sto → Prop
  | [x], S => f x S
  | _, _ => False
def on2 (f : D → D → Sto → Prop) : List D → Sto → Prop
  | [x, y], S => f x y S
  | _, _ => False
theorem on1_inv {f : D → Sto → Prop} {ds : List D} {S : Sto} (h : on1 f ds S) : ∃ x, ds = [x] ∧ f x S := by
  unfold on1 at h
  split at h
  · exact ⟨_, rfl, h⟩
  · exact h.elim
theorem on2_inv {f : D → D → Sto → Prop} {ds : List D} {S : Sto} (h : on2 f ds S) : ∃ x y, ds = [x, y] ∧ f x y S := by
  unfold on2 at h
  split at h
  · exact ⟨_, _, rfl, h⟩
  · exact h.elim
theorem qi_R1 {p : Pos} (hg : Gl X "range") (hm : X.mg "range" = none) (ha : QE X a ta) (hs : starEach [a] X.env = [(false, eval a X.env)]) :
    QI X tg (.Call (.Name "range" p) [a] [] pos) (fun env S K => ta env S fun x S1 => range1D x S1 K) :=
  (pi_range1 hg hm (args1 ha hs) hs).weak fun σ H R ⟨env, S, Kd, re, so, h, l⟩ => ⟨env, S, on1 fun x S1 => range1D x S1 Kd, re, so, h, fun ds S1 vs H1 h1 k1 r1 s1 => by
    obtain ⟨x, rfl, z1⟩ := on1_inv h1
    clear h1
    have h1 := z1
    clear z1
    cases x <;> try exact h1.elim
    rename_i n
    simp only [Reps, Rep] at r1
    obtain ⟨_, _, rfl, rfl, rfl⟩ := r1
    refine ⟨n, rfl, h1.1.1, h1.1.2, ?_⟩
    have d := drv_rng (K := X.K) (H0 := H1) (lo := 0) (n := n.toNat) (G := fun _ => True)
    refine l _ _ S1 _ H1 h1.2 k1 s1 trivial ?_
    unfold rngD
    rw [Int.sub_zero]
    exact d⟩
theorem qi_R2 {p : Pos} (hg : Gl X "range") (hm : X.mg "range" = none) (ha : QE X a ta) (hb : QE X b tb) (hs : starEach [a, b] X.env = (false, eval a X.env) :: starEach [b] X.env) (hs2 : starEach [b] X.env = [(false, eval b X.env)]) :
    QI X tg (.Call (.Name "range" p) [a, b] [] pos) (fun env S K => ta env S fun x S1 => tb env S1 fun y S2 => range2D x y S2 K) :=
  (pi_range2 hg hm (args2 ha hb hs hs2) (by rw [hs, hs2]) hs2).weak fun σ H R ⟨env, S, Kd, re, so, h, l⟩ => ⟨env, S, on2 fun x y S1 => range2D x y S1 Kd, re, so, h, fun ds S1 vs H1 h1 k1 r1 s1 => by
    obtain ⟨x, y, rfl, z1⟩ := on2_inv h1
    clear h1
    have h1 := z1
    clear z1
    cases x <;> cases y <;> try exact h1.elim
    rename_i m n
    simp only [Reps, Rep] at r1
    obtain ⟨_, _, rfl, rfl, _, _, rfl, rfl, rfl⟩ := r1
    exact ⟨m, n, rfl, ⟨h1.1.1, h1.1.2, h1.2.1.1, h1.2.1.2⟩, l _ _ S1 _ H1 h1.2.2 k1 s1 trivial drv_rng⟩⟩
/-! ### targets -/
def places : Pt → List Nat
  | .v i => [i]
  | .t p => places p
  | .nil => []
  | .cons a r => places a ++ places r
theorem wipe_in (i : Nat) (x : Option V) (σ : L2.St) : ∀ vs : List Nat, (wipe (σ.set i x) vs).set i none = (wipe σ vs).set i none
  | [] => by simp [wipe]
  | v :: vs => by
    unfold wipe
    by_cases e : v = i
    · subst e
      rw [List.set_set, List.set_set, wipe_in v x σ vs]
    · rw [List.set_comm _ _ e, wipe_in i x σ vs, List.set_comm _ _ (fun z => e z.symm)]
theorem wipe_set {i : Nat} {x : Option V} {σ : L2.St} : ∀ {vs : List Nat}, i ∈ vs → wipe (σ.set i x) vs = wipe σ vs
  | v :: vs, h => by
    unfold wipe
    by_cases e : v = i
    · subst e; exact wipe_in v x σ vs
    · rw [wipe_set (vs := vs) (by rcases List.mem_cons.mp h with z | z; exact absurd z.symm e; exact z)]
theorem RelE.wipe {K : PySem.W.Frag} {H : Hp} {env : En} {σ : L2.St} (h : RelE K H env σ) : ∀ vs : List Nat, RelE K H (wipeD env vs) (L2.wipe σ vs)
  | [] => h
  | v :: vs => by
    have ih := RelE.wipe h vs
    unfold wipeD L2.wipe
    refine ⟨by simp [ih.1], fun j d q => ?_⟩
    by_cases hj : v = j
    · subst hj
      by_cases hv : v < (wipeD env vs).length
      · rw [List.getElem?_set_self hv] at q; cases q
      · rw [List.getElem?_eq_none (by simpa using hv)] at q; cases q
    · rw [List.getElem?_set_ne hj] at q ⊢
      exact ih.2 j d q
def GK' (K : PySem.W.Frag) (H : Hp) (p : Pt) (σ : L2.St) (Qe : En → Prop) (Q : L2.St → Hp → Prop) : Prop := ∀ env' σ', Qe env' → RelE K H env' σ' → (∀ vs, (∀ i ∈ places p, i ∈ vs) → L2.wipe σ' vs = L2.wipe σ vs) → Q σ' H
def liftG (K : PySem.W.Frag) (p : Pt) : TG := fun v σ H Q => ∃ d env S Qe, Rep K H d v ∧ RelE K H env σ ∧ StoOk K H S ∧ wpP p d S env Qe ∧ GK' K H p σ Qe Q
def liftGs (K : PySem.W.Frag) (p : Pt) : TGs := fun vs σ H Q => ∃ ds env S Qe, Reps K H ds vs ∧ RelE K H env σ ∧ StoOk K H S ∧ wpPs p ds S env Qe ∧ GK' K H p σ Qe Q
theorem _root_.L2.PG.weak {X : Cx} {tg : Expr} {t t' : TG} (h : PG X tg t) (w : ∀ v σ H Q, t' v σ H Q → t v σ H Q) : PG X tg t' := ⟨fun pins s σ H v u Q I r q => h.run pins s σ H v u Q I r (w v σ H Q q)⟩
theorem _root_.L2.PGs.weak {X : Cx} {tg : List Expr} {t t' : TGs} (h : PGs X tg t) (w : ∀ v σ H Q, t' v σ H Q → t v σ H Q) : PGs X tg t' := ⟨fun pins s σ H v u Q I r q => h.run pins s σ H v u Q I r (w v σ H Q q)⟩
theorem qg_name {i : Nat} {x : Str} (hN : X.N.Nodup) (hi : X.N[i]? = some x) (hx : Loc X.env.scope x) (hf : X.fn x = true ∨ X.env.scope.names.lookup x = some .local) : PG X (.Name x pos) (liftG X.K (.v i)) :=
  (pg_name hN hi hx hf).weak fun v σ H Q ⟨d, env, S, Qe, r, re, so, h, l⟩ => l _ _ h (re.set r) fun vs hv => wipe_set (hv i (by simp [places]))
theorem qgs_nil : PGs X [] (liftGs X.K .nil) := pgs_nil.weak fun v σ H Q ⟨ds, env, S, Qe, r, re, so, h, l⟩ => by
  cases ds with
  | nil => simp only [Reps] at r; exact ⟨r, l _ _ h re fun _ _ => rfl⟩
  | cons d ds => exact h.elim
theorem qgs_cons {es : List Expr} {p q : Pt} (h1 : PG X e (liftG X.K p)) (h2 : PGs X es (liftGs X.K q)) (hs : (assignEach (e :: es) X.env).map (·.2) = assign e X.env :: (assignEach es X.env).map (·.2)) : PGs X (e :: es) (liftGs X.K (.cons p q)) :=
  (pgs_cons h1 h2 hs).weak fun v σ H Q ⟨ds, env, S, Qe, r, re, so, h, l⟩ => by
    cases ds with
    | nil => exact h.elim
    | cons d ds =>
      simp only [Reps] at r
      obtain ⟨u, us, rfl, r1, r2⟩ := r
      refine ⟨u, us, rfl, d, env, S, _, r1, re, so, h, fun env' σ' h' re' w' => ⟨ds, env', S, Qe, r2, re', so, h', fun env2 σ2 h2 re2 w2 => l env2 σ2 h2 re2 fun vs hv => ?_⟩⟩
      rw [w2 vs fun i hi => hv i (by simp [places, hi]), w' vs fun i hi => hv i (by simp [places, hi])]
theorem qg_tup {es : List Expr} {k n : Nat} {p : Pt} (hc : X.calm = true) (h : PGs X es (liftGs X.K p)) (hn : (assignEach es X.env).length = n) (hst : (assignEach es X.env).findIdx? (·.1) = none) (hl : ∀ ds S env Qe, wpPs p ds S env Qe → ds.length = n) :
    PG X (.Tuple es k pos) (liftG X.K (.t p)) := by
  refine ⟨fun pins s σ H v u Q I r ⟨d, env, S, Qe, rd, re, so, hw, l⟩ => ?_⟩
  obtain ⟨ds, e1, hw⟩ := hw
  obtain ⟨a, vs, rfl, q, rs⟩ := seq_inv so rd e1
  have hlen : vs.length = n := by rw [← rs.length]; exact hl _ _ _ _ hw
  rcases q with q | q
  · exact (pg_unl (n := n) hc h hn hst).run pins s σ H _ u Q I r ⟨a, vs, rfl, q, hlen, ds, env, S, Qe, rs, re, so, hw, l⟩
  · exact (pg_tup (n := n) hc h hn hst).run pins s σ H _ u Q I r ⟨a, vs, rfl, q, hlen, ds, env, S, Qe, rs, re, so, hw, l⟩
end
end G57
set_option Elab.async false
set_option linter.all false
set_option maxRecDepth 100000
set_option maxHeartbeats 1000000
/-! zip over lists, tuples and texts, in any mix -/
namespace G57
open PySem L2 PySem.Spec PyProof.Rows
/-- what is walked -/
inductive Sr where
  | l (a : Addr) | t (a : Addr) | s (x : Str)
def Sr.rel : Sr → Value → Prop
  | .l a, v => v = .ref a
  | .t a, v => v = .ref a
  | .s x, v => ∃ t, v = .str x t
/-- its values -/
def Sr.at (K : PySem.W.Frag) (H : Hp) : Sr → List V → Prop
  | .l a, xs => SqL K H a xs
  | .t a, xs => SqT K H a xs
  | .s x, xs => xs = x.cps.toList.map fun c => V.str ⟨#[c]⟩
/-- its iterator, at the i-th item -/
def Sr.it (v : Value) : Sr → Addr → Nat → Heap → Prop
  | .l a, it, i, h => h.IsListIter it a i
  | .t a, it, i, h => h.IsTupleIter it a i
  | .s x, it, i, h => ∃ t, v = .str x t ∧ h.IsStrIter it (strIterType x) x t i
theorem Sr.it_at {v : Value} {r : Sr} {it : Addr} {i : Nat} {h h' : Heap} (x : r.it v it i h) (k : ∀ o, h.get? it = some o → h'.get? it = some o) : r.it v it i h' := by
  cases r with
  | l a => exact Heap.IsListIter.at x k
  | t a => exact Heap.IsTupleIter.at x k
  | s y =>
    obtain ⟨t, e, o, ho, q⟩ := x
    exact ⟨t, e, o, k o ho, q⟩
theorem Sr.it_obj {v : Value} {r : Sr} {it : Addr} {i : Nat} {h : Heap} (x : r.it v it i h) : ∃ o, h.get? it = some o ∧ ∀ v, o.data ≠ .cell v := by
  cases r with
  | l a => obtain ⟨o, e, _, d⟩ := x; exact ⟨o, e, fun v q => by rw [d] at q; cases q⟩
  | t a => obtain ⟨o, e, _, d⟩ := x; exact ⟨o, e, fun v q => by rw [d] at q; cases q⟩
  | s y => obtain ⟨t, _, o, e, _, d⟩ := x; exact ⟨o, e, fun v q => by rw [d] at q; cases q⟩
theorem Sr.inj {X : Cx} {pins : List (Addr × Obj)} {σ : L2.St} {H : Hp} {s : Shared} (I : Inv X pins σ H s) {r : Sr} {xs ys : List V} (h : r.at X.K H xs) (h' : r.at X.K H ys) : xs = ys := by
  cases r with
  | l a => exact I.list_inj h h'
  | t a => exact I.tuple_inj h h'
  | s y => exact h.trans h'.symm
/-- the iterator's draws, as things stand -/
theorem Sr.draws {X : Cx} {pins : List (Addr × Obj)} {σ : L2.St} {H : Hp} {s : Shared} (I : Inv X pins σ H s) (hc : X.calm = true) (A : Around) (hh : A.handled = none) {r : Sr} {xs : List V} (h : r.at X.K H xs) {v : Value} {it : Addr} {i : Nat} (hit : r.it v it i s.heap) (hn : H it = none) (hK : ∀ a, (r = .l a ∨ r = .t a) → a ≠ it) :
    ∃ fp P St, Draws X.prog X.w A it fp xs.length P St ∧ it ∈ fp ∧ (∀ b ∈ fp, b = it ∨ r = .l b ∨ r = .t b) ∧ St i s.heap ∧ (∀ j h, St j h → r.it v it j h) ∧ ∀ j u, P j u → ∃ x, xs[j]? = some x ∧ RelV x u := by
  cases r with
  | l a =>
    obtain ⟨its, rv, p, _⟩ := I.list h
    have D := Draws.list (prog := X.prog) (w := X.w) hh it a (hK a (.inl rfl)) its.toArray
    rw [List.size_toArray, ← rv.length] at D
    refine ⟨_, _, _, D, by simp, fun b hb => ?_, ⟨hit, p.isList⟩, fun j h st => st.1, fun j u hu => ?_⟩
    · rcases List.mem_cons.mp hb with e | hb
      · exact .inl e
      · exact .inr (.inl (by rw [List.mem_singleton.mp hb]))
    · have hu' : its[j]? = some u := by simpa using hu
      have hj : j < xs.length := by
        rw [rv.length]
        by_cases z : j < its.length
        · exact z
        · rw [List.getElem?_eq_none (by omega)] at hu'; cases hu'
      obtain ⟨u2, e2, r2⟩ := rv.get (List.getElem?_eq_getElem hj)
      rw [hu'] at e2; cases e2
      exact ⟨_, List.getElem?_eq_getElem hj, r2⟩
  | t a =>
    obtain ⟨its, rv, p, _⟩ := I.tuple h
    have D := Draws.tuple (prog := X.prog) (w := X.w) hh it a (hK a (.inr rfl)) its.toArray
    rw [List.size_toArray, ← rv.length] at D
    refine ⟨_, _, _, D, by simp, fun b hb => ?_, ⟨hit, p⟩, fun j h st => st.1, fun j u hu => ?_⟩
    · rcases List.mem_cons.mp hb with e | hb
      · exact .inl e
      · exact .inr (.inr (by rw [List.mem_singleton.mp hb]))
    · have hu' : its[j]? = some u := by simpa using hu
      have hj : j < xs.length := by
        rw [rv.length]
        by_cases z : j < its.length
        · exact z
        · rw [List.getElem?_eq_none (by omega)] at hu'; cases hu'
      obtain ⟨u2, e2, r2⟩ := rv.get (List.getElem?_eq_getElem hj)
      rw [hu'] at e2; cases e2
      exact ⟨_, List.getElem?_eq_getElem hj, r2⟩
  | s y =>
    obtain ⟨t, ev, hs⟩ := hit
    have e : xs = y.cps.toList.map fun c => V.str ⟨#[c]⟩ := h
    subst e
    have D := Draws.text (prog := X.prog) (w := X.w) hh it y t
    rw [show y.cps.size = (y.cps.toList.map fun c => V.str ⟨#[c]⟩).length by simp] at D
    refine ⟨_, _, _, D, by simp, fun b hb => .inl (by simpa using hb), hs, fun j h st => ⟨t, ev, st⟩, fun j u hu => ?_⟩
    obtain ⟨c, u', e1, rfl⟩ := hu
    refine ⟨.str ⟨#[c]⟩, ?_, ⟨u', rfl⟩⟩
    rw [List.getElem?_map]
    have : y.cps.toList[j]? = some c := by simpa using e1
    rw [this]; rfl
/-- the turns of zip -/
def ItZ (K : PySem.W.Frag) (r q : Sr) : It :=
  ⟨fun i H => ∃ (xs ys : List V) (x y : V), r.at K H xs ∧ q.at K H ys ∧ xs[i]? = some x ∧ ys[i]? = some y,
    fun i H v H' => ∃ T x y, v = .ref T ∧ H T = none ∧ H' = upd H T (.tup [x, y]) ∧ (∀ xs, r.at K H xs → xs[i]? = some x) ∧ ∀ ys, q.at K H ys → ys[i]? = some y,
    fun i H => ∃ xs ys : List V, r.at K H xs ∧ q.at K H ys ∧ i = min xs.length ys.length⟩
structure Apart (z TI TO i1 i2 : Addr) (r q : Sr) : Prop where
  nd : [z, TI, TO, i1, i2].Nodup
  far : ∀ a, (r = .l a ∨ r = .t a ∨ q = .l a ∨ q = .t a) → a ∉ [z, TI, TO, i1, i2]
theorem Apart.sep {z TI TO i1 i2 : Addr} {r q : Sr} (D : Apart z TI TO i1 i2 r q) {f1 f2 : List Addr} (m1 : i1 ∈ f1) (m2 : i2 ∈ f2) (h1 : ∀ b ∈ f1, b = i1 ∨ r = .l b ∨ r = .t b) (h2 : ∀ b ∈ f2, b = i2 ∨ q = .l b ∨ q = .t b) : ZipSep2 z TI TO i1 i2 f1 f2 := by
  have nd := D.nd
  simp only [List.nodup_cons, List.mem_cons, List.mem_nil_iff, or_false, not_or, List.nodup_nil, and_true, not_false_eq_true] at nd
  obtain ⟨⟨n1, n2, n3, n4⟩, ⟨n5, n6, n7⟩, ⟨n8, n9⟩, n10⟩ := nd
  have g1 : ∀ c, c ∈ [z, TI, TO, i1, i2] → c ≠ i1 → c ∉ f1 := fun c hc hne hm => by
    rcases h1 c hm with e | e | e
    · exact hne e
    · exact D.far c (.inl e) hc
    · exact D.far c (.inr (.inl e)) hc
  have g2 : ∀ c, c ∈ [z, TI, TO, i1, i2] → c ≠ i2 → c ∉ f2 := fun c hc hne hm => by
    rcases h2 c hm with e | e | e
    · exact hne e
    · exact D.far c (.inr (.inr (.inl e))) hc
    · exact D.far c (.inr (.inr (.inr e))) hc
  exact ⟨fun e => n1 e.symm, fun e => n2 e.symm, n5, n6, m1, g1 z (by simp) n3, g1 TO (by simp) n8, n7, m2, g2 z (by simp) n4, g2 TO (by simp) n9, g2 i1 (by simp) n10, g1 i2 (by simp) fun e => n10 e.symm⟩
theorem turn_z {P : Program} {w : World} {K : PySem.W.Frag} {elts : List Expr} {kk : Nat} {tpos : Pos} {z TI TO i1 i2 : Addr} {r q : Sr} {v1 v2 : Value} (D : Apart z TI TO i1 i2 r q) :
    Turn P w K (.Tuple elts kk tpos) (ItZ K r q) [z, TI, TO, i1, i2] z (fun i h => IsZip h z TI TO .none ∧ IsTupOf2 h TI (.ref i1) (.ref i2) ∧ (∃ x y, IsTupOf2 h TO x y) ∧ r.it v1 i1 i h ∧ q.it v2 i2 i h) where
  mem := by simp
  obj := fun i h st c hc => by
    obtain ⟨hz, hTI, ⟨x, y, hTO⟩, h1, h2⟩ := st
    simp only [List.mem_cons, List.mem_nil_iff, or_false] at hc
    rcases hc with rfl | rfl | rfl | rfl | rfl
    · exact ⟨_, hz, fun v q => nomatch q⟩
    · exact ⟨_, hTI, fun v q => nomatch q⟩
    · exact ⟨_, hTO, fun v q => nomatch q⟩
    · exact Sr.it_obj h1
    · exact Sr.it_obj h2
  keep := fun i h h' st k => by
    obtain ⟨hz, hTI, ⟨x, y, hTO⟩, h1, h2⟩ := st
    exact ⟨k z (by simp) _ hz, k TI (by simp) _ hTI, ⟨x, y, k TO (by simp) _ hTO⟩, Sr.it_at h1 fun o q => k i1 (by simp) o q, Sr.it_at h2 fun o q => k i2 (by simp) o q⟩
  item := by
    intro X hP hw hK hc i pins s σ H E I hf st hg
    subst hP hw hK
    obtain ⟨hz, hTI, hTO, h1, h2⟩ := st
    obtain ⟨xs, ys, x, y, hqx, hqy, hx, hy⟩ := hg
    have hh : X.A.in1.handled = none := I.ok.hd hc
    obtain ⟨f1, P1, St1, D1, m1, sb1, st1, bk1, pr1⟩ := Sr.draws I hc X.A.in1 hh hqx h1 (hf i1 (by simp)).1 fun a ha e => D.far a (by rcases ha with z | z; exact .inl z; exact .inr (.inl z)) (by rw [e]; simp)
    obtain ⟨f2, P2, St2, D2, m2, sb2, st2, bk2, pr2⟩ := Sr.draws I hc X.A.in1 hh hqy h2 (hf i2 (by simp)).1 fun a ha e => D.far a (by rcases ha with z | z; exact .inr (.inr (.inl z)); exact .inr (.inr (.inr z))) (by rw [e]; simp)
    have W := WalksT.zipD2 (D.sep m1 m2 sb1 sb2) D1 D2
    have lx : i < xs.length := (List.getElem?_eq_some_iff.mp hx).1
    have ly : i < ys.length := (List.getElem?_eq_some_iff.mp hy).1
    refine W.item i s _ E (by omega) ⟨hz, hTI, hTO, st1, st2⟩ fun T vals h' tk pv hT isT mid kp => ?_
    obtain ⟨u1, u2, p1, p2, rfl⟩ := pv
    obtain ⟨x', ex, rx⟩ := pr1 i u1 p1
    obtain ⟨y', ey, ry⟩ := pr2 i u2 p2
    rw [hx] at ex; cases ex
    rw [hy] at ey; cases ey
    refine ⟨_, rfl, W.go elts kk tpos i T _ _ E mid fun h'' st' kp' => ?_⟩
    obtain ⟨z1, z2, z3, z4, z5⟩ := st'
    have nT : T ∉ [z, TO, i1, i2] := W.apart i T h' mid
    have isT2 : h''.IsTuple T #[u1, u2] := isT.at fun o e => kp' T o nT e
    have sub4 : ∀ c, c ∉ [z, TI, TO, i1, i2] → c ∉ [z, TO, i1, i2] := fun c hc hm => hc (by
      simp only [List.mem_cons, List.mem_nil_iff, or_false] at hm ⊢
      rcases hm with e | e | e | e
      · exact .inl e
      · exact .inr (.inr (.inl e))
      · exact .inr (.inr (.inr (.inl e)))
      · exact .inr (.inr (.inr (.inr e))))
    have new : ObjOk X.prog X.w (upd H T (.tup [x, y])) h'' T (.tup [x, y]) := ⟨by show 2 ≤ sizeLine; decide, [u1, u2], .cons rx (.cons ry .nil), isT2⟩
    have I1 : Inv X pins σ (upd H T (.tup [x, y])) { s with heap := h'', toks := tk } := I.turnedNew (ch := [z, TI, TO, i1, i2]) (fun c o hb e => kp' c o (sub4 c hb) (kp c o (sub4 c hb) e)) hf hT new
    refine ⟨.ref T, _, I1, rfl, ⟨T, x, y, rfl, I.hok.fresh hT, rfl, fun l hl => by rw [Sr.inj I hl hqx]; exact hx, fun l hl => by rw [Sr.inj I hl hqy]; exact hy⟩, ⟨z1, z2, z3, bk1 _ _ z4, bk2 _ _ z5⟩, fun c hcm => ?_⟩
    have hlt : c < s.heap.objs.size := by
      simp only [List.mem_cons, List.mem_nil_iff, or_false] at hcm
      obtain ⟨o1, e1, _⟩ := Sr.it_obj h1
      obtain ⟨o2, e2, _⟩ := Sr.it_obj h2
      obtain ⟨a1, a2, hTO⟩ := hTO
      rcases hcm with rfl | rfl | rfl | rfl | rfl
      · exact Heap.lt_size hz
      · exact Heap.lt_size hTI
      · exact Heap.lt_size hTO
      · exact Heap.lt_size e1
      · exact Heap.lt_size e2
    rw [upd_ne (Nat.ne_of_lt (Nat.lt_of_lt_of_le hlt hT))]
    exact (hf c hcm).1
  done := by
    intro X hP hw hK hc i pins s σ H E I hf st hg
    subst hP hw hK
    obtain ⟨hz, hTI, hTO, h1, h2⟩ := st
    obtain ⟨xs, ys, hqx, hqy, hend⟩ := hg
    have hh : X.A.in1.handled = none := I.ok.hd hc
    obtain ⟨f1, P1, St1, D1, m1, sb1, st1, bk1, pr1⟩ := Sr.draws I hc X.A.in1 hh hqx h1 (hf i1 (by simp)).1 fun a ha e => D.far a (by rcases ha with z | z; exact .inl z; exact .inr (.inl z)) (by rw [e]; simp)
    obtain ⟨f2, P2, St2, D2, m2, sb2, st2, bk2, pr2⟩ := Sr.draws I hc X.A.in1 hh hqy h2 (hf i2 (by simp)).1 fun a ha e => D.far a (by rcases ha with z | z; exact .inr (.inr (.inl z)); exact .inr (.inr (.inr z))) (by rw [e]; simp)
    have W := WalksT.zipD2 (D.sep m1 m2 sb1 sb2) D1 D2
    rw [hend] at st1 st2
    refine W.done s _ E ⟨hz, hTI, hTO, st1, st2⟩ fun h' tk kp => ⟨rfl, ?_⟩
    have sub4 : ∀ c, c ∉ [z, TI, TO, i1, i2] → c ∉ [z, TO, i1, i2] := fun c hc hm => hc (by
      simp only [List.mem_cons, List.mem_nil_iff, or_false] at hm ⊢
      rcases hm with e | e | e | e
      · exact .inl e
      · exact .inr (.inr (.inl e))
      · exact .inr (.inr (.inr (.inl e)))
      · exact .inr (.inr (.inr (.inr e))))
    exact I.turnedL (ch := [z, TI, TO, i1, i2]) (fun c o hb e => kp c o (sub4 c hb) e) hf
  self := fun A i s Q E st h => wpAny_pyIter_zip st.1 h
theorem Sr.begins {X : Cx} {pins : List (Addr × Obj)} {σ : L2.St} {H : Hp} {s : Shared} (I : Inv X pins σ H s) {r : Sr} {v : Value} {xs : List V} (hv : r.rel v) (h : r.at X.K H xs) :
    ∃ o Hb, Begins v o Hb ∧ Hb s.heap ∧ (∀ h' it, h'.get? it = some o → r.it v it 0 h') ∧ ∀ a, (r = .l a ∨ r = .t a) → a < s.heap.objs.size := by
  cases r with
  | l a =>
    obtain rfl : v = .ref a := hv
    obtain ⟨its, rv, p, _⟩ := I.list h
    exact ⟨_, _, begins_list a its.toArray, p.isList, fun h' it e => ⟨_, e, rfl, rfl⟩, fun b hb => by rcases hb with e | e <;> cases e; exact p.lt⟩
  | t a =>
    obtain rfl : v = .ref a := hv
    obtain ⟨its, rv, p, _⟩ := I.tuple h
    exact ⟨_, _, begins_tuple a its.toArray, p, fun h' it e => ⟨_, e, rfl, rfl⟩, fun b hb => by rcases hb with e | e <;> cases e; exact IsTup.lt p⟩
  | s x =>
    obtain ⟨t, rfl⟩ : ∃ t, v = .str x t := hv
    exact ⟨_, _, begins_text x t, trivial, fun h' it e => ⟨t, rfl, _, e, rfl, rfl⟩, fun b hb => by rcases hb with e | e <;> cases e⟩
theorem src_of {K : PySem.W.Frag} {H : Hp} {S : Sto} (so : StoOk K H S) {d : D} {x : V} {u : Value} {ds : List D} {G : Sto → Prop} (r : Rep K H d x) (ru : RelV x u) (h : srcD S d = some (ds, G)) :
    ∃ q : Sr, q.rel u ∧ G S ∧ ∀ H' S', Keep H H' → StoOk K H' S' → G S' → ∃ xs, q.at K H' xs ∧ Reps K H' ds xs := by
  cases d <;> simp only [srcD] at h <;> try cases h
  case tup =>
    obtain ⟨a, vs, rfl, q, rs⟩ := r.tup_inv
    exact ⟨.t a, ru, trivial, fun H' S' k _ _ => ⟨vs, k.sqt q, rs.mono k⟩⟩
  case rol =>
    obtain ⟨a, vs, rfl, q, rs⟩ := r.rol_inv
    exact ⟨.l a, ru, trivial, fun H' S' k _ _ => ⟨vs, (k.sqf q).sq, rs.mono k⟩⟩
  case str z =>
    simp only [Rep] at r
    subst r
    refine ⟨.s ⟨z.toArray⟩, ru, trivial, fun H' S' k _ _ => ⟨_, rfl, ?_⟩⟩
    show Reps K H' _ (z.map _)
    clear ru
    induction z with
    | nil => exact .nil
    | cons c z ih => exact .cons (by simp only [Rep]) ih
  case ref p =>
    simp only [Rep] at r
    subst r
    cases e : S p with
    | none => rw [e] at h; cases h
    | some o =>
      cases o with
      | lst es =>
        rw [e] at h
        cases h
        exact ⟨.l p, ru, e, fun H' S' k s' g => lst_at s' g⟩
theorem drv_z {K : PySem.W.Frag} {H0 : Hp} {r q : Sr} {xs ys : List D} {G1 G2 : Sto → Prop} (h1 : ∀ H' S', Keep H0 H' → StoOk K H' S' → G1 S' → ∃ vs, r.at K H' vs ∧ Reps K H' xs vs) (h2 : ∀ H' S', Keep H0 H' → StoOk K H' S' → G2 S' → ∃ vs, q.at K H' vs ∧ Reps K H' ys vs) :
    Drv K H0 (ItZ K r q) (zipD xs ys) (fun S => G1 S ∧ G2 S) := fun H S i k so g => by
  obtain ⟨us, q1, r1⟩ := h1 H S k so g.1
  obtain ⟨vs, q2, r2⟩ := h2 H S k so g.2
  refine ⟨fun d e => ?_, fun e => ⟨us, vs, q1, q2, by rw [e, zip_len, r1.length, r2.length]⟩⟩
  obtain ⟨x, y, e1, e2, rfl⟩ := zip_get e
  obtain ⟨u, f1, g1⟩ := r1.get e1
  obtain ⟨v, f2, g2⟩ := r2.get e2
  refine ⟨⟨us, vs, u, v, q1, q2, f1, f2⟩, fun w H' z => ?_⟩
  obtain ⟨T, x1, y1, rfl, hT, rfl, z1, z2⟩ := z
  have z1 := z1 us q1
  have z2 := z2 vs q2
  rw [f1] at z1; rw [f2] at z2
  cases z1; cases z2
  exact pair_new so g1 g2 hT
theorem qi_Z2 {X : Cx} {pos p tp : Pos} {a b : Expr} {ta tb : TD} {elts : List Expr} {kk : Nat} (hg : Gl X "zip") (hm : X.mg "zip" = none) (ha : QE X a ta) (hb : QE X b tb) (hs : starEach [a, b] X.env = (false, eval a X.env) :: starEach [b] X.env) (hs2 : starEach [b] X.env = [(false, eval b X.env)]) :
    QI X (.Tuple elts kk tp) (.Call (.Name "zip" p) [a, b] [] pos) (fun env S K => ta env S fun x S1 => tb env S1 fun y S2 => zipsD x y S2 K) := by
  refine ⟨fun pins s σ H R I ⟨env, S, Kd, re, so, h, l⟩ => ?_⟩
  have hA := args2 ha hb hs hs2
  refine Call_ (ld_blt I hg hm PyProof.Rows.boot_zip (PyProof.Rows.callWith_type1 (thn (hA.run pos pins s σ H (fun vs H1 => ∃ x y S1 u v, vs = [u, v] ∧ zipsD x y S1 Kd ∧ Keep H H1 ∧ Rep X.K H1 x u ∧ Rep X.K H1 y v ∧ StoOk X.K H1 S1) I
    ⟨env, S, on2 fun x y S1 => zipsD x y S1 Kd, re, so, h, fun ds S1 vs H1 h1 k1 r1 s1 => ?_⟩) fun us s1 ⟨vs, H1, I1, rv, q⟩ => ?_) hs (by rw [hs2]; rfl)))
  · obtain ⟨x, y, rfl, z1⟩ := on2_inv h1
    simp only [Reps] at r1
    obtain ⟨u, _, rfl, ru, v, _, rfl, rv, rfl⟩ := r1
    exact ⟨x, y, S1, u, v, rfl, z1, k1, ru, rv, s1⟩
  · obtain ⟨x, y, S1, u, v, rfl, ⟨xs, G, ys, G', e1, e2, hK⟩, k1, rx, ry, so1⟩ := q
    obtain ⟨u1, u2, rfl, t1, t2⟩ : ∃ u1 u2, us = [u1, u2] ∧ RelV u u1 ∧ RelV v u2 := by
      cases rv with
      | cons p1 rr => cases rr with
        | cons p2 rr => cases rr; exact ⟨_, _, rfl, p1, p2⟩
    · obtain ⟨r, hr, g1, at1⟩ := src_of so1 rx t1 e1
      obtain ⟨q, hq, g2, at2⟩ := src_of so1 ry t2 e2
      obtain ⟨as, a1, _⟩ := at1 H1 S1 .refl so1 g1
      obtain ⟨bs, a2, _⟩ := at2 H1 S1 .refl so1 g2
      obtain ⟨o1, Hb1, B1, b1, it1, lt1⟩ := Sr.begins I1 hr a1
      obtain ⟨o2, Hb2, B2, b2, it2, lt2⟩ := Sr.begins I1 hq a2
      have ge : ∀ c, c ∈ [s1.heap.objs.size + 4, s1.heap.objs.size + 2, s1.heap.objs.size + 3, s1.heap.objs.size, s1.heap.objs.size + 1] → s1.heap.objs.size ≤ c := fun c hcm => by
        simp only [List.mem_cons, List.mem_nil_iff, or_false] at hcm
        rcases hcm with z | z | z | z | z <;> rw [z] <;> first | exact Nat.le_add_right _ _ | exact Nat.le_refl _
      refine zip_begins2 B1 B2 b1 b2 fun h' hz hTI hTO f1 f2 hsz hk => wpAny_pyIter_zip hz ?_
      have I2 : Inv X pins σ H1 { s1 with heap := h' } := I1.kept (t' := s1.toks) hk
      have D : Apart (s1.heap.objs.size + 4) (s1.heap.objs.size + 2) (s1.heap.objs.size + 3) s1.heap.objs.size (s1.heap.objs.size + 1) r q := by
        refine ⟨?_, fun c hc hm => ?_⟩
        · have far5 : ∀ n : Nat, [n + 4, n + 2, n + 3, n, n + 1].Nodup := fun n => by simp
          exact far5 _
        · have hlt : c < s1.heap.objs.size := by
            rcases hc with e | e | e | e
            · exact lt1 c (.inl e)
            · exact lt1 c (.inr e)
            · exact lt2 c (.inl e)
            · exact lt2 c (.inr e)
          exact absurd (Nat.lt_of_lt_of_le hlt (ge c hm)) (Nat.lt_irrefl _)
      exact ⟨s1.heap.objs.size + 4, _, _, _, H1, rfl, I2, turn_z (v1 := u1) (v2 := u2) D, ⟨hz, hTI, ⟨_, _, hTO⟩, it1 _ _ f1, it2 _ _ f2⟩, fun c hcm => I1.fpOk (ge c hcm) (I1.hok.fresh (ge c hcm)), l _ _ S1 _ H1 hK k1 so1 ⟨g1, g2⟩ (drv_z at1 at2)⟩
/-! enumerate, over the same -/
theorem meets_enum1 {v : Value} {o : Obj} {Hb : Heap → Prop} (B : Begins v o Hb) :
    Meets (Builtin.«enumerate.__new__» ⟨[.type "enumerate", v], []⟩) (fun _ R s => Hb s.heap ∧
      R (.ok (.ret (.ref (s.heap.push o).objs.size))) { s with heap := (s.heap.push o).push { cls := .type "enumerate", data := .fields #[.none, .bool false, .ref s.heap.objs.size, rawInt 0, .none, .none] } }) :=
  .of_wp fun prog w A R s h => by
    obtain ⟨hp, g, d, tk, os⟩ := s
    obtain ⟨h1, h⟩ := h
    have hsub := sub_enumerate
    have q1 : ∀ {A' : Around} {E : Value → Shared → Prop} {Q : Value → Shared → Prop}, Q (.ref hp.objs.size) ⟨hp.push o, g, d, tk, os⟩ →
        wpAny (model prog w) A' (pyIter v) Q E ⟨hp, g, d, tk, os⟩ := fun q => B.iter prog w _ _ ⟨hp, g, d, tk, os⟩ _ h1 q
    wp_walk using q1
    refine wpAny_stack_any fun st => wpAny_pure ?_
    split
    · rename_i c _ _ _ _ _
      cases (c == Value.type "enumerate")
      · wp_walk using q1
        exact ⟨_, rfl, h⟩
      · wp_walk using q1
        exact ⟨_, rfl, h⟩
    · wp_walk using q1
      exact ⟨_, rfl, h⟩
theorem enum_begins1 {prog : Program} {w : World} {A : Around} {E : Value → Shared → Prop} {s : Shared} {v : Value} {o : Obj} {Hb : Heap → Prop} {Q : Value → Shared → Prop} (B : Begins v o Hb) (h1 : Hb s.heap)
    (h : ∀ h', IsEnum h' (s.heap.objs.size + 1) s.heap.objs.size 0 .none → h'.get? s.heap.objs.size = some o → (∀ b o, s.heap.get? b = some o → h'.get? b = some o) → Q (.ref (s.heap.objs.size + 1)) { s with heap := h' }) :
    wpAny (model prog w) A (call (.type "enumerate") [v]) Q E s := by
  refine callType_new F.called_enumerate (by decide) (F.typeCall_enumerate_1 _) (F.newCall_enumerate_1 _) (fun obj => F.args_object_init_2 obj _) F.entry_enumerate_new (meets_enum1 B) ⟨h1, ?_⟩
  have hz : (s.heap.push o).objs.size = s.heap.objs.size + 1 := Heap.size_push ..
  show _ ∧ _
  rw [hz]
  have he : IsEnum ((s.heap.push o).push { cls := .type "enumerate", data := .fields #[.none, .bool false, .ref s.heap.objs.size, rawInt 0, .none, .none] }) (s.heap.objs.size + 1) s.heap.objs.size 0 .none := by
    have z := Heap.get?_push_size (s.heap.push o) (o := { cls := .type "enumerate", data := .fields #[.none, .bool false, .ref s.heap.objs.size, rawInt 0, .none, .none] }) rfl
    rw [hz] at z
    exact z
  exact ⟨⟨_, he, rfl⟩, h _ he (Heap.get?_push_of_some _ (Heap.get?_push_size _ B.free)) fun b o x => Heap.get?_push_of_some _ (Heap.get?_push_of_some _ x)⟩
def ItN (K : PySem.W.Frag) (r : Sr) : It :=
  ⟨fun i H => ∃ (xs : List V) (x : V), r.at K H xs ∧ xs[i]? = some x,
    fun i H v H' => ∃ T x, v = .ref T ∧ H T = none ∧ H' = upd H T (.tup [.int (i : Nat), x]) ∧ ∀ xs, r.at K H xs → xs[i]? = some x,
    fun i H => ∃ xs : List V, r.at K H xs ∧ i = xs.length⟩
theorem turn_n {P : Program} {w : World} {K : PySem.W.Frag} {elts : List Expr} {kk : Nat} {tpos : Pos} {e it : Addr} {r : Sr} {v : Value} (ne : e ≠ it) (far : ∀ a, (r = .l a ∨ r = .t a) → a ≠ e ∧ a ≠ it) :
    Turn P w K (.Tuple elts kk tpos) (ItN K r) [e, it] e (fun i h => (∃ old, IsEnum h e it (0 + (i : Int)) old) ∧ r.it v it i h) where
  mem := by simp
  obj := fun i h st c hc => by
    obtain ⟨⟨old, he⟩, h1⟩ := st
    simp only [List.mem_cons, List.mem_nil_iff, or_false] at hc
    rcases hc with rfl | rfl
    · exact ⟨_, he, fun v q => nomatch q⟩
    · exact Sr.it_obj h1
  keep := fun i h h' st k => by
    obtain ⟨⟨old, he⟩, h1⟩ := st
    exact ⟨⟨old, k e (by simp) _ he⟩, Sr.it_at h1 fun o q => k it (by simp) o q⟩
  item := by
    intro X hP hw hK hc i pins s σ H E I hf st hg
    subst hP hw hK
    obtain ⟨he, h1⟩ := st
    obtain ⟨xs, x, hqx, hx⟩ := hg
    obtain ⟨f1, P1, St1, D1, m1, sb1, st1, bk1, pr1⟩ := Sr.draws I hc X.A.in1 (I.ok.hd hc) hqx h1 (hf it (by simp)).1 fun a ha => (far a ha).2
    have W := WalksT.enumFrom 0 D1 e ne (fun hm => by
      rcases sb1 e hm with z | z | z
      · exact ne z
      · exact (far e (.inl z)).1 rfl
      · exact (far e (.inr z)).1 rfl) m1
    refine W.item i s _ E (List.getElem?_eq_some_iff.mp hx).1 ⟨he, st1⟩ fun T vals h' tk pv hT isT mid kp => ?_
    obtain ⟨tt, u1, p1, rfl⟩ := pv
    obtain ⟨x', ex, rx⟩ := pr1 i u1 p1
    rw [hx] at ex; cases ex
    refine ⟨_, rfl, W.go elts kk tpos i T _ _ E mid fun h'' st' kp' => ?_⟩
    obtain ⟨z1, z2⟩ := st'
    have isT2 : h''.IsTuple T #[.int (0 + (i : Int)) tt, u1] := isT.at fun o e => kp' T o (W.apart i T h' mid) e
    have new : ObjOk X.prog X.w (upd H T (.tup [.int (i : Nat), x])) h'' T (.tup [.int (i : Nat), x]) :=
      ⟨by show 2 ≤ sizeLine; decide, [_, u1], .cons ⟨tt, by rw [Int.zero_add]⟩ (.cons rx .nil), isT2⟩
    have I1 : Inv X pins σ (upd H T (.tup [.int (i : Nat), x])) { s with heap := h'', toks := tk } := I.turnedNew (ch := [e, it]) (fun c o hb e => kp' c o hb (kp c o hb e)) hf hT new
    refine ⟨.ref T, _, I1, rfl, ⟨T, x, rfl, I.hok.fresh hT, rfl, fun l hl => by rw [Sr.inj I hl hqx]; exact hx⟩, ⟨z1, bk1 _ _ z2⟩, fun c hcm => ?_⟩
    have hlt : c < s.heap.objs.size := by
      simp only [List.mem_cons, List.mem_nil_iff, or_false] at hcm
      obtain ⟨o1, e1, _⟩ := Sr.it_obj h1
      obtain ⟨old, he⟩ := he
      rcases hcm with rfl | rfl
      · exact Heap.lt_size he
      · exact Heap.lt_size e1
    rw [upd_ne (Nat.ne_of_lt (Nat.lt_of_lt_of_le hlt hT))]
    exact (hf c hcm).1
  done := by
    intro X hP hw hK hc i pins s σ H E I hf st hg
    subst hP hw hK
    obtain ⟨he, h1⟩ := st
    obtain ⟨xs, hqx, hend⟩ := hg
    obtain ⟨f1, P1, St1, D1, m1, sb1, st1, bk1, pr1⟩ := Sr.draws I hc X.A.in1 (I.ok.hd hc) hqx h1 (hf it (by simp)).1 fun a ha => (far a ha).2
    have W := WalksT.enumFrom 0 D1 e ne (fun hm => by
      rcases sb1 e hm with z | z | z
      · exact ne z
      · exact (far e (.inl z)).1 rfl
      · exact (far e (.inr z)).1 rfl) m1
    rw [hend] at st1 he
    exact W.done s _ E ⟨he, st1⟩ fun h' tk kp => ⟨rfl, I.turnedL (ch := [e, it]) (fun c o hb e => kp c o hb e) hf⟩
  self := fun A i s Q E st h => by
    obtain ⟨⟨old, he⟩, _⟩ := st
    exact wpAny_pyIter_enum he h
theorem drv_n {K : PySem.W.Frag} {H0 : Hp} {r : Sr} {xs : List D} {G : Sto → Prop} (h1 : ∀ H' S', Keep H0 H' → StoOk K H' S' → G S' → ∃ vs, r.at K H' vs ∧ Reps K H' xs vs) : Drv K H0 (ItN K r) (enumD 0 xs) G := fun H S i k so g => by
  obtain ⟨us, q, r1⟩ := h1 H S k so g
  refine ⟨fun d e => ?_, fun e => ⟨us, q, by rw [e, enum_len, r1.length]⟩⟩
  obtain ⟨x, e1, rfl⟩ := enum_get e
  obtain ⟨u, f1, g1⟩ := r1.get e1
  refine ⟨⟨us, u, q, f1⟩, fun w H' z => ?_⟩
  obtain ⟨T, x1, rfl, hT, rfl, z1⟩ := z
  have z1 := z1 us q
  rw [f1] at z1; cases z1
  rw [Nat.zero_add]
  exact pair_new so .int g1 hT
theorem qi_N2 {X : Cx} {pos p tp : Pos} {a : Expr} {ta : TD} {elts : List Expr} {kk : Nat} (hg : Gl X "enumerate") (hm : X.mg "enumerate" = none) (ha : QE X a ta) (hs : starEach [a] X.env = [(false, eval a X.env)]) :
    QI X (.Tuple elts kk tp) (.Call (.Name "enumerate" p) [a] [] pos) (fun env S K => ta env S fun x S1 => enumedD x S1 K) := by
  refine ⟨fun pins s σ H R I ⟨env, S, Kd, re, so, h, l⟩ => ?_⟩
  have hA := args1 ha hs
  refine Call_ (ld_blt I hg hm boot_enumerate (PyProof.Rows.callWith_type1 (thn (hA.run pos pins s σ H (fun vs H1 => ∃ x S1 u, vs = [u] ∧ enumedD x S1 Kd ∧ Keep H H1 ∧ Rep X.K H1 x u ∧ StoOk X.K H1 S1) I
    ⟨env, S, on1 fun x S1 => enumedD x S1 Kd, re, so, h, fun ds S1 vs H1 h1 k1 r1 s1 => ?_⟩) fun us s1 ⟨vs, H1, I1, rv, q⟩ => ?_) hs rfl))
  · obtain ⟨x, rfl, z1⟩ := on1_inv h1
    simp only [Reps] at r1
    obtain ⟨u, _, rfl, ru, rfl⟩ := r1
    exact ⟨x, S1, u, rfl, z1, k1, ru, s1⟩
  · obtain ⟨x, S1, u, rfl, ⟨xs, G, e1, hK⟩, k1, rx, so1⟩ := q
    obtain ⟨u1, rfl, t1⟩ : ∃ u1, us = [u1] ∧ RelV u u1 := by
      cases rv with
      | cons p1 rr => cases rr; exact ⟨_, rfl, p1⟩
    obtain ⟨r, hr, g1, at1⟩ := src_of so1 rx t1 e1
    obtain ⟨as, a1, _⟩ := at1 H1 S1 .refl so1 g1
    obtain ⟨o1, Hb1, B1, b1, it1, lt1⟩ := Sr.begins I1 hr a1
    refine enum_begins1 B1 b1 fun h' he f1 hk => wpAny_pyIter_enum he ?_
    have I2 : Inv X pins σ H1 { s1 with heap := h' } := I1.kept (t' := s1.toks) hk
    have ge : ∀ c, c ∈ [s1.heap.objs.size + 1, s1.heap.objs.size] → s1.heap.objs.size ≤ c := fun c hcm => by
      simp only [List.mem_cons, List.mem_nil_iff, or_false] at hcm
      rcases hcm with z | z <;> rw [z] <;> first | exact Nat.le_add_right _ _ | exact Nat.le_refl _
    exact ⟨s1.heap.objs.size + 1, _, _, _, H1, rfl, I2, turn_n (v := u1) (e := s1.heap.objs.size + 1) (it := s1.heap.objs.size) (Nat.succ_ne_self _) (fun c hc => ⟨Nat.ne_of_lt (Nat.lt_succ_of_lt (lt1 c hc)), Nat.ne_of_lt (lt1 c hc)⟩), ⟨⟨.none, by simpa using he⟩, it1 _ _ f1⟩,
      fun c hcm => I1.fpOk (ge c hcm) (I1.hok.fresh (ge c hcm)), l _ _ S1 _ H1 hK k1 so1 g1 (drv_n at1)⟩
end G57
set_option Elab.async false
set_option linter.all false
set_option maxRecDepth 100000
set_option maxHeartbeats 400000
namespace G57
open PySem L2 PySem.Spec PyProof.Rows
section
variable {X : Cx} {pos : Pos} {tg it e : Expr} {te : TD} {tA : TBD} {ti : TID} {p : Pt}
/-! ### comprehensions -/
theorem lc_read {K : PySem.W.Frag} {vs : List Nat} (hp : ∀ i ∈ places p, i ∈ vs) (σ : L2.St) (H : Hp) (Q : VK)
    (h : liftE K (fun env S Q => ti env S fun xs G S1 => ∀ a, S1 a = none → G (put S1 a (.lst [])) ∧ lcRun a G (fun x S2 k => wpP p x S2 (wipeD env vs) fun env2 => tA env2 S2 fun t S3 =>
      if t = true then te env2 S3 fun y S4 => k (some y) S4 else k none S3) (fun S' => Q (.ref a) S') xs [] (put S1 a (.lst []))) σ H Q) :
    tLc (liftI K ti) (liftG K p) (liftT K tA) (liftE K te) vs σ H Q := by
  obtain ⟨env, S, Qd, re, so, h, l⟩ := h
  refine ⟨env, S, _, re, so, h, fun xs G S1 J H1 h1 k1 s1 g1 dr a ha => ?_⟩
  obtain ⟨g0, run⟩ := h1 a (s1.fresh ha)
  generalize hb : (fun (x : D) (S2 : Sto) (k : Option D → Sto → Prop) => wpP p x S2 (wipeD env vs) fun env2 => tA env2 S2 fun t S3 => if t = true then te env2 S3 fun y S4 => k (some y) S4 else k none S3) = body at run
  have kn : Keep H1 (upd H1 a (.lst [])) := .new ha
  refine ⟨fun i m H2 => m = xs.length - i ∧ i ≤ xs.length ∧ ∃ S2 acc, Keep H1 H2 ∧ StoOk K H2 S2 ∧ G S2 ∧ S2 a = some (.lst acc) ∧ lcRun a G body (fun S' => Qd (.ref a) S') (xs.drop i) acc S2,
    ⟨xs.length, by simp, Nat.zero_le _, put S1 a (.lst []), [], kn, s1.newL ha .nil, g0, put_same, by rw [List.drop_zero]; exact run⟩, ?_⟩
  rintro i m H2 ⟨rfl, hi, S2, acc, k2, s2, g2, ea, run⟩
  by_cases hlt : i < xs.length
  · refine .inr ?_
    have ex : xs[i]? = some xs[i] := List.getElem?_eq_getElem hlt
    obtain ⟨go, yl⟩ := (dr H2 S2 i k2 s2 g2).1 _ ex
    rw [List.drop_eq_getElem_cons hlt] at run
    refine ⟨go, fun H3 => ∃ S3 acc, Keep H1 H3 ∧ StoOk K H3 S3 ∧ G S3 ∧ S3 a = some (.lst acc) ∧ lcRun a G body (fun S' => Qd (.ref a) S') (xs.drop (i + 1)) acc S3,
      fun H3 ⟨S3, acc3, z⟩ => ⟨xs.length - (i + 1), by omega, rfl, by omega, S3, acc3, z⟩, fun v H3 y => ?_⟩
    obtain ⟨k3, s3, rv⟩ := yl v H3 y
    simp only [lcRun] at run
    rw [← hb] at run
    refine ⟨xs[i], wipeD env vs, S2, _, rv, (re.mono (k1.trans (k2.trans k3))).wipe vs, s3, run, fun env2 σ2 h2 re2 w2 => ⟨by
      have := w2 vs hp
      rw [this]
      exact wipe_wipe σ vs, env2, S2, _, re2, s3, h2, fun t S4 H4 h4 k4 s4 => ?_⟩⟩
    cases t with
    | false =>
      simp only [Bool.false_eq_true, if_false] at h4 ⊢
      obtain ⟨z1, z2, z3⟩ := h4
      exact ⟨S4, acc, k2.trans (k3.trans k4), s4, z2, z1, by rw [← hb]; exact z3⟩
    | true =>
      simp only [if_true] at h4 ⊢
      refine ⟨env2, S4, _, re2.mono k4, s4, h4, fun y S5 u H5 h5 k5 r5 s5 => ?_⟩
      obtain ⟨z1, z2, z3, z4⟩ := h5
      obtain ⟨us, q5, t5⟩ := s5 a _ z1
      refine ⟨us, q5, by rw [← t5.length, szl]; exact z2, put S5 a (.lst (acc ++ [y])), acc ++ [y], k2.trans (k3.trans (k4.trans (k5.trans (.lst q5)))), s5.write q5 (t5.append (.cons r5 .nil)), z3, put_same, by rw [← hb]; exact z4⟩
  · refine .inl ⟨(dr H2 S2 i k2 s2 g2).2 (by omega), ?_⟩
    rw [List.drop_of_length_le (by omega)] at run
    exact l _ S2 _ H2 run (k1.trans k2) .ref s2
where
  wipe_wipe (σ : L2.St) (vs : List Nat) : L2.wipe (L2.wipe σ vs) vs = L2.wipe σ vs := by
    have gen : ∀ (us : List Nat), (∀ i ∈ us, i ∈ vs) → L2.wipe (L2.wipe σ us) vs = L2.wipe σ vs := by
      intro us
      induction us with
      | nil => intro _; rfl
      | cons u us ih =>
        intro hu
        show L2.wipe ((L2.wipe σ us).set u none) vs = _
        rw [wipe_set (hu u (by simp)), ih fun i hi => hu i (by simp [hi])]
    exact gen vs fun _ h => h
theorem q_lc {ifs : List Expr} {scope : Scope} {own : List (Str × Nat)} (hc : X.calm = true) (hN : X.N.Nodup) (hi : QI X tg it ti) (ok : BlkOk X.N X.env.scope scope own) (hp : ∀ i ∈ places p, i ∈ own.map (·.2))
    (hg : ∀ (s : Shared) (H : Hp) (C : Addr) (cl : List (Str × Addr)) (fp : List Addr), PG (X.blk s H scope (compEnvC scope cl C X.env) fp) tg (liftG X.K p))
    (ht : ∀ (s : Shared) (H : Hp) (C : Addr) (cl : List (Str × Addr)) (fp : List Addr), PTs (X.blk s H scope (compEnvC scope cl C X.env) fp) ifs (liftT X.K tA))
    (he : ∀ (s : Shared) (H : Hp) (C : Addr) (cl : List (Str × Addr)) (fp : List Addr), QE (X.blk s H scope (compEnvC scope cl C X.env) fp) e te) (hs : ∀ x, foldedSetIterable it X.env x = pure x) :
    QE X (.ListComp e [⟨tg, it, ifs, 0⟩] scope pos) (fun env S Q => ti env S fun xs G S1 => ∀ a, S1 a = none → G (put S1 a (.lst [])) ∧ lcRun a G (fun x S2 k => wpP p x S2 (wipeD env (own.map (·.2))) fun env2 => tA env2 S2 fun t S3 =>
      if t = true then te env2 S3 fun y S4 => k (some y) S4 else k none S3) (fun S' => Q (.ref a) S') xs [] (put S1 a (.lst []))) :=
  (pe_lc (own := own) hc hN hi ok hg ht he hs).weak fun σ H Q h => lc_read hp σ H Q h
theorem q_yes : PTs X [] (liftT X.K fun _ S Q => Q true S) := ⟨fun pins s σ H Q I ⟨env, S, Qd, re, so, h, l⟩ => pts_nil.run pins s σ H Q I (l true S H h .refl so)⟩
/-! ### f-strings -/
theorem q_fmt (he : QE X e te) : QE X (.FormattedValue e (-1) none pos) (fun env S Q => te env S fun x S1 => fmtD x fun z => Q (.str z) S1) :=
  (pe_fmt he).weak fun σ H Q ⟨env, S, Qd, re, so, h, l⟩ => ⟨env, S, _, re, so, h, fun x S1 v H1 h1 k1 r1 s1 => by
    cases x <;> try exact h1.elim
    case str z =>
      simp only [Rep] at r1
      exact .inl ⟨_, r1, by rw [str_len, szl]; exact h1.1, l _ S1 _ H1 h1.2 k1 .str s1⟩
    case int i =>
      simp only [Rep] at r1
      exact .inr ⟨i, r1, log2_1920 h1.1, l _ S1 _ H1 h1.2 k1 (by simp only [Rep]; rfl) s1⟩⟩
abbrev TJD := En → Sto → List Nat → (List Nat → Sto → Prop) → Prop
/-- parts of an f-string, each with its reading, all together -/
structure QJ (X : Cx) (es : List Expr) (t : TJD) : Prop where
  ex : ∃ ts, PJ X es ts ∧ ∀ (acc : List Nat) σ H (Q : Str → Hp → Prop), (∃ env S Qd, RelE X.K H env σ ∧ StoOk X.K H S ∧ t env S acc Qd ∧ ∀ x S' H', Qd x S' → Keep H H' → StoOk X.K H' S' → Q ⟨x.toArray⟩ H') → tJs ts ⟨acc.toArray⟩ σ H Q
theorem qj_nil : QJ X [] (fun _ S acc Q => Q acc S) := ⟨[], .nil, fun acc σ H Q ⟨env, S, Qd, re, so, h, l⟩ => l _ S H h .refl so⟩
theorem qj_cons {es : List Expr} {te : TD} {t : TJD} (he : QE X e (fun env S Q => te env S fun x S1 => fmtD x fun z => Q (.str z) S1)) (h : QJ X es t) :
    QJ X (e :: es) (fun env S acc Q => te env S fun x S1 => fmtD x fun z => acc.length + z.length ≤ 16777216 ∧ t env S1 (acc ++ z) Q) := by
  obtain ⟨ts, pj, rd⟩ := h.ex
  refine ⟨_, .cons he pj, fun acc σ H Q ⟨env, S, Qd, re, so, h, l⟩ => ?_⟩
  refine ⟨env, S, fun d S1 => ∃ z, d = .str z ∧ acc.length + z.length ≤ 16777216 ∧ t env S1 (acc ++ z) Qd, re, so, ?_, fun d S1 v H1 h1 k1 r1 s1 => ?_⟩
  · have e : (fun (x : D) (S1 : Sto) => fmtD x fun z => acc.length + z.length ≤ 16777216 ∧ t env S1 (acc ++ z) Qd) = fun x S1 => fmtD x fun z => ∃ z_1, D.str z = D.str z_1 ∧ acc.length + z_1.length ≤ 16777216 ∧ t env S1 (acc ++ z_1) Qd := by
      funext x S1
      have : (fun z => acc.length + z.length ≤ 16777216 ∧ t env S1 (acc ++ z) Qd) = fun z => ∃ z_1, D.str z = D.str z_1 ∧ acc.length + z_1.length ≤ 16777216 ∧ t env S1 (acc ++ z_1) Qd := by
        funext z
        exact propext ⟨fun h => ⟨z, rfl, h⟩, fun ⟨w, e, h⟩ => by cases e; exact h⟩
      rw [this]
    rw [e] at h
    exact h
  · obtain ⟨z, rfl, hz, h1⟩ := h1
    simp only [Rep] at r1
    refine ⟨_, r1, ?_, ?_⟩
    · rw [cps_app, str_len, List.length_append, szl]; exact hz
    · rw [cps_app]
      exact rd (acc ++ z) σ H1 Q ⟨env, S1, Qd, re.mono k1, s1, h1, fun x S' H' q k s => l x S' H' q (k1.trans k) s⟩
theorem q_fs {v1 v2 : Expr} {rest : List Expr} {t : TJD} (h : QJ X (v1 :: v2 :: rest) t) : QE X (.JoinedStr (v1 :: v2 :: rest) pos) (fun env S Q => t env S [] fun x S1 => Q (.str x) S1) := by
  obtain ⟨ts, pj, rd⟩ := h.ex
  exact (pe_joined pj).weak fun σ H Q ⟨env, S, Qd, re, so, h, l⟩ => rd [] σ H _ ⟨env, S, _, re, so, h, fun x S' H' q k s => l _ S' _ H' q k .str s⟩
end
end G57
set_option Elab.async false
set_option linter.all false
set_option maxRecDepth 100000
set_option maxHeartbeats 400000
namespace G57
open PySem L2 PySem.Spec PyProof.Rows
abbrev TSD := EndsD → En → Sto → Prop
structure LvS (K : PySem.W.Frag) (H : Hp) (E : EndsD) (D' : Ends) : Prop where
  nx : ∀ env S σ H', E.nx env S → Keep H H' → RelE K H' env σ → StoOk K H' S → D'.nx σ H'
  bk : ∀ env S σ H', E.bk env S → Keep H H' → RelE K H' env σ → StoOk K H' S → D'.bk σ H'
  ct : ∀ env S σ H', E.ct env S → Keep H H' → RelE K H' env σ → StoOk K H' S → D'.ct σ H'
  rt : Lv K H E.rt D'.rt
theorem LvS.keep {K : PySem.W.Frag} {H H1 : Hp} {E : EndsD} {D' : Ends} (l : LvS K H E D') (k : Keep H H1) : LvS K H1 E D' :=
  ⟨fun env S σ H' h k' => l.nx env S σ H' h (k.trans k'), fun env S σ H' h k' => l.bk env S σ H' h (k.trans k'), fun env S σ H' h k' => l.ct env S σ H' h (k.trans k'), l.rt.keep k⟩
def liftS (K : PySem.W.Frag) (t : TSD) : TS := fun D' σ H => ∃ env S E, RelE K H env σ ∧ StoOk K H S ∧ t E env S ∧ LvS K H E D'
abbrev QS (X : Cx) (st : Stmt) (t : TSD) : Prop := PS X st (liftS X.K t)
abbrev QSs (X : Cx) (st : List Stmt) (t : TSD) : Prop := PSs X st (liftS X.K t)
theorem _root_.L2.PS.weak {X : Cx} {st : Stmt} {t t' : TS} (h : PS X st t) (w : ∀ D' σ H, t' D' σ H → t D' σ H) : PS X st t' := ⟨fun pins s σ H D' I q => h.run pins s σ H D' I (w D' σ H q)⟩
theorem _root_.L2.PSs.weak {X : Cx} {st : List Stmt} {t t' : TS} (h : PSs X st t) (w : ∀ D' σ H, t' D' σ H → t D' σ H) : PSs X st t' := ⟨fun pins s σ H D' I q => h.run pins s σ H D' I (w D' σ H q)⟩
section
variable {X : Cx} {pos : Pos} {tg it e c o i : Expr} {te to ti : TD} {tA : TBD} {tit : TID} {p : Pt} {st : Stmt} {a b body rest : List Stmt} {t u : TSD}
theorem asg_read {K : PySem.W.Frag} (D' : Ends) (σ : L2.St) (H : Hp) (h : liftS K (fun E env S => te env S fun d S1 => wpP p d S1 env fun env' => E.nx env' S1) D' σ H) : tAsg (liftE K te) (liftG K p) D' σ H := by
  obtain ⟨env, S, E, re, so, h, l⟩ := h
  exact ⟨env, S, _, re, so, h, fun d S1 v H1 h1 k1 r1 s1 => ⟨d, env, S1, _, r1, re.mono k1, s1, h1, fun env' σ' h' re' _ => l.nx env' S1 σ' H1 h' k1 re' s1⟩⟩
theorem qs_asg (he : QE X e te) (hg : PG X tg (liftG X.K p)) (hs : swapsWithSole [tg] e pos.line X.env = pure false) (hw : swappedStores [tg] e X.env = pure none) (hone : (assignEach [tg] X.env).map (·.2) = [assign tg X.env]) :
    QS X (.Assign [tg] e pos) (fun E env S => te env S fun d S1 => wpP p d S1 env fun env' => E.nx env' S1) :=
  (ps_asg he hg hs hw hone).weak fun D' σ H h => asg_read D' σ H h
theorem gName_of {K : PySem.W.Frag} {j : Nat} {v : V} {σ : L2.St} {H : Hp} {Q : L2.St → Hp → Prop} (h : liftG K (.v j) v σ H Q) : gName j v σ H Q := by
  obtain ⟨d, env, S, Qe, r, re, so, h, l⟩ := h
  exact l _ _ h (re.set r) fun vs hv => wipe_set (hv j (by simp [places]))
theorem qs_setLc {j : Nat} {y : Str} {py lpos : Pos} {ifs : List Expr} {scope : Scope} {own : List (Str × Nat)} (hc : X.calm = true) (hN : X.N.Nodup) (hy : X.N[j]? = some y) (hyl : X.env.scope.names.lookup y = some .local)
    (hsw : swapsWith (.ListComp e [⟨tg, it, ifs, 0⟩] scope lpos) (some (.Name y py)) pos.line X.env = pure true) (hi : QI X tg it tit) (ok : BlkOk X.N X.env.scope scope own) (hp : ∀ i ∈ places p, i ∈ own.map (·.2))
    (hg : ∀ (s : Shared) (H : Hp) (C : Addr) (cl : List (Str × Addr)) (fp : List Addr), PG (X.blk s H scope (compEnvC scope cl C X.env) fp) tg (liftG X.K p))
    (ht : ∀ (s : Shared) (H : Hp) (C : Addr) (cl : List (Str × Addr)) (fp : List Addr), PTs (X.blk s H scope (compEnvC scope cl C X.env) fp) ifs (liftT X.K tA))
    (he : ∀ (s : Shared) (H : Hp) (C : Addr) (cl : List (Str × Addr)) (fp : List Addr), QE (X.blk s H scope (compEnvC scope cl C X.env) fp) e te) (hs : ∀ x, foldedSetIterable it X.env x = pure x) :
    QS X (.Assign [.Name y py] (.ListComp e [⟨tg, it, ifs, 0⟩] scope lpos) pos) (fun E env S => (tit env S fun xs G S1 => ∀ a, S1 a = none → G (put S1 a (.lst [])) ∧ lcRun a G (fun x S2 k => wpP p x S2 (wipeD env (own.map (·.2))) fun env2 => tA env2 S2 fun t S3 =>
      if t = true then te env2 S3 fun y S4 => k (some y) S4 else k none S3) (fun S' => wpP (.v j) (.ref a) S' env fun env' => E.nx env' S') xs [] (put S1 a (.lst [])))) :=
  (ps_setLc (own := own) hc hN hy hyl hsw hi ok hg ht he hs).weak fun D' σ H ⟨env, S, E, re, so, h, l⟩ =>
    lc_read hp σ H _ ⟨env, S, fun d S' => wpP (.v j) d S' env fun env' => E.nx env' S', re, so, h, fun d S1 v H1 h1 k1 r1 s1 =>
      gName_of ⟨d, env, S1, _, r1, re.mono k1, s1, h1, fun env' σ' h' re' _ => l.nx env' S1 σ' H1 h' k1 re' s1⟩⟩
theorem setD_ok : PSet X (fun o i v H Q => ∃ x y d S, ∃ Qd : Sto → Prop, Rep X.K H x o ∧ Rep X.K H y i ∧ Rep X.K H d v ∧ StoOk X.K H S ∧ setD x y d S Qd ∧ ∀ S' H', Qd S' → Keep H H' → StoOk X.K H' S' → Q H') := by
  intro pins s σ H o i v ov iv u Q I r1 r2 r3 ⟨x, y, d, S, Qd, rx, ry, rd, so, h, l⟩
  cases x <;> cases y <;> try exact h.elim
  rename_i p k
  simp only [Rep] at rx ry
  obtain ⟨ds, j, e1, e2, h⟩ := h
  obtain ⟨vs, q, r⟩ := so p _ e1
  exact set_list pins s σ H o i v ov iv u Q I r1 r2 r3 ⟨p, vs, k, j, rx, ry, q, by rw [← r.length]; exact e2, l _ _ h (.lst q) (so.write q (r.set j rd))⟩
theorem qs_set {tpos : Pos} (he : QE X e te) (ho : QE X o to) (hi : QE X i ti) (hs : swapsWithSole [.Subscript o i tpos] e pos.line X.env = pure false) (hw : swappedStores [.Subscript o i tpos] e X.env = pure none)
    (ha : ∀ v, assign (.Subscript o i tpos) X.env v = (do
      let ov ← holding [v] (eval o X.env)
      let iv ← holding [v, ov] (eval i X.env)
      standAt tpos
      holding [v, ov, iv] (setItem ov iv v)
      release [v, ov, iv] [])) :
    QS X (.Assign [.Subscript o i tpos] e pos) (fun E env S => te env S fun d S1 => to env S1 fun x S2 => ti env S2 fun y S3 => setD x y d S3 fun S4 => E.nx env S4) :=
  (ps_asg he (pg_sub ho hi setD_ok ha) hs hw).weak fun D' σ H ⟨env, S, E, re, so, h, l⟩ =>
    ⟨env, S, _, re, so, h, fun d S1 v H1 h1 k1 r1 s1 => ⟨env, S1, _, re.mono k1, s1, h1, fun x S2 u H2 h2 k2 r2 s2 => ⟨env, S2, _, re.mono (k1.trans k2), s2, h2, fun y S3 w H3 h3 k3 r3 s3 =>
      ⟨x, y, d, S3, _, r2.mono k3, r3, r1.mono (k2.trans k3), s3, h3, fun S4 H4 h4 k4 s4 => l.nx env S4 σ H4 h4 (k1.trans (k2.trans (k3.trans k4))) (re.mono (k1.trans (k2.trans (k3.trans k4)))) s4⟩⟩⟩⟩
theorem qs_expr (he : QE X e te) (hs : swapsWith e none pos.line X.env = pure false) : QS X (.Expr e pos) (fun E env S => te env S fun _ S1 => E.nx env S1) :=
  (ps_expr he hs).weak fun D' σ H ⟨env, S, E, re, so, h, l⟩ => ⟨env, S, _, re, so, h, fun d S1 v H1 h1 k1 r1 s1 => l.nx env S1 σ H1 h1 k1 (re.mono k1) s1⟩
theorem qs_ret (he : QE X e te) : QS X (.Return (some e) pos) (fun E env S => te env S E.rt) :=
  (ps_ret he).weak fun D' σ H ⟨env, S, E, re, so, h, l⟩ => ⟨env, S, _, re, so, h, l.rt⟩
theorem qs_if (hc : QT X c tA) (ha : QSs X a t) (hb : QSs X b u) : QS X (.If c a b pos) (fun E env S => tA env S fun z S1 => if z = true then t E env S1 else u E env S1) :=
  (ps_if hc ha hb).weak fun D' σ H ⟨env, S, E, re, so, h, l⟩ => ⟨env, S, _, re, so, h, fun z S1 H1 h1 k1 s1 => by
    cases z with
    | true => exact ⟨env, S1, E, re.mono k1, s1, h1, l.keep k1⟩
    | false => exact ⟨env, S1, E, re.mono k1, s1, h1, l.keep k1⟩⟩
theorem qs_pass : QS X (.Pass pos) (fun E env S => E.nx env S) := ps_pass.weak fun D' σ H ⟨env, S, E, re, so, h, l⟩ => l.nx env S σ H h .refl re so
theorem qs_break : QS X (.Break pos) (fun E env S => E.bk env S) := ps_break.weak fun D' σ H ⟨env, S, E, re, so, h, l⟩ => l.bk env S σ H h .refl re so
theorem qs_cont : QS X (.Continue pos) (fun E env S => E.ct env S) := ps_continue.weak fun D' σ H ⟨env, S, E, re, so, h, l⟩ => l.ct env S σ H h .refl re so
theorem qss_nil : QSs X [] (fun E env S => E.nx env S) := pss_nil.weak fun D' σ H ⟨env, S, E, re, so, h, l⟩ => l.nx env S σ H h .refl re so
theorem qss_cons (h1 : QS X st t) (h2 : QSs X rest u) : QSs X (st :: rest) (fun E env S => t { E with nx := fun env' S' => u E env' S' } env S) :=
  (pss_cons h1 h2).weak fun D' σ H ⟨env, S, E, re, so, h, l⟩ => ⟨env, S, _, re, so, h, fun env' S' σ' H' h' k' re' s' => ⟨env', S', E, re', s', h', l.keep k'⟩, l.bk, l.ct, l.rt⟩
theorem qs_for (hx : PassesOwn (model X.prog X.w) X.A X.env X.xe) (hc : X.calm = true) (hi : QI X tg it tit) (hg : PG X tg (liftG X.K p)) (hb : QSs X body t) (hs : ∀ x, foldedSetIterable it X.env x = pure x) :
    QS X (.For tg it body [] pos) (fun E env S => tit env S fun xs G S1 => forRun G (fun x env1 S2 N => wpP p x S2 env1 fun env2 => t { nx := N, ct := N, bk := E.nx, rt := E.rt } env2 S2) E.nx xs env S1) :=
  (ps_for hx hc hi hg hb hs).weak fun D' σ H ⟨env, S, E, re, so, h, l⟩ => by
    refine ⟨env, S, _, re, so, h, fun xs G S1 J H1 h1 k1 s1 g1 dr => ?_⟩
    generalize hbd : (fun (x : D) (env1 : En) (S2 : Sto) (N : En → Sto → Prop) => wpP p x S2 env1 fun env2 => t { nx := N, ct := N, bk := E.nx, rt := E.rt } env2 S2) = bd at h1
    refine ⟨fun i m σ2 H2 => m = xs.length - i ∧ i ≤ xs.length ∧ ∃ env2 S2, Keep H1 H2 ∧ RelE X.K H2 env2 σ2 ∧ StoOk X.K H2 S2 ∧ G S2 ∧ forRun G bd E.nx (xs.drop i) env2 S2,
      ⟨xs.length, by simp, Nat.zero_le _, env, S1, .refl, re.mono k1, s1, g1, by rw [List.drop_zero]; exact h1⟩, ?_⟩
    rintro i m σ2 H2 ⟨rfl, hi2, env2, S2, k2, re2, s2, g2, run⟩
    by_cases hlt : i < xs.length
    · refine .inr ?_
      have ex : xs[i]? = some xs[i] := List.getElem?_eq_getElem hlt
      obtain ⟨go, yl⟩ := (dr H2 S2 i k2 s2 g2).1 _ ex
      rw [List.drop_eq_getElem_cons hlt] at run
      refine ⟨go, fun σ3 H3 => ∃ env3 S3, Keep H1 H3 ∧ RelE X.K H3 env3 σ3 ∧ StoOk X.K H3 S3 ∧ G S3 ∧ forRun G bd E.nx (xs.drop (i + 1)) env3 S3,
        fun σ3 H3 ⟨env3, S3, z⟩ => ⟨xs.length - (i + 1), by omega, rfl, by omega, env3, S3, z⟩, fun v H3 y => ?_⟩
      obtain ⟨k3, s3, rv⟩ := yl v H3 y
      simp only [forRun] at run
      rw [← hbd] at run
      have kk := k2.trans k3
      refine ⟨xs[i], env2, S2, _, rv, re2.mono k3, s3, run, fun env3 σ3 h3 re3 _ => ⟨env3, S2, _, re3, s3, h3, ?_, ?_, ?_, l.rt.keep (k1.trans kk)⟩⟩
      · exact fun env4 S4 σ4 H4 h4 k4 re4 s4 => ⟨env4, S4, kk.trans k4, re4, s4, h4.1, by rw [← hbd]; exact h4.2⟩
      · exact fun env4 S4 σ4 H4 h4 k4 re4 s4 => l.nx env4 S4 σ4 H4 h4 (k1.trans (kk.trans k4)) re4 s4
      · exact fun env4 S4 σ4 H4 h4 k4 re4 s4 => ⟨env4, S4, kk.trans k4, re4, s4, h4.1, by rw [← hbd]; exact h4.2⟩
    · refine .inl ⟨(dr H2 S2 i k2 s2 g2).2 (by omega), ?_⟩
      rw [List.drop_of_length_le (by omega)] at run
      exact l.nx env2 S2 σ2 H2 run (k1.trans k2) re2 s2
theorem qs_while (hx : PassesOwn (model X.prog X.w) X.A X.env X.xe) (hc : QT X c tA) (hb : QSs X body t) :
    QS X (.While c body [] pos) (fun E env S => ∃ n, whRun tA (fun env1 S1 N => t { nx := N, ct := N, bk := E.nx, rt := E.rt } env1 S1) E.nx n env S) :=
  (ps_while hx hc hb).weak fun D' σ H ⟨env, S, E, re, so, ⟨n, h⟩, l⟩ => by
    generalize hbd : (fun (env1 : En) (S1 : Sto) (N : En → Sto → Prop) => t { nx := N, ct := N, bk := E.nx, rt := E.rt } env1 S1) = bd at h
    refine ⟨fun m σ2 H2 => ∃ env2 S2, Keep H H2 ∧ RelE X.K H2 env2 σ2 ∧ StoOk X.K H2 S2 ∧ whRun tA bd E.nx m env2 S2, ⟨n, env, S, .refl, re, so, h⟩, ?_⟩
    rintro m σ2 H2 ⟨env2, S2, k2, re2, s2, run⟩
    cases m with
    | zero => exact run.elim
    | succ m =>
      simp only [whRun] at run
      refine ⟨env2, S2, _, re2, s2, run, fun z S3 H3 h3 k3 s3 => ?_⟩
      have kk := k2.trans k3
      cases z with
      | false =>
        simp only [Bool.false_eq_true, if_false] at h3 ⊢
        exact l.nx env2 S3 σ2 H3 h3 kk (re2.mono k3) s3
      | true =>
        simp only [if_true] at h3 ⊢
        refine ⟨fun σ4 H4 => ∃ env4 S4, Keep H H4 ∧ RelE X.K H4 env4 σ4 ∧ StoOk X.K H4 S4 ∧ whRun tA bd E.nx m env4 S4, fun σ4 H4 z => ⟨m, Nat.lt_succ_self _, z⟩, ?_⟩
        rw [← hbd] at h3
        refine ⟨env2, S3, _, re2.mono k3, s3, h3, ?_, ?_, ?_, l.rt.keep kk⟩
        · exact fun env4 S4 σ4 H4 h4 k4 re4 s4 => ⟨env4, S4, kk.trans k4, re4, s4, by rw [← hbd]; exact h4⟩
        · exact fun env4 S4 σ4 H4 h4 k4 re4 s4 => l.nx env4 S4 σ4 H4 h4 (kk.trans k4) re4 s4
        · exact fun env4 S4 σ4 H4 h4 k4 re4 s4 => ⟨env4, S4, kk.trans k4, re4, s4, by rw [← hbd]; exact h4⟩
theorem qs_par {j k : Nat} {x y : Str} {ea eb : Expr} {ta tb : TD} {px py pt pt2 : Pos} {kt k2 : Nat} (hc : X.calm = true) (hN : X.N.Nodup) (hi : X.N[j]? = some x) (hj : X.N[k]? = some y) (hij : j ≠ k)
    (hx : X.env.scope.names.lookup x = some .local) (hy : X.env.scope.names.lookup y = some .local) (ha : QA X [ea, eb] (fun env S Q => ta env S fun v S1 => tb env S1 fun w S2 => Q [v, w] S2))
    (hw : swappedStores [.Tuple [.Name x px, .Name y py] kt pt] (.Tuple [ea, eb] k2 pt2) X.env = pure (some [x, y])) (hs : swapsWithSole [.Tuple [.Name x px, .Name y py] kt pt] (.Tuple [ea, eb] k2 pt2) pos.line X.env = pure false) :
    QS X (.Assign [.Tuple [.Name x px, .Name y py] kt pt] (.Tuple [ea, eb] k2 pt2) pos) (fun E env S => ta env S fun v S1 => tb env S1 fun w S2 => E.nx ((env.set j (some v)).set k (some w)) S2) :=
  (ps_par hc hN hi hj hij hx hy ha hw hs).weak fun D' σ H ⟨env, S, E, re, so, h, l⟩ => ⟨env, S, on2 fun v w S2 => E.nx ((env.set j (some v)).set k (some w)) S2, re, so, h, fun ds S1 vs H1 h1 k1 r1 s1 => by
    obtain ⟨v, w, rfl, z1⟩ := on2_inv h1
    simp only [Reps] at r1
    obtain ⟨u, _, rfl, ru, u2, _, rfl, ru2, rfl⟩ := r1
    exact ⟨u, u2, rfl, l.nx _ S1 _ H1 z1 k1 (((re.mono k1).set ru).set ru2) s1⟩⟩
def on3 (f : D → D → D → Sto → Prop) : List D → Sto → Prop
  | [x, y, z], S => f x y z S
  | _, _ => False
theorem on3_inv {f : D → D → D → Sto → Prop} {ds : List D} {S : Sto} (h : on3 f ds S) : ∃ x y z, ds = [x, y, z] ∧ f x y z S := by
  unfold on3 at h
  split at h
  · exact ⟨_, _, _, rfl, h⟩
  · exact h.elim
theorem qs_par3 {j k m : Nat} {x y z : Str} {ea eb ec : Expr} {ta tb tc : TD} {px py pz pt pt2 : Pos} {kt k2 : Nat} (hc : X.calm = true) (hN : X.N.Nodup) (hi : X.N[j]? = some x) (hj : X.N[k]? = some y) (hl : X.N[m]? = some z) (hij : j ≠ k) (hil : j ≠ m) (hjl : k ≠ m)
    (hx : X.env.scope.names.lookup x = some .local) (hy : X.env.scope.names.lookup y = some .local) (hz : X.env.scope.names.lookup z = some .local) (ha : QA X [ea, eb, ec] (fun env S Q => ta env S fun v S1 => tb env S1 fun w S2 => tc env S2 fun w' S3 => Q [v, w, w'] S3))
    (hw : swappedStores [.Tuple [.Name x px, .Name y py, .Name z pz] kt pt] (.Tuple [ea, eb, ec] k2 pt2) X.env = pure (some [x, y, z])) (hs : swapsWithSole [.Tuple [.Name x px, .Name y py, .Name z pz] kt pt] (.Tuple [ea, eb, ec] k2 pt2) pos.line X.env = pure false) :
    QS X (.Assign [.Tuple [.Name x px, .Name y py, .Name z pz] kt pt] (.Tuple [ea, eb, ec] k2 pt2) pos) (fun E env S => ta env S fun v S1 => tb env S1 fun w S2 => tc env S2 fun w' S3 => E.nx (((env.set j (some v)).set k (some w)).set m (some w')) S3) :=
  (ps_par3 hc hN hi hj hl hij hil hjl hx hy hz ha hw hs).weak fun D' σ H ⟨env, S, E, re, so, h, l⟩ => ⟨env, S, on3 fun v w w' S2 => E.nx (((env.set j (some v)).set k (some w)).set m (some w')) S2, re, so, h, fun ds S1 vs H1 h1 k1 r1 s1 => by
    obtain ⟨v, w, w', rfl, z1⟩ := on3_inv h1
    simp only [Reps] at r1
    obtain ⟨u, _, rfl, ru, u2, _, rfl, ru2, u3, _, rfl, ru3, rfl⟩ := r1
    exact ⟨u, u2, u3, rfl, l.nx _ S1 _ H1 z1 k1 ((((re.mono k1).set ru).set ru2).set ru3) s1⟩⟩
end
end G57
set_option Elab.async false
set_option linter.all false
set_option maxRecDepth 100000
set_option maxHeartbeats 1000000
namespace G57
open PySem L2 PySem.Spec PyProof.Rows
structure Good (X : Cx) (Γ : Gam) (Φ : Tab) (k : Nat) : Prop where
  hN : X.N = Γ.N
  sc : X.env.scope = Γ.sc
  nd : Γ.N.Nodup
  kd : Γ.sc.kind = .function
  calm : X.calm = true
  room : Room k X.A
  gd : X.A.guards = some []
  xe : X.xe = fun _ _ => False
  st : ∀ x ∈ Γ.st, Loc Γ.sc x ∧ (X.fn x = true ∨ Γ.sc.names.lookup x = some .local)
  bs : ∀ x ∈ Γ.bs, X.mg x = none
  fs : ∀ f i sp, vix Γ.fs f = some i → Φ i = some sp → ∃ a fd ps, X.mg f = some (.ref a) ∧ PySem.W.keepIn X.K (.ref a) = true ∧ Binds X.K fd ps [] ∧
    FnG X.prog X.w X.K X.mg X.base k a fd ps (liftSp X.K ps.length sp) ∧ ∀ ds S Q, sp ds S Q → ds.length = ps.length
  cs : ∀ x d, Γ.cs.lookup x = some d → ∃ v u, X.mg x = some u ∧ RelV v u ∧ ∀ H, Rep X.K H d v
theorem two {α β γ : Type} {a : Option α} {b : Option β} {f : α → β → γ} {c : γ} (h : opt2 a b f = some c) : ∃ x y, a = some x ∧ b = some y ∧ c = f x y := by
  cases a with
  | none => cases h
  | some x => cases b with
    | none => cases h
    | some y => cases h; exact ⟨x, y, rfl, rfl, rfl⟩
theorem three {α β δ γ : Type} {a : Option α} {b : Option β} {d : Option δ} {f : α → β → δ → γ} {c : γ} (h : opt3 a b d f = some c) : ∃ x y z, a = some x ∧ b = some y ∧ d = some z ∧ c = f x y z := by
  cases a with
  | none => cases h
  | some x => cases b with
    | none => cases h
    | some y => cases d with
      | none => cases h
      | some z => cases h; exact ⟨x, y, z, rfl, rfl, rfl, rfl⟩
theorem lc_inv {Γ : Gam} {scope : Scope} {own : Option (List (Str × Nat))} {p : Option Pt} {i c x : Option Ex} {ir : Ex} (h : optLc Γ scope own p i c x = some ir) :
    ∃ o p' i' c' x', own = some o ∧ p = some p' ∧ i = some i' ∧ c = some c' ∧ x = some x' ∧ blkC Γ.N Γ.sc scope o = true ∧ ir = .lc (o.map (·.2)) p' i' c' x' := by
  unfold optLc at h
  split at h
  · split at h
    · cases h; exact ⟨_, _, _, _, _, rfl, rfl, rfl, rfl, rfl, by assumption, rfl⟩
    · cases h
  · cases h
theorem vix_get : ∀ {N : List Str} {x : Str} {i : Nat}, vix N x = some i → N[i]? = some x
  | [], _, _, h => by simp [vix] at h
  | y :: ys, x, i, h => by
    unfold vix at h
    by_cases e : y = x
    · rw [if_pos e] at h; cases h; simp [e]
    · rw [if_neg e] at h
      obtain ⟨j, e2, rfl⟩ := Option.map_eq_some_iff.mp h
      rw [List.getElem?_cons_succ]
      exact vix_get e2
theorem vis_of {sc : Scope} {x : Str} (h : visB sc x = true) : Vis sc x := by
  unfold visB at h
  split at h
  · exact .inl (by assumption)
  · exact .inr (.inl (by assumption))
  · exact .inr (.inr (by assumption))
  · cases h
theorem gl_of {sc : Scope} {x : Str} (h : glB sc x = true) : sc.names.lookup x = some .globalImplicit := by
  unfold glB at h
  split at h
  · assumption
  · cases h
theorem plain_of {x : Str} (h : plainName x = true) : (x == ("__debug__" : Str)) = false ∧ (x == ("__classdict__" : Str)) = false ∧ x ≠ ("__name__" : Str) := by
  unfold plainName at h
  simp only [Bool.and_eq_true, Bool.not_eq_true'] at h
  exact ⟨h.1.1, h.1.2, by have := h.2; exact fun e => by rw [e] at this; simp at this⟩
theorem star_cons {e : Expr} {es : List Expr} {env : Env} (h : starry e = false) : starEach (e :: es) env = (false, eval e env) :: starEach es env := by
  cases e <;> first | rfl | (simp [starry] at h)
theorem trA_star {n : Nat} {Γ : Gam} {e : Expr} {es : List Expr} {ir : Ex} (h : trA n Γ (e :: es) = some ir) : starry e = false := by
  cases n with
  | zero => simp [trA] at h
  | succ n =>
    simp only [trA] at h
    cases z : starry e with
    | false => rfl
    | true => rw [z] at h; simp at h
theorem trA_any : ∀ {es : List Expr} {n : Nat} {Γ : Gam} {ir : Ex} {env : Env} {pos : Pos}, trA n Γ es = some ir → (backTo pos (starEach es env)).any (·.1) = false
  | [], _, _, _, _, _, _ => rfl
  | e :: es, 0, _, _, _, _, h => by simp [trA] at h
  | e :: es, n + 1, Γ, ir, env, pos, h => by
    have hs := trA_star h
    simp only [trA, hs, Bool.false_eq_true, if_false] at h
    rw [star_cons hs]
    obtain ⟨x, y, h1, h2, _⟩ := two h
    show ((backTo pos [(false, eval e env)]).any (·.1) || (backTo pos (starEach es env)).any (·.1)) = false
    rw [trA_any h2]
    rfl
theorem trA_all {es : List Expr} {n : Nat} {Γ : Gam} {ir : Ex} {env : Env} {pos : Pos} (h : trA n Γ es = some ir) : (backTo pos (starEach es env)).all (fun x => !x.1) = true := by
  have := trA_any (env := env) (pos := pos) h
  rw [List.all_eq_not_any_not]
  simp only [Bool.not_not]
  rw [this]; rfl
theorem trA_tail {e : Expr} {es : List Expr} {n : Nat} {Γ : Gam} {ir : Ex} {env : Env} {pos : Pos} (h : trA n Γ (e :: es) = some ir) : (backTo pos (starEach es env)).any (·.1) = false := by
  have := trA_any (env := env) (pos := pos) h
  rw [star_cons (trA_star h)] at this
  have z : (false || (backTo pos (starEach es env)).any (·.1)) = false := this
  simpa using z
theorem plainIx_of {n : Nat} {Γ : Gam} {b : Expr} {ir : Ex} (h : trE n Γ b = some ir) : PlainIx b := by
  intro o i
  cases b <;> first | rfl | (cases n <;> simp [trE] at h)
theorem folded_of {e : Expr} {env : Env} (h : setish e = false) : ∀ x, foldedSetIterable e env x = pure x := by
  intro x
  cases e <;> first | rfl | (simp [setish] at h)
theorem marks_of {op : CmpOp} {b : Expr} (h : setish b = false) : behindInMarks op b = false := by
  cases b <;> first | rfl | (simp [setish] at h)
theorem lmarks_of {o1 o2 : CmpOp} {b c : Expr} (h : setish c = false) : lastMarks [o1, o2] [b, c] = false := by
  show behindInMarks o2 c = false
  exact marks_of h
theorem base_of {o : Expr} {attr : Str} {env : Env} {whole : Sem Value} (h : superish o = false) : attributeBase o attr env whole = whole := by
  cases o <;> try rfl
  rename_i f as ks pos
  cases f <;> try rfl
  cases as <;> try rfl
  cases ks <;> first | rfl | (simp [superish] at h)
theorem wpPs_len : ∀ {p : Pt} {ds : List D} {S : Sto} {env : En} {Q : En → Prop}, wpPs p ds S env Q → ∃ n, ds.length = n ∧ True := fun _ => ⟨_, rfl, trivial⟩
def ptLen : Pt → Nat
  | .cons _ r => ptLen r + 1
  | _ => 0
theorem wpPs_length : ∀ (p : Pt) (ds : List D) (S : Sto) (env : En) (Q : En → Prop), wpPs p ds S env Q → ds.length = ptLen p
  | .nil, [], _, _, _, _ => rfl
  | .nil, _ :: _, _, _, _, h => by simp [wpPs] at h
  | .cons a r, [], _, _, _, h => by simp [wpPs] at h
  | .v _, ds, _, _, _, h => by cases ds <;> simp [wpPs] at h
  | .t _, ds, _, _, _, h => by cases ds <;> simp [wpPs] at h
  | .cons a r, d :: ds, S, env, Q, h => by
    simp only [wpPs] at h
    -- any continuation: the rest's length is the same
    have key : ∀ (q : Pt) (d : D) (S : Sto) (env : En) (R : En → Prop), wpP q d S env R → ∃ env', R env' := by
      intro q
      have both : (∀ (d : D) (S : Sto) (env : En) (R : En → Prop), wpP q d S env R → ∃ env', R env') ∧ ∀ (ds : List D) (S : Sto) (env : En) (R : En → Prop), wpPs q ds S env R → ∃ env', R env' := by
        induction q with
        | v i => exact ⟨fun d S env R h => ⟨_, h⟩, fun ds S env R h => by cases ds <;> simp [wpPs] at h⟩
        | t p ih => exact ⟨fun d S env R h => by simp only [wpP] at h; obtain ⟨ds, _, h⟩ := h; exact ih.2 ds S env R h, fun ds S env R h => by cases ds <;> simp [wpPs] at h⟩
        | nil => exact ⟨fun d S env R h => by simp [wpP] at h, fun ds S env R h => by
            cases ds with
            | nil => exact ⟨env, by simpa [wpPs] using h⟩
            | cons _ _ => simp [wpPs] at h⟩
        | cons a r ih1 ih2 => exact ⟨fun d S env R h => by simp [wpP] at h, fun ds S env R h => by
            cases ds with
            | nil => simp [wpPs] at h
            | cons d ds =>
              simp only [wpPs] at h
              obtain ⟨env', h'⟩ := ih1.1 d S env _ h
              exact ih2.2 ds S env' R h'⟩
      exact both.1
    obtain ⟨env', h'⟩ := key a d S env _ h
    rw [List.length_cons, wpPs_length r ds S env' Q h']
    rfl
end G57
set_option Elab.async false
set_option linter.all false
set_option maxRecDepth 100000
set_option maxHeartbeats 1000000
namespace G57
open PySem L2 PySem.Spec PyProof.Rows
theorem pt_plain {n : Nat} {Γ : Gam} {e : Expr} {p : Pt} (h : ptOf n Γ e = some p) : starry e = false := by
  cases n with
  | zero => simp [ptOf] at h
  | succ n => cases e <;> first | rfl | simp [ptOf] at h
theorem each_cons {e : Expr} {es : List Expr} {env : Env} (h : starry e = false) : assignEach (e :: es) env = (false, assign e env) :: assignEach es env := by
  cases e <;> first | rfl | (simp [starry] at h)
theorem pt_snd : ∀ (n : Nat) {X : Cx} {Γ : Gam} {Φ : Tab} {k : Nat} {tg : Expr} {p : Pt}, Good X Γ Φ k → ptOf n Γ tg = some p → PG X tg (liftG X.K p)
  | 0, _, _, _, _, _, _, _, h => by simp [ptOf] at h
  | n + 1, X, Γ, Φ, k, tg, p, g, h => by
    have lists : ∀ (es : List Expr) (q : Pt), es.foldr (fun e r => match ptOf n Γ e, r with | some a, some b => some (.cons a b) | _, _ => none) (some .nil) = some q →
        PGs X es (liftGs X.K q) ∧ (assignEach es X.env).length = es.length ∧ (assignEach es X.env).findIdx? (·.1) = none ∧ ptLen q = es.length := by
      intro es
      induction es with
      | nil => intro q h; cases h; exact ⟨qgs_nil, rfl, rfl, rfl⟩
      | cons e es ih =>
        intro q h
        rw [List.foldr_cons] at h
        cases h1 : ptOf n Γ e with
        | none => rw [h1] at h; cases h
        | some a =>
          rw [h1] at h
          cases h2 : es.foldr (fun e r => match ptOf n Γ e, r with | some a, some b => some (Pt.cons a b) | _, _ => none) (some .nil) with
          | none => rw [h2] at h; cases h
          | some b =>
            rw [h2] at h; cases h
            obtain ⟨i1, i2, i3, i4⟩ := ih b h2
            have hs := pt_plain h1
            refine ⟨qgs_cons (pt_snd n g h1) i1 (by rw [each_cons hs]; rfl), by rw [each_cons hs, List.length_cons, i2, List.length_cons], ?_, by rw [List.length_cons, ← i4]; rfl⟩
            rw [each_cons hs, List.findIdx?_cons, i3]
            rfl
    cases tg with
    | Name x pos =>
      simp only [ptOf] at h
      split at h
      · rename_i hc
        rw [Bool.and_eq_true] at hc
        obtain ⟨i, e1, rfl⟩ := Option.map_eq_some_iff.mp h
        obtain ⟨s1, s2⟩ := g.st x (by simpa using hc.1)
        exact qg_name (by rw [g.hN]; exact g.nd) (by rw [g.hN]; exact vix_get e1) (by rw [g.sc]; exact s1) (by rw [g.sc]; exact s2)
      · cases h
    | Tuple es kk pos =>
      simp only [ptOf] at h
      obtain ⟨q, e1, rfl⟩ := Option.map_eq_some_iff.mp h
      obtain ⟨i1, i2, i3, i4⟩ := lists es q e1
      exact qg_tup (n := es.length) g.calm i1 i2 i3 fun ds S env Qe hw => (wpPs_length q ds S env Qe hw).trans i4
    | _ => simp [ptOf] at h
theorem own_places : ∀ (n : Nat) {Γ Δ : Gam} {tg : Expr} {p : Pt} {own : List (Str × Nat)}, Γ.N = Δ.N → ptOf n Δ tg = some p → ownOf n Γ tg = some own → ∀ i ∈ places p, i ∈ own.map (·.2)
  | 0, _, _, _, _, _, _, h, _ => by simp [ptOf] at h
  | n + 1, Γ, Δ, tg, p, own, eN, h, ho => by
    have lists : ∀ (es : List Expr) (q : Pt) (ow : List (Str × Nat)), es.foldr (fun e r => match ptOf n Δ e, r with | some a, some b => some (.cons a b) | _, _ => none) (some .nil) = some q →
        es.foldr (fun e r => match ownOf n Γ e, r with | some a, some b => some (a ++ b) | _, _ => none) (some []) = some ow → ∀ i ∈ places q, i ∈ ow.map (·.2) := by
      intro es
      induction es with
      | nil => intro q ow h _ i hi; cases h; simp [places] at hi
      | cons e es ih =>
        intro q ow h ho i hi
        rw [List.foldr_cons] at h ho
        cases h1 : ptOf n Δ e with
        | none => rw [h1] at h; cases h
        | some a =>
          rw [h1] at h
          cases h2 : es.foldr (fun e r => match ptOf n Δ e, r with | some a, some b => some (Pt.cons a b) | _, _ => none) (some .nil) with
          | none => rw [h2] at h; cases h
          | some b =>
            rw [h2] at h; cases h
            cases o1 : ownOf n Γ e with
            | none => rw [o1] at ho; cases ho
            | some a' =>
              rw [o1] at ho
              cases o2 : es.foldr (fun e r => match ownOf n Γ e, r with | some a, some b => some (a ++ b) | _, _ => none) (some []) with
              | none => rw [o2] at ho; cases ho
              | some b' =>
                rw [o2] at ho; cases ho
                simp only [places, List.mem_append] at hi
                rw [List.map_append, List.mem_append]
                rcases hi with hi | hi
                · exact .inl (own_places n eN h1 o1 i hi)
                · exact .inr (ih b b' h2 o2 i hi)
    cases tg with
    | Name x pos =>
      simp only [ptOf] at h
      simp only [ownOf] at ho
      split at h
      · obtain ⟨i, e1, rfl⟩ := Option.map_eq_some_iff.mp h
        obtain ⟨j, e2, rfl⟩ := Option.map_eq_some_iff.mp ho
        rw [eN, e1] at e2; cases e2
        intro z hz
        simpa [places] using hz
      · cases h
    | Tuple es kk pos =>
      simp only [ptOf] at h
      simp only [ownOf] at ho
      obtain ⟨q, e1, rfl⟩ := Option.map_eq_some_iff.mp h
      exact lists es q own e1 ho
    | _ => simp [ptOf] at h
theorem good_blk {X : Cx} {Γ : Gam} {Φ : Tab} {k : Nat} (g : Good X Γ Φ k) {scope : Scope} {own : List (Str × Nat)} (ok : BlkOk X.N X.env.scope scope own) (s : Shared) (H : Hp) (C : Addr) (cl : List (Str × Addr)) (fp : List Addr) :
    Good (X.blk s H scope (compEnvC scope cl C X.env) fp) (blk Γ scope) Φ k where
  hN := g.hN
  sc := by
    show relS scope X.env.scope = relS scope Γ.sc
    rw [g.sc]
  nd := g.nd
  kd := ok.kind
  calm := g.calm
  room := g.room
  gd := g.gd
  xe := rfl
  st := fun x hx => by
    obtain ⟨y, hy, rfl⟩ := List.mem_map.mp hx
    obtain ⟨hm, hk⟩ := List.mem_filter.mp hy
    have hu := ok.uniq y hm
    have hk' : y.2 = .local ∨ y.2 = .cell := by
      rcases Bool.or_eq_true_iff.mp hk with z | z
      · exact .inl (by revert z; cases y.2 <;> decide)
      · exact .inr (by revert z; cases y.2 <;> decide)
    have nf : y.2 ≠ .free := by rcases hk' with z | z <;> (rw [z]; decide)
    have lk : (relS scope Γ.sc).names.lookup y.1 = some y.2 := lookup_relS_keep nf hu
    rcases hk' with z | z
    · rw [z] at lk; exact ⟨.inl lk, .inr lk⟩
    · rw [z] at lk hu
      exact ⟨.inr lk, .inl (by show (scope.names.lookup y.1 == some .cell) = true; rw [hu]; decide)⟩
  bs := g.bs
  fs := g.fs
  cs := g.cs
end G57
set_option Elab.async false
set_option linter.all false
set_option maxRecDepth 100000
set_option maxHeartbeats 2000000
namespace G57
open PySem L2 PySem.Spec PyProof.Rows
structure Snd (n : Nat) : Prop where
  e : ∀ {X : Cx} {Γ : Gam} {Φ : Tab} {k : Nat} {e : Expr} {ir : Ex}, Good X Γ Φ k → trE n Γ e = some ir → QE X e (wpE Φ ir)
  t : ∀ {X : Cx} {Γ : Gam} {Φ : Tab} {k : Nat} {e : Expr} {ir : Ex}, Good X Γ Φ k → trE n Γ e = some ir → QT X e (wpT Φ ir)
  w : ∀ {X : Cx} {Γ : Gam} {Φ : Tab} {k : Nat} {op : BoolOp} {es : List Expr} {p : Pos} {ir : Ex}, Good X Γ Φ k → trE n Γ (.BoolOp op es p) = some ir → QW X (.BoolOp op es p) (wpT Φ ir)
  a : ∀ {X : Cx} {Γ : Gam} {Φ : Tab} {k : Nat} {es : List Expr} {ir : Ex}, Good X Γ Φ k → trA n Γ es = some ir → QA X es (wpA Φ ir)
  o : ∀ {X : Cx} {Γ : Gam} {Φ : Tab} {k : Nat} {e : Option Expr} {ir : Ex}, Good X Γ Φ k → trO n Γ e = some ir → PO X e (liftO X.K (wpO Φ ir))
  c : ∀ {X : Cx} {Γ : Gam} {Φ : Tab} {k : Nat} {es : List Expr} {ir : Ex}, Good X Γ Φ k → trC n Γ es = some ir → PTs X es (liftT X.K (wpC Φ ir))
  i : ∀ {X : Cx} {Γ : Gam} {Φ : Tab} {k : Nat} {tg e : Expr} {ir : Ex}, Good X Γ Φ k → trI n Γ (tupleT tg) e = some ir → QI X tg e (wpI Φ ir)
  j : ∀ {X : Cx} {Γ : Gam} {Φ : Tab} {k : Nat} {es : List Expr} {ir : Ex}, Good X Γ Φ k → trJ n Γ es = some ir → QJ X es (wpJ Φ ir)
theorem no_t {X : Cx} {e : Expr} : QT X e (fun _ _ _ => False) := ⟨fun _ _ _ _ _ _ ⟨_, _, _, _, _, h, _⟩ => h.elim⟩
section
variable {X : Cx} {Γ : Gam} {Φ : Tab} {k : Nat}
theorem Good.units (g : Good X Γ Φ k) : X.A.units + 64 < cLine := g.room.units
theorem Good.gl (g : Good X Γ Φ k) {x : Str} (h : glB Γ.sc x = true) : Gl X x := by
  show X.env.scope.names.lookup x = some .globalImplicit
  rw [g.sc]; exact gl_of h
theorem opD_ok (op : Operator) : OpR X (binaryOp op) (liftR2 X.K (opD op)) := by
  cases op with
  | Add => exact addD_ok
  | Sub => exact subD_ok
  | Mult => exact mulD_ok
  | FloorDiv => exact fdivD_ok
  | Mod => exact modD_ok
  | Pow => exact powD_ok
  | _ => exact fun pins s σ H x y v u Q I rx ry ⟨_, _, _, _, _, _, _, h, _⟩ => h.elim
theorem snd_name (g : Good X Γ Φ k) {n : Nat} {x : Str} {p : Pos} {ir : Ex} (h : trE (n + 1) Γ (.Name x p) = some ir) : QE X (.Name x p) (wpE Φ ir) := by
  simp only [trE] at h
  split at h
  · cases h
  · rename_i hp
    obtain ⟨p1, p2, p3⟩ := plain_of (by simpa using hp)
    split at h
    · rename_i hv
      obtain ⟨i, e1, rfl⟩ := Option.map_eq_some_iff.mp h
      simp only [wpE]
      exact q_var (by rw [g.hN]; exact vix_get e1) (by rw [g.sc]; exact vis_of hv) p1 p2
    · split at h
      · rename_i hg
        obtain ⟨d, e1, rfl⟩ := Option.map_eq_some_iff.mp h
        obtain ⟨v, u, e2, r, rd⟩ := g.cs x d e1
        simp only [wpE]
        exact q_con (pe_glob (g.gl hg) e2 r p1) rd
      · cases h
theorem snd_call {n : Nat} (S : Snd n) (g : Good X Γ Φ k) {f : Str} {fp pos : Pos} {a : Expr} {as : List Expr} {ir : Ex} (h : trE (n + 1) Γ (.Call (.Name f fp) (a :: as) [] pos) = some ir) : QE X (.Call (.Name f fp) (a :: as) [] pos) (wpE Φ ir) := by
  simp only [trE] at h
  split at h
  · cases h
  · rename_i hp
    simp only [Bool.or_eq_true, Bool.not_eq_true', not_or, Bool.not_eq_false] at hp
    obtain ⟨p1, p2, p3⟩ := plain_of hp.1
    split at h
    · rename_i hb
      obtain ⟨b, xs, e1, e2, rfl⟩ := two h
      simp only [wpE]
      exact q_bi g.calm g.gd g.units e1 (g.gl hp.2) (g.bs f (by simpa using hb)) (S.a g e2) p3 p1 (star_cons (trA_star e2)) (trA_tail e2)
    · obtain ⟨fi, xs, hf, e2, rfl⟩ := two h
      simp only [wpE]
      cases hsp : Φ fi with
      | none => exact ⟨fun pins s σ H Q I ⟨_, _, _, _, _, ⟨sp, z, _⟩, _⟩ => by cases z⟩
      | some sp =>
        obtain ⟨ad, fd, ps, m1, m2, m3, m4, m5⟩ := g.fs f fi sp hf hsp
        exact (q_call m4 g.room g.gd m5 (g.gl hp.2) m1 m2 m3 (S.a g e2) p1 (star_cons (trA_star e2)) (trA_tail e2)).weak fun σ H Q ⟨env, S, Qd, re, so, ⟨sp', z, h⟩, l⟩ => by
          cases z
          exact ⟨env, S, Qd, re, so, h, l⟩
theorem mtOf_inv {x : Str} {m : Mt} (h : mtOf x = some m) : (x = "append" ∧ m = .append) ∨ (x = "extend" ∧ m = .extend) ∨ (x = "pop" ∧ m = .pop) ∨ (x = "join" ∧ m = .join) ∨ (x = "count" ∧ m = .count) := by
  unfold mtOf at h
  by_cases e0 : x = "append"
  · rw [if_pos e0] at h; cases h; exact .inl ⟨e0, rfl⟩
  rw [if_neg e0] at h
  by_cases e1 : x = "extend"
  · rw [if_pos e1] at h; cases h; exact .inr (.inl ⟨e1, rfl⟩)
  rw [if_neg e1] at h
  by_cases e2 : x = "pop"
  · rw [if_pos e2] at h; cases h; exact .inr (.inr (.inl ⟨e2, rfl⟩))
  rw [if_neg e2] at h
  by_cases e3 : x = "join"
  · rw [if_pos e3] at h; cases h; exact .inr (.inr (.inr (.inl ⟨e3, rfl⟩)))
  rw [if_neg e3] at h
  by_cases e4 : x = "count"
  · rw [if_pos e4] at h; cases h; exact .inr (.inr (.inr (.inr ⟨e4, rfl⟩)))
  rw [if_neg e4] at h
  cases h
theorem snd_mt {n : Nat} (S : Snd n) (g : Good X Γ Φ k) {o : Expr} {m : Str} {ap pos : Pos} {as : List Expr} {ir : Ex} (h : trE (n + 1) Γ (.Call (.Attribute o m ap) as [] pos) = some ir) : QE X (.Call (.Attribute o m ap) as [] pos) (wpE Φ ir) := by
  simp only [trE] at h
  split at h
  · cases h
  · rename_i hp
    simp only [Bool.or_eq_true, Bool.not_eq_true', not_or, Bool.not_eq_false, Bool.not_eq_true, decide_eq_false_iff_not, Classical.not_not] at hp
    obtain ⟨⟨h1, h2⟩, h3⟩ := hp
    obtain ⟨mm, x, xs, e1, e2, e3, rfl⟩ := three h
    simp only [wpE]
    have hb := base_of (attr := m) (env := X.env) (whole := eval o X.env) h1
    cases as with
    | nil =>
      have ex : xs = .nil := by
        cases n with
        | zero => simp [trA] at e3
        | succ n => simp only [trA] at e3; cases e3; rfl
      subst ex
      simp only [wpA]
      rcases mtOf_inv e1 with ⟨rfl, rfl⟩ | ⟨rfl, rfl⟩ | ⟨rfl, rfl⟩ | ⟨rfl, rfl⟩ | ⟨rfl, rfl⟩
      · exact q_m0 PySem.F.plainAttrs_list PySem.F.slot_list_append PySem.F.type_list_append appD_ok rfl (S.e g e2) hb h2
      · exact q_m0 PySem.F.plainAttrs_list PySem.F.slot_list_extend PySem.F.type_list_extend extD_ok rfl (S.e g e2) hb h2
      · exact q_m0 PySem.F.plainAttrs_list PySem.F.slot_list_pop PySem.F.type_list_pop popD_ok rfl (S.e g e2) hb h2
      · exact q_m0 PySem.F.plainAttrs_str PySem.F.slot_str_join PySem.F.type_str_join joinD_ok rfl (S.e g e2) hb h2
      · exact q_m0 PySem.F.plainAttrs_str PySem.F.slot_str_count PySem.F.type_str_count countD_ok rfl (S.e g e2) hb h2
    | cons a as =>
      have few : ((backTo pos (starEach (a :: as) X.env)).all (fun x => !x.1) && (backToKw pos (keywordEach [] X.env)).all (fun x => x.1.isSome) && decide ((a :: as).length + ([] : List Keyword).length + (if ([] : List Keyword).isEmpty then 0 else 1) < 30)) = true := by
        rw [trA_all e3]
        show (true && true && decide _) = true
        rw [decide_eq_true (by show (a :: as).length + 0 + 0 < 30; omega)]
        rfl
      have s1 := star_cons (es := as) (env := X.env) (trA_star e3)
      have s2 := trA_tail (env := X.env) (pos := pos) e3
      rcases mtOf_inv e1 with ⟨rfl, rfl⟩ | ⟨rfl, rfl⟩ | ⟨rfl, rfl⟩ | ⟨rfl, rfl⟩ | ⟨rfl, rfl⟩
      · exact q_m1 PySem.F.plainAttrs_list PySem.F.slot_list_append PySem.F.type_list_append appD_ok rfl (S.e g e2) (S.a g e3) hb few h2 s1 s2
      · exact q_m1 PySem.F.plainAttrs_list PySem.F.slot_list_extend PySem.F.type_list_extend extD_ok rfl (S.e g e2) (S.a g e3) hb few h2 s1 s2
      · exact q_m1 PySem.F.plainAttrs_list PySem.F.slot_list_pop PySem.F.type_list_pop popD_ok rfl (S.e g e2) (S.a g e3) hb few h2 s1 s2
      · exact q_m1 PySem.F.plainAttrs_str PySem.F.slot_str_join PySem.F.type_str_join joinD_ok rfl (S.e g e2) (S.a g e3) hb few h2 s1 s2
      · exact q_m1 PySem.F.plainAttrs_str PySem.F.slot_str_count PySem.F.type_str_count countD_ok rfl (S.e g e2) (S.a g e3) hb few h2 s1 s2
end
end G57
set_option Elab.async false
set_option linter.all false
set_option maxRecDepth 100000
set_option maxHeartbeats 2000000
namespace G57
open PySem L2 PySem.Spec PyProof.Rows
section
variable {X : Cx} {Γ : Gam} {Φ : Tab} {k : Nat}
theorem snd_bool {n : Nat} (S : Snd n) (g : Good X Γ Φ k) {op : BoolOp} {es : List Expr} {p : Pos} {ir : Ex} (h : trE (n + 1) Γ (.BoolOp op es p) = some ir) : QE X (.BoolOp op es p) (wpE Φ ir) := by
  cases op with
  | And =>
    match es, h with
    | [a, b], h =>
      simp only [trE] at h
      obtain ⟨x, y, e1, e2, rfl⟩ := two h
      simp only [wpE]
      exact q_and (S.e g e1) (pe_one (S.e g e2))
    | a :: b :: c :: r, h =>
      simp only [trE] at h
      obtain ⟨x, y, e1, e2, rfl⟩ := two h
      simp only [wpE]
      exact q_and (S.e g e1) (S.e g e2)
    | [], h => simp [trE] at h
    | [a], h => simp [trE] at h
  | Or =>
    match es, h with
    | [a, b], h =>
      simp only [trE] at h
      obtain ⟨x, y, e1, e2, rfl⟩ := two h
      simp only [wpE]
      exact q_or (S.e g e1) (pe_one (S.e g e2))
    | a :: b :: c :: r, h =>
      simp only [trE] at h
      obtain ⟨x, y, e1, e2, rfl⟩ := two h
      simp only [wpE]
      exact q_or (S.e g e1) (S.e g e2)
    | [], h => simp [trE] at h
    | [a], h => simp [trE] at h
theorem snd_boolw {n : Nat} (S : Snd n) (g : Good X Γ Φ k) {op : BoolOp} {es : List Expr} {p : Pos} {ir : Ex} (h : trE (n + 1) Γ (.BoolOp op es p) = some ir) : QW X (.BoolOp op es p) (wpT Φ ir) := by
  cases op with
  | And =>
    match es, h with
    | [a, b], h =>
      simp only [trE] at h
      obtain ⟨x, y, e1, e2, rfl⟩ := two h
      simp only [wpT]
      exact qw_and (S.t g e1) (qw_and1 (S.t g e2))
    | a :: b :: c :: r, h =>
      simp only [trE] at h
      obtain ⟨x, y, e1, e2, rfl⟩ := two h
      simp only [wpT]
      exact qw_and (S.t g e1) (S.w g e2)
    | [], h => simp [trE] at h
    | [a], h => simp [trE] at h
  | Or =>
    match es, h with
    | [a, b], h =>
      simp only [trE] at h
      obtain ⟨x, y, e1, e2, rfl⟩ := two h
      simp only [wpT]
      exact qw_or (S.t g e1) (qw_or1 (S.t g e2))
    | a :: b :: c :: r, h =>
      simp only [trE] at h
      obtain ⟨x, y, e1, e2, rfl⟩ := two h
      simp only [wpT]
      exact qw_or (S.t g e1) (S.w g e2)
    | [], h => simp [trE] at h
    | [a], h => simp [trE] at h
theorem cmp_inv {n : Nat} {a : Expr} {ops : List CmpOp} {cs : List Expr} {p : Pos} {ir : Ex} (h : trE (n + 1) Γ (.Compare a ops cs p) = some ir) :
    (∃ op b x y, ops = [op] ∧ cs = [b] ∧ setish b = false ∧ trE n Γ a = some x ∧ trE n Γ b = some y ∧ ir = .cmp op x y) ∨
    (∃ o1 o2 b c x y z, ops = [o1, o2] ∧ cs = [b, c] ∧ setish c = false ∧ trE n Γ a = some x ∧ trE n Γ b = some y ∧ trE n Γ c = some z ∧ ir = .chain o1 o2 x y z) := by
  match ops, cs, h with
  | [op], [b], h =>
    simp only [trE] at h
    split at h
    · cases h
    · rename_i hz
      obtain ⟨x, y, e1, e2, rfl⟩ := two h
      exact .inl ⟨op, b, x, y, rfl, rfl, by simpa using hz, e1, e2, rfl⟩
  | [o1, o2], [b, c], h =>
    simp only [trE] at h
    split at h
    · cases h
    · rename_i hz
      simp only [Bool.or_eq_true, not_or, Bool.not_eq_true] at hz
      obtain ⟨x, y, z, e1, e2, e3, rfl⟩ := three h
      exact .inr ⟨o1, o2, b, c, x, y, z, rfl, rfl, hz.2, e1, e2, e3, rfl⟩
  | [], _, h => simp [trE] at h
  | [_], [], h => simp [trE] at h
  | [_], _ :: _ :: _, h => simp [trE] at h
  | [_, _], [], h => simp [trE] at h
  | [_, _], [_], h => simp [trE] at h
  | [_, _], _ :: _ :: _ :: _, h => simp [trE] at h
  | _ :: _ :: _ :: _, _, h => simp [trE] at h
theorem sub_inv {n : Nat} {a b : Expr} {p : Pos} {ir : Ex} (h : trE (n + 1) Γ (.Subscript a b p) = some ir) :
    (∃ lo hi p2 x y z, b = .Slice lo hi none p2 ∧ trE n Γ a = some x ∧ trO n Γ lo = some y ∧ trO n Γ hi = some z ∧ ir = .sl x y z) ∨
    (∃ x y, trE n Γ a = some x ∧ trE n Γ b = some y ∧ ir = .idx x y) := by
  cases b with
  | Slice lo hi st p2 =>
    cases st with
    | none =>
      simp only [trE] at h
      obtain ⟨x, y, z, e1, e2, e3, rfl⟩ := three h
      exact .inl ⟨lo, hi, p2, x, y, z, rfl, e1, e2, e3, rfl⟩
    | some s =>
      simp only [trE] at h
      obtain ⟨x, y, e1, e2, rfl⟩ := two h
      exact .inr ⟨x, y, e1, e2, rfl⟩
  | _ =>
    simp only [trE] at h
    obtain ⟨x, y, e1, e2, rfl⟩ := two h
    exact .inr ⟨x, y, e1, e2, rfl⟩
theorem snd_lc {n : Nat} (S : Snd n) (g : Good X Γ Φ k) {e : Expr} {gs : List Comprehension} {scope : Scope} {p : Pos} {ir : Ex} (h : trE (n + 1) Γ (.ListComp e gs scope p) = some ir) : QE X (.ListComp e gs scope p) (wpE Φ ir) := by
  match gs, h with
  | [], h => simp [trE] at h
  | _ :: _ :: _, h => simp [trE] at h
  | [⟨tg, it, ifs, as⟩], h =>
    by_cases ha : as = 0
    · subst ha
      simp only [trE] at h
      split at h
      · cases h
      · rename_i hs
        obtain ⟨o, p', i', c', x', e1, e2, e3, e4, e5, hb, rfl⟩ := lc_inv h
        have ok : BlkOk X.N X.env.scope scope o := by rw [g.hN, g.sc]; exact blkOk_by hb
        simp only [wpE]
        exact q_lc g.calm (by rw [g.hN]; exact g.nd) (S.i g e3) ok (own_places n (Γ := Γ) (Δ := blk Γ scope) rfl e2 e1) (fun s H C cl fp => pt_snd n (good_blk g ok s H C cl fp) e2) (fun s H C cl fp => S.c (good_blk g ok s H C cl fp) e4)
          (fun s H C cl fp => S.e (good_blk g ok s H C cl fp) e5) (folded_of (by simpa using hs))
    · exfalso
      unfold trE at h
      split at h <;> simp_all
theorem snd_e {n : Nat} (S : Snd n) (g : Good X Γ Φ k) {e : Expr} {ir : Ex} (h : trE (n + 1) Γ e = some ir) : QE X e (wpE Φ ir) := by
  cases e with
  | Name x p => exact snd_name g h
  | BoolOp op es p => exact snd_bool S g h
  | BinOp a op b p =>
    simp only [trE] at h
    obtain ⟨x, y, e1, e2, rfl⟩ := two h
    simp only [wpE]
    exact q_bin (opD_ok op) (S.e g e1) (S.e g e2)
  | UnaryOp op a p =>
    cases op with
    | USub =>
      simp only [trE] at h
      obtain ⟨x, e1, rfl⟩ := Option.map_eq_some_iff.mp h
      simp only [wpE]
      exact q_neg (S.e g e1)
    | Not =>
      simp only [trE] at h
      obtain ⟨x, e1, rfl⟩ := Option.map_eq_some_iff.mp h
      simp only [wpE]
      exact q_not (S.e g e1)
    | _ => simp [trE] at h
  | Constant c j p =>
    cases c with
    | int i => simp only [trE] at h; cases h; simp only [wpE]; exact q_con pe_int fun H => .int
    | bool i => simp only [trE] at h; cases h; simp only [wpE]; exact q_con pe_bl fun H => .bl
    | none => simp only [trE] at h; cases h; simp only [wpE]; exact q_con pe_non fun H => .non
    | str i => simp only [trE] at h; cases h; simp only [wpE]; exact q_con pe_str fun H => by simp only [Rep]
    | _ => simp [trE] at h
  | Compare a ops cs p =>
    rcases cmp_inv h with ⟨op, b, x, y, rfl, rfl, hs, e1, e2, rfl⟩ | ⟨o1, o2, b, c, x, y, z, rfl, rfl, hs, e1, e2, e3, rfl⟩
    · simp only [wpE]
      exact q_cmp (cmpD_ok g.units op) (S.e g e1) (S.e g e2) (marks_of hs)
    · simp only [wpE]
      exact q_chain g.units (S.e g e1) (S.e g e2) (S.e g e3) (lmarks_of hs)
  | IfExp c a b p =>
    simp only [trE] at h
    obtain ⟨x, y, z, e1, e2, e3, rfl⟩ := three h
    simp only [wpE]
    exact q_ite (S.t g e1) (S.e g e2) (S.e g e3)
  | Call f as ks p =>
    cases ks with
    | cons _ _ => cases f <;> simp [trE] at h
    | nil =>
      cases f with
      | Name f fp =>
        cases as with
        | nil => simp [trE] at h
        | cons a as => exact snd_call S g h
      | Attribute o m ap => exact snd_mt S g h
      | _ => simp [trE] at h
  | Tuple es kk p =>
    simp only [trE] at h
    obtain ⟨x, e1, rfl⟩ := Option.map_eq_some_iff.mp h
    simp only [wpE]
    exact q_tup (S.a g e1)
  | List es p =>
    simp only [trE] at h
    obtain ⟨x, e1, rfl⟩ := Option.map_eq_some_iff.mp h
    simp only [wpE]
    exact q_lst (S.a g e1)
  | Subscript a b p =>
    rcases sub_inv h with ⟨lo, hi, p2, x, y, z, rfl, e1, e2, e3, rfl⟩ | ⟨x, y, e1, e2, rfl⟩
    · simp only [wpE]
      exact q_sl (S.e g e1) (S.o g e2) (S.o g e3)
    · simp only [wpE]
      exact q_idx (S.e g e1) (S.e g e2) (plainIx_of e2)
  | ListComp e gs scope p => exact snd_lc S g h
  | JoinedStr es p =>
    match es, h with
    | [], h => simp [trE] at h
    | [_], h => simp [trE] at h
    | a :: b :: r, h =>
      simp only [trE] at h
      obtain ⟨x, e1, rfl⟩ := Option.map_eq_some_iff.mp h
      simp only [wpE]
      exact q_fs (S.j g e1)
  | _ => simp [trE] at h
theorem snd_t {n : Nat} (S : Snd n) (g : Good X Γ Φ k) {e : Expr} {ir : Ex} (h : trE (n + 1) Γ e = some ir) : QT X e (wpT Φ ir) := by
  cases e with
  | Name x p =>
    have q := snd_name g h
    simp only [trE] at h
    split at h
    · cases h
    · split at h
      · obtain ⟨i, e1, rfl⟩ := Option.map_eq_some_iff.mp h
        simp only [wpE] at q
        simp only [wpT]
        refine (qt_truth q fun _ => rfl).weak fun σ H Q ⟨env, S, Qd, re, so, ⟨d, e, h⟩, l⟩ => ⟨env, S, Qd, re, so, ⟨d, e, h⟩, l⟩
      · split at h
        · obtain ⟨i, e1, rfl⟩ := Option.map_eq_some_iff.mp h
          simp only [wpT]
          exact no_t
        · cases h
  | BoolOp op es p => exact (snd_boolw S g h).pt
  | UnaryOp op a p =>
    cases op with
    | USub =>
      simp only [trE] at h
      obtain ⟨x, e1, rfl⟩ := Option.map_eq_some_iff.mp h
      simp only [wpT]
      exact no_t
    | Not =>
      simp only [trE] at h
      obtain ⟨x, e1, rfl⟩ := Option.map_eq_some_iff.mp h
      simp only [wpT]
      exact qt_not (S.t g e1)
    | _ => simp [trE] at h
  | Compare a ops cs p =>
    rcases cmp_inv h with ⟨op, b, x, y, rfl, rfl, hs, e1, e2, rfl⟩ | ⟨o1, o2, b, c, x, y, z, rfl, rfl, hs, e1, e2, e3, rfl⟩
    · simp only [wpT]
      exact qt_cmp g.units (S.e g e1) (S.e g e2) (marks_of hs)
    · simp only [wpT]
      exact qt_chain g.units (S.e g e1) (S.e g e2) (S.e g e3) (lmarks_of hs)
  | Call f as ks p =>
    cases ks with
    | cons _ _ => cases f <;> simp [trE] at h
    | nil =>
      cases f with
      | Name f fp =>
        cases as with
        | nil => simp [trE] at h
        | cons a as =>
          have q := snd_call S g h
          simp only [trE] at h
          split at h
          · cases h
          · split at h
            · obtain ⟨b, xs, e1, e2, rfl⟩ := two h
              simp only [wpE] at q
              simp only [wpT]
              exact qt_truth q fun _ => rfl
            · obtain ⟨fi, xs, hf, e2, rfl⟩ := two h
              simp only [wpE] at q
              simp only [wpT]
              exact (qt_truth q fun _ => rfl).weak fun σ H Q ⟨env, S, Qd, re, so, ⟨sp, e, h⟩, l⟩ => ⟨env, S, Qd, re, so, ⟨sp, e, h⟩, l⟩
      | Attribute o m ap =>
        simp only [trE] at h
        split at h
        · cases h
        · obtain ⟨mm, x, xs, e1, e2, e3, rfl⟩ := three h
          simp only [wpT]
          exact no_t
      | _ => simp [trE] at h
  | Subscript a b p =>
    have q := snd_e S g h
    rcases sub_inv h with ⟨lo, hi, p2, x, y, z, rfl, e1, e2, e3, rfl⟩ | ⟨x, y, e1, e2, rfl⟩
    · simp only [wpT]
      exact no_t
    · simp only [wpE] at q
      simp only [wpT]
      exact qt_truth q fun _ => rfl
  | Constant c j p => cases c <;> simp only [trE] at h <;> first | (cases h; simp only [wpT]; exact no_t) | cases h
  | BinOp a op b p =>
    simp only [trE] at h
    obtain ⟨x, y, e1, e2, rfl⟩ := two h
    simp only [wpT]
    exact no_t
  | IfExp c a b p =>
    simp only [trE] at h
    obtain ⟨x, y, z, e1, e2, e3, rfl⟩ := three h
    simp only [wpT]
    exact no_t
  | Tuple es kk p =>
    simp only [trE] at h
    obtain ⟨x, e1, rfl⟩ := Option.map_eq_some_iff.mp h
    simp only [wpT]
    exact no_t
  | List es p =>
    simp only [trE] at h
    obtain ⟨x, e1, rfl⟩ := Option.map_eq_some_iff.mp h
    simp only [wpT]
    exact no_t
  | ListComp e gs scope p =>
    unfold trE at h
    split at h <;> try (cases h)
    all_goals (try split at h) <;> try cases h
    all_goals (first | (obtain ⟨o, p', i', c', x', e1, e2, e3, e4, e5, hb, rfl⟩ := lc_inv h; simp only [wpT]; exact no_t) | simp_all)
  | JoinedStr es p =>
    match es, h with
    | [], h => simp [trE] at h
    | [_], h => simp [trE] at h
    | a :: b :: r, h =>
      simp only [trE] at h
      obtain ⟨x, e1, rfl⟩ := Option.map_eq_some_iff.mp h
      simp only [wpT]
      exact no_t
  | _ => simp [trE] at h
end
end G57
set_option Elab.async false
set_option linter.all false
set_option maxRecDepth 100000
set_option maxHeartbeats 2000000
namespace G57
open PySem L2 PySem.Spec PyProof.Rows
section
variable {X : Cx} {Γ : Gam} {Φ : Tab} {k : Nat}
theorem snd_i {n : Nat} (S : Snd n) (g : Good X Γ Φ k) {tg e : Expr} {ir : Ex} (h : trI (n + 1) Γ (tupleT tg) e = some ir) : QI X tg e (wpI Φ ir) := by
  have gen : ∀ {x}, trE n Γ e = some x → QI X tg e (wpI Φ (.iE x)) := fun {x} e1 => by
    simp only [wpI]
    exact qi_E (S.e g e1)
  have isT : ∀ {b : Bool}, (tupleT tg && b) = true → ∃ es kk p, tg = .Tuple es kk p := fun {b} hb => by
    cases tg <;> first | exact ⟨_, _, _, rfl⟩ | (simp [tupleT] at hb)
  simp only [trI] at h
  split at h
  · rename_i f fp a pos
    split at h
    · rename_i ef
      subst ef
      split at h
      · rename_i hc
        simp only [Bool.and_eq_true, Bool.not_eq_true'] at hc
        obtain ⟨x, e1, rfl⟩ := Option.map_eq_some_iff.mp h
        simp only [wpI]
        exact qi_R1 (g.gl hc.1.1) (g.bs _ (by simpa using hc.1.2)) (S.e g e1) (star_cons hc.2)
      · cases h
    · split at h
      · rename_i ef
        subst ef
        split at h
        · rename_i hc
          simp only [Bool.and_eq_true, Bool.not_eq_true'] at hc
          obtain ⟨es, kk, p, rfl⟩ := isT (b := true) (by rw [hc.1.1.1]; rfl)
          obtain ⟨x, e1, rfl⟩ := Option.map_eq_some_iff.mp h
          simp only [wpI]
          exact qi_N2 (g.gl hc.1.1.2) (g.bs _ (by simpa using hc.1.2)) (S.e g e1) (star_cons hc.2)
        · cases h
      · obtain ⟨x, e1, rfl⟩ := Option.map_eq_some_iff.mp h
        exact gen e1
  · rename_i f fp a b pos
    split at h
    · rename_i ef
      subst ef
      split at h
      · rename_i hc
        simp only [Bool.and_eq_true, Bool.not_eq_true'] at hc
        obtain ⟨x, y, e1, e2, rfl⟩ := two h
        simp only [wpI]
        exact qi_R2 (g.gl hc.1.1.1) (g.bs _ (by simpa using hc.1.1.2)) (S.e g e1) (S.e g e2) (star_cons hc.1.2) (star_cons hc.2)
      · cases h
    · split at h
      · rename_i ef
        subst ef
        split at h
        · rename_i hc
          simp only [Bool.and_eq_true, Bool.not_eq_true'] at hc
          obtain ⟨es, kk, p, rfl⟩ := isT (b := true) (by rw [hc.1.1.1.1]; rfl)
          obtain ⟨x, y, e1, e2, rfl⟩ := two h
          simp only [wpI]
          exact qi_Z2 (g.gl hc.1.1.1.2) (g.bs _ (by simpa using hc.1.1.2)) (S.e g e1) (S.e g e2) (star_cons hc.1.2) (star_cons hc.2)
        · cases h
      · obtain ⟨x, e1, rfl⟩ := Option.map_eq_some_iff.mp h
        exact gen e1
  · obtain ⟨x, e1, rfl⟩ := Option.map_eq_some_iff.mp h
    exact gen e1
theorem snd_j {n : Nat} (S : Snd n) (g : Good X Γ Φ k) {es : List Expr} {ir : Ex} (h : trJ (n + 1) Γ es = some ir) : QJ X es (wpJ Φ ir) := by
  cases es with
  | nil => simp only [trJ] at h; cases h; simp only [wpJ]; exact qj_nil
  | cons e es =>
    cases e with
    | FormattedValue e cv sp p =>
      by_cases hc : cv = -1
      · subst hc
        cases sp with
        | none =>
          simp only [trJ] at h
          obtain ⟨x, y, e1, e2, rfl⟩ := two h
          simp only [wpJ]
          exact qj_cons (q_fmt (S.e g e1)) (S.j g e2)
        | some s => simp [trJ] at h
      · exfalso
        unfold trJ at h
        split at h <;> simp_all
    | Constant c j p =>
      cases c with
      | str x =>
        simp only [trJ] at h
        obtain ⟨y, e1, rfl⟩ := Option.map_eq_some_iff.mp h
        simp only [wpJ, wpE]
        refine qj_cons (te := fun env S Q => Q (.str x.cps.toList) S) ?_ (S.j g e1)
        exact (q_con (d := .str x.cps.toList) pe_str fun H => by simp only [Rep]).weak fun σ H Q ⟨env, S, Qd, re, so, h, l⟩ => ⟨env, S, Qd, re, so, h.2, l⟩
      | _ => simp [trJ] at h
    | _ => simp [trJ] at h
end
theorem snd : ∀ n, Snd n
  | 0 => ⟨fun _ h => by simp [trE] at h, fun _ h => by simp [trE] at h, fun _ h => by simp [trE] at h, fun _ h => by simp [trA] at h, fun _ h => by simp [trO] at h, fun _ h => by simp [trC] at h, fun _ h => by simp [trI] at h, fun _ h => by simp [trJ] at h⟩
  | n + 1 => by
    have S := snd n
    refine ⟨fun g h => snd_e S g h, fun g h => snd_t S g h, fun g h => snd_boolw S g h, fun {X Γ Φ k es ir} g h => ?_, fun {X Γ Φ k e ir} g h => ?_, fun {X Γ Φ k es ir} g h => ?_, fun g h => snd_i S g h, fun g h => snd_j S g h⟩
    · cases es with
      | nil => simp only [trA] at h; cases h; simp only [wpA]; exact q_nil
      | cons e es =>
        have hs := trA_star h
        simp only [trA, hs, Bool.false_eq_true, if_false] at h
        obtain ⟨x, y, e1, e2, rfl⟩ := two h
        simp only [wpA]
        exact q_cons (S.e g e1) (S.a g e2) (star_cons hs)
    · cases e with
      | none => simp only [trO] at h; cases h; simp only [wpO]; exact q_on
      | some e =>
        simp only [trO] at h
        obtain ⟨x, e1, rfl⟩ := Option.map_eq_some_iff.mp h
        simp only [wpO]
        exact q_os (S.e g e1)
    · match es, h with
      | [], h => simp only [trC] at h; cases h; simp only [wpC]; exact q_yes
      | [c], h =>
        simp only [trC] at h
        obtain ⟨x, e1, rfl⟩ := Option.map_eq_some_iff.mp h
        simp only [wpC]
        exact pts_one (S.t g e1)
      | _ :: _ :: _, h => simp [trC] at h
/-! ### statements -/
def compish : Expr → Bool
  | .ListComp _ _ _ _ | .SetComp _ _ _ _ | .DictComp _ _ _ _ _ => true
  | _ => false
def nameLc : Expr → Expr → Bool
  | .Name _ _, .ListComp _ _ _ _ => true
  | _, _ => false
def sliceish : Expr → Bool
  | .Slice _ _ _ _ => true
  | _ => false
def nameAt (sc : Scope) (line : Nat) : Expr → Option Str
  | .Name id pos => if sc.names.lookup id == some .local && pos.line == line then some id else none
  | _ => none
/-- do the names of a display take the display's values without a tuple between? -/
def swapN (sc : Scope) (ts vs : List Expr) : Option (List Str) :=
  if !(ts.length == 2 || ts.length == 3) || vs.length != ts.length then none
  else if vs.any starry then none
  else
    let names := ts.filterMap (nameAt sc ((ts.head?.map (·.pos.line)).getD 0))
    if names.length != ts.length || names.eraseDups.length != names.length then none
    else if vs.all (foldedForSure 8) then none
    else some names
mutual
def trS : Nat → Gam → Stmt → Option Sx
  | 0, _, _ => none
  | n + 1, Γ, .Assign [.Subscript o i _] e _ => if compish e || sliceish i then none else opt3 (trE n Γ o) (trE n Γ i) (trE n Γ e) fun o i e => .set o i e
  | n + 1, Γ, .Assign [.Tuple ts _ _] (.Tuple vs k p) _ => match swapN Γ.sc ts vs with
    | none => opt2 (ptOf n Γ (.Tuple ts 0 p)) (trE n Γ (.Tuple vs k p)) fun p e => .asg p e
    | some _ => if vs.all (constantsAlone 8) then none else opt2 (ptOf n Γ (.Tuple ts 0 p)) (trE n Γ (.Tuple vs k p)) fun p e => .asg p e
  | n + 1, Γ, .Assign [tg] e _ => if compish e && !tupleT tg && !nameLc tg e then none else opt2 (ptOf n Γ tg) (trE n Γ e) fun p e => .asg p e
  | n + 1, Γ, .Expr e _ => if compish e then none else (trE n Γ e).map .ex
  | n + 1, Γ, .Return (some e) _ => (trE n Γ e).map .ret
  | n + 1, Γ, .If c a b _ => opt3 (trE n Γ c) (trB n Γ a) (trB n Γ b) fun c a b => .iff c a b
  | n + 1, Γ, .For tg it b [] _ => if setish it then none else opt3 (ptOf n Γ tg) (trI n Γ (tupleT tg) it) (trB n Γ b) fun p i b => .loop p i b
  | n + 1, Γ, .While c b [] _ => opt2 (trE n Γ c) (trB n Γ b) fun c b => .wh c b
  | n + 1, _, .Break _ => some .brk
  | n + 1, _, .Continue _ => some .cnt
  | n + 1, _, .Pass _ => some .pass
  | _, _, _ => none
def trB : Nat → Gam → List Stmt → Option Sx
  | 0, _, _ => none
  | n + 1, _, [] => some .nil
  | n + 1, Γ, s :: r => opt2 (trS n Γ s) (trB n Γ r) fun a b => .cons a b
end
end G57
set_option Elab.async false
set_option linter.all false
set_option maxRecDepth 100000
set_option maxHeartbeats 2000000
namespace G57
open PySem L2 PySem.Spec PyProof.Rows
theorem ptOf_tup {n : Nat} {Γ : Gam} {es : List Expr} {a c : Nat} {b d : Pos} : ptOf n Γ (.Tuple es a b) = ptOf n Γ (.Tuple es c d) := by cases n <;> rfl
theorem sole_plain {tg e : Expr} {l : Nat} {env : Env} (h : compish e = false) : swapsWithSole [tg] e l env = pure false := by
  cases e <;> first | rfl | (simp [compish] at h)
theorem none_plain {e : Expr} {l : Nat} {env : Env} (h : compish e = false) : swapsWith e none l env = pure false := by
  cases e <;> first | rfl | (simp [compish] at h)
theorem sole_tup {es : List Expr} {k : Nat} {p : Pos} {e : Expr} {l : Nat} {env : Env} : swapsWithSole [.Tuple es k p] e l env = pure false := by
  cases e <;> rfl
theorem stores_name {x : Str} {p : Pos} {e : Expr} {env : Env} : swappedStores [.Name x p] e env = pure none := by cases e <;> rfl
theorem stores_sub {o i : Expr} {p : Pos} {e : Expr} {env : Env} : swappedStores [.Subscript o i p] e env = pure none := by cases e <;> rfl
theorem stores_tup {es : List Expr} {k : Nat} {p : Pos} {e : Expr} {env : Env} (h : tupleT e = false) : swappedStores [.Tuple es k p] e env = pure none := by
  cases e <;> first | rfl | (simp [tupleT] at h)
theorem star_fun : (fun e : Expr => match e with | .Starred .. => true | _ => false) = starry := by
  funext e; cases e <;> rfl
theorem stores_eq {ts vs : List Expr} {k k2 : Nat} {p p2 : Pos} {env : Env} (hk : env.scope.kind = .function) :
    (swapN env.scope ts vs = none → swappedStores [.Tuple ts k p] (.Tuple vs k2 p2) env = pure none) ∧
    (∀ names, swapN env.scope ts vs = some names → vs.all (constantsAlone 8) = false → swappedStores [.Tuple ts k p] (.Tuple vs k2 p2) env = pure (some names)) := by
  have hb : (env.blockKind != .function) = false := by unfold Env.blockKind; rw [hk]; rfl
  generalize hm : swappedStores [.Tuple ts k p] (.Tuple vs k2 p2) env = m
  unfold swappedStores at hm
  simp only [hb, Bool.or_false] at hm
  generalize hF : List.any vs _ = b2 at hm
  generalize hG : List.filterMap _ ts = nm at hm
  have hF' : vs.any starry = b2 := by
    rw [← hF]; congr 1
  have hG' : ts.filterMap (nameAt env.scope ((ts.head?.map (·.pos.line)).getD 0)) = nm := by
    rw [← hG]; congr 1
  unfold swapN
  simp only [hF', hG']
  subst hm
  refine ⟨fun h => ?_, fun names h hc => ?_⟩
  · split
    · rfl
    · rename_i c1
      rw [if_neg c1] at h
      split
      · rfl
      · rename_i c2
        rw [if_neg c2] at h
        split
        · rfl
        · rename_i c3
          rw [if_neg c3] at h
          split
          · rfl
          · rename_i c4
            rw [if_neg c4] at h
            cases h
  · split
    · rename_i c1; rw [if_pos c1] at h; cases h
    · rename_i c1
      rw [if_neg c1] at h
      split
      · rename_i c2; rw [if_pos c2] at h; cases h
      · rename_i c2
        rw [if_neg c2] at h
        split
        · rename_i c3; rw [if_pos c3] at h; cases h
        · rename_i c3
          rw [if_neg c3] at h
          split
          · rename_i c4; rw [if_pos c4] at h; cases h
          · rename_i c4
            rw [if_neg c4] at h
            cases h
            rw [hc]
            rfl
end G57
set_option Elab.async false
set_option linter.all false
set_option maxRecDepth 100000
set_option maxHeartbeats 2000000
namespace G57
open PySem L2 PySem.Spec PyProof.Rows
section
variable {X : Cx} {Γ : Gam} {Φ : Tab} {k : Nat}
theorem Good.nds (g : Good X Γ Φ k) : X.N.Nodup := by rw [g.hN]; exact g.nd
theorem Good.own (g : Good X Γ Φ k) : PassesOwn (model X.prog X.w) X.A X.env X.xe := by rw [g.xe]; exact PassesOwn.never
theorem one_each {tg : Expr} {env : Env} (h : starry tg = false) : (assignEach [tg] env).map (·.2) = [assign tg env] := by rw [each_cons h]; rfl
theorem nameAt_inv {sc : Scope} {l : Nat} {e : Expr} {x : Str} (h : nameAt sc l e = some x) : ∃ p, e = .Name x p ∧ sc.names.lookup x = some .local := by
  cases e <;> simp only [nameAt] at h <;> try (cases h)
  rename_i y p
  split at h
  · rename_i hc
    cases h
    rw [Bool.and_eq_true] at hc
    refine ⟨p, rfl, ?_⟩
    have := hc.1
    generalize sc.names.lookup x = z at this
    revert this
    cases z with
    | none => intro h; cases h
    | some k => cases k <;> first | (intro _; rfl) | (intro h; cases h)
  · cases h
theorem fm_two {sc : Scope} {l : Nat} {t1 t2 : Expr} {names : List Str} (h : [t1, t2].filterMap (nameAt sc l) = names) (hl : names.length = 2) : ∃ x y p q, t1 = .Name x p ∧ t2 = .Name y q ∧ names = [x, y] ∧ sc.names.lookup x = some .local ∧ sc.names.lookup y = some .local := by
  cases h1 : nameAt sc l t1 with
  | none =>
    rw [List.filterMap_cons_none h1] at h
    have := List.length_filterMap_le (nameAt sc l) [t2]
    rw [h, hl] at this
    simp at this
  | some x =>
    rw [List.filterMap_cons_some h1] at h
    cases h2 : nameAt sc l t2 with
    | none => rw [List.filterMap_cons_none h2] at h; subst h; simp at hl
    | some y =>
      rw [List.filterMap_cons_some h2] at h
      obtain ⟨p, e1, l1⟩ := nameAt_inv h1
      obtain ⟨q, e2, l2⟩ := nameAt_inv h2
      exact ⟨x, y, p, q, e1, e2, h.symm, l1, l2⟩
theorem fm_three {sc : Scope} {l : Nat} {t1 t2 t3 : Expr} {names : List Str} (h : [t1, t2, t3].filterMap (nameAt sc l) = names) (hl : names.length = 3) : ∃ x y z p q r, t1 = .Name x p ∧ t2 = .Name y q ∧ t3 = .Name z r ∧ names = [x, y, z] ∧ sc.names.lookup x = some .local ∧ sc.names.lookup y = some .local ∧ sc.names.lookup z = some .local := by
  cases h1 : nameAt sc l t1 with
  | none =>
    rw [List.filterMap_cons_none h1] at h
    have := List.length_filterMap_le (nameAt sc l) [t2, t3]
    rw [h, hl] at this
    simp at this
  | some x =>
    rw [List.filterMap_cons_some h1] at h
    obtain ⟨p, e1, l1⟩ := nameAt_inv h1
    subst h
    obtain ⟨y, z, q, r, e2, e3, e4, l2, l3⟩ := fm_two rfl (by simpa using hl)
    exact ⟨x, y, z, p, q, r, e1, e2, e3, by rw [e4], l1, l2, l3⟩
theorem swapN_inv {sc : Scope} {ts vs : List Expr} {names : List Str} (h : swapN sc ts vs = some names) :
    (ts.length = 2 ∨ ts.length = 3) ∧ vs.length = ts.length ∧ ts.filterMap (nameAt sc ((ts.head?.map (·.pos.line)).getD 0)) = names ∧ names.length = ts.length ∧ names.eraseDups.length = names.length := by
  unfold swapN at h
  split at h
  · cases h
  · rename_i c1
    split at h
    · cases h
    · simp only at h
      split at h
      · cases h
      · rename_i c3
        split at h
        · cases h
        · cases h
          simp only [Bool.or_eq_true, Bool.not_eq_true', bne_iff_ne, ne_eq, not_or, Classical.not_not] at c1 c3
          refine ⟨?_, c1.2, rfl, c3.1, c3.2⟩
          have := c1.1
          simp only [Bool.not_eq_false, Bool.or_eq_true, beq_iff_eq] at this
          exact this
theorem dups_two {x y : Str} (h : [x, y].eraseDups.length = 2) : x ≠ y := by
  intro e
  subst e
  simp [List.eraseDups_cons] at h
theorem dups_three {x y z : Str} (h : [x, y, z].eraseDups.length = 3) : x ≠ y ∧ x ≠ z ∧ y ≠ z := by
  refine ⟨fun e => ?_, fun e => ?_, fun e => ?_⟩
  · subst e
    rw [List.eraseDups_cons] at h
    simp only [List.filter_cons, List.filter_nil, beq_self_eq_true, Bool.not_true, Bool.false_eq_true, if_false] at h
    split at h <;> simp [List.eraseDups_cons] at h
  · subst e
    rw [List.eraseDups_cons] at h
    simp [List.filter_cons] at h
    split at h <;> simp [List.eraseDups_cons] at h
  · subst e
    rw [List.eraseDups_cons] at h
    simp [List.filter_cons] at h
    split at h <;> simp [List.eraseDups_cons] at h
theorem ptOf_name {n : Nat} {x : Str} {p : Pos} {q : Pt} (h : ptOf n Γ (.Name x p) = some q) : ∃ i, vix Γ.N x = some i ∧ q = .v i := by
  cases n with
  | zero => simp [ptOf] at h
  | succ n =>
    simp only [ptOf] at h
    split at h
    · obtain ⟨i, e, rfl⟩ := Option.map_eq_some_iff.mp h
      exact ⟨i, e, rfl⟩
    · cases h
theorem ptOf_two {n : Nat} {x y : Str} {p q r : Pos} {kk : Nat} {w : Pt} (h : ptOf n Γ (.Tuple [.Name x p, .Name y q] kk r) = some w) : ∃ i j, vix Γ.N x = some i ∧ vix Γ.N y = some j ∧ w = .t (.cons (.v i) (.cons (.v j) .nil)) := by
  cases n with
  | zero => simp [ptOf] at h
  | succ n =>
    simp only [ptOf, List.foldr_cons, List.foldr_nil] at h
    cases h1 : ptOf n Γ (.Name x p) with
    | none => rw [h1] at h; simp at h
    | some a =>
      cases h2 : ptOf n Γ (.Name y q) with
      | none => rw [h1, h2] at h; simp at h
      | some b =>
        rw [h1, h2] at h
        obtain ⟨i, e1, rfl⟩ := ptOf_name h1
        obtain ⟨j, e2, rfl⟩ := ptOf_name h2
        simp at h
        exact ⟨i, j, e1, e2, h.symm⟩
theorem ptOf_three {n : Nat} {x y z : Str} {p q r s : Pos} {kk : Nat} {w : Pt} (h : ptOf n Γ (.Tuple [.Name x p, .Name y q, .Name z r] kk s) = some w) : ∃ i j l, vix Γ.N x = some i ∧ vix Γ.N y = some j ∧ vix Γ.N z = some l ∧ w = .t (.cons (.v i) (.cons (.v j) (.cons (.v l) .nil))) := by
  cases n with
  | zero => simp [ptOf] at h
  | succ n =>
    simp only [ptOf, List.foldr_cons, List.foldr_nil] at h
    cases h1 : ptOf n Γ (.Name x p) with
    | none => rw [h1] at h; simp at h
    | some a =>
      cases h2 : ptOf n Γ (.Name y q) with
      | none => rw [h1, h2] at h; simp at h
      | some b =>
        cases h3 : ptOf n Γ (.Name z r) with
        | none => rw [h1, h2, h3] at h; simp at h
        | some c =>
          rw [h1, h2, h3] at h
          obtain ⟨i, e1, rfl⟩ := ptOf_name h1
          obtain ⟨j, e2, rfl⟩ := ptOf_name h2
          obtain ⟨l, e3, rfl⟩ := ptOf_name h3
          simp at h
          exact ⟨i, j, l, e1, e2, e3, h.symm⟩
theorem trA_inv {n : Nat} {e : Expr} {es : List Expr} {ir : Ex} (h : trA n Γ (e :: es) = some ir) : ∃ m x y, trE m Γ e = some x ∧ trA m Γ es = some y ∧ ir = .cons x y := by
  have hs := trA_star h
  cases n with
  | zero => simp [trA] at h
  | succ n =>
    simp only [trA, hs, Bool.false_eq_true, if_false] at h
    obtain ⟨x, y, e1, e2, rfl⟩ := two h
    exact ⟨n, x, y, e1, e2, rfl⟩
theorem trA_nil {n : Nat} {ir : Ex} (h : trA n Γ [] = some ir) : ir = .nil := by
  cases n with
  | zero => simp [trA] at h
  | succ n => simp only [trA] at h; cases h; rfl
theorem vix_ne {N : List Str} {x y : Str} {i j : Nat} (h1 : vix N x = some i) (h2 : vix N y = some j) (hn : x ≠ y) : i ≠ j := fun e => by
  subst e
  have := (vix_get h1).symm.trans (vix_get h2)
  cases this
  exact hn rfl
theorem len_two {a b : D} : (([a, b] : List D).length ≤ 16777216) = True := by simp
theorem snd_par {n : Nat} (g : Good X Γ Φ k) {ts vs : List Expr} {kt k2 : Nat} {pt pt2 pos : Pos} {p : Pt} {e : Ex} {names : List Str} (hw : swapN Γ.sc ts vs = some names) (hc : vs.all (constantsAlone 8) = false)
    (h1 : ptOf n Γ (.Tuple ts kt pt) = some p) (h2 : trE n Γ (.Tuple vs k2 pt2) = some e) : QS X (.Assign [.Tuple ts kt pt] (.Tuple vs k2 pt2) pos) (wpS Φ (.asg p e)) := by
  obtain ⟨hl, hv, hf, hn, hd⟩ := swapN_inv hw
  have sw := (stores_eq (ts := ts) (vs := vs) (k := kt) (k2 := k2) (p := pt) (p2 := pt2) (env := X.env) (by rw [g.sc]; exact g.kd)).2 names (by rw [g.sc]; exact hw) hc
  have h2' : ∃ m as, trA m Γ vs = some as ∧ e = .tup as := by
    cases n with
    | zero => simp [trE] at h2
    | succ n =>
      simp only [trE] at h2
      obtain ⟨x, e1, rfl⟩ := Option.map_eq_some_iff.mp h2
      exact ⟨n, x, e1, rfl⟩
  obtain ⟨m, as, ea, rfl⟩ := h2'
  have lk : ∀ {x : Str}, Γ.sc.names.lookup x = some .local → X.env.scope.names.lookup x = some .local := fun h => by rw [g.sc]; exact h
  have nx : ∀ {x : Str} {i : Nat}, vix Γ.N x = some i → X.N[i]? = some x := fun h => by rw [g.hN]; exact vix_get h
  rcases hl with hl | hl
  · match ts, vs, hl, hv, hf, h1, sw, ea with
    | [t1, t2], [va, vb], _, _, hf, h1, sw, ea =>
      obtain ⟨x, y, px, py, rfl, rfl, rfl, lx, ly⟩ := fm_two hf hn
      obtain ⟨i, j, vi, vj, rfl⟩ := ptOf_two h1
      obtain ⟨m1, x1, r1, f1, f2, rfl⟩ := trA_inv ea
      obtain ⟨m2, x2, r2, f3, f4, rfl⟩ := trA_inv f2
      obtain rfl := trA_nil f4
      refine (qs_par (ta := wpE Φ x1) (tb := wpE Φ x2) g.calm g.nds (nx vi) (nx vj) (vix_ne vi vj (dups_two hd)) (lk lx) (lk ly) (args2 ((snd m1).e g f1) ((snd m2).e g f3) (star_cons (trA_star ea)) (star_cons (trA_star f2))) sw sole_tup).weak fun D' σ H ⟨env, S, E, re, so, h, l⟩ => ⟨env, S, E, re, so, ?_, l⟩
      simp only [wpS, wpE, wpA] at h
      have eq : (fun (v : D) (S1 : Sto) => wpE Φ x2 env S1 fun w S2 => ([v, w] : List D).length ≤ 16777216 ∧ wpP (.t (.cons (.v i) (.cons (.v j) .nil))) (.tup [v, w]) S2 env fun env' => E.nx env' S2) = fun v S1 => wpE Φ x2 env S1 fun w S2 => E.nx ((env.set i (some v)).set j (some w)) S2 := by
        funext v S1
        congr 1
        funext w S2
        simp [wpP, wpPs, seqD]
      rw [eq] at h
      exact h
  · match ts, vs, hl, hv, hf, h1, sw, ea with
    | [t1, t2, t3], [va, vb, vc], _, _, hf, h1, sw, ea =>
      obtain ⟨x, y, z, px, py, pz, rfl, rfl, rfl, rfl, lx, ly, lz⟩ := fm_three hf hn
      obtain ⟨i, j, o, vi, vj, vl, rfl⟩ := ptOf_three h1
      obtain ⟨m1, x1, r1, f1, f2, rfl⟩ := trA_inv ea
      obtain ⟨m2, x2, r2, f3, f4, rfl⟩ := trA_inv f2
      obtain ⟨m3, x3, r3, f5, f6, rfl⟩ := trA_inv f4
      obtain rfl := trA_nil f6
      obtain ⟨d1, d2, d3⟩ := dups_three hd
      refine (qs_par3 (ta := wpE Φ x1) (tb := wpE Φ x2) (tc := wpE Φ x3) g.calm g.nds (nx vi) (nx vj) (nx vl) (vix_ne vi vj d1) (vix_ne vi vl d2) (vix_ne vj vl d3) (lk lx) (lk ly) (lk lz)
        (q_cons ((snd m1).e g f1) (args2 ((snd m2).e g f3) ((snd m3).e g f5) (star_cons (trA_star f2)) (star_cons (trA_star f4))) (star_cons (trA_star ea))) sw sole_tup).weak fun D' σ H ⟨env, S, E, re, so, h, l⟩ => ⟨env, S, E, re, so, ?_, l⟩
      simp only [wpS, wpE, wpA] at h
      have eq : (fun (v : D) (S1 : Sto) => wpE Φ x2 env S1 fun w S2 => wpE Φ x3 env S2 fun w' S3 => ([v, w, w'] : List D).length ≤ 16777216 ∧ wpP (.t (.cons (.v i) (.cons (.v j) (.cons (.v o) .nil)))) (.tup [v, w, w']) S3 env fun env' => E.nx env' S3) = fun v S1 => wpE Φ x2 env S1 fun w S2 => wpE Φ x3 env S2 fun w' S3 => E.nx (((env.set i (some v)).set j (some w)).set o (some w')) S3 := by
        funext v S1
        congr 1
        funext w S2
        congr 1
        funext w' S3
        simp [wpP, wpPs, seqD]
      rw [eq] at h
      exact h
end
end G57
set_option Elab.async false
set_option linter.all false
set_option maxRecDepth 100000
set_option maxHeartbeats 2000000
namespace G57
open PySem L2 PySem.Spec PyProof.Rows
section
variable {X : Cx} {Γ : Gam} {Φ : Tab} {k : Nat}
theorem sw_lc {e : Expr} {gs : List Comprehension} {scope : Scope} {lp py : Pos} {y : Str} {l : Nat} {env : Env} (hk : env.scope.kind = .function) :
    swapsWith (.ListComp e gs scope lp) (some (.Name y py)) l env = pure (env.scope.names.lookup y == some .local && py.line == lp.line && !(scope.names.any fun (n, k) => n == y && (k == .local || k == .cell))) := by
  have hb : env.blockKind = .function := by unfold Env.blockKind; rw [hk]; rfl
  unfold swapsWith
  simp only [hb, Expr.pos]
  rfl
theorem loc_eq {z : Option NameKind} (h : (z == some NameKind.local) = true) : z = some .local := by
  cases z with
  | none => cases h
  | some k => cases k <;> first | rfl | cases h
theorem snd_nlc {n : Nat} (g : Good X Γ Φ k) {y : Str} {py lp pos : Pos} {e : Expr} {gs : List Comprehension} {scope : Scope} {p : Pt} {ir : Ex} (h1 : ptOf n Γ (.Name y py) = some p) (h2 : trE n Γ (.ListComp e gs scope lp) = some ir) :
    QS X (.Assign [.Name y py] (.ListComp e gs scope lp) pos) (wpS Φ (.asg p ir)) := by
  have hk : X.env.scope.kind = .function := by rw [g.sc]; exact g.kd
  have sw := sw_lc (e := e) (gs := gs) (scope := scope) (lp := lp) (py := py) (y := y) (l := pos.line) (env := X.env) hk
  cases hb : (X.env.scope.names.lookup y == some .local && py.line == lp.line && !(scope.names.any fun (n, k) => n == y && (k == .local || k == .cell))) with
  | false =>
    rw [hb] at sw
    simp only [wpS]
    exact qs_asg ((snd n).e g h2) (pt_snd n g h1) sw stores_name (one_each (pt_plain h1))
  | true =>
    rw [hb] at sw
    rw [Bool.and_eq_true, Bool.and_eq_true] at hb
    have lk := loc_eq hb.1.1
    obtain ⟨j, vj, rfl⟩ := ptOf_name h1
    cases n with
    | zero => simp [trE] at h2
    | succ n =>
      match gs, h2, sw with
      | [], h, _ => simp [trE] at h
      | _ :: _ :: _, h, _ => simp [trE] at h
      | [⟨tg, it, ifs, as⟩], h, sw =>
        by_cases ha : as = 0
        · subst ha
          simp only [trE] at h
          split at h
          · cases h
          · rename_i hs
            obtain ⟨o, p', i', c', x', e1, e2, e3, e4, e5, hb, rfl⟩ := lc_inv h
            have ok : BlkOk X.N X.env.scope scope o := by rw [g.hN, g.sc]; exact blkOk_by hb
            have S := snd n
            simp only [wpS, wpE]
            exact qs_setLc g.calm g.nds (by rw [g.hN]; exact vix_get vj) lk sw (S.i g e3) ok (own_places n (Γ := Γ) (Δ := blk Γ scope) rfl e2 e1) (fun s H C cl fp => pt_snd n (good_blk g ok s H C cl fp) e2) (fun s H C cl fp => S.c (good_blk g ok s H C cl fp) e4)
              (fun s H C cl fp => S.e (good_blk g ok s H C cl fp) e5) (folded_of (by simpa using hs))
        · exfalso
          unfold trE at h
          split at h <;> simp_all
theorem set_arm {o i : Expr} {p : Pos} {env : Env} (h : sliceish i = false) : ∀ v, assign (.Subscript o i p) env v = (do
      let ov ← holding [v] (eval o env)
      let iv ← holding [v, ov] (eval i env)
      standAt p
      holding [v, ov, iv] (setItem ov iv v)
      release [v, ov, iv] []) := by
  intro v
  cases i <;> first | rfl | (simp [sliceish] at h)
structure SndS (n : Nat) : Prop where
  s : ∀ {X : Cx} {Γ : Gam} {Φ : Tab} {k : Nat} {st : Stmt} {ir : Sx}, Good X Γ Φ k → trS n Γ st = some ir → QS X st (wpS Φ ir)
  b : ∀ {X : Cx} {Γ : Gam} {Φ : Tab} {k : Nat} {st : List Stmt} {ir : Sx}, Good X Γ Φ k → trB n Γ st = some ir → QSs X st (wpS Φ ir)
theorem snd_asg {n : Nat} (g : Good X Γ Φ k) {tg e : Expr} {pos : Pos} {ir : Sx} (h : trS (n + 1) Γ (.Assign [tg] e pos) = some ir) : QS X (.Assign [tg] e pos) (wpS Φ ir) := by
  have S := snd n
  by_cases hsub : ∃ o i p, tg = .Subscript o i p
  · obtain ⟨o, i, p, rfl⟩ := hsub
    have h' : (if compish e || sliceish i then none else opt3 (trE n Γ o) (trE n Γ i) (trE n Γ e) fun o i e => Sx.set o i e) = some ir := by
      rw [← h]; rfl
    split at h'
    · cases h'
    · rename_i hc
      simp only [Bool.or_eq_true, not_or, Bool.not_eq_true] at hc
      obtain ⟨x, y, z, e1, e2, e3, rfl⟩ := three h'
      simp only [wpS]
      exact qs_set (S.e g e3) (S.e g e1) (S.e g e2) (sole_plain hc.1) stores_sub (set_arm hc.2)
  · by_cases htt : ∃ ts k1 p1 vs k2 p2, tg = .Tuple ts k1 p1 ∧ e = .Tuple vs k2 p2
    · obtain ⟨ts, k1, p1, vs, k2, p2, rfl, rfl⟩ := htt
      simp only [trS] at h
      have kf : X.env.scope.kind = .function := by rw [g.sc]; exact g.kd
      split at h
      · rename_i hw
        obtain ⟨p, x, e1, e2, rfl⟩ := two h
        rw [ptOf_tup (c := k1) (d := p1)] at e1
        simp only [wpS]
        exact qs_asg (S.e g e2) (pt_snd n g e1) sole_tup ((stores_eq kf).1 (by rw [g.sc]; exact hw)) (one_each rfl)
      · rename_i names hw
        split at h
        · cases h
        · rename_i hc
          obtain ⟨p, x, e1, e2, rfl⟩ := two h
          rw [ptOf_tup (c := k1) (d := p1)] at e1
          exact snd_par g hw (by simpa using hc) e1 e2
    · have h' : (if compish e && !tupleT tg && !nameLc tg e then none else opt2 (ptOf n Γ tg) (trE n Γ e) fun p e => Sx.asg p e) = some ir := by
        rw [← h]
        cases tg with
        | Subscript o i p => exact absurd ⟨o, i, p, rfl⟩ hsub
        | Tuple ts k1 p1 => cases e <;> first | rfl | exact absurd ⟨ts, k1, p1, _, _, _, rfl, rfl⟩ htt
        | _ => rfl
      split at h'
      · cases h'
      · rename_i hc
        obtain ⟨p, x, e1, e2, rfl⟩ := two h'
        have hs := pt_plain e1
        cases hnl : nameLc tg e with
        | true =>
          cases tg <;> try (cases hnl)
          cases e <;> try (cases hnl)
          exact snd_nlc g e1 e2
        | false =>
          simp only [wpS]
          refine qs_asg (S.e g e2) (pt_snd n g e1) ?_ ?_ (one_each hs)
          · cases hce : compish e with
            | false => exact sole_plain hce
            | true =>
              rw [hce, hnl] at hc
              cases tg with
              | Tuple ts k1 p1 => exact sole_tup
              | _ => simp [tupleT] at hc
          · cases tg with
            | Name x p => exact stores_name
            | Tuple ts k1 p1 =>
              refine stores_tup ?_
              cases e <;> first | rfl | exact absurd ⟨ts, k1, p1, _, _, _, rfl, rfl⟩ htt
            | _ => cases n <;> simp [ptOf] at e1
theorem asg_inv {n : Nat} {tgs : List Expr} {e : Expr} {p : Pos} {ir : Sx} (h : trS (n + 1) Γ (.Assign tgs e p) = some ir) : ∃ tg, tgs = [tg] := by
  cases tgs with
  | nil => have z : trS (n + 1) Γ (.Assign [] e p) = none := rfl; rw [z] at h; cases h
  | cons a r =>
    cases r with
    | nil => exact ⟨a, rfl⟩
    | cons b r => have z : trS (n + 1) Γ (.Assign (a :: b :: r) e p) = none := by cases a <;> rfl
                  rw [z] at h; cases h
end
theorem sndS : ∀ n, SndS n
  | 0 => ⟨fun _ h => by simp [trS] at h, fun _ h => by simp [trB] at h⟩
  | n + 1 => by
    have S := snd n
    have I := sndS n
    refine ⟨fun {X Γ Φ k st ir} g h => ?_, fun {X Γ Φ k st ir} g h => ?_⟩
    · cases st with
      | Assign tgs e p =>
        obtain ⟨tg, rfl⟩ := asg_inv h
        exact snd_asg g h
      | Expr e p =>
        simp only [trS] at h
        split at h
        · cases h
        · rename_i hc
          obtain ⟨x, e1, rfl⟩ := Option.map_eq_some_iff.mp h
          simp only [wpS]
          exact qs_expr (S.e g e1) (none_plain (by simpa using hc))
      | Return e p =>
        cases e with
        | none => simp [trS] at h
        | some e =>
          simp only [trS] at h
          obtain ⟨x, e1, rfl⟩ := Option.map_eq_some_iff.mp h
          simp only [wpS]
          exact qs_ret (S.e g e1)
      | If c a b p =>
        simp only [trS] at h
        obtain ⟨x, y, z, e1, e2, e3, rfl⟩ := three h
        simp only [wpS]
        exact qs_if (S.t g e1) (I.b g e2) (I.b g e3)
      | For tg it b els p =>
        cases els with
        | cons _ _ => simp [trS] at h
        | nil =>
          simp only [trS] at h
          split at h
          · cases h
          · rename_i hc
            obtain ⟨x, y, z, e1, e2, e3, rfl⟩ := three h
            simp only [wpS]
            exact qs_for g.own g.calm (S.i g e2) (pt_snd n g e1) (I.b g e3) (folded_of (by simpa using hc))
      | While c b els p =>
        cases els with
        | cons _ _ => simp [trS] at h
        | nil =>
          simp only [trS] at h
          obtain ⟨x, y, e1, e2, rfl⟩ := two h
          simp only [wpS]
          exact qs_while g.own (S.t g e1) (I.b g e2)
      | Break p => simp only [trS] at h; cases h; simp only [wpS]; exact qs_break
      | Continue p => simp only [trS] at h; cases h; simp only [wpS]; exact qs_cont
      | Pass p => simp only [trS] at h; cases h; simp only [wpS]; exact qs_pass
      | _ => simp [trS] at h
    · cases st with
      | nil => simp only [trB] at h; cases h; simp only [wpS]; exact qss_nil
      | cons s r =>
        simp only [trB] at h
        obtain ⟨x, y, e1, e2, rfl⟩ := two h
        simp only [wpS]
        exact qss_cons (I.s g e1) (I.b g e2)
end G57
set_option Elab.async false
set_option linter.all false
set_option maxRecDepth 100000
set_option maxHeartbeats 2000000
namespace G57
open PySem L2 PySem.Spec PyProof.Rows
def startD (N : List Str) (ds : List D) : En := ds.map some ++ List.replicate (N.length - ds.length) none
def storable (sc : Scope) : List Str := (sc.names.filter fun y => y.2 == .local || y.2 == .cell).map (·.1)
def gamOf (N : List Str) (sc : Scope) (bs fs : List Str) (cs : List (Str × D)) : Gam := ⟨N, sc, storable sc, bs, fs, cs⟩
/-- each name of a scope stands in it once, as it is told -/
def scopeOk (sc : Scope) : Bool := (sc.names.all fun y => decide (sc.names.lookup y.1 = some y.2)) && (sc.names.all fun y => decide (y.2 ≠ .free)) && decide (sc.kind = .function) && !sc.isCoroutine && !sc.isGenerator
def fnOkB (N ps : List Str) (sc : Scope) : Bool := scopeOk sc && decide N.Nodup && decide (N.take ps.length = ps) && (ps.all fun x => decide (sc.names.lookup x = some .local) || decide (sc.names.lookup x = some .cell))
theorem fnScope_of {N ps : List Str} {sc : Scope} (h : fnOkB N ps sc = true) : FnScope N ps sc ∧ ∀ y ∈ sc.names, sc.names.lookup y.1 = some y.2 := by
  unfold fnOkB scopeOk at h
  simp only [Bool.and_eq_true, List.all_eq_true, decide_eq_true_eq, Bool.not_eq_true', Bool.or_eq_true] at h
  obtain ⟨⟨⟨⟨⟨⟨⟨h1, h2⟩, h3⟩, h4⟩, h5⟩, h6⟩, h7⟩, h8⟩ := h
  exact ⟨⟨h3, h4, h5, h6, h7, h8, h2⟩, h1⟩
/-- a def of the text behind the top, by its name -/
structure FT (K : PySem.W.Frag) (mg : Str → Option Value) (x : Str) (st : Stmt) (ps : List Str) : Prop where
  ex : ∃ f fd, Fun K x x st f fd ∧ mg x = some (.ref f) ∧ Binds K fd ps []
/-- what a def of that name does, at level k -/
structure Does (P : Program) (w : World) (K : PySem.W.Frag) (mg : Str → Option Value) (base : Heap) (k : Nat) (x : Str) (sp : Spec) : Prop where
  ex : ∃ f fd ps, mg x = some (.ref f) ∧ PySem.W.keepIn K (.ref f) = true ∧ Binds K fd ps [] ∧ FnG P w K mg base k f fd ps (liftSp K ps.length sp) ∧ ∀ ds S Q, sp ds S Q → ds.length = ps.length
theorem Does.mono {P : Program} {w : World} {K : PySem.W.Frag} {mg : Str → Option Value} {base : Heap} {j k : Nat} {x : Str} {sp : Spec} (d : Does P w K mg base j x sp) (h : j ≤ k) : Does P w K mg base k x sp := by
  obtain ⟨f, fd, ps, a, b, c, e, g⟩ := d.ex
  exact ⟨f, fd, ps, a, b, c, e.mono h, g⟩
/-- what the module has -/
structure Md (K : PySem.W.Frag) (mg : Str → Option Value) (bs : List Str) (cs : List (Str × D)) : Prop where
  bs : ∀ x ∈ bs, mg x = none
  cs : ∀ x d, cs.lookup x = some d → ∃ v u, mg x = some u ∧ RelV v u ∧ ∀ H, Rep K H d v
theorem fn_does {P : Program} {w : World} {K : PySem.W.Frag} {mg : Str → Option Value} {base : Heap} {k : Nat} {x : Str} {st : Stmt} {f : Addr} {fd : FuncData} {N ps bs : List Str} {cs : List (Str × D)} {Φ : List (Str × Spec)} {ir : Sx} {sp : Spec}
    (F : Fun K x x st f fd) (hsc : fnOkB N ps (defScope st) = true) (tr : trB 300 (gamOf N (defScope st) bs (Φ.map (·.1)) cs) (defBody st) = some ir) (md : Md K mg bs cs) (tab : ∀ p ∈ Φ, Does P w K mg base k p.1 p.2)
    (body : ∀ ds S Q, sp ds S Q → wpS (fun i => (Φ[i]?).map (·.2)) ir { nx := fun _ S' => Q .non S', rt := Q } (startD N ds) S) : FnG P w K mg base (k + 1) f fd ps (liftSp K ps.length sp) := by
  obtain ⟨sc, un⟩ := fnScope_of hsc
  refine fnG_of F sc (fun vs H Q E h => h.1) (fun cdv A outer s H vs Q E hr hg h => ?_)
  obtain ⟨hl, ds, S, Qd, r, so, h, l⟩ := h
  have g : Good (cxOf CX0 P w K mg base N x (defScope st) f cdv A outer s H E).nox (gamOf N (defScope st) bs (Φ.map (·.1)) cs) (fun i => (Φ[i]?).map (·.2)) k := by
    refine ⟨rfl, rfl, sc.nd, sc.kind, rfl, hr, hg, rfl, fun y hy => ?_, md.bs, fun y i sp' hv e => ?_, md.cs⟩
    · obtain ⟨z, hz, rfl⟩ := List.mem_map.mp hy
      obtain ⟨hm, hk⟩ := List.mem_filter.mp hz
      have hu := un z hm
      refine ⟨?_, .inl rfl⟩
      rcases Bool.or_eq_true_iff.mp hk with q | q
      · exact .inl (by show (defScope st).names.lookup z.1 = _; rw [hu]; revert q; cases z.2 <;> decide)
      · exact .inr (by show (defScope st).names.lookup z.1 = _; rw [hu]; revert q; cases z.2 <;> decide)
    · obtain ⟨p, e1, rfl⟩ := Option.map_eq_some_iff.mp e
      have e2 := vix_get hv
      have e3 : (Φ.map (·.1))[i]? = some p.1 := by rw [List.getElem?_map, e1]; rfl
      have e4 : y = p.1 := Option.some.inj (e2.symm.trans e3)
      subst e4
      exact (tab p (List.mem_of_getElem? e1)).ex
  refine ⟨_, (sndS 300).b g tr, startD N ds, S, _, ?_, so, body ds S Qd h, ⟨fun env S' σ H' q k re s' => l _ S' _ H' q k .non s', fun env S' σ H' q => q.elim, fun env S' σ H' q => q.elim, l⟩⟩
  have hN : ds.length = vs.length := r.length
  refine ⟨by unfold startD L2.start; simp [hN], fun i d e => ?_⟩
  unfold startD at e
  unfold L2.start
  by_cases hi : i < ds.length
  · rw [List.getElem?_append_left (by simpa using hi), List.getElem?_map] at e
    obtain ⟨d', e1, e2⟩ := Option.map_eq_some_iff.mp e
    cases e2
    obtain ⟨v, e3, rv⟩ := r.get e1
    exact ⟨v, by rw [List.getElem?_append_left (by simp; omega), List.getElem?_map, e3]; rfl, rv⟩
  · rw [List.getElem?_append_right (by simpa using hi), List.getElem?_replicate] at e
    split at e <;> cases e
theorem does_of {P : Program} {w : World} {K : PySem.W.Frag} {mg : Str → Option Value} {base : Heap} {k : Nat} {x : Str} {st : Stmt} {N ps bs : List Str} {cs : List (Str × D)} {Φ : List (Str × Spec)} {ir : Sx} {sp : Spec}
    (F : FT K mg x st ps) (hsc : fnOkB N ps (defScope st) = true) (tr : trB 300 (gamOf N (defScope st) bs (Φ.map (·.1)) cs) (defBody st) = some ir) (md : Md K mg bs cs) (tab : ∀ p ∈ Φ, Does P w K mg base k p.1 p.2)
    (len : ∀ ds S Q, sp ds S Q → ds.length = ps.length)
    (body : ∀ ds S Q, sp ds S Q → wpS (fun i => (Φ[i]?).map (·.2)) ir { nx := fun _ S' => Q .non S', rt := Q } (startD N ds) S) : Does P w K mg base (k + 1) x sp := by
  obtain ⟨f, fd, F, m1, m2⟩ := F.ex
  exact ⟨f, fd, ps, m1, F.kp, m2, fn_does F hsc tr md tab body, len⟩
/-! ### the law's own end -/
/-- the law's promise -/
def lawSp (n : Nat) : Spec := fun ds _ Q => ∃ ns : List Int, ns.length ≤ n ∧ ds = [.rol (ns.map D.int)] ∧ ∀ S', Q (.bl true) S'
theorem ints_rep {K : PySem.W.Frag} {H : Hp} : ∀ ns : List Int, Reps K H (ns.map D.int) (ns.map V.int)
  | [] => .nil
  | n :: ns => .cons .int (ints_rep ns)
theorem law_end {P : Program} {w : World} {K : PySem.W.Frag} {mg mb : Str → Option Value} {k n : Nat} {fa a : Addr} {fd : FuncData} {x : Str} {s₁ : Shared} {vs : List Value} {ns : List Int}
    (KX : K.In s₁.heap) (hns : s₁.heap.Ns mainGlobals mg) (hb : s₁.heap.Ns builtinsNs mb) (hbb : ∀ x : Str, x ≠ "__name__" → mb x = bootBuiltins x) (hlim : s₁.heap.NoLimit) (hg : s₁.gens = #[])
    (ha : s₁.heap.get? a = some { cls := .type "list", data := .seq vs.toArray }) (hi : IntsAre vs ns) (hl : ns.length ≤ n) (hz : n ≤ sizeLine) (hr : Room k callerA)
    (F : ∀ base : Heap, K.In base → base.Ns mainGlobals mg → FnG P w K mg base k fa fd [x] (liftSp K 1 (lawSp n))) (hbind : ∀ (s : Shared) (u : Value), BindsTo s fd ⟨[u], []⟩ [(x, u)]) :
    codeAny (model P w) callerA (.call (.ref fa) ⟨[.ref a], []⟩) (fun r s' => r = .ok (.ret (.bool true)) ∧ OldK s₁.heap s'.heap ∧ s'.os = s₁.os ∧ AllBare s'.gens) s₁ := by
  have rv := vals_ints hi
  have lenV := hi.length
  have core : ∀ H : Hp, Only H → SqF K H a (ns.map V.int) → HOk P w H s₁.heap → (∀ b, H b ≠ none → b = a) → (H a ≠ none → K.lookup a = none) →
      codeAny (model P w) callerA (.call (.ref fa) ⟨[.ref a], []⟩) (fun r s' => r = .ok (.ret (.bool true)) ∧ OldK s₁.heap s'.heap ∧ s'.os = s₁.os ∧ AllBare s'.gens) s₁ := by
    intro H hO hS hok hA hK
    have free : ∀ {b : Addr} {o : Obj}, s₁.heap.get? b = some o → (∀ es ep, o.data ≠ .dict es ep → b = a → False) → H b = none := fun {b o} e q => by
      cases z : H b with
      | none => rfl
      | some u =>
        have eb : b = a := hA b (by rw [z]; simp)
        subst eb
        rw [ha] at e; cases e
        exact (q #[] 0 (by intro z; cases z) rfl).elim
    have noD : ∀ {b : Addr} {o : Obj} {es : Array DictEntry} {ep : Nat}, s₁.heap.get? b = some o → o.data = .dict es ep → H b = none := fun {b o es ep} e d => by
      cases z : H b with
      | none => rfl
      | some u =>
        have eb : b = a := hA b (by rw [z]; simp)
        subst eb
        rw [ha] at e; cases e
        cases (show Data.seq vs.toArray _ = Data.dict es ep from d)
    have nsK : ∀ {b : Addr} {m : Str → Option Value}, s₁.heap.Ns b m → (hidT s₁.heap H).Ns b m :=
      fun {b m} ⟨o, es, ep, e, d, r⟩ => ⟨o, es, ep, hidT_get e (noD e d), d, r⟩
    have hKb : K.In (hidT s₁.heap H) := fun b o e => hidT_get (KX b o e) (by
      cases z : H b with
      | none => rfl
      | some u =>
        have eb : b = a := hA b (by rw [z]; simp)
        subst eb
        rw [hK (by rw [z]; simp)] at e; cases e)
    have hM : Mod K mg (hidT s₁.heap H) := by
      obtain ⟨mc, c1, c2⟩ := hlim
      exact ⟨hKb, nsK hns, ⟨mb, nsK hb, hbb⟩, ⟨mc, nsK c1, c2⟩⟩
    have nil0 : ∀ b : Addr, b ∉ frs [] := fun b hb => absurd (show b ∈ ([] : List Addr) from hb) (by simp)
    have e0 : Env0 P w K mg (hidT s₁.heap H) callerA [] s₁ H := ⟨rfl, hM, fun b o e => of_hidT e, Nat.le_of_eq (hidT_size _ _), trivial, fun b hb => (nil0 b hb).elim, hok, .of_eq hg⟩
    have sp : liftSp K 1 (lawSp n) [.ref a] H (fun v _ => v = .bl true) E0 :=
      ⟨rfl, [.rol (ns.map D.int)], fun _ => none, fun d _ => d = .bl true, .cons (by simp only [Rep]; exact ⟨a, _, rfl, hS, ints_rep ns⟩) .nil, (fun b o e => by cases e), ⟨ns, hl, rfl, fun _ => rfl⟩,
        fun d S' v H' q _ r _ => by subst q; simpa only [Rep] using r⟩
    refine codeAny_mono ((F _ hKb (nsK hns)).run callerA [] s₁ H ⟨[.ref a], []⟩ [.ref a] [.ref a] _ E0 hr rfl e0 (hbind s₁ (.ref a)) (.cons rfl .nil) sp) fun r s' h => ?_
    match r, h with
    | .error e, h => exact h.elim
    | .ok .next, h => exact h.elim
    | .ok .brk, h => exact h.elim
    | .ok .cont, h => exact h.elim
    | .ok (.ret u), h =>
      obtain ⟨v, H', os, bare, unt, hok', r', q⟩ := h
      have q' : v = .bl true := q
      subst q'
      obtain rfl : u = Value.bool true := r'
      refine ⟨rfl, OldK.of_keep fun b o e => ?_, os, bare⟩
      cases q : H b with
      | none => exact unt.keep b o e q (nil0 b) (by simp)
      | some u =>
        rcases hO b with z | ⟨ob, xs, z⟩
        · rw [q] at z; cases z
        · obtain ⟨e1, _⟩ := hok b _ z
          obtain ⟨e2, _⟩ := hok' b _ (unt.frzs b ob _ z)
          rw [e] at e1; cases e1
          exact e2
  have hlz : ns.length ≤ sizeLine := Nat.le_trans hl hz
  cases hk : K.lookup a with
  | some o =>
    have e := KX a o hk
    rw [ha] at e
    cases e
    refine core (fun _ => none) (fun _ => .inl rfl) (.inr fun H' => .inr ⟨_, vs.toArray, _, hk, rfl, rfl, rfl, by rw [List.size_toArray, lenV]; exact hlz, by simpa using rv⟩) (fun b u z => by cases z) (fun b z => (z rfl).elim) fun z => (z rfl).elim
  | none =>
    let ob : Obj := { cls := .type "list", data := .seq vs.toArray }
    have hup : upd (fun _ => none) a (.frz ob (.lst (ns.map V.int))) a = some (.frz ob (.lst (ns.map V.int))) := upd_same
    refine core (upd (fun _ => none) a (.frz ob (.lst (ns.map V.int)))) (fun b => ?_) (.inl ⟨ob, hup⟩) (fun b u z => ?_) (fun b z => ?_) fun _ => hk
    · by_cases hb : b = a
      · subst hb; exact .inr ⟨_, _, hup⟩
      · exact .inl (upd_ne hb)
    · by_cases hb : b = a
      · subst hb
        rw [hup] at z; cases z
        exact ⟨ha, by rw [List.length_map]; exact hlz, vs, _, rv, ha⟩
      · rw [upd_ne hb] at z; cases z
    · by_cases hb : b = a
      · exact hb
      · exact (z (upd_ne hb)).elim
theorem walk_end {l : PySem.W.OpenLaw} {n k : Nat} {q : Program} {loose : List Str} {XP : (Str → Option Value) → Heap → Prop} {YP : World → Heap → Prop} {d : DefRec} {K : Params → PySem.W.Frag} {x : Str}
    (hn : l.most = some n) (hn2 : n ≤ sizeLine) (hdf : d.params.defaults = []) (hr : Room k callerA) (hY : ∀ (w : World) (h : Heap), YP w h → (K w.params).In h)
    (F : ∀ (w : World) (mg : Str → Option Value) (fa : Addr) (h : Heap), (K w.params).In h → h.Ns mainGlobals mg → mg d.name = some (.ref fa) →
      ∃ fd : FuncData, (∀ (s : Shared) (u : Value), BindsTo s fd ⟨[u], []⟩ [(x, u)]) ∧
        ∀ base : Heap, (K w.params).In base → base.Ns mainGlobals mg → FnG l.prog w (K w.params) mg base k fa fd [x] (liftSp (K w.params) 1 (lawSp n))) :
    PySem.W.WalkO q loose XP YP l.row.toRowW d [] (fun f vs => PySem.call f vs) := by
  refine Att.attach_call hn hdf fun w s₀ s₁ mg mb fa o pm cd doc a vs ns G Y ho hd hcd hmg hobj hints hlen hg => ?_
  obtain ⟨fd, hbd, hF⟩ := F w mg fa _ (hY w _ Y) G.T.g hmg
  exact law_end (hY w _ Y) G.T.g G.T.b G.T.builtins G.T.nolimit hg hobj hints hlen hn2 hr hF hbd
end G57
set_option Elab.async false
set_option linter.all false
set_option maxRecDepth 100000
set_option maxHeartbeats 400000
namespace G57
open PySem L2
/-! stepping through statements -/
section
variable {Φ : Tab} {E : EndsD} {env : En} {S : Sto} {p : Pt} {e o i c it : Ex} {a b r : Sx}
theorem st_cons (h : wpS Φ a { E with nx := fun env' S' => wpS Φ r E env' S' } env S) : wpS Φ (.cons a r) E env S := h
theorem st_nil (h : E.nx env S) : wpS Φ .nil E env S := h
theorem st_asg (h : wpE Φ e env S fun d S1 => wpP p d S1 env fun env' => E.nx env' S1) : wpS Φ (.asg p e) E env S := h
theorem st_set (h : wpE Φ e env S fun d S1 => wpE Φ o env S1 fun x S2 => wpE Φ i env S2 fun y S3 => setD x y d S3 fun S4 => E.nx env S4) : wpS Φ (.set o i e) E env S := h
theorem st_ex (h : wpE Φ e env S fun _ S1 => E.nx env S1) : wpS Φ (.ex e) E env S := h
theorem st_ret (h : wpE Φ e env S E.rt) : wpS Φ (.ret e) E env S := h
theorem st_iff (h : wpT Φ c env S fun t S1 => if t = true then wpS Φ a E env S1 else wpS Φ b E env S1) : wpS Φ (.iff c a b) E env S := h
theorem st_loop (h : wpI Φ it env S fun xs G S1 => forRun G (fun x env1 S2 N => wpP p x S2 env1 fun env2 => wpS Φ b { nx := N, ct := N, bk := E.nx, rt := E.rt } env2 S2) E.nx xs env S1) : wpS Φ (.loop p it b) E env S := h
theorem st_wh (n : Nat) (h : whRun (wpT Φ c) (fun env1 S1 N => wpS Φ b { nx := N, ct := N, bk := E.nx, rt := E.rt } env1 S1) E.nx n env S) : wpS Φ (.wh c b) E env S := ⟨n, h⟩
end
/-! operations at known kinds -/
section
variable {S : Sto} {Q : DK} {i j : Int} {x y : List Nat} {b c : Bool} {ds es : List D} {p q : Addr} {d : D} {lo hi : Option Int} {K : IK}
theorem addD_ii : addD (.int i) (.int j) S Q = Q (.int (i + j)) S := rfl
theorem addD_ss : addD (.str x) (.str y) S Q = (x.length + y.length ≤ 16777216 ∧ Q (.str (x ++ y)) S) := rfl
theorem addD_tt : addD (.tup ds) (.tup es) S Q = (ds.length + es.length ≤ 16777216 ∧ Q (.tup (ds ++ es)) S) := rfl
theorem subD_ii : subD (.int i) (.int j) S Q = Q (.int (i - j)) S := rfl
theorem mulD_ii : mulD (.int i) (.int j) S Q = (CMulW i j ∧ Q (.int (i * j)) S) := rfl
theorem mulD_si : mulD (.str x) (.int j) S Q = (j < 2 ^ 40 ∧ -(2 ^ 40) < j ∧ x.length * j.toNat ≤ 16777216 ∧ Q (.str (List.replicate j.toNat x).flatten) S) := rfl
theorem mulD_ti : mulD (.tup ds) (.int j) S Q = (j ≤ 1000 ∧ -1000 ≤ j ∧ ds.length ≤ 1000 ∧ Q (.tup (List.replicate j.toNat ds).flatten) S) := rfl
theorem fdivD_ii : fdivD (.int i) (.int j) S Q = (0 < j ∧ j < 2 ^ 8000 ∧ Q (.int (i / j)) S) := rfl
theorem modD_ii : modD (.int i) (.int j) S Q = (0 < j ∧ Q (.int (i % j)) S) := rfl
theorem powD_ii : powD (.int i) (.int j) S Q = (CPow i j ∧ Q (.int (i ^ j.toNat)) S) := rfl
theorem negD_i : negD (.int i) S Q = Q (.int (-i)) S := rfl
theorem eqD_ii : eqD b (.int i) (.int j) S Q = Q (.bl (b ^^ decide (i = j))) S := rfl
theorem eqD_ss : eqD b (.str x) (.str y) S Q = Q (.bl (b ^^ decide (x = y))) S := rfl
theorem eqD_bb {a c : Bool} : eqD b (.bl a) (.bl c) S Q = Q (.bl (b ^^ decide (a = c))) S := rfl
theorem ordD_ii {f : Int → Int → Bool} {g : List Nat → List Nat → Bool} : ordD f g (.int i) (.int j) S Q = Q (.bl (f i j)) S := rfl
theorem ordD_ss {f : Int → Int → Bool} {g : List Nat → List Nat → Bool} : ordD f g (.str x) (.str y) S Q = Q (.bl (g x y)) S := rfl
theorem isD_n : isD b d .non S Q = Q (.bl (b ^^ isNon d)) S := by cases d <;> rfl
theorem isD_bb {a c : Bool} : isD b (.bl a) (.bl c) S Q = Q (.bl (b ^^ decide (a = c))) S := rfl
theorem idxD_t : idxD (.tup ds) (.int i) S Q = ∃ d, atI ds i = some d ∧ Q d S := rfl
theorem idxD_l : idxD (.rol ds) (.int i) S Q = ∃ d, atI ds i = some d ∧ Q d S := rfl
theorem idxD_s : idxD (.str x) (.int i) S Q = (x.length ≤ 16777216 ∧ ∃ c, atI x i = some c ∧ Q (.str [c]) S) := rfl
theorem idxD_r : idxD (.ref p) (.int i) S Q = ∃ ds, S p = some (.lst ds) ∧ ∃ d, atI ds i = some d ∧ Q d S := by
  simp only [idxD, exists_and_left]
theorem slD_t : slD (.tup ds) lo hi S Q = Q (.tup (cutD ds lo hi)) S := rfl
theorem slD_s : slD (.str x) lo hi S Q = (x.length ≤ 16777216 ∧ Q (.str (cutD x lo hi)) S) := rfl
theorem slD_l : slD (.rol ds) lo hi S Q = ∀ p, S p = none → Q (.ref p) (put S p (.lst (cutD ds lo hi))) := rfl
theorem slD_r : slD (.ref p) lo hi S Q = ∃ ds, S p = some (.lst ds) ∧ ∀ r, S r = none → Q (.ref r) (put S r (.lst (cutD ds lo hi))) := rfl
theorem seqD_t : seqD S (.tup ds) = some ds := rfl
theorem seqD_l : seqD S (.rol ds) = some ds := rfl
theorem seqD_r : (seqD S (.ref p) = some ds) = (S p = some (.lst ds)) := by
  simp only [seqD]
  cases h : S p with
  | none => simp
  | some o => cases o; simp
theorem lenD_s : lenD [.str x] S Q = (x.length ≤ 16777216 ∧ Q (.int x.length) S) := rfl
theorem lenD_t : lenD [.tup ds] S Q = Q (.int ds.length) S := by simp [lenD, seqD]
theorem lenD_l : lenD [.rol ds] S Q = Q (.int ds.length) S := by simp [lenD, seqD]
theorem lenD_r : lenD [.ref p] S Q = ∃ ds, S p = some (.lst ds) ∧ Q (.int ds.length) S := by simp only [lenD, seqD_r]
theorem absD_i : absD [.int i] S Q = Q (.int i.natAbs) S := rfl
theorem minD_ii : minD [.int i, .int j] S Q = Q (.int (min i j)) S := rfl
theorem maxD_ii : maxD [.int i, .int j] S Q = Q (.int (max i j)) S := rfl
theorem intD_i : intD [.int i] S Q = Q (.int i) S := rfl
theorem intD_b : intD [.bl b] S Q = Q (.int (if b then 1 else 0)) S := rfl
theorem strD_i : strD [.int i] S Q = (i.natAbs < 2 ^ 1900 ∧ Q (.str (itxt i)) S) := rfl
theorem tupleD_t : tupleD [.tup ds] S Q = Q (.tup ds) S := by simp [tupleD, seqD]
theorem tupleD_l : tupleD [.rol ds] S Q = Q (.tup ds) S := by simp [tupleD, seqD]
theorem tupleD_r : tupleD [.ref p] S Q = ∃ ds, S p = some (.lst ds) ∧ Q (.tup ds) S := by simp only [tupleD, seqD_r]
theorem listD_t : listD [.tup ds] S Q = ∀ p, S p = none → Q (.ref p) (put S p (.lst ds)) := by simp [listD, seqD]
theorem listD_l : listD [.rol ds] S Q = ∀ p, S p = none → Q (.ref p) (put S p (.lst ds)) := by simp [listD, seqD]
theorem listD_r : listD [.ref p] S Q = ∃ ds, S p = some (.lst ds) ∧ ∀ p, S p = none → Q (.ref p) (put S p (.lst ds)) := by simp only [listD, seqD_r]
theorem sumD_t : sumD [.tup ds] S Q = ∃ is, intsF ds = some is ∧ Q (.int is.sum) S := by simp [sumD, seqD]
theorem sumD_r : sumD [.ref p] S Q = ∃ ds, S p = some (.lst ds) ∧ ∃ is, intsF ds = some is ∧ Q (.int is.sum) S := by simp only [sumD, seqD_r, exists_and_left]
theorem anyD_t : anyD [.tup ds] S Q = ∃ bs, trusF ds = some bs ∧ Q (.bl (bs.any id)) S := by simp [anyD, seqD]
theorem anyD_r : anyD [.ref p] S Q = ∃ ds, S p = some (.lst ds) ∧ ∃ bs, trusF ds = some bs ∧ Q (.bl (bs.any id)) S := by simp only [anyD, seqD_r, exists_and_left]
theorem allD_t : allD [.tup ds] S Q = ∃ bs, trusF ds = some bs ∧ Q (.bl (bs.all id)) S := by simp [allD, seqD]
theorem allD_r : allD [.ref p] S Q = ∃ ds, S p = some (.lst ds) ∧ ∃ bs, trusF ds = some bs ∧ Q (.bl (bs.all id)) S := by simp only [allD, seqD_r, exists_and_left]
theorem appD_r : appD (.ref p) [d] S Q = ∃ ds, S p = some (.lst ds) ∧ ds.length < 16777216 ∧ Q .non (put S p (.lst (ds ++ [d]))) := rfl
theorem extD_r : extD (.ref p) [.ref q] S Q = ∃ ds, S p = some (.lst ds) ∧ ∃ es, S q = some (.lst es) ∧ ds.length + es.length ≤ 16777216 ∧ Q .non (put S p (.lst (ds ++ es))) := by
  simp only [extD, exists_and_left]
theorem joinD_r : joinD (.str x) [.ref p] S Q = ∃ ds, S p = some (.lst ds) ∧ ∃ xs, strsF ds = some xs ∧ lenL xs + xs.length * x.length ≤ 16777216 ∧ Q (.str (joinL x xs)) S := by simp only [joinD, seqD_r, exists_and_left]
theorem joinD_t : joinD (.str x) [.tup ds] S Q = ∃ xs, strsF ds = some xs ∧ lenL xs + xs.length * x.length ≤ 16777216 ∧ Q (.str (joinL x xs)) S := by simp [joinD, seqD]
theorem countD_s {z : Nat} : countD (.str x) [.str [z]] S Q = Q (.int (x.count z)) S := rfl
theorem truthD_b {R : Bool → Prop} : truthD (.bl b) S R = R b := by simp [truthD, truD]
theorem truthD_i {R : Bool → Prop} : truthD (.int i) S R = R (i != 0) := by simp [truthD, truD]
theorem truthD_n {R : Bool → Prop} : truthD .non S R = R false := by simp [truthD, truD]
theorem truthD_s {R : Bool → Prop} : truthD (.str x) S R = (x.length ≤ 16777216 ∧ R (!x.isEmpty)) := rfl
theorem truthD_t {R : Bool → Prop} : truthD (.tup ds) S R = R (!ds.isEmpty) := by simp only [truthD, truD, Option.some.injEq, exists_eq_left']
theorem iterD_t : iterD (.tup ds) S K = K ds (fun _ => True) S := rfl
theorem iterD_l : iterD (.rol ds) S K = K ds (fun _ => True) S := rfl
theorem iterD_s : iterD (.str x) S K = K (x.map fun c => .str [c]) (fun _ => True) S := rfl
theorem iterD_r : iterD (.ref p) S K = ∃ ds, S p = some (.lst ds) ∧ K ds (fun S => S p = some (.lst ds)) S := rfl
theorem range1D_i : range1D (.int i) S K = (smallI i ∧ K (rngD 0 i) (fun _ => True) S) := rfl
theorem range2D_i : range2D (.int i) (.int j) S K = (smallI i ∧ smallI j ∧ K (rngD i j) (fun _ => True) S) := rfl
theorem zips_tt : zipsD (.tup ds) (.tup es) S K = K (zipD ds es) (fun S => True ∧ True) S := by
  apply propext
  simp only [zipsD, srcD, Option.some.injEq, Prod.mk.injEq]
  constructor
  · rintro ⟨_, _, _, _, ⟨rfl, rfl⟩, ⟨rfl, rfl⟩, h⟩; exact h
  · intro h; exact ⟨_, _, _, _, ⟨rfl, rfl⟩, ⟨rfl, rfl⟩, h⟩
theorem zips_ts : zipsD (.tup ds) (.str x) S K = K (zipD ds (x.map fun c => .str [c])) (fun S => True ∧ True) S := by
  apply propext
  simp only [zipsD, srcD, Option.some.injEq, Prod.mk.injEq]
  constructor
  · rintro ⟨_, _, _, _, ⟨rfl, rfl⟩, ⟨rfl, rfl⟩, h⟩; exact h
  · intro h; exact ⟨_, _, _, _, ⟨rfl, rfl⟩, ⟨rfl, rfl⟩, h⟩
theorem enum_t : enumedD (.tup ds) S K = K (enumD 0 ds) (fun _ => True) S := by
  apply propext
  simp only [enumedD, srcD, Option.some.injEq, Prod.mk.injEq]
  constructor
  · rintro ⟨_, _, ⟨rfl, rfl⟩, h⟩; exact h
  · intro h; exact ⟨_, _, ⟨rfl, rfl⟩, h⟩
theorem fmtD_s {R : List Nat → Prop} : fmtD (.str x) R = (x.length ≤ 16777216 ∧ R x) := rfl
theorem fmtD_i {R : List Nat → Prop} : fmtD (.int i) R = (i.natAbs < 2 ^ 1900 ∧ R (itxt i)) := rfl
theorem setD_of {k : Int} {n : Nat} {R : Sto → Prop} (h : S p = some (.lst ds)) (hn : ixN ds.length k = some n) (r : R (put S p (.lst (ds.set n d)))) : setD (.ref p) (.int k) d S R := ⟨ds, n, h, hn, r⟩
end
section
variable {α : Type} {x y z w : α} {r : List α}
theorem atI_n {i : Int} {n : Nat} (h : i = n) : atI r i = r[n]? := by
  subst h
  unfold atI ixN
  by_cases hn : n < r.length
  · rw [if_pos (by omega), if_pos (by omega)]; simp
  · rw [if_pos (by omega), if_neg (by omega), List.getElem?_eq_none (by omega)]; rfl
theorem atI_0 : atI (x :: r) 0 = some x := atI_n (n := 0) rfl
theorem atI_1 : atI (x :: y :: r) 1 = some y := atI_n (n := 1) rfl
theorem atI_2 : atI (x :: y :: z :: r) 2 = some z := atI_n (n := 2) rfl
theorem atI_3 : atI (x :: y :: z :: w :: r) 3 = some w := atI_n (n := 3) rfl
theorem atI_m : atI (r ++ [x]) (-1) = some x := by
  unfold atI ixN
  rw [if_neg (by omega), if_pos (by rw [List.length_append]; simp; omega)]
  have e : ((-1 : Int) + ((r ++ [x]).length : Int)).toNat = r.length := by rw [List.length_append]; simp; omega
  rw [e]
  simp only [Option.bind_some]
  simp
theorem ne_fresh {S : Sto} {p r : Addr} {o : Ob} (h : S p = some o) (hr : S r = none) : p ≠ r := fun e => by rw [e, hr] at h; cases h
end
end G57
set_option Elab.async false
set_option linter.all false
set_option maxRecDepth 100000
set_option maxHeartbeats 400000
namespace G57
open PySem L2
/-! what stays of the store -/
def Ext (S S' : Sto) : Prop := ∀ a o, S a = some o → S' a = some o
theorem Ext.refl {S : Sto} : Ext S S := fun _ _ e => e
theorem Ext.trans {S S1 S2 : Sto} (a : Ext S S1) (b : Ext S1 S2) : Ext S S2 := fun c o e => b c o (a c o e)
theorem Ext.put {S : Sto} {p : Addr} {o : Ob} (h : S p = none) : Ext S (G57.put S p o) := fun a u e => by
  rw [put_ne (fun z => by rw [z, h] at e; cases e)]; exact e
/-- all but the list at p -/
def ExtB (p : Addr) (S S' : Sto) : Prop := ∀ a o, a ≠ p → S a = some o → S' a = some o
theorem ExtB.refl {p : Addr} {S : Sto} : ExtB p S S := fun _ _ _ e => e
theorem ExtB.trans {p : Addr} {S S1 S2 : Sto} (a : ExtB p S S1) (b : ExtB p S1 S2) : ExtB p S S2 := fun c o n e => b c o n (a c o n e)
theorem Ext.but {p : Addr} {S S' : Sto} (a : Ext S S') : ExtB p S S' := fun c o _ e => a c o e
theorem ExtB.write {p : Addr} {S : Sto} {o : Ob} : ExtB p S (G57.put S p o) := fun a u n e => by rw [put_ne n]; exact e
def Deck (S : Sto) (p q : Addr) (b : Nat) : Prop := ∃ (ns : List Int) (a c d : Int), S p = some (.lst [.ref q, .int a, .int c, .int d]) ∧ S q = some (.lst (ns.map .int)) ∧ q ≠ p ∧ 0 ≤ a ∧ 0 ≤ c ∧ 0 ≤ d ∧ d + b ≤ 2147483648 ∧ ns.length ≤ 63
theorem Deck.less {S : Sto} {p q : Addr} {b c : Nat} (h : Deck S p q b) (hc : c ≤ b) : Deck S p q c := by
  obtain ⟨ns, a, e, d, h1, h2, h3, h4, h5, h6, h7, h8⟩ := h
  exact ⟨ns, a, e, d, h1, h2, h3, h4, h5, h6, by omega, h8⟩
theorem Deck.ext {S S' : Sto} {p q : Addr} {b : Nat} (h : Deck S p q b) (e : Ext S S') : Deck S' p q b := by
  obtain ⟨ns, a, c, d, h1, h2, h3⟩ := h
  exact ⟨ns, a, c, d, e _ _ h1, e _ _ h2, h3⟩
theorem Deck.put {S : Sto} {p q r : Addr} {b : Nat} {o : Ob} (h : Deck S p q b) (h1 : p ≠ r) (h2 : q ≠ r) : Deck (G57.put S r o) p q b := by
  obtain ⟨ns, a, c, d, e1, e2, h3⟩ := h
  exact ⟨ns, a, c, d, by rw [put_ne h1]; exact e1, by rw [put_ne h2]; exact e2, h3⟩
theorem Deck.fresh {S : Sto} {p q r : Addr} {b : Nat} (h : Deck S p q b) (hr : S r = none) : p ≠ r ∧ q ≠ r := by
  obtain ⟨ns, a, c, d, e1, e2, h3⟩ := h
  exact ⟨ne_fresh e1 hr, ne_fresh e2 hr⟩
def spDraw : Spec := fun ds S Q => ∃ p q n b, ds = [.ref p, .int n] ∧ 0 < n ∧ n < 2 ^ 8000 ∧ Deck S p q (b + 1) ∧ ∀ S' r, 0 ≤ r → r < n → Deck S' p q b → ExtB p S S' → Q (.int r) S'
theorem cmul_of {i j : Int} (hi : i.natAbs < 2 ^ 64) (hj : j.natAbs < 2 ^ 64) : CMulW i j := wide_mul hi hj (by decide) (by decide) (by decide)
theorem ints_ok : ∀ (k : Nat) (ns : List Int), oksD k (ns.map .int) = true
  | _, [] => by simp [oksD]
  | k, n :: ns => by
    rw [List.map_cons, oksD, ints_ok k ns]
    cases k <;> simp [okD]
/- _law_draw : top 9, names ['_law_deck_here', '_law_many', '_law_cell', '_law_mixed', '_law_found'], calls [], built-ins ['int', 'abs', 'len'], constants [] -/
def ir_l_draw_b1_2 : Sx := .cons (.ret (.var 4)) .nil
def ir_l_draw_b1_1 : Sx := .cons (.set (.var 0) (.con (.int 2)) (.bin .FloorDiv (.idx (.var 0) (.con (.int 2))) (.var 1))) ir_l_draw_b1_2
def ir_l_draw_b1 : Sx := .cons (.asg (.v 4) (.bin .Mod (.bi .int (.cons (.idx (.var 0) (.con (.int 2))) (.nil))) (.var 1))) ir_l_draw_b1_1
def ir_l_draw_b2 : Sx := .cons (.asg (.v 2) (.idx (.idx (.var 0) (.con (.int 0))) (.bin .Mod (.bi .int (.cons (.idx (.var 0) (.con (.int 1))) (.nil))) (.bi .len (.cons (.idx (.var 0) (.con (.int 0))) (.nil)))))) .nil
def ir_l_draw_b3_1 : Sx := .cons (.ret (.bin .Mod (.bi .int (.cons (.bi .abs (.cons (.var 2) (.nil))) (.nil))) (.var 1))) .nil
def ir_l_draw_b3 : Sx := .cons (.set (.var 0) (.con (.int 2)) (.bin .FloorDiv (.bi .abs (.cons (.var 2) (.nil))) (.var 1))) ir_l_draw_b3_1
def ir_l_draw_8 : Sx := .cons (.ret (.bin .Mod (.bin .FloorDiv (.var 3) (.con (.int 64))) (.var 1))) .nil
def ir_l_draw_7 : Sx := .cons (.asg (.v 3) (.bin .Mod (.bin .Pow (.bi .int (.cons (.bin .Add (.bin .Mult (.var 3) (.bin .Add (.bin .Mult (.con (.int 2)) (.idx (.var 0) (.con (.int 3)))) (.con (.int 3)))) (.con (.int 7907))) (.nil))) (.con (.int 3))) (.con (.int 2147483587)))) ir_l_draw_8
def ir_l_draw_6 : Sx := .cons (.asg (.v 3) (.bin .Mod (.bin .Pow (.bi .int (.cons (.bin .Add (.bin .Mod (.bi .int (.cons (.var 2) (.nil))) (.con (.int 2147483629))) (.bin .Mult (.con (.int 104723)) (.idx (.var 0) (.con (.int 3))))) (.nil))) (.con (.int 5))) (.con (.int 2147483647)))) ir_l_draw_7
def ir_l_draw_5 : Sx := .cons (.iff (.and (.cmp .GtE (.bi .abs (.cons (.var 2) (.nil))) (.bin .Pow (.con (.int 10)) (.con (.int 18)))) (.cmp .LtE (.idx (.var 0) (.con (.int 1))) (.bi .len (.cons (.idx (.var 0) (.con (.int 0))) (.nil))))) (ir_l_draw_b3) (.nil)) ir_l_draw_6
def ir_l_draw_4 : Sx := .cons (.set (.var 0) (.con (.int 1)) (.bin .Add (.idx (.var 0) (.con (.int 1))) (.con (.int 1)))) ir_l_draw_5
def ir_l_draw_3 : Sx := .cons (.iff (.cmp .NotEq (.idx (.var 0) (.con (.int 0))) (.lst (.nil))) (ir_l_draw_b2) (.nil)) ir_l_draw_4
def ir_l_draw_2 : Sx := .cons (.asg (.v 2) (.con (.int 31))) ir_l_draw_3
def ir_l_draw_1 : Sx := .cons (.iff (.cmp .Gt (.idx (.var 0) (.con (.int 2))) (.con (.int 0))) (ir_l_draw_b1) (.nil)) ir_l_draw_2
def ir_l_draw : Sx := .cons (.set (.var 0) (.con (.int 3)) (.bin .Add (.idx (.var 0) (.con (.int 3))) (.con (.int 1)))) ir_l_draw_1
theorem deck_upd {S : Sto} {p q : Addr} {ns : List Int} {a c d : Int} {b : Nat} (e2 : S q = some (.lst (ns.map .int))) (ne : q ≠ p) (ha : 0 ≤ a) (hc : 0 ≤ c) (hd : 0 ≤ d) (hb : d + b ≤ 2147483648) (hl : ns.length ≤ 63) :
    Deck (put S p (.lst [.ref q, .int a, .int c, .int d])) p q b := ⟨ns, a, c, d, put_same, by rw [put_ne ne]; exact e2, ne, ha, hc, hd, hb, hl⟩
abbrev phi0 : Tab := fun i => (([] : List (Str × Spec))[i]?).map (·.2)
section
variable {S : Sto} {Q : DK} {p q : Addr} {n cell : Int} {ns : List Int} {a c d : Int}
theorem draw_6 (f1 : S p = some (.lst [.ref q, .int a, .int c, .int d])) (hn : 0 < n) (hd : 0 ≤ d) (hd2 : d ≤ 2147483648) (k : ∀ r, 0 ≤ r → r < n → Q (.int r) S) :
    wpS phi0 ir_l_draw_6 { nx := fun _ S' => Q .non S', rt := Q } [some (.ref p), some (.int n), some (.int cell), none, none] S := by
  have c1 := Int.emod_nonneg cell (show (2147483629 : Int) ≠ 0 by decide)
  have c2 := Int.emod_lt_of_pos cell (show (0 : Int) < 2147483629 by decide)
  unfold ir_l_draw_6
  refine st_cons (st_asg ?_)
  simp only [wpE, wpT, wpA, wpC, wpO, wpI, wpJ, wpP, wpPs, opD, cmpD, biD, mtD, mtTy, addD_ii, addD_ss, addD_tt, subD_ii, mulD_ii, mulD_si, mulD_ti, fdivD_ii, modD_ii, powD_ii, negD_i, eqD_ii, eqD_ss, eqD_bb, ordD_ii, ordD_ss, isD_n, isD_bb, isNon, idxD_t, idxD_s, idxD_l, idxD_r, slD_t, slD_s, slD_l, slD_r, lenD_s, lenD_t, lenD_l, lenD_r, absD_i, minD_ii, maxD_ii, intD_i, intD_b, strD_i, tupleD_t, tupleD_r, tupleD_l, listD_t, listD_r, listD_l, sumD_t, sumD_r, anyD_t, anyD_r, allD_t, allD_r, appD_r, extD_r, joinD_r, joinD_t, countD_s, truthD_b, truthD_i, truthD_n, truthD_s, truthD_t, iterD_t, iterD_s, iterD_l, iterD_r, range1D_i, range2D_i, fmtD_s, fmtD_i, List.getElem?_cons_zero, List.getElem?_cons_succ, List.set_cons_zero, List.set_cons_succ, Option.some.injEq, exists_eq_left', exists_eq_left, Option.map_some, Bool.false_xor, Bool.true_xor, put_same, put_put, Ob.lst.injEq, D.int.injEq, D.bl.injEq, D.str.injEq, D.tup.injEq, D.ref.injEq, seqD_t, seqD_l, seqD_r, atI_0, atI_1, atI_2, atI_3, exists_and_left, exists_eq', and_true, true_and, decide_eq_true_eq, f1]
  refine ⟨by decide, cmul_of (by decide) (by omega), ⟨by decide, by decide, by omega⟩, by decide, ?_⟩
  generalize hm : (cell % 2147483629 + 104723 * d) ^ Int.toNat 5 % 2147483647 = m
  have m1 : 0 ≤ m := by rw [← hm]; exact Int.emod_nonneg _ (by decide)
  have m2 : m < 2147483647 := by rw [← hm]; exact Int.emod_lt_of_pos _ (by decide)
  unfold ir_l_draw_7
  refine st_cons (st_asg ?_)
  simp only [wpE, wpT, wpA, wpC, wpO, wpI, wpJ, wpP, wpPs, opD, cmpD, biD, mtD, mtTy, addD_ii, addD_ss, addD_tt, subD_ii, mulD_ii, mulD_si, mulD_ti, fdivD_ii, modD_ii, powD_ii, negD_i, eqD_ii, eqD_ss, eqD_bb, ordD_ii, ordD_ss, isD_n, isD_bb, isNon, idxD_t, idxD_s, idxD_l, idxD_r, slD_t, slD_s, slD_l, slD_r, lenD_s, lenD_t, lenD_l, lenD_r, absD_i, minD_ii, maxD_ii, intD_i, intD_b, strD_i, tupleD_t, tupleD_r, tupleD_l, listD_t, listD_r, listD_l, sumD_t, sumD_r, anyD_t, anyD_r, allD_t, allD_r, appD_r, extD_r, joinD_r, joinD_t, countD_s, truthD_b, truthD_i, truthD_n, truthD_s, truthD_t, iterD_t, iterD_s, iterD_l, iterD_r, range1D_i, range2D_i, fmtD_s, fmtD_i, List.getElem?_cons_zero, List.getElem?_cons_succ, List.set_cons_zero, List.set_cons_succ, Option.some.injEq, exists_eq_left', exists_eq_left, Option.map_some, Bool.false_xor, Bool.true_xor, put_same, put_put, Ob.lst.injEq, D.int.injEq, D.bl.injEq, D.str.injEq, D.tup.injEq, D.ref.injEq, seqD_t, seqD_l, seqD_r, atI_0, atI_1, atI_2, atI_3, exists_and_left, exists_eq', and_true, true_and, decide_eq_true_eq, f1]
  have m3 : m * (2 * d + 3) ≤ 2147483647 * (2 * d + 3) := Int.mul_le_mul_of_nonneg_right (by omega) (by omega)
  have m4 : 0 ≤ m * (2 * d + 3) := Int.mul_nonneg m1 (by omega)
  refine ⟨cmul_of (by decide) (by omega), cmul_of (by omega) (by omega), ⟨by decide, by decide, by omega⟩, by decide, ?_⟩
  unfold ir_l_draw_8
  refine st_cons (st_ret ?_)
  simp only [wpE, wpT, wpA, wpC, wpO, wpI, wpJ, wpP, wpPs, opD, cmpD, biD, mtD, mtTy, addD_ii, addD_ss, addD_tt, subD_ii, mulD_ii, mulD_si, mulD_ti, fdivD_ii, modD_ii, powD_ii, negD_i, eqD_ii, eqD_ss, eqD_bb, ordD_ii, ordD_ss, isD_n, isD_bb, isNon, idxD_t, idxD_s, idxD_l, idxD_r, slD_t, slD_s, slD_l, slD_r, lenD_s, lenD_t, lenD_l, lenD_r, absD_i, minD_ii, maxD_ii, intD_i, intD_b, strD_i, tupleD_t, tupleD_r, tupleD_l, listD_t, listD_r, listD_l, sumD_t, sumD_r, anyD_t, anyD_r, allD_t, allD_r, appD_r, extD_r, joinD_r, joinD_t, countD_s, truthD_b, truthD_i, truthD_n, truthD_s, truthD_t, iterD_t, iterD_s, iterD_l, iterD_r, range1D_i, range2D_i, fmtD_s, fmtD_i, List.getElem?_cons_zero, List.getElem?_cons_succ, List.set_cons_zero, List.set_cons_succ, Option.some.injEq, exists_eq_left', exists_eq_left, Option.map_some, Bool.false_xor, Bool.true_xor, put_same, put_put, Ob.lst.injEq, D.int.injEq, D.bl.injEq, D.str.injEq, D.tup.injEq, D.ref.injEq, seqD_t, seqD_l, seqD_r, atI_0, atI_1, atI_2, atI_3, exists_and_left, exists_eq', and_true, true_and, decide_eq_true_eq]
  exact ⟨by decide, by decide, hn, k _ (Int.emod_nonneg _ (by omega)) (Int.emod_lt_of_pos _ hn)⟩
theorem draw_4 (f1 : S p = some (.lst [.ref q, .int a, .int c, .int d])) (f2 : S q = some (.lst (ns.map .int))) (ne : q ≠ p) (hn : 0 < n) (hn2 : n < 2 ^ 8000) (hd : 0 ≤ d) (hd2 : d ≤ 2147483648)
    (k : ∀ c' r, (0 ≤ c' ∨ c' = c) → 0 ≤ r → r < n → Q (.int r) (put S p (.lst [.ref q, .int (a + 1), .int c', .int d]))) :
    wpS phi0 ir_l_draw_4 { nx := fun _ S' => Q .non S', rt := Q } [some (.ref p), some (.int n), some (.int cell), none, none] S := by
  unfold ir_l_draw_4
  refine st_cons (st_set ?_)
  simp only [wpE, wpT, wpA, wpC, wpO, wpI, wpJ, wpP, wpPs, opD, cmpD, biD, mtD, mtTy, addD_ii, addD_ss, addD_tt, subD_ii, mulD_ii, mulD_si, mulD_ti, fdivD_ii, modD_ii, powD_ii, negD_i, eqD_ii, eqD_ss, eqD_bb, ordD_ii, ordD_ss, isD_n, isD_bb, isNon, idxD_t, idxD_s, idxD_l, idxD_r, slD_t, slD_s, slD_l, slD_r, lenD_s, lenD_t, lenD_l, lenD_r, absD_i, minD_ii, maxD_ii, intD_i, intD_b, strD_i, tupleD_t, tupleD_r, tupleD_l, listD_t, listD_r, listD_l, sumD_t, sumD_r, anyD_t, anyD_r, allD_t, allD_r, appD_r, extD_r, joinD_r, joinD_t, countD_s, truthD_b, truthD_i, truthD_n, truthD_s, truthD_t, iterD_t, iterD_s, iterD_l, iterD_r, range1D_i, range2D_i, fmtD_s, fmtD_i, List.getElem?_cons_zero, List.getElem?_cons_succ, List.set_cons_zero, List.set_cons_succ, Option.some.injEq, exists_eq_left', exists_eq_left, Option.map_some, Bool.false_xor, Bool.true_xor, put_same, put_put, Ob.lst.injEq, D.int.injEq, D.bl.injEq, D.str.injEq, D.tup.injEq, D.ref.injEq, seqD_t, seqD_l, seqD_r, atI_0, atI_1, atI_2, atI_3, exists_and_left, exists_eq', and_true, true_and, decide_eq_true_eq, f1]
  refine setD_of (n := 1) f1 rfl ?_
  unfold ir_l_draw_5
  refine st_cons (st_iff ?_)
  simp only [wpE, wpT, wpA, wpC, wpO, wpI, wpJ, wpP, wpPs, opD, cmpD, biD, mtD, mtTy, addD_ii, addD_ss, addD_tt, subD_ii, mulD_ii, mulD_si, mulD_ti, fdivD_ii, modD_ii, powD_ii, negD_i, eqD_ii, eqD_ss, eqD_bb, ordD_ii, ordD_ss, isD_n, isD_bb, isNon, idxD_t, idxD_s, idxD_l, idxD_r, slD_t, slD_s, slD_l, slD_r, lenD_s, lenD_t, lenD_l, lenD_r, absD_i, minD_ii, maxD_ii, intD_i, intD_b, strD_i, tupleD_t, tupleD_r, tupleD_l, listD_t, listD_r, listD_l, sumD_t, sumD_r, anyD_t, anyD_r, allD_t, allD_r, appD_r, extD_r, joinD_r, joinD_t, countD_s, truthD_b, truthD_i, truthD_n, truthD_s, truthD_t, iterD_t, iterD_s, iterD_l, iterD_r, range1D_i, range2D_i, fmtD_s, fmtD_i, List.getElem?_cons_zero, List.getElem?_cons_succ, List.set_cons_zero, List.set_cons_succ, Option.some.injEq, exists_eq_left', exists_eq_left, Option.map_some, Bool.false_xor, Bool.true_xor, put_same, put_put, Ob.lst.injEq, D.int.injEq, D.bl.injEq, D.str.injEq, D.tup.injEq, D.ref.injEq, seqD_t, seqD_l, seqD_r, atI_0, atI_1, atI_2, atI_3, exists_and_left, exists_eq', and_true, true_and, decide_eq_true_eq, put_ne ne, f2]
  refine ⟨⟨by decide, by decide, by decide⟩, ?_⟩
  have tail := draw_6 (S := put S p (.lst [.ref q, .int (a + 1), .int c, .int d])) (Q := Q) (n := n) (cell := cell) put_same hn hd hd2 fun r h0 h1 => k c r (.inr rfl) h0 h1
  have big : ∀ m : Int, 0 ≤ m → wpS phi0 ir_l_draw_b3 { nx := fun env' S' => wpS phi0 ir_l_draw_6 { nx := fun _ S' => Q .non S', rt := Q } env' S', rt := Q } [some (.ref p), some (.int n), some (.int cell), none, none] (put S p (.lst [.ref q, .int (a + 1), .int c, .int d])) := by
    intro m _
    unfold ir_l_draw_b3
    refine st_cons (st_set ?_)
    simp only [wpE, wpT, wpA, wpC, wpO, wpI, wpJ, wpP, wpPs, opD, cmpD, biD, mtD, mtTy, addD_ii, addD_ss, addD_tt, subD_ii, mulD_ii, mulD_si, mulD_ti, fdivD_ii, modD_ii, powD_ii, negD_i, eqD_ii, eqD_ss, eqD_bb, ordD_ii, ordD_ss, isD_n, isD_bb, isNon, idxD_t, idxD_s, idxD_l, idxD_r, slD_t, slD_s, slD_l, slD_r, lenD_s, lenD_t, lenD_l, lenD_r, absD_i, minD_ii, maxD_ii, intD_i, intD_b, strD_i, tupleD_t, tupleD_r, tupleD_l, listD_t, listD_r, listD_l, sumD_t, sumD_r, anyD_t, anyD_r, allD_t, allD_r, appD_r, extD_r, joinD_r, joinD_t, countD_s, truthD_b, truthD_i, truthD_n, truthD_s, truthD_t, iterD_t, iterD_s, iterD_l, iterD_r, range1D_i, range2D_i, fmtD_s, fmtD_i, List.getElem?_cons_zero, List.getElem?_cons_succ, List.set_cons_zero, List.set_cons_succ, Option.some.injEq, exists_eq_left', exists_eq_left, Option.map_some, Bool.false_xor, Bool.true_xor, put_same, put_put, Ob.lst.injEq, D.int.injEq, D.bl.injEq, D.str.injEq, D.tup.injEq, D.ref.injEq, seqD_t, seqD_l, seqD_r, atI_0, atI_1, atI_2, atI_3, exists_and_left, exists_eq', and_true, true_and, decide_eq_true_eq]
    refine ⟨hn, hn2, setD_of (n := 2) put_same rfl ?_⟩
    unfold ir_l_draw_b3_1
    refine st_cons (st_ret ?_)
    simp only [wpE, wpT, wpA, wpC, wpO, wpI, wpJ, wpP, wpPs, opD, cmpD, biD, mtD, mtTy, addD_ii, addD_ss, addD_tt, subD_ii, mulD_ii, mulD_si, mulD_ti, fdivD_ii, modD_ii, powD_ii, negD_i, eqD_ii, eqD_ss, eqD_bb, ordD_ii, ordD_ss, isD_n, isD_bb, isNon, idxD_t, idxD_s, idxD_l, idxD_r, slD_t, slD_s, slD_l, slD_r, lenD_s, lenD_t, lenD_l, lenD_r, absD_i, minD_ii, maxD_ii, intD_i, intD_b, strD_i, tupleD_t, tupleD_r, tupleD_l, listD_t, listD_r, listD_l, sumD_t, sumD_r, anyD_t, anyD_r, allD_t, allD_r, appD_r, extD_r, joinD_r, joinD_t, countD_s, truthD_b, truthD_i, truthD_n, truthD_s, truthD_t, iterD_t, iterD_s, iterD_l, iterD_r, range1D_i, range2D_i, fmtD_s, fmtD_i, List.getElem?_cons_zero, List.getElem?_cons_succ, List.set_cons_zero, List.set_cons_succ, Option.some.injEq, exists_eq_left', exists_eq_left, Option.map_some, Bool.false_xor, Bool.true_xor, put_same, put_put, Ob.lst.injEq, D.int.injEq, D.bl.injEq, D.str.injEq, D.tup.injEq, D.ref.injEq, seqD_t, seqD_l, seqD_r, atI_0, atI_1, atI_2, atI_3, exists_and_left, exists_eq', and_true, true_and, decide_eq_true_eq]
    refine ⟨hn, ?_⟩
    exact k _ _ (.inl (Int.ediv_nonneg (by omega) (by omega))) (Int.emod_nonneg _ (by omega)) (Int.emod_lt_of_pos _ hn)
  split
  · split
    · exact big 0 (by omega)
    · exact tail
  · exact tail
end
theorem w_draw : ∀ ds S Q, spDraw ds S Q → wpS phi0 ir_l_draw { nx := fun _ S' => Q .non S', rt := Q } (startD ["_law_deck_here", "_law_many", "_law_cell", "_law_mixed", "_law_found"] ds) S := by
  rintro ds S Q ⟨p, q, n, b, rfl, hn, hn2, ⟨ns, a, c, d, e1, e2, ne, ha, hc, hd, hb, hl⟩, k⟩
  have env0 : startD ["_law_deck_here", "_law_many", "_law_cell", "_law_mixed", "_law_found"] [.ref p, .int n] = [some (.ref p), some (.int n), none, none, none] := rfl
  rw [env0]
  unfold ir_l_draw
  refine st_cons (st_set ?_)
  simp only [wpE, wpT, wpA, wpC, wpO, wpI, wpJ, wpP, wpPs, opD, cmpD, biD, mtD, mtTy, addD_ii, addD_ss, addD_tt, subD_ii, mulD_ii, mulD_si, mulD_ti, fdivD_ii, modD_ii, powD_ii, negD_i, eqD_ii, eqD_ss, eqD_bb, ordD_ii, ordD_ss, isD_n, isD_bb, isNon, idxD_t, idxD_s, idxD_l, idxD_r, slD_t, slD_s, slD_l, slD_r, lenD_s, lenD_t, lenD_l, lenD_r, absD_i, minD_ii, maxD_ii, intD_i, intD_b, strD_i, tupleD_t, tupleD_r, tupleD_l, listD_t, listD_r, listD_l, sumD_t, sumD_r, anyD_t, anyD_r, allD_t, allD_r, appD_r, extD_r, joinD_r, joinD_t, countD_s, truthD_b, truthD_i, truthD_n, truthD_s, truthD_t, iterD_t, iterD_s, iterD_l, iterD_r, range1D_i, range2D_i, fmtD_s, fmtD_i, List.getElem?_cons_zero, List.getElem?_cons_succ, List.set_cons_zero, List.set_cons_succ, Option.some.injEq, exists_eq_left', exists_eq_left, Option.map_some, Bool.false_xor, Bool.true_xor, put_same, put_put, Ob.lst.injEq, D.int.injEq, D.bl.injEq, D.str.injEq, D.tup.injEq, D.ref.injEq, seqD_t, seqD_l, seqD_r, atI_0, atI_1, atI_2, atI_3, exists_and_left, exists_eq', and_true, true_and, decide_eq_true_eq, e1]
  refine setD_of (n := 3) e1 rfl ?_
  unfold ir_l_draw_1
  refine st_cons (st_iff ?_)
  simp only [wpE, wpT, wpA, wpC, wpO, wpI, wpJ, wpP, wpPs, opD, cmpD, biD, mtD, mtTy, addD_ii, addD_ss, addD_tt, subD_ii, mulD_ii, mulD_si, mulD_ti, fdivD_ii, modD_ii, powD_ii, negD_i, eqD_ii, eqD_ss, eqD_bb, ordD_ii, ordD_ss, isD_n, isD_bb, isNon, idxD_t, idxD_s, idxD_l, idxD_r, slD_t, slD_s, slD_l, slD_r, lenD_s, lenD_t, lenD_l, lenD_r, absD_i, minD_ii, maxD_ii, intD_i, intD_b, strD_i, tupleD_t, tupleD_r, tupleD_l, listD_t, listD_r, listD_l, sumD_t, sumD_r, anyD_t, anyD_r, allD_t, allD_r, appD_r, extD_r, joinD_r, joinD_t, countD_s, truthD_b, truthD_i, truthD_n, truthD_s, truthD_t, iterD_t, iterD_s, iterD_l, iterD_r, range1D_i, range2D_i, fmtD_s, fmtD_i, List.getElem?_cons_zero, List.getElem?_cons_succ, List.set_cons_zero, List.set_cons_succ, Option.some.injEq, exists_eq_left', exists_eq_left, Option.map_some, Bool.false_xor, Bool.true_xor, put_same, put_put, Ob.lst.injEq, D.int.injEq, D.bl.injEq, D.str.injEq, D.tup.injEq, D.ref.injEq, seqD_t, seqD_l, seqD_r, atI_0, atI_1, atI_2, atI_3, exists_and_left, exists_eq', and_true, true_and, decide_eq_true_eq]
  by_cases hc0 : 0 < c
  · rw [if_pos hc0]
    unfold ir_l_draw_b1
    refine st_cons (st_asg ?_)
    simp only [wpE, wpT, wpA, wpC, wpO, wpI, wpJ, wpP, wpPs, opD, cmpD, biD, mtD, mtTy, addD_ii, addD_ss, addD_tt, subD_ii, mulD_ii, mulD_si, mulD_ti, fdivD_ii, modD_ii, powD_ii, negD_i, eqD_ii, eqD_ss, eqD_bb, ordD_ii, ordD_ss, isD_n, isD_bb, isNon, idxD_t, idxD_s, idxD_l, idxD_r, slD_t, slD_s, slD_l, slD_r, lenD_s, lenD_t, lenD_l, lenD_r, absD_i, minD_ii, maxD_ii, intD_i, intD_b, strD_i, tupleD_t, tupleD_r, tupleD_l, listD_t, listD_r, listD_l, sumD_t, sumD_r, anyD_t, anyD_r, allD_t, allD_r, appD_r, extD_r, joinD_r, joinD_t, countD_s, truthD_b, truthD_i, truthD_n, truthD_s, truthD_t, iterD_t, iterD_s, iterD_l, iterD_r, range1D_i, range2D_i, fmtD_s, fmtD_i, List.getElem?_cons_zero, List.getElem?_cons_succ, List.set_cons_zero, List.set_cons_succ, Option.some.injEq, exists_eq_left', exists_eq_left, Option.map_some, Bool.false_xor, Bool.true_xor, put_same, put_put, Ob.lst.injEq, D.int.injEq, D.bl.injEq, D.str.injEq, D.tup.injEq, D.ref.injEq, seqD_t, seqD_l, seqD_r, atI_0, atI_1, atI_2, atI_3, exists_and_left, exists_eq', and_true, true_and, decide_eq_true_eq]
    refine ⟨hn, ?_⟩
    unfold ir_l_draw_b1_1
    refine st_cons (st_set ?_)
    simp only [wpE, wpT, wpA, wpC, wpO, wpI, wpJ, wpP, wpPs, opD, cmpD, biD, mtD, mtTy, addD_ii, addD_ss, addD_tt, subD_ii, mulD_ii, mulD_si, mulD_ti, fdivD_ii, modD_ii, powD_ii, negD_i, eqD_ii, eqD_ss, eqD_bb, ordD_ii, ordD_ss, isD_n, isD_bb, isNon, idxD_t, idxD_s, idxD_l, idxD_r, slD_t, slD_s, slD_l, slD_r, lenD_s, lenD_t, lenD_l, lenD_r, absD_i, minD_ii, maxD_ii, intD_i, intD_b, strD_i, tupleD_t, tupleD_r, tupleD_l, listD_t, listD_r, listD_l, sumD_t, sumD_r, anyD_t, anyD_r, allD_t, allD_r, appD_r, extD_r, joinD_r, joinD_t, countD_s, truthD_b, truthD_i, truthD_n, truthD_s, truthD_t, iterD_t, iterD_s, iterD_l, iterD_r, range1D_i, range2D_i, fmtD_s, fmtD_i, List.getElem?_cons_zero, List.getElem?_cons_succ, List.set_cons_zero, List.set_cons_succ, Option.some.injEq, exists_eq_left', exists_eq_left, Option.map_some, Bool.false_xor, Bool.true_xor, put_same, put_put, Ob.lst.injEq, D.int.injEq, D.bl.injEq, D.str.injEq, D.tup.injEq, D.ref.injEq, seqD_t, seqD_l, seqD_r, atI_0, atI_1, atI_2, atI_3, exists_and_left, exists_eq', and_true, true_and, decide_eq_true_eq]
    refine ⟨hn, hn2, setD_of (n := 2) put_same rfl ?_⟩
    unfold ir_l_draw_b1_2
    refine st_cons (st_ret ?_)
    simp only [wpE, wpT, wpA, wpC, wpO, wpI, wpJ, wpP, wpPs, opD, cmpD, biD, mtD, mtTy, addD_ii, addD_ss, addD_tt, subD_ii, mulD_ii, mulD_si, mulD_ti, fdivD_ii, modD_ii, powD_ii, negD_i, eqD_ii, eqD_ss, eqD_bb, ordD_ii, ordD_ss, isD_n, isD_bb, isNon, idxD_t, idxD_s, idxD_l, idxD_r, slD_t, slD_s, slD_l, slD_r, lenD_s, lenD_t, lenD_l, lenD_r, absD_i, minD_ii, maxD_ii, intD_i, intD_b, strD_i, tupleD_t, tupleD_r, tupleD_l, listD_t, listD_r, listD_l, sumD_t, sumD_r, anyD_t, anyD_r, allD_t, allD_r, appD_r, extD_r, joinD_r, joinD_t, countD_s, truthD_b, truthD_i, truthD_n, truthD_s, truthD_t, iterD_t, iterD_s, iterD_l, iterD_r, range1D_i, range2D_i, fmtD_s, fmtD_i, List.getElem?_cons_zero, List.getElem?_cons_succ, List.set_cons_zero, List.set_cons_succ, Option.some.injEq, exists_eq_left', exists_eq_left, Option.map_some, Bool.false_xor, Bool.true_xor, put_same, put_put, Ob.lst.injEq, D.int.injEq, D.bl.injEq, D.str.injEq, D.tup.injEq, D.ref.injEq, seqD_t, seqD_l, seqD_r, atI_0, atI_1, atI_2, atI_3, exists_and_left, exists_eq', and_true, true_and, decide_eq_true_eq]
    exact k _ _ (Int.emod_nonneg _ (by omega)) (Int.emod_lt_of_pos _ hn) (deck_upd e2 ne ha (Int.ediv_nonneg hc (by omega)) (by omega) (by omega) hl) ExtB.write
  · rw [if_neg hc0]
    unfold ir_l_draw_2
    refine st_nil (st_cons (st_asg ?_))
    simp only [wpE, wpT, wpA, wpC, wpO, wpI, wpJ, wpP, wpPs, opD, cmpD, biD, mtD, mtTy, addD_ii, addD_ss, addD_tt, subD_ii, mulD_ii, mulD_si, mulD_ti, fdivD_ii, modD_ii, powD_ii, negD_i, eqD_ii, eqD_ss, eqD_bb, ordD_ii, ordD_ss, isD_n, isD_bb, isNon, idxD_t, idxD_s, idxD_l, idxD_r, slD_t, slD_s, slD_l, slD_r, lenD_s, lenD_t, lenD_l, lenD_r, absD_i, minD_ii, maxD_ii, intD_i, intD_b, strD_i, tupleD_t, tupleD_r, tupleD_l, listD_t, listD_r, listD_l, sumD_t, sumD_r, anyD_t, anyD_r, allD_t, allD_r, appD_r, extD_r, joinD_r, joinD_t, countD_s, truthD_b, truthD_i, truthD_n, truthD_s, truthD_t, iterD_t, iterD_s, iterD_l, iterD_r, range1D_i, range2D_i, fmtD_s, fmtD_i, List.getElem?_cons_zero, List.getElem?_cons_succ, List.set_cons_zero, List.set_cons_succ, Option.some.injEq, exists_eq_left', exists_eq_left, Option.map_some, Bool.false_xor, Bool.true_xor, put_same, put_put, Ob.lst.injEq, D.int.injEq, D.bl.injEq, D.str.injEq, D.tup.injEq, D.ref.injEq, seqD_t, seqD_l, seqD_r, atI_0, atI_1, atI_2, atI_3, exists_and_left, exists_eq', and_true, true_and, decide_eq_true_eq]
    unfold ir_l_draw_3
    refine st_cons (st_iff ?_)
    simp only [wpE, wpT, wpA, wpC, wpO, wpI, wpJ, wpP, wpPs, opD, cmpD, biD, mtD, mtTy, addD_ii, addD_ss, addD_tt, subD_ii, mulD_ii, mulD_si, mulD_ti, fdivD_ii, modD_ii, powD_ii, negD_i, eqD_ii, eqD_ss, eqD_bb, ordD_ii, ordD_ss, isD_n, isD_bb, isNon, idxD_t, idxD_s, idxD_l, idxD_r, slD_t, slD_s, slD_l, slD_r, lenD_s, lenD_t, lenD_l, lenD_r, absD_i, minD_ii, maxD_ii, intD_i, intD_b, strD_i, tupleD_t, tupleD_r, tupleD_l, listD_t, listD_r, listD_l, sumD_t, sumD_r, anyD_t, anyD_r, allD_t, allD_r, appD_r, extD_r, joinD_r, joinD_t, countD_s, truthD_b, truthD_i, truthD_n, truthD_s, truthD_t, iterD_t, iterD_s, iterD_l, iterD_r, range1D_i, range2D_i, fmtD_s, fmtD_i, List.getElem?_cons_zero, List.getElem?_cons_succ, List.set_cons_zero, List.set_cons_succ, Option.some.injEq, exists_eq_left', exists_eq_left, Option.map_some, Bool.false_xor, Bool.true_xor, put_same, put_put, Ob.lst.injEq, D.int.injEq, D.bl.injEq, D.str.injEq, D.tup.injEq, D.ref.injEq, seqD_t, seqD_l, seqD_r, atI_0, atI_1, atI_2, atI_3, exists_and_left, exists_eq', and_true, true_and, decide_eq_true_eq]
    refine ⟨by decide, fun r hr => ?_⟩
    have hrp : r ≠ p := fun z => by rw [z, put_same] at hr; cases hr
    have hrq : q ≠ r := fun z => by rw [← z, put_ne ne, e2] at hr; cases hr
    have hpr : p ≠ r := fun z => hrp z.symm
    have ok1 : okS (put (put S p (.lst [.ref q, .int a, .int c, .int (d + 1)])) r (.lst [])) (.ref q) = true := by
      simp only [okS, put_ne hrq, put_ne ne, e2, ints_ok]
    have ok2 : okS (put (put S p (.lst [.ref q, .int a, .int c, .int (d + 1)])) r (.lst [])) (.ref r) = true := by
      simp only [okS, put_same, oksD]
    refine ⟨ok1, ok2, ?_⟩
    have fin : ∀ cell, wpS phi0 ir_l_draw_4 { nx := fun _ S' => Q .non S', rt := Q } [some (.ref p), some (.int n), some (.int cell), none, none] (put (put S p (.lst [.ref q, .int a, .int c, .int (d + 1)])) r (.lst [])) := by
      intro cell
      refine draw_4 (q := q) (ns := ns) (a := a) (c := c) (d := d + 1) (by rw [put_ne hpr, put_same]) (by rw [put_ne hrq, put_ne ne]; exact e2) ne hn hn2 (by omega) (by omega) fun c' s hc' h0 h1 => ?_
      refine k _ _ h0 h1 (deck_upd (by rw [put_ne hrq, put_ne ne]; exact e2) ne (by omega) (by omega) (by omega) (by omega) hl) fun x o hx e => ?_
      rw [put_ne hx, put_ne (fun z => ?_), put_ne hx]
      · exact e
      · rw [z] at e
        rw [put_ne hrp] at hr
        rw [hr] at e; cases e
    have pq : pyS (put (put S p (.lst [.ref q, .int a, .int c, .int (d + 1)])) r (.lst [])) (.ref q) = .list (pys (ns.map .int)) := by
      simp only [pyS, put_ne hrq, put_ne ne, e2]
    have pr : pyS (put (put S p (.lst [.ref q, .int a, .int c, .int (d + 1)])) r (.lst [])) (.ref r) = .list [] := by
      simp only [pyS, put_same, pys]
    rw [pq, pr]
    cases ns with
    | nil =>
      refine ⟨_, rfl, ?_⟩
      simp only [List.map_nil, pys, PyData.eqv, PyData.eqvAll, Bool.true_xor, Bool.not_true, Bool.false_eq_true, if_false]
      exact st_nil (fin 31)
    | cons m ms =>
      refine ⟨_, rfl, ?_⟩
      simp only [List.map_cons, pys, PyData.eqv, PyData.eqvAll, Bool.true_xor, Bool.not_false, if_true]
      unfold ir_l_draw_b2
      refine st_cons (st_asg ?_)
      simp only [wpE, wpT, wpA, wpC, wpO, wpI, wpJ, wpP, wpPs, opD, cmpD, biD, mtD, mtTy, addD_ii, addD_ss, addD_tt, subD_ii, mulD_ii, mulD_si, mulD_ti, fdivD_ii, modD_ii, powD_ii, negD_i, eqD_ii, eqD_ss, eqD_bb, ordD_ii, ordD_ss, isD_n, isD_bb, isNon, idxD_t, idxD_s, idxD_l, idxD_r, slD_t, slD_s, slD_l, slD_r, lenD_s, lenD_t, lenD_l, lenD_r, absD_i, minD_ii, maxD_ii, intD_i, intD_b, strD_i, tupleD_t, tupleD_r, tupleD_l, listD_t, listD_r, listD_l, sumD_t, sumD_r, anyD_t, anyD_r, allD_t, allD_r, appD_r, extD_r, joinD_r, joinD_t, countD_s, truthD_b, truthD_i, truthD_n, truthD_s, truthD_t, iterD_t, iterD_s, iterD_l, iterD_r, range1D_i, range2D_i, fmtD_s, fmtD_i, List.getElem?_cons_zero, List.getElem?_cons_succ, List.set_cons_zero, List.set_cons_succ, Option.some.injEq, exists_eq_left', exists_eq_left, Option.map_some, Bool.false_xor, Bool.true_xor, put_same, put_put, Ob.lst.injEq, D.int.injEq, D.bl.injEq, D.str.injEq, D.tup.injEq, D.ref.injEq, seqD_t, seqD_l, seqD_r, atI_0, atI_1, atI_2, atI_3, exists_and_left, exists_eq', and_true, true_and, decide_eq_true_eq, put_ne hpr, put_ne hrq, put_ne ne, e2]
      refine ⟨by simp, ?_⟩
      have hlen : (((.int m :: ms.map D.int : List D).length : Nat) : Int) = (ms.length : Int) + 1 := by simp
      have h0 := Int.emod_nonneg a (show ((ms.length : Int) + 1) ≠ 0 by omega)
      have h1 := Int.emod_lt_of_pos a (show (0 : Int) < (ms.length : Int) + 1 by omega)
      obtain ⟨j, hj⟩ := Int.eq_ofNat_of_zero_le h0
      have hjl : j < (m :: ms).length := by rw [List.length_cons]; omega
      refine ⟨.int (m :: ms)[j], ?_, st_nil (fin _)⟩
      rw [show (m :: ms).map D.int = (.int m :: ms.map D.int : List D) from rfl, hlen, atI_n hj, ← List.map_cons (f := D.int), List.getElem?_map, List.getElem?_eq_getElem hjl]
      rfl
end G57
set_option Elab.async false
set_option linter.all false
set_option maxRecDepth 100000
set_option maxHeartbeats 400000
namespace G57
open PySem L2
/-! comprehensions -/
/-- its elements change nothing that stands -/
theorem lc_pure {a : Addr} {G : Sto → Prop} {body : D → Sto → (Option D → Sto → Prop) → Prop} {Q : Sto → Prop} {f : D → Option D} {S0 : Sto} (hG : ∀ S, ExtB a S0 S → G S) :
    ∀ (xs acc : List D) (S : Sto), ExtB a S0 S → S a = some (.lst acc) → acc.length + xs.length ≤ 16777216 →
    (∀ x ∈ xs, ∀ S1 k, ExtB a S0 S1 → (∀ S2, Ext S1 S2 → k (f x) S2) → body x S1 k) →
    (∀ S', ExtB a S0 S' → S' a = some (.lst (acc ++ xs.filterMap f)) → Q S') → lcRun a G body Q xs acc S
  | [], acc, S, e, ea, _, _, hq => by
    simp only [lcRun]
    exact hq S e (by simpa using ea)
  | x :: xs, acc, S, e, ea, hz, hb, hq => by
    simp only [lcRun]
    rw [List.length_cons] at hz
    refine hb x (by simp) S _ e fun S2 e2 => ⟨e2 _ _ ea, ?_⟩
    have eS2 : ExtB a S0 S2 := fun c o hc q => e2 c o (e c o hc q)
    cases hf : f x with
    | none =>
      simp only
      refine ⟨hG _ eS2, lc_pure hG xs acc S2 eS2 (e2 _ _ ea) (by omega) (fun y hy => hb y (by simp [hy])) fun S' e' q => hq S' e' ?_⟩
      rw [List.filterMap_cons_none hf]; exact q
    | some y =>
      simp only
      have eS3 : ExtB a S0 (put S2 a (.lst (acc ++ [y]))) := fun c o hc q => by rw [put_ne hc]; exact eS2 c o hc q
      refine ⟨by omega, hG _ eS3, lc_pure hG xs (acc ++ [y]) _ eS3 put_same (by rw [List.length_append]; simp; omega) (fun z hz' => hb z (by simp [hz'])) fun S' e' q => hq S' e' ?_⟩
      rw [List.filterMap_cons_some hf]; simpa using q
/-- its elements are drawn, at a cost of c each -/
theorem lc_draw {p q a : Addr} {body : D → Sto → (Option D → Sto → Prop) → Prop} {Q : Sto → Prop} {P : D → Prop} {S0 : Sto} {c : Nat} (hp : p ≠ a) (hq : q ≠ a) (hf : S0 a = none) (b : Nat) :
    ∀ (xs acc : List D) (S : Sto), ExtB p S0 S → Deck S p q (b + c * xs.length) → S a = some (.lst acc) → acc.length + xs.length ≤ 16777216 → (∀ y ∈ acc, P y) →
    (∀ x ∈ xs, ∀ S1 b' k, Deck S1 p q (b' + c) → ExtB p S0 S1 → (∀ S2 y, P y → Deck S2 p q b' → ExtB p S1 S2 → k (some y) S2) → body x S1 k) →
    (∀ S' ys, ys.length = acc.length + xs.length → (∀ y ∈ ys, P y) → Deck S' p q b → ExtB p S0 S' → S' a = some (.lst ys) → Q S') → lcRun a (fun _ => True) body Q xs acc S
  | [], acc, S, e, dk, ea, _, hP, _, hQ => by
    simp only [lcRun]
    exact hQ S acc (by simp) hP (by simpa using dk) e ea
  | x :: xs, acc, S, e, dk, ea, hz, hP, hb, hQ => by
    simp only [lcRun]
    rw [List.length_cons] at hz
    have ha : a ≠ p := fun z => hp z.symm
    refine hb x (by simp) S (b + c * xs.length) _ (by rw [List.length_cons, Nat.mul_succ] at dk; exact dk.less (by omega)) e fun S2 y hy dk2 e2 => ⟨e2 _ _ ha ea, ?_⟩
    simp only
    have e3 : ExtB p S0 (put S2 a (.lst (acc ++ [y]))) := fun z o hz' q => by
      rw [put_ne (fun w => by rw [w, hf] at q; cases q)]
      exact e2 z o hz' (e z o hz' q)
    refine ⟨by omega, trivial, lc_draw hp hq hf b xs (acc ++ [y]) _ e3 (dk2.put hp hq) put_same (by rw [List.length_append]; simp; omega) (fun z hz' => ?_) (fun z hz' => hb z (by simp [hz'])) fun S' ys hl => hQ S' ys ?_⟩
    · rcases List.mem_append.mp hz' with h | h
      · exact hP z h
      · rw [List.mem_singleton.mp h]; exact hy
    · rw [hl, List.length_append, List.length_cons, List.length_cons, List.length_nil]; omega
theorem rng_len {n : Int} : (rngD 0 n).length = n.toNat := by simp [rngD]
theorem small_of {n : Int} (h0 : -4611686018427387904 ≤ n) (h1 : n < 4611686018427387904) : smallI n := ⟨by omega, by omega⟩
/-! loops -/
/-- a loop by an invariant over what is left -/
theorem for_inv {G : Sto → Prop} {body : D → En → Sto → (En → Sto → Prop) → Prop} {Q : En → Sto → Prop} (I : List D → En → Sto → Prop) : ∀ (xs : List D) (env : En) (S : Sto), I xs env S →
    (∀ x r env S N, I (x :: r) env S → (∀ env' S', I r env' S' → N env' S') → body x env S N) → (∀ r env S, I r env S → G S) → (∀ env S, I [] env S → Q env S) → forRun G body Q xs env S
  | [], env, S, h, _, _, hd => hd env S h
  | x :: xs, env, S, h, hs, hg, hd => by
    simp only [forRun]
    exact hs x xs env S _ h fun env' S' h' => ⟨hg xs env' S' h', for_inv I xs env' S' h' hs hg hd⟩
/-- a def with a promise that nobody can call upon -/
theorem does_never {P : Program} {w : World} {K : PySem.W.Frag} {mg : Str → Option Value} {base : Heap} {k : Nat} {x : Str} {st : Stmt} {ps : List Str} (F : FT K mg x st ps) : Does P w K mg base k x (fun _ _ _ => False) := by
  obtain ⟨f, fd, F, m1, m2⟩ := F.ex
  exact ⟨f, fd, ps, m1, F.kp, m2, ⟨fun vs H Q E h => h.1, fun A outer s H args us vs Q E _ _ _ _ _ h => by obtain ⟨_, _, _, _, _, _, z, _⟩ := h; exact z.elim⟩, fun _ _ _ h => h.elim⟩
theorem ft_mk {K : PySem.W.Frag} {h : Heap} {mg : Str → Option Value} (X : K.In h) (G : h.Ns mainGlobals mg) {x : Str} {st : Stmt} {f : Addr} {oc : Value} {od an : Option Addr} {osl : Array (Option Value)} {kV doc pm cdv ct : Value} {ps : List Str}
    (a : PySem.W.nsIn K mainGlobals x = some (some (.ref f))) (l : K.lookup f = some ⟨oc, od, .func (PySem.W.fnOf x x (defArgs st) (defBody st) (defScope st) .none kV doc pm an cdv ct), osl⟩) (c : PySem.W.codeIn K cdv x = true) (k : PySem.W.keepIn K (.ref f) = true)
    (b : ∀ (kV doc pm : Value) (an : Option Addr) (cdv ct : Value) (us : List Value), us.length = ps.length → bindArgs (PySem.W.fnOf x x (defArgs st) (defBody st) (defScope st) .none kV doc pm an cdv ct) ⟨us, []⟩ = pure (ps.zip us)) : FT K mg x st ps :=
  ⟨f, _, fun_mk l c k, PySem.W.mg_of X G a, (fun_mk l c k).binds b⟩
end G57
set_option Elab.async false
set_option linter.all false
set_option maxRecDepth 100000
set_option maxHeartbeats 400000
namespace G57
open PySem L2
abbrev tabOf (Φ : List (Str × Spec)) : Tab := fun i => (Φ[i]?).map (·.2)
/-! one of some items -/
def ir_l_one : Sx := .cons (.ret (.idx (.var 1) (.call 0 (.cons (.var 0) (.cons (.bi .len (.cons (.var 1) (.nil))) (.nil)))))) .nil
def itemsD (S : Sto) (p : Addr) : D → Option (List D)
  | .str x => if x.length ≤ 16777216 then some (x.map fun c => .str [c]) else none
  | .tup ds => if ds.length ≤ 16777216 then some ds else none
  | .ref r => match S r with
    | some (.lst ds) => if ds.length ≤ 16777216 ∧ r ≠ p then some ds else none
    | none => none
  | _ => none
def spOne : Spec := fun ds S Q => ∃ p q b d xs, ds = [.ref p, d] ∧ itemsD S p d = some xs ∧ xs ≠ [] ∧ Deck S p q (b + 1) ∧ ∀ S' x, x ∈ xs → Deck S' p q b → ExtB p S S' → Q x S'
theorem pick {α : Type} {xs : List α} {r : Int} (h0 : 0 ≤ r) (h1 : r < xs.length) : ∃ x, atI xs r = some x ∧ x ∈ xs := by
  obtain ⟨n, rfl⟩ := Int.eq_ofNat_of_zero_le h0
  have hn : n < xs.length := by omega
  exact ⟨xs[n], by rw [atI_n (n := n) rfl, List.getElem?_eq_getElem hn], List.getElem_mem hn⟩
theorem w_one : ∀ ds S Q, spOne ds S Q → wpS (tabOf [("_law_draw", spDraw)]) ir_l_one { nx := fun _ S' => Q .non S', rt := Q } (startD ["_law_deck_here", "_law_items"] ds) S := by
  rintro ds S Q ⟨p, q, b, d, xs, rfl, hi, hne, dk, k⟩
  rw [show startD ["_law_deck_here", "_law_items"] [.ref p, d] = [some (.ref p), some d] from rfl]
  have hz : 0 < xs.length := List.length_pos_iff.mpr hne
  unfold ir_l_one
  refine st_cons (st_ret ?_)
  unfold itemsD at hi
  split at hi
  · rename_i x
    split at hi
    · rename_i hx
      cases hi
      rw [List.length_map] at hz
      simp only [wpE, wpT, wpA, wpC, wpO, wpI, wpJ, wpP, wpPs, opD, cmpD, biD, mtD, mtTy, addD_ii, addD_ss, addD_tt, subD_ii, mulD_ii, mulD_si, mulD_ti, fdivD_ii, modD_ii, powD_ii, negD_i, eqD_ii, eqD_ss, eqD_bb, ordD_ii, ordD_ss, isD_n, isD_bb, isNon, idxD_t, idxD_s, idxD_l, idxD_r, slD_t, slD_s, slD_l, slD_r, lenD_s, lenD_t, lenD_l, lenD_r, absD_i, minD_ii, maxD_ii, intD_i, intD_b, strD_i, tupleD_t, tupleD_r, tupleD_l, listD_t, listD_r, listD_l, sumD_t, sumD_r, anyD_t, anyD_r, allD_t, allD_r, appD_r, extD_r, joinD_r, joinD_t, countD_s, truthD_b, truthD_i, truthD_n, truthD_s, truthD_t, iterD_t, iterD_s, iterD_l, iterD_r, range1D_i, range2D_i, fmtD_s, fmtD_i, List.getElem?_cons_zero, List.getElem?_cons_succ, List.set_cons_zero, List.set_cons_succ, Option.some.injEq, exists_eq_left', exists_eq_left, Option.map_some, Bool.false_xor, Bool.true_xor, put_same, put_put, Ob.lst.injEq, D.int.injEq, D.bl.injEq, D.str.injEq, D.tup.injEq, D.ref.injEq, seqD_t, seqD_l, seqD_r, atI_0, atI_1, atI_2, atI_3, exists_and_left, exists_eq', and_true, true_and, decide_eq_true_eq, tabOf]
      refine ⟨hx, p, q, _, b, rfl, by omega, by omega, dk, fun S' r h0 h1 dk' e => ?_⟩
      simp only [addD_ii, addD_ss, addD_tt, subD_ii, mulD_ii, mulD_si, mulD_ti, fdivD_ii, modD_ii, powD_ii, negD_i, eqD_ii, eqD_ss, eqD_bb, ordD_ii, ordD_ss, isD_n, isD_bb, isNon, idxD_t, idxD_s, idxD_l, idxD_r, slD_t, slD_s, slD_l, slD_r, lenD_s, lenD_t, lenD_l, lenD_r, absD_i, minD_ii, maxD_ii, intD_i, intD_b, strD_i, tupleD_t, tupleD_r, tupleD_l, listD_t, listD_r, listD_l, sumD_t, sumD_r, anyD_t, anyD_r, allD_t, allD_r, appD_r, extD_r, joinD_r, joinD_t, countD_s, truthD_b, truthD_i, truthD_n, truthD_s, truthD_t, iterD_t, iterD_s, iterD_l, iterD_r, range1D_i, range2D_i, fmtD_s, fmtD_i]
      obtain ⟨c, e1, e2⟩ := pick h0 h1
      exact ⟨hx, c, e1, k _ _ (List.mem_map.mpr ⟨c, e2, rfl⟩) dk' e⟩
    · cases hi
  · rename_i es
    split at hi
    · cases hi
      simp only [wpE, wpT, wpA, wpC, wpO, wpI, wpJ, wpP, wpPs, opD, cmpD, biD, mtD, mtTy, addD_ii, addD_ss, addD_tt, subD_ii, mulD_ii, mulD_si, mulD_ti, fdivD_ii, modD_ii, powD_ii, negD_i, eqD_ii, eqD_ss, eqD_bb, ordD_ii, ordD_ss, isD_n, isD_bb, isNon, idxD_t, idxD_s, idxD_l, idxD_r, slD_t, slD_s, slD_l, slD_r, lenD_s, lenD_t, lenD_l, lenD_r, absD_i, minD_ii, maxD_ii, intD_i, intD_b, strD_i, tupleD_t, tupleD_r, tupleD_l, listD_t, listD_r, listD_l, sumD_t, sumD_r, anyD_t, anyD_r, allD_t, allD_r, appD_r, extD_r, joinD_r, joinD_t, countD_s, truthD_b, truthD_i, truthD_n, truthD_s, truthD_t, iterD_t, iterD_s, iterD_l, iterD_r, range1D_i, range2D_i, fmtD_s, fmtD_i, List.getElem?_cons_zero, List.getElem?_cons_succ, List.set_cons_zero, List.set_cons_succ, Option.some.injEq, exists_eq_left', exists_eq_left, Option.map_some, Bool.false_xor, Bool.true_xor, put_same, put_put, Ob.lst.injEq, D.int.injEq, D.bl.injEq, D.str.injEq, D.tup.injEq, D.ref.injEq, seqD_t, seqD_l, seqD_r, atI_0, atI_1, atI_2, atI_3, exists_and_left, exists_eq', and_true, true_and, decide_eq_true_eq, tabOf]
      refine ⟨p, q, _, b, rfl, by omega, by omega, dk, fun S' r h0 h1 dk' e => ?_⟩
      simp only [addD_ii, addD_ss, addD_tt, subD_ii, mulD_ii, mulD_si, mulD_ti, fdivD_ii, modD_ii, powD_ii, negD_i, eqD_ii, eqD_ss, eqD_bb, ordD_ii, ordD_ss, isD_n, isD_bb, isNon, idxD_t, idxD_s, idxD_l, idxD_r, slD_t, slD_s, slD_l, slD_r, lenD_s, lenD_t, lenD_l, lenD_r, absD_i, minD_ii, maxD_ii, intD_i, intD_b, strD_i, tupleD_t, tupleD_r, tupleD_l, listD_t, listD_r, listD_l, sumD_t, sumD_r, anyD_t, anyD_r, allD_t, allD_r, appD_r, extD_r, joinD_r, joinD_t, countD_s, truthD_b, truthD_i, truthD_n, truthD_s, truthD_t, iterD_t, iterD_s, iterD_l, iterD_r, range1D_i, range2D_i, fmtD_s, fmtD_i]
      obtain ⟨c, e1, e2⟩ := pick h0 h1
      exact ⟨c, e1, k _ _ e2 dk' e⟩
    · cases hi
  · rename_i r
    split at hi
    · rename_i es he
      split at hi
      · rename_i hr
        cases hi
        simp only [wpE, wpT, wpA, wpC, wpO, wpI, wpJ, wpP, wpPs, opD, cmpD, biD, mtD, mtTy, addD_ii, addD_ss, addD_tt, subD_ii, mulD_ii, mulD_si, mulD_ti, fdivD_ii, modD_ii, powD_ii, negD_i, eqD_ii, eqD_ss, eqD_bb, ordD_ii, ordD_ss, isD_n, isD_bb, isNon, idxD_t, idxD_s, idxD_l, idxD_r, slD_t, slD_s, slD_l, slD_r, lenD_s, lenD_t, lenD_l, lenD_r, absD_i, minD_ii, maxD_ii, intD_i, intD_b, strD_i, tupleD_t, tupleD_r, tupleD_l, listD_t, listD_r, listD_l, sumD_t, sumD_r, anyD_t, anyD_r, allD_t, allD_r, appD_r, extD_r, joinD_r, joinD_t, countD_s, truthD_b, truthD_i, truthD_n, truthD_s, truthD_t, iterD_t, iterD_s, iterD_l, iterD_r, range1D_i, range2D_i, fmtD_s, fmtD_i, List.getElem?_cons_zero, List.getElem?_cons_succ, List.set_cons_zero, List.set_cons_succ, Option.some.injEq, exists_eq_left', exists_eq_left, Option.map_some, Bool.false_xor, Bool.true_xor, put_same, put_put, Ob.lst.injEq, D.int.injEq, D.bl.injEq, D.str.injEq, D.tup.injEq, D.ref.injEq, seqD_t, seqD_l, seqD_r, atI_0, atI_1, atI_2, atI_3, exists_and_left, exists_eq', and_true, true_and, decide_eq_true_eq, tabOf, he]
        refine ⟨p, q, _, b, rfl, by omega, by omega, dk, fun S' r h0 h1 dk' e => ?_⟩
        simp only [addD_ii, addD_ss, addD_tt, subD_ii, mulD_ii, mulD_si, mulD_ti, fdivD_ii, modD_ii, powD_ii, negD_i, eqD_ii, eqD_ss, eqD_bb, ordD_ii, ordD_ss, isD_n, isD_bb, isNon, idxD_t, idxD_s, idxD_l, idxD_r, slD_t, slD_s, slD_l, slD_r, lenD_s, lenD_t, lenD_l, lenD_r, absD_i, minD_ii, maxD_ii, intD_i, intD_b, strD_i, tupleD_t, tupleD_r, tupleD_l, listD_t, listD_r, listD_l, sumD_t, sumD_r, anyD_t, anyD_r, allD_t, allD_r, appD_r, extD_r, joinD_r, joinD_t, countD_s, truthD_b, truthD_i, truthD_n, truthD_s, truthD_t, iterD_t, iterD_s, iterD_l, iterD_r, range1D_i, range2D_i, fmtD_s, fmtD_i]
        obtain ⟨c, e1, e2⟩ := pick h0 h1
        exact ⟨_, e _ _ hr.2 he, c, e1, k _ _ e2 dk' e⟩
      · cases hi
    · cases hi
  · cases hi
/-! words -/
def ir_l_word_1 : Sx := .cons (.ret (.mt .join (.con (.str [])) (.cons (.lc [3] (.v 3) (.iR1 (.call 1 (.cons (.var 0) (.cons (.bin .Add (.var 1) (.con (.int 1))) (.nil))))) (.nil) (.call 0 (.cons (.var 0) (.cons (.var 2) (.nil))))) (.nil)))) .nil
def ir_l_word : Sx := .cons (.asg (.v 2) (.call 0 (.cons (.var 0) (.cons (.lst (.cons (.con (.str [97, 98])) (.cons (.con (.str [97, 98])) (.cons (.con (.str [97])) (.cons (.con (.str [97, 98, 99])) (.cons (.con (.str [97, 98, 99, 100, 101, 102, 103, 104, 105, 106, 107, 108, 109, 110, 111, 112, 113, 114, 115, 116, 117, 118, 119, 120, 121, 122])) (.nil))))))) (.nil))))) ir_l_word_1
def lowW (w : List Nat) : Prop := ∀ c ∈ w, 97 ≤ c ∧ c ≤ 122
def spWord : Spec := fun ds S Q => ∃ p q m b, ds = [.ref p, .int m] ∧ 0 ≤ m ∧ m ≤ 1000 ∧ Deck S p q (b + (m.toNat + 2)) ∧ ∀ S' w, w.length ≤ m.toNat → lowW w → Deck S' p q b → ExtB p S S' → Q (.str w) S'
/-- texts of one letter each -/
def letD (d : D) : Prop := ∃ c, d = .str [c] ∧ 97 ≤ c ∧ c ≤ 122
theorem lets_of : ∀ ys : List D, (∀ y ∈ ys, letD y) → ∃ w : List Nat, strsF ys = some (w.map fun c => [c]) ∧ w.length = ys.length ∧ lowW w
  | [], _ => ⟨[], rfl, rfl, fun _ h => absurd h (by simp)⟩
  | y :: ys, h => by
    obtain ⟨c, rfl, hc⟩ := h y (by simp)
    obtain ⟨w, e1, e2, e3⟩ := lets_of ys fun z hz => h z (by simp [hz])
    refine ⟨c :: w, by simp [strsF, e1], by simp [e2], fun z hz => ?_⟩
    rcases List.mem_cons.mp hz with rfl | hz
    · exact hc
    · exact e3 z hz
theorem join_nil : ∀ xs : List (List Nat), joinL [] xs = xs.flatten
  | [] => rfl
  | [x] => by simp [joinL]
  | x :: y :: r => by rw [joinL, join_nil (y :: r)]; simp
theorem lenL_eq : ∀ xs : List (List Nat), lenL xs = xs.flatten.length
  | [] => rfl
  | x :: xs => by rw [lenL, lenL_eq xs]; simp
theorem flat_single (w : List Nat) : (w.map fun c => [c]).flatten = w := by
  induction w with
  | nil => rfl
  | cons c w ih => simp [ih]
theorem w_word : ∀ ds S Q, spWord ds S Q → wpS (tabOf [("_law_one", spOne), ("_law_draw", spDraw)]) ir_l_word { nx := fun _ S' => Q .non S', rt := Q } (startD ["_law_deck_here", "_law_most", "_law_some", "_law_turn"] ds) S := by
  rintro ds S Q ⟨p, q, m, b, rfl, hm, hm2, dk, k⟩
  rw [show startD ["_law_deck_here", "_law_most", "_law_some", "_law_turn"] [.ref p, .int m] = [some (.ref p), some (.int m), none, none] from rfl]
  unfold ir_l_word
  refine st_cons (st_asg ?_)
  simp only [wpE, wpT, wpA, wpC, wpO, wpI, wpJ, wpP, wpPs, opD, cmpD, biD, mtD, mtTy, addD_ii, addD_ss, addD_tt, subD_ii, mulD_ii, mulD_si, mulD_ti, fdivD_ii, modD_ii, powD_ii, negD_i, eqD_ii, eqD_ss, eqD_bb, ordD_ii, ordD_ss, isD_n, isD_bb, isNon, idxD_t, idxD_s, idxD_l, idxD_r, slD_t, slD_s, slD_l, slD_r, lenD_s, lenD_t, lenD_l, lenD_r, absD_i, minD_ii, maxD_ii, intD_i, intD_b, strD_i, tupleD_t, tupleD_r, tupleD_l, listD_t, listD_r, listD_l, sumD_t, sumD_r, anyD_t, anyD_r, allD_t, allD_r, appD_r, extD_r, joinD_r, joinD_t, countD_s, truthD_b, truthD_i, truthD_n, truthD_s, truthD_t, iterD_t, iterD_s, iterD_l, iterD_r, range1D_i, range2D_i, fmtD_s, fmtD_i, List.getElem?_cons_zero, List.getElem?_cons_succ, List.set_cons_zero, List.set_cons_succ, Option.some.injEq, exists_eq_left', exists_eq_left, Option.map_some, Bool.false_xor, Bool.true_xor, put_same, put_put, Ob.lst.injEq, D.int.injEq, D.bl.injEq, D.str.injEq, D.tup.injEq, D.ref.injEq, seqD_t, seqD_l, seqD_r, atI_0, atI_1, atI_2, atI_3, exists_and_left, exists_eq', and_true, true_and, decide_eq_true_eq, tabOf]
  refine ⟨by decide, fun r hr => ?_⟩
  obtain ⟨npr, nqr⟩ := dk.fresh hr
  refine ⟨p, q, b + (m.toNat + 1), _, _, rfl, by simp only [itemsD, put_same]; rw [if_pos ⟨by decide, fun e => npr e.symm⟩], by simp, dk.put npr nqr, fun S1 x hx dk1 e1 => ?_⟩
  have hx' : ∃ w, x = .str w ∧ w ≠ [] ∧ lowW w ∧ w.length ≤ 26 := by
    simp only [List.mem_cons, List.not_mem_nil, or_false] at hx
    rcases hx with rfl | rfl | rfl | rfl | rfl <;> exact ⟨_, rfl, by decide, by unfold lowW; decide, by decide⟩
  obtain ⟨w, rfl, hw, hl, hwl⟩ := hx'
  have e0 : ExtB p S S1 := ((Ext.put hr).but (p := p)).trans e1
  unfold ir_l_word_1
  refine st_cons (st_ret ?_)
  simp only [wpE, wpT, wpA, wpC, wpO, wpI, wpJ, wpP, wpPs, opD, cmpD, biD, mtD, mtTy, addD_ii, addD_ss, addD_tt, subD_ii, mulD_ii, mulD_si, mulD_ti, fdivD_ii, modD_ii, powD_ii, negD_i, eqD_ii, eqD_ss, eqD_bb, ordD_ii, ordD_ss, isD_n, isD_bb, isNon, idxD_t, idxD_s, idxD_l, idxD_r, slD_t, slD_s, slD_l, slD_r, lenD_s, lenD_t, lenD_l, lenD_r, absD_i, minD_ii, maxD_ii, intD_i, intD_b, strD_i, tupleD_t, tupleD_r, tupleD_l, listD_t, listD_r, listD_l, sumD_t, sumD_r, anyD_t, anyD_r, allD_t, allD_r, appD_r, extD_r, joinD_r, joinD_t, countD_s, truthD_b, truthD_i, truthD_n, truthD_s, truthD_t, iterD_t, iterD_s, iterD_l, iterD_r, range1D_i, range2D_i, fmtD_s, fmtD_i, List.getElem?_cons_zero, List.getElem?_cons_succ, List.set_cons_zero, List.set_cons_succ, Option.some.injEq, exists_eq_left', exists_eq_left, Option.map_some, Bool.false_xor, Bool.true_xor, put_same, put_put, Ob.lst.injEq, D.int.injEq, D.bl.injEq, D.str.injEq, D.tup.injEq, D.ref.injEq, seqD_t, seqD_l, seqD_r, atI_0, atI_1, atI_2, atI_3, exists_and_left, exists_eq', and_true, true_and, decide_eq_true_eq, tabOf]
  refine ⟨p, q, _, b + m.toNat, rfl, by omega, by omega, dk1.less (by omega), fun S2 n h0 h1 dk2 e2 => ?_⟩
  simp only [addD_ii, addD_ss, addD_tt, subD_ii, mulD_ii, mulD_si, mulD_ti, fdivD_ii, modD_ii, powD_ii, negD_i, eqD_ii, eqD_ss, eqD_bb, ordD_ii, ordD_ss, isD_n, isD_bb, isNon, idxD_t, idxD_s, idxD_l, idxD_r, slD_t, slD_s, slD_l, slD_r, lenD_s, lenD_t, lenD_l, lenD_r, absD_i, minD_ii, maxD_ii, intD_i, intD_b, strD_i, tupleD_t, tupleD_r, tupleD_l, listD_t, listD_r, listD_l, sumD_t, sumD_r, anyD_t, anyD_r, allD_t, allD_r, appD_r, extD_r, joinD_r, joinD_t, countD_s, truthD_b, truthD_i, truthD_n, truthD_s, truthD_t, iterD_t, iterD_s, iterD_l, iterD_r, range1D_i, range2D_i, fmtD_s, fmtD_i]
  refine ⟨small_of (by omega) (by omega), fun a ha => ⟨trivial, ?_⟩⟩
  obtain ⟨npa, nqa⟩ := dk2.fresh ha
  obtain ⟨n', rfl⟩ := Int.eq_ofNat_of_zero_le h0
  have hn' : (rngD 0 (n' : Int)).length = n' := by rw [rng_len]; rfl
  refine lc_draw (c := 1) (P := letD) (S0 := S2) npa nqa ha b _ _ _ ((Ext.put ha).but) ((dk2.put npa nqa).less (by rw [hn']; omega)) put_same (by rw [hn']; simp; omega) (by simp) (fun x hx S3 b' kk dk3 e3 hk => ?_) (fun S3 ys hl2 hP dk3 e3 eys => ?_)
  · simp only [wpE, wpT, wpA, wpC, wpO, wpI, wpJ, wpP, wpPs, opD, cmpD, biD, mtD, mtTy, List.getElem?_cons_zero, List.getElem?_cons_succ, List.set_cons_zero, List.set_cons_succ, Option.some.injEq, exists_eq_left', exists_eq_left, Option.map_some, Bool.false_xor, Bool.true_xor, put_same, put_put, Ob.lst.injEq, D.int.injEq, D.bl.injEq, D.str.injEq, D.tup.injEq, D.ref.injEq, seqD_t, seqD_l, seqD_r, atI_0, atI_1, atI_2, atI_3, exists_and_left, exists_eq', and_true, true_and, decide_eq_true_eq, wipeD]
    refine ⟨p, q, b', _, _, rfl, by simp only [itemsD]; rw [if_pos (by omega)], by simpa using hw, dk3, fun S4 y hy dk4 e4 => ?_⟩
    obtain ⟨c, hc, rfl⟩ := List.mem_map.mp hy
    exact hk _ _ ⟨c, rfl, hl c hc⟩ dk4 e4
  · obtain ⟨v, f1, f2, f3⟩ := lets_of ys hP
    simp only [wpE, wpT, wpA, wpC, wpO, wpI, wpJ, wpP, wpPs, opD, cmpD, biD, mtD, mtTy, addD_ii, addD_ss, addD_tt, subD_ii, mulD_ii, mulD_si, mulD_ti, fdivD_ii, modD_ii, powD_ii, negD_i, eqD_ii, eqD_ss, eqD_bb, ordD_ii, ordD_ss, isD_n, isD_bb, isNon, idxD_t, idxD_s, idxD_l, idxD_r, slD_t, slD_s, slD_l, slD_r, lenD_s, lenD_t, lenD_l, lenD_r, absD_i, minD_ii, maxD_ii, intD_i, intD_b, strD_i, tupleD_t, tupleD_r, tupleD_l, listD_t, listD_r, listD_l, sumD_t, sumD_r, anyD_t, anyD_r, allD_t, allD_r, appD_r, extD_r, joinD_r, joinD_t, countD_s, truthD_b, truthD_i, truthD_n, truthD_s, truthD_t, iterD_t, iterD_s, iterD_l, iterD_r, range1D_i, range2D_i, fmtD_s, fmtD_i, List.getElem?_cons_zero, List.getElem?_cons_succ, List.set_cons_zero, List.set_cons_succ, Option.some.injEq, exists_eq_left', exists_eq_left, Option.map_some, Bool.false_xor, Bool.true_xor, put_same, put_put, Ob.lst.injEq, D.int.injEq, D.bl.injEq, D.str.injEq, D.tup.injEq, D.ref.injEq, seqD_t, seqD_l, seqD_r, atI_0, atI_1, atI_2, atI_3, exists_and_left, exists_eq', and_true, true_and, decide_eq_true_eq, eys]
    refine ⟨_, f1, ?_, ?_⟩
    · rw [lenL_eq, flat_single, f2, hl2, hn']; simp; omega
    · rw [join_nil, flat_single]
      exact k _ _ (by rw [f2, hl2, hn']; simp; omega) f3 dk3 (e0.trans (e2.trans e3))
end G57
set_option Elab.async false
set_option linter.all false
set_option maxRecDepth 100000
set_option maxHeartbeats 400000
namespace G57
open PySem L2
theorem cut_1 {α : Type} (xs : List α) : cutD xs (some 1) none = xs.tail := by
  unfold cutD
  rw [show HT.sIx xs.length 0 (some 1) = min 1 xs.length from HT.sIx_nat xs.length 0 1, HT.sIx_none]
  cases xs with
  | nil => rfl
  | cons x r =>
    rw [show min 1 (x :: r).length = 1 by rw [List.length_cons]; omega]
    simp
theorem cut_m {α : Type} (xs : List α) : cutD xs none (some (-1)) = xs.dropLast := by
  unfold cutD
  rw [HT.sIx_none, List.dropLast_eq_take]
  have e : HT.sIx xs.length xs.length (some (-1)) = xs.length - 1 := by
    simp only [HT.sIx]
    rw [if_pos (by decide)]
    omega
  rw [e]; simp
theorem cut_h {α : Type} (xs : List α) (n : Nat) : cutD xs none (some (n : Int)) = xs.take n := by
  unfold cutD
  rw [HT.sIx_none, HT.sIx_nat]
  simp only [Nat.sub_zero, List.drop_zero]
  rcases Nat.le_total n xs.length with h | h
  · rw [Nat.min_eq_left h]
  · rw [Nat.min_eq_right h, List.take_of_length_le h, List.take_of_length_le (Nat.le_refl _)]
theorem addD_rr {S : Sto} {Q : DK} {p q : Addr} : addD (.ref p) (.ref q) S Q = ∃ xs, S p = some (.lst xs) ∧ ∃ ys, S q = some (.lst ys) ∧ xs.length + ys.length ≤ 16777216 ∧ ∀ r, S r = none → Q (.ref r) (put S r (.lst (xs ++ ys))) := by
  simp only [addD, exists_and_left]
theorem trus_ints : ∀ is : List Int, trusF (is.map .int) = some (is.map (· != 0))
  | [] => rfl
  | i :: is => by simp [trusF, truF, trus_ints is]
def intIn (n : Int) (d : D) : Prop := ∃ i, d = .int i ∧ 0 ≤ i ∧ i ≤ n
theorem ints_in {n : Int} : ∀ ys : List D, (∀ y ∈ ys, intIn n y) → ∃ is : List Int, ys = is.map .int ∧ ∀ i ∈ is, 0 ≤ i ∧ i ≤ n
  | [], _ => ⟨[], rfl, by simp⟩
  | y :: ys, h => by
    obtain ⟨i, rfl, hi⟩ := h y (by simp)
    obtain ⟨is, rfl, h2⟩ := ints_in ys fun z hz => h z (by simp [hz])
    exact ⟨i :: is, rfl, fun j hj => by rcases List.mem_cons.mp hj with rfl | hj; exact hi; exact h2 j hj⟩
/-! forms -/
def isOpen (f : List Int) : Bool := f.tail.any (· != 0)
/-- what a form of a program for m counts is -/
def okF (m : Nat) (f : List Int) : Prop := f.length = m + 1 ∧ ∀ i ∈ f, 0 ≤ i ∧ i ≤ 99
def ir_l_form_b1 : Sx := .cons (.set (.var 2) (.bin .Add (.con (.int 1)) (.call 1 (.cons (.var 0) (.cons (.var 1) (.nil))))) (.bin .Add (.con (.int 1)) (.call 1 (.cons (.var 0) (.cons (.con (.int 3)) (.nil)))))) .nil
def ir_l_form_4 : Sx := .cons (.ret (.bi .tuple (.cons (.var 2) (.nil)))) .nil
def ir_l_form_3 : Sx := .cons (.iff (.not (.bi .any (.cons (.sl (.var 2) (.cons (.con (.int 1)) .nil) (.nil)) (.nil)))) (ir_l_form_b1) (.nil)) ir_l_form_4
def ir_l_form_2 : Sx := .cons (.asg (.v 2) (.bin .Add (.var 2) (.lc [4] (.v 4) (.iR1 (.var 1)) (.nil) (.call 0 (.cons (.var 0) (.cons (.var 3) (.nil))))))) ir_l_form_3
def ir_l_form_1 : Sx := .cons (.asg (.v 3) (.lst (.cons (.con (.int 0)) (.cons (.con (.int 0)) (.cons (.con (.int 1)) (.cons (.con (.int 1)) (.cons (.con (.int 2)) (.cons (.bin .Add (.con (.int 1)) (.call 1 (.cons (.var 0) (.cons (.con (.int 9)) (.nil))))) (.cons (.bin .Add (.con (.int 10)) (.call 1 (.cons (.var 0) (.cons (.con (.int 2)) (.nil))))) (.nil)))))))))) ir_l_form_2
def ir_l_form : Sx := .cons (.asg (.v 2) (.lst (.cons (.call 0 (.cons (.var 0) (.cons (.lst (.cons (.con (.int 0)) (.cons (.con (.int 0)) (.cons (.con (.int 0)) (.cons (.con (.int 1)) (.cons (.con (.int 1)) (.cons (.con (.int 2)) (.cons (.call 1 (.cons (.var 0) (.cons (.con (.int 7)) (.nil)))) (.cons (.call 0 (.cons (.var 0) (.cons (.lst (.cons (.con (.int 10)) (.cons (.con (.int 11)) (.cons (.con (.int 99)) (.nil))))) (.nil)))) (.nil)))))))))) (.nil)))) (.nil)))) ir_l_form_1
def spForm : Spec := fun ds S Q => ∃ p q b, ∃ m : Nat, ds = [.ref p, .int m] ∧ 0 < m ∧ m ≤ 3 ∧ Deck S p q (b + 10) ∧ ∀ S' f, okF m f → isOpen f = true → Deck S' p q b → ExtB p S S' → Q (.tup (f.map .int)) S'
abbrev phiF : List (Str × Spec) := [("_law_one", spOne), ("_law_draw", spDraw)]
theorem w_form_3 {S S0 : Sto} {Q : DK} {p q a : Addr} {b m : Nat} {is : List Int} {d3 : Option D} (hm : 0 < m) (hm3 : m ≤ 3) (ea : S a = some (.lst (is.map .int))) (hap : a ≠ p) (haq : a ≠ q) (hf : S0 a = none) (e0 : ExtB p S0 S) (dk : Deck S p q (b + 2)) (ho : okF m is)
    (k : ∀ S' f, okF m f → isOpen f = true → Deck S' p q b → ExtB p S0 S' → Q (.tup (f.map .int)) S') :
    wpS (tabOf phiF) ir_l_form_3 { nx := fun _ S' => Q .non S', rt := Q } [some (.ref p), some (.int m), some (.ref a), d3, none] S := by
  unfold ir_l_form_3
  refine st_cons (st_iff ?_)
  simp only [wpE, wpT, wpA, wpC, wpO, wpI, wpJ, wpP, wpPs, opD, cmpD, biD, mtD, mtTy, addD_ii, addD_ss, addD_tt, subD_ii, mulD_ii, mulD_si, mulD_ti, fdivD_ii, modD_ii, powD_ii, negD_i, eqD_ii, eqD_ss, eqD_bb, ordD_ii, ordD_ss, isD_n, isD_bb, isNon, idxD_t, idxD_s, idxD_l, idxD_r, slD_t, slD_s, slD_l, slD_r, lenD_s, lenD_t, lenD_l, lenD_r, absD_i, minD_ii, maxD_ii, intD_i, intD_b, strD_i, tupleD_t, tupleD_r, tupleD_l, listD_t, listD_r, listD_l, sumD_t, sumD_r, anyD_t, anyD_r, allD_t, allD_r, appD_r, extD_r, joinD_r, joinD_t, countD_s, truthD_b, truthD_i, truthD_n, truthD_s, truthD_t, iterD_t, iterD_s, iterD_l, iterD_r, range1D_i, range2D_i, fmtD_s, fmtD_i, List.getElem?_cons_zero, List.getElem?_cons_succ, List.set_cons_zero, List.set_cons_succ, Option.some.injEq, exists_eq_left', exists_eq_left, Option.map_some, Bool.false_xor, Bool.true_xor, put_same, put_put, Ob.lst.injEq, D.int.injEq, D.bl.injEq, D.str.injEq, D.tup.injEq, D.ref.injEq, seqD_t, seqD_l, seqD_r, atI_0, atI_1, atI_2, atI_3, exists_and_left, exists_eq', and_true, true_and, decide_eq_true_eq, tabOf, ea]
  intro r hr
  have har : a ≠ r := ne_fresh ea hr
  obtain ⟨npr, nqr⟩ := dk.fresh hr
  rw [cut_1]
  refine ⟨_, by rw [← List.map_tail, trus_ints], ?_⟩
  have er : ExtB p S0 (put S r (.lst (is.map D.int).tail)) := e0.trans (Ext.put hr).but
  have hany : ((is.tail.map fun i : Int => i != 0).any id) = isOpen is := by unfold isOpen; rw [List.any_map]; rfl
  rw [hany]
  cases hop : isOpen is with
  | true =>
    simp only [Bool.not_true, Bool.false_eq_true, if_false]
    refine st_nil ?_
    unfold ir_l_form_4
    refine st_cons (st_ret ?_)
    simp only [wpE, wpT, wpA, wpC, wpO, wpI, wpJ, wpP, wpPs, opD, cmpD, biD, mtD, mtTy, addD_ii, addD_ss, addD_tt, subD_ii, mulD_ii, mulD_si, mulD_ti, fdivD_ii, modD_ii, powD_ii, negD_i, eqD_ii, eqD_ss, eqD_bb, ordD_ii, ordD_ss, isD_n, isD_bb, isNon, idxD_t, idxD_s, idxD_l, idxD_r, slD_t, slD_s, slD_l, slD_r, lenD_s, lenD_t, lenD_l, lenD_r, absD_i, minD_ii, maxD_ii, intD_i, intD_b, strD_i, tupleD_t, tupleD_r, tupleD_l, listD_t, listD_r, listD_l, sumD_t, sumD_r, anyD_t, anyD_r, allD_t, allD_r, appD_r, extD_r, joinD_r, joinD_t, countD_s, truthD_b, truthD_i, truthD_n, truthD_s, truthD_t, iterD_t, iterD_s, iterD_l, iterD_r, range1D_i, range2D_i, fmtD_s, fmtD_i, List.getElem?_cons_zero, List.getElem?_cons_succ, List.set_cons_zero, List.set_cons_succ, Option.some.injEq, exists_eq_left', exists_eq_left, Option.map_some, Bool.false_xor, Bool.true_xor, put_same, put_put, Ob.lst.injEq, D.int.injEq, D.bl.injEq, D.str.injEq, D.tup.injEq, D.ref.injEq, seqD_t, seqD_l, seqD_r, atI_0, atI_1, atI_2, atI_3, exists_and_left, exists_eq', and_true, true_and, decide_eq_true_eq, put_ne har, ea]
    exact k _ _ ho hop ((dk.put npr nqr).less (by omega)) er
  | false =>
    simp only [Bool.not_false, if_true]
    unfold ir_l_form_b1
    refine st_cons (st_set ?_)
    simp only [wpE, wpT, wpA, wpC, wpO, wpI, wpJ, wpP, wpPs, opD, cmpD, biD, mtD, mtTy, addD_ii, addD_ss, addD_tt, subD_ii, mulD_ii, mulD_si, mulD_ti, fdivD_ii, modD_ii, powD_ii, negD_i, eqD_ii, eqD_ss, eqD_bb, ordD_ii, ordD_ss, isD_n, isD_bb, isNon, idxD_t, idxD_s, idxD_l, idxD_r, slD_t, slD_s, slD_l, slD_r, lenD_s, lenD_t, lenD_l, lenD_r, absD_i, minD_ii, maxD_ii, intD_i, intD_b, strD_i, tupleD_t, tupleD_r, tupleD_l, listD_t, listD_r, listD_l, sumD_t, sumD_r, anyD_t, anyD_r, allD_t, allD_r, appD_r, extD_r, joinD_r, joinD_t, countD_s, truthD_b, truthD_i, truthD_n, truthD_s, truthD_t, iterD_t, iterD_s, iterD_l, iterD_r, range1D_i, range2D_i, fmtD_s, fmtD_i, List.getElem?_cons_zero, List.getElem?_cons_succ, List.set_cons_zero, List.set_cons_succ, Option.some.injEq, exists_eq_left', exists_eq_left, Option.map_some, Bool.false_xor, Bool.true_xor, put_same, put_put, Ob.lst.injEq, D.int.injEq, D.bl.injEq, D.str.injEq, D.tup.injEq, D.ref.injEq, seqD_t, seqD_l, seqD_r, atI_0, atI_1, atI_2, atI_3, exists_and_left, exists_eq', and_true, true_and, decide_eq_true_eq, tabOf]
    refine ⟨p, q, _, b + 1, rfl, by decide, by omega, (dk.put npr nqr), fun S1 x hx0 hx1 dk1 e1 => ?_⟩
    refine ⟨p, q, _, b, rfl, by omega, by omega, dk1, fun S2 y hy0 hy1 dk2 e2 => ?_⟩
    have ea2 : S2 a = some (.lst (is.map .int)) := e2 _ _ hap (e1 _ _ hap (by rw [put_ne har]; exact ea))
    obtain ⟨n, rfl⟩ := Int.eq_ofNat_of_zero_le hy0
    have hn : n < m := by omega
    simp only [addD_ii, addD_ss, addD_tt, subD_ii, mulD_ii, mulD_si, mulD_ti, fdivD_ii, modD_ii, powD_ii, negD_i, eqD_ii, eqD_ss, eqD_bb, ordD_ii, ordD_ss, isD_n, isD_bb, isNon, idxD_t, idxD_s, idxD_l, idxD_r, slD_t, slD_s, slD_l, slD_r, lenD_s, lenD_t, lenD_l, lenD_r, absD_i, minD_ii, maxD_ii, intD_i, intD_b, strD_i, tupleD_t, tupleD_r, tupleD_l, listD_t, listD_r, listD_l, sumD_t, sumD_r, anyD_t, anyD_r, allD_t, allD_r, appD_r, extD_r, joinD_r, joinD_t, countD_s, truthD_b, truthD_i, truthD_n, truthD_s, truthD_t, iterD_t, iterD_s, iterD_l, iterD_r, range1D_i, range2D_i, fmtD_s, fmtD_i]
    refine setD_of (n := n + 1) ea2 (by unfold ixN; rw [List.length_map, ho.1, if_pos (by omega), if_pos (by omega)]; congr 1; omega) ?_
    refine st_nil ?_
    unfold ir_l_form_4
    refine st_cons (st_ret ?_)
    simp only [wpE, wpT, wpA, wpC, wpO, wpI, wpJ, wpP, wpPs, opD, cmpD, biD, mtD, mtTy, addD_ii, addD_ss, addD_tt, subD_ii, mulD_ii, mulD_si, mulD_ti, fdivD_ii, modD_ii, powD_ii, negD_i, eqD_ii, eqD_ss, eqD_bb, ordD_ii, ordD_ss, isD_n, isD_bb, isNon, idxD_t, idxD_s, idxD_l, idxD_r, slD_t, slD_s, slD_l, slD_r, lenD_s, lenD_t, lenD_l, lenD_r, absD_i, minD_ii, maxD_ii, intD_i, intD_b, strD_i, tupleD_t, tupleD_r, tupleD_l, listD_t, listD_r, listD_l, sumD_t, sumD_r, anyD_t, anyD_r, allD_t, allD_r, appD_r, extD_r, joinD_r, joinD_t, countD_s, truthD_b, truthD_i, truthD_n, truthD_s, truthD_t, iterD_t, iterD_s, iterD_l, iterD_r, range1D_i, range2D_i, fmtD_s, fmtD_i, List.getElem?_cons_zero, List.getElem?_cons_succ, List.set_cons_zero, List.set_cons_succ, Option.some.injEq, exists_eq_left', exists_eq_left, Option.map_some, Bool.false_xor, Bool.true_xor, put_same, put_put, Ob.lst.injEq, D.int.injEq, D.bl.injEq, D.str.injEq, D.tup.injEq, D.ref.injEq, seqD_t, seqD_l, seqD_r, atI_0, atI_1, atI_2, atI_3, exists_and_left, exists_eq', and_true, true_and, decide_eq_true_eq]
    rw [← List.map_set]
    refine k _ _ ⟨by rw [List.length_set]; exact ho.1, fun i hi => ?_⟩ ?_ (dk2.put hap.symm haq.symm) ?_
    · rcases List.mem_or_eq_of_mem_set hi with h | rfl
      · exact ho.2 i h
      · omega
    · unfold isOpen
      rw [List.any_eq_true]
      obtain ⟨i, js, rfl⟩ : ∃ i js, is = i :: js := by
        cases is with
        | nil => simp [okF] at ho
        | cons i js => exact ⟨i, js, rfl⟩
      refine ⟨1 + x, ?_, by simp; omega⟩
      rw [List.set_cons_succ, List.tail_cons]
      have hl := ho.1
      rw [List.length_cons] at hl
      exact List.mem_iff_getElem.mpr ⟨n, by rw [List.length_set]; omega, by simp⟩
    · intro c o hc h
      rw [put_ne (fun z => by rw [z, hf] at h; cases h)]
      exact e2 c o hc (e1 c o hc (er c o hc h))
theorem w_form : ∀ ds S Q, spForm ds S Q → wpS (tabOf phiF) ir_l_form { nx := fun _ S' => Q .non S', rt := Q } (startD ["_law_deck_here", "_law_many", "_law_found", "_law_some", "_law_turn"] ds) S := by
  rintro ds S Q ⟨p, q, b, m, rfl, hm, hm3, dk, k⟩
  rw [show startD ["_law_deck_here", "_law_many", "_law_found", "_law_some", "_law_turn"] [.ref p, .int m] = [some (.ref p), some (.int m), none, none, none] from rfl]
  unfold ir_l_form
  refine st_cons (st_asg ?_)
  simp only [wpE, wpT, wpA, wpC, wpO, wpI, wpJ, wpP, wpPs, opD, cmpD, biD, mtD, mtTy, addD_ii, addD_ss, addD_tt, subD_ii, mulD_ii, mulD_si, mulD_ti, fdivD_ii, modD_ii, powD_ii, negD_i, eqD_ii, eqD_ss, eqD_bb, ordD_ii, ordD_ss, isD_n, isD_bb, isNon, idxD_t, idxD_s, idxD_l, idxD_r, slD_t, slD_s, slD_l, slD_r, lenD_s, lenD_t, lenD_l, lenD_r, absD_i, minD_ii, maxD_ii, intD_i, intD_b, strD_i, tupleD_t, tupleD_r, tupleD_l, listD_t, listD_r, listD_l, sumD_t, sumD_r, anyD_t, anyD_r, allD_t, allD_r, appD_r, extD_r, joinD_r, joinD_t, countD_s, truthD_b, truthD_i, truthD_n, truthD_s, truthD_t, iterD_t, iterD_s, iterD_l, iterD_r, range1D_i, range2D_i, fmtD_s, fmtD_i, List.getElem?_cons_zero, List.getElem?_cons_succ, List.set_cons_zero, List.set_cons_succ, Option.some.injEq, exists_eq_left', exists_eq_left, Option.map_some, Bool.false_xor, Bool.true_xor, put_same, put_put, Ob.lst.injEq, D.int.injEq, D.bl.injEq, D.str.injEq, D.tup.injEq, D.ref.injEq, seqD_t, seqD_l, seqD_r, atI_0, atI_1, atI_2, atI_3, exists_and_left, exists_eq', and_true, true_and, decide_eq_true_eq, tabOf]
  refine ⟨p, q, _, b + 9, rfl, by decide, by omega, dk, fun S1 x hx0 hx1 dk1 e1 => ?_⟩
  refine ⟨by decide, fun r1 hr1 => ?_⟩
  obtain ⟨np1, nq1⟩ := dk1.fresh hr1
  refine ⟨p, q, b + 8, _, _, rfl, by simp only [itemsD, put_same]; rw [if_pos ⟨by decide, np1.symm⟩], by simp, dk1.put np1 nq1, fun S2 y hy dk2 e2 => ?_⟩
  refine ⟨by simp, fun r2 hr2 => ?_⟩
  obtain ⟨np2, nq2⟩ := dk2.fresh hr2
  refine ⟨p, q, b + 7, _, _, rfl, by simp only [itemsD, put_same]; rw [if_pos ⟨by simp, np2.symm⟩], by simp, dk2.put np2 nq2, fun S3 z hz dk3 e3 => ?_⟩
  refine ⟨by simp, fun r3 hr3 => ?_⟩
  obtain ⟨np3, nq3⟩ := dk3.fresh hr3
  have E3 : ExtB p S S3 := e1.trans (((Ext.put hr1).but).trans (e2.trans (((Ext.put hr2).but).trans e3)))
  have hz' : intIn 99 z := by
    have hy' : intIn 99 y := by
      simp only [List.mem_cons, List.not_mem_nil, or_false] at hy
      rcases hy with rfl | rfl | rfl <;> exact ⟨_, rfl, by decide, by decide⟩
    simp only [List.mem_cons, List.not_mem_nil, or_false] at hz
    rcases hz with rfl | rfl | rfl | rfl | rfl | rfl | rfl | rfl
    any_goals exact ⟨_, rfl, by omega, by omega⟩
    exact hy'
  have dk3' := dk3.put (o := .lst [z]) np3 nq3
  generalize hS4 : put S3 r3 (.lst [z]) = S4 at dk3' ⊢
  have E4 : Ext S3 S4 := by rw [← hS4]; exact Ext.put hr3
  have ez4 : S4 r3 = some (.lst [z]) := by rw [← hS4]; exact put_same
  unfold ir_l_form_1
  refine st_cons (st_asg ?_)
  simp only [wpE, wpT, wpA, wpC, wpO, wpI, wpJ, wpP, wpPs, opD, cmpD, biD, mtD, mtTy, addD_ii, addD_ss, addD_tt, subD_ii, mulD_ii, mulD_si, mulD_ti, fdivD_ii, modD_ii, powD_ii, negD_i, eqD_ii, eqD_ss, eqD_bb, ordD_ii, ordD_ss, isD_n, isD_bb, isNon, idxD_t, idxD_s, idxD_l, idxD_r, slD_t, slD_s, slD_l, slD_r, lenD_s, lenD_t, lenD_l, lenD_r, absD_i, minD_ii, maxD_ii, intD_i, intD_b, strD_i, tupleD_t, tupleD_r, tupleD_l, listD_t, listD_r, listD_l, sumD_t, sumD_r, anyD_t, anyD_r, allD_t, allD_r, appD_r, extD_r, joinD_r, joinD_t, countD_s, truthD_b, truthD_i, truthD_n, truthD_s, truthD_t, iterD_t, iterD_s, iterD_l, iterD_r, range1D_i, range2D_i, fmtD_s, fmtD_i, List.getElem?_cons_zero, List.getElem?_cons_succ, List.set_cons_zero, List.set_cons_succ, Option.some.injEq, exists_eq_left', exists_eq_left, Option.map_some, Bool.false_xor, Bool.true_xor, put_same, put_put, Ob.lst.injEq, D.int.injEq, D.bl.injEq, D.str.injEq, D.tup.injEq, D.ref.injEq, seqD_t, seqD_l, seqD_r, atI_0, atI_1, atI_2, atI_3, exists_and_left, exists_eq', and_true, true_and, decide_eq_true_eq, tabOf]
  refine ⟨p, q, _, b + 6, rfl, by decide, by omega, dk3', fun S5 u hu0 hu1 dk5 e5 => ?_⟩
  refine ⟨p, q, _, b + 5, rfl, by decide, by omega, dk5, fun S6 v hv0 hv1 dk6 e6 => ?_⟩
  refine ⟨by simp, fun r4 hr4 => ?_⟩
  obtain ⟨np4, nq4⟩ := dk6.fresh hr4
  have dk7 := dk6.put (o := .lst [.int 0, .int 0, .int 1, .int 1, .int 2, .int (1 + u), .int (10 + v)]) np4 nq4
  have hsome : ∀ y ∈ [D.int 0, .int 0, .int 1, .int 1, .int 2, .int (1 + u), .int (10 + v)], intIn 99 y := by
    intro y hy
    simp only [List.mem_cons, List.not_mem_nil, or_false] at hy
    rcases hy with rfl | rfl | rfl | rfl | rfl | rfl | rfl <;> exact ⟨_, rfl, by omega, by omega⟩
  have e7 : Ext S6 (put S6 r4 (.lst [.int 0, .int 0, .int 1, .int 1, .int 2, .int (1 + u), .int (10 + v)])) := Ext.put hr4
  have er4 : put S6 r4 (.lst [.int 0, .int 0, .int 1, .int 1, .int 2, .int (1 + u), .int (10 + v)]) r4 = some (.lst [.int 0, .int 0, .int 1, .int 1, .int 2, .int (1 + u), .int (10 + v)]) := put_same
  generalize hL : [D.int 0, .int 0, .int 1, .int 1, .int 2, .int (1 + u), .int (10 + v)] = L at *
  have hLl : L.length = 7 := by rw [← hL]; rfl
  generalize put S6 r4 (.lst L) = S7 at dk7 e7 er4 ⊢
  have E7 : ExtB p S4 S7 := e5.trans (e6.trans e7.but)
  have ez7 : S7 r3 = some (.lst [z]) := E7 _ _ np3.symm ez4
  unfold ir_l_form_2
  refine st_cons (st_asg ?_)
  simp only [wpE, wpT, wpA, wpC, wpO, wpI, wpJ, wpP, wpPs, opD, cmpD, biD, mtD, mtTy, addD_ii, addD_ss, addD_tt, subD_ii, mulD_ii, mulD_si, mulD_ti, fdivD_ii, modD_ii, powD_ii, negD_i, eqD_ii, eqD_ss, eqD_bb, ordD_ii, ordD_ss, isD_n, isD_bb, isNon, idxD_t, idxD_s, idxD_l, idxD_r, slD_t, slD_s, slD_l, slD_r, lenD_s, lenD_t, lenD_l, lenD_r, absD_i, minD_ii, maxD_ii, intD_i, intD_b, strD_i, tupleD_t, tupleD_r, tupleD_l, listD_t, listD_r, listD_l, sumD_t, sumD_r, anyD_t, anyD_r, allD_t, allD_r, appD_r, extD_r, joinD_r, joinD_t, countD_s, truthD_b, truthD_i, truthD_n, truthD_s, truthD_t, iterD_t, iterD_s, iterD_l, iterD_r, range1D_i, range2D_i, fmtD_s, fmtD_i, List.getElem?_cons_zero, List.getElem?_cons_succ, List.set_cons_zero, List.set_cons_succ, Option.some.injEq, exists_eq_left', exists_eq_left, Option.map_some, Bool.false_xor, Bool.true_xor, put_same, put_put, Ob.lst.injEq, D.int.injEq, D.bl.injEq, D.str.injEq, D.tup.injEq, D.ref.injEq, seqD_t, seqD_l, seqD_r, atI_0, atI_1, atI_2, atI_3, exists_and_left, exists_eq', and_true, true_and, decide_eq_true_eq, tabOf]
  refine ⟨small_of (by omega) (by omega), fun a ha => ?_⟩
  obtain ⟨npa, nqa⟩ := dk7.fresh ha
  have hn' : (rngD 0 (m : Int)).length = m := by rw [rng_len]; rfl
  refine lc_draw (c := 1) (P := intIn 99) (S0 := S7) npa nqa ha (b + 2) _ _ _ ((Ext.put ha).but) ((dk7.put npa nqa).less (by rw [hn']; omega)) put_same (by rw [hn']; simp; omega) (by simp) (fun x hx S8 b' kk dk8 e8 hk => ?_) (fun S8 ys hl2 hP dk8 e8 eys => ?_)
  · simp only [wpE, wpT, wpA, wpC, wpO, wpI, wpJ, wpP, wpPs, opD, cmpD, biD, mtD, mtTy, List.getElem?_cons_zero, List.getElem?_cons_succ, List.set_cons_zero, List.set_cons_succ, Option.some.injEq, exists_eq_left', exists_eq_left, Option.map_some, Bool.false_xor, Bool.true_xor, put_same, put_put, Ob.lst.injEq, D.int.injEq, D.bl.injEq, D.str.injEq, D.tup.injEq, D.ref.injEq, seqD_t, seqD_l, seqD_r, atI_0, atI_1, atI_2, atI_3, exists_and_left, exists_eq', and_true, true_and, decide_eq_true_eq, wipeD, if_true]
    refine ⟨p, q, b', _, L, rfl, by simp only [itemsD, e8 _ _ np4.symm er4]; rw [if_pos ⟨by omega, np4.symm⟩], (fun h => by rw [h] at hLl; cases hLl), dk8, fun S9 y hy dk9 e9 => ?_⟩
    exact hk _ _ (hsome y hy) dk9 e9
  · have ez8 := e8 _ _ np3.symm ez7
    rw [addD_rr]
    refine ⟨_, ez8, _, eys, by rw [hl2, hn']; simp; omega, fun r5 hr5 => ?_⟩
    obtain ⟨np5, nq5⟩ := dk8.fresh hr5
    obtain ⟨is, e9, his⟩ := ints_in ([z] ++ ys) fun y hy => by
      rcases List.mem_append.mp hy with h | h
      · rw [List.mem_singleton.mp h]; exact hz'
      · exact hP y h
    have E8 : ExtB p S S8 := E3.trans (E4.but.trans (E7.trans e8))
    have h5 : S r5 = none := by
      cases h : S r5 with
      | none => rfl
      | some o => rw [E8 _ _ np5.symm h] at hr5; cases hr5
    refine w_form_3 (S0 := S) (is := is) hm hm3 (by rw [put_same, e9]) np5.symm nq5.symm h5 (E8.trans (Ext.put hr5).but) (dk8.put np5 nq5) ⟨?_, his⟩ k
    have := congrArg List.length e9
    rw [List.length_map, List.length_append, hl2, hn'] at this
    simp at this
    omega
end G57
set_option Elab.async false
set_option linter.all false
set_option maxRecDepth 100000
set_option maxHeartbeats 400000
namespace G57
open PySem L2
/-! programs -/
inductive Pg where
  | text (w : List Nat) | loop (f : List Int) (ps : List Pg)
mutual
def encP : Pg → D
  | .text w => .tup [.str [116, 101, 120, 116], .str w]
  | .loop f ps => .tup [.str [108, 111, 111, 112], .tup (f.map .int), .tup (encPs ps)]
def encPs : List Pg → List D
  | [] => []
  | p :: ps => encP p :: encPs ps
end
mutual
/-- a part for m counts, loops at most d deep, open ones where b tells -/
def okP (m : Nat) : Pg → Nat → Bool → Prop
  | .text w, _, _ => w.length ≤ 4 ∧ lowW w
  | .loop f ps, d, b => 0 < d ∧ okF m f ∧ (isOpen f = true → b = true) ∧ (isOpen f = false → ∀ i ∈ f, i ≤ 3) ∧ ps.length ≤ 2 ∧ okPs m ps (d - 1) (b && !isOpen f)
def okPs (m : Nat) : List Pg → Nat → Bool → Prop
  | [], _, _ => True
  | p :: ps, d, b => okP m p d b ∧ okPs m ps d b
end
theorem encPs_map : ∀ ps : List Pg, encPs ps = ps.map encP
  | [] => rfl
  | p :: ps => by rw [encPs, encPs_map ps]; rfl
theorem encPs_len (ps : List Pg) : (encPs ps).length = ps.length := by rw [encPs_map, List.length_map]
theorem okPs_mem {m d : Nat} {b : Bool} : ∀ {ps : List Pg}, okPs m ps d b → ∀ p ∈ ps, okP m p d b
  | [], _, p, h => by simp at h
  | q :: ps, h, p, hp => by
    rw [okPs] at h
    rcases List.mem_cons.mp hp with rfl | hp
    · exact h.1
    · exact okPs_mem h.2 p hp
theorem okPs_of {m d : Nat} {b : Bool} : ∀ {ps : List Pg}, (∀ p ∈ ps, okP m p d b) → okPs m ps d b
  | [], _ => by simp [okPs]
  | q :: ps, h => by rw [okPs]; exact ⟨h q (by simp), okPs_of fun p hp => h p (by simp [hp])⟩
def costP : Nat → Nat
  | 0 => 20
  | d + 1 => 20 + 2 * costP d
def ir_l_part_b1 : Sx := .cons (.ret (.tup (.cons (.con (.str [116, 101, 120, 116])) (.cons (.call 2 (.cons (.var 0) (.cons (.con (.int 4)) (.nil)))) (.nil))))) .nil
def ir_l_part_b2 : Sx := .cons (.asg (.t (.cons (.v 5) (.cons (.v 3) (.nil)))) (.tup (.cons (.call 3 (.cons (.var 0) (.cons (.var 1) (.nil)))) (.cons (.con (.bl false)) (.nil))))) .nil
def ir_l_part_5 : Sx := .cons (.ret (.tup (.cons (.con (.str [108, 111, 111, 112])) (.cons (.var 5) (.cons (.bi .tuple (.cons (.var 6) (.nil))) (.nil)))))) .nil
def ir_l_part_4 : Sx := .cons (.asg (.v 6) (.lc [7] (.v 7) (.iR1 (.bin .Add (.con (.int 1)) (.call 0 (.cons (.var 0) (.cons (.con (.int 2)) (.nil)))))) (.nil) (.call 1 (.cons (.var 0) (.cons (.var 1) (.cons (.bin .Sub (.var 2) (.con (.int 1))) (.cons (.var 3) (.nil)))))))) ir_l_part_5
def ir_l_part_3 : Sx := .cons (.iff (.and (.var 3) (.and (.cmp .Gt (.var 1) (.con (.int 0))) (.cmp .Lt (.var 4) (.con (.int 5))))) (ir_l_part_b2) (.nil)) ir_l_part_4
def ir_l_part_2 : Sx := .cons (.asg (.v 5) (.bin .Add (.tup (.cons (.call 0 (.cons (.var 0) (.cons (.con (.int 4)) (.nil)))) (.nil))) (.bin .Mult (.tup (.cons (.con (.int 0)) (.nil))) (.var 1)))) ir_l_part_3
def ir_l_part_1 : Sx := .cons (.iff (.or (.cmp .Eq (.var 2) (.con (.int 0))) (.cmp .Lt (.var 4) (.con (.int 2)))) (ir_l_part_b1) (.nil)) ir_l_part_2
def ir_l_part : Sx := .cons (.asg (.v 4) (.call 0 (.cons (.var 0) (.cons (.con (.int 6)) (.nil))))) ir_l_part_1
/-- the promise for loops at most n deep -/
def spPart (n : Nat) : Spec := fun ds S Q => ∃ p q b, ∃ (m d : Nat) (fr : Bool), ds = [.ref p, .int m, .int d, .bl fr] ∧ m ≤ 3 ∧ d < n ∧ Deck S p q (b + costP d) ∧ ∀ S' x, okP m x d fr → Deck S' p q b → ExtB p S S' → Q (encP x) S'
abbrev phiP (n : Nat) : List (Str × Spec) := [("_law_draw", spDraw), ("_law_part", spPart n), ("_law_word", spWord), ("_law_form", spForm)]
def partOk (m d : Nat) (b : Bool) (y : D) : Prop := ∃ x, y = encP x ∧ okP m x d b
theorem parts_of {m d : Nat} {b : Bool} : ∀ ys : List D, (∀ y ∈ ys, partOk m d b y) → ∃ ps, ys = encPs ps ∧ okPs m ps d b
  | [], _ => ⟨[], rfl, by simp [okPs]⟩
  | y :: ys, h => by
    obtain ⟨x, rfl, hx⟩ := h y (by simp)
    obtain ⟨ps, rfl, hp⟩ := parts_of ys fun z hz => h z (by simp [hz])
    exact ⟨x :: ps, by rw [encPs], by rw [okPs]; exact ⟨hx, hp⟩⟩
theorem w_part_4 {S S0 : Sto} {Q : DK} {p q : Addr} {b n m d : Nat} {fr fr0 : Bool} {f : List Int} {way : Int} (hm : m ≤ 3) (hd : d < n) (e0 : ExtB p S0 S) (dk : Deck S p q (b + 1 + 2 * costP d))
    (hf : okF m f) (h1 : isOpen f = true → fr0 = true) (h2 : isOpen f = false → ∀ i ∈ f, i ≤ 3) (h3 : fr = (fr0 && !isOpen f))
    (k : ∀ S' x, okP m x (d + 1) fr0 → Deck S' p q b → ExtB p S0 S' → Q (encP x) S') :
    wpS (tabOf (phiP n)) ir_l_part_4 { nx := fun _ S' => Q .non S', rt := Q } [some (.ref p), some (.int m), some (.int (d + 1 : Nat)), some (.bl fr), some (.int way), some (.tup (f.map .int)), none, none] S := by
  unfold ir_l_part_4
  refine st_cons (st_asg ?_)
  simp only [wpE, wpT, wpA, wpC, wpO, wpI, wpJ, wpP, wpPs, opD, cmpD, biD, mtD, mtTy, addD_ii, addD_ss, addD_tt, subD_ii, mulD_ii, mulD_si, mulD_ti, fdivD_ii, modD_ii, powD_ii, negD_i, eqD_ii, eqD_ss, eqD_bb, ordD_ii, ordD_ss, isD_n, isD_bb, isNon, idxD_t, idxD_s, idxD_l, idxD_r, slD_t, slD_s, slD_l, slD_r, lenD_s, lenD_t, lenD_l, lenD_r, absD_i, minD_ii, maxD_ii, intD_i, intD_b, strD_i, tupleD_t, tupleD_r, tupleD_l, listD_t, listD_r, listD_l, sumD_t, sumD_r, anyD_t, anyD_r, allD_t, allD_r, appD_r, extD_r, joinD_r, joinD_t, countD_s, truthD_b, truthD_i, truthD_n, truthD_s, truthD_t, iterD_t, iterD_s, iterD_l, iterD_r, range1D_i, range2D_i, fmtD_s, fmtD_i, List.getElem?_cons_zero, List.getElem?_cons_succ, List.set_cons_zero, List.set_cons_succ, Option.some.injEq, exists_eq_left', exists_eq_left, Option.map_some, Bool.false_xor, Bool.true_xor, put_same, put_put, Ob.lst.injEq, D.int.injEq, D.bl.injEq, D.str.injEq, D.tup.injEq, D.ref.injEq, seqD_t, seqD_l, seqD_r, atI_0, atI_1, atI_2, atI_3, exists_and_left, exists_eq', and_true, true_and, decide_eq_true_eq, tabOf]
  refine ⟨p, q, _, b + 2 * costP d, rfl, by decide, by omega, dk.less (by omega), fun S1 x hx0 hx1 dk1 e1 => ?_⟩
  simp only [addD_ii, addD_ss, addD_tt, subD_ii, mulD_ii, mulD_si, mulD_ti, fdivD_ii, modD_ii, powD_ii, negD_i, eqD_ii, eqD_ss, eqD_bb, ordD_ii, ordD_ss, isD_n, isD_bb, isNon, idxD_t, idxD_s, idxD_l, idxD_r, slD_t, slD_s, slD_l, slD_r, lenD_s, lenD_t, lenD_l, lenD_r, absD_i, minD_ii, maxD_ii, intD_i, intD_b, strD_i, tupleD_t, tupleD_r, tupleD_l, listD_t, listD_r, listD_l, sumD_t, sumD_r, anyD_t, anyD_r, allD_t, allD_r, appD_r, extD_r, joinD_r, joinD_t, countD_s, truthD_b, truthD_i, truthD_n, truthD_s, truthD_t, iterD_t, iterD_s, iterD_l, iterD_r, range1D_i, range2D_i, fmtD_s, fmtD_i]
  refine ⟨small_of (by omega) (by omega), fun a ha => ⟨trivial, ?_⟩⟩
  obtain ⟨npa, nqa⟩ := dk1.fresh ha
  obtain ⟨n', rfl⟩ := Int.eq_ofNat_of_zero_le hx0
  have hn' : (rngD 0 (1 + n' : Int)).length = 1 + n' := by rw [rng_len]; omega
  refine lc_draw (c := costP d) (P := partOk m d fr) (S0 := S1) npa nqa ha b _ _ _ ((Ext.put ha).but) ((dk1.put npa nqa).less ?_) put_same (by rw [hn']; simp; omega) (by simp) (fun x hx S8 b' kk dk8 e8 hk => ?_) (fun S8 ys hl2 hP dk8 e8 eys => ?_)
  · rw [hn', Nat.mul_comm 2]
    exact Nat.add_le_add_left (Nat.mul_le_mul_left _ (by omega)) _
  · simp only [wpE, wpT, wpA, wpC, wpO, wpI, wpJ, wpP, wpPs, opD, cmpD, biD, mtD, mtTy, addD_ii, addD_ss, addD_tt, subD_ii, mulD_ii, mulD_si, mulD_ti, fdivD_ii, modD_ii, powD_ii, negD_i, eqD_ii, eqD_ss, eqD_bb, ordD_ii, ordD_ss, isD_n, isD_bb, isNon, idxD_t, idxD_s, idxD_l, idxD_r, slD_t, slD_s, slD_l, slD_r, lenD_s, lenD_t, lenD_l, lenD_r, absD_i, minD_ii, maxD_ii, intD_i, intD_b, strD_i, tupleD_t, tupleD_r, tupleD_l, listD_t, listD_r, listD_l, sumD_t, sumD_r, anyD_t, anyD_r, allD_t, allD_r, appD_r, extD_r, joinD_r, joinD_t, countD_s, truthD_b, truthD_i, truthD_n, truthD_s, truthD_t, iterD_t, iterD_s, iterD_l, iterD_r, range1D_i, range2D_i, fmtD_s, fmtD_i, List.getElem?_cons_zero, List.getElem?_cons_succ, List.set_cons_zero, List.set_cons_succ, Option.some.injEq, exists_eq_left', exists_eq_left, Option.map_some, Bool.false_xor, Bool.true_xor, put_same, put_put, Ob.lst.injEq, D.int.injEq, D.bl.injEq, D.str.injEq, D.tup.injEq, D.ref.injEq, seqD_t, seqD_l, seqD_r, atI_0, atI_1, atI_2, atI_3, exists_and_left, exists_eq', and_true, true_and, decide_eq_true_eq, wipeD, if_true]
    refine ⟨p, q, b', m, d, fr, by simp, hm, hd, dk8, fun S9 y hy dk9 e9 => ?_⟩
    exact hk _ _ ⟨y, rfl, hy⟩ dk9 e9
  · obtain ⟨ps, rfl, hps⟩ := parts_of ys hP
    unfold ir_l_part_5
    refine st_cons (st_ret ?_)
    simp only [wpE, wpT, wpA, wpC, wpO, wpI, wpJ, wpP, wpPs, opD, cmpD, biD, mtD, mtTy, addD_ii, addD_ss, addD_tt, subD_ii, mulD_ii, mulD_si, mulD_ti, fdivD_ii, modD_ii, powD_ii, negD_i, eqD_ii, eqD_ss, eqD_bb, ordD_ii, ordD_ss, isD_n, isD_bb, isNon, idxD_t, idxD_s, idxD_l, idxD_r, slD_t, slD_s, slD_l, slD_r, lenD_s, lenD_t, lenD_l, lenD_r, absD_i, minD_ii, maxD_ii, intD_i, intD_b, strD_i, tupleD_t, tupleD_r, tupleD_l, listD_t, listD_r, listD_l, sumD_t, sumD_r, anyD_t, anyD_r, allD_t, allD_r, appD_r, extD_r, joinD_r, joinD_t, countD_s, truthD_b, truthD_i, truthD_n, truthD_s, truthD_t, iterD_t, iterD_s, iterD_l, iterD_r, range1D_i, range2D_i, fmtD_s, fmtD_i, List.getElem?_cons_zero, List.getElem?_cons_succ, List.set_cons_zero, List.set_cons_succ, Option.some.injEq, exists_eq_left', exists_eq_left, Option.map_some, Bool.false_xor, Bool.true_xor, put_same, put_put, Ob.lst.injEq, D.int.injEq, D.bl.injEq, D.str.injEq, D.tup.injEq, D.ref.injEq, seqD_t, seqD_l, seqD_r, atI_0, atI_1, atI_2, atI_3, exists_and_left, exists_eq', and_true, true_and, decide_eq_true_eq, eys]
    refine ⟨by simp, ?_⟩
    have hk := k S8 (.loop f ps) (by
      rw [okP]
      refine ⟨by omega, hf, h1, h2, ?_, ?_⟩
      · rw [← encPs_len, hl2, hn']; simp; omega
      · rw [← h3]; exact hps) dk8 (e0.trans (e1.trans e8))
    rw [encP] at hk
    exact hk
theorem rep1 (m : Nat) : (List.replicate m [D.int 0]).flatten = (List.replicate m (0 : Int)).map .int := by
  induction m with
  | zero => rfl
  | succ m ih => rw [List.replicate_succ, List.flatten_cons, ih]; rfl
theorem w_part (n : Nat) : ∀ ds S Q, spPart (n + 1) ds S Q → wpS (tabOf (phiP n)) ir_l_part { nx := fun _ S' => Q .non S', rt := Q } (startD ["_law_deck_here", "_law_many", "_law_deep", "_law_is_free", "_law_way", "_law_shape", "_law_inner", "_law_turn"] ds) S := by
  rintro ds S Q ⟨p, q, b, m, d, fr, rfl, hm, hd, dk, k⟩
  rw [show startD ["_law_deck_here", "_law_many", "_law_deep", "_law_is_free", "_law_way", "_law_shape", "_law_inner", "_law_turn"] [.ref p, .int m, .int d, .bl fr] = [some (.ref p), some (.int m), some (.int d), some (.bl fr), none, none, none, none] from rfl]
  have hc : 20 ≤ costP d := by cases d <;> simp [costP]
  unfold ir_l_part
  refine st_cons (st_asg ?_)
  simp only [wpE, wpT, wpA, wpC, wpO, wpI, wpJ, wpP, wpPs, opD, cmpD, biD, mtD, mtTy, addD_ii, addD_ss, addD_tt, subD_ii, mulD_ii, mulD_si, mulD_ti, fdivD_ii, modD_ii, powD_ii, negD_i, eqD_ii, eqD_ss, eqD_bb, ordD_ii, ordD_ss, isD_n, isD_bb, isNon, idxD_t, idxD_s, idxD_l, idxD_r, slD_t, slD_s, slD_l, slD_r, lenD_s, lenD_t, lenD_l, lenD_r, absD_i, minD_ii, maxD_ii, intD_i, intD_b, strD_i, tupleD_t, tupleD_r, tupleD_l, listD_t, listD_r, listD_l, sumD_t, sumD_r, anyD_t, anyD_r, allD_t, allD_r, appD_r, extD_r, joinD_r, joinD_t, countD_s, truthD_b, truthD_i, truthD_n, truthD_s, truthD_t, iterD_t, iterD_s, iterD_l, iterD_r, range1D_i, range2D_i, fmtD_s, fmtD_i, List.getElem?_cons_zero, List.getElem?_cons_succ, List.set_cons_zero, List.set_cons_succ, Option.some.injEq, exists_eq_left', exists_eq_left, Option.map_some, Bool.false_xor, Bool.true_xor, put_same, put_put, Ob.lst.injEq, D.int.injEq, D.bl.injEq, D.str.injEq, D.tup.injEq, D.ref.injEq, seqD_t, seqD_l, seqD_r, atI_0, atI_1, atI_2, atI_3, exists_and_left, exists_eq', and_true, true_and, decide_eq_true_eq, tabOf]
  refine ⟨p, q, _, b + costP d - 1, rfl, by decide, by omega, dk.less (by omega), fun S1 way hw0 hw1 dk1 e1 => ?_⟩
  unfold ir_l_part_1
  refine st_cons (st_iff ?_)
  simp only [wpE, wpT, wpA, wpC, wpO, wpI, wpJ, wpP, wpPs, opD, cmpD, biD, mtD, mtTy, addD_ii, addD_ss, addD_tt, subD_ii, mulD_ii, mulD_si, mulD_ti, fdivD_ii, modD_ii, powD_ii, negD_i, eqD_ii, eqD_ss, eqD_bb, ordD_ii, ordD_ss, isD_n, isD_bb, isNon, idxD_t, idxD_s, idxD_l, idxD_r, slD_t, slD_s, slD_l, slD_r, lenD_s, lenD_t, lenD_l, lenD_r, absD_i, minD_ii, maxD_ii, intD_i, intD_b, strD_i, tupleD_t, tupleD_r, tupleD_l, listD_t, listD_r, listD_l, sumD_t, sumD_r, anyD_t, anyD_r, allD_t, allD_r, appD_r, extD_r, joinD_r, joinD_t, countD_s, truthD_b, truthD_i, truthD_n, truthD_s, truthD_t, iterD_t, iterD_s, iterD_l, iterD_r, range1D_i, range2D_i, fmtD_s, fmtD_i, List.getElem?_cons_zero, List.getElem?_cons_succ, List.set_cons_zero, List.set_cons_succ, Option.some.injEq, exists_eq_left', exists_eq_left, Option.map_some, Bool.false_xor, Bool.true_xor, put_same, put_put, Ob.lst.injEq, D.int.injEq, D.bl.injEq, D.str.injEq, D.tup.injEq, D.ref.injEq, seqD_t, seqD_l, seqD_r, atI_0, atI_1, atI_2, atI_3, exists_and_left, exists_eq', and_true, true_and, decide_eq_true_eq, tabOf]
  have txt : wpS (tabOf (phiP n)) ir_l_part_b1 { nx := fun env' S' => wpS (tabOf (phiP n)) ir_l_part_2 { nx := fun _ S' => Q .non S', rt := Q } env' S', rt := Q } [some (.ref p), some (.int m), some (.int d), some (.bl fr), some (.int way), none, none, none] S1 := by
    unfold ir_l_part_b1
    refine st_cons (st_ret ?_)
    simp only [wpE, wpT, wpA, wpC, wpO, wpI, wpJ, wpP, wpPs, opD, cmpD, biD, mtD, mtTy, addD_ii, addD_ss, addD_tt, subD_ii, mulD_ii, mulD_si, mulD_ti, fdivD_ii, modD_ii, powD_ii, negD_i, eqD_ii, eqD_ss, eqD_bb, ordD_ii, ordD_ss, isD_n, isD_bb, isNon, idxD_t, idxD_s, idxD_l, idxD_r, slD_t, slD_s, slD_l, slD_r, lenD_s, lenD_t, lenD_l, lenD_r, absD_i, minD_ii, maxD_ii, intD_i, intD_b, strD_i, tupleD_t, tupleD_r, tupleD_l, listD_t, listD_r, listD_l, sumD_t, sumD_r, anyD_t, anyD_r, allD_t, allD_r, appD_r, extD_r, joinD_r, joinD_t, countD_s, truthD_b, truthD_i, truthD_n, truthD_s, truthD_t, iterD_t, iterD_s, iterD_l, iterD_r, range1D_i, range2D_i, fmtD_s, fmtD_i, List.getElem?_cons_zero, List.getElem?_cons_succ, List.set_cons_zero, List.set_cons_succ, Option.some.injEq, exists_eq_left', exists_eq_left, Option.map_some, Bool.false_xor, Bool.true_xor, put_same, put_put, Ob.lst.injEq, D.int.injEq, D.bl.injEq, D.str.injEq, D.tup.injEq, D.ref.injEq, seqD_t, seqD_l, seqD_r, atI_0, atI_1, atI_2, atI_3, exists_and_left, exists_eq', and_true, true_and, decide_eq_true_eq, tabOf]
    refine ⟨p, q, _, b, rfl, by decide, by decide, dk1.less (by simp; omega), fun S2 w hw hl dk2 e2 => ?_⟩
    refine ⟨by simp, ?_⟩
    have hk := k S2 (.text w) (by rw [okP]; exact ⟨by simpa using hw, hl⟩) dk2 (e1.trans e2)
    rw [encP] at hk
    exact hk
  by_cases hd0 : (d : Int) = 0
  · rw [if_pos hd0, if_pos trivial]
    exact txt
  rw [if_neg hd0]
  by_cases hw2 : way < 2
  · rw [if_pos hw2]
    exact txt
  rw [if_neg hw2]
  obtain ⟨d', rfl⟩ : ∃ d', d = d' + 1 := ⟨d - 1, by omega⟩
  simp only [costP] at dk1
  refine st_nil ?_
  unfold ir_l_part_2
  refine st_cons (st_asg ?_)
  simp only [wpE, wpT, wpA, wpC, wpO, wpI, wpJ, wpP, wpPs, opD, cmpD, biD, mtD, mtTy, addD_ii, addD_ss, addD_tt, subD_ii, mulD_ii, mulD_si, mulD_ti, fdivD_ii, modD_ii, powD_ii, negD_i, eqD_ii, eqD_ss, eqD_bb, ordD_ii, ordD_ss, isD_n, isD_bb, isNon, idxD_t, idxD_s, idxD_l, idxD_r, slD_t, slD_s, slD_l, slD_r, lenD_s, lenD_t, lenD_l, lenD_r, absD_i, minD_ii, maxD_ii, intD_i, intD_b, strD_i, tupleD_t, tupleD_r, tupleD_l, listD_t, listD_r, listD_l, sumD_t, sumD_r, anyD_t, anyD_r, allD_t, allD_r, appD_r, extD_r, joinD_r, joinD_t, countD_s, truthD_b, truthD_i, truthD_n, truthD_s, truthD_t, iterD_t, iterD_s, iterD_l, iterD_r, range1D_i, range2D_i, fmtD_s, fmtD_i, List.getElem?_cons_zero, List.getElem?_cons_succ, List.set_cons_zero, List.set_cons_succ, Option.some.injEq, exists_eq_left', exists_eq_left, Option.map_some, Bool.false_xor, Bool.true_xor, put_same, put_put, Ob.lst.injEq, D.int.injEq, D.bl.injEq, D.str.injEq, D.tup.injEq, D.ref.injEq, seqD_t, seqD_l, seqD_r, atI_0, atI_1, atI_2, atI_3, exists_and_left, exists_eq', and_true, true_and, decide_eq_true_eq, tabOf]
  refine ⟨p, q, _, b + 18 + 2 * costP d', rfl, by decide, by omega, dk1.less (by omega), fun S2 u hu0 hu1 dk2 e2 => ?_⟩
  simp only [addD_ii, addD_ss, addD_tt, subD_ii, mulD_ii, mulD_si, mulD_ti, fdivD_ii, modD_ii, powD_ii, negD_i, eqD_ii, eqD_ss, eqD_bb, ordD_ii, ordD_ss, isD_n, isD_bb, isNon, idxD_t, idxD_s, idxD_l, idxD_r, slD_t, slD_s, slD_l, slD_r, lenD_s, lenD_t, lenD_l, lenD_r, absD_i, minD_ii, maxD_ii, intD_i, intD_b, strD_i, tupleD_t, tupleD_r, tupleD_l, listD_t, listD_r, listD_l, sumD_t, sumD_r, anyD_t, anyD_r, allD_t, allD_r, appD_r, extD_r, joinD_r, joinD_t, countD_s, truthD_b, truthD_i, truthD_n, truthD_s, truthD_t, iterD_t, iterD_s, iterD_l, iterD_r, range1D_i, range2D_i, fmtD_s, fmtD_i, Int.toNat_natCast, rep1]
  refine ⟨by simp, by simp, by omega, by omega, by simp, by simp; omega, ?_⟩
  have hf0 : [D.int u] ++ (List.replicate m (0 : Int)).map .int = (u :: List.replicate m 0).map .int := rfl
  rw [hf0]
  have ok0 : okF m (u :: List.replicate m 0) := ⟨by simp, fun i hi => by
    rcases List.mem_cons.mp hi with rfl | hi
    · omega
    · rw [(List.mem_replicate.mp hi).2]; omega⟩
  have op0 : isOpen (u :: List.replicate m 0) = false := by
    unfold isOpen
    rw [List.tail_cons, List.any_eq_false]
    intro x hx
    rw [(List.mem_replicate.mp hx).2]; decide
  unfold ir_l_part_3
  refine st_cons (st_iff ?_)
  simp only [wpE, wpT, wpA, wpC, wpO, wpI, wpJ, wpP, wpPs, opD, cmpD, biD, mtD, mtTy, addD_ii, addD_ss, addD_tt, subD_ii, mulD_ii, mulD_si, mulD_ti, fdivD_ii, modD_ii, powD_ii, negD_i, eqD_ii, eqD_ss, eqD_bb, ordD_ii, ordD_ss, isD_n, isD_bb, isNon, idxD_t, idxD_s, idxD_l, idxD_r, slD_t, slD_s, slD_l, slD_r, lenD_s, lenD_t, lenD_l, lenD_r, absD_i, minD_ii, maxD_ii, intD_i, intD_b, strD_i, tupleD_t, tupleD_r, tupleD_l, listD_t, listD_r, listD_l, sumD_t, sumD_r, anyD_t, anyD_r, allD_t, allD_r, appD_r, extD_r, joinD_r, joinD_t, countD_s, truthD_b, truthD_i, truthD_n, truthD_s, truthD_t, iterD_t, iterD_s, iterD_l, iterD_r, range1D_i, range2D_i, fmtD_s, fmtD_i, List.getElem?_cons_zero, List.getElem?_cons_succ, List.set_cons_zero, List.set_cons_succ, Option.some.injEq, exists_eq_left', exists_eq_left, Option.map_some, Bool.false_xor, Bool.true_xor, put_same, put_put, Ob.lst.injEq, D.int.injEq, D.bl.injEq, D.str.injEq, D.tup.injEq, D.ref.injEq, seqD_t, seqD_l, seqD_r, atI_0, atI_1, atI_2, atI_3, exists_and_left, exists_eq', and_true, true_and, decide_eq_true_eq, tabOf]
  have shut : wpS (tabOf (phiP n)) ir_l_part_4 { nx := fun _ S' => Q .non S', rt := Q } [some (.ref p), some (.int m), some (.int (d' + 1 : Nat)), some (.bl fr), some (.int way), some (.tup ((u :: List.replicate m 0).map .int)), none, none] S2 := by
    refine w_part_4 (S0 := S) (b := b) (fr0 := fr) (f := u :: List.replicate m 0) hm (by omega) (e1.trans e2) (dk2.less (by omega)) ok0 (fun h => by rw [op0] at h; cases h) (fun _ i hi => ?_) (by rw [op0]; simp) k
    rcases List.mem_cons.mp hi with rfl | hi
    · omega
    · rw [(List.mem_replicate.mp hi).2]; omega
  cases fr with
  | false =>
    simp only [Bool.false_eq_true, if_false]
    exact st_nil shut
  | true =>
    simp only [if_true]
    split
    · split
      · rename_i hmp hw5
        unfold ir_l_part_b2
        refine st_cons (st_asg ?_)
        simp only [wpE, wpT, wpA, wpC, wpO, wpI, wpJ, wpP, wpPs, opD, cmpD, biD, mtD, mtTy, addD_ii, addD_ss, addD_tt, subD_ii, mulD_ii, mulD_si, mulD_ti, fdivD_ii, modD_ii, powD_ii, negD_i, eqD_ii, eqD_ss, eqD_bb, ordD_ii, ordD_ss, isD_n, isD_bb, isNon, idxD_t, idxD_s, idxD_l, idxD_r, slD_t, slD_s, slD_l, slD_r, lenD_s, lenD_t, lenD_l, lenD_r, absD_i, minD_ii, maxD_ii, intD_i, intD_b, strD_i, tupleD_t, tupleD_r, tupleD_l, listD_t, listD_r, listD_l, sumD_t, sumD_r, anyD_t, anyD_r, allD_t, allD_r, appD_r, extD_r, joinD_r, joinD_t, countD_s, truthD_b, truthD_i, truthD_n, truthD_s, truthD_t, iterD_t, iterD_s, iterD_l, iterD_r, range1D_i, range2D_i, fmtD_s, fmtD_i, List.getElem?_cons_zero, List.getElem?_cons_succ, List.set_cons_zero, List.set_cons_succ, Option.some.injEq, exists_eq_left', exists_eq_left, Option.map_some, Bool.false_xor, Bool.true_xor, put_same, put_put, Ob.lst.injEq, D.int.injEq, D.bl.injEq, D.str.injEq, D.tup.injEq, D.ref.injEq, seqD_t, seqD_l, seqD_r, atI_0, atI_1, atI_2, atI_3, exists_and_left, exists_eq', and_true, true_and, decide_eq_true_eq, tabOf]
        refine ⟨p, q, b + 8 + 2 * costP d', m, rfl, by omega, hm, dk2.less (by omega), fun S3 f hf ho dk3 e3 => ?_⟩
        refine ⟨by simp, ?_⟩
        refine st_nil ?_
        exact w_part_4 (S0 := S) (b := b) (fr0 := true) (f := f) hm (by omega) (e1.trans (e2.trans e3)) (dk3.less (by omega)) hf (fun _ => rfl) (fun h => by rw [ho] at h; cases h) (by rw [ho]; rfl) k
      · exact st_nil (Φ := tabOf (phiP n)) shut
    · exact st_nil (Φ := tabOf (phiP n)) shut
end G57
set_option Elab.async false
set_option linter.all false
set_option maxRecDepth 100000
set_option maxHeartbeats 400000
namespace G57
open PySem L2
abbrev Pc := List Nat × Option (List Int)
mutual
def pcsP : Pg → List Pc
  | .text w => [(w, none)]
  | .loop f ps => if isOpen f = true then [(((pcsPs ps).map (·.1)).flatten, some f)] else (List.replicate (f.headD 0).toNat (pcsPs ps)).flatten
def pcsPs : List Pg → List Pc
  | [] => []
  | p :: ps => pcsP p ++ pcsPs ps
end
def encPc : Pc → D
  | (w, none) => .tup [.str w, .non]
  | (w, some f) => .tup [.str w, .tup (f.map .int)]
/-- letters of pieces -/
def letN (xs : List Pc) : Nat := (xs.map (·.1)).flatten.length
theorem letN_app (xs ys : List Pc) : letN (xs ++ ys) = letN xs + letN ys := by simp [letN]
theorem letN_rep (k : Nat) (xs : List Pc) : letN (List.replicate k xs).flatten = k * letN xs := by
  induction k with
  | zero => simp [letN]
  | succ k ih => rw [List.replicate_succ, List.flatten_cons, letN_app, ih, Nat.succ_mul, Nat.add_comm]
theorem f_head {m : Nat} {f : List Int} (h : okF m f) : ∃ c r, f = c :: r ∧ 0 ≤ c ∧ c ≤ 99 ∧ r.length = m := by
  obtain ⟨h1, h2⟩ := h
  cases f with
  | nil => simp at h1
  | cons c r => exact ⟨c, r, rfl, (h2 c (by simp)).1, (h2 c (by simp)).2, by simpa using h1⟩
mutual
theorem pcs_bd {m : Nat} : ∀ (p : Pg) (d : Nat) (b : Bool), okP m p d b → (pcsP p).length ≤ 6 ^ d ∧ letN (pcsP p) ≤ 4 * 6 ^ d
  | .text w, d, b, h => by
    rw [okP] at h
    have : 1 ≤ 6 ^ d := Nat.one_le_pow _ _ (by decide)
    refine ⟨by simp [pcsP]; omega, ?_⟩
    simp only [pcsP, letN, List.map_cons, List.map_nil, List.flatten_cons, List.flatten_nil, List.append_nil]
    omega
  | .loop f ps, d, b, h => by
    rw [okP] at h
    obtain ⟨h0, hf, _, h3, h4, h5⟩ := h
    obtain ⟨i1, i2⟩ := pcss_bd ps _ _ h5
    obtain ⟨d', rfl⟩ : ∃ d', d = d' + 1 := ⟨d - 1, by omega⟩
    simp only [Nat.add_sub_cancel] at i1 i2
    have pw : 6 ^ (d' + 1) = 6 * 6 ^ d' := by rw [Nat.pow_succ, Nat.mul_comm]
    have p1 : 1 ≤ 6 ^ d' := Nat.one_le_pow _ _ (by decide)
    have l2 : ps.length * 6 ^ d' ≤ 2 * 6 ^ d' := Nat.mul_le_mul_right _ h4
    have l3 : ps.length * (4 * 6 ^ d') ≤ 2 * (4 * 6 ^ d') := Nat.mul_le_mul_right _ h4
    rw [pcsP]
    split
    · refine ⟨by simp; omega, ?_⟩
      show letN [_] ≤ _
      simp only [letN, List.map_cons, List.map_nil, List.flatten_cons, List.flatten_nil, List.append_nil] at i2 ⊢
      omega
    · rename_i ho
      obtain ⟨c, r, rfl, hc, _, _⟩ := f_head hf
      have hc3 := h3 (by simpa using ho) c (by simp)
      rw [List.headD_cons]
      rw [len_rep, letN_rep]
      have a1 : c.toNat * (pcsPs ps).length ≤ 3 * (pcsPs ps).length := Nat.mul_le_mul_right _ (by omega)
      have a2 : c.toNat * letN (pcsPs ps) ≤ 3 * letN (pcsPs ps) := Nat.mul_le_mul_right _ (by omega)
      omega
theorem pcss_bd {m : Nat} : ∀ (ps : List Pg) (d : Nat) (b : Bool), okPs m ps d b → (pcsPs ps).length ≤ ps.length * 6 ^ d ∧ letN (pcsPs ps) ≤ ps.length * (4 * 6 ^ d)
  | [], d, b, h => by simp [pcsPs, letN]
  | p :: ps, d, b, h => by
    rw [okPs] at h
    obtain ⟨a1, a2⟩ := pcs_bd p d b h.1
    obtain ⟨b1, b2⟩ := pcss_bd ps d b h.2
    rw [pcsPs, List.length_append, letN_app, List.length_cons, Nat.succ_mul, Nat.succ_mul]
    omega
end
theorem pcsPs_app : ∀ (xs ys : List Pg), pcsPs (xs ++ ys) = pcsPs xs ++ pcsPs ys
  | [], ys => rfl
  | x :: xs, ys => by rw [List.cons_append, pcsPs, pcsPs, pcsPs_app xs ys, List.append_assoc]
theorem pow_lim {d : Nat} (h : d ≤ 3) : 6 ^ d ≤ 216 := by
  calc 6 ^ d ≤ 6 ^ 3 := Nat.pow_le_pow_right (by decide) h
    _ = 216 := by decide
def ir_l_pieces_b2 : Sx := .cons (.ex (.mt .append (.var 1) (.cons (.tup (.cons (.idx (.var 2) (.con (.int 1))) (.cons (.con .non) (.nil)))) (.nil)))) .nil
def ir_l_pieces_b4 : Sx := .cons (.ex (.mt .append (.var 1) (.cons (.tup (.cons (.mt .join (.con (.str [])) (.cons (.lc [3, 4] (.t (.cons (.v 3) (.cons (.v 4) (.nil)))) (.iE (.call 0 (.cons (.idx (.var 2) (.con (.int 2))) (.nil)))) (.nil) (.var 3)) (.nil))) (.cons (.idx (.var 2) (.con (.int 1))) (.nil)))) (.nil)))) .nil
def ir_l_pieces_b5 : Sx := .cons (.asg (.v 1) (.bin .Add (.var 1) (.bin .Mult (.call 0 (.cons (.idx (.var 2) (.con (.int 2))) (.nil))) (.idx (.idx (.var 2) (.con (.int 1))) (.con (.int 0)))))) .nil
def ir_l_pieces_b3 : Sx := .cons (.iff (.bi .any (.cons (.sl (.idx (.var 2) (.con (.int 1))) (.cons (.con (.int 1)) .nil) (.nil)) (.nil))) (ir_l_pieces_b4) (ir_l_pieces_b5)) .nil
def ir_l_pieces_b1 : Sx := .cons (.iff (.cmp .Eq (.idx (.var 2) (.con (.int 0))) (.con (.str [116, 101, 120, 116]))) (ir_l_pieces_b2) (ir_l_pieces_b3)) .nil
def ir_l_pieces_2 : Sx := .cons (.ret (.var 1)) .nil
def ir_l_pieces_1 : Sx := .cons (.loop (.v 2) (.iE (.var 0)) (ir_l_pieces_b1)) ir_l_pieces_2
def ir_l_pieces : Sx := .cons (.asg (.v 1) (.lst (.nil))) ir_l_pieces_1
def spPieces (n : Nat) : Spec := fun ds S Q => ∃ (ps : List Pg) (m d : Nat) (fr : Bool), ds = [.tup (encPs ps)] ∧ okPs m ps d fr ∧ d < n ∧ d ≤ 3 ∧ ps.length ≤ 5 ∧ ∀ S' a, S a = none → Ext S S' → S' a = some (.lst ((pcsPs ps).map encPc)) → Q (.ref a) S'
theorem mulD_ri {S : Sto} {Q : DK} {p : Addr} {j : Int} : mulD (.ref p) (.int j) S Q = ∃ xs, S p = some (.lst xs) ∧ j < 2 ^ 40 ∧ -(2 ^ 40) < j ∧ xs.length * j.toNat ≤ 16777216 ∧ ∀ r, S r = none → Q (.ref r) (put S r (.lst (List.replicate j.toNat xs).flatten)) := rfl
theorem strs_pc : ∀ xs : List Pc, strsF (xs.map fun x => .str x.1) = some (xs.map (·.1))
  | [] => rfl
  | x :: xs => by simp [strsF, strs_pc xs]
theorem Ext.fresh {S S' : Sto} {a : Addr} (e : Ext S S') (h : S' a = none) : S a = none := by
  cases q : S a with
  | none => rfl
  | some o => rw [e _ _ q] at h; cases h
theorem Ext.write {S S' : Sto} {a : Addr} {o : Ob} (e : Ext S S') (h : S a = none) : Ext S (G57.put S' a o) := fun c u q => by
  rw [put_ne (fun z => by rw [z, h] at q; cases q)]; exact e _ _ q
theorem w_pieces (n : Nat) : ∀ ds S Q, spPieces (n + 1) ds S Q → wpS (tabOf [("_law_pieces", spPieces n)]) ir_l_pieces { nx := fun _ S' => Q .non S', rt := Q } (startD ["_law_parts", "_law_found", "_law_one_here", "_law_some", "_law_shape"] ds) S := by
  rintro ds S Q ⟨ps, m, d, fr, rfl, hok, hd, hd3, hl5, k⟩
  rw [show startD ["_law_parts", "_law_found", "_law_one_here", "_law_some", "_law_shape"] [.tup (encPs ps)] = [some (.tup (encPs ps)), none, none, none, none] from rfl]
  have p6 := pow_lim hd3
  unfold ir_l_pieces
  refine st_cons (st_asg ?_)
  simp only [wpE, wpT, wpA, wpC, wpO, wpI, wpJ, wpP, wpPs, opD, cmpD, biD, mtD, mtTy, addD_ii, addD_ss, addD_tt, subD_ii, mulD_ii, mulD_si, mulD_ti, fdivD_ii, modD_ii, powD_ii, negD_i, eqD_ii, eqD_ss, eqD_bb, ordD_ii, ordD_ss, isD_n, isD_bb, isNon, idxD_t, idxD_s, idxD_l, idxD_r, slD_t, slD_s, slD_l, slD_r, lenD_s, lenD_t, lenD_l, lenD_r, absD_i, minD_ii, maxD_ii, intD_i, intD_b, strD_i, tupleD_t, tupleD_r, tupleD_l, listD_t, listD_r, listD_l, sumD_t, sumD_r, anyD_t, anyD_r, allD_t, allD_r, appD_r, extD_r, joinD_r, joinD_t, countD_s, truthD_b, truthD_i, truthD_n, truthD_s, truthD_t, iterD_t, iterD_s, iterD_l, iterD_r, range1D_i, range2D_i, fmtD_s, fmtD_i, List.getElem?_cons_zero, List.getElem?_cons_succ, List.set_cons_zero, List.set_cons_succ, Option.some.injEq, exists_eq_left', exists_eq_left, Option.map_some, Bool.false_xor, Bool.true_xor, put_same, put_put, Ob.lst.injEq, D.int.injEq, D.bl.injEq, D.str.injEq, D.tup.injEq, D.ref.injEq, seqD_t, seqD_l, seqD_r, atI_0, atI_1, atI_2, atI_3, exists_and_left, exists_eq', and_true, true_and, decide_eq_true_eq, tabOf]
  refine ⟨by simp, fun a ha => ?_⟩
  unfold ir_l_pieces_1
  refine st_cons (st_loop ?_)
  simp only [wpE, wpT, wpA, wpC, wpO, wpI, wpJ, wpP, wpPs, opD, cmpD, biD, mtD, mtTy, addD_ii, addD_ss, addD_tt, subD_ii, mulD_ii, mulD_si, mulD_ti, fdivD_ii, modD_ii, powD_ii, negD_i, eqD_ii, eqD_ss, eqD_bb, ordD_ii, ordD_ss, isD_n, isD_bb, isNon, idxD_t, idxD_s, idxD_l, idxD_r, slD_t, slD_s, slD_l, slD_r, lenD_s, lenD_t, lenD_l, lenD_r, absD_i, minD_ii, maxD_ii, intD_i, intD_b, strD_i, tupleD_t, tupleD_r, tupleD_l, listD_t, listD_r, listD_l, sumD_t, sumD_r, anyD_t, anyD_r, allD_t, allD_r, appD_r, extD_r, joinD_r, joinD_t, countD_s, truthD_b, truthD_i, truthD_n, truthD_s, truthD_t, iterD_t, iterD_s, iterD_l, iterD_r, range1D_i, range2D_i, fmtD_s, fmtD_i, List.getElem?_cons_zero, List.getElem?_cons_succ, List.set_cons_zero, List.set_cons_succ, Option.some.injEq, exists_eq_left', exists_eq_left, Option.map_some, Bool.false_xor, Bool.true_xor, put_same, put_put, Ob.lst.injEq, D.int.injEq, D.bl.injEq, D.str.injEq, D.tup.injEq, D.ref.injEq, seqD_t, seqD_l, seqD_r, atI_0, atI_1, atI_2, atI_3, exists_and_left, exists_eq', and_true, true_and, decide_eq_true_eq, tabOf]
  refine for_inv (fun rest env S' => ∃ (a : Addr) (o : Option D) (dn rs : List Pg), ps = dn ++ rs ∧ rest = encPs rs ∧ env = [some (.tup (encPs ps)), some (.ref a), o, none, none] ∧ S a = none ∧ Ext S S' ∧ S' a = some (.lst ((pcsPs dn).map encPc))) _ _ _
    ⟨a, none, [], ps, rfl, rfl, rfl, ha, Ext.put ha, put_same⟩ ?_ (fun _ _ _ _ => trivial) ?_
  · rintro x r env S1 N ⟨a, o, dn, rs, hps, hr, rfl, fa, e1, ea⟩ hN
    cases rs with
    | nil => rw [encPs] at hr; cases hr
    | cons y rs =>
      rw [encPs] at hr
      obtain ⟨rfl, rfl⟩ := List.cons.inj hr
      have hy : okP m y d fr := okPs_mem hok y (by rw [hps]; simp)
      have hps' : ps = (dn ++ [y]) ++ rs := by rw [hps]; simp
      have bd := pcss_bd ps d fr hok
      have hbl : (pcsPs ps).length ≤ 5 * 216 := Nat.le_trans bd.1 (Nat.mul_le_mul hl5 p6)
      rw [hps, pcsPs_app, pcsPs, List.length_append, List.length_append] at hbl
      have fin : ∀ (a' : Addr) (S' : Sto), S a' = none → Ext S S' → S' a' = some (.lst ((pcsPs dn ++ pcsP y).map encPc)) → N [some (.tup (encPs ps)), some (.ref a'), some (encP y), none, none] S' := fun a' S' f1 f2 f3 =>
        hN _ _ ⟨a', _, dn ++ [y], rs, hps', rfl, rfl, f1, f2, by rw [f3, pcsPs_app]; simp [pcsPs]⟩
      simp only [wpE, wpT, wpA, wpC, wpO, wpI, wpJ, wpP, wpPs, opD, cmpD, biD, mtD, mtTy, List.getElem?_cons_zero, List.getElem?_cons_succ, List.set_cons_zero, List.set_cons_succ, Option.some.injEq, exists_eq_left', exists_eq_left, Option.map_some, Bool.false_xor, Bool.true_xor, put_same, put_put, Ob.lst.injEq, D.int.injEq, D.bl.injEq, D.str.injEq, D.tup.injEq, D.ref.injEq, seqD_t, seqD_l, seqD_r, atI_0, atI_1, atI_2, atI_3, exists_and_left, exists_eq', and_true, true_and, decide_eq_true_eq]
      unfold ir_l_pieces_b1
      refine st_cons (st_iff ?_)
      simp only [wpE, wpT, wpA, wpC, wpO, wpI, wpJ, wpP, wpPs, opD, cmpD, biD, mtD, mtTy, addD_ii, addD_ss, addD_tt, subD_ii, mulD_ii, mulD_si, mulD_ti, fdivD_ii, modD_ii, powD_ii, negD_i, eqD_ii, eqD_ss, eqD_bb, ordD_ii, ordD_ss, isD_n, isD_bb, isNon, idxD_t, idxD_s, idxD_l, idxD_r, slD_t, slD_s, slD_l, slD_r, lenD_s, lenD_t, lenD_l, lenD_r, absD_i, minD_ii, maxD_ii, intD_i, intD_b, strD_i, tupleD_t, tupleD_r, tupleD_l, listD_t, listD_r, listD_l, sumD_t, sumD_r, anyD_t, anyD_r, allD_t, allD_r, appD_r, extD_r, joinD_r, joinD_t, countD_s, truthD_b, truthD_i, truthD_n, truthD_s, truthD_t, iterD_t, iterD_s, iterD_l, iterD_r, range1D_i, range2D_i, fmtD_s, fmtD_i, List.getElem?_cons_zero, List.getElem?_cons_succ, List.set_cons_zero, List.set_cons_succ, Option.some.injEq, exists_eq_left', exists_eq_left, Option.map_some, Bool.false_xor, Bool.true_xor, put_same, put_put, Ob.lst.injEq, D.int.injEq, D.bl.injEq, D.str.injEq, D.tup.injEq, D.ref.injEq, seqD_t, seqD_l, seqD_r, atI_0, atI_1, atI_2, atI_3, exists_and_left, exists_eq', and_true, true_and, decide_eq_true_eq, tabOf]
      cases y with
      | text w =>
        simp only [encP]
        simp only [encP] at fin
        simp only [wpE, wpT, wpA, wpC, wpO, wpI, wpJ, wpP, wpPs, opD, cmpD, biD, mtD, mtTy, addD_ii, addD_ss, addD_tt, subD_ii, mulD_ii, mulD_si, mulD_ti, fdivD_ii, modD_ii, powD_ii, negD_i, eqD_ii, eqD_ss, eqD_bb, ordD_ii, ordD_ss, isD_n, isD_bb, isNon, idxD_t, idxD_s, idxD_l, idxD_r, slD_t, slD_s, slD_l, slD_r, lenD_s, lenD_t, lenD_l, lenD_r, absD_i, minD_ii, maxD_ii, intD_i, intD_b, strD_i, tupleD_t, tupleD_r, tupleD_l, listD_t, listD_r, listD_l, sumD_t, sumD_r, anyD_t, anyD_r, allD_t, allD_r, appD_r, extD_r, joinD_r, joinD_t, countD_s, truthD_b, truthD_i, truthD_n, truthD_s, truthD_t, iterD_t, iterD_s, iterD_l, iterD_r, range1D_i, range2D_i, fmtD_s, fmtD_i, List.getElem?_cons_zero, List.getElem?_cons_succ, List.set_cons_zero, List.set_cons_succ, Option.some.injEq, exists_eq_left', exists_eq_left, Option.map_some, Bool.false_xor, Bool.true_xor, put_same, put_put, Ob.lst.injEq, D.int.injEq, D.bl.injEq, D.str.injEq, D.tup.injEq, D.ref.injEq, seqD_t, seqD_l, seqD_r, atI_0, atI_1, atI_2, atI_3, exists_and_left, exists_eq', and_true, true_and, decide_eq_true_eq, decide_true, if_true]
        unfold ir_l_pieces_b2
        refine st_cons (st_ex ?_)
        simp only [wpE, wpT, wpA, wpC, wpO, wpI, wpJ, wpP, wpPs, opD, cmpD, biD, mtD, mtTy, addD_ii, addD_ss, addD_tt, subD_ii, mulD_ii, mulD_si, mulD_ti, fdivD_ii, modD_ii, powD_ii, negD_i, eqD_ii, eqD_ss, eqD_bb, ordD_ii, ordD_ss, isD_n, isD_bb, isNon, idxD_t, idxD_s, idxD_l, idxD_r, slD_t, slD_s, slD_l, slD_r, lenD_s, lenD_t, lenD_l, lenD_r, absD_i, minD_ii, maxD_ii, intD_i, intD_b, strD_i, tupleD_t, tupleD_r, tupleD_l, listD_t, listD_r, listD_l, sumD_t, sumD_r, anyD_t, anyD_r, allD_t, allD_r, appD_r, extD_r, joinD_r, joinD_t, countD_s, truthD_b, truthD_i, truthD_n, truthD_s, truthD_t, iterD_t, iterD_s, iterD_l, iterD_r, range1D_i, range2D_i, fmtD_s, fmtD_i, List.getElem?_cons_zero, List.getElem?_cons_succ, List.set_cons_zero, List.set_cons_succ, Option.some.injEq, exists_eq_left', exists_eq_left, Option.map_some, Bool.false_xor, Bool.true_xor, put_same, put_put, Ob.lst.injEq, D.int.injEq, D.bl.injEq, D.str.injEq, D.tup.injEq, D.ref.injEq, seqD_t, seqD_l, seqD_r, atI_0, atI_1, atI_2, atI_3, exists_and_left, exists_eq', and_true, true_and, decide_eq_true_eq, tabOf, ea]
        refine ⟨by simp, by rw [List.length_map]; omega, ?_⟩
        refine fin a _ fa (e1.write fa) ?_
        rw [put_same]; simp [pcsP, encPc]
      | loop f qs =>
        rw [okP] at hy
        obtain ⟨d0, hf, _, h3, h4, h5⟩ := hy
        obtain ⟨c, r, rfl, hc, hc9, hrl⟩ := f_head hf
        obtain ⟨d', rfl⟩ : ∃ d', d = d' + 1 := ⟨d - 1, by omega⟩
        simp only [Nat.add_sub_cancel] at h5
        simp only [encP]
        simp only [encP] at fin
        simp only [wpE, wpT, wpA, wpC, wpO, wpI, wpJ, wpP, wpPs, opD, cmpD, biD, mtD, mtTy, addD_ii, addD_ss, addD_tt, subD_ii, mulD_ii, mulD_si, mulD_ti, fdivD_ii, modD_ii, powD_ii, negD_i, eqD_ii, eqD_ss, eqD_bb, ordD_ii, ordD_ss, isD_n, isD_bb, isNon, idxD_t, idxD_s, idxD_l, idxD_r, slD_t, slD_s, slD_l, slD_r, lenD_s, lenD_t, lenD_l, lenD_r, absD_i, minD_ii, maxD_ii, intD_i, intD_b, strD_i, tupleD_t, tupleD_r, tupleD_l, listD_t, listD_r, listD_l, sumD_t, sumD_r, anyD_t, anyD_r, allD_t, allD_r, appD_r, extD_r, joinD_r, joinD_t, countD_s, truthD_b, truthD_i, truthD_n, truthD_s, truthD_t, iterD_t, iterD_s, iterD_l, iterD_r, range1D_i, range2D_i, fmtD_s, fmtD_i, List.getElem?_cons_zero, List.getElem?_cons_succ, List.set_cons_zero, List.set_cons_succ, Option.some.injEq, exists_eq_left', exists_eq_left, Option.map_some, Bool.false_xor, Bool.true_xor, put_same, put_put, Ob.lst.injEq, D.int.injEq, D.bl.injEq, D.str.injEq, D.tup.injEq, D.ref.injEq, seqD_t, seqD_l, seqD_r, atI_0, atI_1, atI_2, atI_3, exists_and_left, exists_eq', and_true, true_and, decide_eq_true_eq, decide_false]
        rw [if_neg (by decide)]
        unfold ir_l_pieces_b3
        refine st_cons (st_iff ?_)
        simp only [wpE, wpT, wpA, wpC, wpO, wpI, wpJ, wpP, wpPs, opD, cmpD, biD, mtD, mtTy, addD_ii, addD_ss, addD_tt, subD_ii, mulD_ii, mulD_si, mulD_ti, fdivD_ii, modD_ii, powD_ii, negD_i, eqD_ii, eqD_ss, eqD_bb, ordD_ii, ordD_ss, isD_n, isD_bb, isNon, idxD_t, idxD_s, idxD_l, idxD_r, slD_t, slD_s, slD_l, slD_r, lenD_s, lenD_t, lenD_l, lenD_r, absD_i, minD_ii, maxD_ii, intD_i, intD_b, strD_i, tupleD_t, tupleD_r, tupleD_l, listD_t, listD_r, listD_l, sumD_t, sumD_r, anyD_t, anyD_r, allD_t, allD_r, appD_r, extD_r, joinD_r, joinD_t, countD_s, truthD_b, truthD_i, truthD_n, truthD_s, truthD_t, iterD_t, iterD_s, iterD_l, iterD_r, range1D_i, range2D_i, fmtD_s, fmtD_i, List.getElem?_cons_zero, List.getElem?_cons_succ, List.set_cons_zero, List.set_cons_succ, Option.some.injEq, exists_eq_left', exists_eq_left, Option.map_some, Bool.false_xor, Bool.true_xor, put_same, put_put, Ob.lst.injEq, D.int.injEq, D.bl.injEq, D.str.injEq, D.tup.injEq, D.ref.injEq, seqD_t, seqD_l, seqD_r, atI_0, atI_1, atI_2, atI_3, exists_and_left, exists_eq', and_true, true_and, decide_eq_true_eq, tabOf, cut_1, List.map_cons, List.tail_cons, trus_ints]
        have hany : ((r.map fun i : Int => i != 0).any id) = isOpen (c :: r) := by unfold isOpen; rw [List.any_map]; rfl
        rw [hany]
        have bq := pcss_bd qs d' _ h5
        have p6' := pow_lim (show d' ≤ 3 by omega)
        have hbq : (pcsPs qs).length ≤ 2 * 216 := Nat.le_trans bq.1 (Nat.mul_le_mul h4 p6')
        have hlq : letN (pcsPs qs) ≤ 2 * (4 * 216) := Nat.le_trans bq.2 (Nat.mul_le_mul h4 (Nat.mul_le_mul_left _ p6'))
        cases hop : isOpen (c :: r) with
        | true =>
          simp only [if_true]
          unfold ir_l_pieces_b4
          refine st_cons (st_ex ?_)
          simp only [wpE, wpT, wpA, wpC, wpO, wpI, wpJ, wpP, wpPs, opD, cmpD, biD, mtD, mtTy, addD_ii, addD_ss, addD_tt, subD_ii, mulD_ii, mulD_si, mulD_ti, fdivD_ii, modD_ii, powD_ii, negD_i, eqD_ii, eqD_ss, eqD_bb, ordD_ii, ordD_ss, isD_n, isD_bb, isNon, idxD_t, idxD_s, idxD_l, idxD_r, slD_t, slD_s, slD_l, slD_r, lenD_s, lenD_t, lenD_l, lenD_r, absD_i, minD_ii, maxD_ii, intD_i, intD_b, strD_i, tupleD_t, tupleD_r, tupleD_l, listD_t, listD_r, listD_l, sumD_t, sumD_r, anyD_t, anyD_r, allD_t, allD_r, appD_r, extD_r, joinD_r, joinD_t, countD_s, truthD_b, truthD_i, truthD_n, truthD_s, truthD_t, iterD_t, iterD_s, iterD_l, iterD_r, range1D_i, range2D_i, fmtD_s, fmtD_i, List.getElem?_cons_zero, List.getElem?_cons_succ, List.set_cons_zero, List.set_cons_succ, Option.some.injEq, exists_eq_left', exists_eq_left, Option.map_some, Bool.false_xor, Bool.true_xor, put_same, put_put, Ob.lst.injEq, D.int.injEq, D.bl.injEq, D.str.injEq, D.tup.injEq, D.ref.injEq, seqD_t, seqD_l, seqD_r, atI_0, atI_1, atI_2, atI_3, exists_and_left, exists_eq', and_true, true_and, decide_eq_true_eq, tabOf, ea]
          refine ⟨qs, m, d', _, rfl, h5, by omega, by omega, by omega, fun S2 a2 f2 e2 ea2 => ?_⟩
          simp only [addD_ii, addD_ss, addD_tt, subD_ii, mulD_ii, mulD_si, mulD_ti, fdivD_ii, modD_ii, powD_ii, negD_i, eqD_ii, eqD_ss, eqD_bb, ordD_ii, ordD_ss, isD_n, isD_bb, isNon, idxD_t, idxD_s, idxD_l, idxD_r, slD_t, slD_s, slD_l, slD_r, lenD_s, lenD_t, lenD_l, lenD_r, absD_i, minD_ii, maxD_ii, intD_i, intD_b, strD_i, tupleD_t, tupleD_r, tupleD_l, listD_t, listD_r, listD_l, sumD_t, sumD_r, anyD_t, anyD_r, allD_t, allD_r, appD_r, extD_r, joinD_r, joinD_t, countD_s, truthD_b, truthD_i, truthD_n, truthD_s, truthD_t, iterD_t, iterD_s, iterD_l, iterD_r, range1D_i, range2D_i, fmtD_s, fmtD_i, List.getElem?_cons_zero, List.getElem?_cons_succ, List.set_cons_zero, List.set_cons_succ, Option.some.injEq, exists_eq_left', exists_eq_left, Option.map_some, Bool.false_xor, Bool.true_xor, put_same, put_put, Ob.lst.injEq, D.int.injEq, D.bl.injEq, D.str.injEq, D.tup.injEq, D.ref.injEq, seqD_t, seqD_l, seqD_r, atI_0, atI_1, atI_2, atI_3, exists_and_left, exists_eq', and_true, true_and, decide_eq_true_eq, ea2]
          intro a3 f3
          have n3 : a2 ≠ a3 := ne_fresh ea2 f3
          refine ⟨by rw [put_ne n3]; exact ea2, ?_⟩
          refine lc_pure (S0 := S2) (f := fun x => match x with | .tup [.str w, _] => some (.str w) | _ => none) (fun S' e => e _ _ n3 ea2) _ _ _ (Ext.put f3).but put_same (by rw [List.length_map]; simp; omega) (fun x hx S4 kk e4 hk => ?_) (fun S4 e4 ea4 => ?_)
          · obtain ⟨pc, _, rfl⟩ := List.mem_map.mp hx
            obtain ⟨w, g⟩ := pc
            cases g <;> (simp only [encPc, wpE, wpT, wpA, wpC, wpO, wpI, wpJ, wpP, wpPs, opD, cmpD, biD, mtD, mtTy, addD_ii, addD_ss, addD_tt, subD_ii, mulD_ii, mulD_si, mulD_ti, fdivD_ii, modD_ii, powD_ii, negD_i, eqD_ii, eqD_ss, eqD_bb, ordD_ii, ordD_ss, isD_n, isD_bb, isNon, idxD_t, idxD_s, idxD_l, idxD_r, slD_t, slD_s, slD_l, slD_r, lenD_s, lenD_t, lenD_l, lenD_r, absD_i, minD_ii, maxD_ii, intD_i, intD_b, strD_i, tupleD_t, tupleD_r, tupleD_l, listD_t, listD_r, listD_l, sumD_t, sumD_r, anyD_t, anyD_r, allD_t, allD_r, appD_r, extD_r, joinD_r, joinD_t, countD_s, truthD_b, truthD_i, truthD_n, truthD_s, truthD_t, iterD_t, iterD_s, iterD_l, iterD_r, range1D_i, range2D_i, fmtD_s, fmtD_i, List.getElem?_cons_zero, List.getElem?_cons_succ, List.set_cons_zero, List.set_cons_succ, Option.some.injEq, exists_eq_left', exists_eq_left, Option.map_some, Bool.false_xor, Bool.true_xor, put_same, put_put, Ob.lst.injEq, D.int.injEq, D.bl.injEq, D.str.injEq, D.tup.injEq, D.ref.injEq, seqD_t, seqD_l, seqD_r, atI_0, atI_1, atI_2, atI_3, exists_and_left, exists_eq', and_true, true_and, decide_eq_true_eq, wipeD, if_true]; exact hk _ Ext.refl)
          · have em : ((pcsPs qs).map encPc).filterMap (fun x => match x with | .tup [.str w, _] => some (.str w) | _ => none) = (pcsPs qs).map fun x => D.str x.1 := by
              induction pcsPs qs with
              | nil => rfl
              | cons x xs ih => obtain ⟨w, g⟩ := x; cases g <;> simp [encPc, ih]
            rw [em] at ea4
            have na2 : a ≠ a2 := ne_fresh ea f2
            have na3 : a ≠ a3 := ne_fresh (e2 _ _ ea) f3
            have ea' : S4 a = some (.lst ((pcsPs dn).map encPc)) := e4 _ _ na3 (e2 _ _ ea)
            simp only [wpE, wpT, wpA, wpC, wpO, wpI, wpJ, wpP, wpPs, opD, cmpD, biD, mtD, mtTy, addD_ii, addD_ss, addD_tt, subD_ii, mulD_ii, mulD_si, mulD_ti, fdivD_ii, modD_ii, powD_ii, negD_i, eqD_ii, eqD_ss, eqD_bb, ordD_ii, ordD_ss, isD_n, isD_bb, isNon, idxD_t, idxD_s, idxD_l, idxD_r, slD_t, slD_s, slD_l, slD_r, lenD_s, lenD_t, lenD_l, lenD_r, absD_i, minD_ii, maxD_ii, intD_i, intD_b, strD_i, tupleD_t, tupleD_r, tupleD_l, listD_t, listD_r, listD_l, sumD_t, sumD_r, anyD_t, anyD_r, allD_t, allD_r, appD_r, extD_r, joinD_r, joinD_t, countD_s, truthD_b, truthD_i, truthD_n, truthD_s, truthD_t, iterD_t, iterD_s, iterD_l, iterD_r, range1D_i, range2D_i, fmtD_s, fmtD_i, List.getElem?_cons_zero, List.getElem?_cons_succ, List.set_cons_zero, List.set_cons_succ, Option.some.injEq, exists_eq_left', exists_eq_left, Option.map_some, Bool.false_xor, Bool.true_xor, put_same, put_put, Ob.lst.injEq, D.int.injEq, D.bl.injEq, D.str.injEq, D.tup.injEq, D.ref.injEq, seqD_t, seqD_l, seqD_r, atI_0, atI_1, atI_2, atI_3, exists_and_left, exists_eq', and_true, true_and, decide_eq_true_eq, ea4, List.nil_append, strs_pc, ea']
            have hj : lenL ((pcsPs qs).map (·.1)) = letN (pcsPs qs) := by rw [lenL_eq]; rfl
            refine ⟨by rw [hj]; simp; omega, by simp, by rw [List.length_map]; omega, ?_⟩
            have f3' : S a3 = none := e1.fresh (e2.fresh f3)
            have E4 : Ext S S4 := fun b u q => e4 b u (fun z => by rw [z, f3'] at q; cases q) (e2 _ _ (e1 _ _ q))
            refine fin a _ fa (E4.write fa) ?_
            rw [put_same, join_nil, pcsP, if_pos hop]; simp [encPc]
        | false =>
          simp only [Bool.false_eq_true, if_false]
          unfold ir_l_pieces_b5
          refine st_cons (st_asg ?_)
          simp only [wpE, wpT, wpA, wpC, wpO, wpI, wpJ, wpP, wpPs, opD, cmpD, biD, mtD, mtTy, addD_ii, addD_ss, addD_tt, subD_ii, mulD_ii, mulD_si, mulD_ti, fdivD_ii, modD_ii, powD_ii, negD_i, eqD_ii, eqD_ss, eqD_bb, ordD_ii, ordD_ss, isD_n, isD_bb, isNon, idxD_t, idxD_s, idxD_l, idxD_r, slD_t, slD_s, slD_l, slD_r, lenD_s, lenD_t, lenD_l, lenD_r, absD_i, minD_ii, maxD_ii, intD_i, intD_b, strD_i, tupleD_t, tupleD_r, tupleD_l, listD_t, listD_r, listD_l, sumD_t, sumD_r, anyD_t, anyD_r, allD_t, allD_r, appD_r, extD_r, joinD_r, joinD_t, countD_s, truthD_b, truthD_i, truthD_n, truthD_s, truthD_t, iterD_t, iterD_s, iterD_l, iterD_r, range1D_i, range2D_i, fmtD_s, fmtD_i, List.getElem?_cons_zero, List.getElem?_cons_succ, List.set_cons_zero, List.set_cons_succ, Option.some.injEq, exists_eq_left', exists_eq_left, Option.map_some, Bool.false_xor, Bool.true_xor, put_same, put_put, Ob.lst.injEq, D.int.injEq, D.bl.injEq, D.str.injEq, D.tup.injEq, D.ref.injEq, seqD_t, seqD_l, seqD_r, atI_0, atI_1, atI_2, atI_3, exists_and_left, exists_eq', and_true, true_and, decide_eq_true_eq, tabOf]
          refine ⟨qs, m, d', _, rfl, h5, by omega, by omega, by omega, fun S2 a2 f2 e2 ea2 => ?_⟩
          have hc3 := h3 hop c (by simp)
          simp only [List.map_cons, atI_0, List.getElem?_cons_zero, List.getElem?_cons_succ, List.set_cons_zero, List.set_cons_succ, Option.some.injEq, exists_eq_left', exists_eq_left, Option.map_some, Bool.false_xor, Bool.true_xor, put_same, put_put, Ob.lst.injEq, D.int.injEq, D.bl.injEq, D.str.injEq, D.tup.injEq, D.ref.injEq, seqD_t, seqD_l, seqD_r, atI_0, atI_1, atI_2, atI_3, exists_and_left, exists_eq', and_true, true_and, decide_eq_true_eq]
          rw [mulD_ri]
          have hcm : ((pcsPs qs).map encPc).length * c.toNat ≤ (2 * 216) * 3 := by rw [List.length_map]; exact Nat.mul_le_mul hbq (by omega)
          refine ⟨_, ea2, by omega, by omega, by omega, fun r3 f3 => ?_⟩
          have na3 : a ≠ r3 := ne_fresh (e2 _ _ ea) f3
          rw [addD_rr]
          refine ⟨_, by rw [put_ne na3]; exact e2 _ _ ea, _, put_same, ?_, fun r4 f4 => ?_⟩
          · rw [List.length_map, len_rep, List.length_map, Nat.mul_comm]; rw [List.length_map] at hcm; omega
          · have n43 : r3 ≠ r4 := ne_fresh put_same f4
            have E : Ext S (put S2 r3 (.lst (List.replicate c.toNat ((pcsPs qs).map encPc)).flatten)) := (e1.trans e2).trans (Ext.put f3)
            refine fin r4 _ (E.fresh f4) (E.trans (Ext.put f4)) ?_
            rw [put_same, pcsP, if_neg (by rw [hop]; decide), List.headD_cons, List.map_append, List.map_flatten, List.map_replicate]
  · rintro env S1 ⟨a, o, dn, rs, hps, hr, rfl, fa, e1, ea⟩
    cases rs with
    | cons y rs => rw [encPs] at hr; cases hr
    | nil =>
      rw [List.append_nil] at hps
      unfold ir_l_pieces_2
      refine st_cons (st_ret ?_)
      simp only [wpE, wpT, wpA, wpC, wpO, wpI, wpJ, wpP, wpPs, opD, cmpD, biD, mtD, mtTy, addD_ii, addD_ss, addD_tt, subD_ii, mulD_ii, mulD_si, mulD_ti, fdivD_ii, modD_ii, powD_ii, negD_i, eqD_ii, eqD_ss, eqD_bb, ordD_ii, ordD_ss, isD_n, isD_bb, isNon, idxD_t, idxD_s, idxD_l, idxD_r, slD_t, slD_s, slD_l, slD_r, lenD_s, lenD_t, lenD_l, lenD_r, absD_i, minD_ii, maxD_ii, intD_i, intD_b, strD_i, tupleD_t, tupleD_r, tupleD_l, listD_t, listD_r, listD_l, sumD_t, sumD_r, anyD_t, anyD_r, allD_t, allD_r, appD_r, extD_r, joinD_r, joinD_t, countD_s, truthD_b, truthD_i, truthD_n, truthD_s, truthD_t, iterD_t, iterD_s, iterD_l, iterD_r, range1D_i, range2D_i, fmtD_s, fmtD_i, List.getElem?_cons_zero, List.getElem?_cons_succ, List.set_cons_zero, List.set_cons_succ, Option.some.injEq, exists_eq_left', exists_eq_left, Option.map_some, Bool.false_xor, Bool.true_xor, put_same, put_put, Ob.lst.injEq, D.int.injEq, D.bl.injEq, D.str.injEq, D.tup.injEq, D.ref.injEq, seqD_t, seqD_l, seqD_r, atI_0, atI_1, atI_2, atI_3, exists_and_left, exists_eq', and_true, true_and, decide_eq_true_eq]
      exact k _ _ fa e1 (by rw [hps]; exact ea)
end G57
set_option Elab.async false
set_option linter.all false
set_option maxRecDepth 100000
set_option maxHeartbeats 400000
namespace G57
open PySem L2
/-- a comprehension over things that stand for others -/
theorem lc_map {α : Type} {a : Addr} {G : Sto → Prop} {body : D → Sto → (Option D → Sto → Prop) → Prop} {Q : Sto → Prop} (enc : α → D) (g : α → Option D) {S0 : Sto} (hG : ∀ S, ExtB a S0 S → G S) :
    ∀ (xs : List α) (acc : List D) (S : Sto), ExtB a S0 S → S a = some (.lst acc) → acc.length + xs.length ≤ 16777216 →
    (∀ x ∈ xs, ∀ S1 k, ExtB a S0 S1 → (∀ S2, Ext S1 S2 → k (g x) S2) → body (enc x) S1 k) →
    (∀ S', ExtB a S0 S' → S' a = some (.lst (acc ++ xs.filterMap g)) → Q S') → lcRun a G body Q (xs.map enc) acc S
  | [], acc, S, e, ea, _, _, hq => by
    simp only [List.map_nil, lcRun]
    exact hq S e (by simpa using ea)
  | x :: xs, acc, S, e, ea, hz, hb, hq => by
    simp only [List.map_cons, lcRun]
    rw [List.length_cons] at hz
    refine hb x (by simp) S _ e fun S2 e2 => ⟨e2 _ _ ea, ?_⟩
    have eS2 : ExtB a S0 S2 := fun c o hc q => e2 c o (e c o hc q)
    cases hf : g x with
    | none =>
      simp only
      refine ⟨hG _ eS2, lc_map enc g hG xs acc S2 eS2 (e2 _ _ ea) (by omega) (fun y hy => hb y (by simp [hy])) fun S' e' q => hq S' e' ?_⟩
      rw [List.filterMap_cons_none hf]; exact q
    | some y =>
      simp only
      have eS3 : ExtB a S0 (put S2 a (.lst (acc ++ [y]))) := fun c o hc q => by rw [put_ne hc]; exact eS2 c o hc q
      refine ⟨by omega, hG _ eS3, lc_map enc g hG xs (acc ++ [y]) _ eS3 put_same (by rw [List.length_append]; simp; omega) (fun z hz' => hb z (by simp [hz'])) fun S' e' q => hq S' e' ?_⟩
      rw [List.filterMap_cons_some hf]; simpa using q
theorem fm_some {α β : Type} (h : α → β) (xs : List α) : xs.filterMap (fun x => some (h x)) = xs.map h := by
  induction xs with
  | nil => rfl
  | cons x xs ih => simp [ih]
theorem intsF_map : ∀ is : List Int, intsF (is.map .int) = some is
  | [] => rfl
  | i :: is => by simp [intsF, intsF_map is]
theorem Ext.of_but {S S1 S2 : Sto} {a : Addr} (e1 : Ext S S1) (h : S1 a = none) (e2 : ExtB a S1 S2) : Ext S S2 := fun c o q => e2 c o (fun z => by rw [z] at q; rw [e1 _ _ q] at h; cases h) (e1 _ _ q)
def szPc : Pc → Int
  | (w, none) => w.length
  | (w, some f) => w.length * (1 + f.headD 0)
def opPc : Pc → Bool
  | (_, none) => false
  | (_, some _) => true
def sizeP (ps : List Pg) : Int := ((pcsPs ps).map szPc).sum
def opensP (ps : List Pg) : Nat := ((pcsPs ps).filter opPc).length
def smallP (ps : List Pg) : Bool := decide (sizeP ps ≤ 290) && decide (opensP ps ≤ 12)
def okPc (m : Nat) (x : Pc) : Prop := match x.2 with
  | none => True
  | some f => okF m f
mutual
theorem pcs_ok {m : Nat} : ∀ (p : Pg) (d : Nat) (b : Bool), okP m p d b → ∀ x ∈ pcsP p, okPc m x
  | .text w, d, b, h, x, hx => by
    rw [pcsP] at hx
    rw [List.mem_singleton.mp hx]; trivial
  | .loop f ps, d, b, h, x, hx => by
    rw [okP] at h
    rw [pcsP] at hx
    split at hx
    · rw [List.mem_singleton.mp hx]; exact h.2.1
    · obtain ⟨ys, h1, h2⟩ := List.mem_flatten.mp hx
      rw [(List.mem_replicate.mp h1).2] at h2
      exact pcss_ok ps _ _ h.2.2.2.2.2 x h2
theorem pcss_ok {m : Nat} : ∀ (ps : List Pg) (d : Nat) (b : Bool), okPs m ps d b → ∀ x ∈ pcsPs ps, okPc m x
  | [], d, b, h, x, hx => by simp [pcsPs] at hx
  | p :: ps, d, b, h, x, hx => by
    rw [okPs] at h
    rw [pcsPs] at hx
    rcases List.mem_append.mp hx with hx | hx
    · exact pcs_ok p d b h.1 x hx
    · exact pcss_ok ps d b h.2 x hx
end
theorem word_le {x : Pc} : ∀ {xs : List Pc}, x ∈ xs → x.1.length ≤ letN xs
  | [], h => by simp at h
  | y :: xs, h => by
    have e : letN (y :: xs) = y.1.length + letN xs := by simp [letN]
    rw [e]
    rcases List.mem_cons.mp h with rfl | h
    · omega
    · have := word_le h; omega
def ir_l_is_small_2 : Sx := .cons (.ret (.and (.cmp .LtE (.var 2) (.con (.int 290))) (.cmp .LtE (.bi .len (.cons (.lc [3, 4] (.t (.cons (.v 3) (.cons (.v 4) (.nil)))) (.iE (.var 1)) (.cons (.cmp .IsNot (.var 4) (.con .non)) .nil) (.con (.int 1))) (.nil))) (.con (.int 12))))) .nil
def ir_l_is_small_1 : Sx := .cons (.asg (.v 2) (.bi .sum (.cons (.lc [3, 4] (.t (.cons (.v 3) (.cons (.v 4) (.nil)))) (.iE (.var 1)) (.nil) (.bin .Mult (.bi .len (.cons (.var 3) (.nil))) (.bin .Add (.con (.int 1)) (.ite (.cmp .IsNot (.var 4) (.con .non)) (.idx (.var 4) (.con (.int 0))) (.con (.int 0)))))) (.nil)))) ir_l_is_small_2
def ir_l_is_small : Sx := .cons (.asg (.v 1) (.call 0 (.cons (.var 0) (.nil)))) ir_l_is_small_1
def spSmall : Spec := fun ds S Q => ∃ (ps : List Pg) (m d : Nat) (fr : Bool), ds = [.tup (encPs ps)] ∧ okPs m ps d fr ∧ d ≤ 3 ∧ ps.length ≤ 5 ∧ ∀ S', Ext S S' → Q (.bl (smallP ps)) S'
theorem w_is_small : ∀ ds S Q, spSmall ds S Q → wpS (tabOf [("_law_pieces", spPieces 4)]) ir_l_is_small { nx := fun _ S' => Q .non S', rt := Q } (startD ["_law_parts", "_law_some", "_law_size", "_law_one_here", "_law_shape"] ds) S := by
  rintro ds S Q ⟨ps, m, d, fr, rfl, hok, hd3, hl5, k⟩
  rw [show startD ["_law_parts", "_law_some", "_law_size", "_law_one_here", "_law_shape"] [.tup (encPs ps)] = [some (.tup (encPs ps)), none, none, none, none] from rfl]
  have p6 := pow_lim hd3
  have bd := pcss_bd ps d fr hok
  have hbl : (pcsPs ps).length ≤ 5 * 216 := Nat.le_trans bd.1 (Nat.mul_le_mul hl5 p6)
  have hbn : letN (pcsPs ps) ≤ 5 * (4 * 216) := Nat.le_trans bd.2 (Nat.mul_le_mul hl5 (Nat.mul_le_mul_left _ p6))
  unfold ir_l_is_small
  refine st_cons (st_asg ?_)
  simp only [wpE, wpT, wpA, wpC, wpO, wpI, wpJ, wpP, wpPs, opD, cmpD, biD, mtD, mtTy, addD_ii, addD_ss, addD_tt, subD_ii, mulD_ii, mulD_si, mulD_ti, fdivD_ii, modD_ii, powD_ii, negD_i, eqD_ii, eqD_ss, eqD_bb, ordD_ii, ordD_ss, isD_n, isD_bb, isNon, idxD_t, idxD_s, idxD_l, idxD_r, slD_t, slD_s, slD_l, slD_r, lenD_s, lenD_t, lenD_l, lenD_r, absD_i, minD_ii, maxD_ii, intD_i, intD_b, strD_i, tupleD_t, tupleD_r, tupleD_l, listD_t, listD_r, listD_l, sumD_t, sumD_r, anyD_t, anyD_r, allD_t, allD_r, appD_r, extD_r, joinD_r, joinD_t, countD_s, truthD_b, truthD_i, truthD_n, truthD_s, truthD_t, iterD_t, iterD_s, iterD_l, iterD_r, range1D_i, range2D_i, fmtD_s, fmtD_i, List.getElem?_cons_zero, List.getElem?_cons_succ, List.set_cons_zero, List.set_cons_succ, Option.some.injEq, exists_eq_left', exists_eq_left, Option.map_some, Bool.false_xor, Bool.true_xor, put_same, put_put, Ob.lst.injEq, D.int.injEq, D.bl.injEq, D.str.injEq, D.tup.injEq, D.ref.injEq, seqD_t, seqD_l, seqD_r, atI_0, atI_1, atI_2, atI_3, exists_and_left, exists_eq', and_true, true_and, decide_eq_true_eq, tabOf]
  refine ⟨ps, m, d, fr, rfl, hok, by omega, hd3, hl5, fun S1 a fa e1 ea => ?_⟩
  unfold ir_l_is_small_1
  refine st_cons (st_asg ?_)
  simp only [wpE, wpT, wpA, wpC, wpO, wpI, wpJ, wpP, wpPs, opD, cmpD, biD, mtD, mtTy, addD_ii, addD_ss, addD_tt, subD_ii, mulD_ii, mulD_si, mulD_ti, fdivD_ii, modD_ii, powD_ii, negD_i, eqD_ii, eqD_ss, eqD_bb, ordD_ii, ordD_ss, isD_n, isD_bb, isNon, idxD_t, idxD_s, idxD_l, idxD_r, slD_t, slD_s, slD_l, slD_r, lenD_s, lenD_t, lenD_l, lenD_r, absD_i, minD_ii, maxD_ii, intD_i, intD_b, strD_i, tupleD_t, tupleD_r, tupleD_l, listD_t, listD_r, listD_l, sumD_t, sumD_r, anyD_t, anyD_r, allD_t, allD_r, appD_r, extD_r, joinD_r, joinD_t, countD_s, truthD_b, truthD_i, truthD_n, truthD_s, truthD_t, iterD_t, iterD_s, iterD_l, iterD_r, range1D_i, range2D_i, fmtD_s, fmtD_i, List.getElem?_cons_zero, List.getElem?_cons_succ, List.set_cons_zero, List.set_cons_succ, Option.some.injEq, exists_eq_left', exists_eq_left, Option.map_some, Bool.false_xor, Bool.true_xor, put_same, put_put, Ob.lst.injEq, D.int.injEq, D.bl.injEq, D.str.injEq, D.tup.injEq, D.ref.injEq, seqD_t, seqD_l, seqD_r, atI_0, atI_1, atI_2, atI_3, exists_and_left, exists_eq', and_true, true_and, decide_eq_true_eq, tabOf, ea]
  intro a2 f2
  have n2 : a ≠ a2 := ne_fresh ea f2
  refine ⟨by rw [put_ne n2]; exact ea, ?_⟩
  refine lc_map encPc (fun x => some (.int (szPc x))) (S0 := S1) (fun S' e => e _ _ n2 ea) _ _ _ (Ext.put f2).but put_same (by simp; omega) (fun x hx S4 kk e4 hk => ?_) (fun S4 e4 ea4 => ?_)
  · obtain ⟨w, g⟩ := x
    have hw : w.length ≤ letN (pcsPs ps) := word_le hx
    cases g with
    | none =>
      simp only [encPc, wpE, wpT, wpA, wpC, wpO, wpI, wpJ, wpP, wpPs, opD, cmpD, biD, mtD, mtTy, addD_ii, addD_ss, addD_tt, subD_ii, mulD_ii, mulD_si, mulD_ti, fdivD_ii, modD_ii, powD_ii, negD_i, eqD_ii, eqD_ss, eqD_bb, ordD_ii, ordD_ss, isD_n, isD_bb, isNon, idxD_t, idxD_s, idxD_l, idxD_r, slD_t, slD_s, slD_l, slD_r, lenD_s, lenD_t, lenD_l, lenD_r, absD_i, minD_ii, maxD_ii, intD_i, intD_b, strD_i, tupleD_t, tupleD_r, tupleD_l, listD_t, listD_r, listD_l, sumD_t, sumD_r, anyD_t, anyD_r, allD_t, allD_r, appD_r, extD_r, joinD_r, joinD_t, countD_s, truthD_b, truthD_i, truthD_n, truthD_s, truthD_t, iterD_t, iterD_s, iterD_l, iterD_r, range1D_i, range2D_i, fmtD_s, fmtD_i, List.getElem?_cons_zero, List.getElem?_cons_succ, List.set_cons_zero, List.set_cons_succ, Option.some.injEq, exists_eq_left', exists_eq_left, Option.map_some, Bool.false_xor, Bool.true_xor, put_same, put_put, Ob.lst.injEq, D.int.injEq, D.bl.injEq, D.str.injEq, D.tup.injEq, D.ref.injEq, seqD_t, seqD_l, seqD_r, atI_0, atI_1, atI_2, atI_3, exists_and_left, exists_eq', and_true, true_and, decide_eq_true_eq, wipeD, if_true, isNon]
      rw [if_neg (by decide)]
      refine ⟨by omega, cmul_of (by omega) (by decide), ?_⟩
      have := hk S4 Ext.refl
      simp only [szPc] at this
      simpa using this
    | some f =>
      obtain ⟨c, r, rfl, hc0, hc9, _⟩ := f_head (pcss_ok ps d fr hok _ hx)
      simp only [encPc, wpE, wpT, wpA, wpC, wpO, wpI, wpJ, wpP, wpPs, opD, cmpD, biD, mtD, mtTy, addD_ii, addD_ss, addD_tt, subD_ii, mulD_ii, mulD_si, mulD_ti, fdivD_ii, modD_ii, powD_ii, negD_i, eqD_ii, eqD_ss, eqD_bb, ordD_ii, ordD_ss, isD_n, isD_bb, isNon, idxD_t, idxD_s, idxD_l, idxD_r, slD_t, slD_s, slD_l, slD_r, lenD_s, lenD_t, lenD_l, lenD_r, absD_i, minD_ii, maxD_ii, intD_i, intD_b, strD_i, tupleD_t, tupleD_r, tupleD_l, listD_t, listD_r, listD_l, sumD_t, sumD_r, anyD_t, anyD_r, allD_t, allD_r, appD_r, extD_r, joinD_r, joinD_t, countD_s, truthD_b, truthD_i, truthD_n, truthD_s, truthD_t, iterD_t, iterD_s, iterD_l, iterD_r, range1D_i, range2D_i, fmtD_s, fmtD_i, List.getElem?_cons_zero, List.getElem?_cons_succ, List.set_cons_zero, List.set_cons_succ, Option.some.injEq, exists_eq_left', exists_eq_left, Option.map_some, Bool.false_xor, Bool.true_xor, put_same, put_put, Ob.lst.injEq, D.int.injEq, D.bl.injEq, D.str.injEq, D.tup.injEq, D.ref.injEq, seqD_t, seqD_l, seqD_r, atI_0, atI_1, atI_2, atI_3, exists_and_left, exists_eq', and_true, true_and, decide_eq_true_eq, wipeD, if_true, isNon, List.map_cons]
      rw [if_pos (by decide)]
      refine ⟨by omega, cmul_of (by omega) (by omega), ?_⟩
      exact hk S4 Ext.refl
  · have E4 : Ext S1 S4 := Ext.refl.of_but f2 e4
    rw [fm_some, List.nil_append, show (fun x => D.int (szPc x)) = (D.int ∘ szPc) from rfl, ← List.map_map] at ea4
    simp only [addD_ii, addD_ss, addD_tt, subD_ii, mulD_ii, mulD_si, mulD_ti, fdivD_ii, modD_ii, powD_ii, negD_i, eqD_ii, eqD_ss, eqD_bb, ordD_ii, ordD_ss, isD_n, isD_bb, isNon, idxD_t, idxD_s, idxD_l, idxD_r, slD_t, slD_s, slD_l, slD_r, lenD_s, lenD_t, lenD_l, lenD_r, absD_i, minD_ii, maxD_ii, intD_i, intD_b, strD_i, tupleD_t, tupleD_r, tupleD_l, listD_t, listD_r, listD_l, sumD_t, sumD_r, anyD_t, anyD_r, allD_t, allD_r, appD_r, extD_r, joinD_r, joinD_t, countD_s, truthD_b, truthD_i, truthD_n, truthD_s, truthD_t, iterD_t, iterD_s, iterD_l, iterD_r, range1D_i, range2D_i, fmtD_s, fmtD_i, List.getElem?_cons_zero, List.getElem?_cons_succ, List.set_cons_zero, List.set_cons_succ, Option.some.injEq, exists_eq_left', exists_eq_left, Option.map_some, Bool.false_xor, Bool.true_xor, put_same, put_put, Ob.lst.injEq, D.int.injEq, D.bl.injEq, D.str.injEq, D.tup.injEq, D.ref.injEq, seqD_t, seqD_l, seqD_r, atI_0, atI_1, atI_2, atI_3, exists_and_left, exists_eq', and_true, true_and, decide_eq_true_eq, ea4, intsF_map]
    have ea' := E4 _ _ ea
    unfold ir_l_is_small_2
    refine st_cons (st_ret ?_)
    simp only [wpE, wpT, wpA, wpC, wpO, wpI, wpJ, wpP, wpPs, opD, cmpD, biD, mtD, mtTy, addD_ii, addD_ss, addD_tt, subD_ii, mulD_ii, mulD_si, mulD_ti, fdivD_ii, modD_ii, powD_ii, negD_i, eqD_ii, eqD_ss, eqD_bb, ordD_ii, ordD_ss, isD_n, isD_bb, isNon, idxD_t, idxD_s, idxD_l, idxD_r, slD_t, slD_s, slD_l, slD_r, lenD_s, lenD_t, lenD_l, lenD_r, absD_i, minD_ii, maxD_ii, intD_i, intD_b, strD_i, tupleD_t, tupleD_r, tupleD_l, listD_t, listD_r, listD_l, sumD_t, sumD_r, anyD_t, anyD_r, allD_t, allD_r, appD_r, extD_r, joinD_r, joinD_t, countD_s, truthD_b, truthD_i, truthD_n, truthD_s, truthD_t, iterD_t, iterD_s, iterD_l, iterD_r, range1D_i, range2D_i, fmtD_s, fmtD_i, List.getElem?_cons_zero, List.getElem?_cons_succ, List.set_cons_zero, List.set_cons_succ, Option.some.injEq, exists_eq_left', exists_eq_left, Option.map_some, Bool.false_xor, Bool.true_xor, put_same, put_put, Ob.lst.injEq, D.int.injEq, D.bl.injEq, D.str.injEq, D.tup.injEq, D.ref.injEq, seqD_t, seqD_l, seqD_r, atI_0, atI_1, atI_2, atI_3, exists_and_left, exists_eq', and_true, true_and, decide_eq_true_eq, tabOf, ea']
    by_cases hs : ((pcsPs ps).map szPc).sum ≤ 290
    · rw [if_pos hs]
      intro a5 f5
      have n5 : a ≠ a5 := ne_fresh ea' f5
      refine ⟨by rw [put_ne n5]; exact ea', ?_⟩
      refine lc_map encPc (fun x => if opPc x = true then some (.int 1) else none) (S0 := S4) (fun S' e => e _ _ n5 ea') _ _ _ (Ext.put f5).but put_same (by simp; omega) (fun x hx S6 kk e6 hk => ?_) (fun S6 e6 ea6 => ?_)
      · obtain ⟨w, g⟩ := x
        have hk' := hk S6 Ext.refl
        cases g with
        | none =>
          simp only [opPc, Bool.false_eq_true, if_false] at hk'
          simp only [encPc, wpE, wpT, wpA, wpC, wpO, wpI, wpJ, wpP, wpPs, opD, cmpD, biD, mtD, mtTy, addD_ii, addD_ss, addD_tt, subD_ii, mulD_ii, mulD_si, mulD_ti, fdivD_ii, modD_ii, powD_ii, negD_i, eqD_ii, eqD_ss, eqD_bb, ordD_ii, ordD_ss, isD_n, isD_bb, isNon, idxD_t, idxD_s, idxD_l, idxD_r, slD_t, slD_s, slD_l, slD_r, lenD_s, lenD_t, lenD_l, lenD_r, absD_i, minD_ii, maxD_ii, intD_i, intD_b, strD_i, tupleD_t, tupleD_r, tupleD_l, listD_t, listD_r, listD_l, sumD_t, sumD_r, anyD_t, anyD_r, allD_t, allD_r, appD_r, extD_r, joinD_r, joinD_t, countD_s, truthD_b, truthD_i, truthD_n, truthD_s, truthD_t, iterD_t, iterD_s, iterD_l, iterD_r, range1D_i, range2D_i, fmtD_s, fmtD_i, List.getElem?_cons_zero, List.getElem?_cons_succ, List.set_cons_zero, List.set_cons_succ, Option.some.injEq, exists_eq_left', exists_eq_left, Option.map_some, Bool.false_xor, Bool.true_xor, put_same, put_put, Ob.lst.injEq, D.int.injEq, D.bl.injEq, D.str.injEq, D.tup.injEq, D.ref.injEq, seqD_t, seqD_l, seqD_r, atI_0, atI_1, atI_2, atI_3, exists_and_left, exists_eq', and_true, true_and, decide_eq_true_eq, wipeD, isNon]
          rw [if_neg (by decide)]
          exact hk'
        | some f =>
          simp only [opPc, if_true] at hk'
          simp only [encPc, wpE, wpT, wpA, wpC, wpO, wpI, wpJ, wpP, wpPs, opD, cmpD, biD, mtD, mtTy, addD_ii, addD_ss, addD_tt, subD_ii, mulD_ii, mulD_si, mulD_ti, fdivD_ii, modD_ii, powD_ii, negD_i, eqD_ii, eqD_ss, eqD_bb, ordD_ii, ordD_ss, isD_n, isD_bb, isNon, idxD_t, idxD_s, idxD_l, idxD_r, slD_t, slD_s, slD_l, slD_r, lenD_s, lenD_t, lenD_l, lenD_r, absD_i, minD_ii, maxD_ii, intD_i, intD_b, strD_i, tupleD_t, tupleD_r, tupleD_l, listD_t, listD_r, listD_l, sumD_t, sumD_r, anyD_t, anyD_r, allD_t, allD_r, appD_r, extD_r, joinD_r, joinD_t, countD_s, truthD_b, truthD_i, truthD_n, truthD_s, truthD_t, iterD_t, iterD_s, iterD_l, iterD_r, range1D_i, range2D_i, fmtD_s, fmtD_i, List.getElem?_cons_zero, List.getElem?_cons_succ, List.set_cons_zero, List.set_cons_succ, Option.some.injEq, exists_eq_left', exists_eq_left, Option.map_some, Bool.false_xor, Bool.true_xor, put_same, put_put, Ob.lst.injEq, D.int.injEq, D.bl.injEq, D.str.injEq, D.tup.injEq, D.ref.injEq, seqD_t, seqD_l, seqD_r, atI_0, atI_1, atI_2, atI_3, exists_and_left, exists_eq', and_true, true_and, decide_eq_true_eq, wipeD, isNon]
          rw [if_pos (by decide)]
          exact hk'
      · simp only [addD_ii, addD_ss, addD_tt, subD_ii, mulD_ii, mulD_si, mulD_ti, fdivD_ii, modD_ii, powD_ii, negD_i, eqD_ii, eqD_ss, eqD_bb, ordD_ii, ordD_ss, isD_n, isD_bb, isNon, idxD_t, idxD_s, idxD_l, idxD_r, slD_t, slD_s, slD_l, slD_r, lenD_s, lenD_t, lenD_l, lenD_r, absD_i, minD_ii, maxD_ii, intD_i, intD_b, strD_i, tupleD_t, tupleD_r, tupleD_l, listD_t, listD_r, listD_l, sumD_t, sumD_r, anyD_t, anyD_r, allD_t, allD_r, appD_r, extD_r, joinD_r, joinD_t, countD_s, truthD_b, truthD_i, truthD_n, truthD_s, truthD_t, iterD_t, iterD_s, iterD_l, iterD_r, range1D_i, range2D_i, fmtD_s, fmtD_i, List.getElem?_cons_zero, List.getElem?_cons_succ, List.set_cons_zero, List.set_cons_succ, Option.some.injEq, exists_eq_left', exists_eq_left, Option.map_some, Bool.false_xor, Bool.true_xor, put_same, put_put, Ob.lst.injEq, D.int.injEq, D.bl.injEq, D.str.injEq, D.tup.injEq, D.ref.injEq, seqD_t, seqD_l, seqD_r, atI_0, atI_1, atI_2, atI_3, exists_and_left, exists_eq', and_true, true_and, decide_eq_true_eq, ea6, List.nil_append]
        have hl : ((pcsPs ps).filterMap fun x => if opPc x = true then some (D.int 1) else none).length = opensP ps := by
          unfold opensP
          induction pcsPs ps with
          | nil => rfl
          | cons x xs ih => cases h : opPc x <;> simp [h, ih]
        rw [hl]
        have := k S6 (e1.trans (E4.trans (Ext.refl.of_but f5 e6)))
        unfold smallP sizeP at this
        rw [decide_eq_true hs, Bool.true_and] at this
        have hc : decide ((opensP ps : Int) ≤ 12) = decide (opensP ps ≤ 12) := by
          apply decide_eq_decide.mpr; omega
        rw [hc]; exact this
    · rw [if_neg hs]
      have := k S4 (e1.trans E4)
      unfold smallP sizeP at this
      rw [decide_eq_false hs, Bool.false_and] at this
      rw [decide_eq_false hs]; exact this
/-- a while by a measure -/
theorem wh_inv {test : En → Sto → (Bool → Sto → Prop) → Prop} {body : En → Sto → (En → Sto → Prop) → Prop} {Q : En → Sto → Prop} (I : Nat → En → Sto → Prop)
    (step : ∀ n env S (N : En → Sto → Prop), I n env S → (∀ n' env' S', n' < n → I n' env' S' → N env' S') → test env S fun t S1 => if t = true then body env S1 N else Q env S1) :
    ∀ (fuel n : Nat) (env : En) (S : Sto), n < fuel → I n env S → whRun test body Q fuel env S
  | 0, n, _, _, h, _ => absurd h (by omega)
  | fuel + 1, n, env, S, h, hi => by
    rw [whRun]
    exact step n env S _ hi fun n' env' S' hn' hi' => wh_inv I step fuel n' env' S' (by omega) hi'
/-! a program -/
def ir_l_program_b1 : Sx := .cons (.asg (.v 2) (.sl (.var 2) (.nil) (.cons (.neg (.con (.int 1))) .nil))) .nil
def ir_l_program_2 : Sx := .cons (.ret (.tup (.cons (.var 1) (.cons (.var 2) (.nil))))) .nil
def ir_l_program_1 : Sx := .cons (.wh (.not (.call 0 (.cons (.var 2) (.nil)))) (ir_l_program_b1)) ir_l_program_2
def ir_l_program : Sx := .cons (.asg (.v 2) (.bi .tuple (.cons (.lc [3] (.v 3) (.iR1 (.bin .Add (.con (.int 1)) (.call 2 (.cons (.var 0) (.cons (.con (.int 5)) (.nil)))))) (.nil) (.call 1 (.cons (.var 0) (.cons (.var 1) (.cons (.con (.int 3)) (.cons (.con (.bl true)) (.nil))))))) (.nil)))) ir_l_program_1
/-- what a program is -/
structure OkPg (m : Nat) (ps : List Pg) : Prop where
  m3 : m ≤ 3
  ok : okPs m ps 3 true
  small : smallP ps = true
  len : ps.length ≤ 5
def encPg (m : Nat) (ps : List Pg) : D := .tup [.int m, .tup (encPs ps)]
def spProgram : Spec := fun ds S Q => ∃ p q b, ∃ m : Nat, ds = [.ref p, .int m] ∧ m ≤ 3 ∧ Deck S p q (b + 1501) ∧ ∀ S' ps, OkPg m ps → Deck S' p q b → ExtB p S S' → Q (encPg m ps) S'
abbrev phiG : List (Str × Spec) := [("_law_is_small", spSmall), ("_law_part", spPart 4), ("_law_draw", spDraw)]
theorem encPs_dropLast (ps : List Pg) : (encPs ps).dropLast = encPs ps.dropLast := by rw [encPs_map, encPs_map, List.map_dropLast]
theorem w_program : ∀ ds S Q, spProgram ds S Q → wpS (tabOf phiG) ir_l_program { nx := fun _ S' => Q .non S', rt := Q } (startD ["_law_deck_here", "_law_many", "_law_parts", "_law_turn"] ds) S := by
  rintro ds S Q ⟨p, q, b, m, rfl, hm, dk, k⟩
  rw [show startD ["_law_deck_here", "_law_many", "_law_parts", "_law_turn"] [.ref p, .int m] = [some (.ref p), some (.int m), none, none] from rfl]
  unfold ir_l_program
  refine st_cons (st_asg ?_)
  simp only [wpE, wpT, wpA, wpC, wpO, wpI, wpJ, wpP, wpPs, opD, cmpD, biD, mtD, mtTy, addD_ii, addD_ss, addD_tt, subD_ii, mulD_ii, mulD_si, mulD_ti, fdivD_ii, modD_ii, powD_ii, negD_i, eqD_ii, eqD_ss, eqD_bb, ordD_ii, ordD_ss, isD_n, isD_bb, isNon, idxD_t, idxD_s, idxD_l, idxD_r, slD_t, slD_s, slD_l, slD_r, lenD_s, lenD_t, lenD_l, lenD_r, absD_i, minD_ii, maxD_ii, intD_i, intD_b, strD_i, tupleD_t, tupleD_r, tupleD_l, listD_t, listD_r, listD_l, sumD_t, sumD_r, anyD_t, anyD_r, allD_t, allD_r, appD_r, extD_r, joinD_r, joinD_t, countD_s, truthD_b, truthD_i, truthD_n, truthD_s, truthD_t, iterD_t, iterD_s, iterD_l, iterD_r, range1D_i, range2D_i, fmtD_s, fmtD_i, List.getElem?_cons_zero, List.getElem?_cons_succ, List.set_cons_zero, List.set_cons_succ, Option.some.injEq, exists_eq_left', exists_eq_left, Option.map_some, Bool.false_xor, Bool.true_xor, put_same, put_put, Ob.lst.injEq, D.int.injEq, D.bl.injEq, D.str.injEq, D.tup.injEq, D.ref.injEq, seqD_t, seqD_l, seqD_r, atI_0, atI_1, atI_2, atI_3, exists_and_left, exists_eq', and_true, true_and, decide_eq_true_eq, tabOf]
  refine ⟨p, q, _, b + 1500, rfl, by decide, by omega, dk, fun S1 x hx0 hx1 dk1 e1 => ?_⟩
  simp only [addD_ii, addD_ss, addD_tt, subD_ii, mulD_ii, mulD_si, mulD_ti, fdivD_ii, modD_ii, powD_ii, negD_i, eqD_ii, eqD_ss, eqD_bb, ordD_ii, ordD_ss, isD_n, isD_bb, isNon, idxD_t, idxD_s, idxD_l, idxD_r, slD_t, slD_s, slD_l, slD_r, lenD_s, lenD_t, lenD_l, lenD_r, absD_i, minD_ii, maxD_ii, intD_i, intD_b, strD_i, tupleD_t, tupleD_r, tupleD_l, listD_t, listD_r, listD_l, sumD_t, sumD_r, anyD_t, anyD_r, allD_t, allD_r, appD_r, extD_r, joinD_r, joinD_t, countD_s, truthD_b, truthD_i, truthD_n, truthD_s, truthD_t, iterD_t, iterD_s, iterD_l, iterD_r, range1D_i, range2D_i, fmtD_s, fmtD_i]
  refine ⟨small_of (by omega) (by omega), fun a ha => ⟨trivial, ?_⟩⟩
  obtain ⟨npa, nqa⟩ := dk1.fresh ha
  obtain ⟨n', rfl⟩ := Int.eq_ofNat_of_zero_le hx0
  have hn' : (rngD 0 (1 + n' : Int)).length = 1 + n' := by rw [rng_len]; omega
  refine lc_draw (c := 300) (P := partOk m 3 true) (S0 := S1) npa nqa ha b _ _ _ ((Ext.put ha).but) ((dk1.put npa nqa).less (by rw [hn']; omega)) put_same (by rw [hn']; simp; omega) (by simp) (fun x hx S8 b' kk dk8 e8 hk => ?_) (fun S8 ys hl2 hP dk8 e8 eys => ?_)
  · simp only [wpE, wpT, wpA, wpC, wpO, wpI, wpJ, wpP, wpPs, opD, cmpD, biD, mtD, mtTy, addD_ii, addD_ss, addD_tt, subD_ii, mulD_ii, mulD_si, mulD_ti, fdivD_ii, modD_ii, powD_ii, negD_i, eqD_ii, eqD_ss, eqD_bb, ordD_ii, ordD_ss, isD_n, isD_bb, isNon, idxD_t, idxD_s, idxD_l, idxD_r, slD_t, slD_s, slD_l, slD_r, lenD_s, lenD_t, lenD_l, lenD_r, absD_i, minD_ii, maxD_ii, intD_i, intD_b, strD_i, tupleD_t, tupleD_r, tupleD_l, listD_t, listD_r, listD_l, sumD_t, sumD_r, anyD_t, anyD_r, allD_t, allD_r, appD_r, extD_r, joinD_r, joinD_t, countD_s, truthD_b, truthD_i, truthD_n, truthD_s, truthD_t, iterD_t, iterD_s, iterD_l, iterD_r, range1D_i, range2D_i, fmtD_s, fmtD_i, List.getElem?_cons_zero, List.getElem?_cons_succ, List.set_cons_zero, List.set_cons_succ, Option.some.injEq, exists_eq_left', exists_eq_left, Option.map_some, Bool.false_xor, Bool.true_xor, put_same, put_put, Ob.lst.injEq, D.int.injEq, D.bl.injEq, D.str.injEq, D.tup.injEq, D.ref.injEq, seqD_t, seqD_l, seqD_r, atI_0, atI_1, atI_2, atI_3, exists_and_left, exists_eq', and_true, true_and, decide_eq_true_eq, wipeD, if_true]
    refine ⟨p, q, b', m, 3, true, rfl, hm, by omega, dk8, fun S9 y hy dk9 e9 => ?_⟩
    exact hk _ _ ⟨y, rfl, hy⟩ dk9 e9
  · obtain ⟨ps, rfl, hps⟩ := parts_of ys hP
    simp only [wpE, wpT, wpA, wpC, wpO, wpI, wpJ, wpP, wpPs, opD, cmpD, biD, mtD, mtTy, addD_ii, addD_ss, addD_tt, subD_ii, mulD_ii, mulD_si, mulD_ti, fdivD_ii, modD_ii, powD_ii, negD_i, eqD_ii, eqD_ss, eqD_bb, ordD_ii, ordD_ss, isD_n, isD_bb, isNon, idxD_t, idxD_s, idxD_l, idxD_r, slD_t, slD_s, slD_l, slD_r, lenD_s, lenD_t, lenD_l, lenD_r, absD_i, minD_ii, maxD_ii, intD_i, intD_b, strD_i, tupleD_t, tupleD_r, tupleD_l, listD_t, listD_r, listD_l, sumD_t, sumD_r, anyD_t, anyD_r, allD_t, allD_r, appD_r, extD_r, joinD_r, joinD_t, countD_s, truthD_b, truthD_i, truthD_n, truthD_s, truthD_t, iterD_t, iterD_s, iterD_l, iterD_r, range1D_i, range2D_i, fmtD_s, fmtD_i, List.getElem?_cons_zero, List.getElem?_cons_succ, List.set_cons_zero, List.set_cons_succ, Option.some.injEq, exists_eq_left', exists_eq_left, Option.map_some, Bool.false_xor, Bool.true_xor, put_same, put_put, Ob.lst.injEq, D.int.injEq, D.bl.injEq, D.str.injEq, D.tup.injEq, D.ref.injEq, seqD_t, seqD_l, seqD_r, atI_0, atI_1, atI_2, atI_3, exists_and_left, exists_eq', and_true, true_and, decide_eq_true_eq, eys]
    have hpl : ps.length ≤ 5 := by rw [← encPs_len, hl2, hn']; simp; omega
    have E8 : ExtB p S S8 := e1.trans e8
    clear eys hP hl2 e8
    unfold ir_l_program_1
    refine st_cons (st_wh (ps.length + 1) ?_)
    refine wh_inv (fun n env S' => ∃ ps, n = ps.length ∧ env = [some (.ref p), some (.int m), some (.tup (encPs ps)), none] ∧ okPs m ps 3 true ∧ ps.length ≤ 5 ∧ Deck S' p q b ∧ ExtB p S S') ?_ _ ps.length _ _ (by omega) ⟨ps, rfl, rfl, hps, hpl, dk8, E8⟩
    rintro n env S9 N ⟨ps, rfl, rfl, hps, hpl, dk9, e9⟩ hN
    simp only [wpE, wpT, wpA, wpC, wpO, wpI, wpJ, wpP, wpPs, opD, cmpD, biD, mtD, mtTy, addD_ii, addD_ss, addD_tt, subD_ii, mulD_ii, mulD_si, mulD_ti, fdivD_ii, modD_ii, powD_ii, negD_i, eqD_ii, eqD_ss, eqD_bb, ordD_ii, ordD_ss, isD_n, isD_bb, isNon, idxD_t, idxD_s, idxD_l, idxD_r, slD_t, slD_s, slD_l, slD_r, lenD_s, lenD_t, lenD_l, lenD_r, absD_i, minD_ii, maxD_ii, intD_i, intD_b, strD_i, tupleD_t, tupleD_r, tupleD_l, listD_t, listD_r, listD_l, sumD_t, sumD_r, anyD_t, anyD_r, allD_t, allD_r, appD_r, extD_r, joinD_r, joinD_t, countD_s, truthD_b, truthD_i, truthD_n, truthD_s, truthD_t, iterD_t, iterD_s, iterD_l, iterD_r, range1D_i, range2D_i, fmtD_s, fmtD_i, List.getElem?_cons_zero, List.getElem?_cons_succ, List.set_cons_zero, List.set_cons_succ, Option.some.injEq, exists_eq_left', exists_eq_left, Option.map_some, Bool.false_xor, Bool.true_xor, put_same, put_put, Ob.lst.injEq, D.int.injEq, D.bl.injEq, D.str.injEq, D.tup.injEq, D.ref.injEq, seqD_t, seqD_l, seqD_r, atI_0, atI_1, atI_2, atI_3, exists_and_left, exists_eq', and_true, true_and, decide_eq_true_eq, tabOf]
    refine ⟨ps, m, 3, true, rfl, hps, by omega, hpl, fun S10 e10 => ?_⟩
    cases h0 : smallP ps with
    | true =>
      simp only [addD_ii, addD_ss, addD_tt, subD_ii, mulD_ii, mulD_si, mulD_ti, fdivD_ii, modD_ii, powD_ii, negD_i, eqD_ii, eqD_ss, eqD_bb, ordD_ii, ordD_ss, isD_n, isD_bb, isNon, idxD_t, idxD_s, idxD_l, idxD_r, slD_t, slD_s, slD_l, slD_r, lenD_s, lenD_t, lenD_l, lenD_r, absD_i, minD_ii, maxD_ii, intD_i, intD_b, strD_i, tupleD_t, tupleD_r, tupleD_l, listD_t, listD_r, listD_l, sumD_t, sumD_r, anyD_t, anyD_r, allD_t, allD_r, appD_r, extD_r, joinD_r, joinD_t, countD_s, truthD_b, truthD_i, truthD_n, truthD_s, truthD_t, iterD_t, iterD_s, iterD_l, iterD_r, range1D_i, range2D_i, fmtD_s, fmtD_i, Bool.not_true, Bool.false_eq_true, if_false]
      unfold ir_l_program_2
      refine st_cons (st_ret ?_)
      simp only [wpE, wpT, wpA, wpC, wpO, wpI, wpJ, wpP, wpPs, opD, cmpD, biD, mtD, mtTy, addD_ii, addD_ss, addD_tt, subD_ii, mulD_ii, mulD_si, mulD_ti, fdivD_ii, modD_ii, powD_ii, negD_i, eqD_ii, eqD_ss, eqD_bb, ordD_ii, ordD_ss, isD_n, isD_bb, isNon, idxD_t, idxD_s, idxD_l, idxD_r, slD_t, slD_s, slD_l, slD_r, lenD_s, lenD_t, lenD_l, lenD_r, absD_i, minD_ii, maxD_ii, intD_i, intD_b, strD_i, tupleD_t, tupleD_r, tupleD_l, listD_t, listD_r, listD_l, sumD_t, sumD_r, anyD_t, anyD_r, allD_t, allD_r, appD_r, extD_r, joinD_r, joinD_t, countD_s, truthD_b, truthD_i, truthD_n, truthD_s, truthD_t, iterD_t, iterD_s, iterD_l, iterD_r, range1D_i, range2D_i, fmtD_s, fmtD_i, List.getElem?_cons_zero, List.getElem?_cons_succ, List.set_cons_zero, List.set_cons_succ, Option.some.injEq, exists_eq_left', exists_eq_left, Option.map_some, Bool.false_xor, Bool.true_xor, put_same, put_put, Ob.lst.injEq, D.int.injEq, D.bl.injEq, D.str.injEq, D.tup.injEq, D.ref.injEq, seqD_t, seqD_l, seqD_r, atI_0, atI_1, atI_2, atI_3, exists_and_left, exists_eq', and_true, true_and, decide_eq_true_eq]
      exact ⟨by simp, k _ _ ⟨hm, hps, h0, hpl⟩ (dk9.ext e10) (e9.trans e10.but)⟩
    | false =>
      simp only [addD_ii, addD_ss, addD_tt, subD_ii, mulD_ii, mulD_si, mulD_ti, fdivD_ii, modD_ii, powD_ii, negD_i, eqD_ii, eqD_ss, eqD_bb, ordD_ii, ordD_ss, isD_n, isD_bb, isNon, idxD_t, idxD_s, idxD_l, idxD_r, slD_t, slD_s, slD_l, slD_r, lenD_s, lenD_t, lenD_l, lenD_r, absD_i, minD_ii, maxD_ii, intD_i, intD_b, strD_i, tupleD_t, tupleD_r, tupleD_l, listD_t, listD_r, listD_l, sumD_t, sumD_r, anyD_t, anyD_r, allD_t, allD_r, appD_r, extD_r, joinD_r, joinD_t, countD_s, truthD_b, truthD_i, truthD_n, truthD_s, truthD_t, iterD_t, iterD_s, iterD_l, iterD_r, range1D_i, range2D_i, fmtD_s, fmtD_i, Bool.not_false, if_true]
      unfold ir_l_program_b1
      refine st_cons (st_asg ?_)
      simp only [wpE, wpT, wpA, wpC, wpO, wpI, wpJ, wpP, wpPs, opD, cmpD, biD, mtD, mtTy, addD_ii, addD_ss, addD_tt, subD_ii, mulD_ii, mulD_si, mulD_ti, fdivD_ii, modD_ii, powD_ii, negD_i, eqD_ii, eqD_ss, eqD_bb, ordD_ii, ordD_ss, isD_n, isD_bb, isNon, idxD_t, idxD_s, idxD_l, idxD_r, slD_t, slD_s, slD_l, slD_r, lenD_s, lenD_t, lenD_l, lenD_r, absD_i, minD_ii, maxD_ii, intD_i, intD_b, strD_i, tupleD_t, tupleD_r, tupleD_l, listD_t, listD_r, listD_l, sumD_t, sumD_r, anyD_t, anyD_r, allD_t, allD_r, appD_r, extD_r, joinD_r, joinD_t, countD_s, truthD_b, truthD_i, truthD_n, truthD_s, truthD_t, iterD_t, iterD_s, iterD_l, iterD_r, range1D_i, range2D_i, fmtD_s, fmtD_i, List.getElem?_cons_zero, List.getElem?_cons_succ, List.set_cons_zero, List.set_cons_succ, Option.some.injEq, exists_eq_left', exists_eq_left, Option.map_some, Bool.false_xor, Bool.true_xor, put_same, put_put, Ob.lst.injEq, D.int.injEq, D.bl.injEq, D.str.injEq, D.tup.injEq, D.ref.injEq, seqD_t, seqD_l, seqD_r, atI_0, atI_1, atI_2, atI_3, exists_and_left, exists_eq', and_true, true_and, decide_eq_true_eq]
      rw [cut_m, encPs_dropLast]
      have hne : ps ≠ [] := fun h => by rw [h] at h0; cases h0
      have hp : 0 < ps.length := List.length_pos_iff.mpr hne
      exact hN _ _ _ (by rw [List.length_dropLast]; omega) ⟨ps.dropLast, rfl, rfl, okPs_of fun y hy => okPs_mem hps y (List.dropLast_subset _ hy), by rw [List.length_dropLast]; omega, dk9.ext e10, e9.trans e10.but⟩
end G57
set_option Elab.async false
set_option linter.all false
set_option maxRecDepth 100000
set_option maxHeartbeats 400000
namespace G57
open PySem L2
/-! how long a shown value is -/
theorem itxt_len {i : Int} {k : Nat} (hk : 0 < k) (h : i.natAbs < 10 ^ k) : (itxt i).length ≤ k + 1 := by
  have e := int_text_length_le10 hk h
  have e2 : (itxt i).length = (Str.ofString (toString i)).length := by unfold itxt; rw [Array.length_toList]; rfl
  rw [e2, ofString_length]; exact e
mutual
def rsz (B : Nat) : D → Nat
  | .int _ => B + 1
  | .str x => 10 * x.length + 2
  | .tup ds | .rol ds => rszs B ds + 3
  | _ => 5
def rszs (B : Nat) : List D → Nat
  | [] => 0
  | d :: ds => rsz B d + 2 + rszs B ds
end
mutual
def inB (B : Nat) : D → Prop
  | .int i => i.natAbs < 10 ^ B
  | .tup ds | .rol ds => insB B ds
  | _ => True
def insB (B : Nat) : List D → Prop
  | [] => True
  | d :: ds => inB B d ∧ insB B ds
end
mutual
theorem shown_rsz (B : Nat) (hB : 0 < B) : ∀ (d : D) (n : Nat), okD n d = true → inB B d → (py d).shown.length ≤ rsz B d
  | .non, _, _, _ => by simp only [py, rsz]; decide
  | .bl b, _, _, _ => by simp only [py, rsz]; cases b <;> decide
  | .int i, _, _, h => by
    simp only [py, rsz, inB] at h ⊢
    have e := itxt_len hB h
    have e2 : (itxt i).length = (PyData.shown (.int i)).length := by unfold itxt; rw [Array.length_toList]; rfl
    omega
  | .str x, n, hk, _ => by
    simp only [py, rsz, PyData.shown]
    have hx : ∀ c ∈ (⟨x.toArray⟩ : Str).cps.toList, c < 16 ^ 8 := by
      have : x.all (fun c => decide (c < 0x110000)) = true := by cases n <;> simpa [okD] using hk
      intro c hc
      have := List.all_eq_true.mp this c (by simpa using hc)
      simp only [decide_eq_true_eq] at this
      omega
    have := StrLaws.reprText_len ⟨x.toArray⟩ hx
    simpa [Str.length] using this
  | .tup ds, n, hk, h => by
    cases n with
    | zero => simp [okD] at hk
    | succ n =>
      simp only [okD] at hk
      simp only [inB] at h
      have h1 := showns_rsz B hB ds n hk h
      have h2 := tupleText_len_le (PyData.shownAll (pys ds))
      have h3 := PyData.shownAll_length (pys ds)
      simp only [py, rsz, PyData.shown]
      omega
  | .rol ds, n, hk, h => by
    cases n with
    | zero => simp [okD] at hk
    | succ n =>
      simp only [okD] at hk
      simp only [inB] at h
      have h1 := showns_rsz B hB ds n hk h
      have h2 := listText_len_le (PyData.shownAll (pys ds))
      have h3 := PyData.shownAll_length (pys ds)
      simp only [py, rsz, PyData.shown]
      omega
  | .ref _, n, hk, _ => by cases n <;> simp [okD] at hk
theorem showns_rsz (B : Nat) (hB : 0 < B) : ∀ (ds : List D) (n : Nat), oksD n ds = true → insB B ds → ((PyData.shownAll (pys ds)).map (·.length)).sum + 2 * (pys ds).length ≤ rszs B ds
  | [], _, _, _ => by simp [pys, PyData.shownAll, rszs]
  | d :: ds, n, hk, h => by
    simp only [oksD, Bool.and_eq_true] at hk
    simp only [insB] at h
    have h1 := shown_rsz B hB d n hk.1 h.1
    have h2 := showns_rsz B hB ds n hk.2 h.2
    simp only [pys, PyData.shownAll, rszs, List.map_cons, List.sum_cons, List.length_cons]
    omega
end
theorem ten_lim {B : Nat} (h : B ≤ 571) {n : Nat} (hn : n < 10 ^ B) : n < 2 ^ 1900 :=
  Nat.lt_of_lt_of_le hn (Nat.le_trans (Nat.pow_le_pow_right (by decide) h) (by decide +kernel))
mutual
theorem sh_of (B : Nat) (h : B ≤ 571) : ∀ d : D, inB B d → shD d = true
  | .non, _ => by simp [shD]
  | .bl b, _ => by simp [shD]
  | .int i, hi => by
    simp only [inB] at hi
    simp only [shD, decide_eq_true_eq]
    exact ten_lim h hi
  | .str x, _ => by simp [shD]
  | .tup ds, hi => by simp only [inB] at hi; simp only [shD]; exact shs_of B h ds hi
  | .rol ds, hi => by simp only [inB] at hi; simp only [shD]; exact shs_of B h ds hi
  | .ref _, _ => by simp [shD]
theorem shs_of (B : Nat) (h : B ≤ 571) : ∀ ds : List D, insB B ds → shsD ds = true
  | [], _ => by simp [shsD]
  | d :: ds, hi => by
    simp only [insB] at hi
    simp only [shsD, Bool.and_eq_true]
    exact ⟨sh_of B h d hi.1, shs_of B h ds hi.2⟩
end
/-- what repr needs of a value that is no list -/
structure Shw (B : Nat) (d : D) : Prop where
  ok : okD 41 d = true
  ins : inB B d
  sz : rsz B d ≤ 16777216
  nr : ∀ p, d ≠ .ref p
theorem reprD_of {B : Nat} {d : D} {S : Sto} {Q : DK} (h : Shw B d) (hB0 : 0 < B) (hB : B ≤ 571) (k : Q (.str (rtxt (py d))) S) : reprD [d] S Q := by
  have e1 : okS S d = okD 41 d := by
    have hr := h.nr
    cases d <;> first | (exact absurd rfl (hr _)) | simp only [okS]
  have e2 : shS S d = shD d := by
    have hr := h.nr
    cases d <;> first | (exact absurd rfl (hr _)) | simp only [shS]
  have e3 : pyS S d = py d := by
    have hr := h.nr
    cases d <;> first | (exact absurd rfl (hr _)) | simp only [pyS]
  unfold reprD
  refine ⟨by rw [e1]; exact h.ok, by rw [e2]; exact sh_of B hB d h.ins, ?_, ?_⟩
  · rw [e3]; exact Nat.le_trans (shown_rsz B hB0 d 41 h.ok h.ins) h.sz
  · rw [e3]; exact k
theorem shw_str {x : List Nat} (h1 : ∀ c ∈ x, c < 0x110000) (h2 : x.length ≤ 1000000) : Shw 12 (.str x) := by
  refine ⟨?_, trivial, ?_, fun p h => by cases h⟩
  · simp only [okD, List.all_eq_true, decide_eq_true_eq]; exact h1
  · simp only [rsz]; omega
/-! programs shown -/
theorem ints_rsz (B : Nat) : ∀ is : List Int, rszs B (is.map .int) = is.length * (B + 3)
  | [] => by simp [rszs]
  | i :: is => by rw [List.map_cons, rszs, ints_rsz B is, rsz, List.length_cons, Nat.succ_mul]; omega
theorem ints_in' {B : Nat} : ∀ is : List Int, (∀ i ∈ is, i.natAbs < 10 ^ B) → insB B (is.map .int)
  | [], _ => by simp [insB]
  | i :: is, h => by rw [List.map_cons, insB, inB]; exact ⟨h i (by simp), ints_in' is fun j hj => h j (by simp [hj])⟩
theorem okD_ints (n : Nat) (is : List Int) : okD (n + 1) (.tup (is.map .int)) = true := by rw [okD]; exact ints_ok n is
mutual
theorem encP_ok {m : Nat} : ∀ (p : Pg) (d : Nat) (b : Bool), okP m p d b → ∀ n, 2 * d + 2 ≤ n → okD n (encP p) = true
  | .text w, d, b, h, n, hn => by
    rw [okP] at h
    obtain ⟨n', rfl⟩ : ∃ n', n = n' + 1 := ⟨n - 1, by omega⟩
    have hw : w.all (fun c => decide (c < 0x110000)) = true := by
      rw [List.all_eq_true]; intro c hc; have := h.2 c hc; simp only [decide_eq_true_eq]; omega
    rw [encP, okD]
    cases n' <;> simp [oksD, okD, hw]
  | .loop f ps, d, b, h, n, hn => by
    rw [okP] at h
    obtain ⟨h0, _, _, _, _, h5⟩ := h
    obtain ⟨n', rfl⟩ : ∃ n', n = n' + 2 := ⟨n - 2, by omega⟩
    rw [encP, okD, oksD, oksD, oksD, oksD, okD_ints, okD, okD, encPs_ok ps _ _ h5 n' (by omega)]
    decide
theorem encPs_ok {m : Nat} : ∀ (ps : List Pg) (d : Nat) (b : Bool), okPs m ps d b → ∀ n, 2 * d + 2 ≤ n → oksD n (encPs ps) = true
  | [], d, b, h, n, hn => by rw [encPs, oksD]
  | p :: ps, d, b, h, n, hn => by
    rw [okPs] at h
    rw [encPs, oksD, encP_ok p d b h.1 n hn, encPs_ok ps d b h.2 n hn]; rfl
end
mutual
theorem encP_in {m : Nat} : ∀ (p : Pg) (d : Nat) (b : Bool), okP m p d b → inB 12 (encP p)
  | .text w, d, b, h => by simp [encP, inB, insB]
  | .loop f ps, d, b, h => by
    rw [okP] at h
    obtain ⟨h0, hf, _, _, _, h5⟩ := h
    simp only [encP, inB, insB]
    exact ⟨trivial, ints_in' f (fun i hi => by have := hf.2 i hi; omega), encPs_in ps _ _ h5, trivial⟩
theorem encPs_in {m : Nat} : ∀ (ps : List Pg) (d : Nat) (b : Bool), okPs m ps d b → insB 12 (encPs ps)
  | [], d, b, h => by simp [encPs, insB]
  | p :: ps, d, b, h => by
    rw [okPs] at h
    rw [encPs, insB]; exact ⟨encP_in p d b h.1, encPs_in ps d b h.2⟩
end
mutual
theorem encP_rsz {m : Nat} (hm : m ≤ 3) : ∀ (p : Pg) (d : Nat) (b : Bool), okP m p d b → rsz 12 (encP p) + 2 ≤ 20 * costP d
  | .text w, d, b, h => by
    rw [okP] at h
    have : 20 ≤ costP d := by cases d <;> simp [costP]
    simp only [encP, rsz, rszs, List.length_cons, List.length_nil]
    omega
  | .loop f ps, d, b, h => by
    rw [okP] at h
    obtain ⟨h0, hf, _, _, h4, h5⟩ := h
    obtain ⟨d', rfl⟩ : ∃ d', d = d' + 1 := ⟨d - 1, by omega⟩
    have h6 := encPs_rsz hm ps _ _ h5
    simp only [Nat.add_sub_cancel] at h6
    have h7 : ps.length * (20 * costP d') ≤ 2 * (20 * costP d') := Nat.mul_le_mul_right _ h4
    have h8 : f.length * (12 + 3) ≤ 4 * (12 + 3) := Nat.mul_le_mul_right _ (by rw [hf.1]; omega)
    simp only [encP, rsz, rszs, List.length_cons, List.length_nil, ints_rsz, costP]
    omega
theorem encPs_rsz {m : Nat} (hm : m ≤ 3) : ∀ (ps : List Pg) (d : Nat) (b : Bool), okPs m ps d b → rszs 12 (encPs ps) ≤ ps.length * (20 * costP d)
  | [], d, b, h => by simp [encPs, rszs]
  | p :: ps, d, b, h => by
    rw [okPs] at h
    have a := encP_rsz hm p d b h.1
    have c := encPs_rsz hm ps d b h.2
    rw [encPs, rszs, List.length_cons, Nat.succ_mul]
    omega
end
theorem shw_pg {m : Nat} {ps : List Pg} (h : OkPg m ps) : Shw 12 (encPg m ps) := by
  refine ⟨?_, ?_, ?_, fun p h => by cases h⟩
  · rw [encPg, okD, oksD, oksD, oksD, okD, okD, encPs_ok ps 3 true h.ok 39 (by omega)]; rfl
  · simp only [encPg, inB, insB]
    exact ⟨by have := h.m3; omega, encPs_in ps 3 true h.ok, trivial⟩
  · have a := encPs_rsz h.m3 ps 3 true h.ok
    have b : ps.length * (20 * costP 3) ≤ 5 * (20 * costP 3) := Nat.mul_le_mul_right _ h.len
    have c : costP 3 = 300 := rfl
    simp only [encPg, rsz, rszs]
    omega
end G57
set_option Elab.async false
set_option linter.all false
set_option maxRecDepth 100000
set_option maxHeartbeats 400000
namespace G57
open PySem L2
/-- a def whose promise nobody can call upon -/
theorem does_no {P : Program} {w : World} {K : PySem.W.Frag} {mg : Str → Option Value} {base : Heap} {k : Nat} {x : Str} {st : Stmt} {ps : List Str} {sp : Spec} (F : FT K mg x st ps) (h : ∀ ds S Q, ¬ sp ds S Q) : Does P w K mg base k x sp := by
  obtain ⟨f, fd, F, m1, m2⟩ := F.ex
  exact ⟨f, fd, ps, m1, F.kp, m2, ⟨fun vs H Q E h => h.1, fun A outer s H args us vs Q E _ _ _ _ _ z => by obtain ⟨_, _, _, _, _, _, z, _⟩ := z; exact (h _ _ _ z).elim⟩, fun _ _ _ z => (h _ _ _ z).elim⟩
def ir_l_deck : Sx := .cons (.ret (.lst (.cons (.bi .list (.cons (.sl (.var 0) (.nil) (.cons (.con (.int 63)) .nil)) (.nil))) (.cons (.con (.int 0)) (.cons (.con (.int 0)) (.cons (.con (.int 0)) (.nil))))))) .nil
def spDeck : Spec := fun ds S Q => ∃ ns : List Int, ds = [.rol (ns.map .int)] ∧ ns.length ≤ 63 ∧ ∀ S' p q, Deck S' p q 2147483648 → Ext S S' → Q (.ref p) S'
theorem w_deck : ∀ ds S Q, spDeck ds S Q → wpS (tabOf []) ir_l_deck { nx := fun _ S' => Q .non S', rt := Q } (startD ["_law_script"] ds) S := by
  rintro ds S Q ⟨ns, rfl, hn, k⟩
  rw [show startD ["_law_script"] [.rol (ns.map .int)] = [some (.rol (ns.map .int))] from rfl]
  unfold ir_l_deck
  refine st_cons (st_ret ?_)
  simp only [wpE, wpT, wpA, wpC, wpO, wpI, wpJ, wpP, wpPs, opD, cmpD, biD, mtD, mtTy, addD_ii, addD_ss, addD_tt, subD_ii, mulD_ii, mulD_si, mulD_ti, fdivD_ii, modD_ii, powD_ii, negD_i, eqD_ii, eqD_ss, eqD_bb, ordD_ii, ordD_ss, isD_n, isD_bb, isNon, idxD_t, idxD_s, idxD_l, idxD_r, slD_t, slD_s, slD_l, slD_r, lenD_s, lenD_t, lenD_l, lenD_r, absD_i, minD_ii, maxD_ii, intD_i, intD_b, strD_i, tupleD_t, tupleD_r, tupleD_l, listD_t, listD_r, listD_l, sumD_t, sumD_r, anyD_t, anyD_r, allD_t, allD_r, appD_r, extD_r, joinD_r, joinD_t, countD_s, truthD_b, truthD_i, truthD_n, truthD_s, truthD_t, iterD_t, iterD_s, iterD_l, iterD_r, range1D_i, range2D_i, fmtD_s, fmtD_i, List.getElem?_cons_zero, List.getElem?_cons_succ, List.set_cons_zero, List.set_cons_succ, Option.some.injEq, exists_eq_left', exists_eq_left, Option.map_some, Bool.false_xor, Bool.true_xor, put_same, put_put, Ob.lst.injEq, D.int.injEq, D.bl.injEq, D.str.injEq, D.tup.injEq, D.ref.injEq, seqD_t, seqD_l, seqD_r, atI_0, atI_1, atI_2, atI_3, exists_and_left, exists_eq', and_true, true_and, decide_eq_true_eq]
  intro r1 f1 r2 f2
  refine ⟨by simp, fun p fp => ?_⟩
  have n2p : r2 ≠ p := ne_fresh put_same fp
  refine k _ p r2 ⟨ns, 0, 0, 0, put_same, ?_, n2p, by decide, by decide, by decide, by decide, hn⟩ (((Ext.put f1).trans (Ext.put f2)).trans (Ext.put fp))
  rw [put_ne n2p, put_same, show (63 : Int) = ((63 : Nat) : Int) from rfl, cut_h, List.take_of_length_le (by simpa using hn)]
end G57
set_option Elab.async false
set_option linter.all false
set_option maxRecDepth 100000
set_option maxHeartbeats 400000
namespace G57
open PySem L2
/-! lengths and letters: the plain law -/
/-- how many letters, or such letters, a word has -/
def chi (L w : List Nat) : Nat := match L with
  | [] => w.length
  | c :: _ => w.count c
theorem chi_nil (L : List Nat) : chi L [] = 0 := by cases L <;> simp [chi]
theorem chi_app (L x y : List Nat) : chi L (x ++ y) = chi L x + chi L y := by cases L <;> simp [chi]
theorem chi_rep (L x : List Nat) (n : Nat) : chi L (List.replicate n x).flatten = n * chi L x := by
  induction n with
  | zero => simp [chi_nil]
  | succ n ih => rw [List.replicate_succ, List.flatten_cons, chi_app, ih, Nat.succ_mul, Nat.add_comm]
theorem chi_le (L w : List Nat) : chi L w ≤ w.length := by
  cases L with
  | nil => exact Nat.le_refl _
  | cons c r => exact List.count_le_length
def vec (m : Nat) (g : Nat → Int) : List Int := (List.range (m + 1)).map g
theorem vec_len (m : Nat) (g : Nat → Int) : (vec m g).length = m + 1 := by simp [vec]
theorem vec_cons (m : Nat) (g : Nat → Int) : vec m g = g 0 :: (List.range m).map fun k => g (k + 1) := by
  unfold vec
  rw [List.range_succ_eq_map, List.map_cons, List.map_map]; rfl
theorem vec_of {m : Nat} {f : List Int} (h : f.length = m + 1) : vec m (fun k => f.getD k 0) = f := by
  apply List.ext_getElem
  · rw [vec_len, h]
  · intro i h1 h2
    simp [vec, List.getD_eq_getElem?_getD, List.getElem?_eq_getElem h2]
def coef : Option (List Int) → Nat → Int
  | none, k => if k = 0 then 1 else 0
  | some f, k => f.getD k 0
def mea (L : List Nat) (xs : List Pc) (k : Nat) : Int := (xs.map fun x => (chi L x.1 : Int) * coef x.2 k).sum
theorem mea_nil (L : List Nat) (k : Nat) : mea L [] k = 0 := rfl
theorem mea_cons (L : List Nat) (x : Pc) (xs : List Pc) (k : Nat) : mea L (x :: xs) k = chi L x.1 * coef x.2 k + mea L xs k := by simp [mea]
theorem mea_app (L : List Nat) (xs ys : List Pc) (k : Nat) : mea L (xs ++ ys) k = mea L xs k + mea L ys k := by simp [mea]
theorem mea_rep (L : List Nat) (xs : List Pc) (k n : Nat) : mea L (List.replicate n xs).flatten k = n * mea L xs k := by
  induction n with
  | zero => simp [mea]
  | succ n ih => rw [List.replicate_succ, List.flatten_cons, mea_app, ih, Int.natCast_succ, Int.add_mul, Int.one_mul, Int.add_comm]
mutual
def sumI (L : List Nat) : Pg → Nat → Int
  | .text w, k => chi L w * coef none k
  | .loop f ps, k => if isOpen f = true then sumIs L ps 0 * f.getD k 0 else f.headD 0 * sumIs L ps k
def sumIs (L : List Nat) : List Pg → Nat → Int
  | [], _ => 0
  | p :: ps, k => sumI L p k + sumIs L ps k
end
mutual
theorem shut_pcs {m : Nat} : ∀ (p : Pg) (d : Nat), okP m p d false → ∀ x ∈ pcsP p, x.2 = none
  | .text w, d, h, x, hx => by
    rw [pcsP] at hx
    rw [List.mem_singleton.mp hx]
  | .loop f ps, d, h, x, hx => by
    rw [okP] at h
    rw [pcsP] at hx
    split at hx
    · rename_i ho; have := h.2.2.1 ho; cases this
    · obtain ⟨ys, h1, h2⟩ := List.mem_flatten.mp hx
      rw [(List.mem_replicate.mp h1).2] at h2
      exact shut_pcss ps _ (by simpa using h.2.2.2.2.2) x h2
theorem shut_pcss {m : Nat} : ∀ (ps : List Pg) (d : Nat), okPs m ps d false → ∀ x ∈ pcsPs ps, x.2 = none
  | [], d, h, x, hx => by simp [pcsPs] at hx
  | p :: ps, d, h, x, hx => by
    rw [okPs] at h
    rw [pcsPs] at hx
    rcases List.mem_append.mp hx with hx | hx
    · exact shut_pcs p d h.1 x hx
    · exact shut_pcss ps d h.2 x hx
end
theorem mea_shut (L : List Nat) : ∀ xs : List Pc, (∀ x ∈ xs, x.2 = none) → mea L xs 0 = chi L (xs.map (·.1)).flatten
  | [], _ => by simp [mea, chi_nil]
  | x :: xs, h => by
    rw [mea_cons, mea_shut L xs fun y hy => h y (by simp [hy]), List.map_cons, List.flatten_cons, chi_app, h x (by simp)]
    simp [coef]
mutual
theorem sum_mea {m : Nat} (L : List Nat) : ∀ (p : Pg) (d : Nat) (b : Bool), okP m p d b → ∀ k, sumI L p k = mea L (pcsP p) k
  | .text w, d, b, h, k => by rw [sumI, pcsP, mea_cons, mea_nil]; simp
  | .loop f ps, d, b, h, k => by
    rw [okP] at h
    obtain ⟨h0, hf, h1, h3, h4, h5⟩ := h
    have ih := sums_mea L ps _ _ h5
    rw [sumI, pcsP]
    split
    · rename_i ho
      rw [ho] at h5
      simp only [Bool.not_true, Bool.and_false] at h5
      rw [ih 0, mea_shut L _ (shut_pcss ps _ h5), mea_cons, mea_nil]; simp [coef]
    · obtain ⟨c, r, rfl, hc, _, _⟩ := f_head hf
      rw [ih k, mea_rep, List.headD_cons, Int.toNat_of_nonneg hc]
theorem sums_mea {m : Nat} (L : List Nat) : ∀ (ps : List Pg) (d : Nat) (b : Bool), okPs m ps d b → ∀ k, sumIs L ps k = mea L (pcsPs ps) k
  | [], d, b, h, k => by rw [sumIs, pcsPs, mea_nil]
  | p :: ps, d, b, h, k => by
    rw [okPs] at h
    rw [sumIs, pcsPs, mea_app, sum_mea L p d b h.1 k, sums_mea L ps d b h.2 k]
end
theorem coef_bd {m : Nat} {x : Pc} (h : okPc m x) (k : Nat) : 0 ≤ coef x.2 k ∧ coef x.2 k ≤ 99 := by
  obtain ⟨w, g⟩ := x
  cases g with
  | none => simp only [coef]; split <;> omega
  | some f =>
    simp only [okPc] at h
    simp only [coef, List.getD_eq_getElem?_getD]
    cases hk : f[k]? with
    | none => simp
    | some i => exact h.2 i (List.mem_of_getElem? hk)
theorem mea_bd {m : Nat} (L : List Nat) (k : Nat) : ∀ xs : List Pc, (∀ x ∈ xs, okPc m x) → 0 ≤ mea L xs k ∧ mea L xs k ≤ 99 * letN xs
  | [], _ => by simp [mea, letN]
  | x :: xs, h => by
    have ih := mea_bd L k xs fun y hy => h y (by simp [hy])
    obtain ⟨c0, c1⟩ := coef_bd (h x (by simp)) k
    have l1 := chi_le L x.1
    have e : letN (x :: xs) = x.1.length + letN xs := by simp [letN]
    have a1 : 0 ≤ (chi L x.1 : Int) * coef x.2 k := Int.mul_nonneg (by omega) c0
    have a2 : (chi L x.1 : Int) * coef x.2 k ≤ (x.1.length : Int) * 99 := Int.mul_le_mul (by omega) c1 c0 (by omega)
    rw [mea_cons, e]
    omega
/-! values -/
def dot : List Int → List Int → Int
  | a :: as, b :: bs => a * b + dot as bs
  | _, _ => 0
def valF (f ns : List Int) : Int := f.headD 0 + dot f.tail ns
def valC (ns : List Int) : Option (List Int) → Int
  | none => 1
  | some f => valF f ns
theorem dot_add : ∀ (n : Nat) (g h : Nat → Int) (ns : List Int), dot ((List.range n).map fun k => g k + h k) ns = dot ((List.range n).map g) ns + dot ((List.range n).map h) ns
  | 0, _, _, ns => by simp [dot]
  | n + 1, g, h, [] => by simp [dot, List.range_succ_eq_map]
  | n + 1, g, h, x :: ns => by
    have ih := dot_add n (fun k => g (k + 1)) (fun k => h (k + 1)) ns
    simp only [List.range_succ_eq_map, List.map_cons, List.map_map, dot]
    have e1 : ((fun k => g k + h k) ∘ Nat.succ) = fun k => g (k + 1) + h (k + 1) := rfl
    have e2 : g ∘ Nat.succ = fun k => g (k + 1) := rfl
    have e3 : h ∘ Nat.succ = fun k => h (k + 1) := rfl
    rw [e1, e2, e3, ih, Int.add_mul]; omega
theorem dot_mul (c : Int) : ∀ (n : Nat) (g : Nat → Int) (ns : List Int), dot ((List.range n).map fun k => c * g k) ns = c * dot ((List.range n).map g) ns
  | 0, _, ns => by simp [dot]
  | n + 1, g, [] => by simp [dot, List.range_succ_eq_map]
  | n + 1, g, x :: ns => by
    have ih := dot_mul c n (fun k => g (k + 1)) ns
    simp only [List.range_succ_eq_map, List.map_cons, List.map_map, dot]
    have e1 : ((fun k => c * g k) ∘ Nat.succ) = fun k => c * g (k + 1) := rfl
    have e2 : g ∘ Nat.succ = fun k => g (k + 1) := rfl
    rw [e1, e2, ih, Int.mul_add, Int.mul_assoc]
theorem dot_zero : ∀ (as ns : List Int), (∀ a ∈ as, a = 0) → dot as ns = 0
  | [], ns, _ => by simp [dot]
  | a :: as, [], _ => by simp [dot]
  | a :: as, n :: ns, h => by rw [dot, h a (by simp), dot_zero as ns fun b hb => h b (by simp [hb])]; simp
theorem valF_vec (m : Nat) (g : Nat → Int) (ns : List Int) : valF (vec m g) ns = g 0 + dot ((List.range m).map fun k => g (k + 1)) ns := by rw [vec_cons]; rfl
theorem val_coef {m : Nat} (ns : List Int) {x : Pc} (h : okPc m x) : valF (vec m (coef x.2)) ns = valC ns x.2 := by
  obtain ⟨w, g⟩ := x
  cases g with
  | none =>
    rw [valF_vec, dot_zero _ _ (fun a ha => by obtain ⟨k, _, rfl⟩ := List.mem_map.mp ha; simp [coef])]
    simp [coef, valC]
  | some f =>
    simp only [okPc] at h
    show valF (vec m fun k => f.getD k 0) ns = valF f ns
    rw [vec_of h.1]
theorem val_mea {m : Nat} (L : List Nat) (ns : List Int) : ∀ xs : List Pc, (∀ x ∈ xs, okPc m x) → valF (vec m (mea L xs)) ns = (xs.map fun x => (chi L x.1 : Int) * valC ns x.2).sum
  | [], _ => by
    rw [valF_vec, dot_zero _ _ (fun a ha => by obtain ⟨k, _, rfl⟩ := List.mem_map.mp ha; rfl)]
    simp [mea]
  | x :: xs, h => by
    have ih := val_mea L ns xs fun y hy => h y (by simp [hy])
    rw [List.map_cons, List.sum_cons, ← ih, ← val_coef ns (h x (by simp)), valF_vec, valF_vec, valF_vec]
    have e : (fun k => mea L (x :: xs) (k + 1)) = fun k => (chi L x.1 : Int) * coef x.2 (k + 1) + mea L xs (k + 1) := by
      funext k; exact mea_cons L x xs (k + 1)
    rw [e, dot_add, dot_mul, mea_cons, Int.mul_add]; omega
/-! the text at counts -/
mutual
def wrt (ns : List Int) : Pg → List Nat
  | .text w => w
  | .loop f ps => (List.replicate (valF f ns).toNat (wrts ns ps)).flatten
def wrts (ns : List Int) : List Pg → List Nat
  | [] => []
  | p :: ps => wrt ns p ++ wrts ns ps
end
def chv (L : List Nat) (ns : List Int) (xs : List Pc) : Int := (xs.map fun x => (chi L x.1 : Int) * valC ns x.2).sum
theorem chv_app (L : List Nat) (ns : List Int) (xs ys : List Pc) : chv L ns (xs ++ ys) = chv L ns xs + chv L ns ys := by simp [chv]
theorem chv_rep (L : List Nat) (ns : List Int) (xs : List Pc) (n : Nat) : chv L ns (List.replicate n xs).flatten = n * chv L ns xs := by
  induction n with
  | zero => simp [chv]
  | succ n ih => rw [List.replicate_succ, List.flatten_cons, chv_app, ih, Int.natCast_succ, Int.add_mul, Int.one_mul, Int.add_comm]
theorem chv_shut (L : List Nat) (ns : List Int) : ∀ xs : List Pc, (∀ x ∈ xs, x.2 = none) → chv L ns xs = chi L (xs.map (·.1)).flatten
  | [], _ => by simp [chv, chi_nil]
  | x :: xs, h => by
    have ih := chv_shut L ns xs fun y hy => h y (by simp [hy])
    unfold chv at ih ⊢
    rw [List.map_cons, List.sum_cons, ih, List.map_cons, List.flatten_cons, chi_app, h x (by simp)]
    simp [valC]
theorem dot_pos : ∀ (as ns : List Int), (∀ a ∈ as, 0 ≤ a) → (∀ n ∈ ns, 0 ≤ n) → 0 ≤ dot as ns
  | [], ns, _, _ => by simp [dot]
  | a :: as, [], _, _ => by simp [dot]
  | a :: as, n :: ns, h, g => by
    rw [dot]
    have := dot_pos as ns (fun b hb => h b (by simp [hb])) fun b hb => g b (by simp [hb])
    have := Int.mul_nonneg (h a (by simp)) (g n (by simp))
    omega
theorem valF_pos {m : Nat} {f ns : List Int} (h : okF m f) (hn : ∀ n ∈ ns, 0 ≤ n) : 0 ≤ valF f ns := by
  obtain ⟨c, r, rfl, hc, _, _⟩ := f_head h
  have := dot_pos r ns (fun a ha => (h.2 a (by simp [ha])).1) hn
  show 0 ≤ c + dot r ns
  omega
theorem val_shut {f ns : List Int} (h : isOpen f = false) : valF f ns = f.headD 0 := by
  unfold valF
  rw [dot_zero _ _ (fun a ha => by
    unfold isOpen at h
    have := List.any_eq_false.mp h a ha
    simpa using this)]
  omega
mutual
theorem chi_wrt {m : Nat} (L : List Nat) {ns : List Int} (hn : ∀ n ∈ ns, 0 ≤ n) : ∀ (p : Pg) (d : Nat) (b : Bool), okP m p d b → (chi L (wrt ns p) : Int) = chv L ns (pcsP p)
  | .text w, d, b, h => by rw [wrt, pcsP]; simp [chv, valC]
  | .loop f ps, d, b, h => by
    rw [okP] at h
    obtain ⟨h0, hf, h1, h3, h4, h5⟩ := h
    have ih := chi_wrts L hn ps _ _ h5
    have hv := valF_pos hf hn
    rw [wrt, pcsP, chi_rep, Int.natCast_mul, ih, Int.toNat_of_nonneg hv]
    split
    · rename_i ho
      rw [ho] at h5
      simp only [Bool.not_true, Bool.and_false] at h5
      rw [chv_shut L ns _ (shut_pcss ps _ h5)]
      simp [chv, valC, Int.mul_comm]
    · rename_i ho
      rw [val_shut (by simpa using ho)] at hv ⊢
      rw [chv_rep, Int.toNat_of_nonneg hv]
theorem chi_wrts {m : Nat} (L : List Nat) {ns : List Int} (hn : ∀ n ∈ ns, 0 ≤ n) : ∀ (ps : List Pg) (d : Nat) (b : Bool), okPs m ps d b → (chi L (wrts ns ps) : Int) = chv L ns (pcsPs ps)
  | [], d, b, h => by rw [wrts, pcsPs]; simp [chv, chi_nil]
  | p :: ps, d, b, h => by
    rw [okPs] at h
    rw [wrts, pcsPs, chi_app, chv_app, Int.natCast_add, chi_wrt L hn p d b h.1, chi_wrts L hn ps d b h.2]
end
/-- the law's heart -/
theorem val_sum {m : Nat} (L : List Nat) {ns : List Int} (hn : ∀ n ∈ ns, 0 ≤ n) {ps : List Pg} {d : Nat} {b : Bool} (h : okPs m ps d b) : valF (vec m (mea L (pcsPs ps))) ns = chi L (wrts ns ps) := by
  rw [val_mea L ns _ (pcss_ok ps d b h), chi_wrts L hn ps d b h]; rfl
end G57
set_option Elab.async false
set_option linter.all false
set_option maxRecDepth 100000
set_option maxHeartbeats 400000
namespace G57
open PySem L2
/-! forms: is_open, times, plus, value_of -/
def ir_is_open : Sx := .cons (.ret (.bi .any (.cons (.sl (.var 0) (.cons (.con (.int 1)) .nil) (.nil)) (.nil)))) .nil
def ir_times : Sx := .cons (.ret (.bi .tuple (.cons (.lc [2] (.v 2) (.iE (.var 0)) (.nil) (.bin .Mult (.var 1) (.var 2))) (.nil)))) .nil
def ir_plus : Sx := .cons (.ret (.bi .tuple (.cons (.lc [2, 3] (.t (.cons (.v 2) (.cons (.v 3) (.nil)))) (.iZ (.var 0) (.var 1)) (.nil) (.bin .Add (.var 2) (.var 3))) (.nil)))) .nil
def ir_value_of : Sx := .cons (.ret (.bin .Add (.idx (.var 0) (.con (.int 0))) (.bi .sum (.cons (.lc [2, 3] (.t (.cons (.v 2) (.cons (.v 3) (.nil)))) (.iZ (.sl (.var 0) (.cons (.con (.int 1)) .nil) (.nil)) (.var 1)) (.nil) (.bin .Mult (.var 2) (.var 3))) (.nil))))) .nil
def ir_l_number : Sx := .cons (.ret (.bin .Add (.idx (.var 0) (.con (.int 0))) (.bi .sum (.cons (.lc [2, 3] (.t (.cons (.v 2) (.cons (.v 3) (.nil)))) (.iZ (.sl (.var 0) (.cons (.con (.int 1)) .nil) (.nil)) (.var 1)) (.nil) (.bin .Mult (.var 2) (.var 3))) (.nil))))) .nil
/-- numbers that may be multiplied -/
def w64 (xs : List Int) : Prop := ∀ x ∈ xs, x.natAbs < 2 ^ 64
def spOpen : Spec := fun ds S Q => ∃ f : List Int, ds = [.tup (f.map .int)] ∧ Q (.bl (isOpen f)) S
theorem any_ints (is : List Int) : ((is.map fun i : Int => i != 0).any id) = is.any (· != 0) := by rw [List.any_map]; rfl
theorem w_is_open : ∀ ds S Q, spOpen ds S Q → wpS (tabOf []) ir_is_open { nx := fun _ S' => Q .non S', rt := Q } (startD ["form"] ds) S := by
  rintro ds S Q ⟨f, rfl, k⟩
  rw [show startD ["form"] [.tup (f.map .int)] = [some (.tup (f.map .int))] from rfl]
  unfold ir_is_open
  refine st_cons (st_ret ?_)
  simp only [wpE, wpT, wpA, wpC, wpO, wpI, wpJ, wpP, wpPs, opD, cmpD, biD, mtD, mtTy, addD_ii, addD_ss, addD_tt, subD_ii, mulD_ii, mulD_si, mulD_ti, fdivD_ii, modD_ii, powD_ii, negD_i, eqD_ii, eqD_ss, eqD_bb, ordD_ii, ordD_ss, isD_n, isD_bb, isNon, idxD_t, idxD_s, idxD_l, idxD_r, slD_t, slD_s, slD_l, slD_r, lenD_s, lenD_t, lenD_l, lenD_r, absD_i, minD_ii, maxD_ii, intD_i, intD_b, strD_i, tupleD_t, tupleD_r, tupleD_l, listD_t, listD_r, listD_l, sumD_t, sumD_r, anyD_t, anyD_r, allD_t, allD_r, appD_r, extD_r, joinD_r, joinD_t, countD_s, truthD_b, truthD_i, truthD_n, truthD_s, truthD_t, iterD_t, iterD_s, iterD_l, iterD_r, range1D_i, range2D_i, fmtD_s, fmtD_i, List.getElem?_cons_zero, List.getElem?_cons_succ, List.set_cons_zero, List.set_cons_succ, Option.some.injEq, exists_eq_left', exists_eq_left, Option.map_some, Bool.false_xor, Bool.true_xor, put_same, put_put, Ob.lst.injEq, D.int.injEq, D.bl.injEq, D.str.injEq, D.tup.injEq, D.ref.injEq, seqD_t, seqD_l, seqD_r, atI_0, atI_1, atI_2, atI_3, exists_and_left, exists_eq', and_true, true_and, decide_eq_true_eq, tabOf, cut_1, ← List.map_tail, trus_ints, any_ints]
  exact k
def spTimes : Spec := fun ds S Q => ∃ (f : List Int) (n : Int), ds = [.tup (f.map .int), .int n] ∧ w64 f ∧ n.natAbs < 2 ^ 64 ∧ f.length ≤ 16777216 ∧ ∀ S', Ext S S' → Q (.tup ((f.map (n * ·)).map .int)) S'
theorem w_times : ∀ ds S Q, spTimes ds S Q → wpS (tabOf []) ir_times { nx := fun _ S' => Q .non S', rt := Q } (startD ["form", "number", "part"] ds) S := by
  rintro ds S Q ⟨f, n, rfl, hf, hn, hl, k⟩
  rw [show startD ["form", "number", "part"] [.tup (f.map .int), .int n] = [some (.tup (f.map .int)), some (.int n), none] from rfl]
  unfold ir_times
  refine st_cons (st_ret ?_)
  simp only [wpE, wpT, wpA, wpC, wpO, wpI, wpJ, wpP, wpPs, opD, cmpD, biD, mtD, mtTy, addD_ii, addD_ss, addD_tt, subD_ii, mulD_ii, mulD_si, mulD_ti, fdivD_ii, modD_ii, powD_ii, negD_i, eqD_ii, eqD_ss, eqD_bb, ordD_ii, ordD_ss, isD_n, isD_bb, isNon, idxD_t, idxD_s, idxD_l, idxD_r, slD_t, slD_s, slD_l, slD_r, lenD_s, lenD_t, lenD_l, lenD_r, absD_i, minD_ii, maxD_ii, intD_i, intD_b, strD_i, tupleD_t, tupleD_r, tupleD_l, listD_t, listD_r, listD_l, sumD_t, sumD_r, anyD_t, anyD_r, allD_t, allD_r, appD_r, extD_r, joinD_r, joinD_t, countD_s, truthD_b, truthD_i, truthD_n, truthD_s, truthD_t, iterD_t, iterD_s, iterD_l, iterD_r, range1D_i, range2D_i, fmtD_s, fmtD_i, List.getElem?_cons_zero, List.getElem?_cons_succ, List.set_cons_zero, List.set_cons_succ, Option.some.injEq, exists_eq_left', exists_eq_left, Option.map_some, Bool.false_xor, Bool.true_xor, put_same, put_put, Ob.lst.injEq, D.int.injEq, D.bl.injEq, D.str.injEq, D.tup.injEq, D.ref.injEq, seqD_t, seqD_l, seqD_r, atI_0, atI_1, atI_2, atI_3, exists_and_left, exists_eq', and_true, true_and, decide_eq_true_eq, tabOf]
  intro a fa
  refine lc_map D.int (fun x => some (.int (n * x))) (S0 := S) (fun _ _ => trivial) _ _ _ (Ext.put fa).but put_same (by simp; omega) (fun y hy S4 kk e4 hk => ?_) (fun S4 e4 ea4 => ?_)
  · simp only [wpE, wpT, wpA, wpC, wpO, wpI, wpJ, wpP, wpPs, opD, cmpD, biD, mtD, mtTy, addD_ii, addD_ss, addD_tt, subD_ii, mulD_ii, mulD_si, mulD_ti, fdivD_ii, modD_ii, powD_ii, negD_i, eqD_ii, eqD_ss, eqD_bb, ordD_ii, ordD_ss, isD_n, isD_bb, isNon, idxD_t, idxD_s, idxD_l, idxD_r, slD_t, slD_s, slD_l, slD_r, lenD_s, lenD_t, lenD_l, lenD_r, absD_i, minD_ii, maxD_ii, intD_i, intD_b, strD_i, tupleD_t, tupleD_r, tupleD_l, listD_t, listD_r, listD_l, sumD_t, sumD_r, anyD_t, anyD_r, allD_t, allD_r, appD_r, extD_r, joinD_r, joinD_t, countD_s, truthD_b, truthD_i, truthD_n, truthD_s, truthD_t, iterD_t, iterD_s, iterD_l, iterD_r, range1D_i, range2D_i, fmtD_s, fmtD_i, List.getElem?_cons_zero, List.getElem?_cons_succ, List.set_cons_zero, List.set_cons_succ, Option.some.injEq, exists_eq_left', exists_eq_left, Option.map_some, Bool.false_xor, Bool.true_xor, put_same, put_put, Ob.lst.injEq, D.int.injEq, D.bl.injEq, D.str.injEq, D.tup.injEq, D.ref.injEq, seqD_t, seqD_l, seqD_r, atI_0, atI_1, atI_2, atI_3, exists_and_left, exists_eq', and_true, true_and, decide_eq_true_eq, wipeD, if_true]
    exact ⟨cmul_of hn (hf y hy), hk S4 Ext.refl⟩
  · rw [fm_some, List.nil_append] at ea4
    simp only [wpE, wpT, wpA, wpC, wpO, wpI, wpJ, wpP, wpPs, opD, cmpD, biD, mtD, mtTy, addD_ii, addD_ss, addD_tt, subD_ii, mulD_ii, mulD_si, mulD_ti, fdivD_ii, modD_ii, powD_ii, negD_i, eqD_ii, eqD_ss, eqD_bb, ordD_ii, ordD_ss, isD_n, isD_bb, isNon, idxD_t, idxD_s, idxD_l, idxD_r, slD_t, slD_s, slD_l, slD_r, lenD_s, lenD_t, lenD_l, lenD_r, absD_i, minD_ii, maxD_ii, intD_i, intD_b, strD_i, tupleD_t, tupleD_r, tupleD_l, listD_t, listD_r, listD_l, sumD_t, sumD_r, anyD_t, anyD_r, allD_t, allD_r, appD_r, extD_r, joinD_r, joinD_t, countD_s, truthD_b, truthD_i, truthD_n, truthD_s, truthD_t, iterD_t, iterD_s, iterD_l, iterD_r, range1D_i, range2D_i, fmtD_s, fmtD_i, List.getElem?_cons_zero, List.getElem?_cons_succ, List.set_cons_zero, List.set_cons_succ, Option.some.injEq, exists_eq_left', exists_eq_left, Option.map_some, Bool.false_xor, Bool.true_xor, put_same, put_put, Ob.lst.injEq, D.int.injEq, D.bl.injEq, D.str.injEq, D.tup.injEq, D.ref.injEq, seqD_t, seqD_l, seqD_r, atI_0, atI_1, atI_2, atI_3, exists_and_left, exists_eq', and_true, true_and, decide_eq_true_eq, ea4]
    have := k S4 (Ext.refl.of_but fa e4)
    rw [List.map_map] at this
    exact this
def encII (y : Int × Int) : D := .tup [.int y.1, .int y.2]
theorem zip_ii : ∀ (as bs : List Int), zipD (as.map .int) (bs.map .int) = (as.zip bs).map encII
  | [], _ => by simp [zipD]
  | i :: is, [] => by simp [zipD]
  | i :: is, n :: ns => by simp [zipD, zip_ii is ns, encII]
def spPlus : Spec := fun ds S Q => ∃ as bs : List Int, ds = [.tup (as.map .int), .tup (bs.map .int)] ∧ as.length ≤ 16777216 ∧ ∀ S', Ext S S' → Q (.tup (((as.zip bs).map fun y => y.1 + y.2).map .int)) S'
theorem w_plus : ∀ ds S Q, spPlus ds S Q → wpS (tabOf []) ir_plus { nx := fun _ S' => Q .non S', rt := Q } (startD ["one", "other", "part", "more"] ds) S := by
  rintro ds S Q ⟨as, bs, rfl, hl, k⟩
  rw [show startD ["one", "other", "part", "more"] [.tup (as.map .int), .tup (bs.map .int)] = [some (.tup (as.map .int)), some (.tup (bs.map .int)), none, none] from rfl]
  unfold ir_plus
  refine st_cons (st_ret ?_)
  simp only [wpE, wpT, wpA, wpC, wpO, wpI, wpJ, wpP, wpPs, opD, cmpD, biD, mtD, mtTy, addD_ii, addD_ss, addD_tt, subD_ii, mulD_ii, mulD_si, mulD_ti, fdivD_ii, modD_ii, powD_ii, negD_i, eqD_ii, eqD_ss, eqD_bb, ordD_ii, ordD_ss, isD_n, isD_bb, isNon, idxD_t, idxD_s, idxD_l, idxD_r, slD_t, slD_s, slD_l, slD_r, lenD_s, lenD_t, lenD_l, lenD_r, absD_i, minD_ii, maxD_ii, intD_i, intD_b, strD_i, tupleD_t, tupleD_r, tupleD_l, listD_t, listD_r, listD_l, sumD_t, sumD_r, anyD_t, anyD_r, allD_t, allD_r, appD_r, extD_r, joinD_r, joinD_t, countD_s, truthD_b, truthD_i, truthD_n, truthD_s, truthD_t, iterD_t, iterD_s, iterD_l, iterD_r, range1D_i, range2D_i, fmtD_s, fmtD_i, List.getElem?_cons_zero, List.getElem?_cons_succ, List.set_cons_zero, List.set_cons_succ, Option.some.injEq, exists_eq_left', exists_eq_left, Option.map_some, Bool.false_xor, Bool.true_xor, put_same, put_put, Ob.lst.injEq, D.int.injEq, D.bl.injEq, D.str.injEq, D.tup.injEq, D.ref.injEq, seqD_t, seqD_l, seqD_r, atI_0, atI_1, atI_2, atI_3, exists_and_left, exists_eq', and_true, true_and, decide_eq_true_eq, tabOf, zips_tt]
  intro a fa
  rw [zip_ii]
  refine lc_map encII (fun y => some (.int (y.1 + y.2))) (S0 := S) (fun _ _ => trivial) _ _ _ (Ext.put fa).but put_same (by simp; omega) (fun y hy S4 kk e4 hk => ?_) (fun S4 e4 ea4 => ?_)
  · simp only [encII, wpE, wpT, wpA, wpC, wpO, wpI, wpJ, wpP, wpPs, opD, cmpD, biD, mtD, mtTy, addD_ii, addD_ss, addD_tt, subD_ii, mulD_ii, mulD_si, mulD_ti, fdivD_ii, modD_ii, powD_ii, negD_i, eqD_ii, eqD_ss, eqD_bb, ordD_ii, ordD_ss, isD_n, isD_bb, isNon, idxD_t, idxD_s, idxD_l, idxD_r, slD_t, slD_s, slD_l, slD_r, lenD_s, lenD_t, lenD_l, lenD_r, absD_i, minD_ii, maxD_ii, intD_i, intD_b, strD_i, tupleD_t, tupleD_r, tupleD_l, listD_t, listD_r, listD_l, sumD_t, sumD_r, anyD_t, anyD_r, allD_t, allD_r, appD_r, extD_r, joinD_r, joinD_t, countD_s, truthD_b, truthD_i, truthD_n, truthD_s, truthD_t, iterD_t, iterD_s, iterD_l, iterD_r, range1D_i, range2D_i, fmtD_s, fmtD_i, List.getElem?_cons_zero, List.getElem?_cons_succ, List.set_cons_zero, List.set_cons_succ, Option.some.injEq, exists_eq_left', exists_eq_left, Option.map_some, Bool.false_xor, Bool.true_xor, put_same, put_put, Ob.lst.injEq, D.int.injEq, D.bl.injEq, D.str.injEq, D.tup.injEq, D.ref.injEq, seqD_t, seqD_l, seqD_r, atI_0, atI_1, atI_2, atI_3, exists_and_left, exists_eq', and_true, true_and, decide_eq_true_eq, wipeD, if_true]
    exact hk S4 Ext.refl
  · rw [fm_some, List.nil_append] at ea4
    simp only [wpE, wpT, wpA, wpC, wpO, wpI, wpJ, wpP, wpPs, opD, cmpD, biD, mtD, mtTy, addD_ii, addD_ss, addD_tt, subD_ii, mulD_ii, mulD_si, mulD_ti, fdivD_ii, modD_ii, powD_ii, negD_i, eqD_ii, eqD_ss, eqD_bb, ordD_ii, ordD_ss, isD_n, isD_bb, isNon, idxD_t, idxD_s, idxD_l, idxD_r, slD_t, slD_s, slD_l, slD_r, lenD_s, lenD_t, lenD_l, lenD_r, absD_i, minD_ii, maxD_ii, intD_i, intD_b, strD_i, tupleD_t, tupleD_r, tupleD_l, listD_t, listD_r, listD_l, sumD_t, sumD_r, anyD_t, anyD_r, allD_t, allD_r, appD_r, extD_r, joinD_r, joinD_t, countD_s, truthD_b, truthD_i, truthD_n, truthD_s, truthD_t, iterD_t, iterD_s, iterD_l, iterD_r, range1D_i, range2D_i, fmtD_s, fmtD_i, List.getElem?_cons_zero, List.getElem?_cons_succ, List.set_cons_zero, List.set_cons_succ, Option.some.injEq, exists_eq_left', exists_eq_left, Option.map_some, Bool.false_xor, Bool.true_xor, put_same, put_put, Ob.lst.injEq, D.int.injEq, D.bl.injEq, D.str.injEq, D.tup.injEq, D.ref.injEq, seqD_t, seqD_l, seqD_r, atI_0, atI_1, atI_2, atI_3, exists_and_left, exists_eq', and_true, true_and, decide_eq_true_eq, ea4]
    have := k S4 (Ext.refl.of_but fa e4)
    rw [List.map_map] at this
    exact this
theorem dot_zip : ∀ as bs : List Int, dot as bs = ((as.zip bs).map fun y => y.1 * y.2).sum
  | [], _ => by simp [dot]
  | a :: as, [] => by simp [dot]
  | a :: as, b :: bs => by simp [dot, dot_zip as bs]
def spVal : Spec := fun ds S Q => ∃ f ns : List Int, ds = [.tup (f.map .int), .tup (ns.map .int)] ∧ f ≠ [] ∧ w64 f ∧ w64 ns ∧ ns.length ≤ 16777216 ∧ ∀ S', Ext S S' → Q (.int (valF f ns)) S'
theorem w_val (N : List Str) (h4 : N.length = 4) : ∀ ds S Q, spVal ds S Q → wpS (tabOf []) ir_value_of { nx := fun _ S' => Q .non S', rt := Q } (startD N ds) S := by
  rintro ds S Q ⟨f, ns, rfl, hne, hf, hn, hl, k⟩
  obtain ⟨c, r, rfl⟩ : ∃ c r, f = c :: r := by
    cases f with
    | nil => exact absurd rfl hne
    | cons c r => exact ⟨c, r, rfl⟩
  rw [show startD N [.tup ((c :: r).map .int), .tup (ns.map .int)] = [some (.tup ((c :: r).map .int)), some (.tup (ns.map .int)), none, none] from by unfold startD; rw [h4]; rfl]
  unfold ir_value_of
  refine st_cons (st_ret ?_)
  simp only [wpE, wpT, wpA, wpC, wpO, wpI, wpJ, wpP, wpPs, opD, cmpD, biD, mtD, mtTy, addD_ii, addD_ss, addD_tt, subD_ii, mulD_ii, mulD_si, mulD_ti, fdivD_ii, modD_ii, powD_ii, negD_i, eqD_ii, eqD_ss, eqD_bb, ordD_ii, ordD_ss, isD_n, isD_bb, isNon, idxD_t, idxD_s, idxD_l, idxD_r, slD_t, slD_s, slD_l, slD_r, lenD_s, lenD_t, lenD_l, lenD_r, absD_i, minD_ii, maxD_ii, intD_i, intD_b, strD_i, tupleD_t, tupleD_r, tupleD_l, listD_t, listD_r, listD_l, sumD_t, sumD_r, anyD_t, anyD_r, allD_t, allD_r, appD_r, extD_r, joinD_r, joinD_t, countD_s, truthD_b, truthD_i, truthD_n, truthD_s, truthD_t, iterD_t, iterD_s, iterD_l, iterD_r, range1D_i, range2D_i, fmtD_s, fmtD_i, List.getElem?_cons_zero, List.getElem?_cons_succ, List.set_cons_zero, List.set_cons_succ, Option.some.injEq, exists_eq_left', exists_eq_left, Option.map_some, Bool.false_xor, Bool.true_xor, put_same, put_put, Ob.lst.injEq, D.int.injEq, D.bl.injEq, D.str.injEq, D.tup.injEq, D.ref.injEq, seqD_t, seqD_l, seqD_r, atI_0, atI_1, atI_2, atI_3, exists_and_left, exists_eq', and_true, true_and, decide_eq_true_eq, tabOf, List.map_cons, cut_1, List.tail_cons, zips_tt]
  intro a fa
  rw [zip_ii]
  refine lc_map encII (fun y => some (.int (y.1 * y.2))) (S0 := S) (fun _ _ => trivial) _ _ _ (Ext.put fa).but put_same (by simp; omega) (fun y hy S4 kk e4 hk => ?_) (fun S4 e4 ea4 => ?_)
  · obtain ⟨u, v⟩ := y
    have h1 := List.of_mem_zip hy
    simp only [encII, wpE, wpT, wpA, wpC, wpO, wpI, wpJ, wpP, wpPs, opD, cmpD, biD, mtD, mtTy, addD_ii, addD_ss, addD_tt, subD_ii, mulD_ii, mulD_si, mulD_ti, fdivD_ii, modD_ii, powD_ii, negD_i, eqD_ii, eqD_ss, eqD_bb, ordD_ii, ordD_ss, isD_n, isD_bb, isNon, idxD_t, idxD_s, idxD_l, idxD_r, slD_t, slD_s, slD_l, slD_r, lenD_s, lenD_t, lenD_l, lenD_r, absD_i, minD_ii, maxD_ii, intD_i, intD_b, strD_i, tupleD_t, tupleD_r, tupleD_l, listD_t, listD_r, listD_l, sumD_t, sumD_r, anyD_t, anyD_r, allD_t, allD_r, appD_r, extD_r, joinD_r, joinD_t, countD_s, truthD_b, truthD_i, truthD_n, truthD_s, truthD_t, iterD_t, iterD_s, iterD_l, iterD_r, range1D_i, range2D_i, fmtD_s, fmtD_i, List.getElem?_cons_zero, List.getElem?_cons_succ, List.set_cons_zero, List.set_cons_succ, Option.some.injEq, exists_eq_left', exists_eq_left, Option.map_some, Bool.false_xor, Bool.true_xor, put_same, put_put, Ob.lst.injEq, D.int.injEq, D.bl.injEq, D.str.injEq, D.tup.injEq, D.ref.injEq, seqD_t, seqD_l, seqD_r, atI_0, atI_1, atI_2, atI_3, exists_and_left, exists_eq', and_true, true_and, decide_eq_true_eq, wipeD, if_true]
    exact ⟨cmul_of (hf u (by simp [h1.1])) (hn v h1.2), hk S4 Ext.refl⟩
  · rw [fm_some, List.nil_append, show (fun y : Int × Int => D.int (y.1 * y.2)) = D.int ∘ (fun y => y.1 * y.2) from rfl, ← List.map_map] at ea4
    simp only [wpE, wpT, wpA, wpC, wpO, wpI, wpJ, wpP, wpPs, opD, cmpD, biD, mtD, mtTy, addD_ii, addD_ss, addD_tt, subD_ii, mulD_ii, mulD_si, mulD_ti, fdivD_ii, modD_ii, powD_ii, negD_i, eqD_ii, eqD_ss, eqD_bb, ordD_ii, ordD_ss, isD_n, isD_bb, isNon, idxD_t, idxD_s, idxD_l, idxD_r, slD_t, slD_s, slD_l, slD_r, lenD_s, lenD_t, lenD_l, lenD_r, absD_i, minD_ii, maxD_ii, intD_i, intD_b, strD_i, tupleD_t, tupleD_r, tupleD_l, listD_t, listD_r, listD_l, sumD_t, sumD_r, anyD_t, anyD_r, allD_t, allD_r, appD_r, extD_r, joinD_r, joinD_t, countD_s, truthD_b, truthD_i, truthD_n, truthD_s, truthD_t, iterD_t, iterD_s, iterD_l, iterD_r, range1D_i, range2D_i, fmtD_s, fmtD_i, List.getElem?_cons_zero, List.getElem?_cons_succ, List.set_cons_zero, List.set_cons_succ, Option.some.injEq, exists_eq_left', exists_eq_left, Option.map_some, Bool.false_xor, Bool.true_xor, put_same, put_put, Ob.lst.injEq, D.int.injEq, D.bl.injEq, D.str.injEq, D.tup.injEq, D.ref.injEq, seqD_t, seqD_l, seqD_r, atI_0, atI_1, atI_2, atI_3, exists_and_left, exists_eq', and_true, true_and, decide_eq_true_eq, ea4, intsF_map]
    have := k S4 (Ext.refl.of_but fa e4)
    unfold valF at this
    rw [List.headD_cons, List.tail_cons, dot_zip] at this
    exact this
theorem w_value_of : ∀ ds S Q, spVal ds S Q → wpS (tabOf []) ir_value_of { nx := fun _ S' => Q .non S', rt := Q } (startD ["form", "counts", "factor", "count"] ds) S := w_val _ rfl
theorem w_l_number : ∀ ds S Q, spVal ds S Q → wpS (tabOf []) ir_l_number { nx := fun _ S' => Q .non S', rt := Q } (startD ["_law_shape", "_law_numbers_here", "_law_a", "_law_b"] ds) S := w_val _ rfl
/-! drawn counts -/
def ir_l_numbers_b1_1 : Sx := .cons (.ex (.mt .append (.var 3) (.cons (.bi .min (.cons (.bi .int (.cons (.bin .Sub (.var 2) (.con (.int 1))) (.nil))) (.cons (.bi .int (.cons (.call 1 (.cons (.var 0) (.cons (.var 5) (.nil)))) (.nil))) (.nil)))) (.nil)))) .nil
def ir_l_numbers_b1 : Sx := .cons (.asg (.v 5) (.lst (.cons (.con (.int 0)) (.cons (.con (.int 1)) (.cons (.con (.int 2)) (.cons (.call 0 (.cons (.var 0) (.cons (.var 2) (.nil)))) (.cons (.call 0 (.cons (.var 0) (.cons (.var 2) (.nil)))) (.cons (.bin .Sub (.bin .Sub (.var 2) (.con (.int 1))) (.call 0 (.cons (.var 0) (.cons (.bi .min (.cons (.bi .int (.cons (.var 2) (.nil))) (.cons (.con (.int 9)) (.nil)))) (.nil))))) (.nil))))))))) ir_l_numbers_b1_1
def ir_l_numbers_2 : Sx := .cons (.ret (.bi .tuple (.cons (.var 3) (.nil)))) .nil
def ir_l_numbers_1 : Sx := .cons (.loop (.v 4) (.iR1 (.var 1)) (ir_l_numbers_b1)) ir_l_numbers_2
def ir_l_numbers : Sx := .cons (.asg (.v 3) (.lst (.nil))) ir_l_numbers_1
/-- counts below a number -/
def inN (most : Int) (ns : List Int) : Prop := ∀ n ∈ ns, 0 ≤ n ∧ n < most
def spNums : Spec := fun ds S Q => ∃ p q b, ∃ (m : Nat) (most : Int), ds = [.ref p, .int m, .int most] ∧ m ≤ 3 ∧ 0 < most ∧ most < 2 ^ 64 ∧ Deck S p q (b + 4 * m) ∧ ∀ S' ns, ns.length = m → inN most ns → Deck S' p q b → ExtB p S S' → Q (.tup (ns.map .int)) S'
theorem lim64 {n : Int} (h : n < 2 ^ 64) : n < 2 ^ 8000 := Int.lt_of_lt_of_le h (by decide +kernel)
theorem w_numbers : ∀ ds S Q, spNums ds S Q → wpS (tabOf [("_law_draw", spDraw), ("_law_one", spOne)]) ir_l_numbers { nx := fun _ S' => Q .non S', rt := Q } (startD ["_law_deck_here", "_law_many", "_law_most", "_law_found", "_law_turn", "_law_some"] ds) S := by
  rintro ds S Q ⟨p, q, b, m, most, rfl, hm, hp0, hp1, dk, k⟩
  rw [show startD ["_law_deck_here", "_law_many", "_law_most", "_law_found", "_law_turn", "_law_some"] [.ref p, .int m, .int most] = [some (.ref p), some (.int m), some (.int most), none, none, none] from rfl]
  have hp2 := lim64 hp1
  unfold ir_l_numbers
  refine st_cons (st_asg ?_)
  simp only [wpE, wpT, wpA, wpC, wpO, wpI, wpJ, wpP, wpPs, opD, cmpD, biD, mtD, mtTy, addD_ii, addD_ss, addD_tt, subD_ii, mulD_ii, mulD_si, mulD_ti, fdivD_ii, modD_ii, powD_ii, negD_i, eqD_ii, eqD_ss, eqD_bb, ordD_ii, ordD_ss, isD_n, isD_bb, isNon, idxD_t, idxD_s, idxD_l, idxD_r, slD_t, slD_s, slD_l, slD_r, lenD_s, lenD_t, lenD_l, lenD_r, absD_i, minD_ii, maxD_ii, intD_i, intD_b, strD_i, tupleD_t, tupleD_r, tupleD_l, listD_t, listD_r, listD_l, sumD_t, sumD_r, anyD_t, anyD_r, allD_t, allD_r, appD_r, extD_r, joinD_r, joinD_t, countD_s, truthD_b, truthD_i, truthD_n, truthD_s, truthD_t, iterD_t, iterD_s, iterD_l, iterD_r, range1D_i, range2D_i, fmtD_s, fmtD_i, List.getElem?_cons_zero, List.getElem?_cons_succ, List.set_cons_zero, List.set_cons_succ, Option.some.injEq, exists_eq_left', exists_eq_left, Option.map_some, Bool.false_xor, Bool.true_xor, put_same, put_put, Ob.lst.injEq, D.int.injEq, D.bl.injEq, D.str.injEq, D.tup.injEq, D.ref.injEq, seqD_t, seqD_l, seqD_r, atI_0, atI_1, atI_2, atI_3, exists_and_left, exists_eq', and_true, true_and, decide_eq_true_eq, tabOf]
  refine ⟨by simp, fun a fa => ?_⟩
  obtain ⟨npa, nqa⟩ := dk.fresh fa
  unfold ir_l_numbers_1
  refine st_cons (st_loop ?_)
  simp only [wpE, wpT, wpA, wpC, wpO, wpI, wpJ, wpP, wpPs, opD, cmpD, biD, mtD, mtTy, addD_ii, addD_ss, addD_tt, subD_ii, mulD_ii, mulD_si, mulD_ti, fdivD_ii, modD_ii, powD_ii, negD_i, eqD_ii, eqD_ss, eqD_bb, ordD_ii, ordD_ss, isD_n, isD_bb, isNon, idxD_t, idxD_s, idxD_l, idxD_r, slD_t, slD_s, slD_l, slD_r, lenD_s, lenD_t, lenD_l, lenD_r, absD_i, minD_ii, maxD_ii, intD_i, intD_b, strD_i, tupleD_t, tupleD_r, tupleD_l, listD_t, listD_r, listD_l, sumD_t, sumD_r, anyD_t, anyD_r, allD_t, allD_r, appD_r, extD_r, joinD_r, joinD_t, countD_s, truthD_b, truthD_i, truthD_n, truthD_s, truthD_t, iterD_t, iterD_s, iterD_l, iterD_r, range1D_i, range2D_i, fmtD_s, fmtD_i, List.getElem?_cons_zero, List.getElem?_cons_succ, List.set_cons_zero, List.set_cons_succ, Option.some.injEq, exists_eq_left', exists_eq_left, Option.map_some, Bool.false_xor, Bool.true_xor, put_same, put_put, Ob.lst.injEq, D.int.injEq, D.bl.injEq, D.str.injEq, D.tup.injEq, D.ref.injEq, seqD_t, seqD_l, seqD_r, atI_0, atI_1, atI_2, atI_3, exists_and_left, exists_eq', and_true, true_and, decide_eq_true_eq, tabOf]
  refine ⟨small_of (by omega) (by omega), ?_⟩
  have hn' : (rngD 0 (m : Int)).length = m := by rw [rng_len]; rfl
  refine for_inv (fun rest env S' => ∃ (x y : Option D) (ns : List Int), env = [some (.ref p), some (.int m), some (.int most), some (.ref a), x, y] ∧ ns.length + rest.length = m ∧ inN most ns ∧ Deck S' p q (b + 4 * rest.length) ∧ ExtB p S S' ∧ S' a = some (.lst (ns.map .int))) _ _ _
    ⟨none, none, [], rfl, by rw [hn']; simp, fun _ h => absurd h (by simp), (dk.put npa nqa).less (by rw [hn']; omega), (Ext.put fa).but, put_same⟩ ?_ (fun _ _ _ _ => trivial) ?_
  · rintro x rest env S1 N ⟨u, v, ns, rfl, hl, hns, dk1, e1, ea⟩ hN
    rw [List.length_cons] at hl dk1
    simp only [wpE, wpT, wpA, wpC, wpO, wpI, wpJ, wpP, wpPs, opD, cmpD, biD, mtD, mtTy, addD_ii, addD_ss, addD_tt, subD_ii, mulD_ii, mulD_si, mulD_ti, fdivD_ii, modD_ii, powD_ii, negD_i, eqD_ii, eqD_ss, eqD_bb, ordD_ii, ordD_ss, isD_n, isD_bb, isNon, idxD_t, idxD_s, idxD_l, idxD_r, slD_t, slD_s, slD_l, slD_r, lenD_s, lenD_t, lenD_l, lenD_r, absD_i, minD_ii, maxD_ii, intD_i, intD_b, strD_i, tupleD_t, tupleD_r, tupleD_l, listD_t, listD_r, listD_l, sumD_t, sumD_r, anyD_t, anyD_r, allD_t, allD_r, appD_r, extD_r, joinD_r, joinD_t, countD_s, truthD_b, truthD_i, truthD_n, truthD_s, truthD_t, iterD_t, iterD_s, iterD_l, iterD_r, range1D_i, range2D_i, fmtD_s, fmtD_i, List.getElem?_cons_zero, List.getElem?_cons_succ, List.set_cons_zero, List.set_cons_succ, Option.some.injEq, exists_eq_left', exists_eq_left, Option.map_some, Bool.false_xor, Bool.true_xor, put_same, put_put, Ob.lst.injEq, D.int.injEq, D.bl.injEq, D.str.injEq, D.tup.injEq, D.ref.injEq, seqD_t, seqD_l, seqD_r, atI_0, atI_1, atI_2, atI_3, exists_and_left, exists_eq', and_true, true_and, decide_eq_true_eq, tabOf]
    unfold ir_l_numbers_b1
    refine st_cons (st_asg ?_)
    simp only [wpE, wpT, wpA, wpC, wpO, wpI, wpJ, wpP, wpPs, opD, cmpD, biD, mtD, mtTy, addD_ii, addD_ss, addD_tt, subD_ii, mulD_ii, mulD_si, mulD_ti, fdivD_ii, modD_ii, powD_ii, negD_i, eqD_ii, eqD_ss, eqD_bb, ordD_ii, ordD_ss, isD_n, isD_bb, isNon, idxD_t, idxD_s, idxD_l, idxD_r, slD_t, slD_s, slD_l, slD_r, lenD_s, lenD_t, lenD_l, lenD_r, absD_i, minD_ii, maxD_ii, intD_i, intD_b, strD_i, tupleD_t, tupleD_r, tupleD_l, listD_t, listD_r, listD_l, sumD_t, sumD_r, anyD_t, anyD_r, allD_t, allD_r, appD_r, extD_r, joinD_r, joinD_t, countD_s, truthD_b, truthD_i, truthD_n, truthD_s, truthD_t, iterD_t, iterD_s, iterD_l, iterD_r, range1D_i, range2D_i, fmtD_s, fmtD_i, List.getElem?_cons_zero, List.getElem?_cons_succ, List.set_cons_zero, List.set_cons_succ, Option.some.injEq, exists_eq_left', exists_eq_left, Option.map_some, Bool.false_xor, Bool.true_xor, put_same, put_put, Ob.lst.injEq, D.int.injEq, D.bl.injEq, D.str.injEq, D.tup.injEq, D.ref.injEq, seqD_t, seqD_l, seqD_r, atI_0, atI_1, atI_2, atI_3, exists_and_left, exists_eq', and_true, true_and, decide_eq_true_eq, tabOf]
    refine ⟨p, q, _, b + 4 * rest.length + 3, rfl, hp0, hp2, dk1.less (by omega), fun S2 y2 h20 h21 dk2 e2 => ?_⟩
    refine ⟨p, q, _, b + 4 * rest.length + 2, rfl, hp0, hp2, dk2, fun S3 y3 h30 h31 dk3 e3 => ?_⟩
    refine ⟨p, q, _, b + 4 * rest.length + 1, rfl, by omega, by omega, dk3, fun S4 y4 h40 h41 dk4 e4 => ?_⟩
    simp only [addD_ii, addD_ss, addD_tt, subD_ii, mulD_ii, mulD_si, mulD_ti, fdivD_ii, modD_ii, powD_ii, negD_i, eqD_ii, eqD_ss, eqD_bb, ordD_ii, ordD_ss, isD_n, isD_bb, isNon, idxD_t, idxD_s, idxD_l, idxD_r, slD_t, slD_s, slD_l, slD_r, lenD_s, lenD_t, lenD_l, lenD_r, absD_i, minD_ii, maxD_ii, intD_i, intD_b, strD_i, tupleD_t, tupleD_r, tupleD_l, listD_t, listD_r, listD_l, sumD_t, sumD_r, anyD_t, anyD_r, allD_t, allD_r, appD_r, extD_r, joinD_r, joinD_t, countD_s, truthD_b, truthD_i, truthD_n, truthD_s, truthD_t, iterD_t, iterD_s, iterD_l, iterD_r, range1D_i, range2D_i, fmtD_s, fmtD_i]
    refine ⟨by simp, fun r5 f5 => ?_⟩
    obtain ⟨np5, nq5⟩ := dk4.fresh f5
    unfold ir_l_numbers_b1_1
    refine st_cons (st_ex ?_)
    simp only [wpE, wpT, wpA, wpC, wpO, wpI, wpJ, wpP, wpPs, opD, cmpD, biD, mtD, mtTy, addD_ii, addD_ss, addD_tt, subD_ii, mulD_ii, mulD_si, mulD_ti, fdivD_ii, modD_ii, powD_ii, negD_i, eqD_ii, eqD_ss, eqD_bb, ordD_ii, ordD_ss, isD_n, isD_bb, isNon, idxD_t, idxD_s, idxD_l, idxD_r, slD_t, slD_s, slD_l, slD_r, lenD_s, lenD_t, lenD_l, lenD_r, absD_i, minD_ii, maxD_ii, intD_i, intD_b, strD_i, tupleD_t, tupleD_r, tupleD_l, listD_t, listD_r, listD_l, sumD_t, sumD_r, anyD_t, anyD_r, allD_t, allD_r, appD_r, extD_r, joinD_r, joinD_t, countD_s, truthD_b, truthD_i, truthD_n, truthD_s, truthD_t, iterD_t, iterD_s, iterD_l, iterD_r, range1D_i, range2D_i, fmtD_s, fmtD_i, List.getElem?_cons_zero, List.getElem?_cons_succ, List.set_cons_zero, List.set_cons_succ, Option.some.injEq, exists_eq_left', exists_eq_left, Option.map_some, Bool.false_xor, Bool.true_xor, put_same, put_put, Ob.lst.injEq, D.int.injEq, D.bl.injEq, D.str.injEq, D.tup.injEq, D.ref.injEq, seqD_t, seqD_l, seqD_r, atI_0, atI_1, atI_2, atI_3, exists_and_left, exists_eq', and_true, true_and, decide_eq_true_eq, tabOf]
    have E4 : ExtB p S1 S4 := e2.trans (e3.trans e4)
    have E5 : ExtB p S1 (put S4 r5 (.lst [.int 0, .int 1, .int 2, .int y2, .int y3, .int (most - 1 - y4)])) := E4.trans (Ext.put f5).but
    refine ⟨⟨_, E5 _ _ npa.symm ea⟩, p, q, b + 4 * rest.length, _, _, rfl, by simp only [itemsD, put_same]; rw [if_pos ⟨by simp, np5.symm⟩], by simp, dk4.put np5 nq5, fun S6 z hz dk6 e6 => ?_⟩
    have hz' : ∃ i, z = .int i ∧ 0 ≤ i := by
      simp only [List.mem_cons, List.not_mem_nil, or_false] at hz
      rcases hz with rfl | rfl | rfl | rfl | rfl | rfl <;> exact ⟨_, rfl, by omega⟩
    obtain ⟨i, rfl, hi⟩ := hz'
    simp only [addD_ii, addD_ss, addD_tt, subD_ii, mulD_ii, mulD_si, mulD_ti, fdivD_ii, modD_ii, powD_ii, negD_i, eqD_ii, eqD_ss, eqD_bb, ordD_ii, ordD_ss, isD_n, isD_bb, isNon, idxD_t, idxD_s, idxD_l, idxD_r, slD_t, slD_s, slD_l, slD_r, lenD_s, lenD_t, lenD_l, lenD_r, absD_i, minD_ii, maxD_ii, intD_i, intD_b, strD_i, tupleD_t, tupleD_r, tupleD_l, listD_t, listD_r, listD_l, sumD_t, sumD_r, anyD_t, anyD_r, allD_t, allD_r, appD_r, extD_r, joinD_r, joinD_t, countD_s, truthD_b, truthD_i, truthD_n, truthD_s, truthD_t, iterD_t, iterD_s, iterD_l, iterD_r, range1D_i, range2D_i, fmtD_s, fmtD_i]
    have ea6 := e6 _ _ npa.symm (E5 _ _ npa.symm ea)
    refine ⟨_, ea6, by rw [List.length_map]; omega, ?_⟩
    have hfa : ∀ c o, c ≠ p → S c = some o → put S6 a (.lst (ns.map .int ++ [.int (min (most - 1) i)])) c = some o := fun c o hc h => by
      rw [put_ne (fun w => by rw [w, fa] at h; cases h)]
      exact e6 c o hc (E5 c o hc (e1 c o hc h))
    refine hN _ _ ⟨_, _, ns ++ [min (most - 1) i], rfl, by rw [List.length_append]; simp; omega, fun n hn => ?_, dk6.put npa nqa, hfa, by rw [put_same]; simp⟩
    rcases List.mem_append.mp hn with h | h
    · exact hns n h
    · rw [List.mem_singleton.mp h]; omega
  · rintro env S1 ⟨u, v, ns, rfl, hl, hns, dk1, e1, ea⟩
    unfold ir_l_numbers_2
    refine st_cons (st_ret ?_)
    simp only [wpE, wpT, wpA, wpC, wpO, wpI, wpJ, wpP, wpPs, opD, cmpD, biD, mtD, mtTy, addD_ii, addD_ss, addD_tt, subD_ii, mulD_ii, mulD_si, mulD_ti, fdivD_ii, modD_ii, powD_ii, negD_i, eqD_ii, eqD_ss, eqD_bb, ordD_ii, ordD_ss, isD_n, isD_bb, isNon, idxD_t, idxD_s, idxD_l, idxD_r, slD_t, slD_s, slD_l, slD_r, lenD_s, lenD_t, lenD_l, lenD_r, absD_i, minD_ii, maxD_ii, intD_i, intD_b, strD_i, tupleD_t, tupleD_r, tupleD_l, listD_t, listD_r, listD_l, sumD_t, sumD_r, anyD_t, anyD_r, allD_t, allD_r, appD_r, extD_r, joinD_r, joinD_t, countD_s, truthD_b, truthD_i, truthD_n, truthD_s, truthD_t, iterD_t, iterD_s, iterD_l, iterD_r, range1D_i, range2D_i, fmtD_s, fmtD_i, List.getElem?_cons_zero, List.getElem?_cons_succ, List.set_cons_zero, List.set_cons_succ, Option.some.injEq, exists_eq_left', exists_eq_left, Option.map_some, Bool.false_xor, Bool.true_xor, put_same, put_put, Ob.lst.injEq, D.int.injEq, D.bl.injEq, D.str.injEq, D.tup.injEq, D.ref.injEq, seqD_t, seqD_l, seqD_r, atI_0, atI_1, atI_2, atI_3, exists_and_left, exists_eq', and_true, true_and, decide_eq_true_eq, ea]
    exact k _ _ (by simpa using hl) hns (by simpa using dk1) e1
end G57
set_option Elab.async false
set_option linter.all false
set_option maxRecDepth 100000
set_option maxHeartbeats 400000
namespace G57
open PySem L2
/-! summed -/
def ir_summed_b2_1 : Sx := .cons (.asg (.v 3) (.bin .Add (.tup (.cons (.bin .Add (.idx (.var 3) (.con (.int 0))) (.var 5)) (.nil))) (.sl (.var 3) (.cons (.con (.int 1)) .nil) (.nil)))) .nil
def ir_summed_b2 : Sx := .cons (.asg (.v 5) (.ite (.cmp .Eq (.var 2) (.con (.str []))) (.bi .len (.cons (.idx (.var 4) (.con (.int 1))) (.nil))) (.mt .count (.idx (.var 4) (.con (.int 1))) (.cons (.var 2) (.nil))))) ir_summed_b2_1
def ir_summed_b3_1 : Sx := .cons (.asg (.v 3) (.call 1 (.cons (.var 3) (.cons (.ite (.call 2 (.cons (.idx (.var 4) (.con (.int 1))) (.nil))) (.call 3 (.cons (.idx (.var 4) (.con (.int 1))) (.cons (.idx (.var 6) (.con (.int 0))) (.nil)))) (.call 3 (.cons (.var 6) (.cons (.idx (.idx (.var 4) (.con (.int 1))) (.con (.int 0))) (.nil))))) (.nil))))) .nil
def ir_summed_b3 : Sx := .cons (.asg (.v 6) (.call 0 (.cons (.idx (.var 4) (.con (.int 2))) (.cons (.var 1) (.cons (.var 2) (.nil)))))) ir_summed_b3_1
def ir_summed_b1 : Sx := .cons (.iff (.cmp .Eq (.idx (.var 4) (.con (.int 0))) (.con (.str [116, 101, 120, 116]))) (ir_summed_b2) (ir_summed_b3)) .nil
def ir_summed_2 : Sx := .cons (.ret (.var 3)) .nil
def ir_summed_1 : Sx := .cons (.loop (.v 4) (.iE (.var 0)) (ir_summed_b1)) ir_summed_2
def ir_summed : Sx := .cons (.asg (.v 3) (.bin .Mult (.tup (.cons (.con (.int 0)) (.nil))) (.bin .Add (.var 1) (.con (.int 1))))) ir_summed_1
def ir_length : Sx := .cons (.ret (.call 0 (.cons (.idx (.var 0) (.con (.int 1))) (.cons (.idx (.var 0) (.con (.int 0))) (.cons (.con (.str [])) (.nil)))))) .nil
def ir_letters : Sx := .cons (.ret (.call 0 (.cons (.idx (.var 0) (.con (.int 1))) (.cons (.idx (.var 0) (.con (.int 0))) (.cons (.var 1) (.nil)))))) .nil
theorem vec_map (m : Nat) (g : Nat → Int) (n : Int) : (vec m g).map (n * ·) = vec m fun k => n * g k := by unfold vec; rw [List.map_map]; rfl
theorem vec_add (m : Nat) (g h : Nat → Int) : ((vec m g).zip (vec m h)).map (fun y => y.1 + y.2) = vec m fun k => g k + h k := by
  unfold vec
  rw [List.zip_map', List.map_map]; rfl
theorem vec_head (m : Nat) (g : Nat → Int) (c : Int) : (g 0 + c) :: (vec m g).tail = vec m fun k => g k + c * coef none k := by
  rw [vec_cons, vec_cons, List.tail_cons]
  simp [coef]
theorem vec_zero (m : Nat) : List.replicate (m + 1) (0 : Int) = vec m fun _ => 0 := by
  unfold vec
  rw [List.map_const', List.length_range]
theorem sums_bd {m d : Nat} {b : Bool} (L : List Nat) {ps : List Pg} (h : okPs m ps d b) (hd : d ≤ 3) (hl : ps.length ≤ 5) (k : Nat) : 0 ≤ sumIs L ps k ∧ sumIs L ps k ≤ 427680 := by
  rw [sums_mea L ps d b h k]
  have a := mea_bd L k _ (pcss_ok ps d b h)
  have c : letN (pcsPs ps) ≤ 5 * (4 * 216) := Nat.le_trans (pcss_bd ps d b h).2 (Nat.mul_le_mul hl (Nat.mul_le_mul_left _ (pow_lim hd)))
  omega
theorem sumIs_app (L : List Nat) (k : Nat) : ∀ xs ys : List Pg, sumIs L (xs ++ ys) k = sumIs L xs k + sumIs L ys k
  | [], ys => by simp [sumIs]
  | x :: xs, ys => by rw [List.cons_append, sumIs, sumIs, sumIs_app L k xs ys]; omega
/-- no letter or one -/
def sgn (L : List Nat) : Prop := L = [] ∨ ∃ c, L = [c]
def spSummed (n : Nat) : Spec := fun ds S Q => ∃ (ps : List Pg) (m d : Nat) (b : Bool) (L : List Nat), ds = [.tup (encPs ps), .int m, .str L] ∧ okPs m ps d b ∧ d < n ∧ d ≤ 3 ∧ m ≤ 3 ∧ ps.length ≤ 5 ∧ sgn L ∧ ∀ S', Ext S S' → Q (.tup ((vec m (sumIs L ps)).map .int)) S'
abbrev phiS (n : Nat) : List (Str × Spec) := [("summed", spSummed n), ("plus", spPlus), ("is_open", spOpen), ("times", spTimes)]
theorem w_chi {Φ : Tab} {env : En} {S : Sto} {Q : DK} {L w : List Nat} {ew el : Ex} (hL : sgn L) (hw : w.length ≤ 16777216) (h1 : ∀ Q : DK, Q (.str w) S → wpE Φ ew env S Q) (h2 : ∀ Q : DK, Q (.str L) S → wpE Φ el env S Q) (k : Q (.int (chi L w)) S) :
    wpE Φ (.ite (.cmp .Eq el (.con (.str []))) (.bi .len (.cons ew (.nil))) (.mt .count ew (.cons el (.nil)))) env S Q := by
  simp only [wpE, wpT, wpA, wpC, wpO, wpI, wpJ, wpP, wpPs, opD, cmpD, biD, mtD, mtTy]
  refine h2 _ ?_
  simp only [addD_ii, addD_ss, addD_tt, subD_ii, mulD_ii, mulD_si, mulD_ti, fdivD_ii, modD_ii, powD_ii, negD_i, eqD_ii, eqD_ss, eqD_bb, ordD_ii, ordD_ss, isD_n, isD_bb, isNon, idxD_t, idxD_s, idxD_l, idxD_r, slD_t, slD_s, slD_l, slD_r, lenD_s, lenD_t, lenD_l, lenD_r, absD_i, minD_ii, maxD_ii, intD_i, intD_b, strD_i, tupleD_t, tupleD_r, tupleD_l, listD_t, listD_r, listD_l, sumD_t, sumD_r, anyD_t, anyD_r, allD_t, allD_r, appD_r, extD_r, joinD_r, joinD_t, countD_s, truthD_b, truthD_i, truthD_n, truthD_s, truthD_t, iterD_t, iterD_s, iterD_l, iterD_r, range1D_i, range2D_i, fmtD_s, fmtD_i, List.getElem?_cons_zero, List.getElem?_cons_succ, List.set_cons_zero, List.set_cons_succ, Option.some.injEq, exists_eq_left', exists_eq_left, Option.map_some, Bool.false_xor, Bool.true_xor, put_same, put_put, Ob.lst.injEq, D.int.injEq, D.bl.injEq, D.str.injEq, D.tup.injEq, D.ref.injEq, seqD_t, seqD_l, seqD_r, atI_0, atI_1, atI_2, atI_3, exists_and_left, exists_eq', and_true, true_and, decide_eq_true_eq]
  rcases hL with rfl | ⟨c, rfl⟩
  · rw [if_pos rfl]
    refine h1 _ ?_
    simp only [addD_ii, addD_ss, addD_tt, subD_ii, mulD_ii, mulD_si, mulD_ti, fdivD_ii, modD_ii, powD_ii, negD_i, eqD_ii, eqD_ss, eqD_bb, ordD_ii, ordD_ss, isD_n, isD_bb, isNon, idxD_t, idxD_s, idxD_l, idxD_r, slD_t, slD_s, slD_l, slD_r, lenD_s, lenD_t, lenD_l, lenD_r, absD_i, minD_ii, maxD_ii, intD_i, intD_b, strD_i, tupleD_t, tupleD_r, tupleD_l, listD_t, listD_r, listD_l, sumD_t, sumD_r, anyD_t, anyD_r, allD_t, allD_r, appD_r, extD_r, joinD_r, joinD_t, countD_s, truthD_b, truthD_i, truthD_n, truthD_s, truthD_t, iterD_t, iterD_s, iterD_l, iterD_r, range1D_i, range2D_i, fmtD_s, fmtD_i]
    exact ⟨hw, k⟩
  · rw [if_neg (by simp)]
    refine h1 _ ?_
    simp only [mtTy, true_and]
    refine h2 _ ?_
    simp only [wpE, wpT, wpA, wpC, wpO, wpI, wpJ, wpP, wpPs, opD, cmpD, biD, mtD, mtTy, addD_ii, addD_ss, addD_tt, subD_ii, mulD_ii, mulD_si, mulD_ti, fdivD_ii, modD_ii, powD_ii, negD_i, eqD_ii, eqD_ss, eqD_bb, ordD_ii, ordD_ss, isD_n, isD_bb, isNon, idxD_t, idxD_s, idxD_l, idxD_r, slD_t, slD_s, slD_l, slD_r, lenD_s, lenD_t, lenD_l, lenD_r, absD_i, minD_ii, maxD_ii, intD_i, intD_b, strD_i, tupleD_t, tupleD_r, tupleD_l, listD_t, listD_r, listD_l, sumD_t, sumD_r, anyD_t, anyD_r, allD_t, allD_r, appD_r, extD_r, joinD_r, joinD_t, countD_s, truthD_b, truthD_i, truthD_n, truthD_s, truthD_t, iterD_t, iterD_s, iterD_l, iterD_r, range1D_i, range2D_i, fmtD_s, fmtD_i]
    exact k
theorem w_summed (n : Nat) : ∀ ds S Q, spSummed (n + 1) ds S Q → wpS (tabOf (phiS n)) ir_summed { nx := fun _ S' => Q .non S', rt := Q } (startD ["parts", "k", "letter", "found", "part", "many", "inner"] ds) S := by
  rintro ds S Q ⟨ps, m, d, b, L, rfl, hok, hd, hd3, hm, hl, hL, k⟩
  rw [show startD ["parts", "k", "letter", "found", "part", "many", "inner"] [.tup (encPs ps), .int m, .str L] = [some (.tup (encPs ps)), some (.int m), some (.str L), none, none, none, none] from rfl]
  unfold ir_summed
  refine st_cons (st_asg ?_)
  simp only [wpE, wpT, wpA, wpC, wpO, wpI, wpJ, wpP, wpPs, opD, cmpD, biD, mtD, mtTy, addD_ii, addD_ss, addD_tt, subD_ii, mulD_ii, mulD_si, mulD_ti, fdivD_ii, modD_ii, powD_ii, negD_i, eqD_ii, eqD_ss, eqD_bb, ordD_ii, ordD_ss, isD_n, isD_bb, isNon, idxD_t, idxD_s, idxD_l, idxD_r, slD_t, slD_s, slD_l, slD_r, lenD_s, lenD_t, lenD_l, lenD_r, absD_i, minD_ii, maxD_ii, intD_i, intD_b, strD_i, tupleD_t, tupleD_r, tupleD_l, listD_t, listD_r, listD_l, sumD_t, sumD_r, anyD_t, anyD_r, allD_t, allD_r, appD_r, extD_r, joinD_r, joinD_t, countD_s, truthD_b, truthD_i, truthD_n, truthD_s, truthD_t, iterD_t, iterD_s, iterD_l, iterD_r, range1D_i, range2D_i, fmtD_s, fmtD_i, List.getElem?_cons_zero, List.getElem?_cons_succ, List.set_cons_zero, List.set_cons_succ, Option.some.injEq, exists_eq_left', exists_eq_left, Option.map_some, Bool.false_xor, Bool.true_xor, put_same, put_put, Ob.lst.injEq, D.int.injEq, D.bl.injEq, D.str.injEq, D.tup.injEq, D.ref.injEq, seqD_t, seqD_l, seqD_r, atI_0, atI_1, atI_2, atI_3, exists_and_left, exists_eq', and_true, true_and, decide_eq_true_eq, tabOf]
  refine ⟨by simp, by omega, by omega, by simp, ?_⟩
  have hz : (List.replicate ((m : Int) + 1).toNat [D.int 0]).flatten = (vec m fun _ => 0).map .int := by
    rw [show ((m : Int) + 1).toNat = m + 1 by omega, rep1, vec_zero]
  rw [hz]
  unfold ir_summed_1
  refine st_cons (st_loop ?_)
  simp only [wpE, wpT, wpA, wpC, wpO, wpI, wpJ, wpP, wpPs, opD, cmpD, biD, mtD, mtTy, addD_ii, addD_ss, addD_tt, subD_ii, mulD_ii, mulD_si, mulD_ti, fdivD_ii, modD_ii, powD_ii, negD_i, eqD_ii, eqD_ss, eqD_bb, ordD_ii, ordD_ss, isD_n, isD_bb, isNon, idxD_t, idxD_s, idxD_l, idxD_r, slD_t, slD_s, slD_l, slD_r, lenD_s, lenD_t, lenD_l, lenD_r, absD_i, minD_ii, maxD_ii, intD_i, intD_b, strD_i, tupleD_t, tupleD_r, tupleD_l, listD_t, listD_r, listD_l, sumD_t, sumD_r, anyD_t, anyD_r, allD_t, allD_r, appD_r, extD_r, joinD_r, joinD_t, countD_s, truthD_b, truthD_i, truthD_n, truthD_s, truthD_t, iterD_t, iterD_s, iterD_l, iterD_r, range1D_i, range2D_i, fmtD_s, fmtD_i, List.getElem?_cons_zero, List.getElem?_cons_succ, List.set_cons_zero, List.set_cons_succ, Option.some.injEq, exists_eq_left', exists_eq_left, Option.map_some, Bool.false_xor, Bool.true_xor, put_same, put_put, Ob.lst.injEq, D.int.injEq, D.bl.injEq, D.str.injEq, D.tup.injEq, D.ref.injEq, seqD_t, seqD_l, seqD_r, atI_0, atI_1, atI_2, atI_3, exists_and_left, exists_eq', and_true, true_and, decide_eq_true_eq, tabOf]
  refine for_inv (fun rest env S' => ∃ (x y z : Option D) (dn rs : List Pg), ps = dn ++ rs ∧ rest = encPs rs ∧ env = [some (.tup (encPs ps)), some (.int m), some (.str L), some (.tup ((vec m (sumIs L dn)).map .int)), x, y, z] ∧ Ext S S') _ _ _ ⟨none, none, none, [], ps, rfl, rfl, by simp only [sumIs], Ext.refl⟩ ?_ (fun _ _ _ _ => trivial) ?_
  · rintro x rest env S1 N ⟨u, v, t, dn, rs, hz, hrs, rfl, e1⟩ hN
    cases rs with
    | nil => rw [encPs] at hrs; cases hrs
    | cons y rs =>
      rw [encPs] at hrs
      obtain ⟨rfl, rfl⟩ := List.cons.inj hrs
      have hy := okPs_mem hok y (by rw [hz]; simp)
      have hz' : ps = (dn ++ [y]) ++ rs := by rw [hz]; simp
      have fin : ∀ S' (g : Nat → Int) x u v, x = encP y → Ext S S' → (∀ k, g k = sumI L y k) → N [some (.tup (encPs ps)), some (.int m), some (.str L), some (.tup ((vec m fun k => sumIs L dn k + g k).map .int)), some x, u, v] S' := by
        rintro S' g x u v rfl e' hg
        refine hN _ _ ⟨some (encP y), u, v, dn ++ [y], rs, hz', rfl, ?_, e'⟩
        have e : (fun k => sumIs L dn k + g k) = sumIs L (dn ++ [y]) := by
          funext k
          rw [sumIs_app, hg k]; simp [sumIs]
        rw [e]
      simp only [wpE, wpT, wpA, wpC, wpO, wpI, wpJ, wpP, wpPs, opD, cmpD, biD, mtD, mtTy, addD_ii, addD_ss, addD_tt, subD_ii, mulD_ii, mulD_si, mulD_ti, fdivD_ii, modD_ii, powD_ii, negD_i, eqD_ii, eqD_ss, eqD_bb, ordD_ii, ordD_ss, isD_n, isD_bb, isNon, idxD_t, idxD_s, idxD_l, idxD_r, slD_t, slD_s, slD_l, slD_r, lenD_s, lenD_t, lenD_l, lenD_r, absD_i, minD_ii, maxD_ii, intD_i, intD_b, strD_i, tupleD_t, tupleD_r, tupleD_l, listD_t, listD_r, listD_l, sumD_t, sumD_r, anyD_t, anyD_r, allD_t, allD_r, appD_r, extD_r, joinD_r, joinD_t, countD_s, truthD_b, truthD_i, truthD_n, truthD_s, truthD_t, iterD_t, iterD_s, iterD_l, iterD_r, range1D_i, range2D_i, fmtD_s, fmtD_i, List.getElem?_cons_zero, List.getElem?_cons_succ, List.set_cons_zero, List.set_cons_succ, Option.some.injEq, exists_eq_left', exists_eq_left, Option.map_some, Bool.false_xor, Bool.true_xor, put_same, put_put, Ob.lst.injEq, D.int.injEq, D.bl.injEq, D.str.injEq, D.tup.injEq, D.ref.injEq, seqD_t, seqD_l, seqD_r, atI_0, atI_1, atI_2, atI_3, exists_and_left, exists_eq', and_true, true_and, decide_eq_true_eq]
      unfold ir_summed_b1
      refine st_cons (st_iff ?_)
      cases y with
      | text w =>
        rw [okP] at hy
        simp only [encP, wpE, wpT, wpA, wpC, wpO, wpI, wpJ, wpP, wpPs, opD, cmpD, biD, mtD, mtTy, addD_ii, addD_ss, addD_tt, subD_ii, mulD_ii, mulD_si, mulD_ti, fdivD_ii, modD_ii, powD_ii, negD_i, eqD_ii, eqD_ss, eqD_bb, ordD_ii, ordD_ss, isD_n, isD_bb, isNon, idxD_t, idxD_s, idxD_l, idxD_r, slD_t, slD_s, slD_l, slD_r, lenD_s, lenD_t, lenD_l, lenD_r, absD_i, minD_ii, maxD_ii, intD_i, intD_b, strD_i, tupleD_t, tupleD_r, tupleD_l, listD_t, listD_r, listD_l, sumD_t, sumD_r, anyD_t, anyD_r, allD_t, allD_r, appD_r, extD_r, joinD_r, joinD_t, countD_s, truthD_b, truthD_i, truthD_n, truthD_s, truthD_t, iterD_t, iterD_s, iterD_l, iterD_r, range1D_i, range2D_i, fmtD_s, fmtD_i, List.getElem?_cons_zero, List.getElem?_cons_succ, List.set_cons_zero, List.set_cons_succ, Option.some.injEq, exists_eq_left', exists_eq_left, Option.map_some, Bool.false_xor, Bool.true_xor, put_same, put_put, Ob.lst.injEq, D.int.injEq, D.bl.injEq, D.str.injEq, D.tup.injEq, D.ref.injEq, seqD_t, seqD_l, seqD_r, atI_0, atI_1, atI_2, atI_3, exists_and_left, exists_eq', and_true, true_and, decide_eq_true_eq, if_true]
        unfold ir_summed_b2
        refine st_cons (st_asg ?_)
        refine w_chi (w := w) (L := L) hL (by omega) (fun Q h => ?_) (fun Q h => ?_) ?_
        · simp only [wpE, wpT, wpA, wpC, wpO, wpI, wpJ, wpP, wpPs, opD, cmpD, biD, mtD, mtTy, addD_ii, addD_ss, addD_tt, subD_ii, mulD_ii, mulD_si, mulD_ti, fdivD_ii, modD_ii, powD_ii, negD_i, eqD_ii, eqD_ss, eqD_bb, ordD_ii, ordD_ss, isD_n, isD_bb, isNon, idxD_t, idxD_s, idxD_l, idxD_r, slD_t, slD_s, slD_l, slD_r, lenD_s, lenD_t, lenD_l, lenD_r, absD_i, minD_ii, maxD_ii, intD_i, intD_b, strD_i, tupleD_t, tupleD_r, tupleD_l, listD_t, listD_r, listD_l, sumD_t, sumD_r, anyD_t, anyD_r, allD_t, allD_r, appD_r, extD_r, joinD_r, joinD_t, countD_s, truthD_b, truthD_i, truthD_n, truthD_s, truthD_t, iterD_t, iterD_s, iterD_l, iterD_r, range1D_i, range2D_i, fmtD_s, fmtD_i, List.getElem?_cons_zero, List.getElem?_cons_succ, List.set_cons_zero, List.set_cons_succ, Option.some.injEq, exists_eq_left', exists_eq_left, Option.map_some, Bool.false_xor, Bool.true_xor, put_same, put_put, Ob.lst.injEq, D.int.injEq, D.bl.injEq, D.str.injEq, D.tup.injEq, D.ref.injEq, seqD_t, seqD_l, seqD_r, atI_0, atI_1, atI_2, atI_3, exists_and_left, exists_eq', and_true, true_and, decide_eq_true_eq]; exact h
        · simp only [wpE, wpT, wpA, wpC, wpO, wpI, wpJ, wpP, wpPs, opD, cmpD, biD, mtD, mtTy, addD_ii, addD_ss, addD_tt, subD_ii, mulD_ii, mulD_si, mulD_ti, fdivD_ii, modD_ii, powD_ii, negD_i, eqD_ii, eqD_ss, eqD_bb, ordD_ii, ordD_ss, isD_n, isD_bb, isNon, idxD_t, idxD_s, idxD_l, idxD_r, slD_t, slD_s, slD_l, slD_r, lenD_s, lenD_t, lenD_l, lenD_r, absD_i, minD_ii, maxD_ii, intD_i, intD_b, strD_i, tupleD_t, tupleD_r, tupleD_l, listD_t, listD_r, listD_l, sumD_t, sumD_r, anyD_t, anyD_r, allD_t, allD_r, appD_r, extD_r, joinD_r, joinD_t, countD_s, truthD_b, truthD_i, truthD_n, truthD_s, truthD_t, iterD_t, iterD_s, iterD_l, iterD_r, range1D_i, range2D_i, fmtD_s, fmtD_i, List.getElem?_cons_zero, List.getElem?_cons_succ, List.set_cons_zero, List.set_cons_succ, Option.some.injEq, exists_eq_left', exists_eq_left, Option.map_some, Bool.false_xor, Bool.true_xor, put_same, put_put, Ob.lst.injEq, D.int.injEq, D.bl.injEq, D.str.injEq, D.tup.injEq, D.ref.injEq, seqD_t, seqD_l, seqD_r, atI_0, atI_1, atI_2, atI_3, exists_and_left, exists_eq', and_true, true_and, decide_eq_true_eq]; exact h
        simp only [wpE, wpT, wpA, wpC, wpO, wpI, wpJ, wpP, wpPs, opD, cmpD, biD, mtD, mtTy, addD_ii, addD_ss, addD_tt, subD_ii, mulD_ii, mulD_si, mulD_ti, fdivD_ii, modD_ii, powD_ii, negD_i, eqD_ii, eqD_ss, eqD_bb, ordD_ii, ordD_ss, isD_n, isD_bb, isNon, idxD_t, idxD_s, idxD_l, idxD_r, slD_t, slD_s, slD_l, slD_r, lenD_s, lenD_t, lenD_l, lenD_r, absD_i, minD_ii, maxD_ii, intD_i, intD_b, strD_i, tupleD_t, tupleD_r, tupleD_l, listD_t, listD_r, listD_l, sumD_t, sumD_r, anyD_t, anyD_r, allD_t, allD_r, appD_r, extD_r, joinD_r, joinD_t, countD_s, truthD_b, truthD_i, truthD_n, truthD_s, truthD_t, iterD_t, iterD_s, iterD_l, iterD_r, range1D_i, range2D_i, fmtD_s, fmtD_i, List.getElem?_cons_zero, List.getElem?_cons_succ, List.set_cons_zero, List.set_cons_succ, Option.some.injEq, exists_eq_left', exists_eq_left, Option.map_some, Bool.false_xor, Bool.true_xor, put_same, put_put, Ob.lst.injEq, D.int.injEq, D.bl.injEq, D.str.injEq, D.tup.injEq, D.ref.injEq, seqD_t, seqD_l, seqD_r, atI_0, atI_1, atI_2, atI_3, exists_and_left, exists_eq', and_true, true_and, decide_eq_true_eq]
        unfold ir_summed_b2_1
        refine st_cons (st_asg ?_)
        simp only [wpE, wpT, wpA, wpC, wpO, wpI, wpJ, wpP, wpPs, opD, cmpD, biD, mtD, mtTy, addD_ii, addD_ss, addD_tt, subD_ii, mulD_ii, mulD_si, mulD_ti, fdivD_ii, modD_ii, powD_ii, negD_i, eqD_ii, eqD_ss, eqD_bb, ordD_ii, ordD_ss, isD_n, isD_bb, isNon, idxD_t, idxD_s, idxD_l, idxD_r, slD_t, slD_s, slD_l, slD_r, lenD_s, lenD_t, lenD_l, lenD_r, absD_i, minD_ii, maxD_ii, intD_i, intD_b, strD_i, tupleD_t, tupleD_r, tupleD_l, listD_t, listD_r, listD_l, sumD_t, sumD_r, anyD_t, anyD_r, allD_t, allD_r, appD_r, extD_r, joinD_r, joinD_t, countD_s, truthD_b, truthD_i, truthD_n, truthD_s, truthD_t, iterD_t, iterD_s, iterD_l, iterD_r, range1D_i, range2D_i, fmtD_s, fmtD_i, List.getElem?_cons_zero, List.getElem?_cons_succ, List.set_cons_zero, List.set_cons_succ, Option.some.injEq, exists_eq_left', exists_eq_left, Option.map_some, Bool.false_xor, Bool.true_xor, put_same, put_put, Ob.lst.injEq, D.int.injEq, D.bl.injEq, D.str.injEq, D.tup.injEq, D.ref.injEq, seqD_t, seqD_l, seqD_r, atI_0, atI_1, atI_2, atI_3, exists_and_left, exists_eq', and_true, true_and, decide_eq_true_eq, cut_1]
        refine ⟨.int (sumIs L dn 0), by rw [vec_cons, List.map_cons, atI_0], ?_⟩
        simp only [addD_ii, addD_ss, addD_tt, subD_ii, mulD_ii, mulD_si, mulD_ti, fdivD_ii, modD_ii, powD_ii, negD_i, eqD_ii, eqD_ss, eqD_bb, ordD_ii, ordD_ss, isD_n, isD_bb, isNon, idxD_t, idxD_s, idxD_l, idxD_r, slD_t, slD_s, slD_l, slD_r, lenD_s, lenD_t, lenD_l, lenD_r, absD_i, minD_ii, maxD_ii, intD_i, intD_b, strD_i, tupleD_t, tupleD_r, tupleD_l, listD_t, listD_r, listD_l, sumD_t, sumD_r, anyD_t, anyD_r, allD_t, allD_r, appD_r, extD_r, joinD_r, joinD_t, countD_s, truthD_b, truthD_i, truthD_n, truthD_s, truthD_t, iterD_t, iterD_s, iterD_l, iterD_r, range1D_i, range2D_i, fmtD_s, fmtD_i]
        refine ⟨by simp, by simp [vec_len]; omega, ?_⟩
        have e : [D.int (sumIs L dn 0 + (chi L w : Int))] ++ ((vec m (sumIs L dn)).map D.int).tail = (vec m fun k => sumIs L dn k + (chi L w : Int) * coef none k).map .int := by
          rw [← vec_head]; simp [List.map_tail]
        rw [e]
        exact fin S1 _ _ _ _ (by rw [encP]) e1 fun k => by rw [sumI]
      | loop f qs =>
        rw [okP] at hy
        obtain ⟨h0, hf, _, _, h4, h5⟩ := hy
        have bq := fun k => sums_bd L h5 (by omega) (by omega) k
        simp only [encP, wpE, wpT, wpA, wpC, wpO, wpI, wpJ, wpP, wpPs, opD, cmpD, biD, mtD, mtTy, addD_ii, addD_ss, addD_tt, subD_ii, mulD_ii, mulD_si, mulD_ti, fdivD_ii, modD_ii, powD_ii, negD_i, eqD_ii, eqD_ss, eqD_bb, ordD_ii, ordD_ss, isD_n, isD_bb, isNon, idxD_t, idxD_s, idxD_l, idxD_r, slD_t, slD_s, slD_l, slD_r, lenD_s, lenD_t, lenD_l, lenD_r, absD_i, minD_ii, maxD_ii, intD_i, intD_b, strD_i, tupleD_t, tupleD_r, tupleD_l, listD_t, listD_r, listD_l, sumD_t, sumD_r, anyD_t, anyD_r, allD_t, allD_r, appD_r, extD_r, joinD_r, joinD_t, countD_s, truthD_b, truthD_i, truthD_n, truthD_s, truthD_t, iterD_t, iterD_s, iterD_l, iterD_r, range1D_i, range2D_i, fmtD_s, fmtD_i, List.getElem?_cons_zero, List.getElem?_cons_succ, List.set_cons_zero, List.set_cons_succ, Option.some.injEq, exists_eq_left', exists_eq_left, Option.map_some, Bool.false_xor, Bool.true_xor, put_same, put_put, Ob.lst.injEq, D.int.injEq, D.bl.injEq, D.str.injEq, D.tup.injEq, D.ref.injEq, seqD_t, seqD_l, seqD_r, atI_0, atI_1, atI_2, atI_3, exists_and_left, exists_eq', and_true, true_and, decide_eq_true_eq]
        rw [if_neg (by decide)]
        unfold ir_summed_b3
        refine st_cons (st_asg ?_)
        simp only [wpE, wpT, wpA, wpC, wpO, wpI, wpJ, wpP, wpPs, opD, cmpD, biD, mtD, mtTy, addD_ii, addD_ss, addD_tt, subD_ii, mulD_ii, mulD_si, mulD_ti, fdivD_ii, modD_ii, powD_ii, negD_i, eqD_ii, eqD_ss, eqD_bb, ordD_ii, ordD_ss, isD_n, isD_bb, isNon, idxD_t, idxD_s, idxD_l, idxD_r, slD_t, slD_s, slD_l, slD_r, lenD_s, lenD_t, lenD_l, lenD_r, absD_i, minD_ii, maxD_ii, intD_i, intD_b, strD_i, tupleD_t, tupleD_r, tupleD_l, listD_t, listD_r, listD_l, sumD_t, sumD_r, anyD_t, anyD_r, allD_t, allD_r, appD_r, extD_r, joinD_r, joinD_t, countD_s, truthD_b, truthD_i, truthD_n, truthD_s, truthD_t, iterD_t, iterD_s, iterD_l, iterD_r, range1D_i, range2D_i, fmtD_s, fmtD_i, List.getElem?_cons_zero, List.getElem?_cons_succ, List.set_cons_zero, List.set_cons_succ, Option.some.injEq, exists_eq_left', exists_eq_left, Option.map_some, Bool.false_xor, Bool.true_xor, put_same, put_put, Ob.lst.injEq, D.int.injEq, D.bl.injEq, D.str.injEq, D.tup.injEq, D.ref.injEq, seqD_t, seqD_l, seqD_r, atI_0, atI_1, atI_2, atI_3, exists_and_left, exists_eq', and_true, true_and, decide_eq_true_eq, tabOf]
        refine ⟨qs, m, d - 1, _, L, rfl, h5, by omega, by omega, hm, by omega, hL, fun S2 e2 => ?_⟩
        unfold ir_summed_b3_1
        refine st_cons (st_asg ?_)
        simp only [wpE, wpT, wpA, wpC, wpO, wpI, wpJ, wpP, wpPs, opD, cmpD, biD, mtD, mtTy, addD_ii, addD_ss, addD_tt, subD_ii, mulD_ii, mulD_si, mulD_ti, fdivD_ii, modD_ii, powD_ii, negD_i, eqD_ii, eqD_ss, eqD_bb, ordD_ii, ordD_ss, isD_n, isD_bb, isNon, idxD_t, idxD_s, idxD_l, idxD_r, slD_t, slD_s, slD_l, slD_r, lenD_s, lenD_t, lenD_l, lenD_r, absD_i, minD_ii, maxD_ii, intD_i, intD_b, strD_i, tupleD_t, tupleD_r, tupleD_l, listD_t, listD_r, listD_l, sumD_t, sumD_r, anyD_t, anyD_r, allD_t, allD_r, appD_r, extD_r, joinD_r, joinD_t, countD_s, truthD_b, truthD_i, truthD_n, truthD_s, truthD_t, iterD_t, iterD_s, iterD_l, iterD_r, range1D_i, range2D_i, fmtD_s, fmtD_i, List.getElem?_cons_zero, List.getElem?_cons_succ, List.set_cons_zero, List.set_cons_succ, Option.some.injEq, exists_eq_left', exists_eq_left, Option.map_some, Bool.false_xor, Bool.true_xor, put_same, put_put, Ob.lst.injEq, D.int.injEq, D.bl.injEq, D.str.injEq, D.tup.injEq, D.ref.injEq, seqD_t, seqD_l, seqD_r, atI_0, atI_1, atI_2, atI_3, exists_and_left, exists_eq', and_true, true_and, decide_eq_true_eq, tabOf]
        refine ⟨f, rfl, ?_⟩
        simp only [addD_ii, addD_ss, addD_tt, subD_ii, mulD_ii, mulD_si, mulD_ti, fdivD_ii, modD_ii, powD_ii, negD_i, eqD_ii, eqD_ss, eqD_bb, ordD_ii, ordD_ss, isD_n, isD_bb, isNon, idxD_t, idxD_s, idxD_l, idxD_r, slD_t, slD_s, slD_l, slD_r, lenD_s, lenD_t, lenD_l, lenD_r, absD_i, minD_ii, maxD_ii, intD_i, intD_b, strD_i, tupleD_t, tupleD_r, tupleD_l, listD_t, listD_r, listD_l, sumD_t, sumD_r, anyD_t, anyD_r, allD_t, allD_r, appD_r, extD_r, joinD_r, joinD_t, countD_s, truthD_b, truthD_i, truthD_n, truthD_s, truthD_t, iterD_t, iterD_s, iterD_l, iterD_r, range1D_i, range2D_i, fmtD_s, fmtD_i]
        obtain ⟨c, r, hfc, hc0, hc9, hrl⟩ := f_head hf
        have hv64 : w64 (vec m (sumIs L qs)) := fun x hx => by
          obtain ⟨k, _, rfl⟩ := List.mem_map.mp hx
          have := bq k; omega
        have hf64 : w64 f := fun x hx => by have := hf.2 x hx; omega
        have plus : ∀ S' (g : Nat → Int), Ext S S' → (∀ k, g k = sumI L (.loop f qs) k) → spPlus [.tup ((vec m (sumIs L dn)).map .int), .tup ((vec m g).map .int)] S' (fun d S1 => N [some (.tup (encPs ps)), some (.int m), some (.str L), some d, some (.tup [.str [108, 111, 111, 112], .tup (f.map .int), .tup (encPs qs)]), v, some (.tup ((vec m (sumIs L qs)).map .int))] S1) := by
          intro S' g e' hg
          refine ⟨_, _, rfl, by rw [vec_len]; omega, fun S6 e6 => ?_⟩
          rw [vec_add]
          exact fin S6 g _ _ _ (by rw [encP]) (e'.trans e6) hg
        cases ho : isOpen f with
        | true =>
          simp only [if_true]
          refine ⟨.int (sumIs L qs 0), by rw [vec_cons, List.map_cons, atI_0], f, _, rfl, hf64, by have := bq 0; omega, by rw [hf.1]; omega, fun S3 e3 => ?_⟩
          have e : f.map (sumIs L qs 0 * ·) = vec m fun k => sumIs L qs 0 * f.getD k 0 := by rw [← vec_map, vec_of hf.1]
          rw [e]
          exact plus S3 _ (e1.trans (e2.trans e3)) fun k => by rw [sumI, if_pos ho]
        | false =>
          simp only [Bool.false_eq_true, if_false]
          refine ⟨.int c, by rw [hfc, List.map_cons, atI_0], vec m (sumIs L qs), c, rfl, hv64, by omega, by rw [vec_len]; omega, fun S3 e3 => ?_⟩
          rw [vec_map]
          exact plus S3 _ (e1.trans (e2.trans e3)) fun k => by rw [sumI, if_neg (by rw [ho]; decide), hfc]; rfl
  · rintro env S1 ⟨u, v, t, dn, rs, hz, hrs, rfl, e1⟩
    cases rs with
    | cons y rs => rw [encPs] at hrs; cases hrs
    | nil =>
      rw [List.append_nil] at hz
      unfold ir_summed_2
      refine st_cons (st_ret ?_)
      simp only [wpE, wpT, wpA, wpC, wpO, wpI, wpJ, wpP, wpPs, opD, cmpD, biD, mtD, mtTy, addD_ii, addD_ss, addD_tt, subD_ii, mulD_ii, mulD_si, mulD_ti, fdivD_ii, modD_ii, powD_ii, negD_i, eqD_ii, eqD_ss, eqD_bb, ordD_ii, ordD_ss, isD_n, isD_bb, isNon, idxD_t, idxD_s, idxD_l, idxD_r, slD_t, slD_s, slD_l, slD_r, lenD_s, lenD_t, lenD_l, lenD_r, absD_i, minD_ii, maxD_ii, intD_i, intD_b, strD_i, tupleD_t, tupleD_r, tupleD_l, listD_t, listD_r, listD_l, sumD_t, sumD_r, anyD_t, anyD_r, allD_t, allD_r, appD_r, extD_r, joinD_r, joinD_t, countD_s, truthD_b, truthD_i, truthD_n, truthD_s, truthD_t, iterD_t, iterD_s, iterD_l, iterD_r, range1D_i, range2D_i, fmtD_s, fmtD_i, List.getElem?_cons_zero, List.getElem?_cons_succ, List.set_cons_zero, List.set_cons_succ, Option.some.injEq, exists_eq_left', exists_eq_left, Option.map_some, Bool.false_xor, Bool.true_xor, put_same, put_put, Ob.lst.injEq, D.int.injEq, D.bl.injEq, D.str.injEq, D.tup.injEq, D.ref.injEq, seqD_t, seqD_l, seqD_r, atI_0, atI_1, atI_2, atI_3, exists_and_left, exists_eq', and_true, true_and, decide_eq_true_eq]
      rw [← hz]
      exact k S1 e1
def spLen : Spec := fun ds S Q => ∃ (m : Nat) (ps : List Pg), ds = [encPg m ps] ∧ OkPg m ps ∧ ∀ S', Ext S S' → Q (.tup ((vec m (mea [] (pcsPs ps))).map .int)) S'
def spLet : Spec := fun ds S Q => ∃ (m : Nat) (ps : List Pg) (c : Nat), ds = [encPg m ps, .str [c]] ∧ OkPg m ps ∧ ∀ S', Ext S S' → Q (.tup ((vec m (mea [c] (pcsPs ps))).map .int)) S'
theorem sums_eq {m : Nat} {ps : List Pg} (h : OkPg m ps) (L : List Nat) : sumIs L ps = mea L (pcsPs ps) := by
  funext k; exact sums_mea L ps 3 true h.ok k
theorem w_length : ∀ ds S Q, spLen ds S Q → wpS (tabOf [("summed", spSummed 4)]) ir_length { nx := fun _ S' => Q .non S', rt := Q } (startD ["program"] ds) S := by
  rintro ds S Q ⟨m, ps, rfl, h, k⟩
  rw [show startD ["program"] [encPg m ps] = [some (encPg m ps)] from rfl]
  unfold ir_length
  refine st_cons (st_ret ?_)
  simp only [encPg, wpE, wpT, wpA, wpC, wpO, wpI, wpJ, wpP, wpPs, opD, cmpD, biD, mtD, mtTy, addD_ii, addD_ss, addD_tt, subD_ii, mulD_ii, mulD_si, mulD_ti, fdivD_ii, modD_ii, powD_ii, negD_i, eqD_ii, eqD_ss, eqD_bb, ordD_ii, ordD_ss, isD_n, isD_bb, isNon, idxD_t, idxD_s, idxD_l, idxD_r, slD_t, slD_s, slD_l, slD_r, lenD_s, lenD_t, lenD_l, lenD_r, absD_i, minD_ii, maxD_ii, intD_i, intD_b, strD_i, tupleD_t, tupleD_r, tupleD_l, listD_t, listD_r, listD_l, sumD_t, sumD_r, anyD_t, anyD_r, allD_t, allD_r, appD_r, extD_r, joinD_r, joinD_t, countD_s, truthD_b, truthD_i, truthD_n, truthD_s, truthD_t, iterD_t, iterD_s, iterD_l, iterD_r, range1D_i, range2D_i, fmtD_s, fmtD_i, List.getElem?_cons_zero, List.getElem?_cons_succ, List.set_cons_zero, List.set_cons_succ, Option.some.injEq, exists_eq_left', exists_eq_left, Option.map_some, Bool.false_xor, Bool.true_xor, put_same, put_put, Ob.lst.injEq, D.int.injEq, D.bl.injEq, D.str.injEq, D.tup.injEq, D.ref.injEq, seqD_t, seqD_l, seqD_r, atI_0, atI_1, atI_2, atI_3, exists_and_left, exists_eq', and_true, true_and, decide_eq_true_eq, tabOf]
  exact ⟨ps, m, 3, true, [], rfl, h.ok, by decide, by decide, h.m3, h.len, .inl rfl, fun S' e => by rw [sums_eq h]; exact k S' e⟩
theorem w_letters : ∀ ds S Q, spLet ds S Q → wpS (tabOf [("summed", spSummed 4)]) ir_letters { nx := fun _ S' => Q .non S', rt := Q } (startD ["program", "letter"] ds) S := by
  rintro ds S Q ⟨m, ps, c, rfl, h, k⟩
  rw [show startD ["program", "letter"] [encPg m ps, .str [c]] = [some (encPg m ps), some (.str [c])] from rfl]
  unfold ir_letters
  refine st_cons (st_ret ?_)
  simp only [encPg, wpE, wpT, wpA, wpC, wpO, wpI, wpJ, wpP, wpPs, opD, cmpD, biD, mtD, mtTy, addD_ii, addD_ss, addD_tt, subD_ii, mulD_ii, mulD_si, mulD_ti, fdivD_ii, modD_ii, powD_ii, negD_i, eqD_ii, eqD_ss, eqD_bb, ordD_ii, ordD_ss, isD_n, isD_bb, isNon, idxD_t, idxD_s, idxD_l, idxD_r, slD_t, slD_s, slD_l, slD_r, lenD_s, lenD_t, lenD_l, lenD_r, absD_i, minD_ii, maxD_ii, intD_i, intD_b, strD_i, tupleD_t, tupleD_r, tupleD_l, listD_t, listD_r, listD_l, sumD_t, sumD_r, anyD_t, anyD_r, allD_t, allD_r, appD_r, extD_r, joinD_r, joinD_t, countD_s, truthD_b, truthD_i, truthD_n, truthD_s, truthD_t, iterD_t, iterD_s, iterD_l, iterD_r, range1D_i, range2D_i, fmtD_s, fmtD_i, List.getElem?_cons_zero, List.getElem?_cons_succ, List.set_cons_zero, List.set_cons_succ, Option.some.injEq, exists_eq_left', exists_eq_left, Option.map_some, Bool.false_xor, Bool.true_xor, put_same, put_put, Ob.lst.injEq, D.int.injEq, D.bl.injEq, D.str.injEq, D.tup.injEq, D.ref.injEq, seqD_t, seqD_l, seqD_r, atI_0, atI_1, atI_2, atI_3, exists_and_left, exists_eq', and_true, true_and, decide_eq_true_eq, tabOf]
  exact ⟨ps, m, 3, true, [c], rfl, h.ok, by decide, by decide, h.m3, h.len, .inr ⟨c, rfl⟩, fun S' e => by rw [sums_eq h]; exact k S' e⟩
end G57
set_option Elab.async false
set_option linter.all false
set_option maxRecDepth 100000
set_option maxHeartbeats 400000
namespace G57
open PySem L2
/-! measure -/
def ir_l_measure_b2 : Sx := .cons (.set (.var 3) (.var 7) (.bin .Add (.idx (.var 3) (.var 7)) (.bin .Mult (.var 6) (.ite (.cmp .Is (.var 5) (.con .non)) (.bi .int (.cons (.cmp .Eq (.var 7) (.con (.int 0))) (.nil))) (.idx (.var 5) (.var 7)))))) .nil
def ir_l_measure_b1_1 : Sx := .cons (.loop (.v 7) (.iR1 (.bin .Add (.var 1) (.con (.int 1)))) (ir_l_measure_b2)) .nil
def ir_l_measure_b1 : Sx := .cons (.asg (.v 6) (.ite (.cmp .Eq (.var 2) (.con (.str []))) (.bi .len (.cons (.var 4) (.nil))) (.mt .count (.var 4) (.cons (.var 2) (.nil))))) ir_l_measure_b1_1
def ir_l_measure_2 : Sx := .cons (.ret (.bi .tuple (.cons (.var 3) (.nil)))) .nil
def ir_l_measure_1 : Sx := .cons (.loop (.t (.cons (.v 4) (.cons (.v 5) (.nil)))) (.iE (.call 0 (.cons (.var 0) (.nil)))) (ir_l_measure_b1)) ir_l_measure_2
def ir_l_measure : Sx := .cons (.asg (.v 3) (.bin .Mult (.lst (.cons (.con (.int 0)) (.nil))) (.bin .Add (.var 1) (.con (.int 1))))) ir_l_measure_1
def ir_l_text_b2_1 : Sx := .cons (.ex (.mt .append (.var 2) (.cons (.ite (.cmp .NotEq (.var 5) (.con (.str []))) (.bin .Mult (.var 5) (.var 4)) (.con (.str []))) (.nil)))) .nil
def ir_l_text_b2 : Sx := .cons (.asg (.v 5) (.ite (.cmp .Eq (.idx (.var 3) (.con (.int 0))) (.con (.str [116, 101, 120, 116]))) (.idx (.var 3) (.con (.int 1))) (.call 1 (.cons (.idx (.var 3) (.con (.int 2))) (.cons (.var 1) (.nil)))))) ir_l_text_b2_1
def ir_l_text_b1_1 : Sx := .cons (.iff (.cmp .Gt (.var 4) (.con (.int 0))) (ir_l_text_b2) (.nil)) .nil
def ir_l_text_b1 : Sx := .cons (.asg (.v 4) (.ite (.cmp .Eq (.idx (.var 3) (.con (.int 0))) (.con (.str [116, 101, 120, 116]))) (.con (.int 1)) (.call 0 (.cons (.idx (.var 3) (.con (.int 1))) (.cons (.var 1) (.nil)))))) ir_l_text_b1_1
def ir_l_text_2 : Sx := .cons (.ret (.mt .join (.con (.str [])) (.cons (.var 2) (.nil)))) .nil
def ir_l_text_1 : Sx := .cons (.loop (.v 3) (.iE (.var 0)) (ir_l_text_b1)) ir_l_text_2
def ir_l_text : Sx := .cons (.asg (.v 2) (.lst (.nil))) ir_l_text_1
def ups (j n : Nat) : List D := (List.range' j n).map fun i => D.int (i : Nat)
theorem rng_ups (n : Nat) : rngD 0 (n : Int) = ups 0 n := by
  unfold rngD ups
  rw [List.range_eq_range']
  congr 1
  · funext i; simp
theorem ups_succ (j n : Nat) : ups j (n + 1) = .int (j : Nat) :: ups (j + 1) n := by simp [ups, List.range'_succ]
theorem ups_len (j n : Nat) : (ups j n).length = n := by simp [ups]
/-- g, with t added ahead of place j -/
def mid (g t : Nat → Int) (j k : Nat) : Int := if k < j then g k + t k else g k
theorem mid_0 (g t : Nat → Int) : mid g t 0 = g := by funext k; simp [mid]
theorem mid_end (m : Nat) (g t : Nat → Int) : vec m (mid g t (m + 1)) = vec m fun k => g k + t k := by
  unfold vec
  apply List.map_congr_left
  intro k hk
  have := List.mem_range.mp hk
  simp only [mid]
  rw [if_pos this]
theorem vec_get {m j : Nat} (g : Nat → Int) (h : j < m + 1) : (vec m g)[j]? = some (g j) := by
  unfold vec
  rw [List.getElem?_map, List.getElem?_range h]; rfl
theorem mid_set {m j : Nat} (g t : Nat → Int) (h : j < m + 1) : (vec m (mid g t j)).set j (g j + t j) = vec m (mid g t (j + 1)) := by
  apply List.ext_getElem?
  intro i
  by_cases hi : i < m + 1
  · rw [vec_get _ hi]
    by_cases hj : j = i
    · subst hj
      rw [List.getElem?_set_self (by rw [vec_len]; exact h)]
      simp [mid]
    · rw [List.getElem?_set_ne hj, vec_get _ hi]
      simp only [mid]
      congr 1
      by_cases h1 : i < j
      · rw [if_pos h1, if_pos (by omega)]
      · rw [if_neg h1, if_neg (by omega)]
  · rw [List.getElem?_eq_none (by rw [List.length_set, vec_len]; omega), List.getElem?_eq_none (by rw [vec_len]; omega)]
def spMeas : Spec := fun ds S Q => ∃ (ps : List Pg) (m : Nat) (L : List Nat), ds = [.tup (encPs ps), .int m, .str L] ∧ OkPg m ps ∧ sgn L ∧ ∀ S', Ext S S' → Q (.tup ((vec m (mea L (pcsPs ps))).map .int)) S'
theorem at_int {xs : List Int} {j : Nat} {x : Int} (h : xs[j]? = some x) : atI (xs.map D.int) (j : Int) = some (.int x) := by
  rw [atI_n (n := j) rfl, List.getElem?_map, h]; rfl
theorem w_measure : ∀ ds S Q, spMeas ds S Q → wpS (tabOf [("_law_pieces", spPieces 4)]) ir_l_measure { nx := fun _ S' => Q .non S', rt := Q } (startD ["_law_parts", "_law_many", "_law_sign", "_law_found", "_law_some", "_law_shape", "_law_size", "_law_k"] ds) S := by
  rintro ds S Q ⟨ps, m, L, rfl, ok, hL, k⟩
  rw [show startD ["_law_parts", "_law_many", "_law_sign", "_law_found", "_law_some", "_law_shape", "_law_size", "_law_k"] [.tup (encPs ps), .int m, .str L] = [some (.tup (encPs ps)), some (.int m), some (.str L), none, none, none, none, none] from rfl]
  have hm := ok.m3
  have bd := pcss_bd ps 3 true ok.ok
  have hbl : (pcsPs ps).length ≤ 5 * 216 := Nat.le_trans bd.1 (Nat.mul_le_mul ok.len (by decide))
  have hbn : letN (pcsPs ps) ≤ 5 * (4 * 216) := Nat.le_trans bd.2 (Nat.mul_le_mul ok.len (by decide))
  have hoks := pcss_ok ps 3 true ok.ok
  unfold ir_l_measure
  refine st_cons (st_asg ?_)
  simp only [wpE, wpT, wpA, wpC, wpO, wpI, wpJ, wpP, wpPs, opD, cmpD, biD, mtD, mtTy, addD_ii, addD_ss, addD_tt, subD_ii, mulD_ii, mulD_si, mulD_ti, fdivD_ii, modD_ii, powD_ii, negD_i, eqD_ii, eqD_ss, eqD_bb, ordD_ii, ordD_ss, isD_n, isD_bb, isNon, idxD_t, idxD_s, idxD_l, idxD_r, slD_t, slD_s, slD_l, slD_r, lenD_s, lenD_t, lenD_l, lenD_r, absD_i, minD_ii, maxD_ii, intD_i, intD_b, strD_i, tupleD_t, tupleD_r, tupleD_l, listD_t, listD_r, listD_l, sumD_t, sumD_r, anyD_t, anyD_r, allD_t, allD_r, appD_r, extD_r, joinD_r, joinD_t, countD_s, truthD_b, truthD_i, truthD_n, truthD_s, truthD_t, iterD_t, iterD_s, iterD_l, iterD_r, range1D_i, range2D_i, fmtD_s, fmtD_i, List.getElem?_cons_zero, List.getElem?_cons_succ, List.set_cons_zero, List.set_cons_succ, Option.some.injEq, exists_eq_left', exists_eq_left, Option.map_some, Bool.false_xor, Bool.true_xor, put_same, put_put, Ob.lst.injEq, D.int.injEq, D.bl.injEq, D.str.injEq, D.tup.injEq, D.ref.injEq, seqD_t, seqD_l, seqD_r, atI_0, atI_1, atI_2, atI_3, exists_and_left, exists_eq', and_true, true_and, decide_eq_true_eq, tabOf]
  refine ⟨by simp, fun r1 f1 => ?_⟩
  rw [mulD_ri]
  refine ⟨_, put_same, by omega, by omega, by simp; omega, fun a fa => ?_⟩
  have hz : (List.replicate ((m : Int) + 1).toNat [D.int 0]).flatten = (vec m fun _ => 0).map .int := by
    rw [show ((m : Int) + 1).toNat = m + 1 by omega, rep1, vec_zero]
  rw [hz]
  have fa0 : S a = none := (Ext.put f1).fresh fa
  have E1 : Ext S (put (put S r1 (.lst [.int 0])) a (.lst ((vec m fun _ => 0).map .int))) := (Ext.put f1).trans (Ext.put fa)
  unfold ir_l_measure_1
  refine st_cons (st_loop ?_)
  simp only [wpE, wpT, wpA, wpC, wpO, wpI, wpJ, wpP, wpPs, opD, cmpD, biD, mtD, mtTy, addD_ii, addD_ss, addD_tt, subD_ii, mulD_ii, mulD_si, mulD_ti, fdivD_ii, modD_ii, powD_ii, negD_i, eqD_ii, eqD_ss, eqD_bb, ordD_ii, ordD_ss, isD_n, isD_bb, isNon, idxD_t, idxD_s, idxD_l, idxD_r, slD_t, slD_s, slD_l, slD_r, lenD_s, lenD_t, lenD_l, lenD_r, absD_i, minD_ii, maxD_ii, intD_i, intD_b, strD_i, tupleD_t, tupleD_r, tupleD_l, listD_t, listD_r, listD_l, sumD_t, sumD_r, anyD_t, anyD_r, allD_t, allD_r, appD_r, extD_r, joinD_r, joinD_t, countD_s, truthD_b, truthD_i, truthD_n, truthD_s, truthD_t, iterD_t, iterD_s, iterD_l, iterD_r, range1D_i, range2D_i, fmtD_s, fmtD_i, List.getElem?_cons_zero, List.getElem?_cons_succ, List.set_cons_zero, List.set_cons_succ, Option.some.injEq, exists_eq_left', exists_eq_left, Option.map_some, Bool.false_xor, Bool.true_xor, put_same, put_put, Ob.lst.injEq, D.int.injEq, D.bl.injEq, D.str.injEq, D.tup.injEq, D.ref.injEq, seqD_t, seqD_l, seqD_r, atI_0, atI_1, atI_2, atI_3, exists_and_left, exists_eq', and_true, true_and, decide_eq_true_eq, tabOf]
  refine ⟨ps, m, 3, true, rfl, ok.ok, by decide, by decide, ok.len, fun S2 c fc e2 ec => ?_⟩
  have nac : a ≠ c := ne_fresh put_same fc
  have fc0 : S c = none := E1.fresh fc
  have E2 : Ext S S2 := E1.trans e2
  have ea2 := e2 _ _ (put_same (S := put S r1 (.lst [.int 0])) (a := a) (o := .lst ((vec m fun _ => 0).map .int)))
  simp only [addD_ii, addD_ss, addD_tt, subD_ii, mulD_ii, mulD_si, mulD_ti, fdivD_ii, modD_ii, powD_ii, negD_i, eqD_ii, eqD_ss, eqD_bb, ordD_ii, ordD_ss, isD_n, isD_bb, isNon, idxD_t, idxD_s, idxD_l, idxD_r, slD_t, slD_s, slD_l, slD_r, lenD_s, lenD_t, lenD_l, lenD_r, absD_i, minD_ii, maxD_ii, intD_i, intD_b, strD_i, tupleD_t, tupleD_r, tupleD_l, listD_t, listD_r, listD_l, sumD_t, sumD_r, anyD_t, anyD_r, allD_t, allD_r, appD_r, extD_r, joinD_r, joinD_t, countD_s, truthD_b, truthD_i, truthD_n, truthD_s, truthD_t, iterD_t, iterD_s, iterD_l, iterD_r, range1D_i, range2D_i, fmtD_s, fmtD_i]
  refine ⟨_, ec, ?_⟩
  refine for_inv (fun rest env S' => ∃ (x y z t : Option D) (dn rs : List Pc), pcsPs ps = dn ++ rs ∧ rest = rs.map encPc ∧ env = [some (.tup (encPs ps)), some (.int m), some (.str L), some (.ref a), x, y, z, t] ∧ Ext S S' ∧ S' a = some (.lst ((vec m (mea L dn)).map .int)) ∧ S' c = some (.lst ((pcsPs ps).map encPc))) _ _ _
    ⟨none, none, none, none, [], pcsPs ps, rfl, rfl, rfl, E2, ea2, ec⟩ ?_ (fun r env S' h => by obtain ⟨_, _, _, _, _, _, _, _, _, _, _, h⟩ := h; exact h) ?_
  · rintro x rest env S3 N ⟨u, v, t, t2, dn, rs, hz, hrs, rfl, e3, ea, ec3⟩ hN
    cases rs with
    | nil => cases hrs
    | cons y rs =>
      rw [List.map_cons] at hrs
      obtain ⟨rfl, rfl⟩ := List.cons.inj hrs
      obtain ⟨w, g⟩ := y
      have hmem : (w, g) ∈ pcsPs ps := by rw [hz]; simp
      have hw : w.length ≤ letN (pcsPs ps) := word_le hmem
      have hz' : pcsPs ps = (dn ++ [(w, g)]) ++ rs := by rw [hz]; simp
      have hg := hoks _ hmem
      obtain ⟨D5, hD5⟩ : ∃ D5, encPc (w, g) = .tup [.str w, D5] ∧ (match g with | none => D5 = .non | some f => D5 = .tup (f.map .int)) := by
        cases g with
        | none => exact ⟨.non, rfl, rfl⟩
        | some f => exact ⟨_, rfl, rfl⟩
      rw [hD5.1]
      simp only [wpE, wpT, wpA, wpC, wpO, wpI, wpJ, wpP, wpPs, opD, cmpD, biD, mtD, mtTy, addD_ii, addD_ss, addD_tt, subD_ii, mulD_ii, mulD_si, mulD_ti, fdivD_ii, modD_ii, powD_ii, negD_i, eqD_ii, eqD_ss, eqD_bb, ordD_ii, ordD_ss, isD_n, isD_bb, isNon, idxD_t, idxD_s, idxD_l, idxD_r, slD_t, slD_s, slD_l, slD_r, lenD_s, lenD_t, lenD_l, lenD_r, absD_i, minD_ii, maxD_ii, intD_i, intD_b, strD_i, tupleD_t, tupleD_r, tupleD_l, listD_t, listD_r, listD_l, sumD_t, sumD_r, anyD_t, anyD_r, allD_t, allD_r, appD_r, extD_r, joinD_r, joinD_t, countD_s, truthD_b, truthD_i, truthD_n, truthD_s, truthD_t, iterD_t, iterD_s, iterD_l, iterD_r, range1D_i, range2D_i, fmtD_s, fmtD_i, List.getElem?_cons_zero, List.getElem?_cons_succ, List.set_cons_zero, List.set_cons_succ, Option.some.injEq, exists_eq_left', exists_eq_left, Option.map_some, Bool.false_xor, Bool.true_xor, put_same, put_put, Ob.lst.injEq, D.int.injEq, D.bl.injEq, D.str.injEq, D.tup.injEq, D.ref.injEq, seqD_t, seqD_l, seqD_r, atI_0, atI_1, atI_2, atI_3, exists_and_left, exists_eq', and_true, true_and, decide_eq_true_eq]
      unfold ir_l_measure_b1
      refine st_cons (st_asg ?_)
      refine w_chi (w := w) (L := L) hL (by omega) (fun Q h => ?_) (fun Q h => ?_) ?_
      · simp only [wpE, wpT, wpA, wpC, wpO, wpI, wpJ, wpP, wpPs, opD, cmpD, biD, mtD, mtTy, addD_ii, addD_ss, addD_tt, subD_ii, mulD_ii, mulD_si, mulD_ti, fdivD_ii, modD_ii, powD_ii, negD_i, eqD_ii, eqD_ss, eqD_bb, ordD_ii, ordD_ss, isD_n, isD_bb, isNon, idxD_t, idxD_s, idxD_l, idxD_r, slD_t, slD_s, slD_l, slD_r, lenD_s, lenD_t, lenD_l, lenD_r, absD_i, minD_ii, maxD_ii, intD_i, intD_b, strD_i, tupleD_t, tupleD_r, tupleD_l, listD_t, listD_r, listD_l, sumD_t, sumD_r, anyD_t, anyD_r, allD_t, allD_r, appD_r, extD_r, joinD_r, joinD_t, countD_s, truthD_b, truthD_i, truthD_n, truthD_s, truthD_t, iterD_t, iterD_s, iterD_l, iterD_r, range1D_i, range2D_i, fmtD_s, fmtD_i, List.getElem?_cons_zero, List.getElem?_cons_succ, List.set_cons_zero, List.set_cons_succ, Option.some.injEq, exists_eq_left', exists_eq_left, Option.map_some, Bool.false_xor, Bool.true_xor, put_same, put_put, Ob.lst.injEq, D.int.injEq, D.bl.injEq, D.str.injEq, D.tup.injEq, D.ref.injEq, seqD_t, seqD_l, seqD_r, atI_0, atI_1, atI_2, atI_3, exists_and_left, exists_eq', and_true, true_and, decide_eq_true_eq]; exact h
      · simp only [wpE, wpT, wpA, wpC, wpO, wpI, wpJ, wpP, wpPs, opD, cmpD, biD, mtD, mtTy, addD_ii, addD_ss, addD_tt, subD_ii, mulD_ii, mulD_si, mulD_ti, fdivD_ii, modD_ii, powD_ii, negD_i, eqD_ii, eqD_ss, eqD_bb, ordD_ii, ordD_ss, isD_n, isD_bb, isNon, idxD_t, idxD_s, idxD_l, idxD_r, slD_t, slD_s, slD_l, slD_r, lenD_s, lenD_t, lenD_l, lenD_r, absD_i, minD_ii, maxD_ii, intD_i, intD_b, strD_i, tupleD_t, tupleD_r, tupleD_l, listD_t, listD_r, listD_l, sumD_t, sumD_r, anyD_t, anyD_r, allD_t, allD_r, appD_r, extD_r, joinD_r, joinD_t, countD_s, truthD_b, truthD_i, truthD_n, truthD_s, truthD_t, iterD_t, iterD_s, iterD_l, iterD_r, range1D_i, range2D_i, fmtD_s, fmtD_i, List.getElem?_cons_zero, List.getElem?_cons_succ, List.set_cons_zero, List.set_cons_succ, Option.some.injEq, exists_eq_left', exists_eq_left, Option.map_some, Bool.false_xor, Bool.true_xor, put_same, put_put, Ob.lst.injEq, D.int.injEq, D.bl.injEq, D.str.injEq, D.tup.injEq, D.ref.injEq, seqD_t, seqD_l, seqD_r, atI_0, atI_1, atI_2, atI_3, exists_and_left, exists_eq', and_true, true_and, decide_eq_true_eq]; exact h
      simp only [wpE, wpT, wpA, wpC, wpO, wpI, wpJ, wpP, wpPs, opD, cmpD, biD, mtD, mtTy, addD_ii, addD_ss, addD_tt, subD_ii, mulD_ii, mulD_si, mulD_ti, fdivD_ii, modD_ii, powD_ii, negD_i, eqD_ii, eqD_ss, eqD_bb, ordD_ii, ordD_ss, isD_n, isD_bb, isNon, idxD_t, idxD_s, idxD_l, idxD_r, slD_t, slD_s, slD_l, slD_r, lenD_s, lenD_t, lenD_l, lenD_r, absD_i, minD_ii, maxD_ii, intD_i, intD_b, strD_i, tupleD_t, tupleD_r, tupleD_l, listD_t, listD_r, listD_l, sumD_t, sumD_r, anyD_t, anyD_r, allD_t, allD_r, appD_r, extD_r, joinD_r, joinD_t, countD_s, truthD_b, truthD_i, truthD_n, truthD_s, truthD_t, iterD_t, iterD_s, iterD_l, iterD_r, range1D_i, range2D_i, fmtD_s, fmtD_i, List.getElem?_cons_zero, List.getElem?_cons_succ, List.set_cons_zero, List.set_cons_succ, Option.some.injEq, exists_eq_left', exists_eq_left, Option.map_some, Bool.false_xor, Bool.true_xor, put_same, put_put, Ob.lst.injEq, D.int.injEq, D.bl.injEq, D.str.injEq, D.tup.injEq, D.ref.injEq, seqD_t, seqD_l, seqD_r, atI_0, atI_1, atI_2, atI_3, exists_and_left, exists_eq', and_true, true_and, decide_eq_true_eq]
      unfold ir_l_measure_b1_1
      refine st_cons (st_loop ?_)
      simp only [wpE, wpT, wpA, wpC, wpO, wpI, wpJ, wpP, wpPs, opD, cmpD, biD, mtD, mtTy, addD_ii, addD_ss, addD_tt, subD_ii, mulD_ii, mulD_si, mulD_ti, fdivD_ii, modD_ii, powD_ii, negD_i, eqD_ii, eqD_ss, eqD_bb, ordD_ii, ordD_ss, isD_n, isD_bb, isNon, idxD_t, idxD_s, idxD_l, idxD_r, slD_t, slD_s, slD_l, slD_r, lenD_s, lenD_t, lenD_l, lenD_r, absD_i, minD_ii, maxD_ii, intD_i, intD_b, strD_i, tupleD_t, tupleD_r, tupleD_l, listD_t, listD_r, listD_l, sumD_t, sumD_r, anyD_t, anyD_r, allD_t, allD_r, appD_r, extD_r, joinD_r, joinD_t, countD_s, truthD_b, truthD_i, truthD_n, truthD_s, truthD_t, iterD_t, iterD_s, iterD_l, iterD_r, range1D_i, range2D_i, fmtD_s, fmtD_i, List.getElem?_cons_zero, List.getElem?_cons_succ, List.set_cons_zero, List.set_cons_succ, Option.some.injEq, exists_eq_left', exists_eq_left, Option.map_some, Bool.false_xor, Bool.true_xor, put_same, put_put, Ob.lst.injEq, D.int.injEq, D.bl.injEq, D.str.injEq, D.tup.injEq, D.ref.injEq, seqD_t, seqD_l, seqD_r, atI_0, atI_1, atI_2, atI_3, exists_and_left, exists_eq', and_true, true_and, decide_eq_true_eq, tabOf]
      refine ⟨small_of (by omega) (by omega), ?_⟩
      rw [show ((m : Int) + 1) = ((m + 1 : Nat) : Int) from rfl, rng_ups]
      refine for_inv (fun rest env S' => ∃ (t : Option D) (j n : Nat), rest = ups j n ∧ j + n = m + 1 ∧ env = [some (.tup (encPs ps)), some (.int m), some (.str L), some (.ref a), some (.str w), some D5, some (.int (chi L w)), t] ∧ Ext S S' ∧ S' a = some (.lst ((vec m (mid (mea L dn) (fun k => (chi L w : Int) * coef g k) j)).map .int)) ∧ S' c = some (.lst ((pcsPs ps).map encPc))) _ _ _
        ⟨t2, 0, m + 1, rfl, by omega, rfl, e3, by rw [mid_0]; exact ea, ec3⟩ ?_ (fun _ _ _ _ => trivial) ?_
      · rintro x rest env S4 N' ⟨t3, j, n, hr, hj, rfl, e4, ea4, ec4⟩ hN'
        cases n with
        | zero => rw [show ups j 0 = [] from rfl] at hr; cases hr
        | succ n =>
          rw [ups_succ] at hr
          obtain ⟨rfl, rfl⟩ := List.cons.inj hr
          have hjm : j < m + 1 := by omega
          simp only [wpE, wpT, wpA, wpC, wpO, wpI, wpJ, wpP, wpPs, opD, cmpD, biD, mtD, mtTy, addD_ii, addD_ss, addD_tt, subD_ii, mulD_ii, mulD_si, mulD_ti, fdivD_ii, modD_ii, powD_ii, negD_i, eqD_ii, eqD_ss, eqD_bb, ordD_ii, ordD_ss, isD_n, isD_bb, isNon, idxD_t, idxD_s, idxD_l, idxD_r, slD_t, slD_s, slD_l, slD_r, lenD_s, lenD_t, lenD_l, lenD_r, absD_i, minD_ii, maxD_ii, intD_i, intD_b, strD_i, tupleD_t, tupleD_r, tupleD_l, listD_t, listD_r, listD_l, sumD_t, sumD_r, anyD_t, anyD_r, allD_t, allD_r, appD_r, extD_r, joinD_r, joinD_t, countD_s, truthD_b, truthD_i, truthD_n, truthD_s, truthD_t, iterD_t, iterD_s, iterD_l, iterD_r, range1D_i, range2D_i, fmtD_s, fmtD_i, List.getElem?_cons_zero, List.getElem?_cons_succ, List.set_cons_zero, List.set_cons_succ, Option.some.injEq, exists_eq_left', exists_eq_left, Option.map_some, Bool.false_xor, Bool.true_xor, put_same, put_put, Ob.lst.injEq, D.int.injEq, D.bl.injEq, D.str.injEq, D.tup.injEq, D.ref.injEq, seqD_t, seqD_l, seqD_r, atI_0, atI_1, atI_2, atI_3, exists_and_left, exists_eq', and_true, true_and, decide_eq_true_eq]
          unfold ir_l_measure_b2
          refine st_cons (st_set ?_)
          simp only [wpE, wpT, wpA, wpC, wpO, wpI, wpJ, wpP, wpPs, opD, cmpD, biD, mtD, mtTy, addD_ii, addD_ss, addD_tt, subD_ii, mulD_ii, mulD_si, mulD_ti, fdivD_ii, modD_ii, powD_ii, negD_i, eqD_ii, eqD_ss, eqD_bb, ordD_ii, ordD_ss, isD_n, isD_bb, isNon, idxD_t, idxD_s, idxD_l, idxD_r, slD_t, slD_s, slD_l, slD_r, lenD_s, lenD_t, lenD_l, lenD_r, absD_i, minD_ii, maxD_ii, intD_i, intD_b, strD_i, tupleD_t, tupleD_r, tupleD_l, listD_t, listD_r, listD_l, sumD_t, sumD_r, anyD_t, anyD_r, allD_t, allD_r, appD_r, extD_r, joinD_r, joinD_t, countD_s, truthD_b, truthD_i, truthD_n, truthD_s, truthD_t, iterD_t, iterD_s, iterD_l, iterD_r, range1D_i, range2D_i, fmtD_s, fmtD_i, List.getElem?_cons_zero, List.getElem?_cons_succ, List.set_cons_zero, List.set_cons_succ, Option.some.injEq, exists_eq_left', exists_eq_left, Option.map_some, Bool.false_xor, Bool.true_xor, put_same, put_put, Ob.lst.injEq, D.int.injEq, D.bl.injEq, D.str.injEq, D.tup.injEq, D.ref.injEq, seqD_t, seqD_l, seqD_r, atI_0, atI_1, atI_2, atI_3, exists_and_left, exists_eq', and_true, true_and, decide_eq_true_eq, ea4]
          have hget : (vec m (mid (mea L dn) (fun k => (chi L w : Int) * coef g k) j))[j]? = some (mea L dn j) := by
            rw [vec_get _ hjm]; simp [mid]
          refine ⟨_, at_int hget, ?_⟩
          have cb : 0 ≤ coef g j ∧ coef g j ≤ 99 := coef_bd hg j
          have hchi := chi_le L w
          have fin : ∀ z : Int, z = coef g j → mulD (.int (chi L w : Nat)) (.int z) S4 (fun y S2 => addD (.int (mea L dn j)) y S2 fun d S1 => setD (.ref a) (.int (j : Nat)) d S1 fun S4 => N' [some (.tup (encPs ps)), some (.int m), some (.str L), some (.ref a), some (.str w), some D5, some (.int (chi L w)), some (.int (j : Nat))] S4) := by
            rintro z rfl
            simp only [addD_ii, addD_ss, addD_tt, subD_ii, mulD_ii, mulD_si, mulD_ti, fdivD_ii, modD_ii, powD_ii, negD_i, eqD_ii, eqD_ss, eqD_bb, ordD_ii, ordD_ss, isD_n, isD_bb, isNon, idxD_t, idxD_s, idxD_l, idxD_r, slD_t, slD_s, slD_l, slD_r, lenD_s, lenD_t, lenD_l, lenD_r, absD_i, minD_ii, maxD_ii, intD_i, intD_b, strD_i, tupleD_t, tupleD_r, tupleD_l, listD_t, listD_r, listD_l, sumD_t, sumD_r, anyD_t, anyD_r, allD_t, allD_r, appD_r, extD_r, joinD_r, joinD_t, countD_s, truthD_b, truthD_i, truthD_n, truthD_s, truthD_t, iterD_t, iterD_s, iterD_l, iterD_r, range1D_i, range2D_i, fmtD_s, fmtD_i]
            refine ⟨cmul_of (by omega) (by omega), ?_⟩
            refine setD_of (n := j) ea4 (by unfold ixN; rw [List.length_map, vec_len, if_pos (by omega), if_pos (by omega)]; rfl) ?_
            refine hN' _ _ ⟨_, j + 1, n, rfl, by omega, rfl, e4.write fa0, ?_, by rw [put_ne nac.symm]; exact ec4⟩
            rw [put_same, ← mid_set _ _ hjm, List.map_set]
          cases g with
          | none =>
            have h5 := hD5.2
            simp only at h5
            subst h5
            simp only [isNon, if_true, addD_ii, addD_ss, addD_tt, subD_ii, mulD_ii, mulD_si, mulD_ti, fdivD_ii, modD_ii, powD_ii, negD_i, eqD_ii, eqD_ss, eqD_bb, ordD_ii, ordD_ss, isD_n, isD_bb, isNon, idxD_t, idxD_s, idxD_l, idxD_r, slD_t, slD_s, slD_l, slD_r, lenD_s, lenD_t, lenD_l, lenD_r, absD_i, minD_ii, maxD_ii, intD_i, intD_b, strD_i, tupleD_t, tupleD_r, tupleD_l, listD_t, listD_r, listD_l, sumD_t, sumD_r, anyD_t, anyD_r, allD_t, allD_r, appD_r, extD_r, joinD_r, joinD_t, countD_s, truthD_b, truthD_i, truthD_n, truthD_s, truthD_t, iterD_t, iterD_s, iterD_l, iterD_r, range1D_i, range2D_i, fmtD_s, fmtD_i]
            refine fin _ ?_
            simp only [coef]
            by_cases h0 : j = 0
            · subst h0; simp
            · rw [if_neg h0]; simp [h0]
          | some f =>
            have h5 := hD5.2
            simp only at h5
            subst h5
            simp only [isNon, Bool.false_eq_true, if_false, addD_ii, addD_ss, addD_tt, subD_ii, mulD_ii, mulD_si, mulD_ti, fdivD_ii, modD_ii, powD_ii, negD_i, eqD_ii, eqD_ss, eqD_bb, ordD_ii, ordD_ss, isD_n, isD_bb, isNon, idxD_t, idxD_s, idxD_l, idxD_r, slD_t, slD_s, slD_l, slD_r, lenD_s, lenD_t, lenD_l, lenD_r, absD_i, minD_ii, maxD_ii, intD_i, intD_b, strD_i, tupleD_t, tupleD_r, tupleD_l, listD_t, listD_r, listD_l, sumD_t, sumD_r, anyD_t, anyD_r, allD_t, allD_r, appD_r, extD_r, joinD_r, joinD_t, countD_s, truthD_b, truthD_i, truthD_n, truthD_s, truthD_t, iterD_t, iterD_s, iterD_l, iterD_r, range1D_i, range2D_i, fmtD_s, fmtD_i]
            simp only [okPc] at hg
            refine ⟨.int (f.getD j 0), at_int ?_, fin _ rfl⟩
            rw [List.getD_eq_getElem?_getD, List.getElem?_eq_getElem (by rw [hg.1]; exact hjm)]; rfl
      · rintro env S4 ⟨t3, j, n, hr, hj, rfl, e4, ea4, ec4⟩
        cases n with
        | succ n => rw [ups_succ] at hr; cases hr
        | zero =>
          obtain rfl : j = m + 1 := by omega
          refine hN _ _ ⟨_, _, _, _, dn ++ [(w, g)], rs, hz', rfl, rfl, e4, ?_, ec4⟩
          rw [ea4, mid_end]
          congr 4
          funext k
          rw [mea_app, mea_cons, mea_nil, Int.add_zero]
  · rintro env S3 ⟨u, v, t, t2, dn, rs, hz, hrs, rfl, e3, ea, ec3⟩
    cases rs with
    | cons y rs => cases hrs
    | nil =>
      rw [List.append_nil] at hz
      unfold ir_l_measure_2
      refine st_cons (st_ret ?_)
      simp only [wpE, wpT, wpA, wpC, wpO, wpI, wpJ, wpP, wpPs, opD, cmpD, biD, mtD, mtTy, addD_ii, addD_ss, addD_tt, subD_ii, mulD_ii, mulD_si, mulD_ti, fdivD_ii, modD_ii, powD_ii, negD_i, eqD_ii, eqD_ss, eqD_bb, ordD_ii, ordD_ss, isD_n, isD_bb, isNon, idxD_t, idxD_s, idxD_l, idxD_r, slD_t, slD_s, slD_l, slD_r, lenD_s, lenD_t, lenD_l, lenD_r, absD_i, minD_ii, maxD_ii, intD_i, intD_b, strD_i, tupleD_t, tupleD_r, tupleD_l, listD_t, listD_r, listD_l, sumD_t, sumD_r, anyD_t, anyD_r, allD_t, allD_r, appD_r, extD_r, joinD_r, joinD_t, countD_s, truthD_b, truthD_i, truthD_n, truthD_s, truthD_t, iterD_t, iterD_s, iterD_l, iterD_r, range1D_i, range2D_i, fmtD_s, fmtD_i, List.getElem?_cons_zero, List.getElem?_cons_succ, List.set_cons_zero, List.set_cons_succ, Option.some.injEq, exists_eq_left', exists_eq_left, Option.map_some, Bool.false_xor, Bool.true_xor, put_same, put_put, Ob.lst.injEq, D.int.injEq, D.bl.injEq, D.str.injEq, D.tup.injEq, D.ref.injEq, seqD_t, seqD_l, seqD_r, atI_0, atI_1, atI_2, atI_3, exists_and_left, exists_eq', and_true, true_and, decide_eq_true_eq, ea]
      rw [← hz]
      exact k S3 e3
/-! the text at counts -/
theorem wrts_app (ns : List Int) : ∀ xs ys : List Pg, wrts ns (xs ++ ys) = wrts ns xs ++ wrts ns ys
  | [], ys => by simp [wrts]
  | x :: xs, ys => by rw [List.cons_append, wrts, wrts, wrts_app ns xs ys, List.append_assoc]
def spText (n : Nat) : Spec := fun ds S Q => ∃ (ps : List Pg) (m d : Nat) (b : Bool) (ns : List Int), ds = [.tup (encPs ps), .tup (ns.map .int)] ∧ okPs m ps d b ∧ d < n ∧ d ≤ 3 ∧ ps.length ≤ 5 ∧ ns.length ≤ 3 ∧ inN (2 ^ 64) ns ∧ (wrts ns ps).length ≤ 16777216 ∧ ∀ S', Ext S S' → Q (.str (wrts ns ps)) S'
theorem inN_64 {ns : List Int} (h : inN (2 ^ 64) ns) : w64 ns := fun x hx => by have := h x hx; omega
theorem flat_app (xs : List (List Nat)) (y : List Nat) : (xs ++ [y]).flatten = xs.flatten ++ y := by simp
theorem w_text (n : Nat) : ∀ ds S Q, spText (n + 1) ds S Q → wpS (tabOf [("_law_number", spVal), ("_law_text", spText n)]) ir_l_text { nx := fun _ S' => Q .non S', rt := Q } (startD ["_law_parts", "_law_numbers_here", "_law_found", "_law_one_here", "_law_turns", "_law_inner"] ds) S := by
  rintro ds S Q ⟨ps, m, d, b, ns, rfl, hok, hd, hd3, hl, hnl, hns, hlim, k⟩
  rw [show startD ["_law_parts", "_law_numbers_here", "_law_found", "_law_one_here", "_law_turns", "_law_inner"] [.tup (encPs ps), .tup (ns.map .int)] = [some (.tup (encPs ps)), some (.tup (ns.map .int)), none, none, none, none] from rfl]
  have hn0 : ∀ n ∈ ns, 0 ≤ n := fun n h => (hns n h).1
  unfold ir_l_text
  refine st_cons (st_asg ?_)
  simp only [wpE, wpT, wpA, wpC, wpO, wpI, wpJ, wpP, wpPs, opD, cmpD, biD, mtD, mtTy, addD_ii, addD_ss, addD_tt, subD_ii, mulD_ii, mulD_si, mulD_ti, fdivD_ii, modD_ii, powD_ii, negD_i, eqD_ii, eqD_ss, eqD_bb, ordD_ii, ordD_ss, isD_n, isD_bb, isNon, idxD_t, idxD_s, idxD_l, idxD_r, slD_t, slD_s, slD_l, slD_r, lenD_s, lenD_t, lenD_l, lenD_r, absD_i, minD_ii, maxD_ii, intD_i, intD_b, strD_i, tupleD_t, tupleD_r, tupleD_l, listD_t, listD_r, listD_l, sumD_t, sumD_r, anyD_t, anyD_r, allD_t, allD_r, appD_r, extD_r, joinD_r, joinD_t, countD_s, truthD_b, truthD_i, truthD_n, truthD_s, truthD_t, iterD_t, iterD_s, iterD_l, iterD_r, range1D_i, range2D_i, fmtD_s, fmtD_i, List.getElem?_cons_zero, List.getElem?_cons_succ, List.set_cons_zero, List.set_cons_succ, Option.some.injEq, exists_eq_left', exists_eq_left, Option.map_some, Bool.false_xor, Bool.true_xor, put_same, put_put, Ob.lst.injEq, D.int.injEq, D.bl.injEq, D.str.injEq, D.tup.injEq, D.ref.injEq, seqD_t, seqD_l, seqD_r, atI_0, atI_1, atI_2, atI_3, exists_and_left, exists_eq', and_true, true_and, decide_eq_true_eq, tabOf]
  refine ⟨by simp, fun a fa => ?_⟩
  unfold ir_l_text_1
  refine st_cons (st_loop ?_)
  simp only [wpE, wpT, wpA, wpC, wpO, wpI, wpJ, wpP, wpPs, opD, cmpD, biD, mtD, mtTy, addD_ii, addD_ss, addD_tt, subD_ii, mulD_ii, mulD_si, mulD_ti, fdivD_ii, modD_ii, powD_ii, negD_i, eqD_ii, eqD_ss, eqD_bb, ordD_ii, ordD_ss, isD_n, isD_bb, isNon, idxD_t, idxD_s, idxD_l, idxD_r, slD_t, slD_s, slD_l, slD_r, lenD_s, lenD_t, lenD_l, lenD_r, absD_i, minD_ii, maxD_ii, intD_i, intD_b, strD_i, tupleD_t, tupleD_r, tupleD_l, listD_t, listD_r, listD_l, sumD_t, sumD_r, anyD_t, anyD_r, allD_t, allD_r, appD_r, extD_r, joinD_r, joinD_t, countD_s, truthD_b, truthD_i, truthD_n, truthD_s, truthD_t, iterD_t, iterD_s, iterD_l, iterD_r, range1D_i, range2D_i, fmtD_s, fmtD_i, List.getElem?_cons_zero, List.getElem?_cons_succ, List.set_cons_zero, List.set_cons_succ, Option.some.injEq, exists_eq_left', exists_eq_left, Option.map_some, Bool.false_xor, Bool.true_xor, put_same, put_put, Ob.lst.injEq, D.int.injEq, D.bl.injEq, D.str.injEq, D.tup.injEq, D.ref.injEq, seqD_t, seqD_l, seqD_r, atI_0, atI_1, atI_2, atI_3, exists_and_left, exists_eq', and_true, true_and, decide_eq_true_eq, tabOf]
  refine for_inv (fun rest env S' => ∃ (x y z : Option D) (dn rs : List Pg) (ts : List (List Nat)), ps = dn ++ rs ∧ rest = encPs rs ∧ env = [some (.tup (encPs ps)), some (.tup (ns.map .int)), some (.ref a), x, y, z] ∧ Ext S S' ∧ S' a = some (.lst (ts.map .str)) ∧ ts.flatten = wrts ns dn ∧ ts.length ≤ dn.length) _ _ _
    ⟨none, none, none, [], ps, [], rfl, rfl, rfl, Ext.put fa, put_same, rfl, by simp⟩ ?_ (fun _ _ _ _ => trivial) ?_
  · rintro x rest env S1 N ⟨u, v, t, dn, rs, ts, hz, hrs, rfl, e1, ea, hts, htl⟩ hN
    cases rs with
    | nil => rw [encPs] at hrs; cases hrs
    | cons y rs =>
      rw [encPs] at hrs
      obtain ⟨rfl, rfl⟩ := List.cons.inj hrs
      have hy := okPs_mem hok y (by rw [hz]; simp)
      have hz' : ps = (dn ++ [y]) ++ rs := by rw [hz]; simp
      have hdl : dn.length ≤ 5 := by rw [hz] at hl; simp at hl; omega
      have hyl : (wrt ns y).length ≤ 16777216 := by
        rw [hz', wrts_app, wrts_app] at hlim
        simp only [wrts, List.append_nil, List.length_append] at hlim
        omega
      have app : ∀ S' x t v w, x = encP y → Ext S S' → S' a = some (.lst (ts.map .str)) → w = wrt ns y → N [some (.tup (encPs ps)), some (.tup (ns.map .int)), some (.ref a), some x, t, v] (put S' a (.lst (ts.map .str ++ [.str w]))) := by
        rintro S' x t v w rfl e' ea' rfl
        exact hN _ _ ⟨_, t, v, dn ++ [y], rs, ts ++ [wrt ns y], hz', rfl, rfl, e'.write fa, by rw [put_same]; simp, by rw [flat_app, hts, wrts_app]; simp [wrts], by simp; omega⟩
      have skip : ∀ S' x t v, x = encP y → Ext S S' → S' a = some (.lst (ts.map .str)) → wrt ns y = [] → N [some (.tup (encPs ps)), some (.tup (ns.map .int)), some (.ref a), some x, t, v] S' := by
        rintro S' x t v rfl e' ea' hw
        exact hN _ _ ⟨_, t, v, dn ++ [y], rs, ts, hz', rfl, rfl, e', ea', by rw [hts, wrts_app]; simp [wrts, hw], by simp; omega⟩
      simp only [wpE, wpT, wpA, wpC, wpO, wpI, wpJ, wpP, wpPs, opD, cmpD, biD, mtD, mtTy, addD_ii, addD_ss, addD_tt, subD_ii, mulD_ii, mulD_si, mulD_ti, fdivD_ii, modD_ii, powD_ii, negD_i, eqD_ii, eqD_ss, eqD_bb, ordD_ii, ordD_ss, isD_n, isD_bb, isNon, idxD_t, idxD_s, idxD_l, idxD_r, slD_t, slD_s, slD_l, slD_r, lenD_s, lenD_t, lenD_l, lenD_r, absD_i, minD_ii, maxD_ii, intD_i, intD_b, strD_i, tupleD_t, tupleD_r, tupleD_l, listD_t, listD_r, listD_l, sumD_t, sumD_r, anyD_t, anyD_r, allD_t, allD_r, appD_r, extD_r, joinD_r, joinD_t, countD_s, truthD_b, truthD_i, truthD_n, truthD_s, truthD_t, iterD_t, iterD_s, iterD_l, iterD_r, range1D_i, range2D_i, fmtD_s, fmtD_i, List.getElem?_cons_zero, List.getElem?_cons_succ, List.set_cons_zero, List.set_cons_succ, Option.some.injEq, exists_eq_left', exists_eq_left, Option.map_some, Bool.false_xor, Bool.true_xor, put_same, put_put, Ob.lst.injEq, D.int.injEq, D.bl.injEq, D.str.injEq, D.tup.injEq, D.ref.injEq, seqD_t, seqD_l, seqD_r, atI_0, atI_1, atI_2, atI_3, exists_and_left, exists_eq', and_true, true_and, decide_eq_true_eq]
      unfold ir_l_text_b1
      refine st_cons (st_asg ?_)
      cases y with
      | text w =>
        rw [okP] at hy
        simp only [encP, wpE, wpT, wpA, wpC, wpO, wpI, wpJ, wpP, wpPs, opD, cmpD, biD, mtD, mtTy, addD_ii, addD_ss, addD_tt, subD_ii, mulD_ii, mulD_si, mulD_ti, fdivD_ii, modD_ii, powD_ii, negD_i, eqD_ii, eqD_ss, eqD_bb, ordD_ii, ordD_ss, isD_n, isD_bb, isNon, idxD_t, idxD_s, idxD_l, idxD_r, slD_t, slD_s, slD_l, slD_r, lenD_s, lenD_t, lenD_l, lenD_r, absD_i, minD_ii, maxD_ii, intD_i, intD_b, strD_i, tupleD_t, tupleD_r, tupleD_l, listD_t, listD_r, listD_l, sumD_t, sumD_r, anyD_t, anyD_r, allD_t, allD_r, appD_r, extD_r, joinD_r, joinD_t, countD_s, truthD_b, truthD_i, truthD_n, truthD_s, truthD_t, iterD_t, iterD_s, iterD_l, iterD_r, range1D_i, range2D_i, fmtD_s, fmtD_i, List.getElem?_cons_zero, List.getElem?_cons_succ, List.set_cons_zero, List.set_cons_succ, Option.some.injEq, exists_eq_left', exists_eq_left, Option.map_some, Bool.false_xor, Bool.true_xor, put_same, put_put, Ob.lst.injEq, D.int.injEq, D.bl.injEq, D.str.injEq, D.tup.injEq, D.ref.injEq, seqD_t, seqD_l, seqD_r, atI_0, atI_1, atI_2, atI_3, exists_and_left, exists_eq', and_true, true_and, decide_eq_true_eq, tabOf, if_true]
        unfold ir_l_text_b1_1
        refine st_cons (st_iff ?_)
        simp only [wpE, wpT, wpA, wpC, wpO, wpI, wpJ, wpP, wpPs, opD, cmpD, biD, mtD, mtTy, addD_ii, addD_ss, addD_tt, subD_ii, mulD_ii, mulD_si, mulD_ti, fdivD_ii, modD_ii, powD_ii, negD_i, eqD_ii, eqD_ss, eqD_bb, ordD_ii, ordD_ss, isD_n, isD_bb, isNon, idxD_t, idxD_s, idxD_l, idxD_r, slD_t, slD_s, slD_l, slD_r, lenD_s, lenD_t, lenD_l, lenD_r, absD_i, minD_ii, maxD_ii, intD_i, intD_b, strD_i, tupleD_t, tupleD_r, tupleD_l, listD_t, listD_r, listD_l, sumD_t, sumD_r, anyD_t, anyD_r, allD_t, allD_r, appD_r, extD_r, joinD_r, joinD_t, countD_s, truthD_b, truthD_i, truthD_n, truthD_s, truthD_t, iterD_t, iterD_s, iterD_l, iterD_r, range1D_i, range2D_i, fmtD_s, fmtD_i, List.getElem?_cons_zero, List.getElem?_cons_succ, List.set_cons_zero, List.set_cons_succ, Option.some.injEq, exists_eq_left', exists_eq_left, Option.map_some, Bool.false_xor, Bool.true_xor, put_same, put_put, Ob.lst.injEq, D.int.injEq, D.bl.injEq, D.str.injEq, D.tup.injEq, D.ref.injEq, seqD_t, seqD_l, seqD_r, atI_0, atI_1, atI_2, atI_3, exists_and_left, exists_eq', and_true, true_and, decide_eq_true_eq, tabOf]
        rw [if_pos (by decide)]
        unfold ir_l_text_b2
        refine st_cons (st_asg ?_)
        simp only [wpE, wpT, wpA, wpC, wpO, wpI, wpJ, wpP, wpPs, opD, cmpD, biD, mtD, mtTy, addD_ii, addD_ss, addD_tt, subD_ii, mulD_ii, mulD_si, mulD_ti, fdivD_ii, modD_ii, powD_ii, negD_i, eqD_ii, eqD_ss, eqD_bb, ordD_ii, ordD_ss, isD_n, isD_bb, isNon, idxD_t, idxD_s, idxD_l, idxD_r, slD_t, slD_s, slD_l, slD_r, lenD_s, lenD_t, lenD_l, lenD_r, absD_i, minD_ii, maxD_ii, intD_i, intD_b, strD_i, tupleD_t, tupleD_r, tupleD_l, listD_t, listD_r, listD_l, sumD_t, sumD_r, anyD_t, anyD_r, allD_t, allD_r, appD_r, extD_r, joinD_r, joinD_t, countD_s, truthD_b, truthD_i, truthD_n, truthD_s, truthD_t, iterD_t, iterD_s, iterD_l, iterD_r, range1D_i, range2D_i, fmtD_s, fmtD_i, List.getElem?_cons_zero, List.getElem?_cons_succ, List.set_cons_zero, List.set_cons_succ, Option.some.injEq, exists_eq_left', exists_eq_left, Option.map_some, Bool.false_xor, Bool.true_xor, put_same, put_put, Ob.lst.injEq, D.int.injEq, D.bl.injEq, D.str.injEq, D.tup.injEq, D.ref.injEq, seqD_t, seqD_l, seqD_r, atI_0, atI_1, atI_2, atI_3, exists_and_left, exists_eq', and_true, true_and, decide_eq_true_eq, tabOf, if_true]
        unfold ir_l_text_b2_1
        refine st_cons (st_ex ?_)
        simp only [wpE, wpT, wpA, wpC, wpO, wpI, wpJ, wpP, wpPs, opD, cmpD, biD, mtD, mtTy, addD_ii, addD_ss, addD_tt, subD_ii, mulD_ii, mulD_si, mulD_ti, fdivD_ii, modD_ii, powD_ii, negD_i, eqD_ii, eqD_ss, eqD_bb, ordD_ii, ordD_ss, isD_n, isD_bb, isNon, idxD_t, idxD_s, idxD_l, idxD_r, slD_t, slD_s, slD_l, slD_r, lenD_s, lenD_t, lenD_l, lenD_r, absD_i, minD_ii, maxD_ii, intD_i, intD_b, strD_i, tupleD_t, tupleD_r, tupleD_l, listD_t, listD_r, listD_l, sumD_t, sumD_r, anyD_t, anyD_r, allD_t, allD_r, appD_r, extD_r, joinD_r, joinD_t, countD_s, truthD_b, truthD_i, truthD_n, truthD_s, truthD_t, iterD_t, iterD_s, iterD_l, iterD_r, range1D_i, range2D_i, fmtD_s, fmtD_i, List.getElem?_cons_zero, List.getElem?_cons_succ, List.set_cons_zero, List.set_cons_succ, Option.some.injEq, exists_eq_left', exists_eq_left, Option.map_some, Bool.false_xor, Bool.true_xor, put_same, put_put, Ob.lst.injEq, D.int.injEq, D.bl.injEq, D.str.injEq, D.tup.injEq, D.ref.injEq, seqD_t, seqD_l, seqD_r, atI_0, atI_1, atI_2, atI_3, exists_and_left, exists_eq', and_true, true_and, decide_eq_true_eq, tabOf, ea]
        by_cases hw : w = []
        · rw [if_neg (by simp [hw])]
          refine ⟨by rw [List.length_map]; omega, ?_⟩
          exact app S1 _ _ _ _ (by rw [encP]) e1 ea (by rw [wrt, hw])
        · rw [if_pos (by simp [hw])]
          refine ⟨by decide, by decide, by simp; omega, by rw [List.length_map]; omega, ?_⟩
          exact app S1 _ _ _ _ (by rw [encP]) e1 ea (by rw [wrt]; simp)
      | loop f qs =>
        rw [okP] at hy
        obtain ⟨h0, hf, _, _, h4, h5⟩ := hy
        have hv := valF_pos hf hn0
        obtain ⟨c, r, hfc, hc0, hc9, hrl⟩ := f_head hf
        rw [wrt] at hyl app skip
        rw [len_rep] at hyl
        simp only [encP, wpE, wpT, wpA, wpC, wpO, wpI, wpJ, wpP, wpPs, opD, cmpD, biD, mtD, mtTy, addD_ii, addD_ss, addD_tt, subD_ii, mulD_ii, mulD_si, mulD_ti, fdivD_ii, modD_ii, powD_ii, negD_i, eqD_ii, eqD_ss, eqD_bb, ordD_ii, ordD_ss, isD_n, isD_bb, isNon, idxD_t, idxD_s, idxD_l, idxD_r, slD_t, slD_s, slD_l, slD_r, lenD_s, lenD_t, lenD_l, lenD_r, absD_i, minD_ii, maxD_ii, intD_i, intD_b, strD_i, tupleD_t, tupleD_r, tupleD_l, listD_t, listD_r, listD_l, sumD_t, sumD_r, anyD_t, anyD_r, allD_t, allD_r, appD_r, extD_r, joinD_r, joinD_t, countD_s, truthD_b, truthD_i, truthD_n, truthD_s, truthD_t, iterD_t, iterD_s, iterD_l, iterD_r, range1D_i, range2D_i, fmtD_s, fmtD_i, List.getElem?_cons_zero, List.getElem?_cons_succ, List.set_cons_zero, List.set_cons_succ, Option.some.injEq, exists_eq_left', exists_eq_left, Option.map_some, Bool.false_xor, Bool.true_xor, put_same, put_put, Ob.lst.injEq, D.int.injEq, D.bl.injEq, D.str.injEq, D.tup.injEq, D.ref.injEq, seqD_t, seqD_l, seqD_r, atI_0, atI_1, atI_2, atI_3, exists_and_left, exists_eq', and_true, true_and, decide_eq_true_eq, tabOf]
        rw [if_neg (by decide)]
        refine ⟨f, ns, rfl, by rw [hfc]; simp, fun x hx => by have := hf.2 x hx; omega, inN_64 hns, by omega, fun S2 e2 => ?_⟩
        unfold ir_l_text_b1_1
        refine st_cons (st_iff ?_)
        simp only [wpE, wpT, wpA, wpC, wpO, wpI, wpJ, wpP, wpPs, opD, cmpD, biD, mtD, mtTy, addD_ii, addD_ss, addD_tt, subD_ii, mulD_ii, mulD_si, mulD_ti, fdivD_ii, modD_ii, powD_ii, negD_i, eqD_ii, eqD_ss, eqD_bb, ordD_ii, ordD_ss, isD_n, isD_bb, isNon, idxD_t, idxD_s, idxD_l, idxD_r, slD_t, slD_s, slD_l, slD_r, lenD_s, lenD_t, lenD_l, lenD_r, absD_i, minD_ii, maxD_ii, intD_i, intD_b, strD_i, tupleD_t, tupleD_r, tupleD_l, listD_t, listD_r, listD_l, sumD_t, sumD_r, anyD_t, anyD_r, allD_t, allD_r, appD_r, extD_r, joinD_r, joinD_t, countD_s, truthD_b, truthD_i, truthD_n, truthD_s, truthD_t, iterD_t, iterD_s, iterD_l, iterD_r, range1D_i, range2D_i, fmtD_s, fmtD_i, List.getElem?_cons_zero, List.getElem?_cons_succ, List.set_cons_zero, List.set_cons_succ, Option.some.injEq, exists_eq_left', exists_eq_left, Option.map_some, Bool.false_xor, Bool.true_xor, put_same, put_put, Ob.lst.injEq, D.int.injEq, D.bl.injEq, D.str.injEq, D.tup.injEq, D.ref.injEq, seqD_t, seqD_l, seqD_r, atI_0, atI_1, atI_2, atI_3, exists_and_left, exists_eq', and_true, true_and, decide_eq_true_eq, tabOf]
        by_cases hp : 0 < valF f ns
        · rw [if_pos hp]
          have hq : (wrts ns qs).length ≤ 16777216 := by
            have : 1 * (wrts ns qs).length ≤ (valF f ns).toNat * (wrts ns qs).length := Nat.mul_le_mul_right _ (by omega)
            omega
          unfold ir_l_text_b2
          refine st_cons (st_asg ?_)
          simp only [wpE, wpT, wpA, wpC, wpO, wpI, wpJ, wpP, wpPs, opD, cmpD, biD, mtD, mtTy, addD_ii, addD_ss, addD_tt, subD_ii, mulD_ii, mulD_si, mulD_ti, fdivD_ii, modD_ii, powD_ii, negD_i, eqD_ii, eqD_ss, eqD_bb, ordD_ii, ordD_ss, isD_n, isD_bb, isNon, idxD_t, idxD_s, idxD_l, idxD_r, slD_t, slD_s, slD_l, slD_r, lenD_s, lenD_t, lenD_l, lenD_r, absD_i, minD_ii, maxD_ii, intD_i, intD_b, strD_i, tupleD_t, tupleD_r, tupleD_l, listD_t, listD_r, listD_l, sumD_t, sumD_r, anyD_t, anyD_r, allD_t, allD_r, appD_r, extD_r, joinD_r, joinD_t, countD_s, truthD_b, truthD_i, truthD_n, truthD_s, truthD_t, iterD_t, iterD_s, iterD_l, iterD_r, range1D_i, range2D_i, fmtD_s, fmtD_i, List.getElem?_cons_zero, List.getElem?_cons_succ, List.set_cons_zero, List.set_cons_succ, Option.some.injEq, exists_eq_left', exists_eq_left, Option.map_some, Bool.false_xor, Bool.true_xor, put_same, put_put, Ob.lst.injEq, D.int.injEq, D.bl.injEq, D.str.injEq, D.tup.injEq, D.ref.injEq, seqD_t, seqD_l, seqD_r, atI_0, atI_1, atI_2, atI_3, exists_and_left, exists_eq', and_true, true_and, decide_eq_true_eq, tabOf]
          rw [if_neg (by decide)]
          refine ⟨qs, m, d - 1, _, ns, rfl, h5, by omega, by omega, by omega, hnl, hns, hq, fun S3 e3 => ?_⟩
          have ea3 := e3 _ _ (e2 _ _ ea)
          have E3 := e1.trans (e2.trans e3)
          unfold ir_l_text_b2_1
          refine st_cons (st_ex ?_)
          simp only [wpE, wpT, wpA, wpC, wpO, wpI, wpJ, wpP, wpPs, opD, cmpD, biD, mtD, mtTy, addD_ii, addD_ss, addD_tt, subD_ii, mulD_ii, mulD_si, mulD_ti, fdivD_ii, modD_ii, powD_ii, negD_i, eqD_ii, eqD_ss, eqD_bb, ordD_ii, ordD_ss, isD_n, isD_bb, isNon, idxD_t, idxD_s, idxD_l, idxD_r, slD_t, slD_s, slD_l, slD_r, lenD_s, lenD_t, lenD_l, lenD_r, absD_i, minD_ii, maxD_ii, intD_i, intD_b, strD_i, tupleD_t, tupleD_r, tupleD_l, listD_t, listD_r, listD_l, sumD_t, sumD_r, anyD_t, anyD_r, allD_t, allD_r, appD_r, extD_r, joinD_r, joinD_t, countD_s, truthD_b, truthD_i, truthD_n, truthD_s, truthD_t, iterD_t, iterD_s, iterD_l, iterD_r, range1D_i, range2D_i, fmtD_s, fmtD_i, List.getElem?_cons_zero, List.getElem?_cons_succ, List.set_cons_zero, List.set_cons_succ, Option.some.injEq, exists_eq_left', exists_eq_left, Option.map_some, Bool.false_xor, Bool.true_xor, put_same, put_put, Ob.lst.injEq, D.int.injEq, D.bl.injEq, D.str.injEq, D.tup.injEq, D.ref.injEq, seqD_t, seqD_l, seqD_r, atI_0, atI_1, atI_2, atI_3, exists_and_left, exists_eq', and_true, true_and, decide_eq_true_eq, tabOf, ea3]
          by_cases hw : wrts ns qs = []
          · rw [if_neg (by simp [hw])]
            refine ⟨by rw [List.length_map]; omega, ?_⟩
            exact app S3 _ _ _ _ (by rw [encP]) E3 ea3 (by rw [hw]; simp)
          · rw [if_pos (by simp [hw])]
            have hpos : 0 < (wrts ns qs).length := List.length_pos_iff.mpr hw
            have hmul : (valF f ns).toNat * 1 ≤ (valF f ns).toNat * (wrts ns qs).length := Nat.mul_le_mul_left _ hpos
            refine ⟨by omega, by omega, by rw [Nat.mul_comm]; exact hyl, by rw [List.length_map]; omega, ?_⟩
            exact app S3 _ _ _ _ (by rw [encP]) E3 ea3 rfl
        · rw [if_neg hp]
          refine skip S2 _ _ _ (by rw [encP]) (e1.trans e2) (e2 _ _ ea) ?_
          rw [show (valF f ns).toNat = 0 by omega]; rfl
  · rintro env S1 ⟨u, v, t, dn, rs, ts, hz, hrs, rfl, e1, ea, hts, htl⟩
    cases rs with
    | cons y rs => rw [encPs] at hrs; cases hrs
    | nil =>
      rw [List.append_nil] at hz
      unfold ir_l_text_2
      refine st_cons (st_ret ?_)
      simp only [wpE, wpT, wpA, wpC, wpO, wpI, wpJ, wpP, wpPs, opD, cmpD, biD, mtD, mtTy, addD_ii, addD_ss, addD_tt, subD_ii, mulD_ii, mulD_si, mulD_ti, fdivD_ii, modD_ii, powD_ii, negD_i, eqD_ii, eqD_ss, eqD_bb, ordD_ii, ordD_ss, isD_n, isD_bb, isNon, idxD_t, idxD_s, idxD_l, idxD_r, slD_t, slD_s, slD_l, slD_r, lenD_s, lenD_t, lenD_l, lenD_r, absD_i, minD_ii, maxD_ii, intD_i, intD_b, strD_i, tupleD_t, tupleD_r, tupleD_l, listD_t, listD_r, listD_l, sumD_t, sumD_r, anyD_t, anyD_r, allD_t, allD_r, appD_r, extD_r, joinD_r, joinD_t, countD_s, truthD_b, truthD_i, truthD_n, truthD_s, truthD_t, iterD_t, iterD_s, iterD_l, iterD_r, range1D_i, range2D_i, fmtD_s, fmtD_i, List.getElem?_cons_zero, List.getElem?_cons_succ, List.set_cons_zero, List.set_cons_succ, Option.some.injEq, exists_eq_left', exists_eq_left, Option.map_some, Bool.false_xor, Bool.true_xor, put_same, put_put, Ob.lst.injEq, D.int.injEq, D.bl.injEq, D.str.injEq, D.tup.injEq, D.ref.injEq, seqD_t, seqD_l, seqD_r, atI_0, atI_1, atI_2, atI_3, exists_and_left, exists_eq', and_true, true_and, decide_eq_true_eq, ea]
      have e : strsF (ts.map .str) = some ts := by
        clear hts htl ea
        induction ts with
        | nil => rfl
        | cons x xs ih => simp [strsF, ih]
      refine ⟨_, e, ?_, ?_⟩
      · rw [lenL_eq, hts, ← hz]; simp; exact hlim
      · rw [join_nil, hts, ← hz]; exact k S1 e1
end G57
set_option Elab.async false
set_option linter.all false
set_option maxRecDepth 100000
set_option maxHeartbeats 400000
namespace G57
open PySem L2
/-! sizes of a small program -/
theorem sz_ge {m : Nat} {x : Pc} (h : okPc m x) : (x.1.length : Int) ≤ szPc x := by
  obtain ⟨w, g⟩ := x
  cases g with
  | none => exact Int.le_refl _
  | some f =>
    obtain ⟨c, r, rfl, hc, _, _⟩ := f_head h
    simp only [szPc, List.headD_cons]
    have : (w.length : Int) * 1 ≤ w.length * (1 + c) := Int.mul_le_mul_of_nonneg_left (by omega) (by omega)
    omega
theorem letN_sz {m : Nat} : ∀ xs : List Pc, (∀ x ∈ xs, okPc m x) → (letN xs : Int) ≤ (xs.map szPc).sum
  | [], _ => by simp [letN]
  | x :: xs, h => by
    have ih := letN_sz xs fun y hy => h y (by simp [hy])
    have a := sz_ge (h x (by simp))
    have e : letN (x :: xs) = x.1.length + letN xs := by simp [letN]
    rw [e, List.map_cons, List.sum_cons]
    omega
theorem letN_small {m : Nat} {ps : List Pg} (h : OkPg m ps) : letN (pcsPs ps) ≤ 290 := by
  have a := letN_sz _ (pcss_ok ps 3 true h.ok)
  have b := h.small
  unfold smallP sizeP at b
  simp only [Bool.and_eq_true, decide_eq_true_eq] at b
  omega
theorem dot_le {M B : Int} (hM : 0 ≤ M) (hB : 0 ≤ B) : ∀ (as ns : List Int), (∀ a ∈ as, 0 ≤ a ∧ a ≤ M) → (∀ n ∈ ns, 0 ≤ n ∧ n ≤ B) → dot as ns ≤ as.length * (M * B)
  | [], ns, _, _ => by simp [dot]
  | a :: as, [], _, _ => by rw [dot]; exact Int.mul_nonneg (by omega) (Int.mul_nonneg hM hB); intros; simp_all
  | a :: as, n :: ns, h, g => by
    have ih := dot_le hM hB as ns (fun b hb => h b (by simp [hb])) fun b hb => g b (by simp [hb])
    have ha := h a (by simp)
    have hn := g n (by simp)
    have hab : a * n ≤ M * B := Int.mul_le_mul ha.2 hn.2 hn.1 hM
    rw [dot, List.length_cons, Int.natCast_succ, Int.add_mul]
    omega
theorem valF_le {m : Nat} (hm : m ≤ 3) {f ns : List Int} {B : Int} (hB : 0 ≤ B) (h : okF m f) (hn : ∀ n ∈ ns, 0 ≤ n ∧ n ≤ B) : valF f ns ≤ 99 + 297 * B := by
  obtain ⟨c, r, rfl, hc, hc9, hr⟩ := f_head h
  have a := dot_le (M := 99) (by decide) hB r ns (fun a ha => h.2 a (by simp [ha])) hn
  have b : (r.length : Int) * (99 * B) ≤ 3 * (99 * B) := Int.mul_le_mul_of_nonneg_right (by omega) (by omega)
  show c + dot r ns ≤ _
  omega
theorem chv_le {m : Nat} (hm : m ≤ 3) (L : List Nat) {ns : List Int} {B : Int} (hB : 0 ≤ B) (hn : ∀ n ∈ ns, 0 ≤ n ∧ n ≤ B) : ∀ xs : List Pc, (∀ x ∈ xs, okPc m x) → chv L ns xs ≤ letN xs * (99 + 297 * B)
  | [], _ => by simp [chv, letN]
  | x :: xs, h => by
    have ih := chv_le hm L hB hn xs fun y hy => h y (by simp [hy])
    have e : letN (x :: xs) = x.1.length + letN xs := by simp [letN]
    have hv : 0 ≤ valC ns x.2 ∧ valC ns x.2 ≤ 99 + 297 * B := by
      have hx := h x (by simp)
      obtain ⟨w, g⟩ := x
      cases g with
      | none => simp only [valC]; omega
      | some f => exact ⟨valF_pos hx fun n hn' => (hn n hn').1, valF_le hm hB hx hn⟩
    have l1 := chi_le L x.1
    have a : (chi L x.1 : Int) * valC ns x.2 ≤ x.1.length * (99 + 297 * B) := Int.mul_le_mul (by omega) hv.2 hv.1 (by omega)
    unfold chv at ih ⊢
    rw [List.map_cons, List.sum_cons, e, Int.natCast_add, Int.add_mul]
    omega
theorem wrts_le {m : Nat} {ps : List Pg} (h : OkPg m ps) {ns : List Int} {B : Int} (hB : 0 ≤ B) (hn : ∀ n ∈ ns, 0 ≤ n ∧ n ≤ B) : ((wrts ns ps).length : Int) ≤ 290 * (99 + 297 * B) := by
  have a := chi_wrts [] (fun n h => (hn n h).1) ps 3 true h.ok
  have b := chv_le h.m3 [] hB hn _ (pcss_ok ps 3 true h.ok)
  have c := letN_small h
  have d : (letN (pcsPs ps) : Int) * (99 + 297 * B) ≤ 290 * (99 + 297 * B) := Int.mul_le_mul_of_nonneg_right (by omega) (by omega)
  have e : chi [] (wrts ns ps) = (wrts ns ps).length := rfl
  omega
/-! all letters together -/
mutual
theorem low_pcs {m : Nat} : ∀ (p : Pg) (d : Nat) (b : Bool), okP m p d b → ∀ x ∈ pcsP p, lowW x.1
  | .text w, d, b, h, x, hx => by
    rw [pcsP] at hx
    rw [okP] at h
    rw [List.mem_singleton.mp hx]; exact h.2
  | .loop f ps, d, b, h, x, hx => by
    rw [okP] at h
    rw [pcsP] at hx
    have ih := low_pcss ps _ _ h.2.2.2.2.2
    split at hx
    · rw [List.mem_singleton.mp hx]
      intro c hc
      obtain ⟨w, h1, h2⟩ := List.mem_flatten.mp hc
      obtain ⟨y, h3, rfl⟩ := List.mem_map.mp h1
      exact ih y h3 c h2
    · obtain ⟨ys, h1, h2⟩ := List.mem_flatten.mp hx
      rw [(List.mem_replicate.mp h1).2] at h2
      exact ih x h2
theorem low_pcss {m : Nat} : ∀ (ps : List Pg) (d : Nat) (b : Bool), okPs m ps d b → ∀ x ∈ pcsPs ps, lowW x.1
  | [], d, b, h, x, hx => by simp [pcsPs] at hx
  | p :: ps, d, b, h, x, hx => by
    rw [okPs] at h
    rw [pcsPs] at hx
    rcases List.mem_append.mp hx with hx | hx
    · exact low_pcs p d b h.1 x hx
    · exact low_pcss ps d b h.2 x hx
end
def abc : List Nat := [97, 98, 99, 100, 101, 102, 103, 104, 105, 106, 107, 108, 109, 110, 111, 112, 113, 114, 115, 116, 117, 118, 119, 120, 121, 122]
theorem sum_count (cs : List Nat) (a : Nat) (w : List Nat) : (cs.map fun c => (a :: w).count c).sum = (cs.map fun c => w.count c).sum + cs.count a := by
  induction cs with
  | nil => rfl
  | cons c cs ih =>
    rw [List.map_cons, List.sum_cons, ih, List.map_cons, List.sum_cons]
    have e1 : (a :: w).count c = w.count c + if a == c then 1 else 0 := List.count_cons
    have e2 : (c :: cs).count a = cs.count a + if c == a then 1 else 0 := List.count_cons
    rw [e1, e2]
    by_cases h : a = c
    · subst h; simp; omega
    · have h' : ¬ c = a := fun e => h e.symm
      simp [h, h']; omega
theorem abc_one (a : Nat) (h1 : 97 ≤ a) (h2 : a ≤ 122) : abc.count a = 1 := by
  obtain ⟨n, rfl⟩ : ∃ n, a = 97 + n := ⟨a - 97, by omega⟩
  have : ∀ n, n < 26 → abc.count (97 + n) = 1 := by decide
  exact this n (by omega)
theorem sum_abc : ∀ w : List Nat, lowW w → (abc.map fun c => w.count c).sum = w.length
  | [], _ => by decide
  | a :: w, h => by
    have := h a (by simp)
    rw [sum_count, sum_abc w fun c hc => h c (by simp [hc]), abc_one a this.1 this.2]; rfl
def meas (cs : List Nat) (xs : List Pc) (k : Nat) : Int := (cs.map fun c => mea [c] xs k).sum
theorem meas_abc (k : Nat) : ∀ xs : List Pc, (∀ x ∈ xs, lowW x.1) → meas abc xs k = mea [] xs k
  | [], _ => by simp [meas, mea, abc]
  | x :: xs, h => by
    have ih := meas_abc k xs fun y hy => h y (by simp [hy])
    rw [mea_cons, ← ih, ← show ((abc.map fun c => x.1.count c).sum : Int) = (chi [] x.1 : Nat) from by rw [sum_abc _ (h x (by simp))]; rfl]
    have : ∀ cs : List Nat, meas cs (x :: xs) k = ((cs.map fun c => x.1.count c).sum : Nat) * coef x.2 k + meas cs xs k := by
      intro cs
      induction cs with
      | nil => simp [meas]
      | cons c cs ih2 =>
        have e : meas (c :: cs) (x :: xs) k = mea [c] (x :: xs) k + meas cs (x :: xs) k := by simp [meas]
        have e2 : meas (c :: cs) xs k = mea [c] xs k + meas cs xs k := by simp [meas]
        rw [e, e2, ih2, mea_cons, List.map_cons, List.sum_cons, Int.natCast_add, Int.add_mul]
        show (x.1.count c : Int) * _ + _ + _ = _
        omega
    exact this abc
end G57
set_option Elab.async false
set_option linter.all false
set_option maxRecDepth 100000
set_option maxHeartbeats 400000
/-! lists as values: what stands for them in the store -/
namespace G57
open PySem L2
abbrev Own := Addr → Prop
mutual
def VF (p : Addr) (O : Own) (S : Sto) : D → D → Prop
  | .non, d => d = .non
  | .bl b, d => d = .bl b
  | .int i, d => d = .int i
  | .str x, d => d = .str x
  | .ref _, d => d = .ref p
  | .tup ds, d => ∃ es, d = .tup es ∧ VFs p O S ds es
  | .rol ds, d => ∃ a es, d = .ref a ∧ ¬ O a ∧ a ≠ p ∧ S a = some (.lst es) ∧ VFs p O S ds es
def VFs (p : Addr) (O : Own) (S : Sto) : List D → List D → Prop
  | [], es => es = []
  | d :: ds, es => ∃ e r, es = e :: r ∧ VF p O S d e ∧ VFs p O S ds r
end
/-- read on the spot: the list itself may be one that is owned -/
def VT (p : Addr) (O : Own) (S : Sto) : D → D → Prop
  | .rol ds, d => ∃ a es, d = .ref a ∧ a ≠ p ∧ S a = some (.lst es) ∧ VFs p O S ds es
  | x, d => VF p O S x d
def VB (b : Bool) (p : Addr) (O : Own) (S : Sto) (x d : D) : Prop := if b = true then VT p O S x d else VF p O S x d
section
variable {p q : Addr} {O O' : Own} {S S' : Sto}
theorem VF.vt {x d : D} (h : VF p O S x d) : VT p O S x d := by
  cases x <;> try exact h
  simp only [VF] at h
  obtain ⟨a, es, e, _, n, s, v⟩ := h
  exact ⟨a, es, e, n, s, v⟩
theorem VF.vb {x d : D} (b : Bool) (h : VF p O S x d) : VB b p O S x d := by
  unfold VB; split
  · exact h.vt
  · exact h
theorem VB.vt {x d : D} {b : Bool} (h : VB b p O S x d) : VT p O S x d := by
  unfold VB at h; split at h
  · exact h
  · exact h.vt
/-! the general change: other owners, another store -/
mutual
theorem VF.to (ho : ∀ a es, ¬ O a → a ≠ p → S a = some (.lst es) → ¬ O' a ∧ S' a = some (.lst es)) : ∀ {x d : D}, VF p O S x d → VF p O' S' x d
  | .non, _, h | .bl _, _, h | .int _, _, h | .str _, _, h | .ref _, _, h => by simpa only [VF] using h
  | .tup ds, d, h => by
    simp only [VF] at h ⊢
    obtain ⟨es, e, v⟩ := h
    exact ⟨es, e, VFs.to ho v⟩
  | .rol ds, d, h => by
    simp only [VF] at h ⊢
    obtain ⟨a, es, e, n, np, s, v⟩ := h
    obtain ⟨n', s'⟩ := ho a es n np s
    exact ⟨a, es, e, n', np, s', VFs.to ho v⟩
theorem VFs.to (ho : ∀ a es, ¬ O a → a ≠ p → S a = some (.lst es) → ¬ O' a ∧ S' a = some (.lst es)) : ∀ {xs ds : List D}, VFs p O S xs ds → VFs p O' S' xs ds
  | [], _, h => by simpa only [VFs] using h
  | x :: xs, ds, h => by
    simp only [VFs] at h ⊢
    obtain ⟨e, r, q, v, w⟩ := h
    exact ⟨e, r, q, VF.to ho v, VFs.to ho w⟩
end
theorem VF.ext {x d : D} (h : VF p O S x d) (e : ExtB p S S') : VF p O S' x d := h.to fun a es n np s => ⟨n, e a _ np s⟩
theorem VFs.ext {x d : List D} (h : VFs p O S x d) (e : ExtB p S S') : VFs p O S' x d := h.to fun a es n np s => ⟨n, e a _ np s⟩
theorem VT.ext {x d : D} (h : VT p O S x d) (e : ExtB p S S') : VT p O S' x d := by
  cases x <;> try exact VF.ext h e
  obtain ⟨a, es, q, n, s, v⟩ := h
  exact ⟨a, es, q, n, e a _ n s, v.ext e⟩
theorem VB.ext {x d : D} {b : Bool} (h : VB b p O S x d) (e : ExtB p S S') : VB b p O S' x d := by
  unfold VB at h ⊢
  cases b
  · simp only [Bool.false_eq_true, if_false] at h ⊢; exact h.ext e
  · simp only [if_true] at h ⊢; exact h.ext e
/-- a place that is free is no place of a value -/
theorem VF.own {x d : D} {a : Addr} (h : VF p O S x d) (f : S a = none) : VF p (fun b => O b ∨ b = a) S x d :=
  h.to fun b es n np s => ⟨fun z => z.elim n (fun e => by rw [e, f] at s; cases s), s⟩
theorem VFs.own {x d : List D} {a : Addr} (h : VFs p O S x d) (f : S a = none) : VFs p (fun b => O b ∨ b = a) S x d :=
  h.to fun b es n np s => ⟨fun z => z.elim n (fun e => by rw [e, f] at s; cases s), s⟩
theorem VF.less {x d : D} (h : VF p O S x d) (o : ∀ a, O' a → O a) : VF p O' S x d := h.to fun b es n np s => ⟨fun z => n (o b z), s⟩
theorem VFs.less {x d : List D} (h : VFs p O S x d) (o : ∀ a, O' a → O a) : VFs p O' S x d := h.to fun b es n np s => ⟨fun z => n (o b z), s⟩
theorem VT.less {x d : D} (h : VT p O S x d) (o : ∀ a, O' a → O a) : VT p O' S x d := by
  cases x <;> try exact VF.less h o
  obtain ⟨a, es, q, n, s, v⟩ := h
  exact ⟨a, es, q, n, s, v.less o⟩
theorem VT.own {x d : D} {a : Addr} (h : VT p O S x d) (f : S a = none) : VT p (fun b => O b ∨ b = a) S x d := by
  cases x <;> try exact VF.own h f
  obtain ⟨b, es, q, n, s, v⟩ := h
  exact ⟨b, es, q, n, s, v.own f⟩
/-- a store at an owned place -/
theorem VF.write {x d : D} {a : Addr} {o : Ob} (h : VF p O S x d) (ha : O a) : VF p O (put S a o) x d :=
  h.to fun b es n np s => ⟨n, by rw [put_ne (fun e => n (by rw [e]; exact ha))]; exact s⟩
theorem VFs.write {x d : List D} {a : Addr} {o : Ob} (h : VFs p O S x d) (ha : O a) : VFs p O (put S a o) x d :=
  h.to fun b es n np s => ⟨n, by rw [put_ne (fun e => n (by rw [e]; exact ha))]; exact s⟩
/-! lists of values -/
theorem VFs.nil : VFs p O S [] [] := by simp only [VFs]
theorem VFs.cons {x d : D} {xs ds : List D} (a : VF p O S x d) (b : VFs p O S xs ds) : VFs p O S (x :: xs) (d :: ds) := by simp only [VFs]; exact ⟨d, ds, rfl, a, b⟩
theorem VFs.inv {x d : D} {xs ds : List D} (h : VFs p O S (x :: xs) (d :: ds)) : VF p O S x d ∧ VFs p O S xs ds := by
  simp only [VFs] at h
  obtain ⟨_, _, e, a, b⟩ := h
  cases e
  exact ⟨a, b⟩
theorem VFs.length : ∀ {xs ds : List D}, VFs p O S xs ds → xs.length = ds.length
  | [], _, h => by simp only [VFs] at h; rw [h]
  | x :: xs, ds, h => by
    simp only [VFs] at h
    obtain ⟨e, r, rfl, _, w⟩ := h
    rw [List.length_cons, List.length_cons, w.length]
theorem VFs.get : ∀ {xs ds : List D} {i : Nat} {x : D}, VFs p O S xs ds → xs[i]? = some x → ∃ d, ds[i]? = some d ∧ VF p O S x d
  | [], _, _, _, _, e => by simp at e
  | x :: xs, d :: ds, 0, _, h, e => by simp at e; subst e; exact ⟨d, rfl, h.inv.1⟩
  | x :: xs, d :: ds, i + 1, _, h, e => by
    simp at e
    obtain ⟨y, q, r⟩ := VFs.get h.inv.2 e
    exact ⟨y, by simpa using q, r⟩
  | x :: xs, [], _, _, h, _ => by simp only [VFs] at h; obtain ⟨_, _, e, _⟩ := h; cases e
theorem VFs.append : ∀ {xs ys ds es : List D}, VFs p O S xs ds → VFs p O S ys es → VFs p O S (xs ++ ys) (ds ++ es)
  | [], _, _, _, h, g => by simp only [VFs] at h; subst h; exact g
  | x :: xs, _, d :: ds, _, h, g => .cons h.inv.1 (h.inv.2.append g)
  | x :: xs, _, [], _, h, _ => by simp only [VFs] at h; obtain ⟨_, _, e, _⟩ := h; cases e
theorem VFs.take : ∀ {xs ds : List D} (n : Nat), VFs p O S xs ds → VFs p O S (xs.take n) (ds.take n)
  | _, _, 0, _ => by simp only [List.take_zero]; exact .nil
  | [], _, n + 1, h => by simp only [VFs] at h; subst h; exact .nil
  | x :: xs, d :: ds, n + 1, h => .cons h.inv.1 (h.inv.2.take n)
  | x :: xs, [], _, h => by simp only [VFs] at h; obtain ⟨_, _, e, _⟩ := h; cases e
theorem VFs.drop : ∀ {xs ds : List D} (n : Nat), VFs p O S xs ds → VFs p O S (xs.drop n) (ds.drop n)
  | _, _, 0, h => h
  | [], _, n + 1, h => by simp only [VFs] at h; subst h; exact .nil
  | x :: xs, d :: ds, n + 1, h => h.inv.2.drop n
  | x :: xs, [], _, h => by simp only [VFs] at h; obtain ⟨_, _, e, _⟩ := h; cases e
theorem VFs.set : ∀ {xs ds : List D} {x d : D} (n : Nat), VFs p O S xs ds → VF p O S x d → VFs p O S (xs.set n x) (ds.set n d)
  | [], _, _, _, _, h, _ => by simp only [VFs] at h; subst h; exact .nil
  | x :: xs, d :: ds, _, _, 0, h, r => .cons r h.inv.2
  | x :: xs, d :: ds, _, _, n + 1, h, r => .cons h.inv.1 (h.inv.2.set n r)
  | x :: xs, [], _, _, _, h, _ => by simp only [VFs] at h; obtain ⟨_, _, e, _⟩ := h; cases e
theorem VFs.rep {xs ds : List D} (h : VFs p O S xs ds) : ∀ n : Nat, VFs p O S (List.replicate n xs).flatten (List.replicate n ds).flatten
  | 0 => .nil
  | n + 1 => by rw [List.replicate_succ, List.replicate_succ, List.flatten_cons, List.flatten_cons]; exact h.append (h.rep n)
theorem VFs.cut {xs ds : List D} (h : VFs p O S xs ds) (lo hi : Option Int) : VFs p O S (cutD xs lo hi) (cutD ds lo hi) := by
  unfold cutD
  rw [h.length]
  exact (h.drop _).take _
theorem VFs.at {xs ds : List D} {i : Int} {x : D} (h : VFs p O S xs ds) (e : atI xs i = some x) : ∃ d, atI ds i = some d ∧ VF p O S x d := by
  unfold atI at e ⊢
  rw [← h.length]
  cases k : ixN xs.length i with
  | none => rw [k] at e; cases e
  | some n => rw [k] at e; exact h.get e
theorem VFs.strs : ∀ {xs ds : List D} {ws : List (List Nat)}, VFs p O S xs ds → strsF xs = some ws → strsF ds = some ws
  | [], _, _, h, e => by simp only [VFs] at h; subst h; exact e
  | x :: xs, [], _, h, _ => by simp only [VFs] at h; obtain ⟨_, _, e, _⟩ := h; cases e
  | x :: xs, d :: ds, ws, h, e => by
    obtain ⟨h1, h2⟩ := h.inv
    cases x <;> try (simp [strsF] at e; done)
    simp only [VF] at h1
    subst h1
    simp only [strsF] at e ⊢
    cases z : strsF xs with
    | none => rw [z] at e; cases e
    | some zs => rw [z] at e; rw [h2.strs z]; exact e
theorem VFs.ints : ∀ {xs ds : List D} {ws : List Int}, VFs p O S xs ds → intsF xs = some ws → intsF ds = some ws
  | [], _, _, h, e => by simp only [VFs] at h; subst h; exact e
  | x :: xs, [], _, h, _ => by simp only [VFs] at h; obtain ⟨_, _, e, _⟩ := h; cases e
  | x :: xs, d :: ds, ws, h, e => by
    obtain ⟨h1, h2⟩ := h.inv
    cases x <;> try (simp [intsF] at e; done)
    simp only [VF] at h1
    subst h1
    simp only [intsF] at e ⊢
    cases z : intsF xs with
    | none => rw [z] at e; cases e
    | some zs => rw [z] at e; rw [h2.ints z]; exact e
theorem VFs.trus : ∀ {xs ds : List D} {ws : List Bool}, VFs p O S xs ds → trusF xs = some ws → trusF ds = some ws
  | [], _, _, h, e => by simp only [VFs] at h; subst h; exact e
  | x :: xs, [], _, h, _ => by simp only [VFs] at h; obtain ⟨_, _, e, _⟩ := h; cases e
  | x :: xs, d :: ds, ws, h, e => by
    obtain ⟨h1, h2⟩ := h.inv
    cases x <;> try (simp [trusF, truF] at e; done)
    all_goals
      simp only [VF] at h1
      subst h1
      simp only [trusF, truF] at e ⊢
      cases z : trusF xs with
      | none => rw [z] at e; cases e
      | some zs => rw [z] at e; rw [h2.trus z]; exact e
/-! data without lists are themselves -/
mutual
def pureD : D → Bool
  | .rol _ | .ref _ => false
  | .tup ds => puresD ds
  | _ => true
def puresD : List D → Bool
  | [] => true
  | d :: ds => pureD d && puresD ds
end
mutual
theorem VF.eq : ∀ {x d : D}, pureD x = true → VF p O S x d → d = x
  | .non, _, _, h | .bl _, _, _, h | .int _, _, _, h | .str _, _, _, h => by simpa only [VF] using h
  | .rol _, _, h, _ | .ref _, _, h, _ => by simp [pureD] at h
  | .tup ds, d, hp, h => by
    simp only [VF] at h
    obtain ⟨es, rfl, v⟩ := h
    simp only [pureD] at hp
    rw [VFs.eq hp v]
theorem VFs.eq : ∀ {xs ds : List D}, puresD xs = true → VFs p O S xs ds → ds = xs
  | [], _, _, h => by simpa only [VFs] using h
  | x :: xs, ds, hp, h => by
    simp only [VFs] at h
    obtain ⟨e, r, rfl, v, w⟩ := h
    simp only [puresD, Bool.and_eq_true] at hp
    rw [VF.eq hp.1 v, VFs.eq hp.2 w]
end
mutual
theorem VF.pure : ∀ {x : D}, pureD x = true → VF p O S x x
  | .non, _ | .bl _, _ | .int _, _ | .str _, _ => by simp only [VF]
  | .rol _, h | .ref _, h => by simp [pureD] at h
  | .tup ds, hp => by
    simp only [pureD] at hp
    simp only [VF]
    exact ⟨ds, rfl, VFs.pure hp⟩
theorem VFs.pure : ∀ {xs : List D}, puresD xs = true → VFs p O S xs xs
  | [], _ => .nil
  | x :: xs, hp => by
    simp only [puresD, Bool.and_eq_true] at hp
    exact .cons (VF.pure hp.1) (VFs.pure hp.2)
end
end
end G57
set_option Elab.async false
set_option linter.all false
set_option maxRecDepth 100000
set_option maxHeartbeats 400000
namespace G57
open PySem L2
/-! operations on values -/
abbrev RK := D → Prop
def addV : D → D → RK → Prop
  | .int i, .int j, R => R (.int (i + j))
  | .str x, .str y, R => x.length + y.length ≤ 16777216 ∧ R (.str (x ++ y))
  | .tup x, .tup y, R => x.length + y.length ≤ 16777216 ∧ R (.tup (x ++ y))
  | .rol x, .rol y, R => x.length + y.length ≤ 16777216 ∧ R (.rol (x ++ y))
  | _, _, _ => False
def subV : D → D → RK → Prop
  | .int i, .int j, R => R (.int (i - j))
  | _, _, _ => False
def mulV : D → D → RK → Prop
  | .int i, .int j, R => CMulW i j ∧ R (.int (i * j))
  | .str x, .int j, R => j < 2 ^ 40 ∧ -(2 ^ 40) < j ∧ x.length * j.toNat ≤ 16777216 ∧ R (.str (List.replicate j.toNat x).flatten)
  | .tup x, .int j, R => j ≤ 1000 ∧ -1000 ≤ j ∧ x.length ≤ 1000 ∧ R (.tup (List.replicate j.toNat x).flatten)
  | .rol x, .int j, R => j < 2 ^ 40 ∧ -(2 ^ 40) < j ∧ x.length * j.toNat ≤ 16777216 ∧ R (.rol (List.replicate j.toNat x).flatten)
  | _, _, _ => False
def fdivV : D → D → RK → Prop
  | .int i, .int j, R => 0 < j ∧ j < 2 ^ 8000 ∧ R (.int (i / j))
  | _, _, _ => False
def modV : D → D → RK → Prop
  | .int i, .int j, R => 0 < j ∧ R (.int (i % j))
  | _, _, _ => False
def powV : D → D → RK → Prop
  | .int i, .int j, R => CPow i j ∧ R (.int (i ^ j.toNat))
  | _, _, _ => False
def opV : Operator → D → D → RK → Prop
  | .Add => addV | .Sub => subV | .Mult => mulV | .FloorDiv => fdivV | .Mod => modV | .Pow => powV
  | _ => fun _ _ _ => False
def negV : D → RK → Prop
  | .int i, R => R (.int (-i))
  | _, _ => False
def truthV : D → (Bool → Prop) → Prop
  | .str x, R => x.length ≤ 16777216 ∧ R (!x.isEmpty)
  | .non, R => R false
  | .bl b, R => R b
  | .int i, R => R (i != 0)
  | .tup ds, R => R (!ds.isEmpty)
  | .rol ds, R => R (!ds.isEmpty)
  | .ref _, _ => False
/-- what == and repr can look at -/
def okV : D → Bool
  | .rol ds => puresD ds && oksD 40 ds
  | d => pureD d && okD 41 d
def shV : D → Bool
  | .rol ds => shsD ds
  | d => shD d
def eqV' (neg : Bool) : D → D → RK → Prop
  | .int i, .int j, R => R (.bl (neg ^^ decide (i = j)))
  | .str x, .str y, R => R (.bl (neg ^^ decide (x = y)))
  | .bl x, .bl y, R => R (.bl (neg ^^ decide (x = y)))
  | a, b, R => okV a = true ∧ okV b = true ∧ R (.bl (neg ^^ PyData.eqv (py a) (py b)))
def ordV (f : Int → Int → Bool) (h : List Nat → List Nat → Bool) : D → D → RK → Prop
  | .int i, .int j, R => R (.bl (f i j))
  | .str x, .str y, R => R (.bl (h x y))
  | _, _, _ => False
def isV (neg : Bool) : D → D → RK → Prop
  | a, .non, R => R (.bl (neg ^^ isNon a))
  | .bl a, .bl b, R => R (.bl (neg ^^ decide (a = b)))
  | .non, .bl _, R => R (.bl neg)
  | _, _, _ => False
def inV' (neg : Bool) : D → D → RK → Prop
  | .str [c], .str y, R => R (.bl (neg ^^ decide (c ∈ y)))
  | a, .tup ds, R => flatD a = true ∧ ds.all flatD = true ∧ R (.bl (neg ^^ ds.any fun z => eqF z a))
  | a, .rol ds, R => flatD a = true ∧ ds.all flatD = true ∧ R (.bl (neg ^^ ds.any fun z => eqF z a))
  | _, _, _ => False
def cmpV : CmpOp → D → D → RK → Prop
  | .Eq => eqV' false
  | .NotEq => eqV' true
  | .Lt => ordV (fun i j => decide (i < j)) (fun x y => decide (x < y))
  | .LtE => ordV (fun i j => decide (i ≤ j)) (fun x y => decide (x ≤ y))
  | .Gt => ordV (fun i j => decide (j < i)) (fun x y => decide (y < x))
  | .GtE => ordV (fun i j => decide (j ≤ i)) (fun x y => decide (y ≤ x))
  | .Is => isV false
  | .IsNot => isV true
  | .In => inV' false
  | .NotIn => inV' true
def seqV : D → Option (List D)
  | .tup ds | .rol ds => some ds
  | _ => none
def biV : Bi → List D → RK → Prop
  | .len, [.str x], R => x.length ≤ 16777216 ∧ R (.int x.length)
  | .len, [.tup x], R => R (.int x.length)
  | .len, [.rol x], R => R (.int x.length)
  | .sum, [.tup ds], R => ∃ is, intsF ds = some is ∧ R (.int is.sum)
  | .sum, [.rol ds], R => ∃ is, intsF ds = some is ∧ R (.int is.sum)
  | .any, [.tup ds], R => ∃ bs, trusF ds = some bs ∧ R (.bl (bs.any id))
  | .any, [.rol ds], R => ∃ bs, trusF ds = some bs ∧ R (.bl (bs.any id))
  | .all, [.tup ds], R => ∃ bs, trusF ds = some bs ∧ R (.bl (bs.all id))
  | .all, [.rol ds], R => ∃ bs, trusF ds = some bs ∧ R (.bl (bs.all id))
  | .abs, [.int i], R => R (.int i.natAbs)
  | .min, [.int i, .int j], R => R (.int (min i j))
  | .max, [.int i, .int j], R => R (.int (max i j))
  | .int, [.int i], R => R (.int i)
  | .int, [.bl b], R => R (.int (if b then 1 else 0))
  | .int, [.str x], R => ∃ n, PySem.intText? ⟨x.toArray⟩ = some n ∧ x.length ≤ 640 ∧ R (.int n)
  | .str, [.int i], R => i.natAbs < 2 ^ 1900 ∧ R (.str (itxt i))
  | .tuple, [.tup ds], R => R (.tup ds)
  | .tuple, [.rol ds], R => R (.tup ds)
  | .list, [.tup ds], R => R (.rol ds)
  | .list, [.rol ds], R => R (.rol ds)
  | .repr, [d], R => okV d = true ∧ shV d = true ∧ (py d).shown.length ≤ 16777216 ∧ R (.str (rtxt (py d)))
  | _, _, _ => False
def mtV : Mt → D → List D → RK → Prop
  | .join, .str a, [.tup ds], R => ∃ xs, strsF ds = some xs ∧ lenL xs + xs.length * a.length ≤ 16777216 ∧ R (.str (joinL a xs))
  | .join, .str a, [.rol ds], R => ∃ xs, strsF ds = some xs ∧ lenL xs + xs.length * a.length ≤ 16777216 ∧ R (.str (joinL a xs))
  | .count, .str a, [.str [c]], R => R (.int (a.count c))
  | _, _, _, _ => False
def idxV : D → D → RK → Prop
  | .tup ds, .int i, R => ∃ d, atI ds i = some d ∧ R d
  | .rol ds, .int i, R => ∃ d, atI ds i = some d ∧ R d
  | .str x, .int i, R => x.length ≤ 16777216 ∧ ∃ c, atI x i = some c ∧ R (.str [c])
  | _, _, _ => False
def slV : D → Option Int → Option Int → RK → Prop
  | .tup ds, lo, hi, R => R (.tup (cutD ds lo hi))
  | .rol ds, lo, hi, R => R (.rol (cutD ds lo hi))
  | .str x, lo, hi, R => x.length ≤ 16777216 ∧ R (.str (cutD x lo hi))
  | _, _, _, _ => False
/-- the items of what is walked -/
def itV : D → Option (List D)
  | .tup ds | .rol ds => some ds
  | .str x => some (x.map fun c => .str [c])
  | _ => none
def rng1V : D → (List D → Prop) → Prop
  | .int n, R => smallI n ∧ R (rngD 0 n)
  | _, _ => False
def rng2V : D → D → (List D → Prop) → Prop
  | .int m, .int n, R => smallI m ∧ smallI n ∧ R (rngD m n)
  | _, _, _ => False
/-! ### they stand for the store's -/
structure OkO (p q : Addr) (O : Own) (S : Sto) (g : Nat) : Prop where
  dk : Deck S p q g
  dom : ∀ a, O a → S a ≠ none
  np : ¬ O p
  nq : ¬ O q
section
variable {p q : Addr} {O : Own} {S S' : Sto} {g : Nat} {Q : DK} {R : RK} {x y x1 y1 : D}
theorem OkO.fresh (h : OkO p q O S g) {r : Addr} (f : S r = none) : p ≠ r ∧ q ≠ r ∧ ¬ O r :=
  ⟨(h.dk.fresh f).1, (h.dk.fresh f).2, fun z => h.dom r z f⟩
theorem OkO.ext (h : OkO p q O S g) {g' : Nat} (e : ExtB p S S') (d : Deck S' p q g') : OkO p q O S' g' :=
  ⟨d, (fun a ha z => by
    cases s : S a with
    | none => exact h.dom a ha s
    | some o => rw [e a o (fun w => h.np (by rw [← w]; exact ha)) s] at z; cases z), h.np, h.nq⟩
/-- what is promised behind an operation -/
def Post (p q : Addr) (O : Own) (S : Sto) (g : Nat) (R : RK) (Q : DK) : Prop := ∀ d2 d1 S', R d2 → ExtB p S S' → Deck S' p q g → VF p O S' d2 d1 → Q d1 S'
theorem Post.now (h : Post p q O S g R Q) (k : OkO p q O S g) {d2 d1 : D} (r : R d2) (v : VF p O S d2 d1) : Q d1 S := h d2 d1 S r ExtB.refl k.dk v
theorem newL (k : OkO p q O S g) {ds es : List D} (v : VFs p O S ds es) {r : Addr} (f : S r = none) : ExtB p S (put S r (.lst es)) ∧ Deck (put S r (.lst es)) p q g ∧ VF p O (put S r (.lst es)) (.rol ds) (.ref r) := by
  obtain ⟨n1, n2, n3⟩ := k.fresh f
  refine ⟨(Ext.put f).but, k.dk.put n1 n2, ?_⟩
  simp only [VF]
  exact ⟨r, es, rfl, n3, fun e => n1 e.symm, put_same, v.ext (Ext.put f).but⟩
theorem Post.new (h : Post p q O S g R Q) (k : OkO p q O S g) {ds es : List D} (r : R (.rol ds)) (v : VFs p O S ds es) (a : Addr) (f : S a = none) : Q (.ref a) (put S a (.lst es)) := by
  obtain ⟨e1, e2, e3⟩ := newL k v f
  exact h _ _ _ r e1 e2 e3
theorem VT.tup_inv {ds : List D} (h : VT p O S (.tup ds) x1) : ∃ es, x1 = .tup es ∧ VFs p O S ds es := by
  have z : VF p O S (.tup ds) x1 := h
  simpa only [VF] using z
theorem VT.rol_inv {ds : List D} (h : VT p O S (.rol ds) x1) : ∃ a es, x1 = .ref a ∧ a ≠ p ∧ S a = some (.lst es) ∧ VFs p O S ds es := h
theorem VT.int_inv {i : Int} (h : VT p O S (.int i) x1) : x1 = .int i := by have z : VF p O S (.int i) x1 := h; simpa only [VF] using z
theorem VT.str_inv {i : List Nat} (h : VT p O S (.str i) x1) : x1 = .str i := by have z : VF p O S (.str i) x1 := h; simpa only [VF] using z
theorem VT.bl_inv {i : Bool} (h : VT p O S (.bl i) x1) : x1 = .bl i := by have z : VF p O S (.bl i) x1 := h; simpa only [VF] using z
theorem VT.non_inv (h : VT p O S .non x1) : x1 = .non := by have z : VF p O S .non x1 := h; simpa only [VF] using z
theorem VT.ref_inv {a : Addr} (h : VT p O S (.ref a) x1) : x1 = .ref p := by have z : VF p O S (.ref a) x1 := h; simpa only [VF] using z
theorem VF.tup {ds es : List D} (h : VFs p O S ds es) : VF p O S (.tup ds) (.tup es) := by simp only [VF]; exact ⟨es, rfl, h⟩
theorem VF.i {i : Int} : VF p O S (.int i) (.int i) := by simp only [VF]
theorem VF.s {i : List Nat} : VF p O S (.str i) (.str i) := by simp only [VF]
theorem VF.b {i : Bool} : VF p O S (.bl i) (.bl i) := by simp only [VF]
theorem VF.n : VF p O S .non .non := by simp only [VF]
theorem addV_ok (k : OkO p q O S g) (hx : VT p O S x x1) (hy : VT p O S y y1) (h : addV x y R) (P : Post p q O S g R Q) : addD x1 y1 S Q := by
  cases x <;> cases y <;> try exact h.elim
  · cases hx.int_inv; cases hy.int_inv; exact P.now k h .i
  · cases hx.str_inv; cases hy.str_inv; exact ⟨h.1, P.now k h.2 .s⟩
  · obtain ⟨es, rfl, v⟩ := hx.tup_inv
    obtain ⟨fs, rfl, w⟩ := hy.tup_inv
    exact ⟨by rw [← v.length, ← w.length]; exact h.1, P.now k h.2 (.tup (v.append w))⟩
  · obtain ⟨a, es, rfl, _, s, v⟩ := hx.rol_inv
    obtain ⟨b, fs, rfl, _, t, w⟩ := hy.rol_inv
    exact ⟨es, fs, s, t, by rw [← v.length, ← w.length]; exact h.1, fun r f => P.new k h.2 (v.append w) r f⟩
theorem mulV_ok (k : OkO p q O S g) (hx : VT p O S x x1) (hy : VT p O S y y1) (h : mulV x y R) (P : Post p q O S g R Q) : mulD x1 y1 S Q := by
  cases x <;> cases y <;> try exact h.elim
  · cases hx.int_inv; cases hy.int_inv; exact ⟨h.1, P.now k h.2 .i⟩
  · cases hx.str_inv; cases hy.int_inv; exact ⟨h.1, h.2.1, h.2.2.1, P.now k h.2.2.2 .s⟩
  · obtain ⟨es, rfl, v⟩ := hx.tup_inv
    cases hy.int_inv
    exact ⟨h.1, h.2.1, by rw [← v.length]; exact h.2.2.1, P.now k h.2.2.2 (.tup (v.rep _))⟩
  · obtain ⟨a, es, rfl, _, s, v⟩ := hx.rol_inv
    cases hy.int_inv
    exact ⟨es, s, h.1, h.2.1, by rw [← v.length]; exact h.2.2.1, fun r f => P.new k h.2.2.2 (v.rep _) r f⟩
theorem opV_ok (op : Operator) (k : OkO p q O S g) (hx : VT p O S x x1) (hy : VT p O S y y1) (h : opV op x y R) (P : Post p q O S g R Q) : opD op x1 y1 S Q := by
  cases op <;> try exact h.elim
  case Add => exact addV_ok k hx hy h P
  case Mult => exact mulV_ok k hx hy h P
  case Sub => cases x <;> cases y <;> first | exact h.elim | (cases hx.int_inv; cases hy.int_inv; exact P.now k h .i)
  case FloorDiv => cases x <;> cases y <;> first | exact h.elim | (cases hx.int_inv; cases hy.int_inv; exact ⟨h.1, h.2.1, P.now k h.2.2 .i⟩)
  case Mod => cases x <;> cases y <;> first | exact h.elim | (cases hx.int_inv; cases hy.int_inv; exact ⟨h.1, P.now k h.2 .i⟩)
  case Pow => cases x <;> cases y <;> first | exact h.elim | (cases hx.int_inv; cases hy.int_inv; exact ⟨h.1, P.now k h.2 .i⟩)
theorem negV_ok (k : OkO p q O S g) (hx : VT p O S x x1) (h : negV x R) (P : Post p q O S g R Q) : negD x1 S Q := by
  cases x <;> first | exact h.elim | (cases hx.int_inv; exact P.now k h .i)
theorem truthV_ok {B : Bool → Prop} (hx : VT p O S x x1) (h : truthV x B) : truthD x1 S B := by
  cases x with
  | non => cases hx.non_inv; exact ⟨_, rfl, h⟩
  | bl b => cases hx.bl_inv; exact ⟨_, rfl, h⟩
  | int b => cases hx.int_inv; exact ⟨_, rfl, h⟩
  | str b => cases hx.str_inv; exact h
  | tup ds =>
    obtain ⟨es, rfl, v⟩ := hx.tup_inv
    have l := v.length
    refine ⟨_, rfl, ?_⟩
    cases ds <;> cases es <;> first | exact h | simp at l
  | rol ds =>
    obtain ⟨a, es, rfl, _, s, v⟩ := hx.rol_inv
    have l := v.length
    refine ⟨!es.isEmpty, by simp only [truD, s], ?_⟩
    cases ds <;> cases es <;> first | exact h | simp at l
  | ref a => exact h.elim
theorem okV_ok (hx : VT p O S x x1) (h : okV x = true) : okS S x1 = true ∧ pyS S x1 = py x ∧ shS S x1 = shV x := by
  cases x with
  | non => cases hx.non_inv; simp [okS, okD, pyS, shS, shV]
  | bl b => cases hx.bl_inv; simp [okS, okD, pyS, shS, shV]
  | int b => cases hx.int_inv; simp [okS, okD, pyS, shS, shV]
  | str b =>
    cases hx.str_inv
    simp only [okV, Bool.and_eq_true] at h
    exact ⟨h.2, rfl, rfl⟩
  | tup ds =>
    simp only [okV, Bool.and_eq_true] at h
    have := VF.eq h.1 (show VF p O S (.tup ds) x1 from hx)
    subst this
    exact ⟨h.2, rfl, rfl⟩
  | rol ds =>
    simp only [okV, Bool.and_eq_true] at h
    obtain ⟨a, es, rfl, _, s, v⟩ := hx.rol_inv
    have := VFs.eq h.1 v
    subst this
    refine ⟨by simp only [okS, s]; exact h.2, by simp only [pyS, s, py], by simp only [shS, s, shV]⟩
  | ref a => simp [okV, pureD] at h
theorem eqV_ok (neg : Bool) (k : OkO p q O S g) (hx : VT p O S x x1) (hy : VT p O S y y1) (h : eqV' neg x y R) (P : Post p q O S g R Q) : eqD neg x1 y1 S Q := by
  have gen : okV x = true ∧ okV y = true ∧ R (.bl (neg ^^ PyData.eqv (py x) (py y))) → okS S x1 = true ∧ okS S y1 = true ∧ Q (.bl (neg ^^ PyData.eqv (pyS S x1) (pyS S y1))) S := fun ⟨a, b, r⟩ => by
    obtain ⟨a1, a2, _⟩ := okV_ok hx a
    obtain ⟨b1, b2, _⟩ := okV_ok hy b
    exact ⟨a1, b1, by rw [a2, b2]; exact P.now k r .b⟩
  cases x with
  | int i =>
    cases hx.int_inv
    cases y with
    | int j => cases hy.int_inv; exact P.now k h .b
    | non => cases hy.non_inv; exact gen h
    | bl j => cases hy.bl_inv; exact gen h
    | str j => cases hy.str_inv; exact gen h
    | tup j => obtain ⟨es, rfl, _⟩ := hy.tup_inv; exact gen h
    | rol j => obtain ⟨a, es, rfl, _⟩ := hy.rol_inv; exact gen h
    | ref a => cases hy.ref_inv; exact gen h
  | str i =>
    cases hx.str_inv
    cases y with
    | str j => cases hy.str_inv; exact P.now k h .b
    | non => cases hy.non_inv; exact gen h
    | bl j => cases hy.bl_inv; exact gen h
    | int j => cases hy.int_inv; exact gen h
    | tup j => obtain ⟨es, rfl, _⟩ := hy.tup_inv; exact gen h
    | rol j => obtain ⟨a, es, rfl, _⟩ := hy.rol_inv; exact gen h
    | ref a => cases hy.ref_inv; exact gen h
  | bl i =>
    cases hx.bl_inv
    cases y with
    | bl j => cases hy.bl_inv; exact P.now k h .b
    | non => cases hy.non_inv; exact gen h
    | str j => cases hy.str_inv; exact gen h
    | int j => cases hy.int_inv; exact gen h
    | tup j => obtain ⟨es, rfl, _⟩ := hy.tup_inv; exact gen h
    | rol j => obtain ⟨a, es, rfl, _⟩ := hy.rol_inv; exact gen h
    | ref a => cases hy.ref_inv; exact gen h
  | non => cases hx.non_inv; cases y1 <;> exact gen h
  | tup i => obtain ⟨es, rfl, _⟩ := hx.tup_inv; cases y1 <;> exact gen h
  | rol i => obtain ⟨a, es, rfl, _⟩ := hx.rol_inv; cases y1 <;> exact gen h
  | ref a => cases hx.ref_inv; cases y1 <;> exact gen h
theorem ordV_ok {f : Int → Int → Bool} {hh : List Nat → List Nat → Bool} (k : OkO p q O S g) (hx : VT p O S x x1) (hy : VT p O S y y1) (h : ordV f hh x y R) (P : Post p q O S g R Q) : ordD f hh x1 y1 S Q := by
  cases x <;> cases y <;> try exact h.elim
  · cases hx.int_inv; cases hy.int_inv; exact P.now k h .b
  · cases hx.str_inv; cases hy.str_inv; exact P.now k h .b
theorem isNon_ok (hx : VT p O S x x1) : isNon x1 = isNon x := by
  cases x with
  | non => cases hx.non_inv; rfl
  | bl j => cases hx.bl_inv; rfl
  | str j => cases hx.str_inv; rfl
  | int j => cases hx.int_inv; rfl
  | tup j => obtain ⟨es, rfl, _⟩ := hx.tup_inv; rfl
  | rol j => obtain ⟨a, es, rfl, _⟩ := hx.rol_inv; rfl
  | ref a => cases hx.ref_inv; rfl
theorem isV_ok (neg : Bool) (k : OkO p q O S g) (hx : VT p O S x x1) (hy : VT p O S y y1) (h : isV neg x y R) (P : Post p q O S g R Q) : isD neg x1 y1 S Q := by
  cases y with
  | non =>
    cases hy.non_inv
    rw [isD_n, isNon_ok hx]
    have e : isV neg x .non R = R (.bl (neg ^^ isNon x)) := by cases x <;> rfl
    rw [e] at h
    exact P.now k h .b
  | bl b =>
    cases hy.bl_inv
    cases x <;> try exact h.elim
    · cases hx.non_inv; exact P.now k h .b
    · cases hx.bl_inv; exact P.now k h .b
  | _ => cases x <;> exact h.elim
theorem flat_eq (hx : VT p O S x x1) (h : flatD x = true) : x1 = x := by
  cases x with
  | non => exact hx.non_inv
  | bl j => exact hx.bl_inv
  | str j => exact hx.str_inv
  | int j => exact hx.int_inv
  | tup j => cases h
  | rol j => cases h
  | ref a => cases h
theorem flats_eq : ∀ {xs ds : List D}, VFs p O S xs ds → xs.all flatD = true → ds = xs
  | [], _, h, _ => by simpa only [VFs] using h
  | x :: xs, ds, h, a => by
    simp only [VFs] at h
    obtain ⟨e, r, rfl, v, w⟩ := h
    simp only [List.all_cons, Bool.and_eq_true] at a
    rw [flat_eq v.vt a.1, flats_eq w a.2]
theorem inV_ok (neg : Bool) (k : OkO p q O S g) (hx : VT p O S x x1) (hy : VT p O S y y1) (h : inV' neg x y R) (P : Post p q O S g R Q) : inD neg x1 y1 S Q := by
  cases y with
  | tup ds =>
    obtain ⟨es, rfl, v⟩ := hy.tup_inv
    have h' : flatD x = true ∧ ds.all flatD = true ∧ R (.bl (neg ^^ ds.any fun z => eqF z x)) := by
      unfold inV' at h; split at h <;> first | exact h | simp_all
    obtain ⟨a, b, r⟩ := h'
    cases flat_eq hx a
    cases flats_eq v b
    have : flatD x = true ∧ ds.all flatD = true ∧ Q (.bl (neg ^^ ds.any fun z => eqF z x)) S := ⟨a, b, P.now k r .b⟩
    unfold inD; split <;> first | exact this | simp_all
  | rol ds =>
    obtain ⟨l, es, rfl, _, s, v⟩ := hy.rol_inv
    have h' : flatD x = true ∧ ds.all flatD = true ∧ R (.bl (neg ^^ ds.any fun z => eqF z x)) := by
      unfold inV' at h; split at h <;> first | exact h | simp_all
    obtain ⟨a, b, r⟩ := h'
    cases flat_eq hx a
    cases flats_eq v b
    have : ∃ ds, S l = some (.lst ds) ∧ flatD x = true ∧ ds.all flatD = true ∧ Q (.bl (neg ^^ ds.any fun z => eqF z x)) S := ⟨_, s, a, b, P.now k r .b⟩
    unfold inD; split <;> first | exact this | simp_all
  | str z =>
    cases hy.str_inv
    cases x with
    | str c =>
      cases hx.str_inv
      cases c with
      | nil => exact h.elim
      | cons c r => cases r with
        | nil => exact P.now k h .b
        | cons _ _ => exact h.elim
    | _ => exact h.elim
  | _ => unfold inV' at h; split at h <;> first | exact h.elim | simp_all
theorem cmpV_ok (op : CmpOp) (k : OkO p q O S g) (hx : VT p O S x x1) (hy : VT p O S y y1) (h : cmpV op x y R) (P : Post p q O S g R Q) : cmpD op x1 y1 S Q := by
  cases op with
  | Eq => exact eqV_ok false k hx hy h P
  | NotEq => exact eqV_ok true k hx hy h P
  | Is => exact isV_ok false k hx hy h P
  | IsNot => exact isV_ok true k hx hy h P
  | In => exact inV_ok false k hx hy h P
  | NotIn => exact inV_ok true k hx hy h P
  | _ => exact ordV_ok k hx hy h P
theorem idxV_ok (k : OkO p q O S g) (hx : VT p O S x x1) (hy : VT p O S y y1) (h : idxV x y R) (P : Post p q O S g R Q) : idxD x1 y1 S Q := by
  cases x <;> cases y <;> try exact h.elim
  · cases hx.str_inv; cases hy.int_inv
    obtain ⟨a, c, e, r⟩ := h
    exact ⟨a, c, e, P.now k r .s⟩
  · obtain ⟨es, rfl, v⟩ := hx.tup_inv
    cases hy.int_inv
    obtain ⟨d, e, r⟩ := h
    obtain ⟨d', e', w⟩ := v.at e
    exact ⟨d', e', P.now k r w⟩
  · obtain ⟨a, es, rfl, _, s, v⟩ := hx.rol_inv
    cases hy.int_inv
    obtain ⟨d, e, r⟩ := h
    obtain ⟨d', e', w⟩ := v.at e
    exact ⟨es, d', s, e', P.now k r w⟩
theorem slV_ok {lo hi : Option Int} (k : OkO p q O S g) (hx : VT p O S x x1) (h : slV x lo hi R) (P : Post p q O S g R Q) : slD x1 lo hi S Q := by
  cases x <;> try exact h.elim
  · cases hx.str_inv; exact ⟨h.1, P.now k h.2 .s⟩
  · obtain ⟨es, rfl, v⟩ := hx.tup_inv
    exact P.now k h (.tup (v.cut lo hi))
  · obtain ⟨a, es, rfl, _, s, v⟩ := hx.rol_inv
    exact ⟨es, s, fun r f => P.new k h (v.cut lo hi) r f⟩
end
end G57
set_option Elab.async false
set_option linter.all false
set_option maxRecDepth 100000
set_option maxHeartbeats 400000
namespace G57
open PySem L2
section
variable {p q : Addr} {O : Own} {S S' : Sto} {g : Nat} {Q : DK} {R : RK} {x y x1 y1 : D}
/-- arguments read on the spot -/
def VTs (p : Addr) (O : Own) (S : Sto) : List D → List D → Prop
  | [], es => es = []
  | d :: ds, es => ∃ e r, es = e :: r ∧ VT p O S d e ∧ VTs p O S ds r
theorem VTs.cons {xs ds : List D} (a : VT p O S x x1) (b : VTs p O S xs ds) : VTs p O S (x :: xs) (x1 :: ds) := ⟨_, _, rfl, a, b⟩
theorem VTs.ext : ∀ {xs ds : List D}, VTs p O S xs ds → ExtB p S S' → VTs p O S' xs ds
  | [], _, h, _ => h
  | x :: xs, ds, ⟨e, r, q, v, w⟩, h => ⟨e, r, q, v.ext h, w.ext h⟩
theorem VFs.vts : ∀ {xs ds : List D}, VFs p O S xs ds → VTs p O S xs ds
  | [], _, h => by simpa only [VFs, VTs] using h
  | x :: xs, ds, h => by
    simp only [VFs] at h
    obtain ⟨e, r, q, v, w⟩ := h
    exact ⟨e, r, q, v.vt, w.vts⟩
theorem one_inv {d : D} {es : List D} (h : VTs p O S [d] es) : ∃ e, es = [e] ∧ VT p O S d e := by
  obtain ⟨e, r, rfl, v, rfl⟩ := h
  exact ⟨e, rfl, v⟩
theorem two_inv {d f : D} {es : List D} (h : VTs p O S [d, f] es) : ∃ e h, es = [e, h] ∧ VT p O S d e ∧ VT p O S f h := by
  obtain ⟨e, r, rfl, v, e2, r2, rfl, v2, rfl⟩ := h
  exact ⟨e, e2, rfl, v, v2⟩
theorem seq_ok {ds : List D} (h : VT p O S x x1) (e : seqV x = some ds) : ∃ es, seqD S x1 = some es ∧ VFs p O S ds es := by
  cases x <;> try (simp [seqV] at e; done)
  · cases e
    obtain ⟨es, rfl, v⟩ := h.tup_inv
    exact ⟨es, rfl, v⟩
  · cases e
    obtain ⟨a, es, rfl, _, s, v⟩ := h.rol_inv
    exact ⟨es, by rw [seqD_r]; exact s, v⟩
theorem biV_ok (f : Bi) {ds es : List D} (k : OkO p q O S g) (hx : VTs p O S ds es) (h : biV f ds R) (P : Post p q O S g R Q) : biD f es S Q := by
  unfold biV at h
  split at h <;> try exact h.elim
  · obtain ⟨e, rfl, v⟩ := one_inv hx
    cases v.str_inv; exact ⟨h.1, P.now k h.2 .i⟩
  · obtain ⟨e, rfl, v⟩ := one_inv hx
    obtain ⟨zs, rfl, w⟩ := v.tup_inv
    exact ⟨_, rfl, by rw [← w.length]; exact P.now k h .i⟩
  · obtain ⟨e, rfl, v⟩ := one_inv hx
    obtain ⟨a, zs, rfl, _, s, w⟩ := v.rol_inv
    show lenD [.ref a] S Q
    rw [lenD_r]
    exact ⟨_, s, by rw [← w.length]; exact P.now k h .i⟩
  · obtain ⟨e, rfl, v⟩ := one_inv hx
    obtain ⟨zs, z, w⟩ := seq_ok v rfl
    obtain ⟨is, a, r⟩ := h
    exact ⟨_, _, z, w.ints a, P.now k r .i⟩
  · obtain ⟨e, rfl, v⟩ := one_inv hx
    obtain ⟨zs, z, w⟩ := seq_ok v rfl
    obtain ⟨is, a, r⟩ := h
    exact ⟨_, _, z, w.ints a, P.now k r .i⟩
  · obtain ⟨e, rfl, v⟩ := one_inv hx
    obtain ⟨zs, z, w⟩ := seq_ok v rfl
    obtain ⟨is, a, r⟩ := h
    exact ⟨_, _, z, w.trus a, P.now k r .b⟩
  · obtain ⟨e, rfl, v⟩ := one_inv hx
    obtain ⟨zs, z, w⟩ := seq_ok v rfl
    obtain ⟨is, a, r⟩ := h
    exact ⟨_, _, z, w.trus a, P.now k r .b⟩
  · obtain ⟨e, rfl, v⟩ := one_inv hx
    obtain ⟨zs, z, w⟩ := seq_ok v rfl
    obtain ⟨is, a, r⟩ := h
    exact ⟨_, _, z, w.trus a, P.now k r .b⟩
  · obtain ⟨e, rfl, v⟩ := one_inv hx
    obtain ⟨zs, z, w⟩ := seq_ok v rfl
    obtain ⟨is, a, r⟩ := h
    exact ⟨_, _, z, w.trus a, P.now k r .b⟩
  · obtain ⟨e, rfl, v⟩ := one_inv hx
    cases v.int_inv; exact P.now k h .i
  · obtain ⟨e, e2, rfl, v, v2⟩ := two_inv hx
    cases v.int_inv; cases v2.int_inv; exact P.now k h .i
  · obtain ⟨e, e2, rfl, v, v2⟩ := two_inv hx
    cases v.int_inv; cases v2.int_inv; exact P.now k h .i
  · obtain ⟨e, rfl, v⟩ := one_inv hx
    cases v.int_inv; exact P.now k h .i
  · obtain ⟨e, rfl, v⟩ := one_inv hx
    cases v.bl_inv; exact P.now k h .i
  · obtain ⟨e, rfl, v⟩ := one_inv hx
    cases v.str_inv
    obtain ⟨n, a, b, r⟩ := h
    exact ⟨n, a, b, P.now k r .i⟩
  · obtain ⟨e, rfl, v⟩ := one_inv hx
    cases v.int_inv; exact ⟨h.1, P.now k h.2 .s⟩
  · obtain ⟨e, rfl, v⟩ := one_inv hx
    obtain ⟨zs, z, w⟩ := seq_ok v rfl
    exact ⟨_, z, P.now k h (.tup w)⟩
  · obtain ⟨e, rfl, v⟩ := one_inv hx
    obtain ⟨zs, z, w⟩ := seq_ok v rfl
    exact ⟨_, z, P.now k h (.tup w)⟩
  · obtain ⟨e, rfl, v⟩ := one_inv hx
    obtain ⟨zs, z, w⟩ := seq_ok v rfl
    exact ⟨_, z, fun r f => P.new k h w r f⟩
  · obtain ⟨e, rfl, v⟩ := one_inv hx
    obtain ⟨zs, z, w⟩ := seq_ok v rfl
    exact ⟨_, z, fun r f => P.new k h w r f⟩
  · obtain ⟨e, rfl, v⟩ := one_inv hx
    obtain ⟨a, b, c, r⟩ := h
    obtain ⟨a1, a2, a3⟩ := okV_ok v a
    exact ⟨a1, by rw [a3]; exact b, by rw [a2]; exact c, by rw [a2]; exact P.now k r .s⟩
theorem mtV_ok (m : Mt) {ds es : List D} (k : OkO p q O S g) (hx : VT p O S x x1) (hs : VTs p O S ds es) (h : mtV m x ds R) (P : Post p q O S g R Q) : mtTy m x1 S ∧ mtD m x1 es S Q := by
  unfold mtV at h
  split at h <;> try exact h.elim
  · cases hx.str_inv
    obtain ⟨e, rfl, v⟩ := one_inv hs
    obtain ⟨zs, z, w⟩ := seq_ok v rfl
    obtain ⟨xs, a, b, r⟩ := h
    exact ⟨trivial, _, _, z, w.strs a, b, P.now k r .s⟩
  · cases hx.str_inv
    obtain ⟨e, rfl, v⟩ := one_inv hs
    obtain ⟨zs, z, w⟩ := seq_ok v rfl
    obtain ⟨xs, a, b, r⟩ := h
    exact ⟨trivial, _, _, z, w.strs a, b, P.now k r .s⟩
  · cases hx.str_inv
    obtain ⟨e, rfl, v⟩ := one_inv hs
    cases v.str_inv
    exact ⟨trivial, P.now k h .i⟩
end
end G57
set_option Elab.async false
set_option linter.all false
set_option maxRecDepth 100000
set_option maxHeartbeats 400000
/-! the small language over values: no store, draws by a budget -/
namespace G57
open PySem L2
abbrev QK := D → Nat → Prop
abbrev Spec2 := List D → Nat → QK → Prop
structure Tab2 where
  q : Nat → Option Spec2
  w : Nat → Option Spec := fun _ => none
def ownB : List Nat → Nat → Bool
  | [], _ => false
  | j :: r, i => i == j || ownB r i
def lcV (body : D → Nat → (Option D → Nat → Prop) → Prop) (Q : List D → Nat → Prop) : List D → List D → Nat → Prop
  | [], acc, g => Q acc g
  | x :: xs, acc, g => body x g fun y g1 => match y with
    | none => lcV body Q xs acc g1
    | some y => acc.length < 16777216 ∧ lcV body Q xs (acc ++ [y]) g1
mutual
def wqP : Pt → D → En → (En → Prop) → Prop
  | .v i, d, env, Q => Q (env.set i (some d))
  | .t p, .tup ds, env, Q => wqPs p ds env Q
  | .t p, .rol ds, env, Q => wqPs p ds env Q
  | _, _, _, _ => False
def wqPs : Pt → List D → En → (En → Prop) → Prop
  | .nil, [], env, Q => Q env
  | .cons a r, d :: ds, env, Q => wqP a d env fun env' => wqPs r ds env' Q
  | _, _, _, _ => False
end
def mtO : Mt → D → Prop
  | .join, .str _ => True
  | .count, .str _ => True
  | _, _ => False
def fmtV : D → (List Nat → Prop) → Prop
  | .str x, R => x.length ≤ 16777216 ∧ R x
  | .int i, R => i.natAbs < 2 ^ 1900 ∧ R (itxt i)
  | _, _ => False
section
variable (M : List Nat) (Φ : Tab2)
mutual
def wqE : Ex → Bool → En → Nat → QK → Prop
  | .var i, b, env, g, Q => (b || !ownB M i) = true ∧ ∃ d, env[i]? = some (some d) ∧ Q d g
  | .con d, _, _, g, Q => flatD d = true ∧ Q d g
  | .bin op a c, _, env, g, Q => wqE a true env g fun x g1 => wqE c true env g1 fun y g2 => opV op x y fun d => Q d g2
  | .neg a, _, env, g, Q => wqE a true env g fun x g1 => negV x fun d => Q d g1
  | .not a, _, env, g, Q => wqE a true env g fun x g1 => truthV x fun t => Q (.bl (!t)) g1
  | .cmp op a c, _, env, g, Q => wqE a true env g fun x g1 => wqE c true env g1 fun y g2 => cmpV op x y fun d => Q d g2
  | .chain o1 o2 a b c, _, env, g, Q => wqE a true env g fun x g1 => wqE b true env g1 fun y g2 => cmpV o1 x y fun z => ∃ k, z = .bl k ∧
      (if k = true then wqE c true env g2 fun w g3 => cmpV o2 y w fun d => Q d g3 else Q (.bl false) g2)
  | .and a c, b, env, g, Q => wqE a b env g fun x g1 => truthV x fun t => if t = true then wqE c b env g1 Q else Q x g1
  | .or a c, b, env, g, Q => wqE a b env g fun x g1 => truthV x fun t => if t = true then Q x g1 else wqE c b env g1 Q
  | .ite c a d, b, env, g, Q => wqT c env g fun t g1 => if t = true then wqE a b env g1 Q else wqE d b env g1 Q
  | .call f as, _, env, g, Q => ∃ sp, Φ.q f = some sp ∧ wqA as false env g fun ds g1 => sp ds g1 Q
  | .bi f as, _, env, g, Q => wqA as true env g fun ds g1 => biV f ds fun d => Q d g1
  | .mt m o as, _, env, g, Q => wqE o true env g fun x g1 => mtO m x ∧ wqA as true env g1 fun ds g2 => mtV m x ds fun d => Q d g2
  | .tup as, _, env, g, Q => wqA as false env g fun ds g1 => ds.length ≤ 16777216 ∧ Q (.tup ds) g1
  | .lst as, _, env, g, Q => wqA as false env g fun ds g1 => ds.length ≤ 16777216 ∧ Q (.rol ds) g1
  | .idx a c, _, env, g, Q => wqE a true env g fun x g1 => wqE c true env g1 fun y g2 => idxV x y fun d => Q d g2
  | .sl a lo hi, _, env, g, Q => wqE a true env g fun x g1 => wqO lo env g1 fun l g2 => wqO hi env g2 fun h g3 => slV x l h fun d => Q d g3
  | .lc vs p it c e, _, env, g, Q => wqI it true env g fun xs g1 => lcV (fun x g2 k => wqP p x (wipeD env vs) fun env2 => wqC c env2 g2 fun t g3 =>
      if t = true then wqE e false env2 g3 fun y g4 => k (some y) g4 else k none g3) (fun ys g' => Q (.rol ys) g') xs [] g1
  | .fs as, _, env, g, Q => wqJ as env g [] fun x g1 => Q (.str x) g1
  | .nil, _, _, _, _ | .cons _ _, _, _, _, _ | .iE _, _, _, _, _ | .iR1 _, _, _, _, _ | .iR2 _ _, _, _, _, _ | .iZ _ _, _, _, _, _ | .iN _, _, _, _, _ => False
def wqT : Ex → En → Nat → (Bool → Nat → Prop) → Prop
  | .not a, env, g, Q => wqT a env g fun b g1 => Q (!b) g1
  | .and a c, env, g, Q => wqT a env g fun t g1 => if t = true then wqT c env g1 Q else Q false g1
  | .or a c, env, g, Q => wqT a env g fun t g1 => if t = true then Q true g1 else wqT c env g1 Q
  | .cmp op a c, env, g, Q => wqE a true env g fun x g1 => wqE c true env g1 fun y g2 => cmpV op x y fun z => ∃ k, z = .bl k ∧ Q k g2
  | .chain o1 o2 a b c, env, g, Q => wqE a true env g fun x g1 => wqE b true env g1 fun y g2 => cmpV o1 x y fun z => ∃ k, z = .bl k ∧
      (if k = true then wqE c true env g2 fun w g3 => cmpV o2 y w fun z => ∃ k, z = .bl k ∧ Q k g3 else Q false g2)
  | .var i, env, g, Q => ∃ d, env[i]? = some (some d) ∧ truthV d fun b => Q b g
  | .call f as, env, g, Q => ∃ sp, Φ.q f = some sp ∧ wqA as false env g fun ds g1 => sp ds g1 fun d g2 => truthV d fun b => Q b g2
  | .bi f as, env, g, Q => wqA as true env g fun ds g1 => biV f ds fun d => truthV d fun b => Q b g1
  | .idx a c, env, g, Q => wqE a true env g fun x g1 => wqE c true env g1 fun y g2 => idxV x y fun d => truthV d fun b => Q b g2
  | _, _, _, _ => False
def wqC : Ex → En → Nat → (Bool → Nat → Prop) → Prop
  | .nil, _, g, Q => Q true g
  | .cons c _, env, g, Q => wqT c env g Q
  | _, _, _, _ => False
def wqA : Ex → Bool → En → Nat → (List D → Nat → Prop) → Prop
  | .nil, _, _, g, Q => Q [] g
  | .cons a r, b, env, g, Q => wqE a b env g fun x g1 => wqA r b env g1 fun xs g2 => Q (x :: xs) g2
  | _, _, _, _, _ => False
def wqO : Ex → En → Nat → (Option Int → Nat → Prop) → Prop
  | .nil, _, g, Q => Q none g
  | .cons a _, env, g, Q => wqE a true env g fun x g1 => ∃ i, x = .int i ∧ Q (some i) g1
  | _, _, _, _ => False
def wqI : Ex → Bool → En → Nat → (List D → Nat → Prop) → Prop
  | .iE a, b, env, g, K => wqE a b env g fun x g1 => ∃ xs, itV x = some xs ∧ K xs g1
  | .iR1 a, _, env, g, K => wqE a true env g fun x g1 => rng1V x fun xs => K xs g1
  | .iR2 a c, _, env, g, K => wqE a true env g fun x g1 => wqE c true env g1 fun y g2 => rng2V x y fun xs => K xs g2
  | .iZ a c, b, env, g, K => wqE a b env g fun x g1 => wqE c b env g1 fun y g2 => ∃ xs ys, itV x = some xs ∧ itV y = some ys ∧ K (zipD xs ys) g2
  | .iN a, b, env, g, K => wqE a b env g fun x g1 => ∃ xs, itV x = some xs ∧ K (enumD 0 xs) g1
  | _, _, _, _, _ => False
def wqJ : Ex → En → Nat → List Nat → (List Nat → Nat → Prop) → Prop
  | .nil, _, g, acc, Q => Q acc g
  | .cons a r, env, g, acc, Q => wqE a true env g fun x g1 => fmtV x fun z => acc.length + z.length ≤ 16777216 ∧ wqJ r env g1 (acc ++ z) Q
  | _, _, _, _, _ => False
end
end
/-! ### they stand for the store's -/
/-- a promise over values as one over the store -/
def lift2 (sp : Spec2) : Spec := fun es S Q => ∃ p q O g ds R, OkO p q O S g ∧ VFs p O S ds es ∧ sp ds g R ∧ ∀ d2 d1 S' g', R d2 g' → ExtB p S S' → Deck S' p q g' → VF p O S' d2 d1 → Q d1 S'
def tab1 (Φ : Tab2) : Tab := fun i => match Φ.q i with
  | some sp => some (lift2 sp)
  | none => Φ.w i
structure RelV2 (p : Addr) (O : Own) (M : List Nat) (S : Sto) (env env1 : En) : Prop where
  len : env.length = env1.length
  var : ∀ i d, env[i]? = some (some d) → ∃ e, env1[i]? = some (some e) ∧ VB (ownB M i) p O S d e
section
variable {p q : Addr} {O : Own} {M : List Nat} {S S' : Sto} {g : Nat} {env env1 : En}
theorem VB.own {b : Bool} {x d : D} {a : Addr} (h : VB b p O S x d) (f : S a = none) : VB b p (fun c => O c ∨ c = a) S x d := by
  unfold VB at h ⊢
  cases b
  · simp only [Bool.false_eq_true, if_false] at h ⊢; exact h.own f
  · simp only [if_true] at h ⊢; exact h.own f
theorem RelV2.ext (h : RelV2 p O M S env env1) (e : ExtB p S S') : RelV2 p O M S' env env1 :=
  ⟨h.len, fun i d q => let ⟨x, a, b⟩ := h.var i d q; ⟨x, a, b.ext e⟩⟩
theorem RelV2.own (h : RelV2 p O M S env env1) {a : Addr} (f : S a = none) : RelV2 p (fun b => O b ∨ b = a) M S env env1 :=
  ⟨h.len, fun i d q => let ⟨x, a, b⟩ := h.var i d q; ⟨x, a, b.own f⟩⟩
theorem RelV2.set (h : RelV2 p O M S env env1) (i : Nat) {d e : D} (v : VF p O S d e) : RelV2 p O M S (env.set i (some d)) (env1.set i (some e)) := by
  refine ⟨by simp [h.len], fun j x q => ?_⟩
  by_cases hj : i = j
  · subst hj
    by_cases hi : i < env.length
    · rw [List.getElem?_set_self hi] at q
      cases q
      exact ⟨e, List.getElem?_set_self (by rw [← h.len]; exact hi), v.vb _⟩
    · rw [List.getElem?_eq_none (by simpa using hi)] at q; cases q
  · rw [List.getElem?_set_ne hj] at q ⊢
    exact h.var j x q
theorem RelV2.wipe1 (h : RelV2 p O M S env env1) (i : Nat) : RelV2 p O M S (env.set i none) (env1.set i none) := by
  refine ⟨by simp [h.len], fun j x q => ?_⟩
  by_cases hj : i = j
  · subst hj
    by_cases hi : i < env.length
    · rw [List.getElem?_set_self hi] at q
      cases q
    · rw [List.getElem?_eq_none (by simpa using hi)] at q; cases q
  · rw [List.getElem?_set_ne hj] at q ⊢
    exact h.var j x q
theorem RelV2.wipe (h : RelV2 p O M S env env1) : ∀ vs : List Nat, RelV2 p O M S (wipeD env vs) (wipeD env1 vs)
  | [] => h
  | v :: vs => (h.wipe vs).wipe1 v
mutual
theorem wqP_ok : ∀ (t : Pt) {d e : D} {env env1 : En} {Q Q1 : En → Prop}, RelV2 p O M S env env1 → VF p O S d e → wqP t d env Q → (∀ env' env1', Q env' → RelV2 p O M S env' env1' → Q1 env1') → wpP t e S env1 Q1
  | .v i, d, e, env, env1, Q, Q1, r, v, h, k => by
    simp only [wqP] at h
    simp only [wpP]
    exact k _ _ h (r.set i v)
  | .t t, d, e, env, env1, Q, Q1, r, v, h, k => by
    simp only [wpP]
    cases d with
    | tup ds =>
      simp only [wqP] at h
      simp only [VF] at v
      obtain ⟨es, rfl, w⟩ := v
      exact ⟨es, rfl, wqPs_ok t r w h k⟩
    | rol ds =>
      simp only [wqP] at h
      simp only [VF] at v
      obtain ⟨a, es, rfl, _, _, s, w⟩ := v
      exact ⟨es, by rw [seqD_r]; exact s, wqPs_ok t r w h k⟩
    | _ => simp only [wqP] at h
  | .nil, d, e, env, env1, Q, Q1, r, v, h, k => by simp only [wqP] at h
  | .cons _ _, d, e, env, env1, Q, Q1, r, v, h, k => by simp only [wqP] at h
theorem wqPs_ok : ∀ (t : Pt) {ds es : List D} {env env1 : En} {Q Q1 : En → Prop}, RelV2 p O M S env env1 → VFs p O S ds es → wqPs t ds env Q → (∀ env' env1', Q env' → RelV2 p O M S env' env1' → Q1 env1') → wpPs t es S env1 Q1
  | .nil, ds, es, env, env1, Q, Q1, r, v, h, k => by
    cases ds with
    | nil =>
      simp only [VFs] at v
      subst v
      simp only [wqPs] at h
      simp only [wpPs]
      exact k _ _ h r
    | cons _ _ => simp only [wqPs] at h
  | .cons a t, ds, es, env, env1, Q, Q1, r, v, h, k => by
    cases ds with
    | nil => simp only [wqPs] at h
    | cons d ds =>
      simp only [VFs] at v
      obtain ⟨e, es, rfl, v, w⟩ := v
      simp only [wqPs] at h
      simp only [wpPs]
      exact wqP_ok a r v h fun env' env1' h' r' => wqPs_ok t r' w h' k
  | .v _, ds, es, env, env1, Q, Q1, r, v, h, k => by cases ds <;> simp only [wqPs] at h
  | .t _, ds, es, env, env1, Q, Q1, r, v, h, k => by cases ds <;> simp only [wqPs] at h
end
end
end G57
set_option Elab.async false
set_option linter.all false
set_option maxRecDepth 100000
set_option maxHeartbeats 800000
namespace G57
open PySem L2
/-! what holds over values holds over the store -/
def PE2 (b : Bool) (p q : Addr) (O : Own) (S : Sto) (Q : QK) (Q1 : DK) : Prop := ∀ d2 d1 S' g', Q d2 g' → ExtB p S S' → Deck S' p q g' → VB b p O S' d2 d1 → Q1 d1 S'
def PT2 (p q : Addr) (S : Sto) (Q : Bool → Nat → Prop) (Q1 : Bool → Sto → Prop) : Prop := ∀ b S' g', Q b g' → ExtB p S S' → Deck S' p q g' → Q1 b S'
def PA2 (b : Bool) (p q : Addr) (O : Own) (S : Sto) (Q : List D → Nat → Prop) (Q1 : List D → Sto → Prop) : Prop := ∀ ds es S' g', Q ds g' → ExtB p S S' → Deck S' p q g' → (if b = true then VTs p O S' ds es else VFs p O S' ds es) → Q1 es S'
def PO2 (p q : Addr) (S : Sto) (Q : Option Int → Nat → Prop) (Q1 : Option Int → Sto → Prop) : Prop := ∀ o S' g', Q o g' → ExtB p S S' → Deck S' p q g' → Q1 o S'
def PJ2 (p q : Addr) (S : Sto) (Q : List Nat → Nat → Prop) (Q1 : List Nat → Sto → Prop) : Prop := ∀ o S' g', Q o g' → ExtB p S S' → Deck S' p q g' → Q1 o S'
def ExtO (b : Bool) (p : Addr) (O : Own) (S S' : Sto) : Prop := ∀ a o, (b = true ∨ ¬ O a) → a ≠ p → S a = some o → S' a = some o
def PI2 (b : Bool) (p q : Addr) (O : Own) (S : Sto) (Q : List D → Nat → Prop) (K : IK) : Prop := ∀ ds es (G : Sto → Prop) S' g', Q ds g' → ExtB p S S' → Deck S' p q g' → VFs p O S' ds es → (∀ S'', ExtO b p O S' S'' → G S'') → K es G S'
section
variable {p q : Addr} {M : List Nat} {Φ : Tab2}
theorem truthV_mono {x : D} {A B : Bool → Prop} (h : truthV x A) (m : ∀ b, A b → B b) : truthV x B := by
  cases x <;> simp only [truthV] at h ⊢ <;> first | exact m _ h | exact ⟨h.1, m _ h.2⟩
theorem post_of {O : Own} {S S1 : Sto} {b : Bool} {Q : QK} {Q1 : DK} {g : Nat} (P : PE2 b p q O S Q Q1) (e : ExtB p S S1) : Post p q O S1 g (fun d => Q d g) Q1 :=
  fun d2 d1 S' r e' dk v => P d2 d1 S' g r (e.trans e') dk (v.vb b)
theorem vmap_str {O : Own} {S : Sto} : ∀ x : List Nat, VFs p O S (x.map fun c => .str [c]) (x.map fun c => .str [c])
  | [] => .nil
  | c :: x => .cons .s (vmap_str x)
theorem vmap_int {O : Own} {S : Sto} {f : Nat → Int} : ∀ x : List Nat, VFs p O S (x.map fun c => .int (f c)) (x.map fun c => .int (f c))
  | [] => .nil
  | c :: x => .cons .i (vmap_int x)
theorem vmap_rng {O : Own} {S : Sto} {m n : Int} : VFs p O S (rngD m n) (rngD m n) := vmap_int _
theorem zip_ok {O : Own} {S : Sto} : ∀ {xs ys es fs : List D}, VFs p O S xs es → VFs p O S ys fs → VFs p O S (zipD xs ys) (zipD es fs)
  | [], ys, es, fs, h, g => by simp only [VFs] at h; subst h; simp only [zipD]; exact .nil
  | x :: xs, [], es, fs, h, g => by
    simp only [VFs] at g; subst g
    cases es <;> (simp only [zipD]; exact .nil)
  | x :: xs, y :: ys, es, fs, h, g => by
    simp only [VFs] at h g
    obtain ⟨e, r, rfl, v, w⟩ := h
    obtain ⟨e', r', rfl, v', w'⟩ := g
    simp only [zipD]
    exact .cons (.tup (.cons v (.cons v' .nil))) (zip_ok w w')
theorem enum_ok {O : Own} {S : Sto} : ∀ {xs es : List D} (n : Nat), VFs p O S xs es → VFs p O S (enumD n xs) (enumD n es)
  | [], es, n, h => by simp only [VFs] at h; subst h; simp only [enumD]; exact .nil
  | x :: xs, es, n, h => by
    simp only [VFs] at h
    obtain ⟨e, r, rfl, v, w⟩ := h
    simp only [enumD]
    exact .cons (.tup (.cons .i (.cons v .nil))) (enum_ok (n + 1) w)
/-- what is walked -/
theorem src_ok {O : Own} {S : Sto} {b : Bool} {x x1 : D} {xs : List D} (v : VB b p O S x x1) (h : itV x = some xs) : ∃ es G, srcD S x1 = some (es, G) ∧ VFs p O S xs es ∧ ∀ S'', ExtO b p O S S'' → G S'' := by
  cases x with
  | tup ds =>
    cases h
    obtain ⟨es, rfl, w⟩ := v.vt.tup_inv
    exact ⟨es, _, rfl, w, fun _ _ => trivial⟩
  | str z =>
    cases h
    cases v.vt.str_inv
    exact ⟨_, _, rfl, vmap_str z, fun _ _ => trivial⟩
  | rol ds =>
    cases h
    unfold VB at v
    cases b
    · simp only [Bool.false_eq_true, if_false, VF] at v
      obtain ⟨a, es, rfl, n, np, s, w⟩ := v
      exact ⟨es, _, by simp only [srcD, s], w, fun S'' e => e a _ (.inr n) np s⟩
    · simp only [if_true] at v
      obtain ⟨a, es, rfl, np, s, w⟩ := v.rol_inv
      exact ⟨es, _, by simp only [srcD, s], w, fun S'' e => e a _ (.inl rfl) np s⟩
  | _ => cases h
theorem iter_ok {O : Own} {S : Sto} {b : Bool} {x x1 : D} {xs : List D} (v : VB b p O S x x1) (h : itV x = some xs) {K : IK} (k : ∀ es G, VFs p O S xs es → (∀ S'', ExtO b p O S S'' → G S'') → K es G S) : iterD x1 S K := by
  cases x with
  | tup ds =>
    cases h
    obtain ⟨es, rfl, w⟩ := v.vt.tup_inv
    exact k _ _ w fun _ _ => trivial
  | str z =>
    cases h
    cases v.vt.str_inv
    exact k _ _ (vmap_str z) fun _ _ => trivial
  | rol ds =>
    cases h
    unfold VB at v
    cases b
    · simp only [Bool.false_eq_true, if_false, VF] at v
      obtain ⟨a, es, rfl, n, np, s, w⟩ := v
      exact ⟨es, s, k _ _ w fun S'' e => e a _ (.inr n) np s⟩
    · simp only [if_true] at v
      obtain ⟨a, es, rfl, np, s, w⟩ := v.rol_inv
      exact ⟨es, s, k _ _ w fun S'' e => e a _ (.inl rfl) np s⟩
  | _ => cases h
/-- a comprehension's turns -/
theorem lc_ok {O : Own} {S1 : Sto} {a : Addr} {G : Sto → Prop} {b2 : D → Nat → (Option D → Nat → Prop) → Prop} {b1 : D → Sto → (Option D → Sto → Prop) → Prop} {Q : List D → Nat → Prop} {Q1 : Sto → Prop} (fa : S1 a = none)
    (hG : ∀ S, ExtB p S1 S → G S)
    (hb : ∀ x x1 S g k2 k1, OkO p q (fun c => O c ∨ c = a) S g → ExtB p S1 S → VF p (fun c => O c ∨ c = a) S x x1 → b2 x g k2 →
      (∀ y y1 S' g', k2 y g' → ExtB p S S' → Deck S' p q g' → (match y, y1 with | none, none => True | some y, some y1 => VF p (fun c => O c ∨ c = a) S' y y1 | _, _ => False) → k1 y1 S') → b1 x1 S k1) :
    ∀ (xs xs1 acc acc1 : List D) (S : Sto) (g : Nat), OkO p q (fun c => O c ∨ c = a) S g → ExtB p S1 S → S a = some (.lst acc1) → VFs p (fun c => O c ∨ c = a) S acc acc1 → VFs p (fun c => O c ∨ c = a) S xs xs1 →
      lcV b2 Q xs acc g → (∀ acc acc1 S g, Q acc g → OkO p q (fun c => O c ∨ c = a) S g → ExtB p S1 S → S a = some (.lst acc1) → VFs p (fun c => O c ∨ c = a) S acc acc1 → Q1 S) → lcRun a G b1 Q1 xs1 acc1 S
  | [], xs1, acc, acc1, S, g, k, e, sa, va, vx, h, hq => by
    simp only [VFs] at vx
    subst vx
    simp only [lcV] at h
    simp only [lcRun]
    exact hq _ _ _ _ h k e sa va
  | x :: xs, xs1, acc, acc1, S, g, k, e, sa, va, vx, h, hq => by
    simp only [VFs] at vx
    obtain ⟨x1, r, rfl, v, w⟩ := vx
    simp only [lcV] at h
    simp only [lcRun]
    have hap : a ≠ p := fun z => k.np (.inr z.symm)
    refine hb x x1 S g _ _ k e v h fun y y1 S' g' h' e' dk' vy => ?_
    have k' := k.ext e' dk'
    have sa' := e' a _ hap sa
    refine ⟨sa', ?_⟩
    cases y with
    | none =>
      cases y1 with
      | some _ => exact vy.elim
      | none =>
        simp only at h' ⊢
        exact ⟨hG _ (e.trans e'), lc_ok fa hG hb xs r acc acc1 S' g' k' (e.trans e') sa' (va.ext e') (w.ext e') h' hq⟩
    | some y =>
      cases y1 with
      | none => exact vy.elim
      | some y1 =>
        simp only at h' vy ⊢
        have hl : acc1.length < 16777216 := by rw [← va.length]; exact h'.1
        have e'' : ExtB p S1 (put S' a (.lst (acc1 ++ [y1]))) := fun c o nc s => by
          rw [put_ne (fun z => by rw [z, fa] at s; cases s)]
          exact e' c o nc (e c o nc s)
        have k'' : OkO p q (fun c => O c ∨ c = a) (put S' a (.lst (acc1 ++ [y1]))) g' := by
          refine ⟨k'.dk.put (fun z => hap z.symm) (fun z => k.nq (.inr z)), fun c hc z => ?_, k.np, k.nq⟩
          by_cases hca : c = a
          · rw [hca, put_same] at z; cases z
          · rw [put_ne hca] at z; exact k'.dom c hc z
        exact ⟨hl, hG _ e'', lc_ok fa hG hb xs r (acc ++ [y]) (acc1 ++ [y1]) _ g' k'' e'' put_same (((va.ext e').append (.cons vy .nil)).write (.inr rfl)) ((w.ext e').write (.inr rfl)) h'.2 hq⟩
mutual
theorem sndE : ∀ (e : Ex) {b : Bool} {O : Own} {env env1 : En} {S : Sto} {g : Nat} {Q : QK} {Q1 : DK}, OkO p q O S g → RelV2 p O M S env env1 → wqE M Φ e b env g Q → PE2 b p q O S Q Q1 → wpE (tab1 Φ) e env1 S Q1
  | .var i, b, O, env, env1, S, g, Q, Q1, k, r, h, P => by
    simp only [wqE] at h
    obtain ⟨hb, d, e, h⟩ := h
    obtain ⟨d1, e1, v⟩ := r.var i d e
    simp only [wpE]
    refine ⟨d1, e1, P d d1 S g h ExtB.refl k.dk ?_⟩
    cases b with
    | true => exact v.vt
    | false =>
      have ho : ownB M i = false := by simpa using hb
      rw [ho] at v
      exact v
  | .con d, b, O, env, env1, S, g, Q, Q1, k, r, h, P => by
    simp only [wqE] at h
    simp only [wpE]
    refine P d d S g h.2 ExtB.refl k.dk (VF.vb _ ?_)
    cases d <;> first | exact .n | exact .b | exact .i | exact .s | cases h.1
  | .bin op a c, b, O, env, env1, S, g, Q, Q1, k, r, h, P => by
    simp only [wqE] at h
    simp only [wpE]
    refine sndE a k r h fun x x1 S1 g1 h1 e1 dk1 v1 => sndE c (k.ext e1 dk1) (r.ext e1) h1 fun y y1 S2 g2 h2 e2 dk2 v2 => ?_
    exact opV_ok op (k.ext (e1.trans e2) dk2) (v1.vt.ext e2) v2.vt h2 (post_of P (e1.trans e2))
  | .neg a, b, O, env, env1, S, g, Q, Q1, k, r, h, P => by
    simp only [wqE] at h
    simp only [wpE]
    exact sndE a k r h fun x x1 S1 g1 h1 e1 dk1 v1 => negV_ok (k.ext e1 dk1) v1.vt h1 (post_of P e1)
  | .not a, b, O, env, env1, S, g, Q, Q1, k, r, h, P => by
    simp only [wqE] at h
    simp only [wpE]
    refine sndE a k r h fun x x1 S1 g1 h1 e1 dk1 v1 => truthV_ok v1.vt ?_
    revert h1
    cases x <;> simp only [truthV] <;> first | exact fun h => h.elim | exact fun h => P _ _ _ _ h e1 dk1 (VF.vb _ .b) | exact fun h => ⟨h.1, P _ _ _ _ h.2 e1 dk1 (VF.vb _ .b)⟩
  | .cmp op a c, b, O, env, env1, S, g, Q, Q1, k, r, h, P => by
    simp only [wqE] at h
    simp only [wpE]
    refine sndE a k r h fun x x1 S1 g1 h1 e1 dk1 v1 => sndE c (k.ext e1 dk1) (r.ext e1) h1 fun y y1 S2 g2 h2 e2 dk2 v2 => ?_
    exact cmpV_ok op (k.ext (e1.trans e2) dk2) (v1.vt.ext e2) v2.vt h2 (post_of P (e1.trans e2))
  | .chain o1 o2 a c d, b, O, env, env1, S, g, Q, Q1, k, r, h, P => by
    simp only [wqE] at h
    simp only [wpE]
    refine sndE a k r h fun x x1 S1 g1 h1 e1 dk1 v1 => sndE c (k.ext e1 dk1) (r.ext e1) h1 fun y y1 S2 g2 h2 e2 dk2 v2 => ?_
    have e12 := e1.trans e2
    refine cmpV_ok o1 (k.ext e12 dk2) (v1.vt.ext e2) v2.vt h2 fun z z1 S3 h3 e3 dk3 v3 => ?_
    obtain ⟨t, rfl, h3⟩ := h3
    have e13 := e12.trans e3
    refine ⟨t, v3.vt.bl_inv, ?_⟩
    cases t with
    | false => simp only [Bool.false_eq_true, if_false] at h3 ⊢; exact P _ _ _ _ h3 e13 dk3 (VF.vb _ .b)
    | true =>
      simp only [if_true] at h3 ⊢
      refine sndE d (k.ext e13 dk3) (r.ext e13) h3 fun w w1 S4 g4 h4 e4 dk4 v4 => ?_
      exact cmpV_ok o2 (k.ext (e13.trans e4) dk4) (v2.vt.ext (e3.trans e4)) v4.vt h4 (post_of P (e13.trans e4))
  | .and a c, b, O, env, env1, S, g, Q, Q1, k, r, h, P => by
    simp only [wqE] at h
    simp only [wpE]
    refine sndE a k r h fun x x1 S1 g1 h1 e1 dk1 v1 => truthV_ok v1.vt ?_
    have fin : ∀ t : Bool, (if t = true then wqE M Φ c b env g1 Q else Q x g1) → (if t = true then wpE (tab1 Φ) c env1 S1 Q1 else Q1 x1 S1) := fun t ht => by
      cases t with
      | false => simp only [Bool.false_eq_true, if_false] at ht ⊢; exact P _ _ _ _ ht e1 dk1 v1
      | true =>
        simp only [if_true] at ht ⊢
        exact sndE c (k.ext e1 dk1) (r.ext e1) ht fun y y1 S2 g2 h2 e2 dk2 v2 => P _ _ _ _ h2 (e1.trans e2) dk2 v2
    revert h1
    cases x <;> simp only [truthV] <;> first | exact fun h => h.elim | exact fun h => ⟨h.1, fin _ h.2⟩ | exact fun h => fin _ h
  | .or a c, b, O, env, env1, S, g, Q, Q1, k, r, h, P => by
    simp only [wqE] at h
    simp only [wpE]
    refine sndE a k r h fun x x1 S1 g1 h1 e1 dk1 v1 => truthV_ok v1.vt ?_
    have fin : ∀ t : Bool, (if t = true then Q x g1 else wqE M Φ c b env g1 Q) → (if t = true then Q1 x1 S1 else wpE (tab1 Φ) c env1 S1 Q1) := fun t ht => by
      cases t with
      | true => simp only [if_true] at ht ⊢; exact P _ _ _ _ ht e1 dk1 v1
      | false =>
        simp only [Bool.false_eq_true, if_false] at ht ⊢
        exact sndE c (k.ext e1 dk1) (r.ext e1) ht fun y y1 S2 g2 h2 e2 dk2 v2 => P _ _ _ _ h2 (e1.trans e2) dk2 v2
    revert h1
    cases x <;> simp only [truthV] <;> first | exact fun h => h.elim | exact fun h => ⟨h.1, fin _ h.2⟩ | exact fun h => fin _ h
  | .ite c a d, b, O, env, env1, S, g, Q, Q1, k, r, h, P => by
    simp only [wqE] at h
    simp only [wpE]
    refine sndT c k r h fun t S1 g1 h1 e1 dk1 => ?_
    cases t with
    | true => simp only [if_true] at h1 ⊢; exact sndE a (k.ext e1 dk1) (r.ext e1) h1 fun y y1 S2 g2 h2 e2 dk2 v2 => P _ _ _ _ h2 (e1.trans e2) dk2 v2
    | false => simp only [Bool.false_eq_true, if_false] at h1 ⊢; exact sndE d (k.ext e1 dk1) (r.ext e1) h1 fun y y1 S2 g2 h2 e2 dk2 v2 => P _ _ _ _ h2 (e1.trans e2) dk2 v2
  | .call f as, b, O, env, env1, S, g, Q, Q1, k, r, h, P => by
    simp only [wqE] at h
    simp only [wpE]
    obtain ⟨sp, hf, h⟩ := h
    refine ⟨lift2 sp, by simp only [tab1, hf], sndA as k r h fun ds es S1 g1 h1 e1 dk1 v1 => ?_⟩
    simp only [Bool.false_eq_true, if_false] at v1
    exact ⟨p, q, O, g1, ds, Q, k.ext e1 dk1, v1, h1, fun d2 d1 S' g' hQ e' dk' v' => P _ _ _ _ hQ (e1.trans e') dk' (v'.vb _)⟩
  | .bi f as, b, O, env, env1, S, g, Q, Q1, k, r, h, P => by
    simp only [wqE] at h
    simp only [wpE]
    refine sndA as k r h fun ds es S1 g1 h1 e1 dk1 v1 => ?_
    simp only [if_true] at v1
    exact biV_ok f (k.ext e1 dk1) v1 h1 (post_of P e1)
  | .mt m o as, b, O, env, env1, S, g, Q, Q1, k, r, h, P => by
    simp only [wqE] at h
    simp only [wpE]
    refine sndE o k r h fun x x1 S1 g1 h1 e1 dk1 v1 => ⟨?_, sndA as (k.ext e1 dk1) (r.ext e1) h1.2 fun ds es S2 g2 h2 e2 dk2 v2 => ?_⟩
    · have := h1.1
      cases m <;> cases x <;> first | exact this.elim | (cases v1.vt.str_inv; trivial)
    · simp only [if_true] at v2
      exact (mtV_ok m (k.ext (e1.trans e2) dk2) (v1.vt.ext e2) v2 h2 (post_of P (e1.trans e2))).2
  | .tup as, b, O, env, env1, S, g, Q, Q1, k, r, h, P => by
    simp only [wqE] at h
    simp only [wpE]
    refine sndA as k r h fun ds es S1 g1 h1 e1 dk1 v1 => ?_
    simp only [Bool.false_eq_true, if_false] at v1
    exact ⟨by rw [← v1.length]; exact h1.1, P _ _ _ _ h1.2 e1 dk1 (VF.vb _ (.tup v1))⟩
  | .lst as, b, O, env, env1, S, g, Q, Q1, k, r, h, P => by
    simp only [wqE] at h
    simp only [wpE]
    refine sndA as k r h fun ds es S1 g1 h1 e1 dk1 v1 => ?_
    simp only [Bool.false_eq_true, if_false] at v1
    exact ⟨by rw [← v1.length]; exact h1.1, fun a f => (post_of P e1).new (R := fun d => Q d g1) (k.ext e1 dk1) h1.2 v1 a f⟩
  | .idx a c, b, O, env, env1, S, g, Q, Q1, k, r, h, P => by
    simp only [wqE] at h
    simp only [wpE]
    refine sndE a k r h fun x x1 S1 g1 h1 e1 dk1 v1 => sndE c (k.ext e1 dk1) (r.ext e1) h1 fun y y1 S2 g2 h2 e2 dk2 v2 => ?_
    exact idxV_ok (k.ext (e1.trans e2) dk2) (v1.vt.ext e2) v2.vt h2 (post_of P (e1.trans e2))
  | .sl a lo hi, b, O, env, env1, S, g, Q, Q1, k, r, h, P => by
    simp only [wqE] at h
    simp only [wpE]
    refine sndE a k r h fun x x1 S1 g1 h1 e1 dk1 v1 => sndO lo (k.ext e1 dk1) (r.ext e1) h1 fun l S2 g2 h2 e2 dk2 => ?_
    refine sndO hi (k.ext (e1.trans e2) dk2) (r.ext (e1.trans e2)) h2 fun l' S3 g3 h3 e3 dk3 => ?_
    exact slV_ok (k.ext (e1.trans (e2.trans e3)) dk3) (v1.vt.ext (e2.trans e3)) h3 (post_of P (e1.trans (e2.trans e3)))
  | .lc vs t it c e, b, O, env, env1, S, g, Q, Q1, k, r, h, P => by
    simp only [wqE] at h
    simp only [wpE]
    refine sndI it k r h fun xs xs1 G S1 g1 h1 e1 dk1 v1 hG a fa => ?_
    have k1 := k.ext e1 dk1
    obtain ⟨n1, n2, n3⟩ := k1.fresh fa
    have hG' : ∀ S', ExtB p S1 S' → G S' := fun S' e' => hG S' fun c o _ nc s => e' c o nc s
    have eA : ExtB p S1 (put S1 a (.lst [])) := (Ext.put fa).but
    have kA : OkO p q (fun c => O c ∨ c = a) (put S1 a (.lst [])) g1 := by
      refine ⟨dk1.put n1 n2, fun c hc z => ?_, fun z => z.elim k.np n1, fun z => z.elim k.nq n2⟩
      by_cases hca : c = a
      · rw [hca, put_same] at z; cases z
      · rw [put_ne hca] at z
        exact k1.dom c (hc.resolve_right hca) z
    refine ⟨hG' _ eA, ?_⟩
    refine lc_ok (q := q) (O := O) fa hG' (fun x x1 S2 g2 k2 k1' kk e2 v2 h2 hk => ?_) xs xs1 [] [] _ g1 kA eA put_same .nil ((v1.own fa).ext eA) h1 fun acc acc1 S2 g2 h2 kk e2 s2 v2 => ?_
    · have r2 : RelV2 p (fun c => O c ∨ c = a) M S2 (wipeD env vs) (wipeD env1 vs) := (((r.ext e1).own fa).ext e2).wipe vs
      refine wqP_ok t r2 v2 h2 fun env' env1' h3 r3 => ?_
      refine sndC c kk r3 h3 fun tt S3 g3 h4 e4 dk4 => ?_
      cases tt with
      | false =>
        simp only [Bool.false_eq_true, if_false] at h4 ⊢
        exact hk none none S3 g3 h4 e4 dk4 trivial
      | true =>
        simp only [if_true] at h4 ⊢
        refine sndE e (kk.ext e4 dk4) (r3.ext e4) h4 fun y y1 S4 g4 h5 e5 dk5 v5 => ?_
        exact hk (some y) (some y1) S4 g4 h5 (e4.trans e5) dk5 v5
    · refine P _ _ S2 g2 h2 (e1.trans e2) kk.dk (VF.vb _ ?_)
      simp only [VF]
      exact ⟨a, acc1, rfl, n3, fun z => n1 z.symm, s2, v2.less fun c hc => .inl hc⟩
  | .fs as, b, O, env, env1, S, g, Q, Q1, k, r, h, P => by
    simp only [wqE] at h
    simp only [wpE]
    exact sndJ as k r h fun x S1 g1 h1 e1 dk1 => P _ _ _ _ h1 e1 dk1 (VF.vb _ .s)
  | .nil, b, O, env, env1, S, g, Q, Q1, k, r, h, P => by simp only [wqE] at h
  | .cons _ _, b, O, env, env1, S, g, Q, Q1, k, r, h, P => by simp only [wqE] at h
  | .iE _, b, O, env, env1, S, g, Q, Q1, k, r, h, P => by simp only [wqE] at h
  | .iR1 _, b, O, env, env1, S, g, Q, Q1, k, r, h, P => by simp only [wqE] at h
  | .iR2 _ _, b, O, env, env1, S, g, Q, Q1, k, r, h, P => by simp only [wqE] at h
  | .iZ _ _, b, O, env, env1, S, g, Q, Q1, k, r, h, P => by simp only [wqE] at h
  | .iN _, b, O, env, env1, S, g, Q, Q1, k, r, h, P => by simp only [wqE] at h
theorem sndT : ∀ (e : Ex) {O : Own} {env env1 : En} {S : Sto} {g : Nat} {Q : Bool → Nat → Prop} {Q1 : Bool → Sto → Prop}, OkO p q O S g → RelV2 p O M S env env1 → wqT M Φ e env g Q → PT2 p q S Q Q1 → wpT (tab1 Φ) e env1 S Q1
  | .not a, O, env, env1, S, g, Q, Q1, k, r, h, P => by
    simp only [wqT] at h
    simp only [wpT]
    exact sndT a k r h fun t S1 g1 h1 e1 dk1 => P _ _ _ h1 e1 dk1
  | .and a c, O, env, env1, S, g, Q, Q1, k, r, h, P => by
    simp only [wqT] at h
    simp only [wpT]
    refine sndT a k r h fun t S1 g1 h1 e1 dk1 => ?_
    cases t with
    | false => simp only [Bool.false_eq_true, if_false] at h1 ⊢; exact P _ _ _ h1 e1 dk1
    | true =>
      simp only [if_true] at h1 ⊢
      exact sndT c (k.ext e1 dk1) (r.ext e1) h1 fun t S2 g2 h2 e2 dk2 => P _ _ _ h2 (e1.trans e2) dk2
  | .or a c, O, env, env1, S, g, Q, Q1, k, r, h, P => by
    simp only [wqT] at h
    simp only [wpT]
    refine sndT a k r h fun t S1 g1 h1 e1 dk1 => ?_
    cases t with
    | true => simp only [if_true] at h1 ⊢; exact P _ _ _ h1 e1 dk1
    | false =>
      simp only [Bool.false_eq_true, if_false] at h1 ⊢
      exact sndT c (k.ext e1 dk1) (r.ext e1) h1 fun t S2 g2 h2 e2 dk2 => P _ _ _ h2 (e1.trans e2) dk2
  | .cmp op a c, O, env, env1, S, g, Q, Q1, k, r, h, P => by
    simp only [wqT] at h
    simp only [wpT]
    refine sndE a k r h fun x x1 S1 g1 h1 e1 dk1 v1 => sndE c (k.ext e1 dk1) (r.ext e1) h1 fun y y1 S2 g2 h2 e2 dk2 v2 => ?_
    refine cmpV_ok op (k.ext (e1.trans e2) dk2) (v1.vt.ext e2) v2.vt h2 fun z z1 S3 h3 e3 dk3 v3 => ?_
    obtain ⟨t, rfl, h3⟩ := h3
    exact ⟨t, v3.vt.bl_inv, P _ _ _ h3 (e1.trans (e2.trans e3)) dk3⟩
  | .chain o1 o2 a c d, O, env, env1, S, g, Q, Q1, k, r, h, P => by
    simp only [wqT] at h
    simp only [wpT]
    refine sndE a k r h fun x x1 S1 g1 h1 e1 dk1 v1 => sndE c (k.ext e1 dk1) (r.ext e1) h1 fun y y1 S2 g2 h2 e2 dk2 v2 => ?_
    have e12 := e1.trans e2
    refine cmpV_ok o1 (k.ext e12 dk2) (v1.vt.ext e2) v2.vt h2 fun z z1 S3 h3 e3 dk3 v3 => ?_
    obtain ⟨t, rfl, h3⟩ := h3
    have e13 := e12.trans e3
    refine ⟨t, v3.vt.bl_inv, ?_⟩
    cases t with
    | false => simp only [Bool.false_eq_true, if_false] at h3 ⊢; exact P _ _ _ h3 e13 dk3
    | true =>
      simp only [if_true] at h3 ⊢
      refine sndE d (k.ext e13 dk3) (r.ext e13) h3 fun w w1 S4 g4 h4 e4 dk4 v4 => ?_
      refine cmpV_ok o2 (k.ext (e13.trans e4) dk4) (v2.vt.ext (e3.trans e4)) v4.vt h4 fun z z1 S5 h5 e5 dk5 v5 => ?_
      obtain ⟨t, rfl, h5⟩ := h5
      exact ⟨t, v5.vt.bl_inv, P _ _ _ h5 (e13.trans (e4.trans e5)) dk5⟩
  | .var i, O, env, env1, S, g, Q, Q1, k, r, h, P => by
    simp only [wqT] at h
    obtain ⟨d, e, h⟩ := h
    obtain ⟨d1, e1, v⟩ := r.var i d e
    simp only [wpT]
    refine ⟨d1, e1, truthV_ok v.vt (truthV_mono h fun b hb => P _ _ _ hb ExtB.refl k.dk)⟩
  | .call f as, O, env, env1, S, g, Q, Q1, k, r, h, P => by
    simp only [wqT] at h
    simp only [wpT]
    obtain ⟨sp, hf, h⟩ := h
    refine ⟨lift2 sp, by simp only [tab1, hf], sndA as k r h fun ds es S1 g1 h1 e1 dk1 v1 => ?_⟩
    simp only [Bool.false_eq_true, if_false] at v1
    exact ⟨p, q, O, g1, ds, _, k.ext e1 dk1, v1, h1, fun d2 d1 S' g' hQ e' dk' v' => truthV_ok v'.vt (truthV_mono hQ fun b hb => P _ _ _ hb (e1.trans e') dk')⟩
  | .bi f as, O, env, env1, S, g, Q, Q1, k, r, h, P => by
    simp only [wqT] at h
    simp only [wpT]
    refine sndA as k r h fun ds es S1 g1 h1 e1 dk1 v1 => ?_
    simp only [if_true] at v1
    exact biV_ok f (k.ext e1 dk1) v1 h1 fun d2 d1 S' hQ e' dk' v' => truthV_ok v'.vt (truthV_mono hQ fun b hb => P _ _ _ hb (e1.trans e') dk')
  | .idx a c, O, env, env1, S, g, Q, Q1, k, r, h, P => by
    simp only [wqT] at h
    simp only [wpT]
    refine sndE a k r h fun x x1 S1 g1 h1 e1 dk1 v1 => sndE c (k.ext e1 dk1) (r.ext e1) h1 fun y y1 S2 g2 h2 e2 dk2 v2 => ?_
    exact idxV_ok (k.ext (e1.trans e2) dk2) (v1.vt.ext e2) v2.vt h2 fun d2 d1 S' hQ e' dk' v' => truthV_ok v'.vt (truthV_mono hQ fun b hb => P _ _ _ hb (e1.trans (e2.trans e')) dk')
  | .con _, O, env, env1, S, g, Q, Q1, k, r, h, P => by simp only [wqT] at h
  | .bin _ _ _, O, env, env1, S, g, Q, Q1, k, r, h, P => by simp only [wqT] at h
  | .neg _, O, env, env1, S, g, Q, Q1, k, r, h, P => by simp only [wqT] at h
  | .ite _ _ _, O, env, env1, S, g, Q, Q1, k, r, h, P => by simp only [wqT] at h
  | .mt _ _ _, O, env, env1, S, g, Q, Q1, k, r, h, P => by simp only [wqT] at h
  | .tup _, O, env, env1, S, g, Q, Q1, k, r, h, P => by simp only [wqT] at h
  | .lst _, O, env, env1, S, g, Q, Q1, k, r, h, P => by simp only [wqT] at h
  | .sl _ _ _, O, env, env1, S, g, Q, Q1, k, r, h, P => by simp only [wqT] at h
  | .lc _ _ _ _ _, O, env, env1, S, g, Q, Q1, k, r, h, P => by simp only [wqT] at h
  | .fs _, O, env, env1, S, g, Q, Q1, k, r, h, P => by simp only [wqT] at h
  | .nil, O, env, env1, S, g, Q, Q1, k, r, h, P => by simp only [wqT] at h
  | .cons _ _, O, env, env1, S, g, Q, Q1, k, r, h, P => by simp only [wqT] at h
  | .iE _, O, env, env1, S, g, Q, Q1, k, r, h, P => by simp only [wqT] at h
  | .iR1 _, O, env, env1, S, g, Q, Q1, k, r, h, P => by simp only [wqT] at h
  | .iR2 _ _, O, env, env1, S, g, Q, Q1, k, r, h, P => by simp only [wqT] at h
  | .iZ _ _, O, env, env1, S, g, Q, Q1, k, r, h, P => by simp only [wqT] at h
  | .iN _, O, env, env1, S, g, Q, Q1, k, r, h, P => by simp only [wqT] at h
theorem sndC (e : Ex) {O : Own} {env env1 : En} {S : Sto} {g : Nat} {Q : Bool → Nat → Prop} {Q1 : Bool → Sto → Prop} (k : OkO p q O S g) (r : RelV2 p O M S env env1) (h : wqC M Φ e env g Q) (P : PT2 p q S Q Q1) : wpC (tab1 Φ) e env1 S Q1 := by
  cases e with
  | nil => simp only [wqC] at h; simp only [wpC]; exact P _ _ _ h ExtB.refl k.dk
  | cons c t => simp only [wqC] at h; simp only [wpC]; exact sndT c k r h P
  | _ => simp only [wqC] at h
theorem sndA : ∀ (e : Ex) {b : Bool} {O : Own} {env env1 : En} {S : Sto} {g : Nat} {Q : List D → Nat → Prop} {Q1 : List D → Sto → Prop}, OkO p q O S g → RelV2 p O M S env env1 → wqA M Φ e b env g Q → PA2 b p q O S Q Q1 → wpA (tab1 Φ) e env1 S Q1
  | .nil, b, O, env, env1, S, g, Q, Q1, k, r, h, P => by
    simp only [wqA] at h; simp only [wpA]
    refine P _ _ _ _ h ExtB.refl k.dk ?_
    split
    · exact rfl
    · exact .nil
  | .cons a t, b, O, env, env1, S, g, Q, Q1, k, r, h, P => by
    simp only [wqA] at h; simp only [wpA]
    refine sndE a k r h fun x x1 S1 g1 h1 e1 dk1 v1 => sndA t (k.ext e1 dk1) (r.ext e1) h1 fun ds es S2 g2 h2 e2 dk2 v2 => P _ _ _ _ h2 (e1.trans e2) dk2 ?_
    cases b with
    | true => simp only [if_true] at v2 ⊢; exact VTs.cons (v1.vt.ext e2) v2
    | false => simp only [Bool.false_eq_true, if_false] at v2 ⊢; exact VFs.cons (VF.ext v1 e2) v2
  | .var _, b, O, env, env1, S, g, Q, Q1, k, r, h, P => by simp only [wqA] at h
  | .con _, b, O, env, env1, S, g, Q, Q1, k, r, h, P => by simp only [wqA] at h
  | .bin _ _ _, b, O, env, env1, S, g, Q, Q1, k, r, h, P => by simp only [wqA] at h
  | .neg _, b, O, env, env1, S, g, Q, Q1, k, r, h, P => by simp only [wqA] at h
  | .not _, b, O, env, env1, S, g, Q, Q1, k, r, h, P => by simp only [wqA] at h
  | .cmp _ _ _, b, O, env, env1, S, g, Q, Q1, k, r, h, P => by simp only [wqA] at h
  | .chain _ _ _ _ _, b, O, env, env1, S, g, Q, Q1, k, r, h, P => by simp only [wqA] at h
  | .and _ _, b, O, env, env1, S, g, Q, Q1, k, r, h, P => by simp only [wqA] at h
  | .or _ _, b, O, env, env1, S, g, Q, Q1, k, r, h, P => by simp only [wqA] at h
  | .ite _ _ _, b, O, env, env1, S, g, Q, Q1, k, r, h, P => by simp only [wqA] at h
  | .call _ _, b, O, env, env1, S, g, Q, Q1, k, r, h, P => by simp only [wqA] at h
  | .bi _ _, b, O, env, env1, S, g, Q, Q1, k, r, h, P => by simp only [wqA] at h
  | .mt _ _ _, b, O, env, env1, S, g, Q, Q1, k, r, h, P => by simp only [wqA] at h
  | .tup _, b, O, env, env1, S, g, Q, Q1, k, r, h, P => by simp only [wqA] at h
  | .lst _, b, O, env, env1, S, g, Q, Q1, k, r, h, P => by simp only [wqA] at h
  | .idx _ _, b, O, env, env1, S, g, Q, Q1, k, r, h, P => by simp only [wqA] at h
  | .sl _ _ _, b, O, env, env1, S, g, Q, Q1, k, r, h, P => by simp only [wqA] at h
  | .lc _ _ _ _ _, b, O, env, env1, S, g, Q, Q1, k, r, h, P => by simp only [wqA] at h
  | .fs _, b, O, env, env1, S, g, Q, Q1, k, r, h, P => by simp only [wqA] at h
  | .iE _, b, O, env, env1, S, g, Q, Q1, k, r, h, P => by simp only [wqA] at h
  | .iR1 _, b, O, env, env1, S, g, Q, Q1, k, r, h, P => by simp only [wqA] at h
  | .iR2 _ _, b, O, env, env1, S, g, Q, Q1, k, r, h, P => by simp only [wqA] at h
  | .iZ _ _, b, O, env, env1, S, g, Q, Q1, k, r, h, P => by simp only [wqA] at h
  | .iN _, b, O, env, env1, S, g, Q, Q1, k, r, h, P => by simp only [wqA] at h
theorem sndO (e : Ex) {O : Own} {env env1 : En} {S : Sto} {g : Nat} {Q : Option Int → Nat → Prop} {Q1 : Option Int → Sto → Prop} (k : OkO p q O S g) (r : RelV2 p O M S env env1) (h : wqO M Φ e env g Q) (P : PO2 p q S Q Q1) : wpO (tab1 Φ) e env1 S Q1 := by
  cases e with
  | nil => simp only [wqO] at h; simp only [wpO]; exact P _ _ _ h ExtB.refl k.dk
  | cons c t =>
    simp only [wqO] at h; simp only [wpO]
    refine sndE c k r h fun x x1 S1 g1 h1 e1 dk1 v1 => ?_
    obtain ⟨i, rfl, h1⟩ := h1
    exact ⟨i, v1.vt.int_inv, P _ _ _ h1 e1 dk1⟩
  | _ => simp only [wqO] at h
theorem sndI (e : Ex) {b : Bool} {O : Own} {env env1 : En} {S : Sto} {g : Nat} {Q : List D → Nat → Prop} {K : IK} (k : OkO p q O S g) (r : RelV2 p O M S env env1) (h : wqI M Φ e b env g Q) (P : PI2 b p q O S Q K) : wpI (tab1 Φ) e env1 S K := by
  cases e with
  | iE a =>
    simp only [wqI] at h; simp only [wpI]
    refine sndE a k r h fun x x1 S1 g1 h1 e1 dk1 v1 => ?_
    obtain ⟨xs, hx, h1⟩ := h1
    exact iter_ok v1 hx fun es G w hG => P _ _ _ _ _ h1 e1 dk1 w hG
  | iR1 a =>
    simp only [wqI] at h; simp only [wpI]
    refine sndE a k r h fun x x1 S1 g1 h1 e1 dk1 v1 => ?_
    cases x <;> try exact h1.elim
    cases v1.vt.int_inv
    exact ⟨h1.1, P _ _ _ _ _ h1.2 e1 dk1 vmap_rng fun _ _ => trivial⟩
  | iR2 a c =>
    simp only [wqI] at h; simp only [wpI]
    refine sndE a k r h fun x x1 S1 g1 h1 e1 dk1 v1 => sndE c (k.ext e1 dk1) (r.ext e1) h1 fun y y1 S2 g2 h2 e2 dk2 v2 => ?_
    cases x <;> cases y <;> try exact h2.elim
    cases v1.vt.int_inv; cases v2.vt.int_inv
    exact ⟨h2.1, h2.2.1, P _ _ _ _ _ h2.2.2 (e1.trans e2) dk2 vmap_rng fun _ _ => trivial⟩
  | iZ a c =>
    simp only [wqI] at h; simp only [wpI]
    refine sndE a k r h fun x x1 S1 g1 h1 e1 dk1 v1 => sndE c (k.ext e1 dk1) (r.ext e1) h1 fun y y1 S2 g2 h2 e2 dk2 v2 => ?_
    obtain ⟨xs, ys, hx, hy, h2⟩ := h2
    obtain ⟨es, G, s1, w1, hG1⟩ := src_ok (v1.ext e2) hx
    obtain ⟨fs, G', s2, w2, hG2⟩ := src_ok v2 hy
    exact ⟨es, G, fs, G', s1, s2, P _ _ _ _ _ h2 (e1.trans e2) dk2 (zip_ok w1 w2) fun S' e' => ⟨hG1 S' e', hG2 S' e'⟩⟩
  | iN a =>
    simp only [wqI] at h; simp only [wpI]
    refine sndE a k r h fun x x1 S1 g1 h1 e1 dk1 v1 => ?_
    obtain ⟨xs, hx, h1⟩ := h1
    obtain ⟨es, G, s1, w1, hG1⟩ := src_ok v1 hx
    exact ⟨es, G, s1, P _ _ _ _ _ h1 e1 dk1 (enum_ok 0 w1) hG1⟩
  | _ => simp only [wqI] at h
theorem sndJ : ∀ (e : Ex) {O : Own} {env env1 : En} {S : Sto} {g : Nat} {acc : List Nat} {Q : List Nat → Nat → Prop} {Q1 : List Nat → Sto → Prop}, OkO p q O S g → RelV2 p O M S env env1 → wqJ M Φ e env g acc Q → PJ2 p q S Q Q1 → wpJ (tab1 Φ) e env1 S acc Q1
  | .nil, O, env, env1, S, g, acc, Q, Q1, k, r, h, P => by simp only [wqJ] at h; simp only [wpJ]; exact P _ _ _ h ExtB.refl k.dk
  | .cons a t, O, env, env1, S, g, acc, Q, Q1, k, r, h, P => by
    simp only [wqJ] at h; simp only [wpJ]
    refine sndE a k r h fun x x1 S1 g1 h1 e1 dk1 v1 => ?_
    have fin : ∀ z : List Nat, (acc.length + z.length ≤ 16777216 ∧ wqJ M Φ t env g1 (acc ++ z) Q) → (acc.length + z.length ≤ 16777216 ∧ wpJ (tab1 Φ) t env1 S1 (acc ++ z) Q1) := fun z hz =>
      ⟨hz.1, sndJ t (k.ext e1 dk1) (r.ext e1) hz.2 fun o S2 g2 h2 e2 dk2 => P _ _ _ h2 (e1.trans e2) dk2⟩
    cases x <;> try exact h1.elim
    · cases v1.vt.int_inv; exact ⟨h1.1, fin _ h1.2⟩
    · cases v1.vt.str_inv; exact ⟨h1.1, fin _ h1.2⟩
  | .var _, O, env, env1, S, g, acc, Q, Q1, k, r, h, P => by simp only [wqJ] at h
  | .con _, O, env, env1, S, g, acc, Q, Q1, k, r, h, P => by simp only [wqJ] at h
  | .bin _ _ _, O, env, env1, S, g, acc, Q, Q1, k, r, h, P => by simp only [wqJ] at h
  | .neg _, O, env, env1, S, g, acc, Q, Q1, k, r, h, P => by simp only [wqJ] at h
  | .not _, O, env, env1, S, g, acc, Q, Q1, k, r, h, P => by simp only [wqJ] at h
  | .cmp _ _ _, O, env, env1, S, g, acc, Q, Q1, k, r, h, P => by simp only [wqJ] at h
  | .chain _ _ _ _ _, O, env, env1, S, g, acc, Q, Q1, k, r, h, P => by simp only [wqJ] at h
  | .and _ _, O, env, env1, S, g, acc, Q, Q1, k, r, h, P => by simp only [wqJ] at h
  | .or _ _, O, env, env1, S, g, acc, Q, Q1, k, r, h, P => by simp only [wqJ] at h
  | .ite _ _ _, O, env, env1, S, g, acc, Q, Q1, k, r, h, P => by simp only [wqJ] at h
  | .call _ _, O, env, env1, S, g, acc, Q, Q1, k, r, h, P => by simp only [wqJ] at h
  | .bi _ _, O, env, env1, S, g, acc, Q, Q1, k, r, h, P => by simp only [wqJ] at h
  | .mt _ _ _, O, env, env1, S, g, acc, Q, Q1, k, r, h, P => by simp only [wqJ] at h
  | .tup _, O, env, env1, S, g, acc, Q, Q1, k, r, h, P => by simp only [wqJ] at h
  | .lst _, O, env, env1, S, g, acc, Q, Q1, k, r, h, P => by simp only [wqJ] at h
  | .idx _ _, O, env, env1, S, g, acc, Q, Q1, k, r, h, P => by simp only [wqJ] at h
  | .sl _ _ _, O, env, env1, S, g, acc, Q, Q1, k, r, h, P => by simp only [wqJ] at h
  | .lc _ _ _ _ _, O, env, env1, S, g, acc, Q, Q1, k, r, h, P => by simp only [wqJ] at h
  | .fs _, O, env, env1, S, g, acc, Q, Q1, k, r, h, P => by simp only [wqJ] at h
  | .iE _, O, env, env1, S, g, acc, Q, Q1, k, r, h, P => by simp only [wqJ] at h
  | .iR1 _, O, env, env1, S, g, acc, Q, Q1, k, r, h, P => by simp only [wqJ] at h
  | .iR2 _ _, O, env, env1, S, g, acc, Q, Q1, k, r, h, P => by simp only [wqJ] at h
  | .iZ _ _, O, env, env1, S, g, acc, Q, Q1, k, r, h, P => by simp only [wqJ] at h
  | .iN _, O, env, env1, S, g, acc, Q, Q1, k, r, h, P => by simp only [wqJ] at h
end
end
end G57
set_option Elab.async false
set_option linter.all false
set_option maxRecDepth 100000
set_option maxHeartbeats 800000
namespace G57
open PySem L2
/-! statements over values -/
structure Ends2 where
  nx : En → Nat → Prop
  rt : QK
  bk : En → Nat → Prop := fun _ _ => False
  ct : En → Nat → Prop := fun _ _ => False
def OwAt (M : List Nat) (env env1 : En) (i : Nat) (a : Addr) : Prop := ownB M i = true ∧ (∃ ds, env[i]? = some (some (.rol ds))) ∧ env1[i]? = some (some (.ref a))
def Ow (M : List Nat) (env env1 : En) : Own := fun a => ∃ i, OwAt M env env1 i a
abbrev OO (O0 : Own) (M : List Nat) (env env1 : En) : Own := fun a => O0 a ∨ Ow M env env1 a
structure RelS (p q : Addr) (O0 : Own) (S0 : Sto) (M : List Nat) (S : Sto) (env env1 : En) (g : Nat) : Prop where
  ok : OkO p q (OO O0 M env env1) S g
  rel : RelV2 p (OO O0 M env env1) M S env env1
  ext : ExtB p S0 S
  new : ∀ a, Ow M env env1 a → S0 a = none
  dom : ∀ a, O0 a → S0 a ≠ none
  inj : ∀ i j a, OwAt M env env1 i a → OwAt M env env1 j a → i = j
structure ER (p q : Addr) (O0 : Own) (S0 : Sto) (M : List Nat) (E : Ends2) (E1 : EndsD) : Prop where
  nx : ∀ env env1 S g, E.nx env g → RelS p q O0 S0 M S env env1 g → E1.nx env1 S
  rt : ∀ d2 d1 S g, E.rt d2 g → ExtB p S0 S → Deck S p q g → VF p O0 S d2 d1 → E1.rt d1 S
  bk : ∀ env env1 S g, E.bk env g → RelS p q O0 S0 M S env env1 g → E1.bk env1 S
  ct : ∀ env env1 S g, E.ct env g → RelS p q O0 S0 M S env env1 g → E1.ct env1 S
def OkS (Φ : Tab2) (M : List Nat) (s : Sx) (E : Ends2) (env : En) (g : Nat) : Prop :=
  ∀ p q O0 S0 S env1 E1, RelS p q O0 S0 M S env env1 g → ER p q O0 S0 M E E1 → wpS (tab1 Φ) s E1 env1 S
section
variable {Φ : Tab2} {M : List Nat} {E : Ends2} {env : En} {g : Nat} {p q : Addr} {O0 : Own} {S0 S S' : Sto} {env1 : En}
theorem RelS.go (r : RelS p q O0 S0 M S env env1 g) {g' : Nat} (e : ExtB p S S') (d : Deck S' p q g') : RelS p q O0 S0 M S' env env1 g' :=
  ⟨r.ok.ext e d, r.rel.ext e, r.ext.trans e, r.new, r.dom, r.inj⟩
/-- the owned slots are as they were -/
theorem RelS.same (r : RelS p q O0 S0 M S env env1 g) {env' env1' : En} (v : RelV2 p (OO O0 M env env1) M S env' env1') (hs : ∀ i, ownB M i = true → env1'[i]? = env1[i]? ∧ env'[i]? = env[i]?) : RelS p q O0 S0 M S env' env1' g := by
  have at' : ∀ i a, OwAt M env' env1' i a ↔ OwAt M env env1 i a := fun i a => by
    constructor
    · rintro ⟨hi, d, z⟩; obtain ⟨h1, h2⟩ := hs i hi; exact ⟨hi, by rw [← h2]; exact d, by rw [← h1]; exact z⟩
    · rintro ⟨hi, d, z⟩; obtain ⟨h1, h2⟩ := hs i hi; exact ⟨hi, by rw [h2]; exact d, by rw [h1]; exact z⟩
  have e : OO O0 M env' env1' = OO O0 M env env1 := by
    funext a
    apply propext
    constructor
    · rintro (z | ⟨i, z⟩)
      · exact .inl z
      · exact .inr ⟨i, (at' i a).mp z⟩
    · rintro (z | ⟨i, z⟩)
      · exact .inl z
      · exact .inr ⟨i, (at' i a).mpr z⟩
  refine ⟨by rw [e]; exact r.ok, by rw [e]; exact v, r.ext, fun a ⟨i, z⟩ => r.new a ⟨i, (at' i a).mp z⟩, r.dom, fun i j a z1 z2 => r.inj i j a ((at' i a).mp z1) ((at' j a).mp z2)⟩
def ptB (M : List Nat) : Pt → Bool
  | .v i => !ownB M i
  | .t p => ptB M p
  | .nil => true
  | .cons a r => ptB M a && ptB M r
mutual
theorem wqP_ok2 {O : Own} : ∀ (t : Pt) {d e : D} {env env1 : En} {Q Q1 : En → Prop}, ptB M t = true → RelV2 p O M S env env1 → VF p O S d e → wqP t d env Q → (∀ env' env1', Q env' → RelV2 p O M S env' env1' → (∀ i, ownB M i = true → env1'[i]? = env1[i]? ∧ env'[i]? = env[i]?) → Q1 env1') → wpP t e S env1 Q1
  | .v i, d, e, env, env1, Q, Q1, hb, r, v, h, k => by
    simp only [wqP] at h
    simp only [wpP]
    refine k _ _ h (r.set i v) fun j hj => ?_
    simp only [ptB, Bool.not_eq_true'] at hb
    have hne : i ≠ j := fun z => by rw [z, hj] at hb; cases hb
    exact ⟨List.getElem?_set_ne hne, List.getElem?_set_ne hne⟩
  | .t t, d, e, env, env1, Q, Q1, hb, r, v, h, k => by
    simp only [wpP]
    simp only [ptB] at hb
    cases d with
    | tup ds =>
      simp only [wqP] at h
      simp only [VF] at v
      obtain ⟨es, rfl, w⟩ := v
      exact ⟨es, rfl, wqPs_ok2 t hb r w h k⟩
    | rol ds =>
      simp only [wqP] at h
      simp only [VF] at v
      obtain ⟨a, es, rfl, _, _, s, w⟩ := v
      exact ⟨es, by rw [seqD_r]; exact s, wqPs_ok2 t hb r w h k⟩
    | _ => simp only [wqP] at h
  | .nil, d, e, env, env1, Q, Q1, hb, r, v, h, k => by simp only [wqP] at h
  | .cons _ _, d, e, env, env1, Q, Q1, hb, r, v, h, k => by simp only [wqP] at h
theorem wqPs_ok2 {O : Own} : ∀ (t : Pt) {ds es : List D} {env env1 : En} {Q Q1 : En → Prop}, ptB M t = true → RelV2 p O M S env env1 → VFs p O S ds es → wqPs t ds env Q → (∀ env' env1', Q env' → RelV2 p O M S env' env1' → (∀ i, ownB M i = true → env1'[i]? = env1[i]? ∧ env'[i]? = env[i]?) → Q1 env1') → wpPs t es S env1 Q1
  | .nil, ds, es, env, env1, Q, Q1, hb, r, v, h, k => by
    cases ds with
    | nil =>
      simp only [VFs] at v
      subst v
      simp only [wqPs] at h
      simp only [wpPs]
      exact k _ _ h r fun _ _ => ⟨rfl, rfl⟩
    | cons _ _ => simp only [wqPs] at h
  | .cons a t, ds, es, env, env1, Q, Q1, hb, r, v, h, k => by
    simp only [ptB, Bool.and_eq_true] at hb
    cases ds with
    | nil => simp only [wqPs] at h
    | cons d ds =>
      simp only [VFs] at v
      obtain ⟨e, es, rfl, v, w⟩ := v
      simp only [wqPs] at h
      simp only [wpPs]
      exact wqP_ok2 a hb.1 r v h fun env' env1' h' r' s1 => wqPs_ok2 t hb.2 r' w h' fun env2 env12 h2 r2 s2 => k _ _ h2 r2 fun i hi => ⟨(s2 i hi).1.trans (s1 i hi).1, (s2 i hi).2.trans (s1 i hi).2⟩
  | .v _, ds, es, env, env1, Q, Q1, hb, r, v, h, k => by cases ds <;> simp only [wqPs] at h
  | .t _, ds, es, env, env1, Q, Q1, hb, r, v, h, k => by cases ds <;> simp only [wqPs] at h
end
/-! rules -/
theorem ok_cons {a r : Sx} (h : OkS Φ M a { E with nx := fun env' g' => OkS Φ M r E env' g' } env g) : OkS Φ M (.cons a r) E env g := fun p q O0 S0 S env1 E1 rs er => by
  simp only [wpS]
  exact h p q O0 S0 S env1 _ rs ⟨fun env' env1' S' g' h' r' => h' p q O0 S0 S' env1' E1 r' er, er.rt, er.bk, er.ct⟩
theorem ok_nil (h : E.nx env g) : OkS Φ M .nil E env g := fun p q O0 S0 S env1 E1 rs er => by
  simp only [wpS]
  exact er.nx _ _ _ _ h rs
theorem ok_pass (h : E.nx env g) : OkS Φ M .pass E env g := fun p q O0 S0 S env1 E1 rs er => by
  simp only [wpS]
  exact er.nx _ _ _ _ h rs
theorem ok_brk (h : E.bk env g) : OkS Φ M .brk E env g := fun p q O0 S0 S env1 E1 rs er => by
  simp only [wpS]
  exact er.bk _ _ _ _ h rs
theorem ok_cnt (h : E.ct env g) : OkS Φ M .cnt E env g := fun p q O0 S0 S env1 E1 rs er => by
  simp only [wpS]
  exact er.ct _ _ _ _ h rs
theorem ok_asg {t : Pt} {e : Ex} (hb : ptB M t = true) (h : wqE M Φ e false env g fun d g' => wqP t d env fun env' => E.nx env' g') : OkS Φ M (.asg t e) E env g := fun p q O0 S0 S env1 E1 rs er => by
  simp only [wpS]
  refine sndE e rs.ok rs.rel h fun d2 d1 S' g' h' e' dk' v' => ?_
  have rs' := rs.go e' dk'
  exact wqP_ok2 t hb rs'.rel v' h' fun env' env1' h2 r2 s2 => er.nx _ _ _ _ h2 (rs'.same r2 s2)
theorem ok_ex {e : Ex} (h : wqE M Φ e false env g fun _ g' => E.nx env g') : OkS Φ M (.ex e) E env g := fun p q O0 S0 S env1 E1 rs er => by
  simp only [wpS]
  exact sndE e rs.ok rs.rel h fun d2 d1 S' g' h' e' dk' v' => er.nx _ _ _ _ h' (rs.go e' dk')
theorem RelS.out (r : RelS p q O0 S0 M S env env1 g) : OkO p q O0 S g ∧ RelV2 p O0 [] S env env1 := by
  refine ⟨⟨r.ok.dk, fun a ha => r.ok.dom a (.inl ha), fun z => r.ok.np (.inl z), fun z => r.ok.nq (.inl z)⟩, r.rel.len, fun i d e => ?_⟩
  obtain ⟨x, h1, v⟩ := r.rel.var i d e
  have sub : ∀ a, O0 a → OO O0 M env env1 a := fun a ha => .inl ha
  refine ⟨x, h1, ?_⟩
  show VF p O0 S d x
  unfold VB at v
  cases hi : ownB M i with
  | false =>
    rw [hi] at v
    exact VF.less v sub
  | true =>
    rw [hi] at v
    have v' : VT p (OO O0 M env env1) S d x := v
    cases d <;> try exact VF.less v' sub
    obtain ⟨a, es, rfl, np, s, w⟩ := v'.rol_inv
    simp only [VF]
    refine ⟨a, es, rfl, fun z => r.dom a z (r.new a ⟨i, hi, ⟨_, e⟩, h1⟩), np, s, w.less sub⟩
theorem ok_ret {e : Ex} (h : wqE [] Φ e false env g E.rt) : OkS Φ M (.ret e) E env g := fun p q O0 S0 S env1 E1 rs er => by
  simp only [wpS]
  exact sndE e rs.out.1 rs.out.2 h fun d2 d1 S' g' h' e' dk' v' => er.rt _ _ _ _ h' (rs.ext.trans e') dk' v'
theorem ok_iff {c : Ex} {a b : Sx} (h : wqT M Φ c env g fun t g' => if t = true then OkS Φ M a E env g' else OkS Φ M b E env g') : OkS Φ M (.iff c a b) E env g := fun p q O0 S0 S env1 E1 rs er => by
  simp only [wpS]
  refine sndT c rs.ok rs.rel h fun t S' g' h' e' dk' => ?_
  cases t with
  | true => simp only [if_true] at h' ⊢; exact h' _ _ _ _ _ _ _ (rs.go e' dk') er
  | false => simp only [Bool.false_eq_true, if_false] at h' ⊢; exact h' _ _ _ _ _ _ _ (rs.go e' dk') er
/-- from here on nothing is owned any more -/
theorem ok_frz {M' : List Nat} {s : Sx} (hM : ∀ i, ownB M' i = true → ownB M i = true) (h : OkS Φ M' s { nx := fun _ _ => False, rt := E.rt } env g) : OkS Φ M s E env g := fun p q O0 S0 S env1 E1 rs er => by
  have at' : ∀ i a, OwAt M' env env1 i a → OwAt M env env1 i a := fun i a z => ⟨hM i z.1, z.2⟩
  have sub : ∀ a, OO O0 M' env env1 a → OO O0 M env env1 a := fun a ha => ha.elim .inl fun ⟨i, z⟩ => .inr ⟨i, at' i a z⟩
  refine h p q O0 S0 S env1 E1 ⟨⟨rs.ok.dk, fun a ha => rs.ok.dom a (sub a ha), fun z => rs.ok.np (sub _ z), fun z => rs.ok.nq (sub _ z)⟩, ⟨rs.rel.len, fun i d e => ?_⟩, rs.ext, fun a ⟨i, z⟩ => rs.new a ⟨i, at' i a z⟩, rs.dom, fun i j a z1 z2 => rs.inj i j a (at' i a z1) (at' j a z2)⟩ ⟨fun _ _ _ _ z => z.elim, er.rt, fun _ _ _ _ z => z.elim, fun _ _ _ _ z => z.elim⟩
  obtain ⟨x, h1, v⟩ := rs.rel.var i d e
  refine ⟨x, h1, ?_⟩
  cases hi' : ownB M' i with
  | true =>
    rw [hM i hi'] at v
    exact VT.less v sub
  | false =>
    show VF p _ S d x
    cases hi : ownB M i with
    | false =>
      rw [hi] at v
      exact VF.less v sub
    | true =>
      rw [hi] at v
      have v' : VT p (OO O0 M env env1) S d x := v
      cases d <;> try exact VF.less v' sub
      obtain ⟨a, es, rfl, np, s, w⟩ := v'.rol_inv
      simp only [VF]
      refine ⟨a, es, rfl, fun z => ?_, np, s, w.less sub⟩
      rcases z with z | ⟨j, z⟩
      · exact rs.dom a z (rs.new a ⟨i, hi, ⟨_, e⟩, h1⟩)
      · have := rs.inj i j a ⟨hi, ⟨_, e⟩, h1⟩ (at' j a z)
        rw [this, z.1] at hi'; cases hi'
/-- a slot that is no longer looked at -/
theorem RelS.forget (r : RelS p q O0 S0 M S env env1 g) (i : Nat) : RelS p q O0 S0 M S (env.set i none) env1 g := by
  have get : ∀ j d, (env.set i none)[j]? = some (some d) → env[j]? = some (some d) ∧ i ≠ j := fun j d e => by
    by_cases hij : i = j
    · subst hij
      by_cases hl : i < env.length
      · rw [List.getElem?_set_self hl] at e; cases e
      · rw [List.getElem?_eq_none (by simpa using hl)] at e; cases e
    · rw [List.getElem?_set_ne hij] at e; exact ⟨e, hij⟩
  have at' : ∀ j a, OwAt M (env.set i none) env1 j a → OwAt M env env1 j a := fun j a ⟨h1, ⟨ds, h2⟩, h3⟩ => ⟨h1, ⟨ds, (get j _ h2).1⟩, h3⟩
  have sub : ∀ a, OO O0 M (env.set i none) env1 a → OO O0 M env env1 a := fun a ha => ha.elim .inl fun ⟨i, z⟩ => .inr ⟨i, at' i a z⟩
  refine ⟨⟨r.ok.dk, fun a ha => r.ok.dom a (sub a ha), fun z => r.ok.np (sub _ z), fun z => r.ok.nq (sub _ z)⟩, ⟨by simp [r.rel.len], fun j d e => ?_⟩, r.ext, fun a ⟨j, z⟩ => r.new a ⟨j, at' j a z⟩, r.dom, fun j l a z1 z2 => r.inj j l a (at' j a z1) (at' l a z2)⟩
  obtain ⟨x, h1, v⟩ := r.rel.var j d (get j d e).1
  refine ⟨x, h1, ?_⟩
  unfold VB at v ⊢
  cases hj : ownB M j with
  | false => rw [hj] at v; exact VF.less v sub
  | true => rw [hj] at v; exact VT.less v sub
theorem ok_forget (i : Nat) {s : Sx} (h : OkS Φ M s E (env.set i none) g) : OkS Φ M s E env g := fun p q O0 S0 S env1 E1 rs er => h p q O0 S0 S env1 E1 (rs.forget i) er
end
end G57
set_option Elab.async false
set_option linter.all false
set_option maxRecDepth 100000
set_option maxHeartbeats 800000
namespace G57
open PySem L2
/-! lists that a def makes and changes -/
def frB : Ex → Bool
  | .lst _ => true
  | .lc _ _ _ _ _ => true
  | .bin .Add _ _ => true
  | .bin .Mult _ _ => true
  | .bi .list _ => true
  | .sl _ _ _ => true
  | _ => false
inductive All2 (W : D → D → Prop) : List D → List D → Prop where
  | nil : All2 W [] []
  | cons {x y : D} {xs ys : List D} : W x y → All2 W xs ys → All2 W (x :: xs) (y :: ys)
def QL (QF : List D → Nat → Prop) : QK := fun d g' => ∃ ds, d = .rol ds ∧ QF ds g'
section
variable {Φ : Tab2} {M : List Nat} {E : Ends2} {env : En} {g : Nat} {p q : Addr} {O0 : Own} {S0 S S' : Sto} {env1 : En}
theorem ql_rol {QF : List D → Nat → Prop} {ds : List D} {g : Nat} (h : QL QF (.rol ds) g) : QF ds g := by obtain ⟨_, e, h⟩ := h; cases e; exact h
theorem sndF {O : Own} (e : Ex) (hf : frB e = true) {QF : List D → Nat → Prop} {Q1 : DK} (k : OkO p q O S g) (r : RelV2 p O M S env env1) (h : wqE M Φ e false env g (QL QF))
    (P : ∀ ds es S' g' a, QF ds g' → ExtB p S S' → Deck S' p q g' → VFs p O S' ds es → S' a = none → Q1 (.ref a) (put S' a (.lst es))) : wpE (tab1 Φ) e env1 S Q1 := by
  cases e <;> try (simp [frB] at hf; done)
  case bin op a c =>
    simp only [wqE] at h
    simp only [wpE]
    refine sndE a k r h fun x x1 S1 g1 h1 e1 dk1 v1 => sndE c (k.ext e1 dk1) (r.ext e1) h1 fun y y1 S2 g2 h2 e2 dk2 v2 => ?_
    have e12 := e1.trans e2
    cases op <;> try (simp [frB] at hf; done)
    · cases x <;> cases y <;> try exact h2.elim
      · obtain ⟨_, z, _⟩ := h2; cases z
      · obtain ⟨_, _, z, _⟩ := h2; cases z
      · obtain ⟨_, _, z, _⟩ := h2; cases z
      · obtain ⟨a, es, rfl, _, s, v⟩ := (v1.ext e2).vt.rol_inv
        obtain ⟨b, fs, rfl, _, t, w⟩ := v2.vt.rol_inv
        exact ⟨es, fs, s, t, by rw [← v.length, ← w.length]; exact h2.1, fun r f => P _ _ _ _ _ (ql_rol h2.2) e12 dk2 (v.append w) f⟩
    · cases x <;> cases y <;> try exact h2.elim
      · obtain ⟨_, _, z, _⟩ := h2; cases z
      · obtain ⟨_, _, _, _, z, _⟩ := h2; cases z
      · obtain ⟨_, _, _, _, z, _⟩ := h2; cases z
      · obtain ⟨a, es, rfl, _, s, v⟩ := (v1.ext e2).vt.rol_inv
        cases v2.vt.int_inv
        exact ⟨es, s, h2.1, h2.2.1, by rw [← v.length]; exact h2.2.2.1, fun r f => P _ _ _ _ _ (ql_rol h2.2.2.2) e12 dk2 (v.rep _) f⟩
  case bi f as =>
    cases f <;> try (simp [frB] at hf; done)
    simp only [wqE] at h
    simp only [wpE]
    refine sndA as k r h fun ds es S1 g1 h1 e1 dk1 v1 => ?_
    simp only [if_true] at v1
    unfold biV at h1
    split at h1 <;> first | exact h1.elim | simp_all
    all_goals
      obtain ⟨e, rfl, v⟩ := one_inv v1
      obtain ⟨zs, z, w⟩ := seq_ok v rfl
      exact ⟨_, z, fun r f => P _ _ _ _ _ (ql_rol h1) e1 dk1 w f⟩
  case lst as =>
    simp only [wqE] at h
    simp only [wpE]
    refine sndA as k r h fun ds es S1 g1 h1 e1 dk1 v1 => ?_
    simp only [Bool.false_eq_true, if_false] at v1
    exact ⟨by rw [← v1.length]; exact h1.1, fun a f => P _ _ _ _ _ (ql_rol h1.2) e1 dk1 v1 f⟩
  case sl a lo hi =>
    simp only [wqE] at h
    simp only [wpE]
    refine sndE a k r h fun x x1 S1 g1 h1 e1 dk1 v1 => sndO lo (k.ext e1 dk1) (r.ext e1) h1 fun l S2 g2 h2 e2 dk2 => ?_
    refine sndO hi (k.ext (e1.trans e2) dk2) (r.ext (e1.trans e2)) h2 fun l' S3 g3 h3 e3 dk3 => ?_
    have v3 := v1.vt.ext (e2.trans e3)
    cases x <;> try exact h3.elim
    · obtain ⟨_, _, z, _⟩ := h3; cases z
    · obtain ⟨_, z, _⟩ := h3; cases z
    · obtain ⟨a, es, rfl, _, s, v⟩ := v3.rol_inv
      exact ⟨es, s, fun r f => P _ _ _ _ _ (ql_rol h3) (e1.trans (e2.trans e3)) dk3 (v.cut l l') f⟩
  case lc vs t it c e =>
    simp only [wqE] at h
    simp only [wpE]
    refine sndI it k r h fun xs xs1 G S1 g1 h1 e1 dk1 v1 hG a fa => ?_
    have k1 := k.ext e1 dk1
    obtain ⟨n1, n2, n3⟩ := k1.fresh fa
    have hG' : ∀ S', ExtB p S1 S' → G S' := fun S' e' => hG S' fun c o _ nc s => e' c o nc s
    have eA : ExtB p S1 (put S1 a (.lst [])) := (Ext.put fa).but
    have kA : OkO p q (fun c => O c ∨ c = a) (put S1 a (.lst [])) g1 := by
      refine ⟨dk1.put n1 n2, fun c hc z => ?_, fun z => z.elim k.np n1, fun z => z.elim k.nq n2⟩
      by_cases hca : c = a
      · rw [hca, put_same] at z; cases z
      · rw [put_ne hca] at z
        exact k1.dom c (hc.resolve_right hca) z
    refine ⟨hG' _ eA, ?_⟩
    refine lc_ok (q := q) (O := O) fa hG' (fun x x1 S2 g2 k2 k1' kk e2 v2 h2 hk => ?_) xs xs1 [] [] _ g1 kA eA put_same .nil ((v1.own fa).ext eA) h1 fun acc acc1 S2 g2 h2 kk e2 s2 v2 => ?_
    · have r2 : RelV2 p (fun c => O c ∨ c = a) M S2 (wipeD env vs) (wipeD env1 vs) := (((r.ext e1).own fa).ext e2).wipe vs
      refine wqP_ok t r2 v2 h2 fun env' env1' h3 r3 => ?_
      refine sndC c kk r3 h3 fun tt S3 g3 h4 e4 dk4 => ?_
      cases tt with
      | false =>
        simp only [Bool.false_eq_true, if_false] at h4 ⊢
        exact hk none none S3 g3 h4 e4 dk4 trivial
      | true =>
        simp only [if_true] at h4 ⊢
        refine sndE e (kk.ext e4 dk4) (r3.ext e4) h4 fun y y1 S4 g4 h5 e5 dk5 v5 => ?_
        exact hk (some y) (some y1) S4 g4 h5 (e4.trans e5) dk5 v5
    · let S3 : Sto := fun c => if c = a then none else S2 c
      have s3 : S3 a = none := if_pos rfl
      have e3 : put S3 a (.lst acc1) = S2 := by
        funext c
        by_cases hc : c = a
        · rw [hc, put_same, s2]
        · rw [put_ne hc]; exact if_neg hc
      rw [← e3]
      refine P _ _ S3 g2 _ (ql_rol h2) (e1.trans fun c o nc s => ?_) ?_ (v2.to fun c es nc np s => ⟨fun z => nc (.inl z), ?_⟩) s3
      · show (if c = a then none else S2 c) = _
        rw [if_neg (fun z => by rw [z, fa] at s; cases s)]
        exact e2 c o nc s
      · obtain ⟨ns, i1, i2, i3, d1, d2, rest⟩ := kk.dk
        refine ⟨ns, i1, i2, i3, ?_, ?_, rest⟩
        · show (if p = a then none else S2 p) = _
          rw [if_neg n1]; exact d1
        · show (if q = a then none else S2 q) = _
          rw [if_neg n2]; exact d2
      · show (if c = a then none else S2 c) = _
        rw [if_neg (fun z => nc (.inr z))]; exact s
/-- a new list in an owned slot -/
theorem RelS.newL (r : RelS p q O0 S0 M S env env1 g) {i : Nat} {a : Addr} {ds es : List D} (hi : ownB M i = true) (f : S a = none) (v : VFs p (OO O0 M env env1) S ds es) :
    RelS p q O0 S0 M (put S a (.lst es)) (env.set i (some (.rol ds))) (env1.set i (some (.ref a))) g := by
  obtain ⟨n1, n2, n3⟩ := r.ok.fresh f
  have at' : ∀ j c, OwAt M (env.set i (some (.rol ds))) (env1.set i (some (.ref a))) j c → (j = i ∧ c = a) ∨ (j ≠ i ∧ OwAt M env env1 j c) := by
    rintro j c ⟨hj, hd, z⟩
    by_cases hji : i = j
    · subst hji
      by_cases hl : i < env1.length
      · rw [List.getElem?_set_self hl] at z; cases z; exact .inl ⟨rfl, rfl⟩
      · rw [List.getElem?_eq_none (by simpa using hl)] at z; cases z
    · rw [List.getElem?_set_ne hji] at z hd; exact .inr ⟨fun w => hji w.symm, hj, hd, z⟩
  have sub : ∀ c, OO O0 M (env.set i (some (.rol ds))) (env1.set i (some (.ref a))) c → OO O0 M env env1 c ∨ c = a := by
    rintro c (z | ⟨j, z⟩)
    · exact .inl (.inl z)
    · rcases at' j c z with ⟨_, h⟩ | ⟨_, h⟩
      · exact .inr h
      · exact .inl (.inr ⟨j, h⟩)
  have vto : ∀ c es', ¬ OO O0 M env env1 c → c ≠ p → S c = some (.lst es') → ¬ OO O0 M (env.set i (some (.rol ds))) (env1.set i (some (.ref a))) c ∧ put S a (.lst es) c = some (.lst es') := fun c es' nc np s => by
    have hca : c ≠ a := fun z => by rw [z, f] at s; cases s
    exact ⟨fun z => (sub c z).elim nc hca, by rw [put_ne hca]; exact s⟩
  have S0a : S0 a = none := by
    cases z : S0 a with
    | none => rfl
    | some o => rw [r.ext a o (fun w => n1 w.symm) z] at f; cases f
  refine ⟨⟨r.ok.dk.put n1 n2, fun c hc z => ?_, fun z => (sub p z).elim r.ok.np n1, fun z => (sub q z).elim r.ok.nq n2⟩, ⟨by simp [r.rel.len], fun j d e => ?_⟩, r.ext.trans (Ext.put f).but, fun c ⟨j, z⟩ => ?_, r.dom, fun j l c z1 z2 => ?_⟩
  · by_cases hca : c = a
    · rw [hca, put_same] at z; cases z
    · rw [put_ne hca] at z
      exact r.ok.dom c ((sub c hc).resolve_right hca) z
  · by_cases hji : i = j
    · subst hji
      by_cases hl : i < env.length
      · rw [List.getElem?_set_self hl] at e
        cases e
        refine ⟨.ref a, List.getElem?_set_self (by rw [← r.rel.len]; exact hl), ?_⟩
        rw [hi]
        exact ⟨a, es, rfl, fun z => n1 z.symm, put_same, v.to vto⟩
      · rw [List.getElem?_eq_none (by simpa using hl)] at e; cases e
    · rw [List.getElem?_set_ne hji] at e
      obtain ⟨x, h1, w⟩ := r.rel.var j d e
      refine ⟨x, by rw [List.getElem?_set_ne hji]; exact h1, ?_⟩
      cases hj : ownB M j with
      | false =>
        rw [hj] at w
        exact VF.to vto w
      | true =>
        rw [hj] at w
        have w' : VT p (OO O0 M env env1) S d x := w
        show VT p _ _ d x
        cases d <;> try exact VF.to vto w'
        obtain ⟨b, fs, rfl, np, s, u⟩ := w'.rol_inv
        exact ⟨b, fs, rfl, np, by rw [put_ne (fun z => by rw [z, f] at s; cases s)]; exact s, u.to vto⟩
  · rcases at' j c z with ⟨_, h⟩ | ⟨_, h⟩
    · rw [h]; exact S0a
    · exact r.new c ⟨j, h⟩
  · have key : ∀ l', OwAt M env env1 l' a → False := fun l' z => r.ok.dom a (.inr ⟨l', z⟩) f
    rcases at' j c z1 with ⟨e1, h1⟩ | ⟨e1, h1⟩
    · rcases at' l c z2 with ⟨e2, h2⟩ | ⟨e2, h2⟩
      · rw [e1, e2]
      · rw [h1] at h2; exact (key l h2).elim
    · rcases at' l c z2 with ⟨e2, h2⟩ | ⟨e2, h2⟩
      · rw [h2] at h1; exact (key j h1).elim
      · exact r.inj j l c h1 h2
/-- an owned slot's list is changed -/
theorem RelS.write (r : RelS p q O0 S0 M S env env1 g) {i : Nat} {a : Addr} {ds0 ds es : List D} (hi : ownB M i = true) (h0 : env[i]? = some (some (.rol ds0))) (h1 : env1[i]? = some (some (.ref a))) (hap : a ≠ p) (v : VFs p (OO O0 M env env1) S ds es) :
    RelS p q O0 S0 M (put S a (.lst es)) (env.set i (some (.rol ds))) env1 g := by
  have hat : OwAt M env env1 i a := ⟨hi, ⟨_, h0⟩, h1⟩
  have oa : OO O0 M env env1 a := .inr ⟨i, hat⟩
  have nq : q ≠ a := fun z => r.ok.nq (by rw [z]; exact oa)
  have at' : ∀ j c, OwAt M (env.set i (some (.rol ds))) env1 j c ↔ OwAt M env env1 j c := fun j c => by
    have : (∃ ds', (env.set i (some (.rol ds)))[j]? = some (some (.rol ds'))) ↔ ∃ ds', env[j]? = some (some (.rol ds')) := by
      by_cases hji : i = j
      · subst hji
        have hl : i < env.length := by
          rcases Nat.lt_or_ge i env.length with h | h
          · exact h
          · rw [List.getElem?_eq_none h] at h0; cases h0
        rw [List.getElem?_set_self hl, h0]
        exact ⟨fun _ => ⟨_, rfl⟩, fun _ => ⟨_, rfl⟩⟩
      · rw [List.getElem?_set_ne hji]
    unfold OwAt
    rw [this]
  have eO : OO O0 M (env.set i (some (.rol ds))) env1 = OO O0 M env env1 := by
    funext c; apply propext
    constructor
    · rintro (z | ⟨j, z⟩)
      · exact .inl z
      · exact .inr ⟨j, (at' j c).mp z⟩
    · rintro (z | ⟨j, z⟩)
      · exact .inl z
      · exact .inr ⟨j, (at' j c).mpr z⟩
  refine ⟨by rw [eO]; exact ⟨r.ok.dk.put (fun z => hap z.symm) nq, (fun c hc z => by
    by_cases hca : c = a
    · rw [hca, put_same] at z; cases z
    · rw [put_ne hca] at z; exact r.ok.dom c hc z), r.ok.np, r.ok.nq⟩, ⟨by simp [r.rel.len], fun j d e => ?_⟩, fun c o nc s => ?_, fun c ⟨j, z⟩ => r.new c ⟨j, (at' j c).mp z⟩, r.dom, fun j l c z1 z2 => r.inj j l c ((at' j c).mp z1) ((at' l c).mp z2)⟩
  · rw [eO]
    by_cases hji : i = j
    · subst hji
      by_cases hl : i < env.length
      · rw [List.getElem?_set_self hl] at e
        cases e
        refine ⟨.ref a, h1, ?_⟩
        rw [hi]
        exact ⟨a, es, rfl, hap, put_same, v.write oa⟩
      · rw [List.getElem?_eq_none (by simpa using hl)] at e; cases e
    · rw [List.getElem?_set_ne hji] at e
      obtain ⟨x, h2, w⟩ := r.rel.var j d e
      refine ⟨x, h2, ?_⟩
      cases hj : ownB M j with
      | false =>
        rw [hj] at w
        exact VF.write w oa
      | true =>
        rw [hj] at w
        have w' : VT p (OO O0 M env env1) S d x := w
        show VT p _ _ d x
        cases d <;> try exact VF.write w' oa
        obtain ⟨b, fs, rfl, np, s, u⟩ := w'.rol_inv
        exact ⟨b, fs, rfl, np, by rw [put_ne (fun z => hji (r.inj i j a hat ⟨hj, ⟨_, e⟩, by rw [← z]; exact h2⟩))]; exact s, u.write oa⟩
  · rw [put_ne (fun z => by rw [z] at s; rw [r.new a ⟨i, hat⟩] at s; cases s)]
    exact r.ext c o nc s
/-- an owned slot that holds a list -/
theorem RelS.slot (r : RelS p q O0 S0 M S env env1 g) {i : Nat} {ds : List D} (hi : ownB M i = true) (e : env[i]? = some (some (.rol ds))) : ∃ a es, env1[i]? = some (some (.ref a)) ∧ a ≠ p ∧ S a = some (.lst es) ∧ VFs p (OO O0 M env env1) S ds es := by
  obtain ⟨x, h1, v⟩ := r.rel.var i _ e
  rw [hi] at v
  obtain ⟨a, es, rfl, np, s, w⟩ := VT.rol_inv (show VT p (OO O0 M env env1) S (.rol ds) x from v)
  exact ⟨a, es, h1, np, s, w⟩
/-! rules -/
theorem ok_asgO {i : Nat} {e : Ex} (hf : frB e = true) (hi : ownB M i = true) (h : wqE M Φ e false env g (QL fun ds g' => E.nx (env.set i (some (.rol ds))) g')) : OkS Φ M (.asg (.v i) e) E env g := fun p q O0 S0 S env1 E1 rs er => by
  simp only [wpS]
  refine sndF e hf rs.ok rs.rel h fun ds es S' g' a h' e' dk' v' f' => ?_
  simp only [wpP]
  exact er.nx _ _ _ _ h' ((rs.go e' dk').newL hi f' v')
theorem ok_app {i : Nat} {e : Ex} (hi : ownB M i = true) (ds : List D) (e0 : env[i]? = some (some (.rol ds))) (h : wqE M Φ e false env g fun d g' => ds.length < 16777216 ∧ E.nx (env.set i (some (.rol (ds ++ [d])))) g') :
    OkS Φ M (.ex (.mt .append (.var i) (.cons e .nil))) E env g := fun p q O0 S0 S env1 E1 rs er => by
  obtain ⟨a, es, h1, np, s, v⟩ := rs.slot hi e0
  simp only [wpS, wpE, wpA]
  refine ⟨_, h1, ⟨es, s⟩, sndE e rs.ok rs.rel h fun d2 d1 S' g' h' e' dk' v' => ?_⟩
  have s' := e' a _ np s
  exact ⟨es, s', by rw [← v.length]; exact h'.1, er.nx _ _ _ _ h'.2 ((rs.go e' dk').write hi e0 h1 np ((v.ext e').append (.cons v' .nil)))⟩
theorem ok_ext {i : Nat} {e : Ex} (hi : ownB M i = true) (ds : List D) (e0 : env[i]? = some (some (.rol ds))) (h : wqE M Φ e true env g (QL fun ys g' => ds.length + ys.length ≤ 16777216 ∧ E.nx (env.set i (some (.rol (ds ++ ys)))) g')) :
    OkS Φ M (.ex (.mt .extend (.var i) (.cons e .nil))) E env g := fun p q O0 S0 S env1 E1 rs er => by
  obtain ⟨a, es, h1, np, s, v⟩ := rs.slot hi e0
  simp only [wpS, wpE, wpA]
  refine ⟨_, h1, ⟨es, s⟩, sndE e rs.ok rs.rel h fun d2 d1 S' g' h' e' dk' v' => ?_⟩
  obtain ⟨ys, rfl, hl, h'⟩ := h'
  have s' := e' a _ np s
  obtain ⟨b, fs, rfl, _, t, w⟩ := v'.vt.rol_inv
  exact ⟨es, fs, s', t, by rw [← v.length, ← w.length]; exact hl, er.nx _ _ _ _ h' ((rs.go e' dk').write hi e0 h1 np ((v.ext e').append w))⟩
theorem ok_pop {i : Nat} (hi : ownB M i = true) (ds : List D) (d : D) (e0 : env[i]? = some (some (.rol (ds ++ [d])))) (h : E.nx (env.set i (some (.rol ds))) g) :
    OkS Φ M (.ex (.mt .pop (.var i) .nil)) E env g := fun p q O0 S0 S env1 E1 rs er => by
  obtain ⟨a, es, h1, np, s, v⟩ := rs.slot hi e0
  simp only [wpS, wpE, wpA]
  have hl := v.length
  rw [List.length_append, List.length_singleton] at hl
  have hne : es ≠ [] := fun z => by rw [z] at hl; simp at hl
  have e1 := List.dropLast_concat_getLast hne
  refine ⟨_, h1, ⟨es, s⟩, es.dropLast, es.getLast hne, by rw [e1]; exact s, er.nx _ _ _ _ h (rs.write hi e0 h1 np ?_)⟩
  have w := v.take ds.length
  rw [List.take_left, show ds.length = es.length - 1 by omega, ← List.dropLast_eq_take] at w
  exact w
theorem ok_set {i : Nat} {ix e : Ex} (hi : ownB M i = true) (ds : List D) (e0 : env[i]? = some (some (.rol ds)))
    (h : wqE M Φ e false env g fun d g1 => wqE M Φ ix true env g1 fun y g2 => ∃ k n, y = .int k ∧ ixN ds.length k = some n ∧ E.nx (env.set i (some (.rol (ds.set n d)))) g2) :
    OkS Φ M (.set (.var i) ix e) E env g := fun p q O0 S0 S env1 E1 rs er => by
  obtain ⟨a, es, h1, np, s, v⟩ := rs.slot hi e0
  simp only [wpS, wpE]
  refine sndE e rs.ok rs.rel h fun d2 d1 S1 g1 h' e' dk' v' => ⟨_, h1, sndE ix (rs.go e' dk').ok (rs.go e' dk').rel h' fun y y1 S2 g2 h2 e2 dk2 v2 => ?_⟩
  obtain ⟨kk, n, rfl, hn, h2⟩ := h2
  cases v2.vt.int_inv
  exact ⟨es, n, e2 a _ np (e' a _ np s), by rw [← v.length]; exact hn, er.nx _ _ _ _ h2 (((rs.go e' dk').go e2 dk2).write hi e0 h1 np (((v.ext e').ext e2).set n (VF.ext v' e2)))⟩
/-- another time to look back to -/
theorem RelS.base (r : RelS p q O0 S0 M S env env1 g) : ∃ S0', RelS p q O0 S0' M S env env1 g ∧ (∀ a o, ¬ OO O0 M env env1 a → a ≠ p → S a = some o → S0' a = some o) ∧
    (∀ S' env' env1' g', RelS p q O0 S0' M S' env' env1' g' → RelS p q O0 S0 M S' env' env1' g') ∧ ∀ S', ExtB p S0' S' → ExtB p S0 S' := by
  classical
  have hx : ∀ a o, a ≠ p → S0 a = some o → (if Ow M env env1 a then none else S a) = some o := fun a o np s => by
    rw [if_neg (fun z => by rw [r.new a z] at s; cases s)]
    exact r.ext a o np s
  refine ⟨fun a => if Ow M env env1 a then none else S a, ⟨r.ok, r.rel, fun a o np s => ?_, fun a ha => if_pos ha, fun a ha z => ?_, r.inj⟩, fun a o na np s => ?_, fun S' env' env1' g' r' => ⟨r'.ok, r'.rel, fun a o np s => r'.ext a o np (hx a o np s), fun a ha => ?_, r.dom, r'.inj⟩, fun S' e a o np s => e a o np (hx a o np s)⟩
  · have s' : (if Ow M env env1 a then none else S a) = some o := s
    split at s'
    · cases s'
    · exact s'
  · have z' : (if Ow M env env1 a then none else S a) = none := z
    rw [if_neg (fun w => r.dom a ha (r.new a w))] at z'
    exact r.ok.dom a (.inl ha) z'
  · show (if Ow M env env1 a then none else S a) = some o
    rw [if_neg (fun w => na (.inr w))]; exact s
  · have z := r'.new a ha
    cases s : S0 a with
    | none => rfl
    | some o =>
      have : a ≠ p := fun w => r'.ok.np (.inr (by rw [← w]; exact ha))
      rw [hx a o this s] at z; cases z
theorem ER.base {E1 : EndsD} {S0' : Sto} (er : ER p q O0 S0 M E E1) (h : ∀ S' env' env1' g', RelS p q O0 S0' M S' env' env1' g' → RelS p q O0 S0 M S' env' env1' g') (h2 : ∀ S', ExtB p S0' S' → ExtB p S0 S') : ER p q O0 S0' M E E1 :=
  ⟨fun env env1 S g a r => er.nx _ _ _ _ a (h _ _ _ _ r), fun d2 d1 S g a e => er.rt _ _ _ _ a (h2 _ e), fun env env1 S g a r => er.bk _ _ _ _ a (h _ _ _ _ r), fun env env1 S g a r => er.ct _ _ _ _ a (h _ _ _ _ r)⟩
def forV (body : D → En → Nat → (En → Nat → Prop) → Prop) (Q : En → Nat → Prop) : List D → En → Nat → Prop
  | [], env, g => Q env g
  | x :: xs, env, g => body x env g fun env' g' => forV body Q xs env' g'
theorem forV_ok {t : Pt} {b : Sx} {E1 : EndsD} {G : Sto → Prop} {W : D → D → Prop} (hb : ptB M t = true) (er : ER p q O0 S0 M E E1) (hG : ∀ S', ExtB p S0 S' → G S')
    (tr : ∀ S env env1 g d e, RelS p q O0 S0 M S env env1 g → W d e → VF p (OO O0 M env env1) S d e) :
    ∀ (xs xs1 : List D), (All2 W xs xs1) → ∀ (env env1 : En) (S : Sto) (g : Nat), RelS p q O0 S0 M S env env1 g →
      forV (fun x env g N => wqP t x env fun env2 => OkS Φ M b { nx := N, ct := N, bk := E.nx, rt := E.rt } env2 g) E.nx xs env g →
      forRun G (fun x env1 S2 N => wpP t x S2 env1 fun env2 => wpS (tab1 Φ) b { nx := N, ct := N, bk := E1.nx, rt := E1.rt } env2 S2) E1.nx xs1 env1 S
  | _, _, .nil, env, env1, S, g, r, h => er.nx _ _ _ _ h r
  | _, _, .cons (x := x) (y := x1) (xs := xs) (ys := xs1) hw ht, env, env1, S, g, r, h => by
    simp only [forV] at h
    simp only [forRun]
    refine wqP_ok2 t hb r.rel (tr S env env1 g _ _ r hw) h fun env' env1' h' r' s' => ?_
    refine h' p q O0 S0 S env1' _ (r.same r' s') ⟨fun env2 env12 S2 g2 h2 r2 => ?_, er.rt, er.nx, fun env2 env12 S2 g2 h2 r2 => ?_⟩
    · exact ⟨hG _ r2.ext, forV_ok hb er hG tr xs xs1 ht env2 env12 S2 g2 r2 h2⟩
    · exact ⟨hG _ r2.ext, forV_ok hb er hG tr xs xs1 ht env2 env12 S2 g2 r2 h2⟩
theorem VFs.all2 {O : Own} : ∀ {xs es : List D}, VFs p O S xs es → All2 (VF p O S) xs es
  | [], _, h => by simp only [VFs] at h; subst h; exact .nil
  | x :: xs, es, h => by
    simp only [VFs] at h
    obtain ⟨e, r, rfl, v, w⟩ := h
    exact .cons v w.all2
theorem ok_loop {t : Pt} {it : Ex} {b : Sx} (hb : ptB M t = true)
    (h : wqI M Φ it false env g fun xs g' => forV (fun x env g N => wqP t x env fun env2 => OkS Φ M b { nx := N, ct := N, bk := E.nx, rt := E.rt } env2 g) E.nx xs env g') : OkS Φ M (.loop t it b) E env g := fun p q O0 S0 S env1 E1 rs er => by
  simp only [wpS]
  refine sndI it rs.ok rs.rel h fun xs xs1 G S1 g1 h1 e1 dk1 v1 hG => ?_
  have r1 := rs.go e1 dk1
  obtain ⟨S0', rb, keep, back, back2⟩ := r1.base
  refine forV_ok (S0 := S0') (W := VF p (OO O0 M env env1) S1) hb (er.base back back2) (fun S' e' => hG S' fun a o ha np s => ?_) (fun S' env' env1' g' d e r' w => w.to fun a es na np s => ⟨fun z => ?_, ?_⟩) xs xs1 v1.all2 env env1 S1 g1 rb h1
  · exact e' a o np (keep a o (ha.resolve_left (by decide)) np s)
  · rcases z with z | z
    · exact na (.inl z)
    · have := r'.new a z
      rw [keep a _ na np s] at this; cases this
  · exact r'.ext a _ np (keep a _ na np s)
/-- over a list of its own, which is not looked at any more from there on -/
theorem ok_loopO {t : Pt} {i : Nat} {b : Sx} (hb : ptB M t = true) (xs : List D) (e0 : env[i]? = some (some (.rol xs)))
    (h : forV (fun x env g N => wqP t x env fun env2 => OkS Φ M b { nx := N, ct := N, bk := E.nx, rt := E.rt } env2 g) E.nx xs (env.set i none) g) : OkS Φ M (.loop t (.iE (.var i)) b) E env g := fun p q O0 S0 S env1 E1 rs er => by
  simp only [wpS, wpI, wpE]
  obtain ⟨x, h1, v⟩ := rs.rel.var i _ e0
  refine ⟨x, h1, ?_⟩
  obtain ⟨a, es, rfl, np, s, w⟩ := VT.rol_inv v.vt
  have r1 := rs.forget i
  have na : ownB M i = true → ¬ OO O0 M (env.set i none) env1 a := fun hi z => by
    have hat : OwAt M env env1 i a := ⟨hi, ⟨_, e0⟩, h1⟩
    rcases z with z | ⟨j, hj, ⟨ds, hd⟩, z⟩
    · exact rs.dom a z (rs.new a ⟨i, hat⟩)
    · by_cases hij : i = j
      · subst hij
        by_cases hl : i < env.length
        · rw [List.getElem?_set_self hl] at hd; cases hd
        · rw [List.getElem?_eq_none (by simpa using hl)] at hd; cases hd
      · rw [List.getElem?_set_ne hij] at hd
        exact hij (rs.inj i j a hat ⟨hj, ⟨ds, hd⟩, z⟩)
  have na' : ¬ OO O0 M (env.set i none) env1 a := by
    cases hi : ownB M i with
    | true => exact na hi
    | false =>
      rw [hi] at v
      have v' : VF p (OO O0 M env env1) S (.rol xs) (.ref a) := v
      simp only [VF] at v'
      obtain ⟨a', _, e, n, _⟩ := v'
      cases e
      rintro (z | ⟨j, hj, ⟨ds, hd⟩, z⟩)
      · exact n (.inl z)
      · by_cases hij : i = j
        · subst hij; rw [hi] at hj; cases hj
        · rw [List.getElem?_set_ne hij] at hd
          exact n (.inr ⟨j, hj, ⟨ds, hd⟩, z⟩)
  have sub : ∀ c, OO O0 M (env.set i none) env1 c → OO O0 M env env1 c := by
    rintro c (z | ⟨j, hj, ⟨ds, hd⟩, z⟩)
    · exact .inl z
    · by_cases hij : i = j
      · subst hij
        by_cases hl : i < env.length
        · rw [List.getElem?_set_self hl] at hd; cases hd
        · rw [List.getElem?_eq_none (by simpa using hl)] at hd; cases hd
      · rw [List.getElem?_set_ne hij] at hd; exact .inr ⟨j, hj, ⟨ds, hd⟩, z⟩
  obtain ⟨S0', rb, keep, back, back2⟩ := r1.base
  refine ⟨es, s, forV_ok (S0 := S0') (W := VF p (OO O0 M (env.set i none) env1) S) hb (er.base back back2) (fun S' e' => e' a _ np (keep a _ na' np s)) (fun S' env' env1' g' d e r' w => w.to fun c es nc nq s => ⟨fun z => ?_, ?_⟩) xs es (w.less sub).all2 _ env1 S g rb h⟩
  · rcases z with z | z
    · exact nc (.inl z)
    · have := r'.new c z
      rw [keep c _ nc nq s] at this; cases this
  · exact r'.ext c _ nq (keep c _ nc nq s)
def whV (Φ : Tab2) (M : List Nat) (c : Ex) (b : Sx) (E : Ends2) : Nat → En → Nat → Prop
  | 0, _, _ => False
  | n + 1, env, g => wqT M Φ c env g fun t g' => if t = true then OkS Φ M b { nx := whV Φ M c b E n, ct := whV Φ M c b E n, bk := E.nx, rt := E.rt } env g' else E.nx env g'
theorem whV_ok {c : Ex} {b : Sx} {E1 : EndsD} (er : ER p q O0 S0 M E E1) : ∀ (n : Nat) (env env1 : En) (S : Sto) (g : Nat), RelS p q O0 S0 M S env env1 g → whV Φ M c b E n env g →
    whRun (wpT (tab1 Φ) c) (fun env1 S1 N => wpS (tab1 Φ) b { nx := N, ct := N, bk := E1.nx, rt := E1.rt } env1 S1) E1.nx n env1 S
  | 0, env, env1, S, g, r, h => h.elim
  | n + 1, env, env1, S, g, r, h => by
    simp only [whV] at h
    simp only [whRun]
    refine sndT c r.ok r.rel h fun t S' g' h' e' dk' => ?_
    cases t with
    | false => simp only [Bool.false_eq_true, if_false] at h' ⊢; exact er.nx _ _ _ _ h' (r.go e' dk')
    | true =>
      simp only [if_true] at h' ⊢
      exact h' p q O0 S0 S' env1 _ (r.go e' dk') ⟨fun env2 env12 S2 g2 h2 r2 => whV_ok er n env2 env12 S2 g2 r2 h2, er.rt, er.nx, fun env2 env12 S2 g2 h2 r2 => whV_ok er n env2 env12 S2 g2 r2 h2⟩
theorem ok_wh {c : Ex} {b : Sx} (n : Nat) (h : whV Φ M c b E n env g) : OkS Φ M (.wh c b) E env g := fun p q O0 S0 S env1 E1 rs er => by
  simp only [wpS]
  exact ⟨n, whV_ok er n env env1 S g rs h⟩
/-! two at once: x, y = a, b -/
/-- a slot's new value: a list of its own, or any value -/
def wqN (M : List Nat) (Φ : Tab2) (i : Nat) (e : Ex) (env : En) (g : Nat) (Q : QK) : Prop := if ownB M i = true then frB e = true ∧ wqE M Φ e false env g (QL fun ds g' => Q (.rol ds) g') else wqE M Φ e false env g Q
theorem ok_asg2 {i j : Nat} {a b : Ex} (hij : i ≠ j) (h : wqN M Φ i a env g fun x g1 => wqN M Φ j b env g1 fun y g2 => E.nx ((env.set i (some x)).set j (some y)) g2) :
    OkS Φ M (.asg (.t (.cons (.v i) (.cons (.v j) .nil))) (.tup (.cons a (.cons b .nil)))) E env g := fun p q O0 S0 S env1 E1 rs er => by
  simp only [wpS, wpE, wpA]
  have two : (2 : Nat) ≤ 16777216 := by decide
  -- the second one, under further owners
  have second : ∀ (O : Own) (S1 : Sto) (g1 : Nat) (Q : QK) (Q1 : DK), OkO p q O S1 g1 → RelV2 p O M S1 env env1 → wqN M Φ j b env g1 Q →
      (∀ y y1 S2 g2, Q y g2 → ExtB p S1 S2 → Deck S2 p q g2 → VF p O S2 y y1 → (ownB M j = false) → Q1 y1 S2) →
      (∀ ds es S2 g2 c, Q (.rol ds) g2 → ExtB p S1 S2 → Deck S2 p q g2 → VFs p O S2 ds es → S2 c = none → ownB M j = true → Q1 (.ref c) (put S2 c (.lst es))) → wpE (tab1 Φ) b env1 S1 Q1 := by
    intro O S1 g1 Q Q1 k r h k1 k2
    unfold wqN at h
    split at h
    · rename_i hj
      exact sndF b h.1 k r h.2 fun ds es S2 g2 c q e dk v f => k2 ds es S2 g2 c q e dk v f hj
    · rename_i hj
      exact sndE b k r h fun y y1 S2 g2 q e dk v => k1 y y1 S2 g2 q e dk v (by simpa using hj)
  have fin : ∀ x1 y1 S2, E1.nx ((env1.set i (some x1)).set j (some y1)) S2 → ([x1, y1] : List D).length ≤ 16777216 ∧ wpP (.t (.cons (.v i) (.cons (.v j) .nil))) (.tup [x1, y1]) S2 env1 fun env' => E1.nx env' S2 := fun x1 y1 S2 h => by
    refine ⟨two, ?_⟩
    simp only [wpP]
    exact ⟨_, rfl, by simp only [wpPs, wpP]; exact h⟩
  have setO : ∀ {k : Nat} {o o' : Option D}, ownB M k = false → ∀ (e e' : En) l, ownB M l = true → (e.set k o)[l]? = e[l]? ∧ (e'.set k o')[l]? = e'[l]? := fun {k o o'} hk e e' l hl => ⟨List.getElem?_set_ne (fun z => by rw [z, hl] at hk; cases hk), List.getElem?_set_ne (fun z => by rw [z, hl] at hk; cases hk)⟩
  unfold wqN at h
  split at h
  · -- the first is owned
    rename_i hi
    refine sndF a h.1 rs.ok rs.rel h.2 fun ds es S1 g1 c h1 e1 dk1 v1 f1 => ?_
    have r1 := rs.go e1 dk1
    obtain ⟨n1, n2, n3⟩ := r1.ok.fresh f1
    have eA : ExtB p S1 (put S1 c (.lst es)) := (Ext.put f1).but
    have kA : OkO p q (fun d => OO O0 M env env1 d ∨ d = c) (put S1 c (.lst es)) g1 := by
      refine ⟨dk1.put n1 n2, fun d hd z => ?_, fun z => z.elim r1.ok.np n1, fun z => z.elim r1.ok.nq n2⟩
      by_cases hdc : d = c
      · rw [hdc, put_same] at z; cases z
      · rw [put_ne hdc] at z
        exact r1.ok.dom d (hd.resolve_right hdc) z
    have sub2 : ∀ b, OO O0 M (env.set i (some (.rol ds))) (env1.set i (some (.ref c))) b → OO O0 M env env1 b ∨ b = c := by
      rintro b (z | ⟨l, hl, hd, z⟩)
      · exact .inl (.inl z)
      · by_cases hil : i = l
        · subst hil
          by_cases hlen : i < env1.length
          · rw [List.getElem?_set_self hlen] at z; cases z; exact .inr rfl
          · rw [List.getElem?_eq_none (by simpa using hlen)] at z; cases z
        · rw [List.getElem?_set_ne hil] at z hd; exact .inl (.inr ⟨l, hl, hd, z⟩)
    -- the store without the new list
    have clean : ∀ (S2 : Sto) g2, ExtB p (put S1 c (.lst es)) S2 → Deck S2 p q g2 → ∃ S3 : Sto, S3 c = none ∧ put S3 c (.lst es) = S2 ∧ ExtB p S1 S3 ∧ Deck S3 p q g2 ∧ ∀ b, b ≠ c → S3 b = S2 b := fun S2 g2 e2 dk2 => by
      refine ⟨fun b => if b = c then none else S2 b, if_pos rfl, ?_, fun b o nb s => ?_, ?_, fun b hb => if_neg hb⟩
      · funext b
        by_cases hb : b = c
        · rw [hb, put_same, e2 c _ (fun z => n1 z.symm) put_same]
        · rw [put_ne hb]; exact if_neg hb
      · show (if b = c then none else S2 b) = _
        rw [if_neg (fun z => by rw [z, f1] at s; cases s)]
        exact e2 b o nb (eA b o nb s)
      · obtain ⟨ns, i1, i2, i3, d1, d2, rest⟩ := dk2
        refine ⟨ns, i1, i2, i3, ?_, ?_, rest⟩
        · show (if p = c then none else S2 p) = _
          rw [if_neg n1]; exact d1
        · show (if q = c then none else S2 q) = _
          rw [if_neg n2]; exact d2
    refine second _ _ g1 _ _ kA ((r1.rel.own f1).ext eA) h1 (fun y y1 S2 g2 h2 e2 dk2 v2 hj => fin _ _ _ ?_) (fun ds2 es2 S2 g2 c2 h2 e2 dk2 v2 f2 hj => fin _ _ _ ?_)
    · obtain ⟨S3, s3, es3, e3, dk3, sb⟩ := clean S2 g2 e2 dk2
      have r3 : RelS p q O0 S0 M S3 env env1 g2 := r1.go e3 dk3
      have r4 := r3.newL (ds := ds) hi s3 (v1.ext e3)
      rw [es3] at r4
      refine er.nx _ _ _ _ h2 (r4.same (r4.rel.set j ?_) (setO hj _ _))
      exact v2.to fun b fs nb np s => ⟨fun z => nb (sub2 b z), s⟩
    · obtain ⟨S3, s3, es3, e3, dk3, sb⟩ := clean S2 g2 e2 dk2
      have r3 : RelS p q O0 S0 M S3 env env1 g2 := r1.go e3 dk3
      have r4 := r3.newL (ds := ds) hi s3 (v1.ext e3)
      rw [es3] at r4
      exact er.nx _ _ _ _ h2 (r4.newL hj f2 (v2.to fun b fs nb np s => ⟨fun z => nb (sub2 b z), s⟩))
  · rename_i hi
    have hi' : ownB M i = false := by simpa using hi
    refine sndE a rs.ok rs.rel h fun x x1 S1 g1 h1 e1 dk1 v1 => ?_
    have r1 := rs.go e1 dk1
    refine second _ _ g1 _ _ r1.ok r1.rel h1 (fun y y1 S2 g2 h2 e2 dk2 v2 hj => fin _ _ _ ?_) (fun ds2 es2 S2 g2 c2 h2 e2 dk2 v2 f2 hj => fin _ _ _ ?_)
    · have r2 := r1.go e2 dk2
      have r4 : RelV2 p (OO O0 M env env1) M S2 ((env.set i (some x)).set j (some y)) ((env1.set i (some x1)).set j (some y1)) := (r2.rel.set i (VF.ext v1 e2)).set j v2
      exact er.nx _ _ _ _ h2 (r2.same r4 fun l hl => ⟨(setO (o' := none) hj _ [] l hl).1.trans (setO (o' := none) hi' _ [] l hl).1, (setO (o' := none) hj _ [] l hl).1.trans (setO (o' := none) hi' _ [] l hl).1⟩)
    · have r2 := r1.go e2 dk2
      have r3 := r2.same (r2.rel.set i (VF.ext v1 e2)) (setO hi' _ _)
      refine er.nx _ _ _ _ h2 (r3.newL hj f2 (v2.to fun b fs nb np s => ⟨fun z => nb ?_, s⟩))
      rcases z with z | ⟨l, hl, hd, z⟩
      · exact .inl z
      · rw [(setO (o' := none) hi' _ [] l hl).1] at z hd; exact .inr ⟨l, hl, hd, z⟩
end
end G57
set_option Elab.async false
set_option linter.all false
set_option maxRecDepth 100000
set_option maxHeartbeats 800000
namespace G57
open PySem L2 PySem.Spec PyProof.Rows
/-! defs over values -/
def tab2 (L : List (Str × Spec2)) : Tab2 := { q := fun i => (L[i]?).map (·.2) }
theorem tab2_q {L : List (Str × Spec2)} {i : Nat} : (tab2 L).q i = (L[i]?).map (·.2) := rfl
theorem tab2_eq (L : List (Str × Spec2)) : (fun i => ((L.map fun p => (p.1, lift2 p.2))[i]?).map (·.2)) = tab1 (tab2 L) := by
  funext i
  simp only [tab1, tab2, List.getElem?_map]
  cases L[i]? <;> rfl
theorem startD_rel {p : Addr} {S : Sto} {O : Own} {M : List Nat} {N : List Str} {ds es : List D} {n : Nat} (v : VFs p O S ds es) : RelV2 p O M S (startD N ds) (startD N es) := by
  have hl := v.length
  refine ⟨by simp [startD, hl], fun i d e => ?_⟩
  unfold startD at e ⊢
  by_cases hi : i < ds.length
  · rw [List.getElem?_append_left (by simpa using hi), List.getElem?_map] at e
    obtain ⟨d', e1, e2⟩ := Option.map_eq_some_iff.mp e
    cases e2
    obtain ⟨u, e3, rv⟩ := v.get e1
    exact ⟨u, by rw [List.getElem?_append_left (by simp; omega), List.getElem?_map, e3]; rfl, rv.vb _⟩
  · rw [List.getElem?_append_right (by simpa using hi), List.getElem?_replicate] at e
    split at e <;> cases e
theorem startD_none {N : List Str} {es : List D} {i : Nat} {a : Addr} (h : es.length ≤ i) : (startD N es)[i]? ≠ some (some (.ref a)) := fun e => by
  unfold startD at e
  rw [List.getElem?_append_right (by simpa using h), List.getElem?_replicate] at e
  split at e <;> cases e
theorem lift_body {L : Tab2} {M : List Nat} {N : List Str} {n : Nat} {ir : Sx} {sp : Spec2} (len : ∀ ds g Q, sp ds g Q → ds.length = n) (hM : ∀ i, ownB M i = true → n ≤ i)
    (body : ∀ ds g Q, sp ds g Q → OkS L M ir { nx := fun _ g' => Q .non g', rt := Q } (startD N ds) g) (es : List D) (S : Sto) (Q : DK) (h : lift2 sp es S Q) : wpS (tab1 L) ir { nx := fun _ S' => Q .non S', rt := Q } (startD N es) S := by
  obtain ⟨p, q, O, g, ds, R, k, v, h, P⟩ := h
  have hn := len _ _ _ h
  have hes : es.length = n := by rw [← v.length, hn]
  have no : ∀ a, ¬ Ow M (startD N ds) (startD N es) a := fun a ⟨i, hi, _, e⟩ => startD_none (by rw [hes]; exact hM i hi) e
  have eO : OO O M (startD N ds) (startD N es) = O := by
    funext a; apply propext
    exact ⟨fun z => z.elim id fun w => (no a w).elim, .inl⟩
  refine body ds g R h p q O S S (startD N es) _ ⟨by rw [eO]; exact k, by rw [eO]; exact startD_rel (n := n) v, ExtB.refl, fun a ha => (no a ha).elim, k.dom, fun i j a z _ => (no a ⟨i, z⟩).elim⟩ ⟨fun env env1 S' g' hR r => ?_, fun d2 d1 S' g' hR e dk v' => P _ _ _ _ hR e dk v', fun _ _ _ _ z => z.elim, fun _ _ _ _ z => z.elim⟩
  exact P _ _ _ _ hR r.ext r.ok.dk .n
theorem lift_len {sp : Spec2} {n : Nat} (len : ∀ ds g Q, sp ds g Q → ds.length = n) : ∀ es S Q, lift2 sp es S Q → es.length = n := fun es S Q ⟨p, q, O, g, ds, R, k, v, h, P⟩ => by rw [← v.length]; exact len _ _ _ h
theorem does2 {P : Program} {w : World} {K : PySem.W.Frag} {mg : Str → Option Value} {base : Heap} {k : Nat} {x : Str} {st : Stmt} {N ps bs : List Str} {cs : List (Str × D)} {L : List (Str × Spec2)} {M : List Nat} {ir : Sx} {sp : Spec2}
    (F : FT K mg x st ps) (hsc : fnOkB N ps (defScope st) = true) (tr : trB 300 (gamOf N (defScope st) bs (L.map (·.1)) cs) (defBody st) = some ir) (md : Md K mg bs cs) (tab : ∀ p ∈ L, Does P w K mg base k p.1 (lift2 p.2))
    (len : ∀ ds g Q, sp ds g Q → ds.length = ps.length) (hM : ∀ i, ownB M i = true → ps.length ≤ i)
    (body : ∀ ds g Q, sp ds g Q → OkS (tab2 L) M ir { nx := fun _ g' => Q .non g', rt := Q } (startD N ds) g) : Does P w K mg base (k + 1) x (lift2 sp) := by
  refine does_of (Φ := L.map fun p => (p.1, lift2 p.2)) F hsc (by rw [List.map_map]; exact tr) md (fun p hp => ?_) (lift_len len) ?_
  · obtain ⟨p', hp', rfl⟩ := List.mem_map.mp hp
    exact tab p' hp'
  · rw [tab2_eq]
    exact lift_body len hM body
theorem Does.weak {P : Program} {w : World} {K : PySem.W.Frag} {mg : Str → Option Value} {base : Heap} {k : Nat} {x : Str} {sp sp' : Spec} (d : Does P w K mg base k x sp) (h : ∀ ds S Q, sp' ds S Q → sp ds S Q) : Does P w K mg base k x sp' := by
  obtain ⟨f, fd, ps, a, b, c, e, l⟩ := d.ex
  refine ⟨f, fd, ps, a, b, c, ⟨fun vs H Q E z => z.1, fun A outer s H args us vs Q E r g e0 hb rv z => ?_⟩, fun ds S Q z => l ds S Q (h _ _ _ z)⟩
  obtain ⟨z1, ds, S, Qd, z2, z3, z4, z5⟩ := z
  exact e.run A outer s H args us vs Q E r g e0 hb rv ⟨z1, ds, S, Qd, z2, z3, h _ _ _ z4, z5⟩
theorem does2_no {P : Program} {w : World} {K : PySem.W.Frag} {mg : Str → Option Value} {base : Heap} {k : Nat} {x : Str} {st : Stmt} {ps : List Str} {sp : Spec2} (F : FT K mg x st ps) (h : ∀ ds g Q, ¬ sp ds g Q) : Does P w K mg base k x (lift2 sp) :=
  does_no F fun es S Q ⟨p, q, O, g, ds, R, k, v, z, P⟩ => h _ _ _ z
/-! draws -/
def dck : D := .ref 0
def sDraw : Spec2 := fun ds g Q => ∃ n : Int, ds = [dck, .int n] ∧ 0 < n ∧ n < 2 ^ 8000 ∧ 1 ≤ g ∧ ∀ r : Int, 0 ≤ r → r < n → Q (.int r) (g - 1)
theorem does_draw2 {P : Program} {w : World} {K : PySem.W.Frag} {mg : Str → Option Value} {base : Heap} {k : Nat} (d : Does P w K mg base k "_law_draw" spDraw) : Does P w K mg base k "_law_draw" (lift2 sDraw) :=
  d.weak fun es S Q ⟨p, q, O, g, ds, R, k, v, ⟨n, e, h1, h2, h3, h4⟩, P⟩ => by
    subst e
    simp only [VFs] at v
    obtain ⟨_, _, rfl, v1, _, _, rfl, v2, rfl⟩ := v
    simp only [dck, VF] at v1 v2
    subst v1 v2
    exact ⟨p, q, n, g - 1, rfl, h1, h2, k.dk.less (by omega), fun S' r r0 r1 dk e => P _ _ _ _ (h4 r r0 r1) e dk .i⟩
/-! the law: a deck, then the rest over values -/
def tabL (L : List (Str × (Spec ⊕ Spec2))) : Tab2 where
  q := fun i => match L[i]? with
    | some (_, .inr s) => some s
    | _ => none
  w := fun i => match L[i]? with
    | some (_, .inl s) => some s
    | _ => none
theorem tabL_q {L : List (Str × (Spec ⊕ Spec2))} {i : Nat} : (tabL L).q i = match L[i]? with | some (_, .inr s) => some s | _ => none := rfl
def sp12 : Spec ⊕ Spec2 → Spec
  | .inl s => s
  | .inr s => lift2 s
theorem tabL_eq (L : List (Str × (Spec ⊕ Spec2))) : (fun i => ((L.map fun p => (p.1, sp12 p.2))[i]?).map (·.2)) = tab1 (tabL L) := by
  funext i
  simp only [tab1, tabL, List.getElem?_map]
  rcases L[i]? with _ | ⟨n, s | s⟩ <;> rfl
theorem law_body {L : List (Str × (Spec ⊕ Spec2))} {M : List Nat} {N : List Str} {r : Sx} {j : Nat} {nm : Str} (hj : L[j]? = some (nm, .inl spDeck)) (hN : 2 ≤ N.length) (h0 : ownB M 0 = false) (h1 : ownB M 1 = false)
    (body : OkS (tabL L) M r { nx := fun _ _ => False, rt := fun d _ => d = .bl true } (none :: some dck :: List.replicate (N.length - 2) none) 2147483648) :
    ∀ ds S Q, lawSp 63 ds S Q → wpS (tab1 (tabL L)) (.cons (.asg (.v 1) (.call j (.cons (.var 0) .nil))) r) { nx := fun _ S' => Q .non S', rt := Q } (startD N ds) S := by
  rintro ds S Q ⟨ns, hl, rfl, k⟩
  have e0 : startD N [.rol (ns.map D.int)] = some (.rol (ns.map D.int)) :: none :: List.replicate (N.length - 2) none := by
    unfold startD
    obtain ⟨m, hm⟩ : ∃ m, N.length = m + 2 := ⟨N.length - 2, by omega⟩
    rw [hm]
    rfl
  rw [e0]
  refine st_cons (st_asg ?_)
  simp only [wpE, wpA, wpP]
  refine ⟨spDeck, by simp only [tab1, tabL, hj], _, rfl, ns, rfl, hl, fun S' p q dk e => ?_⟩
  have eset : (some (D.rol (ns.map D.int)) :: none :: List.replicate (N.length - 2) none : En).set 1 (some (.ref p)) = some (D.rol (ns.map D.int)) :: some (.ref p) :: List.replicate (N.length - 2) none := rfl
  show wpS (tab1 (tabL L)) r _ ((some (D.rol (ns.map D.int)) :: none :: List.replicate (N.length - 2) none : En).set 1 (some (.ref p))) S'
  rw [eset]
  have no : ∀ a, ¬ Ow M (none :: some dck :: List.replicate (N.length - 2) none) (some (D.rol (ns.map D.int)) :: some (.ref p) :: List.replicate (N.length - 2) none) a := fun a ⟨i, hi, _, z⟩ => by
    match i, hi, z with
    | 0, hi, _ => rw [h0] at hi; cases hi
    | 1, hi, _ => rw [h1] at hi; cases hi
    | i + 2, _, z =>
      simp only [List.getElem?_cons_succ, List.getElem?_replicate] at z
      split at z <;> cases z
  have eO : OO (fun _ => False) M (none :: some dck :: List.replicate (N.length - 2) none) (some (D.rol (ns.map D.int)) :: some (.ref p) :: List.replicate (N.length - 2) none) = fun _ => False := by
    funext a; apply propext
    exact ⟨fun z => z.elim id fun w => no a w, False.elim⟩
  have rel : RelV2 p (fun _ => False) M S' (none :: some dck :: List.replicate (N.length - 2) none) (some (D.rol (ns.map D.int)) :: some (.ref p) :: List.replicate (N.length - 2) none) := by
    refine ⟨by simp, fun i d z => ?_⟩
    match i, z with
    | 0, z => cases z
    | 1, z =>
      simp only [List.getElem?_cons_succ, List.getElem?_cons_zero, Option.some.injEq] at z
      subst z
      refine ⟨.ref p, rfl, VF.vb _ ?_⟩
      simp only [dck, VF]
    | i + 2, z =>
      simp only [List.getElem?_cons_succ, List.getElem?_replicate] at z
      split at z <;> cases z
  refine body p q (fun _ => False) (fun _ => none) S' _ _ ⟨by rw [eO]; exact ⟨dk, fun a ha => ha.elim, id, id⟩, by rw [eO]; exact rel, (fun a o _ z => by cases z), fun a _ => rfl, fun a ha => ha.elim, fun i j a z _ => (no a ⟨i, z⟩).elim⟩ ⟨fun _ _ _ _ z _ => z.elim, fun d2 d1 S2 g z _ _ v => ?_, fun _ _ _ _ z _ => z.elim, fun _ _ _ _ z _ => z.elim⟩
  subst z
  cases v.vt.bl_inv
  exact k S2
theorem law_does {P : Program} {w : World} {K : PySem.W.Frag} {mg : Str → Option Value} {base : Heap} {k : Nat} {x : Str} {st : Stmt} {f : Addr} {fd : FuncData} {N ps bs : List Str} {cs : List (Str × D)} {L : List (Str × (Spec ⊕ Spec2))} {ir : Sx} {sp : Spec}
    (F : Fun K x x st f fd) (hsc : fnOkB N ps (defScope st) = true) (tr : trB 300 (gamOf N (defScope st) bs (L.map (·.1)) cs) (defBody st) = some ir) (md : Md K mg bs cs) (tab : ∀ p ∈ L, Does P w K mg base k p.1 (sp12 p.2))
    (body : ∀ ds S Q, sp ds S Q → wpS (tab1 (tabL L)) ir { nx := fun _ S' => Q .non S', rt := Q } (startD N ds) S) : FnG P w K mg base (k + 1) f fd ps (liftSp K ps.length sp) := by
  refine fn_does (Φ := L.map fun p => (p.1, sp12 p.2)) F hsc (by rw [List.map_map]; exact tr) md (fun p hp => ?_) ?_
  · obtain ⟨p', hp', rfl⟩ := List.mem_map.mp hp
    exact tab p' hp'
  · rw [tabL_eq]
    exact body
/-! comprehensions and loops -/
theorem lcV_fm {α : Type} (enc : α → D) (f : α → Option D) {body : D → Nat → (Option D → Nat → Prop) → Prop} {Q : List D → Nat → Prop} : ∀ (xs : List α) (acc : List D) (g : Nat), acc.length + xs.length ≤ 16777216 →
    (∀ x ∈ xs, ∀ k, k (f x) g → body (enc x) g k) → Q (acc ++ xs.filterMap f) g → lcV body Q (xs.map enc) acc g
  | [], acc, g, _, _, h => by simp only [List.map_nil, lcV]; simpa using h
  | x :: xs, acc, g, hl, hb, h => by
    simp only [List.map_cons, lcV]
    rw [List.length_cons] at hl
    refine hb x (by simp) _ ?_
    cases hf : f x with
    | none =>
      simp only
      exact lcV_fm enc f xs acc g (by omega) (fun y hy => hb y (by simp [hy])) (by rw [List.filterMap_cons_none hf] at h; exact h)
    | some y =>
      simp only
      exact ⟨by omega, lcV_fm enc f xs _ g (by rw [List.length_append]; simp; omega) (fun y hy => hb y (by simp [hy])) (by rw [List.filterMap_cons_some hf] at h; simpa using h)⟩
theorem lcV_map {α : Type} (enc : α → D) (f : α → D) {body : D → Nat → (Option D → Nat → Prop) → Prop} {Q : List D → Nat → Prop} {g : Nat} (xs : List α) (hl : xs.length ≤ 16777216)
    (hb : ∀ x ∈ xs, ∀ k, k (some (f x)) g → body (enc x) g k) (h : Q (xs.map f) g) : lcV body Q (xs.map enc) [] g :=
  lcV_fm enc (fun x => some (f x)) xs [] g (by simpa using hl) hb (by rw [fm_some]; simpa using h)
/-- over the items themselves -/
theorem lcV_id (f : D → D) {body : D → Nat → (Option D → Nat → Prop) → Prop} {Q : List D → Nat → Prop} {g : Nat} (xs : List D) (hl : xs.length ≤ 16777216)
    (hb : ∀ x ∈ xs, ∀ k, k (some (f x)) g → body x g k) (h : Q (xs.map f) g) : lcV body Q xs [] g := by
  have := lcV_map id f xs hl hb h
  rwa [List.map_id] at this
/-- drawn items, at a cost of c each -/
theorem lcV_draw (c : Nat) (P : D → Prop) {body : D → Nat → (Option D → Nat → Prop) → Prop} {Q : List D → Nat → Prop} : ∀ (xs acc : List D) (g : Nat), acc.length + xs.length ≤ 16777216 → c * xs.length ≤ g → (∀ y ∈ acc, P y) →
    (∀ x ∈ xs, ∀ g k, c ≤ g → (∀ y, P y → k (some y) (g - c)) → body x g k) → (∀ ys, ys.length = acc.length + xs.length → (∀ y ∈ ys, P y) → Q ys (g - c * xs.length)) → lcV body Q xs acc g
  | [], acc, g, _, _, hP, _, hQ => by
    simp only [lcV]
    exact hQ acc (by simp) hP
  | x :: xs, acc, g, hl, hg, hP, hb, hQ => by
    simp only [lcV]
    rw [List.length_cons] at hl
    rw [List.length_cons, Nat.mul_succ] at hg
    refine hb x (by simp) g _ (by omega) fun y hy => ?_
    simp only
    refine ⟨by omega, lcV_draw c P xs (acc ++ [y]) (g - c) (by rw [List.length_append]; simp; omega) (by omega) (fun z hz => ?_) (fun z hz => hb z (by simp [hz])) fun ys hl2 hP2 => ?_⟩
    · rcases List.mem_append.mp hz with h | h
      · exact hP z h
      · rw [List.mem_singleton.mp h]; exact hy
    · have := hQ ys (by rw [hl2, List.length_append, List.length_cons, List.length_cons, List.length_nil]; omega) hP2
      rw [List.length_cons, Nat.mul_succ] at this
      rw [show g - c - c * xs.length = g - (c * xs.length + c) by omega]
      exact this
theorem forV_inv {body : D → En → Nat → (En → Nat → Prop) → Prop} {Q : En → Nat → Prop} (I : List D → En → Nat → Prop) : ∀ (xs : List D) (env : En) (g : Nat), I xs env g →
    (∀ x r env g N, I (x :: r) env g → (∀ env' g', I r env' g' → N env' g') → body x env g N) → (∀ env g, I [] env g → Q env g) → forV body Q xs env g
  | [], env, g, h, _, hd => hd env g h
  | x :: xs, env, g, h, hs, hd => by
    simp only [forV]
    exact hs x xs env g _ h fun env' g' h' => forV_inv I xs env' g' h' hs hd
/-- a loop over things that stand for others, with a state -/
theorem forV_st {α σ : Type} (enc : α → D) (env : σ → List α → En) (I : σ → List α → Nat → Prop) {body : D → En → Nat → (En → Nat → Prop) → Prop} {Q : En → Nat → Prop} : ∀ (xs : List α) (s : σ) (g : Nat), I s xs g →
    (∀ x r s g N, I s (x :: r) g → (∀ s' g', I s' r g' → N (env s' r) g') → body (enc x) (env s (x :: r)) g N) → (∀ s g, I s [] g → Q (env s []) g) → forV body Q (xs.map enc) (env s xs) g
  | [], s, g, h, _, hd => hd s g h
  | x :: xs, s, g, h, hs, hd => by
    simp only [List.map_cons, forV]
    exact hs x xs s g _ h fun s' g' h' => forV_st enc env I xs s' g' h' hs hd
theorem whV_inv {Φ : Tab2} {M : List Nat} {c : Ex} {b : Sx} {E : Ends2} (I : Nat → En → Nat → Prop)
    (step : ∀ n env g (N : En → Nat → Prop), I n env g → (∀ n' env' g', n' < n → I n' env' g' → N env' g') → wqT M Φ c env g fun t g' => if t = true then OkS Φ M b { nx := N, ct := N, bk := E.nx, rt := E.rt } env g' else E.nx env g') :
    ∀ (fuel n : Nat) (env : En) (g : Nat), n < fuel → I n env g → whV Φ M c b E fuel env g
  | 0, n, _, _, h, _ => absurd h (by omega)
  | fuel + 1, n, env, g, h, hi => by
    simp only [whV]
    exact step n env g _ hi fun n' env' g' hn' hi' => whV_inv I step fuel n' env' g' (by omega) hi'
/-! operations at known kinds -/
section
variable {R : RK} {B : Bool → Prop} {P : List D → Prop} {W : List Nat → Prop} {U : En → Prop} {env : En} {p1 pt : Pt} {i j : Int} {x y : List Nat} {ds es : List D} {b : Bool} {d : D} {n : Nat} {lo hi : Option Int} {f : Int → Int → Bool} {h : List Nat → List Nat → Bool}
theorem addV_ii : addV (.int i) (.int j) R = R (.int (i + j)) := rfl
theorem addV_ss : addV (.str x) (.str y) R = (x.length + y.length ≤ 16777216 ∧ R (.str (x ++ y))) := rfl
theorem addV_tt : addV (.tup ds) (.tup es) R = (ds.length + es.length ≤ 16777216 ∧ R (.tup (ds ++ es))) := rfl
theorem addV_rr : addV (.rol ds) (.rol es) R = (ds.length + es.length ≤ 16777216 ∧ R (.rol (ds ++ es))) := rfl
theorem subV_ii : subV (.int i) (.int j) R = R (.int (i - j)) := rfl
theorem mulV_ii : mulV (.int i) (.int j) R = (CMulW i j ∧ R (.int (i * j))) := rfl
theorem mulV_si : mulV (.str x) (.int j) R = (j < 2 ^ 40 ∧ -(2 ^ 40) < j ∧ x.length * j.toNat ≤ 16777216 ∧ R (.str (List.replicate j.toNat x).flatten)) := rfl
theorem mulV_ti : mulV (.tup ds) (.int j) R = (j ≤ 1000 ∧ -1000 ≤ j ∧ ds.length ≤ 1000 ∧ R (.tup (List.replicate j.toNat ds).flatten)) := rfl
theorem mulV_ri : mulV (.rol ds) (.int j) R = (j < 2 ^ 40 ∧ -(2 ^ 40) < j ∧ ds.length * j.toNat ≤ 16777216 ∧ R (.rol (List.replicate j.toNat ds).flatten)) := rfl
theorem fdivV_ii : fdivV (.int i) (.int j) R = (0 < j ∧ j < 2 ^ 8000 ∧ R (.int (i / j))) := rfl
theorem modV_ii : modV (.int i) (.int j) R = (0 < j ∧ R (.int (i % j))) := rfl
theorem powV_ii : powV (.int i) (.int j) R = (CPow i j ∧ R (.int (i ^ j.toNat))) := rfl
theorem negV_i : negV (.int i) R = R (.int (-i)) := rfl
theorem truthV_s : truthV (.str x) B = (x.length ≤ 16777216 ∧ B (!x.isEmpty)) := rfl
theorem truthV_n : truthV .non B = B false := rfl
theorem truthV_b : truthV (.bl b) B = B b := rfl
theorem truthV_i : truthV (.int i) B = B (i != 0) := rfl
theorem truthV_t : truthV (.tup ds) B = B (!ds.isEmpty) := rfl
theorem truthV_r : truthV (.rol ds) B = B (!ds.isEmpty) := rfl
theorem ordV_ii : ordV f h (.int i) (.int j) R = R (.bl (f i j)) := rfl
theorem ordV_ss : ordV f h (.str x) (.str y) R = R (.bl (h x y)) := rfl
theorem idxV_t : idxV (.tup ds) (.int i) R = (∃ d, atI ds i = some d ∧ R d) := rfl
theorem idxV_r : idxV (.rol ds) (.int i) R = (∃ d, atI ds i = some d ∧ R d) := rfl
theorem idxV_s : idxV (.str x) (.int i) R = (x.length ≤ 16777216 ∧ ∃ c, atI x i = some c ∧ R (.str [c])) := rfl
theorem slV_t : slV (.tup ds) lo hi R = R (.tup (cutD ds lo hi)) := rfl
theorem slV_r : slV (.rol ds) lo hi R = R (.rol (cutD ds lo hi)) := rfl
theorem slV_s : slV (.str x) lo hi R = (x.length ≤ 16777216 ∧ R (.str (cutD x lo hi))) := rfl
theorem biV_len_s : biV .len [.str x] R = (x.length ≤ 16777216 ∧ R (.int x.length)) := rfl
theorem biV_len_t : biV .len [.tup ds] R = R (.int ds.length) := rfl
theorem biV_len_r : biV .len [.rol ds] R = R (.int ds.length) := rfl
theorem biV_sum_t : biV .sum [.tup ds] R = (∃ is, intsF ds = some is ∧ R (.int is.sum)) := rfl
theorem biV_sum_r : biV .sum [.rol ds] R = (∃ is, intsF ds = some is ∧ R (.int is.sum)) := rfl
theorem biV_any_t : biV .any [.tup ds] R = (∃ bs, trusF ds = some bs ∧ R (.bl (bs.any id))) := rfl
theorem biV_any_r : biV .any [.rol ds] R = (∃ bs, trusF ds = some bs ∧ R (.bl (bs.any id))) := rfl
theorem biV_all_t : biV .all [.tup ds] R = (∃ bs, trusF ds = some bs ∧ R (.bl (bs.all id))) := rfl
theorem biV_all_r : biV .all [.rol ds] R = (∃ bs, trusF ds = some bs ∧ R (.bl (bs.all id))) := rfl
theorem biV_abs : biV .abs [.int i] R = R (.int i.natAbs) := rfl
theorem biV_min : biV .min [.int i, .int j] R = R (.int (min i j)) := rfl
theorem biV_max : biV .max [.int i, .int j] R = R (.int (max i j)) := rfl
theorem biV_int_i : biV .int [.int i] R = R (.int i) := rfl
theorem biV_int_b : biV .int [.bl b] R = R (.int (if b then 1 else 0)) := rfl
theorem biV_int_s : biV .int [.str x] R = (∃ n, PySem.intText? ⟨x.toArray⟩ = some n ∧ x.length ≤ 640 ∧ R (.int n)) := rfl
theorem biV_str : biV .str [.int i] R = (i.natAbs < 2 ^ 1900 ∧ R (.str (itxt i))) := rfl
theorem biV_tuple_t : biV .tuple [.tup ds] R = R (.tup ds) := rfl
theorem biV_tuple_r : biV .tuple [.rol ds] R = R (.tup ds) := rfl
theorem biV_list_t : biV .list [.tup ds] R = R (.rol ds) := rfl
theorem biV_list_r : biV .list [.rol ds] R = R (.rol ds) := rfl
theorem mtV_join_t : mtV .join (.str x) [.tup ds] R = (∃ xs, strsF ds = some xs ∧ lenL xs + xs.length * x.length ≤ 16777216 ∧ R (.str (joinL x xs))) := rfl
theorem mtV_join_r : mtV .join (.str x) [.rol ds] R = (∃ xs, strsF ds = some xs ∧ lenL xs + xs.length * x.length ≤ 16777216 ∧ R (.str (joinL x xs))) := rfl
theorem mtV_count : mtV .count (.str x) [.str [n]] R = R (.int (x.count n)) := rfl
theorem mtO_join : mtO .join (.str x) = True := rfl
theorem mtO_count : mtO .count (.str x) = True := rfl
theorem itV_t : itV (.tup ds) = some ds := rfl
theorem itV_r : itV (.rol ds) = some ds := rfl
theorem itV_s : itV (.str x) = some (x.map fun c => .str [c]) := rfl
theorem rng1V_i : rng1V (.int i) P = (smallI i ∧ P (rngD 0 i)) := rfl
theorem rng2V_i : rng2V (.int i) (.int j) P = (smallI i ∧ smallI j ∧ P (rngD i j)) := rfl
theorem fmtV_s : fmtV (.str x) W = (x.length ≤ 16777216 ∧ W x) := rfl
theorem fmtV_i : fmtV (.int i) W = (i.natAbs < 2 ^ 1900 ∧ W (itxt i)) := rfl
theorem flatD_n : flatD .non = true := rfl
theorem flatD_b : flatD (.bl b) = true := rfl
theorem flatD_i : flatD (.int i) = true := rfl
theorem flatD_s : flatD (.str x) = true := rfl
theorem opV_Add : opV .Add = addV := rfl
theorem opV_Sub : opV .Sub = subV := rfl
theorem opV_Mult : opV .Mult = mulV := rfl
theorem opV_FloorDiv : opV .FloorDiv = fdivV := rfl
theorem opV_Mod : opV .Mod = modV := rfl
theorem opV_Pow : opV .Pow = powV := rfl
theorem cmpV_Eq : cmpV .Eq = eqV' false := rfl
theorem cmpV_NotEq : cmpV .NotEq = eqV' true := rfl
theorem cmpV_Is : cmpV .Is = isV false := rfl
theorem cmpV_IsNot : cmpV .IsNot = isV true := rfl
theorem cmpV_In : cmpV .In = inV' false := rfl
theorem cmpV_NotIn : cmpV .NotIn = inV' true := rfl
theorem cmpV_Lt : cmpV .Lt = ordV (fun i j => decide (i < j)) (fun x y => decide (x < y)) := rfl
theorem cmpV_LtE : cmpV .LtE = ordV (fun i j => decide (i ≤ j)) (fun x y => decide (x ≤ y)) := rfl
theorem cmpV_Gt : cmpV .Gt = ordV (fun i j => decide (j < i)) (fun x y => decide (y < x)) := rfl
theorem cmpV_GtE : cmpV .GtE = ordV (fun i j => decide (j ≤ i)) (fun x y => decide (y ≤ x)) := rfl
theorem wqP_v : wqP (.v n) d env U = U (env.set n (some d)) := by simp only [wqP, wqPs]
theorem wqP_t : wqP (.t pt) (.tup ds) env U = wqPs pt ds env U := by simp only [wqP, wqPs]
theorem wqP_r : wqP (.t pt) (.rol ds) env U = wqPs pt ds env U := by simp only [wqP, wqPs]
theorem wqPs_n : wqPs .nil [] env U = U env := by simp only [wqP, wqPs]
theorem wqPs_c : wqPs (.cons p1 pt) (d :: ds) env U = (wqP p1 d env fun env' => wqPs pt ds env' U) := by simp only [wqP, wqPs]
end
/-! comparisons at known kinds -/
section
variable {R : RK} {b : Bool}
theorem eqV_ii {i j : Int} : eqV' b (.int i) (.int j) R = R (.bl (b ^^ decide (i = j))) := rfl
theorem eqV_ss {i j : List Nat} : eqV' b (.str i) (.str j) R = R (.bl (b ^^ decide (i = j))) := rfl
theorem eqV_bb {i j : Bool} : eqV' b (.bl i) (.bl j) R = R (.bl (b ^^ decide (i = j))) := rfl
theorem eqV_tt {i j : List D} : eqV' b (.tup i) (.tup j) R = (okV (.tup i) = true ∧ okV (.tup j) = true ∧ R (.bl (b ^^ PyData.eqv (.tuple (pys i)) (.tuple (pys j))))) := by simp only [eqV', py]
theorem eqV_rr {i j : List D} : eqV' b (.rol i) (.rol j) R = (okV (.rol i) = true ∧ okV (.rol j) = true ∧ R (.bl (b ^^ PyData.eqv (.list (pys i)) (.list (pys j))))) := by simp only [eqV', py]
theorem isV_n {d : D} : isV b d .non R = R (.bl (b ^^ isNon d)) := by cases d <;> rfl
theorem isV_bb {i j : Bool} : isV b (.bl i) (.bl j) R = R (.bl (b ^^ decide (i = j))) := rfl
theorem inV_ss {c : Nat} {y : List Nat} : inV' b (.str [c]) (.str y) R = R (.bl (b ^^ decide (c ∈ y))) := rfl
end
theorem own_all {M : List Nat} {n : Nat} (h : M.all (fun i => decide (n ≤ i)) = true) : ∀ i, ownB M i = true → n ≤ i := by
  induction M with
  | nil => intro i hi; simp [ownB] at hi
  | cons j M ih =>
    simp only [List.all_cons, Bool.and_eq_true, decide_eq_true_eq] at h
    intro i hi
    simp only [ownB, Bool.or_eq_true, beq_iff_eq] at hi
    rcases hi with rfl | hi
    · exact h.1
    · exact ih h.2 i hi
end G57
set_option Elab.async false
set_option linter.all false
set_option maxRecDepth 100000
set_option maxHeartbeats 800000
namespace G57
open PySem L2
/-! == over data without truth values is equality -/
mutual
def noB : D → Bool
  | .bl _ | .ref _ => false
  | .tup ds | .rol ds => noBs ds
  | _ => true
def noBs : List D → Bool
  | [] => true
  | d :: ds => noB d && noBs ds
end
theorem beq_str (x y : List Nat) : ((⟨x.toArray⟩ : Str) == ⟨y.toArray⟩) = decide (x = y) := by
  by_cases h : x = y
  · subst h; simp
  · rw [decide_eq_false h]
    apply Bool.eq_false_iff.mpr
    intro e
    have := eq_of_beq e
    exact h (by simpa using congrArg (fun z : Str => z.cps.toList) this)
mutual
theorem eqv_iff : ∀ d e : D, noB d = true → noB e = true → (PyData.eqv (py d) (py e) = true ↔ d = e)
  | .bl _, _, h, _ | .ref _, _, h, _ => by simp [noB] at h
  | .non, e, _, h => by cases e <;> simp [py, PyData.eqv, noB] at h ⊢
  | .int i, e, _, h => by cases e <;> simp [py, PyData.eqv, noB] at h ⊢
  | .str x, e, _, h => by cases e <;> simp [py, PyData.eqv, noB, beq_str] at h ⊢
  | .tup ds, e, h', h => by
    cases e with
    | tup es =>
      simp only [noB] at h h'
      simp only [py, PyData.eqv, D.tup.injEq]
      exact eqvs_iff ds es h' h
    | _ => simp [py, PyData.eqv, noB] at h ⊢
  | .rol ds, e, h', h => by
    cases e with
    | rol es =>
      simp only [noB] at h h'
      simp only [py, PyData.eqv, D.rol.injEq]
      exact eqvs_iff ds es h' h
    | _ => simp [py, PyData.eqv, noB] at h ⊢
theorem eqvs_iff : ∀ ds es : List D, noBs ds = true → noBs es = true → (PyData.eqvAll (pys ds) (pys es) = true ↔ ds = es)
  | [], [], _, _ => by simp [pys, PyData.eqvAll]
  | [], _ :: _, _, _ => by simp [pys, PyData.eqvAll]
  | _ :: _, [], _, _ => by simp [pys, PyData.eqvAll]
  | d :: ds, e :: es, h, g => by
    simp only [noBs, Bool.and_eq_true] at h g
    simp only [pys, PyData.eqvAll, Bool.and_eq_true, List.cons.injEq]
    rw [eqv_iff d e h.1 g.1, eqvs_iff ds es h.2 g.2]
end
/-- what is compared: deep data of tuples, numbers and texts -/
structure Cmp (d : D) : Prop where
  pr : pureD d = true
  ok : okD 40 d = true
  nb : noB d = true
mutual
theorem ok_more : ∀ (d : D) (n : Nat), okD n d = true → okD (n + 1) d = true
  | .non, n, _ | .bl _, n, _ | .int _, n, _ => by simp [okD]
  | .str x, n, h => by cases n <;> simpa [okD] using h
  | .tup ds, 0, h | .rol ds, 0, h => by simp [okD] at h
  | .tup ds, n + 1, h | .rol ds, n + 1, h => by simp only [okD] at h ⊢; exact oks_more ds n h
  | .ref _, n, h => by cases n <;> simp [okD] at h
theorem oks_more : ∀ (ds : List D) (n : Nat), oksD n ds = true → oksD (n + 1) ds = true
  | [], _, _ => by simp [oksD]
  | d :: ds, n, h => by
    simp only [oksD, Bool.and_eq_true] at h ⊢
    exact ⟨ok_more d n h.1, oks_more ds n h.2⟩
end
theorem ok_le {d : D} {n m : Nat} (h : n ≤ m) (hd : okD n d = true) : okD m d = true := by
  obtain ⟨k, rfl⟩ := Nat.exists_eq_add_of_le h
  induction k with
  | zero => exact hd
  | succ k ih => exact ok_more d _ (ih (by omega))
theorem oks_le {d : List D} {n m : Nat} (h : n ≤ m) (hd : oksD n d = true) : oksD m d = true := by
  obtain ⟨k, rfl⟩ := Nat.exists_eq_add_of_le h
  induction k with
  | zero => exact hd
  | succ k ih => exact oks_more d _ (ih (by omega))
theorem oks_of {n : Nat} : ∀ {ds : List D}, (∀ d ∈ ds, okD n d = true) → oksD n ds = true
  | [], _ => by simp [oksD]
  | d :: ds, h => by simp only [oksD, Bool.and_eq_true]; exact ⟨h d (by simp), oks_of fun e he => h e (by simp [he])⟩
theorem pures_of : ∀ {ds : List D}, (∀ d ∈ ds, pureD d = true) → puresD ds = true
  | [], _ => by simp [puresD]
  | d :: ds, h => by simp only [puresD, Bool.and_eq_true]; exact ⟨h d (by simp), pures_of fun e he => h e (by simp [he])⟩
theorem noBs_of : ∀ {ds : List D}, (∀ d ∈ ds, noB d = true) → noBs ds = true
  | [], _ => by simp [noBs]
  | d :: ds, h => by simp only [noBs, Bool.and_eq_true]; exact ⟨h d (by simp), noBs_of fun e he => h e (by simp [he])⟩
/-- data of a told depth: tuples of numbers, texts, None -/
structure CmpN (n : Nat) (d : D) : Prop where
  pr : pureD d = true
  ok : okD n d = true
  nb : noB d = true
theorem CmpN.tup {n : Nat} {ds : List D} (h : ∀ d ∈ ds, CmpN n d) : CmpN (n + 1) (.tup ds) :=
  ⟨by simp only [pureD]; exact pures_of fun d hd => (h d hd).pr, by simp only [okD]; exact oks_of fun d hd => (h d hd).ok, by simp only [noB]; exact noBs_of fun d hd => (h d hd).nb⟩
theorem CmpN.int {n : Nat} {i : Int} : CmpN n (.int i) := ⟨by simp [pureD], by cases n <;> simp [okD], by simp [noB]⟩
theorem CmpN.non {n : Nat} : CmpN n .non := ⟨by simp [pureD], by cases n <;> simp [okD], by simp [noB]⟩
theorem CmpN.str {n : Nat} {x : List Nat} (h : ∀ c ∈ x, c < 0x110000) : CmpN n (.str x) := ⟨by simp [pureD], by cases n <;> simpa [okD] using h, by simp [noB]⟩
theorem CmpN.le {n m : Nat} {d : D} (h : CmpN n d) (hm : n ≤ m) : CmpN m d := ⟨h.pr, ok_le hm h.ok, h.nb⟩
theorem CmpN.okV {n : Nat} {d : D} (h : CmpN n d) (hn : n ≤ 40) : okV d = true := by
  cases d with
  | rol ds => have := h.pr; simp [pureD] at this
  | _ => simp only [G57.okV, Bool.and_eq_true]; exact ⟨h.pr, ok_le (by omega) h.ok⟩
theorem CmpN.eqv {n m : Nat} {d e : D} (h : CmpN n d) (g : CmpN m e) : PyData.eqv (py d) (py e) = true ↔ d = e := eqv_iff d e h.nb g.nb
/-- == of two such -/
theorem eqV_of {n m : Nat} {d e : D} {b : Bool} {R : RK} (h : CmpN n d) (g : CmpN m e) (hn : n ≤ 40) (hm : m ≤ 40) (k : ∀ t : Bool, (t = true ↔ d = e) → R (.bl (b ^^ t))) : eqV' b d e R := by
  have gen : okV d = true ∧ okV e = true ∧ R (.bl (b ^^ PyData.eqv (py d) (py e))) := ⟨h.okV hn, g.okV hm, k _ (h.eqv g)⟩
  cases d with
  | int i => cases e with
    | int j => exact k _ (by simp)
    | _ => exact gen
  | str i => cases e with
    | str j => exact k _ (by simp)
    | _ => exact gen
  | bl i => have := h.nb; simp [noB] at this
  | _ => cases e <;> exact gen
/-! rows: letters and loops -/
abbrev Lp := List Nat × List Int
abbrev It := Nat ⊕ Lp
def txs : List It → List Nat × List (List Nat)
  | [] => ([], [])
  | .inl c :: r => (c :: (txs r).1, (txs r).2)
  | .inr _ :: r => ([], (txs r).1 :: (txs r).2)
def txl (r : List It) : List (List Nat) := (txs r).1 :: (txs r).2
def lps : List It → List Lp
  | [] => []
  | .inl _ :: r => lps r
  | .inr l :: r => l :: lps r
def encLp (l : Lp) : D := .tup [.str l.1, .tup (l.2.map .int)]
def encTx (r : List It) : D := .tup ((txl r).map .str)
def encLs (r : List It) : D := .tup ((lps r).map encLp)
def encTL (r : List It) : D := .tup [encTx r, encLs r]
def encRw (m : Nat) (r : List It) : D := .tup [.int m, encTx r, encLs r]
theorem txl_ne (r : List It) : txl r ≠ [] := by simp [txl]
theorem lps_app : ∀ a b : List It, lps (a ++ b) = lps a ++ lps b
  | [], b => rfl
  | .inl c :: a, b => by simp only [List.cons_append, lps, lps_app a b]
  | .inr c :: a, b => by simp only [List.cons_append, lps, lps_app a b, List.cons_append]
theorem txl_app : ∀ a b : List It, ∃ i l, txl a = i ++ [l] ∧ txl (a ++ b) = i ++ (l ++ (txs b).1) :: (txs b).2
  | [], b => ⟨[], [], rfl, by simp [txl]⟩
  | .inl c :: a, b => by
    obtain ⟨i, l, h1, h2⟩ := txl_app a b
    unfold txl at h1 h2 ⊢
    simp only [List.cons_append, txs]
    cases i with
    | nil => simp at h1 h2; exact ⟨[], c :: l, by simp [h1], by simp [h2]⟩
    | cons x i => simp at h1 h2; exact ⟨(c :: x) :: i, l, by simp [h1], by simp [h2]⟩
  | .inr l :: a, b => by
    obtain ⟨i, l, h1, h2⟩ := txl_app a b
    unfold txl at h1 h2 ⊢
    simp only [List.cons_append, txs]
    exact ⟨[] :: i, l, by rw [h1]; rfl, by rw [h2]; rfl⟩
theorem txl_len : ∀ r : List It, (txl r).length = (lps r).length + 1
  | [] => rfl
  | .inl c :: r => by have := txl_len r; simpa [txl, txs, lps] using this
  | .inr l :: r => by have := txl_len r; simp [txl, txs, lps] at this ⊢; omega
theorem txl_le : ∀ r : List It, (txl r).length ≤ r.length + 1 ∧ ∀ t ∈ txl r, t.length ≤ r.length
  | [] => by simp [txl, txs]
  | .inl c :: r => by
    obtain ⟨h1, h2⟩ := txl_le r
    simp only [txl, txs, List.mem_cons, List.length_cons] at h1 h2 ⊢
    refine ⟨by omega, fun t ht => ?_⟩
    rcases ht with rfl | ht
    · have := h2 _ (.inl rfl); simp; omega
    · have := h2 t (.inr ht); omega
  | .inr l :: r => by
    obtain ⟨h1, h2⟩ := txl_le r
    simp only [txl, txs, List.mem_cons, List.length_cons] at h1 h2 ⊢
    refine ⟨by omega, fun t ht => ?_⟩
    rcases ht with rfl | rfl | ht
    · simp
    · have := h2 _ (.inl rfl); omega
    · have := h2 t (.inr ht); omega
theorem lps_le : ∀ r : List It, (lps r).length ≤ r.length
  | [] => by simp [lps]
  | .inl c :: r => by have := lps_le r; simp [lps]; omega
  | .inr l :: r => by have := lps_le r; simp [lps]; omega
theorem txs_map (w : List Nat) : txs (w.map .inl) = (w, []) ∧ lps (w.map .inl) = [] := by
  induction w with
  | nil => exact ⟨rfl, rfl⟩
  | cons c w ih => simp [txs, lps, ih.1, ih.2]
theorem encTL_map (w : List Nat) : encTL (w.map .inl) = .tup [.tup [.str w], .tup []] := by
  unfold encTL encTx encLs txl; simp [txs_map]
/-! fixed_row, behind -/
/- fixed_row : top 2, names ['word'], calls [], built-ins [], constants [] -/
def ir_fixed_row : Sx := .cons (.ret (.tup (.cons (.tup (.cons (.var 0) (.nil))) (.cons (.tup (.nil)) (.nil))))) .nil
/- behind : top 3, names ['one', 'other', 'texts'], calls [], built-ins [], constants [] -/
def ir_behind_1 : Sx := .cons (.ret (.tup (.cons (.var 2) (.cons (.bin .Add (.idx (.var 0) (.con (.int 1))) (.idx (.var 1) (.con (.int 1)))) (.nil))))) .nil
def ir_behind : Sx := .cons (.asg (.v 2) (.bin .Add (.bin .Add (.sl (.idx (.var 0) (.con (.int 0))) (.nil) (.cons (.neg (.con (.int 1))) .nil)) (.tup (.cons (.bin .Add (.idx (.idx (.var 0) (.con (.int 0))) (.neg (.con (.int 1)))) (.idx (.idx (.var 1) (.con (.int 0))) (.con (.int 0)))) (.nil)))) (.sl (.idx (.var 1) (.con (.int 0))) (.cons (.con (.int 1)) .nil) (.nil)))) ir_behind_1
/- part_row : top 4, names ['part', 'form', 'inner', 'found', 'turn'], calls ['parts_row', 'is_open', 'fixed_row', 'behind'], built-ins ['range', 'any'], constants [] -/
def ir_part_row_b1 : Sx := .cons (.ret (.call 2 (.cons (.idx (.var 0) (.con (.int 1))) (.nil)))) .nil
def ir_part_row_b2 : Sx := .cons (.ret (.call 2 (.cons (.con (.str [])) (.nil)))) .nil
def ir_part_row_b3 : Sx := .cons (.ret (.ite (.cmp .Eq (.var 2) (.call 2 (.cons (.con (.str [])) (.nil)))) (.call 2 (.cons (.con (.str [])) (.nil))) (.tup (.cons (.tup (.cons (.con (.str [])) (.cons (.con (.str [])) (.nil)))) (.cons (.tup (.cons (.tup (.cons (.idx (.idx (.var 2) (.con (.int 0))) (.con (.int 0))) (.cons (.var 1) (.nil)))) (.nil))) (.nil)))))) .nil
def ir_part_row_b4 : Sx := .cons (.asg (.v 3) (.call 3 (.cons (.var 3) (.cons (.var 2) (.nil))))) .nil
def ir_part_row_7 : Sx := .cons (.ret (.var 3)) .nil
def ir_part_row_6 : Sx := .cons (.loop (.v 4) (.iR1 (.ite (.cmp .NotEq (.var 2) (.call 2 (.cons (.con (.str [])) (.nil)))) (.idx (.var 1) (.con (.int 0))) (.con (.int 0)))) (ir_part_row_b4)) ir_part_row_7
def ir_part_row_5 : Sx := .cons (.asg (.v 3) (.call 2 (.cons (.con (.str [])) (.nil)))) ir_part_row_6
def ir_part_row_4 : Sx := .cons (.iff (.call 1 (.cons (.var 1) (.nil))) (ir_part_row_b3) (.nil)) ir_part_row_5
def ir_part_row_3 : Sx := .cons (.asg (.v 2) (.call 0 (.cons (.idx (.var 0) (.con (.int 2))) (.nil)))) ir_part_row_4
def ir_part_row_2 : Sx := .cons (.iff (.not (.bi .any (.cons (.var 1) (.nil)))) (ir_part_row_b2) (.nil)) ir_part_row_3
def ir_part_row_1 : Sx := .cons (.asg (.v 1) (.idx (.var 0) (.con (.int 1)))) ir_part_row_2
def ir_part_row : Sx := .cons (.iff (.cmp .Eq (.idx (.var 0) (.con (.int 0))) (.con (.str [116, 101, 120, 116]))) (ir_part_row_b1) (.nil)) ir_part_row_1
/- parts_row : top 5, names ['parts', 'found', 'part'], calls ['fixed_row', 'behind', 'part_row'], built-ins [], constants [] -/
def ir_parts_row_b1 : Sx := .cons (.asg (.v 1) (.call 1 (.cons (.var 1) (.cons (.call 2 (.cons (.var 2) (.nil))) (.nil))))) .nil
def ir_parts_row_2 : Sx := .cons (.ret (.var 1)) .nil
def ir_parts_row_1 : Sx := .cons (.loop (.v 2) (.iE (.var 0)) (ir_parts_row_b1)) ir_parts_row_2
def ir_parts_row : Sx := .cons (.asg (.v 1) (.call 0 (.cons (.con (.str [])) (.nil)))) ir_parts_row_1
/- flat : top 6, names ['program', 'texts', 'loops'], calls ['parts_row'], built-ins [], constants [] -/
def ir_flat_1 : Sx := .cons (.ret (.tup (.cons (.idx (.var 0) (.con (.int 0))) (.cons (.var 1) (.cons (.var 2) (.nil)))))) .nil
def ir_flat : Sx := .cons (.asg (.t (.cons (.v 1) (.cons (.v 2) (.nil)))) (.call 0 (.cons (.idx (.var 0) (.con (.int 1))) (.nil)))) ir_flat_1
def sFixed : Spec2 := fun ds g Q => ∃ w, ds = [.str w] ∧ Q (encTL (w.map .inl)) g
theorem q_fixed : ∀ ds g Q, sFixed ds g Q → OkS (tab2 []) [] ir_fixed_row { nx := fun _ g' => Q .non g', rt := Q } (startD ["word"] ds) g := by
  rintro ds g Q ⟨w, rfl, k⟩
  rw [encTL_map] at k
  rw [show startD ["word"] [.str w] = [some (.str w)] from rfl]
  unfold ir_fixed_row
  refine ok_cons (ok_ret ?_)
  simp only [wqE, wqT, wqA, wqC, wqO, wqI, wqJ, addV_ii, addV_ss, addV_tt, addV_rr, subV_ii, mulV_ii, mulV_si, mulV_ti, mulV_ri, fdivV_ii, modV_ii, powV_ii, negV_i, truthV_s, truthV_n, truthV_b, truthV_i, truthV_t, truthV_r, ordV_ii, ordV_ss, idxV_t, idxV_r, idxV_s, slV_t, slV_r, slV_s, biV_len_s, biV_len_t, biV_len_r, biV_sum_t, biV_sum_r, biV_any_t, biV_any_r, biV_all_t, biV_all_r, biV_abs, biV_min, biV_max, biV_int_i, biV_int_b, biV_int_s, biV_str, biV_tuple_t, biV_tuple_r, biV_list_t, biV_list_r, mtV_join_t, mtV_join_r, mtV_count, mtO_join, mtO_count, itV_t, itV_r, itV_s, rng1V_i, rng2V_i, fmtV_s, fmtV_i, flatD_n, flatD_b, flatD_i, flatD_s, opV_Add, opV_Sub, opV_Mult, opV_FloorDiv, opV_Mod, opV_Pow, cmpV_Eq, cmpV_NotEq, cmpV_Is, cmpV_IsNot, cmpV_In, cmpV_NotIn, cmpV_Lt, cmpV_LtE, cmpV_Gt, cmpV_GtE, wqP_v, wqP_t, wqP_r, wqPs_n, wqPs_c, eqV_ii, eqV_ss, eqV_bb, isV_n, isV_bb, isNon, inV_ss, ownB, Bool.true_or, Bool.false_or, Bool.or_false, Bool.not_false, Bool.not_true, Nat.reduceBEq, Bool.or_self, Bool.or_true, tab2_q, List.getElem?_cons_zero, List.getElem?_cons_succ, List.set_cons_zero, List.set_cons_succ, Option.some.injEq, exists_eq_left', exists_eq_left, Option.map_some, Bool.false_xor, Bool.true_xor, put_same, put_put, Ob.lst.injEq, D.int.injEq, D.bl.injEq, D.str.injEq, D.tup.injEq, D.ref.injEq, seqD_t, seqD_l, seqD_r, atI_0, atI_1, atI_2, atI_3, exists_and_left, exists_eq', and_true, true_and, decide_eq_true_eq]
  exact ⟨by simp, by simp, by simp, k⟩
def sBehind : Spec2 := fun ds g Q => ∃ a b, ds = [encTL a, encTL b] ∧ a.length + b.length ≤ 16000000 ∧ Q (encTL (a ++ b)) g
theorem cut_1m {α : Type} (x : α) (r : List α) : cutD (x :: r) (some 1) none = r := by rw [cut_1]; rfl
theorem atI_last {α : Type} (xs : List α) (h : xs ≠ []) : atI xs (-1) = some (xs.getLast h) := by
  have e := List.dropLast_concat_getLast h
  have := atI_m (r := xs.dropLast) (x := xs.getLast h)
  rwa [e] at this
theorem q_behind : ∀ ds g Q, sBehind ds g Q → OkS (tab2 []) [] ir_behind { nx := fun _ g' => Q .non g', rt := Q } (startD ["one", "other", "texts"] ds) g := by
  rintro ds g Q ⟨a, b, rfl, hl, k⟩
  rw [show startD ["one", "other", "texts"] [encTL a, encTL b] = [some (encTL a), some (encTL b), none] from rfl]
  obtain ⟨la, la'⟩ := txl_le a
  obtain ⟨lb, lb'⟩ := txl_le b
  have lpa := lps_le a
  have lpb := lps_le b
  obtain ⟨i, l, h1, h2⟩ := txl_app a b
  have eb : txl b = (txs b).1 :: (txs b).2 := rfl
  rw [h1] at la la'
  rw [eb] at lb lb'
  have l1 := la' l (by simp)
  have l2 := lb' (txs b).1 (by simp)
  simp only [List.length_append, List.length_cons, List.length_nil] at la lb
  unfold ir_behind
  refine ok_cons (ok_asg rfl ?_)
  simp only [encTL, wqE, wqT, wqA, wqC, wqO, wqI, wqJ, addV_ii, addV_ss, addV_tt, addV_rr, subV_ii, mulV_ii, mulV_si, mulV_ti, mulV_ri, fdivV_ii, modV_ii, powV_ii, negV_i, truthV_s, truthV_n, truthV_b, truthV_i, truthV_t, truthV_r, ordV_ii, ordV_ss, idxV_t, idxV_r, idxV_s, slV_t, slV_r, slV_s, biV_len_s, biV_len_t, biV_len_r, biV_sum_t, biV_sum_r, biV_any_t, biV_any_r, biV_all_t, biV_all_r, biV_abs, biV_min, biV_max, biV_int_i, biV_int_b, biV_int_s, biV_str, biV_tuple_t, biV_tuple_r, biV_list_t, biV_list_r, mtV_join_t, mtV_join_r, mtV_count, mtO_join, mtO_count, itV_t, itV_r, itV_s, rng1V_i, rng2V_i, fmtV_s, fmtV_i, flatD_n, flatD_b, flatD_i, flatD_s, opV_Add, opV_Sub, opV_Mult, opV_FloorDiv, opV_Mod, opV_Pow, cmpV_Eq, cmpV_NotEq, cmpV_Is, cmpV_IsNot, cmpV_In, cmpV_NotIn, cmpV_Lt, cmpV_LtE, cmpV_Gt, cmpV_GtE, wqP_v, wqP_t, wqP_r, wqPs_n, wqPs_c, eqV_ii, eqV_ss, eqV_bb, isV_n, isV_bb, isNon, inV_ss, ownB, Bool.true_or, Bool.false_or, Bool.or_false, Bool.not_false, Bool.not_true, Nat.reduceBEq, Bool.or_self, Bool.or_true, tab2_q, List.getElem?_cons_zero, List.getElem?_cons_succ, List.set_cons_zero, List.set_cons_succ, Option.some.injEq, exists_eq_left', exists_eq_left, Option.map_some, Bool.false_xor, Bool.true_xor, put_same, put_put, Ob.lst.injEq, D.int.injEq, D.bl.injEq, D.str.injEq, D.tup.injEq, D.ref.injEq, seqD_t, seqD_l, seqD_r, atI_0, atI_1, atI_2, atI_3, exists_and_left, exists_eq', and_true, true_and, decide_eq_true_eq]
  simp only [encTx, h1, eb, List.map_append, List.map_cons, List.map_nil, wqE, wqT, wqA, wqC, wqO, wqI, wqJ, addV_ii, addV_ss, addV_tt, addV_rr, subV_ii, mulV_ii, mulV_si, mulV_ti, mulV_ri, fdivV_ii, modV_ii, powV_ii, negV_i, truthV_s, truthV_n, truthV_b, truthV_i, truthV_t, truthV_r, ordV_ii, ordV_ss, idxV_t, idxV_r, idxV_s, slV_t, slV_r, slV_s, biV_len_s, biV_len_t, biV_len_r, biV_sum_t, biV_sum_r, biV_any_t, biV_any_r, biV_all_t, biV_all_r, biV_abs, biV_min, biV_max, biV_int_i, biV_int_b, biV_int_s, biV_str, biV_tuple_t, biV_tuple_r, biV_list_t, biV_list_r, mtV_join_t, mtV_join_r, mtV_count, mtO_join, mtO_count, itV_t, itV_r, itV_s, rng1V_i, rng2V_i, fmtV_s, fmtV_i, flatD_n, flatD_b, flatD_i, flatD_s, opV_Add, opV_Sub, opV_Mult, opV_FloorDiv, opV_Mod, opV_Pow, cmpV_Eq, cmpV_NotEq, cmpV_Is, cmpV_IsNot, cmpV_In, cmpV_NotIn, cmpV_Lt, cmpV_LtE, cmpV_Gt, cmpV_GtE, wqP_v, wqP_t, wqP_r, wqPs_n, wqPs_c, eqV_ii, eqV_ss, eqV_bb, isV_n, isV_bb, isNon, inV_ss, ownB, Bool.true_or, Bool.false_or, Bool.or_false, Bool.not_false, Bool.not_true, Nat.reduceBEq, Bool.or_self, Bool.or_true, tab2_q, List.getElem?_cons_zero, List.getElem?_cons_succ, List.set_cons_zero, List.set_cons_succ, Option.some.injEq, exists_eq_left', exists_eq_left, Option.map_some, Bool.false_xor, Bool.true_xor, put_same, put_put, Ob.lst.injEq, D.int.injEq, D.bl.injEq, D.str.injEq, D.tup.injEq, D.ref.injEq, seqD_t, seqD_l, seqD_r, atI_0, atI_1, atI_2, atI_3, exists_and_left, exists_eq', and_true, true_and, decide_eq_true_eq, cut_m, cut_1m, List.dropLast_concat, atI_m]
  refine ⟨by omega, by simp, by simp; omega, by simp; omega, ?_⟩
  unfold ir_behind_1
  refine ok_cons (ok_ret ?_)
  simp only [encLs, wqE, wqT, wqA, wqC, wqO, wqI, wqJ, addV_ii, addV_ss, addV_tt, addV_rr, subV_ii, mulV_ii, mulV_si, mulV_ti, mulV_ri, fdivV_ii, modV_ii, powV_ii, negV_i, truthV_s, truthV_n, truthV_b, truthV_i, truthV_t, truthV_r, ordV_ii, ordV_ss, idxV_t, idxV_r, idxV_s, slV_t, slV_r, slV_s, biV_len_s, biV_len_t, biV_len_r, biV_sum_t, biV_sum_r, biV_any_t, biV_any_r, biV_all_t, biV_all_r, biV_abs, biV_min, biV_max, biV_int_i, biV_int_b, biV_int_s, biV_str, biV_tuple_t, biV_tuple_r, biV_list_t, biV_list_r, mtV_join_t, mtV_join_r, mtV_count, mtO_join, mtO_count, itV_t, itV_r, itV_s, rng1V_i, rng2V_i, fmtV_s, fmtV_i, flatD_n, flatD_b, flatD_i, flatD_s, opV_Add, opV_Sub, opV_Mult, opV_FloorDiv, opV_Mod, opV_Pow, cmpV_Eq, cmpV_NotEq, cmpV_Is, cmpV_IsNot, cmpV_In, cmpV_NotIn, cmpV_Lt, cmpV_LtE, cmpV_Gt, cmpV_GtE, wqP_v, wqP_t, wqP_r, wqPs_n, wqPs_c, eqV_ii, eqV_ss, eqV_bb, isV_n, isV_bb, isNon, inV_ss, ownB, Bool.true_or, Bool.false_or, Bool.or_false, Bool.not_false, Bool.not_true, Nat.reduceBEq, Bool.or_self, Bool.or_true, tab2_q, List.getElem?_cons_zero, List.getElem?_cons_succ, List.set_cons_zero, List.set_cons_succ, Option.some.injEq, exists_eq_left', exists_eq_left, Option.map_some, Bool.false_xor, Bool.true_xor, put_same, put_put, Ob.lst.injEq, D.int.injEq, D.bl.injEq, D.str.injEq, D.tup.injEq, D.ref.injEq, seqD_t, seqD_l, seqD_r, atI_0, atI_1, atI_2, atI_3, exists_and_left, exists_eq', and_true, true_and, decide_eq_true_eq]
  refine ⟨by simp; omega, by simp, ?_⟩
  have e : encTL (a ++ b) = .tup [.tup ((i ++ (l ++ (txs b).1) :: (txs b).2).map .str), .tup ((lps a).map encLp ++ (lps b).map encLp)] := by
    unfold encTL encTx encLs
    rw [h2, lps_app]; simp only [List.map_append]
  rw [e] at k
  simpa using k
end G57
set_option Elab.async false
set_option linter.all false
set_option maxRecDepth 100000
set_option maxHeartbeats 800000
namespace G57
open PySem L2
mutual
def rowP : Pg → List It
  | .text w => w.map .inl
  | .loop f ps => if f.any (· != 0) = false then [] else if isOpen f = true then (if rowPs ps = [] then [] else [.inr ((txs (rowPs ps)).1, f)]) else (List.replicate (f.headD 0).toNat (rowPs ps)).flatten
def rowPs : List Pg → List It
  | [] => []
  | p :: ps => rowP p ++ rowPs ps
end
/-- letters and words of a row, and its loops -/
def rsize : List It → Nat
  | [] => 0
  | .inl _ :: r => rsize r + 1
  | .inr l :: r => rsize r + l.1.length + 1
theorem rsize_app : ∀ a b : List It, rsize (a ++ b) = rsize a + rsize b
  | [], b => by simp [rsize]
  | .inl c :: a, b => by simp only [List.cons_append, rsize, rsize_app a b]; omega
  | .inr l :: a, b => by simp only [List.cons_append, rsize, rsize_app a b]; omega
theorem rsize_rep (n : Nat) (a : List It) : rsize (List.replicate n a).flatten = n * rsize a := by
  induction n with
  | zero => simp [rsize]
  | succ n ih => rw [List.replicate_succ, List.flatten_cons, rsize_app, ih, Nat.succ_mul, Nat.add_comm]
theorem len_rsize : ∀ a : List It, a.length ≤ rsize a
  | [] => by simp
  | .inl c :: a => by have := len_rsize a; simp [rsize]; omega
  | .inr l :: a => by have := len_rsize a; simp [rsize]; omega
theorem txs_rsize (a : List It) : (txs a).1.length ≤ rsize a := Nat.le_trans ((txl_le a).2 _ (by simp [txl])) (len_rsize a)
mutual
/-- a part for m counts, at most d deep -/
def wfP (m : Nat) : Pg → Nat → Bool → Prop
  | .text w, _, _ => ∀ c ∈ w, c < 0x110000
  | .loop f ps, d, b => 0 < d ∧ f.length = m + 1 ∧ (∀ i ∈ f, 0 ≤ i) ∧ (isOpen f = true → b = true) ∧ wfPs m ps (d - 1) (b && !isOpen f)
def wfPs (m : Nat) : List Pg → Nat → Bool → Prop
  | [], _, _ => True
  | p :: ps, d, b => wfP m p d b ∧ wfPs m ps d b
end
mutual
theorem wf_of_ok {m : Nat} : ∀ (p : Pg) (d : Nat) (b : Bool), okP m p d b → wfP m p d b
  | .text w, d, b, h => by
    rw [okP] at h
    rw [wfP]
    intro c hc
    have := h.2 c hc
    omega
  | .loop f ps, d, b, h => by
    rw [okP] at h
    rw [wfP]
    exact ⟨h.1, h.2.1.1, fun i hi => (h.2.1.2 i hi).1, h.2.2.1, wfs_of_ok ps _ _ h.2.2.2.2.2⟩
theorem wfs_of_ok {m : Nat} : ∀ (ps : List Pg) (d : Nat) (b : Bool), okPs m ps d b → wfPs m ps d b
  | [], d, b, h => by rw [wfPs]; trivial
  | p :: ps, d, b, h => by
    rw [okPs] at h
    rw [wfPs]
    exact ⟨wf_of_ok p d b h.1, wfs_of_ok ps d b h.2⟩
end
theorem rowPs_app : ∀ xs ys : List Pg, rowPs (xs ++ ys) = rowPs xs ++ rowPs ys
  | [], ys => rfl
  | x :: xs, ys => by rw [List.cons_append, rowPs, rowPs, rowPs_app xs ys, List.append_assoc]
/-! is_open -/
def sOpen : Spec2 := fun ds g Q => ∃ f : List Int, ds = [.tup (f.map .int)] ∧ Q (.bl (isOpen f)) g
theorem any_bs (f : List Int) : (f.map (· != 0)).any id = f.any (· != 0) := by rw [List.any_map]; rfl
theorem q_open : ∀ ds g Q, sOpen ds g Q → OkS (tab2 []) [] ir_is_open { nx := fun _ g' => Q .non g', rt := Q } (startD ["form"] ds) g := by
  rintro ds g Q ⟨f, rfl, k⟩
  rw [show startD ["form"] [.tup (f.map .int)] = [some (.tup (f.map .int))] from rfl]
  unfold ir_is_open
  refine ok_cons (ok_ret ?_)
  simp only [wqE, wqT, wqA, wqC, wqO, wqI, wqJ, addV_ii, addV_ss, addV_tt, addV_rr, subV_ii, mulV_ii, mulV_si, mulV_ti, mulV_ri, fdivV_ii, modV_ii, powV_ii, negV_i, truthV_s, truthV_n, truthV_b, truthV_i, truthV_t, truthV_r, ordV_ii, ordV_ss, idxV_t, idxV_r, idxV_s, slV_t, slV_r, slV_s, biV_len_s, biV_len_t, biV_len_r, biV_sum_t, biV_sum_r, biV_any_t, biV_any_r, biV_all_t, biV_all_r, biV_abs, biV_min, biV_max, biV_int_i, biV_int_b, biV_int_s, biV_str, biV_tuple_t, biV_tuple_r, biV_list_t, biV_list_r, mtV_join_t, mtV_join_r, mtV_count, mtO_join, mtO_count, itV_t, itV_r, itV_s, rng1V_i, rng2V_i, fmtV_s, fmtV_i, flatD_n, flatD_b, flatD_i, flatD_s, opV_Add, opV_Sub, opV_Mult, opV_FloorDiv, opV_Mod, opV_Pow, cmpV_Eq, cmpV_NotEq, cmpV_Is, cmpV_IsNot, cmpV_In, cmpV_NotIn, cmpV_Lt, cmpV_LtE, cmpV_Gt, cmpV_GtE, wqP_v, wqP_t, wqP_r, wqPs_n, wqPs_c, eqV_ii, eqV_ss, eqV_bb, isV_n, isV_bb, isNon, inV_ss, ownB, Bool.true_or, Bool.false_or, Bool.or_false, Bool.not_false, Bool.not_true, Nat.reduceBEq, Bool.or_self, Bool.or_true, tab2_q, List.getElem?_cons_zero, List.getElem?_cons_succ, List.set_cons_zero, List.set_cons_succ, Option.some.injEq, exists_eq_left', exists_eq_left, Option.map_some, Bool.false_xor, Bool.true_xor, put_same, put_put, Ob.lst.injEq, D.int.injEq, D.bl.injEq, D.str.injEq, D.tup.injEq, D.ref.injEq, seqD_t, seqD_l, seqD_r, atI_0, atI_1, atI_2, atI_3, exists_and_left, exists_eq', and_true, true_and, decide_eq_true_eq, cut_1, ← List.map_tail]
  refine ⟨_, trus_ints _, ?_⟩
  rw [any_bs]; exact k
/-! rows of parts -/
theorem low_enc {r : List It} (h : ∀ t ∈ txl r, ∀ c ∈ t, c < 0x110000) (h2 : ∀ l ∈ lps r, ∀ c ∈ l.1, c < 0x110000) : CmpN 4 (encTL r) := by
  refine CmpN.tup fun d hd => ?_
  simp only [List.mem_cons, List.not_mem_nil, or_false] at hd
  rcases hd with rfl | rfl
  · refine CmpN.tup fun d hd => ?_
    obtain ⟨t, ht, rfl⟩ := List.mem_map.mp hd
    exact .str (h t ht)
  · refine CmpN.tup fun d hd => ?_
    obtain ⟨l, hl, rfl⟩ := List.mem_map.mp hd
    refine CmpN.tup fun d hd => ?_
    simp only [List.mem_cons, List.not_mem_nil, or_false] at hd
    rcases hd with rfl | rfl
    · exact .str (h2 l hl)
    · refine CmpN.tup fun d hd => ?_
      obtain ⟨i, hi, rfl⟩ := List.mem_map.mp hd
      exact .int
/-- all signs of a row are signs -/
def lowR (r : List It) : Prop := ∀ x ∈ r, match x with
  | .inl c => c < 0x110000
  | .inr l => ∀ c ∈ l.1, c < 0x110000
theorem lowR_enc : ∀ {r : List It}, lowR r → (∀ t ∈ txl r, ∀ c ∈ t, c < 0x110000) ∧ ∀ l ∈ lps r, ∀ c ∈ l.1, c < 0x110000
  | [], _ => by simp [txl, txs, lps]
  | .inl a :: r, h => by
    obtain ⟨h1, h2⟩ := lowR_enc (r := r) fun x hx => h x (by simp [hx])
    have ha : a < 0x110000 := h (.inl a) (by simp)
    refine ⟨fun t ht c hc => ?_, h2⟩
    simp only [txl, txs, List.mem_cons] at ht h1
    rcases ht with rfl | ht
    · rcases List.mem_cons.mp hc with rfl | hc
      · exact ha
      · exact h1 _ (.inl rfl) c hc
    · exact h1 t (.inr ht) c hc
  | .inr l :: r, h => by
    obtain ⟨h1, h2⟩ := lowR_enc (r := r) fun x hx => h x (by simp [hx])
    have ha := h (.inr l) (by simp)
    refine ⟨fun t ht c hc => ?_, fun l' hl' => ?_⟩
    · simp only [txl, txs, List.mem_cons] at ht h1
      rcases ht with rfl | ht
      · simp at hc
      · exact h1 t ht c hc
    · simp only [lps, List.mem_cons] at hl'
      rcases hl' with rfl | hl'
      · exact ha
      · exact h2 l' hl'
theorem lowR_cmp {r : List It} (h : lowR r) : CmpN 4 (encTL r) := low_enc (lowR_enc h).1 (lowR_enc h).2
theorem encTL_nil {r : List It} (h : encTL r = encTL []) : r = [] := by
  unfold encTL encTx encLs at h
  simp only [D.tup.injEq, List.cons.injEq, and_true] at h
  obtain ⟨h1, h2⟩ := h
  cases r with
  | nil => rfl
  | cons x r =>
    cases x with
    | inl c =>
      simp [txl, txs] at h1
    | inr l => simp [lps] at h2
mutual
theorem lowR_row {m : Nat} : ∀ (p : Pg) (d : Nat) (b : Bool), wfP m p d b → lowR (rowP p)
  | .text w, d, b, h => by
    rw [wfP] at h
    rw [rowP]
    intro x hx
    obtain ⟨c, hc, rfl⟩ := List.mem_map.mp hx
    exact h c hc
  | .loop f ps, d, b, h => by
    rw [wfP] at h
    have ih := lowR_rows ps _ _ h.2.2.2.2
    rw [rowP]
    split
    · intro x hx; simp at hx
    · split
      · split
        · intro x hx; simp at hx
        · intro x hx
          rw [List.mem_singleton.mp hx]
          exact (lowR_enc ih).1 _ (by simp [txl])
      · intro x hx
        obtain ⟨ys, h1, h2⟩ := List.mem_flatten.mp hx
        rw [(List.mem_replicate.mp h1).2] at h2
        exact ih x h2
theorem lowR_rows {m : Nat} : ∀ (ps : List Pg) (d : Nat) (b : Bool), wfPs m ps d b → lowR (rowPs ps)
  | [], d, b, h => by intro x hx; simp [rowPs] at hx
  | p :: ps, d, b, h => by
    rw [wfPs] at h
    rw [rowPs]
    intro x hx
    rcases List.mem_append.mp hx with hx | hx
    · exact lowR_row p d b h.1 x hx
    · exact lowR_rows ps d b h.2 x hx
end
mutual
theorem shutR {m : Nat} : ∀ (p : Pg) (d : Nat), wfP m p d false → ∃ w : List Nat, rowP p = w.map .inl
  | .text w, d, h => ⟨w, by rw [rowP]⟩
  | .loop f ps, d, h => by
    rw [wfP] at h
    have ho : isOpen f = false := by
      cases e : isOpen f with
      | false => rfl
      | true => have := h.2.2.2.1 e; cases this
    obtain ⟨w, hw⟩ := shutRs ps (d - 1) (by simpa using h.2.2.2.2)
    rw [rowP, ho, hw]
    split
    · exact ⟨[], rfl⟩
    · refine ⟨(List.replicate (f.headD 0).toNat w).flatten, ?_⟩
      simp [List.map_flatten, List.map_replicate]
theorem shutRs {m : Nat} : ∀ (ps : List Pg) (d : Nat), wfPs m ps d false → ∃ w : List Nat, rowPs ps = w.map .inl
  | [], d, h => ⟨[], rfl⟩
  | p :: ps, d, h => by
    rw [wfPs] at h
    obtain ⟨w, hw⟩ := shutR p d h.1
    obtain ⟨u, hu⟩ := shutRs ps d h.2
    exact ⟨w ++ u, by rw [rowPs, hw, hu, List.map_append]⟩
end
theorem rsize_map (w : List Nat) : rsize (w.map .inl) = w.length := by
  induction w with
  | nil => rfl
  | cons c w ih => simp [rsize, ih]
def sPartR (n : Nat) : Spec2 := fun ds g Q => ∃ (p : Pg) (m d : Nat) (b : Bool), ds = [encP p] ∧ wfP m p d b ∧ d < n ∧ rsize (rowP p) ≤ 15000000 ∧ Q (encTL (rowP p)) g
def sPartsR (n : Nat) : Spec2 := fun ds g Q => ∃ (ps : List Pg) (m d : Nat) (b : Bool), ds = [.tup (encPs ps)] ∧ wfPs m ps d b ∧ d < n ∧ rsize (rowPs ps) ≤ 15000000 ∧ Q (encTL (rowPs ps)) g
theorem encTL_sing (w : List Nat) (f : List Int) : encTL [.inr (w, f)] = .tup [.tup [.str [], .str []], .tup [.tup [.str w, .tup (f.map .int)]]] := rfl
theorem encTL_0 : encTL [] = .tup [.tup [.str []], .tup []] := rfl
abbrev LpR (n : Nat) : List (Str × Spec2) := [("parts_row", sPartsR n), ("is_open", sOpen), ("fixed_row", sFixed), ("behind", sBehind)]
theorem rng_lenN (n : Nat) : (rngD 0 (n : Int)).length = n := by simp [rngD]
theorem part_loop (n N : Nat) {NX : En → Nat → Prop} {RT : QK} {A B o : Option D} {inner : List It} {g : Nat} (hz : N * rsize inner ≤ 15000000) (hE : ∀ o, NX [A, B, some (encTL inner), some (encTL (List.replicate N inner).flatten), o] g) :
    forV (fun x env g N' => OkS (tab2 (LpR n)) [] ir_part_row_b4 { nx := N', ct := N', bk := NX, rt := RT } (env.set 4 (some x)) g) NX (rngD 0 (N : Int)) [A, B, some (encTL inner), some (encTL []), o] g := by
  refine forV_inv (fun xs env g' => g' = g ∧ ∃ j o, j + xs.length = N ∧ env = [A, B, some (encTL inner), some (encTL (List.replicate j inner).flatten), o]) _ _ _ ⟨rfl, 0, o, by rw [rng_lenN]; omega, rfl⟩ ?_ ?_
  · rintro x r env g' N' ⟨rfl, j, o, hj, rfl⟩ hN
    unfold ir_part_row_b4
    refine ok_cons (ok_asg rfl ?_)
    simp only [wqE, wqT, wqA, wqC, wqO, wqI, wqJ, addV_ii, addV_ss, addV_tt, addV_rr, subV_ii, mulV_ii, mulV_si, mulV_ti, mulV_ri, fdivV_ii, modV_ii, powV_ii, negV_i, truthV_s, truthV_n, truthV_b, truthV_i, truthV_t, truthV_r, ordV_ii, ordV_ss, idxV_t, idxV_r, idxV_s, slV_t, slV_r, slV_s, biV_len_s, biV_len_t, biV_len_r, biV_sum_t, biV_sum_r, biV_any_t, biV_any_r, biV_all_t, biV_all_r, biV_abs, biV_min, biV_max, biV_int_i, biV_int_b, biV_int_s, biV_str, biV_tuple_t, biV_tuple_r, biV_list_t, biV_list_r, mtV_join_t, mtV_join_r, mtV_count, mtO_join, mtO_count, itV_t, itV_r, itV_s, rng1V_i, rng2V_i, fmtV_s, fmtV_i, flatD_n, flatD_b, flatD_i, flatD_s, opV_Add, opV_Sub, opV_Mult, opV_FloorDiv, opV_Mod, opV_Pow, cmpV_Eq, cmpV_NotEq, cmpV_Is, cmpV_IsNot, cmpV_In, cmpV_NotIn, cmpV_Lt, cmpV_LtE, cmpV_Gt, cmpV_GtE, wqP_v, wqP_t, wqP_r, wqPs_n, wqPs_c, eqV_ii, eqV_ss, eqV_bb, isV_n, isV_bb, isNon, inV_ss, ownB, Bool.true_or, Bool.false_or, Bool.or_false, Bool.not_false, Bool.not_true, Nat.reduceBEq, Bool.or_self, Bool.or_true, tab2_q, List.getElem?_cons_zero, List.getElem?_cons_succ, List.set_cons_zero, List.set_cons_succ, Option.some.injEq, exists_eq_left', exists_eq_left, Option.map_some, Bool.false_xor, Bool.true_xor, put_same, put_put, Ob.lst.injEq, D.int.injEq, D.bl.injEq, D.str.injEq, D.tup.injEq, D.ref.injEq, seqD_t, seqD_l, seqD_r, atI_0, atI_1, atI_2, atI_3, exists_and_left, exists_eq', and_true, true_and, decide_eq_true_eq]
    have h1 : (List.replicate j inner).flatten.length ≤ j * rsize inner := by
      rw [len_rep]; exact Nat.mul_le_mul_left _ (len_rsize _)
    have h2 : (j + 1) * rsize inner ≤ N * rsize inner := Nat.mul_le_mul_right _ (by rw [List.length_cons] at hj; omega)
    rw [Nat.succ_mul] at h2
    have h3 := len_rsize inner
    refine ⟨_, _, rfl, by omega, ?_⟩
    refine ok_nil (hN _ _ ⟨rfl, j + 1, some x, by rw [List.length_cons] at hj; omega, ?_⟩)
    rw [List.replicate_succ', List.flatten_append]
    simp
  · rintro env g' ⟨rfl, j, o, hj, rfl⟩
    rw [List.length_nil, Nat.add_zero] at hj
    subst hj
    exact hE _
theorem q_part_row (n : Nat) : ∀ ds g Q, sPartR (n + 1) ds g Q → OkS (tab2 (LpR n)) [] ir_part_row { nx := fun _ g' => Q .non g', rt := Q } (startD ["part", "form", "inner", "found", "turn"] ds) g := by
  rintro ds g Q ⟨p, m, d, b, rfl, hw, hd, hz, k⟩
  rw [show startD ["part", "form", "inner", "found", "turn"] [encP p] = [some (encP p), none, none, none, none] from rfl]
  have low := lowR_row p d b hw
  unfold ir_part_row
  refine ok_cons (ok_iff ?_)
  cases p with
  | text w =>
    simp only [encP, wqE, wqT, wqA, wqC, wqO, wqI, wqJ, addV_ii, addV_ss, addV_tt, addV_rr, subV_ii, mulV_ii, mulV_si, mulV_ti, mulV_ri, fdivV_ii, modV_ii, powV_ii, negV_i, truthV_s, truthV_n, truthV_b, truthV_i, truthV_t, truthV_r, ordV_ii, ordV_ss, idxV_t, idxV_r, idxV_s, slV_t, slV_r, slV_s, biV_len_s, biV_len_t, biV_len_r, biV_sum_t, biV_sum_r, biV_any_t, biV_any_r, biV_all_t, biV_all_r, biV_abs, biV_min, biV_max, biV_int_i, biV_int_b, biV_int_s, biV_str, biV_tuple_t, biV_tuple_r, biV_list_t, biV_list_r, mtV_join_t, mtV_join_r, mtV_count, mtO_join, mtO_count, itV_t, itV_r, itV_s, rng1V_i, rng2V_i, fmtV_s, fmtV_i, flatD_n, flatD_b, flatD_i, flatD_s, opV_Add, opV_Sub, opV_Mult, opV_FloorDiv, opV_Mod, opV_Pow, cmpV_Eq, cmpV_NotEq, cmpV_Is, cmpV_IsNot, cmpV_In, cmpV_NotIn, cmpV_Lt, cmpV_LtE, cmpV_Gt, cmpV_GtE, wqP_v, wqP_t, wqP_r, wqPs_n, wqPs_c, eqV_ii, eqV_ss, eqV_bb, isV_n, isV_bb, isNon, inV_ss, ownB, Bool.true_or, Bool.false_or, Bool.or_false, Bool.not_false, Bool.not_true, Nat.reduceBEq, Bool.or_self, Bool.or_true, tab2_q, List.getElem?_cons_zero, List.getElem?_cons_succ, List.set_cons_zero, List.set_cons_succ, Option.some.injEq, exists_eq_left', exists_eq_left, Option.map_some, Bool.false_xor, Bool.true_xor, put_same, put_put, Ob.lst.injEq, D.int.injEq, D.bl.injEq, D.str.injEq, D.tup.injEq, D.ref.injEq, seqD_t, seqD_l, seqD_r, atI_0, atI_1, atI_2, atI_3, exists_and_left, exists_eq', and_true, true_and, decide_eq_true_eq]
    simp only [decide_true, Bool.false_xor, if_true]
    unfold ir_part_row_b1
    refine ok_cons (ok_ret ?_)
    simp only [encP, wqE, wqT, wqA, wqC, wqO, wqI, wqJ, addV_ii, addV_ss, addV_tt, addV_rr, subV_ii, mulV_ii, mulV_si, mulV_ti, mulV_ri, fdivV_ii, modV_ii, powV_ii, negV_i, truthV_s, truthV_n, truthV_b, truthV_i, truthV_t, truthV_r, ordV_ii, ordV_ss, idxV_t, idxV_r, idxV_s, slV_t, slV_r, slV_s, biV_len_s, biV_len_t, biV_len_r, biV_sum_t, biV_sum_r, biV_any_t, biV_any_r, biV_all_t, biV_all_r, biV_abs, biV_min, biV_max, biV_int_i, biV_int_b, biV_int_s, biV_str, biV_tuple_t, biV_tuple_r, biV_list_t, biV_list_r, mtV_join_t, mtV_join_r, mtV_count, mtO_join, mtO_count, itV_t, itV_r, itV_s, rng1V_i, rng2V_i, fmtV_s, fmtV_i, flatD_n, flatD_b, flatD_i, flatD_s, opV_Add, opV_Sub, opV_Mult, opV_FloorDiv, opV_Mod, opV_Pow, cmpV_Eq, cmpV_NotEq, cmpV_Is, cmpV_IsNot, cmpV_In, cmpV_NotIn, cmpV_Lt, cmpV_LtE, cmpV_Gt, cmpV_GtE, wqP_v, wqP_t, wqP_r, wqPs_n, wqPs_c, eqV_ii, eqV_ss, eqV_bb, isV_n, isV_bb, isNon, inV_ss, ownB, Bool.true_or, Bool.false_or, Bool.or_false, Bool.not_false, Bool.not_true, Nat.reduceBEq, Bool.or_self, Bool.or_true, tab2_q, List.getElem?_cons_zero, List.getElem?_cons_succ, List.set_cons_zero, List.set_cons_succ, Option.some.injEq, exists_eq_left', exists_eq_left, Option.map_some, Bool.false_xor, Bool.true_xor, put_same, put_put, Ob.lst.injEq, D.int.injEq, D.bl.injEq, D.str.injEq, D.tup.injEq, D.ref.injEq, seqD_t, seqD_l, seqD_r, atI_0, atI_1, atI_2, atI_3, exists_and_left, exists_eq', and_true, true_and, decide_eq_true_eq]
    exact ⟨w, rfl, k⟩
  | loop f ps =>
    simp only [encP, wqE, wqT, wqA, wqC, wqO, wqI, wqJ, addV_ii, addV_ss, addV_tt, addV_rr, subV_ii, mulV_ii, mulV_si, mulV_ti, mulV_ri, fdivV_ii, modV_ii, powV_ii, negV_i, truthV_s, truthV_n, truthV_b, truthV_i, truthV_t, truthV_r, ordV_ii, ordV_ss, idxV_t, idxV_r, idxV_s, slV_t, slV_r, slV_s, biV_len_s, biV_len_t, biV_len_r, biV_sum_t, biV_sum_r, biV_any_t, biV_any_r, biV_all_t, biV_all_r, biV_abs, biV_min, biV_max, biV_int_i, biV_int_b, biV_int_s, biV_str, biV_tuple_t, biV_tuple_r, biV_list_t, biV_list_r, mtV_join_t, mtV_join_r, mtV_count, mtO_join, mtO_count, itV_t, itV_r, itV_s, rng1V_i, rng2V_i, fmtV_s, fmtV_i, flatD_n, flatD_b, flatD_i, flatD_s, opV_Add, opV_Sub, opV_Mult, opV_FloorDiv, opV_Mod, opV_Pow, cmpV_Eq, cmpV_NotEq, cmpV_Is, cmpV_IsNot, cmpV_In, cmpV_NotIn, cmpV_Lt, cmpV_LtE, cmpV_Gt, cmpV_GtE, wqP_v, wqP_t, wqP_r, wqPs_n, wqPs_c, eqV_ii, eqV_ss, eqV_bb, isV_n, isV_bb, isNon, inV_ss, ownB, Bool.true_or, Bool.false_or, Bool.or_false, Bool.not_false, Bool.not_true, Nat.reduceBEq, Bool.or_self, Bool.or_true, tab2_q, List.getElem?_cons_zero, List.getElem?_cons_succ, List.set_cons_zero, List.set_cons_succ, Option.some.injEq, exists_eq_left', exists_eq_left, Option.map_some, Bool.false_xor, Bool.true_xor, put_same, put_put, Ob.lst.injEq, D.int.injEq, D.bl.injEq, D.str.injEq, D.tup.injEq, D.ref.injEq, seqD_t, seqD_l, seqD_r, atI_0, atI_1, atI_2, atI_3, exists_and_left, exists_eq', and_true, true_and, decide_eq_true_eq]
    rw [if_neg (by simp)]
    refine ok_nil ?_
    rw [wfP] at hw
    obtain ⟨hd0, hf, hi, ho, hps⟩ := hw
    have lowI := lowR_rows ps _ _ hps
    have hcmp := lowR_cmp lowI
    have hcmp0 : CmpN 4 (encTL []) := lowR_cmp (fun x hx => by simp at hx)
    obtain ⟨c, r, rfl⟩ : ∃ c r, f = c :: r := by cases f with | nil => simp at hf | cons c r => exact ⟨c, r, rfl⟩
    have hc0 : 0 ≤ c := hi c (by simp)
    rw [rowP] at k hz
    unfold ir_part_row_1
    refine ok_cons (ok_asg rfl ?_)
    simp only [encP, wqE, wqT, wqA, wqC, wqO, wqI, wqJ, addV_ii, addV_ss, addV_tt, addV_rr, subV_ii, mulV_ii, mulV_si, mulV_ti, mulV_ri, fdivV_ii, modV_ii, powV_ii, negV_i, truthV_s, truthV_n, truthV_b, truthV_i, truthV_t, truthV_r, ordV_ii, ordV_ss, idxV_t, idxV_r, idxV_s, slV_t, slV_r, slV_s, biV_len_s, biV_len_t, biV_len_r, biV_sum_t, biV_sum_r, biV_any_t, biV_any_r, biV_all_t, biV_all_r, biV_abs, biV_min, biV_max, biV_int_i, biV_int_b, biV_int_s, biV_str, biV_tuple_t, biV_tuple_r, biV_list_t, biV_list_r, mtV_join_t, mtV_join_r, mtV_count, mtO_join, mtO_count, itV_t, itV_r, itV_s, rng1V_i, rng2V_i, fmtV_s, fmtV_i, flatD_n, flatD_b, flatD_i, flatD_s, opV_Add, opV_Sub, opV_Mult, opV_FloorDiv, opV_Mod, opV_Pow, cmpV_Eq, cmpV_NotEq, cmpV_Is, cmpV_IsNot, cmpV_In, cmpV_NotIn, cmpV_Lt, cmpV_LtE, cmpV_Gt, cmpV_GtE, wqP_v, wqP_t, wqP_r, wqPs_n, wqPs_c, eqV_ii, eqV_ss, eqV_bb, isV_n, isV_bb, isNon, inV_ss, ownB, Bool.true_or, Bool.false_or, Bool.or_false, Bool.not_false, Bool.not_true, Nat.reduceBEq, Bool.or_self, Bool.or_true, tab2_q, List.getElem?_cons_zero, List.getElem?_cons_succ, List.set_cons_zero, List.set_cons_succ, Option.some.injEq, exists_eq_left', exists_eq_left, Option.map_some, Bool.false_xor, Bool.true_xor, put_same, put_put, Ob.lst.injEq, D.int.injEq, D.bl.injEq, D.str.injEq, D.tup.injEq, D.ref.injEq, seqD_t, seqD_l, seqD_r, atI_0, atI_1, atI_2, atI_3, exists_and_left, exists_eq', and_true, true_and, decide_eq_true_eq]
    unfold ir_part_row_2
    refine ok_cons (ok_iff ?_)
    simp only [encP, wqE, wqT, wqA, wqC, wqO, wqI, wqJ, addV_ii, addV_ss, addV_tt, addV_rr, subV_ii, mulV_ii, mulV_si, mulV_ti, mulV_ri, fdivV_ii, modV_ii, powV_ii, negV_i, truthV_s, truthV_n, truthV_b, truthV_i, truthV_t, truthV_r, ordV_ii, ordV_ss, idxV_t, idxV_r, idxV_s, slV_t, slV_r, slV_s, biV_len_s, biV_len_t, biV_len_r, biV_sum_t, biV_sum_r, biV_any_t, biV_any_r, biV_all_t, biV_all_r, biV_abs, biV_min, biV_max, biV_int_i, biV_int_b, biV_int_s, biV_str, biV_tuple_t, biV_tuple_r, biV_list_t, biV_list_r, mtV_join_t, mtV_join_r, mtV_count, mtO_join, mtO_count, itV_t, itV_r, itV_s, rng1V_i, rng2V_i, fmtV_s, fmtV_i, flatD_n, flatD_b, flatD_i, flatD_s, opV_Add, opV_Sub, opV_Mult, opV_FloorDiv, opV_Mod, opV_Pow, cmpV_Eq, cmpV_NotEq, cmpV_Is, cmpV_IsNot, cmpV_In, cmpV_NotIn, cmpV_Lt, cmpV_LtE, cmpV_Gt, cmpV_GtE, wqP_v, wqP_t, wqP_r, wqPs_n, wqPs_c, eqV_ii, eqV_ss, eqV_bb, isV_n, isV_bb, isNon, inV_ss, ownB, Bool.true_or, Bool.false_or, Bool.or_false, Bool.not_false, Bool.not_true, Nat.reduceBEq, Bool.or_self, Bool.or_true, tab2_q, List.getElem?_cons_zero, List.getElem?_cons_succ, List.set_cons_zero, List.set_cons_succ, Option.some.injEq, exists_eq_left', exists_eq_left, Option.map_some, Bool.false_xor, Bool.true_xor, put_same, put_put, Ob.lst.injEq, D.int.injEq, D.bl.injEq, D.str.injEq, D.tup.injEq, D.ref.injEq, seqD_t, seqD_l, seqD_r, atI_0, atI_1, atI_2, atI_3, exists_and_left, exists_eq', and_true, true_and, decide_eq_true_eq]
    refine ⟨_, trus_ints _, ?_⟩
    rw [any_bs]
    cases hany : (c :: r).any (· != 0) with
    | false =>
      simp only [Bool.not_false, if_true]
      rw [hany, if_pos rfl] at k
      unfold ir_part_row_b2
      refine ok_cons (ok_ret ?_)
      simp only [wqE, wqT, wqA, wqC, wqO, wqI, wqJ, addV_ii, addV_ss, addV_tt, addV_rr, subV_ii, mulV_ii, mulV_si, mulV_ti, mulV_ri, fdivV_ii, modV_ii, powV_ii, negV_i, truthV_s, truthV_n, truthV_b, truthV_i, truthV_t, truthV_r, ordV_ii, ordV_ss, idxV_t, idxV_r, idxV_s, slV_t, slV_r, slV_s, biV_len_s, biV_len_t, biV_len_r, biV_sum_t, biV_sum_r, biV_any_t, biV_any_r, biV_all_t, biV_all_r, biV_abs, biV_min, biV_max, biV_int_i, biV_int_b, biV_int_s, biV_str, biV_tuple_t, biV_tuple_r, biV_list_t, biV_list_r, mtV_join_t, mtV_join_r, mtV_count, mtO_join, mtO_count, itV_t, itV_r, itV_s, rng1V_i, rng2V_i, fmtV_s, fmtV_i, flatD_n, flatD_b, flatD_i, flatD_s, opV_Add, opV_Sub, opV_Mult, opV_FloorDiv, opV_Mod, opV_Pow, cmpV_Eq, cmpV_NotEq, cmpV_Is, cmpV_IsNot, cmpV_In, cmpV_NotIn, cmpV_Lt, cmpV_LtE, cmpV_Gt, cmpV_GtE, wqP_v, wqP_t, wqP_r, wqPs_n, wqPs_c, eqV_ii, eqV_ss, eqV_bb, isV_n, isV_bb, isNon, inV_ss, ownB, Bool.true_or, Bool.false_or, Bool.or_false, Bool.not_false, Bool.not_true, Nat.reduceBEq, Bool.or_self, Bool.or_true, tab2_q, List.getElem?_cons_zero, List.getElem?_cons_succ, List.set_cons_zero, List.set_cons_succ, Option.some.injEq, exists_eq_left', exists_eq_left, Option.map_some, Bool.false_xor, Bool.true_xor, put_same, put_put, Ob.lst.injEq, D.int.injEq, D.bl.injEq, D.str.injEq, D.tup.injEq, D.ref.injEq, seqD_t, seqD_l, seqD_r, atI_0, atI_1, atI_2, atI_3, exists_and_left, exists_eq', and_true, true_and, decide_eq_true_eq]
      exact ⟨[], rfl, k⟩
    | true =>
      simp only [Bool.not_true, Bool.false_eq_true, if_false]
      rw [hany, if_neg (by decide)] at k hz
      refine ok_nil ?_
      unfold ir_part_row_3
      refine ok_cons (ok_asg rfl ?_)
      simp only [encP, wqE, wqT, wqA, wqC, wqO, wqI, wqJ, addV_ii, addV_ss, addV_tt, addV_rr, subV_ii, mulV_ii, mulV_si, mulV_ti, mulV_ri, fdivV_ii, modV_ii, powV_ii, negV_i, truthV_s, truthV_n, truthV_b, truthV_i, truthV_t, truthV_r, ordV_ii, ordV_ss, idxV_t, idxV_r, idxV_s, slV_t, slV_r, slV_s, biV_len_s, biV_len_t, biV_len_r, biV_sum_t, biV_sum_r, biV_any_t, biV_any_r, biV_all_t, biV_all_r, biV_abs, biV_min, biV_max, biV_int_i, biV_int_b, biV_int_s, biV_str, biV_tuple_t, biV_tuple_r, biV_list_t, biV_list_r, mtV_join_t, mtV_join_r, mtV_count, mtO_join, mtO_count, itV_t, itV_r, itV_s, rng1V_i, rng2V_i, fmtV_s, fmtV_i, flatD_n, flatD_b, flatD_i, flatD_s, opV_Add, opV_Sub, opV_Mult, opV_FloorDiv, opV_Mod, opV_Pow, cmpV_Eq, cmpV_NotEq, cmpV_Is, cmpV_IsNot, cmpV_In, cmpV_NotIn, cmpV_Lt, cmpV_LtE, cmpV_Gt, cmpV_GtE, wqP_v, wqP_t, wqP_r, wqPs_n, wqPs_c, eqV_ii, eqV_ss, eqV_bb, isV_n, isV_bb, isNon, inV_ss, ownB, Bool.true_or, Bool.false_or, Bool.or_false, Bool.not_false, Bool.not_true, Nat.reduceBEq, Bool.or_self, Bool.or_true, tab2_q, List.getElem?_cons_zero, List.getElem?_cons_succ, List.set_cons_zero, List.set_cons_succ, Option.some.injEq, exists_eq_left', exists_eq_left, Option.map_some, Bool.false_xor, Bool.true_xor, put_same, put_put, Ob.lst.injEq, D.int.injEq, D.bl.injEq, D.str.injEq, D.tup.injEq, D.ref.injEq, seqD_t, seqD_l, seqD_r, atI_0, atI_1, atI_2, atI_3, exists_and_left, exists_eq', and_true, true_and, decide_eq_true_eq]
      have hsz : rsize (rowPs ps) ≤ 15000000 := by
        split at hz
        · rename_i h1
          split at hz
          · rename_i h0; rw [h0]; simp [rsize]
          · rw [h1] at hps
            obtain ⟨w, hw⟩ := shutRs ps (d - 1) (by simpa using hps)
            rw [hw] at hz ⊢
            rw [rsize_map]
            simp only [rsize, txs_map] at hz
            omega
        · rename_i h1
          rw [rsize_rep, List.headD_cons] at hz
          have hc1 : 1 ≤ c.toNat := by
            have : isOpen (c :: r) = false := by simpa using h1
            simp only [isOpen, List.tail_cons] at this
            rw [List.any_cons, this, Bool.or_false] at hany
            have : c ≠ 0 := by simpa using hany
            omega
          have : 1 * rsize (rowPs ps) ≤ c.toNat * rsize (rowPs ps) := Nat.mul_le_mul_right _ hc1
          omega
      refine ⟨ps, m, d - 1, _, rfl, hps, by omega, hsz, ?_⟩
      unfold ir_part_row_4
      refine ok_cons (ok_iff ?_)
      simp only [wqE, wqT, wqA, wqC, wqO, wqI, wqJ, addV_ii, addV_ss, addV_tt, addV_rr, subV_ii, mulV_ii, mulV_si, mulV_ti, mulV_ri, fdivV_ii, modV_ii, powV_ii, negV_i, truthV_s, truthV_n, truthV_b, truthV_i, truthV_t, truthV_r, ordV_ii, ordV_ss, idxV_t, idxV_r, idxV_s, slV_t, slV_r, slV_s, biV_len_s, biV_len_t, biV_len_r, biV_sum_t, biV_sum_r, biV_any_t, biV_any_r, biV_all_t, biV_all_r, biV_abs, biV_min, biV_max, biV_int_i, biV_int_b, biV_int_s, biV_str, biV_tuple_t, biV_tuple_r, biV_list_t, biV_list_r, mtV_join_t, mtV_join_r, mtV_count, mtO_join, mtO_count, itV_t, itV_r, itV_s, rng1V_i, rng2V_i, fmtV_s, fmtV_i, flatD_n, flatD_b, flatD_i, flatD_s, opV_Add, opV_Sub, opV_Mult, opV_FloorDiv, opV_Mod, opV_Pow, cmpV_Eq, cmpV_NotEq, cmpV_Is, cmpV_IsNot, cmpV_In, cmpV_NotIn, cmpV_Lt, cmpV_LtE, cmpV_Gt, cmpV_GtE, wqP_v, wqP_t, wqP_r, wqPs_n, wqPs_c, eqV_ii, eqV_ss, eqV_bb, isV_n, isV_bb, isNon, inV_ss, ownB, Bool.true_or, Bool.false_or, Bool.or_false, Bool.not_false, Bool.not_true, Nat.reduceBEq, Bool.or_self, Bool.or_true, tab2_q, List.getElem?_cons_zero, List.getElem?_cons_succ, List.set_cons_zero, List.set_cons_succ, Option.some.injEq, exists_eq_left', exists_eq_left, Option.map_some, Bool.false_xor, Bool.true_xor, put_same, put_put, Ob.lst.injEq, D.int.injEq, D.bl.injEq, D.str.injEq, D.tup.injEq, D.ref.injEq, seqD_t, seqD_l, seqD_r, atI_0, atI_1, atI_2, atI_3, exists_and_left, exists_eq', and_true, true_and, decide_eq_true_eq]
      refine ⟨c :: r, rfl, ?_⟩
      simp only [truthV]
      cases hop : isOpen (c :: r) with
      | true =>
        simp only [if_true]
        rw [hop, if_pos rfl] at k
        unfold ir_part_row_b3
        refine ok_cons (ok_ret ?_)
        simp only [wqE, wqT, wqA, wqC, wqO, wqI, wqJ, addV_ii, addV_ss, addV_tt, addV_rr, subV_ii, mulV_ii, mulV_si, mulV_ti, mulV_ri, fdivV_ii, modV_ii, powV_ii, negV_i, truthV_s, truthV_n, truthV_b, truthV_i, truthV_t, truthV_r, ordV_ii, ordV_ss, idxV_t, idxV_r, idxV_s, slV_t, slV_r, slV_s, biV_len_s, biV_len_t, biV_len_r, biV_sum_t, biV_sum_r, biV_any_t, biV_any_r, biV_all_t, biV_all_r, biV_abs, biV_min, biV_max, biV_int_i, biV_int_b, biV_int_s, biV_str, biV_tuple_t, biV_tuple_r, biV_list_t, biV_list_r, mtV_join_t, mtV_join_r, mtV_count, mtO_join, mtO_count, itV_t, itV_r, itV_s, rng1V_i, rng2V_i, fmtV_s, fmtV_i, flatD_n, flatD_b, flatD_i, flatD_s, opV_Add, opV_Sub, opV_Mult, opV_FloorDiv, opV_Mod, opV_Pow, cmpV_Eq, cmpV_NotEq, cmpV_Is, cmpV_IsNot, cmpV_In, cmpV_NotIn, cmpV_Lt, cmpV_LtE, cmpV_Gt, cmpV_GtE, wqP_v, wqP_t, wqP_r, wqPs_n, wqPs_c, eqV_ii, eqV_ss, eqV_bb, isV_n, isV_bb, isNon, inV_ss, ownB, Bool.true_or, Bool.false_or, Bool.or_false, Bool.not_false, Bool.not_true, Nat.reduceBEq, Bool.or_self, Bool.or_true, tab2_q, List.getElem?_cons_zero, List.getElem?_cons_succ, List.set_cons_zero, List.set_cons_succ, Option.some.injEq, exists_eq_left', exists_eq_left, Option.map_some, Bool.false_xor, Bool.true_xor, put_same, put_put, Ob.lst.injEq, D.int.injEq, D.bl.injEq, D.str.injEq, D.tup.injEq, D.ref.injEq, seqD_t, seqD_l, seqD_r, atI_0, atI_1, atI_2, atI_3, exists_and_left, exists_eq', and_true, true_and, decide_eq_true_eq]
        refine ⟨[], rfl, ?_⟩
        refine eqV_of hcmp hcmp0 (by decide) (by decide) fun t ht => ⟨_, rfl, ?_⟩
        rw [Bool.false_xor]
        cases t with
        | true =>
          simp only [if_true]
          have e := encTL_nil (ht.mp rfl)
          rw [if_pos e] at k
          exact ⟨[], rfl, k⟩
        | false =>
          simp only [Bool.false_eq_true, if_false]
          have hne : rowPs ps ≠ [] := fun e => by rw [e] at ht; simp at ht
          rw [if_neg hne, encTL_sing] at k
          simp only [encTL, encTx, txl, List.map_cons, wqE, wqT, wqA, wqC, wqO, wqI, wqJ, addV_ii, addV_ss, addV_tt, addV_rr, subV_ii, mulV_ii, mulV_si, mulV_ti, mulV_ri, fdivV_ii, modV_ii, powV_ii, negV_i, truthV_s, truthV_n, truthV_b, truthV_i, truthV_t, truthV_r, ordV_ii, ordV_ss, idxV_t, idxV_r, idxV_s, slV_t, slV_r, slV_s, biV_len_s, biV_len_t, biV_len_r, biV_sum_t, biV_sum_r, biV_any_t, biV_any_r, biV_all_t, biV_all_r, biV_abs, biV_min, biV_max, biV_int_i, biV_int_b, biV_int_s, biV_str, biV_tuple_t, biV_tuple_r, biV_list_t, biV_list_r, mtV_join_t, mtV_join_r, mtV_count, mtO_join, mtO_count, itV_t, itV_r, itV_s, rng1V_i, rng2V_i, fmtV_s, fmtV_i, flatD_n, flatD_b, flatD_i, flatD_s, opV_Add, opV_Sub, opV_Mult, opV_FloorDiv, opV_Mod, opV_Pow, cmpV_Eq, cmpV_NotEq, cmpV_Is, cmpV_IsNot, cmpV_In, cmpV_NotIn, cmpV_Lt, cmpV_LtE, cmpV_Gt, cmpV_GtE, wqP_v, wqP_t, wqP_r, wqPs_n, wqPs_c, eqV_ii, eqV_ss, eqV_bb, isV_n, isV_bb, isNon, inV_ss, ownB, Bool.true_or, Bool.false_or, Bool.or_false, Bool.not_false, Bool.not_true, Nat.reduceBEq, Bool.or_self, Bool.or_true, tab2_q, List.getElem?_cons_zero, List.getElem?_cons_succ, List.set_cons_zero, List.set_cons_succ, Option.some.injEq, exists_eq_left', exists_eq_left, Option.map_some, Bool.false_xor, Bool.true_xor, put_same, put_put, Ob.lst.injEq, D.int.injEq, D.bl.injEq, D.str.injEq, D.tup.injEq, D.ref.injEq, seqD_t, seqD_l, seqD_r, atI_0, atI_1, atI_2, atI_3, exists_and_left, exists_eq', and_true, true_and, decide_eq_true_eq]
          exact ⟨by simp, by simp, by simp, by simp, k⟩
      | false =>
        simp only [Bool.false_eq_true, if_false]
        rw [hop, if_neg (by decide)] at k hz
        rw [List.headD_cons] at k hz
        rw [rsize_rep] at hz
        refine ok_nil ?_
        unfold ir_part_row_5
        refine ok_cons (ok_asg rfl ?_)
        simp only [wqE, wqT, wqA, wqC, wqO, wqI, wqJ, addV_ii, addV_ss, addV_tt, addV_rr, subV_ii, mulV_ii, mulV_si, mulV_ti, mulV_ri, fdivV_ii, modV_ii, powV_ii, negV_i, truthV_s, truthV_n, truthV_b, truthV_i, truthV_t, truthV_r, ordV_ii, ordV_ss, idxV_t, idxV_r, idxV_s, slV_t, slV_r, slV_s, biV_len_s, biV_len_t, biV_len_r, biV_sum_t, biV_sum_r, biV_any_t, biV_any_r, biV_all_t, biV_all_r, biV_abs, biV_min, biV_max, biV_int_i, biV_int_b, biV_int_s, biV_str, biV_tuple_t, biV_tuple_r, biV_list_t, biV_list_r, mtV_join_t, mtV_join_r, mtV_count, mtO_join, mtO_count, itV_t, itV_r, itV_s, rng1V_i, rng2V_i, fmtV_s, fmtV_i, flatD_n, flatD_b, flatD_i, flatD_s, opV_Add, opV_Sub, opV_Mult, opV_FloorDiv, opV_Mod, opV_Pow, cmpV_Eq, cmpV_NotEq, cmpV_Is, cmpV_IsNot, cmpV_In, cmpV_NotIn, cmpV_Lt, cmpV_LtE, cmpV_Gt, cmpV_GtE, wqP_v, wqP_t, wqP_r, wqPs_n, wqPs_c, eqV_ii, eqV_ss, eqV_bb, isV_n, isV_bb, isNon, inV_ss, ownB, Bool.true_or, Bool.false_or, Bool.or_false, Bool.not_false, Bool.not_true, Nat.reduceBEq, Bool.or_self, Bool.or_true, tab2_q, List.getElem?_cons_zero, List.getElem?_cons_succ, List.set_cons_zero, List.set_cons_succ, Option.some.injEq, exists_eq_left', exists_eq_left, Option.map_some, Bool.false_xor, Bool.true_xor, put_same, put_put, Ob.lst.injEq, D.int.injEq, D.bl.injEq, D.str.injEq, D.tup.injEq, D.ref.injEq, seqD_t, seqD_l, seqD_r, atI_0, atI_1, atI_2, atI_3, exists_and_left, exists_eq', and_true, true_and, decide_eq_true_eq]
        refine ⟨[], rfl, ?_⟩
        unfold ir_part_row_6
        refine ok_cons (ok_loop rfl ?_)
        simp only [wqE, wqT, wqA, wqC, wqO, wqI, wqJ, addV_ii, addV_ss, addV_tt, addV_rr, subV_ii, mulV_ii, mulV_si, mulV_ti, mulV_ri, fdivV_ii, modV_ii, powV_ii, negV_i, truthV_s, truthV_n, truthV_b, truthV_i, truthV_t, truthV_r, ordV_ii, ordV_ss, idxV_t, idxV_r, idxV_s, slV_t, slV_r, slV_s, biV_len_s, biV_len_t, biV_len_r, biV_sum_t, biV_sum_r, biV_any_t, biV_any_r, biV_all_t, biV_all_r, biV_abs, biV_min, biV_max, biV_int_i, biV_int_b, biV_int_s, biV_str, biV_tuple_t, biV_tuple_r, biV_list_t, biV_list_r, mtV_join_t, mtV_join_r, mtV_count, mtO_join, mtO_count, itV_t, itV_r, itV_s, rng1V_i, rng2V_i, fmtV_s, fmtV_i, flatD_n, flatD_b, flatD_i, flatD_s, opV_Add, opV_Sub, opV_Mult, opV_FloorDiv, opV_Mod, opV_Pow, cmpV_Eq, cmpV_NotEq, cmpV_Is, cmpV_IsNot, cmpV_In, cmpV_NotIn, cmpV_Lt, cmpV_LtE, cmpV_Gt, cmpV_GtE, wqP_v, wqP_t, wqP_r, wqPs_n, wqPs_c, eqV_ii, eqV_ss, eqV_bb, isV_n, isV_bb, isNon, inV_ss, ownB, Bool.true_or, Bool.false_or, Bool.or_false, Bool.not_false, Bool.not_true, Nat.reduceBEq, Bool.or_self, Bool.or_true, tab2_q, List.getElem?_cons_zero, List.getElem?_cons_succ, List.set_cons_zero, List.set_cons_succ, Option.some.injEq, exists_eq_left', exists_eq_left, Option.map_some, Bool.false_xor, Bool.true_xor, put_same, put_put, Ob.lst.injEq, D.int.injEq, D.bl.injEq, D.str.injEq, D.tup.injEq, D.ref.injEq, seqD_t, seqD_l, seqD_r, atI_0, atI_1, atI_2, atI_3, exists_and_left, exists_eq', and_true, true_and, decide_eq_true_eq]
        refine ⟨[], rfl, ?_⟩
        refine eqV_of hcmp hcmp0 (by decide) (by decide) fun t ht => ⟨_, rfl, ?_⟩
        rw [Bool.true_xor]
        have hc2 : rowPs ps ≠ [] → c.toNat ≤ 15000000 := fun hne => by
          have h1 : 1 ≤ rsize (rowPs ps) := Nat.le_trans (List.length_pos_iff.mpr hne) (len_rsize _)
          have h2 : c.toNat * 1 ≤ c.toNat * rsize (rowPs ps) := Nat.mul_le_mul_left _ h1
          omega
        have fin : ∀ (N : Nat), (List.replicate N (rowPs ps)).flatten = (List.replicate c.toNat (rowPs ps)).flatten → ∀ o, OkS (tab2 (LpR n)) [] ir_part_row_7 { nx := fun _ g' => Q .non g', rt := Q } [some (.tup [.str [108, 111, 111, 112], .tup ((c :: r).map .int), .tup (encPs ps)]), some (.tup ((c :: r).map .int)), some (encTL (rowPs ps)), some (encTL (List.replicate N (rowPs ps)).flatten), o] g := fun N hN o => by
          unfold ir_part_row_7
          refine ok_cons (ok_ret ?_)
          simp only [wqE, wqT, wqA, wqC, wqO, wqI, wqJ, addV_ii, addV_ss, addV_tt, addV_rr, subV_ii, mulV_ii, mulV_si, mulV_ti, mulV_ri, fdivV_ii, modV_ii, powV_ii, negV_i, truthV_s, truthV_n, truthV_b, truthV_i, truthV_t, truthV_r, ordV_ii, ordV_ss, idxV_t, idxV_r, idxV_s, slV_t, slV_r, slV_s, biV_len_s, biV_len_t, biV_len_r, biV_sum_t, biV_sum_r, biV_any_t, biV_any_r, biV_all_t, biV_all_r, biV_abs, biV_min, biV_max, biV_int_i, biV_int_b, biV_int_s, biV_str, biV_tuple_t, biV_tuple_r, biV_list_t, biV_list_r, mtV_join_t, mtV_join_r, mtV_count, mtO_join, mtO_count, itV_t, itV_r, itV_s, rng1V_i, rng2V_i, fmtV_s, fmtV_i, flatD_n, flatD_b, flatD_i, flatD_s, opV_Add, opV_Sub, opV_Mult, opV_FloorDiv, opV_Mod, opV_Pow, cmpV_Eq, cmpV_NotEq, cmpV_Is, cmpV_IsNot, cmpV_In, cmpV_NotIn, cmpV_Lt, cmpV_LtE, cmpV_Gt, cmpV_GtE, wqP_v, wqP_t, wqP_r, wqPs_n, wqPs_c, eqV_ii, eqV_ss, eqV_bb, isV_n, isV_bb, isNon, inV_ss, ownB, Bool.true_or, Bool.false_or, Bool.or_false, Bool.not_false, Bool.not_true, Nat.reduceBEq, Bool.or_self, Bool.or_true, tab2_q, List.getElem?_cons_zero, List.getElem?_cons_succ, List.set_cons_zero, List.set_cons_succ, Option.some.injEq, exists_eq_left', exists_eq_left, Option.map_some, Bool.false_xor, Bool.true_xor, put_same, put_put, Ob.lst.injEq, D.int.injEq, D.bl.injEq, D.str.injEq, D.tup.injEq, D.ref.injEq, seqD_t, seqD_l, seqD_r, atI_0, atI_1, atI_2, atI_3, exists_and_left, exists_eq', and_true, true_and, decide_eq_true_eq]
          rw [hN]; exact k
        cases t with
        | true =>
          simp only [Bool.not_true, Bool.false_eq_true, if_false]
          have e := encTL_nil (ht.mp rfl)
          refine ⟨small_of (by decide) (by decide), part_loop n 0 (by omega) (fin 0 ?_)⟩
          rw [e]; simp
        | false =>
          simp only [Bool.not_false, if_true, List.map_cons, List.getElem?_cons_zero, List.getElem?_cons_succ, List.set_cons_zero, List.set_cons_succ, Option.some.injEq, exists_eq_left', exists_eq_left, Option.map_some, Bool.false_xor, Bool.true_xor, put_same, put_put, Ob.lst.injEq, D.int.injEq, D.bl.injEq, D.str.injEq, D.tup.injEq, D.ref.injEq, seqD_t, seqD_l, seqD_r, atI_0, atI_1, atI_2, atI_3, exists_and_left, exists_eq', and_true, true_and, decide_eq_true_eq]
          have hne : rowPs ps ≠ [] := fun e => by rw [e] at ht; simp at ht
          have hc3 := hc2 hne
          obtain ⟨N, rfl⟩ := Int.eq_ofNat_of_zero_le hc0
          exact ⟨small_of (by omega) (by simp at hc3; omega), part_loop n N (by simpa using hz) (fin N rfl)⟩
abbrev LpsR (n : Nat) : List (Str × Spec2) := [("fixed_row", sFixed), ("behind", sBehind), ("part_row", sPartR n)]
theorem q_parts_row (n : Nat) : ∀ ds g Q, sPartsR n ds g Q → OkS (tab2 (LpsR n)) [] ir_parts_row { nx := fun _ g' => Q .non g', rt := Q } (startD ["parts", "found", "part"] ds) g := by
  rintro ds g Q ⟨ps, m, d, b, rfl, hw, hd, hz, k⟩
  rw [show startD ["parts", "found", "part"] [.tup (encPs ps)] = [some (.tup (encPs ps)), none, none] from rfl]
  unfold ir_parts_row
  refine ok_cons (ok_asg rfl ?_)
  simp only [wqE, wqT, wqA, wqC, wqO, wqI, wqJ, addV_ii, addV_ss, addV_tt, addV_rr, subV_ii, mulV_ii, mulV_si, mulV_ti, mulV_ri, fdivV_ii, modV_ii, powV_ii, negV_i, truthV_s, truthV_n, truthV_b, truthV_i, truthV_t, truthV_r, ordV_ii, ordV_ss, idxV_t, idxV_r, idxV_s, slV_t, slV_r, slV_s, biV_len_s, biV_len_t, biV_len_r, biV_sum_t, biV_sum_r, biV_any_t, biV_any_r, biV_all_t, biV_all_r, biV_abs, biV_min, biV_max, biV_int_i, biV_int_b, biV_int_s, biV_str, biV_tuple_t, biV_tuple_r, biV_list_t, biV_list_r, mtV_join_t, mtV_join_r, mtV_count, mtO_join, mtO_count, itV_t, itV_r, itV_s, rng1V_i, rng2V_i, fmtV_s, fmtV_i, flatD_n, flatD_b, flatD_i, flatD_s, opV_Add, opV_Sub, opV_Mult, opV_FloorDiv, opV_Mod, opV_Pow, cmpV_Eq, cmpV_NotEq, cmpV_Is, cmpV_IsNot, cmpV_In, cmpV_NotIn, cmpV_Lt, cmpV_LtE, cmpV_Gt, cmpV_GtE, wqP_v, wqP_t, wqP_r, wqPs_n, wqPs_c, eqV_ii, eqV_ss, eqV_bb, isV_n, isV_bb, isNon, inV_ss, ownB, Bool.true_or, Bool.false_or, Bool.or_false, Bool.not_false, Bool.not_true, Nat.reduceBEq, Bool.or_self, Bool.or_true, tab2_q, List.getElem?_cons_zero, List.getElem?_cons_succ, List.set_cons_zero, List.set_cons_succ, Option.some.injEq, exists_eq_left', exists_eq_left, Option.map_some, Bool.false_xor, Bool.true_xor, put_same, put_put, Ob.lst.injEq, D.int.injEq, D.bl.injEq, D.str.injEq, D.tup.injEq, D.ref.injEq, seqD_t, seqD_l, seqD_r, atI_0, atI_1, atI_2, atI_3, exists_and_left, exists_eq', and_true, true_and, decide_eq_true_eq]
  refine ⟨[], rfl, ?_⟩
  unfold ir_parts_row_1
  refine ok_cons (ok_loop rfl ?_)
  simp only [wqE, wqT, wqA, wqC, wqO, wqI, wqJ, addV_ii, addV_ss, addV_tt, addV_rr, subV_ii, mulV_ii, mulV_si, mulV_ti, mulV_ri, fdivV_ii, modV_ii, powV_ii, negV_i, truthV_s, truthV_n, truthV_b, truthV_i, truthV_t, truthV_r, ordV_ii, ordV_ss, idxV_t, idxV_r, idxV_s, slV_t, slV_r, slV_s, biV_len_s, biV_len_t, biV_len_r, biV_sum_t, biV_sum_r, biV_any_t, biV_any_r, biV_all_t, biV_all_r, biV_abs, biV_min, biV_max, biV_int_i, biV_int_b, biV_int_s, biV_str, biV_tuple_t, biV_tuple_r, biV_list_t, biV_list_r, mtV_join_t, mtV_join_r, mtV_count, mtO_join, mtO_count, itV_t, itV_r, itV_s, rng1V_i, rng2V_i, fmtV_s, fmtV_i, flatD_n, flatD_b, flatD_i, flatD_s, opV_Add, opV_Sub, opV_Mult, opV_FloorDiv, opV_Mod, opV_Pow, cmpV_Eq, cmpV_NotEq, cmpV_Is, cmpV_IsNot, cmpV_In, cmpV_NotIn, cmpV_Lt, cmpV_LtE, cmpV_Gt, cmpV_GtE, wqP_v, wqP_t, wqP_r, wqPs_n, wqPs_c, eqV_ii, eqV_ss, eqV_bb, isV_n, isV_bb, isNon, inV_ss, ownB, Bool.true_or, Bool.false_or, Bool.or_false, Bool.not_false, Bool.not_true, Nat.reduceBEq, Bool.or_self, Bool.or_true, tab2_q, List.getElem?_cons_zero, List.getElem?_cons_succ, List.set_cons_zero, List.set_cons_succ, Option.some.injEq, exists_eq_left', exists_eq_left, Option.map_some, Bool.false_xor, Bool.true_xor, put_same, put_put, Ob.lst.injEq, D.int.injEq, D.bl.injEq, D.str.injEq, D.tup.injEq, D.ref.injEq, seqD_t, seqD_l, seqD_r, atI_0, atI_1, atI_2, atI_3, exists_and_left, exists_eq', and_true, true_and, decide_eq_true_eq]
  refine forV_inv (fun xs env g' => g' = g ∧ ∃ dn rs o, dn ++ rs = ps ∧ xs = encPs rs ∧ env = [some (.tup (encPs ps)), some (encTL (rowPs dn)), o]) _ _ _ ⟨rfl, [], ps, none, rfl, rfl, rfl⟩ ?_ ?_
  · rintro x r env g' N' ⟨rfl, dn, rs, o, hps, hr, rfl⟩ hN
    cases rs with
    | nil => rw [encPs] at hr; cases hr
    | cons y rs =>
      rw [encPs] at hr
      cases hr
      have e1 : rsize (rowPs ps) = rsize (rowPs dn) + (rsize (rowP y) + rsize (rowPs rs)) := by rw [← hps, rowPs_app, rsize_app, rowPs, rsize_app]
      have hy : wfP m y d b := by
        have : ∀ (xs : List Pg), wfPs m (xs ++ y :: rs) d b → wfP m y d b := fun xs => by
          induction xs with
          | nil => intro h; rw [List.nil_append, wfPs] at h; exact h.1
          | cons z zs ih => intro h; rw [List.cons_append, wfPs] at h; exact ih h.2
        exact this dn (by rw [hps]; exact hw)
      have l1 := len_rsize (rowPs dn)
      have l2 := len_rsize (rowP y)
      unfold ir_parts_row_b1
      refine ok_cons (ok_asg rfl ?_)
      simp only [wqE, wqT, wqA, wqC, wqO, wqI, wqJ, addV_ii, addV_ss, addV_tt, addV_rr, subV_ii, mulV_ii, mulV_si, mulV_ti, mulV_ri, fdivV_ii, modV_ii, powV_ii, negV_i, truthV_s, truthV_n, truthV_b, truthV_i, truthV_t, truthV_r, ordV_ii, ordV_ss, idxV_t, idxV_r, idxV_s, slV_t, slV_r, slV_s, biV_len_s, biV_len_t, biV_len_r, biV_sum_t, biV_sum_r, biV_any_t, biV_any_r, biV_all_t, biV_all_r, biV_abs, biV_min, biV_max, biV_int_i, biV_int_b, biV_int_s, biV_str, biV_tuple_t, biV_tuple_r, biV_list_t, biV_list_r, mtV_join_t, mtV_join_r, mtV_count, mtO_join, mtO_count, itV_t, itV_r, itV_s, rng1V_i, rng2V_i, fmtV_s, fmtV_i, flatD_n, flatD_b, flatD_i, flatD_s, opV_Add, opV_Sub, opV_Mult, opV_FloorDiv, opV_Mod, opV_Pow, cmpV_Eq, cmpV_NotEq, cmpV_Is, cmpV_IsNot, cmpV_In, cmpV_NotIn, cmpV_Lt, cmpV_LtE, cmpV_Gt, cmpV_GtE, wqP_v, wqP_t, wqP_r, wqPs_n, wqPs_c, eqV_ii, eqV_ss, eqV_bb, isV_n, isV_bb, isNon, inV_ss, ownB, Bool.true_or, Bool.false_or, Bool.or_false, Bool.not_false, Bool.not_true, Nat.reduceBEq, Bool.or_self, Bool.or_true, tab2_q, List.getElem?_cons_zero, List.getElem?_cons_succ, List.set_cons_zero, List.set_cons_succ, Option.some.injEq, exists_eq_left', exists_eq_left, Option.map_some, Bool.false_xor, Bool.true_xor, put_same, put_put, Ob.lst.injEq, D.int.injEq, D.bl.injEq, D.str.injEq, D.tup.injEq, D.ref.injEq, seqD_t, seqD_l, seqD_r, atI_0, atI_1, atI_2, atI_3, exists_and_left, exists_eq', and_true, true_and, decide_eq_true_eq]
      refine ⟨y, m, d, b, rfl, hy, hd, by omega, _, _, rfl, by omega, ?_⟩
      refine ok_nil (hN _ _ ⟨rfl, dn ++ [y], rs, some (encP y), by rw [← hps]; simp, rfl, ?_⟩)
      rw [rowPs_app]
      simp [rowPs]
  · rintro env g' ⟨rfl, dn, rs, o, hps, hr, rfl⟩
    cases rs with
    | cons y rs => rw [encPs] at hr; cases hr
    | nil =>
      rw [List.append_nil] at hps
      subst hps
      unfold ir_parts_row_2
      refine ok_cons (ok_ret ?_)
      simp only [wqE, wqT, wqA, wqC, wqO, wqI, wqJ, addV_ii, addV_ss, addV_tt, addV_rr, subV_ii, mulV_ii, mulV_si, mulV_ti, mulV_ri, fdivV_ii, modV_ii, powV_ii, negV_i, truthV_s, truthV_n, truthV_b, truthV_i, truthV_t, truthV_r, ordV_ii, ordV_ss, idxV_t, idxV_r, idxV_s, slV_t, slV_r, slV_s, biV_len_s, biV_len_t, biV_len_r, biV_sum_t, biV_sum_r, biV_any_t, biV_any_r, biV_all_t, biV_all_r, biV_abs, biV_min, biV_max, biV_int_i, biV_int_b, biV_int_s, biV_str, biV_tuple_t, biV_tuple_r, biV_list_t, biV_list_r, mtV_join_t, mtV_join_r, mtV_count, mtO_join, mtO_count, itV_t, itV_r, itV_s, rng1V_i, rng2V_i, fmtV_s, fmtV_i, flatD_n, flatD_b, flatD_i, flatD_s, opV_Add, opV_Sub, opV_Mult, opV_FloorDiv, opV_Mod, opV_Pow, cmpV_Eq, cmpV_NotEq, cmpV_Is, cmpV_IsNot, cmpV_In, cmpV_NotIn, cmpV_Lt, cmpV_LtE, cmpV_Gt, cmpV_GtE, wqP_v, wqP_t, wqP_r, wqPs_n, wqPs_c, eqV_ii, eqV_ss, eqV_bb, isV_n, isV_bb, isNon, inV_ss, ownB, Bool.true_or, Bool.false_or, Bool.or_false, Bool.not_false, Bool.not_true, Nat.reduceBEq, Bool.or_self, Bool.or_true, tab2_q, List.getElem?_cons_zero, List.getElem?_cons_succ, List.set_cons_zero, List.set_cons_succ, Option.some.injEq, exists_eq_left', exists_eq_left, Option.map_some, Bool.false_xor, Bool.true_xor, put_same, put_put, Ob.lst.injEq, D.int.injEq, D.bl.injEq, D.str.injEq, D.tup.injEq, D.ref.injEq, seqD_t, seqD_l, seqD_r, atI_0, atI_1, atI_2, atI_3, exists_and_left, exists_eq', and_true, true_and, decide_eq_true_eq]
      exact k
def sFlat : Spec2 := fun ds g Q => ∃ (ps : List Pg) (m d : Nat), ds = [encPg m ps] ∧ wfPs m ps d true ∧ d < 4 ∧ rsize (rowPs ps) ≤ 15000000 ∧ Q (encRw m (rowPs ps)) g
theorem q_flat : ∀ ds g Q, sFlat ds g Q → OkS (tab2 [("parts_row", sPartsR 4)]) [] ir_flat { nx := fun _ g' => Q .non g', rt := Q } (startD ["program", "texts", "loops"] ds) g := by
  rintro ds g Q ⟨ps, m, d, rfl, hw, hd, hz, k⟩
  rw [show startD ["program", "texts", "loops"] [encPg m ps] = [some (encPg m ps), none, none] from rfl]
  unfold ir_flat
  refine ok_cons (ok_asg rfl ?_)
  simp only [encPg, wqE, wqT, wqA, wqC, wqO, wqI, wqJ, addV_ii, addV_ss, addV_tt, addV_rr, subV_ii, mulV_ii, mulV_si, mulV_ti, mulV_ri, fdivV_ii, modV_ii, powV_ii, negV_i, truthV_s, truthV_n, truthV_b, truthV_i, truthV_t, truthV_r, ordV_ii, ordV_ss, idxV_t, idxV_r, idxV_s, slV_t, slV_r, slV_s, biV_len_s, biV_len_t, biV_len_r, biV_sum_t, biV_sum_r, biV_any_t, biV_any_r, biV_all_t, biV_all_r, biV_abs, biV_min, biV_max, biV_int_i, biV_int_b, biV_int_s, biV_str, biV_tuple_t, biV_tuple_r, biV_list_t, biV_list_r, mtV_join_t, mtV_join_r, mtV_count, mtO_join, mtO_count, itV_t, itV_r, itV_s, rng1V_i, rng2V_i, fmtV_s, fmtV_i, flatD_n, flatD_b, flatD_i, flatD_s, opV_Add, opV_Sub, opV_Mult, opV_FloorDiv, opV_Mod, opV_Pow, cmpV_Eq, cmpV_NotEq, cmpV_Is, cmpV_IsNot, cmpV_In, cmpV_NotIn, cmpV_Lt, cmpV_LtE, cmpV_Gt, cmpV_GtE, wqP_v, wqP_t, wqP_r, wqPs_n, wqPs_c, eqV_ii, eqV_ss, eqV_bb, isV_n, isV_bb, isNon, inV_ss, ownB, Bool.true_or, Bool.false_or, Bool.or_false, Bool.not_false, Bool.not_true, Nat.reduceBEq, Bool.or_self, Bool.or_true, tab2_q, List.getElem?_cons_zero, List.getElem?_cons_succ, List.set_cons_zero, List.set_cons_succ, Option.some.injEq, exists_eq_left', exists_eq_left, Option.map_some, Bool.false_xor, Bool.true_xor, put_same, put_put, Ob.lst.injEq, D.int.injEq, D.bl.injEq, D.str.injEq, D.tup.injEq, D.ref.injEq, seqD_t, seqD_l, seqD_r, atI_0, atI_1, atI_2, atI_3, exists_and_left, exists_eq', and_true, true_and, decide_eq_true_eq]
  refine ⟨ps, m, d, true, rfl, hw, hd, hz, ?_⟩
  simp only [encTL, wqE, wqT, wqA, wqC, wqO, wqI, wqJ, addV_ii, addV_ss, addV_tt, addV_rr, subV_ii, mulV_ii, mulV_si, mulV_ti, mulV_ri, fdivV_ii, modV_ii, powV_ii, negV_i, truthV_s, truthV_n, truthV_b, truthV_i, truthV_t, truthV_r, ordV_ii, ordV_ss, idxV_t, idxV_r, idxV_s, slV_t, slV_r, slV_s, biV_len_s, biV_len_t, biV_len_r, biV_sum_t, biV_sum_r, biV_any_t, biV_any_r, biV_all_t, biV_all_r, biV_abs, biV_min, biV_max, biV_int_i, biV_int_b, biV_int_s, biV_str, biV_tuple_t, biV_tuple_r, biV_list_t, biV_list_r, mtV_join_t, mtV_join_r, mtV_count, mtO_join, mtO_count, itV_t, itV_r, itV_s, rng1V_i, rng2V_i, fmtV_s, fmtV_i, flatD_n, flatD_b, flatD_i, flatD_s, opV_Add, opV_Sub, opV_Mult, opV_FloorDiv, opV_Mod, opV_Pow, cmpV_Eq, cmpV_NotEq, cmpV_Is, cmpV_IsNot, cmpV_In, cmpV_NotIn, cmpV_Lt, cmpV_LtE, cmpV_Gt, cmpV_GtE, wqP_v, wqP_t, wqP_r, wqPs_n, wqPs_c, eqV_ii, eqV_ss, eqV_bb, isV_n, isV_bb, isNon, inV_ss, ownB, Bool.true_or, Bool.false_or, Bool.or_false, Bool.not_false, Bool.not_true, Nat.reduceBEq, Bool.or_self, Bool.or_true, tab2_q, List.getElem?_cons_zero, List.getElem?_cons_succ, List.set_cons_zero, List.set_cons_succ, Option.some.injEq, exists_eq_left', exists_eq_left, Option.map_some, Bool.false_xor, Bool.true_xor, put_same, put_put, Ob.lst.injEq, D.int.injEq, D.bl.injEq, D.str.injEq, D.tup.injEq, D.ref.injEq, seqD_t, seqD_l, seqD_r, atI_0, atI_1, atI_2, atI_3, exists_and_left, exists_eq', and_true, true_and, decide_eq_true_eq]
  unfold ir_flat_1
  refine ok_cons (ok_ret ?_)
  simp only [wqE, wqT, wqA, wqC, wqO, wqI, wqJ, addV_ii, addV_ss, addV_tt, addV_rr, subV_ii, mulV_ii, mulV_si, mulV_ti, mulV_ri, fdivV_ii, modV_ii, powV_ii, negV_i, truthV_s, truthV_n, truthV_b, truthV_i, truthV_t, truthV_r, ordV_ii, ordV_ss, idxV_t, idxV_r, idxV_s, slV_t, slV_r, slV_s, biV_len_s, biV_len_t, biV_len_r, biV_sum_t, biV_sum_r, biV_any_t, biV_any_r, biV_all_t, biV_all_r, biV_abs, biV_min, biV_max, biV_int_i, biV_int_b, biV_int_s, biV_str, biV_tuple_t, biV_tuple_r, biV_list_t, biV_list_r, mtV_join_t, mtV_join_r, mtV_count, mtO_join, mtO_count, itV_t, itV_r, itV_s, rng1V_i, rng2V_i, fmtV_s, fmtV_i, flatD_n, flatD_b, flatD_i, flatD_s, opV_Add, opV_Sub, opV_Mult, opV_FloorDiv, opV_Mod, opV_Pow, cmpV_Eq, cmpV_NotEq, cmpV_Is, cmpV_IsNot, cmpV_In, cmpV_NotIn, cmpV_Lt, cmpV_LtE, cmpV_Gt, cmpV_GtE, wqP_v, wqP_t, wqP_r, wqPs_n, wqPs_c, eqV_ii, eqV_ss, eqV_bb, isV_n, isV_bb, isNon, inV_ss, ownB, Bool.true_or, Bool.false_or, Bool.or_false, Bool.not_false, Bool.not_true, Nat.reduceBEq, Bool.or_self, Bool.or_true, tab2_q, List.getElem?_cons_zero, List.getElem?_cons_succ, List.set_cons_zero, List.set_cons_succ, Option.some.injEq, exists_eq_left', exists_eq_left, Option.map_some, Bool.false_xor, Bool.true_xor, put_same, put_put, Ob.lst.injEq, D.int.injEq, D.bl.injEq, D.str.injEq, D.tup.injEq, D.ref.injEq, seqD_t, seqD_l, seqD_r, atI_0, atI_1, atI_2, atI_3, exists_and_left, exists_eq', and_true, true_and, decide_eq_true_eq]
  exact ⟨by simp, k⟩
end G57
set_option Elab.async false
set_option linter.all false
set_option maxRecDepth 100000
set_option maxHeartbeats 800000
namespace G57
open PySem L2
/-! values, runs, letters -/
def wB (xs : List Int) : Prop := ∀ x ∈ xs, x.natAbs < 2 ^ 4000
theorem cmul_B {i j : Int} (hi : i.natAbs < 2 ^ 10000) (hj : j.natAbs < 2 ^ 10000) : CMulW i j := wide_mul hi hj (by decide) (by decide) (by decide)
theorem lt_B {i : Nat} {n m : Nat} (h : i < 2 ^ n) (hn : n ≤ m) : i < 2 ^ m := Nat.lt_of_lt_of_le h (Nat.pow_le_pow_right (by decide) hn)
def sVal : Spec2 := fun ds g Q => ∃ f ns : List Int, ds = [.tup (f.map .int), .tup (ns.map .int)] ∧ f ≠ [] ∧ wB f ∧ wB ns ∧ ns.length ≤ 16777216 ∧ Q (.int (valF f ns)) g
theorem q_val (N : List Str) (h4 : N.length = 4) : ∀ ds g Q, sVal ds g Q → OkS (tab2 []) [] ir_value_of { nx := fun _ g' => Q .non g', rt := Q } (startD N ds) g := by
  rintro ds g Q ⟨f, ns, rfl, hne, hf, hn, hl, k⟩
  obtain ⟨c, r, rfl⟩ : ∃ c r, f = c :: r := by
    cases f with
    | nil => exact absurd rfl hne
    | cons c r => exact ⟨c, r, rfl⟩
  rw [show startD N [.tup ((c :: r).map .int), .tup (ns.map .int)] = [some (.tup ((c :: r).map .int)), some (.tup (ns.map .int)), none, none] from by unfold startD; rw [h4]; rfl]
  unfold ir_value_of
  refine ok_cons (ok_ret ?_)
  simp only [List.map_cons, wqE, wqT, wqA, wqC, wqO, wqI, wqJ, addV_ii, addV_ss, addV_tt, addV_rr, subV_ii, mulV_ii, mulV_si, mulV_ti, mulV_ri, fdivV_ii, modV_ii, powV_ii, negV_i, truthV_s, truthV_n, truthV_b, truthV_i, truthV_t, truthV_r, ordV_ii, ordV_ss, idxV_t, idxV_r, idxV_s, slV_t, slV_r, slV_s, biV_len_s, biV_len_t, biV_len_r, biV_sum_t, biV_sum_r, biV_any_t, biV_any_r, biV_all_t, biV_all_r, biV_abs, biV_min, biV_max, biV_int_i, biV_int_b, biV_int_s, biV_str, biV_tuple_t, biV_tuple_r, biV_list_t, biV_list_r, mtV_join_t, mtV_join_r, mtV_count, mtO_join, mtO_count, itV_t, itV_r, itV_s, rng1V_i, rng2V_i, fmtV_s, fmtV_i, flatD_n, flatD_b, flatD_i, flatD_s, opV_Add, opV_Sub, opV_Mult, opV_FloorDiv, opV_Mod, opV_Pow, cmpV_Eq, cmpV_NotEq, cmpV_Is, cmpV_IsNot, cmpV_In, cmpV_NotIn, cmpV_Lt, cmpV_LtE, cmpV_Gt, cmpV_GtE, wqP_v, wqP_t, wqP_r, wqPs_n, wqPs_c, eqV_ii, eqV_ss, eqV_bb, isV_n, isV_bb, isNon, inV_ss, ownB, Bool.true_or, Bool.false_or, Bool.or_false, Bool.not_false, Bool.not_true, Nat.reduceBEq, Bool.or_self, Bool.or_true, tab2_q, List.getElem?_cons_zero, List.getElem?_cons_succ, List.set_cons_zero, List.set_cons_succ, Option.some.injEq, exists_eq_left', exists_eq_left, Option.map_some, Bool.false_xor, Bool.true_xor, put_same, put_put, Ob.lst.injEq, D.int.injEq, D.bl.injEq, D.str.injEq, D.tup.injEq, D.ref.injEq, seqD_t, seqD_l, seqD_r, atI_0, atI_1, atI_2, atI_3, exists_and_left, exists_eq', and_true, true_and, decide_eq_true_eq, cut_1m]
  rw [zip_ii]
  refine lcV_map encII (fun y => .int (y.1 * y.2)) _ (by simp; omega) (fun y hy kk hk => ?_) ?_
  · obtain ⟨u, v⟩ := y
    have h1 := List.of_mem_zip hy
    simp only [encII, wipeD, wqE, wqT, wqA, wqC, wqO, wqI, wqJ, addV_ii, addV_ss, addV_tt, addV_rr, subV_ii, mulV_ii, mulV_si, mulV_ti, mulV_ri, fdivV_ii, modV_ii, powV_ii, negV_i, truthV_s, truthV_n, truthV_b, truthV_i, truthV_t, truthV_r, ordV_ii, ordV_ss, idxV_t, idxV_r, idxV_s, slV_t, slV_r, slV_s, biV_len_s, biV_len_t, biV_len_r, biV_sum_t, biV_sum_r, biV_any_t, biV_any_r, biV_all_t, biV_all_r, biV_abs, biV_min, biV_max, biV_int_i, biV_int_b, biV_int_s, biV_str, biV_tuple_t, biV_tuple_r, biV_list_t, biV_list_r, mtV_join_t, mtV_join_r, mtV_count, mtO_join, mtO_count, itV_t, itV_r, itV_s, rng1V_i, rng2V_i, fmtV_s, fmtV_i, flatD_n, flatD_b, flatD_i, flatD_s, opV_Add, opV_Sub, opV_Mult, opV_FloorDiv, opV_Mod, opV_Pow, cmpV_Eq, cmpV_NotEq, cmpV_Is, cmpV_IsNot, cmpV_In, cmpV_NotIn, cmpV_Lt, cmpV_LtE, cmpV_Gt, cmpV_GtE, wqP_v, wqP_t, wqP_r, wqPs_n, wqPs_c, eqV_ii, eqV_ss, eqV_bb, isV_n, isV_bb, isNon, inV_ss, ownB, Bool.true_or, Bool.false_or, Bool.or_false, Bool.not_false, Bool.not_true, Nat.reduceBEq, Bool.or_self, Bool.or_true, tab2_q, List.getElem?_cons_zero, List.getElem?_cons_succ, List.set_cons_zero, List.set_cons_succ, Option.some.injEq, exists_eq_left', exists_eq_left, Option.map_some, Bool.false_xor, Bool.true_xor, put_same, put_put, Ob.lst.injEq, D.int.injEq, D.bl.injEq, D.str.injEq, D.tup.injEq, D.ref.injEq, seqD_t, seqD_l, seqD_r, atI_0, atI_1, atI_2, atI_3, exists_and_left, exists_eq', and_true, true_and, decide_eq_true_eq, if_true]
    exact ⟨cmul_B (lt_B (hf u (by simp [h1.1])) (by decide)) (lt_B (hn v h1.2) (by decide)), hk⟩
  · refine ⟨_, by rw [show (fun y : Int × Int => D.int (y.1 * y.2)) = D.int ∘ (fun y => y.1 * y.2) from rfl, ← List.map_map]; exact intsF_map _, ?_⟩
    unfold valF at k
    rw [List.headD_cons, List.tail_cons, dot_zip] at k
    exact k
theorem q_value_of : ∀ ds g Q, sVal ds g Q → OkS (tab2 []) [] ir_value_of { nx := fun _ g' => Q .non g', rt := Q } (startD ["form", "counts", "factor", "count"] ds) g := q_val _ rfl
theorem q_l_number : ∀ ds g Q, sVal ds g Q → OkS (tab2 []) [] ir_l_number { nx := fun _ g' => Q .non g', rt := Q } (startD ["_law_shape", "_law_numbers_here", "_law_a", "_law_b"] ds) g := q_val _ rfl
/-! runs -/
abbrev Run := List Nat × Int
def encRun (x : Run) : D := .tup [.str x.1, .int x.2]
def runT (x : Run) : List Nat := (List.replicate x.2.toNat x.1).flatten
def txtR : List Run → List Nat
  | [] => []
  | x :: xs => runT x ++ txtR xs
def itTx (ns : List Int) : It → List Nat
  | .inl c => [c]
  | .inr l => runT (l.1, valF l.2 ns)
def rowT (ns : List Int) : List It → List Nat
  | [] => []
  | x :: r => itTx ns x ++ rowT ns r
def tailRuns (ns : List Int) : List (List Nat) → List Lp → List Run
  | t :: ts, l :: ls => (l.1, valF l.2 ns) :: (t, 1) :: tailRuns ns ts ls
  | _, _ => []
def allRuns (ns : List Int) (r : List It) : List Run := ((txs r).1, 1) :: tailRuns ns (txs r).2 (lps r)
theorem runT_1 (w : List Nat) : runT (w, 1) = w := by simp [runT]
theorem txt_all (ns : List Int) : ∀ r : List It, txtR (allRuns ns r) = rowT ns r
  | [] => by simp [allRuns, txtR, tailRuns, txs, runT, rowT]
  | .inl c :: r => by
    have ih := txt_all ns r
    simp only [allRuns, txtR, runT_1, txs, lps, rowT, itTx] at ih ⊢
    rw [List.cons_append, ih]; rfl
  | .inr l :: r => by
    have ih := txt_all ns r
    simp only [allRuns, txtR, runT_1, txs, lps, rowT, itTx, tailRuns] at ih ⊢
    rw [ih]; rfl
def keepB (x : Run) : Bool := decide (x.1 ≠ []) && decide (0 < x.2)
theorem txt_filter : ∀ rs : List Run, txtR (rs.filter keepB) = txtR rs
  | [] => rfl
  | x :: rs => by
    rw [List.filter_cons]
    split
    · rw [txtR, txtR, txt_filter rs]
    · rename_i h
      have : runT x = [] := by
        obtain ⟨w, n⟩ := x
        simp only [keepB, Bool.and_eq_true, decide_eq_true_eq, not_and, Decidable.not_not, Int.not_lt] at h
        unfold runT
        by_cases hw : w = []
        · simp [hw]
        · have := h hw
          simp [Int.toNat_of_nonpos this]
      rw [txtR, txt_filter rs, this, List.nil_append]
def runsOf (ns : List Int) (r : List It) : List Run := (allRuns ns r).filter keepB
theorem txt_runs (ns : List Int) (r : List It) : txtR (runsOf ns r) = rowT ns r := by unfold runsOf; rw [txt_filter, txt_all]
/-- what a row may be, for its runs -/
structure OkR (m : Nat) (r : List It) : Prop where
  sz : rsize r ≤ 5000000
  fm : ∀ l ∈ lps r, l.2.length = m + 1 ∧ wB l.2
  ne : ∀ l ∈ lps r, l.1 ≠ []
  low : lowR r
/- runs_of : top 10, names ['row', 'counts', 'k', 'texts', 'loops', 'found', 'text', 'word', 'form', 'run'], calls ['value_of'], built-ins ['zip', 'tuple'], constants [] -/
def ir_runs_of_b1_1 : Sx := .cons (.ex (.mt .append (.var 5) (.cons (.tup (.cons (.var 6) (.cons (.con (.int 1)) (.nil)))) (.nil)))) .nil
def ir_runs_of_b1 : Sx := .cons (.ex (.mt .append (.var 5) (.cons (.tup (.cons (.var 7) (.cons (.call 0 (.cons (.var 8) (.cons (.var 1) (.nil)))) (.nil)))) (.nil)))) ir_runs_of_b1_1
def ir_runs_of_3 : Sx := .cons (.ret (.bi .tuple (.cons (.lc [9] (.v 9) (.iE (.var 5)) (.cons (.and (.cmp .NotEq (.idx (.var 9) (.con (.int 0))) (.con (.str []))) (.cmp .Gt (.idx (.var 9) (.con (.int 1))) (.con (.int 0)))) .nil) (.var 9)) (.nil)))) .nil
def ir_runs_of_2 : Sx := .cons (.loop (.t (.cons (.v 6) (.cons (.t (.cons (.v 7) (.cons (.v 8) (.nil)))) (.nil)))) (.iZ (.sl (.var 3) (.cons (.con (.int 1)) .nil) (.nil)) (.var 4)) (ir_runs_of_b1)) ir_runs_of_3
def ir_runs_of_1 : Sx := .cons (.asg (.v 5) (.lst (.cons (.tup (.cons (.idx (.var 3) (.con (.int 0))) (.cons (.con (.int 1)) (.nil)))) (.nil)))) ir_runs_of_2
def ir_runs_of : Sx := .cons (.asg (.t (.cons (.v 2) (.cons (.v 3) (.cons (.v 4) (.nil))))) (.var 0)) ir_runs_of_1
/- letter_of : top 11, names ['runs', 'place', 'left', 'word', 'many'], calls [], built-ins ['len'], constants [] -/
def ir_letter_of_b2 : Sx := .cons (.ret (.idx (.var 3) (.bin .Mod (.var 2) (.bi .len (.cons (.var 3) (.nil)))))) .nil
def ir_letter_of_b1_1 : Sx := .cons (.asg (.v 2) (.bin .Sub (.var 2) (.bin .Mult (.bi .len (.cons (.var 3) (.nil))) (.var 4)))) .nil
def ir_letter_of_b1 : Sx := .cons (.iff (.cmp .Lt (.var 2) (.bin .Mult (.bi .len (.cons (.var 3) (.nil))) (.var 4))) (ir_letter_of_b2) (.nil)) ir_letter_of_b1_1
def ir_letter_of_2 : Sx := .cons (.ret (.con .non)) .nil
def ir_letter_of_1 : Sx := .cons (.loop (.t (.cons (.v 3) (.cons (.v 4) (.nil)))) (.iE (.var 0)) (ir_letter_of_b1)) ir_letter_of_2
def ir_letter_of : Sx := .cons (.asg (.v 2) (.var 1)) ir_letter_of_1
/- letter_at : top 13, names ['program', 'counts', 'place'], calls ['letter_of', 'runs_of', 'flat'], built-ins [], constants [] -/
def ir_letter_at : Sx := .cons (.ret (.call 0 (.cons (.call 1 (.cons (.call 2 (.cons (.var 0) (.nil))) (.cons (.var 1) (.nil)))) (.cons (.var 2) (.nil))))) .nil
theorem zip_tl : ∀ (ts : List (List Nat)) (ls : List Lp), zipD (ts.map .str) (ls.map encLp) = (ts.zip ls).map fun y => .tup [.str y.1, encLp y.2]
  | [], _ => by simp [zipD]
  | t :: ts, [] => by simp [zipD]
  | t :: ts, l :: ls => by simp [zipD, zip_tl ts ls]
theorem tail_zip (ns : List Int) : ∀ (ts : List (List Nat)) (ls : List Lp), tailRuns ns ts ls = ((ts.zip ls).map fun y => [(y.2.1, valF y.2.2 ns), (y.1, 1)]).flatten
  | [], _ => by simp [tailRuns]
  | t :: ts, [] => by simp [tailRuns]
  | t :: ts, l :: ls => by simp [tailRuns, tail_zip ns ts ls]
theorem fm_filter {α β : Type} (p : α → Bool) (f : α → β) (xs : List α) : xs.filterMap (fun x => if p x = true then some (f x) else none) = (xs.filter p).map f := by
  induction xs with
  | nil => rfl
  | cons x xs ih => cases h : p x <;> simp [h, ih]
def sRuns : Spec2 := fun ds g Q => ∃ (m : Nat) (r : List It) (ns : List Int), ds = [encRw m r, .tup (ns.map .int)] ∧ OkR m r ∧ wB ns ∧ ns.length ≤ 16777216 ∧ Q (.tup ((runsOf ns r).map encRun)) g
theorem q_runs_of : ∀ ds g Q, sRuns ds g Q → OkS (tab2 [("value_of", sVal)]) [5] ir_runs_of { nx := fun _ g' => Q .non g', rt := Q } (startD ["row", "counts", "k", "texts", "loops", "found", "text", "word", "form", "run"] ds) g := by
  rintro ds g Q ⟨m, r, ns, rfl, ok, hn, hnl, k⟩
  rw [show startD ["row", "counts", "k", "texts", "loops", "found", "text", "word", "form", "run"] [encRw m r, .tup (ns.map .int)] = [some (encRw m r), some (.tup (ns.map .int)), none, none, none, none, none, none, none, none] from rfl]
  have ll := txl_le r
  have lp := lps_le r
  have lr := len_rsize r
  have sz := ok.sz
  unfold ir_runs_of
  refine ok_cons (ok_asg rfl ?_)
  simp only [encRw, wqE, wqT, wqA, wqC, wqO, wqI, wqJ, addV_ii, addV_ss, addV_tt, addV_rr, subV_ii, mulV_ii, mulV_si, mulV_ti, mulV_ri, fdivV_ii, modV_ii, powV_ii, negV_i, truthV_s, truthV_n, truthV_b, truthV_i, truthV_t, truthV_r, ordV_ii, ordV_ss, idxV_t, idxV_r, idxV_s, slV_t, slV_r, slV_s, biV_len_s, biV_len_t, biV_len_r, biV_sum_t, biV_sum_r, biV_any_t, biV_any_r, biV_all_t, biV_all_r, biV_abs, biV_min, biV_max, biV_int_i, biV_int_b, biV_int_s, biV_str, biV_tuple_t, biV_tuple_r, biV_list_t, biV_list_r, mtV_join_t, mtV_join_r, mtV_count, mtO_join, mtO_count, itV_t, itV_r, itV_s, rng1V_i, rng2V_i, fmtV_s, fmtV_i, flatD_n, flatD_b, flatD_i, flatD_s, opV_Add, opV_Sub, opV_Mult, opV_FloorDiv, opV_Mod, opV_Pow, cmpV_Eq, cmpV_NotEq, cmpV_Is, cmpV_IsNot, cmpV_In, cmpV_NotIn, cmpV_Lt, cmpV_LtE, cmpV_Gt, cmpV_GtE, wqP_v, wqP_t, wqP_r, wqPs_n, wqPs_c, eqV_ii, eqV_ss, eqV_bb, isV_n, isV_bb, isNon, inV_ss, ownB, Bool.true_or, Bool.false_or, Bool.or_false, Bool.not_false, Bool.not_true, Nat.reduceBEq, Bool.or_self, Bool.or_true, tab2_q, List.getElem?_cons_zero, List.getElem?_cons_succ, List.set_cons_zero, List.set_cons_succ, Option.some.injEq, exists_eq_left', exists_eq_left, Option.map_some, Bool.false_xor, Bool.true_xor, put_same, put_put, Ob.lst.injEq, D.int.injEq, D.bl.injEq, D.str.injEq, D.tup.injEq, D.ref.injEq, seqD_t, seqD_l, seqD_r, atI_0, atI_1, atI_2, atI_3, exists_and_left, exists_eq', and_true, true_and, decide_eq_true_eq]
  unfold ir_runs_of_1
  refine ok_cons (ok_asgO rfl rfl ?_)
  simp only [encTx, txl, List.map_cons, wqE, wqT, wqA, wqC, wqO, wqI, wqJ, addV_ii, addV_ss, addV_tt, addV_rr, subV_ii, mulV_ii, mulV_si, mulV_ti, mulV_ri, fdivV_ii, modV_ii, powV_ii, negV_i, truthV_s, truthV_n, truthV_b, truthV_i, truthV_t, truthV_r, ordV_ii, ordV_ss, idxV_t, idxV_r, idxV_s, slV_t, slV_r, slV_s, biV_len_s, biV_len_t, biV_len_r, biV_sum_t, biV_sum_r, biV_any_t, biV_any_r, biV_all_t, biV_all_r, biV_abs, biV_min, biV_max, biV_int_i, biV_int_b, biV_int_s, biV_str, biV_tuple_t, biV_tuple_r, biV_list_t, biV_list_r, mtV_join_t, mtV_join_r, mtV_count, mtO_join, mtO_count, itV_t, itV_r, itV_s, rng1V_i, rng2V_i, fmtV_s, fmtV_i, flatD_n, flatD_b, flatD_i, flatD_s, opV_Add, opV_Sub, opV_Mult, opV_FloorDiv, opV_Mod, opV_Pow, cmpV_Eq, cmpV_NotEq, cmpV_Is, cmpV_IsNot, cmpV_In, cmpV_NotIn, cmpV_Lt, cmpV_LtE, cmpV_Gt, cmpV_GtE, wqP_v, wqP_t, wqP_r, wqPs_n, wqPs_c, eqV_ii, eqV_ss, eqV_bb, isV_n, isV_bb, isNon, inV_ss, ownB, Bool.true_or, Bool.false_or, Bool.or_false, Bool.not_false, Bool.not_true, Nat.reduceBEq, Bool.or_self, Bool.or_true, tab2_q, List.getElem?_cons_zero, List.getElem?_cons_succ, List.set_cons_zero, List.set_cons_succ, Option.some.injEq, exists_eq_left', exists_eq_left, Option.map_some, Bool.false_xor, Bool.true_xor, put_same, put_put, Ob.lst.injEq, D.int.injEq, D.bl.injEq, D.str.injEq, D.tup.injEq, D.ref.injEq, seqD_t, seqD_l, seqD_r, atI_0, atI_1, atI_2, atI_3, exists_and_left, exists_eq', and_true, true_and, decide_eq_true_eq]
  refine ⟨by simp, by simp, _, rfl, ?_⟩
  unfold ir_runs_of_2
  refine ok_cons (ok_loop rfl ?_)
  simp only [encTx, encLs, txl, List.map_cons, wqE, wqT, wqA, wqC, wqO, wqI, wqJ, addV_ii, addV_ss, addV_tt, addV_rr, subV_ii, mulV_ii, mulV_si, mulV_ti, mulV_ri, fdivV_ii, modV_ii, powV_ii, negV_i, truthV_s, truthV_n, truthV_b, truthV_i, truthV_t, truthV_r, ordV_ii, ordV_ss, idxV_t, idxV_r, idxV_s, slV_t, slV_r, slV_s, biV_len_s, biV_len_t, biV_len_r, biV_sum_t, biV_sum_r, biV_any_t, biV_any_r, biV_all_t, biV_all_r, biV_abs, biV_min, biV_max, biV_int_i, biV_int_b, biV_int_s, biV_str, biV_tuple_t, biV_tuple_r, biV_list_t, biV_list_r, mtV_join_t, mtV_join_r, mtV_count, mtO_join, mtO_count, itV_t, itV_r, itV_s, rng1V_i, rng2V_i, fmtV_s, fmtV_i, flatD_n, flatD_b, flatD_i, flatD_s, opV_Add, opV_Sub, opV_Mult, opV_FloorDiv, opV_Mod, opV_Pow, cmpV_Eq, cmpV_NotEq, cmpV_Is, cmpV_IsNot, cmpV_In, cmpV_NotIn, cmpV_Lt, cmpV_LtE, cmpV_Gt, cmpV_GtE, wqP_v, wqP_t, wqP_r, wqPs_n, wqPs_c, eqV_ii, eqV_ss, eqV_bb, isV_n, isV_bb, isNon, inV_ss, ownB, Bool.true_or, Bool.false_or, Bool.or_false, Bool.not_false, Bool.not_true, Nat.reduceBEq, Bool.or_self, Bool.or_true, tab2_q, List.getElem?_cons_zero, List.getElem?_cons_succ, List.set_cons_zero, List.set_cons_succ, Option.some.injEq, exists_eq_left', exists_eq_left, Option.map_some, Bool.false_xor, Bool.true_xor, put_same, put_put, Ob.lst.injEq, D.int.injEq, D.bl.injEq, D.str.injEq, D.tup.injEq, D.ref.injEq, seqD_t, seqD_l, seqD_r, atI_0, atI_1, atI_2, atI_3, exists_and_left, exists_eq', and_true, true_and, decide_eq_true_eq, cut_1m]
  rw [zip_tl]
  refine forV_inv (fun xs env g' => g' = g ∧ ∃ (dn rs : List (List Nat × Lp)) (o6 o7 o8 : Option D), dn ++ rs = (txs r).2.zip (lps r) ∧ xs = (rs.map fun y => .tup [.str y.1, encLp y.2]) ∧
    env = [some (encRw m r), some (.tup (ns.map .int)), some (.int m), some (encTx r), some (encLs r), some (.rol ((((txs r).1, (1 : Int)) :: (dn.map fun y => [(y.2.1, valF y.2.2 ns), (y.1, 1)]).flatten).map encRun)), o6, o7, o8, none]) _ _ _ ⟨rfl, [], _, none, none, none, rfl, rfl, rfl⟩ ?_ ?_
  · rintro x r' env g' N' ⟨rfl, dn, rs, o6, o7, o8, hps, hr, rfl⟩ hN
    cases rs with
    | nil => cases hr
    | cons y rs =>
      rw [List.map_cons] at hr
      cases hr
      have hy : y ∈ (txs r).2.zip (lps r) := by rw [← hps]; simp
      obtain ⟨hf1, hf2⟩ := ok.fm y.2 (List.of_mem_zip hy).2
      have hlen : (dn.map fun y : List Nat × Lp => [(y.2.1, valF y.2.2 ns), (y.1, (1 : Int))]).flatten.length ≤ 2 * ((txs r).2.zip (lps r)).length := by
        have : ∀ l : List (List Nat × Lp), (l.map fun y : List Nat × Lp => [(y.2.1, valF y.2.2 ns), (y.1, (1 : Int))]).flatten.length = 2 * l.length := fun l => by
          induction l with
          | nil => rfl
          | cons a l ih => simp [ih]; omega
        rw [this, ← hps, List.length_append]; omega
      have hzl : ((txs r).2.zip (lps r)).length ≤ (lps r).length := by rw [List.length_zip]; omega
      simp only [encLp, wqE, wqT, wqA, wqC, wqO, wqI, wqJ, addV_ii, addV_ss, addV_tt, addV_rr, subV_ii, mulV_ii, mulV_si, mulV_ti, mulV_ri, fdivV_ii, modV_ii, powV_ii, negV_i, truthV_s, truthV_n, truthV_b, truthV_i, truthV_t, truthV_r, ordV_ii, ordV_ss, idxV_t, idxV_r, idxV_s, slV_t, slV_r, slV_s, biV_len_s, biV_len_t, biV_len_r, biV_sum_t, biV_sum_r, biV_any_t, biV_any_r, biV_all_t, biV_all_r, biV_abs, biV_min, biV_max, biV_int_i, biV_int_b, biV_int_s, biV_str, biV_tuple_t, biV_tuple_r, biV_list_t, biV_list_r, mtV_join_t, mtV_join_r, mtV_count, mtO_join, mtO_count, itV_t, itV_r, itV_s, rng1V_i, rng2V_i, fmtV_s, fmtV_i, flatD_n, flatD_b, flatD_i, flatD_s, opV_Add, opV_Sub, opV_Mult, opV_FloorDiv, opV_Mod, opV_Pow, cmpV_Eq, cmpV_NotEq, cmpV_Is, cmpV_IsNot, cmpV_In, cmpV_NotIn, cmpV_Lt, cmpV_LtE, cmpV_Gt, cmpV_GtE, wqP_v, wqP_t, wqP_r, wqPs_n, wqPs_c, eqV_ii, eqV_ss, eqV_bb, isV_n, isV_bb, isNon, inV_ss, ownB, Bool.true_or, Bool.false_or, Bool.or_false, Bool.not_false, Bool.not_true, Nat.reduceBEq, Bool.or_self, Bool.or_true, tab2_q, List.getElem?_cons_zero, List.getElem?_cons_succ, List.set_cons_zero, List.set_cons_succ, Option.some.injEq, exists_eq_left', exists_eq_left, Option.map_some, Bool.false_xor, Bool.true_xor, put_same, put_put, Ob.lst.injEq, D.int.injEq, D.bl.injEq, D.str.injEq, D.tup.injEq, D.ref.injEq, seqD_t, seqD_l, seqD_r, atI_0, atI_1, atI_2, atI_3, exists_and_left, exists_eq', and_true, true_and, decide_eq_true_eq]
      unfold ir_runs_of_b1
      refine ok_cons (ok_app rfl _ rfl ?_)
      simp only [wqE, wqT, wqA, wqC, wqO, wqI, wqJ, addV_ii, addV_ss, addV_tt, addV_rr, subV_ii, mulV_ii, mulV_si, mulV_ti, mulV_ri, fdivV_ii, modV_ii, powV_ii, negV_i, truthV_s, truthV_n, truthV_b, truthV_i, truthV_t, truthV_r, ordV_ii, ordV_ss, idxV_t, idxV_r, idxV_s, slV_t, slV_r, slV_s, biV_len_s, biV_len_t, biV_len_r, biV_sum_t, biV_sum_r, biV_any_t, biV_any_r, biV_all_t, biV_all_r, biV_abs, biV_min, biV_max, biV_int_i, biV_int_b, biV_int_s, biV_str, biV_tuple_t, biV_tuple_r, biV_list_t, biV_list_r, mtV_join_t, mtV_join_r, mtV_count, mtO_join, mtO_count, itV_t, itV_r, itV_s, rng1V_i, rng2V_i, fmtV_s, fmtV_i, flatD_n, flatD_b, flatD_i, flatD_s, opV_Add, opV_Sub, opV_Mult, opV_FloorDiv, opV_Mod, opV_Pow, cmpV_Eq, cmpV_NotEq, cmpV_Is, cmpV_IsNot, cmpV_In, cmpV_NotIn, cmpV_Lt, cmpV_LtE, cmpV_Gt, cmpV_GtE, wqP_v, wqP_t, wqP_r, wqPs_n, wqPs_c, eqV_ii, eqV_ss, eqV_bb, isV_n, isV_bb, isNon, inV_ss, ownB, Bool.true_or, Bool.false_or, Bool.or_false, Bool.not_false, Bool.not_true, Nat.reduceBEq, Bool.or_self, Bool.or_true, tab2_q, List.getElem?_cons_zero, List.getElem?_cons_succ, List.set_cons_zero, List.set_cons_succ, Option.some.injEq, exists_eq_left', exists_eq_left, Option.map_some, Bool.false_xor, Bool.true_xor, put_same, put_put, Ob.lst.injEq, D.int.injEq, D.bl.injEq, D.str.injEq, D.tup.injEq, D.ref.injEq, seqD_t, seqD_l, seqD_r, atI_0, atI_1, atI_2, atI_3, exists_and_left, exists_eq', and_true, true_and, decide_eq_true_eq]
      refine ⟨_, _, rfl, ?_, hf2, hn, hnl, by simp, by rw [List.length_map, List.length_cons]; omega, ?_⟩
      · intro e; rw [e] at hf1; simp at hf1
      unfold ir_runs_of_b1_1
      refine ok_cons (ok_app rfl _ rfl ?_)
      simp only [wqE, wqT, wqA, wqC, wqO, wqI, wqJ, addV_ii, addV_ss, addV_tt, addV_rr, subV_ii, mulV_ii, mulV_si, mulV_ti, mulV_ri, fdivV_ii, modV_ii, powV_ii, negV_i, truthV_s, truthV_n, truthV_b, truthV_i, truthV_t, truthV_r, ordV_ii, ordV_ss, idxV_t, idxV_r, idxV_s, slV_t, slV_r, slV_s, biV_len_s, biV_len_t, biV_len_r, biV_sum_t, biV_sum_r, biV_any_t, biV_any_r, biV_all_t, biV_all_r, biV_abs, biV_min, biV_max, biV_int_i, biV_int_b, biV_int_s, biV_str, biV_tuple_t, biV_tuple_r, biV_list_t, biV_list_r, mtV_join_t, mtV_join_r, mtV_count, mtO_join, mtO_count, itV_t, itV_r, itV_s, rng1V_i, rng2V_i, fmtV_s, fmtV_i, flatD_n, flatD_b, flatD_i, flatD_s, opV_Add, opV_Sub, opV_Mult, opV_FloorDiv, opV_Mod, opV_Pow, cmpV_Eq, cmpV_NotEq, cmpV_Is, cmpV_IsNot, cmpV_In, cmpV_NotIn, cmpV_Lt, cmpV_LtE, cmpV_Gt, cmpV_GtE, wqP_v, wqP_t, wqP_r, wqPs_n, wqPs_c, eqV_ii, eqV_ss, eqV_bb, isV_n, isV_bb, isNon, inV_ss, ownB, Bool.true_or, Bool.false_or, Bool.or_false, Bool.not_false, Bool.not_true, Nat.reduceBEq, Bool.or_self, Bool.or_true, tab2_q, List.getElem?_cons_zero, List.getElem?_cons_succ, List.set_cons_zero, List.set_cons_succ, Option.some.injEq, exists_eq_left', exists_eq_left, Option.map_some, Bool.false_xor, Bool.true_xor, put_same, put_put, Ob.lst.injEq, D.int.injEq, D.bl.injEq, D.str.injEq, D.tup.injEq, D.ref.injEq, seqD_t, seqD_l, seqD_r, atI_0, atI_1, atI_2, atI_3, exists_and_left, exists_eq', and_true, true_and, decide_eq_true_eq]
      refine ⟨by simp, by rw [List.length_append, List.length_map, List.length_cons, List.length_singleton]; omega, ok_nil (hN _ _ ⟨rfl, dn ++ [y], rs, some (.str y.1), some (.str y.2.1), some (.tup (y.2.2.map .int)), by rw [← hps]; simp, rfl, ?_⟩)⟩
      simp [encRun]
  · rintro env g' ⟨rfl, dn, rs, o6, o7, o8, hps, hr, rfl⟩
    cases rs with
    | cons y rs => cases hr
    | nil =>
      rw [List.append_nil] at hps
      subst hps
      unfold ir_runs_of_3
      refine ok_cons (ok_ret ?_)
      rw [← tail_zip]
      simp only [wqE, wqT, wqA, wqC, wqO, wqI, wqJ, addV_ii, addV_ss, addV_tt, addV_rr, subV_ii, mulV_ii, mulV_si, mulV_ti, mulV_ri, fdivV_ii, modV_ii, powV_ii, negV_i, truthV_s, truthV_n, truthV_b, truthV_i, truthV_t, truthV_r, ordV_ii, ordV_ss, idxV_t, idxV_r, idxV_s, slV_t, slV_r, slV_s, biV_len_s, biV_len_t, biV_len_r, biV_sum_t, biV_sum_r, biV_any_t, biV_any_r, biV_all_t, biV_all_r, biV_abs, biV_min, biV_max, biV_int_i, biV_int_b, biV_int_s, biV_str, biV_tuple_t, biV_tuple_r, biV_list_t, biV_list_r, mtV_join_t, mtV_join_r, mtV_count, mtO_join, mtO_count, itV_t, itV_r, itV_s, rng1V_i, rng2V_i, fmtV_s, fmtV_i, flatD_n, flatD_b, flatD_i, flatD_s, opV_Add, opV_Sub, opV_Mult, opV_FloorDiv, opV_Mod, opV_Pow, cmpV_Eq, cmpV_NotEq, cmpV_Is, cmpV_IsNot, cmpV_In, cmpV_NotIn, cmpV_Lt, cmpV_LtE, cmpV_Gt, cmpV_GtE, wqP_v, wqP_t, wqP_r, wqPs_n, wqPs_c, eqV_ii, eqV_ss, eqV_bb, isV_n, isV_bb, isNon, inV_ss, ownB, Bool.true_or, Bool.false_or, Bool.or_false, Bool.not_false, Bool.not_true, Nat.reduceBEq, Bool.or_self, Bool.or_true, tab2_q, List.getElem?_cons_zero, List.getElem?_cons_succ, List.set_cons_zero, List.set_cons_succ, Option.some.injEq, exists_eq_left', exists_eq_left, Option.map_some, Bool.false_xor, Bool.true_xor, put_same, put_put, Ob.lst.injEq, D.int.injEq, D.bl.injEq, D.str.injEq, D.tup.injEq, D.ref.injEq, seqD_t, seqD_l, seqD_r, atI_0, atI_1, atI_2, atI_3, exists_and_left, exists_eq', and_true, true_and, decide_eq_true_eq]
      have hlen : (allRuns ns r).length ≤ 16777216 := by
        have : ∀ (ts : List (List Nat)) (ls : List Lp), (tailRuns ns ts ls).length ≤ 2 * ls.length := fun ts => by
          induction ts with
          | nil => intro ls; simp [tailRuns]
          | cons t ts ih => intro ls; cases ls with
            | nil => simp [tailRuns]
            | cons l ls => have := ih ls; simp [tailRuns]; omega
        have := this (txs r).2 (lps r)
        unfold allRuns
        rw [List.length_cons]; omega
      refine lcV_fm encRun (fun x => if keepB x = true then some (encRun x) else none) (allRuns ns r) [] g' (by simpa using hlen) (fun x hx kk hk => ?_) ?_
      · obtain ⟨w, n⟩ := x
        simp only [encRun, wipeD, wqE, wqT, wqA, wqC, wqO, wqI, wqJ, addV_ii, addV_ss, addV_tt, addV_rr, subV_ii, mulV_ii, mulV_si, mulV_ti, mulV_ri, fdivV_ii, modV_ii, powV_ii, negV_i, truthV_s, truthV_n, truthV_b, truthV_i, truthV_t, truthV_r, ordV_ii, ordV_ss, idxV_t, idxV_r, idxV_s, slV_t, slV_r, slV_s, biV_len_s, biV_len_t, biV_len_r, biV_sum_t, biV_sum_r, biV_any_t, biV_any_r, biV_all_t, biV_all_r, biV_abs, biV_min, biV_max, biV_int_i, biV_int_b, biV_int_s, biV_str, biV_tuple_t, biV_tuple_r, biV_list_t, biV_list_r, mtV_join_t, mtV_join_r, mtV_count, mtO_join, mtO_count, itV_t, itV_r, itV_s, rng1V_i, rng2V_i, fmtV_s, fmtV_i, flatD_n, flatD_b, flatD_i, flatD_s, opV_Add, opV_Sub, opV_Mult, opV_FloorDiv, opV_Mod, opV_Pow, cmpV_Eq, cmpV_NotEq, cmpV_Is, cmpV_IsNot, cmpV_In, cmpV_NotIn, cmpV_Lt, cmpV_LtE, cmpV_Gt, cmpV_GtE, wqP_v, wqP_t, wqP_r, wqPs_n, wqPs_c, eqV_ii, eqV_ss, eqV_bb, isV_n, isV_bb, isNon, inV_ss, ownB, Bool.true_or, Bool.false_or, Bool.or_false, Bool.not_false, Bool.not_true, Nat.reduceBEq, Bool.or_self, Bool.or_true, tab2_q, List.getElem?_cons_zero, List.getElem?_cons_succ, List.set_cons_zero, List.set_cons_succ, Option.some.injEq, exists_eq_left', exists_eq_left, Option.map_some, Bool.false_xor, Bool.true_xor, put_same, put_put, Ob.lst.injEq, D.int.injEq, D.bl.injEq, D.str.injEq, D.tup.injEq, D.ref.injEq, seqD_t, seqD_l, seqD_r, atI_0, atI_1, atI_2, atI_3, exists_and_left, exists_eq', and_true, true_and, decide_eq_true_eq]
        simp only [keepB, encRun] at hk
        by_cases hw : w = []
        · simp only [hw, decide_true, Bool.not_true, Bool.false_eq_true, if_false, ne_eq, not_true, decide_false, Bool.false_and] at hk ⊢
          exact hk
        · simp only [hw, decide_false, Bool.not_false, if_true, ne_eq, not_false_eq_true, decide_true, Bool.true_and] at hk ⊢
          by_cases hn0 : 0 < n
          · rw [if_pos (by simpa using hn0)] at hk; rw [if_pos hn0]; exact hk
          · rw [if_neg (by simpa using hn0)] at hk; rw [if_neg hn0]; exact hk
      · rw [fm_filter]; exact k
/-! letter_of -/
theorem rep_get (w : List Nat) (hw : w ≠ []) : ∀ (n i : Nat), i < n * w.length → (List.replicate n w).flatten[i]? = w[i % w.length]?
  | 0, i, h => by omega
  | n + 1, i, h => by
    rw [List.replicate_succ, List.flatten_cons]
    have hp : 0 < w.length := List.length_pos_iff.mpr hw
    by_cases hi : i < w.length
    · rw [List.getElem?_append_left hi, Nat.mod_eq_of_lt hi]
    · rw [List.getElem?_append_right (by omega), rep_get w hw n (i - w.length) (by rw [Nat.succ_mul] at h; omega)]
      congr 1
      conv => rhs; rw [show i = i - w.length + w.length by omega, Nat.add_mod_right]
theorem runT_len (x : Run) : (runT x).length = x.2.toNat * x.1.length := by unfold runT; rw [len_rep]
def okRun (x : Run) : Prop := x.1 ≠ [] ∧ 0 < x.2 ∧ x.1.length ≤ 16777216 ∧ x.2.natAbs < 2 ^ 9000
def optD : Option Nat → D
  | some c => .str [c]
  | none => .non
def sLetter : Spec2 := fun ds g Q => ∃ (rs : List Run) (i : Int), ds = [.tup (rs.map encRun), .int i] ∧ 0 ≤ i ∧ (∀ x ∈ rs, okRun x) ∧ Q (optD (txtR rs)[i.toNat]?) g
theorem len_B {n : Nat} (h : n ≤ 16777216) : ((n : Int)).natAbs < 2 ^ 10000 := Nat.lt_of_le_of_lt (show ((n : Int)).natAbs ≤ 2 ^ 24 by simp; omega) (Nat.pow_lt_pow_right (by decide) (by decide))
theorem q_letter_of : ∀ ds g Q, sLetter ds g Q → OkS (tab2 []) [] ir_letter_of { nx := fun _ g' => Q .non g', rt := Q } (startD ["runs", "place", "left", "word", "many"] ds) g := by
  rintro ds g Q ⟨rs, i, rfl, hi, ok, k⟩
  rw [show startD ["runs", "place", "left", "word", "many"] [.tup (rs.map encRun), .int i] = [some (.tup (rs.map encRun)), some (.int i), none, none, none] from rfl]
  unfold ir_letter_of
  refine ok_cons (ok_asg rfl ?_)
  simp only [wqE, wqT, wqA, wqC, wqO, wqI, wqJ, addV_ii, addV_ss, addV_tt, addV_rr, subV_ii, mulV_ii, mulV_si, mulV_ti, mulV_ri, fdivV_ii, modV_ii, powV_ii, negV_i, truthV_s, truthV_n, truthV_b, truthV_i, truthV_t, truthV_r, ordV_ii, ordV_ss, idxV_t, idxV_r, idxV_s, slV_t, slV_r, slV_s, biV_len_s, biV_len_t, biV_len_r, biV_sum_t, biV_sum_r, biV_any_t, biV_any_r, biV_all_t, biV_all_r, biV_abs, biV_min, biV_max, biV_int_i, biV_int_b, biV_int_s, biV_str, biV_tuple_t, biV_tuple_r, biV_list_t, biV_list_r, mtV_join_t, mtV_join_r, mtV_count, mtO_join, mtO_count, itV_t, itV_r, itV_s, rng1V_i, rng2V_i, fmtV_s, fmtV_i, flatD_n, flatD_b, flatD_i, flatD_s, opV_Add, opV_Sub, opV_Mult, opV_FloorDiv, opV_Mod, opV_Pow, cmpV_Eq, cmpV_NotEq, cmpV_Is, cmpV_IsNot, cmpV_In, cmpV_NotIn, cmpV_Lt, cmpV_LtE, cmpV_Gt, cmpV_GtE, wqP_v, wqP_t, wqP_r, wqPs_n, wqPs_c, eqV_ii, eqV_ss, eqV_bb, isV_n, isV_bb, isNon, inV_ss, ownB, Bool.true_or, Bool.false_or, Bool.or_false, Bool.not_false, Bool.not_true, Nat.reduceBEq, Bool.or_self, Bool.or_true, tab2_q, List.getElem?_cons_zero, List.getElem?_cons_succ, List.set_cons_zero, List.set_cons_succ, Option.some.injEq, exists_eq_left', exists_eq_left, Option.map_some, Bool.false_xor, Bool.true_xor, put_same, put_put, Ob.lst.injEq, D.int.injEq, D.bl.injEq, D.str.injEq, D.tup.injEq, D.ref.injEq, seqD_t, seqD_l, seqD_r, atI_0, atI_1, atI_2, atI_3, exists_and_left, exists_eq', and_true, true_and, decide_eq_true_eq]
  unfold ir_letter_of_1
  refine ok_cons (ok_loop rfl ?_)
  simp only [wqE, wqT, wqA, wqC, wqO, wqI, wqJ, addV_ii, addV_ss, addV_tt, addV_rr, subV_ii, mulV_ii, mulV_si, mulV_ti, mulV_ri, fdivV_ii, modV_ii, powV_ii, negV_i, truthV_s, truthV_n, truthV_b, truthV_i, truthV_t, truthV_r, ordV_ii, ordV_ss, idxV_t, idxV_r, idxV_s, slV_t, slV_r, slV_s, biV_len_s, biV_len_t, biV_len_r, biV_sum_t, biV_sum_r, biV_any_t, biV_any_r, biV_all_t, biV_all_r, biV_abs, biV_min, biV_max, biV_int_i, biV_int_b, biV_int_s, biV_str, biV_tuple_t, biV_tuple_r, biV_list_t, biV_list_r, mtV_join_t, mtV_join_r, mtV_count, mtO_join, mtO_count, itV_t, itV_r, itV_s, rng1V_i, rng2V_i, fmtV_s, fmtV_i, flatD_n, flatD_b, flatD_i, flatD_s, opV_Add, opV_Sub, opV_Mult, opV_FloorDiv, opV_Mod, opV_Pow, cmpV_Eq, cmpV_NotEq, cmpV_Is, cmpV_IsNot, cmpV_In, cmpV_NotIn, cmpV_Lt, cmpV_LtE, cmpV_Gt, cmpV_GtE, wqP_v, wqP_t, wqP_r, wqPs_n, wqPs_c, eqV_ii, eqV_ss, eqV_bb, isV_n, isV_bb, isNon, inV_ss, ownB, Bool.true_or, Bool.false_or, Bool.or_false, Bool.not_false, Bool.not_true, Nat.reduceBEq, Bool.or_self, Bool.or_true, tab2_q, List.getElem?_cons_zero, List.getElem?_cons_succ, List.set_cons_zero, List.set_cons_succ, Option.some.injEq, exists_eq_left', exists_eq_left, Option.map_some, Bool.false_xor, Bool.true_xor, put_same, put_put, Ob.lst.injEq, D.int.injEq, D.bl.injEq, D.str.injEq, D.tup.injEq, D.ref.injEq, seqD_t, seqD_l, seqD_r, atI_0, atI_1, atI_2, atI_3, exists_and_left, exists_eq', and_true, true_and, decide_eq_true_eq]
  generalize hT : optD (txtR rs)[i.toNat]? = T at k
  refine forV_inv (fun xs env g' => g' = g ∧ ∃ (us : List Run) (l : Int) (o3 o4 : Option D), xs = us.map encRun ∧ 0 ≤ l ∧ (∀ x ∈ us, okRun x) ∧ optD (txtR us)[l.toNat]? = T ∧
    env = [some (.tup (rs.map encRun)), some (.int i), some (.int l), o3, o4]) _ _ _ ⟨rfl, rs, i, none, none, rfl, hi, ok, hT, rfl⟩ ?_ ?_
  · rintro x r' env g' N' ⟨rfl, us, l, o3, o4, hr, hl, hok, ht, rfl⟩ hN
    cases us with
    | nil => cases hr
    | cons y us =>
      rw [List.map_cons] at hr
      cases hr
      obtain ⟨w, n⟩ := y
      obtain ⟨h1, h2, h3, h4⟩ := hok _ List.mem_cons_self
      simp only at h1 h2 h3 h4
      have hp : 0 < w.length := List.length_pos_iff.mpr h1
      have hcm : CMulW (w.length : Int) n := cmul_B (len_B h3) (lt_B h4 (by decide))
      rw [txtR] at ht
      have hlen : ((runT (w, n)).length : Int) = w.length * n := by
        rw [runT_len, Int.natCast_mul, Int.mul_comm]
        simp only
        rw [Int.toNat_of_nonneg (by omega)]
      simp only [encRun, wqE, wqT, wqA, wqC, wqO, wqI, wqJ, addV_ii, addV_ss, addV_tt, addV_rr, subV_ii, mulV_ii, mulV_si, mulV_ti, mulV_ri, fdivV_ii, modV_ii, powV_ii, negV_i, truthV_s, truthV_n, truthV_b, truthV_i, truthV_t, truthV_r, ordV_ii, ordV_ss, idxV_t, idxV_r, idxV_s, slV_t, slV_r, slV_s, biV_len_s, biV_len_t, biV_len_r, biV_sum_t, biV_sum_r, biV_any_t, biV_any_r, biV_all_t, biV_all_r, biV_abs, biV_min, biV_max, biV_int_i, biV_int_b, biV_int_s, biV_str, biV_tuple_t, biV_tuple_r, biV_list_t, biV_list_r, mtV_join_t, mtV_join_r, mtV_count, mtO_join, mtO_count, itV_t, itV_r, itV_s, rng1V_i, rng2V_i, fmtV_s, fmtV_i, flatD_n, flatD_b, flatD_i, flatD_s, opV_Add, opV_Sub, opV_Mult, opV_FloorDiv, opV_Mod, opV_Pow, cmpV_Eq, cmpV_NotEq, cmpV_Is, cmpV_IsNot, cmpV_In, cmpV_NotIn, cmpV_Lt, cmpV_LtE, cmpV_Gt, cmpV_GtE, wqP_v, wqP_t, wqP_r, wqPs_n, wqPs_c, eqV_ii, eqV_ss, eqV_bb, isV_n, isV_bb, isNon, inV_ss, ownB, Bool.true_or, Bool.false_or, Bool.or_false, Bool.not_false, Bool.not_true, Nat.reduceBEq, Bool.or_self, Bool.or_true, tab2_q, List.getElem?_cons_zero, List.getElem?_cons_succ, List.set_cons_zero, List.set_cons_succ, Option.some.injEq, exists_eq_left', exists_eq_left, Option.map_some, Bool.false_xor, Bool.true_xor, put_same, put_put, Ob.lst.injEq, D.int.injEq, D.bl.injEq, D.str.injEq, D.tup.injEq, D.ref.injEq, seqD_t, seqD_l, seqD_r, atI_0, atI_1, atI_2, atI_3, exists_and_left, exists_eq', and_true, true_and, decide_eq_true_eq]
      unfold ir_letter_of_b1
      refine ok_cons (ok_iff ?_)
      simp only [wqE, wqT, wqA, wqC, wqO, wqI, wqJ, addV_ii, addV_ss, addV_tt, addV_rr, subV_ii, mulV_ii, mulV_si, mulV_ti, mulV_ri, fdivV_ii, modV_ii, powV_ii, negV_i, truthV_s, truthV_n, truthV_b, truthV_i, truthV_t, truthV_r, ordV_ii, ordV_ss, idxV_t, idxV_r, idxV_s, slV_t, slV_r, slV_s, biV_len_s, biV_len_t, biV_len_r, biV_sum_t, biV_sum_r, biV_any_t, biV_any_r, biV_all_t, biV_all_r, biV_abs, biV_min, biV_max, biV_int_i, biV_int_b, biV_int_s, biV_str, biV_tuple_t, biV_tuple_r, biV_list_t, biV_list_r, mtV_join_t, mtV_join_r, mtV_count, mtO_join, mtO_count, itV_t, itV_r, itV_s, rng1V_i, rng2V_i, fmtV_s, fmtV_i, flatD_n, flatD_b, flatD_i, flatD_s, opV_Add, opV_Sub, opV_Mult, opV_FloorDiv, opV_Mod, opV_Pow, cmpV_Eq, cmpV_NotEq, cmpV_Is, cmpV_IsNot, cmpV_In, cmpV_NotIn, cmpV_Lt, cmpV_LtE, cmpV_Gt, cmpV_GtE, wqP_v, wqP_t, wqP_r, wqPs_n, wqPs_c, eqV_ii, eqV_ss, eqV_bb, isV_n, isV_bb, isNon, inV_ss, ownB, Bool.true_or, Bool.false_or, Bool.or_false, Bool.not_false, Bool.not_true, Nat.reduceBEq, Bool.or_self, Bool.or_true, tab2_q, List.getElem?_cons_zero, List.getElem?_cons_succ, List.set_cons_zero, List.set_cons_succ, Option.some.injEq, exists_eq_left', exists_eq_left, Option.map_some, Bool.false_xor, Bool.true_xor, put_same, put_put, Ob.lst.injEq, D.int.injEq, D.bl.injEq, D.str.injEq, D.tup.injEq, D.ref.injEq, seqD_t, seqD_l, seqD_r, atI_0, atI_1, atI_2, atI_3, exists_and_left, exists_eq', and_true, true_and, decide_eq_true_eq]
      refine ⟨h3, hcm, ?_⟩
      by_cases hlt : l < w.length * n
      · rw [if_pos (by simpa using hlt)]
        have hlt' : l.toNat < (runT (w, n)).length := by omega
        unfold ir_letter_of_b2
        refine ok_cons (ok_ret ?_)
        simp only [wqE, wqT, wqA, wqC, wqO, wqI, wqJ, addV_ii, addV_ss, addV_tt, addV_rr, subV_ii, mulV_ii, mulV_si, mulV_ti, mulV_ri, fdivV_ii, modV_ii, powV_ii, negV_i, truthV_s, truthV_n, truthV_b, truthV_i, truthV_t, truthV_r, ordV_ii, ordV_ss, idxV_t, idxV_r, idxV_s, slV_t, slV_r, slV_s, biV_len_s, biV_len_t, biV_len_r, biV_sum_t, biV_sum_r, biV_any_t, biV_any_r, biV_all_t, biV_all_r, biV_abs, biV_min, biV_max, biV_int_i, biV_int_b, biV_int_s, biV_str, biV_tuple_t, biV_tuple_r, biV_list_t, biV_list_r, mtV_join_t, mtV_join_r, mtV_count, mtO_join, mtO_count, itV_t, itV_r, itV_s, rng1V_i, rng2V_i, fmtV_s, fmtV_i, flatD_n, flatD_b, flatD_i, flatD_s, opV_Add, opV_Sub, opV_Mult, opV_FloorDiv, opV_Mod, opV_Pow, cmpV_Eq, cmpV_NotEq, cmpV_Is, cmpV_IsNot, cmpV_In, cmpV_NotIn, cmpV_Lt, cmpV_LtE, cmpV_Gt, cmpV_GtE, wqP_v, wqP_t, wqP_r, wqPs_n, wqPs_c, eqV_ii, eqV_ss, eqV_bb, isV_n, isV_bb, isNon, inV_ss, ownB, Bool.true_or, Bool.false_or, Bool.or_false, Bool.not_false, Bool.not_true, Nat.reduceBEq, Bool.or_self, Bool.or_true, tab2_q, List.getElem?_cons_zero, List.getElem?_cons_succ, List.set_cons_zero, List.set_cons_succ, Option.some.injEq, exists_eq_left', exists_eq_left, Option.map_some, Bool.false_xor, Bool.true_xor, put_same, put_put, Ob.lst.injEq, D.int.injEq, D.bl.injEq, D.str.injEq, D.tup.injEq, D.ref.injEq, seqD_t, seqD_l, seqD_r, atI_0, atI_1, atI_2, atI_3, exists_and_left, exists_eq', and_true, true_and, decide_eq_true_eq]
        have hm0 := Int.emod_nonneg l (show (w.length : Int) ≠ 0 by omega)
        have hm1 := Int.emod_lt_of_pos l (show 0 < (w.length : Int) by omega)
        have hmn : (l % w.length).toNat = l.toNat % w.length := by
          obtain ⟨a, rfl⟩ := Int.eq_ofNat_of_zero_le hl
          rw [← Int.natCast_emod, Int.toNat_natCast, Int.toNat_natCast]
        have hj : (l % w.length).toNat < w.length := by omega
        refine ⟨h3, by omega, h3, w[(l % w.length).toNat], ?_, ?_⟩
        · rw [atI_n (n := (l % w.length).toNat) (by omega), List.getElem?_eq_getElem hj]
        · have e : (runT (w, n) ++ txtR us)[l.toNat]? = some w[(l % w.length).toNat] := by
            rw [List.getElem?_append_left hlt']
            unfold runT at hlt' ⊢
            rw [rep_get w h1 _ _ (by rw [len_rep] at hlt'; exact hlt'), ← hmn, List.getElem?_eq_getElem hj]
          rw [e] at ht
          rw [show D.str [w[(l % w.length).toNat]] = T from ht]
          exact k
      · rw [if_neg (by simpa using hlt)]
        refine ok_nil ?_
        unfold ir_letter_of_b1_1
        refine ok_cons (ok_asg rfl ?_)
        simp only [wqE, wqT, wqA, wqC, wqO, wqI, wqJ, addV_ii, addV_ss, addV_tt, addV_rr, subV_ii, mulV_ii, mulV_si, mulV_ti, mulV_ri, fdivV_ii, modV_ii, powV_ii, negV_i, truthV_s, truthV_n, truthV_b, truthV_i, truthV_t, truthV_r, ordV_ii, ordV_ss, idxV_t, idxV_r, idxV_s, slV_t, slV_r, slV_s, biV_len_s, biV_len_t, biV_len_r, biV_sum_t, biV_sum_r, biV_any_t, biV_any_r, biV_all_t, biV_all_r, biV_abs, biV_min, biV_max, biV_int_i, biV_int_b, biV_int_s, biV_str, biV_tuple_t, biV_tuple_r, biV_list_t, biV_list_r, mtV_join_t, mtV_join_r, mtV_count, mtO_join, mtO_count, itV_t, itV_r, itV_s, rng1V_i, rng2V_i, fmtV_s, fmtV_i, flatD_n, flatD_b, flatD_i, flatD_s, opV_Add, opV_Sub, opV_Mult, opV_FloorDiv, opV_Mod, opV_Pow, cmpV_Eq, cmpV_NotEq, cmpV_Is, cmpV_IsNot, cmpV_In, cmpV_NotIn, cmpV_Lt, cmpV_LtE, cmpV_Gt, cmpV_GtE, wqP_v, wqP_t, wqP_r, wqPs_n, wqPs_c, eqV_ii, eqV_ss, eqV_bb, isV_n, isV_bb, isNon, inV_ss, ownB, Bool.true_or, Bool.false_or, Bool.or_false, Bool.not_false, Bool.not_true, Nat.reduceBEq, Bool.or_self, Bool.or_true, tab2_q, List.getElem?_cons_zero, List.getElem?_cons_succ, List.set_cons_zero, List.set_cons_succ, Option.some.injEq, exists_eq_left', exists_eq_left, Option.map_some, Bool.false_xor, Bool.true_xor, put_same, put_put, Ob.lst.injEq, D.int.injEq, D.bl.injEq, D.str.injEq, D.tup.injEq, D.ref.injEq, seqD_t, seqD_l, seqD_r, atI_0, atI_1, atI_2, atI_3, exists_and_left, exists_eq', and_true, true_and, decide_eq_true_eq]
        refine ⟨h3, hcm, ok_nil (hN _ _ ⟨rfl, us, l - w.length * n, _, _, rfl, by omega, fun x hx => hok x (by simp [hx]), ?_, rfl⟩)⟩
        rw [List.getElem?_append_right (by omega)] at ht
        rw [show (l - w.length * n).toNat = l.toNat - (runT (w, n)).length by omega]
        exact ht
  · rintro env g' ⟨rfl, us, l, o3, o4, hr, hl, hok, ht, rfl⟩
    cases us with
    | cons y us => cases hr
    | nil =>
      unfold ir_letter_of_2
      refine ok_cons (ok_ret ?_)
      simp only [wqE, wqT, wqA, wqC, wqO, wqI, wqJ, addV_ii, addV_ss, addV_tt, addV_rr, subV_ii, mulV_ii, mulV_si, mulV_ti, mulV_ri, fdivV_ii, modV_ii, powV_ii, negV_i, truthV_s, truthV_n, truthV_b, truthV_i, truthV_t, truthV_r, ordV_ii, ordV_ss, idxV_t, idxV_r, idxV_s, slV_t, slV_r, slV_s, biV_len_s, biV_len_t, biV_len_r, biV_sum_t, biV_sum_r, biV_any_t, biV_any_r, biV_all_t, biV_all_r, biV_abs, biV_min, biV_max, biV_int_i, biV_int_b, biV_int_s, biV_str, biV_tuple_t, biV_tuple_r, biV_list_t, biV_list_r, mtV_join_t, mtV_join_r, mtV_count, mtO_join, mtO_count, itV_t, itV_r, itV_s, rng1V_i, rng2V_i, fmtV_s, fmtV_i, flatD_n, flatD_b, flatD_i, flatD_s, opV_Add, opV_Sub, opV_Mult, opV_FloorDiv, opV_Mod, opV_Pow, cmpV_Eq, cmpV_NotEq, cmpV_Is, cmpV_IsNot, cmpV_In, cmpV_NotIn, cmpV_Lt, cmpV_LtE, cmpV_Gt, cmpV_GtE, wqP_v, wqP_t, wqP_r, wqPs_n, wqPs_c, eqV_ii, eqV_ss, eqV_bb, isV_n, isV_bb, isNon, inV_ss, ownB, Bool.true_or, Bool.false_or, Bool.or_false, Bool.not_false, Bool.not_true, Nat.reduceBEq, Bool.or_self, Bool.or_true, tab2_q, List.getElem?_cons_zero, List.getElem?_cons_succ, List.set_cons_zero, List.set_cons_succ, Option.some.injEq, exists_eq_left', exists_eq_left, Option.map_some, Bool.false_xor, Bool.true_xor, put_same, put_put, Ob.lst.injEq, D.int.injEq, D.bl.injEq, D.str.injEq, D.tup.injEq, D.ref.injEq, seqD_t, seqD_l, seqD_r, atI_0, atI_1, atI_2, atI_3, exists_and_left, exists_eq', and_true, true_and, decide_eq_true_eq]
      simp only [txtR, List.getElem?_nil, optD] at ht
      rw [ht]; exact k
def sLetAt : Spec2 := fun ds g Q => ∃ (ps : List Pg) (m d : Nat) (ns : List Int) (i : Int), ds = [encPg m ps, .tup (ns.map .int), .int i] ∧ wfPs m ps d true ∧ d < 4 ∧ OkR m (rowPs ps) ∧ wB ns ∧ ns.length ≤ 16777216 ∧ 0 ≤ i ∧ (∀ x ∈ runsOf ns (rowPs ps), okRun x) ∧ Q (optD (rowT ns (rowPs ps))[i.toNat]?) g
theorem q_letter_at : ∀ ds g Q, sLetAt ds g Q → OkS (tab2 [("letter_of", sLetter), ("runs_of", sRuns), ("flat", sFlat)]) [] ir_letter_at { nx := fun _ g' => Q .non g', rt := Q } (startD ["program", "counts", "place"] ds) g := by
  rintro ds g Q ⟨ps, m, d, ns, i, rfl, hw, hd, ok, hn, hnl, hi, hr, k⟩
  rw [show startD ["program", "counts", "place"] [encPg m ps, .tup (ns.map .int), .int i] = [some (encPg m ps), some (.tup (ns.map .int)), some (.int i)] from rfl]
  have sz := ok.sz
  unfold ir_letter_at
  refine ok_cons (ok_ret ?_)
  simp only [wqE, wqT, wqA, wqC, wqO, wqI, wqJ, addV_ii, addV_ss, addV_tt, addV_rr, subV_ii, mulV_ii, mulV_si, mulV_ti, mulV_ri, fdivV_ii, modV_ii, powV_ii, negV_i, truthV_s, truthV_n, truthV_b, truthV_i, truthV_t, truthV_r, ordV_ii, ordV_ss, idxV_t, idxV_r, idxV_s, slV_t, slV_r, slV_s, biV_len_s, biV_len_t, biV_len_r, biV_sum_t, biV_sum_r, biV_any_t, biV_any_r, biV_all_t, biV_all_r, biV_abs, biV_min, biV_max, biV_int_i, biV_int_b, biV_int_s, biV_str, biV_tuple_t, biV_tuple_r, biV_list_t, biV_list_r, mtV_join_t, mtV_join_r, mtV_count, mtO_join, mtO_count, itV_t, itV_r, itV_s, rng1V_i, rng2V_i, fmtV_s, fmtV_i, flatD_n, flatD_b, flatD_i, flatD_s, opV_Add, opV_Sub, opV_Mult, opV_FloorDiv, opV_Mod, opV_Pow, cmpV_Eq, cmpV_NotEq, cmpV_Is, cmpV_IsNot, cmpV_In, cmpV_NotIn, cmpV_Lt, cmpV_LtE, cmpV_Gt, cmpV_GtE, wqP_v, wqP_t, wqP_r, wqPs_n, wqPs_c, eqV_ii, eqV_ss, eqV_bb, isV_n, isV_bb, isNon, inV_ss, ownB, Bool.true_or, Bool.false_or, Bool.or_false, Bool.not_false, Bool.not_true, Nat.reduceBEq, Bool.or_self, Bool.or_true, tab2_q, List.getElem?_cons_zero, List.getElem?_cons_succ, List.set_cons_zero, List.set_cons_succ, Option.some.injEq, exists_eq_left', exists_eq_left, Option.map_some, Bool.false_xor, Bool.true_xor, put_same, put_put, Ob.lst.injEq, D.int.injEq, D.bl.injEq, D.str.injEq, D.tup.injEq, D.ref.injEq, seqD_t, seqD_l, seqD_r, atI_0, atI_1, atI_2, atI_3, exists_and_left, exists_eq', and_true, true_and, decide_eq_true_eq]
  refine ⟨ps, m, d, rfl, hw, hd, by omega, m, rowPs ps, ns, rfl, ok, hn, hnl, runsOf ns (rowPs ps), i, rfl, hi, hr, ?_⟩
  rw [txt_runs]; exact k
end G57
set_option Elab.async false
set_option linter.all false
set_option maxRecDepth 100000
set_option maxHeartbeats 800000
namespace G57
open PySem L2
/-! shown values -/
structure Sh (n k : Nat) (d : D) : Prop where
  pr : pureD d = true
  ok : okD n d = true
  ins : inB 40 d
  sz : rsz 40 d ≤ k
theorem Sh.int {n : Nat} {i : Int} (h : i.natAbs < 10 ^ 40) : Sh n 41 (.int i) := ⟨by simp [pureD], by cases n <;> simp [okD], by simpa only [inB] using h, by simp only [rsz]; omega⟩
theorem Sh.non {n : Nat} : Sh n 5 .non := ⟨by simp [pureD], by cases n <;> simp [okD], by simp only [inB], by simp only [rsz]; omega⟩
theorem Sh.bl {n : Nat} {b : Bool} : Sh n 5 (.bl b) := ⟨by simp [pureD], by cases n <;> simp [okD], by simp only [inB], by simp only [rsz]; omega⟩
theorem Sh.str {n k : Nat} {x : List Nat} (h : ∀ c ∈ x, c < 0x110000) (hk : x.length ≤ k) : Sh n (10 * k + 2) (.str x) := ⟨by simp [pureD], by cases n <;> simpa [okD] using h, by simp only [inB], by simp only [rsz]; omega⟩
theorem insB_of {B : Nat} : ∀ {ds : List D}, (∀ d ∈ ds, inB B d) → insB B ds
  | [], _ => by simp [insB]
  | d :: ds, h => by simp only [insB]; exact ⟨h d (by simp), insB_of fun e he => h e (by simp [he])⟩
theorem rszs_of {B k : Nat} : ∀ {ds : List D}, (∀ d ∈ ds, rsz B d ≤ k) → rszs B ds ≤ ds.length * (k + 2)
  | [], _ => by simp [rszs]
  | d :: ds, h => by
    have a := h d (by simp)
    have b := rszs_of (ds := ds) fun e he => h e (by simp [he])
    simp only [rszs, List.length_cons, Nat.succ_mul]; omega
theorem Sh.tup {n k m : Nat} {ds : List D} (h : ∀ d ∈ ds, Sh n k d) (hm : ds.length ≤ m) : Sh (n + 1) (m * (k + 2) + 3) (.tup ds) :=
  ⟨by simp only [pureD]; exact pures_of fun d hd => (h d hd).pr, by simp only [okD]; exact oks_of fun d hd => (h d hd).ok, by simp only [inB]; exact insB_of fun d hd => (h d hd).ins, by
    have a := rszs_of (B := 40) (k := k) fun d hd => (h d hd).sz
    have b : ds.length * (k + 2) ≤ m * (k + 2) := Nat.mul_le_mul_right _ hm
    simp only [rsz]; omega⟩
theorem Sh.up {n k n' k' : Nat} {d : D} (h : Sh n k d) (hn : n ≤ n') (hk : k ≤ k') : Sh n' k' d := ⟨h.pr, ok_le hn h.ok, h.ins, Nat.le_trans h.sz hk⟩
theorem Sh.two {n k l : Nat} {a b : D} (ha : Sh n k a) (hb : Sh n l b) : Sh (n + 1) (k + l + 7) (.tup [a, b]) :=
  ⟨by simp only [pureD, puresD, ha.pr, hb.pr]; rfl, by simp only [okD, oksD, ha.ok, hb.ok]; rfl, by simp only [inB, insB]; exact ⟨ha.ins, hb.ins, trivial⟩, by have a := ha.sz; have b := hb.sz; simp only [rsz, rszs]; omega⟩
theorem biV_repr {n k : Nat} {d : D} {R : RK} (h : Sh n k d) (hn : n ≤ 40) (hk : k ≤ 16777216) (r : R (.str (rtxt (py d)))) : biV .repr [d] R := by
  have e1 : okV d = true := by
    have := h.pr
    cases d <;> first | (simp [pureD] at this; done) | (simp only [okV, Bool.and_eq_true]; exact ⟨h.pr, ok_le (by omega) h.ok⟩)
  have e2 : shV d = true := by
    have := sh_of 40 (by decide) d h.ins
    have := h.pr
    cases d <;> first | (simp [pureD] at this; done) | assumption
  have e3 : (py d).shown.length ≤ 16777216 := Nat.le_trans (shown_rsz 40 (by decide) d n h.ok h.ins) (Nat.le_trans h.sz hk)
  exact ⟨e1, e2, e3, r⟩
theorem biV_reprL {n k m : Nat} {ds : List D} {R : RK} (h : ∀ d ∈ ds, Sh n k d) (hm : ds.length ≤ m) (hn : n ≤ 40) (hk : m * (k + 2) + 3 ≤ 16777216) (r : R (.str (rtxt (py (.rol ds))))) : biV .repr [.rol ds] R := by
  have o : oksD n ds = true := oks_of fun d hd => (h d hd).ok
  have i : insB 40 ds := insB_of fun d hd => (h d hd).ins
  have e1 : okV (.rol ds) = true := by
    simp only [okV, Bool.and_eq_true]; exact ⟨pures_of fun d hd => (h d hd).pr, oks_le hn o⟩
  have e2 : shV (.rol ds) = true := shs_of 40 (by decide) ds i
  have e3 : (py (.rol ds)).shown.length ≤ 16777216 := by
    have a := shown_rsz 40 (by decide) (.rol ds) (n + 1) (by simp only [okD]; exact o) (by simp only [inB]; exact i)
    have b := rszs_of (B := 40) (k := k) fun d hd => (h d hd).sz
    have c : ds.length * (k + 2) ≤ m * (k + 2) := Nat.mul_le_mul_right _ hm
    simp only [rsz] at a
    omega
  exact ⟨e1, e2, e3, r⟩
mutual
theorem pure_encP : ∀ p : Pg, pureD (encP p) = true
  | .text w => by simp [encP, pureD, puresD]
  | .loop f ps => by
    have := pure_encPs ps
    have hf : puresD (f.map .int) = true := pures_of fun d hd => by obtain ⟨i, _, rfl⟩ := List.mem_map.mp hd; simp [pureD]
    simp only [encP, pureD, puresD, this, hf]; rfl
theorem pure_encPs : ∀ ps : List Pg, puresD (encPs ps) = true
  | [] => by simp [encPs, puresD]
  | p :: ps => by simp only [encPs, puresD, pure_encP p, pure_encPs ps]; rfl
end
theorem pure_ints (f : List Int) : puresD (f.map .int) = true := pures_of fun d hd => by obtain ⟨i, _, rfl⟩ := List.mem_map.mp hd; simp [pureD]
theorem pure_pg (m : Nat) (ps : List Pg) : pureD (encPg m ps) = true := by simp only [encPg, pureD, puresD, pure_encPs ps]; rfl
theorem Sh.ints {n k : Nat} {f : List Int} (h : ∀ i ∈ f, i.natAbs < 10 ^ 40) (hk : f.length ≤ k) : Sh (n + 1) (k * 43 + 3) (.tup (f.map .int)) :=
  .tup (fun d hd => by obtain ⟨i, hi, rfl⟩ := List.mem_map.mp hd; exact .int (h i hi)) (by simpa using hk)
mutual
theorem inB_up {a b : Nat} (h : a ≤ b) : ∀ d : D, inB a d → inB b d
  | .int i, hd => by simp only [inB] at hd ⊢; exact Nat.lt_of_lt_of_le hd (Nat.pow_le_pow_right (by decide) h)
  | .tup ds, hd | .rol ds, hd => by simp only [inB] at hd ⊢; exact insB_up h ds hd
  | .non, _ | .bl _, _ | .str _, _ | .ref _, _ => by simp only [inB]
theorem insB_up {a b : Nat} (h : a ≤ b) : ∀ ds : List D, insB a ds → insB b ds
  | [], _ => by simp [insB]
  | d :: ds, hd => by simp only [insB] at hd ⊢; exact ⟨inB_up h d hd.1, insB_up h ds hd.2⟩
end
mutual
theorem rsz_up {a b : Nat} (h : a ≤ b) (h0 : 0 < a) : ∀ d : D, rsz b d ≤ (b + 1) * rsz a d
  | .int i => by simp only [rsz]; exact Nat.le_mul_of_pos_right _ (by omega)
  | .tup ds | .rol ds => by
    have := rszs_up h h0 ds
    simp only [rsz, Nat.mul_add]; omega
  | .str x => by simp only [rsz]; exact Nat.le_mul_of_pos_left _ (by omega)
  | .non | .bl _ | .ref _ => by simp only [rsz]; omega
theorem rszs_up {a b : Nat} (h : a ≤ b) (h0 : 0 < a) : ∀ ds : List D, rszs b ds ≤ (b + 1) * rszs a ds
  | [] => by simp [rszs]
  | d :: ds => by
    have x := rsz_up h h0 d
    have y := rszs_up h h0 ds
    simp only [rszs, Nat.mul_add]; omega
end
theorem sh_pg {m : Nat} {ps : List Pg} (h : OkPg m ps) : Sh 10 1300000 (encPg m ps) := by
  have s := shw_pg h
  refine ⟨pure_pg m ps, ?_, inB_up (by decide) _ s.ins, ?_⟩
  · rw [encPg, okD, oksD, oksD, oksD, okD, okD, encPs_ok ps 3 true h.ok 8 (by omega)]; rfl
  have a := rsz_up (a := 12) (b := 40) (by decide) (by decide) (encPg m ps)
  have b : rsz 12 (encPg m ps) ≤ 30025 := by
    have a := encPs_rsz h.m3 ps 3 true h.ok
    have b : ps.length * (20 * costP 3) ≤ 5 * (20 * costP 3) := Nat.mul_le_mul_right _ h.len
    have c : costP 3 = 300 := rfl
    simp only [encPg, rsz, rszs]
    omega
  have c : 41 * rsz 12 (encPg m ps) ≤ 41 * 30025 := Nat.mul_le_mul_left _ b
  omega
/-! promises of the generator, over values -/
section
variable {P : Program} {w : World} {K : PySem.W.Frag} {mg : Str → Option Value} {base : Heap} {k : Nat}
def sProg : Spec2 := fun ds g Q => ∃ m : Nat, ds = [dck, .int m] ∧ m ≤ 3 ∧ 1501 ≤ g ∧ ∀ ps, OkPg m ps → Q (encPg m ps) (g - 1501)
theorem does_prog2 (d : Does P w K mg base k "_law_program" spProgram) : Does P w K mg base k "_law_program" (lift2 sProg) :=
  d.weak fun es S Q ⟨p, q, O, g, ds, R, k, v, ⟨m, e, h1, h3, h4⟩, P⟩ => by
    subst e
    simp only [VFs] at v
    obtain ⟨_, _, rfl, v1, _, _, rfl, v2, rfl⟩ := v
    simp only [dck, VF] at v1 v2
    subst v1 v2
    exact ⟨p, q, g - 1501, m, rfl, h1, k.dk.less (by omega), fun S' ps ok dk e => P _ _ _ _ (h4 ps ok) e dk (VF.pure (pure_pg m ps))⟩
theorem pure_pc (x : Pc) : pureD (encPc x) = true := by
  obtain ⟨w, f⟩ := x
  cases f with
  | none => simp [encPc, pureD, puresD]
  | some f => simp only [encPc, pureD, puresD, pure_ints f]; rfl
def sPieces : Spec2 := fun ds g Q => ∃ (ps : List Pg) (m d : Nat) (fr : Bool), ds = [.tup (encPs ps)] ∧ okPs m ps d fr ∧ d ≤ 3 ∧ ps.length ≤ 5 ∧ Q (.rol ((pcsPs ps).map encPc)) g
theorem Deck.extB {S S' : Sto} {p q : Addr} {b : Nat} (h : Deck S p q b) (e : Ext S S') : Deck S' p q b := h.ext e
theorem does_pieces2 (d : Does P w K mg base k "_law_pieces" (spPieces 4)) : Does P w K mg base k "_law_pieces" (lift2 sPieces) :=
  d.weak fun es S Q ⟨p, q, O, g, ds, R, k, v, ⟨ps, m, d, fr, e, h1, h2, h3, h4⟩, P⟩ => by
    subst e
    simp only [VFs] at v
    obtain ⟨_, _, rfl, v1, rfl⟩ := v
    have := VF.eq (by simp only [pureD]; exact pure_encPs ps) v1
    subst this
    refine ⟨ps, m, d, fr, rfl, h1, by omega, h2, h3, fun S' a fa e ea => P _ _ _ g h4 e.but (k.dk.ext e) ?_⟩
    obtain ⟨n1, n2, n3⟩ := k.fresh fa
    simp only [VF]
    exact ⟨a, _, rfl, n3, fun z => n1 z.symm, ea, VFs.pure (pures_of fun d hd => by obtain ⟨x, _, rfl⟩ := List.mem_map.mp hd; exact pure_pc x)⟩
def sNums : Spec2 := fun ds g Q => ∃ (m : Nat) (most : Int), ds = [dck, .int m, .int most] ∧ m ≤ 3 ∧ 0 < most ∧ most < 2 ^ 64 ∧ 12 ≤ g ∧ ∀ ns : List Int, ns.length = m → inN most ns → Q (.tup (ns.map .int)) (g - 12)
theorem does_nums2 (d : Does P w K mg base k "_law_numbers" spNums) : Does P w K mg base k "_law_numbers" (lift2 sNums) :=
  d.weak fun es S Q ⟨p, q, O, g, ds, R, k, v, ⟨m, most, e, h1, h2, h3, h4, h5⟩, P⟩ => by
    subst e
    simp only [VFs] at v
    obtain ⟨_, _, rfl, v1, _, _, rfl, v2, _, _, rfl, v3, rfl⟩ := v
    simp only [dck, VF] at v1 v2 v3
    subst v1 v2 v3
    refine ⟨p, q, g - 12, m, most, rfl, h1, h2, h3, k.dk.less (by omega), fun S' ns hl hn dk e => P _ _ _ _ (h5 ns hl hn) e dk (VF.pure (by simp only [pureD]; exact pure_ints ns))⟩
def sText : Spec2 := fun ds g Q => ∃ (ps : List Pg) (m d : Nat) (b : Bool) (ns : List Int), ds = [.tup (encPs ps), .tup (ns.map .int)] ∧ okPs m ps d b ∧ d ≤ 3 ∧ ps.length ≤ 5 ∧ ns.length ≤ 3 ∧ inN (2 ^ 64) ns ∧ (wrts ns ps).length ≤ 16777216 ∧ Q (.str (wrts ns ps)) g
theorem does_text2 (d : Does P w K mg base k "_law_text" (spText 4)) : Does P w K mg base k "_law_text" (lift2 sText) :=
  d.weak fun es S Q ⟨p, q, O, g, ds, R, k, v, ⟨ps, m, d, b, ns, e, h1, h2, h3, h4, h5, h6, h7⟩, P⟩ => by
    subst e
    simp only [VFs] at v
    obtain ⟨_, _, rfl, v1, _, _, rfl, v2, rfl⟩ := v
    have := VF.eq (by simp only [pureD]; exact pure_encPs ps) v1
    subst this
    have := VF.eq (by simp only [pureD]; exact pure_ints ns) v2
    subst this
    exact ⟨ps, m, d, b, ns, rfl, h1, by omega, h2, h3, h4, h5, h6, fun S' e => P _ _ _ g h7 e.but (k.dk.ext e) .s⟩
end
def sOne : Spec2 := fun ds g Q => ∃ (d : D) (xs : List D), ds = [dck, d] ∧ itV d = some xs ∧ xs ≠ [] ∧ xs.length ≤ 16777216 ∧ 1 ≤ g ∧ ∀ x ∈ xs, Q x (g - 1)
theorem q_one : ∀ ds g Q, sOne ds g Q → OkS (tab2 [("_law_draw", sDraw)]) [] ir_l_one { nx := fun _ g' => Q .non g', rt := Q } (startD ["_law_deck_here", "_law_items"] ds) g := by
  rintro ds g Q ⟨d, xs, rfl, hi, hne, hl, hg, k⟩
  rw [show startD ["_law_deck_here", "_law_items"] [dck, d] = [some dck, some d] from rfl]
  have hz : 0 < xs.length := List.length_pos_iff.mpr hne
  unfold ir_l_one
  refine ok_cons (ok_ret ?_)
  cases d with
  | str x =>
    cases hi
    rw [List.length_map] at hl hz
    simp only [wqE, wqT, wqA, wqC, wqO, wqI, wqJ, addV_ii, addV_ss, addV_tt, addV_rr, subV_ii, mulV_ii, mulV_si, mulV_ti, mulV_ri, fdivV_ii, modV_ii, powV_ii, negV_i, truthV_s, truthV_n, truthV_b, truthV_i, truthV_t, truthV_r, ordV_ii, ordV_ss, idxV_t, idxV_r, idxV_s, slV_t, slV_r, slV_s, biV_len_s, biV_len_t, biV_len_r, biV_sum_t, biV_sum_r, biV_any_t, biV_any_r, biV_all_t, biV_all_r, biV_abs, biV_min, biV_max, biV_int_i, biV_int_b, biV_int_s, biV_str, biV_tuple_t, biV_tuple_r, biV_list_t, biV_list_r, mtV_join_t, mtV_join_r, mtV_count, mtO_join, mtO_count, itV_t, itV_r, itV_s, rng1V_i, rng2V_i, fmtV_s, fmtV_i, flatD_n, flatD_b, flatD_i, flatD_s, opV_Add, opV_Sub, opV_Mult, opV_FloorDiv, opV_Mod, opV_Pow, cmpV_Eq, cmpV_NotEq, cmpV_Is, cmpV_IsNot, cmpV_In, cmpV_NotIn, cmpV_Lt, cmpV_LtE, cmpV_Gt, cmpV_GtE, wqP_v, wqP_t, wqP_r, wqPs_n, wqPs_c, eqV_ii, eqV_ss, eqV_bb, isV_n, isV_bb, isNon, inV_ss, ownB, Bool.true_or, Bool.false_or, Bool.or_false, Bool.not_false, Bool.not_true, Nat.reduceBEq, Bool.or_self, Bool.or_true, tab2_q, List.getElem?_cons_zero, List.getElem?_cons_succ, List.set_cons_zero, List.set_cons_succ, Option.some.injEq, exists_eq_left', exists_eq_left, Option.map_some, Bool.false_xor, Bool.true_xor, put_same, put_put, Ob.lst.injEq, D.int.injEq, D.bl.injEq, D.str.injEq, D.tup.injEq, D.ref.injEq, seqD_t, seqD_l, seqD_r, atI_0, atI_1, atI_2, atI_3, exists_and_left, exists_eq', and_true, true_and, decide_eq_true_eq]
    refine ⟨hl, _, rfl, by omega, by omega, hg, fun r h0 h1 => ?_⟩
    obtain ⟨c, e1, e2⟩ := pick h0 h1
    simp only [wqE, wqT, wqA, wqC, wqO, wqI, wqJ, addV_ii, addV_ss, addV_tt, addV_rr, subV_ii, mulV_ii, mulV_si, mulV_ti, mulV_ri, fdivV_ii, modV_ii, powV_ii, negV_i, truthV_s, truthV_n, truthV_b, truthV_i, truthV_t, truthV_r, ordV_ii, ordV_ss, idxV_t, idxV_r, idxV_s, slV_t, slV_r, slV_s, biV_len_s, biV_len_t, biV_len_r, biV_sum_t, biV_sum_r, biV_any_t, biV_any_r, biV_all_t, biV_all_r, biV_abs, biV_min, biV_max, biV_int_i, biV_int_b, biV_int_s, biV_str, biV_tuple_t, biV_tuple_r, biV_list_t, biV_list_r, mtV_join_t, mtV_join_r, mtV_count, mtO_join, mtO_count, itV_t, itV_r, itV_s, rng1V_i, rng2V_i, fmtV_s, fmtV_i, flatD_n, flatD_b, flatD_i, flatD_s, opV_Add, opV_Sub, opV_Mult, opV_FloorDiv, opV_Mod, opV_Pow, cmpV_Eq, cmpV_NotEq, cmpV_Is, cmpV_IsNot, cmpV_In, cmpV_NotIn, cmpV_Lt, cmpV_LtE, cmpV_Gt, cmpV_GtE, wqP_v, wqP_t, wqP_r, wqPs_n, wqPs_c, eqV_ii, eqV_ss, eqV_bb, isV_n, isV_bb, isNon, inV_ss, ownB, Bool.true_or, Bool.false_or, Bool.or_false, Bool.not_false, Bool.not_true, Nat.reduceBEq, Bool.or_self, Bool.or_true, tab2_q, List.getElem?_cons_zero, List.getElem?_cons_succ, List.set_cons_zero, List.set_cons_succ, Option.some.injEq, exists_eq_left', exists_eq_left, Option.map_some, Bool.false_xor, Bool.true_xor, put_same, put_put, Ob.lst.injEq, D.int.injEq, D.bl.injEq, D.str.injEq, D.tup.injEq, D.ref.injEq, seqD_t, seqD_l, seqD_r, atI_0, atI_1, atI_2, atI_3, exists_and_left, exists_eq', and_true, true_and, decide_eq_true_eq]
    exact ⟨hl, c, e1, k _ (List.mem_map.mpr ⟨c, e2, rfl⟩)⟩
  | tup es =>
    cases hi
    simp only [wqE, wqT, wqA, wqC, wqO, wqI, wqJ, addV_ii, addV_ss, addV_tt, addV_rr, subV_ii, mulV_ii, mulV_si, mulV_ti, mulV_ri, fdivV_ii, modV_ii, powV_ii, negV_i, truthV_s, truthV_n, truthV_b, truthV_i, truthV_t, truthV_r, ordV_ii, ordV_ss, idxV_t, idxV_r, idxV_s, slV_t, slV_r, slV_s, biV_len_s, biV_len_t, biV_len_r, biV_sum_t, biV_sum_r, biV_any_t, biV_any_r, biV_all_t, biV_all_r, biV_abs, biV_min, biV_max, biV_int_i, biV_int_b, biV_int_s, biV_str, biV_tuple_t, biV_tuple_r, biV_list_t, biV_list_r, mtV_join_t, mtV_join_r, mtV_count, mtO_join, mtO_count, itV_t, itV_r, itV_s, rng1V_i, rng2V_i, fmtV_s, fmtV_i, flatD_n, flatD_b, flatD_i, flatD_s, opV_Add, opV_Sub, opV_Mult, opV_FloorDiv, opV_Mod, opV_Pow, cmpV_Eq, cmpV_NotEq, cmpV_Is, cmpV_IsNot, cmpV_In, cmpV_NotIn, cmpV_Lt, cmpV_LtE, cmpV_Gt, cmpV_GtE, wqP_v, wqP_t, wqP_r, wqPs_n, wqPs_c, eqV_ii, eqV_ss, eqV_bb, isV_n, isV_bb, isNon, inV_ss, ownB, Bool.true_or, Bool.false_or, Bool.or_false, Bool.not_false, Bool.not_true, Nat.reduceBEq, Bool.or_self, Bool.or_true, tab2_q, List.getElem?_cons_zero, List.getElem?_cons_succ, List.set_cons_zero, List.set_cons_succ, Option.some.injEq, exists_eq_left', exists_eq_left, Option.map_some, Bool.false_xor, Bool.true_xor, put_same, put_put, Ob.lst.injEq, D.int.injEq, D.bl.injEq, D.str.injEq, D.tup.injEq, D.ref.injEq, seqD_t, seqD_l, seqD_r, atI_0, atI_1, atI_2, atI_3, exists_and_left, exists_eq', and_true, true_and, decide_eq_true_eq]
    refine ⟨_, rfl, by omega, by omega, hg, fun r h0 h1 => ?_⟩
    obtain ⟨c, e1, e2⟩ := pick h0 h1
    simp only [wqE, wqT, wqA, wqC, wqO, wqI, wqJ, addV_ii, addV_ss, addV_tt, addV_rr, subV_ii, mulV_ii, mulV_si, mulV_ti, mulV_ri, fdivV_ii, modV_ii, powV_ii, negV_i, truthV_s, truthV_n, truthV_b, truthV_i, truthV_t, truthV_r, ordV_ii, ordV_ss, idxV_t, idxV_r, idxV_s, slV_t, slV_r, slV_s, biV_len_s, biV_len_t, biV_len_r, biV_sum_t, biV_sum_r, biV_any_t, biV_any_r, biV_all_t, biV_all_r, biV_abs, biV_min, biV_max, biV_int_i, biV_int_b, biV_int_s, biV_str, biV_tuple_t, biV_tuple_r, biV_list_t, biV_list_r, mtV_join_t, mtV_join_r, mtV_count, mtO_join, mtO_count, itV_t, itV_r, itV_s, rng1V_i, rng2V_i, fmtV_s, fmtV_i, flatD_n, flatD_b, flatD_i, flatD_s, opV_Add, opV_Sub, opV_Mult, opV_FloorDiv, opV_Mod, opV_Pow, cmpV_Eq, cmpV_NotEq, cmpV_Is, cmpV_IsNot, cmpV_In, cmpV_NotIn, cmpV_Lt, cmpV_LtE, cmpV_Gt, cmpV_GtE, wqP_v, wqP_t, wqP_r, wqPs_n, wqPs_c, eqV_ii, eqV_ss, eqV_bb, isV_n, isV_bb, isNon, inV_ss, ownB, Bool.true_or, Bool.false_or, Bool.or_false, Bool.not_false, Bool.not_true, Nat.reduceBEq, Bool.or_self, Bool.or_true, tab2_q, List.getElem?_cons_zero, List.getElem?_cons_succ, List.set_cons_zero, List.set_cons_succ, Option.some.injEq, exists_eq_left', exists_eq_left, Option.map_some, Bool.false_xor, Bool.true_xor, put_same, put_put, Ob.lst.injEq, D.int.injEq, D.bl.injEq, D.str.injEq, D.tup.injEq, D.ref.injEq, seqD_t, seqD_l, seqD_r, atI_0, atI_1, atI_2, atI_3, exists_and_left, exists_eq', and_true, true_and, decide_eq_true_eq]
    exact ⟨c, e1, k _ e2⟩
  | rol es =>
    cases hi
    simp only [wqE, wqT, wqA, wqC, wqO, wqI, wqJ, addV_ii, addV_ss, addV_tt, addV_rr, subV_ii, mulV_ii, mulV_si, mulV_ti, mulV_ri, fdivV_ii, modV_ii, powV_ii, negV_i, truthV_s, truthV_n, truthV_b, truthV_i, truthV_t, truthV_r, ordV_ii, ordV_ss, idxV_t, idxV_r, idxV_s, slV_t, slV_r, slV_s, biV_len_s, biV_len_t, biV_len_r, biV_sum_t, biV_sum_r, biV_any_t, biV_any_r, biV_all_t, biV_all_r, biV_abs, biV_min, biV_max, biV_int_i, biV_int_b, biV_int_s, biV_str, biV_tuple_t, biV_tuple_r, biV_list_t, biV_list_r, mtV_join_t, mtV_join_r, mtV_count, mtO_join, mtO_count, itV_t, itV_r, itV_s, rng1V_i, rng2V_i, fmtV_s, fmtV_i, flatD_n, flatD_b, flatD_i, flatD_s, opV_Add, opV_Sub, opV_Mult, opV_FloorDiv, opV_Mod, opV_Pow, cmpV_Eq, cmpV_NotEq, cmpV_Is, cmpV_IsNot, cmpV_In, cmpV_NotIn, cmpV_Lt, cmpV_LtE, cmpV_Gt, cmpV_GtE, wqP_v, wqP_t, wqP_r, wqPs_n, wqPs_c, eqV_ii, eqV_ss, eqV_bb, isV_n, isV_bb, isNon, inV_ss, ownB, Bool.true_or, Bool.false_or, Bool.or_false, Bool.not_false, Bool.not_true, Nat.reduceBEq, Bool.or_self, Bool.or_true, tab2_q, List.getElem?_cons_zero, List.getElem?_cons_succ, List.set_cons_zero, List.set_cons_succ, Option.some.injEq, exists_eq_left', exists_eq_left, Option.map_some, Bool.false_xor, Bool.true_xor, put_same, put_put, Ob.lst.injEq, D.int.injEq, D.bl.injEq, D.str.injEq, D.tup.injEq, D.ref.injEq, seqD_t, seqD_l, seqD_r, atI_0, atI_1, atI_2, atI_3, exists_and_left, exists_eq', and_true, true_and, decide_eq_true_eq]
    refine ⟨_, rfl, by omega, by omega, hg, fun r h0 h1 => ?_⟩
    obtain ⟨c, e1, e2⟩ := pick h0 h1
    simp only [wqE, wqT, wqA, wqC, wqO, wqI, wqJ, addV_ii, addV_ss, addV_tt, addV_rr, subV_ii, mulV_ii, mulV_si, mulV_ti, mulV_ri, fdivV_ii, modV_ii, powV_ii, negV_i, truthV_s, truthV_n, truthV_b, truthV_i, truthV_t, truthV_r, ordV_ii, ordV_ss, idxV_t, idxV_r, idxV_s, slV_t, slV_r, slV_s, biV_len_s, biV_len_t, biV_len_r, biV_sum_t, biV_sum_r, biV_any_t, biV_any_r, biV_all_t, biV_all_r, biV_abs, biV_min, biV_max, biV_int_i, biV_int_b, biV_int_s, biV_str, biV_tuple_t, biV_tuple_r, biV_list_t, biV_list_r, mtV_join_t, mtV_join_r, mtV_count, mtO_join, mtO_count, itV_t, itV_r, itV_s, rng1V_i, rng2V_i, fmtV_s, fmtV_i, flatD_n, flatD_b, flatD_i, flatD_s, opV_Add, opV_Sub, opV_Mult, opV_FloorDiv, opV_Mod, opV_Pow, cmpV_Eq, cmpV_NotEq, cmpV_Is, cmpV_IsNot, cmpV_In, cmpV_NotIn, cmpV_Lt, cmpV_LtE, cmpV_Gt, cmpV_GtE, wqP_v, wqP_t, wqP_r, wqPs_n, wqPs_c, eqV_ii, eqV_ss, eqV_bb, isV_n, isV_bb, isNon, inV_ss, ownB, Bool.true_or, Bool.false_or, Bool.or_false, Bool.not_false, Bool.not_true, Nat.reduceBEq, Bool.or_self, Bool.or_true, tab2_q, List.getElem?_cons_zero, List.getElem?_cons_succ, List.set_cons_zero, List.set_cons_succ, Option.some.injEq, exists_eq_left', exists_eq_left, Option.map_some, Bool.false_xor, Bool.true_xor, put_same, put_put, Ob.lst.injEq, D.int.injEq, D.bl.injEq, D.str.injEq, D.tup.injEq, D.ref.injEq, seqD_t, seqD_l, seqD_r, atI_0, atI_1, atI_2, atI_3, exists_and_left, exists_eq', and_true, true_and, decide_eq_true_eq]
    exact ⟨c, e1, k _ e2⟩
  | _ => cases hi
end G57
set_option Elab.async false
set_option linter.all false
set_option maxRecDepth 100000
set_option maxHeartbeats 800000
namespace G57
open PySem L2
/-! pieces and rows -/
def pcRow : Pc → List It
  | (w, none) => w.map .inl
  | (w, some f) => if w = [] then [] else [.inr (w, f)]
def rowOf (xs : List Pc) : List It := (xs.map pcRow).flatten
theorem rowOf_app (xs ys : List Pc) : rowOf (xs ++ ys) = rowOf xs ++ rowOf ys := by simp [rowOf]
theorem rowOf_rep (n : Nat) (xs : List Pc) : rowOf (List.replicate n xs).flatten = (List.replicate n (rowOf xs)).flatten := by
  induction n with
  | zero => rfl
  | succ n ih => rw [List.replicate_succ, List.flatten_cons, rowOf_app, ih, List.replicate_succ, List.flatten_cons]
theorem rowOf_shut : ∀ xs : List Pc, (∀ x ∈ xs, x.2 = none) → rowOf xs = ((xs.map (·.1)).flatten).map .inl
  | [], _ => rfl
  | (w, g) :: xs, h => by
    have hg : g = none := h (w, g) (by simp)
    subst hg
    have ih := rowOf_shut xs fun y hy => h y (by simp [hy])
    unfold rowOf at ih ⊢
    rw [List.map_cons, List.flatten_cons, ih]
    simp [pcRow]
theorem all0 {f : List Int} (h : f.any (· != 0) = false) : isOpen f = false ∧ f.headD 0 = 0 := by
  cases f with
  | nil => exact ⟨rfl, rfl⟩
  | cons c r =>
    rw [List.any_cons, Bool.or_eq_false_iff] at h
    exact ⟨h.2, by simpa using h.1⟩
mutual
theorem row_pcs {m : Nat} : ∀ (p : Pg) (d : Nat) (b : Bool), okP m p d b → rowP p = rowOf (pcsP p)
  | .text w, d, b, h => by rw [rowP, pcsP]; simp [rowOf, pcRow]
  | .loop f ps, d, b, h => by
    rw [okP] at h
    obtain ⟨h0, hf, h1, h3, h4, h5⟩ := h
    have ih := row_pcss ps _ _ h5
    rw [rowP, pcsP, ih]
    split
    · rename_i ha
      obtain ⟨e1, e2⟩ := all0 ha
      rw [e1, if_neg (by decide), e2]
      rfl
    · split
      · rename_i ho
        rw [ho] at h5
        simp only [Bool.not_true, Bool.and_false] at h5
        rw [rowOf_shut _ (shut_pcss ps _ h5)]
        simp only [List.map_eq_nil_iff, txs_map]
        simp [rowOf, pcRow]
      · rw [rowOf_rep]
theorem row_pcss {m : Nat} : ∀ (ps : List Pg) (d : Nat) (b : Bool), okPs m ps d b → rowPs ps = rowOf (pcsPs ps)
  | [], d, b, h => rfl
  | p :: ps, d, b, h => by
    rw [okPs] at h
    rw [rowPs, pcsPs, rowOf_app, row_pcs p d b h.1, row_pcss ps d b h.2]
end
def pcT (ns : List Int) (xs : List Pc) : List Nat := (xs.map fun x => runT (x.1, valC ns x.2)).flatten
theorem pcT_app (ns : List Int) (xs ys : List Pc) : pcT ns (xs ++ ys) = pcT ns xs ++ pcT ns ys := by simp [pcT]
theorem pcT_cons (ns : List Int) (x : Pc) (xs : List Pc) : pcT ns (x :: xs) = runT (x.1, valC ns x.2) ++ pcT ns xs := by simp [pcT]
theorem pcT_rep (ns : List Int) (n : Nat) (xs : List Pc) : pcT ns (List.replicate n xs).flatten = (List.replicate n (pcT ns xs)).flatten := by
  induction n with
  | zero => rfl
  | succ n ih => rw [List.replicate_succ, List.flatten_cons, pcT_app, ih, List.replicate_succ, List.flatten_cons]
theorem pcT_shut (ns : List Int) : ∀ xs : List Pc, (∀ x ∈ xs, x.2 = none) → pcT ns xs = (xs.map (·.1)).flatten
  | [], _ => rfl
  | (w, g) :: xs, h => by
    have hg : g = none := h (w, g) (by simp)
    subst hg
    rw [pcT_cons, pcT_shut ns xs fun y hy => h y (by simp [hy])]
    simp [valC, runT_1]
theorem rowT_app (ns : List Int) : ∀ a b : List It, rowT ns (a ++ b) = rowT ns a ++ rowT ns b
  | [], b => rfl
  | x :: a, b => by rw [List.cons_append, rowT, rowT, rowT_app ns a b, List.append_assoc]
theorem rowT_map (ns : List Int) (w : List Nat) : rowT ns (w.map .inl) = w := by
  induction w with
  | nil => rfl
  | cons c w ih => simp [rowT, itTx, ih]
theorem rowT_rowOf (ns : List Int) : ∀ xs : List Pc, rowT ns (rowOf xs) = pcT ns xs
  | [] => rfl
  | (w, g) :: xs => by
    rw [show rowOf ((w, g) :: xs) = pcRow (w, g) ++ rowOf xs by simp [rowOf], rowT_app, rowT_rowOf ns xs, pcT_cons]
    congr 1
    cases g with
    | none => simp only [pcRow, valC, runT_1, rowT_map]
    | some f =>
      simp only [pcRow, valC]
      split
      · rename_i hw; subst hw; simp [rowT, runT]
      · simp [rowT, itTx]
mutual
theorem wrt_pcs {m : Nat} (ns : List Int) : ∀ (p : Pg) (d : Nat) (b : Bool), okP m p d b → wrt ns p = pcT ns (pcsP p)
  | .text w, d, b, h => by rw [wrt, pcsP]; simp [pcT, valC, runT_1]
  | .loop f ps, d, b, h => by
    rw [okP] at h
    obtain ⟨h0, hf, h1, h3, h4, h5⟩ := h
    have ih := wrts_pcs ns ps _ _ h5
    rw [wrt, pcsP, ih]
    split
    · rename_i ho
      rw [ho] at h5
      simp only [Bool.not_true, Bool.and_false] at h5
      rw [pcT_shut ns _ (shut_pcss ps _ h5)]
      simp [pcT, valC, runT]
    · rename_i ho
      rw [pcT_rep, val_shut (by simpa using ho)]
theorem wrts_pcs {m : Nat} (ns : List Int) : ∀ (ps : List Pg) (d : Nat) (b : Bool), okPs m ps d b → wrts ns ps = pcT ns (pcsPs ps)
  | [], d, b, h => rfl
  | p :: ps, d, b, h => by
    rw [okPs] at h
    rw [wrts, pcsPs, pcT_app, wrt_pcs ns p d b h.1, wrts_pcs ns ps d b h.2]
end
theorem rsize_rowOf : ∀ xs : List Pc, rsize (rowOf xs) ≤ letN xs + xs.length
  | [] => by simp [rowOf, rsize]
  | (w, g) :: xs => by
    have ih := rsize_rowOf xs
    rw [show rowOf ((w, g) :: xs) = pcRow (w, g) ++ rowOf xs by simp [rowOf], rsize_app, show letN ((w, g) :: xs) = w.length + letN xs by simp [letN], List.length_cons]
    cases g with
    | none => simp only [pcRow, rsize_map]; omega
    | some f =>
      simp only [pcRow]
      split
      · simp [rsize]; omega
      · simp [rsize]; omega
theorem lps_rowOf : ∀ (xs : List Pc) (l : Lp), l ∈ lps (rowOf xs) → l.1 ≠ [] ∧ (l.1, some l.2) ∈ xs
  | [], l, h => by simp [rowOf, lps] at h
  | (w, g) :: xs, l, h => by
    rw [show rowOf ((w, g) :: xs) = pcRow (w, g) ++ rowOf xs by simp [rowOf], lps_app] at h
    rcases List.mem_append.mp h with h | h
    · cases g with
      | none => simp only [pcRow, txs_map] at h; simp at h
      | some f =>
        simp only [pcRow] at h
        split at h
        · simp [lps] at h
        · rename_i hw
          simp [lps] at h
          subst h
          exact ⟨hw, by simp⟩
    · obtain ⟨a, b⟩ := lps_rowOf xs l h
      exact ⟨a, by simp [b]⟩
/-! a drawn program -/
section
variable {m : Nat} {ps : List Pg} (h : OkPg m ps)
include h
theorem OkPg.row : rowPs ps = rowOf (pcsPs ps) := row_pcss ps 3 true h.ok
theorem OkPg.text (ns : List Int) : rowT ns (rowPs ps) = wrts ns ps := by rw [h.row, rowT_rowOf, wrts_pcs ns ps 3 true h.ok]
theorem OkPg.pct (ns : List Int) : pcT ns (pcsPs ps) = wrts ns ps := (wrts_pcs ns ps 3 true h.ok).symm
theorem OkPg.npcs : (pcsPs ps).length ≤ 1080 := Nat.le_trans (pcss_bd ps 3 true h.ok).1 (by have := h.len; omega)
theorem OkPg.okR : OkR m (rowPs ps) := by
  have a := rsize_rowOf (pcsPs ps)
  have b := letN_small h
  have c := h.npcs
  refine ⟨by rw [h.row]; omega, fun l hl => ?_, fun l hl => ?_, lowR_rows ps 3 true (wfs_of_ok ps 3 true h.ok)⟩
  · rw [h.row] at hl
    have := pcss_ok ps 3 true h.ok _ (lps_rowOf _ l hl).2
    refine ⟨this.1, fun i hi => Nat.lt_of_le_of_lt (show i.natAbs ≤ 99 by have := this.2 i hi; omega) ?_⟩
    exact Nat.lt_of_lt_of_le (show 99 < 2 ^ 7 by decide) (Nat.pow_le_pow_right (by decide) (by decide))
  · rw [h.row] at hl
    exact (lps_rowOf _ l hl).1
theorem OkPg.valL {ns : List Int} {B : Int} (hB : 0 ≤ B) (hn : ∀ n ∈ ns, 0 ≤ n ∧ n ≤ B) {l : Lp} (hl : l ∈ lps (rowPs ps)) : 0 ≤ valF l.2 ns ∧ valF l.2 ns ≤ 99 + 297 * B := by
  rw [h.row] at hl
  have := pcss_ok ps 3 true h.ok _ (lps_rowOf _ l hl).2
  exact ⟨valF_pos this fun n hn' => (hn n hn').1, valF_le h.m3 hB this hn⟩
end
theorem mem_tail (ns : List Int) : ∀ (ts : List (List Nat)) (ls : List Lp) (x : Run), x ∈ tailRuns ns ts ls → (x.1 ∈ ts ∧ x.2 = 1) ∨ ∃ l ∈ ls, x = (l.1, valF l.2 ns)
  | [], _, x, h => by simp [tailRuns] at h
  | t :: ts, [], x, h => by simp [tailRuns] at h
  | t :: ts, l :: ls, x, h => by
    simp only [tailRuns, List.mem_cons] at h
    rcases h with rfl | rfl | h
    · exact .inr ⟨l, by simp, rfl⟩
    · exact .inl ⟨by simp, rfl⟩
    · rcases mem_tail ns ts ls x h with ⟨a, b⟩ | ⟨l', a, b⟩
      · exact .inl ⟨by simp [a], b⟩
      · exact .inr ⟨l', by simp [a], b⟩
theorem mem_runs {ns : List Int} {r : List It} {x : Run} (h : x ∈ runsOf ns r) : x.1 ≠ [] ∧ 0 < x.2 ∧ ((x.1 ∈ txl r ∧ x.2 = 1) ∨ ∃ l ∈ lps r, x = (l.1, valF l.2 ns)) := by
  unfold runsOf at h
  obtain ⟨h1, h2⟩ := List.mem_filter.mp h
  simp only [keepB, Bool.and_eq_true, decide_eq_true_eq] at h2
  refine ⟨h2.1, h2.2, ?_⟩
  simp only [allRuns, List.mem_cons] at h1
  rcases h1 with rfl | h1
  · exact .inl ⟨by simp [txl], rfl⟩
  · rcases mem_tail ns _ _ x h1 with ⟨a, b⟩ | c
    · exact .inl ⟨by simp [txl, a], b⟩
    · exact .inr c
theorem word_rsize : ∀ (r : List It) (l : Lp), l ∈ lps r → l.1.length ≤ rsize r
  | [], l, h => by simp [lps] at h
  | .inl c :: r, l, h => by have := word_rsize r l (by simpa [lps] using h); simp [rsize]; omega
  | .inr k :: r, l, h => by
    simp only [lps, List.mem_cons] at h
    rcases h with rfl | h
    · simp [rsize]; omega
    · have := word_rsize r l h; simp [rsize]; omega
theorem runs_ok {m : Nat} {r : List It} (ok : OkR m r) {ns : List Int} (hv : ∀ l ∈ lps r, (valF l.2 ns).natAbs < 2 ^ 9000) : ∀ x ∈ runsOf ns r, okRun x := fun x hx => by
  obtain ⟨h1, h2, h3⟩ := mem_runs hx
  have sz := ok.sz
  rcases h3 with ⟨a, b⟩ | ⟨l, a, rfl⟩
  · refine ⟨h1, h2, ?_, ?_⟩
    · have := (txl_le r).2 _ a
      have := len_rsize r
      omega
    · rw [b]; exact Nat.lt_of_lt_of_le (show 1 < 2 ^ 1 by decide) (Nat.pow_le_pow_right (by decide) (by decide))
  · refine ⟨h1, h2, ?_, hv l a⟩
    have := word_rsize r l a
    simp only; omega
end G57
set_option Elab.async false
set_option linter.all false
set_option maxRecDepth 100000
set_option maxHeartbeats 2000000
namespace G57
open PySem L2 PySem.Spec PyProof.Rows
/- is_open : top 1, names ['form'], calls [], built-ins ['any'], constants [] -/
/- fixed_row : top 2, names ['word'], calls [], built-ins [], constants [] -/
/- behind : top 3, names ['one', 'other', 'texts'], calls [], built-ins [], constants [] -/
/- part_row : top 4, names ['part', 'form', 'inner', 'found', 'turn'], calls ['parts_row', 'is_open', 'fixed_row', 'behind'], built-ins ['range', 'any'], constants [] -/
/- parts_row : top 5, names ['parts', 'found', 'part'], calls ['fixed_row', 'behind', 'part_row'], built-ins [], constants [] -/
/- flat : top 6, names ['program', 'texts', 'loops'], calls ['parts_row'], built-ins [], constants [] -/
/- value_of : top 8, names ['form', 'counts', 'factor', 'count'], calls [], built-ins ['sum', 'zip'], constants [] -/
/- runs_of : top 10, names ['row', 'counts', 'k', 'texts', 'loops', 'found', 'text', 'word', 'form', 'run'], calls ['value_of'], built-ins ['zip', 'tuple'], constants [] -/
/- letter_of : top 11, names ['runs', 'place', 'left', 'word', 'many'], calls [], built-ins ['len'], constants [] -/
/- letter_at : top 13, names ['program', 'counts', 'place'], calls ['letter_of', 'runs_of', 'flat'], built-ins [], constants [] -/
/- _law_deck : top 15, names ['_law_script'], calls [], built-ins ['list'], constants [] -/
/- _law_draw : top 16, names ['_law_deck_here', '_law_many', '_law_cell', '_law_mixed', '_law_found'], calls [], built-ins ['int', 'abs', 'len'], constants [] -/
/- _law_one : top 17, names ['_law_deck_here', '_law_items'], calls ['_law_draw'], built-ins ['len'], constants [] -/
/- _law_word : top 18, names ['_law_deck_here', '_law_most', '_law_some', '_law_turn'], calls ['_law_one', '_law_draw'], built-ins ['range'], constants [] -/
/- _law_form : top 19, names ['_law_deck_here', '_law_many', '_law_found', '_law_some', '_law_turn'], calls ['_law_one', '_law_draw'], built-ins ['tuple', 'any', 'range'], constants [] -/
/- _law_part : top 20, names ['_law_deck_here', '_law_many', '_law_deep', '_law_is_free', '_law_way', '_law_shape', '_law_inner', '_law_turn'], calls ['_law_draw', '_law_part', '_law_word', '_law_form'], built-ins ['tuple', 'range'], constants [] -/
/- _law_pieces : top 21, names ['_law_parts', '_law_found', '_law_one_here', '_law_some', '_law_shape'], calls ['_law_pieces'], built-ins ['any'], constants [] -/
/- _law_is_small : top 22, names ['_law_parts', '_law_some', '_law_size', '_law_one_here', '_law_shape'], calls ['_law_pieces'], built-ins ['sum', 'len'], constants [] -/
/- _law_program : top 23, names ['_law_deck_here', '_law_many', '_law_parts', '_law_turn'], calls ['_law_is_small', '_law_part', '_law_draw'], built-ins ['tuple', 'range'], constants [] -/
/- _law_number : top 24, names ['_law_shape', '_law_numbers_here', '_law_a', '_law_b'], calls [], built-ins ['sum', 'zip'], constants [] -/
/- _law_text : top 25, names ['_law_parts', '_law_numbers_here', '_law_found', '_law_one_here', '_law_turns', '_law_inner'], calls ['_law_number', '_law_text'], built-ins [], constants [] -/
/- _law_numbers : top 26, names ['_law_deck_here', '_law_many', '_law_most', '_law_found', '_law_turn', '_law_some'], calls ['_law_draw', '_law_one'], built-ins ['range', 'tuple', 'min', 'int'], constants [] -/
/- _law_due : top 27, names ['_law_program_here', '_law_numbers_here', '_law_at', '_law_some', '_law_shape', '_law_turns'], calls ['_law_pieces', '_law_number'], built-ins ['len', 'int'], constants [] -/
def ir_l_due_b2 : Sx := .cons (.ret (.idx (.var 3) (.bin .Mod (.bi .int (.cons (.var 2) (.nil))) (.bi .len (.cons (.var 3) (.nil)))))) .nil
def ir_l_due_b1_2 : Sx := .cons (.asg (.v 2) (.bin .Sub (.var 2) (.bin .Mult (.bi .len (.cons (.var 3) (.nil))) (.var 5)))) .nil
def ir_l_due_b1_1 : Sx := .cons (.iff (.cmp .Lt (.var 2) (.bin .Mult (.bi .len (.cons (.var 3) (.nil))) (.var 5))) (ir_l_due_b2) (.nil)) ir_l_due_b1_2
def ir_l_due_b1 : Sx := .cons (.asg (.v 5) (.ite (.cmp .Is (.var 4) (.con .non)) (.con (.int 1)) (.call 1 (.cons (.var 4) (.cons (.var 1) (.nil)))))) ir_l_due_b1_1
def ir_l_due_1 : Sx := .cons (.ret (.con .non)) .nil
def ir_l_due : Sx := .cons (.loop (.t (.cons (.v 3) (.cons (.v 4) (.nil)))) (.iE (.call 0 (.cons (.idx (.var 0) (.con (.int 1))) (.nil)))) (ir_l_due_b1)) ir_l_due_1
/- _law_edges : top 28, names ['_law_program_here', '_law_numbers_here', '_law_found', '_law_some', '_law_shape'], calls ['_law_pieces', '_law_number'], built-ins ['len'], constants [] -/
def ir_l_edges_b1 : Sx := .cons (.ex (.mt .append (.var 2) (.cons (.bin .Add (.idx (.var 2) (.neg (.con (.int 1)))) (.bin .Mult (.bi .len (.cons (.var 3) (.nil))) (.ite (.cmp .Is (.var 4) (.con .non)) (.con (.int 1)) (.call 1 (.cons (.var 4) (.cons (.var 1) (.nil))))))) (.nil)))) .nil
def ir_l_edges_2 : Sx := .cons (.ret (.var 2)) .nil
def ir_l_edges_1 : Sx := .cons (.loop (.t (.cons (.v 3) (.cons (.v 4) (.nil)))) (.iE (.call 0 (.cons (.idx (.var 0) (.con (.int 1))) (.nil)))) (ir_l_edges_b1)) ir_l_edges_2
def ir_l_edges : Sx := .cons (.asg (.v 2) (.lst (.cons (.con (.int 0)) (.nil)))) ir_l_edges_1
/- law : top 29, names ['_law_script', '_law_deck_here', '_law_turn', '_law_many', '_law_program_here', '_law_held', '_law_most', '_law_text_here', '_law_numbers_here', '_law_edges_here', '_law_some', '_law_again', '_law_at'], calls ['_law_deck', '_law_draw', '_law_program', '_law_numbers', '_law_text', '_law_edges', 'letter_at', '_law_due', '_law_one'], built-ins ['range', 'repr', 'max', 'len', 'int'], constants [] -/
def ir_law_b3_1 : Sx := .cons (.ex (.mt .append (.var 10) (.cons (.call 1 (.cons (.var 1) (.cons (.bin .Add (.idx (.var 9) (.neg (.con (.int 1)))) (.con (.int 1))) (.nil)))) (.nil)))) .nil
def ir_law_b3 : Sx := .cons (.ex (.mt .append (.var 10) (.cons (.bi .max (.cons (.con (.int 0)) (.cons (.bin .Sub (.bin .Add (.bi .int (.cons (.call 8 (.cons (.var 1) (.cons (.var 9) (.nil)))) (.nil))) (.bi .int (.cons (.call 1 (.cons (.var 1) (.cons (.con (.int 9)) (.nil)))) (.nil)))) (.con (.int 4))) (.nil)))) (.nil)))) ir_law_b3_1
def ir_law_b5 : Sx := .cons (.ret (.con (.bl false))) .nil
def ir_law_b4 : Sx := .cons (.iff (.cmp .NotEq (.bi .repr (.cons (.call 6 (.cons (.var 4) (.cons (.var 8) (.cons (.var 12) (.nil))))) (.nil))) (.bi .repr (.cons (.call 7 (.cons (.var 4) (.cons (.var 8) (.cons (.var 12) (.nil))))) (.nil)))) (ir_law_b5) (.nil)) .nil
def ir_law_b6 : Sx := .cons (.ret (.con (.bl false))) .nil
def ir_law_b2_5 : Sx := .cons (.iff (.cmp .NotEq (.bi .repr (.cons (.tup (.cons (.var 4) (.cons (.var 8) (.nil)))) (.nil))) (.var 5)) (ir_law_b6) (.nil)) .nil
def ir_law_b2_4 : Sx := .cons (.loop (.v 12) (.iE (.var 10)) (ir_law_b4)) ir_law_b2_5
def ir_law_b2_3 : Sx := .cons (.loop (.v 11) (.iR1 (.con (.int 12))) (ir_law_b3)) ir_law_b2_4
def ir_law_b2_2 : Sx := .cons (.asg (.v 10) (.lst (.cons (.con (.int 0)) (.cons (.idx (.var 9) (.neg (.con (.int 1)))) (.cons (.bin .Add (.idx (.var 9) (.neg (.con (.int 1)))) (.call 1 (.cons (.var 1) (.cons (.bin .Pow (.con (.int 10)) (.con (.int 30))) (.nil))))) (.nil)))))) ir_law_b2_3
def ir_law_b2_1 : Sx := .cons (.asg (.t (.cons (.v 5) (.cons (.v 9) (.nil)))) (.tup (.cons (.bi .repr (.cons (.tup (.cons (.var 4) (.cons (.var 8) (.nil)))) (.nil))) (.cons (.call 5 (.cons (.var 4) (.cons (.var 8) (.nil)))) (.nil))))) ir_law_b2_2
def ir_law_b2 : Sx := .cons (.asg (.v 8) (.call 3 (.cons (.var 1) (.cons (.var 3) (.cons (.var 6) (.nil)))))) ir_law_b2_1
def ir_law_b7 : Sx := .cons (.ret (.con (.bl false))) .nil
def ir_law_b1_4 : Sx := .cons (.iff (.cmp .NotEq (.mt .join (.con (.str [])) (.cons (.lc [12] (.v 12) (.iR1 (.bi .len (.cons (.var 7) (.nil)))) (.nil) (.call 6 (.cons (.var 4) (.cons (.bin .Mult (.tup (.cons (.con (.int 2)) (.nil))) (.var 3)) (.cons (.var 12) (.nil)))))) (.nil))) (.var 7)) (ir_law_b7) (.nil)) .nil
def ir_law_b1_3 : Sx := .cons (.asg (.v 7) (.sl (.call 4 (.cons (.idx (.var 4) (.con (.int 1))) (.cons (.bin .Mult (.tup (.cons (.con (.int 2)) (.nil))) (.var 3)) (.nil)))) (.nil) (.cons (.con (.int 300)) .nil))) ir_law_b1_4
def ir_law_b1_2 : Sx := .cons (.loop (.v 6) (.iE (.tup (.cons (.con (.int 4)) (.cons (.con (.int 41)) (.cons (.bin .Add (.bin .Pow (.con (.int 10)) (.con (.int 18))) (.con (.int 1))) (.nil)))))) (ir_law_b2)) ir_law_b1_3
def ir_law_b1_1 : Sx := .cons (.asg (.t (.cons (.v 4) (.cons (.v 5) (.nil)))) (.tup (.cons (.call 2 (.cons (.var 1) (.cons (.var 3) (.nil)))) (.cons (.con (.str [])) (.nil))))) ir_law_b1_2
def ir_law_b1 : Sx := .cons (.asg (.v 3) (.call 1 (.cons (.var 1) (.cons (.con (.int 4)) (.nil))))) ir_law_b1_1
def ir_law_2 : Sx := .cons (.ret (.con (.bl true))) .nil
def ir_law_1 : Sx := .cons (.loop (.v 2) (.iR1 (.con (.int 5))) (ir_law_b1)) ir_law_2
def ir_law : Sx := .cons (.asg (.v 1) (.call 0 (.cons (.var 0) (.nil)))) ir_law_1
def tb (i : Nat) : Stmt := PySem.Challenge.pw_everycount_k05_letters_at_places.main.body.getD i (.Pass ⟨0, 0, 0, 0⟩)
def bs0 : List Str := ["any", "range", "sum", "zip", "tuple", "len", "list", "int", "abs", "min", "repr", "max"]
def cs0 : List (Str × D) := []
theorem ok_is_open : fnOkB ["form"] ["form"] (defScope (tb 1)) = true := by decide +kernel
theorem tr_is_open : trB 300 (gamOf ["form"] (defScope (tb 1)) bs0 [] cs0) (defBody (tb 1)) = some ir_is_open := by kernel_rfl
theorem ok_fixed_row : fnOkB ["word"] ["word"] (defScope (tb 2)) = true := by decide +kernel
theorem tr_fixed_row : trB 300 (gamOf ["word"] (defScope (tb 2)) bs0 [] cs0) (defBody (tb 2)) = some ir_fixed_row := by kernel_rfl
theorem ok_behind : fnOkB ["one", "other", "texts"] ["one", "other"] (defScope (tb 3)) = true := by decide +kernel
theorem tr_behind : trB 300 (gamOf ["one", "other", "texts"] (defScope (tb 3)) bs0 [] cs0) (defBody (tb 3)) = some ir_behind := by kernel_rfl
theorem ok_part_row : fnOkB ["part", "form", "inner", "found", "turn"] ["part"] (defScope (tb 4)) = true := by decide +kernel
theorem tr_part_row : trB 300 (gamOf ["part", "form", "inner", "found", "turn"] (defScope (tb 4)) bs0 ["parts_row", "is_open", "fixed_row", "behind"] cs0) (defBody (tb 4)) = some ir_part_row := by kernel_rfl
theorem ok_parts_row : fnOkB ["parts", "found", "part"] ["parts"] (defScope (tb 5)) = true := by decide +kernel
theorem tr_parts_row : trB 300 (gamOf ["parts", "found", "part"] (defScope (tb 5)) bs0 ["fixed_row", "behind", "part_row"] cs0) (defBody (tb 5)) = some ir_parts_row := by kernel_rfl
theorem ok_flat : fnOkB ["program", "texts", "loops"] ["program"] (defScope (tb 6)) = true := by decide +kernel
theorem tr_flat : trB 300 (gamOf ["program", "texts", "loops"] (defScope (tb 6)) bs0 ["parts_row"] cs0) (defBody (tb 6)) = some ir_flat := by kernel_rfl
theorem ok_value_of : fnOkB ["form", "counts", "factor", "count"] ["form", "counts"] (defScope (tb 8)) = true := by decide +kernel
theorem tr_value_of : trB 300 (gamOf ["form", "counts", "factor", "count"] (defScope (tb 8)) bs0 [] cs0) (defBody (tb 8)) = some ir_value_of := by kernel_rfl
theorem ok_runs_of : fnOkB ["row", "counts", "k", "texts", "loops", "found", "text", "word", "form", "run"] ["row", "counts"] (defScope (tb 10)) = true := by decide +kernel
theorem tr_runs_of : trB 300 (gamOf ["row", "counts", "k", "texts", "loops", "found", "text", "word", "form", "run"] (defScope (tb 10)) bs0 ["value_of"] cs0) (defBody (tb 10)) = some ir_runs_of := by kernel_rfl
theorem ok_letter_of : fnOkB ["runs", "place", "left", "word", "many"] ["runs", "place"] (defScope (tb 11)) = true := by decide +kernel
theorem tr_letter_of : trB 300 (gamOf ["runs", "place", "left", "word", "many"] (defScope (tb 11)) bs0 [] cs0) (defBody (tb 11)) = some ir_letter_of := by kernel_rfl
theorem ok_letter_at : fnOkB ["program", "counts", "place"] ["program", "counts", "place"] (defScope (tb 13)) = true := by decide +kernel
theorem tr_letter_at : trB 300 (gamOf ["program", "counts", "place"] (defScope (tb 13)) bs0 ["letter_of", "runs_of", "flat"] cs0) (defBody (tb 13)) = some ir_letter_at := by kernel_rfl
theorem ok_l_deck : fnOkB ["_law_script"] ["_law_script"] (defScope (tb 15)) = true := by decide +kernel
theorem tr_l_deck : trB 300 (gamOf ["_law_script"] (defScope (tb 15)) bs0 [] cs0) (defBody (tb 15)) = some ir_l_deck := by kernel_rfl
theorem ok_l_draw : fnOkB ["_law_deck_here", "_law_many", "_law_cell", "_law_mixed", "_law_found"] ["_law_deck_here", "_law_many"] (defScope (tb 16)) = true := by decide +kernel
theorem tr_l_draw : trB 300 (gamOf ["_law_deck_here", "_law_many", "_law_cell", "_law_mixed", "_law_found"] (defScope (tb 16)) bs0 [] cs0) (defBody (tb 16)) = some ir_l_draw := by kernel_rfl
theorem ok_l_one : fnOkB ["_law_deck_here", "_law_items"] ["_law_deck_here", "_law_items"] (defScope (tb 17)) = true := by decide +kernel
theorem tr_l_one : trB 300 (gamOf ["_law_deck_here", "_law_items"] (defScope (tb 17)) bs0 ["_law_draw"] cs0) (defBody (tb 17)) = some ir_l_one := by kernel_rfl
theorem ok_l_word : fnOkB ["_law_deck_here", "_law_most", "_law_some", "_law_turn"] ["_law_deck_here", "_law_most"] (defScope (tb 18)) = true := by decide +kernel
theorem tr_l_word : trB 300 (gamOf ["_law_deck_here", "_law_most", "_law_some", "_law_turn"] (defScope (tb 18)) bs0 ["_law_one", "_law_draw"] cs0) (defBody (tb 18)) = some ir_l_word := by kernel_rfl
theorem ok_l_form : fnOkB ["_law_deck_here", "_law_many", "_law_found", "_law_some", "_law_turn"] ["_law_deck_here", "_law_many"] (defScope (tb 19)) = true := by decide +kernel
theorem tr_l_form : trB 300 (gamOf ["_law_deck_here", "_law_many", "_law_found", "_law_some", "_law_turn"] (defScope (tb 19)) bs0 ["_law_one", "_law_draw"] cs0) (defBody (tb 19)) = some ir_l_form := by kernel_rfl
theorem ok_l_part : fnOkB ["_law_deck_here", "_law_many", "_law_deep", "_law_is_free", "_law_way", "_law_shape", "_law_inner", "_law_turn"] ["_law_deck_here", "_law_many", "_law_deep", "_law_is_free"] (defScope (tb 20)) = true := by decide +kernel
theorem tr_l_part : trB 300 (gamOf ["_law_deck_here", "_law_many", "_law_deep", "_law_is_free", "_law_way", "_law_shape", "_law_inner", "_law_turn"] (defScope (tb 20)) bs0 ["_law_draw", "_law_part", "_law_word", "_law_form"] cs0) (defBody (tb 20)) = some ir_l_part := by kernel_rfl
theorem ok_l_pieces : fnOkB ["_law_parts", "_law_found", "_law_one_here", "_law_some", "_law_shape"] ["_law_parts"] (defScope (tb 21)) = true := by decide +kernel
theorem tr_l_pieces : trB 300 (gamOf ["_law_parts", "_law_found", "_law_one_here", "_law_some", "_law_shape"] (defScope (tb 21)) bs0 ["_law_pieces"] cs0) (defBody (tb 21)) = some ir_l_pieces := by kernel_rfl
theorem ok_l_is_small : fnOkB ["_law_parts", "_law_some", "_law_size", "_law_one_here", "_law_shape"] ["_law_parts"] (defScope (tb 22)) = true := by decide +kernel
theorem tr_l_is_small : trB 300 (gamOf ["_law_parts", "_law_some", "_law_size", "_law_one_here", "_law_shape"] (defScope (tb 22)) bs0 ["_law_pieces"] cs0) (defBody (tb 22)) = some ir_l_is_small := by kernel_rfl
theorem ok_l_program : fnOkB ["_law_deck_here", "_law_many", "_law_parts", "_law_turn"] ["_law_deck_here", "_law_many"] (defScope (tb 23)) = true := by decide +kernel
theorem tr_l_program : trB 300 (gamOf ["_law_deck_here", "_law_many", "_law_parts", "_law_turn"] (defScope (tb 23)) bs0 ["_law_is_small", "_law_part", "_law_draw"] cs0) (defBody (tb 23)) = some ir_l_program := by kernel_rfl
theorem ok_l_number : fnOkB ["_law_shape", "_law_numbers_here", "_law_a", "_law_b"] ["_law_shape", "_law_numbers_here"] (defScope (tb 24)) = true := by decide +kernel
theorem tr_l_number : trB 300 (gamOf ["_law_shape", "_law_numbers_here", "_law_a", "_law_b"] (defScope (tb 24)) bs0 [] cs0) (defBody (tb 24)) = some ir_l_number := by kernel_rfl
theorem ok_l_text : fnOkB ["_law_parts", "_law_numbers_here", "_law_found", "_law_one_here", "_law_turns", "_law_inner"] ["_law_parts", "_law_numbers_here"] (defScope (tb 25)) = true := by decide +kernel
theorem tr_l_text : trB 300 (gamOf ["_law_parts", "_law_numbers_here", "_law_found", "_law_one_here", "_law_turns", "_law_inner"] (defScope (tb 25)) bs0 ["_law_number", "_law_text"] cs0) (defBody (tb 25)) = some ir_l_text := by kernel_rfl
theorem ok_l_numbers : fnOkB ["_law_deck_here", "_law_many", "_law_most", "_law_found", "_law_turn", "_law_some"] ["_law_deck_here", "_law_many", "_law_most"] (defScope (tb 26)) = true := by decide +kernel
theorem tr_l_numbers : trB 300 (gamOf ["_law_deck_here", "_law_many", "_law_most", "_law_found", "_law_turn", "_law_some"] (defScope (tb 26)) bs0 ["_law_draw", "_law_one"] cs0) (defBody (tb 26)) = some ir_l_numbers := by kernel_rfl
theorem ok_l_due : fnOkB ["_law_program_here", "_law_numbers_here", "_law_at", "_law_some", "_law_shape", "_law_turns"] ["_law_program_here", "_law_numbers_here", "_law_at"] (defScope (tb 27)) = true := by decide +kernel
theorem tr_l_due : trB 300 (gamOf ["_law_program_here", "_law_numbers_here", "_law_at", "_law_some", "_law_shape", "_law_turns"] (defScope (tb 27)) bs0 ["_law_pieces", "_law_number"] cs0) (defBody (tb 27)) = some ir_l_due := by kernel_rfl
theorem ok_l_edges : fnOkB ["_law_program_here", "_law_numbers_here", "_law_found", "_law_some", "_law_shape"] ["_law_program_here", "_law_numbers_here"] (defScope (tb 28)) = true := by decide +kernel
theorem tr_l_edges : trB 300 (gamOf ["_law_program_here", "_law_numbers_here", "_law_found", "_law_some", "_law_shape"] (defScope (tb 28)) bs0 ["_law_pieces", "_law_number"] cs0) (defBody (tb 28)) = some ir_l_edges := by kernel_rfl
theorem ok_law : fnOkB ["_law_script", "_law_deck_here", "_law_turn", "_law_many", "_law_program_here", "_law_held", "_law_most", "_law_text_here", "_law_numbers_here", "_law_edges_here", "_law_some", "_law_again", "_law_at"] ["_law_script"] (defScope (tb 29)) = true := by decide +kernel
theorem tr_law : trB 300 (gamOf ["_law_script", "_law_deck_here", "_law_turn", "_law_many", "_law_program_here", "_law_held", "_law_most", "_law_text_here", "_law_numbers_here", "_law_edges_here", "_law_some", "_law_again", "_law_at"] (defScope (tb 29)) bs0 ["_law_deck", "_law_draw", "_law_program", "_law_numbers", "_law_text", "_law_edges", "letter_at", "_law_due", "_law_one"] cs0) (defBody (tb 29)) = some ir_law := by kernel_rfl
structure Tops (K : PySem.W.Frag) (mg : Str → Option Value) : Prop where
  f_is_open : FT K mg "is_open" (tb 1) ["form"]
  f_fixed_row : FT K mg "fixed_row" (tb 2) ["word"]
  f_behind : FT K mg "behind" (tb 3) ["one", "other"]
  f_part_row : FT K mg "part_row" (tb 4) ["part"]
  f_parts_row : FT K mg "parts_row" (tb 5) ["parts"]
  f_flat : FT K mg "flat" (tb 6) ["program"]
  f_value_of : FT K mg "value_of" (tb 8) ["form", "counts"]
  f_runs_of : FT K mg "runs_of" (tb 10) ["row", "counts"]
  f_letter_of : FT K mg "letter_of" (tb 11) ["runs", "place"]
  f_letter_at : FT K mg "letter_at" (tb 13) ["program", "counts", "place"]
  f_l_deck : FT K mg "_law_deck" (tb 15) ["_law_script"]
  f_l_draw : FT K mg "_law_draw" (tb 16) ["_law_deck_here", "_law_many"]
  f_l_one : FT K mg "_law_one" (tb 17) ["_law_deck_here", "_law_items"]
  f_l_word : FT K mg "_law_word" (tb 18) ["_law_deck_here", "_law_most"]
  f_l_form : FT K mg "_law_form" (tb 19) ["_law_deck_here", "_law_many"]
  f_l_part : FT K mg "_law_part" (tb 20) ["_law_deck_here", "_law_many", "_law_deep", "_law_is_free"]
  f_l_pieces : FT K mg "_law_pieces" (tb 21) ["_law_parts"]
  f_l_is_small : FT K mg "_law_is_small" (tb 22) ["_law_parts"]
  f_l_program : FT K mg "_law_program" (tb 23) ["_law_deck_here", "_law_many"]
  f_l_number : FT K mg "_law_number" (tb 24) ["_law_shape", "_law_numbers_here"]
  f_l_text : FT K mg "_law_text" (tb 25) ["_law_parts", "_law_numbers_here"]
  f_l_numbers : FT K mg "_law_numbers" (tb 26) ["_law_deck_here", "_law_many", "_law_most"]
  f_l_due : FT K mg "_law_due" (tb 27) ["_law_program_here", "_law_numbers_here", "_law_at"]
  f_l_edges : FT K mg "_law_edges" (tb 28) ["_law_program_here", "_law_numbers_here"]
  md : Md K mg bs0 cs0
end G57
set_option Elab.async false
set_option linter.all false
set_option maxRecDepth 100000
set_option maxHeartbeats 1000000
namespace G57
open PySem L2 PySem.Spec PyProof.Rows
/-! the law's own way to a letter -/
def inC (ns : List Int) : Prop := ∀ n ∈ ns, 0 ≤ n ∧ n ≤ 2 ^ 64
theorem inC_wB {ns : List Int} (h : inC ns) : wB ns := fun n hn => by
  have := h n hn
  exact Nat.lt_of_le_of_lt (show n.natAbs ≤ 2 ^ 64 by omega) (Nat.pow_lt_pow_right (by decide) (by decide))
theorem okF_wB {m : Nat} {f : List Int} (h : okF m f) : wB f := fun i hi => by
  have := h.2 i hi
  exact Nat.lt_of_le_of_lt (show i.natAbs ≤ 2 ^ 7 by omega) (Nat.pow_lt_pow_right (by decide) (by decide))
theorem valC_le {m : Nat} {ps : List Pg} (h : OkPg m ps) {ns : List Int} (hn : inC ns) {x : Pc} (hx : x ∈ pcsPs ps) : 0 ≤ valC ns x.2 ∧ valC ns x.2 ≤ 2 ^ 80 := by
  have hp := pcss_ok ps 3 true h.ok _ hx
  obtain ⟨w, f⟩ := x
  cases f with
  | none => simp only [valC]; omega
  | some f =>
    have a := valF_pos hp fun n hn' => (hn n hn').1
    have b := valF_le h.m3 (B := 2 ^ 64) (by decide) hp hn
    simp only [valC]
    omega
theorem wlen_le {m : Nat} {ps : List Pg} (h : OkPg m ps) {x : Pc} (hx : x ∈ pcsPs ps) : x.1.length ≤ 290 := Nat.le_trans (word_le hx) (letN_small h)
theorem cm80 {n : Nat} {v : Int} (h : n ≤ 16777216) (h0 : 0 ≤ v) (hv : v ≤ 2 ^ 80) : CMulW (n : Int) v := cmul_B (len_B h) (Nat.lt_of_le_of_lt (show v.natAbs ≤ 2 ^ 80 by omega) (Nat.pow_lt_pow_right (by decide) (by decide)))
abbrev Ldu : List (Str × Spec2) := [("_law_pieces", sPieces), ("_law_number", sVal)]
/-- how often a piece stands there -/
theorem q_turns {M : List Nat} {i j : Nat} {env : En} {x : Pc} {m : Nat} {ns : List Int} {g : Nat} {Q : QK} {b : Bool} (hi : ownB M i = false) (hj : ownB M j = false) (hp : okPc m x) (hn : inC ns) (hl : ns.length ≤ 3)
    (ei : env[i]? = some (some (match x.2 with | none => .non | some f => .tup (f.map .int)))) (ej : env[j]? = some (some (.tup (ns.map .int)))) (k : Q (.int (valC ns x.2)) g) :
    wqE M (tab2 Ldu) (.ite (.cmp .Is (.var i) (.con .non)) (.con (.int 1)) (.call 1 (.cons (.var i) (.cons (.var j) (.nil))))) b env g Q := by
  obtain ⟨w, f⟩ := x
  cases f with
  | none =>
    simp only at ei
    simp only [wqE, wqT, wqA, wqC, wqO, wqI, wqJ, addV_ii, addV_ss, addV_tt, addV_rr, subV_ii, mulV_ii, mulV_si, mulV_ti, mulV_ri, fdivV_ii, modV_ii, powV_ii, negV_i, truthV_s, truthV_n, truthV_b, truthV_i, truthV_t, truthV_r, ordV_ii, ordV_ss, idxV_t, idxV_r, idxV_s, slV_t, slV_r, slV_s, biV_len_s, biV_len_t, biV_len_r, biV_sum_t, biV_sum_r, biV_any_t, biV_any_r, biV_all_t, biV_all_r, biV_abs, biV_min, biV_max, biV_int_i, biV_int_b, biV_int_s, biV_str, biV_tuple_t, biV_tuple_r, biV_list_t, biV_list_r, mtV_join_t, mtV_join_r, mtV_count, mtO_join, mtO_count, itV_t, itV_r, itV_s, rng1V_i, rng2V_i, fmtV_s, fmtV_i, flatD_n, flatD_b, flatD_i, flatD_s, opV_Add, opV_Sub, opV_Mult, opV_FloorDiv, opV_Mod, opV_Pow, cmpV_Eq, cmpV_NotEq, cmpV_Is, cmpV_IsNot, cmpV_In, cmpV_NotIn, cmpV_Lt, cmpV_LtE, cmpV_Gt, cmpV_GtE, wqP_v, wqP_t, wqP_r, wqPs_n, wqPs_c, eqV_ii, eqV_ss, eqV_bb, isV_n, isV_bb, isNon, inV_ss, Bool.true_or, ei, List.getElem?_cons_zero, List.getElem?_cons_succ, List.set_cons_zero, List.set_cons_succ, Option.some.injEq, exists_eq_left', exists_eq_left, Option.map_some, Bool.false_xor, Bool.true_xor, put_same, put_put, Ob.lst.injEq, D.int.injEq, D.bl.injEq, D.str.injEq, D.tup.injEq, D.ref.injEq, seqD_t, seqD_l, seqD_r, atI_0, atI_1, atI_2, atI_3, exists_and_left, exists_eq', and_true, true_and, decide_eq_true_eq, isNon, if_true]
    exact k
  | some f =>
    simp only at ei
    simp only [wqE, wqT, wqA, wqC, wqO, wqI, wqJ, addV_ii, addV_ss, addV_tt, addV_rr, subV_ii, mulV_ii, mulV_si, mulV_ti, mulV_ri, fdivV_ii, modV_ii, powV_ii, negV_i, truthV_s, truthV_n, truthV_b, truthV_i, truthV_t, truthV_r, ordV_ii, ordV_ss, idxV_t, idxV_r, idxV_s, slV_t, slV_r, slV_s, biV_len_s, biV_len_t, biV_len_r, biV_sum_t, biV_sum_r, biV_any_t, biV_any_r, biV_all_t, biV_all_r, biV_abs, biV_min, biV_max, biV_int_i, biV_int_b, biV_int_s, biV_str, biV_tuple_t, biV_tuple_r, biV_list_t, biV_list_r, mtV_join_t, mtV_join_r, mtV_count, mtO_join, mtO_count, itV_t, itV_r, itV_s, rng1V_i, rng2V_i, fmtV_s, fmtV_i, flatD_n, flatD_b, flatD_i, flatD_s, opV_Add, opV_Sub, opV_Mult, opV_FloorDiv, opV_Mod, opV_Pow, cmpV_Eq, cmpV_NotEq, cmpV_Is, cmpV_IsNot, cmpV_In, cmpV_NotIn, cmpV_Lt, cmpV_LtE, cmpV_Gt, cmpV_GtE, wqP_v, wqP_t, wqP_r, wqPs_n, wqPs_c, eqV_ii, eqV_ss, eqV_bb, isV_n, isV_bb, isNon, inV_ss, Bool.true_or, ei, ej, hi, hj, ownB, Bool.true_or, Bool.false_or, Bool.or_false, Bool.not_false, Bool.not_true, Nat.reduceBEq, Bool.or_self, Bool.or_true, tab2_q, List.getElem?_cons_zero, List.getElem?_cons_succ, List.set_cons_zero, List.set_cons_succ, Option.some.injEq, exists_eq_left', exists_eq_left, Option.map_some, Bool.false_xor, Bool.true_xor, put_same, put_put, Ob.lst.injEq, D.int.injEq, D.bl.injEq, D.str.injEq, D.tup.injEq, D.ref.injEq, seqD_t, seqD_l, seqD_r, atI_0, atI_1, atI_2, atI_3, exists_and_left, exists_eq', and_true, true_and, decide_eq_true_eq, isNon, Bool.false_eq_true, if_false]
    refine ⟨f, ns, rfl, ?_, okF_wB hp, inC_wB hn, by omega, k⟩
    intro e; rw [e] at hp; simp [okPc, okF] at hp
theorem encPc_eq (x : Pc) : encPc x = .tup [.str x.1, match x.2 with | none => .non | some f => .tup (f.map .int)] := by
  obtain ⟨w, f⟩ := x
  cases f <;> rfl
def sDue : Spec2 := fun ds g Q => ∃ (m : Nat) (ps : List Pg) (ns : List Int) (i : Int), ds = [encPg m ps, .tup (ns.map .int), .int i] ∧ OkPg m ps ∧ inC ns ∧ ns.length ≤ 3 ∧ 0 ≤ i ∧ Q (optD (wrts ns ps)[i.toNat]?) g
theorem q_due : ∀ ds g Q, sDue ds g Q → OkS (tab2 Ldu) [] ir_l_due { nx := fun _ g' => Q .non g', rt := Q } (startD ["_law_program_here", "_law_numbers_here", "_law_at", "_law_some", "_law_shape", "_law_turns"] ds) g := by
  rintro ds g Q ⟨m, ps, ns, i, rfl, hp, hn, hl3, hi, k⟩
  rw [show startD ["_law_program_here", "_law_numbers_here", "_law_at", "_law_some", "_law_shape", "_law_turns"] [encPg m ps, .tup (ns.map .int), .int i] = [some (encPg m ps), some (.tup (ns.map .int)), some (.int i), none, none, none] from rfl]
  unfold ir_l_due
  refine ok_cons (ok_loop rfl ?_)
  simp only [encPg, wqE, wqT, wqA, wqC, wqO, wqI, wqJ, addV_ii, addV_ss, addV_tt, addV_rr, subV_ii, mulV_ii, mulV_si, mulV_ti, mulV_ri, fdivV_ii, modV_ii, powV_ii, negV_i, truthV_s, truthV_n, truthV_b, truthV_i, truthV_t, truthV_r, ordV_ii, ordV_ss, idxV_t, idxV_r, idxV_s, slV_t, slV_r, slV_s, biV_len_s, biV_len_t, biV_len_r, biV_sum_t, biV_sum_r, biV_any_t, biV_any_r, biV_all_t, biV_all_r, biV_abs, biV_min, biV_max, biV_int_i, biV_int_b, biV_int_s, biV_str, biV_tuple_t, biV_tuple_r, biV_list_t, biV_list_r, mtV_join_t, mtV_join_r, mtV_count, mtO_join, mtO_count, itV_t, itV_r, itV_s, rng1V_i, rng2V_i, fmtV_s, fmtV_i, flatD_n, flatD_b, flatD_i, flatD_s, opV_Add, opV_Sub, opV_Mult, opV_FloorDiv, opV_Mod, opV_Pow, cmpV_Eq, cmpV_NotEq, cmpV_Is, cmpV_IsNot, cmpV_In, cmpV_NotIn, cmpV_Lt, cmpV_LtE, cmpV_Gt, cmpV_GtE, wqP_v, wqP_t, wqP_r, wqPs_n, wqPs_c, eqV_ii, eqV_ss, eqV_bb, isV_n, isV_bb, isNon, inV_ss, ownB, Bool.true_or, Bool.false_or, Bool.or_false, Bool.not_false, Bool.not_true, Nat.reduceBEq, Bool.or_self, Bool.or_true, tab2_q, List.getElem?_cons_zero, List.getElem?_cons_succ, List.set_cons_zero, List.set_cons_succ, Option.some.injEq, exists_eq_left', exists_eq_left, Option.map_some, Bool.false_xor, Bool.true_xor, put_same, put_put, Ob.lst.injEq, D.int.injEq, D.bl.injEq, D.str.injEq, D.tup.injEq, D.ref.injEq, seqD_t, seqD_l, seqD_r, atI_0, atI_1, atI_2, atI_3, exists_and_left, exists_eq', and_true, true_and, decide_eq_true_eq]
  refine ⟨ps, m, 3, true, rfl, hp.ok, by omega, hp.len, ?_⟩
  simp only [wqE, wqT, wqA, wqC, wqO, wqI, wqJ, addV_ii, addV_ss, addV_tt, addV_rr, subV_ii, mulV_ii, mulV_si, mulV_ti, mulV_ri, fdivV_ii, modV_ii, powV_ii, negV_i, truthV_s, truthV_n, truthV_b, truthV_i, truthV_t, truthV_r, ordV_ii, ordV_ss, idxV_t, idxV_r, idxV_s, slV_t, slV_r, slV_s, biV_len_s, biV_len_t, biV_len_r, biV_sum_t, biV_sum_r, biV_any_t, biV_any_r, biV_all_t, biV_all_r, biV_abs, biV_min, biV_max, biV_int_i, biV_int_b, biV_int_s, biV_str, biV_tuple_t, biV_tuple_r, biV_list_t, biV_list_r, mtV_join_t, mtV_join_r, mtV_count, mtO_join, mtO_count, itV_t, itV_r, itV_s, rng1V_i, rng2V_i, fmtV_s, fmtV_i, flatD_n, flatD_b, flatD_i, flatD_s, opV_Add, opV_Sub, opV_Mult, opV_FloorDiv, opV_Mod, opV_Pow, cmpV_Eq, cmpV_NotEq, cmpV_Is, cmpV_IsNot, cmpV_In, cmpV_NotIn, cmpV_Lt, cmpV_LtE, cmpV_Gt, cmpV_GtE, wqP_v, wqP_t, wqP_r, wqPs_n, wqPs_c, eqV_ii, eqV_ss, eqV_bb, isV_n, isV_bb, isNon, inV_ss, ownB, Bool.true_or, Bool.false_or, Bool.or_false, Bool.not_false, Bool.not_true, Nat.reduceBEq, Bool.or_self, Bool.or_true, tab2_q, List.getElem?_cons_zero, List.getElem?_cons_succ, List.set_cons_zero, List.set_cons_succ, Option.some.injEq, exists_eq_left', exists_eq_left, Option.map_some, Bool.false_xor, Bool.true_xor, put_same, put_put, Ob.lst.injEq, D.int.injEq, D.bl.injEq, D.str.injEq, D.tup.injEq, D.ref.injEq, seqD_t, seqD_l, seqD_r, atI_0, atI_1, atI_2, atI_3, exists_and_left, exists_eq', and_true, true_and, decide_eq_true_eq]
  rw [← hp.pct] at k
  generalize hT : optD (pcT ns (pcsPs ps))[i.toNat]? = T at k
  refine forV_inv (fun xs env g' => g' = g ∧ ∃ (us : List Pc) (l : Int) (o3 o4 o5 : Option D), xs = us.map encPc ∧ 0 ≤ l ∧ (∀ x ∈ us, x ∈ pcsPs ps) ∧ optD (pcT ns us)[l.toNat]? = T ∧
    env = [some (encPg m ps), some (.tup (ns.map .int)), some (.int l), o3, o4, o5]) _ _ _ ⟨rfl, pcsPs ps, i, none, none, none, rfl, hi, fun _ h => h, hT, rfl⟩ ?_ ?_
  · rintro x r' env g' N' ⟨rfl, us, l, o3, o4, o5, hr, hl, hok, ht, rfl⟩ hN
    cases us with
    | nil => cases hr
    | cons y us =>
      rw [List.map_cons] at hr
      cases hr
      have hy := hok y List.mem_cons_self
      have hv := valC_le hp hn hy
      have hw := wlen_le hp hy
      have hpc := pcss_ok ps 3 true hp.ok _ hy
      rw [pcT_cons] at ht
      have hlen : ((runT (y.1, valC ns y.2)).length : Int) = y.1.length * valC ns y.2 := by
        rw [runT_len, Int.natCast_mul, Int.mul_comm]
        simp only
        rw [Int.toNat_of_nonneg hv.1]
      rw [encPc_eq]
      simp only [wqE, wqT, wqA, wqC, wqO, wqI, wqJ, addV_ii, addV_ss, addV_tt, addV_rr, subV_ii, mulV_ii, mulV_si, mulV_ti, mulV_ri, fdivV_ii, modV_ii, powV_ii, negV_i, truthV_s, truthV_n, truthV_b, truthV_i, truthV_t, truthV_r, ordV_ii, ordV_ss, idxV_t, idxV_r, idxV_s, slV_t, slV_r, slV_s, biV_len_s, biV_len_t, biV_len_r, biV_sum_t, biV_sum_r, biV_any_t, biV_any_r, biV_all_t, biV_all_r, biV_abs, biV_min, biV_max, biV_int_i, biV_int_b, biV_int_s, biV_str, biV_tuple_t, biV_tuple_r, biV_list_t, biV_list_r, mtV_join_t, mtV_join_r, mtV_count, mtO_join, mtO_count, itV_t, itV_r, itV_s, rng1V_i, rng2V_i, fmtV_s, fmtV_i, flatD_n, flatD_b, flatD_i, flatD_s, opV_Add, opV_Sub, opV_Mult, opV_FloorDiv, opV_Mod, opV_Pow, cmpV_Eq, cmpV_NotEq, cmpV_Is, cmpV_IsNot, cmpV_In, cmpV_NotIn, cmpV_Lt, cmpV_LtE, cmpV_Gt, cmpV_GtE, wqP_v, wqP_t, wqP_r, wqPs_n, wqPs_c, eqV_ii, eqV_ss, eqV_bb, isV_n, isV_bb, isNon, inV_ss, ownB, Bool.true_or, Bool.false_or, Bool.or_false, Bool.not_false, Bool.not_true, Nat.reduceBEq, Bool.or_self, Bool.or_true, tab2_q, List.getElem?_cons_zero, List.getElem?_cons_succ, List.set_cons_zero, List.set_cons_succ, Option.some.injEq, exists_eq_left', exists_eq_left, Option.map_some, Bool.false_xor, Bool.true_xor, put_same, put_put, Ob.lst.injEq, D.int.injEq, D.bl.injEq, D.str.injEq, D.tup.injEq, D.ref.injEq, seqD_t, seqD_l, seqD_r, atI_0, atI_1, atI_2, atI_3, exists_and_left, exists_eq', and_true, true_and, decide_eq_true_eq]
      unfold ir_l_due_b1
      refine ok_cons (ok_asg rfl ?_)
      refine q_turns rfl rfl hpc hn hl3 rfl rfl ?_
      simp only [wqE, wqT, wqA, wqC, wqO, wqI, wqJ, addV_ii, addV_ss, addV_tt, addV_rr, subV_ii, mulV_ii, mulV_si, mulV_ti, mulV_ri, fdivV_ii, modV_ii, powV_ii, negV_i, truthV_s, truthV_n, truthV_b, truthV_i, truthV_t, truthV_r, ordV_ii, ordV_ss, idxV_t, idxV_r, idxV_s, slV_t, slV_r, slV_s, biV_len_s, biV_len_t, biV_len_r, biV_sum_t, biV_sum_r, biV_any_t, biV_any_r, biV_all_t, biV_all_r, biV_abs, biV_min, biV_max, biV_int_i, biV_int_b, biV_int_s, biV_str, biV_tuple_t, biV_tuple_r, biV_list_t, biV_list_r, mtV_join_t, mtV_join_r, mtV_count, mtO_join, mtO_count, itV_t, itV_r, itV_s, rng1V_i, rng2V_i, fmtV_s, fmtV_i, flatD_n, flatD_b, flatD_i, flatD_s, opV_Add, opV_Sub, opV_Mult, opV_FloorDiv, opV_Mod, opV_Pow, cmpV_Eq, cmpV_NotEq, cmpV_Is, cmpV_IsNot, cmpV_In, cmpV_NotIn, cmpV_Lt, cmpV_LtE, cmpV_Gt, cmpV_GtE, wqP_v, wqP_t, wqP_r, wqPs_n, wqPs_c, eqV_ii, eqV_ss, eqV_bb, isV_n, isV_bb, isNon, inV_ss, ownB, Bool.true_or, Bool.false_or, Bool.or_false, Bool.not_false, Bool.not_true, Nat.reduceBEq, Bool.or_self, Bool.or_true, tab2_q, List.getElem?_cons_zero, List.getElem?_cons_succ, List.set_cons_zero, List.set_cons_succ, Option.some.injEq, exists_eq_left', exists_eq_left, Option.map_some, Bool.false_xor, Bool.true_xor, put_same, put_put, Ob.lst.injEq, D.int.injEq, D.bl.injEq, D.str.injEq, D.tup.injEq, D.ref.injEq, seqD_t, seqD_l, seqD_r, atI_0, atI_1, atI_2, atI_3, exists_and_left, exists_eq', and_true, true_and, decide_eq_true_eq]
      unfold ir_l_due_b1_1
      refine ok_cons (ok_iff ?_)
      simp only [wqE, wqT, wqA, wqC, wqO, wqI, wqJ, addV_ii, addV_ss, addV_tt, addV_rr, subV_ii, mulV_ii, mulV_si, mulV_ti, mulV_ri, fdivV_ii, modV_ii, powV_ii, negV_i, truthV_s, truthV_n, truthV_b, truthV_i, truthV_t, truthV_r, ordV_ii, ordV_ss, idxV_t, idxV_r, idxV_s, slV_t, slV_r, slV_s, biV_len_s, biV_len_t, biV_len_r, biV_sum_t, biV_sum_r, biV_any_t, biV_any_r, biV_all_t, biV_all_r, biV_abs, biV_min, biV_max, biV_int_i, biV_int_b, biV_int_s, biV_str, biV_tuple_t, biV_tuple_r, biV_list_t, biV_list_r, mtV_join_t, mtV_join_r, mtV_count, mtO_join, mtO_count, itV_t, itV_r, itV_s, rng1V_i, rng2V_i, fmtV_s, fmtV_i, flatD_n, flatD_b, flatD_i, flatD_s, opV_Add, opV_Sub, opV_Mult, opV_FloorDiv, opV_Mod, opV_Pow, cmpV_Eq, cmpV_NotEq, cmpV_Is, cmpV_IsNot, cmpV_In, cmpV_NotIn, cmpV_Lt, cmpV_LtE, cmpV_Gt, cmpV_GtE, wqP_v, wqP_t, wqP_r, wqPs_n, wqPs_c, eqV_ii, eqV_ss, eqV_bb, isV_n, isV_bb, isNon, inV_ss, ownB, Bool.true_or, Bool.false_or, Bool.or_false, Bool.not_false, Bool.not_true, Nat.reduceBEq, Bool.or_self, Bool.or_true, tab2_q, List.getElem?_cons_zero, List.getElem?_cons_succ, List.set_cons_zero, List.set_cons_succ, Option.some.injEq, exists_eq_left', exists_eq_left, Option.map_some, Bool.false_xor, Bool.true_xor, put_same, put_put, Ob.lst.injEq, D.int.injEq, D.bl.injEq, D.str.injEq, D.tup.injEq, D.ref.injEq, seqD_t, seqD_l, seqD_r, atI_0, atI_1, atI_2, atI_3, exists_and_left, exists_eq', and_true, true_and, decide_eq_true_eq]
      have hcm := cm80 (n := y.1.length) (by omega) hv.1 hv.2
      refine ⟨by omega, hcm, ?_⟩
      by_cases hlt : l < y.1.length * valC ns y.2
      · rw [if_pos hlt]
        have hw0 : y.1 ≠ [] := fun e => by rw [e] at hlt; simp at hlt; omega
        have hp0 : 0 < y.1.length := List.length_pos_iff.mpr hw0
        have hlt' : l.toNat < (runT (y.1, valC ns y.2)).length := by omega
        unfold ir_l_due_b2
        refine ok_cons (ok_ret ?_)
        simp only [wqE, wqT, wqA, wqC, wqO, wqI, wqJ, addV_ii, addV_ss, addV_tt, addV_rr, subV_ii, mulV_ii, mulV_si, mulV_ti, mulV_ri, fdivV_ii, modV_ii, powV_ii, negV_i, truthV_s, truthV_n, truthV_b, truthV_i, truthV_t, truthV_r, ordV_ii, ordV_ss, idxV_t, idxV_r, idxV_s, slV_t, slV_r, slV_s, biV_len_s, biV_len_t, biV_len_r, biV_sum_t, biV_sum_r, biV_any_t, biV_any_r, biV_all_t, biV_all_r, biV_abs, biV_min, biV_max, biV_int_i, biV_int_b, biV_int_s, biV_str, biV_tuple_t, biV_tuple_r, biV_list_t, biV_list_r, mtV_join_t, mtV_join_r, mtV_count, mtO_join, mtO_count, itV_t, itV_r, itV_s, rng1V_i, rng2V_i, fmtV_s, fmtV_i, flatD_n, flatD_b, flatD_i, flatD_s, opV_Add, opV_Sub, opV_Mult, opV_FloorDiv, opV_Mod, opV_Pow, cmpV_Eq, cmpV_NotEq, cmpV_Is, cmpV_IsNot, cmpV_In, cmpV_NotIn, cmpV_Lt, cmpV_LtE, cmpV_Gt, cmpV_GtE, wqP_v, wqP_t, wqP_r, wqPs_n, wqPs_c, eqV_ii, eqV_ss, eqV_bb, isV_n, isV_bb, isNon, inV_ss, ownB, Bool.true_or, Bool.false_or, Bool.or_false, Bool.not_false, Bool.not_true, Nat.reduceBEq, Bool.or_self, Bool.or_true, tab2_q, List.getElem?_cons_zero, List.getElem?_cons_succ, List.set_cons_zero, List.set_cons_succ, Option.some.injEq, exists_eq_left', exists_eq_left, Option.map_some, Bool.false_xor, Bool.true_xor, put_same, put_put, Ob.lst.injEq, D.int.injEq, D.bl.injEq, D.str.injEq, D.tup.injEq, D.ref.injEq, seqD_t, seqD_l, seqD_r, atI_0, atI_1, atI_2, atI_3, exists_and_left, exists_eq', and_true, true_and, decide_eq_true_eq]
        have hm0 := Int.emod_nonneg l (show (y.1.length : Int) ≠ 0 by omega)
        have hm1 := Int.emod_lt_of_pos l (show 0 < (y.1.length : Int) by omega)
        have hmn : (l % y.1.length).toNat = l.toNat % y.1.length := by
          obtain ⟨a, rfl⟩ := Int.eq_ofNat_of_zero_le hl
          rw [← Int.natCast_emod, Int.toNat_natCast, Int.toNat_natCast]
        have hj : (l % y.1.length).toNat < y.1.length := by omega
        refine ⟨by omega, by omega, by omega, y.1[(l % y.1.length).toNat], ?_, ?_⟩
        · rw [atI_n (n := (l % y.1.length).toNat) (by omega), List.getElem?_eq_getElem hj]
        · have e : (runT (y.1, valC ns y.2) ++ pcT ns us)[l.toNat]? = some y.1[(l % y.1.length).toNat] := by
            rw [List.getElem?_append_left hlt']
            unfold runT at hlt' ⊢
            rw [rep_get y.1 hw0 _ _ (by rw [len_rep] at hlt'; exact hlt'), ← hmn, List.getElem?_eq_getElem hj]
          rw [e] at ht
          rw [show D.str [y.1[(l % y.1.length).toNat]] = T from ht]
          exact k
      · rw [if_neg hlt]
        refine ok_nil ?_
        unfold ir_l_due_b1_2
        refine ok_cons (ok_asg rfl ?_)
        simp only [wqE, wqT, wqA, wqC, wqO, wqI, wqJ, addV_ii, addV_ss, addV_tt, addV_rr, subV_ii, mulV_ii, mulV_si, mulV_ti, mulV_ri, fdivV_ii, modV_ii, powV_ii, negV_i, truthV_s, truthV_n, truthV_b, truthV_i, truthV_t, truthV_r, ordV_ii, ordV_ss, idxV_t, idxV_r, idxV_s, slV_t, slV_r, slV_s, biV_len_s, biV_len_t, biV_len_r, biV_sum_t, biV_sum_r, biV_any_t, biV_any_r, biV_all_t, biV_all_r, biV_abs, biV_min, biV_max, biV_int_i, biV_int_b, biV_int_s, biV_str, biV_tuple_t, biV_tuple_r, biV_list_t, biV_list_r, mtV_join_t, mtV_join_r, mtV_count, mtO_join, mtO_count, itV_t, itV_r, itV_s, rng1V_i, rng2V_i, fmtV_s, fmtV_i, flatD_n, flatD_b, flatD_i, flatD_s, opV_Add, opV_Sub, opV_Mult, opV_FloorDiv, opV_Mod, opV_Pow, cmpV_Eq, cmpV_NotEq, cmpV_Is, cmpV_IsNot, cmpV_In, cmpV_NotIn, cmpV_Lt, cmpV_LtE, cmpV_Gt, cmpV_GtE, wqP_v, wqP_t, wqP_r, wqPs_n, wqPs_c, eqV_ii, eqV_ss, eqV_bb, isV_n, isV_bb, isNon, inV_ss, ownB, Bool.true_or, Bool.false_or, Bool.or_false, Bool.not_false, Bool.not_true, Nat.reduceBEq, Bool.or_self, Bool.or_true, tab2_q, List.getElem?_cons_zero, List.getElem?_cons_succ, List.set_cons_zero, List.set_cons_succ, Option.some.injEq, exists_eq_left', exists_eq_left, Option.map_some, Bool.false_xor, Bool.true_xor, put_same, put_put, Ob.lst.injEq, D.int.injEq, D.bl.injEq, D.str.injEq, D.tup.injEq, D.ref.injEq, seqD_t, seqD_l, seqD_r, atI_0, atI_1, atI_2, atI_3, exists_and_left, exists_eq', and_true, true_and, decide_eq_true_eq]
        refine ⟨by omega, hcm, ok_nil (hN _ _ ⟨rfl, us, l - y.1.length * valC ns y.2, _, _, _, rfl, by omega, fun x hx => hok x (by simp [hx]), ?_, rfl⟩)⟩
        rw [List.getElem?_append_right (by omega)] at ht
        rw [show (l - y.1.length * valC ns y.2).toNat = l.toNat - (runT (y.1, valC ns y.2)).length by omega]
        exact ht
  · rintro env g' ⟨rfl, us, l, o3, o4, o5, hr, hl, hok, ht, rfl⟩
    cases us with
    | cons y us => cases hr
    | nil =>
      unfold ir_l_due_1
      refine ok_cons (ok_ret ?_)
      simp only [wqE, wqT, wqA, wqC, wqO, wqI, wqJ, addV_ii, addV_ss, addV_tt, addV_rr, subV_ii, mulV_ii, mulV_si, mulV_ti, mulV_ri, fdivV_ii, modV_ii, powV_ii, negV_i, truthV_s, truthV_n, truthV_b, truthV_i, truthV_t, truthV_r, ordV_ii, ordV_ss, idxV_t, idxV_r, idxV_s, slV_t, slV_r, slV_s, biV_len_s, biV_len_t, biV_len_r, biV_sum_t, biV_sum_r, biV_any_t, biV_any_r, biV_all_t, biV_all_r, biV_abs, biV_min, biV_max, biV_int_i, biV_int_b, biV_int_s, biV_str, biV_tuple_t, biV_tuple_r, biV_list_t, biV_list_r, mtV_join_t, mtV_join_r, mtV_count, mtO_join, mtO_count, itV_t, itV_r, itV_s, rng1V_i, rng2V_i, fmtV_s, fmtV_i, flatD_n, flatD_b, flatD_i, flatD_s, opV_Add, opV_Sub, opV_Mult, opV_FloorDiv, opV_Mod, opV_Pow, cmpV_Eq, cmpV_NotEq, cmpV_Is, cmpV_IsNot, cmpV_In, cmpV_NotIn, cmpV_Lt, cmpV_LtE, cmpV_Gt, cmpV_GtE, wqP_v, wqP_t, wqP_r, wqPs_n, wqPs_c, eqV_ii, eqV_ss, eqV_bb, isV_n, isV_bb, isNon, inV_ss, ownB, Bool.true_or, Bool.false_or, Bool.or_false, Bool.not_false, Bool.not_true, Nat.reduceBEq, Bool.or_self, Bool.or_true, tab2_q, List.getElem?_cons_zero, List.getElem?_cons_succ, List.set_cons_zero, List.set_cons_succ, Option.some.injEq, exists_eq_left', exists_eq_left, Option.map_some, Bool.false_xor, Bool.true_xor, put_same, put_put, Ob.lst.injEq, D.int.injEq, D.bl.injEq, D.str.injEq, D.tup.injEq, D.ref.injEq, seqD_t, seqD_l, seqD_r, atI_0, atI_1, atI_2, atI_3, exists_and_left, exists_eq', and_true, true_and, decide_eq_true_eq]
      simp only [pcT, List.map_nil, List.flatten_nil, List.getElem?_nil, optD] at ht
      rw [ht]; exact k
/-! edges -/
def sEdges : Spec2 := fun ds g Q => ∃ (m : Nat) (ps : List Pg) (ns : List Int), ds = [encPg m ps, .tup (ns.map .int)] ∧ OkPg m ps ∧ inC ns ∧ ns.length ≤ 3 ∧ ∀ es : List Int, es ≠ [] → es.length ≤ 1081 → (∀ e ∈ es, 0 ≤ e ∧ e ≤ 2 ^ 120) → Q (.rol (es.map .int)) g
theorem q_edges : ∀ ds g Q, sEdges ds g Q → OkS (tab2 Ldu) [2] ir_l_edges { nx := fun _ g' => Q .non g', rt := Q } (startD ["_law_program_here", "_law_numbers_here", "_law_found", "_law_some", "_law_shape"] ds) g := by
  rintro ds g Q ⟨m, ps, ns, rfl, hp, hn, hl3, k⟩
  rw [show startD ["_law_program_here", "_law_numbers_here", "_law_found", "_law_some", "_law_shape"] [encPg m ps, .tup (ns.map .int)] = [some (encPg m ps), some (.tup (ns.map .int)), none, none, none] from rfl]
  have npc := hp.npcs
  unfold ir_l_edges
  refine ok_cons (ok_asgO rfl rfl ?_)
  simp only [wqE, wqT, wqA, wqC, wqO, wqI, wqJ, addV_ii, addV_ss, addV_tt, addV_rr, subV_ii, mulV_ii, mulV_si, mulV_ti, mulV_ri, fdivV_ii, modV_ii, powV_ii, negV_i, truthV_s, truthV_n, truthV_b, truthV_i, truthV_t, truthV_r, ordV_ii, ordV_ss, idxV_t, idxV_r, idxV_s, slV_t, slV_r, slV_s, biV_len_s, biV_len_t, biV_len_r, biV_sum_t, biV_sum_r, biV_any_t, biV_any_r, biV_all_t, biV_all_r, biV_abs, biV_min, biV_max, biV_int_i, biV_int_b, biV_int_s, biV_str, biV_tuple_t, biV_tuple_r, biV_list_t, biV_list_r, mtV_join_t, mtV_join_r, mtV_count, mtO_join, mtO_count, itV_t, itV_r, itV_s, rng1V_i, rng2V_i, fmtV_s, fmtV_i, flatD_n, flatD_b, flatD_i, flatD_s, opV_Add, opV_Sub, opV_Mult, opV_FloorDiv, opV_Mod, opV_Pow, cmpV_Eq, cmpV_NotEq, cmpV_Is, cmpV_IsNot, cmpV_In, cmpV_NotIn, cmpV_Lt, cmpV_LtE, cmpV_Gt, cmpV_GtE, wqP_v, wqP_t, wqP_r, wqPs_n, wqPs_c, eqV_ii, eqV_ss, eqV_bb, isV_n, isV_bb, isNon, inV_ss, ownB, Bool.true_or, Bool.false_or, Bool.or_false, Bool.not_false, Bool.not_true, Nat.reduceBEq, Bool.or_self, Bool.or_true, tab2_q, List.getElem?_cons_zero, List.getElem?_cons_succ, List.set_cons_zero, List.set_cons_succ, Option.some.injEq, exists_eq_left', exists_eq_left, Option.map_some, Bool.false_xor, Bool.true_xor, put_same, put_put, Ob.lst.injEq, D.int.injEq, D.bl.injEq, D.str.injEq, D.tup.injEq, D.ref.injEq, seqD_t, seqD_l, seqD_r, atI_0, atI_1, atI_2, atI_3, exists_and_left, exists_eq', and_true, true_and, decide_eq_true_eq]
  refine ⟨by simp, _, rfl, ?_⟩
  unfold ir_l_edges_1
  refine ok_cons (ok_loop rfl ?_)
  simp only [encPg, wqE, wqT, wqA, wqC, wqO, wqI, wqJ, addV_ii, addV_ss, addV_tt, addV_rr, subV_ii, mulV_ii, mulV_si, mulV_ti, mulV_ri, fdivV_ii, modV_ii, powV_ii, negV_i, truthV_s, truthV_n, truthV_b, truthV_i, truthV_t, truthV_r, ordV_ii, ordV_ss, idxV_t, idxV_r, idxV_s, slV_t, slV_r, slV_s, biV_len_s, biV_len_t, biV_len_r, biV_sum_t, biV_sum_r, biV_any_t, biV_any_r, biV_all_t, biV_all_r, biV_abs, biV_min, biV_max, biV_int_i, biV_int_b, biV_int_s, biV_str, biV_tuple_t, biV_tuple_r, biV_list_t, biV_list_r, mtV_join_t, mtV_join_r, mtV_count, mtO_join, mtO_count, itV_t, itV_r, itV_s, rng1V_i, rng2V_i, fmtV_s, fmtV_i, flatD_n, flatD_b, flatD_i, flatD_s, opV_Add, opV_Sub, opV_Mult, opV_FloorDiv, opV_Mod, opV_Pow, cmpV_Eq, cmpV_NotEq, cmpV_Is, cmpV_IsNot, cmpV_In, cmpV_NotIn, cmpV_Lt, cmpV_LtE, cmpV_Gt, cmpV_GtE, wqP_v, wqP_t, wqP_r, wqPs_n, wqPs_c, eqV_ii, eqV_ss, eqV_bb, isV_n, isV_bb, isNon, inV_ss, ownB, Bool.true_or, Bool.false_or, Bool.or_false, Bool.not_false, Bool.not_true, Nat.reduceBEq, Bool.or_self, Bool.or_true, tab2_q, List.getElem?_cons_zero, List.getElem?_cons_succ, List.set_cons_zero, List.set_cons_succ, Option.some.injEq, exists_eq_left', exists_eq_left, Option.map_some, Bool.false_xor, Bool.true_xor, put_same, put_put, Ob.lst.injEq, D.int.injEq, D.bl.injEq, D.str.injEq, D.tup.injEq, D.ref.injEq, seqD_t, seqD_l, seqD_r, atI_0, atI_1, atI_2, atI_3, exists_and_left, exists_eq', and_true, true_and, decide_eq_true_eq]
  refine ⟨ps, m, 3, true, rfl, hp.ok, by omega, hp.len, ?_⟩
  simp only [wqE, wqT, wqA, wqC, wqO, wqI, wqJ, addV_ii, addV_ss, addV_tt, addV_rr, subV_ii, mulV_ii, mulV_si, mulV_ti, mulV_ri, fdivV_ii, modV_ii, powV_ii, negV_i, truthV_s, truthV_n, truthV_b, truthV_i, truthV_t, truthV_r, ordV_ii, ordV_ss, idxV_t, idxV_r, idxV_s, slV_t, slV_r, slV_s, biV_len_s, biV_len_t, biV_len_r, biV_sum_t, biV_sum_r, biV_any_t, biV_any_r, biV_all_t, biV_all_r, biV_abs, biV_min, biV_max, biV_int_i, biV_int_b, biV_int_s, biV_str, biV_tuple_t, biV_tuple_r, biV_list_t, biV_list_r, mtV_join_t, mtV_join_r, mtV_count, mtO_join, mtO_count, itV_t, itV_r, itV_s, rng1V_i, rng2V_i, fmtV_s, fmtV_i, flatD_n, flatD_b, flatD_i, flatD_s, opV_Add, opV_Sub, opV_Mult, opV_FloorDiv, opV_Mod, opV_Pow, cmpV_Eq, cmpV_NotEq, cmpV_Is, cmpV_IsNot, cmpV_In, cmpV_NotIn, cmpV_Lt, cmpV_LtE, cmpV_Gt, cmpV_GtE, wqP_v, wqP_t, wqP_r, wqPs_n, wqPs_c, eqV_ii, eqV_ss, eqV_bb, isV_n, isV_bb, isNon, inV_ss, ownB, Bool.true_or, Bool.false_or, Bool.or_false, Bool.not_false, Bool.not_true, Nat.reduceBEq, Bool.or_self, Bool.or_true, tab2_q, List.getElem?_cons_zero, List.getElem?_cons_succ, List.set_cons_zero, List.set_cons_succ, Option.some.injEq, exists_eq_left', exists_eq_left, Option.map_some, Bool.false_xor, Bool.true_xor, put_same, put_put, Ob.lst.injEq, D.int.injEq, D.bl.injEq, D.str.injEq, D.tup.injEq, D.ref.injEq, seqD_t, seqD_l, seqD_r, atI_0, atI_1, atI_2, atI_3, exists_and_left, exists_eq', and_true, true_and, decide_eq_true_eq]
  refine forV_inv (fun xs env g' => g' = g ∧ ∃ (us : List Pc) (es : List Int) (e : Int) (o3 o4 : Option D), xs = us.map encPc ∧ (∀ x ∈ us, x ∈ pcsPs ps) ∧ es.length + us.length = (pcsPs ps).length ∧ (∀ x ∈ es ++ [e], 0 ≤ x ∧ x ≤ (es.length : Int) * 2 ^ 100) ∧
    env = [some (encPg m ps), some (.tup (ns.map .int)), some (.rol ((es ++ [e]).map .int)), o3, o4]) _ _ _ ⟨rfl, pcsPs ps, [], 0, none, none, rfl, fun _ h => h, by simp, by simp, rfl⟩ ?_ ?_
  · rintro x r' env g' N' ⟨rfl, us, es, e, o3, o4, hr, hok, hlen, hb, rfl⟩ hN
    cases us with
    | nil => cases hr
    | cons y us =>
      rw [List.map_cons] at hr
      cases hr
      have hy := hok y List.mem_cons_self
      have hv := valC_le hp hn hy
      have hw := wlen_le hp hy
      have hpc := pcss_ok ps 3 true hp.ok _ hy
      have hcm := cm80 (n := y.1.length) (by omega) hv.1 hv.2
      have he := hb e (by simp)
      have hpr : 0 ≤ (y.1.length : Int) * valC ns y.2 ∧ (y.1.length : Int) * valC ns y.2 ≤ 290 * 2 ^ 80 := ⟨Int.mul_nonneg (by omega) hv.1, Int.mul_le_mul (by omega) hv.2 hv.1 (by decide)⟩
      rw [List.length_cons] at hlen
      have fin : ∀ (a b : Option D) (v : Int), v = y.1.length * valC ns y.2 → N' [some (encPg m ps), some (.tup (ns.map .int)), some (.rol (((es ++ [e]).map D.int) ++ [.int (e + v)])), a, b] g' := fun a b v hv' => by
        refine hN _ _ ⟨rfl, us, es ++ [e], e + v, a, b, rfl, fun x hx => hok x (by simp [hx]), by simp; omega, fun x hx => ?_, by simp⟩
        rw [List.length_append, List.length_singleton, Int.natCast_add, Int.add_mul]
        simp only [List.mem_append, List.mem_singleton] at hx hb
        rcases hx with hx | hx
        · have := hb x hx; omega
        · subst hx; omega
      have hbd : ((es ++ [e]).map D.int).length < 16777216 := by simp; omega
      obtain ⟨w, f⟩ := y
      cases f with
      | none =>
        simp only [encPc, wqE, wqT, wqA, wqC, wqO, wqI, wqJ, addV_ii, addV_ss, addV_tt, addV_rr, subV_ii, mulV_ii, mulV_si, mulV_ti, mulV_ri, fdivV_ii, modV_ii, powV_ii, negV_i, truthV_s, truthV_n, truthV_b, truthV_i, truthV_t, truthV_r, ordV_ii, ordV_ss, idxV_t, idxV_r, idxV_s, slV_t, slV_r, slV_s, biV_len_s, biV_len_t, biV_len_r, biV_sum_t, biV_sum_r, biV_any_t, biV_any_r, biV_all_t, biV_all_r, biV_abs, biV_min, biV_max, biV_int_i, biV_int_b, biV_int_s, biV_str, biV_tuple_t, biV_tuple_r, biV_list_t, biV_list_r, mtV_join_t, mtV_join_r, mtV_count, mtO_join, mtO_count, itV_t, itV_r, itV_s, rng1V_i, rng2V_i, fmtV_s, fmtV_i, flatD_n, flatD_b, flatD_i, flatD_s, opV_Add, opV_Sub, opV_Mult, opV_FloorDiv, opV_Mod, opV_Pow, cmpV_Eq, cmpV_NotEq, cmpV_Is, cmpV_IsNot, cmpV_In, cmpV_NotIn, cmpV_Lt, cmpV_LtE, cmpV_Gt, cmpV_GtE, wqP_v, wqP_t, wqP_r, wqPs_n, wqPs_c, eqV_ii, eqV_ss, eqV_bb, isV_n, isV_bb, isNon, inV_ss, ownB, Bool.true_or, Bool.false_or, Bool.or_false, Bool.not_false, Bool.not_true, Nat.reduceBEq, Bool.or_self, Bool.or_true, tab2_q, List.getElem?_cons_zero, List.getElem?_cons_succ, List.set_cons_zero, List.set_cons_succ, Option.some.injEq, exists_eq_left', exists_eq_left, Option.map_some, Bool.false_xor, Bool.true_xor, put_same, put_put, Ob.lst.injEq, D.int.injEq, D.bl.injEq, D.str.injEq, D.tup.injEq, D.ref.injEq, seqD_t, seqD_l, seqD_r, atI_0, atI_1, atI_2, atI_3, exists_and_left, exists_eq', and_true, true_and, decide_eq_true_eq]
        unfold ir_l_edges_b1
        refine ok_cons (ok_app rfl _ rfl ?_)
        simp only [wqE, wqT, wqA, wqC, wqO, wqI, wqJ, addV_ii, addV_ss, addV_tt, addV_rr, subV_ii, mulV_ii, mulV_si, mulV_ti, mulV_ri, fdivV_ii, modV_ii, powV_ii, negV_i, truthV_s, truthV_n, truthV_b, truthV_i, truthV_t, truthV_r, ordV_ii, ordV_ss, idxV_t, idxV_r, idxV_s, slV_t, slV_r, slV_s, biV_len_s, biV_len_t, biV_len_r, biV_sum_t, biV_sum_r, biV_any_t, biV_any_r, biV_all_t, biV_all_r, biV_abs, biV_min, biV_max, biV_int_i, biV_int_b, biV_int_s, biV_str, biV_tuple_t, biV_tuple_r, biV_list_t, biV_list_r, mtV_join_t, mtV_join_r, mtV_count, mtO_join, mtO_count, itV_t, itV_r, itV_s, rng1V_i, rng2V_i, fmtV_s, fmtV_i, flatD_n, flatD_b, flatD_i, flatD_s, opV_Add, opV_Sub, opV_Mult, opV_FloorDiv, opV_Mod, opV_Pow, cmpV_Eq, cmpV_NotEq, cmpV_Is, cmpV_IsNot, cmpV_In, cmpV_NotIn, cmpV_Lt, cmpV_LtE, cmpV_Gt, cmpV_GtE, wqP_v, wqP_t, wqP_r, wqPs_n, wqPs_c, eqV_ii, eqV_ss, eqV_bb, isV_n, isV_bb, isNon, inV_ss, ownB, Bool.true_or, Bool.false_or, Bool.or_false, Bool.not_false, Bool.not_true, Nat.reduceBEq, Bool.or_self, Bool.or_true, tab2_q, List.getElem?_cons_zero, List.getElem?_cons_succ, List.set_cons_zero, List.set_cons_succ, Option.some.injEq, exists_eq_left', exists_eq_left, Option.map_some, Bool.false_xor, Bool.true_xor, put_same, put_put, Ob.lst.injEq, D.int.injEq, D.bl.injEq, D.str.injEq, D.tup.injEq, D.ref.injEq, seqD_t, seqD_l, seqD_r, atI_0, atI_1, atI_2, atI_3, exists_and_left, exists_eq', and_true, true_and, decide_eq_true_eq, List.map_append, List.map_cons, List.map_nil, atI_m, if_true]
        simp only [List.map_append, List.map_cons, List.map_nil] at fin hbd
        exact ⟨Nat.le_trans hw (by decide), hcm, hbd, ok_nil (fin _ _ _ rfl)⟩
      | some f =>
        simp only [encPc, wqE, wqT, wqA, wqC, wqO, wqI, wqJ, addV_ii, addV_ss, addV_tt, addV_rr, subV_ii, mulV_ii, mulV_si, mulV_ti, mulV_ri, fdivV_ii, modV_ii, powV_ii, negV_i, truthV_s, truthV_n, truthV_b, truthV_i, truthV_t, truthV_r, ordV_ii, ordV_ss, idxV_t, idxV_r, idxV_s, slV_t, slV_r, slV_s, biV_len_s, biV_len_t, biV_len_r, biV_sum_t, biV_sum_r, biV_any_t, biV_any_r, biV_all_t, biV_all_r, biV_abs, biV_min, biV_max, biV_int_i, biV_int_b, biV_int_s, biV_str, biV_tuple_t, biV_tuple_r, biV_list_t, biV_list_r, mtV_join_t, mtV_join_r, mtV_count, mtO_join, mtO_count, itV_t, itV_r, itV_s, rng1V_i, rng2V_i, fmtV_s, fmtV_i, flatD_n, flatD_b, flatD_i, flatD_s, opV_Add, opV_Sub, opV_Mult, opV_FloorDiv, opV_Mod, opV_Pow, cmpV_Eq, cmpV_NotEq, cmpV_Is, cmpV_IsNot, cmpV_In, cmpV_NotIn, cmpV_Lt, cmpV_LtE, cmpV_Gt, cmpV_GtE, wqP_v, wqP_t, wqP_r, wqPs_n, wqPs_c, eqV_ii, eqV_ss, eqV_bb, isV_n, isV_bb, isNon, inV_ss, ownB, Bool.true_or, Bool.false_or, Bool.or_false, Bool.not_false, Bool.not_true, Nat.reduceBEq, Bool.or_self, Bool.or_true, tab2_q, List.getElem?_cons_zero, List.getElem?_cons_succ, List.set_cons_zero, List.set_cons_succ, Option.some.injEq, exists_eq_left', exists_eq_left, Option.map_some, Bool.false_xor, Bool.true_xor, put_same, put_put, Ob.lst.injEq, D.int.injEq, D.bl.injEq, D.str.injEq, D.tup.injEq, D.ref.injEq, seqD_t, seqD_l, seqD_r, atI_0, atI_1, atI_2, atI_3, exists_and_left, exists_eq', and_true, true_and, decide_eq_true_eq]
        unfold ir_l_edges_b1
        refine ok_cons (ok_app rfl _ rfl ?_)
        simp only [wqE, wqT, wqA, wqC, wqO, wqI, wqJ, addV_ii, addV_ss, addV_tt, addV_rr, subV_ii, mulV_ii, mulV_si, mulV_ti, mulV_ri, fdivV_ii, modV_ii, powV_ii, negV_i, truthV_s, truthV_n, truthV_b, truthV_i, truthV_t, truthV_r, ordV_ii, ordV_ss, idxV_t, idxV_r, idxV_s, slV_t, slV_r, slV_s, biV_len_s, biV_len_t, biV_len_r, biV_sum_t, biV_sum_r, biV_any_t, biV_any_r, biV_all_t, biV_all_r, biV_abs, biV_min, biV_max, biV_int_i, biV_int_b, biV_int_s, biV_str, biV_tuple_t, biV_tuple_r, biV_list_t, biV_list_r, mtV_join_t, mtV_join_r, mtV_count, mtO_join, mtO_count, itV_t, itV_r, itV_s, rng1V_i, rng2V_i, fmtV_s, fmtV_i, flatD_n, flatD_b, flatD_i, flatD_s, opV_Add, opV_Sub, opV_Mult, opV_FloorDiv, opV_Mod, opV_Pow, cmpV_Eq, cmpV_NotEq, cmpV_Is, cmpV_IsNot, cmpV_In, cmpV_NotIn, cmpV_Lt, cmpV_LtE, cmpV_Gt, cmpV_GtE, wqP_v, wqP_t, wqP_r, wqPs_n, wqPs_c, eqV_ii, eqV_ss, eqV_bb, isV_n, isV_bb, isNon, inV_ss, ownB, Bool.true_or, Bool.false_or, Bool.or_false, Bool.not_false, Bool.not_true, Nat.reduceBEq, Bool.or_self, Bool.or_true, tab2_q, List.getElem?_cons_zero, List.getElem?_cons_succ, List.set_cons_zero, List.set_cons_succ, Option.some.injEq, exists_eq_left', exists_eq_left, Option.map_some, Bool.false_xor, Bool.true_xor, put_same, put_put, Ob.lst.injEq, D.int.injEq, D.bl.injEq, D.str.injEq, D.tup.injEq, D.ref.injEq, seqD_t, seqD_l, seqD_r, atI_0, atI_1, atI_2, atI_3, exists_and_left, exists_eq', and_true, true_and, decide_eq_true_eq, List.map_append, List.map_cons, List.map_nil, atI_m, Bool.false_eq_true, if_false]
        simp only [List.map_append, List.map_cons, List.map_nil] at fin hbd
        refine ⟨Nat.le_trans hw (by decide), f, ns, rfl, ?_, okF_wB hpc, inC_wB hn, by omega, hcm, hbd, ok_nil (fin _ _ _ rfl)⟩
        intro e; rw [e] at hpc; simp [okPc, okF] at hpc
  · rintro env g' ⟨rfl, us, es, e, o3, o4, hr, hok, hlen, hb, rfl⟩
    cases us with
    | cons y us => cases hr
    | nil =>
      unfold ir_l_edges_2
      refine ok_cons (ok_ret ?_)
      simp only [wqE, wqT, wqA, wqC, wqO, wqI, wqJ, addV_ii, addV_ss, addV_tt, addV_rr, subV_ii, mulV_ii, mulV_si, mulV_ti, mulV_ri, fdivV_ii, modV_ii, powV_ii, negV_i, truthV_s, truthV_n, truthV_b, truthV_i, truthV_t, truthV_r, ordV_ii, ordV_ss, idxV_t, idxV_r, idxV_s, slV_t, slV_r, slV_s, biV_len_s, biV_len_t, biV_len_r, biV_sum_t, biV_sum_r, biV_any_t, biV_any_r, biV_all_t, biV_all_r, biV_abs, biV_min, biV_max, biV_int_i, biV_int_b, biV_int_s, biV_str, biV_tuple_t, biV_tuple_r, biV_list_t, biV_list_r, mtV_join_t, mtV_join_r, mtV_count, mtO_join, mtO_count, itV_t, itV_r, itV_s, rng1V_i, rng2V_i, fmtV_s, fmtV_i, flatD_n, flatD_b, flatD_i, flatD_s, opV_Add, opV_Sub, opV_Mult, opV_FloorDiv, opV_Mod, opV_Pow, cmpV_Eq, cmpV_NotEq, cmpV_Is, cmpV_IsNot, cmpV_In, cmpV_NotIn, cmpV_Lt, cmpV_LtE, cmpV_Gt, cmpV_GtE, wqP_v, wqP_t, wqP_r, wqPs_n, wqPs_c, eqV_ii, eqV_ss, eqV_bb, isV_n, isV_bb, isNon, inV_ss, ownB, Bool.true_or, Bool.false_or, Bool.or_false, Bool.not_false, Bool.not_true, Nat.reduceBEq, Bool.or_self, Bool.or_true, tab2_q, List.getElem?_cons_zero, List.getElem?_cons_succ, List.set_cons_zero, List.set_cons_succ, Option.some.injEq, exists_eq_left', exists_eq_left, Option.map_some, Bool.false_xor, Bool.true_xor, put_same, put_put, Ob.lst.injEq, D.int.injEq, D.bl.injEq, D.str.injEq, D.tup.injEq, D.ref.injEq, seqD_t, seqD_l, seqD_r, atI_0, atI_1, atI_2, atI_3, exists_and_left, exists_eq', and_true, true_and, decide_eq_true_eq]
      refine k _ (by simp) ?_ fun x hx => ?_
      · simp at hlen ⊢; omega
      · have := hb x hx
        simp at hlen
        have h2 : (es.length : Int) * 2 ^ 100 ≤ 1080 * 2 ^ 100 := Int.mul_le_mul_of_nonneg_right (by omega) (by decide)
        omega
/-! the law -/
abbrev Nlaw : List Str := ["_law_script", "_law_deck_here", "_law_turn", "_law_many", "_law_program_here", "_law_held", "_law_most", "_law_text_here", "_law_numbers_here", "_law_edges_here", "_law_some", "_law_again", "_law_at"]
abbrev Llaw : List (Str × (Spec ⊕ Spec2)) := [("_law_deck", .inl spDeck), ("_law_draw", .inr sDraw), ("_law_program", .inr sProg), ("_law_numbers", .inr sNums), ("_law_text", .inr sText), ("_law_edges", .inr sEdges), ("letter_at", .inr sLetAt), ("_law_due", .inr sDue), ("_law_one", .inr sOne)]
theorem letAt_of {m : Nat} {ps : List Pg} (h : OkPg m ps) {ns : List Int} (hn : inC ns) (hl : ns.length ≤ 3) {i : Int} (hi : 0 ≤ i) {g : Nat} {Q : QK} (k : Q (optD (wrts ns ps)[i.toNat]?) g) : sLetAt [encPg m ps, .tup (ns.map .int), .int i] g Q := by
  refine ⟨ps, m, 3, ns, i, rfl, wfs_of_ok ps 3 true h.ok, by omega, h.okR, inC_wB hn, by omega, hi, runs_ok h.okR fun l hl => ?_, by rw [h.text]; exact k⟩
  have := h.valL (B := 2 ^ 64) (by decide) hn hl
  exact Nat.lt_of_le_of_lt (show (valF l.2 ns).natAbs ≤ 2 ^ 80 by omega) (Nat.pow_lt_pow_right (by decide) (by decide))
theorem sh_opt {o : Option Nat} (h : ∀ c, o = some c → c < 0x110000) : Sh 0 12 (optD o) := by
  cases o with
  | none => exact (Sh.non (n := 0)).up (by omega) (by omega)
  | some c => exact (Sh.str (n := 0) (k := 1) (fun x hx => by rw [List.mem_singleton.mp hx]; exact h c rfl) (by simp)).up (by omega) (by omega)
mutual
theorem low_wrt {m : Nat} (ns : List Int) : ∀ (p : Pg) (d : Nat) (b : Bool), okP m p d b → lowW (wrt ns p)
  | .text w, d, b, h => by rw [okP] at h; rw [wrt]; exact h.2
  | .loop f ps, d, b, h => by
    rw [okP] at h
    have ih := low_wrts ns ps _ _ h.2.2.2.2.2
    rw [wrt]
    intro c hc
    obtain ⟨w, h1, h2⟩ := List.mem_flatten.mp hc
    rw [(List.mem_replicate.mp h1).2] at h2
    exact ih c h2
theorem low_wrts {m : Nat} (ns : List Int) : ∀ (ps : List Pg) (d : Nat) (b : Bool), okPs m ps d b → lowW (wrts ns ps)
  | [], d, b, h => by rw [wrts]; intro c hc; simp at hc
  | p :: ps, d, b, h => by
    rw [okPs] at h
    rw [wrts]
    intro c hc
    rcases List.mem_append.mp hc with hc | hc
    · exact low_wrt ns p d b h.1 c hc
    · exact low_wrts ns ps d b h.2 c hc
end
theorem w_law : ∀ ds S Q, lawSp 63 ds S Q → wpS (tab1 (tabL Llaw)) ir_law { nx := fun _ S' => Q .non S', rt := Q } (startD Nlaw ds) S := by
  unfold ir_law
  refine law_body (M := [10]) rfl (by decide) rfl rfl ?_
  show OkS (tabL Llaw) [10] ir_law_1 _ [none, some dck, none, none, none, none, none, none, none, none, none, none, none] 2147483648
  unfold ir_law_1
  refine ok_cons (ok_loop rfl ?_)
  simp only [wqE, wqT, wqA, wqC, wqO, wqI, wqJ, addV_ii, addV_ss, addV_tt, addV_rr, subV_ii, mulV_ii, mulV_si, mulV_ti, mulV_ri, fdivV_ii, modV_ii, powV_ii, negV_i, truthV_s, truthV_n, truthV_b, truthV_i, truthV_t, truthV_r, ordV_ii, ordV_ss, idxV_t, idxV_r, idxV_s, slV_t, slV_r, slV_s, biV_len_s, biV_len_t, biV_len_r, biV_sum_t, biV_sum_r, biV_any_t, biV_any_r, biV_all_t, biV_all_r, biV_abs, biV_min, biV_max, biV_int_i, biV_int_b, biV_int_s, biV_str, biV_tuple_t, biV_tuple_r, biV_list_t, biV_list_r, mtV_join_t, mtV_join_r, mtV_count, mtO_join, mtO_count, itV_t, itV_r, itV_s, rng1V_i, rng2V_i, fmtV_s, fmtV_i, flatD_n, flatD_b, flatD_i, flatD_s, opV_Add, opV_Sub, opV_Mult, opV_FloorDiv, opV_Mod, opV_Pow, cmpV_Eq, cmpV_NotEq, cmpV_Is, cmpV_IsNot, cmpV_In, cmpV_NotIn, cmpV_Lt, cmpV_LtE, cmpV_Gt, cmpV_GtE, wqP_v, wqP_t, wqP_r, wqPs_n, wqPs_c, eqV_ii, eqV_ss, eqV_bb, isV_n, isV_bb, isNon, inV_ss, ownB, Bool.true_or, Bool.false_or, Bool.or_false, Bool.not_false, Bool.not_true, Nat.reduceBEq, Bool.or_self, Bool.or_true, tab2_q, List.getElem?_cons_zero, List.getElem?_cons_succ, List.set_cons_zero, List.set_cons_succ, Option.some.injEq, exists_eq_left', exists_eq_left, Option.map_some, Bool.false_xor, Bool.true_xor, put_same, put_put, Ob.lst.injEq, D.int.injEq, D.bl.injEq, D.str.injEq, D.tup.injEq, D.ref.injEq, seqD_t, seqD_l, seqD_r, atI_0, atI_1, atI_2, atI_3, exists_and_left, exists_eq', and_true, true_and, decide_eq_true_eq]
  refine ⟨small_of (by decide) (by decide), ?_⟩
  refine forV_inv (fun xs env g => 2000 * xs.length ≤ g ∧ ∃ o2 o3 o4 o5 o6 o7 o8 o9 o11 o12, env = [none, some dck, o2, o3, o4, o5, o6, o7, o8, o9, none, o11, o12]) _ _ _ ⟨by decide, _, _, _, _, _, _, _, _, _, _, rfl⟩ ?_ ?_
  · rintro x r env g N ⟨hg, o2, o3, o4, o5, o6, o7, o8, o9, o11, o12, rfl⟩ hN
    rw [List.length_cons, Nat.mul_succ] at hg
    unfold ir_law_b1
    refine ok_cons (ok_asg rfl ?_)
    simp only [wqE, wqT, wqA, wqC, wqO, wqI, wqJ, addV_ii, addV_ss, addV_tt, addV_rr, subV_ii, mulV_ii, mulV_si, mulV_ti, mulV_ri, fdivV_ii, modV_ii, powV_ii, negV_i, truthV_s, truthV_n, truthV_b, truthV_i, truthV_t, truthV_r, ordV_ii, ordV_ss, idxV_t, idxV_r, idxV_s, slV_t, slV_r, slV_s, biV_len_s, biV_len_t, biV_len_r, biV_sum_t, biV_sum_r, biV_any_t, biV_any_r, biV_all_t, biV_all_r, biV_abs, biV_min, biV_max, biV_int_i, biV_int_b, biV_int_s, biV_str, biV_tuple_t, biV_tuple_r, biV_list_t, biV_list_r, mtV_join_t, mtV_join_r, mtV_count, mtO_join, mtO_count, itV_t, itV_r, itV_s, rng1V_i, rng2V_i, fmtV_s, fmtV_i, flatD_n, flatD_b, flatD_i, flatD_s, opV_Add, opV_Sub, opV_Mult, opV_FloorDiv, opV_Mod, opV_Pow, cmpV_Eq, cmpV_NotEq, cmpV_Is, cmpV_IsNot, cmpV_In, cmpV_NotIn, cmpV_Lt, cmpV_LtE, cmpV_Gt, cmpV_GtE, wqP_v, wqP_t, wqP_r, wqPs_n, wqPs_c, eqV_ii, eqV_ss, eqV_bb, isV_n, isV_bb, isNon, inV_ss, ownB, Bool.true_or, Bool.false_or, Bool.or_false, Bool.not_false, Bool.not_true, Nat.reduceBEq, Bool.or_self, Bool.or_true, tab2_q, List.getElem?_cons_zero, List.getElem?_cons_succ, List.set_cons_zero, List.set_cons_succ, Option.some.injEq, exists_eq_left', exists_eq_left, Option.map_some, Bool.false_xor, Bool.true_xor, put_same, put_put, Ob.lst.injEq, D.int.injEq, D.bl.injEq, D.str.injEq, D.tup.injEq, D.ref.injEq, seqD_t, seqD_l, seqD_r, atI_0, atI_1, atI_2, atI_3, exists_and_left, exists_eq', and_true, true_and, decide_eq_true_eq, tabL_q]
    refine ⟨4, rfl, by decide, by decide, by omega, fun mi hm0 hm4 => ?_⟩
    obtain ⟨m, rfl⟩ := Int.eq_ofNat_of_zero_le hm0
    have hm3 : m ≤ 3 := by omega
    unfold ir_law_b1_1
    refine ok_cons (ok_asg rfl ?_)
    simp only [wqE, wqT, wqA, wqC, wqO, wqI, wqJ, addV_ii, addV_ss, addV_tt, addV_rr, subV_ii, mulV_ii, mulV_si, mulV_ti, mulV_ri, fdivV_ii, modV_ii, powV_ii, negV_i, truthV_s, truthV_n, truthV_b, truthV_i, truthV_t, truthV_r, ordV_ii, ordV_ss, idxV_t, idxV_r, idxV_s, slV_t, slV_r, slV_s, biV_len_s, biV_len_t, biV_len_r, biV_sum_t, biV_sum_r, biV_any_t, biV_any_r, biV_all_t, biV_all_r, biV_abs, biV_min, biV_max, biV_int_i, biV_int_b, biV_int_s, biV_str, biV_tuple_t, biV_tuple_r, biV_list_t, biV_list_r, mtV_join_t, mtV_join_r, mtV_count, mtO_join, mtO_count, itV_t, itV_r, itV_s, rng1V_i, rng2V_i, fmtV_s, fmtV_i, flatD_n, flatD_b, flatD_i, flatD_s, opV_Add, opV_Sub, opV_Mult, opV_FloorDiv, opV_Mod, opV_Pow, cmpV_Eq, cmpV_NotEq, cmpV_Is, cmpV_IsNot, cmpV_In, cmpV_NotIn, cmpV_Lt, cmpV_LtE, cmpV_Gt, cmpV_GtE, wqP_v, wqP_t, wqP_r, wqPs_n, wqPs_c, eqV_ii, eqV_ss, eqV_bb, isV_n, isV_bb, isNon, inV_ss, ownB, Bool.true_or, Bool.false_or, Bool.or_false, Bool.not_false, Bool.not_true, Nat.reduceBEq, Bool.or_self, Bool.or_true, tab2_q, List.getElem?_cons_zero, List.getElem?_cons_succ, List.set_cons_zero, List.set_cons_succ, Option.some.injEq, exists_eq_left', exists_eq_left, Option.map_some, Bool.false_xor, Bool.true_xor, put_same, put_put, Ob.lst.injEq, D.int.injEq, D.bl.injEq, D.str.injEq, D.tup.injEq, D.ref.injEq, seqD_t, seqD_l, seqD_r, atI_0, atI_1, atI_2, atI_3, exists_and_left, exists_eq', and_true, true_and, decide_eq_true_eq, tabL_q]
    refine ⟨m, rfl, hm3, by omega, fun ps hp => ?_⟩
    simp only [wqE, wqT, wqA, wqC, wqO, wqI, wqJ, addV_ii, addV_ss, addV_tt, addV_rr, subV_ii, mulV_ii, mulV_si, mulV_ti, mulV_ri, fdivV_ii, modV_ii, powV_ii, negV_i, truthV_s, truthV_n, truthV_b, truthV_i, truthV_t, truthV_r, ordV_ii, ordV_ss, idxV_t, idxV_r, idxV_s, slV_t, slV_r, slV_s, biV_len_s, biV_len_t, biV_len_r, biV_sum_t, biV_sum_r, biV_any_t, biV_any_r, biV_all_t, biV_all_r, biV_abs, biV_min, biV_max, biV_int_i, biV_int_b, biV_int_s, biV_str, biV_tuple_t, biV_tuple_r, biV_list_t, biV_list_r, mtV_join_t, mtV_join_r, mtV_count, mtO_join, mtO_count, itV_t, itV_r, itV_s, rng1V_i, rng2V_i, fmtV_s, fmtV_i, flatD_n, flatD_b, flatD_i, flatD_s, opV_Add, opV_Sub, opV_Mult, opV_FloorDiv, opV_Mod, opV_Pow, cmpV_Eq, cmpV_NotEq, cmpV_Is, cmpV_IsNot, cmpV_In, cmpV_NotIn, cmpV_Lt, cmpV_LtE, cmpV_Gt, cmpV_GtE, wqP_v, wqP_t, wqP_r, wqPs_n, wqPs_c, eqV_ii, eqV_ss, eqV_bb, isV_n, isV_bb, isNon, inV_ss, ownB, Bool.true_or, Bool.false_or, Bool.or_false, Bool.not_false, Bool.not_true, Nat.reduceBEq, Bool.or_self, Bool.or_true, tab2_q, List.getElem?_cons_zero, List.getElem?_cons_succ, List.set_cons_zero, List.set_cons_succ, Option.some.injEq, exists_eq_left', exists_eq_left, Option.map_some, Bool.false_xor, Bool.true_xor, put_same, put_put, Ob.lst.injEq, D.int.injEq, D.bl.injEq, D.str.injEq, D.tup.injEq, D.ref.injEq, seqD_t, seqD_l, seqD_r, atI_0, atI_1, atI_2, atI_3, exists_and_left, exists_eq', and_true, true_and, decide_eq_true_eq]
    refine ⟨by simp, ?_⟩
    unfold ir_law_b1_2
    refine ok_cons (ok_loop rfl ?_)
    simp only [wqE, wqT, wqA, wqC, wqO, wqI, wqJ, addV_ii, addV_ss, addV_tt, addV_rr, subV_ii, mulV_ii, mulV_si, mulV_ti, mulV_ri, fdivV_ii, modV_ii, powV_ii, negV_i, truthV_s, truthV_n, truthV_b, truthV_i, truthV_t, truthV_r, ordV_ii, ordV_ss, idxV_t, idxV_r, idxV_s, slV_t, slV_r, slV_s, biV_len_s, biV_len_t, biV_len_r, biV_sum_t, biV_sum_r, biV_any_t, biV_any_r, biV_all_t, biV_all_r, biV_abs, biV_min, biV_max, biV_int_i, biV_int_b, biV_int_s, biV_str, biV_tuple_t, biV_tuple_r, biV_list_t, biV_list_r, mtV_join_t, mtV_join_r, mtV_count, mtO_join, mtO_count, itV_t, itV_r, itV_s, rng1V_i, rng2V_i, fmtV_s, fmtV_i, flatD_n, flatD_b, flatD_i, flatD_s, opV_Add, opV_Sub, opV_Mult, opV_FloorDiv, opV_Mod, opV_Pow, cmpV_Eq, cmpV_NotEq, cmpV_Is, cmpV_IsNot, cmpV_In, cmpV_NotIn, cmpV_Lt, cmpV_LtE, cmpV_Gt, cmpV_GtE, wqP_v, wqP_t, wqP_r, wqPs_n, wqPs_c, eqV_ii, eqV_ss, eqV_bb, isV_n, isV_bb, isNon, inV_ss, ownB, Bool.true_or, Bool.false_or, Bool.or_false, Bool.not_false, Bool.not_true, Nat.reduceBEq, Bool.or_self, Bool.or_true, tab2_q, List.getElem?_cons_zero, List.getElem?_cons_succ, List.set_cons_zero, List.set_cons_succ, Option.some.injEq, exists_eq_left', exists_eq_left, Option.map_some, Bool.false_xor, Bool.true_xor, put_same, put_put, Ob.lst.injEq, D.int.injEq, D.bl.injEq, D.str.injEq, D.tup.injEq, D.ref.injEq, seqD_t, seqD_l, seqD_r, atI_0, atI_1, atI_2, atI_3, exists_and_left, exists_eq', and_true, true_and, decide_eq_true_eq]
    refine ⟨⟨by decide, by decide, by decide⟩, by simp, ?_⟩
    refine forV_inv (fun xs env g' => (∀ y ∈ xs, ∃ most : Int, y = .int most ∧ 0 < most ∧ most < 2 ^ 64) ∧ 100 * xs.length + 2000 * r.length ≤ g' ∧ ∃ o5 o6 o7 o8 o9 o11 o12, env = [none, some dck, some x, some (.int m), some (encPg m ps), o5, o6, o7, o8, o9, none, o11, o12]) _ _ _ ⟨?_, ?_, _, _, _, _, _, _, _, rfl⟩ ?_ ?_
    · intro y hy
      simp only [List.mem_cons, List.not_mem_nil, or_false] at hy
      rcases hy with rfl | rfl | rfl <;> exact ⟨_, rfl, by decide, by decide⟩
    · simp; omega
    · rintro y r2 env g2 N2 ⟨hy, hg2, o5, o6, o7, o8, o9, o11, o12, rfl⟩ hN2
      obtain ⟨most, rfl, hmo, hmo2⟩ := hy y List.mem_cons_self
      have hy' : ∀ z ∈ r2, ∃ most : Int, z = .int most ∧ 0 < most ∧ most < 2 ^ 64 := fun z hz => hy z (by simp [hz])
      rw [List.length_cons, Nat.mul_succ] at hg2
      unfold ir_law_b2
      refine ok_cons (ok_asg rfl ?_)
      simp only [wqE, wqT, wqA, wqC, wqO, wqI, wqJ, addV_ii, addV_ss, addV_tt, addV_rr, subV_ii, mulV_ii, mulV_si, mulV_ti, mulV_ri, fdivV_ii, modV_ii, powV_ii, negV_i, truthV_s, truthV_n, truthV_b, truthV_i, truthV_t, truthV_r, ordV_ii, ordV_ss, idxV_t, idxV_r, idxV_s, slV_t, slV_r, slV_s, biV_len_s, biV_len_t, biV_len_r, biV_sum_t, biV_sum_r, biV_any_t, biV_any_r, biV_all_t, biV_all_r, biV_abs, biV_min, biV_max, biV_int_i, biV_int_b, biV_int_s, biV_str, biV_tuple_t, biV_tuple_r, biV_list_t, biV_list_r, mtV_join_t, mtV_join_r, mtV_count, mtO_join, mtO_count, itV_t, itV_r, itV_s, rng1V_i, rng2V_i, fmtV_s, fmtV_i, flatD_n, flatD_b, flatD_i, flatD_s, opV_Add, opV_Sub, opV_Mult, opV_FloorDiv, opV_Mod, opV_Pow, cmpV_Eq, cmpV_NotEq, cmpV_Is, cmpV_IsNot, cmpV_In, cmpV_NotIn, cmpV_Lt, cmpV_LtE, cmpV_Gt, cmpV_GtE, wqP_v, wqP_t, wqP_r, wqPs_n, wqPs_c, eqV_ii, eqV_ss, eqV_bb, isV_n, isV_bb, isNon, inV_ss, ownB, Bool.true_or, Bool.false_or, Bool.or_false, Bool.not_false, Bool.not_true, Nat.reduceBEq, Bool.or_self, Bool.or_true, tab2_q, List.getElem?_cons_zero, List.getElem?_cons_succ, List.set_cons_zero, List.set_cons_succ, Option.some.injEq, exists_eq_left', exists_eq_left, Option.map_some, Bool.false_xor, Bool.true_xor, put_same, put_put, Ob.lst.injEq, D.int.injEq, D.bl.injEq, D.str.injEq, D.tup.injEq, D.ref.injEq, seqD_t, seqD_l, seqD_r, atI_0, atI_1, atI_2, atI_3, exists_and_left, exists_eq', and_true, true_and, decide_eq_true_eq, tabL_q]
      refine ⟨m, most, rfl, hm3, hmo, hmo2, by omega, fun ns hnl hns => ?_⟩
      simp only [wqE, wqT, wqA, wqC, wqO, wqI, wqJ, addV_ii, addV_ss, addV_tt, addV_rr, subV_ii, mulV_ii, mulV_si, mulV_ti, mulV_ri, fdivV_ii, modV_ii, powV_ii, negV_i, truthV_s, truthV_n, truthV_b, truthV_i, truthV_t, truthV_r, ordV_ii, ordV_ss, idxV_t, idxV_r, idxV_s, slV_t, slV_r, slV_s, biV_len_s, biV_len_t, biV_len_r, biV_sum_t, biV_sum_r, biV_any_t, biV_any_r, biV_all_t, biV_all_r, biV_abs, biV_min, biV_max, biV_int_i, biV_int_b, biV_int_s, biV_str, biV_tuple_t, biV_tuple_r, biV_list_t, biV_list_r, mtV_join_t, mtV_join_r, mtV_count, mtO_join, mtO_count, itV_t, itV_r, itV_s, rng1V_i, rng2V_i, fmtV_s, fmtV_i, flatD_n, flatD_b, flatD_i, flatD_s, opV_Add, opV_Sub, opV_Mult, opV_FloorDiv, opV_Mod, opV_Pow, cmpV_Eq, cmpV_NotEq, cmpV_Is, cmpV_IsNot, cmpV_In, cmpV_NotIn, cmpV_Lt, cmpV_LtE, cmpV_Gt, cmpV_GtE, wqP_v, wqP_t, wqP_r, wqPs_n, wqPs_c, eqV_ii, eqV_ss, eqV_bb, isV_n, isV_bb, isNon, inV_ss, ownB, Bool.true_or, Bool.false_or, Bool.or_false, Bool.not_false, Bool.not_true, Nat.reduceBEq, Bool.or_self, Bool.or_true, tab2_q, List.getElem?_cons_zero, List.getElem?_cons_succ, List.set_cons_zero, List.set_cons_succ, Option.some.injEq, exists_eq_left', exists_eq_left, Option.map_some, Bool.false_xor, Bool.true_xor, put_same, put_put, Ob.lst.injEq, D.int.injEq, D.bl.injEq, D.str.injEq, D.tup.injEq, D.ref.injEq, seqD_t, seqD_l, seqD_r, atI_0, atI_1, atI_2, atI_3, exists_and_left, exists_eq', and_true, true_and, decide_eq_true_eq]
      have hnC : inC ns := fun n hn => by have := hns n hn; omega
      have hn3 : ns.length ≤ 3 := by omega
      have shPair : Sh 11 1300139 (.tup [encPg m ps, .tup (ns.map .int)]) := ((sh_pg hp).two ((Sh.ints (n := 0) (k := 3) (fun i hi => by have := hnC i hi; omega) hn3).up (n' := 10) (k' := 132) (by omega) (by omega))).up (by omega) (by omega)
      unfold ir_law_b2_1
      refine ok_cons (ok_asg rfl ?_)
      simp only [wqE, wqT, wqA, wqC, wqO, wqI, wqJ, addV_ii, addV_ss, addV_tt, addV_rr, subV_ii, mulV_ii, mulV_si, mulV_ti, mulV_ri, fdivV_ii, modV_ii, powV_ii, negV_i, truthV_s, truthV_n, truthV_b, truthV_i, truthV_t, truthV_r, ordV_ii, ordV_ss, idxV_t, idxV_r, idxV_s, slV_t, slV_r, slV_s, biV_len_s, biV_len_t, biV_len_r, biV_sum_t, biV_sum_r, biV_any_t, biV_any_r, biV_all_t, biV_all_r, biV_abs, biV_min, biV_max, biV_int_i, biV_int_b, biV_int_s, biV_str, biV_tuple_t, biV_tuple_r, biV_list_t, biV_list_r, mtV_join_t, mtV_join_r, mtV_count, mtO_join, mtO_count, itV_t, itV_r, itV_s, rng1V_i, rng2V_i, fmtV_s, fmtV_i, flatD_n, flatD_b, flatD_i, flatD_s, opV_Add, opV_Sub, opV_Mult, opV_FloorDiv, opV_Mod, opV_Pow, cmpV_Eq, cmpV_NotEq, cmpV_Is, cmpV_IsNot, cmpV_In, cmpV_NotIn, cmpV_Lt, cmpV_LtE, cmpV_Gt, cmpV_GtE, wqP_v, wqP_t, wqP_r, wqPs_n, wqPs_c, eqV_ii, eqV_ss, eqV_bb, isV_n, isV_bb, isNon, inV_ss, ownB, Bool.true_or, Bool.false_or, Bool.or_false, Bool.not_false, Bool.not_true, Nat.reduceBEq, Bool.or_self, Bool.or_true, tab2_q, List.getElem?_cons_zero, List.getElem?_cons_succ, List.set_cons_zero, List.set_cons_succ, Option.some.injEq, exists_eq_left', exists_eq_left, Option.map_some, Bool.false_xor, Bool.true_xor, put_same, put_put, Ob.lst.injEq, D.int.injEq, D.bl.injEq, D.str.injEq, D.tup.injEq, D.ref.injEq, seqD_t, seqD_l, seqD_r, atI_0, atI_1, atI_2, atI_3, exists_and_left, exists_eq', and_true, true_and, decide_eq_true_eq, tabL_q]
      refine ⟨by simp, biV_repr shPair (by omega) (by omega) ⟨m, ps, ns, rfl, hp, hnC, hn3, fun es hes hel heb => ?_⟩⟩
      simp only [wqE, wqT, wqA, wqC, wqO, wqI, wqJ, addV_ii, addV_ss, addV_tt, addV_rr, subV_ii, mulV_ii, mulV_si, mulV_ti, mulV_ri, fdivV_ii, modV_ii, powV_ii, negV_i, truthV_s, truthV_n, truthV_b, truthV_i, truthV_t, truthV_r, ordV_ii, ordV_ss, idxV_t, idxV_r, idxV_s, slV_t, slV_r, slV_s, biV_len_s, biV_len_t, biV_len_r, biV_sum_t, biV_sum_r, biV_any_t, biV_any_r, biV_all_t, biV_all_r, biV_abs, biV_min, biV_max, biV_int_i, biV_int_b, biV_int_s, biV_str, biV_tuple_t, biV_tuple_r, biV_list_t, biV_list_r, mtV_join_t, mtV_join_r, mtV_count, mtO_join, mtO_count, itV_t, itV_r, itV_s, rng1V_i, rng2V_i, fmtV_s, fmtV_i, flatD_n, flatD_b, flatD_i, flatD_s, opV_Add, opV_Sub, opV_Mult, opV_FloorDiv, opV_Mod, opV_Pow, cmpV_Eq, cmpV_NotEq, cmpV_Is, cmpV_IsNot, cmpV_In, cmpV_NotIn, cmpV_Lt, cmpV_LtE, cmpV_Gt, cmpV_GtE, wqP_v, wqP_t, wqP_r, wqPs_n, wqPs_c, eqV_ii, eqV_ss, eqV_bb, isV_n, isV_bb, isNon, inV_ss, ownB, Bool.true_or, Bool.false_or, Bool.or_false, Bool.not_false, Bool.not_true, Nat.reduceBEq, Bool.or_self, Bool.or_true, tab2_q, List.getElem?_cons_zero, List.getElem?_cons_succ, List.set_cons_zero, List.set_cons_succ, Option.some.injEq, exists_eq_left', exists_eq_left, Option.map_some, Bool.false_xor, Bool.true_xor, put_same, put_put, Ob.lst.injEq, D.int.injEq, D.bl.injEq, D.str.injEq, D.tup.injEq, D.ref.injEq, seqD_t, seqD_l, seqD_r, atI_0, atI_1, atI_2, atI_3, exists_and_left, exists_eq', and_true, true_and, decide_eq_true_eq]
      refine ⟨by simp, ?_⟩
      have hlast : ∃ e, atI (es.map D.int) (-1) = some (.int e) ∧ 0 ≤ e ∧ e ≤ 2 ^ 120 := by
        rw [atI_last _ (by simpa using hes)]
        rw [List.getLast_map]
        exact ⟨_, rfl, heb _ (List.getLast_mem _)⟩
      obtain ⟨el, hel1, hel2, hel3⟩ := hlast
      unfold ir_law_b2_2
      refine ok_cons (ok_asgO rfl rfl ?_)
      simp only [wqE, wqT, wqA, wqC, wqO, wqI, wqJ, addV_ii, addV_ss, addV_tt, addV_rr, subV_ii, mulV_ii, mulV_si, mulV_ti, mulV_ri, fdivV_ii, modV_ii, powV_ii, negV_i, truthV_s, truthV_n, truthV_b, truthV_i, truthV_t, truthV_r, ordV_ii, ordV_ss, idxV_t, idxV_r, idxV_s, slV_t, slV_r, slV_s, biV_len_s, biV_len_t, biV_len_r, biV_sum_t, biV_sum_r, biV_any_t, biV_any_r, biV_all_t, biV_all_r, biV_abs, biV_min, biV_max, biV_int_i, biV_int_b, biV_int_s, biV_str, biV_tuple_t, biV_tuple_r, biV_list_t, biV_list_r, mtV_join_t, mtV_join_r, mtV_count, mtO_join, mtO_count, itV_t, itV_r, itV_s, rng1V_i, rng2V_i, fmtV_s, fmtV_i, flatD_n, flatD_b, flatD_i, flatD_s, opV_Add, opV_Sub, opV_Mult, opV_FloorDiv, opV_Mod, opV_Pow, cmpV_Eq, cmpV_NotEq, cmpV_Is, cmpV_IsNot, cmpV_In, cmpV_NotIn, cmpV_Lt, cmpV_LtE, cmpV_Gt, cmpV_GtE, wqP_v, wqP_t, wqP_r, wqPs_n, wqPs_c, eqV_ii, eqV_ss, eqV_bb, isV_n, isV_bb, isNon, inV_ss, ownB, Bool.true_or, Bool.false_or, Bool.or_false, Bool.not_false, Bool.not_true, Nat.reduceBEq, Bool.or_self, Bool.or_true, tab2_q, List.getElem?_cons_zero, List.getElem?_cons_succ, List.set_cons_zero, List.set_cons_succ, Option.some.injEq, exists_eq_left', exists_eq_left, Option.map_some, Bool.false_xor, Bool.true_xor, put_same, put_put, Ob.lst.injEq, D.int.injEq, D.bl.injEq, D.str.injEq, D.tup.injEq, D.ref.injEq, seqD_t, seqD_l, seqD_r, atI_0, atI_1, atI_2, atI_3, exists_and_left, exists_eq', and_true, true_and, decide_eq_true_eq, tabL_q, hel1]
      refine ⟨⟨by decide, by decide, by decide⟩, _, rfl, by decide, by decide, by omega, fun r0 hr0 hr1 => ?_⟩
      simp only [wqE, wqT, wqA, wqC, wqO, wqI, wqJ, addV_ii, addV_ss, addV_tt, addV_rr, subV_ii, mulV_ii, mulV_si, mulV_ti, mulV_ri, fdivV_ii, modV_ii, powV_ii, negV_i, truthV_s, truthV_n, truthV_b, truthV_i, truthV_t, truthV_r, ordV_ii, ordV_ss, idxV_t, idxV_r, idxV_s, slV_t, slV_r, slV_s, biV_len_s, biV_len_t, biV_len_r, biV_sum_t, biV_sum_r, biV_any_t, biV_any_r, biV_all_t, biV_all_r, biV_abs, biV_min, biV_max, biV_int_i, biV_int_b, biV_int_s, biV_str, biV_tuple_t, biV_tuple_r, biV_list_t, biV_list_r, mtV_join_t, mtV_join_r, mtV_count, mtO_join, mtO_count, itV_t, itV_r, itV_s, rng1V_i, rng2V_i, fmtV_s, fmtV_i, flatD_n, flatD_b, flatD_i, flatD_s, opV_Add, opV_Sub, opV_Mult, opV_FloorDiv, opV_Mod, opV_Pow, cmpV_Eq, cmpV_NotEq, cmpV_Is, cmpV_IsNot, cmpV_In, cmpV_NotIn, cmpV_Lt, cmpV_LtE, cmpV_Gt, cmpV_GtE, wqP_v, wqP_t, wqP_r, wqPs_n, wqPs_c, eqV_ii, eqV_ss, eqV_bb, isV_n, isV_bb, isNon, inV_ss, ownB, Bool.true_or, Bool.false_or, Bool.or_false, Bool.not_false, Bool.not_true, Nat.reduceBEq, Bool.or_self, Bool.or_true, tab2_q, List.getElem?_cons_zero, List.getElem?_cons_succ, List.set_cons_zero, List.set_cons_succ, Option.some.injEq, exists_eq_left', exists_eq_left, Option.map_some, Bool.false_xor, Bool.true_xor, put_same, put_put, Ob.lst.injEq, D.int.injEq, D.bl.injEq, D.str.injEq, D.tup.injEq, D.ref.injEq, seqD_t, seqD_l, seqD_r, atI_0, atI_1, atI_2, atI_3, exists_and_left, exists_eq', and_true, true_and, decide_eq_true_eq]
      refine ⟨by simp, _, rfl, ?_⟩
      unfold ir_law_b2_3
      refine ok_cons (ok_loop rfl ?_)
      simp only [wqE, wqT, wqA, wqC, wqO, wqI, wqJ, addV_ii, addV_ss, addV_tt, addV_rr, subV_ii, mulV_ii, mulV_si, mulV_ti, mulV_ri, fdivV_ii, modV_ii, powV_ii, negV_i, truthV_s, truthV_n, truthV_b, truthV_i, truthV_t, truthV_r, ordV_ii, ordV_ss, idxV_t, idxV_r, idxV_s, slV_t, slV_r, slV_s, biV_len_s, biV_len_t, biV_len_r, biV_sum_t, biV_sum_r, biV_any_t, biV_any_r, biV_all_t, biV_all_r, biV_abs, biV_min, biV_max, biV_int_i, biV_int_b, biV_int_s, biV_str, biV_tuple_t, biV_tuple_r, biV_list_t, biV_list_r, mtV_join_t, mtV_join_r, mtV_count, mtO_join, mtO_count, itV_t, itV_r, itV_s, rng1V_i, rng2V_i, fmtV_s, fmtV_i, flatD_n, flatD_b, flatD_i, flatD_s, opV_Add, opV_Sub, opV_Mult, opV_FloorDiv, opV_Mod, opV_Pow, cmpV_Eq, cmpV_NotEq, cmpV_Is, cmpV_IsNot, cmpV_In, cmpV_NotIn, cmpV_Lt, cmpV_LtE, cmpV_Gt, cmpV_GtE, wqP_v, wqP_t, wqP_r, wqPs_n, wqPs_c, eqV_ii, eqV_ss, eqV_bb, isV_n, isV_bb, isNon, inV_ss, ownB, Bool.true_or, Bool.false_or, Bool.or_false, Bool.not_false, Bool.not_true, Nat.reduceBEq, Bool.or_self, Bool.or_true, tab2_q, List.getElem?_cons_zero, List.getElem?_cons_succ, List.set_cons_zero, List.set_cons_succ, Option.some.injEq, exists_eq_left', exists_eq_left, Option.map_some, Bool.false_xor, Bool.true_xor, put_same, put_put, Ob.lst.injEq, D.int.injEq, D.bl.injEq, D.str.injEq, D.tup.injEq, D.ref.injEq, seqD_t, seqD_l, seqD_r, atI_0, atI_1, atI_2, atI_3, exists_and_left, exists_eq', and_true, true_and, decide_eq_true_eq]
      refine ⟨small_of (by decide) (by decide), ?_⟩
      refine forV_inv (fun xs env g' => 3 * xs.length + 40 + 100 * r2.length + 2000 * r.length ≤ g' ∧ ∃ (as : List Int) (o11 : Option D), (∀ a ∈ as, 0 ≤ a) ∧ as.length + 2 * xs.length ≤ 100 ∧
        env = [none, some dck, some x, some (.int m), some (encPg m ps), some (.str (rtxt (py (.tup [encPg m ps, .tup (ns.map .int)])))), some (.int most), o7, some (.tup (ns.map .int)), some (.rol (es.map .int)), some (.rol (as.map .int)), o11, o12]) _ _ _ ⟨?_, [0, el, el + r0], o11, ?_, ?_, rfl⟩ ?_ ?_
      · rw [show (rngD 0 12).length = 12 from rfl]; omega
      · intro a ha
        simp only [List.mem_cons, List.not_mem_nil, or_false] at ha
        rcases ha with rfl | rfl | rfl <;> omega
      · rw [show (rngD 0 12).length = 12 from rfl]; simp
      · rintro z r3 env g3 N3 ⟨hg3, as, o11, has, hal, rfl⟩ hN3
        rw [List.length_cons] at hg3 hal
        unfold ir_law_b3
        refine ok_cons (ok_app rfl _ rfl ?_)
        simp only [wqE, wqT, wqA, wqC, wqO, wqI, wqJ, addV_ii, addV_ss, addV_tt, addV_rr, subV_ii, mulV_ii, mulV_si, mulV_ti, mulV_ri, fdivV_ii, modV_ii, powV_ii, negV_i, truthV_s, truthV_n, truthV_b, truthV_i, truthV_t, truthV_r, ordV_ii, ordV_ss, idxV_t, idxV_r, idxV_s, slV_t, slV_r, slV_s, biV_len_s, biV_len_t, biV_len_r, biV_sum_t, biV_sum_r, biV_any_t, biV_any_r, biV_all_t, biV_all_r, biV_abs, biV_min, biV_max, biV_int_i, biV_int_b, biV_int_s, biV_str, biV_tuple_t, biV_tuple_r, biV_list_t, biV_list_r, mtV_join_t, mtV_join_r, mtV_count, mtO_join, mtO_count, itV_t, itV_r, itV_s, rng1V_i, rng2V_i, fmtV_s, fmtV_i, flatD_n, flatD_b, flatD_i, flatD_s, opV_Add, opV_Sub, opV_Mult, opV_FloorDiv, opV_Mod, opV_Pow, cmpV_Eq, cmpV_NotEq, cmpV_Is, cmpV_IsNot, cmpV_In, cmpV_NotIn, cmpV_Lt, cmpV_LtE, cmpV_Gt, cmpV_GtE, wqP_v, wqP_t, wqP_r, wqPs_n, wqPs_c, eqV_ii, eqV_ss, eqV_bb, isV_n, isV_bb, isNon, inV_ss, ownB, Bool.true_or, Bool.false_or, Bool.or_false, Bool.not_false, Bool.not_true, Nat.reduceBEq, Bool.or_self, Bool.or_true, tab2_q, List.getElem?_cons_zero, List.getElem?_cons_succ, List.set_cons_zero, List.set_cons_succ, Option.some.injEq, exists_eq_left', exists_eq_left, Option.map_some, Bool.false_xor, Bool.true_xor, put_same, put_put, Ob.lst.injEq, D.int.injEq, D.bl.injEq, D.str.injEq, D.tup.injEq, D.ref.injEq, seqD_t, seqD_l, seqD_r, atI_0, atI_1, atI_2, atI_3, exists_and_left, exists_eq', and_true, true_and, decide_eq_true_eq, tabL_q]
        refine ⟨_, _, rfl, rfl, by simpa using hes, by simp; omega, by omega, fun e he => ?_⟩
        obtain ⟨e, he', rfl⟩ := List.mem_map.mp he
        simp only [wqE, wqT, wqA, wqC, wqO, wqI, wqJ, addV_ii, addV_ss, addV_tt, addV_rr, subV_ii, mulV_ii, mulV_si, mulV_ti, mulV_ri, fdivV_ii, modV_ii, powV_ii, negV_i, truthV_s, truthV_n, truthV_b, truthV_i, truthV_t, truthV_r, ordV_ii, ordV_ss, idxV_t, idxV_r, idxV_s, slV_t, slV_r, slV_s, biV_len_s, biV_len_t, biV_len_r, biV_sum_t, biV_sum_r, biV_any_t, biV_any_r, biV_all_t, biV_all_r, biV_abs, biV_min, biV_max, biV_int_i, biV_int_b, biV_int_s, biV_str, biV_tuple_t, biV_tuple_r, biV_list_t, biV_list_r, mtV_join_t, mtV_join_r, mtV_count, mtO_join, mtO_count, itV_t, itV_r, itV_s, rng1V_i, rng2V_i, fmtV_s, fmtV_i, flatD_n, flatD_b, flatD_i, flatD_s, opV_Add, opV_Sub, opV_Mult, opV_FloorDiv, opV_Mod, opV_Pow, cmpV_Eq, cmpV_NotEq, cmpV_Is, cmpV_IsNot, cmpV_In, cmpV_NotIn, cmpV_Lt, cmpV_LtE, cmpV_Gt, cmpV_GtE, wqP_v, wqP_t, wqP_r, wqPs_n, wqPs_c, eqV_ii, eqV_ss, eqV_bb, isV_n, isV_bb, isNon, inV_ss, ownB, Bool.true_or, Bool.false_or, Bool.or_false, Bool.not_false, Bool.not_true, Nat.reduceBEq, Bool.or_self, Bool.or_true, tab2_q, List.getElem?_cons_zero, List.getElem?_cons_succ, List.set_cons_zero, List.set_cons_succ, Option.some.injEq, exists_eq_left', exists_eq_left, Option.map_some, Bool.false_xor, Bool.true_xor, put_same, put_put, Ob.lst.injEq, D.int.injEq, D.bl.injEq, D.str.injEq, D.tup.injEq, D.ref.injEq, seqD_t, seqD_l, seqD_r, atI_0, atI_1, atI_2, atI_3, exists_and_left, exists_eq', and_true, true_and, decide_eq_true_eq, tabL_q]
        refine ⟨_, rfl, by decide, by decide, by omega, fun r1 h0 h1 => ?_⟩
        simp only [wqE, wqT, wqA, wqC, wqO, wqI, wqJ, addV_ii, addV_ss, addV_tt, addV_rr, subV_ii, mulV_ii, mulV_si, mulV_ti, mulV_ri, fdivV_ii, modV_ii, powV_ii, negV_i, truthV_s, truthV_n, truthV_b, truthV_i, truthV_t, truthV_r, ordV_ii, ordV_ss, idxV_t, idxV_r, idxV_s, slV_t, slV_r, slV_s, biV_len_s, biV_len_t, biV_len_r, biV_sum_t, biV_sum_r, biV_any_t, biV_any_r, biV_all_t, biV_all_r, biV_abs, biV_min, biV_max, biV_int_i, biV_int_b, biV_int_s, biV_str, biV_tuple_t, biV_tuple_r, biV_list_t, biV_list_r, mtV_join_t, mtV_join_r, mtV_count, mtO_join, mtO_count, itV_t, itV_r, itV_s, rng1V_i, rng2V_i, fmtV_s, fmtV_i, flatD_n, flatD_b, flatD_i, flatD_s, opV_Add, opV_Sub, opV_Mult, opV_FloorDiv, opV_Mod, opV_Pow, cmpV_Eq, cmpV_NotEq, cmpV_Is, cmpV_IsNot, cmpV_In, cmpV_NotIn, cmpV_Lt, cmpV_LtE, cmpV_Gt, cmpV_GtE, wqP_v, wqP_t, wqP_r, wqPs_n, wqPs_c, eqV_ii, eqV_ss, eqV_bb, isV_n, isV_bb, isNon, inV_ss, ownB, Bool.true_or, Bool.false_or, Bool.or_false, Bool.not_false, Bool.not_true, Nat.reduceBEq, Bool.or_self, Bool.or_true, tab2_q, List.getElem?_cons_zero, List.getElem?_cons_succ, List.set_cons_zero, List.set_cons_succ, Option.some.injEq, exists_eq_left', exists_eq_left, Option.map_some, Bool.false_xor, Bool.true_xor, put_same, put_put, Ob.lst.injEq, D.int.injEq, D.bl.injEq, D.str.injEq, D.tup.injEq, D.ref.injEq, seqD_t, seqD_l, seqD_r, atI_0, atI_1, atI_2, atI_3, exists_and_left, exists_eq', and_true, true_and, decide_eq_true_eq]
        refine ⟨by simp; omega, ?_⟩
        unfold ir_law_b3_1
        refine ok_cons (ok_app rfl _ rfl ?_)
        simp only [wqE, wqT, wqA, wqC, wqO, wqI, wqJ, addV_ii, addV_ss, addV_tt, addV_rr, subV_ii, mulV_ii, mulV_si, mulV_ti, mulV_ri, fdivV_ii, modV_ii, powV_ii, negV_i, truthV_s, truthV_n, truthV_b, truthV_i, truthV_t, truthV_r, ordV_ii, ordV_ss, idxV_t, idxV_r, idxV_s, slV_t, slV_r, slV_s, biV_len_s, biV_len_t, biV_len_r, biV_sum_t, biV_sum_r, biV_any_t, biV_any_r, biV_all_t, biV_all_r, biV_abs, biV_min, biV_max, biV_int_i, biV_int_b, biV_int_s, biV_str, biV_tuple_t, biV_tuple_r, biV_list_t, biV_list_r, mtV_join_t, mtV_join_r, mtV_count, mtO_join, mtO_count, itV_t, itV_r, itV_s, rng1V_i, rng2V_i, fmtV_s, fmtV_i, flatD_n, flatD_b, flatD_i, flatD_s, opV_Add, opV_Sub, opV_Mult, opV_FloorDiv, opV_Mod, opV_Pow, cmpV_Eq, cmpV_NotEq, cmpV_Is, cmpV_IsNot, cmpV_In, cmpV_NotIn, cmpV_Lt, cmpV_LtE, cmpV_Gt, cmpV_GtE, wqP_v, wqP_t, wqP_r, wqPs_n, wqPs_c, eqV_ii, eqV_ss, eqV_bb, isV_n, isV_bb, isNon, inV_ss, ownB, Bool.true_or, Bool.false_or, Bool.or_false, Bool.not_false, Bool.not_true, Nat.reduceBEq, Bool.or_self, Bool.or_true, tab2_q, List.getElem?_cons_zero, List.getElem?_cons_succ, List.set_cons_zero, List.set_cons_succ, Option.some.injEq, exists_eq_left', exists_eq_left, Option.map_some, Bool.false_xor, Bool.true_xor, put_same, put_put, Ob.lst.injEq, D.int.injEq, D.bl.injEq, D.str.injEq, D.tup.injEq, D.ref.injEq, seqD_t, seqD_l, seqD_r, atI_0, atI_1, atI_2, atI_3, exists_and_left, exists_eq', and_true, true_and, decide_eq_true_eq, tabL_q, hel1]
        refine ⟨_, rfl, by omega, Int.lt_of_le_of_lt (show el + 1 ≤ 2 ^ 121 by omega) (by decide), by omega, fun r4 h4 h5 => ⟨by simp; omega, ok_nil (hN3 _ _ ⟨by omega, as ++ [max 0 (e + r1 - 4), r4], some z, fun a ha => ?_, by simp; omega, by simp⟩)⟩⟩
        simp only [List.mem_append, List.mem_cons, List.not_mem_nil, or_false] at ha
        rcases ha with ha | rfl | rfl
        · exact has a ha
        · omega
        · omega
      · rintro env g3 ⟨hg3, as, o11, has, hal, rfl⟩
        rw [List.length_nil] at hg3
        unfold ir_law_b2_4
        refine ok_cons (ok_loopO rfl _ rfl ?_)
        refine forV_inv (fun xs env g' => g' = g3 ∧ (∀ y ∈ xs, ∃ a : Int, y = .int a ∧ 0 ≤ a) ∧ ∃ o12, env = [none, some dck, some x, some (.int m), some (encPg m ps), some (.str (rtxt (py (.tup [encPg m ps, .tup (ns.map .int)])))), some (.int most), o7, some (.tup (ns.map .int)), some (.rol (es.map .int)), none, o11, o12]) _ _ _ ⟨rfl, ?_, o12, rfl⟩ ?_ ?_
        · intro y hy
          obtain ⟨a, ha, rfl⟩ := List.mem_map.mp hy
          exact ⟨a, rfl, has a ha⟩
        · rintro z r3 env g4 N3 ⟨rfl, hz, o12, rfl⟩ hN3
          obtain ⟨a, rfl, ha⟩ := hz z List.mem_cons_self
          simp only [wqE, wqT, wqA, wqC, wqO, wqI, wqJ, addV_ii, addV_ss, addV_tt, addV_rr, subV_ii, mulV_ii, mulV_si, mulV_ti, mulV_ri, fdivV_ii, modV_ii, powV_ii, negV_i, truthV_s, truthV_n, truthV_b, truthV_i, truthV_t, truthV_r, ordV_ii, ordV_ss, idxV_t, idxV_r, idxV_s, slV_t, slV_r, slV_s, biV_len_s, biV_len_t, biV_len_r, biV_sum_t, biV_sum_r, biV_any_t, biV_any_r, biV_all_t, biV_all_r, biV_abs, biV_min, biV_max, biV_int_i, biV_int_b, biV_int_s, biV_str, biV_tuple_t, biV_tuple_r, biV_list_t, biV_list_r, mtV_join_t, mtV_join_r, mtV_count, mtO_join, mtO_count, itV_t, itV_r, itV_s, rng1V_i, rng2V_i, fmtV_s, fmtV_i, flatD_n, flatD_b, flatD_i, flatD_s, opV_Add, opV_Sub, opV_Mult, opV_FloorDiv, opV_Mod, opV_Pow, cmpV_Eq, cmpV_NotEq, cmpV_Is, cmpV_IsNot, cmpV_In, cmpV_NotIn, cmpV_Lt, cmpV_LtE, cmpV_Gt, cmpV_GtE, wqP_v, wqP_t, wqP_r, wqPs_n, wqPs_c, eqV_ii, eqV_ss, eqV_bb, isV_n, isV_bb, isNon, inV_ss, ownB, Bool.true_or, Bool.false_or, Bool.or_false, Bool.not_false, Bool.not_true, Nat.reduceBEq, Bool.or_self, Bool.or_true, tab2_q, List.getElem?_cons_zero, List.getElem?_cons_succ, List.set_cons_zero, List.set_cons_succ, Option.some.injEq, exists_eq_left', exists_eq_left, Option.map_some, Bool.false_xor, Bool.true_xor, put_same, put_put, Ob.lst.injEq, D.int.injEq, D.bl.injEq, D.str.injEq, D.tup.injEq, D.ref.injEq, seqD_t, seqD_l, seqD_r, atI_0, atI_1, atI_2, atI_3, exists_and_left, exists_eq', and_true, true_and, decide_eq_true_eq]
          unfold ir_law_b4
          refine ok_cons (ok_iff ?_)
          simp only [wqE, wqT, wqA, wqC, wqO, wqI, wqJ, addV_ii, addV_ss, addV_tt, addV_rr, subV_ii, mulV_ii, mulV_si, mulV_ti, mulV_ri, fdivV_ii, modV_ii, powV_ii, negV_i, truthV_s, truthV_n, truthV_b, truthV_i, truthV_t, truthV_r, ordV_ii, ordV_ss, idxV_t, idxV_r, idxV_s, slV_t, slV_r, slV_s, biV_len_s, biV_len_t, biV_len_r, biV_sum_t, biV_sum_r, biV_any_t, biV_any_r, biV_all_t, biV_all_r, biV_abs, biV_min, biV_max, biV_int_i, biV_int_b, biV_int_s, biV_str, biV_tuple_t, biV_tuple_r, biV_list_t, biV_list_r, mtV_join_t, mtV_join_r, mtV_count, mtO_join, mtO_count, itV_t, itV_r, itV_s, rng1V_i, rng2V_i, fmtV_s, fmtV_i, flatD_n, flatD_b, flatD_i, flatD_s, opV_Add, opV_Sub, opV_Mult, opV_FloorDiv, opV_Mod, opV_Pow, cmpV_Eq, cmpV_NotEq, cmpV_Is, cmpV_IsNot, cmpV_In, cmpV_NotIn, cmpV_Lt, cmpV_LtE, cmpV_Gt, cmpV_GtE, wqP_v, wqP_t, wqP_r, wqPs_n, wqPs_c, eqV_ii, eqV_ss, eqV_bb, isV_n, isV_bb, isNon, inV_ss, ownB, Bool.true_or, Bool.false_or, Bool.or_false, Bool.not_false, Bool.not_true, Nat.reduceBEq, Bool.or_self, Bool.or_true, tab2_q, List.getElem?_cons_zero, List.getElem?_cons_succ, List.set_cons_zero, List.set_cons_succ, Option.some.injEq, exists_eq_left', exists_eq_left, Option.map_some, Bool.false_xor, Bool.true_xor, put_same, put_put, Ob.lst.injEq, D.int.injEq, D.bl.injEq, D.str.injEq, D.tup.injEq, D.ref.injEq, seqD_t, seqD_l, seqD_r, atI_0, atI_1, atI_2, atI_3, exists_and_left, exists_eq', and_true, true_and, decide_eq_true_eq, tabL_q]
          have shO : Sh 0 12 (optD (wrts ns ps)[a.toNat]?) := sh_opt fun c hc => by
            have := low_wrts ns ps 3 true hp.ok c (List.mem_of_getElem? hc)
            omega
          refine letAt_of hp hnC hn3 ha ?_
          refine biV_repr shO (by omega) (by omega) ⟨m, ps, ns, a, rfl, hp, hnC, hn3, ha, ?_⟩
          refine biV_repr shO (by omega) (by omega) ?_
          simp only [wqE, wqT, wqA, wqC, wqO, wqI, wqJ, addV_ii, addV_ss, addV_tt, addV_rr, subV_ii, mulV_ii, mulV_si, mulV_ti, mulV_ri, fdivV_ii, modV_ii, powV_ii, negV_i, truthV_s, truthV_n, truthV_b, truthV_i, truthV_t, truthV_r, ordV_ii, ordV_ss, idxV_t, idxV_r, idxV_s, slV_t, slV_r, slV_s, biV_len_s, biV_len_t, biV_len_r, biV_sum_t, biV_sum_r, biV_any_t, biV_any_r, biV_all_t, biV_all_r, biV_abs, biV_min, biV_max, biV_int_i, biV_int_b, biV_int_s, biV_str, biV_tuple_t, biV_tuple_r, biV_list_t, biV_list_r, mtV_join_t, mtV_join_r, mtV_count, mtO_join, mtO_count, itV_t, itV_r, itV_s, rng1V_i, rng2V_i, fmtV_s, fmtV_i, flatD_n, flatD_b, flatD_i, flatD_s, opV_Add, opV_Sub, opV_Mult, opV_FloorDiv, opV_Mod, opV_Pow, cmpV_Eq, cmpV_NotEq, cmpV_Is, cmpV_IsNot, cmpV_In, cmpV_NotIn, cmpV_Lt, cmpV_LtE, cmpV_Gt, cmpV_GtE, wqP_v, wqP_t, wqP_r, wqPs_n, wqPs_c, eqV_ii, eqV_ss, eqV_bb, isV_n, isV_bb, isNon, inV_ss, ownB, Bool.true_or, Bool.false_or, Bool.or_false, Bool.not_false, Bool.not_true, Nat.reduceBEq, Bool.or_self, Bool.or_true, tab2_q, List.getElem?_cons_zero, List.getElem?_cons_succ, List.set_cons_zero, List.set_cons_succ, Option.some.injEq, exists_eq_left', exists_eq_left, Option.map_some, Bool.false_xor, Bool.true_xor, put_same, put_put, Ob.lst.injEq, D.int.injEq, D.bl.injEq, D.str.injEq, D.tup.injEq, D.ref.injEq, seqD_t, seqD_l, seqD_r, atI_0, atI_1, atI_2, atI_3, exists_and_left, exists_eq', and_true, true_and, decide_eq_true_eq, decide_true, Bool.not_true, Bool.false_eq_true, if_false]
          exact ok_nil (ok_nil (hN3 _ _ ⟨rfl, fun y hy => hz y (by simp [hy]), some (.int a), rfl⟩))
        · rintro env g4 ⟨rfl, _, o12, rfl⟩
          unfold ir_law_b2_5
          refine ok_cons (ok_iff ?_)
          simp only [wqE, wqT, wqA, wqC, wqO, wqI, wqJ, addV_ii, addV_ss, addV_tt, addV_rr, subV_ii, mulV_ii, mulV_si, mulV_ti, mulV_ri, fdivV_ii, modV_ii, powV_ii, negV_i, truthV_s, truthV_n, truthV_b, truthV_i, truthV_t, truthV_r, ordV_ii, ordV_ss, idxV_t, idxV_r, idxV_s, slV_t, slV_r, slV_s, biV_len_s, biV_len_t, biV_len_r, biV_sum_t, biV_sum_r, biV_any_t, biV_any_r, biV_all_t, biV_all_r, biV_abs, biV_min, biV_max, biV_int_i, biV_int_b, biV_int_s, biV_str, biV_tuple_t, biV_tuple_r, biV_list_t, biV_list_r, mtV_join_t, mtV_join_r, mtV_count, mtO_join, mtO_count, itV_t, itV_r, itV_s, rng1V_i, rng2V_i, fmtV_s, fmtV_i, flatD_n, flatD_b, flatD_i, flatD_s, opV_Add, opV_Sub, opV_Mult, opV_FloorDiv, opV_Mod, opV_Pow, cmpV_Eq, cmpV_NotEq, cmpV_Is, cmpV_IsNot, cmpV_In, cmpV_NotIn, cmpV_Lt, cmpV_LtE, cmpV_Gt, cmpV_GtE, wqP_v, wqP_t, wqP_r, wqPs_n, wqPs_c, eqV_ii, eqV_ss, eqV_bb, isV_n, isV_bb, isNon, inV_ss, ownB, Bool.true_or, Bool.false_or, Bool.or_false, Bool.not_false, Bool.not_true, Nat.reduceBEq, Bool.or_self, Bool.or_true, tab2_q, List.getElem?_cons_zero, List.getElem?_cons_succ, List.set_cons_zero, List.set_cons_succ, Option.some.injEq, exists_eq_left', exists_eq_left, Option.map_some, Bool.false_xor, Bool.true_xor, put_same, put_put, Ob.lst.injEq, D.int.injEq, D.bl.injEq, D.str.injEq, D.tup.injEq, D.ref.injEq, seqD_t, seqD_l, seqD_r, atI_0, atI_1, atI_2, atI_3, exists_and_left, exists_eq', and_true, true_and, decide_eq_true_eq]
          refine ⟨by simp, biV_repr shPair (by omega) (by omega) ?_⟩
          simp only [wqE, wqT, wqA, wqC, wqO, wqI, wqJ, addV_ii, addV_ss, addV_tt, addV_rr, subV_ii, mulV_ii, mulV_si, mulV_ti, mulV_ri, fdivV_ii, modV_ii, powV_ii, negV_i, truthV_s, truthV_n, truthV_b, truthV_i, truthV_t, truthV_r, ordV_ii, ordV_ss, idxV_t, idxV_r, idxV_s, slV_t, slV_r, slV_s, biV_len_s, biV_len_t, biV_len_r, biV_sum_t, biV_sum_r, biV_any_t, biV_any_r, biV_all_t, biV_all_r, biV_abs, biV_min, biV_max, biV_int_i, biV_int_b, biV_int_s, biV_str, biV_tuple_t, biV_tuple_r, biV_list_t, biV_list_r, mtV_join_t, mtV_join_r, mtV_count, mtO_join, mtO_count, itV_t, itV_r, itV_s, rng1V_i, rng2V_i, fmtV_s, fmtV_i, flatD_n, flatD_b, flatD_i, flatD_s, opV_Add, opV_Sub, opV_Mult, opV_FloorDiv, opV_Mod, opV_Pow, cmpV_Eq, cmpV_NotEq, cmpV_Is, cmpV_IsNot, cmpV_In, cmpV_NotIn, cmpV_Lt, cmpV_LtE, cmpV_Gt, cmpV_GtE, wqP_v, wqP_t, wqP_r, wqPs_n, wqPs_c, eqV_ii, eqV_ss, eqV_bb, isV_n, isV_bb, isNon, inV_ss, ownB, Bool.true_or, Bool.false_or, Bool.or_false, Bool.not_false, Bool.not_true, Nat.reduceBEq, Bool.or_self, Bool.or_true, tab2_q, List.getElem?_cons_zero, List.getElem?_cons_succ, List.set_cons_zero, List.set_cons_succ, Option.some.injEq, exists_eq_left', exists_eq_left, Option.map_some, Bool.false_xor, Bool.true_xor, put_same, put_put, Ob.lst.injEq, D.int.injEq, D.bl.injEq, D.str.injEq, D.tup.injEq, D.ref.injEq, seqD_t, seqD_l, seqD_r, atI_0, atI_1, atI_2, atI_3, exists_and_left, exists_eq', and_true, true_and, decide_eq_true_eq, decide_true, Bool.not_true, Bool.false_eq_true, if_false]
          exact ok_nil (ok_nil (hN2 _ _ ⟨hy', by omega, _, _, _, _, _, _, _, rfl⟩))
    · rintro env g2 ⟨_, hg2, o5, o6, o7, o8, o9, o11, o12, rfl⟩
      rw [List.length_nil] at hg2
      unfold ir_law_b1_3
      refine ok_cons (ok_asg rfl ?_)
      have two : (List.replicate ((m : Int)).toNat [D.int 2]).flatten = (List.replicate m (2 : Int)).map .int := by
        rw [Int.toNat_natCast]
        clear hp hg2 hm3 hm0 hm4
        induction m with
        | zero => rfl
        | succ n ih => rw [List.replicate_succ, List.flatten_cons, ih]; rfl
      have hnC : inC (List.replicate m (2 : Int)) := fun n hn => by rw [(List.mem_replicate.mp hn).2]; omega
      have hn3 : (List.replicate m (2 : Int)).length ≤ 3 := by simpa using hm3
      have hlen : ((wrts (List.replicate m (2 : Int)) ps).length : Int) ≤ 290 * (99 + 297 * 2) := wrts_le hp (by decide) fun n hn => by rw [(List.mem_replicate.mp hn).2]; omega
      simp only [encPg, wqE, wqT, wqA, wqC, wqO, wqI, wqJ, addV_ii, addV_ss, addV_tt, addV_rr, subV_ii, mulV_ii, mulV_si, mulV_ti, mulV_ri, fdivV_ii, modV_ii, powV_ii, negV_i, truthV_s, truthV_n, truthV_b, truthV_i, truthV_t, truthV_r, ordV_ii, ordV_ss, idxV_t, idxV_r, idxV_s, slV_t, slV_r, slV_s, biV_len_s, biV_len_t, biV_len_r, biV_sum_t, biV_sum_r, biV_any_t, biV_any_r, biV_all_t, biV_all_r, biV_abs, biV_min, biV_max, biV_int_i, biV_int_b, biV_int_s, biV_str, biV_tuple_t, biV_tuple_r, biV_list_t, biV_list_r, mtV_join_t, mtV_join_r, mtV_count, mtO_join, mtO_count, itV_t, itV_r, itV_s, rng1V_i, rng2V_i, fmtV_s, fmtV_i, flatD_n, flatD_b, flatD_i, flatD_s, opV_Add, opV_Sub, opV_Mult, opV_FloorDiv, opV_Mod, opV_Pow, cmpV_Eq, cmpV_NotEq, cmpV_Is, cmpV_IsNot, cmpV_In, cmpV_NotIn, cmpV_Lt, cmpV_LtE, cmpV_Gt, cmpV_GtE, wqP_v, wqP_t, wqP_r, wqPs_n, wqPs_c, eqV_ii, eqV_ss, eqV_bb, isV_n, isV_bb, isNon, inV_ss, ownB, Bool.true_or, Bool.false_or, Bool.or_false, Bool.not_false, Bool.not_true, Nat.reduceBEq, Bool.or_self, Bool.or_true, tab2_q, List.getElem?_cons_zero, List.getElem?_cons_succ, List.set_cons_zero, List.set_cons_succ, Option.some.injEq, exists_eq_left', exists_eq_left, Option.map_some, Bool.false_xor, Bool.true_xor, put_same, put_put, Ob.lst.injEq, D.int.injEq, D.bl.injEq, D.str.injEq, D.tup.injEq, D.ref.injEq, seqD_t, seqD_l, seqD_r, atI_0, atI_1, atI_2, atI_3, exists_and_left, exists_eq', and_true, true_and, decide_eq_true_eq, tabL_q, two]
      refine ⟨by simp, by omega, by omega, by simp, ps, m, 3, true, _, rfl, hp.ok, by omega, hp.len, hn3, fun n hn => by rw [(List.mem_replicate.mp hn).2]; omega, by omega, ?_⟩
      simp only [wqE, wqT, wqA, wqC, wqO, wqI, wqJ, addV_ii, addV_ss, addV_tt, addV_rr, subV_ii, mulV_ii, mulV_si, mulV_ti, mulV_ri, fdivV_ii, modV_ii, powV_ii, negV_i, truthV_s, truthV_n, truthV_b, truthV_i, truthV_t, truthV_r, ordV_ii, ordV_ss, idxV_t, idxV_r, idxV_s, slV_t, slV_r, slV_s, biV_len_s, biV_len_t, biV_len_r, biV_sum_t, biV_sum_r, biV_any_t, biV_any_r, biV_all_t, biV_all_r, biV_abs, biV_min, biV_max, biV_int_i, biV_int_b, biV_int_s, biV_str, biV_tuple_t, biV_tuple_r, biV_list_t, biV_list_r, mtV_join_t, mtV_join_r, mtV_count, mtO_join, mtO_count, itV_t, itV_r, itV_s, rng1V_i, rng2V_i, fmtV_s, fmtV_i, flatD_n, flatD_b, flatD_i, flatD_s, opV_Add, opV_Sub, opV_Mult, opV_FloorDiv, opV_Mod, opV_Pow, cmpV_Eq, cmpV_NotEq, cmpV_Is, cmpV_IsNot, cmpV_In, cmpV_NotIn, cmpV_Lt, cmpV_LtE, cmpV_Gt, cmpV_GtE, wqP_v, wqP_t, wqP_r, wqPs_n, wqPs_c, eqV_ii, eqV_ss, eqV_bb, isV_n, isV_bb, isNon, inV_ss, ownB, Bool.true_or, Bool.false_or, Bool.or_false, Bool.not_false, Bool.not_true, Nat.reduceBEq, Bool.or_self, Bool.or_true, tab2_q, List.getElem?_cons_zero, List.getElem?_cons_succ, List.set_cons_zero, List.set_cons_succ, Option.some.injEq, exists_eq_left', exists_eq_left, Option.map_some, Bool.false_xor, Bool.true_xor, put_same, put_put, Ob.lst.injEq, D.int.injEq, D.bl.injEq, D.str.injEq, D.tup.injEq, D.ref.injEq, seqD_t, seqD_l, seqD_r, atI_0, atI_1, atI_2, atI_3, exists_and_left, exists_eq', and_true, true_and, decide_eq_true_eq]
      refine ⟨by omega, ?_⟩
      rw [show (300 : Int) = ((300 : Nat) : Int) from rfl, cut_h]
      generalize hT : (wrts (List.replicate m (2 : Int)) ps).take 300 = T
      have hTl : T.length ≤ 300 := by rw [← hT, List.length_take]; omega
      unfold ir_law_b1_4
      refine ok_cons (ok_iff ?_)
      simp only [wqE, wqT, wqA, wqC, wqO, wqI, wqJ, addV_ii, addV_ss, addV_tt, addV_rr, subV_ii, mulV_ii, mulV_si, mulV_ti, mulV_ri, fdivV_ii, modV_ii, powV_ii, negV_i, truthV_s, truthV_n, truthV_b, truthV_i, truthV_t, truthV_r, ordV_ii, ordV_ss, idxV_t, idxV_r, idxV_s, slV_t, slV_r, slV_s, biV_len_s, biV_len_t, biV_len_r, biV_sum_t, biV_sum_r, biV_any_t, biV_any_r, biV_all_t, biV_all_r, biV_abs, biV_min, biV_max, biV_int_i, biV_int_b, biV_int_s, biV_str, biV_tuple_t, biV_tuple_r, biV_list_t, biV_list_r, mtV_join_t, mtV_join_r, mtV_count, mtO_join, mtO_count, itV_t, itV_r, itV_s, rng1V_i, rng2V_i, fmtV_s, fmtV_i, flatD_n, flatD_b, flatD_i, flatD_s, opV_Add, opV_Sub, opV_Mult, opV_FloorDiv, opV_Mod, opV_Pow, cmpV_Eq, cmpV_NotEq, cmpV_Is, cmpV_IsNot, cmpV_In, cmpV_NotIn, cmpV_Lt, cmpV_LtE, cmpV_Gt, cmpV_GtE, wqP_v, wqP_t, wqP_r, wqPs_n, wqPs_c, eqV_ii, eqV_ss, eqV_bb, isV_n, isV_bb, isNon, inV_ss, ownB, Bool.true_or, Bool.false_or, Bool.or_false, Bool.not_false, Bool.not_true, Nat.reduceBEq, Bool.or_self, Bool.or_true, tab2_q, List.getElem?_cons_zero, List.getElem?_cons_succ, List.set_cons_zero, List.set_cons_succ, Option.some.injEq, exists_eq_left', exists_eq_left, Option.map_some, Bool.false_xor, Bool.true_xor, put_same, put_put, Ob.lst.injEq, D.int.injEq, D.bl.injEq, D.str.injEq, D.tup.injEq, D.ref.injEq, seqD_t, seqD_l, seqD_r, atI_0, atI_1, atI_2, atI_3, exists_and_left, exists_eq', and_true, true_and, decide_eq_true_eq, tabL_q, two]
      refine ⟨by omega, small_of (by omega) (by omega), ?_⟩
      have hr : rngD 0 (T.length : Int) = (List.range T.length).map fun i => .int ((i : Nat) : Int) := by simp [rngD]
      rw [hr]
      refine lcV_map (fun i => .int ((i : Nat) : Int)) (fun i => optD T[i]?) _ (by simp; omega) (fun i hi kk hk => ?_) ?_
      · have hi' : i < T.length := List.mem_range.mp hi
        simp only [wipeD, wqE, wqT, wqA, wqC, wqO, wqI, wqJ, addV_ii, addV_ss, addV_tt, addV_rr, subV_ii, mulV_ii, mulV_si, mulV_ti, mulV_ri, fdivV_ii, modV_ii, powV_ii, negV_i, truthV_s, truthV_n, truthV_b, truthV_i, truthV_t, truthV_r, ordV_ii, ordV_ss, idxV_t, idxV_r, idxV_s, slV_t, slV_r, slV_s, biV_len_s, biV_len_t, biV_len_r, biV_sum_t, biV_sum_r, biV_any_t, biV_any_r, biV_all_t, biV_all_r, biV_abs, biV_min, biV_max, biV_int_i, biV_int_b, biV_int_s, biV_str, biV_tuple_t, biV_tuple_r, biV_list_t, biV_list_r, mtV_join_t, mtV_join_r, mtV_count, mtO_join, mtO_count, itV_t, itV_r, itV_s, rng1V_i, rng2V_i, fmtV_s, fmtV_i, flatD_n, flatD_b, flatD_i, flatD_s, opV_Add, opV_Sub, opV_Mult, opV_FloorDiv, opV_Mod, opV_Pow, cmpV_Eq, cmpV_NotEq, cmpV_Is, cmpV_IsNot, cmpV_In, cmpV_NotIn, cmpV_Lt, cmpV_LtE, cmpV_Gt, cmpV_GtE, wqP_v, wqP_t, wqP_r, wqPs_n, wqPs_c, eqV_ii, eqV_ss, eqV_bb, isV_n, isV_bb, isNon, inV_ss, ownB, Bool.true_or, Bool.false_or, Bool.or_false, Bool.not_false, Bool.not_true, Nat.reduceBEq, Bool.or_self, Bool.or_true, tab2_q, List.getElem?_cons_zero, List.getElem?_cons_succ, List.set_cons_zero, List.set_cons_succ, Option.some.injEq, exists_eq_left', exists_eq_left, Option.map_some, Bool.false_xor, Bool.true_xor, put_same, put_put, Ob.lst.injEq, D.int.injEq, D.bl.injEq, D.str.injEq, D.tup.injEq, D.ref.injEq, seqD_t, seqD_l, seqD_r, atI_0, atI_1, atI_2, atI_3, exists_and_left, exists_eq', and_true, true_and, decide_eq_true_eq, tabL_q, two, if_true]
        refine ⟨by simp, by omega, by omega, by simp, ?_⟩
        refine letAt_of (ps := ps) hp hnC hn3 (by omega) ?_
        rw [Int.toNat_natCast]
        have e : T[i]? = (wrts (List.replicate m (2 : Int)) ps)[i]? := by rw [← hT, List.getElem?_take, if_pos (by omega)]
        rw [← e]; exact hk
      · have hj : strsF ((List.range T.length).map fun i => optD T[i]?) = some (T.map fun c => [c]) := by
          have h1 : ((List.range T.length).map fun i => optD T[i]?) = T.map fun c => .str [c] := by
            apply List.ext_getElem
            · simp
            · intro i h1 h2
              simp at h1 h2
              simp [List.getElem?_eq_getElem h2, optD]
          rw [h1]
          clear hT hTl hr h1
          induction T with
          | nil => rfl
          | cons c T ih => simp [strsF, ih]
        refine ⟨_, hj, by rw [lenL_eq, flat_single]; simp; omega, ?_⟩
        rw [join_nil, flat_single]
        simp only [wqE, wqT, wqA, wqC, wqO, wqI, wqJ, addV_ii, addV_ss, addV_tt, addV_rr, subV_ii, mulV_ii, mulV_si, mulV_ti, mulV_ri, fdivV_ii, modV_ii, powV_ii, negV_i, truthV_s, truthV_n, truthV_b, truthV_i, truthV_t, truthV_r, ordV_ii, ordV_ss, idxV_t, idxV_r, idxV_s, slV_t, slV_r, slV_s, biV_len_s, biV_len_t, biV_len_r, biV_sum_t, biV_sum_r, biV_any_t, biV_any_r, biV_all_t, biV_all_r, biV_abs, biV_min, biV_max, biV_int_i, biV_int_b, biV_int_s, biV_str, biV_tuple_t, biV_tuple_r, biV_list_t, biV_list_r, mtV_join_t, mtV_join_r, mtV_count, mtO_join, mtO_count, itV_t, itV_r, itV_s, rng1V_i, rng2V_i, fmtV_s, fmtV_i, flatD_n, flatD_b, flatD_i, flatD_s, opV_Add, opV_Sub, opV_Mult, opV_FloorDiv, opV_Mod, opV_Pow, cmpV_Eq, cmpV_NotEq, cmpV_Is, cmpV_IsNot, cmpV_In, cmpV_NotIn, cmpV_Lt, cmpV_LtE, cmpV_Gt, cmpV_GtE, wqP_v, wqP_t, wqP_r, wqPs_n, wqPs_c, eqV_ii, eqV_ss, eqV_bb, isV_n, isV_bb, isNon, inV_ss, ownB, Bool.true_or, Bool.false_or, Bool.or_false, Bool.not_false, Bool.not_true, Nat.reduceBEq, Bool.or_self, Bool.or_true, tab2_q, List.getElem?_cons_zero, List.getElem?_cons_succ, List.set_cons_zero, List.set_cons_succ, Option.some.injEq, exists_eq_left', exists_eq_left, Option.map_some, Bool.false_xor, Bool.true_xor, put_same, put_put, Ob.lst.injEq, D.int.injEq, D.bl.injEq, D.str.injEq, D.tup.injEq, D.ref.injEq, seqD_t, seqD_l, seqD_r, atI_0, atI_1, atI_2, atI_3, exists_and_left, exists_eq', and_true, true_and, decide_eq_true_eq, decide_true, Bool.not_true, Bool.false_eq_true, if_false]
        exact ok_nil (ok_nil (hN _ _ ⟨by omega, _, _, _, _, _, _, _, _, _, _, rfl⟩))
  · rintro env g ⟨hg, o2, o3, o4, o5, o6, o7, o8, o9, o11, o12, rfl⟩
    unfold ir_law_2
    refine ok_cons (ok_ret ?_)
    simp only [wqE, wqT, wqA, wqC, wqO, wqI, wqJ, addV_ii, addV_ss, addV_tt, addV_rr, subV_ii, mulV_ii, mulV_si, mulV_ti, mulV_ri, fdivV_ii, modV_ii, powV_ii, negV_i, truthV_s, truthV_n, truthV_b, truthV_i, truthV_t, truthV_r, ordV_ii, ordV_ss, idxV_t, idxV_r, idxV_s, slV_t, slV_r, slV_s, biV_len_s, biV_len_t, biV_len_r, biV_sum_t, biV_sum_r, biV_any_t, biV_any_r, biV_all_t, biV_all_r, biV_abs, biV_min, biV_max, biV_int_i, biV_int_b, biV_int_s, biV_str, biV_tuple_t, biV_tuple_r, biV_list_t, biV_list_r, mtV_join_t, mtV_join_r, mtV_count, mtO_join, mtO_count, itV_t, itV_r, itV_s, rng1V_i, rng2V_i, fmtV_s, fmtV_i, flatD_n, flatD_b, flatD_i, flatD_s, opV_Add, opV_Sub, opV_Mult, opV_FloorDiv, opV_Mod, opV_Pow, cmpV_Eq, cmpV_NotEq, cmpV_Is, cmpV_IsNot, cmpV_In, cmpV_NotIn, cmpV_Lt, cmpV_LtE, cmpV_Gt, cmpV_GtE, wqP_v, wqP_t, wqP_r, wqPs_n, wqPs_c, eqV_ii, eqV_ss, eqV_bb, isV_n, isV_bb, isNon, inV_ss, ownB, Bool.true_or, Bool.false_or, Bool.or_false, Bool.not_false, Bool.not_true, Nat.reduceBEq, Bool.or_self, Bool.or_true, tab2_q, List.getElem?_cons_zero, List.getElem?_cons_succ, List.set_cons_zero, List.set_cons_succ, Option.some.injEq, exists_eq_left', exists_eq_left, Option.map_some, Bool.false_xor, Bool.true_xor, put_same, put_put, Ob.lst.injEq, D.int.injEq, D.bl.injEq, D.str.injEq, D.tup.injEq, D.ref.injEq, seqD_t, seqD_l, seqD_r, atI_0, atI_1, atI_2, atI_3, exists_and_left, exists_eq', and_true, true_and, decide_eq_true_eq]
end G57
set_option Elab.async false
set_option linter.all false
set_option maxRecDepth 100000
set_option maxHeartbeats 2000000
namespace G57
open PySem L2 PySem.Spec PyProof.Rows
section
variable {P : Program} {w : World} {K : PySem.W.Frag} {mg : Str → Option Value} {base : Heap}
theorem does_part (T : Tops K mg) (hd : Does P w K mg base 3 "_law_draw" spDraw) (hw : Does P w K mg base 3 "_law_word" spWord) (hf : Does P w K mg base 3 "_law_form" spForm) : ∀ n, Does P w K mg base (n + 3) "_law_part" (spPart n)
  | 0 => does_no T.f_l_part (fun ds S Q h => by obtain ⟨_, _, _, _, _, _, _, _, h, _⟩ := h; omega)
  | n + 1 => by
    refine does_of (Φ := phiP n) T.f_l_part ok_l_part tr_l_part T.md (fun p hp => ?_) (fun ds S Q h => by obtain ⟨_, _, _, _, _, _, rfl, _⟩ := h; rfl) (w_part n)
    simp only [phiP, List.mem_cons, List.not_mem_nil, or_false] at hp
    rcases hp with rfl | rfl | rfl | rfl
    · exact hd.mono (by omega)
    · exact does_part T hd hw hf n
    · exact hw.mono (by omega)
    · exact hf.mono (by omega)
theorem does_pieces (T : Tops K mg) : ∀ n, Does P w K mg base (n + 1) "_law_pieces" (spPieces n)
  | 0 => does_no T.f_l_pieces (fun ds S Q h => by obtain ⟨_, _, _, _, _, _, h, _⟩ := h; omega)
  | n + 1 => by
    refine does_of (Φ := [("_law_pieces", spPieces n)]) T.f_l_pieces ok_l_pieces tr_l_pieces T.md (fun p hp => ?_) (fun ds S Q h => by obtain ⟨_, _, _, _, rfl, _⟩ := h; rfl) (w_pieces n)
    rw [List.mem_singleton.mp hp]; exact does_pieces T n
theorem does_gen (T : Tops K mg) : Does P w K mg base 1 "_law_draw" spDraw ∧ Does P w K mg base 9 "_law_program" spProgram := by
  have draw : Does P w K mg base 1 "_law_draw" spDraw := does_of (Φ := []) T.f_l_draw ok_l_draw tr_l_draw T.md (fun p hp => by simp at hp) (fun ds S Q h => by obtain ⟨_, _, _, _, rfl, _⟩ := h; rfl) w_draw
  have one : Does P w K mg base 2 "_law_one" spOne := does_of (Φ := [("_law_draw", spDraw)]) T.f_l_one ok_l_one tr_l_one T.md (fun p hp => by rw [List.mem_singleton.mp hp]; exact draw) (fun ds S Q h => by obtain ⟨_, _, _, _, _, rfl, _⟩ := h; rfl) w_one
  have two : ∀ p ∈ phiF, Does P w K mg base 2 p.1 p.2 := fun p hp => by
    simp only [phiF, List.mem_cons, List.not_mem_nil, or_false] at hp
    rcases hp with rfl | rfl
    · exact one
    · exact draw.mono (by omega)
  have word : Does P w K mg base 3 "_law_word" spWord := does_of (Φ := phiF) T.f_l_word ok_l_word tr_l_word T.md two (fun ds S Q h => by obtain ⟨_, _, _, _, rfl, _⟩ := h; rfl) w_word
  have form : Does P w K mg base 3 "_law_form" spForm := does_of (Φ := phiF) T.f_l_form ok_l_form tr_l_form T.md two (fun ds S Q h => by obtain ⟨_, _, _, _, rfl, _⟩ := h; rfl) w_form
  have part := does_part T (draw.mono (show 1 ≤ 3 by omega)) word form 4
  have small : Does P w K mg base 6 "_law_is_small" spSmall := does_of (Φ := [("_law_pieces", spPieces 4)]) T.f_l_is_small ok_l_is_small tr_l_is_small T.md (fun p hp => by rw [List.mem_singleton.mp hp]; exact does_pieces T 4) (fun ds S Q h => by obtain ⟨_, _, _, _, rfl, _⟩ := h; rfl) w_is_small
  refine ⟨draw, does_of (k := 8) (Φ := phiG) T.f_l_program ok_l_program tr_l_program T.md (fun p hp => ?_) (fun ds S Q h => by obtain ⟨_, _, _, _, rfl, _⟩ := h; rfl) w_program⟩
  simp only [phiG, List.mem_cons, List.not_mem_nil, or_false] at hp
  rcases hp with rfl | rfl | rfl
  · exact small.mono (by omega)
  · exact part.mono (by omega)
  · exact draw.mono (by omega)
theorem does_rows (T : Tops K mg) (ho : Does P w K mg base 1 "is_open" (lift2 sOpen)) (hf : Does P w K mg base 1 "fixed_row" (lift2 sFixed)) (hb : Does P w K mg base 1 "behind" (lift2 sBehind)) : ∀ n, Does P w K mg base (2 * n + 3) "parts_row" (lift2 (sPartsR n)) := by
  have parts : ∀ n, Does P w K mg base (2 * n + 2) "part_row" (lift2 (sPartR n)) → Does P w K mg base (2 * n + 3) "parts_row" (lift2 (sPartsR n)) := fun n h =>
    does2 (L := LpsR n) (M := []) T.f_parts_row ok_parts_row tr_parts_row T.md (fun p hp => by
      simp only [LpsR, List.mem_cons, List.not_mem_nil, or_false] at hp
      rcases hp with rfl | rfl | rfl
      · exact hf.mono (by omega)
      · exact hb.mono (by omega)
      · exact h) (fun ds g Q h => by obtain ⟨_, _, _, _, rfl, _⟩ := h; rfl) (own_all (by decide)) (q_parts_row n)
  intro n
  induction n with
  | zero =>
    exact parts 0 (does2_no T.f_part_row (fun ds g Q h => by obtain ⟨_, _, _, _, _, _, h, _⟩ := h; omega))
  | succ n ih =>
    refine parts (n + 1) ?_
    refine does2 (k := 2 * n + 3) (L := LpR n) (M := []) T.f_part_row ok_part_row tr_part_row T.md (fun p hp => ?_) (fun ds g Q h => by obtain ⟨_, _, _, _, rfl, _⟩ := h; rfl) (own_all (by decide)) (q_part_row n)
    simp only [LpR, List.mem_cons, List.not_mem_nil, or_false] at hp
    rcases hp with rfl | rfl | rfl | rfl
    · exact ih
    · exact ho.mono (by omega)
    · exact hf.mono (by omega)
    · exact hb.mono (by omega)
theorem does_text (T : Tops K mg) (hv : Does P w K mg base 1 "_law_number" spVal) : ∀ n, Does P w K mg base (n + 1) "_law_text" (spText n)
  | 0 => does_no T.f_l_text (fun ds S Q h => by obtain ⟨_, _, _, _, _, _, _, h, _⟩ := h; omega)
  | n + 1 => by
    refine does_of (Φ := [("_law_number", spVal), ("_law_text", spText n)]) T.f_l_text ok_l_text tr_l_text T.md (fun p hp' => ?_) (fun ds S Q h => by obtain ⟨_, _, _, _, _, rfl, _⟩ := h; rfl) (w_text n)
    simp only [List.mem_cons, List.not_mem_nil, or_false] at hp'
    rcases hp' with rfl | rfl
    · exact hv.mono (by omega)
    · exact does_text T hv n
theorem fn_law {f : Addr} {fd : FuncData} (T : Tops K mg) (F : Fun K "law" "law" (tb 29) f fd) : FnG P w K mg base 24 f fd ["_law_script"] (liftSp K 1 (lawSp 63)) := by
  obtain ⟨draw1, prog1⟩ := does_gen (P := P) (w := w) (base := base) T
  have h_l_draw : Does P w K mg base 1 "_law_draw" (lift2 sDraw) := does_draw2 draw1
  have h_l_program : Does P w K mg base 9 "_law_program" (lift2 sProg) := does_prog2 prog1
  have h_l_pieces : Does P w K mg base 5 "_law_pieces" (lift2 sPieces) := does_pieces2 (does_pieces T 4)
  have h_l_one : Does P w K mg base 2 "_law_one" (lift2 sOne) := does2 (k := 1) (L := [("_law_draw", sDraw)]) (M := []) T.f_l_one ok_l_one tr_l_one T.md (fun p hp => by rw [List.mem_singleton.mp hp]; exact h_l_draw) (fun ds g Q h => by obtain ⟨_, _, rfl, _⟩ := h; rfl) (own_all (by decide)) q_one
  have one1 : Does P w K mg base 2 "_law_one" spOne := does_of (Φ := [("_law_draw", spDraw)]) T.f_l_one ok_l_one tr_l_one T.md (fun p hp => by rw [List.mem_singleton.mp hp]; exact draw1) (fun ds S Q h => by obtain ⟨_, _, _, _, _, rfl, _⟩ := h; rfl) w_one
  have nums1 : Does P w K mg base 3 "_law_numbers" spNums := does_of (Φ := [("_law_draw", spDraw), ("_law_one", spOne)]) T.f_l_numbers ok_l_numbers tr_l_numbers T.md (fun p hp => by
    simp only [List.mem_cons, List.not_mem_nil, or_false] at hp
    rcases hp with rfl | rfl
    · exact draw1.mono (by omega)
    · exact one1) (fun ds S Q h => by obtain ⟨_, _, _, _, _, rfl, _⟩ := h; rfl) w_numbers
  have h_l_numbers : Does P w K mg base 3 "_law_numbers" (lift2 sNums) := does_nums2 nums1
  have h_l_number : Does P w K mg base 1 "_law_number" (lift2 sVal) := does2 (k := 0) (L := []) (M := []) T.f_l_number ok_l_number tr_l_number T.md (fun p hp => by simp at hp) (fun ds g Q h => by obtain ⟨_, _, rfl, _⟩ := h; rfl) (own_all (by decide)) q_l_number
  have num1 : Does P w K mg base 1 "_law_number" spVal := does_of (Φ := []) T.f_l_number ok_l_number tr_l_number T.md (fun p hp => by simp at hp) (fun ds S Q h => by obtain ⟨_, _, rfl, _⟩ := h; rfl) w_l_number
  have h_l_text : Does P w K mg base 5 "_law_text" (lift2 sText) := does_text2 (does_text T num1 4)
  have h_is_open : Does P w K mg base 1 "is_open" (lift2 sOpen) := does2 (k := 0) (L := []) (M := []) T.f_is_open ok_is_open tr_is_open T.md (fun p hp => by simp at hp) (fun ds g Q h => by obtain ⟨_, rfl, _⟩ := h; rfl) (own_all (by decide)) q_open
  have h_fixed_row : Does P w K mg base 1 "fixed_row" (lift2 sFixed) := does2 (k := 0) (L := []) (M := []) T.f_fixed_row ok_fixed_row tr_fixed_row T.md (fun p hp => by simp at hp) (fun ds g Q h => by obtain ⟨_, rfl, _⟩ := h; rfl) (own_all (by decide)) q_fixed
  have h_behind : Does P w K mg base 1 "behind" (lift2 sBehind) := does2 (k := 0) (L := []) (M := []) T.f_behind ok_behind tr_behind T.md (fun p hp => by simp at hp) (fun ds g Q h => by obtain ⟨_, _, rfl, _⟩ := h; rfl) (own_all (by decide)) q_behind
  have h_parts_row : Does P w K mg base 11 "parts_row" (lift2 (sPartsR 4)) := does_rows T h_is_open h_fixed_row h_behind 4
  have h_flat : Does P w K mg base 12 "flat" (lift2 sFlat) := does2 (k := 11) (L := [("parts_row", sPartsR 4)]) (M := []) T.f_flat ok_flat tr_flat T.md (fun p hp => by rw [List.mem_singleton.mp hp]; exact h_parts_row) (fun ds g Q h => by obtain ⟨_, _, _, rfl, _⟩ := h; rfl) (own_all (by decide)) q_flat
  have h_value_of : Does P w K mg base 1 "value_of" (lift2 sVal) := does2 (k := 0) (L := []) (M := []) T.f_value_of ok_value_of tr_value_of T.md (fun p hp => by simp at hp) (fun ds g Q h => by obtain ⟨_, _, rfl, _⟩ := h; rfl) (own_all (by decide)) q_value_of
  have h_runs_of : Does P w K mg base 2 "runs_of" (lift2 sRuns) := does2 (k := 1) (L := [("value_of", sVal)]) (M := [5]) T.f_runs_of ok_runs_of tr_runs_of T.md (fun p hp => by rw [List.mem_singleton.mp hp]; exact h_value_of) (fun ds g Q h => by obtain ⟨_, _, _, rfl, _⟩ := h; rfl) (own_all (by decide)) q_runs_of
  have h_letter_of : Does P w K mg base 1 "letter_of" (lift2 sLetter) := does2 (k := 0) (L := []) (M := []) T.f_letter_of ok_letter_of tr_letter_of T.md (fun p hp => by simp at hp) (fun ds g Q h => by obtain ⟨_, _, rfl, _⟩ := h; rfl) (own_all (by decide)) q_letter_of
  have h_letter_at : Does P w K mg base 13 "letter_at" (lift2 sLetAt) := does2 (k := 12) (L := [("letter_of", sLetter), ("runs_of", sRuns), ("flat", sFlat)]) (M := []) T.f_letter_at ok_letter_at tr_letter_at T.md (fun p hp => by
    simp only [List.mem_cons, List.not_mem_nil, or_false] at hp
    rcases hp with rfl | rfl | rfl
    · exact h_letter_of.mono (by omega)
    · exact h_runs_of.mono (by omega)
    · exact h_flat.mono (by omega)) (fun ds g Q h => by obtain ⟨_, _, _, _, _, rfl, _⟩ := h; rfl) (own_all (by decide)) q_letter_at
  have h_l_due : Does P w K mg base 6 "_law_due" (lift2 sDue) := does2 (k := 5) (L := [("_law_pieces", sPieces), ("_law_number", sVal)]) (M := []) T.f_l_due ok_l_due tr_l_due T.md (fun p hp => by
    simp only [List.mem_cons, List.not_mem_nil, or_false] at hp
    rcases hp with rfl | rfl
    · exact h_l_pieces.mono (by omega)
    · exact h_l_number.mono (by omega)) (fun ds g Q h => by obtain ⟨_, _, _, _, rfl, _⟩ := h; rfl) (own_all (by decide)) q_due
  have h_l_edges : Does P w K mg base 6 "_law_edges" (lift2 sEdges) := does2 (k := 5) (L := [("_law_pieces", sPieces), ("_law_number", sVal)]) (M := [2]) T.f_l_edges ok_l_edges tr_l_edges T.md (fun p hp => by
    simp only [List.mem_cons, List.not_mem_nil, or_false] at hp
    rcases hp with rfl | rfl
    · exact h_l_pieces.mono (by omega)
    · exact h_l_number.mono (by omega)) (fun ds g Q h => by obtain ⟨_, _, _, rfl, _⟩ := h; rfl) (own_all (by decide)) q_edges
  have h_deck : Does P w K mg base 1 "_law_deck" spDeck := does_of (Φ := []) T.f_l_deck ok_l_deck tr_l_deck T.md (fun p hp => by simp at hp) (fun ds S Q h => by obtain ⟨_, rfl, _⟩ := h; rfl) w_deck
  refine law_does (k := 23) (L := Llaw) F ok_law tr_law T.md (fun p hp => ?_) w_law
  simp only [Llaw, List.mem_cons, List.not_mem_nil, or_false] at hp
  rcases hp with rfl | rfl | rfl | rfl | rfl | rfl | rfl | rfl | rfl
  · exact h_deck.mono (by omega)
  · exact h_l_draw.mono (by omega)
  · exact h_l_program.mono (by omega)
  · exact h_l_numbers.mono (by omega)
  · exact h_l_text.mono (by omega)
  · exact h_l_edges.mono (by omega)
  · exact h_letter_at.mono (by omega)
  · exact h_l_due.mono (by omega)
  · exact h_l_one.mono (by omega)
end
end G57
namespace G57
open PySem L2 PySem.Spec PyProof.Rows
theorem all_mk {l : PySem.W.OpenLaw} {w : World} {K : PySem.W.Frag} {h : Heap} {mg : Str → Option Value} {fa : Addr} (X : K.In h) (G : h.Ns mainGlobals mg) (hfa : mg "law" = some (.ref fa))
    {f0 f1 f2 f3 f4 f5 f6 f7 f8 f9 f10 f11 f12 f13 f14 f15 f16 f17 f18 f19 f20 f21 f22 f23 f24 : Addr} {od0 an0 od1 an1 od2 an2 od3 an3 od4 an4 od5 an5 od6 an6 od7 an7 od8 an8 od9 an9 od10 an10 od11 an11 od12 an12 od13 an13 od14 an14 od15 an15 od16 an16 od17 an17 od18 an18 od19 an19 od20 an20 od21 an21 od22 an22 od23 an23 od24 an24 : Option Addr} {sl0 sl1 sl2 sl3 sl4 sl5 sl6 sl7 sl8 sl9 sl10 sl11 sl12 sl13 sl14 sl15 sl16 sl17 sl18 sl19 sl20 sl21 sl22 sl23 sl24 : Array (Option Value)} {oc0 kV0 dc0 pm0 cd0 ct0 oc1 kV1 dc1 pm1 cd1 ct1 oc2 kV2 dc2 pm2 cd2 ct2 oc3 kV3 dc3 pm3 cd3 ct3 oc4 kV4 dc4 pm4 cd4 ct4 oc5 kV5 dc5 pm5 cd5 ct5 oc6 kV6 dc6 pm6 cd6 ct6 oc7 kV7 dc7 pm7 cd7 ct7 oc8 kV8 dc8 pm8 cd8 ct8 oc9 kV9 dc9 pm9 cd9 ct9 oc10 kV10 dc10 pm10 cd10 ct10 oc11 kV11 dc11 pm11 cd11 ct11 oc12 kV12 dc12 pm12 cd12 ct12 oc13 kV13 dc13 pm13 cd13 ct13 oc14 kV14 dc14 pm14 cd14 ct14 oc15 kV15 dc15 pm15 cd15 ct15 oc16 kV16 dc16 pm16 cd16 ct16 oc17 kV17 dc17 pm17 cd17 ct17 oc18 kV18 dc18 pm18 cd18 ct18 oc19 kV19 dc19 pm19 cd19 ct19 oc20 kV20 dc20 pm20 cd20 ct20 oc21 kV21 dc21 pm21 cd21 ct21 oc22 kV22 dc22 pm22 cd22 ct22 oc23 kV23 dc23 pm23 cd23 ct23 oc24 kV24 dc24 pm24 cd24 ct24 : Value}
    (a0 : PySem.W.nsIn K mainGlobals "is_open" = some (some (.ref f0))) (l0 : K.lookup f0 = some ⟨oc0, od0, .func (PySem.W.fnOf "is_open" "is_open" (defArgs (tb 1)) (defBody (tb 1)) (defScope (tb 1)) .none kV0 dc0 pm0 an0 cd0 ct0), sl0⟩) (c0 : PySem.W.codeIn K cd0 "is_open" = true) (k0 : PySem.W.keepIn K (.ref f0) = true)
    (a1 : PySem.W.nsIn K mainGlobals "fixed_row" = some (some (.ref f1))) (l1 : K.lookup f1 = some ⟨oc1, od1, .func (PySem.W.fnOf "fixed_row" "fixed_row" (defArgs (tb 2)) (defBody (tb 2)) (defScope (tb 2)) .none kV1 dc1 pm1 an1 cd1 ct1), sl1⟩) (c1 : PySem.W.codeIn K cd1 "fixed_row" = true) (k1 : PySem.W.keepIn K (.ref f1) = true)
    (a2 : PySem.W.nsIn K mainGlobals "behind" = some (some (.ref f2))) (l2 : K.lookup f2 = some ⟨oc2, od2, .func (PySem.W.fnOf "behind" "behind" (defArgs (tb 3)) (defBody (tb 3)) (defScope (tb 3)) .none kV2 dc2 pm2 an2 cd2 ct2), sl2⟩) (c2 : PySem.W.codeIn K cd2 "behind" = true) (k2 : PySem.W.keepIn K (.ref f2) = true)
    (a3 : PySem.W.nsIn K mainGlobals "part_row" = some (some (.ref f3))) (l3 : K.lookup f3 = some ⟨oc3, od3, .func (PySem.W.fnOf "part_row" "part_row" (defArgs (tb 4)) (defBody (tb 4)) (defScope (tb 4)) .none kV3 dc3 pm3 an3 cd3 ct3), sl3⟩) (c3 : PySem.W.codeIn K cd3 "part_row" = true) (k3 : PySem.W.keepIn K (.ref f3) = true)
    (a4 : PySem.W.nsIn K mainGlobals "parts_row" = some (some (.ref f4))) (l4 : K.lookup f4 = some ⟨oc4, od4, .func (PySem.W.fnOf "parts_row" "parts_row" (defArgs (tb 5)) (defBody (tb 5)) (defScope (tb 5)) .none kV4 dc4 pm4 an4 cd4 ct4), sl4⟩) (c4 : PySem.W.codeIn K cd4 "parts_row" = true) (k4 : PySem.W.keepIn K (.ref f4) = true)
    (a5 : PySem.W.nsIn K mainGlobals "flat" = some (some (.ref f5))) (l5 : K.lookup f5 = some ⟨oc5, od5, .func (PySem.W.fnOf "flat" "flat" (defArgs (tb 6)) (defBody (tb 6)) (defScope (tb 6)) .none kV5 dc5 pm5 an5 cd5 ct5), sl5⟩) (c5 : PySem.W.codeIn K cd5 "flat" = true) (k5 : PySem.W.keepIn K (.ref f5) = true)
    (a6 : PySem.W.nsIn K mainGlobals "value_of" = some (some (.ref f6))) (l6 : K.lookup f6 = some ⟨oc6, od6, .func (PySem.W.fnOf "value_of" "value_of" (defArgs (tb 8)) (defBody (tb 8)) (defScope (tb 8)) .none kV6 dc6 pm6 an6 cd6 ct6), sl6⟩) (c6 : PySem.W.codeIn K cd6 "value_of" = true) (k6 : PySem.W.keepIn K (.ref f6) = true)
    (a7 : PySem.W.nsIn K mainGlobals "runs_of" = some (some (.ref f7))) (l7 : K.lookup f7 = some ⟨oc7, od7, .func (PySem.W.fnOf "runs_of" "runs_of" (defArgs (tb 10)) (defBody (tb 10)) (defScope (tb 10)) .none kV7 dc7 pm7 an7 cd7 ct7), sl7⟩) (c7 : PySem.W.codeIn K cd7 "runs_of" = true) (k7 : PySem.W.keepIn K (.ref f7) = true)
    (a8 : PySem.W.nsIn K mainGlobals "letter_of" = some (some (.ref f8))) (l8 : K.lookup f8 = some ⟨oc8, od8, .func (PySem.W.fnOf "letter_of" "letter_of" (defArgs (tb 11)) (defBody (tb 11)) (defScope (tb 11)) .none kV8 dc8 pm8 an8 cd8 ct8), sl8⟩) (c8 : PySem.W.codeIn K cd8 "letter_of" = true) (k8 : PySem.W.keepIn K (.ref f8) = true)
    (a9 : PySem.W.nsIn K mainGlobals "letter_at" = some (some (.ref f9))) (l9 : K.lookup f9 = some ⟨oc9, od9, .func (PySem.W.fnOf "letter_at" "letter_at" (defArgs (tb 13)) (defBody (tb 13)) (defScope (tb 13)) .none kV9 dc9 pm9 an9 cd9 ct9), sl9⟩) (c9 : PySem.W.codeIn K cd9 "letter_at" = true) (k9 : PySem.W.keepIn K (.ref f9) = true)
    (a10 : PySem.W.nsIn K mainGlobals "_law_deck" = some (some (.ref f10))) (l10 : K.lookup f10 = some ⟨oc10, od10, .func (PySem.W.fnOf "_law_deck" "_law_deck" (defArgs (tb 15)) (defBody (tb 15)) (defScope (tb 15)) .none kV10 dc10 pm10 an10 cd10 ct10), sl10⟩) (c10 : PySem.W.codeIn K cd10 "_law_deck" = true) (k10 : PySem.W.keepIn K (.ref f10) = true)
    (a11 : PySem.W.nsIn K mainGlobals "_law_draw" = some (some (.ref f11))) (l11 : K.lookup f11 = some ⟨oc11, od11, .func (PySem.W.fnOf "_law_draw" "_law_draw" (defArgs (tb 16)) (defBody (tb 16)) (defScope (tb 16)) .none kV11 dc11 pm11 an11 cd11 ct11), sl11⟩) (c11 : PySem.W.codeIn K cd11 "_law_draw" = true) (k11 : PySem.W.keepIn K (.ref f11) = true)
    (a12 : PySem.W.nsIn K mainGlobals "_law_one" = some (some (.ref f12))) (l12 : K.lookup f12 = some ⟨oc12, od12, .func (PySem.W.fnOf "_law_one" "_law_one" (defArgs (tb 17)) (defBody (tb 17)) (defScope (tb 17)) .none kV12 dc12 pm12 an12 cd12 ct12), sl12⟩) (c12 : PySem.W.codeIn K cd12 "_law_one" = true) (k12 : PySem.W.keepIn K (.ref f12) = true)
    (a13 : PySem.W.nsIn K mainGlobals "_law_word" = some (some (.ref f13))) (l13 : K.lookup f13 = some ⟨oc13, od13, .func (PySem.W.fnOf "_law_word" "_law_word" (defArgs (tb 18)) (defBody (tb 18)) (defScope (tb 18)) .none kV13 dc13 pm13 an13 cd13 ct13), sl13⟩) (c13 : PySem.W.codeIn K cd13 "_law_word" = true) (k13 : PySem.W.keepIn K (.ref f13) = true)
    (a14 : PySem.W.nsIn K mainGlobals "_law_form" = some (some (.ref f14))) (l14 : K.lookup f14 = some ⟨oc14, od14, .func (PySem.W.fnOf "_law_form" "_law_form" (defArgs (tb 19)) (defBody (tb 19)) (defScope (tb 19)) .none kV14 dc14 pm14 an14 cd14 ct14), sl14⟩) (c14 : PySem.W.codeIn K cd14 "_law_form" = true) (k14 : PySem.W.keepIn K (.ref f14) = true)
    (a15 : PySem.W.nsIn K mainGlobals "_law_part" = some (some (.ref f15))) (l15 : K.lookup f15 = some ⟨oc15, od15, .func (PySem.W.fnOf "_law_part" "_law_part" (defArgs (tb 20)) (defBody (tb 20)) (defScope (tb 20)) .none kV15 dc15 pm15 an15 cd15 ct15), sl15⟩) (c15 : PySem.W.codeIn K cd15 "_law_part" = true) (k15 : PySem.W.keepIn K (.ref f15) = true)
    (a16 : PySem.W.nsIn K mainGlobals "_law_pieces" = some (some (.ref f16))) (l16 : K.lookup f16 = some ⟨oc16, od16, .func (PySem.W.fnOf "_law_pieces" "_law_pieces" (defArgs (tb 21)) (defBody (tb 21)) (defScope (tb 21)) .none kV16 dc16 pm16 an16 cd16 ct16), sl16⟩) (c16 : PySem.W.codeIn K cd16 "_law_pieces" = true) (k16 : PySem.W.keepIn K (.ref f16) = true)
    (a17 : PySem.W.nsIn K mainGlobals "_law_is_small" = some (some (.ref f17))) (l17 : K.lookup f17 = some ⟨oc17, od17, .func (PySem.W.fnOf "_law_is_small" "_law_is_small" (defArgs (tb 22)) (defBody (tb 22)) (defScope (tb 22)) .none kV17 dc17 pm17 an17 cd17 ct17), sl17⟩) (c17 : PySem.W.codeIn K cd17 "_law_is_small" = true) (k17 : PySem.W.keepIn K (.ref f17) = true)
    (a18 : PySem.W.nsIn K mainGlobals "_law_program" = some (some (.ref f18))) (l18 : K.lookup f18 = some ⟨oc18, od18, .func (PySem.W.fnOf "_law_program" "_law_program" (defArgs (tb 23)) (defBody (tb 23)) (defScope (tb 23)) .none kV18 dc18 pm18 an18 cd18 ct18), sl18⟩) (c18 : PySem.W.codeIn K cd18 "_law_program" = true) (k18 : PySem.W.keepIn K (.ref f18) = true)
    (a19 : PySem.W.nsIn K mainGlobals "_law_number" = some (some (.ref f19))) (l19 : K.lookup f19 = some ⟨oc19, od19, .func (PySem.W.fnOf "_law_number" "_law_number" (defArgs (tb 24)) (defBody (tb 24)) (defScope (tb 24)) .none kV19 dc19 pm19 an19 cd19 ct19), sl19⟩) (c19 : PySem.W.codeIn K cd19 "_law_number" = true) (k19 : PySem.W.keepIn K (.ref f19) = true)
    (a20 : PySem.W.nsIn K mainGlobals "_law_text" = some (some (.ref f20))) (l20 : K.lookup f20 = some ⟨oc20, od20, .func (PySem.W.fnOf "_law_text" "_law_text" (defArgs (tb 25)) (defBody (tb 25)) (defScope (tb 25)) .none kV20 dc20 pm20 an20 cd20 ct20), sl20⟩) (c20 : PySem.W.codeIn K cd20 "_law_text" = true) (k20 : PySem.W.keepIn K (.ref f20) = true)
    (a21 : PySem.W.nsIn K mainGlobals "_law_numbers" = some (some (.ref f21))) (l21 : K.lookup f21 = some ⟨oc21, od21, .func (PySem.W.fnOf "_law_numbers" "_law_numbers" (defArgs (tb 26)) (defBody (tb 26)) (defScope (tb 26)) .none kV21 dc21 pm21 an21 cd21 ct21), sl21⟩) (c21 : PySem.W.codeIn K cd21 "_law_numbers" = true) (k21 : PySem.W.keepIn K (.ref f21) = true)
    (a22 : PySem.W.nsIn K mainGlobals "_law_due" = some (some (.ref f22))) (l22 : K.lookup f22 = some ⟨oc22, od22, .func (PySem.W.fnOf "_law_due" "_law_due" (defArgs (tb 27)) (defBody (tb 27)) (defScope (tb 27)) .none kV22 dc22 pm22 an22 cd22 ct22), sl22⟩) (c22 : PySem.W.codeIn K cd22 "_law_due" = true) (k22 : PySem.W.keepIn K (.ref f22) = true)
    (a23 : PySem.W.nsIn K mainGlobals "_law_edges" = some (some (.ref f23))) (l23 : K.lookup f23 = some ⟨oc23, od23, .func (PySem.W.fnOf "_law_edges" "_law_edges" (defArgs (tb 28)) (defBody (tb 28)) (defScope (tb 28)) .none kV23 dc23 pm23 an23 cd23 ct23), sl23⟩) (c23 : PySem.W.codeIn K cd23 "_law_edges" = true) (k23 : PySem.W.keepIn K (.ref f23) = true)
    (a24 : PySem.W.nsIn K mainGlobals "law" = some (some (.ref f24))) (l24 : K.lookup f24 = some ⟨oc24, od24, .func (PySem.W.fnOf "law" "law" (defArgs (tb 29)) (defBody (tb 29)) (defScope (tb 29)) .none kV24 dc24 pm24 an24 cd24 ct24), sl24⟩) (c24 : PySem.W.codeIn K cd24 "law" = true) (k24 : PySem.W.keepIn K (.ref f24) = true)
    (z0 : PySem.W.nsIn K mainGlobals "any" = some none)
    (z1 : PySem.W.nsIn K mainGlobals "range" = some none)
    (z2 : PySem.W.nsIn K mainGlobals "sum" = some none)
    (z3 : PySem.W.nsIn K mainGlobals "zip" = some none)
    (z4 : PySem.W.nsIn K mainGlobals "tuple" = some none)
    (z5 : PySem.W.nsIn K mainGlobals "len" = some none)
    (z6 : PySem.W.nsIn K mainGlobals "list" = some none)
    (z7 : PySem.W.nsIn K mainGlobals "int" = some none)
    (z8 : PySem.W.nsIn K mainGlobals "abs" = some none)
    (z9 : PySem.W.nsIn K mainGlobals "min" = some none)
    (z10 : PySem.W.nsIn K mainGlobals "repr" = some none)
    (z11 : PySem.W.nsIn K mainGlobals "max" = some none)
    : ∃ fd : FuncData, (∀ (s : Shared) (v : Value), BindsTo s fd ⟨[v], []⟩ [("_law_script", v)]) ∧ ∀ base : Heap, K.In base → base.Ns mainGlobals mg → FnG l.prog w K mg base 24 fa fd ["_law_script"] (liftSp K 1 (lawSp 63)) := by
  have e := hfa.symm.trans (PySem.W.mg_of X G a24)
  cases e
  have T : Tops K mg := {
    f_is_open := ft_mk X G a0 l0 c0 k0 fun _ _ _ _ _ _ us hl => match us, hl with | [_], _ => rfl
    f_fixed_row := ft_mk X G a1 l1 c1 k1 fun _ _ _ _ _ _ us hl => match us, hl with | [_], _ => rfl
    f_behind := ft_mk X G a2 l2 c2 k2 fun _ _ _ _ _ _ us hl => match us, hl with | [_, _], _ => rfl
    f_part_row := ft_mk X G a3 l3 c3 k3 fun _ _ _ _ _ _ us hl => match us, hl with | [_], _ => rfl
    f_parts_row := ft_mk X G a4 l4 c4 k4 fun _ _ _ _ _ _ us hl => match us, hl with | [_], _ => rfl
    f_flat := ft_mk X G a5 l5 c5 k5 fun _ _ _ _ _ _ us hl => match us, hl with | [_], _ => rfl
    f_value_of := ft_mk X G a6 l6 c6 k6 fun _ _ _ _ _ _ us hl => match us, hl with | [_, _], _ => rfl
    f_runs_of := ft_mk X G a7 l7 c7 k7 fun _ _ _ _ _ _ us hl => match us, hl with | [_, _], _ => rfl
    f_letter_of := ft_mk X G a8 l8 c8 k8 fun _ _ _ _ _ _ us hl => match us, hl with | [_, _], _ => rfl
    f_letter_at := ft_mk X G a9 l9 c9 k9 fun _ _ _ _ _ _ us hl => match us, hl with | [_, _, _], _ => rfl
    f_l_deck := ft_mk X G a10 l10 c10 k10 fun _ _ _ _ _ _ us hl => match us, hl with | [_], _ => rfl
    f_l_draw := ft_mk X G a11 l11 c11 k11 fun _ _ _ _ _ _ us hl => match us, hl with | [_, _], _ => rfl
    f_l_one := ft_mk X G a12 l12 c12 k12 fun _ _ _ _ _ _ us hl => match us, hl with | [_, _], _ => rfl
    f_l_word := ft_mk X G a13 l13 c13 k13 fun _ _ _ _ _ _ us hl => match us, hl with | [_, _], _ => rfl
    f_l_form := ft_mk X G a14 l14 c14 k14 fun _ _ _ _ _ _ us hl => match us, hl with | [_, _], _ => rfl
    f_l_part := ft_mk X G a15 l15 c15 k15 fun _ _ _ _ _ _ us hl => match us, hl with | [_, _, _, _], _ => rfl
    f_l_pieces := ft_mk X G a16 l16 c16 k16 fun _ _ _ _ _ _ us hl => match us, hl with | [_], _ => rfl
    f_l_is_small := ft_mk X G a17 l17 c17 k17 fun _ _ _ _ _ _ us hl => match us, hl with | [_], _ => rfl
    f_l_program := ft_mk X G a18 l18 c18 k18 fun _ _ _ _ _ _ us hl => match us, hl with | [_, _], _ => rfl
    f_l_number := ft_mk X G a19 l19 c19 k19 fun _ _ _ _ _ _ us hl => match us, hl with | [_, _], _ => rfl
    f_l_text := ft_mk X G a20 l20 c20 k20 fun _ _ _ _ _ _ us hl => match us, hl with | [_, _], _ => rfl
    f_l_numbers := ft_mk X G a21 l21 c21 k21 fun _ _ _ _ _ _ us hl => match us, hl with | [_, _, _], _ => rfl
    f_l_due := ft_mk X G a22 l22 c22 k22 fun _ _ _ _ _ _ us hl => match us, hl with | [_, _, _], _ => rfl
    f_l_edges := ft_mk X G a23 l23 c23 k23 fun _ _ _ _ _ _ us hl => match us, hl with | [_, _], _ => rfl
    md := ⟨fun x hx => by
        simp only [bs0, List.mem_cons, List.not_mem_nil, or_false] at hx
        rcases hx with rfl | rfl | rfl | rfl | rfl | rfl | rfl | rfl | rfl | rfl | rfl | rfl
        · exact PySem.W.mg_none_of X G z0
        · exact PySem.W.mg_none_of X G z1
        · exact PySem.W.mg_none_of X G z2
        · exact PySem.W.mg_none_of X G z3
        · exact PySem.W.mg_none_of X G z4
        · exact PySem.W.mg_none_of X G z5
        · exact PySem.W.mg_none_of X G z6
        · exact PySem.W.mg_none_of X G z7
        · exact PySem.W.mg_none_of X G z8
        · exact PySem.W.mg_none_of X G z9
        · exact PySem.W.mg_none_of X G z10
        · exact PySem.W.mg_none_of X G z11,
      fun x d e => by simp [cs0] at e⟩ }
  exact ⟨PySem.W.fnOf "law" "law" (defArgs (tb 29)) (defBody (tb 29)) (defScope (tb 29)) .none kV24 dc24 pm24 an24 cd24 ct24, fun s v => .of_eq rfl, fun base _ _ => fn_law T (fun_mk l24 c24 k24)⟩
end G57
open PySem PySem.W PyProof.Rows
set_option maxHeartbeats 0 in
theorem PySem.Challenge.cw_everycount_k05_letters_at_places_holds : PySem.Challenge.rw_everycount_k05_letters_at_places.Holds := by
  w_on; o_law; k_head; (case hw => w_witness2)
  k_fill
  refine G57.walk_end (l := PySem.Challenge.rw_everycount_k05_letters_at_places) (n := 63) (k := 24) (x := "_law_script") rfl (by decide) rfl ⟨rfl, by decide, by decide⟩ (fun w h Y => PySem.W.kIn_of Y) ?F
  case F =>
    intro w mg fa h KX G hmg
    refine' G57.all_mk KX G hmg ?a0 ?l0 ?c0 ?k0 ?a1 ?l1 ?c1 ?k1 ?a2 ?l2 ?c2 ?k2 ?a3 ?l3 ?c3 ?k3 ?a4 ?l4 ?c4 ?k4 ?a5 ?l5 ?c5 ?k5 ?a6 ?l6 ?c6 ?k6 ?a7 ?l7 ?c7 ?k7 ?a8 ?l8 ?c8 ?k8 ?a9 ?l9 ?c9 ?k9 ?a10 ?l10 ?c10 ?k10 ?a11 ?l11 ?c11 ?k11 ?a12 ?l12 ?c12 ?k12 ?a13 ?l13 ?c13 ?k13 ?a14 ?l14 ?c14 ?k14 ?a15 ?l15 ?c15 ?k15 ?a16 ?l16 ?c16 ?k16 ?a17 ?l17 ?c17 ?k17 ?a18 ?l18 ?c18 ?k18 ?a19 ?l19 ?c19 ?k19 ?a20 ?l20 ?c20 ?k20 ?a21 ?l21 ?c21 ?k21 ?a22 ?l22 ?c22 ?k22 ?a23 ?l23 ?c23 ?k23 ?a24 ?l24 ?c24 ?k24 ?z0 ?z1 ?z2 ?z3 ?z4 ?z5 ?z6 ?z7 ?z8 ?z9 ?z10 ?z11
    (case a0 => k_is)
    (case l0 => k_is)
    (case c0 => k_is)
    (case k0 => k_is)
    (case a1 => k_is)
    (case l1 => k_is)
    (case c1 => k_is)
    (case k1 => k_is)
    (case a2 => k_is)
    (case l2 => k_is)
    (case c2 => k_is)
    (case k2 => k_is)
    (case a3 => k_is)
    (case l3 => k_is)
    (case c3 => k_is)
    (case k3 => k_is)
    (case a4 => k_is)
    (case l4 => k_is)
    (case c4 => k_is)
    (case k4 => k_is)
    (case a5 => k_is)
    (case l5 => k_is)
    (case c5 => k_is)
    (case k5 => k_is)
    (case a6 => k_is)
    (case l6 => k_is)
    (case c6 => k_is)
    (case k6 => k_is)
    (case a7 => k_is)
    (case l7 => k_is)
    (case c7 => k_is)
    (case k7 => k_is)
    (case a8 => k_is)
    (case l8 => k_is)
    (case c8 => k_is)
    (case k8 => k_is)
    (case a9 => k_is)
    (case l9 => k_is)
    (case c9 => k_is)
    (case k9 => k_is)
    (case a10 => k_is)
    (case l10 => k_is)
    (case c10 => k_is)
    (case k10 => k_is)
    (case a11 => k_is)
    (case l11 => k_is)
    (case c11 => k_is)
    (case k11 => k_is)
    (case a12 => k_is)
    (case l12 => k_is)
    (case c12 => k_is)
    (case k12 => k_is)
    (case a13 => k_is)
    (case l13 => k_is)
    (case c13 => k_is)
    (case k13 => k_is)
    (case a14 => k_is)
    (case l14 => k_is)
    (case c14 => k_is)
    (case k14 => k_is)
    (case a15 => k_is)
    (case l15 => k_is)
    (case c15 => k_is)
    (case k15 => k_is)
    (case a16 => k_is)
    (case l16 => k_is)
    (case c16 => k_is)
    (case k16 => k_is)
    (case a17 => k_is)
    (case l17 => k_is)
    (case c17 => k_is)
    (case k17 => k_is)
    (case a18 => k_is)
    (case l18 => k_is)
    (case c18 => k_is)
    (case k18 => k_is)
    (case a19 => k_is)
    (case l19 => k_is)
    (case c19 => k_is)
    (case k19 => k_is)
    (case a20 => k_is)
    (case l20 => k_is)
    (case c20 => k_is)
    (case k20 => k_is)
    (case a21 => k_is)
    (case l21 => k_is)
    (case c21 => k_is)
    (case k21 => k_is)
    (case a22 => k_is)
    (case l22 => k_is)
    (case c22 => k_is)
    (case k22 => k_is)
    (case a23 => k_is)
    (case l23 => k_is)
    (case c23 => k_is)
    (case k23 => k_is)
    (case a24 => k_is)
    (case l24 => k_is)
    (case c24 => k_is)
    (case k24 => k_is)
    (case z0 => k_is)
    (case z1 => k_is)
    (case z2 => k_is)
    (case z3 => k_is)
    (case z4 => k_is)
    (case z5 => k_is)
    (case z6 => k_is)
    (case z7 => k_is)
    (case z8 => k_is)
    (case z9 => k_is)
    (case z10 => k_is)
    (case z11 => k_is)
