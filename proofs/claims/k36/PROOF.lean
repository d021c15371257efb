import PyProof.Rows.All
import Wide.All
import OpenK.AllK
import Wide.FinOn
import HandS.ForMost
import HandS.Flow
import HandS.Wide
import HandS.TupAny
import HandS.TupMul
import HandS.TupLe
import HandS.Zip
import HandS.FStr
import HandS.IsInst
import HandS.Style
import HandS.NoneIn
import PyProof.Rows.NestShow
import PyProof.ConsumeWalk
import PyProof.WalksMore
import HandS.StrMore
import HandS.Replace
import PyProof.Rows.SumAny
import PyProof.Rows.StrCountLaw
import KE.GoesZip
import KE.GoesMore
import KE.GoesEnum
import KE.KRevSl
import PyProof.ReprLen
import PySem.Challenge.RW_everycount_k36_whole_texts_tell_plain_ro
set_option Elab.async false
set_option linter.all false
set_option maxRecDepth 100000
namespace G57
open PySem L2
inductive D where
  | non | bl (b : Bool) | int (i : Int) | str (x : List Nat) | tup (ds : List D) | rol (ds : List D) | ref (a : Addr)
inductive Ob where
  | lst (ds : List D)
abbrev Sto := Addr → Option Ob
def put (S : Sto) (a : Addr) (o : Ob) : Sto := fun b => if b = a then some o else S b
theorem put_same {S : Sto} {a : Addr} {o : Ob} : put S a o a = some o := if_pos rfl
theorem put_ne {S : Sto} {a b : Addr} {o : Ob} (h : b ≠ a) : put S a o b = S b := if_neg h
theorem put_put {S : Sto} {a : Addr} {o u : Ob} : put (put S a o) a u = put S a u := by
  funext b; unfold put; split <;> rfl
def SqF (K : PySem.W.Frag) (H : Hp) (a : Addr) (xs : List V) : Prop :=
  (∃ o, H a = some (.frz o (.lst xs))) ∨ ∀ H' : Hp, SqL K H' a xs
theorem SqF.sq {K : PySem.W.Frag} {H : Hp} {a : Addr} {xs : List V} (h : SqF K H a xs) : SqL K H a xs := by
  rcases h with ⟨o, h⟩ | h
  · exact .inl (.inr ⟨o, h⟩)
  · exact h H
mutual
def Rep (K : PySem.W.Frag) (H : Hp) : D → V → Prop
  | .non, v => v = .non
  | .bl b, v => v = .bl b
  | .int i, v => v = .int i
  | .str x, v => v = .str ⟨x.toArray⟩
  | .ref a, v => v = .ref a
  | .tup ds, v => ∃ a vs, v = .ref a ∧ SqT K H a vs ∧ Reps K H ds vs
  | .rol ds, v => ∃ a vs, v = .ref a ∧ SqF K H a vs ∧ Reps K H ds vs
def Reps (K : PySem.W.Frag) (H : Hp) : List D → List V → Prop
  | [], vs => vs = []
  | d :: ds, vs => ∃ v r, vs = v :: r ∧ Rep K H d v ∧ Reps K H ds r
end
def Keep (H H' : Hp) : Prop := (∀ a xs, H a = some (.tup xs) → H' a = some (.tup xs)) ∧ ∀ a o u, H a = some (.frz o u) → H' a = some (.frz o u)
theorem Keep.refl {H : Hp} : Keep H H := ⟨fun _ _ e => e, fun _ _ _ e => e⟩
theorem Keep.trans {H H1 H2 : Hp} (a : Keep H H1) (b : Keep H1 H2) : Keep H H2 := ⟨fun _ _ e => b.1 _ _ (a.1 _ _ e), fun _ _ _ e => b.2 _ _ _ (a.2 _ _ _ e)⟩
theorem Keep.new {H : Hp} {p : Addr} {o : HO} (h : H p = none) : Keep H (upd H p o) :=
  ⟨fun _ _ e => by rw [upd_ne (ne_of_none e h)]; exact e, fun _ _ _ e => by rw [upd_ne (ne_of_none e h)]; exact e⟩
theorem Keep.lst {H : Hp} {p : Addr} {xs : List V} {o : HO} (h : H p = some (.lst xs)) : Keep H (upd H p o) :=
  ⟨fun _ _ e => by rw [upd_ne (ne_of e h (by intro z; cases z))]; exact e, fun _ _ _ e => by rw [upd_ne (ne_of e h (by intro z; cases z))]; exact e⟩
theorem Keep.sqt {K : PySem.W.Frag} {H H' : Hp} {a : Addr} {xs : List V} (k : Keep H H') (h : SqT K H a xs) : SqT K H' a xs := by
  rcases h with (h | ⟨o, h⟩) | h
  · exact .inl (.inl (k.1 _ _ h))
  · exact .inl (.inr ⟨o, k.2 _ _ _ h⟩)
  · exact .inr h
theorem Keep.sqf {K : PySem.W.Frag} {H H' : Hp} {a : Addr} {xs : List V} (k : Keep H H') (h : SqF K H a xs) : SqF K H' a xs := by
  rcases h with ⟨o, h⟩ | h
  · exact .inl ⟨o, k.2 _ _ _ h⟩
  · exact .inr h
mutual
theorem Rep.mono {K : PySem.W.Frag} {H H' : Hp} (k : Keep H H') : ∀ {d : D} {v : V}, Rep K H d v → Rep K H' d v
  | .non, _, h | .bl _, _, h | .int _, _, h | .str _, _, h | .ref _, _, h => by simpa only [Rep] using h
  | .tup ds, v, h => by
    simp only [Rep] at h ⊢
    obtain ⟨a, vs, e, q, r⟩ := h
    exact ⟨a, vs, e, k.sqt q, Reps.mono k r⟩
  | .rol ds, v, h => by
    simp only [Rep] at h ⊢
    obtain ⟨a, vs, e, q, r⟩ := h
    exact ⟨a, vs, e, k.sqf q, Reps.mono k r⟩
theorem Reps.mono {K : PySem.W.Frag} {H H' : Hp} (k : Keep H H') : ∀ {ds : List D} {vs : List V}, Reps K H ds vs → Reps K H' ds vs
  | [], _, h => by simpa only [Reps] using h
  | d :: ds, vs, h => by
    simp only [Reps] at h ⊢
    obtain ⟨v, r, e, q, t⟩ := h
    exact ⟨v, r, e, Rep.mono k q, Reps.mono k t⟩
end
def StoOk (K : PySem.W.Frag) (H : Hp) (S : Sto) : Prop := ∀ a o, S a = some o → match o with
  | .lst ds => ∃ vs, H a = some (.lst vs) ∧ Reps K H ds vs
abbrev En := List (Option D)
def RelE (K : PySem.W.Frag) (H : Hp) (env : En) (σ : L2.St) : Prop := env.length = σ.length ∧ ∀ (i : Nat) (d : D), env[i]? = some (some d) → ∃ v : V, σ[i]? = some (some v) ∧ Rep K H d v
theorem RelE.mono {K : PySem.W.Frag} {H H' : Hp} {env : En} {σ : L2.St} (k : Keep H H') (h : RelE K H env σ) : RelE K H' env σ :=
  ⟨h.1, fun i d e => let ⟨v, q, r⟩ := h.2 i d e; ⟨v, q, r.mono k⟩⟩
theorem RelE.set {K : PySem.W.Frag} {H : Hp} {env : En} {σ : L2.St} {i : Nat} {d : D} {v : V} (h : RelE K H env σ) (r : Rep K H d v) : RelE K H (env.set i (some d)) (σ.set i (some v)) := by
  refine ⟨by simp [h.1], fun j e q => ?_⟩
  by_cases hj : i = j
  · subst hj
    by_cases hi : i < env.length
    · rw [List.getElem?_set_self hi] at q
      cases q
      exact ⟨v, List.getElem?_set_self (by rw [← h.1]; exact hi), r⟩
    · rw [List.getElem?_eq_none (by simpa using hi)] at q; cases q
  · rw [List.getElem?_set_ne hj] at q ⊢
    exact h.2 j e q
theorem StoOk.fresh {K : PySem.W.Frag} {H : Hp} {S : Sto} (h : StoOk K H S) {p : Addr} (e : H p = none) : S p = none := by
  cases q : S p with
  | none => rfl
  | some o =>
    have := h p o q
    cases o
    obtain ⟨vs, z, _⟩ := this
    rw [e] at z; cases z
theorem StoOk.new {K : PySem.W.Frag} {H : Hp} {S : Sto} (h : StoOk K H S) {p : Addr} {o : HO} (e : H p = none) : StoOk K (upd H p o) S := fun a ob q => by
  have := h a ob q
  cases ob
  obtain ⟨vs, z, r⟩ := this
  exact ⟨vs, by rw [upd_ne (ne_of_none z e)]; exact z, r.mono (Keep.new e)⟩
theorem StoOk.newL {K : PySem.W.Frag} {H : Hp} {S : Sto} (h : StoOk K H S) {p : Addr} {ds : List D} {vs : List V} (e : H p = none) (r : Reps K H ds vs) : StoOk K (upd H p (.lst vs)) (put S p (.lst ds)) := fun a ob q => by
  by_cases ha : a = p
  · subst ha
    rw [put_same] at q; cases q
    exact ⟨vs, upd_same, r.mono (Keep.new e)⟩
  · rw [put_ne ha] at q
    exact h.new e a ob q
theorem StoOk.write {K : PySem.W.Frag} {H : Hp} {S : Sto} (h : StoOk K H S) {p : Addr} {ds : List D} {us vs : List V} (e : H p = some (.lst us)) (r : Reps K H ds vs) : StoOk K (upd H p (.lst vs)) (put S p (.lst ds)) := fun a ob q => by
  by_cases ha : a = p
  · subst ha
    rw [put_same] at q; cases q
    exact ⟨vs, upd_same, r.mono (Keep.lst e)⟩
  · rw [put_ne ha] at q
    have := h a ob q
    cases ob
    obtain ⟨ws, z, t⟩ := this
    exact ⟨ws, by rw [upd_ne ha]; exact z, t.mono (Keep.lst e)⟩
section
variable {K : PySem.W.Frag} {H : Hp}
theorem Reps.length : ∀ {ds : List D} {vs : List V}, Reps K H ds vs → ds.length = vs.length
  | [], _, h => by simp only [Reps] at h; rw [h]; rfl
  | d :: ds, vs, h => by
    simp only [Reps] at h
    obtain ⟨v, r, e, _, t⟩ := h
    rw [e, List.length_cons, List.length_cons, t.length]
theorem Reps.nil : Reps K H [] [] := by simp only [Reps]
theorem Reps.cons {d : D} {v : V} {ds : List D} {vs : List V} (a : Rep K H d v) (b : Reps K H ds vs) : Reps K H (d :: ds) (v :: vs) := by simp only [Reps]; exact ⟨v, vs, rfl, a, b⟩
theorem Reps.inv {d : D} {v : V} {ds : List D} {vs : List V} (h : Reps K H (d :: ds) (v :: vs)) : Rep K H d v ∧ Reps K H ds vs := by
  simp only [Reps] at h
  obtain ⟨_, _, e, a, b⟩ := h
  cases e
  exact ⟨a, b⟩
theorem Reps.get : ∀ {ds : List D} {vs : List V} {i : Nat} {d : D}, Reps K H ds vs → ds[i]? = some d → ∃ v, vs[i]? = some v ∧ Rep K H d v
  | [], _, _, _, _, e => by simp at e
  | d :: ds, v :: vs, 0, _, h, e => by simp at e; subst e; exact ⟨v, rfl, h.inv.1⟩
  | d :: ds, v :: vs, i + 1, _, h, e => by
    simp at e
    obtain ⟨x, q, r⟩ := Reps.get h.inv.2 e
    exact ⟨x, by simpa using q, r⟩
  | d :: ds, [], _, _, h, _ => by simp only [Reps] at h; obtain ⟨_, _, e, _⟩ := h; cases e
theorem Reps.append : ∀ {ds es : List D} {vs us : List V}, Reps K H ds vs → Reps K H es us → Reps K H (ds ++ es) (vs ++ us)
  | [], _, _, _, h, g => by simp only [Reps] at h; subst h; exact g
  | d :: ds, _, v :: vs, _, h, g => .cons h.inv.1 (h.inv.2.append g)
  | d :: ds, _, [], _, h, _ => by simp only [Reps] at h; obtain ⟨_, _, e, _⟩ := h; cases e
theorem Reps.take : ∀ {ds : List D} {vs : List V} (n : Nat), Reps K H ds vs → Reps K H (ds.take n) (vs.take n)
  | _, _, 0, _ => by simp only [List.take_zero]; exact .nil
  | [], _, n + 1, h => by simp only [Reps] at h; subst h; exact .nil
  | d :: ds, v :: vs, n + 1, h => .cons h.inv.1 (h.inv.2.take n)
  | d :: ds, [], _, h => by simp only [Reps] at h; obtain ⟨_, _, e, _⟩ := h; cases e
theorem Reps.drop : ∀ {ds : List D} {vs : List V} (n : Nat), Reps K H ds vs → Reps K H (ds.drop n) (vs.drop n)
  | _, _, 0, h => h
  | [], _, n + 1, h => by simp only [Reps] at h; subst h; exact .nil
  | d :: ds, v :: vs, n + 1, h => h.inv.2.drop n
  | d :: ds, [], _, h => by simp only [Reps] at h; obtain ⟨_, _, e, _⟩ := h; cases e
theorem Reps.set : ∀ {ds : List D} {vs : List V} {d : D} {v : V} (n : Nat), Reps K H ds vs → Rep K H d v → Reps K H (ds.set n d) (vs.set n v)
  | [], _, _, _, _, h, _ => by simp only [Reps] at h; subst h; exact .nil
  | d :: ds, v :: vs, _, _, 0, h, r => .cons r h.inv.2
  | d :: ds, v :: vs, _, _, n + 1, h, r => .cons h.inv.1 (h.inv.2.set n r)
  | d :: ds, [], _, _, _, h, _ => by simp only [Reps] at h; obtain ⟨_, _, e, _⟩ := h; cases e
theorem Reps.rep {ds : List D} {vs : List V} (h : Reps K H ds vs) : ∀ n : Nat, Reps K H (List.replicate n ds).flatten (List.replicate n vs).flatten
  | 0 => .nil
  | n + 1 => by rw [List.replicate_succ, List.replicate_succ, List.flatten_cons, List.flatten_cons]; exact h.append (h.rep n)
theorem Reps.reverse : ∀ {ds : List D} {vs : List V}, Reps K H ds vs → Reps K H ds.reverse vs.reverse
  | [], _, h => by simp only [Reps] at h; subst h; exact .nil
  | d :: ds, v :: vs, h => by rw [List.reverse_cons, List.reverse_cons]; exact h.inv.2.reverse.append (.cons h.inv.1 .nil)
  | d :: ds, [], h => by simp only [Reps] at h; obtain ⟨_, _, e, _⟩ := h; cases e
end
abbrev DK := D → Sto → Prop
abbrev TD := En → Sto → DK → Prop
abbrev TBD := En → Sto → (Bool → Sto → Prop) → Prop
abbrev TAD := En → Sto → (List D → Sto → Prop) → Prop
def Lv (K : PySem.W.Frag) (H : Hp) (Qd : DK) (Q : VK) : Prop := ∀ d S' v H', Qd d S' → Keep H H' → Rep K H' d v → StoOk K H' S' → Q v H'
def liftE (K : PySem.W.Frag) (t : TD) : TE := fun σ H Q => ∃ env S Qd, RelE K H env σ ∧ StoOk K H S ∧ t env S Qd ∧ Lv K H Qd Q
def liftT (K : PySem.W.Frag) (t : TBD) : TT := fun σ H Q => ∃ env S, ∃ Qd : Bool → Sto → Prop, RelE K H env σ ∧ StoOk K H S ∧ t env S Qd ∧ ∀ b S' H', Qd b S' → Keep H H' → StoOk K H' S' → Q b H'
def liftA (K : PySem.W.Frag) (t : TAD) : TA := fun σ H Q => ∃ env S, ∃ Qd : List D → Sto → Prop, RelE K H env σ ∧ StoOk K H S ∧ t env S Qd ∧ ∀ ds S' vs H', Qd ds S' → Keep H H' → Reps K H' ds vs → StoOk K H' S' → Q vs H'
theorem _root_.L2.PE.weak {X : Cx} {e : Expr} {t t' : TE} (h : PE X e t) (w : ∀ σ H Q, t' σ H Q → t σ H Q) : PE X e t' := ⟨fun pins s σ H Q I q => h.run pins s σ H Q I (w σ H Q q)⟩
theorem _root_.L2.PT.weak {X : Cx} {e : Expr} {t t' : TT} (h : PT X e t) (w : ∀ σ H Q, t' σ H Q → t σ H Q) : PT X e t' := ⟨fun pins s σ H Q I q => h.run pins s σ H Q I (w σ H Q q)⟩
theorem _root_.L2.PA.weak {X : Cx} {e : List Expr} {t t' : TA} (h : PA X e t) (w : ∀ σ H Q, t' σ H Q → t σ H Q) : PA X e t' := ⟨fun pos pins s σ H Q I q => h.run pos pins s σ H Q I (w σ H Q q)⟩
abbrev QE (X : Cx) (e : Expr) (t : TD) : Prop := PE X e (liftE X.K t)
abbrev QT (X : Cx) (e : Expr) (t : TBD) : Prop := PT X e (liftT X.K t)
abbrev QA (X : Cx) (es : List Expr) (t : TAD) : Prop := PA X es (liftA X.K t)
abbrev R2D := D → D → Sto → DK → Prop
def liftR2 (K : PySem.W.Frag) (r : R2D) : R2 := fun x y H Q => ∃ a b S Qd, Rep K H a x ∧ Rep K H b y ∧ StoOk K H S ∧ r a b S Qd ∧ Lv K H Qd Q
abbrev RLD := List D → Sto → DK → Prop
def liftRL (K : PySem.W.Frag) (r : RLD) : List V → Hp → VK → Prop := fun xs H Q => ∃ ds S Qd, Reps K H ds xs ∧ StoOk K H S ∧ r ds S Qd ∧ Lv K H Qd Q
theorem Lv.keep {K : PySem.W.Frag} {H H' : Hp} {Qd : DK} {Q : VK} (l : Lv K H Qd Q) (k : Keep H H') : Lv K H' Qd Q := fun d S' v H2 q k2 r s => l d S' v H2 q (k.trans k2) r s
section
variable {X : Cx} {a b c : Expr} {ta tb tc : TD} {pos : Pos}
theorem q_bin {op : Operator} {r : R2D} (ho : OpR X (binaryOp op) (liftR2 X.K r)) (ha : QE X a ta) (hb : QE X b tb) :
    QE X (.BinOp a op b pos) (fun env S Q => ta env S fun x S1 => tb env S1 fun y S2 => r x y S2 Q) :=
  (pe_op ho ha hb).weak fun σ H Q ⟨env, S, Qd, re, so, h, l⟩ =>
    ⟨env, S, _, re, so, h, fun x S1 v H1 h1 k1 r1 s1 => ⟨env, S1, _, re.mono k1, s1, h1, fun y S2 u H2 h2 k2 r2 s2 =>
      ⟨x, y, S2, Qd, r1.mono k2, r2, s2, h2, l.keep (k1.trans k2)⟩⟩⟩
theorem q_cmp {op : CmpOp} {r : R2D} (ho : OpR X (compareOp op) (liftR2 X.K r)) (ha : QE X a ta) (hb : QE X b tb) (hm : behindInMarks op b = false) :
    QE X (.Compare a [op] [b] pos) (fun env S Q => ta env S fun x S1 => tb env S1 fun y S2 => r x y S2 Q) :=
  (pe_cmpR ho ha hb hm).weak fun σ H Q ⟨env, S, Qd, re, so, h, l⟩ =>
    ⟨env, S, _, re, so, h, fun x S1 v H1 h1 k1 r1 s1 => ⟨env, S1, _, re.mono k1, s1, h1, fun y S2 u H2 h2 k2 r2 s2 =>
      ⟨x, y, S2, Qd, r1.mono k2, r2, s2, h2, l.keep (k1.trans k2)⟩⟩⟩
theorem q_nil : QA X [] (fun env S Q => Q [] S) := pa_nil.weak fun σ H Q ⟨env, S, Qd, re, so, h, l⟩ => l [] S [] H h .refl .nil so
theorem q_cons {e : Expr} {es : List Expr} {te : TD} {t : TAD} (he : QE X e te) (ht : QA X es t) (hs : starEach (e :: es) X.env = (false, eval e X.env) :: starEach es X.env) :
    QA X (e :: es) (fun env S Q => te env S fun x S1 => t env S1 fun xs S2 => Q (x :: xs) S2) :=
  (pa_cons he ht hs).weak fun σ H Q ⟨env, S, Qd, re, so, h, l⟩ =>
    ⟨env, S, _, re, so, h, fun x S1 v H1 h1 k1 r1 s1 => ⟨env, S1, _, re.mono k1, s1, h1, fun xs S2 vs H2 h2 k2 r2 s2 =>
      l (x :: xs) S2 (v :: vs) H2 h2 (k1.trans k2) (.cons (r1.mono k2) r2) s2⟩⟩
theorem q_var {i : Nat} {x : Str} (hN : X.N[i]? = some x) (hv : Vis X.env.scope x) (hd : (x == ("__debug__" : Str)) = false) (hcd : (x == ("__classdict__" : Str)) = false) :
    QE X (.Name x pos) (fun env S Q => ∃ d, env[i]? = some (some d) ∧ Q d S) :=
  (pe_var hN hv hd hcd).weak fun σ H Q ⟨env, S, Qd, re, so, ⟨d, e, h⟩, l⟩ => let ⟨v, e2, r⟩ := re.2 i d e; ⟨v, e2, l d S v H h .refl r so⟩
theorem q_con {d : D} {v : V} {e : Expr} (h : PE X e (tC v)) (hr : ∀ H, Rep X.K H d v) : QE X e (fun env S Q => Q d S) :=
  h.weak fun σ H Q ⟨env, S, Qd, re, so, h, l⟩ => l d S v H h .refl (hr H) so
end
end G57
set_option Elab.async false
set_option linter.all false
set_option maxRecDepth 100000
namespace G57
open PySem L2
theorem szl : sizeLine = 16777216 := by decide
theorem cps_app (x y : List Nat) : (⟨x.toArray⟩ : Str) ++ ⟨y.toArray⟩ = ⟨(x ++ y).toArray⟩ := by
  show Str.append _ _ = _
  unfold Str.append
  simp
theorem str_len (x : List Nat) : (⟨x.toArray⟩ : Str).length = x.length := by
  unfold Str.length
  simp
theorem Rep.tup_inv {K : PySem.W.Frag} {H : Hp} {ds : List D} {v : V} (h : Rep K H (.tup ds) v) : ∃ a vs, v = .ref a ∧ SqT K H a vs ∧ Reps K H ds vs := by
  simpa only [Rep] using h
theorem Rep.rol_inv {K : PySem.W.Frag} {H : Hp} {ds : List D} {v : V} (h : Rep K H (.rol ds) v) : ∃ a vs, v = .ref a ∧ SqF K H a vs ∧ Reps K H ds vs := by
  simpa only [Rep] using h
theorem Rep.tup_mk {K : PySem.W.Frag} {H : Hp} {ds : List D} {a : Addr} {vs : List V} (h : SqT K H a vs) (r : Reps K H ds vs) : Rep K H (.tup ds) (.ref a) := by
  simp only [Rep]; exact ⟨a, vs, rfl, h, r⟩
theorem Rep.int {K : PySem.W.Frag} {H : Hp} {i : Int} : Rep K H (.int i) (.int i) := by simp only [Rep]
theorem Rep.bl {K : PySem.W.Frag} {H : Hp} {i : Bool} : Rep K H (.bl i) (.bl i) := by simp only [Rep]
theorem Rep.non {K : PySem.W.Frag} {H : Hp} : Rep K H .non .non := by simp only [Rep]
theorem Rep.str {K : PySem.W.Frag} {H : Hp} {x : List Nat} : Rep K H (.str x) (.str ⟨x.toArray⟩) := by simp only [Rep]
theorem Rep.ref {K : PySem.W.Frag} {H : Hp} {a : Addr} : Rep K H (.ref a) (.ref a) := by simp only [Rep]
theorem Lv.tup {K : PySem.W.Frag} {H : Hp} {Qd : DK} {Q : VK} {S : Sto} {ds : List D} {vs : List V} (l : Lv K H Qd Q) (so : StoOk K H S) (h : Qd (.tup ds) S) (r : Reps K H ds vs) (p : Addr) (hp : H p = none) : Q (.ref p) (upd H p (.tup vs)) :=
  l (.tup ds) S (.ref p) _ h (Keep.new hp) (.tup_mk (.inl (.inl upd_same)) (r.mono (Keep.new hp))) (so.new hp)
theorem Lv.lst {K : PySem.W.Frag} {H : Hp} {Qd : DK} {Q : VK} {S : Sto} {ds : List D} {vs : List V} (l : Lv K H Qd Q) (so : StoOk K H S) (h : ∀ p, S p = none → Qd (.ref p) (put S p (.lst ds))) (r : Reps K H ds vs) (p : Addr) (hp : H p = none) : Q (.ref p) (upd H p (.lst vs)) :=
  l (.ref p) _ (.ref p) _ (h p (so.fresh hp)) (Keep.new hp) .ref (so.newL hp r)
def addD : R2D
  | .int i, .int j, S, Q => Q (.int (i + j)) S
  | .str x, .str y, S, Q => x.length + y.length ≤ 16777216 ∧ Q (.str (x ++ y)) S
  | .tup x, .tup y, S, Q => x.length + y.length ≤ 16777216 ∧ Q (.tup (x ++ y)) S
  | .ref p, .ref q, S, Q => ∃ xs ys, S p = some (.lst xs) ∧ S q = some (.lst ys) ∧ xs.length + ys.length ≤ 16777216 ∧ ∀ r, S r = none → Q (.ref r) (put S r (.lst (xs ++ ys)))
  | _, _, _, _ => False
def subD : R2D
  | .int i, .int j, S, Q => Q (.int (i - j)) S
  | _, _, _, _ => False
def mulD : R2D
  | .int i, .int j, S, Q => CMulW i j ∧ Q (.int (i * j)) S
  | .str x, .int j, S, Q => j < 2 ^ 40 ∧ -(2 ^ 40) < j ∧ x.length * j.toNat ≤ 16777216 ∧ Q (.str (List.replicate j.toNat x).flatten) S
  | .tup x, .int j, S, Q => j ≤ 1000 ∧ -1000 ≤ j ∧ x.length ≤ 1000 ∧ Q (.tup (List.replicate j.toNat x).flatten) S
  | .ref p, .int j, S, Q => ∃ xs, S p = some (.lst xs) ∧ j < 2 ^ 40 ∧ -(2 ^ 40) < j ∧ xs.length * j.toNat ≤ 16777216 ∧ ∀ r, S r = none → Q (.ref r) (put S r (.lst (List.replicate j.toNat xs).flatten))
  | _, _, _, _ => False
def fdivD : R2D
  | .int i, .int j, S, Q => 0 < j ∧ j < 2 ^ 8000 ∧ Q (.int (i / j)) S
  | _, _, _, _ => False
def modD : R2D
  | .int i, .int j, S, Q => 0 < j ∧ Q (.int (i % j)) S
  | _, _, _, _ => False
def powD : R2D
  | .int i, .int j, S, Q => CPow i j ∧ Q (.int (i ^ j.toNat)) S
  | _, _, _, _ => False
section
variable {X : Cx}
theorem addD_ok : OpR X (binaryOp .Add) (liftR2 X.K addD) := by
  intro pins s σ H x y v u Q I rx ry ⟨a, b, S, Qd, ra, rb, so, h, l⟩
  cases a <;> cases b <;> try exact h.elim
  case int.int i j =>
    simp only [Rep] at ra rb
    exact op_add pins s σ H x y v u Q I rx ry ⟨i, j, ra, rb, l _ S _ H h .refl .int so⟩
  case str.str i j =>
    simp only [Rep] at ra rb
    obtain ⟨h1, h2⟩ := h
    refine op_add_str pins s σ H x y v u Q I rx ry ⟨_, _, ra, rb, by rw [str_len, str_len, szl]; exact h1, ?_⟩
    rw [cps_app]
    exact l _ S _ H h2 .refl .str so
  case tup.tup ds es =>
    obtain ⟨p, ps, rfl, hp, rp⟩ := ra.tup_inv
    obtain ⟨q, qs, rfl, hq, rq⟩ := rb.tup_inv
    obtain ⟨h1, h2⟩ := h
    refine op_catA pins s σ H _ _ v u Q I rx ry ⟨p, q, ps, qs, rfl, rfl, hp, hq, by rw [← rp.length, ← rq.length, szl]; exact h1, fun e => ?_, fun e e2 => ?_, fun e e2 r hr => ?_⟩
    · have e' : ds = [] := List.eq_nil_of_length_eq_zero (by rw [rp.length, e]; rfl)
      subst e'
      exact l _ S _ H h2 .refl rb so
    · have e' : es = [] := List.eq_nil_of_length_eq_zero (by rw [rq.length, e2]; rfl)
      subst e'
      rw [List.append_nil] at h2
      exact l _ S _ H h2 .refl ra so
    · exact l.tup so h2 (rp.append rq) r hr
  case ref.ref p q =>
    simp only [Rep] at ra rb
    obtain ⟨xs, ys, e1, e2, hz, h⟩ := h
    obtain ⟨vs, f1, r1⟩ := so p _ e1
    obtain ⟨us, f2, r2⟩ := so q _ e2
    exact op_cat pins s σ H x y v u Q I rx ry ⟨p, q, vs, us, ra, rb, f1, f2, by rw [← r1.length, ← r2.length, szl]; exact hz, fun r hr => l.lst so h (r1.append r2) r hr⟩
theorem subD_ok : OpR X (binaryOp .Sub) (liftR2 X.K subD) := by
  intro pins s σ H x y v u Q I rx ry ⟨a, b, S, Qd, ra, rb, so, h, l⟩
  cases a <;> cases b <;> try exact h.elim
  case int.int i j =>
    simp only [Rep] at ra rb
    exact op_sub pins s σ H x y v u Q I rx ry ⟨i, j, ra, rb, l _ S _ H h .refl .int so⟩
theorem modD_ok : OpR X (binaryOp .Mod) (liftR2 X.K modD) := by
  intro pins s σ H x y v u Q I rx ry ⟨a, b, S, Qd, ra, rb, so, h, l⟩
  cases a <;> cases b <;> try exact h.elim
  case int.int i j =>
    simp only [Rep] at ra rb
    obtain ⟨h1, h2⟩ := h
    refine op_modN pins s σ H x y v u Q I rx ry ⟨i, j, ra, rb, by show j ≠ 0; omega, ?_⟩
    show Q (.int (i.fmod j)) H
    rw [Int.fmod_eq_emod_of_nonneg i (by omega)]
    exact l _ S _ H h2 .refl .int so
theorem fdivD_ok : OpR X (binaryOp .FloorDiv) (liftR2 X.K fdivD) := by
  intro pins s σ H x y v u Q I rx ry ⟨a, b, S, Qd, ra, rb, so, h, l⟩
  cases a <;> cases b <;> try exact h.elim
  case int.int i j =>
    simp only [Rep] at ra rb
    obtain ⟨h1, h2, h3⟩ := h
    refine op_fdivW pins s σ H x y v u Q I rx ry ⟨i, j, ra, rb, wide_div (b := 8000) h1 ?_ (by decide) (by decide), l _ S _ H h3 .refl .int so⟩
    have e : ((j.natAbs : Nat) : Int) = j := by omega
    have e2 : ((j.natAbs : Nat) : Int) < ((2 ^ 8000 : Nat) : Int) := by
      rw [e, Int.natCast_pow]
      exact h2
    exact Int.ofNat_lt.mp e2
theorem powD_ok : OpR X (binaryOp .Pow) (liftR2 X.K powD) := by
  intro pins s σ H x y v u Q I rx ry ⟨a, b, S, Qd, ra, rb, so, h, l⟩
  cases a <;> cases b <;> try exact h.elim
  case int.int i j =>
    simp only [Rep] at ra rb
    obtain ⟨h1, h2⟩ := h
    exact op_pow pins s σ H x y v u Q I rx ry ⟨i, j, ra, rb, h1, l _ S _ H h2 .refl .int so⟩
end
end G57
set_option Elab.async false
set_option linter.all false
set_option maxRecDepth 100000
set_option maxHeartbeats 4000000
namespace G57
open PySem L2 PySem.Spec PyProof.Rows
theorem tupMul_same (l : Addr) (its : Array Value) (n : Nat) (dd : Option Addr) (sl : Array (Option Value)) (x : Int) (u : Tok)
    (c0 : (decide (x < -(2 ^ 63)) || decide (x ≥ 2 ^ 63)) = false) (c1 : (its.isEmpty || x == 1) = true) :
    Meets (Builtin.«tuple.__mul__» ⟨[.ref l, .int x u], []⟩) (fun _ R s =>
      s.heap.get? l = some { cls := .type "tuple", dict := dd, data := .seq its n, slots := sl } ∧ R (.ok (.ret (.ref l))) s) :=
  .of_wp fun prog w A R s h => by
    obtain ⟨hp, g, d, tk, os⟩ := s
    obtain ⟨hl, h⟩ := h
    have f1 := AutoSeq1.idx_int
    wp_walk using wpAny_loadPart' hl
    repeat (first
      | exact ⟨_, rfl, h⟩
      | (refine wpAny_ite_false (decide_eq_false (by rw [c0]; simp)) ?_; wp_walk using wpAny_loadPart' hl)
      | (refine wpAny_ite_true (decide_eq_true c1) ?_; wp_walk using wpAny_loadPart' hl))
theorem tupMul_none (l : Addr) (its : Array Value) (n : Nat) (dd : Option Addr) (sl : Array (Option Value)) (x : Int) (u : Tok)
    (c0 : (decide (x < -(2 ^ 63)) || decide (x ≥ 2 ^ 63)) = false) (c1 : (its.isEmpty || x == 1) = false) (c2 : (decide (x ≤ 0) || its.isEmpty) = true) :
    Meets (Builtin.«tuple.__mul__» ⟨[.ref l, .int x u], []⟩) (fun _ R s =>
      s.heap.get? l = some { cls := .type "tuple", dict := dd, data := .seq its n, slots := sl } ∧
      R (.ok (.ret (Value.ref s.heap.objs.size))) { s with heap := s.heap.push { cls := Value.type "tuple", data := Data.seq #[] }, toks := s.toks }) :=
  .of_wp fun prog w A R s h => by
    obtain ⟨hp, g, d, tk, os⟩ := s
    obtain ⟨hl, h⟩ := h
    have f1 := AutoSeq1.idx_int
    wp_walk using wpAny_loadPart' hl
    repeat (first
      | exact ⟨_, rfl, h⟩
      | (refine wpAny_ite_false (decide_eq_false (by rw [c0]; simp)) ?_; wp_walk using wpAny_loadPart' hl)
      | (refine wpAny_ite_false (decide_eq_false (by rw [c1]; simp)) ?_; wp_walk using wpAny_loadPart' hl)
      | (refine wpAny_ite_true (decide_eq_true c2) ?_; wp_walk using wpAny_loadPart' hl))
section
variable {X : Cx}
theorem foldl_reps (x : List Nat) : ∀ (m : Nat) (acc : List Nat), (List.replicate m x.toArray).foldl (· ++ ·) acc.toArray = (acc ++ (List.replicate m x).flatten).toArray
  | 0, acc => by simp
  | m + 1, acc => by
    rw [List.replicate_succ, List.foldl_cons, List.replicate_succ, List.flatten_cons]
    rw [List.append_toArray, foldl_reps x m (acc ++ x), List.append_assoc]
theorem len_rep (x : List α) (m : Nat) : (List.replicate m x).flatten.length = m * x.length := by
  induction m with
  | zero => simp
  | succ m ih => rw [List.replicate_succ, List.flatten_cons, List.length_append, ih, Nat.succ_mul]; omega
theorem mulD_ok : OpR X (binaryOp .Mult) (liftR2 X.K mulD) := by
  intro pins s σ H x y v u Q I rx ry ⟨a, b, S, Qd, ra, rb, so, h, l⟩
  cases a <;> cases b <;> try exact h.elim
  case int.int i j =>
    simp only [Rep] at ra rb
    obtain ⟨h1, h2⟩ := h
    exact op_mulW pins s σ H x y v u Q I rx ry ⟨i, j, ra, rb, h1, l _ S _ H h2 .refl .int so⟩
  case str.int z j =>
    simp only [Rep] at ra rb
    subst ra rb
    obtain ⟨t, rfl⟩ := rx
    obtain ⟨t', rfl⟩ := ry
    obtain ⟨h1, h2, h3, h4⟩ := h
    have fin : ∀ tk tk', EP X pins σ Q (.str ⟨((List.replicate j.toNat z).flatten).toArray⟩ tk) { s with toks := tk' } := fun tk tk' => ⟨.str ⟨((List.replicate j.toNat z).flatten).toArray⟩, H, I.tok tk', ⟨tk, rfl⟩, l _ S _ H h4 .refl .str so⟩
    have fin0 : ∀ tk, EP X pins σ Q (.str ⟨((List.replicate j.toNat z).flatten).toArray⟩ tk) s := fun tk => ⟨.str ⟨((List.replicate j.toNat z).flatten).toArray⟩, H, I, ⟨tk, rfl⟩, l _ S _ H h4 .refl .str so⟩
    refine P.mul_str (by rw [decide_eq_false (by omega), decide_eq_false (by omega)]; rfl) (fun q1 q2 => ?_) (fun q1 q2 => ?_) ?_
    · rw [str_len]
      have : (z.length : Int) * j ≤ 16777216 := by
        have e : j = (j.toNat : Int) := by omega
        rw [e, ← Int.natCast_mul]
        exact Int.ofNat_le.mpr h3
      intro hq
      have h5 : (2 ^ 63 - 1) / j < (z.length : Int) := hq
      have h6 := Int.lt_mul_of_ediv_lt (by omega : (0 : Int) < j) h5
      omega
    · unfold Builtin.Str.tooLong
      rw [str_len]
      exact decide_eq_false (by rw [szl]; omega)
    · by_cases q1 : j < 1
      · rw [if_pos q1]
        refine ⟨by decide, ?_⟩
        have e : j.toNat = 0 := by omega
        have f := fin s.toks (s.toks + 1)
        rw [e] at f
        exact f
      · rw [if_neg q1]
        by_cases q2 : (j == 1 || (⟨z.toArray⟩ : Str).length == 0) = true
        · rw [if_pos q2]
          have f := fin0 t
          have e : (List.replicate j.toNat z).flatten = z := by
            rw [str_len] at q2
            rcases Bool.or_eq_true_iff.mp q2 with q | q
            · have e1 : j = 1 := by simpa using q
              subst e1; simp
            · have e1 : z = [] := by simpa using q
              subst e1; simp
          rw [e] at f
          exact f
        · rw [if_neg q2]
          refine ⟨?_, ?_⟩
          · have e := foldl_reps z j.toNat []
            rw [List.nil_append] at e
            show (⟨List.foldl _ _ (List.replicate j.toNat z.toArray)⟩ : Str).length ≤ sizeLine
            rw [show (#[] : Array Nat) = ([] : List Nat).toArray from rfl, e, str_len, len_rep, szl, Nat.mul_comm]
            exact h3
          · have e := foldl_reps z j.toNat []
            rw [List.nil_append] at e
            have f := fin s.toks (s.toks + 1)
            rw [← e] at f
            exact f
  case tup.int ds j =>
    obtain ⟨p, vs, rfl, hp, rp⟩ := ra.tup_inv
    simp only [Rep] at rb
    subst rb
    obtain ⟨h1, h2, h3, h4⟩ := h
    by_cases hj : vs ≠ [] ∧ 2 ≤ j
    · exact op_repT pins s σ H _ _ v u Q I rx ry ⟨p, j, vs, rfl, rfl, hp, hj.1, hj.2, h1, by rw [← rp.length]; exact h3, fun r hr => l.tup so h4 (rp.rep _) r hr⟩
    · cases rx
      obtain ⟨t, rfl⟩ := ry
      obtain ⟨its, r, ⟨⟨cls, dd, data, sl⟩, ho, hc, n, hd⟩, hs⟩ := I.tuple hp
      simp only at hc hd
      subst hc hd
      have c0 : (decide (j < -(2 ^ 63)) || decide (j ≥ 2 ^ 63)) = false := by
        rw [decide_eq_false (by omega), decide_eq_false (by omega)] <;> rfl
      by_cases c1 : (its.toArray.isEmpty || j == 1) = true
      · have e : (List.replicate j.toNat ds).flatten = ds := by
          rcases Bool.or_eq_true_iff.mp c1 with q | q
          · have e1 : its = [] := by simpa using q
            have e2 : ds = [] := List.eq_nil_of_length_eq_zero (by rw [rp.length, r.length, e1]; rfl)
            subst e2; simp
          · have e1 : j = 1 := by simpa using q
            subst e1; simp
        rw [e] at h4
        exact wpAny_binaryOp_repeat_ref (T := "tuple") (U := "int") (by decide) ⟨_, ho, rfl⟩ (fun s' => typeIs_int s' j t) noFill_tuple_mul F.fills_int_mul F.slot_int_rmul repeat_tuple F.slot_int_index.lookup
          (call_meets F.slot_int_rmul (typeIs_int s j t) F.entry_int_rmul (F.args_int_rmul_2 _ _) (int_rmul_tuple j t p its.toArray n dd sl)
          ⟨ho, rfl, ⟨_, ho, rfl⟩, call_meets F.slot_tuple_mul ⟨_, ho, rfl⟩ F.entry_tuple_mul (F.args_tuple_mul_2 _ _) (tupMul_same p its.toArray n dd sl j t c0 c1)
            ⟨ho, ⟨.ref p, H, I, rfl, l _ S _ H h4 .refl ra so⟩⟩⟩)
      · have c1' := Bool.eq_false_iff.mpr c1
        have jz : j ≤ 0 := by
          by_cases hv : vs ≠ []
          · have h5 : ¬ 2 ≤ j := fun z => hj ⟨hv, z⟩
            have h6 : j ≠ 1 := fun z => c1 (by rw [z]; simp)
            omega
          · have e0 : vs = [] := Classical.not_not.mp hv
            have e1 : its = [] := List.eq_nil_of_length_eq_zero (by rw [← r.length, e0]; rfl)
            exact absurd (by rw [e1]; rfl) c1
        have e : j.toNat = 0 := by omega
        rw [e, List.replicate_zero, List.flatten_nil] at h4
        refine wpAny_binaryOp_repeat_ref (T := "tuple") (U := "int") (by decide) ⟨_, ho, rfl⟩ (fun s' => typeIs_int s' j t) noFill_tuple_mul F.fills_int_mul F.slot_int_rmul repeat_tuple F.slot_int_index.lookup
          (call_meets F.slot_int_rmul (typeIs_int s j t) F.entry_int_rmul (F.args_int_rmul_2 _ _) (int_rmul_tuple j t p its.toArray n dd sl)
          ⟨ho, rfl, ⟨_, ho, rfl⟩, call_meets F.slot_tuple_mul ⟨_, ho, rfl⟩ F.entry_tuple_mul (F.args_tuple_mul_2 _ _) (tupMul_none p its.toArray n dd sl j t c0 c1' (by rw [decide_eq_true jz]; rfl)) ⟨ho, ?_⟩⟩)
        have hf : H s.heap.objs.size = none := I.hok.fresh (Nat.le_refl _)
        refine ⟨.ref s.heap.objs.size, _, I.laid (t' := s.toks) (o := .tup []) (fun b ob q => Heap.get?_push_of_some _ q) (Nat.le_refl _) ?_, rfl, l.tup so h4 .nil _ hf⟩
        exact ⟨by simp, [], .nil, IsTup.new _ _⟩
  case ref.int p j =>
    simp only [Rep] at ra rb
    obtain ⟨xs, e1, h1, h2, hz, h⟩ := h
    obtain ⟨vs, f1, r1⟩ := so p _ e1
    exact op_rep pins s σ H x y v u Q I rx ry ⟨p, j, vs, ra, rb, f1, by omega, by omega, by rw [← r1.length, szl]; exact hz, fun r hr => l.lst so h (r1.rep _) r hr⟩
end
end G57
set_option Elab.async false
set_option linter.all false
set_option maxRecDepth 100000
set_option maxHeartbeats 4000000
namespace G57
open PySem L2 PySem.Spec PyProof.Rows
mutual
def py : D → PyData
  | .non => .none
  | .bl b => .bool b
  | .int i => .int i
  | .str x => .str ⟨x.toArray⟩
  | .tup ds => .tuple (pys ds)
  | .rol ds => .list (pys ds)
  | .ref _ => .none
def pys : List D → List PyData
  | [] => []
  | d :: ds => py d :: pys ds
end
mutual
def okD : Nat → D → Bool
  | _, .non | _, .bl _ | _, .int _ => true
  | _, .str x => x.all fun c => decide (c < 0x110000)
  | 0, .tup _ | 0, .rol _ => false
  | n + 1, .tup ds | n + 1, .rol ds => oksD n ds
  | _, .ref _ => false
def oksD : Nat → List D → Bool
  | _, [] => true
  | n, d :: ds => okD n d && oksD n ds
end
mutual
def shD : D → Bool
  | .int i => decide (i.natAbs < 2 ^ 1900)
  | .tup ds | .rol ds => shsD ds
  | _ => true
def shsD : List D → Bool
  | [] => true
  | d :: ds => shD d && shsD ds
end
def shS (S : Sto) : D → Bool
  | .ref p => match S p with
    | some (.lst ds) => shsD ds
    | none => false
  | d => shD d
def pyS (S : Sto) : D → PyData
  | .ref p => match S p with
    | some (.lst ds) => .list (pys ds)
    | none => .none
  | d => py d
def okS (S : Sto) : D → Bool
  | .ref p => match S p with
    | some (.lst ds) => oksD 40 ds
    | none => false
  | d => okD 41 d
mutual
theorem dp_of {K : PySem.W.Frag} {H : Hp} : ∀ (d : D) (n : Nat) (v : V), okD n d = true → Rep K H d v → Dp K H v (py d)
  | .non, _, v, _, r => by simp only [Rep] at r; subst r; simp only [py]; exact .non
  | .bl b, _, v, _, r => by simp only [Rep] at r; subst r; simp only [py]; exact .bl b
  | .int i, _, v, _, r => by simp only [Rep] at r; subst r; simp only [py]; exact .int i
  | .str x, _, v, _, r => by simp only [Rep] at r; subst r; simp only [py]; exact .str _
  | .tup ds, n, v, h, r => by
    obtain ⟨a, vs, rfl, q, r⟩ := r.tup_inv
    cases n with
    | zero => simp [okD] at h
    | succ n =>
      simp only [okD] at h
      simp only [py]
      exact .tup q (dps_of ds n vs h r)
  | .rol ds, n, v, h, r => by
    obtain ⟨a, vs, rfl, q, r⟩ := r.rol_inv
    cases n with
    | zero => simp [okD] at h
    | succ n =>
      simp only [okD] at h
      simp only [py]
      exact .lst q.sq (dps_of ds n vs h r)
  | .ref _, n, _, h, _ => by cases n <;> simp [okD] at h
theorem dps_of {K : PySem.W.Frag} {H : Hp} : ∀ (ds : List D) (n : Nat) (vs : List V), oksD n ds = true → Reps K H ds vs → DpAll K H vs (pys ds)
  | [], _, vs, _, r => by simp only [Reps] at r; subst r; simp only [pys]; exact .nil
  | d :: ds, n, v :: vs, h, r => by
    simp only [oksD, Bool.and_eq_true] at h
    simp only [pys]
    exact .cons (dp_of d n v h.1 r.inv.1) (dps_of ds n vs h.2 r.inv.2)
  | d :: ds, _, [], _, r => by simp only [Reps] at r; obtain ⟨_, _, e, _⟩ := r; cases e
end
theorem dpS {K : PySem.W.Frag} {H : Hp} {S : Sto} (so : StoOk K H S) {d : D} {v : V} (h : okS S d = true) (r : Rep K H d v) : Dp K H v (pyS S d) := by
  cases d with
  | ref p =>
    simp only [Rep] at r
    subst r
    simp only [okS] at h
    simp only [pyS]
    cases e : S p with
    | none => rw [e] at h; simp at h
    | some o =>
      cases o with
      | lst ds =>
        rw [e] at h
        obtain ⟨vs, q, r⟩ := so p _ e
        exact .lst (.inl (.inl q)) (dps_of ds 40 vs h r)
  | _ => exact dp_of _ 41 v h r
mutual
theorem ok_lay : ∀ (d : D) (n : Nat), okD n d = true → (py d).canLay0 = true ∧ (py d).depth ≤ n ∧ (py d).hasDict = false
  | .non, n, _ | .bl b, n, _ | .int b, n, _ => by simp [py, PyData.canLay0, PyData.depth, PyData.hasDict]
  | .str x, n, h => by
    have h1 : (x.all fun c => decide (c < 0x110000)) = true := by cases n <;> simpa only [okD] using h
    refine ⟨?_, by simp [py, PyData.depth], by simp [py, PyData.hasDict]⟩
    simp only [py, PyData.canLay0, PyData.strOk]
    simpa using h1
  | .tup ds, 0, h | .rol ds, 0, h => by simp [okD] at h
  | .tup ds, n + 1, h | .rol ds, n + 1, h => by
    simp only [okD] at h
    have := oks_lay ds n h
    simp only [py, PyData.canLay0, PyData.depth, PyData.hasDict]
    exact ⟨this.1, by omega, this.2.2⟩
  | .ref _, n, h => by cases n <;> simp [okD] at h
theorem oks_lay : ∀ (ds : List D) (n : Nat), oksD n ds = true → PyData.canLayAll0 (pys ds) = true ∧ PyData.depthAll (pys ds) ≤ n ∧ PyData.hasDictAll (pys ds) = false
  | [], n, _ => by simp [pys, PyData.canLayAll0, PyData.depthAll, PyData.hasDictAll]
  | d :: ds, n, h => by
    simp only [oksD, Bool.and_eq_true] at h
    have h1 := ok_lay d n h.1
    have h2 := oks_lay ds n h.2
    simp only [pys, PyData.canLayAll0, PyData.depthAll, PyData.hasDictAll, h1.1, h2.1, h1.2.2, h2.2.2, Bool.and_self, Bool.or_self, true_and, and_true]
    omega
end
mutual
theorem sh_show : ∀ d : D, shD d = true → (py d).showable = true
  | .non, _ | .bl b, _ | .str x, _ | .ref a, _ => by simp [py, PyData.showable]
  | .int i, h => by
    have h1 : i.natAbs < 2 ^ 1900 := of_decide_eq_true (by simpa only [shD] using h)
    have : i.natAbs < 2 ^ 1920 := Nat.lt_of_lt_of_le h1 (Nat.pow_le_pow_right (by decide) (by decide))
    simp only [py, PyData.showable]
    exact decide_eq_true (PySem.Spec.log2_small this)
  | .tup ds, h | .rol ds, h => by
    simp only [shD] at h
    simp only [py, PyData.showable]
    exact shs_show ds h
theorem shs_show : ∀ ds : List D, shsD ds = true → PyData.showableAll (pys ds) = true
  | [], _ => by simp [pys, PyData.showableAll]
  | d :: ds, h => by
    simp only [shsD, Bool.and_eq_true] at h
    simp only [pys, PyData.showableAll, sh_show d h.1, shs_show ds h.2, Bool.and_self]
end
theorem shS_show {S : Sto} {d : D} (h : shS S d = true) : (pyS S d).showable = true := by
  cases d with
  | ref p =>
    simp only [shS] at h
    simp only [pyS]
    cases e : S p with
    | none => rw [e] at h; simp at h
    | some o =>
      cases o with
      | lst ds => rw [e] at h; simp only [PyData.showable]; exact shs_show ds h
  | _ => exact sh_show _ h
theorem okS_lay {S : Sto} {d : D} (h : okS S d = true) : SeqAt.shaped (pyS S d) = true ∧ (pyS S d).hasDict = false ∧ (pyS S d).depth ≤ 41 := by
  have fin : (pyS S d).canLay0 = true ∧ (pyS S d).depth ≤ 41 ∧ (pyS S d).hasDict = false := by
    cases d with
    | ref p =>
      simp only [okS] at h
      simp only [pyS]
      cases e : S p with
      | none => rw [e] at h; simp at h
      | some o =>
        cases o with
        | lst ds =>
          rw [e] at h
          have := oks_lay ds 40 h
          simp only [PyData.canLay0, PyData.depth, PyData.hasDict]
          exact ⟨this.1, by omega, this.2.2⟩
    | _ => exact ok_lay _ 41 h
  obtain ⟨h1, h2, h4⟩ := fin
  refine ⟨?_, h4, h2⟩
  unfold SeqAt.shaped
  rw [h1, decide_eq_true (by omega)]
  rfl
def eqD (neg : Bool) : R2D
  | .int i, .int j, S, Q => Q (.bl (neg ^^ decide (i = j))) S
  | .str x, .str y, S, Q => Q (.bl (neg ^^ decide (x = y))) S
  | .bl x, .bl y, S, Q => Q (.bl (neg ^^ decide (x = y))) S
  | a, b, S, Q => okS S a = true ∧ okS S b = true ∧ Q (.bl (neg ^^ PyData.eqv (pyS S a) (pyS S b))) S
def ordD (p : Int → Int → Bool) (q : List Nat → List Nat → Bool) : R2D
  | .int i, .int j, S, Q => Q (.bl (p i j)) S
  | .str x, .str y, S, Q => Q (.bl (q x y)) S
  | _, _, _, _ => False
def flatD : D → Bool
  | .non | .bl _ | .int _ | .str _ => true
  | _ => false
def eqF : D → D → Bool
  | .non, .non => true
  | .bl a, .bl b => a == b
  | .bl a, .int b => (if a then 1 else 0) == b
  | .int a, .bl b => a == (if b then 1 else 0)
  | .int a, .int b => a == b
  | .str a, .str b => a == b
  | _, _ => false
def inD (neg : Bool) : R2D
  | .str [c], .str y, S, Q => Q (.bl (neg ^^ decide (c ∈ y))) S
  | a, .tup ds, S, Q => flatD a = true ∧ ds.all flatD = true ∧ Q (.bl (neg ^^ ds.any fun z => eqF z a)) S
  | a, .ref p, S, Q => ∃ ds, S p = some (.lst ds) ∧ flatD a = true ∧ ds.all flatD = true ∧ Q (.bl (neg ^^ ds.any fun z => eqF z a)) S
  | _, _, _, _ => False
def isNon : D → Bool
  | .non => true
  | _ => false
def isD (neg : Bool) : R2D
  | a, .non, S, Q => Q (.bl (neg ^^ isNon a)) S
  | .bl a, .bl b, S, Q => Q (.bl (neg ^^ decide (a = b))) S
  | .non, .bl _, S, Q => Q (.bl neg) S
  | _, _, _, _ => False
def cmpD : CmpOp → R2D
  | .Eq => eqD false
  | .NotEq => eqD true
  | .Lt => ordD (fun i j => decide (i < j)) (fun x y => decide (x < y))
  | .LtE => ordD (fun i j => decide (i ≤ j)) (fun x y => decide (x ≤ y))
  | .Gt => ordD (fun i j => decide (j < i)) (fun x y => decide (y < x))
  | .GtE => ordD (fun i j => decide (j ≤ i)) (fun x y => decide (y ≤ x))
  | .Is => isD false
  | .IsNot => isD true
  | .In => inD false
  | .NotIn => inD true
section
variable {X : Cx}
theorem str_inj {x y : List Nat} : decide (V.str ⟨x.toArray⟩ = V.str ⟨y.toArray⟩) = decide (x = y) := by
  by_cases h : x = y
  · subst h; simp
  · rw [decide_eq_false h, decide_eq_false]
    intro e
    injection e with e
    injection e with e
    exact h (by simpa using congrArg Array.toList e)
theorem eqD_ok (hu : X.A.units + 64 < cLine) (neg : Bool) : OpR X (compareOp (if neg then .NotEq else .Eq)) (liftR2 X.K (eqD neg)) := by
  intro pins s σ H x y v u Q I rx ry ⟨a, b, S, Qd, ra, rb, so, h, l⟩
  have scalar : ∀ (b' : Bool), scal x y = true → decide (x = y) = b' → Qd (.bl (neg ^^ b')) S → wpAny (model X.prog X.w) X.A (compareOp (if neg then .NotEq else .Eq) v u) (EP X pins σ Q) X.xe s := fun b' h1 h2 h3 => by
    cases neg with
    | false =>
      refine op_eq pins s σ H x y v u Q I rx ry ⟨h1, ?_⟩
      rw [h2]
      rw [Bool.false_xor] at h3
      exact l _ S _ H h3 .refl .bl so
    | true =>
      refine op_ne pins s σ H x y v u Q I rx ry ⟨h1, ?_⟩
      rw [h2]
      rw [Bool.true_xor] at h3
      exact l _ S _ H h3 .refl .bl so
  have gen : okS S a = true → okS S b = true → Qd (.bl (neg ^^ PyData.eqv (pyS S a) (pyS S b))) S → wpAny (model X.prog X.w) X.A (compareOp (if neg then .NotEq else .Eq) v u) (EP X pins σ Q) X.xe s := fun h1 h2 h3 => by
    cases neg with
    | false =>
      refine op_eqD hu pins s σ H x y v u Q I rx ry ⟨_, _, dpS so h1 ra, dpS so h2 rb, (okS_lay h1).1, (okS_lay h2).1, ?_⟩
      rw [Bool.false_xor] at h3
      exact l _ S _ H h3 .refl .bl so
    | true =>
      refine op_neD hu pins s σ H x y v u Q I rx ry ⟨_, _, dpS so h1 ra, dpS so h2 rb, (okS_lay h1).1, (okS_lay h2).1, ?_⟩
      rw [Bool.true_xor] at h3
      exact l _ S _ H h3 .refl .bl so
  cases a <;> cases b
  case int.int i j => simp only [Rep] at ra rb; subst ra rb; exact scalar _ rfl (by simp) h
  case str.str i j => simp only [Rep] at ra rb; subst ra rb; exact scalar _ rfl str_inj h
  case bl.bl i j => simp only [Rep] at ra rb; subst ra rb; exact scalar _ rfl (by simp) h
  all_goals exact gen h.1 h.2.1 h.2.2
theorem le_lists (x y : List Nat) : decide (x ≤ y) = !decide (y < x) := by
  by_cases h : y < x
  · rw [decide_eq_true h, decide_eq_false (List.not_le.mpr h)]; rfl
  · rw [decide_eq_false h, decide_eq_true (List.not_lt.mp h)]; rfl
end
end G57
set_option Elab.async false
set_option linter.all false
set_option maxRecDepth 100000
set_option maxHeartbeats 4000000
namespace G57
open PySem L2 PySem.Spec PyProof.Rows
section
variable {X : Cx}
theorem ordD_ok {op : CmpOp} {p : Int → Int → Bool} {q : List Nat → List Nat → Bool}
    (r1 : OpR X (compareOp op) (rI0 fun i j => .bl (p i j)))
    (r2 : OpR X (compareOp op) (fun x y H Q => ∃ i j, x = .str i ∧ y = .str j ∧ Q (.bl (q i.cps.toList j.cps.toList)) H)) :
    OpR X (compareOp op) (liftR2 X.K (ordD p q)) := by
  intro pins s σ H x y v u Q I rx ry ⟨a, b, S, Qd, ra, rb, so, h, l⟩
  cases a <;> cases b <;> try exact h.elim
  case int.int i j =>
    simp only [Rep] at ra rb
    exact r1 pins s σ H x y v u Q I rx ry ⟨i, j, ra, rb, l _ S _ H h .refl .bl so⟩
  case str.str i j =>
    simp only [Rep] at ra rb
    exact r2 pins s σ H x y v u Q I rx ry ⟨_, _, ra, rb, l _ S _ H h .refl .bl so⟩
theorem isD_ok (neg : Bool) : OpR X (compareOp (if neg then .IsNot else .Is)) (liftR2 X.K (isD neg)) := by
  intro pins s σ H x y v u Q I rx ry ⟨a, b, S, Qd, ra, rb, so, h, l⟩
  cases b with
  | non =>
    simp only [Rep] at rb
    subst rb
    have e : decide (x = .non) = isNon a := by
      cases a with
      | tup ds => obtain ⟨_, _, rfl, _⟩ := ra.tup_inv; rfl
      | rol ds => obtain ⟨_, _, rfl, _⟩ := ra.rol_inv; rfl
      | _ => simp only [Rep] at ra; subst ra; rfl
    have h : Qd (.bl (neg ^^ isNon a)) S := by cases a <;> exact h
    rw [← e] at h
    cases neg with
    | false => exact op_isN pins s σ H x _ v u Q I rx ry ⟨rfl, l _ S _ H (by rw [Bool.false_xor] at h; exact h) .refl .bl so⟩
    | true => exact op_notN pins s σ H x _ v u Q I rx ry ⟨rfl, l _ S _ H (by rw [Bool.true_xor] at h; exact h) .refl .bl so⟩
  | bl b =>
    simp only [Rep] at rb
    subst rb
    cases a <;> try exact h.elim
    case bl a =>
      simp only [Rep] at ra
      subst ra
      cases neg with
      | false => exact op_isBl pins s σ H _ _ v u Q I rx ry ⟨a, b, rfl, rfl, l _ S _ H (by have h : Qd (.bl (false ^^ decide (a = b))) S := h; rw [Bool.false_xor] at h; exact h) .refl .bl so⟩
      | true => exact op_notBl pins s σ H _ _ v u Q I rx ry ⟨a, b, rfl, rfl, l _ S _ H (by have h : Qd (.bl (true ^^ decide (a = b))) S := h; rw [Bool.true_xor] at h; exact h) .refl .bl so⟩
    case non =>
      simp only [Rep] at ra
      subst ra
      cases rx
      cases ry
      cases neg with
      | false =>
        show wpAny _ _ (compareOp .Is .none (.bool b)) _ _ s
        exact fun _ _ _ => ⟨.bl false, H, I, rfl, l _ S _ H h .refl .bl so⟩
      | true =>
        show wpAny _ _ (compareOp .IsNot .none (.bool b)) _ _ s
        exact fun _ _ _ => ⟨.bl true, H, I, rfl, l _ S _ H h .refl .bl so⟩
  | _ => cases a <;> exact h.elim
theorem flat_of {K : PySem.W.Frag} {H : Hp} {d : D} {v : V} (h : flatD d = true) (r : Rep K H d v) : flatV v = true := by
  cases d <;> simp [flatD] at h <;> (simp only [Rep] at r; subst r; rfl)
theorem eqF_of {K : PySem.W.Frag} {H : Hp} {d e : D} {v u : V} (r : Rep K H d v) (t : Rep K H e u) (hd : flatD d = true) (he : flatD e = true) : eqV v u = eqF d e := by
  cases d <;> simp [flatD] at hd <;> cases e <;> simp [flatD] at he <;> (simp only [Rep] at r t; subst r t; try rfl)
  rename_i x y
  show (_ == _) = (_ == _)
  by_cases h : x = y
  · subst h; simp
  · rw [beq_eq_false_iff_ne.mpr h]
    exact beq_eq_false_iff_ne.mpr fun e => h (by injection e with e; simpa using congrArg Array.toList e)
theorem flats_of {K : PySem.W.Frag} {H : Hp} : ∀ {ds : List D} {vs : List V}, ds.all flatD = true → Reps K H ds vs → vs.all flatV = true
  | [], _, _, r => by simp only [Reps] at r; subst r; rfl
  | d :: ds, v :: vs, h, r => by
    rw [List.all_cons, Bool.and_eq_true] at h ⊢
    exact ⟨flat_of h.1 r.inv.1, flats_of h.2 r.inv.2⟩
  | d :: ds, [], _, r => by simp only [Reps] at r; obtain ⟨_, _, e, _⟩ := r; cases e
theorem ins_of {K : PySem.W.Frag} {H : Hp} {a : D} {x : V} (ra : Rep K H a x) (ha : flatD a = true) : ∀ {ds : List D} {vs : List V}, ds.all flatD = true → Reps K H ds vs → inV x vs = ds.any fun z => eqF z a
  | [], _, _, r => by simp only [Reps] at r; subst r; rfl
  | d :: ds, v :: vs, h, r => by
    rw [List.all_cons, Bool.and_eq_true] at h
    have ih := ins_of ra ha h.2 r.inv.2
    unfold inV at ih ⊢
    rw [List.any_cons, List.any_cons, ih, eqF_of r.inv.1 ra h.1 ha]
  | d :: ds, [], _, r => by simp only [Reps] at r; obtain ⟨_, _, e, _⟩ := r; cases e
theorem inD_ok (neg : Bool) : OpR X (compareOp (if neg then .NotIn else .In)) (liftR2 X.K (inD neg)) := by
  intro pins s σ H x y v u Q I rx ry ⟨a, b, S, Qd, ra, rb, so, h, l⟩
  have gen : ∀ p ds vs, y = .ref p → (SqL X.K H p vs ∨ SqT X.K H p vs) → Reps X.K H ds vs → flatD a = true → ds.all flatD = true → Qd (.bl (neg ^^ ds.any fun z => eqF z a)) S →
      wpAny (model X.prog X.w) X.A (compareOp (if neg then .NotIn else .In) v u) (EP X pins σ Q) X.xe s := fun p ds vs e hq r f1 f2 h => by
    rw [← ins_of ra f1 f2 r] at h
    cases neg with
    | false => exact op_in_seq pins s σ H x y v u Q I rx ry ⟨p, vs, e, hq, flat_of f1 ra, flats_of f2 r, l _ S _ H (by rw [Bool.false_xor] at h; exact h) .refl .bl so⟩
    | true => exact op_notIn_seq pins s σ H x y v u Q I rx ry ⟨p, vs, e, hq, flat_of f1 ra, flats_of f2 r, l _ S _ H (by rw [Bool.true_xor] at h; exact h) .refl .bl so⟩
  cases b with
  | tup ds =>
    obtain ⟨p, vs, e, q, r⟩ := rb.tup_inv
    have h : flatD a = true ∧ ds.all flatD = true ∧ Qd (.bl (neg ^^ ds.any fun z => eqF z a)) S := by
      cases a with
      | str z => rcases z with _ | ⟨c, _ | ⟨c', z⟩⟩ <;> exact h
      | _ => exact h
    exact gen p ds vs e (.inr q) r h.1 h.2.1 h.2.2
  | ref p =>
    simp only [Rep] at rb
    have h : ∃ ds, S p = some (.lst ds) ∧ flatD a = true ∧ ds.all flatD = true ∧ Qd (.bl (neg ^^ ds.any fun z => eqF z a)) S := by
      cases a with
      | str z => rcases z with _ | ⟨c, _ | ⟨c', z⟩⟩ <;> exact h
      | _ => exact h
    obtain ⟨ds, e, h1, h2, h3⟩ := h
    obtain ⟨vs, q, r⟩ := so p _ e
    exact gen p ds vs rb (.inl (.inl (.inl q))) r h1 h2 h3
  | str z =>
    cases a with
    | str w =>
      rcases w with _ | ⟨c, _ | ⟨c', w⟩⟩
      · exact h.elim
      · simp only [Rep] at ra rb
        subst ra rb
        cases neg with
        | false => exact op_in_sign pins s σ H _ _ v u Q I rx ry ⟨c, _, rfl, rfl, l _ S _ H (by have h : Qd (.bl (false ^^ decide (c ∈ z))) S := h; rw [Bool.false_xor] at h; exact h) .refl .bl so⟩
        | true => exact op_notIn_sign pins s σ H _ _ v u Q I rx ry ⟨c, _, rfl, rfl, l _ S _ H (by have h : Qd (.bl (true ^^ decide (c ∈ z))) S := h; rw [Bool.true_xor] at h; exact h) .refl .bl so⟩
      · exact h.elim
    | _ => exact h.elim
  | _ =>
    cases a with
    | str z => rcases z with _ | ⟨c, _ | ⟨c', z⟩⟩ <;> exact h.elim
    | _ => exact h.elim
theorem cmpD_ok (hu : X.A.units + 64 < cLine) (op : CmpOp) : OpR X (compareOp op) (liftR2 X.K (cmpD op)) := by
  cases op with
  | Eq => exact eqD_ok hu false
  | NotEq => exact eqD_ok hu true
  | Is => exact isD_ok false
  | IsNot => exact isD_ok true
  | In => exact inD_ok false
  | NotIn => exact inD_ok true
  | Lt => exact ordD_ok op_lt op_lt_str
  | Gt => exact ordD_ok op_gt op_gt_str
  | LtE => exact ordD_ok op_le fun pins s σ H x y v u Q I rx ry ⟨i, j, e1, e2, q⟩ => op_le_str pins s σ H x y v u Q I rx ry ⟨i, j, e1, e2, by rw [← le_lists]; exact q⟩
  | GtE => exact ordD_ok op_ge fun pins s σ H x y v u Q I rx ry ⟨i, j, e1, e2, q⟩ => op_ge_str pins s σ H x y v u Q I rx ry ⟨i, j, e1, e2, by rw [← le_lists]; exact q⟩
end
def truD (S : Sto) : D → Option Bool
  | .non => some false
  | .bl b => some b
  | .int i => some (i != 0)
  | .str x => some (!x.isEmpty)
  | .tup ds => some (!ds.isEmpty)
  | .rol ds => some (!ds.isEmpty)
  | .ref p => match S p with
    | some (.lst ds) => some (!ds.isEmpty)
    | none => none
theorem isEmpty_reps {K : PySem.W.Frag} {H : Hp} {ds : List D} {vs : List V} (r : Reps K H ds vs) : ds.isEmpty = vs.isEmpty := by
  cases ds with
  | nil => simp only [Reps] at r; subst r; rfl
  | cons d ds => simp only [Reps] at r; obtain ⟨_, _, e, _⟩ := r; subst e; rfl
theorem truD_ok {K : PySem.W.Frag} {H : Hp} {S : Sto} (so : StoOk K H S) {d : D} {v : V} {b : Bool} (r : Rep K H d v) (h : truD S d = some b) (hz : ∀ x, d = .str x → x.length ≤ 16777216) : TruV K v H b := by
  cases d with
  | non => simp only [Rep] at r; subst r; simp only [truD] at h; cases h; rfl
  | bl c => simp only [Rep] at r; subst r; simp only [truD] at h; cases h; rfl
  | int i => simp only [Rep] at r; subst r; simp only [truD] at h; cases h; rfl
  | str x =>
    simp only [Rep] at r; subst r; simp only [truD] at h; cases h
    refine ⟨by rw [str_len, szl]; exact hz x rfl, ?_⟩
    rw [str_len]
    cases x with
    | nil => rfl
    | cons c x => simp; omega
  | tup ds =>
    obtain ⟨a, vs, rfl, q, r⟩ := r.tup_inv
    simp only [truD] at h; cases h
    exact .inr (.inl ⟨vs, q, by rw [isEmpty_reps r]⟩)
  | rol ds =>
    obtain ⟨a, vs, rfl, q, r⟩ := r.rol_inv
    simp only [truD] at h; cases h
    exact .inl ⟨vs, q.sq, by rw [isEmpty_reps r]⟩
  | ref p =>
    simp only [Rep] at r; subst r
    simp only [truD] at h
    cases e : S p with
    | none => rw [e] at h; cases h
    | some o =>
      cases o with
      | lst ds =>
        rw [e] at h; cases h
        obtain ⟨vs, q, r⟩ := so p _ e
        exact .inl ⟨vs, .inl (.inl q), by rw [isEmpty_reps r]⟩
theorem atI_reps {K : PySem.W.Frag} {H : Hp} {ds : List D} {vs : List V} {i : Int} {d : D} (r : Reps K H ds vs) (h : atI ds i = some d) : ∃ v, atI vs i = some v ∧ Rep K H d v := by
  unfold atI at h ⊢
  rw [r.length] at h
  obtain ⟨j, e1, e2⟩ := Option.bind_eq_some_iff.mp h
  obtain ⟨v, q, t⟩ := r.get e2
  exact ⟨v, by rw [e1]; exact q, t⟩
def idxD : R2D
  | .tup ds, .int i, S, Q => ∃ d, atI ds i = some d ∧ Q d S
  | .rol ds, .int i, S, Q => ∃ d, atI ds i = some d ∧ Q d S
  | .str x, .int i, S, Q => x.length ≤ 16777216 ∧ ∃ c, atI x i = some c ∧ Q (.str [c]) S
  | .ref p, .int i, S, Q => ∃ ds d, S p = some (.lst ds) ∧ atI ds i = some d ∧ Q d S
  | _, _, _, _ => False
def cutD {α : Type} (xs : List α) (lo hi : Option Int) : List α := (xs.drop (HT.sIx xs.length 0 lo)).take (HT.sIx xs.length xs.length hi - HT.sIx xs.length 0 lo)
def slD : D → Option Int → Option Int → Sto → DK → Prop
  | .tup ds, lo, hi, S, Q => Q (.tup (cutD ds lo hi)) S
  | .rol ds, lo, hi, S, Q => ∀ p, S p = none → Q (.ref p) (put S p (.lst (cutD ds lo hi)))
  | .str x, lo, hi, S, Q => x.length ≤ 16777216 ∧ Q (.str (cutD x lo hi)) S
  | .ref p, lo, hi, S, Q => ∃ ds, S p = some (.lst ds) ∧ ∀ r, S r = none → Q (.ref r) (put S r (.lst (cutD ds lo hi)))
  | _, _, _, _, _ => False
section
variable {X : Cx}
theorem idxD_ok : IxR X (liftR2 X.K idxD) := by
  intro value slice pins s σ H x y v u Q I rx ry ⟨a, b, S, Qd, ra, rb, so, h, l⟩ hs
  cases a <;> cases b <;> try exact h.elim
  case tup.int ds i =>
    obtain ⟨p, vs, rfl, q, r⟩ := ra.tup_inv
    simp only [Rep] at rb
    obtain ⟨d, e, h⟩ := h
    obtain ⟨z, e2, rz⟩ := atI_reps r e
    exact ix_tup value slice pins s σ H _ y v u Q I rx ry ⟨p, vs, i, z, rfl, rb, q, e2, l d S z H h .refl rz so⟩ hs
  case rol.int ds i =>
    obtain ⟨p, vs, rfl, q, r⟩ := ra.rol_inv
    simp only [Rep] at rb
    obtain ⟨d, e, h⟩ := h
    obtain ⟨z, e2, rz⟩ := atI_reps r e
    exact ix_list value slice pins s σ H _ y v u Q I rx ry ⟨p, vs, i, z, rfl, rb, q.sq, e2, l d S z H h .refl rz so⟩ hs
  case str.int w i =>
    simp only [Rep] at ra rb
    obtain ⟨hz, c, e, h⟩ := h
    exact ix_str value slice pins s σ H _ y v u Q I rx ry ⟨_, i, c, ra, rb, by rw [str_len, szl]; exact hz, e, l _ S _ H h .refl (by simp only [Rep]) so⟩ hs
  case ref.int p i =>
    simp only [Rep] at ra rb
    obtain ⟨ds, d, e0, e, h⟩ := h
    obtain ⟨vs, q, r⟩ := so p _ e0
    obtain ⟨z, e2, rz⟩ := atI_reps r e
    exact ix_list value slice pins s σ H _ y v u Q I rx ry ⟨p, vs, i, z, ra, rb, .inl (.inl q), e2, l d S z H h .refl rz so⟩ hs
theorem cut_reps {K : PySem.W.Frag} {H : Hp} {ds : List D} {vs : List V} {lo hi : Option Int} (r : Reps K H ds vs) : Reps K H (cutD ds lo hi) (cutV vs lo hi) := by
  unfold cutD cutV
  rw [r.length]
  exact (r.drop _).take _
def liftSl (K : PySem.W.Frag) : V → Option Int → Option Int → Hp → VK → Prop := fun x lo hi H Q => ∃ a S Qd, Rep K H a x ∧ StoOk K H S ∧ slD a lo hi S Qd ∧ Lv K H Qd Q
theorem slD_ok : SlR X (liftSl X.K) := by
  intro pins s σ H x v vl vu lo hi sl Q I rx hs pl pu ⟨a, S, Qd, ra, so, h, l⟩
  cases a <;> try exact h.elim
  case tup ds =>
    obtain ⟨p, vs, rfl, q, r⟩ := ra.tup_inv
    refine sl_tupA pins s σ H _ v vl vu lo hi sl Q I rx hs pl pu ⟨p, vs, rfl, q, fun hw => ?_, fun _ t ht => l.tup so h (cut_reps r) t ht⟩
    have e : cutD ds lo hi = ds := by
      unfold cutD
      rw [r.length, hw.1, hw.2, List.drop_zero, Nat.sub_zero, ← r.length, List.take_length]
    have h : Qd (.tup (cutD ds lo hi)) S := h
    rw [e] at h
    exact l _ S _ H h .refl ra so
  case rol ds =>
    obtain ⟨p, vs, rfl, q, r⟩ := ra.rol_inv
    exact sl_list pins s σ H _ v vl vu lo hi sl Q I rx hs pl pu ⟨p, vs, rfl, q.sq, fun t ht => l.lst so h (cut_reps r) t ht⟩
  case str z =>
    simp only [Rep] at ra
    obtain ⟨hz, h⟩ := h
    refine sl_str pins s σ H _ v vl vu lo hi sl Q I rx hs pl pu ⟨_, ra, by rw [str_len, szl]; exact hz, ?_⟩
    have e : cutS (⟨z.toArray⟩ : Str) lo hi = ⟨(cutD z lo hi).toArray⟩ := by
      unfold cutS cutD
      rw [str_len]
    rw [e]
    exact l _ S _ H h .refl .str so
  case ref p =>
    simp only [Rep] at ra
    obtain ⟨ds, e, h⟩ := h
    obtain ⟨vs, q, r⟩ := so p _ e
    exact sl_list pins s σ H _ v vl vu lo hi sl Q I rx hs pl pu ⟨p, vs, ra, .inl (.inl q), fun t ht => l.lst so h (cut_reps r) t ht⟩
end
end G57
set_option Elab.async false
set_option linter.all false
set_option maxRecDepth 100000
set_option maxHeartbeats 4000000
namespace G57
open PySem L2 PySem.Spec PyProof.Rows
section
variable {prog : Program} {w : World} {A : Around} {E : Value → Shared → Prop} {s : Shared} {l : Addr} {its : List Value} {Q : Value → Shared → Prop}
def Seen (h : Heap) (l : Addr) (its : List Value) : Prop := h.IsList l its.toArray ∨ h.IsTuple l its.toArray
theorem iter_seen (hh : A.handled = none) (hl : Seen s.heap l its)
    (h : ∀ (s₂ : Shared) (St : Nat → Heap → Prop), (∀ b o, s.heap.get? b = some o → s₂.heap.get? b = some o) → s₂.heap.objs.size = s.heap.objs.size + 1 → s₂.gens = s.gens → s₂.drawn = s.drawn → s₂.os = s.os → l < s.heap.objs.size →
      Walks prog w A s.heap.objs.size [s.heap.objs.size, l] [s.heap.objs.size] its.length (fun i v => its[i]? = some v) St → St 0 s₂.heap → Q (.ref s.heap.objs.size) s₂) :
    wpAny (model prog w) A (pyIter (.ref l)) Q E s := by
  rcases hl with hl | hl
  · have hlt : l < s.heap.objs.size := by obtain ⟨_, e, _⟩ := hl; exact Heap.lt_size e
    refine wpAny_pyIter_list hl (h _ (fun i h => h.IsListIter s.heap.objs.size l i ∧ h.IsList l its.toArray) (fun b o e => Heap.get?_push_of_some _ e) (Heap.size_push ..) rfl rfl rfl hlt ?_ ⟨⟨_, Heap.get?_push_size _ rfl, rfl, rfl⟩, hl.push _⟩)
    have W := Walks.list (prog := prog) (w := w) hh s.heap.objs.size l (Nat.ne_of_lt hlt) its.toArray
    simpa using W
  · have hlt : l < s.heap.objs.size := by obtain ⟨_, e, _⟩ := hl; exact Heap.lt_size e
    refine wpAny_pyIter_tuple hl (h _ (fun i h => h.IsTupleIter s.heap.objs.size l i ∧ h.IsTuple l its.toArray) (fun b o e => Heap.get?_push_of_some _ e) (Heap.size_push ..) rfl rfl rfl hlt ?_ ⟨⟨_, Heap.get?_push_size _ rfl, rfl, rfl⟩, hl.push _⟩)
    have W := Walks.tuple (prog := prog) (w := w) hh s.heap.objs.size l (Nat.ne_of_lt hlt) its.toArray
    simpa using W
end
def truF : D → Option Bool
  | .non => some false
  | .bl b => some b
  | .int i => some (i != 0)
  | _ => none
def trusF : List D → Option (List Bool)
  | [] => some []
  | d :: ds => match truF d, trusF ds with
    | some b, some bs => some (b :: bs)
    | _, _ => none
def intsF : List D → Option (List Int)
  | [] => some []
  | .int i :: ds => match intsF ds with
    | some is => some (i :: is)
    | none => none
  | _ :: _ => none
def seqD (S : Sto) : D → Option (List D)
  | .tup ds | .rol ds => some ds
  | .ref p => match S p with
    | some (.lst ds) => some ds
    | none => none
  | _ => none
section
variable {X : Cx}
theorem seq_inv {K : PySem.W.Frag} {H : Hp} {S : Sto} (so : StoOk K H S) {d : D} {v : V} {ds : List D} (r : Rep K H d v) (h : seqD S d = some ds) :
    ∃ a vs, v = .ref a ∧ (SqL K H a vs ∨ SqT K H a vs) ∧ Reps K H ds vs := by
  cases d <;> simp only [seqD] at h <;> try cases h
  case tup => obtain ⟨a, vs, e, q, r⟩ := r.tup_inv; exact ⟨a, vs, e, .inr q, r⟩
  case rol => obtain ⟨a, vs, e, q, r⟩ := r.rol_inv; exact ⟨a, vs, e, .inl q.sq, r⟩
  case ref p =>
    simp only [Rep] at r
    cases e : S p with
    | none => rw [e] at h; cases h
    | some o =>
      cases o with
      | lst es =>
        rw [e] at h; cases h
        obtain ⟨vs, q, t⟩ := so p _ e
        exact ⟨p, vs, r, .inl (.inl (.inl q)), t⟩
theorem seen_of {pins : List (Addr × Obj)} {σ : L2.St} {H : Hp} {s : Shared} (I : Inv X pins σ H s) {a : Addr} {vs : List V} (h : SqL X.K H a vs ∨ SqT X.K H a vs) : ∃ its : List Value, Vals vs its ∧ Seen s.heap a its := by
  rcases h with h | h
  · obtain ⟨its, r, q, _⟩ := I.list h; exact ⟨its, r, .inl q.isList⟩
  · obtain ⟨its, r, q, _⟩ := I.tuple h; exact ⟨its, r, .inr q⟩
theorem trus_get {K : PySem.W.Frag} {H : Hp} : ∀ {ds : List D} {bs : List Bool} {vs : List V} {its : List Value} {i : Nat} {v : Value}, trusF ds = some bs → Reps K H ds vs → Vals vs its → its[i]? = some v →
    ∃ b, bs[i]? = some b ∧ ∀ (prog : Program) (w : World) (A : Around) (s : Shared) (Q : Bool → Shared → Prop) (E : Value → Shared → Prop), Q b s → wpAny (model prog w) A (truthy v) Q E s
  | [], _, _, _, _, _, _, r, t, e => by
    simp only [Reps] at r; subst r; cases t; simp at e
  | d :: ds, bs, [], _, _, _, _, r, _, _ => by simp only [Reps] at r; obtain ⟨_, _, e, _⟩ := r; cases e
  | d :: ds, bs, x :: vs, _, i, v, h, r, t, e => by
    simp only [trusF] at h
    cases h1 : truF d with
    | none => rw [h1] at h; cases h
    | some b =>
      cases h2 : trusF ds with
      | none => rw [h1, h2] at h; cases h
      | some bs' =>
        rw [h1, h2] at h; cases h
        cases t with
        | cons t1 t2 =>
          cases i with
          | zero =>
            rw [List.getElem?_cons_zero] at e
            cases e
            refine ⟨b, rfl, fun prog w A s Q E hq => ?_⟩
            have r1 := r.inv.1
            cases d <;> simp [truF] at h1
            case non => simp only [Rep] at r1; subst r1; cases t1; subst h1; exact fun _ _ _ => hq
            case bl c => simp only [Rep] at r1; subst r1; cases t1; subst h1; exact wpAny_truthy_bool hq
            case int c => simp only [Rep] at r1; subst r1; obtain ⟨_, rfl⟩ := t1; subst h1; exact PyProof.Rows.truthy_int hq
          | succ i =>
            rw [List.getElem?_cons_succ] at e ⊢
            exact trus_get h2 r.inv.2 t2 e
theorem trus_len : ∀ {ds : List D} {bs : List Bool}, trusF ds = some bs → bs.length = ds.length
  | [], _, h => by simp only [trusF] at h; cases h; rfl
  | d :: ds, bs, h => by
    simp only [trusF] at h
    cases h1 : truF d with
    | none => rw [h1] at h; cases h
    | some b =>
      cases h2 : trusF ds with
      | none => rw [h1, h2] at h; cases h
      | some bs' => rw [h1, h2] at h; cases h; rw [List.length_cons, List.length_cons, trus_len h2]
theorem ints_reps {K : PySem.W.Frag} {H : Hp} : ∀ {ds : List D} {is : List Int} {vs : List V}, intsF ds = some is → Reps K H ds vs → vs = is.map V.int
  | [], _, _, h, r => by simp only [intsF] at h; cases h; simp only [Reps] at r; exact r
  | d :: ds, is, [], _, r => by simp only [Reps] at r; obtain ⟨_, _, e, _⟩ := r; cases e
  | d :: ds, is, v :: vs, h, r => by
    cases d <;> simp only [intsF] at h <;> try cases h
    case int i =>
      cases h2 : intsF ds with
      | none => rw [h2] at h; cases h
      | some is' =>
        rw [h2] at h; cases h
        have r1 := r.inv.1
        simp only [Rep] at r1
        rw [List.map_cons, r1, ints_reps h2 r.inv.2]
theorem any_all_kept {s : Shared} {s₂ : Shared} {h' : Heap} (h1 : ∀ b o, s.heap.get? b = some o → s₂.heap.get? b = some o) (hk : ∀ b o, b ∉ [s.heap.objs.size] → s₂.heap.get? b = some o → h'.get? b = some o) :
    ∀ b o, s.heap.get? b = some o → h'.get? b = some o := fun b o e => hk b o (by
      intro hm
      rw [List.mem_singleton] at hm
      exact absurd (Heap.lt_size e) (by rw [hm]; exact Nat.lt_irrefl _)) (h1 b o e)
def anyD : RLD
  | [d], S, Q => ∃ ds bs, seqD S d = some ds ∧ trusF ds = some bs ∧ Q (.bl (bs.any id)) S
  | _, _, _ => False
def allD : RLD
  | [d], S, Q => ∃ ds bs, seqD S d = some ds ∧ trusF ds = some bs ∧ Q (.bl (bs.all id)) S
  | _, _, _ => False
def sumD : RLD
  | [d], S, Q => ∃ ds is, seqD S d = some ds ∧ intsF ds = some is ∧ Q (.int is.sum) S
  | _, _, _ => False
theorem one_arg {K : PySem.W.Frag} {H : Hp} {d : D} {xs : List V} {us : List Value} (r : Reps K H [d] xs) (t : Vals xs us) : ∃ x u, xs = [x] ∧ us = [u] ∧ Rep K H d x ∧ RelV x u := by
  simp only [Reps] at r
  obtain ⟨x, _, e, r1, rfl⟩ := r
  subst e
  cases t with
  | cons t1 t2 => cases t2; exact ⟨x, _, rfl, rfl, r1, t1⟩
theorem anyD_ok (hc : X.calm = true) : CallR X (.builtin "any") (liftRL X.K anyD) := by
  intro pins s σ H xs us Q I t ⟨ds, S, Qd, r, so, h, l⟩
  match ds, r, h with
  | [d], r, h =>
    obtain ⟨es, bs, e1, e2, h⟩ := h
    obtain ⟨x, u, rfl, rfl, r1, t1⟩ := one_arg r t
    obtain ⟨a, vs, rfl, q, rs⟩ := seq_inv so r1 e1
    cases t1
    obtain ⟨its, tv, hs⟩ := seen_of I q
    have hl : its.length = bs.length := by rw [trus_len e2, rs.length, tv.length]
    refine call_any_walk (iter_seen (I.ok.hd hc) hs fun s₂ St k1 k2 k3 k4 k5 k6 W st => ?_)
    refine ⟨_, _, _, _, _, St, fun i => bs.getD i false, rfl, W, st, fun i v s Q E hv hq => ?_, fun h' tk hk => ?_⟩
    · obtain ⟨b, eb, tr⟩ := trus_get e2 rs tv hv
      refine tr _ _ _ _ _ _ ?_
      have eg : bs.getD i false = b := by rw [List.getD_eq_getElem?_getD, eb] <;> rfl
      rw [← eg]; exact hq
    · obtain ⟨hh, g, d, tt, os⟩ := s₂
      obtain rfl : g = s.gens := k3
      obtain rfl : d = s.drawn := k4
      obtain rfl : os = s.os := k5
      refine ⟨.bl _, H, I.kept (any_all_kept k1 hk), rfl, ?_⟩
      rw [hl, L2.any_range]
      exact l _ S _ H h .refl .bl so
theorem allD_ok (hc : X.calm = true) : CallR X (.builtin "all") (liftRL X.K allD) := by
  intro pins s σ H xs us Q I t ⟨ds, S, Qd, r, so, h, l⟩
  match ds, r, h with
  | [d], r, h =>
    obtain ⟨es, bs, e1, e2, h⟩ := h
    obtain ⟨x, u, rfl, rfl, r1, t1⟩ := one_arg r t
    obtain ⟨a, vs, rfl, q, rs⟩ := seq_inv so r1 e1
    cases t1
    obtain ⟨its, tv, hs⟩ := seen_of I q
    have hl : its.length = bs.length := by rw [trus_len e2, rs.length, tv.length]
    refine call_all_walk (iter_seen (I.ok.hd hc) hs fun s₂ St k1 k2 k3 k4 k5 k6 W st => ?_)
    refine ⟨_, _, _, _, _, St, fun i => bs.getD i false, rfl, W, st, fun i v s Q E hv hq => ?_, fun h' tk hk => ?_⟩
    · obtain ⟨b, eb, tr⟩ := trus_get e2 rs tv hv
      refine tr _ _ _ _ _ _ ?_
      have eg : bs.getD i false = b := by rw [List.getD_eq_getElem?_getD, eb] <;> rfl
      rw [← eg]; exact hq
    · obtain ⟨hh, g, d, tt, os⟩ := s₂
      obtain rfl : g = s.gens := k3
      obtain rfl : d = s.drawn := k4
      obtain rfl : os = s.os := k5
      refine ⟨.bl _, H, I.kept (any_all_kept k1 hk), rfl, ?_⟩
      rw [hl, L2.all_range]
      exact l _ S _ H h .refl .bl so
theorem preSum_list (is : List Int) : preSum (fun i => is.getD i 0) is.length = is.sum := by
  have gen : ∀ n, n ≤ is.length → preSum (fun i => is.getD i 0) n = (is.take n).sum := by
    intro n
    induction n with
    | zero => intro _; rfl
    | succ n ih =>
      intro hn
      have e : preSum (fun i => is.getD i 0) (n + 1) = preSum (fun i => is.getD i 0) n + is.getD n 0 := rfl
      have e2 : is.take (n + 1) = is.take n ++ [is[n]] := by
        rw [List.take_add_one, List.getElem?_eq_getElem (by omega)] <;> rfl
      rw [e, ih (by omega), e2, List.sum_append, List.getD_eq_getElem?_getD, List.getElem?_eq_getElem (by omega)]
      simp
  rw [gen _ (Nat.le_refl _), List.take_length]
theorem sumD_ok (hc : X.calm = true) : CallR X (.builtin "sum") (liftRL X.K sumD) := by
  intro pins s σ H xs us Q I t ⟨ds, S, Qd, r, so, h, l⟩
  match ds, r, h with
  | [d], r, h =>
    obtain ⟨es, is, e1, e2, h⟩ := h
    obtain ⟨x, u, rfl, rfl, r1, t1⟩ := one_arg r t
    obtain ⟨a, vs, rfl, q, rs⟩ := seq_inv so r1 e1
    cases t1
    obtain ⟨its, tv, hs⟩ := seen_of I q
    have ev := ints_reps e2 rs
    subst ev
    have hl : its.length = is.length := by rw [← tv.length, List.length_map]
    refine call_sum_walkG (iter_seen (I.ok.hd hc) hs fun s₂ St k1 k2 k3 k4 k5 k6 W st => ?_)
    refine ⟨_, _, _, _, _, St, fun i => is.getD i 0, rfl, W, st, fun b hb => ?_, fun i v hv => ?_, fun h' tk t' hk => ?_⟩
    · rw [k2]
      simp only [List.mem_cons, List.mem_nil_iff, or_false] at hb
      rcases hb with rfl | rfl
      · exact Nat.lt_succ_self _
      · exact Nat.lt_succ_of_lt k6
    · have hi : i < its.length := by
        by_cases z : i < its.length
        · exact z
        · rw [List.getElem?_eq_none (by omega)] at hv; cases hv
      have : (is.map V.int)[i]? = some (V.int is[i]) := by rw [List.getElem?_map, List.getElem?_eq_getElem (by omega)]; rfl
      obtain ⟨u, hu, ru⟩ := tv.get this
      rw [hv] at hu; cases hu
      obtain ⟨tt, rfl⟩ := ru
      exact ⟨tt, by show _ = Value.int (is.getD i 0) tt; rw [List.getD_eq_getElem?_getD, List.getElem?_eq_getElem (by omega)]; rfl⟩
    · obtain ⟨hh, g, d, tt, os⟩ := s₂
      obtain rfl : g = s.gens := k3
      obtain rfl : d = s.drawn := k4
      obtain rfl : os = s.os := k5
      refine ⟨.int is.sum, H, I.kept (any_all_kept k1 hk), ⟨t', ?_⟩, ?_⟩
      · rw [hl, preSum_list]
      · exact l _ S _ H h .refl .int so
end
end G57
set_option Elab.async false
set_option linter.all false
set_option maxRecDepth 100000
set_option maxHeartbeats 400000
namespace G57
open PySem L2 PySem.Spec PyProof.Rows
def itxt (i : Int) : List Nat := (Str.ofString (toString i)).cps.toList
def rtxt (d : PyData) : List Nat := d.shown.cps.toList
def strsF : List D → Option (List (List Nat))
  | [] => some []
  | .str x :: ds => match strsF ds with
    | some xs => some (x :: xs)
    | none => none
  | _ :: _ => none
def joinL (sep : List Nat) : List (List Nat) → List Nat
  | [] => []
  | [x] => x
  | x :: y :: r => x ++ sep ++ joinL sep (y :: r)
def lenL : List (List Nat) → Nat
  | [] => 0
  | x :: xs => x.length + lenL xs
inductive Bi where
  | len | sum | any | all | abs | min | max | int | str | tuple | list | repr
  | isi (T : String) | rev
def lenD : RLD
  | [.str x], S, Q => x.length ≤ 16777216 ∧ Q (.int x.length) S
  | [d], S, Q => ∃ ds, seqD S d = some ds ∧ Q (.int ds.length) S
  | _, _, _ => False
def absD : RLD
  | [.int i], S, Q => Q (.int i.natAbs) S
  | _, _, _ => False
def minD : RLD
  | [.int i, .int j], S, Q => Q (.int (min i j)) S
  | _, _, _ => False
def maxD : RLD
  | [.int i, .int j], S, Q => Q (.int (max i j)) S
  | _, _, _ => False
def intD : RLD
  | [.int i], S, Q => Q (.int i) S
  | [.bl b], S, Q => Q (.int (if b then 1 else 0)) S
  | [.str x], S, Q => ∃ n, PySem.intText? ⟨x.toArray⟩ = some n ∧ x.length ≤ 640 ∧ Q (.int n) S
  | _, _, _ => False
def strD : RLD
  | [.int i], S, Q => i.natAbs < 2 ^ 1900 ∧ Q (.str (itxt i)) S
  | _, _, _ => False
def tupleD : RLD
  | [d], S, Q => ∃ ds, seqD S d = some ds ∧ Q (.tup ds) S
  | _, _, _ => False
def listD : RLD
  | [d], S, Q => ∃ ds, seqD S d = some ds ∧ ∀ p, S p = none → Q (.ref p) (put S p (.lst ds))
  | _, _, _ => False
def reprD : RLD
  | [d], S, Q => okS S d = true ∧ shS S d = true ∧ (pyS S d).shown.length ≤ 16777216 ∧ Q (.str (rtxt (pyS S d))) S
  | _, _, _ => False
def kindD (S : Sto) : D → Option String
  | .non => some "NoneType"
  | .bl _ => some "bool"
  | .int _ => some "int"
  | .str _ => some "str"
  | .tup _ => some "tuple"
  | .rol _ => some "list"
  | .ref p => match S p with
    | some (.lst _) => some "list"
    | none => none
def isK (k T : String) : Bool := k == T || (k == "bool" && T == "int")
def isiD (T : String) : RLD
  | [d], S, Q => ∃ k, kindD S d = some k ∧ Q (.bl (isK k T)) S
  | _, _, _ => False
def revD : RLD
  | [.str x], S, Q => x.length ≤ 16777216 ∧ Q (.str x.reverse) S
  | [.tup ds], S, Q => Q (.tup ds.reverse) S
  | [.ref p], S, Q => ∃ ds, S p = some (.lst ds) ∧ ∀ r, S r = none → Q (.ref r) (put S r (.lst ds.reverse))
  | _, _, _ => False
def biD : Bi → RLD
  | .len => lenD | .sum => sumD | .any => anyD | .all => allD | .abs => absD | .min => minD | .max => maxD
  | .int => intD | .str => strD | .tuple => tupleD | .list => listD | .repr => reprD
  | .isi T => isiD T | .rev => revD
section
variable {X : Cx}
theorem seqs_ref {K : PySem.W.Frag} {H : Hp} {S : Sto} (so : StoOk K H S) {d : D} {xs : List V} {ds : List D} (r : Reps K H [d] xs) (h : seqD S d = some ds) :
    ∃ a vs, xs = [.ref a] ∧ (SqL K H a vs ∨ SqT K H a vs) ∧ Reps K H ds vs := by
  simp only [Reps] at r
  obtain ⟨x, _, e, r1, rfl⟩ := r
  obtain ⟨a, vs, rfl, q, t⟩ := seq_inv so r1 h
  exact ⟨a, vs, e, q, t⟩
theorem lenD_ok : CallR X (.builtin "len") (liftRL X.K lenD) := by
  intro pins s σ H xs us Q I t ⟨ds, S, Qd, r, so, h, l⟩
  unfold lenD at h
  split at h
  · rename_i x
    simp only [Reps, Rep] at r
    obtain ⟨_, _, rfl, rfl, rfl⟩ := r
    obtain ⟨hz, h⟩ := h
    refine call_len_str pins s σ H _ us Q I t ⟨_, rfl, by rw [str_len, szl]; exact hz, ?_⟩
    rw [str_len]
    exact l _ S _ H h .refl .int so
  · obtain ⟨es, e1, h⟩ := h
    obtain ⟨a, vs, rfl, q, rs⟩ := seqs_ref so r e1
    refine call_len_seq pins s σ H _ us Q I t ⟨a, vs, rfl, q, ?_⟩
    rw [← rs.length]
    exact l _ S _ H h .refl .int so
  · exact h.elim
theorem absD_ok : CallR X (.builtin "abs") (liftRL X.K absD) := by
  intro pins s σ H xs us Q I t ⟨ds, S, Qd, r, so, h, l⟩
  unfold absD at h
  split at h
  · rename_i i
    simp only [Reps, Rep] at r
    obtain ⟨_, _, rfl, rfl, rfl⟩ := r
    refine call_abs pins s σ H _ us Q I t ⟨i, rfl, ?_⟩
    have e : (if i < 0 then -i else i) = (i.natAbs : Int) := by split <;> omega
    rw [e]
    exact l _ S _ H h .refl .int so
  · exact h.elim
theorem minD_ok (hc : X.calm = true) : CallR X (.builtin "min") (liftRL X.K minD) := by
  intro pins s σ H xs us Q I t ⟨ds, S, Qd, r, so, h, l⟩
  unfold minD at h
  split at h
  · rename_i i j
    simp only [Reps, Rep] at r
    obtain ⟨_, _, rfl, rfl, _, _, rfl, rfl, rfl⟩ := r
    refine call_min2 hc pins s σ H _ us Q I t ⟨i, j, rfl, ?_⟩
    have e : (if j < i then j else i) = min i j := by split <;> omega
    rw [e]
    exact l _ S _ H h .refl .int so
  · exact h.elim
theorem maxD_ok (hc : X.calm = true) : CallR X (.builtin "max") (liftRL X.K maxD) := by
  intro pins s σ H xs us Q I t ⟨ds, S, Qd, r, so, h, l⟩
  unfold maxD at h
  split at h
  · rename_i i j
    simp only [Reps, Rep] at r
    obtain ⟨_, _, rfl, rfl, _, _, rfl, rfl, rfl⟩ := r
    refine call_max2 hc pins s σ H _ us Q I t ⟨i, j, rfl, ?_⟩
    have e : (if j > i then j else i) = max i j := by split <;> omega
    rw [e]
    exact l _ S _ H h .refl .int so
  · exact h.elim
theorem intD_ok : CallR X (.type "int") (liftRL X.K intD) := by
  intro pins s σ H xs us Q I t ⟨ds, S, Qd, r, so, h, l⟩
  unfold intD at h
  split at h
  · rename_i i
    simp only [Reps, Rep] at r
    obtain ⟨_, _, rfl, rfl, rfl⟩ := r
    exact call_int1 pins s σ H _ us Q I t (.inl ⟨i, rfl, l _ S _ H h .refl .int so⟩)
  · rename_i i
    simp only [Reps, Rep] at r
    obtain ⟨_, _, rfl, rfl, rfl⟩ := r
    exact call_int1 pins s σ H _ us Q I t (.inr ⟨i, rfl, l _ S _ H h .refl .int so⟩)
  · rename_i x
    simp only [Reps, Rep] at r
    obtain ⟨_, _, rfl, rfl, rfl⟩ := r
    obtain ⟨n, e, hz, h⟩ := h
    exact call_int_str pins s σ H _ us Q I t ⟨_, n, rfl, e, by rw [str_len]; exact hz, l _ S _ H h .refl .int so⟩
  · exact h.elim
theorem log2_1920 {i : Int} (h : i.natAbs < 2 ^ 1900) : i.natAbs.log2 < 1920 :=
  PySem.Spec.log2_small (Nat.lt_of_lt_of_le h (Nat.pow_le_pow_right (by decide) (by decide)))
theorem strD_ok : CallR X (.type "str") (liftRL X.K strD) := by
  intro pins s σ H xs us Q I t ⟨ds, S, Qd, r, so, h, l⟩
  unfold strD at h
  split at h
  · rename_i i
    simp only [Reps, Rep] at r
    obtain ⟨_, _, rfl, rfl, rfl⟩ := r
    exact call_str_int pins s σ H _ us Q I t ⟨i, rfl, log2_1920 h.1, l _ S _ H h.2 .refl (by simp only [Rep]; rfl) so⟩
  · exact h.elim
theorem tupleD_ok : CallR X (.type "tuple") (liftRL X.K tupleD) := by
  intro pins s σ H xs us Q I t ⟨ds, S, Qd, r, so, h, l⟩
  unfold tupleD at h
  split at h
  · rename_i d
    obtain ⟨es, e1, h⟩ := h
    obtain ⟨a, vs, rfl, q, rs⟩ := seqs_ref so r e1
    rcases q with q | q
    · exact call_tuple_of pins s σ H _ us Q I t ⟨a, vs, rfl, .inl ⟨q, fun p hp => l.tup so h rs p hp⟩⟩
    · exact call_tuple_of pins s σ H _ us Q I t ⟨a, vs, rfl, .inr ⟨q, l _ S _ H h .refl (.tup_mk q rs) so⟩⟩
  · exact h.elim
theorem listD_ok : CallR X (.type "list") (liftRL X.K listD) := by
  intro pins s σ H xs us Q I t ⟨ds, S, Qd, r, so, h, l⟩
  unfold listD at h
  split at h
  · rename_i d
    obtain ⟨es, e1, h⟩ := h
    obtain ⟨a, vs, rfl, q, rs⟩ := seqs_ref so r e1
    exact call_list_of pins s σ H _ us Q I t ⟨a, vs, rfl, q, fun p hp => l.lst so h rs p hp⟩
  · exact h.elim
theorem reprD_ok (hg : X.A.guards = some []) (hu : X.A.units + 64 < cLine) : CallR X (.builtin "repr") (liftRL X.K reprD) := by
  intro pins s σ H xs us Q I t ⟨ds, S, Qd, r, so, h, l⟩
  unfold reprD at h
  split at h
  · rename_i d
    obtain ⟨h1, hsh, h2, h3⟩ := h
    simp only [Reps] at r
    obtain ⟨x, _, rfl, r1, rfl⟩ := r
    cases t with
    | cons t1 t2 =>
      cases t2
      rename_i u
      obtain ⟨k1, k3, k4⟩ := okS_lay h1
      have k2 := shS_show hsh
      have dp := dpS so h1 r1
      have fin : ∀ h' tk tk', (∀ b o, s.heap.get? b = some o → h'.get? b = some o) → EP X pins σ Q (.str (pyS S d).shown tk) { s with heap := h', toks := tk' } := fun h' tk tk' hk =>
        ⟨.str (pyS S d).shown, H, I.kept hk, ⟨tk, rfl⟩, l _ S _ H h3 .refl (by simp only [Rep, rtxt]) so⟩
      have kk : ∀ b o, s.heap.get? b = some o → s.heap.get? b = some o := fun _ _ e => e
      obtain ⟨as, rd⟩ := Dp.reads I _ _ u dp t1
      generalize hpy : pyS S d = q at *
      cases rd with
      | none => exact PySem.P.repr_of_none (by have := fin s.heap s.toks (s.toks + 1) kk; simp only [PyData.shown] at this; exact this)
      | bool b => exact PySem.P.repr_of_bool (by have := fin s.heap s.toks (s.toks + 1) kk; simp only [PyData.shown] at this; exact this)
      | int i t => exact PySem.P.repr_of_int (by simpa [PyData.showable] using k2) (by have := fin s.heap s.toks (s.toks + 1) kk; simp only [PyData.shown] at this; exact this)
      | str x t => exact PySem.P.repr_of_str (by have := fin s.heap s.toks (s.toks + 1) kk; simp only [PyData.shown] at this; exact this) (by simp only [PyData.shown] at h2; rw [szl]; exact h2)
      | list e1 e2 e3 e4 => exact repr_of_reads' (.list e1 e2 e3 e4) k2 (PyData.noDict_hsm k3) hg (by omega) kk (fun h' u tk hk => fin h' u tk hk) (by rw [szl]; exact h2)
      | tuple e1 e2 e3 e4 => exact repr_of_reads' (.tuple e1 e2 e3 e4) k2 (PyData.noDict_hsm k3) hg (by omega) kk (fun h' u tk hk => fin h' u tk hk) (by rw [szl]; exact h2)
      | dict e1 e2 e3 e4 e5 => simp [PyData.hasDict] at k3
  · exact h.elim
end
end G57
set_option Elab.async false
set_option linter.all false
set_option maxRecDepth 100000
set_option maxHeartbeats 400000
namespace G57
open PySem L2 PySem.Spec PyProof.Rows
inductive Mt where
  | append | extend | pop | join | count
def appD : D → RLD
  | .ref p, [d], S, Q => ∃ ds, S p = some (.lst ds) ∧ ds.length < 16777216 ∧ Q .non (put S p (.lst (ds ++ [d])))
  | _, _, _, _ => False
def extD : D → RLD
  | .ref p, [.ref q], S, Q => ∃ ds es, S p = some (.lst ds) ∧ S q = some (.lst es) ∧ ds.length + es.length ≤ 16777216 ∧ Q .non (put S p (.lst (ds ++ es)))
  | _, _, _, _ => False
def popD : D → RLD
  | .ref p, [], S, Q => ∃ ds d, S p = some (.lst (ds ++ [d])) ∧ Q d (put S p (.lst ds))
  | .ref p, [.int i], S, Q => ∃ ds d, S p = some (.lst ds) ∧ 0 ≤ i ∧ i < 2 ^ 40 ∧ ds[i.toNat]? = some d ∧ Q d (put S p (.lst (ds.eraseIdx i.toNat)))
  | _, _, _, _ => False
def joinD : D → RLD
  | .str a, [d], S, Q => ∃ ds xs, seqD S d = some ds ∧ strsF ds = some xs ∧ lenL xs + xs.length * a.length ≤ 16777216 ∧ Q (.str (joinL a xs)) S
  | _, _, _, _ => False
def countD : D → RLD
  | .str a, [.str [c]], S, Q => Q (.int (a.count c)) S
  | _, _, _, _ => False
def mtD : Mt → D → RLD
  | .append => appD | .extend => extD | .pop => popD | .join => joinD | .count => countD
def liftM (K : PySem.W.Frag) (r : D → RLD) : V → List V → Hp → VK → Prop := fun x xs H Q => ∃ a ds S Qd, Rep K H a x ∧ Reps K H ds xs ∧ StoOk K H S ∧ r a ds S Qd ∧ Lv K H Qd Q
section
variable {X : Cx}
theorem Lv.put {K : PySem.W.Frag} {H : Hp} {Qd : DK} {Q : VK} {S : Sto} {p : Addr} {d : D} {v : V} {ds : List D} {us vs : List V} (l : Lv K H Qd Q) (so : StoOk K H S) (e : H p = some (.lst us)) (r : Reps K H ds vs) (rv : Rep K H d v) (h : Qd d (G57.put S p (.lst ds))) : Q v (upd H p (.lst vs)) :=
  l d _ v _ h (Keep.lst e) (rv.mono (Keep.lst e)) (so.write e r)
theorem appD_ok : MtM X "list.append" (liftM X.K appD) := by
  intro pins s σ H x xs v us Q I rx t ⟨a, ds, S, Qd, ra, r, so, h, l⟩
  unfold appD at h
  split at h
  · rename_i p d
    simp only [Rep] at ra
    simp only [Reps] at r
    obtain ⟨y, _, rfl, ry, rfl⟩ := r
    obtain ⟨es, e, hz, h⟩ := h
    obtain ⟨vs, q, rs⟩ := so p _ e
    exact mt_append pins s σ H x _ v us Q I rx t ⟨p, vs, y, ra, rfl, q, by rw [← rs.length, szl]; exact hz, l.put so q (rs.append (.cons ry .nil)) .non h⟩
  · exact h.elim
theorem extD_ok : MtM X "list.extend" (liftM X.K extD) := by
  intro pins s σ H x xs v us Q I rx t ⟨a, ds, S, Qd, ra, r, so, h, l⟩
  unfold extD at h
  split at h
  · rename_i p b
    simp only [Rep] at ra
    simp only [Reps, Rep] at r
    obtain ⟨y, _, rfl, rfl, rfl⟩ := r
    obtain ⟨es, fs, e, e2, hz, h⟩ := h
    obtain ⟨vs, q, rs⟩ := so p _ e
    obtain ⟨ws, q2, rs2⟩ := so b _ e2
    exact mt_extend pins s σ H x _ v us Q I rx t ⟨p, b, vs, ws, ra, rfl, q, q2, by rw [← rs.length, ← rs2.length, szl]; exact hz, l.put so q (rs.append rs2) .non h⟩
  · exact h.elim
theorem Reps.last {K : PySem.W.Frag} {H : Hp} {d : D} : ∀ {ds : List D} {vs : List V}, Reps K H (ds ++ [d]) vs → ∃ us v, vs = us ++ [v] ∧ Reps K H ds us ∧ Rep K H d v
  | [], vs, r => by
    simp only [List.nil_append, Reps] at r
    obtain ⟨v, _, rfl, r1, rfl⟩ := r
    exact ⟨[], v, rfl, .nil, r1⟩
  | e :: ds, vs, r => by
    simp only [List.cons_append, Reps] at r
    obtain ⟨v, w, rfl, r1, r2⟩ := r
    obtain ⟨us, z, rfl, r3, r4⟩ := Reps.last r2
    exact ⟨v :: us, z, rfl, .cons r1 r3, r4⟩
theorem Reps.erase {K : PySem.W.Frag} {H : Hp} : ∀ {ds : List D} {vs : List V} (n : Nat), Reps K H ds vs → Reps K H (ds.eraseIdx n) (vs.eraseIdx n)
  | [], _, _, h => by simp only [Reps] at h; subst h; exact .nil
  | d :: ds, v :: vs, 0, h => h.inv.2
  | d :: ds, v :: vs, n + 1, h => .cons h.inv.1 (h.inv.2.erase n)
  | d :: ds, [], _, h => by simp only [Reps] at h; obtain ⟨_, _, e, _⟩ := h; cases e
theorem popD_ok : MtM X "list.pop" (liftM X.K popD) := by
  intro pins s σ H x xs v us Q I rx t ⟨a, ds, S, Qd, ra, r, so, h, l⟩
  unfold popD at h
  split at h
  · rename_i p
    simp only [Rep] at ra
    simp only [Reps] at r
    subst r
    obtain ⟨es, d, e, h⟩ := h
    obtain ⟨vs, q, rs⟩ := so p _ e
    obtain ⟨ws, z, rfl, r1, r2⟩ := rs.last
    refine mt_pop pins s σ H x _ v us Q I rx t ⟨p, _, z, ra, rfl, q, by simp, ?_⟩
    rw [List.dropLast_concat]
    exact l.put so q r1 r2 h
  · rename_i p i
    simp only [Rep] at ra
    simp only [Reps, Rep] at r
    obtain ⟨y, _, rfl, rfl, rfl⟩ := r
    obtain ⟨es, d, e, h0, h1, h2, h⟩ := h
    obtain ⟨vs, q, rs⟩ := so p _ e
    obtain ⟨z, e3, rz⟩ := rs.get h2
    have hlt : i.toNat < vs.length := by
      by_cases k : i.toNat < vs.length
      · exact k
      · rw [List.getElem?_eq_none (by omega)] at e3; cases e3
    refine mt_popAt pins s σ H x _ v us Q I rx t ⟨p, vs, i, i.toNat, z, ra, rfl, q, by omega, by omega, ?_, e3, l.put so q (rs.erase _) rz h⟩
    unfold seqIndex?
    simp [show ¬ i < 0 by omega, h0]
    omega
  · exact h.elim
theorem strs_reps {K : PySem.W.Frag} {H : Hp} : ∀ {ds : List D} {xs : List (List Nat)} {vs : List V}, strsF ds = some xs → Reps K H ds vs → vs = (xs.map fun x => (⟨x.toArray⟩ : Str)).map V.str
  | [], _, _, h, r => by simp only [strsF] at h; cases h; simp only [Reps] at r; exact r
  | d :: ds, is, [], _, r => by simp only [Reps] at r; obtain ⟨_, _, e, _⟩ := r; cases e
  | d :: ds, is, v :: vs, h, r => by
    cases d <;> simp only [strsF] at h <;> try cases h
    case str i =>
      cases h2 : strsF ds with
      | none => rw [h2] at h; cases h
      | some is' =>
        rw [h2] at h; cases h
        have r1 := r.inv.1
        simp only [Rep] at r1
        rw [List.map_cons, List.map_cons, r1, strs_reps h2 r.inv.2]
theorem join_cps0 (a : List Nat) : ∀ xs : List (List Nat), Str.join ⟨a.toArray⟩ (xs.map fun x => (⟨x.toArray⟩ : Str)) = ⟨(joinL a xs).toArray⟩
  | [] => rfl
  | [x] => rfl
  | x :: y :: r => by
    have ih := join_cps0 a (y :: r)
    show (⟨x.toArray⟩ : Str) ++ ⟨a.toArray⟩ ++ Str.join ⟨a.toArray⟩ ((y :: r).map fun x => (⟨x.toArray⟩ : Str)) = _
    rw [ih, cps_app, cps_app]
    rfl
theorem join_cps (a : List Nat) (xs : List (List Nat)) : Txt.join ⟨a.toArray⟩ (xs.map fun x => (⟨x.toArray⟩ : Str)) = ⟨(joinL a xs).toArray⟩ :=
  (TL.join_eq _ _).trans (join_cps0 a xs)
theorem lenL_sum : ∀ xs : List (List Nat), ((xs.map fun x => (⟨x.toArray⟩ : Str)).map (·.length)).sum = lenL xs
  | [] => rfl
  | x :: r => by rw [List.map_cons, List.map_cons, List.sum_cons, lenL_sum r, str_len]; rfl
theorem joinD_ok : MtR X "str.join" (liftM X.K joinD) := by
  intro pins s σ H x xs v us Q I rx t ⟨a, ds, S, Qd, ra, r, so, h, l⟩
  unfold joinD at h
  split at h
  · rename_i z d
    simp only [Rep] at ra
    obtain ⟨es, ws, e1, e2, hz, h⟩ := h
    obtain ⟨p, vs, rfl, q, rs⟩ := seqs_ref so r e1
    have e3 := strs_reps e2 rs
    subst e3
    refine mt_join pins s σ H x _ v us Q I rx t ⟨_, p, _, ra, rfl, q, ?_, ?_⟩
    · rw [lenL_sum, List.length_map, str_len]; exact hz
    · rw [join_cps]; exact l _ S _ H h .refl .str so
  · exact h.elim
theorem cnt_count (c : Nat) : ∀ x : List Nat, cnt c x = (x.count c : Int)
  | [] => rfl
  | n :: x => by
    rw [cnt_cons, cnt_count c x, List.count_cons]
    by_cases h : n = c
    · subst h; simp; omega
    · simp [h]
theorem countD_ok : MtR X "str.count" (liftM X.K countD) := by
  intro pins s σ H x xs v us Q I rx t ⟨a, ds, S, Qd, ra, r, so, h, l⟩
  unfold countD at h
  split at h
  · rename_i z c
    simp only [Rep] at ra
    simp only [Reps, Rep] at r
    obtain ⟨y, _, rfl, rfl, rfl⟩ := r
    refine mt_count pins s σ H x _ v us Q I rx t ⟨_, _, ra, rfl, ?_⟩
    have e : Txt.count ⟨z.toArray⟩ ⟨#[c]⟩ = (z.count c : Int) := by
      rw [count_is]
      exact cnt_count c z
    rw [e]
    exact l _ S _ H h .refl .int so
  · exact h.elim
end
end G57
set_option Elab.async false
set_option linter.all false
set_option maxRecDepth 100000
set_option maxHeartbeats 400000
namespace G57
open PySem L2
inductive Pt where
  | v (i : Nat) | t (p : Pt) | nil | cons (a r : Pt)
inductive Ex where
  | var (i : Nat) | con (d : D)
  | bin (op : Operator) (a b : Ex) | neg (a : Ex) | not (a : Ex)
  | cmp (op : CmpOp) (a b : Ex) | chain (o1 o2 : CmpOp) (a b c : Ex)
  | and (a b : Ex) | or (a b : Ex) | ite (c a b : Ex)
  | call (f : Nat) (as : Ex) | bi (f : Bi) (as : Ex) | mt (m : Mt) (o as : Ex)
  | tup (as : Ex) | lst (as : Ex) | idx (a b : Ex) | sl (a lo hi : Ex)
  | lc (vs : List Nat) (p : Pt) (it c e : Ex)
  | fs (as : Ex)
  | nil | cons (a r : Ex)
  | iE (a : Ex) | iR1 (a : Ex) | iR2 (a b : Ex) | iZ (a b : Ex) | iN (a : Ex)
inductive Sx where
  | asg (p : Pt) (e : Ex) | set (o i e : Ex) | ex (e : Ex) | ret (e : Ex)
  | iff (c : Ex) (a b : Sx) | loop (p : Pt) (it : Ex) (b : Sx) | wh (c : Ex) (b : Sx)
  | brk | cnt | pass
  | nil | cons (a r : Sx)
abbrev Spec := List D → Sto → DK → Prop
abbrev Tab := Nat → Option Spec
def opD : Operator → R2D
  | .Add => addD | .Sub => subD | .Mult => mulD | .FloorDiv => fdivD | .Mod => modD | .Pow => powD
  | _ => fun _ _ _ _ => False
def negD : D → Sto → DK → Prop
  | .int i, S, Q => Q (.int (-i)) S
  | _, _, _ => False
def truthD (d : D) (S : Sto) (Q : Bool → Prop) : Prop := match d with
  | .str x => x.length ≤ 16777216 ∧ Q (!x.isEmpty)
  | d => ∃ b, truD S d = some b ∧ Q b
def wipeD (env : En) : List Nat → En
  | [] => env
  | v :: vs => (wipeD env vs).set v none
mutual
def wpP : Pt → D → Sto → En → (En → Prop) → Prop
  | .v i, d, _, env, Q => Q (env.set i (some d))
  | .t p, d, S, env, Q => ∃ ds, seqD S d = some ds ∧ wpPs p ds S env Q
  | .nil, _, _, _, _ => False
  | .cons _ _, _, _, _, _ => False
def wpPs : Pt → List D → Sto → En → (En → Prop) → Prop
  | .nil, [], _, env, Q => Q env
  | .cons a r, d :: ds, S, env, Q => wpP a d S env fun env' => wpPs r ds S env' Q
  | _, _, _, _, _ => False
end
def lcRun (p : Addr) (G : Sto → Prop) (body : D → Sto → (Option D → Sto → Prop) → Prop) (Q : Sto → Prop) : List D → List D → Sto → Prop
  | [], _, S => Q S
  | x :: xs, acc, S => body x S fun y S1 => S1 p = some (.lst acc) ∧ match y with
    | none => G S1 ∧ lcRun p G body Q xs acc S1
    | some y => acc.length < 16777216 ∧ G (put S1 p (.lst (acc ++ [y]))) ∧ lcRun p G body Q xs (acc ++ [y]) (put S1 p (.lst (acc ++ [y])))
abbrev IK := List D → (Sto → Prop) → Sto → Prop
def iterD (d : D) (S : Sto) (K : IK) : Prop := match d with
  | .tup ds | .rol ds => K ds (fun _ => True) S
  | .str x => K (x.map fun c => .str [c]) (fun _ => True) S
  | .ref p => ∃ ds, S p = some (.lst ds) ∧ K ds (fun S => S p = some (.lst ds)) S
  | _ => False
def rngD (lo hi : Int) : List D := (List.range (hi - lo).toNat).map fun i => .int (lo + (i : Nat))
def smallI (i : Int) : Prop := -(2 ^ 62) ≤ i ∧ i < 2 ^ 62
def zipD : List D → List D → List D
  | x :: xs, y :: ys => .tup [x, y] :: zipD xs ys
  | _, _ => []
def enumD : Nat → List D → List D
  | _, [] => []
  | i, x :: xs => .tup [.int (i : Nat), x] :: enumD (i + 1) xs
def range1D (d : D) (S : Sto) (K : IK) : Prop := match d with
  | .int n => smallI n ∧ K (rngD 0 n) (fun _ => True) S
  | _ => False
def range2D (d e : D) (S : Sto) (K : IK) : Prop := match d, e with
  | .int m, .int n => smallI m ∧ smallI n ∧ K (rngD m n) (fun _ => True) S
  | _, _ => False
def srcD (S : Sto) : D → Option (List D × (Sto → Prop))
  | .tup ds => some (ds, fun _ => True)
  | .rol ds => some (ds, fun _ => True)
  | .str x => some (x.map (fun c => .str [c]), fun _ => True)
  | .ref p => match S p with
    | some (.lst ds) => some (ds, fun S => S p = some (.lst ds))
    | none => none
  | _ => none
def zipsD (d e : D) (S : Sto) (K : IK) : Prop := ∃ xs G ys G', srcD S d = some (xs, G) ∧ srcD S e = some (ys, G') ∧ K (zipD xs ys) (fun S => G S ∧ G' S) S
def enumedD (d : D) (S : Sto) (K : IK) : Prop := ∃ xs G, srcD S d = some (xs, G) ∧ K (enumD 0 xs) G S
def fmtD (d : D) (Q : List Nat → Prop) : Prop := match d with
  | .str x => x.length ≤ 16777216 ∧ Q x
  | .int i => i.natAbs < 2 ^ 1900 ∧ Q (itxt i)
  | _ => False
def mtTy : Mt → D → Sto → Prop
  | .join, .str _, _ | .count, .str _, _ => True
  | .append, .ref p, S | .extend, .ref p, S | .pop, .ref p, S => ∃ ds, S p = some (.lst ds)
  | _, _, _ => False
section
variable (Φ : Tab)
mutual
def wpE : Ex → TD
  | .var i => fun env S Q => ∃ d, env[i]? = some (some d) ∧ Q d S
  | .con d => fun _ S Q => Q d S
  | .bin op a b => fun env S Q => wpE a env S fun x S1 => wpE b env S1 fun y S2 => opD op x y S2 Q
  | .neg a => fun env S Q => wpE a env S fun x S1 => negD x S1 Q
  | .not a => fun env S Q => wpE a env S fun x S1 => truthD x S1 fun b => Q (.bl (!b)) S1
  | .cmp op a b => fun env S Q => wpE a env S fun x S1 => wpE b env S1 fun y S2 => cmpD op x y S2 Q
  | .chain o1 o2 a b c => fun env S Q => wpE a env S fun x S1 => wpE b env S1 fun y S2 => cmpD o1 x y S2 fun z S3 => ∃ k, z = .bl k ∧
      (if k = true then wpE c env S3 fun w S4 => cmpD o2 y w S4 Q else Q (.bl false) S3)
  | .and a b => fun env S Q => wpE a env S fun x S1 => truthD x S1 fun t => if t = true then wpE b env S1 Q else Q x S1
  | .or a b => fun env S Q => wpE a env S fun x S1 => truthD x S1 fun t => if t = true then Q x S1 else wpE b env S1 Q
  | .ite c a b => fun env S Q => wpT c env S fun t S1 => if t = true then wpE a env S1 Q else wpE b env S1 Q
  | .call f as => fun env S Q => ∃ sp, Φ f = some sp ∧ wpA as env S fun ds S1 => sp ds S1 Q
  | .bi f as => fun env S Q => wpA as env S fun ds S1 => biD f ds S1 Q
  | .mt m o as => fun env S Q => wpE o env S fun x S1 => mtTy m x S1 ∧ wpA as env S1 fun ds S2 => mtD m x ds S2 Q
  | .tup as => fun env S Q => wpA as env S fun ds S1 => ds.length ≤ 16777216 ∧ Q (.tup ds) S1
  | .lst as => fun env S Q => wpA as env S fun ds S1 => ds.length ≤ 16777216 ∧ ∀ p, S1 p = none → Q (.ref p) (put S1 p (.lst ds))
  | .idx a b => fun env S Q => wpE a env S fun x S1 => wpE b env S1 fun y S2 => idxD x y S2 Q
  | .sl a lo hi => fun env S Q => wpE a env S fun x S1 => wpO lo env S1 fun l S2 => wpO hi env S2 fun h S3 => slD x l h S3 Q
  | .lc vs p it c e => fun env S Q => wpI it env S fun xs G S1 => ∀ a, S1 a = none → G (put S1 a (.lst [])) ∧ lcRun a G (fun x S2 k => wpP p x S2 (wipeD env vs) fun env2 => wpC c env2 S2 fun t S3 =>
      if t = true then wpE e env2 S3 fun y S4 => k (some y) S4 else k none S3) (fun S' => Q (.ref a) S') xs [] (put S1 a (.lst []))
  | .fs as => fun env S Q => wpJ as env S [] fun x S1 => Q (.str x) S1
  | .nil | .cons _ _ | .iE _ | .iR1 _ | .iR2 _ _ | .iZ _ _ | .iN _ => fun _ _ _ => False
def wpT : Ex → TBD
  | .not a => fun env S Q => wpT a env S fun b S1 => Q (!b) S1
  | .and a b => fun env S Q => wpT a env S fun t S1 => if t = true then wpT b env S1 Q else Q false S1
  | .or a b => fun env S Q => wpT a env S fun t S1 => if t = true then Q true S1 else wpT b env S1 Q
  | .cmp op a b => fun env S Q => wpE a env S fun x S1 => wpE b env S1 fun y S2 => cmpD op x y S2 fun z S3 => ∃ k, z = .bl k ∧ Q k S3
  | .chain o1 o2 a b c => fun env S Q => wpE a env S fun x S1 => wpE b env S1 fun y S2 => cmpD o1 x y S2 fun z S3 => ∃ k, z = .bl k ∧
      (if k = true then wpE c env S3 fun w S4 => cmpD o2 y w S4 fun z S5 => ∃ k, z = .bl k ∧ Q k S5 else Q false S3)
  | .var i => fun env S Q => ∃ d, env[i]? = some (some d) ∧ truthD d S fun b => Q b S
  | .call f as => fun env S Q => ∃ sp, Φ f = some sp ∧ wpA as env S fun ds S1 => sp ds S1 fun d S2 => truthD d S2 fun b => Q b S2
  | .bi f as => fun env S Q => wpA as env S fun ds S1 => biD f ds S1 fun d S2 => truthD d S2 fun b => Q b S2
  | .idx a b => fun env S Q => wpE a env S fun x S1 => wpE b env S1 fun y S2 => idxD x y S2 fun d S3 => truthD d S3 fun b => Q b S3
  | _ => fun _ _ _ => False
def wpC : Ex → TBD
  | .nil => fun _ S Q => Q true S
  | .cons c _ => wpT c
  | _ => fun _ _ _ => False
def wpA : Ex → TAD
  | .nil => fun _ S Q => Q [] S
  | .cons a r => fun env S Q => wpE a env S fun x S1 => wpA r env S1 fun xs S2 => Q (x :: xs) S2
  | _ => fun _ _ _ => False
def wpO : Ex → En → Sto → (Option Int → Sto → Prop) → Prop
  | .nil => fun _ S Q => Q none S
  | .cons a _ => fun env S Q => wpE a env S fun x S1 => ∃ i, x = .int i ∧ Q (some i) S1
  | _ => fun _ _ _ => False
def wpI : Ex → En → Sto → IK → Prop
  | .iE a => fun env S K => wpE a env S fun x S1 => iterD x S1 K
  | .iR1 a => fun env S K => wpE a env S fun x S1 => range1D x S1 K
  | .iR2 a b => fun env S K => wpE a env S fun x S1 => wpE b env S1 fun y S2 => range2D x y S2 K
  | .iZ a b => fun env S K => wpE a env S fun x S1 => wpE b env S1 fun y S2 => zipsD x y S2 K
  | .iN a => fun env S K => wpE a env S fun x S1 => enumedD x S1 K
  | _ => fun _ _ _ => False
def wpJ : Ex → En → Sto → List Nat → (List Nat → Sto → Prop) → Prop
  | .nil => fun _ S acc Q => Q acc S
  | .cons a r => fun env S acc Q => wpE a env S fun x S1 => fmtD x fun z => acc.length + z.length ≤ 16777216 ∧ wpJ r env S1 (acc ++ z) Q
  | _ => fun _ _ _ _ => False
end
structure EndsD where
  nx : En → Sto → Prop
  rt : DK
  bk : En → Sto → Prop := fun _ _ => False
  ct : En → Sto → Prop := fun _ _ => False
def setD : D → D → D → Sto → (Sto → Prop) → Prop
  | .ref p, .int i, d, S, Q => ∃ ds j, S p = some (.lst ds) ∧ ixN ds.length i = some j ∧ Q (put S p (.lst (ds.set j d)))
  | _, _, _, _, _ => False
def forRun (G : Sto → Prop) (body : D → En → Sto → (En → Sto → Prop) → Prop) (Q : En → Sto → Prop) : List D → En → Sto → Prop
  | [], env, S => Q env S
  | x :: xs, env, S => body x env S fun env' S' => G S' ∧ forRun G body Q xs env' S'
def whRun (test : En → Sto → (Bool → Sto → Prop) → Prop) (body : En → Sto → (En → Sto → Prop) → Prop) (Q : En → Sto → Prop) : Nat → En → Sto → Prop
  | 0, _, _ => False
  | n + 1, env, S => test env S fun t S1 => if t = true then body env S1 (whRun test body Q n) else Q env S1
def wpS : Sx → EndsD → En → Sto → Prop
  | .asg p e, E, env, S => wpE Φ e env S fun d S1 => wpP p d S1 env fun env' => E.nx env' S1
  | .set o i e, E, env, S => wpE Φ e env S fun d S1 => wpE Φ o env S1 fun x S2 => wpE Φ i env S2 fun y S3 => setD x y d S3 fun S4 => E.nx env S4
  | .ex e, E, env, S => wpE Φ e env S fun _ S1 => E.nx env S1
  | .ret e, E, env, S => wpE Φ e env S E.rt
  | .iff c a b, E, env, S => wpT Φ c env S fun t S1 => if t = true then wpS a E env S1 else wpS b E env S1
  | .loop p it b, E, env, S => wpI Φ it env S fun xs G S1 => forRun G (fun x env1 S2 N => wpP p x S2 env1 fun env2 => wpS b { nx := N, ct := N, bk := E.nx, rt := E.rt } env2 S2) E.nx xs env S1
  | .wh c b, E, env, S => ∃ n, whRun (wpT Φ c) (fun env1 S1 N => wpS b { nx := N, ct := N, bk := E.nx, rt := E.rt } env1 S1) E.nx n env S
  | .brk, E, env, S => E.bk env S
  | .cnt, E, env, S => E.ct env S
  | .pass, E, env, S => E.nx env S
  | .nil, E, env, S => E.nx env S
  | .cons a r, E, env, S => wpS a { E with nx := fun env' S' => wpS r E env' S' } env S
end
end G57
set_option Elab.async false
set_option linter.all false
set_option maxRecDepth 100000
set_option maxHeartbeats 400000
namespace G57
open PySem L2
structure Gam where
  N : List Str
  sc : Scope
  st : List Str
  bs : List Str
  fs : List Str
  cs : List (Str × D)
def vix : List Str → Str → Option Nat
  | [], _ => none
  | y :: ys, x => if y = x then some 0 else (vix ys x).map (· + 1)
def visB (sc : Scope) (x : Str) : Bool := match sc.names.lookup x with
  | some .local | some .cell | some .free => true
  | _ => false
def glB (sc : Scope) (x : Str) : Bool := match sc.names.lookup x with
  | some .globalImplicit => true
  | _ => false
def plainName (x : Str) : Bool := !(x == ("__debug__" : Str)) && !(x == ("__classdict__" : Str)) && !(x == ("__name__" : Str))
def biOf (x : Str) : Option Bi :=
  if x = "len" then some .len else if x = "sum" then some .sum else if x = "any" then some .any else if x = "all" then some .all
  else if x = "abs" then some .abs else if x = "min" then some .min else if x = "max" then some .max else if x = "repr" then some .repr
  else if x = "int" then some .int else if x = "str" then some .str else if x = "tuple" then some .tuple else if x = "list" then some .list else none
def mtOf (x : Str) : Option Mt :=
  if x = "append" then some .append else if x = "extend" then some .extend else if x = "pop" then some .pop
  else if x = "join" then some .join else if x = "count" then some .count else none
def tyNames : List Str := ["int", "bool", "str", "tuple", "list"]
def tyStr (x : Str) : String := if x = "int" then "int" else if x = "bool" then "bool" else if x = "str" then "str" else if x = "tuple" then "tuple" else "list"
def isiOf (Γ : Gam) : List Expr → Option Bi
  | [.Name T _] => if tyNames.contains T && glB Γ.sc T && Γ.bs.contains T then some (.isi (tyStr T)) else none
  | _ => none
def backB : Expr → Bool
  | .Slice none none (some (.UnaryOp .USub (.Constant (.int 1) _ _) _)) _ => true
  | _ => false
def ptOf : Nat → Gam → Expr → Option Pt
  | 0, _, _ => none
  | n + 1, Γ, .Name x _ => if Γ.st.contains x && plainName x then (vix Γ.N x).map .v else none
  | n + 1, Γ, .Tuple es _ _ => (es.foldr (fun e r => match ptOf n Γ e, r with | some a, some b => some (.cons a b) | _, _ => none) (some .nil)).map .t
  | _, _, _ => none
def ownOf : Nat → Gam → Expr → Option (List (Str × Nat))
  | 0, _, _ => none
  | n + 1, Γ, .Name x _ => (vix Γ.N x).map fun i => [(x, i)]
  | n + 1, Γ, .Tuple es _ _ => es.foldr (fun e r => match ownOf n Γ e, r with | some a, some b => some (a ++ b) | _, _ => none) (some [])
  | _, _, _ => none
def blk (Γ : Gam) (scope : Scope) : Gam := { Γ with sc := relS scope Γ.sc, st := (scope.names.filter fun y => y.2 == .local || y.2 == .cell).map (·.1) }
def starry : Expr → Bool
  | .Starred _ _ => true
  | _ => false
def tupleT : Expr → Bool
  | .Tuple _ _ _ => true
  | _ => false
def superish : Expr → Bool
  | .Call (.Name _ _) [] [] _ => true
  | _ => false
def setish : Expr → Bool
  | .Set _ _ _ => true
  | _ => false
def opt2 {α β γ : Type} (a : Option α) (b : Option β) (f : α → β → γ) : Option γ := match a, b with
  | some x, some y => some (f x y)
  | _, _ => none
def opt3 {α β δ γ : Type} (a : Option α) (b : Option β) (d : Option δ) (f : α → β → δ → γ) : Option γ := match a, b, d with
  | some x, some y, some z => some (f x y z)
  | _, _, _ => none
def optLc (Γ : Gam) (scope : Scope) (own : Option (List (Str × Nat))) (p : Option Pt) (i c x : Option Ex) : Option Ex := match own, p, i, c, x with
  | some own, some p, some i, some c, some x => if blkC Γ.N Γ.sc scope own then some (.lc (own.map (·.2)) p i c x) else none
  | _, _, _, _, _ => none
mutual
def trE : Nat → Gam → Expr → Option Ex
  | 0, _, _ => none
  | n + 1, Γ, .Name x _ => if !plainName x then none else if visB Γ.sc x then (vix Γ.N x).map .var else if glB Γ.sc x then (Γ.cs.lookup x).map .con else none
  | n + 1, _, .Constant (.int i) _ _ => some (.con (.int i))
  | n + 1, _, .Constant (.bool b) _ _ => some (.con (.bl b))
  | n + 1, _, .Constant .none _ _ => some (.con .non)
  | n + 1, _, .Constant (.str x) _ _ => some (.con (.str x.cps.toList))
  | n + 1, Γ, .BinOp a op b _ => opt2 (trE n Γ a) (trE n Γ b) fun x y => .bin op x y
  | n + 1, Γ, .UnaryOp .USub a _ => (trE n Γ a).map .neg
  | n + 1, Γ, .UnaryOp .Not a _ => (trE n Γ a).map .not
  | n + 1, Γ, .BoolOp .And (a :: b :: []) _ => opt2 (trE n Γ a) (trE n Γ b) fun x y => .and x y
  | n + 1, Γ, .BoolOp .And (a :: b :: c :: r) p => opt2 (trE n Γ a) (trE n Γ (.BoolOp .And (b :: c :: r) p)) fun x y => .and x y
  | n + 1, Γ, .BoolOp .Or (a :: b :: []) _ => opt2 (trE n Γ a) (trE n Γ b) fun x y => .or x y
  | n + 1, Γ, .BoolOp .Or (a :: b :: c :: r) p => opt2 (trE n Γ a) (trE n Γ (.BoolOp .Or (b :: c :: r) p)) fun x y => .or x y
  | n + 1, Γ, .Compare a [op] [b] _ => if setish b then none else opt2 (trE n Γ a) (trE n Γ b) fun x y => .cmp op x y
  | n + 1, Γ, .Compare a [o1, o2] [b, c] _ => if setish b || setish c then none else opt3 (trE n Γ a) (trE n Γ b) (trE n Γ c) fun x y z => .chain o1 o2 x y z
  | n + 1, Γ, .IfExp c a b _ => opt3 (trE n Γ c) (trE n Γ a) (trE n Γ b) fun x y z => .ite x y z
  | n + 1, Γ, .Call (.Name f _) (a :: as) [] _ => if !plainName f || !glB Γ.sc f then none else
    if f = "isinstance" then (if Γ.bs.contains f && !starry a then opt2 (isiOf Γ as) (trE n Γ a) fun b x => .bi b (.cons x .nil) else none) else
    if Γ.bs.contains f then opt2 (biOf f) (trA n Γ (a :: as)) fun b xs => .bi b xs
    else opt2 (vix Γ.fs f) (trA n Γ (a :: as)) fun i xs => .call i xs
  | n + 1, Γ, .Call (.Attribute o m apos) as [] cpos => if superish o || !(apos.endLine == cpos.line) || !decide (as.length < 20) then none else
    opt3 (mtOf m) (trE n Γ o) (trA n Γ as) fun m x xs => .mt m x xs
  | n + 1, Γ, .Tuple es _ _ => (trA n Γ es).map .tup
  | n + 1, Γ, .List es _ => (trA n Γ es).map .lst
  | n + 1, Γ, .Subscript a (.Slice lo hi none _) _ => opt3 (trE n Γ a) (trO n Γ lo) (trO n Γ hi) fun x y z => .sl x y z
  | n + 1, Γ, .Subscript a b _ => if backB b then (trE n Γ a).map (fun x => .bi .rev (.cons x .nil)) else opt2 (trE n Γ a) (trE n Γ b) fun x y => .idx x y
  | n + 1, Γ, .ListComp e [⟨tg, it, ifs, 0⟩] scope _ => if setish it then none else optLc Γ scope (ownOf n Γ tg) (ptOf n (blk Γ scope) tg) (trI n Γ (tupleT tg) it) (trC n (blk Γ scope) ifs) (trE n (blk Γ scope) e)
  | n + 1, Γ, .JoinedStr (a :: b :: r) _ => (trJ n Γ (a :: b :: r)).map .fs
  | _, _, _ => none
def trA : Nat → Gam → List Expr → Option Ex
  | 0, _, _ => none
  | n + 1, _, [] => some .nil
  | n + 1, Γ, e :: es => if starry e then none else opt2 (trE n Γ e) (trA n Γ es) fun x y => .cons x y
def trJ : Nat → Gam → List Expr → Option Ex
  | 0, _, _ => none
  | n + 1, _, [] => some .nil
  | n + 1, Γ, .FormattedValue e (-1) none _ :: es => opt2 (trE n Γ e) (trJ n Γ es) fun x y => .cons x y
  | n + 1, Γ, .Constant (.str x) _ _ :: es => (trJ n Γ es).map (.cons (.con (.str x.cps.toList)))
  | _, _, _ => none
def trO : Nat → Gam → Option Expr → Option Ex
  | 0, _, _ => none
  | n + 1, _, none => some .nil
  | n + 1, Γ, some e => (trE n Γ e).map fun x => .cons x .nil
def trC : Nat → Gam → List Expr → Option Ex
  | 0, _, _ => none
  | n + 1, _, [] => some .nil
  | n + 1, Γ, [c] => (trE n Γ c).map fun x => .cons x .nil
  | _, _, _ => none
def trI : Nat → Gam → Bool → Expr → Option Ex
  | 0, _, _, _ => none
  | n + 1, Γ, tt, e => match e with
    | .Call (.Name f _) [a] [] _ =>
      if f = "range" then (if glB Γ.sc f && Γ.bs.contains f && !starry a then (trE n Γ a).map .iR1 else none)
      else if f = "enumerate" then (if tt && glB Γ.sc f && Γ.bs.contains f && !starry a then (trE n Γ a).map .iN else none)
      else (trE n Γ e).map .iE
    | .Call (.Name f _) [a, b] [] _ =>
      if f = "range" then (if glB Γ.sc f && Γ.bs.contains f && !starry a && !starry b then opt2 (trE n Γ a) (trE n Γ b) fun x y => .iR2 x y else none)
      else if f = "zip" then (if tt && glB Γ.sc f && Γ.bs.contains f && !starry a && !starry b then opt2 (trE n Γ a) (trE n Γ b) fun x y => .iZ x y else none)
      else (trE n Γ e).map .iE
    | _ => (trE n Γ e).map .iE
end
end G57
set_option Elab.async false
set_option linter.all false
set_option maxRecDepth 100000
set_option maxHeartbeats 400000
namespace G57
open PySem L2 PySem.Spec PyProof.Rows
structure FnG (P : Program) (w : World) (K : PySem.W.Frag) (mg : Str → Option Value) (base : Heap) (k : Nat) (f : Addr) (fd : FuncData) (ps : List Str) (sp : Sp) : Prop where
  len : ∀ vs H Q E, sp vs H Q E → vs.length = ps.length
  run : ∀ (A : Around) (outer : List Env) (s : Shared) (H : Hp) (args : Args) (us : List Value) (vs : List V) (Q : VK) (E : XK), Room k A → A.guards = some [] →
    Env0 P w K mg base A outer s H → BindsTo s fd args (ps.zip us) → Vals vs us → sp vs H Q E →
    codeAny (model P w) A (.call (.ref f) args) (CR CX0 outer P w H s Q E) s
theorem FnG.mono {P : Program} {w : World} {K : PySem.W.Frag} {mg : Str → Option Value} {base : Heap} {j k : Nat} {f : Addr} {fd : FuncData} {ps : List Str} {sp : Sp} (F : FnG P w K mg base j f fd ps sp) (h : j ≤ k) : FnG P w K mg base k f fd ps sp :=
  ⟨F.len, fun A outer s H args us vs Q E hr => F.run A outer s H args us vs Q E (hr.mono h)⟩
theorem fnG_of {P : Program} {w : World} {K : PySem.W.Frag} {mg : Str → Option Value} {base : Heap} {k : Nat} {x qual : Str} {st : Stmt} {f : Addr} {fd : FuncData} {N ps : List Str} {sp : Sp} (F : Fun K x qual st f fd) (S : FnScope N ps (defScope st))
    (len : ∀ vs H Q E, sp vs H Q E → vs.length = ps.length)
    (hbody : ∀ (cdv : Value) (A : Around) (outer : List Env) (s : Shared) (H : Hp) (vs : List V) (Q : VK) (E : XK), Room k (A.deeper (envOfC qual (defScope st) s.heap.objs.size f cdv)) → A.guards = some [] → sp vs H Q E →
      ∃ t, PSs (cxOf CX0 P w K mg base N qual (defScope st) f cdv A outer s H E).nox (defBody st) t ∧ t { nx := fun _ H' => Q .non H', rt := Q } (start N vs) H) : FnG P w K mg base (k + 1) f fd ps sp := by
  obtain ⟨oc, od, kV, doc, pm, an, cdv, ct, osl, rfl, lk, hcd⟩ := F.ex
  refine ⟨len, fun A outer s H args us vs Q E hr hg e0 hb r hsp => ?_⟩
  have hl := len _ _ _ _ hsp
  have keep0 : ∀ b o, base.get? b = some o → s.heap.get? b = some o :=
    fun b o e => (e0.bs b o e).1
  have KX : K.In s.heap := e0.mod.kin.keeps keep0
  have kinds : ∀ y ∈ ps.zip us, (defScope st).names.lookup y.1 = some .local ∨
      ((defScope st).names.lookup y.1 = some .cell ∧ ((cellsFrom (s.heap.objs.size + 1) (defScope st).names []).lookup y.1).isSome = true) := by
    intro ⟨n, v⟩ hy
    rcases S.par n (List.of_mem_zip hy).1 with q | q
    · exact .inl q
    · exact .inr ⟨q, PySem.W.cellsFrom_some _ _ _ (.inl q)⟩
  apply codeAny_call_function hr.depth (KX _ _ lk) rfl S.co S.gen rfl (PySem.W.codeRec_of KX hcd)
  refine hb _ _ _ _ (wpAny_newFunctionEnv_cells S.kind kinds fun env he s1 x => ?_)
  subst he
  refine ⟨(e0.mod.nolimit.keeps keep0).keeps x.toInCall.keep, codeAny_func ?_⟩
  obtain ⟨t, ht, hq⟩ := hbody cdv A outer s H vs Q E (hr.deeper _) hg hsp
  have I := inv_start (CX := CX0) (E := E) (w := w) S hr.hd e0 hl r x
  refine wpAny_mono (ht.nox.run [] s1 _ H _ I hq) (fun fl s' hs => ?_) fun e s' hs => hs
  cases fl with
  | ret u => obtain ⟨v, σ', H', J, rv, q⟩ := hs; exact ⟨v, H', J.os, J.bare, J.base, J.hok, rv, q⟩
  | next => obtain ⟨σ', H', J, q⟩ := hs; exact ⟨.non, H', J.os, J.bare, J.base, J.hok, rfl, q⟩
  | brk => obtain ⟨_, _, _, q⟩ := hs; exact False.elim q
  | cont => obtain ⟨_, _, _, q⟩ := hs; exact False.elim q
section
variable {X : Cx} {pos : Pos}
theorem pe_callG {k : Nat} {f : Addr} {fd : FuncData} {ps : List Str} {sp : Sp} {x : Str} {p : Pos} {e : Expr} {es : List Expr} {t : TA} (F : FnG X.prog X.w X.K X.mg X.base k f fd ps sp) (hr : Room k X.A) (hgd : X.A.guards = some [])
    (hg : Gl X x) (hm : X.mg x = some (.ref f)) (hk : PySem.W.keepIn X.K (.ref f) = true) (hb : Binds X.K fd ps []) (ha : PA X (e :: es) t) (hdb : (x == ("__debug__" : Str)) = false)
    (he : starEach (e :: es) X.env = (false, eval e X.env) :: starEach es X.env) (hpl : (backTo pos (starEach es X.env)).any (·.1) = false) : PE X (.Call (.Name x p) (e :: es) [] pos) (tCall sp [] E0 t) := by
  refine ⟨fun pins s σ H Q I h => wpAny_Call_Name_kw (ld_glob I hg hm ?_ hdb)⟩
  refine PySem.W.callWith_K (h₀ := X.base) I.ok.mod.kin hk (thn (ha.run pos pins s σ H _ I h) fun us s1 ⟨vs, H1, I1, r, q⟩ => ⟨I1.kIn, ?_⟩) he hpl
  have q' : sp vs H1 Q E0 := by have z : sp (vs ++ []) H1 Q E0 := q; rwa [List.append_nil] at z
  have hl : us.length = ps.length := by rw [← r.length]; exact F.len _ _ _ _ q'
  have b := hb s1 us I1.kIn (by rw [List.append_nil]; exact hl)
  rw [List.append_nil] at b
  refine wpAny_call (codeAny_mono (F.run X.A X.stack s1 H1 ⟨us, []⟩ us vs Q E0 hr hgd I1.env0 b r q') fun r s' hq => ?_)
  match r, hq with
  | .error e, hq => exact hq.elim
  | .ok (.ret u), hq => exact I1.after hq
  | .ok .next, hq => exact hq.elim
  | .ok .brk, hq => exact hq.elim
  | .ok .cont, hq => exact hq.elim
def liftSp (K : PySem.W.Frag) (n : Nat) (sp : Spec) : Sp := fun vs H Q _ => vs.length = n ∧ ∃ ds S Qd, Reps K H ds vs ∧ StoOk K H S ∧ sp ds S Qd ∧ Lv K H Qd Q
variable {a b c e : Expr} {es : List Expr} {ta tb tc te : TD} {tA tB : TBD} {t : TAD}
theorem q_call {k : Nat} {f : Addr} {fd : FuncData} {ps : List Str} {sp : Spec} {x : Str} {p : Pos} (F : FnG X.prog X.w X.K X.mg X.base k f fd ps (liftSp X.K ps.length sp)) (hr : Room k X.A) (hgd : X.A.guards = some [])
    (hlen : ∀ ds S Q, sp ds S Q → ds.length = ps.length)
    (hg : Gl X x) (hm : X.mg x = some (.ref f)) (hk : PySem.W.keepIn X.K (.ref f) = true) (hb : Binds X.K fd ps []) (ha : QA X (e :: es) t) (hdb : (x == ("__debug__" : Str)) = false)
    (he : starEach (e :: es) X.env = (false, eval e X.env) :: starEach es X.env) (hpl : (backTo pos (starEach es X.env)).any (·.1) = false) :
    QE X (.Call (.Name x p) (e :: es) [] pos) (fun env S Q => t env S fun ds S1 => sp ds S1 Q) :=
  (pe_callG F hr hgd hg hm hk hb ha hdb he hpl).weak fun σ H Q ⟨env, S, Qd, re, so, h, l⟩ =>
    ⟨env, S, _, re, so, h, fun ds S1 vs H1 h1 k1 r1 s1 => ⟨by rw [List.append_nil, ← r1.length]; exact hlen _ _ _ h1, ds, S1, Qd, by rw [List.append_nil]; exact r1, s1, h1, l.keep k1⟩⟩
theorem truth_tru {K : PySem.W.Frag} {H : Hp} {S : Sto} (so : StoOk K H S) {d : D} {v : V} {Qb : Bool → Prop} (r : Rep K H d v) (h : truthD d S Qb) : ∃ b, TruV K v H b ∧ Qb b := by
  cases d with
  | str x => exact ⟨_, truD_ok so r rfl (fun y e => by cases e; exact h.1), h.2⟩
  | _ => obtain ⟨b, e, q⟩ := h; exact ⟨b, truD_ok so r e (fun y e => by cases e), q⟩
theorem q_neg (ha : QE X a ta) : QE X (.UnaryOp .USub a pos) (fun env S Q => ta env S fun x S1 => negD x S1 Q) :=
  (pe_un un_neg ha).weak fun σ H Q ⟨env, S, Qd, re, so, h, l⟩ => ⟨env, S, _, re, so, h, fun x S1 v H1 h1 k1 r1 s1 => by
    cases x <;> try exact h1.elim
    rename_i i
    simp only [Rep] at r1
    exact ⟨i, r1, l _ S1 _ H1 h1 k1 .int s1⟩⟩
theorem q_not (ha : QE X a ta) : QE X (.UnaryOp .Not a pos) (fun env S Q => ta env S fun x S1 => truthD x S1 fun b => Q (.bl (!b)) S1) :=
  (pe_notT ha).weak fun σ H Q ⟨env, S, Qd, re, so, h, l⟩ => ⟨env, S, _, re, so, h, fun x S1 v H1 h1 k1 r1 s1 =>
    let ⟨b, q, z⟩ := truth_tru s1 r1 h1; ⟨b, q, l _ S1 _ H1 z k1 .bl s1⟩⟩
theorem q_and {rest : List Expr} (ha : QE X a ta) (hb : QE X (.BoolOp .And (b :: rest) pos) tb) :
    QE X (.BoolOp .And (a :: b :: rest) pos) (fun env S Q => ta env S fun x S1 => truthD x S1 fun t => if t = true then tb env S1 Q else Q x S1) :=
  (pe_andT ha hb).weak fun σ H Q ⟨env, S, Qd, re, so, h, l⟩ => ⟨env, S, _, re, so, h, fun x S1 v H1 h1 k1 r1 s1 => by
    obtain ⟨t, q, z⟩ := truth_tru s1 r1 h1
    refine ⟨t, q, ?_⟩
    cases t with
    | true => exact ⟨env, S1, Qd, re.mono k1, s1, z, l.keep k1⟩
    | false => exact l _ S1 _ H1 z k1 r1 s1⟩
theorem q_or {rest : List Expr} (ha : QE X a ta) (hb : QE X (.BoolOp .Or (b :: rest) pos) tb) :
    QE X (.BoolOp .Or (a :: b :: rest) pos) (fun env S Q => ta env S fun x S1 => truthD x S1 fun t => if t = true then Q x S1 else tb env S1 Q) :=
  (pe_orT ha hb).weak fun σ H Q ⟨env, S, Qd, re, so, h, l⟩ => ⟨env, S, _, re, so, h, fun x S1 v H1 h1 k1 r1 s1 => by
    obtain ⟨t, q, z⟩ := truth_tru s1 r1 h1
    refine ⟨t, q, ?_⟩
    cases t with
    | false => exact ⟨env, S1, Qd, re.mono k1, s1, z, l.keep k1⟩
    | true => exact l _ S1 _ H1 z k1 r1 s1⟩
theorem q_ite (hc : QT X c tA) (ha : QE X a ta) (hb : QE X b tb) : QE X (.IfExp c a b pos) (fun env S Q => tA env S fun t S1 => if t = true then ta env S1 Q else tb env S1 Q) :=
  (pe_ifExp hc ha hb).weak fun σ H Q ⟨env, S, Qd, re, so, h, l⟩ => ⟨env, S, _, re, so, h, fun t S1 H1 h1 k1 s1 => by
    cases t with
    | true => exact ⟨env, S1, Qd, re.mono k1, s1, h1, l.keep k1⟩
    | false => exact ⟨env, S1, Qd, re.mono k1, s1, h1, l.keep k1⟩⟩
theorem q_chain {o1 o2 : CmpOp} (hu : X.A.units + 64 < cLine) (ha : QE X a ta) (hb : QE X b tb) (hc : QE X c tc) (hm : lastMarks [o1, o2] [b, c] = false) :
    QE X (.Compare a [o1, o2] [b, c] pos) (fun env S Q => ta env S fun x S1 => tb env S1 fun y S2 => cmpD o1 x y S2 fun z S3 => ∃ k, z = .bl k ∧
      (if k = true then tc env S3 fun w S4 => cmpD o2 y w S4 Q else Q (.bl false) S3)) :=
  (pe_chain (cmpD_ok hu o1) (cmpD_ok hu o2) ha hb hc hm).weak fun σ H Q ⟨env, S, Qd, re, so, h, l⟩ => ⟨env, S, _, re, so, h, fun x S1 v H1 h1 k1 r1 s1 =>
    ⟨env, S1, _, re.mono k1, s1, h1, fun y S2 u H2 h2 k2 r2 s2 => ⟨x, y, S2, _, r1.mono k2, r2, s2, h2, fun z S3 w H3 h3 k3 r3 s3 => by
      obtain ⟨k, rfl, h3⟩ := h3
      simp only [Rep] at r3
      refine ⟨k, r3, ?_⟩
      cases k with
      | true => exact ⟨env, S3, _, re.mono (k1.trans (k2.trans k3)), s3, h3, fun w S4 u' H4 h4 k4 r4 s4 => ⟨y, w, S4, Qd, r2.mono (k3.trans k4), r4, s4, h4, l.keep (k1.trans (k2.trans (k3.trans k4)))⟩⟩
      | false => exact l _ S3 _ H3 h3 (k1.trans (k2.trans k3)) .bl s3⟩⟩⟩
theorem q_tup {k1 : Nat} (h : QA X es t) : QE X (.Tuple es k1 pos) (fun env S Q => t env S fun ds S1 => ds.length ≤ 16777216 ∧ Q (.tup ds) S1) :=
  (pe_tup h).weak fun σ H Q ⟨env, S, Qd, re, so, h, l⟩ => ⟨env, S, _, re, so, h, fun ds S1 vs H1 h1 k1 r1 s1 =>
    ⟨by rw [← r1.length, szl]; exact h1.1, fun p hp => (l.keep k1).tup s1 h1.2 r1 p hp⟩⟩
theorem q_lst (h : QA X es t) : QE X (.List es pos) (fun env S Q => t env S fun ds S1 => ds.length ≤ 16777216 ∧ ∀ p, S1 p = none → Q (.ref p) (put S1 p (.lst ds))) :=
  (pe_lst h).weak fun σ H Q ⟨env, S, Qd, re, so, h, l⟩ => ⟨env, S, _, re, so, h, fun ds S1 vs H1 h1 k1 r1 s1 =>
    ⟨by rw [← r1.length, szl]; exact h1.1, fun p hp => (l.keep k1).lst s1 h1.2 r1 p hp⟩⟩
theorem q_idx (ha : QE X a ta) (hb : QE X b tb) (hs : PlainIx b) : QE X (.Subscript a b pos) (fun env S Q => ta env S fun x S1 => tb env S1 fun y S2 => idxD x y S2 Q) :=
  (pe_ix idxD_ok ha hb hs).weak fun σ H Q ⟨env, S, Qd, re, so, h, l⟩ =>
    ⟨env, S, _, re, so, h, fun x S1 v H1 h1 k1 r1 s1 => ⟨env, S1, _, re.mono k1, s1, h1, fun y S2 u H2 h2 k2 r2 s2 =>
      ⟨x, y, S2, Qd, r1.mono k2, r2, s2, h2, l.keep (k1.trans k2)⟩⟩⟩
abbrev TOD := En → Sto → (Option Int → Sto → Prop) → Prop
def liftO (K : PySem.W.Frag) (t : TOD) : TO := fun σ H Q => ∃ env S, ∃ Qd : Option Int → Sto → Prop, RelE K H env σ ∧ StoOk K H S ∧ t env S Qd ∧ ∀ o S' H', Qd o S' → Keep H H' → StoOk K H' S' → Q o H'
theorem PO.weak' {o : Option Expr} {t t' : TO} (h : PO X o t) (w : ∀ σ H Q, t' σ H Q → t σ H Q) : PO X o t' := ⟨fun pins s σ H Q I q => h.run pins s σ H Q I (w σ H Q q)⟩
theorem q_on : PO X none (liftO X.K fun _ S Q => Q none S) := PO.weak' po_none fun σ H Q ⟨env, S, Qd, re, so, h, l⟩ => l none S H h .refl so
theorem q_os (he : QE X e te) : PO X (some e) (liftO X.K fun env S Q => te env S fun x S1 => ∃ i, x = .int i ∧ Q (some i) S1) :=
  PO.weak' (po_some he) fun σ H Q ⟨env, S, Qd, re, so, h, l⟩ => ⟨env, S, _, re, so, h, fun x S1 v H1 h1 k1 r1 s1 => by
    obtain ⟨i, rfl, h1⟩ := h1
    simp only [Rep] at r1
    exact ⟨i, r1, l _ S1 H1 h1 k1 s1⟩⟩
theorem q_sl {lo hi : Option Expr} {tl th : TOD} {p2 : Pos} (ha : QE X a ta) (hl : PO X lo (liftO X.K tl)) (hh : PO X hi (liftO X.K th)) :
    QE X (.Subscript a (.Slice lo hi none p2) pos) (fun env S Q => ta env S fun x S1 => tl env S1 fun l S2 => th env S2 fun h S3 => slD x l h S3 Q) :=
  (pe_slice slD_ok ha hl hh).weak fun σ H Q ⟨env, S, Qd, re, so, h, l⟩ =>
    ⟨env, S, _, re, so, h, fun x S1 v H1 h1 k1 r1 s1 => ⟨env, S1, _, re.mono k1, s1, h1, fun o S2 H2 h2 k2 s2 => ⟨env, S2, _, re.mono (k1.trans k2), s2, h2, fun o' S3 H3 h3 k3 s3 =>
      ⟨x, S3, Qd, r1.mono (k2.trans k3), s3, h3, l.keep (k1.trans (k2.trans k3))⟩⟩⟩⟩
end
end G57
set_option Elab.async false
set_option linter.all false
set_option maxRecDepth 100000
set_option maxHeartbeats 400000
namespace G57
open PySem L2 PySem.Spec PyProof.Rows
theorem _root_.L2.PW.weak {X : Cx} {e : Expr} {t t' : TT} (h : PW X e t) (w : ∀ σ H Q, t' σ H Q → t σ H Q) : PW X e t' := ⟨fun wh pins s σ H Q I q => h.run wh pins s σ H Q I (w σ H Q q)⟩
theorem _root_.L2.PI.weak {X : Cx} {tg e : Expr} {t t' : TI} (h : PI X tg e t) (w : ∀ σ H Q, t' σ H Q → t σ H Q) : PI X tg e t' := ⟨fun pins s σ H Q I q => h.run pins s σ H Q I (w σ H Q q)⟩
abbrev QW (X : Cx) (e : Expr) (t : TBD) : Prop := PW X e (liftT X.K t)
section
variable {X : Cx} {pos : Pos} {a b c e : Expr} {es rest : List Expr} {ta tb tc te : TD} {tA tB : TBD} {t : TAD}
theorem qt_not (ha : QT X a tA) : QT X (.UnaryOp .Not a pos) (fun env S Q => tA env S fun b S1 => Q (!b) S1) :=
  (pt_not ha).weak fun σ H Q ⟨env, S, Qd, re, so, h, l⟩ => ⟨env, S, _, re, so, h, fun b S1 H1 h1 k1 s1 => l _ S1 H1 h1 k1 s1⟩
theorem qw_and1 (ha : QT X a tA) : QW X (.BoolOp .And [a] pos) tA := pw_and1 ha
theorem qw_or1 (ha : QT X a tA) : QW X (.BoolOp .Or [a] pos) tA := pw_or1 ha
theorem qw_and (ha : QT X a tA) (hb : QW X (.BoolOp .And (b :: rest) pos) tB) : QW X (.BoolOp .And (a :: b :: rest) pos) (fun env S Q => tA env S fun t S1 => if t = true then tB env S1 Q else Q false S1) :=
  (pw_and ha hb).weak fun σ H Q ⟨env, S, Qd, re, so, h, l⟩ => ⟨env, S, _, re, so, h, fun t S1 H1 h1 k1 s1 => by
    cases t with
    | true => exact ⟨env, S1, Qd, re.mono k1, s1, h1, fun b S2 H2 h2 k2 s2 => l b S2 H2 h2 (k1.trans k2) s2⟩
    | false => exact l _ S1 H1 h1 k1 s1⟩
theorem qw_or (ha : QT X a tA) (hb : QW X (.BoolOp .Or (b :: rest) pos) tB) : QW X (.BoolOp .Or (a :: b :: rest) pos) (fun env S Q => tA env S fun t S1 => if t = true then Q true S1 else tB env S1 Q) :=
  (pw_or ha hb).weak fun σ H Q ⟨env, S, Qd, re, so, h, l⟩ => ⟨env, S, _, re, so, h, fun t S1 H1 h1 k1 s1 => by
    cases t with
    | false => exact ⟨env, S1, Qd, re.mono k1, s1, h1, fun b S2 H2 h2 k2 s2 => l b S2 H2 h2 (k1.trans k2) s2⟩
    | true => exact l _ S1 H1 h1 k1 s1⟩
theorem qt_cmp {op : CmpOp} (hu : X.A.units + 64 < cLine) (ha : QE X a ta) (hb : QE X b tb) (hm : behindInMarks op b = false) :
    QT X (.Compare a [op] [b] pos) (fun env S Q => ta env S fun x S1 => tb env S1 fun y S2 => cmpD op x y S2 fun z S3 => ∃ k, z = .bl k ∧ Q k S3) :=
  (pt_cmpR (cmpD_ok hu op) ha hb hm).weak fun σ H Q ⟨env, S, Qd, re, so, h, l⟩ =>
    ⟨env, S, _, re, so, h, fun x S1 v H1 h1 k1 r1 s1 => ⟨env, S1, _, re.mono k1, s1, h1, fun y S2 u H2 h2 k2 r2 s2 =>
      ⟨x, y, S2, _, r1.mono k2, r2, s2, h2, fun z S3 w H3 h3 k3 r3 s3 => by
        obtain ⟨k, rfl, h3⟩ := h3
        simp only [Rep] at r3
        exact ⟨k, r3, l _ S3 H3 h3 (k1.trans (k2.trans k3)) s3⟩⟩⟩⟩
theorem qt_chain {o1 o2 : CmpOp} (hu : X.A.units + 64 < cLine) (ha : QE X a ta) (hb : QE X b tb) (hc : QE X c tc) (hm : lastMarks [o1, o2] [b, c] = false) :
    QT X (.Compare a [o1, o2] [b, c] pos) (fun env S Q => ta env S fun x S1 => tb env S1 fun y S2 => cmpD o1 x y S2 fun z S3 => ∃ k, z = .bl k ∧
      (if k = true then tc env S3 fun w S4 => cmpD o2 y w S4 fun z S5 => ∃ k, z = .bl k ∧ Q k S5 else Q false S3)) :=
  (pt_chain (cmpD_ok hu o1) (cmpD_ok hu o2) ha hb hc hm).weak fun σ H Q ⟨env, S, Qd, re, so, h, l⟩ => ⟨env, S, _, re, so, h, fun x S1 v H1 h1 k1 r1 s1 =>
    ⟨env, S1, _, re.mono k1, s1, h1, fun y S2 u H2 h2 k2 r2 s2 => ⟨x, y, S2, _, r1.mono k2, r2, s2, h2, fun z S3 w H3 h3 k3 r3 s3 => by
      obtain ⟨k, rfl, h3⟩ := h3
      simp only [Rep] at r3
      refine ⟨k, r3, ?_⟩
      cases k with
      | true => exact ⟨env, S3, _, re.mono (k1.trans (k2.trans k3)), s3, h3, fun w S4 u' H4 h4 k4 r4 s4 => ⟨y, w, S4, _, r2.mono (k3.trans k4), r4, s4, h4, fun z S5 w' H5 h5 k5 r5 s5 => by
          obtain ⟨k, rfl, h5⟩ := h5
          simp only [Rep] at r5
          exact ⟨k, r5, l _ S5 H5 h5 (k1.trans (k2.trans (k3.trans (k4.trans k5)))) s5⟩⟩⟩
      | false => exact ⟨false, rfl, l _ S3 H3 h3 (k1.trans (k2.trans k3)) s3⟩⟩⟩⟩
theorem qt_truth (ha : QE X a ta) (he : ∀ whole, isTrue a X.env whole = (do let v ← whole; standAt a.pos; holding [v] (truthy v))) : QT X a (fun env S Q => ta env S fun d S1 => truthD d S1 fun b => Q b S1) :=
  (pt_truth ha he).weak fun σ H Q ⟨env, S, Qd, re, so, h, l⟩ => ⟨env, S, _, re, so, h, fun x S1 v H1 h1 k1 r1 s1 =>
    let ⟨b, q, z⟩ := truth_tru s1 r1 h1; ⟨b, q, l _ S1 H1 z k1 s1⟩⟩
theorem q_b {id : String} {r : RLD} {x : Str} {p : Pos} (hc : CallR X (.builtin id) (liftRL X.K r)) (hg : Gl X x) (hm : X.mg x = none) (hv : bootBuiltins x = some (.builtin id)) (ha : QA X (e :: es) t) (hn : x ≠ "__name__") (hdb : (x == ("__debug__" : Str)) = false)
    (he : starEach (e :: es) X.env = (false, eval e X.env) :: starEach es X.env) (hpl : (backTo pos (starEach es X.env)).any (·.1) = false) : QE X (.Call (.Name x p) (e :: es) [] pos) (fun env S Q => t env S fun ds S1 => r ds S1 Q) :=
  (pe_callB hc hg hm hv ha hn hdb he hpl).weak fun σ H Q ⟨env, S, Qd, re, so, h, l⟩ => ⟨env, S, _, re, so, h, fun ds S1 vs H1 h1 k1 r1 s1 => ⟨ds, S1, Qd, r1, s1, h1, l.keep k1⟩⟩
theorem q_ty {id : String} {r : RLD} {x : Str} {p : Pos} (hc : CallR X (.type id) (liftRL X.K r)) (hg : Gl X x) (hm : X.mg x = none) (hv : bootBuiltins x = some (.type id)) (ha : QA X (e :: es) t) (hn : x ≠ "__name__") (hdb : (x == ("__debug__" : Str)) = false)
    (he : starEach (e :: es) X.env = (false, eval e X.env) :: starEach es X.env) (hpl : (backTo pos (starEach es X.env)).any (·.1) = false) : QE X (.Call (.Name x p) (e :: es) [] pos) (fun env S Q => t env S fun ds S1 => r ds S1 Q) :=
  (pe_callTy hc hg hm hv ha hn hdb he hpl).weak fun σ H Q ⟨env, S, Qd, re, so, h, l⟩ => ⟨env, S, _, re, so, h, fun ds S1 vs H1 h1 k1 r1 s1 => ⟨ds, S1, Qd, r1, s1, h1, l.keep k1⟩⟩
theorem bt_len : bootBuiltins "len" = some (.builtin "len") := by decide +kernel
theorem bt_sum : bootBuiltins "sum" = some (.builtin "sum") := by decide +kernel
theorem bt_any : bootBuiltins "any" = some (.builtin "any") := by decide +kernel
theorem bt_all : bootBuiltins "all" = some (.builtin "all") := by decide +kernel
theorem bt_abs : bootBuiltins "abs" = some (.builtin "abs") := by decide +kernel
theorem bt_min : bootBuiltins "min" = some (.builtin "min") := by decide +kernel
theorem bt_max : bootBuiltins "max" = some (.builtin "max") := by decide +kernel
theorem bt_repr : bootBuiltins "repr" = some (.builtin "repr") := by decide +kernel
theorem bt_int : bootBuiltins "int" = some (.type "int") := by decide +kernel
theorem bt_str : bootBuiltins "str" = some (.type "str") := by decide +kernel
theorem bt_tuple : bootBuiltins "tuple" = some (.type "tuple") := by decide +kernel
theorem bt_list : bootBuiltins "list" = some (.type "list") := by decide +kernel
theorem biOf_inv {x : Str} {f : Bi} (h : biOf x = some f) : (x = "len" ∧ f = .len) ∨ (x = "sum" ∧ f = .sum) ∨ (x = "any" ∧ f = .any) ∨ (x = "all" ∧ f = .all) ∨ (x = "abs" ∧ f = .abs) ∨ (x = "min" ∧ f = .min) ∨ (x = "max" ∧ f = .max) ∨ (x = "repr" ∧ f = .repr) ∨ (x = "int" ∧ f = .int) ∨ (x = "str" ∧ f = .str) ∨ (x = "tuple" ∧ f = .tuple) ∨ (x = "list" ∧ f = .list) := by
  unfold biOf at h
  by_cases e0 : x = "len"
  · rw [if_pos e0] at h; cases h; exact Or.inl ⟨e0, rfl⟩
  rw [if_neg e0] at h
  by_cases e1 : x = "sum"
  · rw [if_pos e1] at h; cases h; exact Or.inr (Or.inl ⟨e1, rfl⟩)
  rw [if_neg e1] at h
  by_cases e2 : x = "any"
  · rw [if_pos e2] at h; cases h; exact Or.inr (Or.inr (Or.inl ⟨e2, rfl⟩))
  rw [if_neg e2] at h
  by_cases e3 : x = "all"
  · rw [if_pos e3] at h; cases h; exact Or.inr (Or.inr (Or.inr (Or.inl ⟨e3, rfl⟩)))
  rw [if_neg e3] at h
  by_cases e4 : x = "abs"
  · rw [if_pos e4] at h; cases h; exact Or.inr (Or.inr (Or.inr (Or.inr (Or.inl ⟨e4, rfl⟩))))
  rw [if_neg e4] at h
  by_cases e5 : x = "min"
  · rw [if_pos e5] at h; cases h; exact Or.inr (Or.inr (Or.inr (Or.inr (Or.inr (Or.inl ⟨e5, rfl⟩)))))
  rw [if_neg e5] at h
  by_cases e6 : x = "max"
  · rw [if_pos e6] at h; cases h; exact Or.inr (Or.inr (Or.inr (Or.inr (Or.inr (Or.inr (Or.inl ⟨e6, rfl⟩))))))
  rw [if_neg e6] at h
  by_cases e7 : x = "repr"
  · rw [if_pos e7] at h; cases h; exact Or.inr (Or.inr (Or.inr (Or.inr (Or.inr (Or.inr (Or.inr (Or.inl ⟨e7, rfl⟩)))))))
  rw [if_neg e7] at h
  by_cases e8 : x = "int"
  · rw [if_pos e8] at h; cases h; exact Or.inr (Or.inr (Or.inr (Or.inr (Or.inr (Or.inr (Or.inr (Or.inr (Or.inl ⟨e8, rfl⟩))))))))
  rw [if_neg e8] at h
  by_cases e9 : x = "str"
  · rw [if_pos e9] at h; cases h; exact Or.inr (Or.inr (Or.inr (Or.inr (Or.inr (Or.inr (Or.inr (Or.inr (Or.inr (Or.inl ⟨e9, rfl⟩)))))))))
  rw [if_neg e9] at h
  by_cases e10 : x = "tuple"
  · rw [if_pos e10] at h; cases h; exact Or.inr (Or.inr (Or.inr (Or.inr (Or.inr (Or.inr (Or.inr (Or.inr (Or.inr (Or.inr (Or.inl ⟨e10, rfl⟩))))))))))
  rw [if_neg e10] at h
  by_cases e11 : x = "list"
  · rw [if_pos e11] at h; cases h; exact Or.inr (Or.inr (Or.inr (Or.inr (Or.inr (Or.inr (Or.inr (Or.inr (Or.inr (Or.inr (Or.inr (⟨e11, rfl⟩)))))))))))
  rw [if_neg e11] at h
  cases h
theorem q_bi {f : Bi} {x : Str} {p : Pos} (hcalm : X.calm = true) (hgd : X.A.guards = some []) (hu : X.A.units + 64 < cLine) (hf : biOf x = some f) (hg : Gl X x) (hm : X.mg x = none) (ha : QA X (e :: es) t) (hn : x ≠ "__name__") (hdb : (x == ("__debug__" : Str)) = false)
    (he : starEach (e :: es) X.env = (false, eval e X.env) :: starEach es X.env) (hpl : (backTo pos (starEach es X.env)).any (·.1) = false) : QE X (.Call (.Name x p) (e :: es) [] pos) (fun env S Q => t env S fun ds S1 => biD f ds S1 Q) := by
  rcases biOf_inv hf with ⟨rfl, rfl⟩ | ⟨rfl, rfl⟩ | ⟨rfl, rfl⟩ | ⟨rfl, rfl⟩ | ⟨rfl, rfl⟩ | ⟨rfl, rfl⟩ | ⟨rfl, rfl⟩ | ⟨rfl, rfl⟩ | ⟨rfl, rfl⟩ | ⟨rfl, rfl⟩ | ⟨rfl, rfl⟩ | ⟨rfl, rfl⟩
  · exact q_b lenD_ok hg hm bt_len ha hn hdb he hpl
  · exact q_b (sumD_ok hcalm) hg hm bt_sum ha hn hdb he hpl
  · exact q_b (anyD_ok hcalm) hg hm bt_any ha hn hdb he hpl
  · exact q_b (allD_ok hcalm) hg hm bt_all ha hn hdb he hpl
  · exact q_b absD_ok hg hm bt_abs ha hn hdb he hpl
  · exact q_b (minD_ok hcalm) hg hm bt_min ha hn hdb he hpl
  · exact q_b (maxD_ok hcalm) hg hm bt_max ha hn hdb he hpl
  · exact q_b (reprD_ok hgd hu) hg hm bt_repr ha hn hdb he hpl
  · exact q_ty intD_ok hg hm bt_int ha hn hdb he hpl
  · exact q_ty strD_ok hg hm bt_str ha hn hdb he hpl
  · exact q_ty tupleD_ok hg hm bt_tuple ha hn hdb he hpl
  · exact q_ty listD_ok hg hm bt_list ha hn hdb he hpl
def mtT : Mt → String
  | .join | .count => "str"
  | _ => "list"
theorem ty_of {m : Mt} {T : String} {K : PySem.W.Frag} {H : Hp} {S : Sto} (so : StoOk K H S) {d : D} {v : V} (r : Rep K H d v) (h : mtTy m d S) (hT : T = mtT m) : tyV K T v H := by
  subst hT
  cases m <;> cases d <;> try exact h.elim
  case join.str => simp only [Rep] at r; subst r; rfl
  case count.str => simp only [Rep] at r; subst r; rfl
  all_goals
    simp only [Rep] at r; subst r
    obtain ⟨ds, e⟩ := h
    obtain ⟨vs, q, _⟩ := so _ _ e
    exact Or.inl ⟨rfl, vs, Or.inl (Or.inl q)⟩
theorem q_m1 {m : Mt} {T id : String} {name : Str} {apos : Pos} {o : Expr} {to : TD} (pa : PlainAttrs T) (slot : Slot T name id) (hty : typeOf (.builtin id) = pure (.type "method_descriptor")) (hm : MtR X id (liftM X.K (mtD m)))
    (hT : T = mtT m) (ho : QE X o to) (ha : QA X (e :: es) t) (hbase : attributeBase o name X.env (eval o X.env) = eval o X.env)
    (hfew : ((backTo pos (starEach (e :: es) X.env)).all (fun x => !x.1) && (backToKw pos (keywordEach [] X.env)).all (fun x => x.1.isSome) && decide ((e :: es).length + ([] : List Keyword).length + (if ([] : List Keyword).isEmpty then 0 else 1) < 30)) = true)
    (hline : (apos.endLine == pos.line) = true) (hs : starEach (e :: es) X.env = (false, eval e X.env) :: starEach es X.env) (hplain : (backTo pos (starEach es X.env)).any (·.1) = false) :
    QE X (.Call (.Attribute o name apos) (e :: es) [] pos) (fun env S Q => to env S fun x S1 => mtTy m x S1 ∧ t env S1 fun ds S2 => mtD m x ds S2 Q) :=
  (pe_bm pa slot hty hm ho ha hbase hfew hline hs hplain).weak fun σ H Q ⟨env, S, Qd, re, so, h, l⟩ =>
    ⟨env, S, _, re, so, h, fun x S1 v H1 h1 k1 r1 s1 => ⟨ty_of s1 r1 h1.1 hT, env, S1, _, re.mono k1, s1, h1.2, fun ds S2 vs H2 h2 k2 r2 s2 => ⟨x, ds, S2, Qd, r1.mono k2, r2, s2, h2, l.keep (k1.trans k2)⟩⟩⟩
theorem q_m0 {m : Mt} {T id : String} {name : Str} {apos : Pos} {o : Expr} {to : TD} (pa : PlainAttrs T) (slot : Slot T name id) (hty : typeOf (.builtin id) = pure (.type "method_descriptor")) (hm : MtR X id (liftM X.K (mtD m)))
    (hT : T = mtT m) (ho : QE X o to) (hbase : attributeBase o name X.env (eval o X.env) = eval o X.env) (hline : (apos.endLine == pos.line) = true) :
    QE X (.Call (.Attribute o name apos) [] [] pos) (fun env S Q => to env S fun x S1 => mtTy m x S1 ∧ mtD m x [] S1 Q) :=
  (pe_bm0 pa slot hty hm ho hbase hline).weak fun σ H Q ⟨env, S, Qd, re, so, h, l⟩ =>
    ⟨env, S, _, re, so, h, fun x S1 v H1 h1 k1 r1 s1 => ⟨ty_of s1 r1 h1.1 hT, x, [], S1, Qd, r1, .nil, s1, h1.2, l.keep k1⟩⟩
abbrev TID := En → Sto → IK → Prop
def Drv (K : PySem.W.Frag) (H0 : Hp) (J : It) (xs : List D) (G : Sto → Prop) : Prop := ∀ H S (i : Nat), Keep H0 H → StoOk K H S → G S →
  (∀ d, xs[i]? = some d → J.go i H ∧ ∀ v H', J.yld i H v H' → Keep H H' ∧ StoOk K H' S ∧ Rep K H' d v) ∧ (i = xs.length → J.stop i H)
def liftI (K : PySem.W.Frag) (t : TID) : TI := fun σ H R => ∃ env S, ∃ Kd : IK, RelE K H env σ ∧ StoOk K H S ∧ t env S Kd ∧
  ∀ xs G S' J H', Kd xs G S' → Keep H H' → StoOk K H' S' → G S' → Drv K H' J xs G → R J H'
abbrev QI (X : Cx) (tg it : Expr) (t : TID) : Prop := PI X tg it (liftI X.K t)
theorem drv_list {K : PySem.W.Frag} {H0 : Hp} {a : Addr} {xs : List D} {G : Sto → Prop} (h : ∀ H S, Keep H0 H → StoOk K H S → G S → ∃ vs, SqL K H a vs ∧ Reps K H xs vs) : Drv K H0 (Itl K a) xs G := fun H S i k so g => by
  obtain ⟨vs, q, r⟩ := h H S k so g
  refine ⟨fun d e => ?_, fun e => ⟨vs, q, by rw [e, r.length]; exact Nat.le_refl _⟩⟩
  obtain ⟨v, e2, rv⟩ := r.get e
  refine ⟨⟨vs, v, q, e2⟩, fun w H' y => ?_⟩
  obtain ⟨rfl, y⟩ := y
  have := y vs q
  rw [e2] at this; cases this
  exact ⟨.refl, so, rv⟩
end
end G57
set_option Elab.async false
set_option linter.all false
set_option maxRecDepth 100000
set_option maxHeartbeats 400000
namespace G57
open PySem L2 PySem.Spec PyProof.Rows
section
variable {K : PySem.W.Frag} {H0 : Hp} {G : Sto → Prop}
theorem drv_tup {a : Addr} {xs : List D} {vs : List V} (q : SqT K H0 a vs) (r : Reps K H0 xs vs) : Drv K H0 (Itt K a) xs G := fun H S i k so g => by
  refine ⟨fun d e => ?_, fun e => ⟨vs, k.sqt q, by rw [e, r.length]; exact Nat.le_refl _⟩⟩
  obtain ⟨v, e2, rv⟩ := r.get e
  refine ⟨⟨vs, v, k.sqt q, e2⟩, fun w H' y => ?_⟩
  obtain ⟨rfl, y⟩ := y
  have := y vs (k.sqt q)
  rw [e2] at this; cases this
  exact ⟨.refl, so, rv.mono k⟩
theorem drv_str {x : List Nat} : Drv K H0 (Its ⟨x.toArray⟩) (x.map fun c => .str [c]) G := fun H S i k so g => by
  refine ⟨fun d e => ?_, fun e => ?_⟩
  · rw [List.getElem?_map] at e
    obtain ⟨c, e1, rfl⟩ := Option.map_eq_some_iff.mp e
    have hlt : i < x.length := by
      by_cases z : i < x.length
      · exact z
      · rw [List.getElem?_eq_none (by omega)] at e1; cases e1
    refine ⟨by show i < x.toArray.size; simpa using hlt, fun w H' y => ?_⟩
    obtain ⟨rfl, c', e2, rfl⟩ := y
    have e3 : x[i]? = some c' := by simpa using e2
    rw [e1] at e3; cases e3
    exact ⟨.refl, so, by simp only [Rep]⟩
  · show x.toArray.size ≤ i
    rw [e]; simp
theorem drv_rng {lo : Int} {n : Nat} : Drv K H0 (Itr lo n) ((List.range n).map fun i => .int (lo + (i : Nat))) G := fun H S i k so g => by
  refine ⟨fun d e => ?_, fun e => ?_⟩
  · rw [List.getElem?_map] at e
    obtain ⟨c, e1, rfl⟩ := Option.map_eq_some_iff.mp e
    obtain ⟨hlt, e1⟩ := List.getElem?_eq_some_iff.mp e1
    rw [List.length_range] at hlt
    rw [List.getElem_range] at e1
    subst e1
    refine ⟨hlt, fun w H' y => ?_⟩
    obtain ⟨rfl, rfl⟩ := y
    exact ⟨.refl, so, .int⟩
  · show n ≤ i
    rw [e]; simp
theorem zip_get : ∀ {xs ys : List D} {i : Nat} {d : D}, (zipD xs ys)[i]? = some d → ∃ x y, xs[i]? = some x ∧ ys[i]? = some y ∧ d = .tup [x, y]
  | [], _, i, d, h => by simp [zipD] at h
  | x :: xs, [], i, d, h => by simp [zipD] at h
  | x :: xs, y :: ys, 0, d, h => by simp [zipD] at h; exact ⟨x, y, rfl, rfl, h.symm⟩
  | x :: xs, y :: ys, i + 1, d, h => by
    rw [zipD, List.getElem?_cons_succ] at h
    obtain ⟨a, b, e1, e2, e3⟩ := zip_get h
    exact ⟨a, b, by simpa using e1, by simpa using e2, e3⟩
theorem zip_len : ∀ {xs ys : List D}, (zipD xs ys).length = min xs.length ys.length
  | [], _ => by simp [zipD]
  | x :: xs, [] => by simp [zipD]
  | x :: xs, y :: ys => by simp only [zipD, List.length_cons, zip_len]; omega
theorem pair_new {H : Hp} {S : Sto} {x y : D} {u v : V} {T : Addr} (so : StoOk K H S) (rx : Rep K H x u) (ry : Rep K H y v) (hT : H T = none) :
    Keep H (upd H T (.tup [u, v])) ∧ StoOk K (upd H T (.tup [u, v])) S ∧ Rep K (upd H T (.tup [u, v])) (.tup [x, y]) (.ref T) :=
  ⟨.new hT, so.new hT, .tup_mk (.inl (.inl upd_same)) (.cons (rx.mono (.new hT)) (.cons (ry.mono (.new hT)) .nil))⟩
theorem enum_get : ∀ {xs : List D} {j i : Nat} {d : D}, (enumD j xs)[i]? = some d → ∃ x, xs[i]? = some x ∧ d = .tup [.int ((j + i : Nat) : Int), x]
  | [], j, i, d, h => by simp [enumD] at h
  | x :: xs, j, 0, d, h => by simp [enumD] at h; exact ⟨x, rfl, by simpa using h.symm⟩
  | x :: xs, j, i + 1, d, h => by
    rw [enumD, List.getElem?_cons_succ] at h
    obtain ⟨a, e1, e3⟩ := enum_get h
    exact ⟨a, by simpa using e1, by rw [e3]; congr 3; omega⟩
theorem enum_len : ∀ {xs : List D} {j : Nat}, (enumD j xs).length = xs.length
  | [], _ => by simp [enumD]
  | x :: xs, j => by simp only [enumD, List.length_cons, enum_len]
end
section
variable {X : Cx} {pos : Pos} {tg a b e : Expr} {ta tb te : TD}
theorem lst_at {K : PySem.W.Frag} {H : Hp} {S : Sto} {p : Addr} {ds : List D} (so : StoOk K H S) (e : S p = some (.lst ds)) : ∃ vs, SqL K H p vs ∧ Reps K H ds vs := by
  obtain ⟨vs, q, r⟩ := so p _ e
  exact ⟨vs, .inl (.inl q), r⟩
theorem qi_E (he : QE X e te) : QI X tg e (fun env S K => te env S fun x S1 => iterD x S1 K) := by
  refine ⟨fun pins s σ H R I ⟨env, S, Kd, re, so, h, l⟩ => ?_⟩
  refine thn (he.run pins s σ H (fun x H1 => ∃ d S1, iterD d S1 Kd ∧ Keep H H1 ∧ Rep X.K H1 d x ∧ StoOk X.K H1 S1) I ⟨env, S, _, re, so, h, fun d S1 v H1 h1 k1 r1 s1 => ⟨d, S1, h1, k1, r1, s1⟩⟩) ?_
  rintro v s1 ⟨x, H1, I1, r1, d, S1, h1, k1, rd, so1⟩
  cases d <;> try exact h1.elim
  case tup ds =>
    obtain ⟨p, vs, rfl, q, r⟩ := rd.tup_inv
    cases r1
    obtain ⟨its, rv, pl, hz⟩ := I1.tuple q
    exact wpAny_pyIter_tuple (show s1.heap.IsTuple p its.toArray from pl) (pi_one (tk := s1.toks) I1 _ (turn_tuple p _) ⟨_, Heap.get?_push_size _ rfl, rfl, rfl⟩ (l _ _ S1 _ H1 h1 k1 so1 trivial (drv_tup q r)))
  case rol ds =>
    obtain ⟨p, vs, rfl, q, r⟩ := rd.rol_inv
    cases r1
    obtain ⟨its, rv, pl, hz⟩ := I1.list q.sq
    exact wpAny_pyIter_list pl.isList (pi_one (tk := s1.toks) I1 _ (turn_list p _) ⟨_, Heap.get?_push_size _ rfl, rfl, rfl⟩ (l _ _ S1 _ H1 h1 k1 so1 trivial (drv_list fun H2 S2 k2 s2 _ => ⟨vs, (k2.sqf q).sq, r.mono k2⟩)))
  case str w =>
    simp only [Rep] at rd
    subst rd
    obtain ⟨t, rfl⟩ := r1
    cases ha : (⟨w.toArray⟩ : Str).cps.all (· < 128)
    · exact wpAny_pyIter_wide ha (pi_one (tk := s1.toks) I1 _ (turn_str _ ⟨w.toArray⟩ t "str_iterator" (.inr rfl)) ⟨_, Heap.get?_push_size _ rfl, rfl, rfl⟩ (l _ _ S1 _ H1 h1 k1 so1 trivial drv_str))
    · exact wpAny_pyIter_ascii ha (pi_one (tk := s1.toks) I1 _ (turn_str _ ⟨w.toArray⟩ t "str_ascii_iterator" (.inl rfl)) ⟨_, Heap.get?_push_size _ rfl, rfl, rfl⟩ (l _ _ S1 _ H1 h1 k1 so1 trivial drv_str))
  case ref p =>
    simp only [Rep] at rd
    subst rd
    cases r1
    obtain ⟨ds, e1, h1⟩ := h1
    obtain ⟨vs, q, r⟩ := lst_at so1 e1
    obtain ⟨its, rv, pl, hz⟩ := I1.list q
    exact wpAny_pyIter_list pl.isList (pi_one (tk := s1.toks) I1 _ (turn_list p _) ⟨_, Heap.get?_push_size _ rfl, rfl, rfl⟩ (l _ _ S1 _ H1 h1 k1 so1 e1 (drv_list fun H2 S2 k2 s2 g => lst_at s2 g)))
theorem args1 (ha : QE X a ta) (hs : starEach [a] X.env = [(false, eval a X.env)]) : QA X [a] (fun env S Q => ta env S fun x S1 => Q [x] S1) := q_cons ha q_nil hs
theorem args2 (ha : QE X a ta) (hb : QE X b tb) (hs : starEach [a, b] X.env = (false, eval a X.env) :: starEach [b] X.env) (hs2 : starEach [b] X.env = [(false, eval b X.env)]) :
    QA X [a, b] (fun env S Q => ta env S fun x S1 => tb env S1 fun y S2 => Q [x, y] S2) := q_cons ha (args1 hb hs2) hs
def on1 (f : D → Sto → Prop) : List D → Sto → Prop
  | [x], S => f x S
  | _, _ => False
def on2 (f : D → D → Sto → Prop) : List D → Sto → Prop
  | [x, y], S => f x y S
  | _, _ => False
theorem on1_inv {f : D → Sto → Prop} {ds : List D} {S : Sto} (h : on1 f ds S) : ∃ x, ds = [x] ∧ f x S := by
  unfold on1 at h
  split at h
  · exact ⟨_, rfl, h⟩
  · exact h.elim
theorem on2_inv {f : D → D → Sto → Prop} {ds : List D} {S : Sto} (h : on2 f ds S) : ∃ x y, ds = [x, y] ∧ f x y S := by
  unfold on2 at h
  split at h
  · exact ⟨_, _, rfl, h⟩
  · exact h.elim
theorem qi_R1 {p : Pos} (hg : Gl X "range") (hm : X.mg "range" = none) (ha : QE X a ta) (hs : starEach [a] X.env = [(false, eval a X.env)]) :
    QI X tg (.Call (.Name "range" p) [a] [] pos) (fun env S K => ta env S fun x S1 => range1D x S1 K) :=
  (pi_range1 hg hm (args1 ha hs) hs).weak fun σ H R ⟨env, S, Kd, re, so, h, l⟩ => ⟨env, S, on1 fun x S1 => range1D x S1 Kd, re, so, h, fun ds S1 vs H1 h1 k1 r1 s1 => by
    obtain ⟨x, rfl, z1⟩ := on1_inv h1
    clear h1
    have h1 := z1
    clear z1
    cases x <;> try exact h1.elim
    rename_i n
    simp only [Reps, Rep] at r1
    obtain ⟨_, _, rfl, rfl, rfl⟩ := r1
    refine ⟨n, rfl, h1.1.1, h1.1.2, ?_⟩
    have d := drv_rng (K := X.K) (H0 := H1) (lo := 0) (n := n.toNat) (G := fun _ => True)
    refine l _ _ S1 _ H1 h1.2 k1 s1 trivial ?_
    unfold rngD
    rw [Int.sub_zero]
    exact d⟩
theorem qi_R2 {p : Pos} (hg : Gl X "range") (hm : X.mg "range" = none) (ha : QE X a ta) (hb : QE X b tb) (hs : starEach [a, b] X.env = (false, eval a X.env) :: starEach [b] X.env) (hs2 : starEach [b] X.env = [(false, eval b X.env)]) :
    QI X tg (.Call (.Name "range" p) [a, b] [] pos) (fun env S K => ta env S fun x S1 => tb env S1 fun y S2 => range2D x y S2 K) :=
  (pi_range2 hg hm (args2 ha hb hs hs2) (by rw [hs, hs2]) hs2).weak fun σ H R ⟨env, S, Kd, re, so, h, l⟩ => ⟨env, S, on2 fun x y S1 => range2D x y S1 Kd, re, so, h, fun ds S1 vs H1 h1 k1 r1 s1 => by
    obtain ⟨x, y, rfl, z1⟩ := on2_inv h1
    clear h1
    have h1 := z1
    clear z1
    cases x <;> cases y <;> try exact h1.elim
    rename_i m n
    simp only [Reps, Rep] at r1
    obtain ⟨_, _, rfl, rfl, _, _, rfl, rfl, rfl⟩ := r1
    exact ⟨m, n, rfl, ⟨h1.1.1, h1.1.2, h1.2.1.1, h1.2.1.2⟩, l _ _ S1 _ H1 h1.2.2 k1 s1 trivial drv_rng⟩⟩
def places : Pt → List Nat
  | .v i => [i]
  | .t p => places p
  | .nil => []
  | .cons a r => places a ++ places r
theorem wipe_in (i : Nat) (x : Option V) (σ : L2.St) : ∀ vs : List Nat, (wipe (σ.set i x) vs).set i none = (wipe σ vs).set i none
  | [] => by simp [wipe]
  | v :: vs => by
    unfold wipe
    by_cases e : v = i
    · subst e
      rw [List.set_set, List.set_set, wipe_in v x σ vs]
    · rw [List.set_comm _ _ e, wipe_in i x σ vs, List.set_comm _ _ (fun z => e z.symm)]
theorem wipe_set {i : Nat} {x : Option V} {σ : L2.St} : ∀ {vs : List Nat}, i ∈ vs → wipe (σ.set i x) vs = wipe σ vs
  | v :: vs, h => by
    unfold wipe
    by_cases e : v = i
    · subst e; exact wipe_in v x σ vs
    · rw [wipe_set (vs := vs) (by rcases List.mem_cons.mp h with z | z; exact absurd z.symm e; exact z)]
theorem RelE.wipe {K : PySem.W.Frag} {H : Hp} {env : En} {σ : L2.St} (h : RelE K H env σ) : ∀ vs : List Nat, RelE K H (wipeD env vs) (L2.wipe σ vs)
  | [] => h
  | v :: vs => by
    have ih := RelE.wipe h vs
    unfold wipeD L2.wipe
    refine ⟨by simp [ih.1], fun j d q => ?_⟩
    by_cases hj : v = j
    · subst hj
      by_cases hv : v < (wipeD env vs).length
      · rw [List.getElem?_set_self hv] at q; cases q
      · rw [List.getElem?_eq_none (by simpa using hv)] at q; cases q
    · rw [List.getElem?_set_ne hj] at q ⊢
      exact ih.2 j d q
def GK' (K : PySem.W.Frag) (H : Hp) (p : Pt) (σ : L2.St) (Qe : En → Prop) (Q : L2.St → Hp → Prop) : Prop := ∀ env' σ', Qe env' → RelE K H env' σ' → (∀ vs, (∀ i ∈ places p, i ∈ vs) → L2.wipe σ' vs = L2.wipe σ vs) → Q σ' H
def liftG (K : PySem.W.Frag) (p : Pt) : TG := fun v σ H Q => ∃ d env S Qe, Rep K H d v ∧ RelE K H env σ ∧ StoOk K H S ∧ wpP p d S env Qe ∧ GK' K H p σ Qe Q
def liftGs (K : PySem.W.Frag) (p : Pt) : TGs := fun vs σ H Q => ∃ ds env S Qe, Reps K H ds vs ∧ RelE K H env σ ∧ StoOk K H S ∧ wpPs p ds S env Qe ∧ GK' K H p σ Qe Q
theorem _root_.L2.PG.weak {X : Cx} {tg : Expr} {t t' : TG} (h : PG X tg t) (w : ∀ v σ H Q, t' v σ H Q → t v σ H Q) : PG X tg t' := ⟨fun pins s σ H v u Q I r q => h.run pins s σ H v u Q I r (w v σ H Q q)⟩
theorem _root_.L2.PGs.weak {X : Cx} {tg : List Expr} {t t' : TGs} (h : PGs X tg t) (w : ∀ v σ H Q, t' v σ H Q → t v σ H Q) : PGs X tg t' := ⟨fun pins s σ H v u Q I r q => h.run pins s σ H v u Q I r (w v σ H Q q)⟩
theorem qg_name {i : Nat} {x : Str} (hN : X.N.Nodup) (hi : X.N[i]? = some x) (hx : Loc X.env.scope x) (hf : X.fn x = true ∨ X.env.scope.names.lookup x = some .local) : PG X (.Name x pos) (liftG X.K (.v i)) :=
  (pg_name hN hi hx hf).weak fun v σ H Q ⟨d, env, S, Qe, r, re, so, h, l⟩ => l _ _ h (re.set r) fun vs hv => wipe_set (hv i (by simp [places]))
theorem qgs_nil : PGs X [] (liftGs X.K .nil) := pgs_nil.weak fun v σ H Q ⟨ds, env, S, Qe, r, re, so, h, l⟩ => by
  cases ds with
  | nil => simp only [Reps] at r; exact ⟨r, l _ _ h re fun _ _ => rfl⟩
  | cons d ds => exact h.elim
theorem qgs_cons {es : List Expr} {p q : Pt} (h1 : PG X e (liftG X.K p)) (h2 : PGs X es (liftGs X.K q)) (hs : (assignEach (e :: es) X.env).map (·.2) = assign e X.env :: (assignEach es X.env).map (·.2)) : PGs X (e :: es) (liftGs X.K (.cons p q)) :=
  (pgs_cons h1 h2 hs).weak fun v σ H Q ⟨ds, env, S, Qe, r, re, so, h, l⟩ => by
    cases ds with
    | nil => exact h.elim
    | cons d ds =>
      simp only [Reps] at r
      obtain ⟨u, us, rfl, r1, r2⟩ := r
      refine ⟨u, us, rfl, d, env, S, _, r1, re, so, h, fun env' σ' h' re' w' => ⟨ds, env', S, Qe, r2, re', so, h', fun env2 σ2 h2 re2 w2 => l env2 σ2 h2 re2 fun vs hv => ?_⟩⟩
      rw [w2 vs fun i hi => hv i (by simp [places, hi]), w' vs fun i hi => hv i (by simp [places, hi])]
theorem qg_tup {es : List Expr} {k n : Nat} {p : Pt} (hc : X.calm = true) (h : PGs X es (liftGs X.K p)) (hn : (assignEach es X.env).length = n) (hst : (assignEach es X.env).findIdx? (·.1) = none) (hl : ∀ ds S env Qe, wpPs p ds S env Qe → ds.length = n) :
    PG X (.Tuple es k pos) (liftG X.K (.t p)) := by
  refine ⟨fun pins s σ H v u Q I r ⟨d, env, S, Qe, rd, re, so, hw, l⟩ => ?_⟩
  obtain ⟨ds, e1, hw⟩ := hw
  obtain ⟨a, vs, rfl, q, rs⟩ := seq_inv so rd e1
  have hlen : vs.length = n := by rw [← rs.length]; exact hl _ _ _ _ hw
  rcases q with q | q
  · exact (pg_unl (n := n) hc h hn hst).run pins s σ H _ u Q I r ⟨a, vs, rfl, q, hlen, ds, env, S, Qe, rs, re, so, hw, l⟩
  · exact (pg_tup (n := n) hc h hn hst).run pins s σ H _ u Q I r ⟨a, vs, rfl, q, hlen, ds, env, S, Qe, rs, re, so, hw, l⟩
end
end G57
set_option Elab.async false
set_option linter.all false
set_option maxRecDepth 100000
set_option maxHeartbeats 1000000
namespace G57
open PySem L2 PySem.Spec PyProof.Rows
inductive Sr where
  | l (a : Addr) | t (a : Addr) | s (x : Str)
def Sr.rel : Sr → Value → Prop
  | .l a, v => v = .ref a
  | .t a, v => v = .ref a
  | .s x, v => ∃ t, v = .str x t
def Sr.at (K : PySem.W.Frag) (H : Hp) : Sr → List V → Prop
  | .l a, xs => SqL K H a xs
  | .t a, xs => SqT K H a xs
  | .s x, xs => xs = x.cps.toList.map fun c => V.str ⟨#[c]⟩
def Sr.it (v : Value) : Sr → Addr → Nat → Heap → Prop
  | .l a, it, i, h => h.IsListIter it a i
  | .t a, it, i, h => h.IsTupleIter it a i
  | .s x, it, i, h => ∃ t, v = .str x t ∧ h.IsStrIter it (strIterType x) x t i
theorem Sr.it_at {v : Value} {r : Sr} {it : Addr} {i : Nat} {h h' : Heap} (x : r.it v it i h) (k : ∀ o, h.get? it = some o → h'.get? it = some o) : r.it v it i h' := by
  cases r with
  | l a => exact Heap.IsListIter.at x k
  | t a => exact Heap.IsTupleIter.at x k
  | s y =>
    obtain ⟨t, e, o, ho, q⟩ := x
    exact ⟨t, e, o, k o ho, q⟩
theorem Sr.it_obj {v : Value} {r : Sr} {it : Addr} {i : Nat} {h : Heap} (x : r.it v it i h) : ∃ o, h.get? it = some o ∧ ∀ v, o.data ≠ .cell v := by
  cases r with
  | l a => obtain ⟨o, e, _, d⟩ := x; exact ⟨o, e, fun v q => by rw [d] at q; cases q⟩
  | t a => obtain ⟨o, e, _, d⟩ := x; exact ⟨o, e, fun v q => by rw [d] at q; cases q⟩
  | s y => obtain ⟨t, _, o, e, _, d⟩ := x; exact ⟨o, e, fun v q => by rw [d] at q; cases q⟩
theorem Sr.inj {X : Cx} {pins : List (Addr × Obj)} {σ : L2.St} {H : Hp} {s : Shared} (I : Inv X pins σ H s) {r : Sr} {xs ys : List V} (h : r.at X.K H xs) (h' : r.at X.K H ys) : xs = ys := by
  cases r with
  | l a => exact I.list_inj h h'
  | t a => exact I.tuple_inj h h'
  | s y => exact h.trans h'.symm
theorem Sr.draws {X : Cx} {pins : List (Addr × Obj)} {σ : L2.St} {H : Hp} {s : Shared} (I : Inv X pins σ H s) (hc : X.calm = true) (A : Around) (hh : A.handled = none) {r : Sr} {xs : List V} (h : r.at X.K H xs) {v : Value} {it : Addr} {i : Nat} (hit : r.it v it i s.heap) (hn : H it = none) (hK : ∀ a, (r = .l a ∨ r = .t a) → a ≠ it) :
    ∃ fp P St, Draws X.prog X.w A it fp xs.length P St ∧ it ∈ fp ∧ (∀ b ∈ fp, b = it ∨ r = .l b ∨ r = .t b) ∧ St i s.heap ∧ (∀ j h, St j h → r.it v it j h) ∧ ∀ j u, P j u → ∃ x, xs[j]? = some x ∧ RelV x u := by
  cases r with
  | l a =>
    obtain ⟨its, rv, p, _⟩ := I.list h
    have D := Draws.list (prog := X.prog) (w := X.w) hh it a (hK a (.inl rfl)) its.toArray
    rw [List.size_toArray, ← rv.length] at D
    refine ⟨_, _, _, D, by simp, fun b hb => ?_, ⟨hit, p.isList⟩, fun j h st => st.1, fun j u hu => ?_⟩
    · rcases List.mem_cons.mp hb with e | hb
      · exact .inl e
      · exact .inr (.inl (by rw [List.mem_singleton.mp hb]))
    · have hu' : its[j]? = some u := by simpa using hu
      have hj : j < xs.length := by
        rw [rv.length]
        by_cases z : j < its.length
        · exact z
        · rw [List.getElem?_eq_none (by omega)] at hu'; cases hu'
      obtain ⟨u2, e2, r2⟩ := rv.get (List.getElem?_eq_getElem hj)
      rw [hu'] at e2; cases e2
      exact ⟨_, List.getElem?_eq_getElem hj, r2⟩
  | t a =>
    obtain ⟨its, rv, p, _⟩ := I.tuple h
    have D := Draws.tuple (prog := X.prog) (w := X.w) hh it a (hK a (.inr rfl)) its.toArray
    rw [List.size_toArray, ← rv.length] at D
    refine ⟨_, _, _, D, by simp, fun b hb => ?_, ⟨hit, p⟩, fun j h st => st.1, fun j u hu => ?_⟩
    · rcases List.mem_cons.mp hb with e | hb
      · exact .inl e
      · exact .inr (.inr (by rw [List.mem_singleton.mp hb]))
    · have hu' : its[j]? = some u := by simpa using hu
      have hj : j < xs.length := by
        rw [rv.length]
        by_cases z : j < its.length
        · exact z
        · rw [List.getElem?_eq_none (by omega)] at hu'; cases hu'
      obtain ⟨u2, e2, r2⟩ := rv.get (List.getElem?_eq_getElem hj)
      rw [hu'] at e2; cases e2
      exact ⟨_, List.getElem?_eq_getElem hj, r2⟩
  | s y =>
    obtain ⟨t, ev, hs⟩ := hit
    have e : xs = y.cps.toList.map fun c => V.str ⟨#[c]⟩ := h
    subst e
    have D := Draws.text (prog := X.prog) (w := X.w) hh it y t
    rw [show y.cps.size = (y.cps.toList.map fun c => V.str ⟨#[c]⟩).length by simp] at D
    refine ⟨_, _, _, D, by simp, fun b hb => .inl (by simpa using hb), hs, fun j h st => ⟨t, ev, st⟩, fun j u hu => ?_⟩
    obtain ⟨c, u', e1, rfl⟩ := hu
    refine ⟨.str ⟨#[c]⟩, ?_, ⟨u', rfl⟩⟩
    rw [List.getElem?_map]
    have : y.cps.toList[j]? = some c := by simpa using e1
    rw [this]; rfl
def ItZ (K : PySem.W.Frag) (r q : Sr) : It :=
  ⟨fun i H => ∃ (xs ys : List V) (x y : V), r.at K H xs ∧ q.at K H ys ∧ xs[i]? = some x ∧ ys[i]? = some y,
    fun i H v H' => ∃ T x y, v = .ref T ∧ H T = none ∧ H' = upd H T (.tup [x, y]) ∧ (∀ xs, r.at K H xs → xs[i]? = some x) ∧ ∀ ys, q.at K H ys → ys[i]? = some y,
    fun i H => ∃ xs ys : List V, r.at K H xs ∧ q.at K H ys ∧ i = min xs.length ys.length⟩
structure Apart (z TI TO i1 i2 : Addr) (r q : Sr) : Prop where
  nd : [z, TI, TO, i1, i2].Nodup
  far : ∀ a, (r = .l a ∨ r = .t a ∨ q = .l a ∨ q = .t a) → a ∉ [z, TI, TO, i1, i2]
theorem Apart.sep {z TI TO i1 i2 : Addr} {r q : Sr} (D : Apart z TI TO i1 i2 r q) {f1 f2 : List Addr} (m1 : i1 ∈ f1) (m2 : i2 ∈ f2) (h1 : ∀ b ∈ f1, b = i1 ∨ r = .l b ∨ r = .t b) (h2 : ∀ b ∈ f2, b = i2 ∨ q = .l b ∨ q = .t b) : ZipSep2 z TI TO i1 i2 f1 f2 := by
  have nd := D.nd
  simp only [List.nodup_cons, List.mem_cons, List.mem_nil_iff, or_false, not_or, List.nodup_nil, and_true, not_false_eq_true] at nd
  obtain ⟨⟨n1, n2, n3, n4⟩, ⟨n5, n6, n7⟩, ⟨n8, n9⟩, n10⟩ := nd
  have g1 : ∀ c, c ∈ [z, TI, TO, i1, i2] → c ≠ i1 → c ∉ f1 := fun c hc hne hm => by
    rcases h1 c hm with e | e | e
    · exact hne e
    · exact D.far c (.inl e) hc
    · exact D.far c (.inr (.inl e)) hc
  have g2 : ∀ c, c ∈ [z, TI, TO, i1, i2] → c ≠ i2 → c ∉ f2 := fun c hc hne hm => by
    rcases h2 c hm with e | e | e
    · exact hne e
    · exact D.far c (.inr (.inr (.inl e))) hc
    · exact D.far c (.inr (.inr (.inr e))) hc
  exact ⟨fun e => n1 e.symm, fun e => n2 e.symm, n5, n6, m1, g1 z (by simp) n3, g1 TO (by simp) n8, n7, m2, g2 z (by simp) n4, g2 TO (by simp) n9, g2 i1 (by simp) n10, g1 i2 (by simp) fun e => n10 e.symm⟩
theorem turn_z {P : Program} {w : World} {K : PySem.W.Frag} {elts : List Expr} {kk : Nat} {tpos : Pos} {z TI TO i1 i2 : Addr} {r q : Sr} {v1 v2 : Value} (D : Apart z TI TO i1 i2 r q) :
    Turn P w K (.Tuple elts kk tpos) (ItZ K r q) [z, TI, TO, i1, i2] z (fun i h => IsZip h z TI TO .none ∧ IsTupOf2 h TI (.ref i1) (.ref i2) ∧ (∃ x y, IsTupOf2 h TO x y) ∧ r.it v1 i1 i h ∧ q.it v2 i2 i h) where
  mem := by simp
  obj := fun i h st c hc => by
    obtain ⟨hz, hTI, ⟨x, y, hTO⟩, h1, h2⟩ := st
    simp only [List.mem_cons, List.mem_nil_iff, or_false] at hc
    rcases hc with rfl | rfl | rfl | rfl | rfl
    · exact ⟨_, hz, fun v q => nomatch q⟩
    · exact ⟨_, hTI, fun v q => nomatch q⟩
    · exact ⟨_, hTO, fun v q => nomatch q⟩
    · exact Sr.it_obj h1
    · exact Sr.it_obj h2
  keep := fun i h h' st k => by
    obtain ⟨hz, hTI, ⟨x, y, hTO⟩, h1, h2⟩ := st
    exact ⟨k z (by simp) _ hz, k TI (by simp) _ hTI, ⟨x, y, k TO (by simp) _ hTO⟩, Sr.it_at h1 fun o q => k i1 (by simp) o q, Sr.it_at h2 fun o q => k i2 (by simp) o q⟩
  item := by
    intro X hP hw hK hc i pins s σ H E I hf st hg
    subst hP hw hK
    obtain ⟨hz, hTI, hTO, h1, h2⟩ := st
    obtain ⟨xs, ys, x, y, hqx, hqy, hx, hy⟩ := hg
    have hh : X.A.in1.handled = none := I.ok.hd hc
    obtain ⟨f1, P1, St1, D1, m1, sb1, st1, bk1, pr1⟩ := Sr.draws I hc X.A.in1 hh hqx h1 (hf i1 (by simp)).1 fun a ha e => D.far a (by rcases ha with z | z; exact .inl z; exact .inr (.inl z)) (by rw [e]; simp)
    obtain ⟨f2, P2, St2, D2, m2, sb2, st2, bk2, pr2⟩ := Sr.draws I hc X.A.in1 hh hqy h2 (hf i2 (by simp)).1 fun a ha e => D.far a (by rcases ha with z | z; exact .inr (.inr (.inl z)); exact .inr (.inr (.inr z))) (by rw [e]; simp)
    have W := WalksT.zipD2 (D.sep m1 m2 sb1 sb2) D1 D2
    have lx : i < xs.length := (List.getElem?_eq_some_iff.mp hx).1
    have ly : i < ys.length := (List.getElem?_eq_some_iff.mp hy).1
    refine W.item i s _ E (by omega) ⟨hz, hTI, hTO, st1, st2⟩ fun T vals h' tk pv hT isT mid kp => ?_
    obtain ⟨u1, u2, p1, p2, rfl⟩ := pv
    obtain ⟨x', ex, rx⟩ := pr1 i u1 p1
    obtain ⟨y', ey, ry⟩ := pr2 i u2 p2
    rw [hx] at ex; cases ex
    rw [hy] at ey; cases ey
    refine ⟨_, rfl, W.go elts kk tpos i T _ _ E mid fun h'' st' kp' => ?_⟩
    obtain ⟨z1, z2, z3, z4, z5⟩ := st'
    have nT : T ∉ [z, TO, i1, i2] := W.apart i T h' mid
    have isT2 : h''.IsTuple T #[u1, u2] := isT.at fun o e => kp' T o nT e
    have sub4 : ∀ c, c ∉ [z, TI, TO, i1, i2] → c ∉ [z, TO, i1, i2] := fun c hc hm => hc (by
      simp only [List.mem_cons, List.mem_nil_iff, or_false] at hm ⊢
      rcases hm with e | e | e | e
      · exact .inl e
      · exact .inr (.inr (.inl e))
      · exact .inr (.inr (.inr (.inl e)))
      · exact .inr (.inr (.inr (.inr e))))
    have new : ObjOk X.prog X.w (upd H T (.tup [x, y])) h'' T (.tup [x, y]) := ⟨by show 2 ≤ sizeLine; decide, [u1, u2], .cons rx (.cons ry .nil), isT2⟩
    have I1 : Inv X pins σ (upd H T (.tup [x, y])) { s with heap := h'', toks := tk } := I.turnedNew (ch := [z, TI, TO, i1, i2]) (fun c o hb e => kp' c o (sub4 c hb) (kp c o (sub4 c hb) e)) hf hT new
    refine ⟨.ref T, _, I1, rfl, ⟨T, x, y, rfl, I.hok.fresh hT, rfl, fun l hl => by rw [Sr.inj I hl hqx]; exact hx, fun l hl => by rw [Sr.inj I hl hqy]; exact hy⟩, ⟨z1, z2, z3, bk1 _ _ z4, bk2 _ _ z5⟩, fun c hcm => ?_⟩
    have hlt : c < s.heap.objs.size := by
      simp only [List.mem_cons, List.mem_nil_iff, or_false] at hcm
      obtain ⟨o1, e1, _⟩ := Sr.it_obj h1
      obtain ⟨o2, e2, _⟩ := Sr.it_obj h2
      obtain ⟨a1, a2, hTO⟩ := hTO
      rcases hcm with rfl | rfl | rfl | rfl | rfl
      · exact Heap.lt_size hz
      · exact Heap.lt_size hTI
      · exact Heap.lt_size hTO
      · exact Heap.lt_size e1
      · exact Heap.lt_size e2
    rw [upd_ne (Nat.ne_of_lt (Nat.lt_of_lt_of_le hlt hT))]
    exact (hf c hcm).1
  done := by
    intro X hP hw hK hc i pins s σ H E I hf st hg
    subst hP hw hK
    obtain ⟨hz, hTI, hTO, h1, h2⟩ := st
    obtain ⟨xs, ys, hqx, hqy, hend⟩ := hg
    have hh : X.A.in1.handled = none := I.ok.hd hc
    obtain ⟨f1, P1, St1, D1, m1, sb1, st1, bk1, pr1⟩ := Sr.draws I hc X.A.in1 hh hqx h1 (hf i1 (by simp)).1 fun a ha e => D.far a (by rcases ha with z | z; exact .inl z; exact .inr (.inl z)) (by rw [e]; simp)
    obtain ⟨f2, P2, St2, D2, m2, sb2, st2, bk2, pr2⟩ := Sr.draws I hc X.A.in1 hh hqy h2 (hf i2 (by simp)).1 fun a ha e => D.far a (by rcases ha with z | z; exact .inr (.inr (.inl z)); exact .inr (.inr (.inr z))) (by rw [e]; simp)
    have W := WalksT.zipD2 (D.sep m1 m2 sb1 sb2) D1 D2
    rw [hend] at st1 st2
    refine W.done s _ E ⟨hz, hTI, hTO, st1, st2⟩ fun h' tk kp => ⟨rfl, ?_⟩
    have sub4 : ∀ c, c ∉ [z, TI, TO, i1, i2] → c ∉ [z, TO, i1, i2] := fun c hc hm => hc (by
      simp only [List.mem_cons, List.mem_nil_iff, or_false] at hm ⊢
      rcases hm with e | e | e | e
      · exact .inl e
      · exact .inr (.inr (.inl e))
      · exact .inr (.inr (.inr (.inl e)))
      · exact .inr (.inr (.inr (.inr e))))
    exact I.turnedL (ch := [z, TI, TO, i1, i2]) (fun c o hb e => kp c o (sub4 c hb) e) hf
  self := fun A i s Q E st h => wpAny_pyIter_zip st.1 h
theorem Sr.begins {X : Cx} {pins : List (Addr × Obj)} {σ : L2.St} {H : Hp} {s : Shared} (I : Inv X pins σ H s) {r : Sr} {v : Value} {xs : List V} (hv : r.rel v) (h : r.at X.K H xs) :
    ∃ o Hb, Begins v o Hb ∧ Hb s.heap ∧ (∀ h' it, h'.get? it = some o → r.it v it 0 h') ∧ ∀ a, (r = .l a ∨ r = .t a) → a < s.heap.objs.size := by
  cases r with
  | l a =>
    obtain rfl : v = .ref a := hv
    obtain ⟨its, rv, p, _⟩ := I.list h
    exact ⟨_, _, begins_list a its.toArray, p.isList, fun h' it e => ⟨_, e, rfl, rfl⟩, fun b hb => by rcases hb with e | e <;> cases e; exact p.lt⟩
  | t a =>
    obtain rfl : v = .ref a := hv
    obtain ⟨its, rv, p, _⟩ := I.tuple h
    exact ⟨_, _, begins_tuple a its.toArray, p, fun h' it e => ⟨_, e, rfl, rfl⟩, fun b hb => by rcases hb with e | e <;> cases e; exact IsTup.lt p⟩
  | s x =>
    obtain ⟨t, rfl⟩ : ∃ t, v = .str x t := hv
    exact ⟨_, _, begins_text x t, trivial, fun h' it e => ⟨t, rfl, _, e, rfl, rfl⟩, fun b hb => by rcases hb with e | e <;> cases e⟩
theorem src_of {K : PySem.W.Frag} {H : Hp} {S : Sto} (so : StoOk K H S) {d : D} {x : V} {u : Value} {ds : List D} {G : Sto → Prop} (r : Rep K H d x) (ru : RelV x u) (h : srcD S d = some (ds, G)) :
    ∃ q : Sr, q.rel u ∧ G S ∧ ∀ H' S', Keep H H' → StoOk K H' S' → G S' → ∃ xs, q.at K H' xs ∧ Reps K H' ds xs := by
  cases d <;> simp only [srcD] at h <;> try cases h
  case tup =>
    obtain ⟨a, vs, rfl, q, rs⟩ := r.tup_inv
    exact ⟨.t a, ru, trivial, fun H' S' k _ _ => ⟨vs, k.sqt q, rs.mono k⟩⟩
  case rol =>
    obtain ⟨a, vs, rfl, q, rs⟩ := r.rol_inv
    exact ⟨.l a, ru, trivial, fun H' S' k _ _ => ⟨vs, (k.sqf q).sq, rs.mono k⟩⟩
  case str z =>
    simp only [Rep] at r
    subst r
    refine ⟨.s ⟨z.toArray⟩, ru, trivial, fun H' S' k _ _ => ⟨_, rfl, ?_⟩⟩
    show Reps K H' _ (z.map _)
    clear ru
    induction z with
    | nil => exact .nil
    | cons c z ih => exact .cons (by simp only [Rep]) ih
  case ref p =>
    simp only [Rep] at r
    subst r
    cases e : S p with
    | none => rw [e] at h; cases h
    | some o =>
      cases o with
      | lst es =>
        rw [e] at h
        cases h
        exact ⟨.l p, ru, e, fun H' S' k s' g => lst_at s' g⟩
theorem drv_z {K : PySem.W.Frag} {H0 : Hp} {r q : Sr} {xs ys : List D} {G1 G2 : Sto → Prop} (h1 : ∀ H' S', Keep H0 H' → StoOk K H' S' → G1 S' → ∃ vs, r.at K H' vs ∧ Reps K H' xs vs) (h2 : ∀ H' S', Keep H0 H' → StoOk K H' S' → G2 S' → ∃ vs, q.at K H' vs ∧ Reps K H' ys vs) :
    Drv K H0 (ItZ K r q) (zipD xs ys) (fun S => G1 S ∧ G2 S) := fun H S i k so g => by
  obtain ⟨us, q1, r1⟩ := h1 H S k so g.1
  obtain ⟨vs, q2, r2⟩ := h2 H S k so g.2
  refine ⟨fun d e => ?_, fun e => ⟨us, vs, q1, q2, by rw [e, zip_len, r1.length, r2.length]⟩⟩
  obtain ⟨x, y, e1, e2, rfl⟩ := zip_get e
  obtain ⟨u, f1, g1⟩ := r1.get e1
  obtain ⟨v, f2, g2⟩ := r2.get e2
  refine ⟨⟨us, vs, u, v, q1, q2, f1, f2⟩, fun w H' z => ?_⟩
  obtain ⟨T, x1, y1, rfl, hT, rfl, z1, z2⟩ := z
  have z1 := z1 us q1
  have z2 := z2 vs q2
  rw [f1] at z1; rw [f2] at z2
  cases z1; cases z2
  exact pair_new so g1 g2 hT
theorem qi_Z2 {X : Cx} {pos p tp : Pos} {a b : Expr} {ta tb : TD} {elts : List Expr} {kk : Nat} (hg : Gl X "zip") (hm : X.mg "zip" = none) (ha : QE X a ta) (hb : QE X b tb) (hs : starEach [a, b] X.env = (false, eval a X.env) :: starEach [b] X.env) (hs2 : starEach [b] X.env = [(false, eval b X.env)]) :
    QI X (.Tuple elts kk tp) (.Call (.Name "zip" p) [a, b] [] pos) (fun env S K => ta env S fun x S1 => tb env S1 fun y S2 => zipsD x y S2 K) := by
  refine ⟨fun pins s σ H R I ⟨env, S, Kd, re, so, h, l⟩ => ?_⟩
  have hA := args2 ha hb hs hs2
  refine Call_ (ld_blt I hg hm PyProof.Rows.boot_zip (PyProof.Rows.callWith_type1 (thn (hA.run pos pins s σ H (fun vs H1 => ∃ x y S1 u v, vs = [u, v] ∧ zipsD x y S1 Kd ∧ Keep H H1 ∧ Rep X.K H1 x u ∧ Rep X.K H1 y v ∧ StoOk X.K H1 S1) I
    ⟨env, S, on2 fun x y S1 => zipsD x y S1 Kd, re, so, h, fun ds S1 vs H1 h1 k1 r1 s1 => ?_⟩) fun us s1 ⟨vs, H1, I1, rv, q⟩ => ?_) hs (by rw [hs2]; rfl)))
  · obtain ⟨x, y, rfl, z1⟩ := on2_inv h1
    simp only [Reps] at r1
    obtain ⟨u, _, rfl, ru, v, _, rfl, rv, rfl⟩ := r1
    exact ⟨x, y, S1, u, v, rfl, z1, k1, ru, rv, s1⟩
  · obtain ⟨x, y, S1, u, v, rfl, ⟨xs, G, ys, G', e1, e2, hK⟩, k1, rx, ry, so1⟩ := q
    obtain ⟨u1, u2, rfl, t1, t2⟩ : ∃ u1 u2, us = [u1, u2] ∧ RelV u u1 ∧ RelV v u2 := by
      cases rv with
      | cons p1 rr => cases rr with
        | cons p2 rr => cases rr; exact ⟨_, _, rfl, p1, p2⟩
    · obtain ⟨r, hr, g1, at1⟩ := src_of so1 rx t1 e1
      obtain ⟨q, hq, g2, at2⟩ := src_of so1 ry t2 e2
      obtain ⟨as, a1, _⟩ := at1 H1 S1 .refl so1 g1
      obtain ⟨bs, a2, _⟩ := at2 H1 S1 .refl so1 g2
      obtain ⟨o1, Hb1, B1, b1, it1, lt1⟩ := Sr.begins I1 hr a1
      obtain ⟨o2, Hb2, B2, b2, it2, lt2⟩ := Sr.begins I1 hq a2
      have ge : ∀ c, c ∈ [s1.heap.objs.size + 4, s1.heap.objs.size + 2, s1.heap.objs.size + 3, s1.heap.objs.size, s1.heap.objs.size + 1] → s1.heap.objs.size ≤ c := fun c hcm => by
        simp only [List.mem_cons, List.mem_nil_iff, or_false] at hcm
        rcases hcm with z | z | z | z | z <;> rw [z] <;> first | exact Nat.le_add_right _ _ | exact Nat.le_refl _
      refine zip_begins2 B1 B2 b1 b2 fun h' hz hTI hTO f1 f2 hsz hk => wpAny_pyIter_zip hz ?_
      have I2 : Inv X pins σ H1 { s1 with heap := h' } := I1.kept (t' := s1.toks) hk
      have D : Apart (s1.heap.objs.size + 4) (s1.heap.objs.size + 2) (s1.heap.objs.size + 3) s1.heap.objs.size (s1.heap.objs.size + 1) r q := by
        refine ⟨?_, fun c hc hm => ?_⟩
        · have far5 : ∀ n : Nat, [n + 4, n + 2, n + 3, n, n + 1].Nodup := fun n => by simp
          exact far5 _
        · have hlt : c < s1.heap.objs.size := by
            rcases hc with e | e | e | e
            · exact lt1 c (.inl e)
            · exact lt1 c (.inr e)
            · exact lt2 c (.inl e)
            · exact lt2 c (.inr e)
          exact absurd (Nat.lt_of_lt_of_le hlt (ge c hm)) (Nat.lt_irrefl _)
      exact ⟨s1.heap.objs.size + 4, _, _, _, H1, rfl, I2, turn_z (v1 := u1) (v2 := u2) D, ⟨hz, hTI, ⟨_, _, hTO⟩, it1 _ _ f1, it2 _ _ f2⟩, fun c hcm => I1.fpOk (ge c hcm) (I1.hok.fresh (ge c hcm)), l _ _ S1 _ H1 hK k1 so1 ⟨g1, g2⟩ (drv_z at1 at2)⟩
theorem meets_enum1 {v : Value} {o : Obj} {Hb : Heap → Prop} (B : Begins v o Hb) :
    Meets (Builtin.«enumerate.__new__» ⟨[.type "enumerate", v], []⟩) (fun _ R s => Hb s.heap ∧
      R (.ok (.ret (.ref (s.heap.push o).objs.size))) { s with heap := (s.heap.push o).push { cls := .type "enumerate", data := .fields #[.none, .bool false, .ref s.heap.objs.size, rawInt 0, .none, .none] } }) :=
  .of_wp fun prog w A R s h => by
    obtain ⟨hp, g, d, tk, os⟩ := s
    obtain ⟨h1, h⟩ := h
    have hsub := sub_enumerate
    have q1 : ∀ {A' : Around} {E : Value → Shared → Prop} {Q : Value → Shared → Prop}, Q (.ref hp.objs.size) ⟨hp.push o, g, d, tk, os⟩ →
        wpAny (model prog w) A' (pyIter v) Q E ⟨hp, g, d, tk, os⟩ := fun q => B.iter prog w _ _ ⟨hp, g, d, tk, os⟩ _ h1 q
    wp_walk using q1
    refine wpAny_stack_any fun st => wpAny_pure ?_
    split
    · rename_i c _ _ _ _ _
      cases (c == Value.type "enumerate")
      · wp_walk using q1
        exact ⟨_, rfl, h⟩
      · wp_walk using q1
        exact ⟨_, rfl, h⟩
    · wp_walk using q1
      exact ⟨_, rfl, h⟩
theorem enum_begins1 {prog : Program} {w : World} {A : Around} {E : Value → Shared → Prop} {s : Shared} {v : Value} {o : Obj} {Hb : Heap → Prop} {Q : Value → Shared → Prop} (B : Begins v o Hb) (h1 : Hb s.heap)
    (h : ∀ h', IsEnum h' (s.heap.objs.size + 1) s.heap.objs.size 0 .none → h'.get? s.heap.objs.size = some o → (∀ b o, s.heap.get? b = some o → h'.get? b = some o) → Q (.ref (s.heap.objs.size + 1)) { s with heap := h' }) :
    wpAny (model prog w) A (call (.type "enumerate") [v]) Q E s := by
  refine callType_new F.called_enumerate (by decide) (F.typeCall_enumerate_1 _) (F.newCall_enumerate_1 _) (fun obj => F.args_object_init_2 obj _) F.entry_enumerate_new (meets_enum1 B) ⟨h1, ?_⟩
  have hz : (s.heap.push o).objs.size = s.heap.objs.size + 1 := Heap.size_push ..
  show _ ∧ _
  rw [hz]
  have he : IsEnum ((s.heap.push o).push { cls := .type "enumerate", data := .fields #[.none, .bool false, .ref s.heap.objs.size, rawInt 0, .none, .none] }) (s.heap.objs.size + 1) s.heap.objs.size 0 .none := by
    have z := Heap.get?_push_size (s.heap.push o) (o := { cls := .type "enumerate", data := .fields #[.none, .bool false, .ref s.heap.objs.size, rawInt 0, .none, .none] }) rfl
    rw [hz] at z
    exact z
  exact ⟨⟨_, he, rfl⟩, h _ he (Heap.get?_push_of_some _ (Heap.get?_push_size _ B.free)) fun b o x => Heap.get?_push_of_some _ (Heap.get?_push_of_some _ x)⟩
def ItN (K : PySem.W.Frag) (r : Sr) : It :=
  ⟨fun i H => ∃ (xs : List V) (x : V), r.at K H xs ∧ xs[i]? = some x,
    fun i H v H' => ∃ T x, v = .ref T ∧ H T = none ∧ H' = upd H T (.tup [.int (i : Nat), x]) ∧ ∀ xs, r.at K H xs → xs[i]? = some x,
    fun i H => ∃ xs : List V, r.at K H xs ∧ i = xs.length⟩
theorem turn_n {P : Program} {w : World} {K : PySem.W.Frag} {elts : List Expr} {kk : Nat} {tpos : Pos} {e it : Addr} {r : Sr} {v : Value} (ne : e ≠ it) (far : ∀ a, (r = .l a ∨ r = .t a) → a ≠ e ∧ a ≠ it) :
    Turn P w K (.Tuple elts kk tpos) (ItN K r) [e, it] e (fun i h => (∃ old, IsEnum h e it (0 + (i : Int)) old) ∧ r.it v it i h) where
  mem := by simp
  obj := fun i h st c hc => by
    obtain ⟨⟨old, he⟩, h1⟩ := st
    simp only [List.mem_cons, List.mem_nil_iff, or_false] at hc
    rcases hc with rfl | rfl
    · exact ⟨_, he, fun v q => nomatch q⟩
    · exact Sr.it_obj h1
  keep := fun i h h' st k => by
    obtain ⟨⟨old, he⟩, h1⟩ := st
    exact ⟨⟨old, k e (by simp) _ he⟩, Sr.it_at h1 fun o q => k it (by simp) o q⟩
  item := by
    intro X hP hw hK hc i pins s σ H E I hf st hg
    subst hP hw hK
    obtain ⟨he, h1⟩ := st
    obtain ⟨xs, x, hqx, hx⟩ := hg
    obtain ⟨f1, P1, St1, D1, m1, sb1, st1, bk1, pr1⟩ := Sr.draws I hc X.A.in1 (I.ok.hd hc) hqx h1 (hf it (by simp)).1 fun a ha => (far a ha).2
    have W := WalksT.enumFrom 0 D1 e ne (fun hm => by
      rcases sb1 e hm with z | z | z
      · exact ne z
      · exact (far e (.inl z)).1 rfl
      · exact (far e (.inr z)).1 rfl) m1
    refine W.item i s _ E (List.getElem?_eq_some_iff.mp hx).1 ⟨he, st1⟩ fun T vals h' tk pv hT isT mid kp => ?_
    obtain ⟨tt, u1, p1, rfl⟩ := pv
    obtain ⟨x', ex, rx⟩ := pr1 i u1 p1
    rw [hx] at ex; cases ex
    refine ⟨_, rfl, W.go elts kk tpos i T _ _ E mid fun h'' st' kp' => ?_⟩
    obtain ⟨z1, z2⟩ := st'
    have isT2 : h''.IsTuple T #[.int (0 + (i : Int)) tt, u1] := isT.at fun o e => kp' T o (W.apart i T h' mid) e
    have new : ObjOk X.prog X.w (upd H T (.tup [.int (i : Nat), x])) h'' T (.tup [.int (i : Nat), x]) :=
      ⟨by show 2 ≤ sizeLine; decide, [_, u1], .cons ⟨tt, by rw [Int.zero_add]⟩ (.cons rx .nil), isT2⟩
    have I1 : Inv X pins σ (upd H T (.tup [.int (i : Nat), x])) { s with heap := h'', toks := tk } := I.turnedNew (ch := [e, it]) (fun c o hb e => kp' c o hb (kp c o hb e)) hf hT new
    refine ⟨.ref T, _, I1, rfl, ⟨T, x, rfl, I.hok.fresh hT, rfl, fun l hl => by rw [Sr.inj I hl hqx]; exact hx⟩, ⟨z1, bk1 _ _ z2⟩, fun c hcm => ?_⟩
    have hlt : c < s.heap.objs.size := by
      simp only [List.mem_cons, List.mem_nil_iff, or_false] at hcm
      obtain ⟨o1, e1, _⟩ := Sr.it_obj h1
      obtain ⟨old, he⟩ := he
      rcases hcm with rfl | rfl
      · exact Heap.lt_size he
      · exact Heap.lt_size e1
    rw [upd_ne (Nat.ne_of_lt (Nat.lt_of_lt_of_le hlt hT))]
    exact (hf c hcm).1
  done := by
    intro X hP hw hK hc i pins s σ H E I hf st hg
    subst hP hw hK
    obtain ⟨he, h1⟩ := st
    obtain ⟨xs, hqx, hend⟩ := hg
    obtain ⟨f1, P1, St1, D1, m1, sb1, st1, bk1, pr1⟩ := Sr.draws I hc X.A.in1 (I.ok.hd hc) hqx h1 (hf it (by simp)).1 fun a ha => (far a ha).2
    have W := WalksT.enumFrom 0 D1 e ne (fun hm => by
      rcases sb1 e hm with z | z | z
      · exact ne z
      · exact (far e (.inl z)).1 rfl
      · exact (far e (.inr z)).1 rfl) m1
    rw [hend] at st1 he
    exact W.done s _ E ⟨he, st1⟩ fun h' tk kp => ⟨rfl, I.turnedL (ch := [e, it]) (fun c o hb e => kp c o hb e) hf⟩
  self := fun A i s Q E st h => by
    obtain ⟨⟨old, he⟩, _⟩ := st
    exact wpAny_pyIter_enum he h
theorem drv_n {K : PySem.W.Frag} {H0 : Hp} {r : Sr} {xs : List D} {G : Sto → Prop} (h1 : ∀ H' S', Keep H0 H' → StoOk K H' S' → G S' → ∃ vs, r.at K H' vs ∧ Reps K H' xs vs) : Drv K H0 (ItN K r) (enumD 0 xs) G := fun H S i k so g => by
  obtain ⟨us, q, r1⟩ := h1 H S k so g
  refine ⟨fun d e => ?_, fun e => ⟨us, q, by rw [e, enum_len, r1.length]⟩⟩
  obtain ⟨x, e1, rfl⟩ := enum_get e
  obtain ⟨u, f1, g1⟩ := r1.get e1
  refine ⟨⟨us, u, q, f1⟩, fun w H' z => ?_⟩
  obtain ⟨T, x1, rfl, hT, rfl, z1⟩ := z
  have z1 := z1 us q
  rw [f1] at z1; cases z1
  rw [Nat.zero_add]
  exact pair_new so .int g1 hT
theorem qi_N2 {X : Cx} {pos p tp : Pos} {a : Expr} {ta : TD} {elts : List Expr} {kk : Nat} (hg : Gl X "enumerate") (hm : X.mg "enumerate" = none) (ha : QE X a ta) (hs : starEach [a] X.env = [(false, eval a X.env)]) :
    QI X (.Tuple elts kk tp) (.Call (.Name "enumerate" p) [a] [] pos) (fun env S K => ta env S fun x S1 => enumedD x S1 K) := by
  refine ⟨fun pins s σ H R I ⟨env, S, Kd, re, so, h, l⟩ => ?_⟩
  have hA := args1 ha hs
  refine Call_ (ld_blt I hg hm boot_enumerate (PyProof.Rows.callWith_type1 (thn (hA.run pos pins s σ H (fun vs H1 => ∃ x S1 u, vs = [u] ∧ enumedD x S1 Kd ∧ Keep H H1 ∧ Rep X.K H1 x u ∧ StoOk X.K H1 S1) I
    ⟨env, S, on1 fun x S1 => enumedD x S1 Kd, re, so, h, fun ds S1 vs H1 h1 k1 r1 s1 => ?_⟩) fun us s1 ⟨vs, H1, I1, rv, q⟩ => ?_) hs rfl))
  · obtain ⟨x, rfl, z1⟩ := on1_inv h1
    simp only [Reps] at r1
    obtain ⟨u, _, rfl, ru, rfl⟩ := r1
    exact ⟨x, S1, u, rfl, z1, k1, ru, s1⟩
  · obtain ⟨x, S1, u, rfl, ⟨xs, G, e1, hK⟩, k1, rx, so1⟩ := q
    obtain ⟨u1, rfl, t1⟩ : ∃ u1, us = [u1] ∧ RelV u u1 := by
      cases rv with
      | cons p1 rr => cases rr; exact ⟨_, rfl, p1⟩
    obtain ⟨r, hr, g1, at1⟩ := src_of so1 rx t1 e1
    obtain ⟨as, a1, _⟩ := at1 H1 S1 .refl so1 g1
    obtain ⟨o1, Hb1, B1, b1, it1, lt1⟩ := Sr.begins I1 hr a1
    refine enum_begins1 B1 b1 fun h' he f1 hk => wpAny_pyIter_enum he ?_
    have I2 : Inv X pins σ H1 { s1 with heap := h' } := I1.kept (t' := s1.toks) hk
    have ge : ∀ c, c ∈ [s1.heap.objs.size + 1, s1.heap.objs.size] → s1.heap.objs.size ≤ c := fun c hcm => by
      simp only [List.mem_cons, List.mem_nil_iff, or_false] at hcm
      rcases hcm with z | z <;> rw [z] <;> first | exact Nat.le_add_right _ _ | exact Nat.le_refl _
    exact ⟨s1.heap.objs.size + 1, _, _, _, H1, rfl, I2, turn_n (v := u1) (e := s1.heap.objs.size + 1) (it := s1.heap.objs.size) (Nat.succ_ne_self _) (fun c hc => ⟨Nat.ne_of_lt (Nat.lt_succ_of_lt (lt1 c hc)), Nat.ne_of_lt (lt1 c hc)⟩), ⟨⟨.none, by simpa using he⟩, it1 _ _ f1⟩,
      fun c hcm => I1.fpOk (ge c hcm) (I1.hok.fresh (ge c hcm)), l _ _ S1 _ H1 hK k1 so1 g1 (drv_n at1)⟩
end G57
set_option Elab.async false
set_option linter.all false
set_option maxRecDepth 100000
set_option maxHeartbeats 400000
namespace G57
open PySem L2 PySem.Spec PyProof.Rows
section
variable {X : Cx} {pos : Pos} {tg it e : Expr} {te : TD} {tA : TBD} {ti : TID} {p : Pt}
theorem lc_read {K : PySem.W.Frag} {vs : List Nat} (hp : ∀ i ∈ places p, i ∈ vs) (σ : L2.St) (H : Hp) (Q : VK)
    (h : liftE K (fun env S Q => ti env S fun xs G S1 => ∀ a, S1 a = none → G (put S1 a (.lst [])) ∧ lcRun a G (fun x S2 k => wpP p x S2 (wipeD env vs) fun env2 => tA env2 S2 fun t S3 =>
      if t = true then te env2 S3 fun y S4 => k (some y) S4 else k none S3) (fun S' => Q (.ref a) S') xs [] (put S1 a (.lst []))) σ H Q) :
    tLc (liftI K ti) (liftG K p) (liftT K tA) (liftE K te) vs σ H Q := by
  obtain ⟨env, S, Qd, re, so, h, l⟩ := h
  refine ⟨env, S, _, re, so, h, fun xs G S1 J H1 h1 k1 s1 g1 dr a ha => ?_⟩
  obtain ⟨g0, run⟩ := h1 a (s1.fresh ha)
  generalize hb : (fun (x : D) (S2 : Sto) (k : Option D → Sto → Prop) => wpP p x S2 (wipeD env vs) fun env2 => tA env2 S2 fun t S3 => if t = true then te env2 S3 fun y S4 => k (some y) S4 else k none S3) = body at run
  have kn : Keep H1 (upd H1 a (.lst [])) := .new ha
  refine ⟨fun i m H2 => m = xs.length - i ∧ i ≤ xs.length ∧ ∃ S2 acc, Keep H1 H2 ∧ StoOk K H2 S2 ∧ G S2 ∧ S2 a = some (.lst acc) ∧ lcRun a G body (fun S' => Qd (.ref a) S') (xs.drop i) acc S2,
    ⟨xs.length, by simp, Nat.zero_le _, put S1 a (.lst []), [], kn, s1.newL ha .nil, g0, put_same, by rw [List.drop_zero]; exact run⟩, ?_⟩
  rintro i m H2 ⟨rfl, hi, S2, acc, k2, s2, g2, ea, run⟩
  by_cases hlt : i < xs.length
  · refine .inr ?_
    have ex : xs[i]? = some xs[i] := List.getElem?_eq_getElem hlt
    obtain ⟨go, yl⟩ := (dr H2 S2 i k2 s2 g2).1 _ ex
    rw [List.drop_eq_getElem_cons hlt] at run
    refine ⟨go, fun H3 => ∃ S3 acc, Keep H1 H3 ∧ StoOk K H3 S3 ∧ G S3 ∧ S3 a = some (.lst acc) ∧ lcRun a G body (fun S' => Qd (.ref a) S') (xs.drop (i + 1)) acc S3,
      fun H3 ⟨S3, acc3, z⟩ => ⟨xs.length - (i + 1), by omega, rfl, by omega, S3, acc3, z⟩, fun v H3 y => ?_⟩
    obtain ⟨k3, s3, rv⟩ := yl v H3 y
    simp only [lcRun] at run
    rw [← hb] at run
    refine ⟨xs[i], wipeD env vs, S2, _, rv, (re.mono (k1.trans (k2.trans k3))).wipe vs, s3, run, fun env2 σ2 h2 re2 w2 => ⟨by
      have := w2 vs hp
      rw [this]
      exact wipe_wipe σ vs, env2, S2, _, re2, s3, h2, fun t S4 H4 h4 k4 s4 => ?_⟩⟩
    cases t with
    | false =>
      simp only [Bool.false_eq_true, if_false] at h4 ⊢
      obtain ⟨z1, z2, z3⟩ := h4
      exact ⟨S4, acc, k2.trans (k3.trans k4), s4, z2, z1, by rw [← hb]; exact z3⟩
    | true =>
      simp only [if_true] at h4 ⊢
      refine ⟨env2, S4, _, re2.mono k4, s4, h4, fun y S5 u H5 h5 k5 r5 s5 => ?_⟩
      obtain ⟨z1, z2, z3, z4⟩ := h5
      obtain ⟨us, q5, t5⟩ := s5 a _ z1
      refine ⟨us, q5, by rw [← t5.length, szl]; exact z2, put S5 a (.lst (acc ++ [y])), acc ++ [y], k2.trans (k3.trans (k4.trans (k5.trans (.lst q5)))), s5.write q5 (t5.append (.cons r5 .nil)), z3, put_same, by rw [← hb]; exact z4⟩
  · refine .inl ⟨(dr H2 S2 i k2 s2 g2).2 (by omega), ?_⟩
    rw [List.drop_of_length_le (by omega)] at run
    exact l _ S2 _ H2 run (k1.trans k2) .ref s2
where
  wipe_wipe (σ : L2.St) (vs : List Nat) : L2.wipe (L2.wipe σ vs) vs = L2.wipe σ vs := by
    have gen : ∀ (us : List Nat), (∀ i ∈ us, i ∈ vs) → L2.wipe (L2.wipe σ us) vs = L2.wipe σ vs := by
      intro us
      induction us with
      | nil => intro _; rfl
      | cons u us ih =>
        intro hu
        show L2.wipe ((L2.wipe σ us).set u none) vs = _
        rw [wipe_set (hu u (by simp)), ih fun i hi => hu i (by simp [hi])]
    exact gen vs fun _ h => h
theorem q_lc {ifs : List Expr} {scope : Scope} {own : List (Str × Nat)} (hc : X.calm = true) (hN : X.N.Nodup) (hi : QI X tg it ti) (ok : BlkOk X.N X.env.scope scope own) (hp : ∀ i ∈ places p, i ∈ own.map (·.2))
    (hg : ∀ (s : Shared) (H : Hp) (C : Addr) (cl : List (Str × Addr)) (fp : List Addr), PG (X.blk s H scope (compEnvC scope cl C X.env) fp) tg (liftG X.K p))
    (ht : ∀ (s : Shared) (H : Hp) (C : Addr) (cl : List (Str × Addr)) (fp : List Addr), PTs (X.blk s H scope (compEnvC scope cl C X.env) fp) ifs (liftT X.K tA))
    (he : ∀ (s : Shared) (H : Hp) (C : Addr) (cl : List (Str × Addr)) (fp : List Addr), QE (X.blk s H scope (compEnvC scope cl C X.env) fp) e te) (hs : ∀ x, foldedSetIterable it X.env x = pure x) :
    QE X (.ListComp e [⟨tg, it, ifs, 0⟩] scope pos) (fun env S Q => ti env S fun xs G S1 => ∀ a, S1 a = none → G (put S1 a (.lst [])) ∧ lcRun a G (fun x S2 k => wpP p x S2 (wipeD env (own.map (·.2))) fun env2 => tA env2 S2 fun t S3 =>
      if t = true then te env2 S3 fun y S4 => k (some y) S4 else k none S3) (fun S' => Q (.ref a) S') xs [] (put S1 a (.lst []))) :=
  (pe_lc (own := own) hc hN hi ok hg ht he hs).weak fun σ H Q h => lc_read hp σ H Q h
theorem q_yes : PTs X [] (liftT X.K fun _ S Q => Q true S) := ⟨fun pins s σ H Q I ⟨env, S, Qd, re, so, h, l⟩ => pts_nil.run pins s σ H Q I (l true S H h .refl so)⟩
theorem q_fmt (he : QE X e te) : QE X (.FormattedValue e (-1) none pos) (fun env S Q => te env S fun x S1 => fmtD x fun z => Q (.str z) S1) :=
  (pe_fmt he).weak fun σ H Q ⟨env, S, Qd, re, so, h, l⟩ => ⟨env, S, _, re, so, h, fun x S1 v H1 h1 k1 r1 s1 => by
    cases x <;> try exact h1.elim
    case str z =>
      simp only [Rep] at r1
      exact .inl ⟨_, r1, by rw [str_len, szl]; exact h1.1, l _ S1 _ H1 h1.2 k1 .str s1⟩
    case int i =>
      simp only [Rep] at r1
      exact .inr ⟨i, r1, log2_1920 h1.1, l _ S1 _ H1 h1.2 k1 (by simp only [Rep]; rfl) s1⟩⟩
abbrev TJD := En → Sto → List Nat → (List Nat → Sto → Prop) → Prop
structure QJ (X : Cx) (es : List Expr) (t : TJD) : Prop where
  ex : ∃ ts, PJ X es ts ∧ ∀ (acc : List Nat) σ H (Q : Str → Hp → Prop), (∃ env S Qd, RelE X.K H env σ ∧ StoOk X.K H S ∧ t env S acc Qd ∧ ∀ x S' H', Qd x S' → Keep H H' → StoOk X.K H' S' → Q ⟨x.toArray⟩ H') → tJs ts ⟨acc.toArray⟩ σ H Q
theorem qj_nil : QJ X [] (fun _ S acc Q => Q acc S) := ⟨[], .nil, fun acc σ H Q ⟨env, S, Qd, re, so, h, l⟩ => l _ S H h .refl so⟩
theorem qj_cons {es : List Expr} {te : TD} {t : TJD} (he : QE X e (fun env S Q => te env S fun x S1 => fmtD x fun z => Q (.str z) S1)) (h : QJ X es t) :
    QJ X (e :: es) (fun env S acc Q => te env S fun x S1 => fmtD x fun z => acc.length + z.length ≤ 16777216 ∧ t env S1 (acc ++ z) Q) := by
  obtain ⟨ts, pj, rd⟩ := h.ex
  refine ⟨_, .cons he pj, fun acc σ H Q ⟨env, S, Qd, re, so, h, l⟩ => ?_⟩
  refine ⟨env, S, fun d S1 => ∃ z, d = .str z ∧ acc.length + z.length ≤ 16777216 ∧ t env S1 (acc ++ z) Qd, re, so, ?_, fun d S1 v H1 h1 k1 r1 s1 => ?_⟩
  · have e : (fun (x : D) (S1 : Sto) => fmtD x fun z => acc.length + z.length ≤ 16777216 ∧ t env S1 (acc ++ z) Qd) = fun x S1 => fmtD x fun z => ∃ z_1, D.str z = D.str z_1 ∧ acc.length + z_1.length ≤ 16777216 ∧ t env S1 (acc ++ z_1) Qd := by
      funext x S1
      have : (fun z => acc.length + z.length ≤ 16777216 ∧ t env S1 (acc ++ z) Qd) = fun z => ∃ z_1, D.str z = D.str z_1 ∧ acc.length + z_1.length ≤ 16777216 ∧ t env S1 (acc ++ z_1) Qd := by
        funext z
        exact propext ⟨fun h => ⟨z, rfl, h⟩, fun ⟨w, e, h⟩ => by cases e; exact h⟩
      rw [this]
    rw [e] at h
    exact h
  · obtain ⟨z, rfl, hz, h1⟩ := h1
    simp only [Rep] at r1
    refine ⟨_, r1, ?_, ?_⟩
    · rw [cps_app, str_len, List.length_append, szl]; exact hz
    · rw [cps_app]
      exact rd (acc ++ z) σ H1 Q ⟨env, S1, Qd, re.mono k1, s1, h1, fun x S' H' q k s => l x S' H' q (k1.trans k) s⟩
theorem q_fs {v1 v2 : Expr} {rest : List Expr} {t : TJD} (h : QJ X (v1 :: v2 :: rest) t) : QE X (.JoinedStr (v1 :: v2 :: rest) pos) (fun env S Q => t env S [] fun x S1 => Q (.str x) S1) := by
  obtain ⟨ts, pj, rd⟩ := h.ex
  exact (pe_joined pj).weak fun σ H Q ⟨env, S, Qd, re, so, h, l⟩ => rd [] σ H _ ⟨env, S, _, re, so, h, fun x S' H' q k s => l _ S' _ H' q k .str s⟩
end
end G57
set_option Elab.async false
set_option linter.all false
set_option maxRecDepth 100000
set_option maxHeartbeats 400000
namespace G57
open PySem L2 PySem.Spec PyProof.Rows
abbrev TSD := EndsD → En → Sto → Prop
structure LvS (K : PySem.W.Frag) (H : Hp) (E : EndsD) (D' : Ends) : Prop where
  nx : ∀ env S σ H', E.nx env S → Keep H H' → RelE K H' env σ → StoOk K H' S → D'.nx σ H'
  bk : ∀ env S σ H', E.bk env S → Keep H H' → RelE K H' env σ → StoOk K H' S → D'.bk σ H'
  ct : ∀ env S σ H', E.ct env S → Keep H H' → RelE K H' env σ → StoOk K H' S → D'.ct σ H'
  rt : Lv K H E.rt D'.rt
theorem LvS.keep {K : PySem.W.Frag} {H H1 : Hp} {E : EndsD} {D' : Ends} (l : LvS K H E D') (k : Keep H H1) : LvS K H1 E D' :=
  ⟨fun env S σ H' h k' => l.nx env S σ H' h (k.trans k'), fun env S σ H' h k' => l.bk env S σ H' h (k.trans k'), fun env S σ H' h k' => l.ct env S σ H' h (k.trans k'), l.rt.keep k⟩
def liftS (K : PySem.W.Frag) (t : TSD) : TS := fun D' σ H => ∃ env S E, RelE K H env σ ∧ StoOk K H S ∧ t E env S ∧ LvS K H E D'
abbrev QS (X : Cx) (st : Stmt) (t : TSD) : Prop := PS X st (liftS X.K t)
abbrev QSs (X : Cx) (st : List Stmt) (t : TSD) : Prop := PSs X st (liftS X.K t)
theorem _root_.L2.PS.weak {X : Cx} {st : Stmt} {t t' : TS} (h : PS X st t) (w : ∀ D' σ H, t' D' σ H → t D' σ H) : PS X st t' := ⟨fun pins s σ H D' I q => h.run pins s σ H D' I (w D' σ H q)⟩
theorem _root_.L2.PSs.weak {X : Cx} {st : List Stmt} {t t' : TS} (h : PSs X st t) (w : ∀ D' σ H, t' D' σ H → t D' σ H) : PSs X st t' := ⟨fun pins s σ H D' I q => h.run pins s σ H D' I (w D' σ H q)⟩
section
variable {X : Cx} {pos : Pos} {tg it e c o i : Expr} {te to ti : TD} {tA : TBD} {tit : TID} {p : Pt} {st : Stmt} {a b body rest : List Stmt} {t u : TSD}
theorem asg_read {K : PySem.W.Frag} (D' : Ends) (σ : L2.St) (H : Hp) (h : liftS K (fun E env S => te env S fun d S1 => wpP p d S1 env fun env' => E.nx env' S1) D' σ H) : tAsg (liftE K te) (liftG K p) D' σ H := by
  obtain ⟨env, S, E, re, so, h, l⟩ := h
  exact ⟨env, S, _, re, so, h, fun d S1 v H1 h1 k1 r1 s1 => ⟨d, env, S1, _, r1, re.mono k1, s1, h1, fun env' σ' h' re' _ => l.nx env' S1 σ' H1 h' k1 re' s1⟩⟩
theorem qs_asg (he : QE X e te) (hg : PG X tg (liftG X.K p)) (hs : swapsWithSole [tg] e pos.line X.env = pure false) (hw : swappedStores [tg] e X.env = pure none) (hone : (assignEach [tg] X.env).map (·.2) = [assign tg X.env]) :
    QS X (.Assign [tg] e pos) (fun E env S => te env S fun d S1 => wpP p d S1 env fun env' => E.nx env' S1) :=
  (ps_asg he hg hs hw hone).weak fun D' σ H h => asg_read D' σ H h
theorem gName_of {K : PySem.W.Frag} {j : Nat} {v : V} {σ : L2.St} {H : Hp} {Q : L2.St → Hp → Prop} (h : liftG K (.v j) v σ H Q) : gName j v σ H Q := by
  obtain ⟨d, env, S, Qe, r, re, so, h, l⟩ := h
  exact l _ _ h (re.set r) fun vs hv => wipe_set (hv j (by simp [places]))
theorem qs_setLc {j : Nat} {y : Str} {py lpos : Pos} {ifs : List Expr} {scope : Scope} {own : List (Str × Nat)} (hc : X.calm = true) (hN : X.N.Nodup) (hy : X.N[j]? = some y) (hyl : X.env.scope.names.lookup y = some .local)
    (hsw : swapsWith (.ListComp e [⟨tg, it, ifs, 0⟩] scope lpos) (some (.Name y py)) pos.line X.env = pure true) (hi : QI X tg it tit) (ok : BlkOk X.N X.env.scope scope own) (hp : ∀ i ∈ places p, i ∈ own.map (·.2))
    (hg : ∀ (s : Shared) (H : Hp) (C : Addr) (cl : List (Str × Addr)) (fp : List Addr), PG (X.blk s H scope (compEnvC scope cl C X.env) fp) tg (liftG X.K p))
    (ht : ∀ (s : Shared) (H : Hp) (C : Addr) (cl : List (Str × Addr)) (fp : List Addr), PTs (X.blk s H scope (compEnvC scope cl C X.env) fp) ifs (liftT X.K tA))
    (he : ∀ (s : Shared) (H : Hp) (C : Addr) (cl : List (Str × Addr)) (fp : List Addr), QE (X.blk s H scope (compEnvC scope cl C X.env) fp) e te) (hs : ∀ x, foldedSetIterable it X.env x = pure x) :
    QS X (.Assign [.Name y py] (.ListComp e [⟨tg, it, ifs, 0⟩] scope lpos) pos) (fun E env S => (tit env S fun xs G S1 => ∀ a, S1 a = none → G (put S1 a (.lst [])) ∧ lcRun a G (fun x S2 k => wpP p x S2 (wipeD env (own.map (·.2))) fun env2 => tA env2 S2 fun t S3 =>
      if t = true then te env2 S3 fun y S4 => k (some y) S4 else k none S3) (fun S' => wpP (.v j) (.ref a) S' env fun env' => E.nx env' S') xs [] (put S1 a (.lst [])))) :=
  (ps_setLc (own := own) hc hN hy hyl hsw hi ok hg ht he hs).weak fun D' σ H ⟨env, S, E, re, so, h, l⟩ =>
    lc_read hp σ H _ ⟨env, S, fun d S' => wpP (.v j) d S' env fun env' => E.nx env' S', re, so, h, fun d S1 v H1 h1 k1 r1 s1 =>
      gName_of ⟨d, env, S1, _, r1, re.mono k1, s1, h1, fun env' σ' h' re' _ => l.nx env' S1 σ' H1 h' k1 re' s1⟩⟩
theorem setD_ok : PSet X (fun o i v H Q => ∃ x y d S, ∃ Qd : Sto → Prop, Rep X.K H x o ∧ Rep X.K H y i ∧ Rep X.K H d v ∧ StoOk X.K H S ∧ setD x y d S Qd ∧ ∀ S' H', Qd S' → Keep H H' → StoOk X.K H' S' → Q H') := by
  intro pins s σ H o i v ov iv u Q I r1 r2 r3 ⟨x, y, d, S, Qd, rx, ry, rd, so, h, l⟩
  cases x <;> cases y <;> try exact h.elim
  rename_i p k
  simp only [Rep] at rx ry
  obtain ⟨ds, j, e1, e2, h⟩ := h
  obtain ⟨vs, q, r⟩ := so p _ e1
  exact set_list pins s σ H o i v ov iv u Q I r1 r2 r3 ⟨p, vs, k, j, rx, ry, q, by rw [← r.length]; exact e2, l _ _ h (.lst q) (so.write q (r.set j rd))⟩
theorem qs_set {tpos : Pos} (he : QE X e te) (ho : QE X o to) (hi : QE X i ti) (hs : swapsWithSole [.Subscript o i tpos] e pos.line X.env = pure false) (hw : swappedStores [.Subscript o i tpos] e X.env = pure none)
    (ha : ∀ v, assign (.Subscript o i tpos) X.env v = (do
      let ov ← holding [v] (eval o X.env)
      let iv ← holding [v, ov] (eval i X.env)
      standAt tpos
      holding [v, ov, iv] (setItem ov iv v)
      release [v, ov, iv] [])) :
    QS X (.Assign [.Subscript o i tpos] e pos) (fun E env S => te env S fun d S1 => to env S1 fun x S2 => ti env S2 fun y S3 => setD x y d S3 fun S4 => E.nx env S4) :=
  (ps_asg he (pg_sub ho hi setD_ok ha) hs hw).weak fun D' σ H ⟨env, S, E, re, so, h, l⟩ =>
    ⟨env, S, _, re, so, h, fun d S1 v H1 h1 k1 r1 s1 => ⟨env, S1, _, re.mono k1, s1, h1, fun x S2 u H2 h2 k2 r2 s2 => ⟨env, S2, _, re.mono (k1.trans k2), s2, h2, fun y S3 w H3 h3 k3 r3 s3 =>
      ⟨x, y, d, S3, _, r2.mono k3, r3, r1.mono (k2.trans k3), s3, h3, fun S4 H4 h4 k4 s4 => l.nx env S4 σ H4 h4 (k1.trans (k2.trans (k3.trans k4))) (re.mono (k1.trans (k2.trans (k3.trans k4)))) s4⟩⟩⟩⟩
theorem qs_expr (he : QE X e te) (hs : swapsWith e none pos.line X.env = pure false) : QS X (.Expr e pos) (fun E env S => te env S fun _ S1 => E.nx env S1) :=
  (ps_expr he hs).weak fun D' σ H ⟨env, S, E, re, so, h, l⟩ => ⟨env, S, _, re, so, h, fun d S1 v H1 h1 k1 r1 s1 => l.nx env S1 σ H1 h1 k1 (re.mono k1) s1⟩
theorem qs_ret (he : QE X e te) : QS X (.Return (some e) pos) (fun E env S => te env S E.rt) :=
  (ps_ret he).weak fun D' σ H ⟨env, S, E, re, so, h, l⟩ => ⟨env, S, _, re, so, h, l.rt⟩
theorem qs_if (hc : QT X c tA) (ha : QSs X a t) (hb : QSs X b u) : QS X (.If c a b pos) (fun E env S => tA env S fun z S1 => if z = true then t E env S1 else u E env S1) :=
  (ps_if hc ha hb).weak fun D' σ H ⟨env, S, E, re, so, h, l⟩ => ⟨env, S, _, re, so, h, fun z S1 H1 h1 k1 s1 => by
    cases z with
    | true => exact ⟨env, S1, E, re.mono k1, s1, h1, l.keep k1⟩
    | false => exact ⟨env, S1, E, re.mono k1, s1, h1, l.keep k1⟩⟩
theorem qs_pass : QS X (.Pass pos) (fun E env S => E.nx env S) := ps_pass.weak fun D' σ H ⟨env, S, E, re, so, h, l⟩ => l.nx env S σ H h .refl re so
theorem qs_break : QS X (.Break pos) (fun E env S => E.bk env S) := ps_break.weak fun D' σ H ⟨env, S, E, re, so, h, l⟩ => l.bk env S σ H h .refl re so
theorem qs_cont : QS X (.Continue pos) (fun E env S => E.ct env S) := ps_continue.weak fun D' σ H ⟨env, S, E, re, so, h, l⟩ => l.ct env S σ H h .refl re so
theorem qss_nil : QSs X [] (fun E env S => E.nx env S) := pss_nil.weak fun D' σ H ⟨env, S, E, re, so, h, l⟩ => l.nx env S σ H h .refl re so
theorem qss_cons (h1 : QS X st t) (h2 : QSs X rest u) : QSs X (st :: rest) (fun E env S => t { E with nx := fun env' S' => u E env' S' } env S) :=
  (pss_cons h1 h2).weak fun D' σ H ⟨env, S, E, re, so, h, l⟩ => ⟨env, S, _, re, so, h, fun env' S' σ' H' h' k' re' s' => ⟨env', S', E, re', s', h', l.keep k'⟩, l.bk, l.ct, l.rt⟩
theorem qs_for (hx : PassesOwn (model X.prog X.w) X.A X.env X.xe) (hc : X.calm = true) (hi : QI X tg it tit) (hg : PG X tg (liftG X.K p)) (hb : QSs X body t) (hs : ∀ x, foldedSetIterable it X.env x = pure x) :
    QS X (.For tg it body [] pos) (fun E env S => tit env S fun xs G S1 => forRun G (fun x env1 S2 N => wpP p x S2 env1 fun env2 => t { nx := N, ct := N, bk := E.nx, rt := E.rt } env2 S2) E.nx xs env S1) :=
  (ps_for hx hc hi hg hb hs).weak fun D' σ H ⟨env, S, E, re, so, h, l⟩ => by
    refine ⟨env, S, _, re, so, h, fun xs G S1 J H1 h1 k1 s1 g1 dr => ?_⟩
    generalize hbd : (fun (x : D) (env1 : En) (S2 : Sto) (N : En → Sto → Prop) => wpP p x S2 env1 fun env2 => t { nx := N, ct := N, bk := E.nx, rt := E.rt } env2 S2) = bd at h1
    refine ⟨fun i m σ2 H2 => m = xs.length - i ∧ i ≤ xs.length ∧ ∃ env2 S2, Keep H1 H2 ∧ RelE X.K H2 env2 σ2 ∧ StoOk X.K H2 S2 ∧ G S2 ∧ forRun G bd E.nx (xs.drop i) env2 S2,
      ⟨xs.length, by simp, Nat.zero_le _, env, S1, .refl, re.mono k1, s1, g1, by rw [List.drop_zero]; exact h1⟩, ?_⟩
    rintro i m σ2 H2 ⟨rfl, hi2, env2, S2, k2, re2, s2, g2, run⟩
    by_cases hlt : i < xs.length
    · refine .inr ?_
      have ex : xs[i]? = some xs[i] := List.getElem?_eq_getElem hlt
      obtain ⟨go, yl⟩ := (dr H2 S2 i k2 s2 g2).1 _ ex
      rw [List.drop_eq_getElem_cons hlt] at run
      refine ⟨go, fun σ3 H3 => ∃ env3 S3, Keep H1 H3 ∧ RelE X.K H3 env3 σ3 ∧ StoOk X.K H3 S3 ∧ G S3 ∧ forRun G bd E.nx (xs.drop (i + 1)) env3 S3,
        fun σ3 H3 ⟨env3, S3, z⟩ => ⟨xs.length - (i + 1), by omega, rfl, by omega, env3, S3, z⟩, fun v H3 y => ?_⟩
      obtain ⟨k3, s3, rv⟩ := yl v H3 y
      simp only [forRun] at run
      rw [← hbd] at run
      have kk := k2.trans k3
      refine ⟨xs[i], env2, S2, _, rv, re2.mono k3, s3, run, fun env3 σ3 h3 re3 _ => ⟨env3, S2, _, re3, s3, h3, ?_, ?_, ?_, l.rt.keep (k1.trans kk)⟩⟩
      · exact fun env4 S4 σ4 H4 h4 k4 re4 s4 => ⟨env4, S4, kk.trans k4, re4, s4, h4.1, by rw [← hbd]; exact h4.2⟩
      · exact fun env4 S4 σ4 H4 h4 k4 re4 s4 => l.nx env4 S4 σ4 H4 h4 (k1.trans (kk.trans k4)) re4 s4
      · exact fun env4 S4 σ4 H4 h4 k4 re4 s4 => ⟨env4, S4, kk.trans k4, re4, s4, h4.1, by rw [← hbd]; exact h4.2⟩
    · refine .inl ⟨(dr H2 S2 i k2 s2 g2).2 (by omega), ?_⟩
      rw [List.drop_of_length_le (by omega)] at run
      exact l.nx env2 S2 σ2 H2 run (k1.trans k2) re2 s2
theorem qs_while (hx : PassesOwn (model X.prog X.w) X.A X.env X.xe) (hc : QT X c tA) (hb : QSs X body t) :
    QS X (.While c body [] pos) (fun E env S => ∃ n, whRun tA (fun env1 S1 N => t { nx := N, ct := N, bk := E.nx, rt := E.rt } env1 S1) E.nx n env S) :=
  (ps_while hx hc hb).weak fun D' σ H ⟨env, S, E, re, so, ⟨n, h⟩, l⟩ => by
    generalize hbd : (fun (env1 : En) (S1 : Sto) (N : En → Sto → Prop) => t { nx := N, ct := N, bk := E.nx, rt := E.rt } env1 S1) = bd at h
    refine ⟨fun m σ2 H2 => ∃ env2 S2, Keep H H2 ∧ RelE X.K H2 env2 σ2 ∧ StoOk X.K H2 S2 ∧ whRun tA bd E.nx m env2 S2, ⟨n, env, S, .refl, re, so, h⟩, ?_⟩
    rintro m σ2 H2 ⟨env2, S2, k2, re2, s2, run⟩
    cases m with
    | zero => exact run.elim
    | succ m =>
      simp only [whRun] at run
      refine ⟨env2, S2, _, re2, s2, run, fun z S3 H3 h3 k3 s3 => ?_⟩
      have kk := k2.trans k3
      cases z with
      | false =>
        simp only [Bool.false_eq_true, if_false] at h3 ⊢
        exact l.nx env2 S3 σ2 H3 h3 kk (re2.mono k3) s3
      | true =>
        simp only [if_true] at h3 ⊢
        refine ⟨fun σ4 H4 => ∃ env4 S4, Keep H H4 ∧ RelE X.K H4 env4 σ4 ∧ StoOk X.K H4 S4 ∧ whRun tA bd E.nx m env4 S4, fun σ4 H4 z => ⟨m, Nat.lt_succ_self _, z⟩, ?_⟩
        rw [← hbd] at h3
        refine ⟨env2, S3, _, re2.mono k3, s3, h3, ?_, ?_, ?_, l.rt.keep kk⟩
        · exact fun env4 S4 σ4 H4 h4 k4 re4 s4 => ⟨env4, S4, kk.trans k4, re4, s4, by rw [← hbd]; exact h4⟩
        · exact fun env4 S4 σ4 H4 h4 k4 re4 s4 => l.nx env4 S4 σ4 H4 h4 (kk.trans k4) re4 s4
        · exact fun env4 S4 σ4 H4 h4 k4 re4 s4 => ⟨env4, S4, kk.trans k4, re4, s4, by rw [← hbd]; exact h4⟩
theorem qs_par {j k : Nat} {x y : Str} {ea eb : Expr} {ta tb : TD} {px py pt pt2 : Pos} {kt k2 : Nat} (hc : X.calm = true) (hN : X.N.Nodup) (hi : X.N[j]? = some x) (hj : X.N[k]? = some y) (hij : j ≠ k)
    (hx : X.env.scope.names.lookup x = some .local) (hy : X.env.scope.names.lookup y = some .local) (ha : QA X [ea, eb] (fun env S Q => ta env S fun v S1 => tb env S1 fun w S2 => Q [v, w] S2))
    (hw : swappedStores [.Tuple [.Name x px, .Name y py] kt pt] (.Tuple [ea, eb] k2 pt2) X.env = pure (some [x, y])) (hs : swapsWithSole [.Tuple [.Name x px, .Name y py] kt pt] (.Tuple [ea, eb] k2 pt2) pos.line X.env = pure false) :
    QS X (.Assign [.Tuple [.Name x px, .Name y py] kt pt] (.Tuple [ea, eb] k2 pt2) pos) (fun E env S => ta env S fun v S1 => tb env S1 fun w S2 => E.nx ((env.set j (some v)).set k (some w)) S2) :=
  (ps_par hc hN hi hj hij hx hy ha hw hs).weak fun D' σ H ⟨env, S, E, re, so, h, l⟩ => ⟨env, S, on2 fun v w S2 => E.nx ((env.set j (some v)).set k (some w)) S2, re, so, h, fun ds S1 vs H1 h1 k1 r1 s1 => by
    obtain ⟨v, w, rfl, z1⟩ := on2_inv h1
    simp only [Reps] at r1
    obtain ⟨u, _, rfl, ru, u2, _, rfl, ru2, rfl⟩ := r1
    exact ⟨u, u2, rfl, l.nx _ S1 _ H1 z1 k1 (((re.mono k1).set ru).set ru2) s1⟩⟩
def on3 (f : D → D → D → Sto → Prop) : List D → Sto → Prop
  | [x, y, z], S => f x y z S
  | _, _ => False
theorem on3_inv {f : D → D → D → Sto → Prop} {ds : List D} {S : Sto} (h : on3 f ds S) : ∃ x y z, ds = [x, y, z] ∧ f x y z S := by
  unfold on3 at h
  split at h
  · exact ⟨_, _, _, rfl, h⟩
  · exact h.elim
theorem qs_par3 {j k m : Nat} {x y z : Str} {ea eb ec : Expr} {ta tb tc : TD} {px py pz pt pt2 : Pos} {kt k2 : Nat} (hc : X.calm = true) (hN : X.N.Nodup) (hi : X.N[j]? = some x) (hj : X.N[k]? = some y) (hl : X.N[m]? = some z) (hij : j ≠ k) (hil : j ≠ m) (hjl : k ≠ m)
    (hx : X.env.scope.names.lookup x = some .local) (hy : X.env.scope.names.lookup y = some .local) (hz : X.env.scope.names.lookup z = some .local) (ha : QA X [ea, eb, ec] (fun env S Q => ta env S fun v S1 => tb env S1 fun w S2 => tc env S2 fun w' S3 => Q [v, w, w'] S3))
    (hw : swappedStores [.Tuple [.Name x px, .Name y py, .Name z pz] kt pt] (.Tuple [ea, eb, ec] k2 pt2) X.env = pure (some [x, y, z])) (hs : swapsWithSole [.Tuple [.Name x px, .Name y py, .Name z pz] kt pt] (.Tuple [ea, eb, ec] k2 pt2) pos.line X.env = pure false) :
    QS X (.Assign [.Tuple [.Name x px, .Name y py, .Name z pz] kt pt] (.Tuple [ea, eb, ec] k2 pt2) pos) (fun E env S => ta env S fun v S1 => tb env S1 fun w S2 => tc env S2 fun w' S3 => E.nx (((env.set j (some v)).set k (some w)).set m (some w')) S3) :=
  (ps_par3 hc hN hi hj hl hij hil hjl hx hy hz ha hw hs).weak fun D' σ H ⟨env, S, E, re, so, h, l⟩ => ⟨env, S, on3 fun v w w' S2 => E.nx (((env.set j (some v)).set k (some w)).set m (some w')) S2, re, so, h, fun ds S1 vs H1 h1 k1 r1 s1 => by
    obtain ⟨v, w, w', rfl, z1⟩ := on3_inv h1
    simp only [Reps] at r1
    obtain ⟨u, _, rfl, ru, u2, _, rfl, ru2, u3, _, rfl, ru3, rfl⟩ := r1
    exact ⟨u, u2, u3, rfl, l.nx _ S1 _ H1 z1 k1 ((((re.mono k1).set ru).set ru2).set ru3) s1⟩⟩
end
end G57
set_option Elab.async false
set_option linter.all false
set_option maxRecDepth 100000
set_option maxHeartbeats 1000000
namespace G57
open PySem L2 PySem.Spec PyProof.Rows
structure Good (X : Cx) (Γ : Gam) (Φ : Tab) (k : Nat) : Prop where
  hN : X.N = Γ.N
  sc : X.env.scope = Γ.sc
  nd : Γ.N.Nodup
  kd : Γ.sc.kind = .function
  calm : X.calm = true
  room : Room k X.A
  gd : X.A.guards = some []
  xe : X.xe = fun _ _ => False
  st : ∀ x ∈ Γ.st, Loc Γ.sc x ∧ (X.fn x = true ∨ Γ.sc.names.lookup x = some .local)
  bs : ∀ x ∈ Γ.bs, X.mg x = none
  fs : ∀ f i sp, vix Γ.fs f = some i → Φ i = some sp → ∃ a fd ps, X.mg f = some (.ref a) ∧ PySem.W.keepIn X.K (.ref a) = true ∧ Binds X.K fd ps [] ∧
    FnG X.prog X.w X.K X.mg X.base k a fd ps (liftSp X.K ps.length sp) ∧ ∀ ds S Q, sp ds S Q → ds.length = ps.length
  cs : ∀ x d, Γ.cs.lookup x = some d → ∃ v u, X.mg x = some u ∧ RelV v u ∧ ∀ H, Rep X.K H d v
theorem two {α β γ : Type} {a : Option α} {b : Option β} {f : α → β → γ} {c : γ} (h : opt2 a b f = some c) : ∃ x y, a = some x ∧ b = some y ∧ c = f x y := by
  cases a with
  | none => cases h
  | some x => cases b with
    | none => cases h
    | some y => cases h; exact ⟨x, y, rfl, rfl, rfl⟩
theorem three {α β δ γ : Type} {a : Option α} {b : Option β} {d : Option δ} {f : α → β → δ → γ} {c : γ} (h : opt3 a b d f = some c) : ∃ x y z, a = some x ∧ b = some y ∧ d = some z ∧ c = f x y z := by
  cases a with
  | none => cases h
  | some x => cases b with
    | none => cases h
    | some y => cases d with
      | none => cases h
      | some z => cases h; exact ⟨x, y, z, rfl, rfl, rfl, rfl⟩
theorem lc_inv {Γ : Gam} {scope : Scope} {own : Option (List (Str × Nat))} {p : Option Pt} {i c x : Option Ex} {ir : Ex} (h : optLc Γ scope own p i c x = some ir) :
    ∃ o p' i' c' x', own = some o ∧ p = some p' ∧ i = some i' ∧ c = some c' ∧ x = some x' ∧ blkC Γ.N Γ.sc scope o = true ∧ ir = .lc (o.map (·.2)) p' i' c' x' := by
  unfold optLc at h
  split at h
  · split at h
    · cases h; exact ⟨_, _, _, _, _, rfl, rfl, rfl, rfl, rfl, by assumption, rfl⟩
    · cases h
  · cases h
theorem vix_get : ∀ {N : List Str} {x : Str} {i : Nat}, vix N x = some i → N[i]? = some x
  | [], _, _, h => by simp [vix] at h
  | y :: ys, x, i, h => by
    unfold vix at h
    by_cases e : y = x
    · rw [if_pos e] at h; cases h; simp [e]
    · rw [if_neg e] at h
      obtain ⟨j, e2, rfl⟩ := Option.map_eq_some_iff.mp h
      rw [List.getElem?_cons_succ]
      exact vix_get e2
theorem vis_of {sc : Scope} {x : Str} (h : visB sc x = true) : Vis sc x := by
  unfold visB at h
  split at h
  · exact .inl (by assumption)
  · exact .inr (.inl (by assumption))
  · exact .inr (.inr (by assumption))
  · cases h
theorem gl_of {sc : Scope} {x : Str} (h : glB sc x = true) : sc.names.lookup x = some .globalImplicit := by
  unfold glB at h
  split at h
  · assumption
  · cases h
theorem plain_of {x : Str} (h : plainName x = true) : (x == ("__debug__" : Str)) = false ∧ (x == ("__classdict__" : Str)) = false ∧ x ≠ ("__name__" : Str) := by
  unfold plainName at h
  simp only [Bool.and_eq_true, Bool.not_eq_true'] at h
  exact ⟨h.1.1, h.1.2, by have := h.2; exact fun e => by rw [e] at this; simp at this⟩
theorem star_cons {e : Expr} {es : List Expr} {env : Env} (h : starry e = false) : starEach (e :: es) env = (false, eval e env) :: starEach es env := by
  cases e <;> first | rfl | (simp [starry] at h)
theorem trA_star {n : Nat} {Γ : Gam} {e : Expr} {es : List Expr} {ir : Ex} (h : trA n Γ (e :: es) = some ir) : starry e = false := by
  cases n with
  | zero => simp [trA] at h
  | succ n =>
    simp only [trA] at h
    cases z : starry e with
    | false => rfl
    | true => rw [z] at h; simp at h
theorem trA_any : ∀ {es : List Expr} {n : Nat} {Γ : Gam} {ir : Ex} {env : Env} {pos : Pos}, trA n Γ es = some ir → (backTo pos (starEach es env)).any (·.1) = false
  | [], _, _, _, _, _, _ => rfl
  | e :: es, 0, _, _, _, _, h => by simp [trA] at h
  | e :: es, n + 1, Γ, ir, env, pos, h => by
    have hs := trA_star h
    simp only [trA, hs, Bool.false_eq_true, if_false] at h
    rw [star_cons hs]
    obtain ⟨x, y, h1, h2, _⟩ := two h
    show ((backTo pos [(false, eval e env)]).any (·.1) || (backTo pos (starEach es env)).any (·.1)) = false
    rw [trA_any h2]
    rfl
theorem trA_all {es : List Expr} {n : Nat} {Γ : Gam} {ir : Ex} {env : Env} {pos : Pos} (h : trA n Γ es = some ir) : (backTo pos (starEach es env)).all (fun x => !x.1) = true := by
  have := trA_any (env := env) (pos := pos) h
  rw [List.all_eq_not_any_not]
  simp only [Bool.not_not]
  rw [this]; rfl
theorem trA_tail {e : Expr} {es : List Expr} {n : Nat} {Γ : Gam} {ir : Ex} {env : Env} {pos : Pos} (h : trA n Γ (e :: es) = some ir) : (backTo pos (starEach es env)).any (·.1) = false := by
  have := trA_any (env := env) (pos := pos) h
  rw [star_cons (trA_star h)] at this
  have z : (false || (backTo pos (starEach es env)).any (·.1)) = false := this
  simpa using z
theorem plainIx_of {n : Nat} {Γ : Gam} {b : Expr} {ir : Ex} (h : trE n Γ b = some ir) : PlainIx b := by
  intro o i
  cases b <;> first | rfl | (cases n <;> simp [trE] at h)
theorem folded_of {e : Expr} {env : Env} (h : setish e = false) : ∀ x, foldedSetIterable e env x = pure x := by
  intro x
  cases e <;> first | rfl | (simp [setish] at h)
theorem marks_of {op : CmpOp} {b : Expr} (h : setish b = false) : behindInMarks op b = false := by
  cases b <;> first | rfl | (simp [setish] at h)
theorem lmarks_of {o1 o2 : CmpOp} {b c : Expr} (h : setish c = false) : lastMarks [o1, o2] [b, c] = false := by
  show behindInMarks o2 c = false
  exact marks_of h
theorem base_of {o : Expr} {attr : Str} {env : Env} {whole : Sem Value} (h : superish o = false) : attributeBase o attr env whole = whole := by
  cases o <;> try rfl
  rename_i f as ks pos
  cases f <;> try rfl
  cases as <;> try rfl
  cases ks <;> first | rfl | (simp [superish] at h)
def ptLen : Pt → Nat
  | .cons _ r => ptLen r + 1
  | _ => 0
theorem wpPs_length : ∀ (p : Pt) (ds : List D) (S : Sto) (env : En) (Q : En → Prop), wpPs p ds S env Q → ds.length = ptLen p
  | .nil, [], _, _, _, _ => rfl
  | .nil, _ :: _, _, _, _, h => by simp [wpPs] at h
  | .cons a r, [], _, _, _, h => by simp [wpPs] at h
  | .v _, ds, _, _, _, h => by cases ds <;> simp [wpPs] at h
  | .t _, ds, _, _, _, h => by cases ds <;> simp [wpPs] at h
  | .cons a r, d :: ds, S, env, Q, h => by
    simp only [wpPs] at h
    have key : ∀ (q : Pt) (d : D) (S : Sto) (env : En) (R : En → Prop), wpP q d S env R → ∃ env', R env' := by
      intro q
      have both : (∀ (d : D) (S : Sto) (env : En) (R : En → Prop), wpP q d S env R → ∃ env', R env') ∧ ∀ (ds : List D) (S : Sto) (env : En) (R : En → Prop), wpPs q ds S env R → ∃ env', R env' := by
        induction q with
        | v i => exact ⟨fun d S env R h => ⟨_, h⟩, fun ds S env R h => by cases ds <;> simp [wpPs] at h⟩
        | t p ih => exact ⟨fun d S env R h => by simp only [wpP] at h; obtain ⟨ds, _, h⟩ := h; exact ih.2 ds S env R h, fun ds S env R h => by cases ds <;> simp [wpPs] at h⟩
        | nil => exact ⟨fun d S env R h => by simp [wpP] at h, fun ds S env R h => by
            cases ds with
            | nil => exact ⟨env, by simpa [wpPs] using h⟩
            | cons _ _ => simp [wpPs] at h⟩
        | cons a r ih1 ih2 => exact ⟨fun d S env R h => by simp [wpP] at h, fun ds S env R h => by
            cases ds with
            | nil => simp [wpPs] at h
            | cons d ds =>
              simp only [wpPs] at h
              obtain ⟨env', h'⟩ := ih1.1 d S env _ h
              exact ih2.2 ds S env' R h'⟩
      exact both.1
    obtain ⟨env', h'⟩ := key a d S env _ h
    rw [List.length_cons, wpPs_length r ds S env' Q h']
    rfl
end G57
set_option Elab.async false
set_option linter.all false
set_option maxRecDepth 100000
set_option maxHeartbeats 1000000
namespace G57
open PySem L2 PySem.Spec PyProof.Rows
theorem pt_plain {n : Nat} {Γ : Gam} {e : Expr} {p : Pt} (h : ptOf n Γ e = some p) : starry e = false := by
  cases n with
  | zero => simp [ptOf] at h
  | succ n => cases e <;> first | rfl | simp [ptOf] at h
theorem each_cons {e : Expr} {es : List Expr} {env : Env} (h : starry e = false) : assignEach (e :: es) env = (false, assign e env) :: assignEach es env := by
  cases e <;> first | rfl | (simp [starry] at h)
theorem pt_snd : ∀ (n : Nat) {X : Cx} {Γ : Gam} {Φ : Tab} {k : Nat} {tg : Expr} {p : Pt}, Good X Γ Φ k → ptOf n Γ tg = some p → PG X tg (liftG X.K p)
  | 0, _, _, _, _, _, _, _, h => by simp [ptOf] at h
  | n + 1, X, Γ, Φ, k, tg, p, g, h => by
    have lists : ∀ (es : List Expr) (q : Pt), es.foldr (fun e r => match ptOf n Γ e, r with | some a, some b => some (.cons a b) | _, _ => none) (some .nil) = some q →
        PGs X es (liftGs X.K q) ∧ (assignEach es X.env).length = es.length ∧ (assignEach es X.env).findIdx? (·.1) = none ∧ ptLen q = es.length := by
      intro es
      induction es with
      | nil => intro q h; cases h; exact ⟨qgs_nil, rfl, rfl, rfl⟩
      | cons e es ih =>
        intro q h
        rw [List.foldr_cons] at h
        cases h1 : ptOf n Γ e with
        | none => rw [h1] at h; cases h
        | some a =>
          rw [h1] at h
          cases h2 : es.foldr (fun e r => match ptOf n Γ e, r with | some a, some b => some (Pt.cons a b) | _, _ => none) (some .nil) with
          | none => rw [h2] at h; cases h
          | some b =>
            rw [h2] at h; cases h
            obtain ⟨i1, i2, i3, i4⟩ := ih b h2
            have hs := pt_plain h1
            refine ⟨qgs_cons (pt_snd n g h1) i1 (by rw [each_cons hs]; rfl), by rw [each_cons hs, List.length_cons, i2, List.length_cons], ?_, by rw [List.length_cons, ← i4]; rfl⟩
            rw [each_cons hs, List.findIdx?_cons, i3]
            rfl
    cases tg with
    | Name x pos =>
      simp only [ptOf] at h
      split at h
      · rename_i hc
        rw [Bool.and_eq_true] at hc
        obtain ⟨i, e1, rfl⟩ := Option.map_eq_some_iff.mp h
        obtain ⟨s1, s2⟩ := g.st x (by simpa using hc.1)
        exact qg_name (by rw [g.hN]; exact g.nd) (by rw [g.hN]; exact vix_get e1) (by rw [g.sc]; exact s1) (by rw [g.sc]; exact s2)
      · cases h
    | Tuple es kk pos =>
      simp only [ptOf] at h
      obtain ⟨q, e1, rfl⟩ := Option.map_eq_some_iff.mp h
      obtain ⟨i1, i2, i3, i4⟩ := lists es q e1
      exact qg_tup (n := es.length) g.calm i1 i2 i3 fun ds S env Qe hw => (wpPs_length q ds S env Qe hw).trans i4
    | _ => simp [ptOf] at h
theorem own_places : ∀ (n : Nat) {Γ Δ : Gam} {tg : Expr} {p : Pt} {own : List (Str × Nat)}, Γ.N = Δ.N → ptOf n Δ tg = some p → ownOf n Γ tg = some own → ∀ i ∈ places p, i ∈ own.map (·.2)
  | 0, _, _, _, _, _, _, h, _ => by simp [ptOf] at h
  | n + 1, Γ, Δ, tg, p, own, eN, h, ho => by
    have lists : ∀ (es : List Expr) (q : Pt) (ow : List (Str × Nat)), es.foldr (fun e r => match ptOf n Δ e, r with | some a, some b => some (.cons a b) | _, _ => none) (some .nil) = some q →
        es.foldr (fun e r => match ownOf n Γ e, r with | some a, some b => some (a ++ b) | _, _ => none) (some []) = some ow → ∀ i ∈ places q, i ∈ ow.map (·.2) := by
      intro es
      induction es with
      | nil => intro q ow h _ i hi; cases h; simp [places] at hi
      | cons e es ih =>
        intro q ow h ho i hi
        rw [List.foldr_cons] at h ho
        cases h1 : ptOf n Δ e with
        | none => rw [h1] at h; cases h
        | some a =>
          rw [h1] at h
          cases h2 : es.foldr (fun e r => match ptOf n Δ e, r with | some a, some b => some (Pt.cons a b) | _, _ => none) (some .nil) with
          | none => rw [h2] at h; cases h
          | some b =>
            rw [h2] at h; cases h
            cases o1 : ownOf n Γ e with
            | none => rw [o1] at ho; cases ho
            | some a' =>
              rw [o1] at ho
              cases o2 : es.foldr (fun e r => match ownOf n Γ e, r with | some a, some b => some (a ++ b) | _, _ => none) (some []) with
              | none => rw [o2] at ho; cases ho
              | some b' =>
                rw [o2] at ho; cases ho
                simp only [places, List.mem_append] at hi
                rw [List.map_append, List.mem_append]
                rcases hi with hi | hi
                · exact .inl (own_places n eN h1 o1 i hi)
                · exact .inr (ih b b' h2 o2 i hi)
    cases tg with
    | Name x pos =>
      simp only [ptOf] at h
      simp only [ownOf] at ho
      split at h
      · obtain ⟨i, e1, rfl⟩ := Option.map_eq_some_iff.mp h
        obtain ⟨j, e2, rfl⟩ := Option.map_eq_some_iff.mp ho
        rw [eN, e1] at e2; cases e2
        intro z hz
        simpa [places] using hz
      · cases h
    | Tuple es kk pos =>
      simp only [ptOf] at h
      simp only [ownOf] at ho
      obtain ⟨q, e1, rfl⟩ := Option.map_eq_some_iff.mp h
      exact lists es q own e1 ho
    | _ => simp [ptOf] at h
theorem good_blk {X : Cx} {Γ : Gam} {Φ : Tab} {k : Nat} (g : Good X Γ Φ k) {scope : Scope} {own : List (Str × Nat)} (ok : BlkOk X.N X.env.scope scope own) (s : Shared) (H : Hp) (C : Addr) (cl : List (Str × Addr)) (fp : List Addr) :
    Good (X.blk s H scope (compEnvC scope cl C X.env) fp) (blk Γ scope) Φ k where
  hN := g.hN
  sc := by
    show relS scope X.env.scope = relS scope Γ.sc
    rw [g.sc]
  nd := g.nd
  kd := ok.kind
  calm := g.calm
  room := g.room
  gd := g.gd
  xe := rfl
  st := fun x hx => by
    obtain ⟨y, hy, rfl⟩ := List.mem_map.mp hx
    obtain ⟨hm, hk⟩ := List.mem_filter.mp hy
    have hu := ok.uniq y hm
    have hk' : y.2 = .local ∨ y.2 = .cell := by
      rcases Bool.or_eq_true_iff.mp hk with z | z
      · exact .inl (by revert z; cases y.2 <;> decide)
      · exact .inr (by revert z; cases y.2 <;> decide)
    have nf : y.2 ≠ .free := by rcases hk' with z | z <;> (rw [z]; decide)
    have lk : (relS scope Γ.sc).names.lookup y.1 = some y.2 := lookup_relS_keep nf hu
    rcases hk' with z | z
    · rw [z] at lk; exact ⟨.inl lk, .inr lk⟩
    · rw [z] at lk hu
      exact ⟨.inr lk, .inl (by show (scope.names.lookup y.1 == some .cell) = true; rw [hu]; decide)⟩
  bs := g.bs
  fs := g.fs
  cs := g.cs
end G57
set_option Elab.async false
set_option linter.all false
set_option maxRecDepth 100000
set_option maxHeartbeats 2000000
namespace G57
open PySem L2 PySem.Spec PyProof.Rows
structure Snd (n : Nat) : Prop where
  e : ∀ {X : Cx} {Γ : Gam} {Φ : Tab} {k : Nat} {e : Expr} {ir : Ex}, Good X Γ Φ k → trE n Γ e = some ir → QE X e (wpE Φ ir)
  t : ∀ {X : Cx} {Γ : Gam} {Φ : Tab} {k : Nat} {e : Expr} {ir : Ex}, Good X Γ Φ k → trE n Γ e = some ir → QT X e (wpT Φ ir)
  w : ∀ {X : Cx} {Γ : Gam} {Φ : Tab} {k : Nat} {op : BoolOp} {es : List Expr} {p : Pos} {ir : Ex}, Good X Γ Φ k → trE n Γ (.BoolOp op es p) = some ir → QW X (.BoolOp op es p) (wpT Φ ir)
  a : ∀ {X : Cx} {Γ : Gam} {Φ : Tab} {k : Nat} {es : List Expr} {ir : Ex}, Good X Γ Φ k → trA n Γ es = some ir → QA X es (wpA Φ ir)
  o : ∀ {X : Cx} {Γ : Gam} {Φ : Tab} {k : Nat} {e : Option Expr} {ir : Ex}, Good X Γ Φ k → trO n Γ e = some ir → PO X e (liftO X.K (wpO Φ ir))
  c : ∀ {X : Cx} {Γ : Gam} {Φ : Tab} {k : Nat} {es : List Expr} {ir : Ex}, Good X Γ Φ k → trC n Γ es = some ir → PTs X es (liftT X.K (wpC Φ ir))
  i : ∀ {X : Cx} {Γ : Gam} {Φ : Tab} {k : Nat} {tg e : Expr} {ir : Ex}, Good X Γ Φ k → trI n Γ (tupleT tg) e = some ir → QI X tg e (wpI Φ ir)
  j : ∀ {X : Cx} {Γ : Gam} {Φ : Tab} {k : Nat} {es : List Expr} {ir : Ex}, Good X Γ Φ k → trJ n Γ es = some ir → QJ X es (wpJ Φ ir)
theorem no_t {X : Cx} {e : Expr} : QT X e (fun _ _ _ => False) := ⟨fun _ _ _ _ _ _ ⟨_, _, _, _, _, h, _⟩ => h.elim⟩
section
variable {X : Cx} {Γ : Gam} {Φ : Tab} {k : Nat}
theorem Good.units (g : Good X Γ Φ k) : X.A.units + 64 < cLine := g.room.units
theorem Good.gl (g : Good X Γ Φ k) {x : Str} (h : glB Γ.sc x = true) : Gl X x := by
  show X.env.scope.names.lookup x = some .globalImplicit
  rw [g.sc]; exact gl_of h
theorem opD_ok (op : Operator) : OpR X (binaryOp op) (liftR2 X.K (opD op)) := by
  cases op with
  | Add => exact addD_ok
  | Sub => exact subD_ok
  | Mult => exact mulD_ok
  | FloorDiv => exact fdivD_ok
  | Mod => exact modD_ok
  | Pow => exact powD_ok
  | _ => exact fun pins s σ H x y v u Q I rx ry ⟨_, _, _, _, _, _, _, h, _⟩ => h.elim
theorem snd_name (g : Good X Γ Φ k) {n : Nat} {x : Str} {p : Pos} {ir : Ex} (h : trE (n + 1) Γ (.Name x p) = some ir) : QE X (.Name x p) (wpE Φ ir) := by
  simp only [trE] at h
  split at h
  · cases h
  · rename_i hp
    obtain ⟨p1, p2, p3⟩ := plain_of (by simpa using hp)
    split at h
    · rename_i hv
      obtain ⟨i, e1, rfl⟩ := Option.map_eq_some_iff.mp h
      simp only [wpE]
      exact q_var (by rw [g.hN]; exact vix_get e1) (by rw [g.sc]; exact vis_of hv) p1 p2
    · split at h
      · rename_i hg
        obtain ⟨d, e1, rfl⟩ := Option.map_eq_some_iff.mp h
        obtain ⟨v, u, e2, r, rd⟩ := g.cs x d e1
        simp only [wpE]
        exact q_con (pe_glob (g.gl hg) e2 r p1) rd
      · cases h
theorem kitB_of {k T : String} (hk : k ∈ ["NoneType", "bool", "int", "str", "tuple", "list"]) (hT : T ∈ ["int", "bool", "str", "tuple", "list"]) : kitB k T = some (isK k T) := by
  have : ∀ k ∈ ["NoneType", "bool", "int", "str", "tuple", "list"], ∀ T ∈ ["int", "bool", "str", "tuple", "list"], kitB k T = some (isK k T) := by decide +kernel
  exact this k hk T hT
theorem kind_mem {S : Sto} {d : D} {k : String} (h : kindD S d = some k) : k ∈ ["NoneType", "bool", "int", "str", "tuple", "list"] := by
  cases d with
  | ref p =>
    simp only [kindD] at h
    split at h
    · cases h; simp
    · cases h
  | _ => simp only [kindD] at h; cases h; simp
theorem ty_rep {K : PySem.W.Frag} {H : Hp} {S : Sto} (so : StoOk K H S) {d : D} {v : V} {k : String} (r : Rep K H d v) (h : kindD S d = some k) : TyX K H v (.type k) := by
  cases d with
  | non => simp only [Rep] at r; simp only [kindD] at h; cases h; subst r; exact .base .non
  | bl b => simp only [Rep] at r; simp only [kindD] at h; cases h; subst r; exact .base (.bl b)
  | int i => simp only [Rep] at r; simp only [kindD] at h; cases h; subst r; exact .base (.int i)
  | str x => simp only [Rep] at r; simp only [kindD] at h; cases h; subst r; exact .base (.str _)
  | tup ds =>
    simp only [kindD] at h; cases h
    obtain ⟨a, vs, rfl, q, _⟩ := r.tup_inv
    rcases q with (q | ⟨o, q⟩) | ⟨o, _, _, q, c, _⟩
    · exact .base (.tup q)
    · exact .fTuple q
    · exact .kTuple q c
  | rol ds =>
    simp only [kindD] at h; cases h
    obtain ⟨a, vs, rfl, q, _⟩ := r.rol_inv
    rcases q.sq with (q | ⟨o, q⟩) | ⟨o, _, _, q, c, _⟩
    · exact .base (.lst q)
    · exact .base (.frz q)
    · exact .kList q c
  | ref p =>
    simp only [Rep] at r
    subst r
    simp only [kindD] at h
    split at h
    · rename_i es e
      cases h
      obtain ⟨vs, q, _⟩ := so p _ e
      exact .base (.lst q)
    · cases h
theorem isi_inv {Γ : Gam} {as : List Expr} {b : Bi} (h : isiOf Γ as = some b) : ∃ T p, as = [.Name T p] ∧ T ∈ tyNames ∧ glB Γ.sc T = true ∧ T ∈ Γ.bs ∧ b = .isi (tyStr T) := by
  unfold isiOf at h
  split at h
  · split at h
    · rename_i T p hc
      cases h
      simp only [Bool.and_eq_true, List.contains_iff_mem] at hc
      exact ⟨T, p, rfl, hc.1.1, hc.1.2, hc.2, rfl⟩
    · cases h
  · cases h
theorem bt_isi : bootBuiltins "isinstance" = some (.builtin "isinstance") := by decide +kernel
theorem bt_ty {T : Str} (h : T ∈ tyNames) : bootBuiltins T = some (.type (tyStr T)) ∧ T ≠ "__name__" ∧ (T == ("__debug__" : Str)) = false ∧ tyStr T ∈ ["int", "bool", "str", "tuple", "list"] := by
  have : ∀ T ∈ tyNames, bootBuiltins T = some (.type (tyStr T)) ∧ T ≠ "__name__" ∧ (T == ("__debug__" : Str)) = false ∧ tyStr T ∈ ["int", "bool", "str", "tuple", "list"] := by decide +kernel
  exact this T h
theorem q_isi (g : Good X Γ Φ k) {a : Expr} {ta : TD} {T : Str} {p p2 pos : Pos} (hT : T ∈ tyNames) (hg : Gl X "isinstance") (hm : X.mg "isinstance" = none) (hgT : Gl X T) (hmT : X.mg T = none) (ha : QE X a ta)
    (he : starEach [a, .Name T p2] X.env = (false, eval a X.env) :: starEach [.Name T p2] X.env) :
    QE X (.Call (.Name "isinstance" p) [a, .Name T p2] [] pos) (fun env S Q => ta env S fun x S1 => isiD (tyStr T) [x] S1 Q) := by
  obtain ⟨b1, b2, b3, b4⟩ := bt_ty hT
  have hty : PE X (.Name T p2) (tC (.ty (tyStr T))) := pe_bltn hgT hmT b1 rfl b2 b3
  refine (pe_callB call_isi hg hm bt_isi (pa_cons ha (pa_cons hty pa_nil rfl) he) (by decide) (by decide) he rfl).weak fun σ H Q ⟨env, S, Qd, re, so, h, l⟩ => ?_
  refine ⟨env, S, _, re, so, h, fun x S1 v H1 h1 k1 r1 s1 => ?_⟩
  obtain ⟨kk, e1, h1⟩ := h1
  exact ⟨v, .ty (tyStr T), .type kk, .type (tyStr T), isK kk (tyStr T), rfl, .ty _, ty_rep s1 r1 e1, kit_ty (kitB_of (kind_mem e1) b4), l _ S1 _ H1 h1 k1 .bl s1⟩
theorem snd_call {n : Nat} (S : Snd n) (g : Good X Γ Φ k) {f : Str} {fp pos : Pos} {a : Expr} {as : List Expr} {ir : Ex} (h : trE (n + 1) Γ (.Call (.Name f fp) (a :: as) [] pos) = some ir) : QE X (.Call (.Name f fp) (a :: as) [] pos) (wpE Φ ir) := by
  simp only [trE] at h
  split at h
  · cases h
  · rename_i hp
    simp only [Bool.or_eq_true, Bool.not_eq_true', not_or, Bool.not_eq_false] at hp
    obtain ⟨p1, p2, p3⟩ := plain_of hp.1
    split at h
    · rename_i hf
      subst hf
      split at h
      · rename_i hb
        simp only [Bool.and_eq_true, Bool.not_eq_true', List.contains_iff_mem] at hb
        obtain ⟨b, x, e1, e2, rfl⟩ := two h
        obtain ⟨T, pT, rfl, t1, t2, t3, rfl⟩ := isi_inv e1
        simp only [wpE, wpA, biD]
        exact q_isi g t1 (g.gl hp.2) (g.bs _ hb.1) (g.gl t2) (g.bs T t3) (S.e g e2) (star_cons hb.2)
      · cases h
    split at h
    · rename_i hb
      obtain ⟨b, xs, e1, e2, rfl⟩ := two h
      simp only [wpE]
      exact q_bi g.calm g.gd g.units e1 (g.gl hp.2) (g.bs f (by simpa using hb)) (S.a g e2) p3 p1 (star_cons (trA_star e2)) (trA_tail e2)
    · obtain ⟨fi, xs, hf, e2, rfl⟩ := two h
      simp only [wpE]
      cases hsp : Φ fi with
      | none => exact ⟨fun pins s σ H Q I ⟨_, _, _, _, _, ⟨sp, z, _⟩, _⟩ => by cases z⟩
      | some sp =>
        obtain ⟨ad, fd, ps, m1, m2, m3, m4, m5⟩ := g.fs f fi sp hf hsp
        exact (q_call m4 g.room g.gd m5 (g.gl hp.2) m1 m2 m3 (S.a g e2) p1 (star_cons (trA_star e2)) (trA_tail e2)).weak fun σ H Q ⟨env, S, Qd, re, so, ⟨sp', z, h⟩, l⟩ => by
          cases z
          exact ⟨env, S, Qd, re, so, h, l⟩
theorem mtOf_inv {x : Str} {m : Mt} (h : mtOf x = some m) : (x = "append" ∧ m = .append) ∨ (x = "extend" ∧ m = .extend) ∨ (x = "pop" ∧ m = .pop) ∨ (x = "join" ∧ m = .join) ∨ (x = "count" ∧ m = .count) := by
  unfold mtOf at h
  by_cases e0 : x = "append"
  · rw [if_pos e0] at h; cases h; exact .inl ⟨e0, rfl⟩
  rw [if_neg e0] at h
  by_cases e1 : x = "extend"
  · rw [if_pos e1] at h; cases h; exact .inr (.inl ⟨e1, rfl⟩)
  rw [if_neg e1] at h
  by_cases e2 : x = "pop"
  · rw [if_pos e2] at h; cases h; exact .inr (.inr (.inl ⟨e2, rfl⟩))
  rw [if_neg e2] at h
  by_cases e3 : x = "join"
  · rw [if_pos e3] at h; cases h; exact .inr (.inr (.inr (.inl ⟨e3, rfl⟩)))
  rw [if_neg e3] at h
  by_cases e4 : x = "count"
  · rw [if_pos e4] at h; cases h; exact .inr (.inr (.inr (.inr ⟨e4, rfl⟩)))
  rw [if_neg e4] at h
  cases h
theorem snd_mt {n : Nat} (S : Snd n) (g : Good X Γ Φ k) {o : Expr} {m : Str} {ap pos : Pos} {as : List Expr} {ir : Ex} (h : trE (n + 1) Γ (.Call (.Attribute o m ap) as [] pos) = some ir) : QE X (.Call (.Attribute o m ap) as [] pos) (wpE Φ ir) := by
  simp only [trE] at h
  split at h
  · cases h
  · rename_i hp
    simp only [Bool.or_eq_true, Bool.not_eq_true', not_or, Bool.not_eq_false, Bool.not_eq_true, decide_eq_false_iff_not, Classical.not_not] at hp
    obtain ⟨⟨h1, h2⟩, h3⟩ := hp
    obtain ⟨mm, x, xs, e1, e2, e3, rfl⟩ := three h
    simp only [wpE]
    have hb := base_of (attr := m) (env := X.env) (whole := eval o X.env) h1
    cases as with
    | nil =>
      have ex : xs = .nil := by
        cases n with
        | zero => simp [trA] at e3
        | succ n => simp only [trA] at e3; cases e3; rfl
      subst ex
      simp only [wpA]
      rcases mtOf_inv e1 with ⟨rfl, rfl⟩ | ⟨rfl, rfl⟩ | ⟨rfl, rfl⟩ | ⟨rfl, rfl⟩ | ⟨rfl, rfl⟩
      · exact q_m0 PySem.F.plainAttrs_list PySem.F.slot_list_append PySem.F.type_list_append appD_ok rfl (S.e g e2) hb h2
      · exact q_m0 PySem.F.plainAttrs_list PySem.F.slot_list_extend PySem.F.type_list_extend extD_ok rfl (S.e g e2) hb h2
      · exact q_m0 PySem.F.plainAttrs_list PySem.F.slot_list_pop PySem.F.type_list_pop popD_ok rfl (S.e g e2) hb h2
      · exact q_m0 PySem.F.plainAttrs_str PySem.F.slot_str_join PySem.F.type_str_join joinD_ok rfl (S.e g e2) hb h2
      · exact q_m0 PySem.F.plainAttrs_str PySem.F.slot_str_count PySem.F.type_str_count countD_ok rfl (S.e g e2) hb h2
    | cons a as =>
      have few : ((backTo pos (starEach (a :: as) X.env)).all (fun x => !x.1) && (backToKw pos (keywordEach [] X.env)).all (fun x => x.1.isSome) && decide ((a :: as).length + ([] : List Keyword).length + (if ([] : List Keyword).isEmpty then 0 else 1) < 30)) = true := by
        rw [trA_all e3]
        show (true && true && decide _) = true
        rw [decide_eq_true (by show (a :: as).length + 0 + 0 < 30; omega)]
        rfl
      have s1 := star_cons (es := as) (env := X.env) (trA_star e3)
      have s2 := trA_tail (env := X.env) (pos := pos) e3
      rcases mtOf_inv e1 with ⟨rfl, rfl⟩ | ⟨rfl, rfl⟩ | ⟨rfl, rfl⟩ | ⟨rfl, rfl⟩ | ⟨rfl, rfl⟩
      · exact q_m1 PySem.F.plainAttrs_list PySem.F.slot_list_append PySem.F.type_list_append appD_ok rfl (S.e g e2) (S.a g e3) hb few h2 s1 s2
      · exact q_m1 PySem.F.plainAttrs_list PySem.F.slot_list_extend PySem.F.type_list_extend extD_ok rfl (S.e g e2) (S.a g e3) hb few h2 s1 s2
      · exact q_m1 PySem.F.plainAttrs_list PySem.F.slot_list_pop PySem.F.type_list_pop popD_ok rfl (S.e g e2) (S.a g e3) hb few h2 s1 s2
      · exact q_m1 PySem.F.plainAttrs_str PySem.F.slot_str_join PySem.F.type_str_join joinD_ok rfl (S.e g e2) (S.a g e3) hb few h2 s1 s2
      · exact q_m1 PySem.F.plainAttrs_str PySem.F.slot_str_count PySem.F.type_str_count countD_ok rfl (S.e g e2) (S.a g e3) hb few h2 s1 s2
end
end G57
set_option Elab.async false
set_option linter.all false
set_option maxRecDepth 100000
set_option maxHeartbeats 2000000
namespace G57
open PySem L2 PySem.Spec PyProof.Rows
section
variable {prog : Program} {w : World} {A : Around} {E : Value → Shared → Prop} {s : Shared}
theorem places_back (n : Nat) : Builtin.Slice.slicePlaces ((n : Int) - 1) (-1) (-1) = n := by
  unfold Builtin.Slice.slicePlaces
  rw [if_neg (by decide)]
  split
  · rw [show (- -1 : Int) = 1 by decide, Int.ediv_one]; omega
  · omega
theorem applied_back {sl : Addr} {v : Value} {n : Nat} {Q : Int × Int × Nat → Shared → Prop} (hs : s.heap.IsSliceOf sl .none .none v) (pv : IsPart v (some (-1)))
    (h : Q ((n : Int) - 1, -1, n) s) : wpAny (model prog w) A (Builtin.Slice.sliceApplied (.ref sl) (pure (n : Int))) Q E s := by
  obtain ⟨os, o1, o2, o3⟩ := id hs
  unfold Builtin.Slice.sliceApplied Builtin.Slice.sliceFields
  refine wpAny_bind (wpAny_bind (wpAny_field o1 o3 (x := .none) rfl (wpAny_bind (wpAny_field o1 o3 (x := .none) rfl (wpAny_bind (wpAny_field o1 o3 (x := v) rfl (wpAny_pure ?_)))))))
  refine wpAny_bind (HT.slicePart_ pv ?_)
  show wpAny _ _ (if ((-1 : Int) == 0) = true then _ else _) _ _ s
  rw [if_neg (by decide)]
  refine wpAny_bind (HT.slicePart_ .none (wpAny_bind (HT.slicePart_ .none (wpAny_bind (wpAny_pure ?_)))))
  show wpAny _ _ (pure ((n : Int) - 1, (-1 : Int), Builtin.Slice.slicePlaces ((n : Int) - 1) (-1) (-1))) _ _ s
  rw [places_back]
  exact wpAny_pure h
theorem pick_back (xs : Array Value) : ((List.range xs.size).filterMap fun (m : Nat) => xs[((xs.size : Int) - 1 + (m : Int) * (-1)).toNat]?).toArray = xs.toList.reverse.toArray := by
  have e : (List.range xs.size).filterMap (fun (m : Nat) => xs[((xs.size : Int) - 1 + (m : Int) * (-1)).toNat]?) = ((List.range xs.size).map fun k => xs.size - 1 - k).filterMap (xs[·]?) := by
    rw [List.filterMap_map]
    congr 1
    funext m
    show xs[_]? = xs[xs.size - 1 - m]?
    congr 1
    omega
  rw [e, PySem.W.krv_range, List.filterMap_reverse, PySem.W.krv_all]
theorem get_tuple_back {t sl : Addr} {items : Array Value} {v : Value} {Q : Value → Shared → Prop} (ht : IsTup s.heap t items) (hs : s.heap.IsSliceOf sl .none .none v) (pv : IsPart v (some (-1)))
    (h : Q (.ref s.heap.objs.size) { s with heap := s.heap.push { cls := .type "tuple", data := .seq items.toList.reverse.toArray } })
    (hsz : items.size ≤ sizeLine) : wpAny (model prog w) A (getItem (.ref t) (.ref sl)) Q E s := by
  have hz : sizeOk (.seq items.toList.reverse.toArray) := by
    show items.toList.reverse.toArray.size ≤ sizeLine
    rw [List.size_toArray, List.length_reverse, Array.length_toList]; exact hsz
  obtain ⟨os, o1, o2, o3⟩ := id hs
  have hT : s.TypeIs (.ref sl) "slice" := ⟨os, o1, o2⟩
  unfold getItem
  try with_reducible refine wpAny_holding ?_
  first | refine wpAny_bind (wpAny_pure ?_) | skip
  refine wpAny_bind (wpAny_sequenceKey ht.typeIs (by decide) ?_)
  refine wpAny_bind (wpAny_callSpecial?_slot (name := Str.ofString "__getitem__") ht.typeIs PyProof.Rows.slot_tuple_getitem
    (wpAny_call_entry PyProof.Rows.slot_tuple_getitem ht.typeIs PyProof.Rows.entry_tuple_getitem ?_ (PyProof.Rows.args_tuple_getitem _ _)))
  show wpAny _ _ (Builtin.Tuple.tupleItemsOf (.ref t) >>= _) _ _ s
  refine wpAny_bind (tupleItemsOf_ ht ?_)
  refine wpAny_bind (wpAny_typeOf hT ?_)
  rw [if_pos (by decide)]
  refine wpAny_bind (applied_back hs pv ?_)
  show wpAny _ _ (if (((items.size : Int) - 1 == 0) && ((-1 : Int) == 1) && _) = true then _ else _) _ _ s
  rw [if_neg (by rw [show ((-1 : Int) == 1) = false from rfl, Bool.and_false, Bool.false_and]; decide), pick_back]
  first
    | exact wpAny_bind (m := Builtin.Tuple.tupleExact _) (wpAny_newObj_type (wpAny_pure ⟨_, rfl, wpAny_pure h⟩) hz)
    | exact wpAny_bind (m := Builtin.Tuple.tupleExact _) (wpAny_newObj_type (wpAny_bind (wpAny_pure (wpAny_pure ⟨_, rfl, wpAny_pure h⟩))) hz)
    | exact wpAny_bind (wpAny_bind (m := Builtin.Tuple.tupleExact _) (wpAny_newObj_type (wpAny_pure (wpAny_pure ⟨_, rfl, wpAny_pure h⟩)) hz))
    | exact wpAny_bind (wpAny_bind (m := Builtin.Tuple.tupleExact _) (wpAny_newObj_type (wpAny_pure ⟨_, rfl, wpAny_pure h⟩) hz))
end
section
variable {X : Cx} {e : Expr} {te : TD}
theorem rev_str (z : List Nat) : (Builtin.Str.strSliceIndices none none (-1) z.length).filterMap (z.toArray[·]?) = z.reverse := by
  show (sliceRange ((z.length : Int) - 1) (-1) (-1)).filterMap _ = _
  rw [PySem.W.krv_sliceRange, PySem.W.krv_range, List.filterMap_reverse]
  have := PySem.W.krv_all z.toArray
  rw [List.size_toArray] at this
  rw [this]
theorem q_rev {k : Nat} {p1 p2 p3 pos : Pos} (he : QE X e te) : QE X (.Subscript e (.Slice none none (some (.UnaryOp .USub (.Constant (.int 1) k p1) p2)) p3) pos) (fun env S Q => te env S fun x S1 => revD [x] S1 Q) := by
  refine ⟨fun pins s σ H Q I ⟨env, S, Qd, re, so, h, l⟩ => ?_⟩
  refine Subscript_ (thn (he.run pins s σ H (fun v H1 => ∃ d S1, te env S (fun x S1 => revD [x] S1 Qd) ∧ Keep H H1 ∧ Rep X.K H1 d v ∧ StoOk X.K H1 S1 ∧ revD [d] S1 Qd) I ⟨env, S, _, re, so, h, fun d S1 v H1 h1 k1 r1 s1 => ⟨d, S1, h, k1, r1, s1, h1⟩⟩) fun v s1 ⟨x, H1, I1, r1, d, S1, _, k1, rd, so1, h1⟩ => ?_)
  have hst : PO X (some (.UnaryOp .USub (.Constant (.int 1) k p1) p2)) (tPart (tUn (rU fun i => .int (-i)) (tC (.int 1)))) := po_some (pe_un un_neg pe_int)
  refine wpAny_Slice (thn (po_none.run pins s1 σ H1 (fun o H2 => o = none ∧ H2 = H1) I1 ⟨rfl, rfl⟩) fun vl s2 ⟨o1, H2, I2, pl, el, e2⟩ => ?_)
  subst el e2
  refine thn (po_none.run pins s2 σ H2 (fun o H3 => o = none ∧ H3 = H2) I2 ⟨rfl, rfl⟩) fun vu s3 ⟨o2, H3, I3, pu, eu, e3⟩ => ?_
  subst eu e3
  refine thn (hst.run pins s3 σ H3 (fun o H4 => o = some (-1) ∧ H4 = H3) I3 ⟨1, rfl, -1, rfl, rfl, rfl⟩) fun vs s4 ⟨o, H4, I4, ps, eo, e4⟩ => ?_
  subst eo e4
  have I5 : Inv X pins σ H4 { s4 with heap := s4.heap.push { cls := .type "slice", data := .fields #[vl, vu, vs] } } := I4.kept (t' := s4.toks) fun b ob q => Heap.get?_push_of_some _ q
  have hsl := Heap.IsSliceOf.new s4.heap vl vu vs
  have evl : vl = .none := by cases pl; rfl
  have evu : vu = .none := by cases pu; rfl
  subst evl evu
  show wpAny (model X.prog X.w) X.A (subscriptTail e (.Slice none none (some (.UnaryOp .USub (.Constant (.int 1) k p1) p2)) p3) v (.ref s4.heap.objs.size)) (EP X pins σ Q) X.xe { s4 with heap := s4.heap.push { cls := .type "slice", data := .fields #[.none, .none, vs] } }
  have l1 := l.keep k1
  cases d <;> try exact h1.elim
  case str xs =>
    simp only [Rep] at rd
    subst rd
    obtain ⟨t, rfl⟩ := r1
    obtain ⟨hz, h1⟩ := h1
    refine tail_any (ops := [.str ⟨xs.toArray⟩ t, .ref s4.heap.objs.size]) (typeIs_str _ _ _) (F.slot_str_getitem.lookup) ?_ (by with_unfolding_all rfl)
    obtain ⟨os, o1, o2, o3⟩ := hsl
    obtain ⟨st, hst1, hst2⟩ := IsPart.raw ps
    subst hst1
    refine wpAny_getItem_str_slice (l := none) (u := none) (st := st) ⟨os, o1, o2, o3⟩ (by rw [hst2]; decide) ?_
    unfold sliceMade slicePicked
    rw [hst2]
    rw [if_neg (by simp)]
    show Made.post (Made.str ⟨((Builtin.Str.strSliceIndices none none (-1) (Str.length ⟨xs.toArray⟩)).filterMap (xs.toArray[·]?)).toArray⟩) _ _
    rw [str_len, rev_str]
    refine ⟨by rw [str_len, List.length_reverse, szl]; exact hz, .str _, H4, I5.tok _, ⟨_, rfl⟩, l1 _ S1 _ H4 h1 .refl .str so1⟩
  case tup ds =>
    obtain ⟨a, us, rfl, q, r⟩ := rd.tup_inv
    cases r1
    obtain ⟨its, rv, ht, hz⟩ := I5.tuple q
    have hlen := rv.length
    refine tail_any (ops := [.ref a, .ref s4.heap.objs.size]) ht.typeIs (PyProof.Rows.slot_tuple_getitem.lookup) ?_ (by with_unfolding_all rfl)
    refine get_tuple_back ht hsl ps ?_ (by rw [List.size_toArray]; omega)
    refine ⟨.ref _, _, I5.laid (t' := s4.toks) (o := .tup us.reverse) (fun b ob q => Heap.get?_push_of_some _ q) (Nat.le_refl _) ?_, rfl, l1.tup so1 h1 r.reverse _ (I5.hok.fresh (Nat.le_refl _))⟩
    exact ⟨by rw [List.length_reverse]; exact hz, _, rv.reverse, IsTup.new _ _⟩
  case ref p =>
    simp only [Rep] at rd
    subst rd
    obtain ⟨ds, e1, h1⟩ := h1
    obtain ⟨us, q, r⟩ := so1 p _ e1
    cases r1
    obtain ⟨its, rv, ht, hz⟩ := I5.list (.inl (.inl q))
    have hlen := rv.length
    refine tail_any (ops := [.ref p, .ref s4.heap.objs.size]) ht.isList.typeIs (PySem.slot_list_getitem.lookup) ?_ (by with_unfolding_all rfl)
    refine wpAny_getItem_list_slice ht.isList hsl .none .none ps (by decide) ?_ (by rw [List.size_toArray]; omega)
    rw [PySem.W.krv_pick]
    refine ⟨.ref _, _, I5.laid (t' := s4.toks) (o := .lst us.reverse) (fun b ob q => Heap.get?_push_of_some _ q) (Nat.le_refl _) ?_, rfl, l1.lst so1 h1 r.reverse _ (I5.hok.fresh (Nat.le_refl _))⟩
    exact ⟨by rw [List.length_reverse]; exact hz, _, 0, rv.reverse, Heap.get?_push_size _ rfl⟩
theorem back_inv {b : Expr} (h : backB b = true) : ∃ k p1 p2 p3, b = .Slice none none (some (.UnaryOp .USub (.Constant (.int 1) k p1) p2)) p3 := by
  unfold backB at h
  split at h
  · exact ⟨_, _, _, _, rfl⟩
  · cases h
end
end G57
set_option Elab.async false
set_option linter.all false
set_option maxRecDepth 100000
set_option maxHeartbeats 2000000
namespace G57
open PySem L2 PySem.Spec PyProof.Rows
section
variable {X : Cx} {Γ : Gam} {Φ : Tab} {k : Nat}
theorem snd_bool {n : Nat} (S : Snd n) (g : Good X Γ Φ k) {op : BoolOp} {es : List Expr} {p : Pos} {ir : Ex} (h : trE (n + 1) Γ (.BoolOp op es p) = some ir) : QE X (.BoolOp op es p) (wpE Φ ir) := by
  cases op with
  | And =>
    match es, h with
    | [a, b], h =>
      simp only [trE] at h
      obtain ⟨x, y, e1, e2, rfl⟩ := two h
      simp only [wpE]
      exact q_and (S.e g e1) (pe_one (S.e g e2))
    | a :: b :: c :: r, h =>
      simp only [trE] at h
      obtain ⟨x, y, e1, e2, rfl⟩ := two h
      simp only [wpE]
      exact q_and (S.e g e1) (S.e g e2)
    | [], h => simp [trE] at h
    | [a], h => simp [trE] at h
  | Or =>
    match es, h with
    | [a, b], h =>
      simp only [trE] at h
      obtain ⟨x, y, e1, e2, rfl⟩ := two h
      simp only [wpE]
      exact q_or (S.e g e1) (pe_one (S.e g e2))
    | a :: b :: c :: r, h =>
      simp only [trE] at h
      obtain ⟨x, y, e1, e2, rfl⟩ := two h
      simp only [wpE]
      exact q_or (S.e g e1) (S.e g e2)
    | [], h => simp [trE] at h
    | [a], h => simp [trE] at h
theorem snd_boolw {n : Nat} (S : Snd n) (g : Good X Γ Φ k) {op : BoolOp} {es : List Expr} {p : Pos} {ir : Ex} (h : trE (n + 1) Γ (.BoolOp op es p) = some ir) : QW X (.BoolOp op es p) (wpT Φ ir) := by
  cases op with
  | And =>
    match es, h with
    | [a, b], h =>
      simp only [trE] at h
      obtain ⟨x, y, e1, e2, rfl⟩ := two h
      simp only [wpT]
      exact qw_and (S.t g e1) (qw_and1 (S.t g e2))
    | a :: b :: c :: r, h =>
      simp only [trE] at h
      obtain ⟨x, y, e1, e2, rfl⟩ := two h
      simp only [wpT]
      exact qw_and (S.t g e1) (S.w g e2)
    | [], h => simp [trE] at h
    | [a], h => simp [trE] at h
  | Or =>
    match es, h with
    | [a, b], h =>
      simp only [trE] at h
      obtain ⟨x, y, e1, e2, rfl⟩ := two h
      simp only [wpT]
      exact qw_or (S.t g e1) (qw_or1 (S.t g e2))
    | a :: b :: c :: r, h =>
      simp only [trE] at h
      obtain ⟨x, y, e1, e2, rfl⟩ := two h
      simp only [wpT]
      exact qw_or (S.t g e1) (S.w g e2)
    | [], h => simp [trE] at h
    | [a], h => simp [trE] at h
theorem cmp_inv {n : Nat} {a : Expr} {ops : List CmpOp} {cs : List Expr} {p : Pos} {ir : Ex} (h : trE (n + 1) Γ (.Compare a ops cs p) = some ir) :
    (∃ op b x y, ops = [op] ∧ cs = [b] ∧ setish b = false ∧ trE n Γ a = some x ∧ trE n Γ b = some y ∧ ir = .cmp op x y) ∨
    (∃ o1 o2 b c x y z, ops = [o1, o2] ∧ cs = [b, c] ∧ setish c = false ∧ trE n Γ a = some x ∧ trE n Γ b = some y ∧ trE n Γ c = some z ∧ ir = .chain o1 o2 x y z) := by
  match ops, cs, h with
  | [op], [b], h =>
    simp only [trE] at h
    split at h
    · cases h
    · rename_i hz
      obtain ⟨x, y, e1, e2, rfl⟩ := two h
      exact .inl ⟨op, b, x, y, rfl, rfl, by simpa using hz, e1, e2, rfl⟩
  | [o1, o2], [b, c], h =>
    simp only [trE] at h
    split at h
    · cases h
    · rename_i hz
      simp only [Bool.or_eq_true, not_or, Bool.not_eq_true] at hz
      obtain ⟨x, y, z, e1, e2, e3, rfl⟩ := three h
      exact .inr ⟨o1, o2, b, c, x, y, z, rfl, rfl, hz.2, e1, e2, e3, rfl⟩
  | [], _, h => simp [trE] at h
  | [_], [], h => simp [trE] at h
  | [_], _ :: _ :: _, h => simp [trE] at h
  | [_, _], [], h => simp [trE] at h
  | [_, _], [_], h => simp [trE] at h
  | [_, _], _ :: _ :: _ :: _, h => simp [trE] at h
  | _ :: _ :: _ :: _, _, h => simp [trE] at h
theorem sub_inv {n : Nat} {a b : Expr} {p : Pos} {ir : Ex} (h : trE (n + 1) Γ (.Subscript a b p) = some ir) :
    (∃ lo hi p2 x y z, b = .Slice lo hi none p2 ∧ trE n Γ a = some x ∧ trO n Γ lo = some y ∧ trO n Γ hi = some z ∧ ir = .sl x y z) ∨
    (∃ x y, trE n Γ a = some x ∧ trE n Γ b = some y ∧ ir = .idx x y) ∨ (∃ x, backB b = true ∧ trE n Γ a = some x ∧ ir = .bi .rev (.cons x .nil)) := by
  cases b with
  | Slice lo hi st p2 =>
    cases st with
    | none =>
      simp only [trE] at h
      obtain ⟨x, y, z, e1, e2, e3, rfl⟩ := three h
      exact .inl ⟨lo, hi, p2, x, y, z, rfl, e1, e2, e3, rfl⟩
    | some s =>
      simp only [trE] at h
      split at h
      · rename_i hb
        obtain ⟨x, e1, rfl⟩ := Option.map_eq_some_iff.mp h
        exact .inr (.inr ⟨x, hb, e1, rfl⟩)
      · obtain ⟨x, y, e1, e2, rfl⟩ := two h
        exact .inr (.inl ⟨x, y, e1, e2, rfl⟩)
  | _ =>
    simp only [trE] at h
    split at h
    · rename_i hb
      obtain ⟨x, e1, rfl⟩ := Option.map_eq_some_iff.mp h
      exact .inr (.inr ⟨x, hb, e1, rfl⟩)
    · obtain ⟨x, y, e1, e2, rfl⟩ := two h
      exact .inr (.inl ⟨x, y, e1, e2, rfl⟩)
theorem snd_lc {n : Nat} (S : Snd n) (g : Good X Γ Φ k) {e : Expr} {gs : List Comprehension} {scope : Scope} {p : Pos} {ir : Ex} (h : trE (n + 1) Γ (.ListComp e gs scope p) = some ir) : QE X (.ListComp e gs scope p) (wpE Φ ir) := by
  match gs, h with
  | [], h => simp [trE] at h
  | _ :: _ :: _, h => simp [trE] at h
  | [⟨tg, it, ifs, as⟩], h =>
    by_cases ha : as = 0
    · subst ha
      simp only [trE] at h
      split at h
      · cases h
      · rename_i hs
        obtain ⟨o, p', i', c', x', e1, e2, e3, e4, e5, hb, rfl⟩ := lc_inv h
        have ok : BlkOk X.N X.env.scope scope o := by rw [g.hN, g.sc]; exact blkOk_by hb
        simp only [wpE]
        exact q_lc g.calm (by rw [g.hN]; exact g.nd) (S.i g e3) ok (own_places n (Γ := Γ) (Δ := blk Γ scope) rfl e2 e1) (fun s H C cl fp => pt_snd n (good_blk g ok s H C cl fp) e2) (fun s H C cl fp => S.c (good_blk g ok s H C cl fp) e4)
          (fun s H C cl fp => S.e (good_blk g ok s H C cl fp) e5) (folded_of (by simpa using hs))
    · exfalso
      unfold trE at h
      split at h <;> simp_all
theorem snd_e {n : Nat} (S : Snd n) (g : Good X Γ Φ k) {e : Expr} {ir : Ex} (h : trE (n + 1) Γ e = some ir) : QE X e (wpE Φ ir) := by
  cases e with
  | Name x p => exact snd_name g h
  | BoolOp op es p => exact snd_bool S g h
  | BinOp a op b p =>
    simp only [trE] at h
    obtain ⟨x, y, e1, e2, rfl⟩ := two h
    simp only [wpE]
    exact q_bin (opD_ok op) (S.e g e1) (S.e g e2)
  | UnaryOp op a p =>
    cases op with
    | USub =>
      simp only [trE] at h
      obtain ⟨x, e1, rfl⟩ := Option.map_eq_some_iff.mp h
      simp only [wpE]
      exact q_neg (S.e g e1)
    | Not =>
      simp only [trE] at h
      obtain ⟨x, e1, rfl⟩ := Option.map_eq_some_iff.mp h
      simp only [wpE]
      exact q_not (S.e g e1)
    | _ => simp [trE] at h
  | Constant c j p =>
    cases c with
    | int i => simp only [trE] at h; cases h; simp only [wpE]; exact q_con pe_int fun H => .int
    | bool i => simp only [trE] at h; cases h; simp only [wpE]; exact q_con pe_bl fun H => .bl
    | none => simp only [trE] at h; cases h; simp only [wpE]; exact q_con pe_non fun H => .non
    | str i => simp only [trE] at h; cases h; simp only [wpE]; exact q_con pe_str fun H => by simp only [Rep]
    | _ => simp [trE] at h
  | Compare a ops cs p =>
    rcases cmp_inv h with ⟨op, b, x, y, rfl, rfl, hs, e1, e2, rfl⟩ | ⟨o1, o2, b, c, x, y, z, rfl, rfl, hs, e1, e2, e3, rfl⟩
    · simp only [wpE]
      exact q_cmp (cmpD_ok g.units op) (S.e g e1) (S.e g e2) (marks_of hs)
    · simp only [wpE]
      exact q_chain g.units (S.e g e1) (S.e g e2) (S.e g e3) (lmarks_of hs)
  | IfExp c a b p =>
    simp only [trE] at h
    obtain ⟨x, y, z, e1, e2, e3, rfl⟩ := three h
    simp only [wpE]
    exact q_ite (S.t g e1) (S.e g e2) (S.e g e3)
  | Call f as ks p =>
    cases ks with
    | cons _ _ => cases f <;> simp [trE] at h
    | nil =>
      cases f with
      | Name f fp =>
        cases as with
        | nil => simp [trE] at h
        | cons a as => exact snd_call S g h
      | Attribute o m ap => exact snd_mt S g h
      | _ => simp [trE] at h
  | Tuple es kk p =>
    simp only [trE] at h
    obtain ⟨x, e1, rfl⟩ := Option.map_eq_some_iff.mp h
    simp only [wpE]
    exact q_tup (S.a g e1)
  | List es p =>
    simp only [trE] at h
    obtain ⟨x, e1, rfl⟩ := Option.map_eq_some_iff.mp h
    simp only [wpE]
    exact q_lst (S.a g e1)
  | Subscript a b p =>
    rcases sub_inv h with ⟨lo, hi, p2, x, y, z, rfl, e1, e2, e3, rfl⟩ | ⟨x, y, e1, e2, rfl⟩ | ⟨x, hb, e1, rfl⟩
    · simp only [wpE]
      exact q_sl (S.e g e1) (S.o g e2) (S.o g e3)
    · simp only [wpE]
      exact q_idx (S.e g e1) (S.e g e2) (plainIx_of e2)
    · obtain ⟨k, p1, p2, p3, rfl⟩ := back_inv hb
      simp only [wpE, wpA]
      exact q_rev (S.e g e1)
  | ListComp e gs scope p => exact snd_lc S g h
  | JoinedStr es p =>
    match es, h with
    | [], h => simp [trE] at h
    | [_], h => simp [trE] at h
    | a :: b :: r, h =>
      simp only [trE] at h
      obtain ⟨x, e1, rfl⟩ := Option.map_eq_some_iff.mp h
      simp only [wpE]
      exact q_fs (S.j g e1)
  | _ => simp [trE] at h
theorem snd_t {n : Nat} (S : Snd n) (g : Good X Γ Φ k) {e : Expr} {ir : Ex} (h : trE (n + 1) Γ e = some ir) : QT X e (wpT Φ ir) := by
  cases e with
  | Name x p =>
    have q := snd_name g h
    simp only [trE] at h
    split at h
    · cases h
    · split at h
      · obtain ⟨i, e1, rfl⟩ := Option.map_eq_some_iff.mp h
        simp only [wpE] at q
        simp only [wpT]
        refine (qt_truth q fun _ => rfl).weak fun σ H Q ⟨env, S, Qd, re, so, ⟨d, e, h⟩, l⟩ => ⟨env, S, Qd, re, so, ⟨d, e, h⟩, l⟩
      · split at h
        · obtain ⟨i, e1, rfl⟩ := Option.map_eq_some_iff.mp h
          simp only [wpT]
          exact no_t
        · cases h
  | BoolOp op es p => exact (snd_boolw S g h).pt
  | UnaryOp op a p =>
    cases op with
    | USub =>
      simp only [trE] at h
      obtain ⟨x, e1, rfl⟩ := Option.map_eq_some_iff.mp h
      simp only [wpT]
      exact no_t
    | Not =>
      simp only [trE] at h
      obtain ⟨x, e1, rfl⟩ := Option.map_eq_some_iff.mp h
      simp only [wpT]
      exact qt_not (S.t g e1)
    | _ => simp [trE] at h
  | Compare a ops cs p =>
    rcases cmp_inv h with ⟨op, b, x, y, rfl, rfl, hs, e1, e2, rfl⟩ | ⟨o1, o2, b, c, x, y, z, rfl, rfl, hs, e1, e2, e3, rfl⟩
    · simp only [wpT]
      exact qt_cmp g.units (S.e g e1) (S.e g e2) (marks_of hs)
    · simp only [wpT]
      exact qt_chain g.units (S.e g e1) (S.e g e2) (S.e g e3) (lmarks_of hs)
  | Call f as ks p =>
    cases ks with
    | cons _ _ => cases f <;> simp [trE] at h
    | nil =>
      cases f with
      | Name f fp =>
        cases as with
        | nil => simp [trE] at h
        | cons a as =>
          have q := snd_call S g h
          simp only [trE] at h
          split at h
          · cases h
          · split at h
            · split at h
              · obtain ⟨b, x, e1, e2, rfl⟩ := two h
                simp only [wpE] at q
                simp only [wpT]
                exact qt_truth q fun _ => rfl
              · cases h
            split at h
            · obtain ⟨b, xs, e1, e2, rfl⟩ := two h
              simp only [wpE] at q
              simp only [wpT]
              exact qt_truth q fun _ => rfl
            · obtain ⟨fi, xs, hf, e2, rfl⟩ := two h
              simp only [wpE] at q
              simp only [wpT]
              exact (qt_truth q fun _ => rfl).weak fun σ H Q ⟨env, S, Qd, re, so, ⟨sp, e, h⟩, l⟩ => ⟨env, S, Qd, re, so, ⟨sp, e, h⟩, l⟩
      | Attribute o m ap =>
        simp only [trE] at h
        split at h
        · cases h
        · obtain ⟨mm, x, xs, e1, e2, e3, rfl⟩ := three h
          simp only [wpT]
          exact no_t
      | _ => simp [trE] at h
  | Subscript a b p =>
    have q := snd_e S g h
    rcases sub_inv h with ⟨lo, hi, p2, x, y, z, rfl, e1, e2, e3, rfl⟩ | ⟨x, y, e1, e2, rfl⟩ | ⟨x, hb, e1, rfl⟩
    · simp only [wpT]
      exact no_t
    · simp only [wpE] at q
      simp only [wpT]
      exact qt_truth q fun _ => rfl
    · simp only [wpE] at q
      simp only [wpT]
      exact qt_truth q fun _ => rfl
  | Constant c j p => cases c <;> simp only [trE] at h <;> first | (cases h; simp only [wpT]; exact no_t) | cases h
  | BinOp a op b p =>
    simp only [trE] at h
    obtain ⟨x, y, e1, e2, rfl⟩ := two h
    simp only [wpT]
    exact no_t
  | IfExp c a b p =>
    simp only [trE] at h
    obtain ⟨x, y, z, e1, e2, e3, rfl⟩ := three h
    simp only [wpT]
    exact no_t
  | Tuple es kk p =>
    simp only [trE] at h
    obtain ⟨x, e1, rfl⟩ := Option.map_eq_some_iff.mp h
    simp only [wpT]
    exact no_t
  | List es p =>
    simp only [trE] at h
    obtain ⟨x, e1, rfl⟩ := Option.map_eq_some_iff.mp h
    simp only [wpT]
    exact no_t
  | ListComp e gs scope p =>
    unfold trE at h
    split at h <;> try (cases h)
    all_goals (try split at h) <;> try cases h
    all_goals (first | (obtain ⟨o, p', i', c', x', e1, e2, e3, e4, e5, hb, rfl⟩ := lc_inv h; simp only [wpT]; exact no_t) | simp_all)
  | JoinedStr es p =>
    match es, h with
    | [], h => simp [trE] at h
    | [_], h => simp [trE] at h
    | a :: b :: r, h =>
      simp only [trE] at h
      obtain ⟨x, e1, rfl⟩ := Option.map_eq_some_iff.mp h
      simp only [wpT]
      exact no_t
  | _ => simp [trE] at h
end
end G57
set_option Elab.async false
set_option linter.all false
set_option maxRecDepth 100000
set_option maxHeartbeats 2000000
namespace G57
open PySem L2 PySem.Spec PyProof.Rows
section
variable {X : Cx} {Γ : Gam} {Φ : Tab} {k : Nat}
theorem snd_i {n : Nat} (S : Snd n) (g : Good X Γ Φ k) {tg e : Expr} {ir : Ex} (h : trI (n + 1) Γ (tupleT tg) e = some ir) : QI X tg e (wpI Φ ir) := by
  have gen : ∀ {x}, trE n Γ e = some x → QI X tg e (wpI Φ (.iE x)) := fun {x} e1 => by
    simp only [wpI]
    exact qi_E (S.e g e1)
  have isT : ∀ {b : Bool}, (tupleT tg && b) = true → ∃ es kk p, tg = .Tuple es kk p := fun {b} hb => by
    cases tg <;> first | exact ⟨_, _, _, rfl⟩ | (simp [tupleT] at hb)
  simp only [trI] at h
  split at h
  · rename_i f fp a pos
    split at h
    · rename_i ef
      subst ef
      split at h
      · rename_i hc
        simp only [Bool.and_eq_true, Bool.not_eq_true'] at hc
        obtain ⟨x, e1, rfl⟩ := Option.map_eq_some_iff.mp h
        simp only [wpI]
        exact qi_R1 (g.gl hc.1.1) (g.bs _ (by simpa using hc.1.2)) (S.e g e1) (star_cons hc.2)
      · cases h
    · split at h
      · rename_i ef
        subst ef
        split at h
        · rename_i hc
          simp only [Bool.and_eq_true, Bool.not_eq_true'] at hc
          obtain ⟨es, kk, p, rfl⟩ := isT (b := true) (by rw [hc.1.1.1]; rfl)
          obtain ⟨x, e1, rfl⟩ := Option.map_eq_some_iff.mp h
          simp only [wpI]
          exact qi_N2 (g.gl hc.1.1.2) (g.bs _ (by simpa using hc.1.2)) (S.e g e1) (star_cons hc.2)
        · cases h
      · obtain ⟨x, e1, rfl⟩ := Option.map_eq_some_iff.mp h
        exact gen e1
  · rename_i f fp a b pos
    split at h
    · rename_i ef
      subst ef
      split at h
      · rename_i hc
        simp only [Bool.and_eq_true, Bool.not_eq_true'] at hc
        obtain ⟨x, y, e1, e2, rfl⟩ := two h
        simp only [wpI]
        exact qi_R2 (g.gl hc.1.1.1) (g.bs _ (by simpa using hc.1.1.2)) (S.e g e1) (S.e g e2) (star_cons hc.1.2) (star_cons hc.2)
      · cases h
    · split at h
      · rename_i ef
        subst ef
        split at h
        · rename_i hc
          simp only [Bool.and_eq_true, Bool.not_eq_true'] at hc
          obtain ⟨es, kk, p, rfl⟩ := isT (b := true) (by rw [hc.1.1.1.1]; rfl)
          obtain ⟨x, y, e1, e2, rfl⟩ := two h
          simp only [wpI]
          exact qi_Z2 (g.gl hc.1.1.1.2) (g.bs _ (by simpa using hc.1.1.2)) (S.e g e1) (S.e g e2) (star_cons hc.1.2) (star_cons hc.2)
        · cases h
      · obtain ⟨x, e1, rfl⟩ := Option.map_eq_some_iff.mp h
        exact gen e1
  · obtain ⟨x, e1, rfl⟩ := Option.map_eq_some_iff.mp h
    exact gen e1
theorem snd_j {n : Nat} (S : Snd n) (g : Good X Γ Φ k) {es : List Expr} {ir : Ex} (h : trJ (n + 1) Γ es = some ir) : QJ X es (wpJ Φ ir) := by
  cases es with
  | nil => simp only [trJ] at h; cases h; simp only [wpJ]; exact qj_nil
  | cons e es =>
    cases e with
    | FormattedValue e cv sp p =>
      by_cases hc : cv = -1
      · subst hc
        cases sp with
        | none =>
          simp only [trJ] at h
          obtain ⟨x, y, e1, e2, rfl⟩ := two h
          simp only [wpJ]
          exact qj_cons (q_fmt (S.e g e1)) (S.j g e2)
        | some s => simp [trJ] at h
      · exfalso
        unfold trJ at h
        split at h <;> simp_all
    | Constant c j p =>
      cases c with
      | str x =>
        simp only [trJ] at h
        obtain ⟨y, e1, rfl⟩ := Option.map_eq_some_iff.mp h
        simp only [wpJ, wpE]
        refine qj_cons (te := fun env S Q => Q (.str x.cps.toList) S) ?_ (S.j g e1)
        exact (q_con (d := .str x.cps.toList) pe_str fun H => by simp only [Rep]).weak fun σ H Q ⟨env, S, Qd, re, so, h, l⟩ => ⟨env, S, Qd, re, so, h.2, l⟩
      | _ => simp [trJ] at h
    | _ => simp [trJ] at h
end
theorem snd : ∀ n, Snd n
  | 0 => ⟨fun _ h => by simp [trE] at h, fun _ h => by simp [trE] at h, fun _ h => by simp [trE] at h, fun _ h => by simp [trA] at h, fun _ h => by simp [trO] at h, fun _ h => by simp [trC] at h, fun _ h => by simp [trI] at h, fun _ h => by simp [trJ] at h⟩
  | n + 1 => by
    have S := snd n
    refine ⟨fun g h => snd_e S g h, fun g h => snd_t S g h, fun g h => snd_boolw S g h, fun {X Γ Φ k es ir} g h => ?_, fun {X Γ Φ k e ir} g h => ?_, fun {X Γ Φ k es ir} g h => ?_, fun g h => snd_i S g h, fun g h => snd_j S g h⟩
    · cases es with
      | nil => simp only [trA] at h; cases h; simp only [wpA]; exact q_nil
      | cons e es =>
        have hs := trA_star h
        simp only [trA, hs, Bool.false_eq_true, if_false] at h
        obtain ⟨x, y, e1, e2, rfl⟩ := two h
        simp only [wpA]
        exact q_cons (S.e g e1) (S.a g e2) (star_cons hs)
    · cases e with
      | none => simp only [trO] at h; cases h; simp only [wpO]; exact q_on
      | some e =>
        simp only [trO] at h
        obtain ⟨x, e1, rfl⟩ := Option.map_eq_some_iff.mp h
        simp only [wpO]
        exact q_os (S.e g e1)
    · match es, h with
      | [], h => simp only [trC] at h; cases h; simp only [wpC]; exact q_yes
      | [c], h =>
        simp only [trC] at h
        obtain ⟨x, e1, rfl⟩ := Option.map_eq_some_iff.mp h
        simp only [wpC]
        exact pts_one (S.t g e1)
      | _ :: _ :: _, h => simp [trC] at h
def compish : Expr → Bool
  | .ListComp _ _ _ _ | .SetComp _ _ _ _ | .DictComp _ _ _ _ _ => true
  | _ => false
def nameLc : Expr → Expr → Bool
  | .Name _ _, .ListComp _ _ _ _ => true
  | _, _ => false
def sliceish : Expr → Bool
  | .Slice _ _ _ _ => true
  | _ => false
def nameAt (sc : Scope) (line : Nat) : Expr → Option Str
  | .Name id pos => if sc.names.lookup id == some .local && pos.line == line then some id else none
  | _ => none
def swapN (sc : Scope) (ts vs : List Expr) : Option (List Str) :=
  if !(ts.length == 2 || ts.length == 3) || vs.length != ts.length then none
  else if vs.any starry then none
  else
    let names := ts.filterMap (nameAt sc ((ts.head?.map (·.pos.line)).getD 0))
    if names.length != ts.length || names.eraseDups.length != names.length then none
    else if vs.all (foldedForSure 8) then none
    else some names
mutual
def trS : Nat → Gam → Stmt → Option Sx
  | 0, _, _ => none
  | n + 1, Γ, .Assign [.Subscript o i _] e _ => if compish e || sliceish i then none else opt3 (trE n Γ o) (trE n Γ i) (trE n Γ e) fun o i e => .set o i e
  | n + 1, Γ, .Assign [.Tuple ts _ _] (.Tuple vs k p) _ => match swapN Γ.sc ts vs with
    | none => opt2 (ptOf n Γ (.Tuple ts 0 p)) (trE n Γ (.Tuple vs k p)) fun p e => .asg p e
    | some _ => if vs.all (constantsAlone 8) then none else opt2 (ptOf n Γ (.Tuple ts 0 p)) (trE n Γ (.Tuple vs k p)) fun p e => .asg p e
  | n + 1, Γ, .Assign [tg] e _ => if compish e && !tupleT tg && !nameLc tg e then none else opt2 (ptOf n Γ tg) (trE n Γ e) fun p e => .asg p e
  | n + 1, Γ, .Expr e _ => if compish e then none else (trE n Γ e).map .ex
  | n + 1, Γ, .Return (some e) _ => (trE n Γ e).map .ret
  | n + 1, Γ, .If c a b _ => opt3 (trE n Γ c) (trB n Γ a) (trB n Γ b) fun c a b => .iff c a b
  | n + 1, Γ, .For tg it b [] _ => if setish it then none else opt3 (ptOf n Γ tg) (trI n Γ (tupleT tg) it) (trB n Γ b) fun p i b => .loop p i b
  | n + 1, Γ, .While c b [] _ => opt2 (trE n Γ c) (trB n Γ b) fun c b => .wh c b
  | n + 1, _, .Break _ => some .brk
  | n + 1, _, .Continue _ => some .cnt
  | n + 1, _, .Pass _ => some .pass
  | _, _, _ => none
def trB : Nat → Gam → List Stmt → Option Sx
  | 0, _, _ => none
  | n + 1, _, [] => some .nil
  | n + 1, Γ, s :: r => opt2 (trS n Γ s) (trB n Γ r) fun a b => .cons a b
end
end G57
set_option Elab.async false
set_option linter.all false
set_option maxRecDepth 100000
set_option maxHeartbeats 2000000
namespace G57
open PySem L2 PySem.Spec PyProof.Rows
theorem ptOf_tup {n : Nat} {Γ : Gam} {es : List Expr} {a c : Nat} {b d : Pos} : ptOf n Γ (.Tuple es a b) = ptOf n Γ (.Tuple es c d) := by cases n <;> rfl
theorem sole_plain {tg e : Expr} {l : Nat} {env : Env} (h : compish e = false) : swapsWithSole [tg] e l env = pure false := by
  cases e <;> first | rfl | (simp [compish] at h)
theorem none_plain {e : Expr} {l : Nat} {env : Env} (h : compish e = false) : swapsWith e none l env = pure false := by
  cases e <;> first | rfl | (simp [compish] at h)
theorem sole_tup {es : List Expr} {k : Nat} {p : Pos} {e : Expr} {l : Nat} {env : Env} : swapsWithSole [.Tuple es k p] e l env = pure false := by
  cases e <;> rfl
theorem stores_name {x : Str} {p : Pos} {e : Expr} {env : Env} : swappedStores [.Name x p] e env = pure none := by cases e <;> rfl
theorem stores_sub {o i : Expr} {p : Pos} {e : Expr} {env : Env} : swappedStores [.Subscript o i p] e env = pure none := by cases e <;> rfl
theorem stores_tup {es : List Expr} {k : Nat} {p : Pos} {e : Expr} {env : Env} (h : tupleT e = false) : swappedStores [.Tuple es k p] e env = pure none := by
  cases e <;> first | rfl | (simp [tupleT] at h)
theorem stores_eq {ts vs : List Expr} {k k2 : Nat} {p p2 : Pos} {env : Env} (hk : env.scope.kind = .function) :
    (swapN env.scope ts vs = none → swappedStores [.Tuple ts k p] (.Tuple vs k2 p2) env = pure none) ∧
    (∀ names, swapN env.scope ts vs = some names → vs.all (constantsAlone 8) = false → swappedStores [.Tuple ts k p] (.Tuple vs k2 p2) env = pure (some names)) := by
  have hb : (env.blockKind != .function) = false := by unfold Env.blockKind; rw [hk]; rfl
  generalize hm : swappedStores [.Tuple ts k p] (.Tuple vs k2 p2) env = m
  unfold swappedStores at hm
  simp only [hb, Bool.or_false] at hm
  generalize hF : List.any vs _ = b2 at hm
  generalize hG : List.filterMap _ ts = nm at hm
  have hF' : vs.any starry = b2 := by
    rw [← hF]; congr 1
  have hG' : ts.filterMap (nameAt env.scope ((ts.head?.map (·.pos.line)).getD 0)) = nm := by
    rw [← hG]; congr 1
  unfold swapN
  simp only [hF', hG']
  subst hm
  refine ⟨fun h => ?_, fun names h hc => ?_⟩
  · split
    · rfl
    · rename_i c1
      rw [if_neg c1] at h
      split
      · rfl
      · rename_i c2
        rw [if_neg c2] at h
        split
        · rfl
        · rename_i c3
          rw [if_neg c3] at h
          split
          · rfl
          · rename_i c4
            rw [if_neg c4] at h
            cases h
  · split
    · rename_i c1; rw [if_pos c1] at h; cases h
    · rename_i c1
      rw [if_neg c1] at h
      split
      · rename_i c2; rw [if_pos c2] at h; cases h
      · rename_i c2
        rw [if_neg c2] at h
        split
        · rename_i c3; rw [if_pos c3] at h; cases h
        · rename_i c3
          rw [if_neg c3] at h
          split
          · rename_i c4; rw [if_pos c4] at h; cases h
          · rename_i c4
            rw [if_neg c4] at h
            cases h
            rw [hc]
            rfl
end G57
set_option Elab.async false
set_option linter.all false
set_option maxRecDepth 100000
set_option maxHeartbeats 2000000
namespace G57
open PySem L2 PySem.Spec PyProof.Rows
section
variable {X : Cx} {Γ : Gam} {Φ : Tab} {k : Nat}
theorem Good.nds (g : Good X Γ Φ k) : X.N.Nodup := by rw [g.hN]; exact g.nd
theorem Good.own (g : Good X Γ Φ k) : PassesOwn (model X.prog X.w) X.A X.env X.xe := by rw [g.xe]; exact PassesOwn.never
theorem one_each {tg : Expr} {env : Env} (h : starry tg = false) : (assignEach [tg] env).map (·.2) = [assign tg env] := by rw [each_cons h]; rfl
theorem nameAt_inv {sc : Scope} {l : Nat} {e : Expr} {x : Str} (h : nameAt sc l e = some x) : ∃ p, e = .Name x p ∧ sc.names.lookup x = some .local := by
  cases e <;> simp only [nameAt] at h <;> try (cases h)
  rename_i y p
  split at h
  · rename_i hc
    cases h
    rw [Bool.and_eq_true] at hc
    refine ⟨p, rfl, ?_⟩
    have := hc.1
    generalize sc.names.lookup x = z at this
    revert this
    cases z with
    | none => intro h; cases h
    | some k => cases k <;> first | (intro _; rfl) | (intro h; cases h)
  · cases h
theorem fm_two {sc : Scope} {l : Nat} {t1 t2 : Expr} {names : List Str} (h : [t1, t2].filterMap (nameAt sc l) = names) (hl : names.length = 2) : ∃ x y p q, t1 = .Name x p ∧ t2 = .Name y q ∧ names = [x, y] ∧ sc.names.lookup x = some .local ∧ sc.names.lookup y = some .local := by
  cases h1 : nameAt sc l t1 with
  | none =>
    rw [List.filterMap_cons_none h1] at h
    have := List.length_filterMap_le (nameAt sc l) [t2]
    rw [h, hl] at this
    simp at this
  | some x =>
    rw [List.filterMap_cons_some h1] at h
    cases h2 : nameAt sc l t2 with
    | none => rw [List.filterMap_cons_none h2] at h; subst h; simp at hl
    | some y =>
      rw [List.filterMap_cons_some h2] at h
      obtain ⟨p, e1, l1⟩ := nameAt_inv h1
      obtain ⟨q, e2, l2⟩ := nameAt_inv h2
      exact ⟨x, y, p, q, e1, e2, h.symm, l1, l2⟩
theorem fm_three {sc : Scope} {l : Nat} {t1 t2 t3 : Expr} {names : List Str} (h : [t1, t2, t3].filterMap (nameAt sc l) = names) (hl : names.length = 3) : ∃ x y z p q r, t1 = .Name x p ∧ t2 = .Name y q ∧ t3 = .Name z r ∧ names = [x, y, z] ∧ sc.names.lookup x = some .local ∧ sc.names.lookup y = some .local ∧ sc.names.lookup z = some .local := by
  cases h1 : nameAt sc l t1 with
  | none =>
    rw [List.filterMap_cons_none h1] at h
    have := List.length_filterMap_le (nameAt sc l) [t2, t3]
    rw [h, hl] at this
    simp at this
  | some x =>
    rw [List.filterMap_cons_some h1] at h
    obtain ⟨p, e1, l1⟩ := nameAt_inv h1
    subst h
    obtain ⟨y, z, q, r, e2, e3, e4, l2, l3⟩ := fm_two rfl (by simpa using hl)
    exact ⟨x, y, z, p, q, r, e1, e2, e3, by rw [e4], l1, l2, l3⟩
theorem swapN_inv {sc : Scope} {ts vs : List Expr} {names : List Str} (h : swapN sc ts vs = some names) :
    (ts.length = 2 ∨ ts.length = 3) ∧ vs.length = ts.length ∧ ts.filterMap (nameAt sc ((ts.head?.map (·.pos.line)).getD 0)) = names ∧ names.length = ts.length ∧ names.eraseDups.length = names.length := by
  unfold swapN at h
  split at h
  · cases h
  · rename_i c1
    split at h
    · cases h
    · simp only at h
      split at h
      · cases h
      · rename_i c3
        split at h
        · cases h
        · cases h
          simp only [Bool.or_eq_true, Bool.not_eq_true', bne_iff_ne, ne_eq, not_or, Classical.not_not] at c1 c3
          refine ⟨?_, c1.2, rfl, c3.1, c3.2⟩
          have := c1.1
          simp only [Bool.not_eq_false, Bool.or_eq_true, beq_iff_eq] at this
          exact this
theorem dups_two {x y : Str} (h : [x, y].eraseDups.length = 2) : x ≠ y := by
  intro e
  subst e
  simp [List.eraseDups_cons] at h
theorem dups_three {x y z : Str} (h : [x, y, z].eraseDups.length = 3) : x ≠ y ∧ x ≠ z ∧ y ≠ z := by
  refine ⟨fun e => ?_, fun e => ?_, fun e => ?_⟩
  · subst e
    rw [List.eraseDups_cons] at h
    simp only [List.filter_cons, List.filter_nil, beq_self_eq_true, Bool.not_true, Bool.false_eq_true, if_false] at h
    split at h <;> simp [List.eraseDups_cons] at h
  · subst e
    rw [List.eraseDups_cons] at h
    simp [List.filter_cons] at h
    split at h <;> simp [List.eraseDups_cons] at h
  · subst e
    rw [List.eraseDups_cons] at h
    simp [List.filter_cons] at h
    split at h <;> simp [List.eraseDups_cons] at h
theorem ptOf_name {n : Nat} {x : Str} {p : Pos} {q : Pt} (h : ptOf n Γ (.Name x p) = some q) : ∃ i, vix Γ.N x = some i ∧ q = .v i := by
  cases n with
  | zero => simp [ptOf] at h
  | succ n =>
    simp only [ptOf] at h
    split at h
    · obtain ⟨i, e, rfl⟩ := Option.map_eq_some_iff.mp h
      exact ⟨i, e, rfl⟩
    · cases h
theorem ptOf_two {n : Nat} {x y : Str} {p q r : Pos} {kk : Nat} {w : Pt} (h : ptOf n Γ (.Tuple [.Name x p, .Name y q] kk r) = some w) : ∃ i j, vix Γ.N x = some i ∧ vix Γ.N y = some j ∧ w = .t (.cons (.v i) (.cons (.v j) .nil)) := by
  cases n with
  | zero => simp [ptOf] at h
  | succ n =>
    simp only [ptOf, List.foldr_cons, List.foldr_nil] at h
    cases h1 : ptOf n Γ (.Name x p) with
    | none => rw [h1] at h; simp at h
    | some a =>
      cases h2 : ptOf n Γ (.Name y q) with
      | none => rw [h1, h2] at h; simp at h
      | some b =>
        rw [h1, h2] at h
        obtain ⟨i, e1, rfl⟩ := ptOf_name h1
        obtain ⟨j, e2, rfl⟩ := ptOf_name h2
        simp at h
        exact ⟨i, j, e1, e2, h.symm⟩
theorem ptOf_three {n : Nat} {x y z : Str} {p q r s : Pos} {kk : Nat} {w : Pt} (h : ptOf n Γ (.Tuple [.Name x p, .Name y q, .Name z r] kk s) = some w) : ∃ i j l, vix Γ.N x = some i ∧ vix Γ.N y = some j ∧ vix Γ.N z = some l ∧ w = .t (.cons (.v i) (.cons (.v j) (.cons (.v l) .nil))) := by
  cases n with
  | zero => simp [ptOf] at h
  | succ n =>
    simp only [ptOf, List.foldr_cons, List.foldr_nil] at h
    cases h1 : ptOf n Γ (.Name x p) with
    | none => rw [h1] at h; simp at h
    | some a =>
      cases h2 : ptOf n Γ (.Name y q) with
      | none => rw [h1, h2] at h; simp at h
      | some b =>
        cases h3 : ptOf n Γ (.Name z r) with
        | none => rw [h1, h2, h3] at h; simp at h
        | some c =>
          rw [h1, h2, h3] at h
          obtain ⟨i, e1, rfl⟩ := ptOf_name h1
          obtain ⟨j, e2, rfl⟩ := ptOf_name h2
          obtain ⟨l, e3, rfl⟩ := ptOf_name h3
          simp at h
          exact ⟨i, j, l, e1, e2, e3, h.symm⟩
theorem trA_inv {n : Nat} {e : Expr} {es : List Expr} {ir : Ex} (h : trA n Γ (e :: es) = some ir) : ∃ m x y, trE m Γ e = some x ∧ trA m Γ es = some y ∧ ir = .cons x y := by
  have hs := trA_star h
  cases n with
  | zero => simp [trA] at h
  | succ n =>
    simp only [trA, hs, Bool.false_eq_true, if_false] at h
    obtain ⟨x, y, e1, e2, rfl⟩ := two h
    exact ⟨n, x, y, e1, e2, rfl⟩
theorem trA_nil {n : Nat} {ir : Ex} (h : trA n Γ [] = some ir) : ir = .nil := by
  cases n with
  | zero => simp [trA] at h
  | succ n => simp only [trA] at h; cases h; rfl
theorem vix_ne {N : List Str} {x y : Str} {i j : Nat} (h1 : vix N x = some i) (h2 : vix N y = some j) (hn : x ≠ y) : i ≠ j := fun e => by
  subst e
  have := (vix_get h1).symm.trans (vix_get h2)
  cases this
  exact hn rfl
theorem snd_par {n : Nat} (g : Good X Γ Φ k) {ts vs : List Expr} {kt k2 : Nat} {pt pt2 pos : Pos} {p : Pt} {e : Ex} {names : List Str} (hw : swapN Γ.sc ts vs = some names) (hc : vs.all (constantsAlone 8) = false)
    (h1 : ptOf n Γ (.Tuple ts kt pt) = some p) (h2 : trE n Γ (.Tuple vs k2 pt2) = some e) : QS X (.Assign [.Tuple ts kt pt] (.Tuple vs k2 pt2) pos) (wpS Φ (.asg p e)) := by
  obtain ⟨hl, hv, hf, hn, hd⟩ := swapN_inv hw
  have sw := (stores_eq (ts := ts) (vs := vs) (k := kt) (k2 := k2) (p := pt) (p2 := pt2) (env := X.env) (by rw [g.sc]; exact g.kd)).2 names (by rw [g.sc]; exact hw) hc
  have h2' : ∃ m as, trA m Γ vs = some as ∧ e = .tup as := by
    cases n with
    | zero => simp [trE] at h2
    | succ n =>
      simp only [trE] at h2
      obtain ⟨x, e1, rfl⟩ := Option.map_eq_some_iff.mp h2
      exact ⟨n, x, e1, rfl⟩
  obtain ⟨m, as, ea, rfl⟩ := h2'
  have lk : ∀ {x : Str}, Γ.sc.names.lookup x = some .local → X.env.scope.names.lookup x = some .local := fun h => by rw [g.sc]; exact h
  have nx : ∀ {x : Str} {i : Nat}, vix Γ.N x = some i → X.N[i]? = some x := fun h => by rw [g.hN]; exact vix_get h
  rcases hl with hl | hl
  · match ts, vs, hl, hv, hf, h1, sw, ea with
    | [t1, t2], [va, vb], _, _, hf, h1, sw, ea =>
      obtain ⟨x, y, px, py, rfl, rfl, rfl, lx, ly⟩ := fm_two hf hn
      obtain ⟨i, j, vi, vj, rfl⟩ := ptOf_two h1
      obtain ⟨m1, x1, r1, f1, f2, rfl⟩ := trA_inv ea
      obtain ⟨m2, x2, r2, f3, f4, rfl⟩ := trA_inv f2
      obtain rfl := trA_nil f4
      refine (qs_par (ta := wpE Φ x1) (tb := wpE Φ x2) g.calm g.nds (nx vi) (nx vj) (vix_ne vi vj (dups_two hd)) (lk lx) (lk ly) (args2 ((snd m1).e g f1) ((snd m2).e g f3) (star_cons (trA_star ea)) (star_cons (trA_star f2))) sw sole_tup).weak fun D' σ H ⟨env, S, E, re, so, h, l⟩ => ⟨env, S, E, re, so, ?_, l⟩
      simp only [wpS, wpE, wpA] at h
      have eq : (fun (v : D) (S1 : Sto) => wpE Φ x2 env S1 fun w S2 => ([v, w] : List D).length ≤ 16777216 ∧ wpP (.t (.cons (.v i) (.cons (.v j) .nil))) (.tup [v, w]) S2 env fun env' => E.nx env' S2) = fun v S1 => wpE Φ x2 env S1 fun w S2 => E.nx ((env.set i (some v)).set j (some w)) S2 := by
        funext v S1
        congr 1
        funext w S2
        simp [wpP, wpPs, seqD]
      rw [eq] at h
      exact h
  · match ts, vs, hl, hv, hf, h1, sw, ea with
    | [t1, t2, t3], [va, vb, vc], _, _, hf, h1, sw, ea =>
      obtain ⟨x, y, z, px, py, pz, rfl, rfl, rfl, rfl, lx, ly, lz⟩ := fm_three hf hn
      obtain ⟨i, j, o, vi, vj, vl, rfl⟩ := ptOf_three h1
      obtain ⟨m1, x1, r1, f1, f2, rfl⟩ := trA_inv ea
      obtain ⟨m2, x2, r2, f3, f4, rfl⟩ := trA_inv f2
      obtain ⟨m3, x3, r3, f5, f6, rfl⟩ := trA_inv f4
      obtain rfl := trA_nil f6
      obtain ⟨d1, d2, d3⟩ := dups_three hd
      refine (qs_par3 (ta := wpE Φ x1) (tb := wpE Φ x2) (tc := wpE Φ x3) g.calm g.nds (nx vi) (nx vj) (nx vl) (vix_ne vi vj d1) (vix_ne vi vl d2) (vix_ne vj vl d3) (lk lx) (lk ly) (lk lz)
        (q_cons ((snd m1).e g f1) (args2 ((snd m2).e g f3) ((snd m3).e g f5) (star_cons (trA_star f2)) (star_cons (trA_star f4))) (star_cons (trA_star ea))) sw sole_tup).weak fun D' σ H ⟨env, S, E, re, so, h, l⟩ => ⟨env, S, E, re, so, ?_, l⟩
      simp only [wpS, wpE, wpA] at h
      have eq : (fun (v : D) (S1 : Sto) => wpE Φ x2 env S1 fun w S2 => wpE Φ x3 env S2 fun w' S3 => ([v, w, w'] : List D).length ≤ 16777216 ∧ wpP (.t (.cons (.v i) (.cons (.v j) (.cons (.v o) .nil)))) (.tup [v, w, w']) S3 env fun env' => E.nx env' S3) = fun v S1 => wpE Φ x2 env S1 fun w S2 => wpE Φ x3 env S2 fun w' S3 => E.nx (((env.set i (some v)).set j (some w)).set o (some w')) S3 := by
        funext v S1
        congr 1
        funext w S2
        congr 1
        funext w' S3
        simp [wpP, wpPs, seqD]
      rw [eq] at h
      exact h
end
end G57
set_option Elab.async false
set_option linter.all false
set_option maxRecDepth 100000
set_option maxHeartbeats 2000000
namespace G57
open PySem L2 PySem.Spec PyProof.Rows
section
variable {X : Cx} {Γ : Gam} {Φ : Tab} {k : Nat}
theorem sw_lc {e : Expr} {gs : List Comprehension} {scope : Scope} {lp py : Pos} {y : Str} {l : Nat} {env : Env} (hk : env.scope.kind = .function) :
    swapsWith (.ListComp e gs scope lp) (some (.Name y py)) l env = pure (env.scope.names.lookup y == some .local && py.line == lp.line && !(scope.names.any fun (n, k) => n == y && (k == .local || k == .cell))) := by
  have hb : env.blockKind = .function := by unfold Env.blockKind; rw [hk]; rfl
  unfold swapsWith
  simp only [hb, Expr.pos]
  rfl
theorem loc_eq {z : Option NameKind} (h : (z == some NameKind.local) = true) : z = some .local := by
  cases z with
  | none => cases h
  | some k => cases k <;> first | rfl | cases h
theorem snd_nlc {n : Nat} (g : Good X Γ Φ k) {y : Str} {py lp pos : Pos} {e : Expr} {gs : List Comprehension} {scope : Scope} {p : Pt} {ir : Ex} (h1 : ptOf n Γ (.Name y py) = some p) (h2 : trE n Γ (.ListComp e gs scope lp) = some ir) :
    QS X (.Assign [.Name y py] (.ListComp e gs scope lp) pos) (wpS Φ (.asg p ir)) := by
  have hk : X.env.scope.kind = .function := by rw [g.sc]; exact g.kd
  have sw := sw_lc (e := e) (gs := gs) (scope := scope) (lp := lp) (py := py) (y := y) (l := pos.line) (env := X.env) hk
  cases hb : (X.env.scope.names.lookup y == some .local && py.line == lp.line && !(scope.names.any fun (n, k) => n == y && (k == .local || k == .cell))) with
  | false =>
    rw [hb] at sw
    simp only [wpS]
    exact qs_asg ((snd n).e g h2) (pt_snd n g h1) sw stores_name (one_each (pt_plain h1))
  | true =>
    rw [hb] at sw
    rw [Bool.and_eq_true, Bool.and_eq_true] at hb
    have lk := loc_eq hb.1.1
    obtain ⟨j, vj, rfl⟩ := ptOf_name h1
    cases n with
    | zero => simp [trE] at h2
    | succ n =>
      match gs, h2, sw with
      | [], h, _ => simp [trE] at h
      | _ :: _ :: _, h, _ => simp [trE] at h
      | [⟨tg, it, ifs, as⟩], h, sw =>
        by_cases ha : as = 0
        · subst ha
          simp only [trE] at h
          split at h
          · cases h
          · rename_i hs
            obtain ⟨o, p', i', c', x', e1, e2, e3, e4, e5, hb, rfl⟩ := lc_inv h
            have ok : BlkOk X.N X.env.scope scope o := by rw [g.hN, g.sc]; exact blkOk_by hb
            have S := snd n
            simp only [wpS, wpE]
            exact qs_setLc g.calm g.nds (by rw [g.hN]; exact vix_get vj) lk sw (S.i g e3) ok (own_places n (Γ := Γ) (Δ := blk Γ scope) rfl e2 e1) (fun s H C cl fp => pt_snd n (good_blk g ok s H C cl fp) e2) (fun s H C cl fp => S.c (good_blk g ok s H C cl fp) e4)
              (fun s H C cl fp => S.e (good_blk g ok s H C cl fp) e5) (folded_of (by simpa using hs))
        · exfalso
          unfold trE at h
          split at h <;> simp_all
theorem set_arm {o i : Expr} {p : Pos} {env : Env} (h : sliceish i = false) : ∀ v, assign (.Subscript o i p) env v = (do
      let ov ← holding [v] (eval o env)
      let iv ← holding [v, ov] (eval i env)
      standAt p
      holding [v, ov, iv] (setItem ov iv v)
      release [v, ov, iv] []) := by
  intro v
  cases i <;> first | rfl | (simp [sliceish] at h)
structure SndS (n : Nat) : Prop where
  s : ∀ {X : Cx} {Γ : Gam} {Φ : Tab} {k : Nat} {st : Stmt} {ir : Sx}, Good X Γ Φ k → trS n Γ st = some ir → QS X st (wpS Φ ir)
  b : ∀ {X : Cx} {Γ : Gam} {Φ : Tab} {k : Nat} {st : List Stmt} {ir : Sx}, Good X Γ Φ k → trB n Γ st = some ir → QSs X st (wpS Φ ir)
theorem snd_asg {n : Nat} (g : Good X Γ Φ k) {tg e : Expr} {pos : Pos} {ir : Sx} (h : trS (n + 1) Γ (.Assign [tg] e pos) = some ir) : QS X (.Assign [tg] e pos) (wpS Φ ir) := by
  have S := snd n
  by_cases hsub : ∃ o i p, tg = .Subscript o i p
  · obtain ⟨o, i, p, rfl⟩ := hsub
    have h' : (if compish e || sliceish i then none else opt3 (trE n Γ o) (trE n Γ i) (trE n Γ e) fun o i e => Sx.set o i e) = some ir := by
      rw [← h]; rfl
    split at h'
    · cases h'
    · rename_i hc
      simp only [Bool.or_eq_true, not_or, Bool.not_eq_true] at hc
      obtain ⟨x, y, z, e1, e2, e3, rfl⟩ := three h'
      simp only [wpS]
      exact qs_set (S.e g e3) (S.e g e1) (S.e g e2) (sole_plain hc.1) stores_sub (set_arm hc.2)
  · by_cases htt : ∃ ts k1 p1 vs k2 p2, tg = .Tuple ts k1 p1 ∧ e = .Tuple vs k2 p2
    · obtain ⟨ts, k1, p1, vs, k2, p2, rfl, rfl⟩ := htt
      simp only [trS] at h
      have kf : X.env.scope.kind = .function := by rw [g.sc]; exact g.kd
      split at h
      · rename_i hw
        obtain ⟨p, x, e1, e2, rfl⟩ := two h
        rw [ptOf_tup (c := k1) (d := p1)] at e1
        simp only [wpS]
        exact qs_asg (S.e g e2) (pt_snd n g e1) sole_tup ((stores_eq kf).1 (by rw [g.sc]; exact hw)) (one_each rfl)
      · rename_i names hw
        split at h
        · cases h
        · rename_i hc
          obtain ⟨p, x, e1, e2, rfl⟩ := two h
          rw [ptOf_tup (c := k1) (d := p1)] at e1
          exact snd_par g hw (by simpa using hc) e1 e2
    · have h' : (if compish e && !tupleT tg && !nameLc tg e then none else opt2 (ptOf n Γ tg) (trE n Γ e) fun p e => Sx.asg p e) = some ir := by
        rw [← h]
        cases tg with
        | Subscript o i p => exact absurd ⟨o, i, p, rfl⟩ hsub
        | Tuple ts k1 p1 => cases e <;> first | rfl | exact absurd ⟨ts, k1, p1, _, _, _, rfl, rfl⟩ htt
        | _ => rfl
      split at h'
      · cases h'
      · rename_i hc
        obtain ⟨p, x, e1, e2, rfl⟩ := two h'
        have hs := pt_plain e1
        cases hnl : nameLc tg e with
        | true =>
          cases tg <;> try (cases hnl)
          cases e <;> try (cases hnl)
          exact snd_nlc g e1 e2
        | false =>
          simp only [wpS]
          refine qs_asg (S.e g e2) (pt_snd n g e1) ?_ ?_ (one_each hs)
          · cases hce : compish e with
            | false => exact sole_plain hce
            | true =>
              rw [hce, hnl] at hc
              cases tg with
              | Tuple ts k1 p1 => exact sole_tup
              | _ => simp [tupleT] at hc
          · cases tg with
            | Name x p => exact stores_name
            | Tuple ts k1 p1 =>
              refine stores_tup ?_
              cases e <;> first | rfl | exact absurd ⟨ts, k1, p1, _, _, _, rfl, rfl⟩ htt
            | _ => cases n <;> simp [ptOf] at e1
theorem asg_inv {n : Nat} {tgs : List Expr} {e : Expr} {p : Pos} {ir : Sx} (h : trS (n + 1) Γ (.Assign tgs e p) = some ir) : ∃ tg, tgs = [tg] := by
  cases tgs with
  | nil => have z : trS (n + 1) Γ (.Assign [] e p) = none := rfl; rw [z] at h; cases h
  | cons a r =>
    cases r with
    | nil => exact ⟨a, rfl⟩
    | cons b r => have z : trS (n + 1) Γ (.Assign (a :: b :: r) e p) = none := by cases a <;> rfl
                  rw [z] at h; cases h
end
theorem sndS : ∀ n, SndS n
  | 0 => ⟨fun _ h => by simp [trS] at h, fun _ h => by simp [trB] at h⟩
  | n + 1 => by
    have S := snd n
    have I := sndS n
    refine ⟨fun {X Γ Φ k st ir} g h => ?_, fun {X Γ Φ k st ir} g h => ?_⟩
    · cases st with
      | Assign tgs e p =>
        obtain ⟨tg, rfl⟩ := asg_inv h
        exact snd_asg g h
      | Expr e p =>
        simp only [trS] at h
        split at h
        · cases h
        · rename_i hc
          obtain ⟨x, e1, rfl⟩ := Option.map_eq_some_iff.mp h
          simp only [wpS]
          exact qs_expr (S.e g e1) (none_plain (by simpa using hc))
      | Return e p =>
        cases e with
        | none => simp [trS] at h
        | some e =>
          simp only [trS] at h
          obtain ⟨x, e1, rfl⟩ := Option.map_eq_some_iff.mp h
          simp only [wpS]
          exact qs_ret (S.e g e1)
      | If c a b p =>
        simp only [trS] at h
        obtain ⟨x, y, z, e1, e2, e3, rfl⟩ := three h
        simp only [wpS]
        exact qs_if (S.t g e1) (I.b g e2) (I.b g e3)
      | For tg it b els p =>
        cases els with
        | cons _ _ => simp [trS] at h
        | nil =>
          simp only [trS] at h
          split at h
          · cases h
          · rename_i hc
            obtain ⟨x, y, z, e1, e2, e3, rfl⟩ := three h
            simp only [wpS]
            exact qs_for g.own g.calm (S.i g e2) (pt_snd n g e1) (I.b g e3) (folded_of (by simpa using hc))
      | While c b els p =>
        cases els with
        | cons _ _ => simp [trS] at h
        | nil =>
          simp only [trS] at h
          obtain ⟨x, y, e1, e2, rfl⟩ := two h
          simp only [wpS]
          exact qs_while g.own (S.t g e1) (I.b g e2)
      | Break p => simp only [trS] at h; cases h; simp only [wpS]; exact qs_break
      | Continue p => simp only [trS] at h; cases h; simp only [wpS]; exact qs_cont
      | Pass p => simp only [trS] at h; cases h; simp only [wpS]; exact qs_pass
      | _ => simp [trS] at h
    · cases st with
      | nil => simp only [trB] at h; cases h; simp only [wpS]; exact qss_nil
      | cons s r =>
        simp only [trB] at h
        obtain ⟨x, y, e1, e2, rfl⟩ := two h
        simp only [wpS]
        exact qss_cons (I.s g e1) (I.b g e2)
end G57
set_option Elab.async false
set_option linter.all false
set_option maxRecDepth 100000
set_option maxHeartbeats 2000000
namespace G57
open PySem L2 PySem.Spec PyProof.Rows
def startD (N : List Str) (ds : List D) : En := ds.map some ++ List.replicate (N.length - ds.length) none
def storable (sc : Scope) : List Str := (sc.names.filter fun y => y.2 == .local || y.2 == .cell).map (·.1)
def gamOf (N : List Str) (sc : Scope) (bs fs : List Str) (cs : List (Str × D)) : Gam := ⟨N, sc, storable sc, bs, fs, cs⟩
def scopeOk (sc : Scope) : Bool := (sc.names.all fun y => decide (sc.names.lookup y.1 = some y.2)) && (sc.names.all fun y => decide (y.2 ≠ .free)) && decide (sc.kind = .function) && !sc.isCoroutine && !sc.isGenerator
def fnOkB (N ps : List Str) (sc : Scope) : Bool := scopeOk sc && decide N.Nodup && decide (N.take ps.length = ps) && (ps.all fun x => decide (sc.names.lookup x = some .local) || decide (sc.names.lookup x = some .cell))
theorem fnScope_of {N ps : List Str} {sc : Scope} (h : fnOkB N ps sc = true) : FnScope N ps sc ∧ ∀ y ∈ sc.names, sc.names.lookup y.1 = some y.2 := by
  unfold fnOkB scopeOk at h
  simp only [Bool.and_eq_true, List.all_eq_true, decide_eq_true_eq, Bool.not_eq_true', Bool.or_eq_true] at h
  obtain ⟨⟨⟨⟨⟨⟨⟨h1, h2⟩, h3⟩, h4⟩, h5⟩, h6⟩, h7⟩, h8⟩ := h
  exact ⟨⟨h3, h4, h5, h6, h7, h8, h2⟩, h1⟩
structure FT (K : PySem.W.Frag) (mg : Str → Option Value) (x : Str) (st : Stmt) (ps : List Str) : Prop where
  ex : ∃ f fd, Fun K x x st f fd ∧ mg x = some (.ref f) ∧ Binds K fd ps []
structure Does (P : Program) (w : World) (K : PySem.W.Frag) (mg : Str → Option Value) (base : Heap) (k : Nat) (x : Str) (sp : Spec) : Prop where
  ex : ∃ f fd ps, mg x = some (.ref f) ∧ PySem.W.keepIn K (.ref f) = true ∧ Binds K fd ps [] ∧ FnG P w K mg base k f fd ps (liftSp K ps.length sp) ∧ ∀ ds S Q, sp ds S Q → ds.length = ps.length
theorem Does.mono {P : Program} {w : World} {K : PySem.W.Frag} {mg : Str → Option Value} {base : Heap} {j k : Nat} {x : Str} {sp : Spec} (d : Does P w K mg base j x sp) (h : j ≤ k) : Does P w K mg base k x sp := by
  obtain ⟨f, fd, ps, a, b, c, e, g⟩ := d.ex
  exact ⟨f, fd, ps, a, b, c, e.mono h, g⟩
structure Md (K : PySem.W.Frag) (mg : Str → Option Value) (bs : List Str) (cs : List (Str × D)) : Prop where
  bs : ∀ x ∈ bs, mg x = none
  cs : ∀ x d, cs.lookup x = some d → ∃ v u, mg x = some u ∧ RelV v u ∧ ∀ H, Rep K H d v
theorem fn_does {P : Program} {w : World} {K : PySem.W.Frag} {mg : Str → Option Value} {base : Heap} {k : Nat} {x : Str} {st : Stmt} {f : Addr} {fd : FuncData} {N ps bs : List Str} {cs : List (Str × D)} {Φ : List (Str × Spec)} {ir : Sx} {sp : Spec}
    (F : Fun K x x st f fd) (hsc : fnOkB N ps (defScope st) = true) (tr : trB 300 (gamOf N (defScope st) bs (Φ.map (·.1)) cs) (defBody st) = some ir) (md : Md K mg bs cs) (tab : ∀ p ∈ Φ, Does P w K mg base k p.1 p.2)
    (body : ∀ ds S Q, sp ds S Q → wpS (fun i => (Φ[i]?).map (·.2)) ir { nx := fun _ S' => Q .non S', rt := Q } (startD N ds) S) : FnG P w K mg base (k + 1) f fd ps (liftSp K ps.length sp) := by
  obtain ⟨sc, un⟩ := fnScope_of hsc
  refine fnG_of F sc (fun vs H Q E h => h.1) (fun cdv A outer s H vs Q E hr hg h => ?_)
  obtain ⟨hl, ds, S, Qd, r, so, h, l⟩ := h
  have g : Good (cxOf CX0 P w K mg base N x (defScope st) f cdv A outer s H E).nox (gamOf N (defScope st) bs (Φ.map (·.1)) cs) (fun i => (Φ[i]?).map (·.2)) k := by
    refine ⟨rfl, rfl, sc.nd, sc.kind, rfl, hr, hg, rfl, fun y hy => ?_, md.bs, fun y i sp' hv e => ?_, md.cs⟩
    · obtain ⟨z, hz, rfl⟩ := List.mem_map.mp hy
      obtain ⟨hm, hk⟩ := List.mem_filter.mp hz
      have hu := un z hm
      refine ⟨?_, .inl rfl⟩
      rcases Bool.or_eq_true_iff.mp hk with q | q
      · exact .inl (by show (defScope st).names.lookup z.1 = _; rw [hu]; revert q; cases z.2 <;> decide)
      · exact .inr (by show (defScope st).names.lookup z.1 = _; rw [hu]; revert q; cases z.2 <;> decide)
    · obtain ⟨p, e1, rfl⟩ := Option.map_eq_some_iff.mp e
      have e2 := vix_get hv
      have e3 : (Φ.map (·.1))[i]? = some p.1 := by rw [List.getElem?_map, e1]; rfl
      have e4 : y = p.1 := Option.some.inj (e2.symm.trans e3)
      subst e4
      exact (tab p (List.mem_of_getElem? e1)).ex
  refine ⟨_, (sndS 300).b g tr, startD N ds, S, _, ?_, so, body ds S Qd h, ⟨fun env S' σ H' q k re s' => l _ S' _ H' q k .non s', fun env S' σ H' q => q.elim, fun env S' σ H' q => q.elim, l⟩⟩
  have hN : ds.length = vs.length := r.length
  refine ⟨by unfold startD L2.start; simp [hN], fun i d e => ?_⟩
  unfold startD at e
  unfold L2.start
  by_cases hi : i < ds.length
  · rw [List.getElem?_append_left (by simpa using hi), List.getElem?_map] at e
    obtain ⟨d', e1, e2⟩ := Option.map_eq_some_iff.mp e
    cases e2
    obtain ⟨v, e3, rv⟩ := r.get e1
    exact ⟨v, by rw [List.getElem?_append_left (by simp; omega), List.getElem?_map, e3]; rfl, rv⟩
  · rw [List.getElem?_append_right (by simpa using hi), List.getElem?_replicate] at e
    split at e <;> cases e
theorem does_of {P : Program} {w : World} {K : PySem.W.Frag} {mg : Str → Option Value} {base : Heap} {k : Nat} {x : Str} {st : Stmt} {N ps bs : List Str} {cs : List (Str × D)} {Φ : List (Str × Spec)} {ir : Sx} {sp : Spec}
    (F : FT K mg x st ps) (hsc : fnOkB N ps (defScope st) = true) (tr : trB 300 (gamOf N (defScope st) bs (Φ.map (·.1)) cs) (defBody st) = some ir) (md : Md K mg bs cs) (tab : ∀ p ∈ Φ, Does P w K mg base k p.1 p.2)
    (len : ∀ ds S Q, sp ds S Q → ds.length = ps.length)
    (body : ∀ ds S Q, sp ds S Q → wpS (fun i => (Φ[i]?).map (·.2)) ir { nx := fun _ S' => Q .non S', rt := Q } (startD N ds) S) : Does P w K mg base (k + 1) x sp := by
  obtain ⟨f, fd, F, m1, m2⟩ := F.ex
  exact ⟨f, fd, ps, m1, F.kp, m2, fn_does F hsc tr md tab body, len⟩
def lawSp (n : Nat) : Spec := fun ds _ Q => ∃ ns : List Int, ns.length ≤ n ∧ ds = [.rol (ns.map D.int)] ∧ ∀ S', Q (.bl true) S'
theorem ints_rep {K : PySem.W.Frag} {H : Hp} : ∀ ns : List Int, Reps K H (ns.map D.int) (ns.map V.int)
  | [] => .nil
  | n :: ns => .cons .int (ints_rep ns)
theorem law_end {P : Program} {w : World} {K : PySem.W.Frag} {mg mb : Str → Option Value} {k n : Nat} {fa a : Addr} {fd : FuncData} {x : Str} {s₁ : Shared} {vs : List Value} {ns : List Int}
    (KX : K.In s₁.heap) (hns : s₁.heap.Ns mainGlobals mg) (hb : s₁.heap.Ns builtinsNs mb) (hbb : ∀ x : Str, x ≠ "__name__" → mb x = bootBuiltins x) (hlim : s₁.heap.NoLimit) (hg : s₁.gens = #[])
    (ha : s₁.heap.get? a = some { cls := .type "list", data := .seq vs.toArray }) (hi : IntsAre vs ns) (hl : ns.length ≤ n) (hz : n ≤ sizeLine) (hr : Room k callerA)
    (F : ∀ base : Heap, K.In base → base.Ns mainGlobals mg → FnG P w K mg base k fa fd [x] (liftSp K 1 (lawSp n))) (hbind : ∀ (s : Shared) (u : Value), BindsTo s fd ⟨[u], []⟩ [(x, u)]) :
    codeAny (model P w) callerA (.call (.ref fa) ⟨[.ref a], []⟩) (fun r s' => r = .ok (.ret (.bool true)) ∧ OldK s₁.heap s'.heap ∧ s'.os = s₁.os ∧ AllBare s'.gens) s₁ := by
  have rv := vals_ints hi
  have lenV := hi.length
  have core : ∀ H : Hp, Only H → SqF K H a (ns.map V.int) → HOk P w H s₁.heap → (∀ b, H b ≠ none → b = a) → (H a ≠ none → K.lookup a = none) →
      codeAny (model P w) callerA (.call (.ref fa) ⟨[.ref a], []⟩) (fun r s' => r = .ok (.ret (.bool true)) ∧ OldK s₁.heap s'.heap ∧ s'.os = s₁.os ∧ AllBare s'.gens) s₁ := by
    intro H hO hS hok hA hK
    have free : ∀ {b : Addr} {o : Obj}, s₁.heap.get? b = some o → (∀ es ep, o.data ≠ .dict es ep → b = a → False) → H b = none := fun {b o} e q => by
      cases z : H b with
      | none => rfl
      | some u =>
        have eb : b = a := hA b (by rw [z]; simp)
        subst eb
        rw [ha] at e; cases e
        exact (q #[] 0 (by intro z; cases z) rfl).elim
    have noD : ∀ {b : Addr} {o : Obj} {es : Array DictEntry} {ep : Nat}, s₁.heap.get? b = some o → o.data = .dict es ep → H b = none := fun {b o es ep} e d => by
      cases z : H b with
      | none => rfl
      | some u =>
        have eb : b = a := hA b (by rw [z]; simp)
        subst eb
        rw [ha] at e; cases e
        cases (show Data.seq vs.toArray _ = Data.dict es ep from d)
    have nsK : ∀ {b : Addr} {m : Str → Option Value}, s₁.heap.Ns b m → (hidT s₁.heap H).Ns b m :=
      fun {b m} ⟨o, es, ep, e, d, r⟩ => ⟨o, es, ep, hidT_get e (noD e d), d, r⟩
    have hKb : K.In (hidT s₁.heap H) := fun b o e => hidT_get (KX b o e) (by
      cases z : H b with
      | none => rfl
      | some u =>
        have eb : b = a := hA b (by rw [z]; simp)
        subst eb
        rw [hK (by rw [z]; simp)] at e; cases e)
    have hM : Mod K mg (hidT s₁.heap H) := by
      obtain ⟨mc, c1, c2⟩ := hlim
      exact ⟨hKb, nsK hns, ⟨mb, nsK hb, hbb⟩, ⟨mc, nsK c1, c2⟩⟩
    have nil0 : ∀ b : Addr, b ∉ frs [] := fun b hb => absurd (show b ∈ ([] : List Addr) from hb) (by simp)
    have e0 : Env0 P w K mg (hidT s₁.heap H) callerA [] s₁ H := ⟨rfl, hM, fun b o e => of_hidT e, Nat.le_of_eq (hidT_size _ _), trivial, fun b hb => (nil0 b hb).elim, hok, .of_eq hg⟩
    have sp : liftSp K 1 (lawSp n) [.ref a] H (fun v _ => v = .bl true) E0 :=
      ⟨rfl, [.rol (ns.map D.int)], fun _ => none, fun d _ => d = .bl true, .cons (by simp only [Rep]; exact ⟨a, _, rfl, hS, ints_rep ns⟩) .nil, (fun b o e => by cases e), ⟨ns, hl, rfl, fun _ => rfl⟩,
        fun d S' v H' q _ r _ => by subst q; simpa only [Rep] using r⟩
    refine codeAny_mono ((F _ hKb (nsK hns)).run callerA [] s₁ H ⟨[.ref a], []⟩ [.ref a] [.ref a] _ E0 hr rfl e0 (hbind s₁ (.ref a)) (.cons rfl .nil) sp) fun r s' h => ?_
    match r, h with
    | .error e, h => exact h.elim
    | .ok .next, h => exact h.elim
    | .ok .brk, h => exact h.elim
    | .ok .cont, h => exact h.elim
    | .ok (.ret u), h =>
      obtain ⟨v, H', os, bare, unt, hok', r', q⟩ := h
      have q' : v = .bl true := q
      subst q'
      obtain rfl : u = Value.bool true := r'
      refine ⟨rfl, OldK.of_keep fun b o e => ?_, os, bare⟩
      cases q : H b with
      | none => exact unt.keep b o e q (nil0 b) (by simp)
      | some u =>
        rcases hO b with z | ⟨ob, xs, z⟩
        · rw [q] at z; cases z
        · obtain ⟨e1, _⟩ := hok b _ z
          obtain ⟨e2, _⟩ := hok' b _ (unt.frzs b ob _ z)
          rw [e] at e1; cases e1
          exact e2
  have hlz : ns.length ≤ sizeLine := Nat.le_trans hl hz
  cases hk : K.lookup a with
  | some o =>
    have e := KX a o hk
    rw [ha] at e
    cases e
    refine core (fun _ => none) (fun _ => .inl rfl) (.inr fun H' => .inr ⟨_, vs.toArray, _, hk, rfl, rfl, rfl, by rw [List.size_toArray, lenV]; exact hlz, by simpa using rv⟩) (fun b u z => by cases z) (fun b z => (z rfl).elim) fun z => (z rfl).elim
  | none =>
    let ob : Obj := { cls := .type "list", data := .seq vs.toArray }
    have hup : upd (fun _ => none) a (.frz ob (.lst (ns.map V.int))) a = some (.frz ob (.lst (ns.map V.int))) := upd_same
    refine core (upd (fun _ => none) a (.frz ob (.lst (ns.map V.int)))) (fun b => ?_) (.inl ⟨ob, hup⟩) (fun b u z => ?_) (fun b z => ?_) fun _ => hk
    · by_cases hb : b = a
      · subst hb; exact .inr ⟨_, _, hup⟩
      · exact .inl (upd_ne hb)
    · by_cases hb : b = a
      · subst hb
        rw [hup] at z; cases z
        exact ⟨ha, by rw [List.length_map]; exact hlz, vs, _, rv, ha⟩
      · rw [upd_ne hb] at z; cases z
    · by_cases hb : b = a
      · exact hb
      · exact (z (upd_ne hb)).elim
theorem walk_end {l : PySem.W.OpenLaw} {n k : Nat} {q : Program} {loose : List Str} {XP : (Str → Option Value) → Heap → Prop} {YP : World → Heap → Prop} {d : DefRec} {K : Params → PySem.W.Frag} {x : Str}
    (hn : l.most = some n) (hn2 : n ≤ sizeLine) (hdf : d.params.defaults = []) (hr : Room k callerA) (hY : ∀ (w : World) (h : Heap), YP w h → (K w.params).In h)
    (F : ∀ (w : World) (mg : Str → Option Value) (fa : Addr) (h : Heap), (K w.params).In h → h.Ns mainGlobals mg → mg d.name = some (.ref fa) →
      ∃ fd : FuncData, (∀ (s : Shared) (u : Value), BindsTo s fd ⟨[u], []⟩ [(x, u)]) ∧
        ∀ base : Heap, (K w.params).In base → base.Ns mainGlobals mg → FnG l.prog w (K w.params) mg base k fa fd [x] (liftSp (K w.params) 1 (lawSp n))) :
    PySem.W.WalkO q loose XP YP l.row.toRowW d [] (fun f vs => PySem.call f vs) := by
  refine Att.attach_call hn hdf fun w s₀ s₁ mg mb fa o pm cd doc a vs ns G Y ho hd hcd hmg hobj hints hlen hg => ?_
  obtain ⟨fd, hbd, hF⟩ := F w mg fa _ (hY w _ Y) G.T.g hmg
  exact law_end (hY w _ Y) G.T.g G.T.b G.T.builtins G.T.nolimit hg hobj hints hlen hn2 hr hF hbd
end G57
set_option Elab.async false
set_option linter.all false
set_option maxRecDepth 100000
set_option maxHeartbeats 400000
namespace G57
open PySem L2
section
variable {Φ : Tab} {E : EndsD} {env : En} {S : Sto} {p : Pt} {e o i c it : Ex} {a b r : Sx}
theorem st_cons (h : wpS Φ a { E with nx := fun env' S' => wpS Φ r E env' S' } env S) : wpS Φ (.cons a r) E env S := h
theorem st_nil (h : E.nx env S) : wpS Φ .nil E env S := h
theorem st_asg (h : wpE Φ e env S fun d S1 => wpP p d S1 env fun env' => E.nx env' S1) : wpS Φ (.asg p e) E env S := h
theorem st_set (h : wpE Φ e env S fun d S1 => wpE Φ o env S1 fun x S2 => wpE Φ i env S2 fun y S3 => setD x y d S3 fun S4 => E.nx env S4) : wpS Φ (.set o i e) E env S := h
theorem st_ret (h : wpE Φ e env S E.rt) : wpS Φ (.ret e) E env S := h
theorem st_iff (h : wpT Φ c env S fun t S1 => if t = true then wpS Φ a E env S1 else wpS Φ b E env S1) : wpS Φ (.iff c a b) E env S := h
end
section
variable {S : Sto} {Q : DK} {i j : Int} {x y : List Nat} {b c : Bool} {ds es : List D} {p q : Addr} {d : D} {lo hi : Option Int} {K : IK}
theorem addD_ii : addD (.int i) (.int j) S Q = Q (.int (i + j)) S := rfl
theorem mulD_ii : mulD (.int i) (.int j) S Q = (CMulW i j ∧ Q (.int (i * j)) S) := rfl
theorem fdivD_ii : fdivD (.int i) (.int j) S Q = (0 < j ∧ j < 2 ^ 8000 ∧ Q (.int (i / j)) S) := rfl
theorem modD_ii : modD (.int i) (.int j) S Q = (0 < j ∧ Q (.int (i % j)) S) := rfl
theorem powD_ii : powD (.int i) (.int j) S Q = (CPow i j ∧ Q (.int (i ^ j.toNat)) S) := rfl
theorem ordD_ii {f : Int → Int → Bool} {g : List Nat → List Nat → Bool} : ordD f g (.int i) (.int j) S Q = Q (.bl (f i j)) S := rfl
theorem isD_n : isD b d .non S Q = Q (.bl (b ^^ isNon d)) S := by cases d <;> rfl
theorem idxD_r : idxD (.ref p) (.int i) S Q = ∃ ds, S p = some (.lst ds) ∧ ∃ d, atI ds i = some d ∧ Q d S := by
  simp only [idxD, exists_and_left]
theorem slD_l : slD (.rol ds) lo hi S Q = ∀ p, S p = none → Q (.ref p) (put S p (.lst (cutD ds lo hi))) := rfl
theorem seqD_r : (seqD S (.ref p) = some ds) = (S p = some (.lst ds)) := by
  simp only [seqD]
  cases h : S p with
  | none => simp
  | some o => cases o; simp
theorem lenD_r : lenD [.ref p] S Q = ∃ ds, S p = some (.lst ds) ∧ Q (.int ds.length) S := by simp only [lenD, seqD_r]
theorem absD_i : absD [.int i] S Q = Q (.int i.natAbs) S := rfl
theorem intD_i : intD [.int i] S Q = Q (.int i) S := rfl
theorem listD_r : listD [.ref p] S Q = ∃ ds, S p = some (.lst ds) ∧ ∀ p, S p = none → Q (.ref p) (put S p (.lst ds)) := by simp only [listD, seqD_r]
theorem setD_of {k : Int} {n : Nat} {R : Sto → Prop} (h : S p = some (.lst ds)) (hn : ixN ds.length k = some n) (r : R (put S p (.lst (ds.set n d)))) : setD (.ref p) (.int k) d S R := ⟨ds, n, h, hn, r⟩
end
section
variable {α : Type} {x y z w : α} {r : List α}
theorem atI_n {i : Int} {n : Nat} (h : i = n) : atI r i = r[n]? := by
  subst h
  unfold atI ixN
  by_cases hn : n < r.length
  · rw [if_pos (by omega), if_pos (by omega)]; simp
  · rw [if_pos (by omega), if_neg (by omega), List.getElem?_eq_none (by omega)]; rfl
theorem atI_0 : atI (x :: r) 0 = some x := atI_n (n := 0) rfl
theorem atI_1 : atI (x :: y :: r) 1 = some y := atI_n (n := 1) rfl
theorem atI_2 : atI (x :: y :: z :: r) 2 = some z := atI_n (n := 2) rfl
theorem atI_3 : atI (x :: y :: z :: w :: r) 3 = some w := atI_n (n := 3) rfl
theorem atI_m : atI (r ++ [x]) (-1) = some x := by
  unfold atI ixN
  rw [if_neg (by omega), if_pos (by rw [List.length_append]; simp; omega)]
  have e : ((-1 : Int) + ((r ++ [x]).length : Int)).toNat = r.length := by rw [List.length_append]; simp; omega
  rw [e]
  simp only [Option.bind_some]
  simp
theorem ne_fresh {S : Sto} {p r : Addr} {o : Ob} (h : S p = some o) (hr : S r = none) : p ≠ r := fun e => by rw [e, hr] at h; cases h
end
end G57
set_option Elab.async false
set_option linter.all false
set_option maxRecDepth 100000
set_option maxHeartbeats 400000
namespace G57
open PySem L2
def Ext (S S' : Sto) : Prop := ∀ a o, S a = some o → S' a = some o
theorem Ext.refl {S : Sto} : Ext S S := fun _ _ e => e
theorem Ext.trans {S S1 S2 : Sto} (a : Ext S S1) (b : Ext S1 S2) : Ext S S2 := fun c o e => b c o (a c o e)
theorem Ext.put {S : Sto} {p : Addr} {o : Ob} (h : S p = none) : Ext S (G57.put S p o) := fun a u e => by
  rw [put_ne (fun z => by rw [z, h] at e; cases e)]; exact e
def ExtB (p : Addr) (S S' : Sto) : Prop := ∀ a o, a ≠ p → S a = some o → S' a = some o
theorem ExtB.refl {p : Addr} {S : Sto} : ExtB p S S := fun _ _ _ e => e
theorem ExtB.trans {p : Addr} {S S1 S2 : Sto} (a : ExtB p S S1) (b : ExtB p S1 S2) : ExtB p S S2 := fun c o n e => b c o n (a c o n e)
theorem Ext.but {p : Addr} {S S' : Sto} (a : Ext S S') : ExtB p S S' := fun c o _ e => a c o e
theorem ExtB.write {p : Addr} {S : Sto} {o : Ob} : ExtB p S (G57.put S p o) := fun a u n e => by rw [put_ne n]; exact e
def Deck (S : Sto) (p q : Addr) (b : Nat) : Prop := ∃ (ns : List Int) (a c d : Int), S p = some (.lst [.ref q, .int a, .int c, .int d]) ∧ S q = some (.lst (ns.map .int)) ∧ q ≠ p ∧ 0 ≤ a ∧ 0 ≤ c ∧ 0 ≤ d ∧ d + b ≤ 2147483648 ∧ ns.length ≤ 63
theorem Deck.less {S : Sto} {p q : Addr} {b c : Nat} (h : Deck S p q b) (hc : c ≤ b) : Deck S p q c := by
  obtain ⟨ns, a, e, d, h1, h2, h3, h4, h5, h6, h7, h8⟩ := h
  exact ⟨ns, a, e, d, h1, h2, h3, h4, h5, h6, by omega, h8⟩
theorem Deck.ext {S S' : Sto} {p q : Addr} {b : Nat} (h : Deck S p q b) (e : Ext S S') : Deck S' p q b := by
  obtain ⟨ns, a, c, d, h1, h2, h3⟩ := h
  exact ⟨ns, a, c, d, e _ _ h1, e _ _ h2, h3⟩
theorem Deck.put {S : Sto} {p q r : Addr} {b : Nat} {o : Ob} (h : Deck S p q b) (h1 : p ≠ r) (h2 : q ≠ r) : Deck (G57.put S r o) p q b := by
  obtain ⟨ns, a, c, d, e1, e2, h3⟩ := h
  exact ⟨ns, a, c, d, by rw [put_ne h1]; exact e1, by rw [put_ne h2]; exact e2, h3⟩
theorem Deck.fresh {S : Sto} {p q r : Addr} {b : Nat} (h : Deck S p q b) (hr : S r = none) : p ≠ r ∧ q ≠ r := by
  obtain ⟨ns, a, c, d, e1, e2, h3⟩ := h
  exact ⟨ne_fresh e1 hr, ne_fresh e2 hr⟩
def spDraw : Spec := fun ds S Q => ∃ p q n b, ds = [.ref p, .int n] ∧ 0 < n ∧ n < 2 ^ 8000 ∧ Deck S p q (b + 1) ∧ ∀ S' r, 0 ≤ r → r < n → Deck S' p q b → ExtB p S S' → Q (.int r) S'
theorem cmul_of {i j : Int} (hi : i.natAbs < 2 ^ 64) (hj : j.natAbs < 2 ^ 64) : CMulW i j := wide_mul hi hj (by decide) (by decide) (by decide)
theorem ints_ok : ∀ (k : Nat) (ns : List Int), oksD k (ns.map .int) = true
  | _, [] => by simp [oksD]
  | k, n :: ns => by
    rw [List.map_cons, oksD, ints_ok k ns]
    cases k <;> simp [okD]
def ir_l_draw_b1_2 : Sx := .cons (.ret (.var 4)) .nil
def ir_l_draw_b1_1 : Sx := .cons (.set (.var 0) (.con (.int 2)) (.bin .FloorDiv (.idx (.var 0) (.con (.int 2))) (.var 1))) ir_l_draw_b1_2
def ir_l_draw_b1 : Sx := .cons (.asg (.v 4) (.bin .Mod (.bi .int (.cons (.idx (.var 0) (.con (.int 2))) (.nil))) (.var 1))) ir_l_draw_b1_1
def ir_l_draw_b2 : Sx := .cons (.asg (.v 2) (.idx (.idx (.var 0) (.con (.int 0))) (.bin .Mod (.bi .int (.cons (.idx (.var 0) (.con (.int 1))) (.nil))) (.bi .len (.cons (.idx (.var 0) (.con (.int 0))) (.nil)))))) .nil
def ir_l_draw_b3_1 : Sx := .cons (.ret (.bin .Mod (.bi .int (.cons (.bi .abs (.cons (.var 2) (.nil))) (.nil))) (.var 1))) .nil
def ir_l_draw_b3 : Sx := .cons (.set (.var 0) (.con (.int 2)) (.bin .FloorDiv (.bi .abs (.cons (.var 2) (.nil))) (.var 1))) ir_l_draw_b3_1
def ir_l_draw_8 : Sx := .cons (.ret (.bin .Mod (.bin .FloorDiv (.var 3) (.con (.int 64))) (.var 1))) .nil
def ir_l_draw_7 : Sx := .cons (.asg (.v 3) (.bin .Mod (.bin .Pow (.bi .int (.cons (.bin .Add (.bin .Mult (.var 3) (.bin .Add (.bin .Mult (.con (.int 2)) (.idx (.var 0) (.con (.int 3)))) (.con (.int 3)))) (.con (.int 7907))) (.nil))) (.con (.int 3))) (.con (.int 2147483587)))) ir_l_draw_8
def ir_l_draw_6 : Sx := .cons (.asg (.v 3) (.bin .Mod (.bin .Pow (.bi .int (.cons (.bin .Add (.bin .Mod (.bi .int (.cons (.var 2) (.nil))) (.con (.int 2147483629))) (.bin .Mult (.con (.int 104723)) (.idx (.var 0) (.con (.int 3))))) (.nil))) (.con (.int 5))) (.con (.int 2147483647)))) ir_l_draw_7
def ir_l_draw_5 : Sx := .cons (.iff (.and (.cmp .GtE (.bi .abs (.cons (.var 2) (.nil))) (.bin .Pow (.con (.int 10)) (.con (.int 18)))) (.cmp .LtE (.idx (.var 0) (.con (.int 1))) (.bi .len (.cons (.idx (.var 0) (.con (.int 0))) (.nil))))) (ir_l_draw_b3) (.nil)) ir_l_draw_6
def ir_l_draw_4 : Sx := .cons (.set (.var 0) (.con (.int 1)) (.bin .Add (.idx (.var 0) (.con (.int 1))) (.con (.int 1)))) ir_l_draw_5
def ir_l_draw_3 : Sx := .cons (.iff (.cmp .NotEq (.idx (.var 0) (.con (.int 0))) (.lst (.nil))) (ir_l_draw_b2) (.nil)) ir_l_draw_4
def ir_l_draw_2 : Sx := .cons (.asg (.v 2) (.con (.int 31))) ir_l_draw_3
def ir_l_draw_1 : Sx := .cons (.iff (.cmp .Gt (.idx (.var 0) (.con (.int 2))) (.con (.int 0))) (ir_l_draw_b1) (.nil)) ir_l_draw_2
def ir_l_draw : Sx := .cons (.set (.var 0) (.con (.int 3)) (.bin .Add (.idx (.var 0) (.con (.int 3))) (.con (.int 1)))) ir_l_draw_1
theorem deck_upd {S : Sto} {p q : Addr} {ns : List Int} {a c d : Int} {b : Nat} (e2 : S q = some (.lst (ns.map .int))) (ne : q ≠ p) (ha : 0 ≤ a) (hc : 0 ≤ c) (hd : 0 ≤ d) (hb : d + b ≤ 2147483648) (hl : ns.length ≤ 63) :
    Deck (put S p (.lst [.ref q, .int a, .int c, .int d])) p q b := ⟨ns, a, c, d, put_same, by rw [put_ne ne]; exact e2, ne, ha, hc, hd, hb, hl⟩
abbrev phi0 : Tab := fun i => (([] : List (Str × Spec))[i]?).map (·.2)
section
variable {S : Sto} {Q : DK} {p q : Addr} {n cell : Int} {ns : List Int} {a c d : Int}
theorem draw_6 (f1 : S p = some (.lst [.ref q, .int a, .int c, .int d])) (hn : 0 < n) (hd : 0 ≤ d) (hd2 : d ≤ 2147483648) (k : ∀ r, 0 ≤ r → r < n → Q (.int r) S) :
    wpS phi0 ir_l_draw_6 { nx := fun _ S' => Q .non S', rt := Q } [some (.ref p), some (.int n), some (.int cell), none, none] S := by
  have c1 := Int.emod_nonneg cell (show (2147483629 : Int) ≠ 0 by decide)
  have c2 := Int.emod_lt_of_pos cell (show (0 : Int) < 2147483629 by decide)
  unfold ir_l_draw_6
  refine st_cons (st_asg ?_)
  simp only [wpE, wpA, wpP, opD, biD, addD_ii, mulD_ii, modD_ii, powD_ii, idxD_r, intD_i, List.getElem?_cons_zero, List.getElem?_cons_succ, List.set_cons_zero, List.set_cons_succ, Option.some.injEq, exists_eq_left', Ob.lst.injEq, atI_3, f1]
  refine ⟨by decide, cmul_of (by decide) (by omega), ⟨by decide, by decide, by omega⟩, by decide, ?_⟩
  generalize hm : (cell % 2147483629 + 104723 * d) ^ Int.toNat 5 % 2147483647 = m
  have m1 : 0 ≤ m := by rw [← hm]; exact Int.emod_nonneg _ (by decide)
  have m2 : m < 2147483647 := by rw [← hm]; exact Int.emod_lt_of_pos _ (by decide)
  unfold ir_l_draw_7
  refine st_cons (st_asg ?_)
  simp only [wpE, wpA, wpP, opD, biD, addD_ii, mulD_ii, modD_ii, powD_ii, idxD_r, intD_i, List.getElem?_cons_zero, List.getElem?_cons_succ, List.set_cons_zero, List.set_cons_succ, Option.some.injEq, exists_eq_left', Ob.lst.injEq, atI_3, f1]
  have m3 : m * (2 * d + 3) ≤ 2147483647 * (2 * d + 3) := Int.mul_le_mul_of_nonneg_right (by omega) (by omega)
  have m4 : 0 ≤ m * (2 * d + 3) := Int.mul_nonneg m1 (by omega)
  refine ⟨cmul_of (by decide) (by omega), cmul_of (by omega) (by omega), ⟨by decide, by decide, by omega⟩, by decide, ?_⟩
  unfold ir_l_draw_8
  refine st_cons (st_ret ?_)
  simp only [wpE, opD, fdivD_ii, modD_ii, List.getElem?_cons_zero, List.getElem?_cons_succ, Option.some.injEq, exists_eq_left']
  exact ⟨by decide, by decide, hn, k _ (Int.emod_nonneg _ (by omega)) (Int.emod_lt_of_pos _ hn)⟩
theorem draw_4 (f1 : S p = some (.lst [.ref q, .int a, .int c, .int d])) (f2 : S q = some (.lst (ns.map .int))) (ne : q ≠ p) (hn : 0 < n) (hn2 : n < 2 ^ 8000) (hd : 0 ≤ d) (hd2 : d ≤ 2147483648)
    (k : ∀ c' r, (0 ≤ c' ∨ c' = c) → 0 ≤ r → r < n → Q (.int r) (put S p (.lst [.ref q, .int (a + 1), .int c', .int d]))) :
    wpS phi0 ir_l_draw_4 { nx := fun _ S' => Q .non S', rt := Q } [some (.ref p), some (.int n), some (.int cell), none, none] S := by
  unfold ir_l_draw_4
  refine st_cons (st_set ?_)
  simp only [wpE, opD, addD_ii, idxD_r, List.getElem?_cons_zero, Option.some.injEq, exists_eq_left', Ob.lst.injEq, atI_1, f1]
  refine setD_of (n := 1) f1 rfl ?_
  unfold ir_l_draw_5
  refine st_cons (st_iff ?_)
  simp only [wpE, wpT, wpA, opD, cmpD, biD, powD_ii, ordD_ii, idxD_r, lenD_r, absD_i, List.getElem?_cons_zero, List.getElem?_cons_succ, List.set_cons_zero, List.set_cons_succ, Option.some.injEq, exists_eq_left', put_same, Ob.lst.injEq, D.bl.injEq, atI_0, atI_1, decide_eq_true_eq, put_ne ne, f2]
  refine ⟨⟨by decide, by decide, by decide⟩, ?_⟩
  have tail := draw_6 (S := put S p (.lst [.ref q, .int (a + 1), .int c, .int d])) (Q := Q) (n := n) (cell := cell) put_same hn hd hd2 fun r h0 h1 => k c r (.inr rfl) h0 h1
  have big : ∀ m : Int, 0 ≤ m → wpS phi0 ir_l_draw_b3 { nx := fun env' S' => wpS phi0 ir_l_draw_6 { nx := fun _ S' => Q .non S', rt := Q } env' S', rt := Q } [some (.ref p), some (.int n), some (.int cell), none, none] (put S p (.lst [.ref q, .int (a + 1), .int c, .int d])) := by
    intro m _
    unfold ir_l_draw_b3
    refine st_cons (st_set ?_)
    simp only [wpE, wpA, opD, biD, fdivD_ii, absD_i, List.getElem?_cons_zero, List.getElem?_cons_succ, Option.some.injEq, exists_eq_left']
    refine ⟨hn, hn2, setD_of (n := 2) put_same rfl ?_⟩
    unfold ir_l_draw_b3_1
    refine st_cons (st_ret ?_)
    simp only [wpE, wpA, opD, biD, modD_ii, absD_i, intD_i, List.getElem?_cons_zero, List.getElem?_cons_succ, List.set_cons_zero, List.set_cons_succ, Option.some.injEq, exists_eq_left', put_put]
    refine ⟨hn, ?_⟩
    exact k _ _ (.inl (Int.ediv_nonneg (by omega) (by omega))) (Int.emod_nonneg _ (by omega)) (Int.emod_lt_of_pos _ hn)
  split
  · split
    · exact big 0 (by omega)
    · exact tail
  · exact tail
end
theorem w_draw : ∀ ds S Q, spDraw ds S Q → wpS phi0 ir_l_draw { nx := fun _ S' => Q .non S', rt := Q } (startD ["_law_deck_here", "_law_many", "_law_cell", "_law_mixed", "_law_found"] ds) S := by
  rintro ds S Q ⟨p, q, n, b, rfl, hn, hn2, ⟨ns, a, c, d, e1, e2, ne, ha, hc, hd, hb, hl⟩, k⟩
  have env0 : startD ["_law_deck_here", "_law_many", "_law_cell", "_law_mixed", "_law_found"] [.ref p, .int n] = [some (.ref p), some (.int n), none, none, none] := rfl
  rw [env0]
  unfold ir_l_draw
  refine st_cons (st_set ?_)
  simp only [wpE, opD, addD_ii, idxD_r, List.getElem?_cons_zero, Option.some.injEq, exists_eq_left', Ob.lst.injEq, atI_3, e1]
  refine setD_of (n := 3) e1 rfl ?_
  unfold ir_l_draw_1
  refine st_cons (st_iff ?_)
  simp only [wpE, wpT, cmpD, ordD_ii, idxD_r, List.getElem?_cons_zero, List.set_cons_zero, List.set_cons_succ, Option.some.injEq, exists_eq_left', put_same, Ob.lst.injEq, D.bl.injEq, atI_2, decide_eq_true_eq]
  by_cases hc0 : 0 < c
  · rw [if_pos hc0]
    unfold ir_l_draw_b1
    refine st_cons (st_asg ?_)
    simp only [wpE, wpA, wpP, opD, biD, modD_ii, idxD_r, intD_i, List.getElem?_cons_zero, List.getElem?_cons_succ, List.set_cons_zero, List.set_cons_succ, Option.some.injEq, exists_eq_left', put_same, Ob.lst.injEq, atI_2]
    refine ⟨hn, ?_⟩
    unfold ir_l_draw_b1_1
    refine st_cons (st_set ?_)
    simp only [wpE, opD, fdivD_ii, idxD_r, List.getElem?_cons_zero, List.getElem?_cons_succ, Option.some.injEq, exists_eq_left', put_same, Ob.lst.injEq, atI_2]
    refine ⟨hn, hn2, setD_of (n := 2) put_same rfl ?_⟩
    unfold ir_l_draw_b1_2
    refine st_cons (st_ret ?_)
    simp only [wpE, List.getElem?_cons_zero, List.getElem?_cons_succ, List.set_cons_zero, List.set_cons_succ, Option.some.injEq, exists_eq_left', put_put]
    exact k _ _ (Int.emod_nonneg _ (by omega)) (Int.emod_lt_of_pos _ hn) (deck_upd e2 ne ha (Int.ediv_nonneg hc (by omega)) (by omega) (by omega) hl) ExtB.write
  · rw [if_neg hc0]
    unfold ir_l_draw_2
    refine st_nil (st_cons (st_asg ?_))
    simp only [wpE, wpP, List.set_cons_zero, List.set_cons_succ]
    unfold ir_l_draw_3
    refine st_cons (st_iff ?_)
    simp only [wpE, wpT, wpA, cmpD, idxD_r, List.getElem?_cons_zero, Option.some.injEq, exists_eq_left', put_same, Ob.lst.injEq, atI_0]
    refine ⟨by decide, fun r hr => ?_⟩
    have hrp : r ≠ p := fun z => by rw [z, put_same] at hr; cases hr
    have hrq : q ≠ r := fun z => by rw [← z, put_ne ne, e2] at hr; cases hr
    have hpr : p ≠ r := fun z => hrp z.symm
    have ok1 : okS (put (put S p (.lst [.ref q, .int a, .int c, .int (d + 1)])) r (.lst [])) (.ref q) = true := by
      simp only [okS, put_ne hrq, put_ne ne, e2, ints_ok]
    have ok2 : okS (put (put S p (.lst [.ref q, .int a, .int c, .int (d + 1)])) r (.lst [])) (.ref r) = true := by
      simp only [okS, put_same, oksD]
    refine ⟨ok1, ok2, ?_⟩
    have fin : ∀ cell, wpS phi0 ir_l_draw_4 { nx := fun _ S' => Q .non S', rt := Q } [some (.ref p), some (.int n), some (.int cell), none, none] (put (put S p (.lst [.ref q, .int a, .int c, .int (d + 1)])) r (.lst [])) := by
      intro cell
      refine draw_4 (q := q) (ns := ns) (a := a) (c := c) (d := d + 1) (by rw [put_ne hpr, put_same]) (by rw [put_ne hrq, put_ne ne]; exact e2) ne hn hn2 (by omega) (by omega) fun c' s hc' h0 h1 => ?_
      refine k _ _ h0 h1 (deck_upd (by rw [put_ne hrq, put_ne ne]; exact e2) ne (by omega) (by omega) (by omega) (by omega) hl) fun x o hx e => ?_
      rw [put_ne hx, put_ne (fun z => ?_), put_ne hx]
      · exact e
      · rw [z] at e
        rw [put_ne hrp] at hr
        rw [hr] at e; cases e
    have pq : pyS (put (put S p (.lst [.ref q, .int a, .int c, .int (d + 1)])) r (.lst [])) (.ref q) = .list (pys (ns.map .int)) := by
      simp only [pyS, put_ne hrq, put_ne ne, e2]
    have pr : pyS (put (put S p (.lst [.ref q, .int a, .int c, .int (d + 1)])) r (.lst [])) (.ref r) = .list [] := by
      simp only [pyS, put_same, pys]
    rw [pq, pr]
    cases ns with
    | nil =>
      refine ⟨_, rfl, ?_⟩
      simp only [List.map_nil, pys, PyData.eqv, PyData.eqvAll, Bool.true_xor, Bool.not_true, Bool.false_eq_true, if_false]
      exact st_nil (fin 31)
    | cons m ms =>
      refine ⟨_, rfl, ?_⟩
      simp only [List.map_cons, pys, PyData.eqv, PyData.eqvAll, Bool.true_xor, Bool.not_false, if_true]
      unfold ir_l_draw_b2
      refine st_cons (st_asg ?_)
      simp only [wpE, wpA, wpP, opD, biD, modD_ii, idxD_r, lenD_r, intD_i, List.getElem?_cons_zero, List.set_cons_zero, List.set_cons_succ, Option.some.injEq, exists_eq_left', put_same, Ob.lst.injEq, atI_0, atI_1, put_ne hpr, put_ne hrq, put_ne ne, e2]
      refine ⟨by simp, ?_⟩
      have hlen : (((.int m :: ms.map D.int : List D).length : Nat) : Int) = (ms.length : Int) + 1 := by simp
      have h0 := Int.emod_nonneg a (show ((ms.length : Int) + 1) ≠ 0 by omega)
      have h1 := Int.emod_lt_of_pos a (show (0 : Int) < (ms.length : Int) + 1 by omega)
      obtain ⟨j, hj⟩ := Int.eq_ofNat_of_zero_le h0
      have hjl : j < (m :: ms).length := by rw [List.length_cons]; omega
      refine ⟨.int (m :: ms)[j], ?_, st_nil (fin _)⟩
      rw [show (m :: ms).map D.int = (.int m :: ms.map D.int : List D) from rfl, hlen, atI_n hj, ← List.map_cons (f := D.int), List.getElem?_map, List.getElem?_eq_getElem hjl]
      rfl
end G57
set_option Elab.async false
set_option linter.all false
set_option maxRecDepth 100000
set_option maxHeartbeats 400000
namespace G57
open PySem L2
theorem small_of {n : Int} (h0 : -4611686018427387904 ≤ n) (h1 : n < 4611686018427387904) : smallI n := ⟨by omega, by omega⟩
theorem ft_mk {K : PySem.W.Frag} {h : Heap} {mg : Str → Option Value} (X : K.In h) (G : h.Ns mainGlobals mg) {x : Str} {st : Stmt} {f : Addr} {oc : Value} {od an : Option Addr} {osl : Array (Option Value)} {kV doc pm cdv ct : Value} {ps : List Str}
    (a : PySem.W.nsIn K mainGlobals x = some (some (.ref f))) (l : K.lookup f = some ⟨oc, od, .func (PySem.W.fnOf x x (defArgs st) (defBody st) (defScope st) .none kV doc pm an cdv ct), osl⟩) (c : PySem.W.codeIn K cdv x = true) (k : PySem.W.keepIn K (.ref f) = true)
    (b : ∀ (kV doc pm : Value) (an : Option Addr) (cdv ct : Value) (us : List Value), us.length = ps.length → bindArgs (PySem.W.fnOf x x (defArgs st) (defBody st) (defScope st) .none kV doc pm an cdv ct) ⟨us, []⟩ = pure (ps.zip us)) : FT K mg x st ps :=
  ⟨f, _, fun_mk l c k, PySem.W.mg_of X G a, (fun_mk l c k).binds b⟩
end G57
set_option Elab.async false
set_option linter.all false
set_option maxRecDepth 100000
set_option maxHeartbeats 400000
namespace G57
open PySem L2
abbrev tabOf (Φ : List (Str × Spec)) : Tab := fun i => (Φ[i]?).map (·.2)
def ir_l_one : Sx := .cons (.ret (.idx (.var 1) (.call 0 (.cons (.var 0) (.cons (.bi .len (.cons (.var 1) (.nil))) (.nil)))))) .nil
theorem pick {α : Type} {xs : List α} {r : Int} (h0 : 0 ≤ r) (h1 : r < xs.length) : ∃ x, atI xs r = some x ∧ x ∈ xs := by
  obtain ⟨n, rfl⟩ := Int.eq_ofNat_of_zero_le h0
  have hn : n < xs.length := by omega
  exact ⟨xs[n], by rw [atI_n (n := n) rfl, List.getElem?_eq_getElem hn], List.getElem_mem hn⟩
def lowW (w : List Nat) : Prop := ∀ c ∈ w, 97 ≤ c ∧ c ≤ 122
theorem join_nil : ∀ xs : List (List Nat), joinL [] xs = xs.flatten
  | [] => rfl
  | [x] => by simp [joinL]
  | x :: y :: r => by rw [joinL, join_nil (y :: r)]; simp
end G57
set_option Elab.async false
set_option linter.all false
set_option maxRecDepth 100000
set_option maxHeartbeats 400000
namespace G57
open PySem L2
theorem cut_1 {α : Type} (xs : List α) : cutD xs (some 1) none = xs.tail := by
  unfold cutD
  rw [show HT.sIx xs.length 0 (some 1) = min 1 xs.length from HT.sIx_nat xs.length 0 1, HT.sIx_none]
  cases xs with
  | nil => rfl
  | cons x r =>
    rw [show min 1 (x :: r).length = 1 by rw [List.length_cons]; omega]
    simp
theorem cut_m {α : Type} (xs : List α) : cutD xs none (some (-1)) = xs.dropLast := by
  unfold cutD
  rw [HT.sIx_none, List.dropLast_eq_take]
  have e : HT.sIx xs.length xs.length (some (-1)) = xs.length - 1 := by
    simp only [HT.sIx]
    rw [if_pos (by decide)]
    omega
  rw [e]; simp
theorem cut_h {α : Type} (xs : List α) (n : Nat) : cutD xs none (some (n : Int)) = xs.take n := by
  unfold cutD
  rw [HT.sIx_none, HT.sIx_nat]
  simp only [Nat.sub_zero, List.drop_zero]
  rcases Nat.le_total n xs.length with h | h
  · rw [Nat.min_eq_left h]
  · rw [Nat.min_eq_right h, List.take_of_length_le h, List.take_of_length_le (Nat.le_refl _)]
theorem trus_ints : ∀ is : List Int, trusF (is.map .int) = some (is.map (· != 0))
  | [] => rfl
  | i :: is => by simp [trusF, truF, trus_ints is]
def isOpen (f : List Int) : Bool := f.tail.any (· != 0)
def okF (m : Nat) (f : List Int) : Prop := f.length = m + 1 ∧ ∀ i ∈ f, 0 ≤ i ∧ i ≤ 99
end G57
set_option Elab.async false
set_option linter.all false
set_option maxRecDepth 100000
set_option maxHeartbeats 400000
namespace G57
open PySem L2
inductive Pg where
  | text (w : List Nat) | loop (f : List Int) (ps : List Pg)
mutual
def encP : Pg → D
  | .text w => .tup [.str [116, 101, 120, 116], .str w]
  | .loop f ps => .tup [.str [108, 111, 111, 112], .tup (f.map .int), .tup (encPs ps)]
def encPs : List Pg → List D
  | [] => []
  | p :: ps => encP p :: encPs ps
end
mutual
def okP (m : Nat) : Pg → Nat → Bool → Prop
  | .text w, _, _ => w.length ≤ 4 ∧ lowW w
  | .loop f ps, d, b => 0 < d ∧ okF m f ∧ (isOpen f = true → b = true) ∧ (isOpen f = false → ∀ i ∈ f, i ≤ 3) ∧ ps.length ≤ 2 ∧ okPs m ps (d - 1) (b && !isOpen f)
def okPs (m : Nat) : List Pg → Nat → Bool → Prop
  | [], _, _ => True
  | p :: ps, d, b => okP m p d b ∧ okPs m ps d b
end
theorem encPs_map : ∀ ps : List Pg, encPs ps = ps.map encP
  | [] => rfl
  | p :: ps => by rw [encPs, encPs_map ps]; rfl
theorem encPs_len (ps : List Pg) : (encPs ps).length = ps.length := by rw [encPs_map, List.length_map]
end G57
set_option Elab.async false
set_option linter.all false
set_option maxRecDepth 100000
set_option maxHeartbeats 400000
namespace G57
open PySem L2
abbrev Pc := List Nat × Option (List Int)
mutual
def pcsP : Pg → List Pc
  | .text w => [(w, none)]
  | .loop f ps => if isOpen f = true then [(((pcsPs ps).map (·.1)).flatten, some f)] else (List.replicate (f.headD 0).toNat (pcsPs ps)).flatten
def pcsPs : List Pg → List Pc
  | [] => []
  | p :: ps => pcsP p ++ pcsPs ps
end
theorem Ext.fresh {S S' : Sto} {a : Addr} (e : Ext S S') (h : S' a = none) : S a = none := by
  cases q : S a with
  | none => rfl
  | some o => rw [e _ _ q] at h; cases h
theorem Ext.write {S S' : Sto} {a : Addr} {o : Ob} (e : Ext S S') (h : S a = none) : Ext S (G57.put S' a o) := fun c u q => by
  rw [put_ne (fun z => by rw [z, h] at q; cases q)]; exact e _ _ q
end G57
set_option Elab.async false
set_option linter.all false
set_option maxRecDepth 100000
set_option maxHeartbeats 400000
namespace G57
open PySem L2
theorem fm_some {α β : Type} (h : α → β) (xs : List α) : xs.filterMap (fun x => some (h x)) = xs.map h := by
  induction xs with
  | nil => rfl
  | cons x xs ih => simp [ih]
theorem intsF_map : ∀ is : List Int, intsF (is.map .int) = some is
  | [] => rfl
  | i :: is => by simp [intsF, intsF_map is]
def szPc : Pc → Int
  | (w, none) => w.length
  | (w, some f) => w.length * (1 + f.headD 0)
def opPc : Pc → Bool
  | (_, none) => false
  | (_, some _) => true
def sizeP (ps : List Pg) : Int := ((pcsPs ps).map szPc).sum
def opensP (ps : List Pg) : Nat := ((pcsPs ps).filter opPc).length
def smallP (ps : List Pg) : Bool := decide (sizeP ps ≤ 290) && decide (opensP ps ≤ 12)
structure OkPg (m : Nat) (ps : List Pg) : Prop where
  m3 : m ≤ 3
  ok : okPs m ps 3 true
  small : smallP ps = true
  len : ps.length ≤ 5
def encPg (m : Nat) (ps : List Pg) : D := .tup [.int m, .tup (encPs ps)]
theorem encPs_dropLast (ps : List Pg) : (encPs ps).dropLast = encPs ps.dropLast := by rw [encPs_map, encPs_map, List.map_dropLast]
end G57
set_option Elab.async false
set_option linter.all false
set_option maxRecDepth 100000
set_option maxHeartbeats 400000
namespace G57
open PySem L2
theorem itxt_len {i : Int} {k : Nat} (hk : 0 < k) (h : i.natAbs < 10 ^ k) : (itxt i).length ≤ k + 1 := by
  have e := int_text_length_le10 hk h
  have e2 : (itxt i).length = (Str.ofString (toString i)).length := by unfold itxt; rw [Array.length_toList]; rfl
  rw [e2, ofString_length]; exact e
mutual
def rsz (B : Nat) : D → Nat
  | .int _ => B + 1
  | .str x => 10 * x.length + 2
  | .tup ds | .rol ds => rszs B ds + 3
  | _ => 5
def rszs (B : Nat) : List D → Nat
  | [] => 0
  | d :: ds => rsz B d + 2 + rszs B ds
end
mutual
def inB (B : Nat) : D → Prop
  | .int i => i.natAbs < 10 ^ B
  | .tup ds | .rol ds => insB B ds
  | _ => True
def insB (B : Nat) : List D → Prop
  | [] => True
  | d :: ds => inB B d ∧ insB B ds
end
mutual
theorem shown_rsz (B : Nat) (hB : 0 < B) : ∀ (d : D) (n : Nat), okD n d = true → inB B d → (py d).shown.length ≤ rsz B d
  | .non, _, _, _ => by simp only [py, rsz]; decide
  | .bl b, _, _, _ => by simp only [py, rsz]; cases b <;> decide
  | .int i, _, _, h => by
    simp only [py, rsz, inB] at h ⊢
    have e := itxt_len hB h
    have e2 : (itxt i).length = (PyData.shown (.int i)).length := by unfold itxt; rw [Array.length_toList]; rfl
    omega
  | .str x, n, hk, _ => by
    simp only [py, rsz, PyData.shown]
    have hx : ∀ c ∈ (⟨x.toArray⟩ : Str).cps.toList, c < 16 ^ 8 := by
      have : x.all (fun c => decide (c < 0x110000)) = true := by cases n <;> simpa [okD] using hk
      intro c hc
      have := List.all_eq_true.mp this c (by simpa using hc)
      simp only [decide_eq_true_eq] at this
      omega
    have := StrLaws.reprText_len ⟨x.toArray⟩ hx
    simpa [Str.length] using this
  | .tup ds, n, hk, h => by
    cases n with
    | zero => simp [okD] at hk
    | succ n =>
      simp only [okD] at hk
      simp only [inB] at h
      have h1 := showns_rsz B hB ds n hk h
      have h2 := tupleText_len_le (PyData.shownAll (pys ds))
      have h3 := PyData.shownAll_length (pys ds)
      simp only [py, rsz, PyData.shown]
      omega
  | .rol ds, n, hk, h => by
    cases n with
    | zero => simp [okD] at hk
    | succ n =>
      simp only [okD] at hk
      simp only [inB] at h
      have h1 := showns_rsz B hB ds n hk h
      have h2 := listText_len_le (PyData.shownAll (pys ds))
      have h3 := PyData.shownAll_length (pys ds)
      simp only [py, rsz, PyData.shown]
      omega
  | .ref _, n, hk, _ => by cases n <;> simp [okD] at hk
theorem showns_rsz (B : Nat) (hB : 0 < B) : ∀ (ds : List D) (n : Nat), oksD n ds = true → insB B ds → ((PyData.shownAll (pys ds)).map (·.length)).sum + 2 * (pys ds).length ≤ rszs B ds
  | [], _, _, _ => by simp [pys, PyData.shownAll, rszs]
  | d :: ds, n, hk, h => by
    simp only [oksD, Bool.and_eq_true] at hk
    simp only [insB] at h
    have h1 := shown_rsz B hB d n hk.1 h.1
    have h2 := showns_rsz B hB ds n hk.2 h.2
    simp only [pys, PyData.shownAll, rszs, List.map_cons, List.sum_cons, List.length_cons]
    omega
end
theorem ten_lim {B : Nat} (h : B ≤ 571) {n : Nat} (hn : n < 10 ^ B) : n < 2 ^ 1900 :=
  Nat.lt_of_lt_of_le hn (Nat.le_trans (Nat.pow_le_pow_right (by decide) h) (by decide +kernel))
mutual
theorem sh_of (B : Nat) (h : B ≤ 571) : ∀ d : D, inB B d → shD d = true
  | .non, _ => by simp [shD]
  | .bl b, _ => by simp [shD]
  | .int i, hi => by
    simp only [inB] at hi
    simp only [shD, decide_eq_true_eq]
    exact ten_lim h hi
  | .str x, _ => by simp [shD]
  | .tup ds, hi => by simp only [inB] at hi; simp only [shD]; exact shs_of B h ds hi
  | .rol ds, hi => by simp only [inB] at hi; simp only [shD]; exact shs_of B h ds hi
  | .ref _, _ => by simp [shD]
theorem shs_of (B : Nat) (h : B ≤ 571) : ∀ ds : List D, insB B ds → shsD ds = true
  | [], _ => by simp [shsD]
  | d :: ds, hi => by
    simp only [insB] at hi
    simp only [shsD, Bool.and_eq_true]
    exact ⟨sh_of B h d hi.1, shs_of B h ds hi.2⟩
end
structure Shw (B : Nat) (d : D) : Prop where
  ok : okD 41 d = true
  ins : inB B d
  sz : rsz B d ≤ 16777216
  nr : ∀ p, d ≠ .ref p
end G57
set_option Elab.async false
set_option linter.all false
set_option maxRecDepth 100000
set_option maxHeartbeats 400000
namespace G57
open PySem L2
theorem does_no {P : Program} {w : World} {K : PySem.W.Frag} {mg : Str → Option Value} {base : Heap} {k : Nat} {x : Str} {st : Stmt} {ps : List Str} {sp : Spec} (F : FT K mg x st ps) (h : ∀ ds S Q, ¬ sp ds S Q) : Does P w K mg base k x sp := by
  obtain ⟨f, fd, F, m1, m2⟩ := F.ex
  exact ⟨f, fd, ps, m1, F.kp, m2, ⟨fun vs H Q E h => h.1, fun A outer s H args us vs Q E _ _ _ _ _ z => by obtain ⟨_, _, _, _, _, _, z, _⟩ := z; exact (h _ _ _ z).elim⟩, fun _ _ _ z => (h _ _ _ z).elim⟩
def ir_l_deck : Sx := .cons (.ret (.lst (.cons (.bi .list (.cons (.sl (.var 0) (.nil) (.cons (.con (.int 63)) .nil)) (.nil))) (.cons (.con (.int 0)) (.cons (.con (.int 0)) (.cons (.con (.int 0)) (.nil))))))) .nil
def spDeck : Spec := fun ds S Q => ∃ ns : List Int, ds = [.rol (ns.map .int)] ∧ ns.length ≤ 63 ∧ ∀ S' p q, Deck S' p q 2147483648 → Ext S S' → Q (.ref p) S'
theorem w_deck : ∀ ds S Q, spDeck ds S Q → wpS (tabOf []) ir_l_deck { nx := fun _ S' => Q .non S', rt := Q } (startD ["_law_script"] ds) S := by
  rintro ds S Q ⟨ns, rfl, hn, k⟩
  rw [show startD ["_law_script"] [.rol (ns.map .int)] = [some (.rol (ns.map .int))] from rfl]
  unfold ir_l_deck
  refine st_cons (st_ret ?_)
  simp only [wpE, wpA, wpO, biD, slD_l, listD_r, List.getElem?_cons_zero, Option.some.injEq, exists_eq_left', put_same, Ob.lst.injEq, D.int.injEq]
  intro r1 f1 r2 f2
  refine ⟨by simp, fun p fp => ?_⟩
  have n2p : r2 ≠ p := ne_fresh put_same fp
  refine k _ p r2 ⟨ns, 0, 0, 0, put_same, ?_, n2p, by decide, by decide, by decide, by decide, hn⟩ (((Ext.put f1).trans (Ext.put f2)).trans (Ext.put fp))
  rw [put_ne n2p, put_same, show (63 : Int) = ((63 : Nat) : Int) from rfl, cut_h, List.take_of_length_le (by simpa using hn)]
end G57
set_option Elab.async false
set_option linter.all false
set_option maxRecDepth 100000
set_option maxHeartbeats 400000
namespace G57
open PySem L2
mutual
theorem shut_pcs {m : Nat} : ∀ (p : Pg) (d : Nat), okP m p d false → ∀ x ∈ pcsP p, x.2 = none
  | .text w, d, h, x, hx => by
    rw [pcsP] at hx
    rw [List.mem_singleton.mp hx]
  | .loop f ps, d, h, x, hx => by
    rw [okP] at h
    rw [pcsP] at hx
    split at hx
    · rename_i ho; have := h.2.2.1 ho; cases this
    · obtain ⟨ys, h1, h2⟩ := List.mem_flatten.mp hx
      rw [(List.mem_replicate.mp h1).2] at h2
      exact shut_pcss ps _ (by simpa using h.2.2.2.2.2) x h2
theorem shut_pcss {m : Nat} : ∀ (ps : List Pg) (d : Nat), okPs m ps d false → ∀ x ∈ pcsPs ps, x.2 = none
  | [], d, h, x, hx => by simp [pcsPs] at hx
  | p :: ps, d, h, x, hx => by
    rw [okPs] at h
    rw [pcsPs] at hx
    rcases List.mem_append.mp hx with hx | hx
    · exact shut_pcs p d h.1 x hx
    · exact shut_pcss ps d h.2 x hx
end
def dot : List Int → List Int → Int
  | a :: as, b :: bs => a * b + dot as bs
  | _, _ => 0
def valF (f ns : List Int) : Int := f.headD 0 + dot f.tail ns
def valC (ns : List Int) : Option (List Int) → Int
  | none => 1
  | some f => valF f ns
theorem dot_zero : ∀ (as ns : List Int), (∀ a ∈ as, a = 0) → dot as ns = 0
  | [], ns, _ => by simp [dot]
  | a :: as, [], _ => by simp [dot]
  | a :: as, n :: ns, h => by rw [dot, h a (by simp), dot_zero as ns fun b hb => h b (by simp [hb])]; simp
mutual
def wrt (ns : List Int) : Pg → List Nat
  | .text w => w
  | .loop f ps => (List.replicate (valF f ns).toNat (wrts ns ps)).flatten
def wrts (ns : List Int) : List Pg → List Nat
  | [] => []
  | p :: ps => wrt ns p ++ wrts ns ps
end
theorem dot_pos : ∀ (as ns : List Int), (∀ a ∈ as, 0 ≤ a) → (∀ n ∈ ns, 0 ≤ n) → 0 ≤ dot as ns
  | [], ns, _, _ => by simp [dot]
  | a :: as, [], _, _ => by simp [dot]
  | a :: as, n :: ns, h, g => by
    rw [dot]
    have := dot_pos as ns (fun b hb => h b (by simp [hb])) fun b hb => g b (by simp [hb])
    have := Int.mul_nonneg (h a (by simp)) (g n (by simp))
    omega
theorem val_shut {f ns : List Int} (h : isOpen f = false) : valF f ns = f.headD 0 := by
  unfold valF
  rw [dot_zero _ _ (fun a ha => by
    unfold isOpen at h
    have := List.any_eq_false.mp h a ha
    simpa using this)]
  omega
end G57
set_option Elab.async false
set_option linter.all false
set_option maxRecDepth 100000
set_option maxHeartbeats 400000
namespace G57
open PySem L2
def ir_is_open : Sx := .cons (.ret (.bi .any (.cons (.sl (.var 0) (.cons (.con (.int 1)) .nil) (.nil)) (.nil)))) .nil
def ir_times : Sx := .cons (.ret (.bi .tuple (.cons (.lc [2] (.v 2) (.iE (.var 0)) (.nil) (.bin .Mult (.var 1) (.var 2))) (.nil)))) .nil
def ir_plus : Sx := .cons (.ret (.bi .tuple (.cons (.lc [2, 3] (.t (.cons (.v 2) (.cons (.v 3) (.nil)))) (.iZ (.var 0) (.var 1)) (.nil) (.bin .Add (.var 2) (.var 3))) (.nil)))) .nil
def encII (y : Int × Int) : D := .tup [.int y.1, .int y.2]
theorem zip_ii : ∀ (as bs : List Int), zipD (as.map .int) (bs.map .int) = (as.zip bs).map encII
  | [], _ => by simp [zipD]
  | i :: is, [] => by simp [zipD]
  | i :: is, n :: ns => by simp [zipD, zip_ii is ns, encII]
theorem dot_zip : ∀ as bs : List Int, dot as bs = ((as.zip bs).map fun y => y.1 * y.2).sum
  | [], _ => by simp [dot]
  | a :: as, [] => by simp [dot]
  | a :: as, b :: bs => by simp [dot, dot_zip as bs]
end G57
set_option Elab.async false
set_option linter.all false
set_option maxRecDepth 100000
set_option maxHeartbeats 400000
namespace G57
open PySem L2
end G57
set_option Elab.async false
set_option linter.all false
set_option maxRecDepth 100000
set_option maxHeartbeats 400000
namespace G57
open PySem L2
def mid (g t : Nat → Int) (j k : Nat) : Int := if k < j then g k + t k else g k
end G57
set_option Elab.async false
set_option linter.all false
set_option maxRecDepth 100000
set_option maxHeartbeats 400000
namespace G57
open PySem L2
theorem dot_le {M B : Int} (hM : 0 ≤ M) (hB : 0 ≤ B) : ∀ (as ns : List Int), (∀ a ∈ as, 0 ≤ a ∧ a ≤ M) → (∀ n ∈ ns, 0 ≤ n ∧ n ≤ B) → dot as ns ≤ as.length * (M * B)
  | [], ns, _, _ => by simp [dot]
  | a :: as, [], _, _ => by rw [dot]; exact Int.mul_nonneg (by omega) (Int.mul_nonneg hM hB); intros; simp_all
  | a :: as, n :: ns, h, g => by
    have ih := dot_le hM hB as ns (fun b hb => h b (by simp [hb])) fun b hb => g b (by simp [hb])
    have ha := h a (by simp)
    have hn := g n (by simp)
    have hab : a * n ≤ M * B := Int.mul_le_mul ha.2 hn.2 hn.1 hM
    rw [dot, List.length_cons, Int.natCast_succ, Int.add_mul]
    omega
end G57
set_option Elab.async false
set_option linter.all false
set_option maxRecDepth 100000
set_option maxHeartbeats 400000
namespace G57
open PySem L2
abbrev Own := Addr → Prop
mutual
def VF (p : Addr) (O : Own) (S : Sto) : D → D → Prop
  | .non, d => d = .non
  | .bl b, d => d = .bl b
  | .int i, d => d = .int i
  | .str x, d => d = .str x
  | .ref _, d => d = .ref p
  | .tup ds, d => ∃ es, d = .tup es ∧ VFs p O S ds es
  | .rol ds, d => ∃ a es, d = .ref a ∧ ¬ O a ∧ a ≠ p ∧ S a = some (.lst es) ∧ VFs p O S ds es
def VFs (p : Addr) (O : Own) (S : Sto) : List D → List D → Prop
  | [], es => es = []
  | d :: ds, es => ∃ e r, es = e :: r ∧ VF p O S d e ∧ VFs p O S ds r
end
def VT (p : Addr) (O : Own) (S : Sto) : D → D → Prop
  | .rol ds, d => ∃ a es, d = .ref a ∧ a ≠ p ∧ S a = some (.lst es) ∧ VFs p O S ds es
  | x, d => VF p O S x d
def VB (b : Bool) (p : Addr) (O : Own) (S : Sto) (x d : D) : Prop := if b = true then VT p O S x d else VF p O S x d
section
variable {p q : Addr} {O O' : Own} {S S' : Sto}
theorem VF.vt {x d : D} (h : VF p O S x d) : VT p O S x d := by
  cases x <;> try exact h
  simp only [VF] at h
  obtain ⟨a, es, e, _, n, s, v⟩ := h
  exact ⟨a, es, e, n, s, v⟩
theorem VF.vb {x d : D} (b : Bool) (h : VF p O S x d) : VB b p O S x d := by
  unfold VB; split
  · exact h.vt
  · exact h
theorem VB.vt {x d : D} {b : Bool} (h : VB b p O S x d) : VT p O S x d := by
  unfold VB at h; split at h
  · exact h
  · exact h.vt
mutual
theorem VF.to (ho : ∀ a es, ¬ O a → a ≠ p → S a = some (.lst es) → ¬ O' a ∧ S' a = some (.lst es)) : ∀ {x d : D}, VF p O S x d → VF p O' S' x d
  | .non, _, h | .bl _, _, h | .int _, _, h | .str _, _, h | .ref _, _, h => by simpa only [VF] using h
  | .tup ds, d, h => by
    simp only [VF] at h ⊢
    obtain ⟨es, e, v⟩ := h
    exact ⟨es, e, VFs.to ho v⟩
  | .rol ds, d, h => by
    simp only [VF] at h ⊢
    obtain ⟨a, es, e, n, np, s, v⟩ := h
    obtain ⟨n', s'⟩ := ho a es n np s
    exact ⟨a, es, e, n', np, s', VFs.to ho v⟩
theorem VFs.to (ho : ∀ a es, ¬ O a → a ≠ p → S a = some (.lst es) → ¬ O' a ∧ S' a = some (.lst es)) : ∀ {xs ds : List D}, VFs p O S xs ds → VFs p O' S' xs ds
  | [], _, h => by simpa only [VFs] using h
  | x :: xs, ds, h => by
    simp only [VFs] at h ⊢
    obtain ⟨e, r, q, v, w⟩ := h
    exact ⟨e, r, q, VF.to ho v, VFs.to ho w⟩
end
theorem VF.ext {x d : D} (h : VF p O S x d) (e : ExtB p S S') : VF p O S' x d := h.to fun a es n np s => ⟨n, e a _ np s⟩
theorem VFs.ext {x d : List D} (h : VFs p O S x d) (e : ExtB p S S') : VFs p O S' x d := h.to fun a es n np s => ⟨n, e a _ np s⟩
theorem VT.ext {x d : D} (h : VT p O S x d) (e : ExtB p S S') : VT p O S' x d := by
  cases x <;> try exact VF.ext h e
  obtain ⟨a, es, q, n, s, v⟩ := h
  exact ⟨a, es, q, n, e a _ n s, v.ext e⟩
theorem VB.ext {x d : D} {b : Bool} (h : VB b p O S x d) (e : ExtB p S S') : VB b p O S' x d := by
  unfold VB at h ⊢
  cases b
  · simp only [Bool.false_eq_true, if_false] at h ⊢; exact h.ext e
  · simp only [if_true] at h ⊢; exact h.ext e
theorem VF.own {x d : D} {a : Addr} (h : VF p O S x d) (f : S a = none) : VF p (fun b => O b ∨ b = a) S x d :=
  h.to fun b es n np s => ⟨fun z => z.elim n (fun e => by rw [e, f] at s; cases s), s⟩
theorem VFs.own {x d : List D} {a : Addr} (h : VFs p O S x d) (f : S a = none) : VFs p (fun b => O b ∨ b = a) S x d :=
  h.to fun b es n np s => ⟨fun z => z.elim n (fun e => by rw [e, f] at s; cases s), s⟩
theorem VF.less {x d : D} (h : VF p O S x d) (o : ∀ a, O' a → O a) : VF p O' S x d := h.to fun b es n np s => ⟨fun z => n (o b z), s⟩
theorem VFs.less {x d : List D} (h : VFs p O S x d) (o : ∀ a, O' a → O a) : VFs p O' S x d := h.to fun b es n np s => ⟨fun z => n (o b z), s⟩
theorem VT.less {x d : D} (h : VT p O S x d) (o : ∀ a, O' a → O a) : VT p O' S x d := by
  cases x <;> try exact VF.less h o
  obtain ⟨a, es, q, n, s, v⟩ := h
  exact ⟨a, es, q, n, s, v.less o⟩
theorem VT.own {x d : D} {a : Addr} (h : VT p O S x d) (f : S a = none) : VT p (fun b => O b ∨ b = a) S x d := by
  cases x <;> try exact VF.own h f
  obtain ⟨b, es, q, n, s, v⟩ := h
  exact ⟨b, es, q, n, s, v.own f⟩
theorem VF.write {x d : D} {a : Addr} {o : Ob} (h : VF p O S x d) (ha : O a) : VF p O (put S a o) x d :=
  h.to fun b es n np s => ⟨n, by rw [put_ne (fun e => n (by rw [e]; exact ha))]; exact s⟩
theorem VFs.write {x d : List D} {a : Addr} {o : Ob} (h : VFs p O S x d) (ha : O a) : VFs p O (put S a o) x d :=
  h.to fun b es n np s => ⟨n, by rw [put_ne (fun e => n (by rw [e]; exact ha))]; exact s⟩
theorem VFs.nil : VFs p O S [] [] := by simp only [VFs]
theorem VFs.cons {x d : D} {xs ds : List D} (a : VF p O S x d) (b : VFs p O S xs ds) : VFs p O S (x :: xs) (d :: ds) := by simp only [VFs]; exact ⟨d, ds, rfl, a, b⟩
theorem VFs.inv {x d : D} {xs ds : List D} (h : VFs p O S (x :: xs) (d :: ds)) : VF p O S x d ∧ VFs p O S xs ds := by
  simp only [VFs] at h
  obtain ⟨_, _, e, a, b⟩ := h
  cases e
  exact ⟨a, b⟩
theorem VFs.length : ∀ {xs ds : List D}, VFs p O S xs ds → xs.length = ds.length
  | [], _, h => by simp only [VFs] at h; rw [h]
  | x :: xs, ds, h => by
    simp only [VFs] at h
    obtain ⟨e, r, rfl, _, w⟩ := h
    rw [List.length_cons, List.length_cons, w.length]
theorem VFs.get : ∀ {xs ds : List D} {i : Nat} {x : D}, VFs p O S xs ds → xs[i]? = some x → ∃ d, ds[i]? = some d ∧ VF p O S x d
  | [], _, _, _, _, e => by simp at e
  | x :: xs, d :: ds, 0, _, h, e => by simp at e; subst e; exact ⟨d, rfl, h.inv.1⟩
  | x :: xs, d :: ds, i + 1, _, h, e => by
    simp at e
    obtain ⟨y, q, r⟩ := VFs.get h.inv.2 e
    exact ⟨y, by simpa using q, r⟩
  | x :: xs, [], _, _, h, _ => by simp only [VFs] at h; obtain ⟨_, _, e, _⟩ := h; cases e
theorem VFs.append : ∀ {xs ys ds es : List D}, VFs p O S xs ds → VFs p O S ys es → VFs p O S (xs ++ ys) (ds ++ es)
  | [], _, _, _, h, g => by simp only [VFs] at h; subst h; exact g
  | x :: xs, _, d :: ds, _, h, g => .cons h.inv.1 (h.inv.2.append g)
  | x :: xs, _, [], _, h, _ => by simp only [VFs] at h; obtain ⟨_, _, e, _⟩ := h; cases e
theorem VFs.take : ∀ {xs ds : List D} (n : Nat), VFs p O S xs ds → VFs p O S (xs.take n) (ds.take n)
  | _, _, 0, _ => by simp only [List.take_zero]; exact .nil
  | [], _, n + 1, h => by simp only [VFs] at h; subst h; exact .nil
  | x :: xs, d :: ds, n + 1, h => .cons h.inv.1 (h.inv.2.take n)
  | x :: xs, [], _, h => by simp only [VFs] at h; obtain ⟨_, _, e, _⟩ := h; cases e
theorem VFs.drop : ∀ {xs ds : List D} (n : Nat), VFs p O S xs ds → VFs p O S (xs.drop n) (ds.drop n)
  | _, _, 0, h => h
  | [], _, n + 1, h => by simp only [VFs] at h; subst h; exact .nil
  | x :: xs, d :: ds, n + 1, h => h.inv.2.drop n
  | x :: xs, [], _, h => by simp only [VFs] at h; obtain ⟨_, _, e, _⟩ := h; cases e
theorem VFs.set : ∀ {xs ds : List D} {x d : D} (n : Nat), VFs p O S xs ds → VF p O S x d → VFs p O S (xs.set n x) (ds.set n d)
  | [], _, _, _, _, h, _ => by simp only [VFs] at h; subst h; exact .nil
  | x :: xs, d :: ds, _, _, 0, h, r => .cons r h.inv.2
  | x :: xs, d :: ds, _, _, n + 1, h, r => .cons h.inv.1 (h.inv.2.set n r)
  | x :: xs, [], _, _, _, h, _ => by simp only [VFs] at h; obtain ⟨_, _, e, _⟩ := h; cases e
theorem VFs.rep {xs ds : List D} (h : VFs p O S xs ds) : ∀ n : Nat, VFs p O S (List.replicate n xs).flatten (List.replicate n ds).flatten
  | 0 => .nil
  | n + 1 => by rw [List.replicate_succ, List.replicate_succ, List.flatten_cons, List.flatten_cons]; exact h.append (h.rep n)
theorem VFs.reverse : ∀ {xs ds : List D}, VFs p O S xs ds → VFs p O S xs.reverse ds.reverse
  | [], _, h => by simp only [VFs] at h; subst h; exact .nil
  | x :: xs, d :: ds, h => by rw [List.reverse_cons, List.reverse_cons]; exact h.inv.2.reverse.append (.cons h.inv.1 .nil)
  | x :: xs, [], h => by simp only [VFs] at h; obtain ⟨_, _, e, _⟩ := h; cases e
theorem VFs.cut {xs ds : List D} (h : VFs p O S xs ds) (lo hi : Option Int) : VFs p O S (cutD xs lo hi) (cutD ds lo hi) := by
  unfold cutD
  rw [h.length]
  exact (h.drop _).take _
theorem VFs.at {xs ds : List D} {i : Int} {x : D} (h : VFs p O S xs ds) (e : atI xs i = some x) : ∃ d, atI ds i = some d ∧ VF p O S x d := by
  unfold atI at e ⊢
  rw [← h.length]
  cases k : ixN xs.length i with
  | none => rw [k] at e; cases e
  | some n => rw [k] at e; exact h.get e
theorem VFs.strs : ∀ {xs ds : List D} {ws : List (List Nat)}, VFs p O S xs ds → strsF xs = some ws → strsF ds = some ws
  | [], _, _, h, e => by simp only [VFs] at h; subst h; exact e
  | x :: xs, [], _, h, _ => by simp only [VFs] at h; obtain ⟨_, _, e, _⟩ := h; cases e
  | x :: xs, d :: ds, ws, h, e => by
    obtain ⟨h1, h2⟩ := h.inv
    cases x <;> try (simp [strsF] at e; done)
    simp only [VF] at h1
    subst h1
    simp only [strsF] at e ⊢
    cases z : strsF xs with
    | none => rw [z] at e; cases e
    | some zs => rw [z] at e; rw [h2.strs z]; exact e
theorem VFs.ints : ∀ {xs ds : List D} {ws : List Int}, VFs p O S xs ds → intsF xs = some ws → intsF ds = some ws
  | [], _, _, h, e => by simp only [VFs] at h; subst h; exact e
  | x :: xs, [], _, h, _ => by simp only [VFs] at h; obtain ⟨_, _, e, _⟩ := h; cases e
  | x :: xs, d :: ds, ws, h, e => by
    obtain ⟨h1, h2⟩ := h.inv
    cases x <;> try (simp [intsF] at e; done)
    simp only [VF] at h1
    subst h1
    simp only [intsF] at e ⊢
    cases z : intsF xs with
    | none => rw [z] at e; cases e
    | some zs => rw [z] at e; rw [h2.ints z]; exact e
theorem VFs.trus : ∀ {xs ds : List D} {ws : List Bool}, VFs p O S xs ds → trusF xs = some ws → trusF ds = some ws
  | [], _, _, h, e => by simp only [VFs] at h; subst h; exact e
  | x :: xs, [], _, h, _ => by simp only [VFs] at h; obtain ⟨_, _, e, _⟩ := h; cases e
  | x :: xs, d :: ds, ws, h, e => by
    obtain ⟨h1, h2⟩ := h.inv
    cases x <;> try (simp [trusF, truF] at e; done)
    all_goals
      simp only [VF] at h1
      subst h1
      simp only [trusF, truF] at e ⊢
      cases z : trusF xs with
      | none => rw [z] at e; cases e
      | some zs => rw [z] at e; rw [h2.trus z]; exact e
mutual
def pureD : D → Bool
  | .rol _ | .ref _ => false
  | .tup ds => puresD ds
  | _ => true
def puresD : List D → Bool
  | [] => true
  | d :: ds => pureD d && puresD ds
end
mutual
theorem VF.eq : ∀ {x d : D}, pureD x = true → VF p O S x d → d = x
  | .non, _, _, h | .bl _, _, _, h | .int _, _, _, h | .str _, _, _, h => by simpa only [VF] using h
  | .rol _, _, h, _ | .ref _, _, h, _ => by simp [pureD] at h
  | .tup ds, d, hp, h => by
    simp only [VF] at h
    obtain ⟨es, rfl, v⟩ := h
    simp only [pureD] at hp
    rw [VFs.eq hp v]
theorem VFs.eq : ∀ {xs ds : List D}, puresD xs = true → VFs p O S xs ds → ds = xs
  | [], _, _, h => by simpa only [VFs] using h
  | x :: xs, ds, hp, h => by
    simp only [VFs] at h
    obtain ⟨e, r, rfl, v, w⟩ := h
    simp only [puresD, Bool.and_eq_true] at hp
    rw [VF.eq hp.1 v, VFs.eq hp.2 w]
end
mutual
theorem VF.pure : ∀ {x : D}, pureD x = true → VF p O S x x
  | .non, _ | .bl _, _ | .int _, _ | .str _, _ => by simp only [VF]
  | .rol _, h | .ref _, h => by simp [pureD] at h
  | .tup ds, hp => by
    simp only [pureD] at hp
    simp only [VF]
    exact ⟨ds, rfl, VFs.pure hp⟩
theorem VFs.pure : ∀ {xs : List D}, puresD xs = true → VFs p O S xs xs
  | [], _ => .nil
  | x :: xs, hp => by
    simp only [puresD, Bool.and_eq_true] at hp
    exact .cons (VF.pure hp.1) (VFs.pure hp.2)
end
end
end G57
set_option Elab.async false
set_option linter.all false
set_option maxRecDepth 100000
set_option maxHeartbeats 400000
namespace G57
open PySem L2
abbrev RK := D → Prop
def addV : D → D → RK → Prop
  | .int i, .int j, R => R (.int (i + j))
  | .str x, .str y, R => x.length + y.length ≤ 16777216 ∧ R (.str (x ++ y))
  | .tup x, .tup y, R => x.length + y.length ≤ 16777216 ∧ R (.tup (x ++ y))
  | .rol x, .rol y, R => x.length + y.length ≤ 16777216 ∧ R (.rol (x ++ y))
  | _, _, _ => False
def subV : D → D → RK → Prop
  | .int i, .int j, R => R (.int (i - j))
  | _, _, _ => False
def mulV : D → D → RK → Prop
  | .int i, .int j, R => CMulW i j ∧ R (.int (i * j))
  | .str x, .int j, R => j < 2 ^ 40 ∧ -(2 ^ 40) < j ∧ x.length * j.toNat ≤ 16777216 ∧ R (.str (List.replicate j.toNat x).flatten)
  | .tup x, .int j, R => j ≤ 1000 ∧ -1000 ≤ j ∧ x.length ≤ 1000 ∧ R (.tup (List.replicate j.toNat x).flatten)
  | .rol x, .int j, R => j < 2 ^ 40 ∧ -(2 ^ 40) < j ∧ x.length * j.toNat ≤ 16777216 ∧ R (.rol (List.replicate j.toNat x).flatten)
  | _, _, _ => False
def fdivV : D → D → RK → Prop
  | .int i, .int j, R => 0 < j ∧ j < 2 ^ 8000 ∧ R (.int (i / j))
  | _, _, _ => False
def modV : D → D → RK → Prop
  | .int i, .int j, R => 0 < j ∧ R (.int (i % j))
  | _, _, _ => False
def powV : D → D → RK → Prop
  | .int i, .int j, R => CPow i j ∧ R (.int (i ^ j.toNat))
  | _, _, _ => False
def opV : Operator → D → D → RK → Prop
  | .Add => addV | .Sub => subV | .Mult => mulV | .FloorDiv => fdivV | .Mod => modV | .Pow => powV
  | _ => fun _ _ _ => False
def negV : D → RK → Prop
  | .int i, R => R (.int (-i))
  | _, _ => False
def truthV : D → (Bool → Prop) → Prop
  | .str x, R => x.length ≤ 16777216 ∧ R (!x.isEmpty)
  | .non, R => R false
  | .bl b, R => R b
  | .int i, R => R (i != 0)
  | .tup ds, R => R (!ds.isEmpty)
  | .rol ds, R => R (!ds.isEmpty)
  | .ref _, _ => False
def okV : D → Bool
  | .rol ds => puresD ds && oksD 40 ds
  | d => pureD d && okD 41 d
def shV : D → Bool
  | .rol ds => shsD ds
  | d => shD d
def eqV' (neg : Bool) : D → D → RK → Prop
  | .int i, .int j, R => R (.bl (neg ^^ decide (i = j)))
  | .str x, .str y, R => R (.bl (neg ^^ decide (x = y)))
  | .bl x, .bl y, R => R (.bl (neg ^^ decide (x = y)))
  | a, b, R => okV a = true ∧ okV b = true ∧ R (.bl (neg ^^ PyData.eqv (py a) (py b)))
def ordV (f : Int → Int → Bool) (h : List Nat → List Nat → Bool) : D → D → RK → Prop
  | .int i, .int j, R => R (.bl (f i j))
  | .str x, .str y, R => R (.bl (h x y))
  | _, _, _ => False
def isV (neg : Bool) : D → D → RK → Prop
  | a, .non, R => R (.bl (neg ^^ isNon a))
  | .bl a, .bl b, R => R (.bl (neg ^^ decide (a = b)))
  | .non, .bl _, R => R (.bl neg)
  | _, _, _ => False
def inV' (neg : Bool) : D → D → RK → Prop
  | .str [c], .str y, R => R (.bl (neg ^^ decide (c ∈ y)))
  | a, .tup ds, R => flatD a = true ∧ ds.all flatD = true ∧ R (.bl (neg ^^ ds.any fun z => eqF z a))
  | a, .rol ds, R => flatD a = true ∧ ds.all flatD = true ∧ R (.bl (neg ^^ ds.any fun z => eqF z a))
  | _, _, _ => False
def cmpV : CmpOp → D → D → RK → Prop
  | .Eq => eqV' false
  | .NotEq => eqV' true
  | .Lt => ordV (fun i j => decide (i < j)) (fun x y => decide (x < y))
  | .LtE => ordV (fun i j => decide (i ≤ j)) (fun x y => decide (x ≤ y))
  | .Gt => ordV (fun i j => decide (j < i)) (fun x y => decide (y < x))
  | .GtE => ordV (fun i j => decide (j ≤ i)) (fun x y => decide (y ≤ x))
  | .Is => isV false
  | .IsNot => isV true
  | .In => inV' false
  | .NotIn => inV' true
def seqV : D → Option (List D)
  | .tup ds | .rol ds => some ds
  | _ => none
def kindV : D → Option String
  | .non => some "NoneType"
  | .bl _ => some "bool"
  | .int _ => some "int"
  | .str _ => some "str"
  | .tup _ => some "tuple"
  | .rol _ => some "list"
  | .ref _ => none
def biV : Bi → List D → RK → Prop
  | .len, [.str x], R => x.length ≤ 16777216 ∧ R (.int x.length)
  | .len, [.tup x], R => R (.int x.length)
  | .len, [.rol x], R => R (.int x.length)
  | .sum, [.tup ds], R => ∃ is, intsF ds = some is ∧ R (.int is.sum)
  | .sum, [.rol ds], R => ∃ is, intsF ds = some is ∧ R (.int is.sum)
  | .any, [.tup ds], R => ∃ bs, trusF ds = some bs ∧ R (.bl (bs.any id))
  | .any, [.rol ds], R => ∃ bs, trusF ds = some bs ∧ R (.bl (bs.any id))
  | .all, [.tup ds], R => ∃ bs, trusF ds = some bs ∧ R (.bl (bs.all id))
  | .all, [.rol ds], R => ∃ bs, trusF ds = some bs ∧ R (.bl (bs.all id))
  | .abs, [.int i], R => R (.int i.natAbs)
  | .min, [.int i, .int j], R => R (.int (min i j))
  | .max, [.int i, .int j], R => R (.int (max i j))
  | .int, [.int i], R => R (.int i)
  | .int, [.bl b], R => R (.int (if b then 1 else 0))
  | .int, [.str x], R => ∃ n, PySem.intText? ⟨x.toArray⟩ = some n ∧ x.length ≤ 640 ∧ R (.int n)
  | .str, [.int i], R => i.natAbs < 2 ^ 1900 ∧ R (.str (itxt i))
  | .tuple, [.tup ds], R => R (.tup ds)
  | .tuple, [.rol ds], R => R (.tup ds)
  | .list, [.tup ds], R => R (.rol ds)
  | .list, [.rol ds], R => R (.rol ds)
  | .repr, [d], R => okV d = true ∧ shV d = true ∧ (py d).shown.length ≤ 16777216 ∧ R (.str (rtxt (py d)))
  | .isi T, [d], R => ∃ k, kindV d = some k ∧ R (.bl (isK k T))
  | .rev, [.str x], R => x.length ≤ 16777216 ∧ R (.str x.reverse)
  | .rev, [.tup ds], R => R (.tup ds.reverse)
  | .rev, [.rol ds], R => R (.rol ds.reverse)
  | _, _, _ => False
def mtV : Mt → D → List D → RK → Prop
  | .join, .str a, [.tup ds], R => ∃ xs, strsF ds = some xs ∧ lenL xs + xs.length * a.length ≤ 16777216 ∧ R (.str (joinL a xs))
  | .join, .str a, [.rol ds], R => ∃ xs, strsF ds = some xs ∧ lenL xs + xs.length * a.length ≤ 16777216 ∧ R (.str (joinL a xs))
  | .count, .str a, [.str [c]], R => R (.int (a.count c))
  | _, _, _, _ => False
def idxV : D → D → RK → Prop
  | .tup ds, .int i, R => ∃ d, atI ds i = some d ∧ R d
  | .rol ds, .int i, R => ∃ d, atI ds i = some d ∧ R d
  | .str x, .int i, R => x.length ≤ 16777216 ∧ ∃ c, atI x i = some c ∧ R (.str [c])
  | _, _, _ => False
def slV : D → Option Int → Option Int → RK → Prop
  | .tup ds, lo, hi, R => R (.tup (cutD ds lo hi))
  | .rol ds, lo, hi, R => R (.rol (cutD ds lo hi))
  | .str x, lo, hi, R => x.length ≤ 16777216 ∧ R (.str (cutD x lo hi))
  | _, _, _, _ => False
def itV : D → Option (List D)
  | .tup ds | .rol ds => some ds
  | .str x => some (x.map fun c => .str [c])
  | _ => none
def rng1V : D → (List D → Prop) → Prop
  | .int n, R => smallI n ∧ R (rngD 0 n)
  | _, _ => False
def rng2V : D → D → (List D → Prop) → Prop
  | .int m, .int n, R => smallI m ∧ smallI n ∧ R (rngD m n)
  | _, _, _ => False
structure OkO (p q : Addr) (O : Own) (S : Sto) (g : Nat) : Prop where
  dk : Deck S p q g
  dom : ∀ a, O a → S a ≠ none
  np : ¬ O p
  nq : ¬ O q
section
variable {p q : Addr} {O : Own} {S S' : Sto} {g : Nat} {Q : DK} {R : RK} {x y x1 y1 : D}
theorem OkO.fresh (h : OkO p q O S g) {r : Addr} (f : S r = none) : p ≠ r ∧ q ≠ r ∧ ¬ O r :=
  ⟨(h.dk.fresh f).1, (h.dk.fresh f).2, fun z => h.dom r z f⟩
theorem OkO.ext (h : OkO p q O S g) {g' : Nat} (e : ExtB p S S') (d : Deck S' p q g') : OkO p q O S' g' :=
  ⟨d, (fun a ha z => by
    cases s : S a with
    | none => exact h.dom a ha s
    | some o => rw [e a o (fun w => h.np (by rw [← w]; exact ha)) s] at z; cases z), h.np, h.nq⟩
def Post (p q : Addr) (O : Own) (S : Sto) (g : Nat) (R : RK) (Q : DK) : Prop := ∀ d2 d1 S', R d2 → ExtB p S S' → Deck S' p q g → VF p O S' d2 d1 → Q d1 S'
theorem Post.now (h : Post p q O S g R Q) (k : OkO p q O S g) {d2 d1 : D} (r : R d2) (v : VF p O S d2 d1) : Q d1 S := h d2 d1 S r ExtB.refl k.dk v
theorem newL (k : OkO p q O S g) {ds es : List D} (v : VFs p O S ds es) {r : Addr} (f : S r = none) : ExtB p S (put S r (.lst es)) ∧ Deck (put S r (.lst es)) p q g ∧ VF p O (put S r (.lst es)) (.rol ds) (.ref r) := by
  obtain ⟨n1, n2, n3⟩ := k.fresh f
  refine ⟨(Ext.put f).but, k.dk.put n1 n2, ?_⟩
  simp only [VF]
  exact ⟨r, es, rfl, n3, fun e => n1 e.symm, put_same, v.ext (Ext.put f).but⟩
theorem Post.new (h : Post p q O S g R Q) (k : OkO p q O S g) {ds es : List D} (r : R (.rol ds)) (v : VFs p O S ds es) (a : Addr) (f : S a = none) : Q (.ref a) (put S a (.lst es)) := by
  obtain ⟨e1, e2, e3⟩ := newL k v f
  exact h _ _ _ r e1 e2 e3
theorem VT.tup_inv {ds : List D} (h : VT p O S (.tup ds) x1) : ∃ es, x1 = .tup es ∧ VFs p O S ds es := by
  have z : VF p O S (.tup ds) x1 := h
  simpa only [VF] using z
theorem VT.rol_inv {ds : List D} (h : VT p O S (.rol ds) x1) : ∃ a es, x1 = .ref a ∧ a ≠ p ∧ S a = some (.lst es) ∧ VFs p O S ds es := h
theorem VT.int_inv {i : Int} (h : VT p O S (.int i) x1) : x1 = .int i := by have z : VF p O S (.int i) x1 := h; simpa only [VF] using z
theorem VT.str_inv {i : List Nat} (h : VT p O S (.str i) x1) : x1 = .str i := by have z : VF p O S (.str i) x1 := h; simpa only [VF] using z
theorem VT.bl_inv {i : Bool} (h : VT p O S (.bl i) x1) : x1 = .bl i := by have z : VF p O S (.bl i) x1 := h; simpa only [VF] using z
theorem VT.non_inv (h : VT p O S .non x1) : x1 = .non := by have z : VF p O S .non x1 := h; simpa only [VF] using z
theorem VT.ref_inv {a : Addr} (h : VT p O S (.ref a) x1) : x1 = .ref p := by have z : VF p O S (.ref a) x1 := h; simpa only [VF] using z
theorem VF.tup {ds es : List D} (h : VFs p O S ds es) : VF p O S (.tup ds) (.tup es) := by simp only [VF]; exact ⟨es, rfl, h⟩
theorem VF.i {i : Int} : VF p O S (.int i) (.int i) := by simp only [VF]
theorem VF.s {i : List Nat} : VF p O S (.str i) (.str i) := by simp only [VF]
theorem VF.b {i : Bool} : VF p O S (.bl i) (.bl i) := by simp only [VF]
theorem VF.n : VF p O S .non .non := by simp only [VF]
theorem addV_ok (k : OkO p q O S g) (hx : VT p O S x x1) (hy : VT p O S y y1) (h : addV x y R) (P : Post p q O S g R Q) : addD x1 y1 S Q := by
  cases x <;> cases y <;> try exact h.elim
  · cases hx.int_inv; cases hy.int_inv; exact P.now k h .i
  · cases hx.str_inv; cases hy.str_inv; exact ⟨h.1, P.now k h.2 .s⟩
  · obtain ⟨es, rfl, v⟩ := hx.tup_inv
    obtain ⟨fs, rfl, w⟩ := hy.tup_inv
    exact ⟨by rw [← v.length, ← w.length]; exact h.1, P.now k h.2 (.tup (v.append w))⟩
  · obtain ⟨a, es, rfl, _, s, v⟩ := hx.rol_inv
    obtain ⟨b, fs, rfl, _, t, w⟩ := hy.rol_inv
    exact ⟨es, fs, s, t, by rw [← v.length, ← w.length]; exact h.1, fun r f => P.new k h.2 (v.append w) r f⟩
theorem mulV_ok (k : OkO p q O S g) (hx : VT p O S x x1) (hy : VT p O S y y1) (h : mulV x y R) (P : Post p q O S g R Q) : mulD x1 y1 S Q := by
  cases x <;> cases y <;> try exact h.elim
  · cases hx.int_inv; cases hy.int_inv; exact ⟨h.1, P.now k h.2 .i⟩
  · cases hx.str_inv; cases hy.int_inv; exact ⟨h.1, h.2.1, h.2.2.1, P.now k h.2.2.2 .s⟩
  · obtain ⟨es, rfl, v⟩ := hx.tup_inv
    cases hy.int_inv
    exact ⟨h.1, h.2.1, by rw [← v.length]; exact h.2.2.1, P.now k h.2.2.2 (.tup (v.rep _))⟩
  · obtain ⟨a, es, rfl, _, s, v⟩ := hx.rol_inv
    cases hy.int_inv
    exact ⟨es, s, h.1, h.2.1, by rw [← v.length]; exact h.2.2.1, fun r f => P.new k h.2.2.2 (v.rep _) r f⟩
theorem opV_ok (op : Operator) (k : OkO p q O S g) (hx : VT p O S x x1) (hy : VT p O S y y1) (h : opV op x y R) (P : Post p q O S g R Q) : opD op x1 y1 S Q := by
  cases op <;> try exact h.elim
  case Add => exact addV_ok k hx hy h P
  case Mult => exact mulV_ok k hx hy h P
  case Sub => cases x <;> cases y <;> first | exact h.elim | (cases hx.int_inv; cases hy.int_inv; exact P.now k h .i)
  case FloorDiv => cases x <;> cases y <;> first | exact h.elim | (cases hx.int_inv; cases hy.int_inv; exact ⟨h.1, h.2.1, P.now k h.2.2 .i⟩)
  case Mod => cases x <;> cases y <;> first | exact h.elim | (cases hx.int_inv; cases hy.int_inv; exact ⟨h.1, P.now k h.2 .i⟩)
  case Pow => cases x <;> cases y <;> first | exact h.elim | (cases hx.int_inv; cases hy.int_inv; exact ⟨h.1, P.now k h.2 .i⟩)
theorem negV_ok (k : OkO p q O S g) (hx : VT p O S x x1) (h : negV x R) (P : Post p q O S g R Q) : negD x1 S Q := by
  cases x <;> first | exact h.elim | (cases hx.int_inv; exact P.now k h .i)
theorem truthV_ok {B : Bool → Prop} (hx : VT p O S x x1) (h : truthV x B) : truthD x1 S B := by
  cases x with
  | non => cases hx.non_inv; exact ⟨_, rfl, h⟩
  | bl b => cases hx.bl_inv; exact ⟨_, rfl, h⟩
  | int b => cases hx.int_inv; exact ⟨_, rfl, h⟩
  | str b => cases hx.str_inv; exact h
  | tup ds =>
    obtain ⟨es, rfl, v⟩ := hx.tup_inv
    have l := v.length
    refine ⟨_, rfl, ?_⟩
    cases ds <;> cases es <;> first | exact h | simp at l
  | rol ds =>
    obtain ⟨a, es, rfl, _, s, v⟩ := hx.rol_inv
    have l := v.length
    refine ⟨!es.isEmpty, by simp only [truD, s], ?_⟩
    cases ds <;> cases es <;> first | exact h | simp at l
  | ref a => exact h.elim
theorem okV_ok (hx : VT p O S x x1) (h : okV x = true) : okS S x1 = true ∧ pyS S x1 = py x ∧ shS S x1 = shV x := by
  cases x with
  | non => cases hx.non_inv; simp [okS, okD, pyS, shS, shV]
  | bl b => cases hx.bl_inv; simp [okS, okD, pyS, shS, shV]
  | int b => cases hx.int_inv; simp [okS, okD, pyS, shS, shV]
  | str b =>
    cases hx.str_inv
    simp only [okV, Bool.and_eq_true] at h
    exact ⟨h.2, rfl, rfl⟩
  | tup ds =>
    simp only [okV, Bool.and_eq_true] at h
    have := VF.eq h.1 (show VF p O S (.tup ds) x1 from hx)
    subst this
    exact ⟨h.2, rfl, rfl⟩
  | rol ds =>
    simp only [okV, Bool.and_eq_true] at h
    obtain ⟨a, es, rfl, _, s, v⟩ := hx.rol_inv
    have := VFs.eq h.1 v
    subst this
    refine ⟨by simp only [okS, s]; exact h.2, by simp only [pyS, s, py], by simp only [shS, s, shV]⟩
  | ref a => simp [okV, pureD] at h
theorem eqV_ok (neg : Bool) (k : OkO p q O S g) (hx : VT p O S x x1) (hy : VT p O S y y1) (h : eqV' neg x y R) (P : Post p q O S g R Q) : eqD neg x1 y1 S Q := by
  have gen : okV x = true ∧ okV y = true ∧ R (.bl (neg ^^ PyData.eqv (py x) (py y))) → okS S x1 = true ∧ okS S y1 = true ∧ Q (.bl (neg ^^ PyData.eqv (pyS S x1) (pyS S y1))) S := fun ⟨a, b, r⟩ => by
    obtain ⟨a1, a2, _⟩ := okV_ok hx a
    obtain ⟨b1, b2, _⟩ := okV_ok hy b
    exact ⟨a1, b1, by rw [a2, b2]; exact P.now k r .b⟩
  cases x with
  | int i =>
    cases hx.int_inv
    cases y with
    | int j => cases hy.int_inv; exact P.now k h .b
    | non => cases hy.non_inv; exact gen h
    | bl j => cases hy.bl_inv; exact gen h
    | str j => cases hy.str_inv; exact gen h
    | tup j => obtain ⟨es, rfl, _⟩ := hy.tup_inv; exact gen h
    | rol j => obtain ⟨a, es, rfl, _⟩ := hy.rol_inv; exact gen h
    | ref a => cases hy.ref_inv; exact gen h
  | str i =>
    cases hx.str_inv
    cases y with
    | str j => cases hy.str_inv; exact P.now k h .b
    | non => cases hy.non_inv; exact gen h
    | bl j => cases hy.bl_inv; exact gen h
    | int j => cases hy.int_inv; exact gen h
    | tup j => obtain ⟨es, rfl, _⟩ := hy.tup_inv; exact gen h
    | rol j => obtain ⟨a, es, rfl, _⟩ := hy.rol_inv; exact gen h
    | ref a => cases hy.ref_inv; exact gen h
  | bl i =>
    cases hx.bl_inv
    cases y with
    | bl j => cases hy.bl_inv; exact P.now k h .b
    | non => cases hy.non_inv; exact gen h
    | str j => cases hy.str_inv; exact gen h
    | int j => cases hy.int_inv; exact gen h
    | tup j => obtain ⟨es, rfl, _⟩ := hy.tup_inv; exact gen h
    | rol j => obtain ⟨a, es, rfl, _⟩ := hy.rol_inv; exact gen h
    | ref a => cases hy.ref_inv; exact gen h
  | non => cases hx.non_inv; cases y1 <;> exact gen h
  | tup i => obtain ⟨es, rfl, _⟩ := hx.tup_inv; cases y1 <;> exact gen h
  | rol i => obtain ⟨a, es, rfl, _⟩ := hx.rol_inv; cases y1 <;> exact gen h
  | ref a => cases hx.ref_inv; cases y1 <;> exact gen h
theorem ordV_ok {f : Int → Int → Bool} {hh : List Nat → List Nat → Bool} (k : OkO p q O S g) (hx : VT p O S x x1) (hy : VT p O S y y1) (h : ordV f hh x y R) (P : Post p q O S g R Q) : ordD f hh x1 y1 S Q := by
  cases x <;> cases y <;> try exact h.elim
  · cases hx.int_inv; cases hy.int_inv; exact P.now k h .b
  · cases hx.str_inv; cases hy.str_inv; exact P.now k h .b
theorem isNon_ok (hx : VT p O S x x1) : isNon x1 = isNon x := by
  cases x with
  | non => cases hx.non_inv; rfl
  | bl j => cases hx.bl_inv; rfl
  | str j => cases hx.str_inv; rfl
  | int j => cases hx.int_inv; rfl
  | tup j => obtain ⟨es, rfl, _⟩ := hx.tup_inv; rfl
  | rol j => obtain ⟨a, es, rfl, _⟩ := hx.rol_inv; rfl
  | ref a => cases hx.ref_inv; rfl
theorem isV_ok (neg : Bool) (k : OkO p q O S g) (hx : VT p O S x x1) (hy : VT p O S y y1) (h : isV neg x y R) (P : Post p q O S g R Q) : isD neg x1 y1 S Q := by
  cases y with
  | non =>
    cases hy.non_inv
    rw [isD_n, isNon_ok hx]
    have e : isV neg x .non R = R (.bl (neg ^^ isNon x)) := by cases x <;> rfl
    rw [e] at h
    exact P.now k h .b
  | bl b =>
    cases hy.bl_inv
    cases x <;> try exact h.elim
    · cases hx.non_inv; exact P.now k h .b
    · cases hx.bl_inv; exact P.now k h .b
  | _ => cases x <;> exact h.elim
theorem flat_eq (hx : VT p O S x x1) (h : flatD x = true) : x1 = x := by
  cases x with
  | non => exact hx.non_inv
  | bl j => exact hx.bl_inv
  | str j => exact hx.str_inv
  | int j => exact hx.int_inv
  | tup j => cases h
  | rol j => cases h
  | ref a => cases h
theorem flats_eq : ∀ {xs ds : List D}, VFs p O S xs ds → xs.all flatD = true → ds = xs
  | [], _, h, _ => by simpa only [VFs] using h
  | x :: xs, ds, h, a => by
    simp only [VFs] at h
    obtain ⟨e, r, rfl, v, w⟩ := h
    simp only [List.all_cons, Bool.and_eq_true] at a
    rw [flat_eq v.vt a.1, flats_eq w a.2]
theorem inV_ok (neg : Bool) (k : OkO p q O S g) (hx : VT p O S x x1) (hy : VT p O S y y1) (h : inV' neg x y R) (P : Post p q O S g R Q) : inD neg x1 y1 S Q := by
  cases y with
  | tup ds =>
    obtain ⟨es, rfl, v⟩ := hy.tup_inv
    have h' : flatD x = true ∧ ds.all flatD = true ∧ R (.bl (neg ^^ ds.any fun z => eqF z x)) := by
      unfold inV' at h; split at h <;> first | exact h | simp_all
    obtain ⟨a, b, r⟩ := h'
    cases flat_eq hx a
    cases flats_eq v b
    have : flatD x = true ∧ ds.all flatD = true ∧ Q (.bl (neg ^^ ds.any fun z => eqF z x)) S := ⟨a, b, P.now k r .b⟩
    unfold inD; split <;> first | exact this | simp_all
  | rol ds =>
    obtain ⟨l, es, rfl, _, s, v⟩ := hy.rol_inv
    have h' : flatD x = true ∧ ds.all flatD = true ∧ R (.bl (neg ^^ ds.any fun z => eqF z x)) := by
      unfold inV' at h; split at h <;> first | exact h | simp_all
    obtain ⟨a, b, r⟩ := h'
    cases flat_eq hx a
    cases flats_eq v b
    have : ∃ ds, S l = some (.lst ds) ∧ flatD x = true ∧ ds.all flatD = true ∧ Q (.bl (neg ^^ ds.any fun z => eqF z x)) S := ⟨_, s, a, b, P.now k r .b⟩
    unfold inD; split <;> first | exact this | simp_all
  | str z =>
    cases hy.str_inv
    cases x with
    | str c =>
      cases hx.str_inv
      cases c with
      | nil => exact h.elim
      | cons c r => cases r with
        | nil => exact P.now k h .b
        | cons _ _ => exact h.elim
    | _ => exact h.elim
  | _ => unfold inV' at h; split at h <;> first | exact h.elim | simp_all
theorem cmpV_ok (op : CmpOp) (k : OkO p q O S g) (hx : VT p O S x x1) (hy : VT p O S y y1) (h : cmpV op x y R) (P : Post p q O S g R Q) : cmpD op x1 y1 S Q := by
  cases op with
  | Eq => exact eqV_ok false k hx hy h P
  | NotEq => exact eqV_ok true k hx hy h P
  | Is => exact isV_ok false k hx hy h P
  | IsNot => exact isV_ok true k hx hy h P
  | In => exact inV_ok false k hx hy h P
  | NotIn => exact inV_ok true k hx hy h P
  | _ => exact ordV_ok k hx hy h P
theorem idxV_ok (k : OkO p q O S g) (hx : VT p O S x x1) (hy : VT p O S y y1) (h : idxV x y R) (P : Post p q O S g R Q) : idxD x1 y1 S Q := by
  cases x <;> cases y <;> try exact h.elim
  · cases hx.str_inv; cases hy.int_inv
    obtain ⟨a, c, e, r⟩ := h
    exact ⟨a, c, e, P.now k r .s⟩
  · obtain ⟨es, rfl, v⟩ := hx.tup_inv
    cases hy.int_inv
    obtain ⟨d, e, r⟩ := h
    obtain ⟨d', e', w⟩ := v.at e
    exact ⟨d', e', P.now k r w⟩
  · obtain ⟨a, es, rfl, _, s, v⟩ := hx.rol_inv
    cases hy.int_inv
    obtain ⟨d, e, r⟩ := h
    obtain ⟨d', e', w⟩ := v.at e
    exact ⟨es, d', s, e', P.now k r w⟩
theorem slV_ok {lo hi : Option Int} (k : OkO p q O S g) (hx : VT p O S x x1) (h : slV x lo hi R) (P : Post p q O S g R Q) : slD x1 lo hi S Q := by
  cases x <;> try exact h.elim
  · cases hx.str_inv; exact ⟨h.1, P.now k h.2 .s⟩
  · obtain ⟨es, rfl, v⟩ := hx.tup_inv
    exact P.now k h (.tup (v.cut lo hi))
  · obtain ⟨a, es, rfl, _, s, v⟩ := hx.rol_inv
    exact ⟨es, s, fun r f => P.new k h (v.cut lo hi) r f⟩
end
end G57
set_option Elab.async false
set_option linter.all false
set_option maxRecDepth 100000
set_option maxHeartbeats 400000
namespace G57
open PySem L2
section
variable {p q : Addr} {O : Own} {S S' : Sto} {g : Nat} {Q : DK} {R : RK} {x y x1 y1 : D}
def VTs (p : Addr) (O : Own) (S : Sto) : List D → List D → Prop
  | [], es => es = []
  | d :: ds, es => ∃ e r, es = e :: r ∧ VT p O S d e ∧ VTs p O S ds r
theorem VTs.cons {xs ds : List D} (a : VT p O S x x1) (b : VTs p O S xs ds) : VTs p O S (x :: xs) (x1 :: ds) := ⟨_, _, rfl, a, b⟩
theorem VTs.ext : ∀ {xs ds : List D}, VTs p O S xs ds → ExtB p S S' → VTs p O S' xs ds
  | [], _, h, _ => h
  | x :: xs, ds, ⟨e, r, q, v, w⟩, h => ⟨e, r, q, v.ext h, w.ext h⟩
theorem one_inv {d : D} {es : List D} (h : VTs p O S [d] es) : ∃ e, es = [e] ∧ VT p O S d e := by
  obtain ⟨e, r, rfl, v, rfl⟩ := h
  exact ⟨e, rfl, v⟩
theorem two_inv {d f : D} {es : List D} (h : VTs p O S [d, f] es) : ∃ e h, es = [e, h] ∧ VT p O S d e ∧ VT p O S f h := by
  obtain ⟨e, r, rfl, v, e2, r2, rfl, v2, rfl⟩ := h
  exact ⟨e, e2, rfl, v, v2⟩
theorem seq_ok {ds : List D} (h : VT p O S x x1) (e : seqV x = some ds) : ∃ es, seqD S x1 = some es ∧ VFs p O S ds es := by
  cases x <;> try (simp [seqV] at e; done)
  · cases e
    obtain ⟨es, rfl, v⟩ := h.tup_inv
    exact ⟨es, rfl, v⟩
  · cases e
    obtain ⟨a, es, rfl, _, s, v⟩ := h.rol_inv
    exact ⟨es, by rw [seqD_r]; exact s, v⟩
theorem kind_ok {k : String} (v : VT p O S x x1) (h : kindV x = some k) : kindD S x1 = some k := by
  cases x with
  | non => cases v.non_inv; exact h
  | bl b => cases v.bl_inv; exact h
  | int b => cases v.int_inv; exact h
  | str b => cases v.str_inv; exact h
  | tup ds => obtain ⟨es, rfl, _⟩ := v.tup_inv; exact h
  | rol ds =>
    obtain ⟨a, es, rfl, _, s, w⟩ := v.rol_inv
    simp only [kindD, s]; exact h
  | ref a => cases h
theorem biV_ok (f : Bi) {ds es : List D} (k : OkO p q O S g) (hx : VTs p O S ds es) (h : biV f ds R) (P : Post p q O S g R Q) : biD f es S Q := by
  unfold biV at h
  split at h <;> try exact h.elim
  · obtain ⟨e, rfl, v⟩ := one_inv hx
    cases v.str_inv; exact ⟨h.1, P.now k h.2 .i⟩
  · obtain ⟨e, rfl, v⟩ := one_inv hx
    obtain ⟨zs, rfl, w⟩ := v.tup_inv
    exact ⟨_, rfl, by rw [← w.length]; exact P.now k h .i⟩
  · obtain ⟨e, rfl, v⟩ := one_inv hx
    obtain ⟨a, zs, rfl, _, s, w⟩ := v.rol_inv
    show lenD [.ref a] S Q
    rw [lenD_r]
    exact ⟨_, s, by rw [← w.length]; exact P.now k h .i⟩
  · obtain ⟨e, rfl, v⟩ := one_inv hx
    obtain ⟨zs, z, w⟩ := seq_ok v rfl
    obtain ⟨is, a, r⟩ := h
    exact ⟨_, _, z, w.ints a, P.now k r .i⟩
  · obtain ⟨e, rfl, v⟩ := one_inv hx
    obtain ⟨zs, z, w⟩ := seq_ok v rfl
    obtain ⟨is, a, r⟩ := h
    exact ⟨_, _, z, w.ints a, P.now k r .i⟩
  · obtain ⟨e, rfl, v⟩ := one_inv hx
    obtain ⟨zs, z, w⟩ := seq_ok v rfl
    obtain ⟨is, a, r⟩ := h
    exact ⟨_, _, z, w.trus a, P.now k r .b⟩
  · obtain ⟨e, rfl, v⟩ := one_inv hx
    obtain ⟨zs, z, w⟩ := seq_ok v rfl
    obtain ⟨is, a, r⟩ := h
    exact ⟨_, _, z, w.trus a, P.now k r .b⟩
  · obtain ⟨e, rfl, v⟩ := one_inv hx
    obtain ⟨zs, z, w⟩ := seq_ok v rfl
    obtain ⟨is, a, r⟩ := h
    exact ⟨_, _, z, w.trus a, P.now k r .b⟩
  · obtain ⟨e, rfl, v⟩ := one_inv hx
    obtain ⟨zs, z, w⟩ := seq_ok v rfl
    obtain ⟨is, a, r⟩ := h
    exact ⟨_, _, z, w.trus a, P.now k r .b⟩
  · obtain ⟨e, rfl, v⟩ := one_inv hx
    cases v.int_inv; exact P.now k h .i
  · obtain ⟨e, e2, rfl, v, v2⟩ := two_inv hx
    cases v.int_inv; cases v2.int_inv; exact P.now k h .i
  · obtain ⟨e, e2, rfl, v, v2⟩ := two_inv hx
    cases v.int_inv; cases v2.int_inv; exact P.now k h .i
  · obtain ⟨e, rfl, v⟩ := one_inv hx
    cases v.int_inv; exact P.now k h .i
  · obtain ⟨e, rfl, v⟩ := one_inv hx
    cases v.bl_inv; exact P.now k h .i
  · obtain ⟨e, rfl, v⟩ := one_inv hx
    cases v.str_inv
    obtain ⟨n, a, b, r⟩ := h
    exact ⟨n, a, b, P.now k r .i⟩
  · obtain ⟨e, rfl, v⟩ := one_inv hx
    cases v.int_inv; exact ⟨h.1, P.now k h.2 .s⟩
  · obtain ⟨e, rfl, v⟩ := one_inv hx
    obtain ⟨zs, z, w⟩ := seq_ok v rfl
    exact ⟨_, z, P.now k h (.tup w)⟩
  · obtain ⟨e, rfl, v⟩ := one_inv hx
    obtain ⟨zs, z, w⟩ := seq_ok v rfl
    exact ⟨_, z, P.now k h (.tup w)⟩
  · obtain ⟨e, rfl, v⟩ := one_inv hx
    obtain ⟨zs, z, w⟩ := seq_ok v rfl
    exact ⟨_, z, fun r f => P.new k h w r f⟩
  · obtain ⟨e, rfl, v⟩ := one_inv hx
    obtain ⟨zs, z, w⟩ := seq_ok v rfl
    exact ⟨_, z, fun r f => P.new k h w r f⟩
  · obtain ⟨e, rfl, v⟩ := one_inv hx
    obtain ⟨a, b, c, r⟩ := h
    obtain ⟨a1, a2, a3⟩ := okV_ok v a
    exact ⟨a1, by rw [a3]; exact b, by rw [a2]; exact c, by rw [a2]; exact P.now k r .s⟩
  · obtain ⟨e, rfl, v⟩ := one_inv hx
    obtain ⟨kk, a, r⟩ := h
    exact ⟨kk, kind_ok v a, P.now k r .b⟩
  · obtain ⟨e, rfl, v⟩ := one_inv hx
    cases v.str_inv; exact ⟨h.1, P.now k h.2 .s⟩
  · obtain ⟨e, rfl, v⟩ := one_inv hx
    obtain ⟨zs, rfl, w⟩ := v.tup_inv
    exact P.now k h (.tup w.reverse)
  · obtain ⟨e, rfl, v⟩ := one_inv hx
    obtain ⟨a, zs, rfl, _, s, w⟩ := v.rol_inv
    exact ⟨zs, s, fun r f => P.new k h w.reverse r f⟩
theorem mtV_ok (m : Mt) {ds es : List D} (k : OkO p q O S g) (hx : VT p O S x x1) (hs : VTs p O S ds es) (h : mtV m x ds R) (P : Post p q O S g R Q) : mtTy m x1 S ∧ mtD m x1 es S Q := by
  unfold mtV at h
  split at h <;> try exact h.elim
  · cases hx.str_inv
    obtain ⟨e, rfl, v⟩ := one_inv hs
    obtain ⟨zs, z, w⟩ := seq_ok v rfl
    obtain ⟨xs, a, b, r⟩ := h
    exact ⟨trivial, _, _, z, w.strs a, b, P.now k r .s⟩
  · cases hx.str_inv
    obtain ⟨e, rfl, v⟩ := one_inv hs
    obtain ⟨zs, z, w⟩ := seq_ok v rfl
    obtain ⟨xs, a, b, r⟩ := h
    exact ⟨trivial, _, _, z, w.strs a, b, P.now k r .s⟩
  · cases hx.str_inv
    obtain ⟨e, rfl, v⟩ := one_inv hs
    cases v.str_inv
    exact ⟨trivial, P.now k h .i⟩
end
end G57
set_option Elab.async false
set_option linter.all false
set_option maxRecDepth 100000
set_option maxHeartbeats 400000
namespace G57
open PySem L2
abbrev QK := D → Nat → Prop
abbrev Spec2 := List D → Nat → QK → Prop
structure Tab2 where
  q : Nat → Option Spec2
  w : Nat → Option Spec := fun _ => none
def ownB : List Nat → Nat → Bool
  | [], _ => false
  | j :: r, i => i == j || ownB r i
def lcV (body : D → Nat → (Option D → Nat → Prop) → Prop) (Q : List D → Nat → Prop) : List D → List D → Nat → Prop
  | [], acc, g => Q acc g
  | x :: xs, acc, g => body x g fun y g1 => match y with
    | none => lcV body Q xs acc g1
    | some y => acc.length < 16777216 ∧ lcV body Q xs (acc ++ [y]) g1
mutual
def wqP : Pt → D → En → (En → Prop) → Prop
  | .v i, d, env, Q => Q (env.set i (some d))
  | .t p, .tup ds, env, Q => wqPs p ds env Q
  | .t p, .rol ds, env, Q => wqPs p ds env Q
  | _, _, _, _ => False
def wqPs : Pt → List D → En → (En → Prop) → Prop
  | .nil, [], env, Q => Q env
  | .cons a r, d :: ds, env, Q => wqP a d env fun env' => wqPs r ds env' Q
  | _, _, _, _ => False
end
def mtO : Mt → D → Prop
  | .join, .str _ => True
  | .count, .str _ => True
  | _, _ => False
def fmtV : D → (List Nat → Prop) → Prop
  | .str x, R => x.length ≤ 16777216 ∧ R x
  | .int i, R => i.natAbs < 2 ^ 1900 ∧ R (itxt i)
  | _, _ => False
section
variable (M : List Nat) (Φ : Tab2)
mutual
def wqE : Ex → Bool → En → Nat → QK → Prop
  | .var i, b, env, g, Q => (b || !ownB M i) = true ∧ ∃ d, env[i]? = some (some d) ∧ Q d g
  | .con d, _, _, g, Q => flatD d = true ∧ Q d g
  | .bin op a c, _, env, g, Q => wqE a true env g fun x g1 => wqE c true env g1 fun y g2 => opV op x y fun d => Q d g2
  | .neg a, _, env, g, Q => wqE a true env g fun x g1 => negV x fun d => Q d g1
  | .not a, _, env, g, Q => wqE a true env g fun x g1 => truthV x fun t => Q (.bl (!t)) g1
  | .cmp op a c, _, env, g, Q => wqE a true env g fun x g1 => wqE c true env g1 fun y g2 => cmpV op x y fun d => Q d g2
  | .chain o1 o2 a b c, _, env, g, Q => wqE a true env g fun x g1 => wqE b true env g1 fun y g2 => cmpV o1 x y fun z => ∃ k, z = .bl k ∧
      (if k = true then wqE c true env g2 fun w g3 => cmpV o2 y w fun d => Q d g3 else Q (.bl false) g2)
  | .and a c, b, env, g, Q => wqE a b env g fun x g1 => truthV x fun t => if t = true then wqE c b env g1 Q else Q x g1
  | .or a c, b, env, g, Q => wqE a b env g fun x g1 => truthV x fun t => if t = true then Q x g1 else wqE c b env g1 Q
  | .ite c a d, b, env, g, Q => wqT c env g fun t g1 => if t = true then wqE a b env g1 Q else wqE d b env g1 Q
  | .call f as, _, env, g, Q => ∃ sp, Φ.q f = some sp ∧ wqA as false env g fun ds g1 => sp ds g1 Q
  | .bi f as, _, env, g, Q => wqA as true env g fun ds g1 => biV f ds fun d => Q d g1
  | .mt m o as, _, env, g, Q => wqE o true env g fun x g1 => mtO m x ∧ wqA as true env g1 fun ds g2 => mtV m x ds fun d => Q d g2
  | .tup as, _, env, g, Q => wqA as false env g fun ds g1 => ds.length ≤ 16777216 ∧ Q (.tup ds) g1
  | .lst as, _, env, g, Q => wqA as false env g fun ds g1 => ds.length ≤ 16777216 ∧ Q (.rol ds) g1
  | .idx a c, _, env, g, Q => wqE a true env g fun x g1 => wqE c true env g1 fun y g2 => idxV x y fun d => Q d g2
  | .sl a lo hi, _, env, g, Q => wqE a true env g fun x g1 => wqO lo env g1 fun l g2 => wqO hi env g2 fun h g3 => slV x l h fun d => Q d g3
  | .lc vs p it c e, _, env, g, Q => wqI it true env g fun xs g1 => lcV (fun x g2 k => wqP p x (wipeD env vs) fun env2 => wqC c env2 g2 fun t g3 =>
      if t = true then wqE e false env2 g3 fun y g4 => k (some y) g4 else k none g3) (fun ys g' => Q (.rol ys) g') xs [] g1
  | .fs as, _, env, g, Q => wqJ as env g [] fun x g1 => Q (.str x) g1
  | .nil, _, _, _, _ | .cons _ _, _, _, _, _ | .iE _, _, _, _, _ | .iR1 _, _, _, _, _ | .iR2 _ _, _, _, _, _ | .iZ _ _, _, _, _, _ | .iN _, _, _, _, _ => False
def wqT : Ex → En → Nat → (Bool → Nat → Prop) → Prop
  | .not a, env, g, Q => wqT a env g fun b g1 => Q (!b) g1
  | .and a c, env, g, Q => wqT a env g fun t g1 => if t = true then wqT c env g1 Q else Q false g1
  | .or a c, env, g, Q => wqT a env g fun t g1 => if t = true then Q true g1 else wqT c env g1 Q
  | .cmp op a c, env, g, Q => wqE a true env g fun x g1 => wqE c true env g1 fun y g2 => cmpV op x y fun z => ∃ k, z = .bl k ∧ Q k g2
  | .chain o1 o2 a b c, env, g, Q => wqE a true env g fun x g1 => wqE b true env g1 fun y g2 => cmpV o1 x y fun z => ∃ k, z = .bl k ∧
      (if k = true then wqE c true env g2 fun w g3 => cmpV o2 y w fun z => ∃ k, z = .bl k ∧ Q k g3 else Q false g2)
  | .var i, env, g, Q => ∃ d, env[i]? = some (some d) ∧ truthV d fun b => Q b g
  | .call f as, env, g, Q => ∃ sp, Φ.q f = some sp ∧ wqA as false env g fun ds g1 => sp ds g1 fun d g2 => truthV d fun b => Q b g2
  | .bi f as, env, g, Q => wqA as true env g fun ds g1 => biV f ds fun d => truthV d fun b => Q b g1
  | .idx a c, env, g, Q => wqE a true env g fun x g1 => wqE c true env g1 fun y g2 => idxV x y fun d => truthV d fun b => Q b g2
  | _, _, _, _ => False
def wqC : Ex → En → Nat → (Bool → Nat → Prop) → Prop
  | .nil, _, g, Q => Q true g
  | .cons c _, env, g, Q => wqT c env g Q
  | _, _, _, _ => False
def wqA : Ex → Bool → En → Nat → (List D → Nat → Prop) → Prop
  | .nil, _, _, g, Q => Q [] g
  | .cons a r, b, env, g, Q => wqE a b env g fun x g1 => wqA r b env g1 fun xs g2 => Q (x :: xs) g2
  | _, _, _, _, _ => False
def wqO : Ex → En → Nat → (Option Int → Nat → Prop) → Prop
  | .nil, _, g, Q => Q none g
  | .cons a _, env, g, Q => wqE a true env g fun x g1 => ∃ i, x = .int i ∧ Q (some i) g1
  | _, _, _, _ => False
def wqI : Ex → Bool → En → Nat → (List D → Nat → Prop) → Prop
  | .iE a, b, env, g, K => wqE a b env g fun x g1 => ∃ xs, itV x = some xs ∧ K xs g1
  | .iR1 a, _, env, g, K => wqE a true env g fun x g1 => rng1V x fun xs => K xs g1
  | .iR2 a c, _, env, g, K => wqE a true env g fun x g1 => wqE c true env g1 fun y g2 => rng2V x y fun xs => K xs g2
  | .iZ a c, b, env, g, K => wqE a b env g fun x g1 => wqE c b env g1 fun y g2 => ∃ xs ys, itV x = some xs ∧ itV y = some ys ∧ K (zipD xs ys) g2
  | .iN a, b, env, g, K => wqE a b env g fun x g1 => ∃ xs, itV x = some xs ∧ K (enumD 0 xs) g1
  | _, _, _, _, _ => False
def wqJ : Ex → En → Nat → List Nat → (List Nat → Nat → Prop) → Prop
  | .nil, _, g, acc, Q => Q acc g
  | .cons a r, env, g, acc, Q => wqE a true env g fun x g1 => fmtV x fun z => acc.length + z.length ≤ 16777216 ∧ wqJ r env g1 (acc ++ z) Q
  | _, _, _, _, _ => False
end
end
def lift2 (sp : Spec2) : Spec := fun es S Q => ∃ p q O g ds R, OkO p q O S g ∧ VFs p O S ds es ∧ sp ds g R ∧ ∀ d2 d1 S' g', R d2 g' → ExtB p S S' → Deck S' p q g' → VF p O S' d2 d1 → Q d1 S'
def tab1 (Φ : Tab2) : Tab := fun i => match Φ.q i with
  | some sp => some (lift2 sp)
  | none => Φ.w i
structure RelV2 (p : Addr) (O : Own) (M : List Nat) (S : Sto) (env env1 : En) : Prop where
  len : env.length = env1.length
  var : ∀ i d, env[i]? = some (some d) → ∃ e, env1[i]? = some (some e) ∧ VB (ownB M i) p O S d e
section
variable {p q : Addr} {O : Own} {M : List Nat} {S S' : Sto} {g : Nat} {env env1 : En}
theorem VB.own {b : Bool} {x d : D} {a : Addr} (h : VB b p O S x d) (f : S a = none) : VB b p (fun c => O c ∨ c = a) S x d := by
  unfold VB at h ⊢
  cases b
  · simp only [Bool.false_eq_true, if_false] at h ⊢; exact h.own f
  · simp only [if_true] at h ⊢; exact h.own f
theorem RelV2.ext (h : RelV2 p O M S env env1) (e : ExtB p S S') : RelV2 p O M S' env env1 :=
  ⟨h.len, fun i d q => let ⟨x, a, b⟩ := h.var i d q; ⟨x, a, b.ext e⟩⟩
theorem RelV2.own (h : RelV2 p O M S env env1) {a : Addr} (f : S a = none) : RelV2 p (fun b => O b ∨ b = a) M S env env1 :=
  ⟨h.len, fun i d q => let ⟨x, a, b⟩ := h.var i d q; ⟨x, a, b.own f⟩⟩
theorem RelV2.set (h : RelV2 p O M S env env1) (i : Nat) {d e : D} (v : VF p O S d e) : RelV2 p O M S (env.set i (some d)) (env1.set i (some e)) := by
  refine ⟨by simp [h.len], fun j x q => ?_⟩
  by_cases hj : i = j
  · subst hj
    by_cases hi : i < env.length
    · rw [List.getElem?_set_self hi] at q
      cases q
      exact ⟨e, List.getElem?_set_self (by rw [← h.len]; exact hi), v.vb _⟩
    · rw [List.getElem?_eq_none (by simpa using hi)] at q; cases q
  · rw [List.getElem?_set_ne hj] at q ⊢
    exact h.var j x q
theorem RelV2.wipe1 (h : RelV2 p O M S env env1) (i : Nat) : RelV2 p O M S (env.set i none) (env1.set i none) := by
  refine ⟨by simp [h.len], fun j x q => ?_⟩
  by_cases hj : i = j
  · subst hj
    by_cases hi : i < env.length
    · rw [List.getElem?_set_self hi] at q
      cases q
    · rw [List.getElem?_eq_none (by simpa using hi)] at q; cases q
  · rw [List.getElem?_set_ne hj] at q ⊢
    exact h.var j x q
theorem RelV2.wipe (h : RelV2 p O M S env env1) : ∀ vs : List Nat, RelV2 p O M S (wipeD env vs) (wipeD env1 vs)
  | [] => h
  | v :: vs => (h.wipe vs).wipe1 v
mutual
theorem wqP_ok : ∀ (t : Pt) {d e : D} {env env1 : En} {Q Q1 : En → Prop}, RelV2 p O M S env env1 → VF p O S d e → wqP t d env Q → (∀ env' env1', Q env' → RelV2 p O M S env' env1' → Q1 env1') → wpP t e S env1 Q1
  | .v i, d, e, env, env1, Q, Q1, r, v, h, k => by
    simp only [wqP] at h
    simp only [wpP]
    exact k _ _ h (r.set i v)
  | .t t, d, e, env, env1, Q, Q1, r, v, h, k => by
    simp only [wpP]
    cases d with
    | tup ds =>
      simp only [wqP] at h
      simp only [VF] at v
      obtain ⟨es, rfl, w⟩ := v
      exact ⟨es, rfl, wqPs_ok t r w h k⟩
    | rol ds =>
      simp only [wqP] at h
      simp only [VF] at v
      obtain ⟨a, es, rfl, _, _, s, w⟩ := v
      exact ⟨es, by rw [seqD_r]; exact s, wqPs_ok t r w h k⟩
    | _ => simp only [wqP] at h
  | .nil, d, e, env, env1, Q, Q1, r, v, h, k => by simp only [wqP] at h
  | .cons _ _, d, e, env, env1, Q, Q1, r, v, h, k => by simp only [wqP] at h
theorem wqPs_ok : ∀ (t : Pt) {ds es : List D} {env env1 : En} {Q Q1 : En → Prop}, RelV2 p O M S env env1 → VFs p O S ds es → wqPs t ds env Q → (∀ env' env1', Q env' → RelV2 p O M S env' env1' → Q1 env1') → wpPs t es S env1 Q1
  | .nil, ds, es, env, env1, Q, Q1, r, v, h, k => by
    cases ds with
    | nil =>
      simp only [VFs] at v
      subst v
      simp only [wqPs] at h
      simp only [wpPs]
      exact k _ _ h r
    | cons _ _ => simp only [wqPs] at h
  | .cons a t, ds, es, env, env1, Q, Q1, r, v, h, k => by
    cases ds with
    | nil => simp only [wqPs] at h
    | cons d ds =>
      simp only [VFs] at v
      obtain ⟨e, es, rfl, v, w⟩ := v
      simp only [wqPs] at h
      simp only [wpPs]
      exact wqP_ok a r v h fun env' env1' h' r' => wqPs_ok t r' w h' k
  | .v _, ds, es, env, env1, Q, Q1, r, v, h, k => by cases ds <;> simp only [wqPs] at h
  | .t _, ds, es, env, env1, Q, Q1, r, v, h, k => by cases ds <;> simp only [wqPs] at h
end
end
end G57
set_option Elab.async false
set_option linter.all false
set_option maxRecDepth 100000
set_option maxHeartbeats 800000
namespace G57
open PySem L2
def PE2 (b : Bool) (p q : Addr) (O : Own) (S : Sto) (Q : QK) (Q1 : DK) : Prop := ∀ d2 d1 S' g', Q d2 g' → ExtB p S S' → Deck S' p q g' → VB b p O S' d2 d1 → Q1 d1 S'
def PT2 (p q : Addr) (S : Sto) (Q : Bool → Nat → Prop) (Q1 : Bool → Sto → Prop) : Prop := ∀ b S' g', Q b g' → ExtB p S S' → Deck S' p q g' → Q1 b S'
def PA2 (b : Bool) (p q : Addr) (O : Own) (S : Sto) (Q : List D → Nat → Prop) (Q1 : List D → Sto → Prop) : Prop := ∀ ds es S' g', Q ds g' → ExtB p S S' → Deck S' p q g' → (if b = true then VTs p O S' ds es else VFs p O S' ds es) → Q1 es S'
def PO2 (p q : Addr) (S : Sto) (Q : Option Int → Nat → Prop) (Q1 : Option Int → Sto → Prop) : Prop := ∀ o S' g', Q o g' → ExtB p S S' → Deck S' p q g' → Q1 o S'
def PJ2 (p q : Addr) (S : Sto) (Q : List Nat → Nat → Prop) (Q1 : List Nat → Sto → Prop) : Prop := ∀ o S' g', Q o g' → ExtB p S S' → Deck S' p q g' → Q1 o S'
def ExtO (b : Bool) (p : Addr) (O : Own) (S S' : Sto) : Prop := ∀ a o, (b = true ∨ ¬ O a) → a ≠ p → S a = some o → S' a = some o
def PI2 (b : Bool) (p q : Addr) (O : Own) (S : Sto) (Q : List D → Nat → Prop) (K : IK) : Prop := ∀ ds es (G : Sto → Prop) S' g', Q ds g' → ExtB p S S' → Deck S' p q g' → VFs p O S' ds es → (∀ S'', ExtO b p O S' S'' → G S'') → K es G S'
section
variable {p q : Addr} {M : List Nat} {Φ : Tab2}
theorem truthV_mono {x : D} {A B : Bool → Prop} (h : truthV x A) (m : ∀ b, A b → B b) : truthV x B := by
  cases x <;> simp only [truthV] at h ⊢ <;> first | exact m _ h | exact ⟨h.1, m _ h.2⟩
theorem post_of {O : Own} {S S1 : Sto} {b : Bool} {Q : QK} {Q1 : DK} {g : Nat} (P : PE2 b p q O S Q Q1) (e : ExtB p S S1) : Post p q O S1 g (fun d => Q d g) Q1 :=
  fun d2 d1 S' r e' dk v => P d2 d1 S' g r (e.trans e') dk (v.vb b)
theorem vmap_str {O : Own} {S : Sto} : ∀ x : List Nat, VFs p O S (x.map fun c => .str [c]) (x.map fun c => .str [c])
  | [] => .nil
  | c :: x => .cons .s (vmap_str x)
theorem vmap_int {O : Own} {S : Sto} {f : Nat → Int} : ∀ x : List Nat, VFs p O S (x.map fun c => .int (f c)) (x.map fun c => .int (f c))
  | [] => .nil
  | c :: x => .cons .i (vmap_int x)
theorem vmap_rng {O : Own} {S : Sto} {m n : Int} : VFs p O S (rngD m n) (rngD m n) := vmap_int _
theorem zip_ok {O : Own} {S : Sto} : ∀ {xs ys es fs : List D}, VFs p O S xs es → VFs p O S ys fs → VFs p O S (zipD xs ys) (zipD es fs)
  | [], ys, es, fs, h, g => by simp only [VFs] at h; subst h; simp only [zipD]; exact .nil
  | x :: xs, [], es, fs, h, g => by
    simp only [VFs] at g; subst g
    cases es <;> (simp only [zipD]; exact .nil)
  | x :: xs, y :: ys, es, fs, h, g => by
    simp only [VFs] at h g
    obtain ⟨e, r, rfl, v, w⟩ := h
    obtain ⟨e', r', rfl, v', w'⟩ := g
    simp only [zipD]
    exact .cons (.tup (.cons v (.cons v' .nil))) (zip_ok w w')
theorem enum_ok {O : Own} {S : Sto} : ∀ {xs es : List D} (n : Nat), VFs p O S xs es → VFs p O S (enumD n xs) (enumD n es)
  | [], es, n, h => by simp only [VFs] at h; subst h; simp only [enumD]; exact .nil
  | x :: xs, es, n, h => by
    simp only [VFs] at h
    obtain ⟨e, r, rfl, v, w⟩ := h
    simp only [enumD]
    exact .cons (.tup (.cons .i (.cons v .nil))) (enum_ok (n + 1) w)
theorem src_ok {O : Own} {S : Sto} {b : Bool} {x x1 : D} {xs : List D} (v : VB b p O S x x1) (h : itV x = some xs) : ∃ es G, srcD S x1 = some (es, G) ∧ VFs p O S xs es ∧ ∀ S'', ExtO b p O S S'' → G S'' := by
  cases x with
  | tup ds =>
    cases h
    obtain ⟨es, rfl, w⟩ := v.vt.tup_inv
    exact ⟨es, _, rfl, w, fun _ _ => trivial⟩
  | str z =>
    cases h
    cases v.vt.str_inv
    exact ⟨_, _, rfl, vmap_str z, fun _ _ => trivial⟩
  | rol ds =>
    cases h
    unfold VB at v
    cases b
    · simp only [Bool.false_eq_true, if_false, VF] at v
      obtain ⟨a, es, rfl, n, np, s, w⟩ := v
      exact ⟨es, _, by simp only [srcD, s], w, fun S'' e => e a _ (.inr n) np s⟩
    · simp only [if_true] at v
      obtain ⟨a, es, rfl, np, s, w⟩ := v.rol_inv
      exact ⟨es, _, by simp only [srcD, s], w, fun S'' e => e a _ (.inl rfl) np s⟩
  | _ => cases h
theorem iter_ok {O : Own} {S : Sto} {b : Bool} {x x1 : D} {xs : List D} (v : VB b p O S x x1) (h : itV x = some xs) {K : IK} (k : ∀ es G, VFs p O S xs es → (∀ S'', ExtO b p O S S'' → G S'') → K es G S) : iterD x1 S K := by
  cases x with
  | tup ds =>
    cases h
    obtain ⟨es, rfl, w⟩ := v.vt.tup_inv
    exact k _ _ w fun _ _ => trivial
  | str z =>
    cases h
    cases v.vt.str_inv
    exact k _ _ (vmap_str z) fun _ _ => trivial
  | rol ds =>
    cases h
    unfold VB at v
    cases b
    · simp only [Bool.false_eq_true, if_false, VF] at v
      obtain ⟨a, es, rfl, n, np, s, w⟩ := v
      exact ⟨es, s, k _ _ w fun S'' e => e a _ (.inr n) np s⟩
    · simp only [if_true] at v
      obtain ⟨a, es, rfl, np, s, w⟩ := v.rol_inv
      exact ⟨es, s, k _ _ w fun S'' e => e a _ (.inl rfl) np s⟩
  | _ => cases h
theorem lc_ok {O : Own} {S1 : Sto} {a : Addr} {G : Sto → Prop} {b2 : D → Nat → (Option D → Nat → Prop) → Prop} {b1 : D → Sto → (Option D → Sto → Prop) → Prop} {Q : List D → Nat → Prop} {Q1 : Sto → Prop} (fa : S1 a = none)
    (hG : ∀ S, ExtB p S1 S → G S)
    (hb : ∀ x x1 S g k2 k1, OkO p q (fun c => O c ∨ c = a) S g → ExtB p S1 S → VF p (fun c => O c ∨ c = a) S x x1 → b2 x g k2 →
      (∀ y y1 S' g', k2 y g' → ExtB p S S' → Deck S' p q g' → (match y, y1 with | none, none => True | some y, some y1 => VF p (fun c => O c ∨ c = a) S' y y1 | _, _ => False) → k1 y1 S') → b1 x1 S k1) :
    ∀ (xs xs1 acc acc1 : List D) (S : Sto) (g : Nat), OkO p q (fun c => O c ∨ c = a) S g → ExtB p S1 S → S a = some (.lst acc1) → VFs p (fun c => O c ∨ c = a) S acc acc1 → VFs p (fun c => O c ∨ c = a) S xs xs1 →
      lcV b2 Q xs acc g → (∀ acc acc1 S g, Q acc g → OkO p q (fun c => O c ∨ c = a) S g → ExtB p S1 S → S a = some (.lst acc1) → VFs p (fun c => O c ∨ c = a) S acc acc1 → Q1 S) → lcRun a G b1 Q1 xs1 acc1 S
  | [], xs1, acc, acc1, S, g, k, e, sa, va, vx, h, hq => by
    simp only [VFs] at vx
    subst vx
    simp only [lcV] at h
    simp only [lcRun]
    exact hq _ _ _ _ h k e sa va
  | x :: xs, xs1, acc, acc1, S, g, k, e, sa, va, vx, h, hq => by
    simp only [VFs] at vx
    obtain ⟨x1, r, rfl, v, w⟩ := vx
    simp only [lcV] at h
    simp only [lcRun]
    have hap : a ≠ p := fun z => k.np (.inr z.symm)
    refine hb x x1 S g _ _ k e v h fun y y1 S' g' h' e' dk' vy => ?_
    have k' := k.ext e' dk'
    have sa' := e' a _ hap sa
    refine ⟨sa', ?_⟩
    cases y with
    | none =>
      cases y1 with
      | some _ => exact vy.elim
      | none =>
        simp only at h' ⊢
        exact ⟨hG _ (e.trans e'), lc_ok fa hG hb xs r acc acc1 S' g' k' (e.trans e') sa' (va.ext e') (w.ext e') h' hq⟩
    | some y =>
      cases y1 with
      | none => exact vy.elim
      | some y1 =>
        simp only at h' vy ⊢
        have hl : acc1.length < 16777216 := by rw [← va.length]; exact h'.1
        have e'' : ExtB p S1 (put S' a (.lst (acc1 ++ [y1]))) := fun c o nc s => by
          rw [put_ne (fun z => by rw [z, fa] at s; cases s)]
          exact e' c o nc (e c o nc s)
        have k'' : OkO p q (fun c => O c ∨ c = a) (put S' a (.lst (acc1 ++ [y1]))) g' := by
          refine ⟨k'.dk.put (fun z => hap z.symm) (fun z => k.nq (.inr z)), fun c hc z => ?_, k.np, k.nq⟩
          by_cases hca : c = a
          · rw [hca, put_same] at z; cases z
          · rw [put_ne hca] at z; exact k'.dom c hc z
        exact ⟨hl, hG _ e'', lc_ok fa hG hb xs r (acc ++ [y]) (acc1 ++ [y1]) _ g' k'' e'' put_same (((va.ext e').append (.cons vy .nil)).write (.inr rfl)) ((w.ext e').write (.inr rfl)) h'.2 hq⟩
mutual
theorem sndE : ∀ (e : Ex) {b : Bool} {O : Own} {env env1 : En} {S : Sto} {g : Nat} {Q : QK} {Q1 : DK}, OkO p q O S g → RelV2 p O M S env env1 → wqE M Φ e b env g Q → PE2 b p q O S Q Q1 → wpE (tab1 Φ) e env1 S Q1
  | .var i, b, O, env, env1, S, g, Q, Q1, k, r, h, P => by
    simp only [wqE] at h
    obtain ⟨hb, d, e, h⟩ := h
    obtain ⟨d1, e1, v⟩ := r.var i d e
    simp only [wpE]
    refine ⟨d1, e1, P d d1 S g h ExtB.refl k.dk ?_⟩
    cases b with
    | true => exact v.vt
    | false =>
      have ho : ownB M i = false := by simpa using hb
      rw [ho] at v
      exact v
  | .con d, b, O, env, env1, S, g, Q, Q1, k, r, h, P => by
    simp only [wqE] at h
    simp only [wpE]
    refine P d d S g h.2 ExtB.refl k.dk (VF.vb _ ?_)
    cases d <;> first | exact .n | exact .b | exact .i | exact .s | cases h.1
  | .bin op a c, b, O, env, env1, S, g, Q, Q1, k, r, h, P => by
    simp only [wqE] at h
    simp only [wpE]
    refine sndE a k r h fun x x1 S1 g1 h1 e1 dk1 v1 => sndE c (k.ext e1 dk1) (r.ext e1) h1 fun y y1 S2 g2 h2 e2 dk2 v2 => ?_
    exact opV_ok op (k.ext (e1.trans e2) dk2) (v1.vt.ext e2) v2.vt h2 (post_of P (e1.trans e2))
  | .neg a, b, O, env, env1, S, g, Q, Q1, k, r, h, P => by
    simp only [wqE] at h
    simp only [wpE]
    exact sndE a k r h fun x x1 S1 g1 h1 e1 dk1 v1 => negV_ok (k.ext e1 dk1) v1.vt h1 (post_of P e1)
  | .not a, b, O, env, env1, S, g, Q, Q1, k, r, h, P => by
    simp only [wqE] at h
    simp only [wpE]
    refine sndE a k r h fun x x1 S1 g1 h1 e1 dk1 v1 => truthV_ok v1.vt ?_
    revert h1
    cases x <;> simp only [truthV] <;> first | exact fun h => h.elim | exact fun h => P _ _ _ _ h e1 dk1 (VF.vb _ .b) | exact fun h => ⟨h.1, P _ _ _ _ h.2 e1 dk1 (VF.vb _ .b)⟩
  | .cmp op a c, b, O, env, env1, S, g, Q, Q1, k, r, h, P => by
    simp only [wqE] at h
    simp only [wpE]
    refine sndE a k r h fun x x1 S1 g1 h1 e1 dk1 v1 => sndE c (k.ext e1 dk1) (r.ext e1) h1 fun y y1 S2 g2 h2 e2 dk2 v2 => ?_
    exact cmpV_ok op (k.ext (e1.trans e2) dk2) (v1.vt.ext e2) v2.vt h2 (post_of P (e1.trans e2))
  | .chain o1 o2 a c d, b, O, env, env1, S, g, Q, Q1, k, r, h, P => by
    simp only [wqE] at h
    simp only [wpE]
    refine sndE a k r h fun x x1 S1 g1 h1 e1 dk1 v1 => sndE c (k.ext e1 dk1) (r.ext e1) h1 fun y y1 S2 g2 h2 e2 dk2 v2 => ?_
    have e12 := e1.trans e2
    refine cmpV_ok o1 (k.ext e12 dk2) (v1.vt.ext e2) v2.vt h2 fun z z1 S3 h3 e3 dk3 v3 => ?_
    obtain ⟨t, rfl, h3⟩ := h3
    have e13 := e12.trans e3
    refine ⟨t, v3.vt.bl_inv, ?_⟩
    cases t with
    | false => simp only [Bool.false_eq_true, if_false] at h3 ⊢; exact P _ _ _ _ h3 e13 dk3 (VF.vb _ .b)
    | true =>
      simp only [if_true] at h3 ⊢
      refine sndE d (k.ext e13 dk3) (r.ext e13) h3 fun w w1 S4 g4 h4 e4 dk4 v4 => ?_
      exact cmpV_ok o2 (k.ext (e13.trans e4) dk4) (v2.vt.ext (e3.trans e4)) v4.vt h4 (post_of P (e13.trans e4))
  | .and a c, b, O, env, env1, S, g, Q, Q1, k, r, h, P => by
    simp only [wqE] at h
    simp only [wpE]
    refine sndE a k r h fun x x1 S1 g1 h1 e1 dk1 v1 => truthV_ok v1.vt ?_
    have fin : ∀ t : Bool, (if t = true then wqE M Φ c b env g1 Q else Q x g1) → (if t = true then wpE (tab1 Φ) c env1 S1 Q1 else Q1 x1 S1) := fun t ht => by
      cases t with
      | false => simp only [Bool.false_eq_true, if_false] at ht ⊢; exact P _ _ _ _ ht e1 dk1 v1
      | true =>
        simp only [if_true] at ht ⊢
        exact sndE c (k.ext e1 dk1) (r.ext e1) ht fun y y1 S2 g2 h2 e2 dk2 v2 => P _ _ _ _ h2 (e1.trans e2) dk2 v2
    revert h1
    cases x <;> simp only [truthV] <;> first | exact fun h => h.elim | exact fun h => ⟨h.1, fin _ h.2⟩ | exact fun h => fin _ h
  | .or a c, b, O, env, env1, S, g, Q, Q1, k, r, h, P => by
    simp only [wqE] at h
    simp only [wpE]
    refine sndE a k r h fun x x1 S1 g1 h1 e1 dk1 v1 => truthV_ok v1.vt ?_
    have fin : ∀ t : Bool, (if t = true then Q x g1 else wqE M Φ c b env g1 Q) → (if t = true then Q1 x1 S1 else wpE (tab1 Φ) c env1 S1 Q1) := fun t ht => by
      cases t with
      | true => simp only [if_true] at ht ⊢; exact P _ _ _ _ ht e1 dk1 v1
      | false =>
        simp only [Bool.false_eq_true, if_false] at ht ⊢
        exact sndE c (k.ext e1 dk1) (r.ext e1) ht fun y y1 S2 g2 h2 e2 dk2 v2 => P _ _ _ _ h2 (e1.trans e2) dk2 v2
    revert h1
    cases x <;> simp only [truthV] <;> first | exact fun h => h.elim | exact fun h => ⟨h.1, fin _ h.2⟩ | exact fun h => fin _ h
  | .ite c a d, b, O, env, env1, S, g, Q, Q1, k, r, h, P => by
    simp only [wqE] at h
    simp only [wpE]
    refine sndT c k r h fun t S1 g1 h1 e1 dk1 => ?_
    cases t with
    | true => simp only [if_true] at h1 ⊢; exact sndE a (k.ext e1 dk1) (r.ext e1) h1 fun y y1 S2 g2 h2 e2 dk2 v2 => P _ _ _ _ h2 (e1.trans e2) dk2 v2
    | false => simp only [Bool.false_eq_true, if_false] at h1 ⊢; exact sndE d (k.ext e1 dk1) (r.ext e1) h1 fun y y1 S2 g2 h2 e2 dk2 v2 => P _ _ _ _ h2 (e1.trans e2) dk2 v2
  | .call f as, b, O, env, env1, S, g, Q, Q1, k, r, h, P => by
    simp only [wqE] at h
    simp only [wpE]
    obtain ⟨sp, hf, h⟩ := h
    refine ⟨lift2 sp, by simp only [tab1, hf], sndA as k r h fun ds es S1 g1 h1 e1 dk1 v1 => ?_⟩
    simp only [Bool.false_eq_true, if_false] at v1
    exact ⟨p, q, O, g1, ds, Q, k.ext e1 dk1, v1, h1, fun d2 d1 S' g' hQ e' dk' v' => P _ _ _ _ hQ (e1.trans e') dk' (v'.vb _)⟩
  | .bi f as, b, O, env, env1, S, g, Q, Q1, k, r, h, P => by
    simp only [wqE] at h
    simp only [wpE]
    refine sndA as k r h fun ds es S1 g1 h1 e1 dk1 v1 => ?_
    simp only [if_true] at v1
    exact biV_ok f (k.ext e1 dk1) v1 h1 (post_of P e1)
  | .mt m o as, b, O, env, env1, S, g, Q, Q1, k, r, h, P => by
    simp only [wqE] at h
    simp only [wpE]
    refine sndE o k r h fun x x1 S1 g1 h1 e1 dk1 v1 => ⟨?_, sndA as (k.ext e1 dk1) (r.ext e1) h1.2 fun ds es S2 g2 h2 e2 dk2 v2 => ?_⟩
    · have := h1.1
      cases m <;> cases x <;> first | exact this.elim | (cases v1.vt.str_inv; trivial)
    · simp only [if_true] at v2
      exact (mtV_ok m (k.ext (e1.trans e2) dk2) (v1.vt.ext e2) v2 h2 (post_of P (e1.trans e2))).2
  | .tup as, b, O, env, env1, S, g, Q, Q1, k, r, h, P => by
    simp only [wqE] at h
    simp only [wpE]
    refine sndA as k r h fun ds es S1 g1 h1 e1 dk1 v1 => ?_
    simp only [Bool.false_eq_true, if_false] at v1
    exact ⟨by rw [← v1.length]; exact h1.1, P _ _ _ _ h1.2 e1 dk1 (VF.vb _ (.tup v1))⟩
  | .lst as, b, O, env, env1, S, g, Q, Q1, k, r, h, P => by
    simp only [wqE] at h
    simp only [wpE]
    refine sndA as k r h fun ds es S1 g1 h1 e1 dk1 v1 => ?_
    simp only [Bool.false_eq_true, if_false] at v1
    exact ⟨by rw [← v1.length]; exact h1.1, fun a f => (post_of P e1).new (R := fun d => Q d g1) (k.ext e1 dk1) h1.2 v1 a f⟩
  | .idx a c, b, O, env, env1, S, g, Q, Q1, k, r, h, P => by
    simp only [wqE] at h
    simp only [wpE]
    refine sndE a k r h fun x x1 S1 g1 h1 e1 dk1 v1 => sndE c (k.ext e1 dk1) (r.ext e1) h1 fun y y1 S2 g2 h2 e2 dk2 v2 => ?_
    exact idxV_ok (k.ext (e1.trans e2) dk2) (v1.vt.ext e2) v2.vt h2 (post_of P (e1.trans e2))
  | .sl a lo hi, b, O, env, env1, S, g, Q, Q1, k, r, h, P => by
    simp only [wqE] at h
    simp only [wpE]
    refine sndE a k r h fun x x1 S1 g1 h1 e1 dk1 v1 => sndO lo (k.ext e1 dk1) (r.ext e1) h1 fun l S2 g2 h2 e2 dk2 => ?_
    refine sndO hi (k.ext (e1.trans e2) dk2) (r.ext (e1.trans e2)) h2 fun l' S3 g3 h3 e3 dk3 => ?_
    exact slV_ok (k.ext (e1.trans (e2.trans e3)) dk3) (v1.vt.ext (e2.trans e3)) h3 (post_of P (e1.trans (e2.trans e3)))
  | .lc vs t it c e, b, O, env, env1, S, g, Q, Q1, k, r, h, P => by
    simp only [wqE] at h
    simp only [wpE]
    refine sndI it k r h fun xs xs1 G S1 g1 h1 e1 dk1 v1 hG a fa => ?_
    have k1 := k.ext e1 dk1
    obtain ⟨n1, n2, n3⟩ := k1.fresh fa
    have hG' : ∀ S', ExtB p S1 S' → G S' := fun S' e' => hG S' fun c o _ nc s => e' c o nc s
    have eA : ExtB p S1 (put S1 a (.lst [])) := (Ext.put fa).but
    have kA : OkO p q (fun c => O c ∨ c = a) (put S1 a (.lst [])) g1 := by
      refine ⟨dk1.put n1 n2, fun c hc z => ?_, fun z => z.elim k.np n1, fun z => z.elim k.nq n2⟩
      by_cases hca : c = a
      · rw [hca, put_same] at z; cases z
      · rw [put_ne hca] at z
        exact k1.dom c (hc.resolve_right hca) z
    refine ⟨hG' _ eA, ?_⟩
    refine lc_ok (q := q) (O := O) fa hG' (fun x x1 S2 g2 k2 k1' kk e2 v2 h2 hk => ?_) xs xs1 [] [] _ g1 kA eA put_same .nil ((v1.own fa).ext eA) h1 fun acc acc1 S2 g2 h2 kk e2 s2 v2 => ?_
    · have r2 : RelV2 p (fun c => O c ∨ c = a) M S2 (wipeD env vs) (wipeD env1 vs) := (((r.ext e1).own fa).ext e2).wipe vs
      refine wqP_ok t r2 v2 h2 fun env' env1' h3 r3 => ?_
      refine sndC c kk r3 h3 fun tt S3 g3 h4 e4 dk4 => ?_
      cases tt with
      | false =>
        simp only [Bool.false_eq_true, if_false] at h4 ⊢
        exact hk none none S3 g3 h4 e4 dk4 trivial
      | true =>
        simp only [if_true] at h4 ⊢
        refine sndE e (kk.ext e4 dk4) (r3.ext e4) h4 fun y y1 S4 g4 h5 e5 dk5 v5 => ?_
        exact hk (some y) (some y1) S4 g4 h5 (e4.trans e5) dk5 v5
    · refine P _ _ S2 g2 h2 (e1.trans e2) kk.dk (VF.vb _ ?_)
      simp only [VF]
      exact ⟨a, acc1, rfl, n3, fun z => n1 z.symm, s2, v2.less fun c hc => .inl hc⟩
  | .fs as, b, O, env, env1, S, g, Q, Q1, k, r, h, P => by
    simp only [wqE] at h
    simp only [wpE]
    exact sndJ as k r h fun x S1 g1 h1 e1 dk1 => P _ _ _ _ h1 e1 dk1 (VF.vb _ .s)
  | .nil, b, O, env, env1, S, g, Q, Q1, k, r, h, P => by simp only [wqE] at h
  | .cons _ _, b, O, env, env1, S, g, Q, Q1, k, r, h, P => by simp only [wqE] at h
  | .iE _, b, O, env, env1, S, g, Q, Q1, k, r, h, P => by simp only [wqE] at h
  | .iR1 _, b, O, env, env1, S, g, Q, Q1, k, r, h, P => by simp only [wqE] at h
  | .iR2 _ _, b, O, env, env1, S, g, Q, Q1, k, r, h, P => by simp only [wqE] at h
  | .iZ _ _, b, O, env, env1, S, g, Q, Q1, k, r, h, P => by simp only [wqE] at h
  | .iN _, b, O, env, env1, S, g, Q, Q1, k, r, h, P => by simp only [wqE] at h
theorem sndT : ∀ (e : Ex) {O : Own} {env env1 : En} {S : Sto} {g : Nat} {Q : Bool → Nat → Prop} {Q1 : Bool → Sto → Prop}, OkO p q O S g → RelV2 p O M S env env1 → wqT M Φ e env g Q → PT2 p q S Q Q1 → wpT (tab1 Φ) e env1 S Q1
  | .not a, O, env, env1, S, g, Q, Q1, k, r, h, P => by
    simp only [wqT] at h
    simp only [wpT]
    exact sndT a k r h fun t S1 g1 h1 e1 dk1 => P _ _ _ h1 e1 dk1
  | .and a c, O, env, env1, S, g, Q, Q1, k, r, h, P => by
    simp only [wqT] at h
    simp only [wpT]
    refine sndT a k r h fun t S1 g1 h1 e1 dk1 => ?_
    cases t with
    | false => simp only [Bool.false_eq_true, if_false] at h1 ⊢; exact P _ _ _ h1 e1 dk1
    | true =>
      simp only [if_true] at h1 ⊢
      exact sndT c (k.ext e1 dk1) (r.ext e1) h1 fun t S2 g2 h2 e2 dk2 => P _ _ _ h2 (e1.trans e2) dk2
  | .or a c, O, env, env1, S, g, Q, Q1, k, r, h, P => by
    simp only [wqT] at h
    simp only [wpT]
    refine sndT a k r h fun t S1 g1 h1 e1 dk1 => ?_
    cases t with
    | true => simp only [if_true] at h1 ⊢; exact P _ _ _ h1 e1 dk1
    | false =>
      simp only [Bool.false_eq_true, if_false] at h1 ⊢
      exact sndT c (k.ext e1 dk1) (r.ext e1) h1 fun t S2 g2 h2 e2 dk2 => P _ _ _ h2 (e1.trans e2) dk2
  | .cmp op a c, O, env, env1, S, g, Q, Q1, k, r, h, P => by
    simp only [wqT] at h
    simp only [wpT]
    refine sndE a k r h fun x x1 S1 g1 h1 e1 dk1 v1 => sndE c (k.ext e1 dk1) (r.ext e1) h1 fun y y1 S2 g2 h2 e2 dk2 v2 => ?_
    refine cmpV_ok op (k.ext (e1.trans e2) dk2) (v1.vt.ext e2) v2.vt h2 fun z z1 S3 h3 e3 dk3 v3 => ?_
    obtain ⟨t, rfl, h3⟩ := h3
    exact ⟨t, v3.vt.bl_inv, P _ _ _ h3 (e1.trans (e2.trans e3)) dk3⟩
  | .chain o1 o2 a c d, O, env, env1, S, g, Q, Q1, k, r, h, P => by
    simp only [wqT] at h
    simp only [wpT]
    refine sndE a k r h fun x x1 S1 g1 h1 e1 dk1 v1 => sndE c (k.ext e1 dk1) (r.ext e1) h1 fun y y1 S2 g2 h2 e2 dk2 v2 => ?_
    have e12 := e1.trans e2
    refine cmpV_ok o1 (k.ext e12 dk2) (v1.vt.ext e2) v2.vt h2 fun z z1 S3 h3 e3 dk3 v3 => ?_
    obtain ⟨t, rfl, h3⟩ := h3
    have e13 := e12.trans e3
    refine ⟨t, v3.vt.bl_inv, ?_⟩
    cases t with
    | false => simp only [Bool.false_eq_true, if_false] at h3 ⊢; exact P _ _ _ h3 e13 dk3
    | true =>
      simp only [if_true] at h3 ⊢
      refine sndE d (k.ext e13 dk3) (r.ext e13) h3 fun w w1 S4 g4 h4 e4 dk4 v4 => ?_
      refine cmpV_ok o2 (k.ext (e13.trans e4) dk4) (v2.vt.ext (e3.trans e4)) v4.vt h4 fun z z1 S5 h5 e5 dk5 v5 => ?_
      obtain ⟨t, rfl, h5⟩ := h5
      exact ⟨t, v5.vt.bl_inv, P _ _ _ h5 (e13.trans (e4.trans e5)) dk5⟩
  | .var i, O, env, env1, S, g, Q, Q1, k, r, h, P => by
    simp only [wqT] at h
    obtain ⟨d, e, h⟩ := h
    obtain ⟨d1, e1, v⟩ := r.var i d e
    simp only [wpT]
    refine ⟨d1, e1, truthV_ok v.vt (truthV_mono h fun b hb => P _ _ _ hb ExtB.refl k.dk)⟩
  | .call f as, O, env, env1, S, g, Q, Q1, k, r, h, P => by
    simp only [wqT] at h
    simp only [wpT]
    obtain ⟨sp, hf, h⟩ := h
    refine ⟨lift2 sp, by simp only [tab1, hf], sndA as k r h fun ds es S1 g1 h1 e1 dk1 v1 => ?_⟩
    simp only [Bool.false_eq_true, if_false] at v1
    exact ⟨p, q, O, g1, ds, _, k.ext e1 dk1, v1, h1, fun d2 d1 S' g' hQ e' dk' v' => truthV_ok v'.vt (truthV_mono hQ fun b hb => P _ _ _ hb (e1.trans e') dk')⟩
  | .bi f as, O, env, env1, S, g, Q, Q1, k, r, h, P => by
    simp only [wqT] at h
    simp only [wpT]
    refine sndA as k r h fun ds es S1 g1 h1 e1 dk1 v1 => ?_
    simp only [if_true] at v1
    exact biV_ok f (k.ext e1 dk1) v1 h1 fun d2 d1 S' hQ e' dk' v' => truthV_ok v'.vt (truthV_mono hQ fun b hb => P _ _ _ hb (e1.trans e') dk')
  | .idx a c, O, env, env1, S, g, Q, Q1, k, r, h, P => by
    simp only [wqT] at h
    simp only [wpT]
    refine sndE a k r h fun x x1 S1 g1 h1 e1 dk1 v1 => sndE c (k.ext e1 dk1) (r.ext e1) h1 fun y y1 S2 g2 h2 e2 dk2 v2 => ?_
    exact idxV_ok (k.ext (e1.trans e2) dk2) (v1.vt.ext e2) v2.vt h2 fun d2 d1 S' hQ e' dk' v' => truthV_ok v'.vt (truthV_mono hQ fun b hb => P _ _ _ hb (e1.trans (e2.trans e')) dk')
  | .con _, O, env, env1, S, g, Q, Q1, k, r, h, P => by simp only [wqT] at h
  | .bin _ _ _, O, env, env1, S, g, Q, Q1, k, r, h, P => by simp only [wqT] at h
  | .neg _, O, env, env1, S, g, Q, Q1, k, r, h, P => by simp only [wqT] at h
  | .ite _ _ _, O, env, env1, S, g, Q, Q1, k, r, h, P => by simp only [wqT] at h
  | .mt _ _ _, O, env, env1, S, g, Q, Q1, k, r, h, P => by simp only [wqT] at h
  | .tup _, O, env, env1, S, g, Q, Q1, k, r, h, P => by simp only [wqT] at h
  | .lst _, O, env, env1, S, g, Q, Q1, k, r, h, P => by simp only [wqT] at h
  | .sl _ _ _, O, env, env1, S, g, Q, Q1, k, r, h, P => by simp only [wqT] at h
  | .lc _ _ _ _ _, O, env, env1, S, g, Q, Q1, k, r, h, P => by simp only [wqT] at h
  | .fs _, O, env, env1, S, g, Q, Q1, k, r, h, P => by simp only [wqT] at h
  | .nil, O, env, env1, S, g, Q, Q1, k, r, h, P => by simp only [wqT] at h
  | .cons _ _, O, env, env1, S, g, Q, Q1, k, r, h, P => by simp only [wqT] at h
  | .iE _, O, env, env1, S, g, Q, Q1, k, r, h, P => by simp only [wqT] at h
  | .iR1 _, O, env, env1, S, g, Q, Q1, k, r, h, P => by simp only [wqT] at h
  | .iR2 _ _, O, env, env1, S, g, Q, Q1, k, r, h, P => by simp only [wqT] at h
  | .iZ _ _, O, env, env1, S, g, Q, Q1, k, r, h, P => by simp only [wqT] at h
  | .iN _, O, env, env1, S, g, Q, Q1, k, r, h, P => by simp only [wqT] at h
theorem sndC (e : Ex) {O : Own} {env env1 : En} {S : Sto} {g : Nat} {Q : Bool → Nat → Prop} {Q1 : Bool → Sto → Prop} (k : OkO p q O S g) (r : RelV2 p O M S env env1) (h : wqC M Φ e env g Q) (P : PT2 p q S Q Q1) : wpC (tab1 Φ) e env1 S Q1 := by
  cases e with
  | nil => simp only [wqC] at h; simp only [wpC]; exact P _ _ _ h ExtB.refl k.dk
  | cons c t => simp only [wqC] at h; simp only [wpC]; exact sndT c k r h P
  | _ => simp only [wqC] at h
theorem sndA : ∀ (e : Ex) {b : Bool} {O : Own} {env env1 : En} {S : Sto} {g : Nat} {Q : List D → Nat → Prop} {Q1 : List D → Sto → Prop}, OkO p q O S g → RelV2 p O M S env env1 → wqA M Φ e b env g Q → PA2 b p q O S Q Q1 → wpA (tab1 Φ) e env1 S Q1
  | .nil, b, O, env, env1, S, g, Q, Q1, k, r, h, P => by
    simp only [wqA] at h; simp only [wpA]
    refine P _ _ _ _ h ExtB.refl k.dk ?_
    split
    · exact rfl
    · exact .nil
  | .cons a t, b, O, env, env1, S, g, Q, Q1, k, r, h, P => by
    simp only [wqA] at h; simp only [wpA]
    refine sndE a k r h fun x x1 S1 g1 h1 e1 dk1 v1 => sndA t (k.ext e1 dk1) (r.ext e1) h1 fun ds es S2 g2 h2 e2 dk2 v2 => P _ _ _ _ h2 (e1.trans e2) dk2 ?_
    cases b with
    | true => simp only [if_true] at v2 ⊢; exact VTs.cons (v1.vt.ext e2) v2
    | false => simp only [Bool.false_eq_true, if_false] at v2 ⊢; exact VFs.cons (VF.ext v1 e2) v2
  | .var _, b, O, env, env1, S, g, Q, Q1, k, r, h, P => by simp only [wqA] at h
  | .con _, b, O, env, env1, S, g, Q, Q1, k, r, h, P => by simp only [wqA] at h
  | .bin _ _ _, b, O, env, env1, S, g, Q, Q1, k, r, h, P => by simp only [wqA] at h
  | .neg _, b, O, env, env1, S, g, Q, Q1, k, r, h, P => by simp only [wqA] at h
  | .not _, b, O, env, env1, S, g, Q, Q1, k, r, h, P => by simp only [wqA] at h
  | .cmp _ _ _, b, O, env, env1, S, g, Q, Q1, k, r, h, P => by simp only [wqA] at h
  | .chain _ _ _ _ _, b, O, env, env1, S, g, Q, Q1, k, r, h, P => by simp only [wqA] at h
  | .and _ _, b, O, env, env1, S, g, Q, Q1, k, r, h, P => by simp only [wqA] at h
  | .or _ _, b, O, env, env1, S, g, Q, Q1, k, r, h, P => by simp only [wqA] at h
  | .ite _ _ _, b, O, env, env1, S, g, Q, Q1, k, r, h, P => by simp only [wqA] at h
  | .call _ _, b, O, env, env1, S, g, Q, Q1, k, r, h, P => by simp only [wqA] at h
  | .bi _ _, b, O, env, env1, S, g, Q, Q1, k, r, h, P => by simp only [wqA] at h
  | .mt _ _ _, b, O, env, env1, S, g, Q, Q1, k, r, h, P => by simp only [wqA] at h
  | .tup _, b, O, env, env1, S, g, Q, Q1, k, r, h, P => by simp only [wqA] at h
  | .lst _, b, O, env, env1, S, g, Q, Q1, k, r, h, P => by simp only [wqA] at h
  | .idx _ _, b, O, env, env1, S, g, Q, Q1, k, r, h, P => by simp only [wqA] at h
  | .sl _ _ _, b, O, env, env1, S, g, Q, Q1, k, r, h, P => by simp only [wqA] at h
  | .lc _ _ _ _ _, b, O, env, env1, S, g, Q, Q1, k, r, h, P => by simp only [wqA] at h
  | .fs _, b, O, env, env1, S, g, Q, Q1, k, r, h, P => by simp only [wqA] at h
  | .iE _, b, O, env, env1, S, g, Q, Q1, k, r, h, P => by simp only [wqA] at h
  | .iR1 _, b, O, env, env1, S, g, Q, Q1, k, r, h, P => by simp only [wqA] at h
  | .iR2 _ _, b, O, env, env1, S, g, Q, Q1, k, r, h, P => by simp only [wqA] at h
  | .iZ _ _, b, O, env, env1, S, g, Q, Q1, k, r, h, P => by simp only [wqA] at h
  | .iN _, b, O, env, env1, S, g, Q, Q1, k, r, h, P => by simp only [wqA] at h
theorem sndO (e : Ex) {O : Own} {env env1 : En} {S : Sto} {g : Nat} {Q : Option Int → Nat → Prop} {Q1 : Option Int → Sto → Prop} (k : OkO p q O S g) (r : RelV2 p O M S env env1) (h : wqO M Φ e env g Q) (P : PO2 p q S Q Q1) : wpO (tab1 Φ) e env1 S Q1 := by
  cases e with
  | nil => simp only [wqO] at h; simp only [wpO]; exact P _ _ _ h ExtB.refl k.dk
  | cons c t =>
    simp only [wqO] at h; simp only [wpO]
    refine sndE c k r h fun x x1 S1 g1 h1 e1 dk1 v1 => ?_
    obtain ⟨i, rfl, h1⟩ := h1
    exact ⟨i, v1.vt.int_inv, P _ _ _ h1 e1 dk1⟩
  | _ => simp only [wqO] at h
theorem sndI (e : Ex) {b : Bool} {O : Own} {env env1 : En} {S : Sto} {g : Nat} {Q : List D → Nat → Prop} {K : IK} (k : OkO p q O S g) (r : RelV2 p O M S env env1) (h : wqI M Φ e b env g Q) (P : PI2 b p q O S Q K) : wpI (tab1 Φ) e env1 S K := by
  cases e with
  | iE a =>
    simp only [wqI] at h; simp only [wpI]
    refine sndE a k r h fun x x1 S1 g1 h1 e1 dk1 v1 => ?_
    obtain ⟨xs, hx, h1⟩ := h1
    exact iter_ok v1 hx fun es G w hG => P _ _ _ _ _ h1 e1 dk1 w hG
  | iR1 a =>
    simp only [wqI] at h; simp only [wpI]
    refine sndE a k r h fun x x1 S1 g1 h1 e1 dk1 v1 => ?_
    cases x <;> try exact h1.elim
    cases v1.vt.int_inv
    exact ⟨h1.1, P _ _ _ _ _ h1.2 e1 dk1 vmap_rng fun _ _ => trivial⟩
  | iR2 a c =>
    simp only [wqI] at h; simp only [wpI]
    refine sndE a k r h fun x x1 S1 g1 h1 e1 dk1 v1 => sndE c (k.ext e1 dk1) (r.ext e1) h1 fun y y1 S2 g2 h2 e2 dk2 v2 => ?_
    cases x <;> cases y <;> try exact h2.elim
    cases v1.vt.int_inv; cases v2.vt.int_inv
    exact ⟨h2.1, h2.2.1, P _ _ _ _ _ h2.2.2 (e1.trans e2) dk2 vmap_rng fun _ _ => trivial⟩
  | iZ a c =>
    simp only [wqI] at h; simp only [wpI]
    refine sndE a k r h fun x x1 S1 g1 h1 e1 dk1 v1 => sndE c (k.ext e1 dk1) (r.ext e1) h1 fun y y1 S2 g2 h2 e2 dk2 v2 => ?_
    obtain ⟨xs, ys, hx, hy, h2⟩ := h2
    obtain ⟨es, G, s1, w1, hG1⟩ := src_ok (v1.ext e2) hx
    obtain ⟨fs, G', s2, w2, hG2⟩ := src_ok v2 hy
    exact ⟨es, G, fs, G', s1, s2, P _ _ _ _ _ h2 (e1.trans e2) dk2 (zip_ok w1 w2) fun S' e' => ⟨hG1 S' e', hG2 S' e'⟩⟩
  | iN a =>
    simp only [wqI] at h; simp only [wpI]
    refine sndE a k r h fun x x1 S1 g1 h1 e1 dk1 v1 => ?_
    obtain ⟨xs, hx, h1⟩ := h1
    obtain ⟨es, G, s1, w1, hG1⟩ := src_ok v1 hx
    exact ⟨es, G, s1, P _ _ _ _ _ h1 e1 dk1 (enum_ok 0 w1) hG1⟩
  | _ => simp only [wqI] at h
theorem sndJ : ∀ (e : Ex) {O : Own} {env env1 : En} {S : Sto} {g : Nat} {acc : List Nat} {Q : List Nat → Nat → Prop} {Q1 : List Nat → Sto → Prop}, OkO p q O S g → RelV2 p O M S env env1 → wqJ M Φ e env g acc Q → PJ2 p q S Q Q1 → wpJ (tab1 Φ) e env1 S acc Q1
  | .nil, O, env, env1, S, g, acc, Q, Q1, k, r, h, P => by simp only [wqJ] at h; simp only [wpJ]; exact P _ _ _ h ExtB.refl k.dk
  | .cons a t, O, env, env1, S, g, acc, Q, Q1, k, r, h, P => by
    simp only [wqJ] at h; simp only [wpJ]
    refine sndE a k r h fun x x1 S1 g1 h1 e1 dk1 v1 => ?_
    have fin : ∀ z : List Nat, (acc.length + z.length ≤ 16777216 ∧ wqJ M Φ t env g1 (acc ++ z) Q) → (acc.length + z.length ≤ 16777216 ∧ wpJ (tab1 Φ) t env1 S1 (acc ++ z) Q1) := fun z hz =>
      ⟨hz.1, sndJ t (k.ext e1 dk1) (r.ext e1) hz.2 fun o S2 g2 h2 e2 dk2 => P _ _ _ h2 (e1.trans e2) dk2⟩
    cases x <;> try exact h1.elim
    · cases v1.vt.int_inv; exact ⟨h1.1, fin _ h1.2⟩
    · cases v1.vt.str_inv; exact ⟨h1.1, fin _ h1.2⟩
  | .var _, O, env, env1, S, g, acc, Q, Q1, k, r, h, P => by simp only [wqJ] at h
  | .con _, O, env, env1, S, g, acc, Q, Q1, k, r, h, P => by simp only [wqJ] at h
  | .bin _ _ _, O, env, env1, S, g, acc, Q, Q1, k, r, h, P => by simp only [wqJ] at h
  | .neg _, O, env, env1, S, g, acc, Q, Q1, k, r, h, P => by simp only [wqJ] at h
  | .not _, O, env, env1, S, g, acc, Q, Q1, k, r, h, P => by simp only [wqJ] at h
  | .cmp _ _ _, O, env, env1, S, g, acc, Q, Q1, k, r, h, P => by simp only [wqJ] at h
  | .chain _ _ _ _ _, O, env, env1, S, g, acc, Q, Q1, k, r, h, P => by simp only [wqJ] at h
  | .and _ _, O, env, env1, S, g, acc, Q, Q1, k, r, h, P => by simp only [wqJ] at h
  | .or _ _, O, env, env1, S, g, acc, Q, Q1, k, r, h, P => by simp only [wqJ] at h
  | .ite _ _ _, O, env, env1, S, g, acc, Q, Q1, k, r, h, P => by simp only [wqJ] at h
  | .call _ _, O, env, env1, S, g, acc, Q, Q1, k, r, h, P => by simp only [wqJ] at h
  | .bi _ _, O, env, env1, S, g, acc, Q, Q1, k, r, h, P => by simp only [wqJ] at h
  | .mt _ _ _, O, env, env1, S, g, acc, Q, Q1, k, r, h, P => by simp only [wqJ] at h
  | .tup _, O, env, env1, S, g, acc, Q, Q1, k, r, h, P => by simp only [wqJ] at h
  | .lst _, O, env, env1, S, g, acc, Q, Q1, k, r, h, P => by simp only [wqJ] at h
  | .idx _ _, O, env, env1, S, g, acc, Q, Q1, k, r, h, P => by simp only [wqJ] at h
  | .sl _ _ _, O, env, env1, S, g, acc, Q, Q1, k, r, h, P => by simp only [wqJ] at h
  | .lc _ _ _ _ _, O, env, env1, S, g, acc, Q, Q1, k, r, h, P => by simp only [wqJ] at h
  | .fs _, O, env, env1, S, g, acc, Q, Q1, k, r, h, P => by simp only [wqJ] at h
  | .iE _, O, env, env1, S, g, acc, Q, Q1, k, r, h, P => by simp only [wqJ] at h
  | .iR1 _, O, env, env1, S, g, acc, Q, Q1, k, r, h, P => by simp only [wqJ] at h
  | .iR2 _ _, O, env, env1, S, g, acc, Q, Q1, k, r, h, P => by simp only [wqJ] at h
  | .iZ _ _, O, env, env1, S, g, acc, Q, Q1, k, r, h, P => by simp only [wqJ] at h
  | .iN _, O, env, env1, S, g, acc, Q, Q1, k, r, h, P => by simp only [wqJ] at h
end
end
end G57
set_option Elab.async false
set_option linter.all false
set_option maxRecDepth 100000
set_option maxHeartbeats 800000
namespace G57
open PySem L2
structure Ends2 where
  nx : En → Nat → Prop
  rt : QK
  bk : En → Nat → Prop := fun _ _ => False
  ct : En → Nat → Prop := fun _ _ => False
def OwAt (M : List Nat) (env env1 : En) (i : Nat) (a : Addr) : Prop := ownB M i = true ∧ (∃ ds, env[i]? = some (some (.rol ds))) ∧ env1[i]? = some (some (.ref a))
def Ow (M : List Nat) (env env1 : En) : Own := fun a => ∃ i, OwAt M env env1 i a
abbrev OO (O0 : Own) (M : List Nat) (env env1 : En) : Own := fun a => O0 a ∨ Ow M env env1 a
structure RelS (p q : Addr) (O0 : Own) (S0 : Sto) (M : List Nat) (S : Sto) (env env1 : En) (g : Nat) : Prop where
  ok : OkO p q (OO O0 M env env1) S g
  rel : RelV2 p (OO O0 M env env1) M S env env1
  ext : ExtB p S0 S
  new : ∀ a, Ow M env env1 a → S0 a = none
  dom : ∀ a, O0 a → S0 a ≠ none
  inj : ∀ i j a, OwAt M env env1 i a → OwAt M env env1 j a → i = j
structure ER (p q : Addr) (O0 : Own) (S0 : Sto) (M : List Nat) (E : Ends2) (E1 : EndsD) : Prop where
  nx : ∀ env env1 S g, E.nx env g → RelS p q O0 S0 M S env env1 g → E1.nx env1 S
  rt : ∀ d2 d1 S g, E.rt d2 g → ExtB p S0 S → Deck S p q g → VF p O0 S d2 d1 → E1.rt d1 S
  bk : ∀ env env1 S g, E.bk env g → RelS p q O0 S0 M S env env1 g → E1.bk env1 S
  ct : ∀ env env1 S g, E.ct env g → RelS p q O0 S0 M S env env1 g → E1.ct env1 S
def OkS (Φ : Tab2) (M : List Nat) (s : Sx) (E : Ends2) (env : En) (g : Nat) : Prop :=
  ∀ p q O0 S0 S env1 E1, RelS p q O0 S0 M S env env1 g → ER p q O0 S0 M E E1 → wpS (tab1 Φ) s E1 env1 S
section
variable {Φ : Tab2} {M : List Nat} {E : Ends2} {env : En} {g : Nat} {p q : Addr} {O0 : Own} {S0 S S' : Sto} {env1 : En}
theorem RelS.go (r : RelS p q O0 S0 M S env env1 g) {g' : Nat} (e : ExtB p S S') (d : Deck S' p q g') : RelS p q O0 S0 M S' env env1 g' :=
  ⟨r.ok.ext e d, r.rel.ext e, r.ext.trans e, r.new, r.dom, r.inj⟩
theorem RelS.same (r : RelS p q O0 S0 M S env env1 g) {env' env1' : En} (v : RelV2 p (OO O0 M env env1) M S env' env1') (hs : ∀ i, ownB M i = true → env1'[i]? = env1[i]? ∧ env'[i]? = env[i]?) : RelS p q O0 S0 M S env' env1' g := by
  have at' : ∀ i a, OwAt M env' env1' i a ↔ OwAt M env env1 i a := fun i a => by
    constructor
    · rintro ⟨hi, d, z⟩; obtain ⟨h1, h2⟩ := hs i hi; exact ⟨hi, by rw [← h2]; exact d, by rw [← h1]; exact z⟩
    · rintro ⟨hi, d, z⟩; obtain ⟨h1, h2⟩ := hs i hi; exact ⟨hi, by rw [h2]; exact d, by rw [h1]; exact z⟩
  have e : OO O0 M env' env1' = OO O0 M env env1 := by
    funext a
    apply propext
    constructor
    · rintro (z | ⟨i, z⟩)
      · exact .inl z
      · exact .inr ⟨i, (at' i a).mp z⟩
    · rintro (z | ⟨i, z⟩)
      · exact .inl z
      · exact .inr ⟨i, (at' i a).mpr z⟩
  refine ⟨by rw [e]; exact r.ok, by rw [e]; exact v, r.ext, fun a ⟨i, z⟩ => r.new a ⟨i, (at' i a).mp z⟩, r.dom, fun i j a z1 z2 => r.inj i j a ((at' i a).mp z1) ((at' j a).mp z2)⟩
def ptB (M : List Nat) : Pt → Bool
  | .v i => !ownB M i
  | .t p => ptB M p
  | .nil => true
  | .cons a r => ptB M a && ptB M r
mutual
theorem wqP_ok2 {O : Own} : ∀ (t : Pt) {d e : D} {env env1 : En} {Q Q1 : En → Prop}, ptB M t = true → RelV2 p O M S env env1 → VF p O S d e → wqP t d env Q → (∀ env' env1', Q env' → RelV2 p O M S env' env1' → (∀ i, ownB M i = true → env1'[i]? = env1[i]? ∧ env'[i]? = env[i]?) → Q1 env1') → wpP t e S env1 Q1
  | .v i, d, e, env, env1, Q, Q1, hb, r, v, h, k => by
    simp only [wqP] at h
    simp only [wpP]
    refine k _ _ h (r.set i v) fun j hj => ?_
    simp only [ptB, Bool.not_eq_true'] at hb
    have hne : i ≠ j := fun z => by rw [z, hj] at hb; cases hb
    exact ⟨List.getElem?_set_ne hne, List.getElem?_set_ne hne⟩
  | .t t, d, e, env, env1, Q, Q1, hb, r, v, h, k => by
    simp only [wpP]
    simp only [ptB] at hb
    cases d with
    | tup ds =>
      simp only [wqP] at h
      simp only [VF] at v
      obtain ⟨es, rfl, w⟩ := v
      exact ⟨es, rfl, wqPs_ok2 t hb r w h k⟩
    | rol ds =>
      simp only [wqP] at h
      simp only [VF] at v
      obtain ⟨a, es, rfl, _, _, s, w⟩ := v
      exact ⟨es, by rw [seqD_r]; exact s, wqPs_ok2 t hb r w h k⟩
    | _ => simp only [wqP] at h
  | .nil, d, e, env, env1, Q, Q1, hb, r, v, h, k => by simp only [wqP] at h
  | .cons _ _, d, e, env, env1, Q, Q1, hb, r, v, h, k => by simp only [wqP] at h
theorem wqPs_ok2 {O : Own} : ∀ (t : Pt) {ds es : List D} {env env1 : En} {Q Q1 : En → Prop}, ptB M t = true → RelV2 p O M S env env1 → VFs p O S ds es → wqPs t ds env Q → (∀ env' env1', Q env' → RelV2 p O M S env' env1' → (∀ i, ownB M i = true → env1'[i]? = env1[i]? ∧ env'[i]? = env[i]?) → Q1 env1') → wpPs t es S env1 Q1
  | .nil, ds, es, env, env1, Q, Q1, hb, r, v, h, k => by
    cases ds with
    | nil =>
      simp only [VFs] at v
      subst v
      simp only [wqPs] at h
      simp only [wpPs]
      exact k _ _ h r fun _ _ => ⟨rfl, rfl⟩
    | cons _ _ => simp only [wqPs] at h
  | .cons a t, ds, es, env, env1, Q, Q1, hb, r, v, h, k => by
    simp only [ptB, Bool.and_eq_true] at hb
    cases ds with
    | nil => simp only [wqPs] at h
    | cons d ds =>
      simp only [VFs] at v
      obtain ⟨e, es, rfl, v, w⟩ := v
      simp only [wqPs] at h
      simp only [wpPs]
      exact wqP_ok2 a hb.1 r v h fun env' env1' h' r' s1 => wqPs_ok2 t hb.2 r' w h' fun env2 env12 h2 r2 s2 => k _ _ h2 r2 fun i hi => ⟨(s2 i hi).1.trans (s1 i hi).1, (s2 i hi).2.trans (s1 i hi).2⟩
  | .v _, ds, es, env, env1, Q, Q1, hb, r, v, h, k => by cases ds <;> simp only [wqPs] at h
  | .t _, ds, es, env, env1, Q, Q1, hb, r, v, h, k => by cases ds <;> simp only [wqPs] at h
end
theorem ok_cons {a r : Sx} (h : OkS Φ M a { E with nx := fun env' g' => OkS Φ M r E env' g' } env g) : OkS Φ M (.cons a r) E env g := fun p q O0 S0 S env1 E1 rs er => by
  simp only [wpS]
  exact h p q O0 S0 S env1 _ rs ⟨fun env' env1' S' g' h' r' => h' p q O0 S0 S' env1' E1 r' er, er.rt, er.bk, er.ct⟩
theorem ok_nil (h : E.nx env g) : OkS Φ M .nil E env g := fun p q O0 S0 S env1 E1 rs er => by
  simp only [wpS]
  exact er.nx _ _ _ _ h rs
theorem ok_asg {t : Pt} {e : Ex} (hb : ptB M t = true) (h : wqE M Φ e false env g fun d g' => wqP t d env fun env' => E.nx env' g') : OkS Φ M (.asg t e) E env g := fun p q O0 S0 S env1 E1 rs er => by
  simp only [wpS]
  refine sndE e rs.ok rs.rel h fun d2 d1 S' g' h' e' dk' v' => ?_
  have rs' := rs.go e' dk'
  exact wqP_ok2 t hb rs'.rel v' h' fun env' env1' h2 r2 s2 => er.nx _ _ _ _ h2 (rs'.same r2 s2)
theorem RelS.out (r : RelS p q O0 S0 M S env env1 g) : OkO p q O0 S g ∧ RelV2 p O0 [] S env env1 := by
  refine ⟨⟨r.ok.dk, fun a ha => r.ok.dom a (.inl ha), fun z => r.ok.np (.inl z), fun z => r.ok.nq (.inl z)⟩, r.rel.len, fun i d e => ?_⟩
  obtain ⟨x, h1, v⟩ := r.rel.var i d e
  have sub : ∀ a, O0 a → OO O0 M env env1 a := fun a ha => .inl ha
  refine ⟨x, h1, ?_⟩
  show VF p O0 S d x
  unfold VB at v
  cases hi : ownB M i with
  | false =>
    rw [hi] at v
    exact VF.less v sub
  | true =>
    rw [hi] at v
    have v' : VT p (OO O0 M env env1) S d x := v
    cases d <;> try exact VF.less v' sub
    obtain ⟨a, es, rfl, np, s, w⟩ := v'.rol_inv
    simp only [VF]
    refine ⟨a, es, rfl, fun z => r.dom a z (r.new a ⟨i, hi, ⟨_, e⟩, h1⟩), np, s, w.less sub⟩
theorem ok_ret {e : Ex} (h : wqE [] Φ e false env g E.rt) : OkS Φ M (.ret e) E env g := fun p q O0 S0 S env1 E1 rs er => by
  simp only [wpS]
  exact sndE e rs.out.1 rs.out.2 h fun d2 d1 S' g' h' e' dk' v' => er.rt _ _ _ _ h' (rs.ext.trans e') dk' v'
theorem ok_iff {c : Ex} {a b : Sx} (h : wqT M Φ c env g fun t g' => if t = true then OkS Φ M a E env g' else OkS Φ M b E env g') : OkS Φ M (.iff c a b) E env g := fun p q O0 S0 S env1 E1 rs er => by
  simp only [wpS]
  refine sndT c rs.ok rs.rel h fun t S' g' h' e' dk' => ?_
  cases t with
  | true => simp only [if_true] at h' ⊢; exact h' _ _ _ _ _ _ _ (rs.go e' dk') er
  | false => simp only [Bool.false_eq_true, if_false] at h' ⊢; exact h' _ _ _ _ _ _ _ (rs.go e' dk') er
theorem ok_less {g' : Nat} {s : Sx} (hg : g' ≤ g) (h : OkS Φ M s E env g') : OkS Φ M s E env g := fun p q O0 S0 S env1 E1 rs er =>
  h p q O0 S0 S env1 E1 (rs.go ExtB.refl (rs.ok.dk.less hg)) er
end
end G57
set_option Elab.async false
set_option linter.all false
set_option maxRecDepth 100000
set_option maxHeartbeats 800000
namespace G57
open PySem L2
def frB : Ex → Bool
  | .lst _ => true
  | .lc _ _ _ _ _ => true
  | .bin .Add _ _ => true
  | .bin .Mult _ _ => true
  | .bi .list _ => true
  | .sl _ _ _ => true
  | _ => false
inductive All2 (W : D → D → Prop) : List D → List D → Prop where
  | nil : All2 W [] []
  | cons {x y : D} {xs ys : List D} : W x y → All2 W xs ys → All2 W (x :: xs) (y :: ys)
def QL (QF : List D → Nat → Prop) : QK := fun d g' => ∃ ds, d = .rol ds ∧ QF ds g'
section
variable {Φ : Tab2} {M : List Nat} {E : Ends2} {env : En} {g : Nat} {p q : Addr} {O0 : Own} {S0 S S' : Sto} {env1 : En}
theorem ql_rol {QF : List D → Nat → Prop} {ds : List D} {g : Nat} (h : QL QF (.rol ds) g) : QF ds g := by obtain ⟨_, e, h⟩ := h; cases e; exact h
theorem sndF {O : Own} (e : Ex) (hf : frB e = true) {QF : List D → Nat → Prop} {Q1 : DK} (k : OkO p q O S g) (r : RelV2 p O M S env env1) (h : wqE M Φ e false env g (QL QF))
    (P : ∀ ds es S' g' a, QF ds g' → ExtB p S S' → Deck S' p q g' → VFs p O S' ds es → S' a = none → Q1 (.ref a) (put S' a (.lst es))) : wpE (tab1 Φ) e env1 S Q1 := by
  cases e <;> try (simp [frB] at hf; done)
  case bin op a c =>
    simp only [wqE] at h
    simp only [wpE]
    refine sndE a k r h fun x x1 S1 g1 h1 e1 dk1 v1 => sndE c (k.ext e1 dk1) (r.ext e1) h1 fun y y1 S2 g2 h2 e2 dk2 v2 => ?_
    have e12 := e1.trans e2
    cases op <;> try (simp [frB] at hf; done)
    · cases x <;> cases y <;> try exact h2.elim
      · obtain ⟨_, z, _⟩ := h2; cases z
      · obtain ⟨_, _, z, _⟩ := h2; cases z
      · obtain ⟨_, _, z, _⟩ := h2; cases z
      · obtain ⟨a, es, rfl, _, s, v⟩ := (v1.ext e2).vt.rol_inv
        obtain ⟨b, fs, rfl, _, t, w⟩ := v2.vt.rol_inv
        exact ⟨es, fs, s, t, by rw [← v.length, ← w.length]; exact h2.1, fun r f => P _ _ _ _ _ (ql_rol h2.2) e12 dk2 (v.append w) f⟩
    · cases x <;> cases y <;> try exact h2.elim
      · obtain ⟨_, _, z, _⟩ := h2; cases z
      · obtain ⟨_, _, _, _, z, _⟩ := h2; cases z
      · obtain ⟨_, _, _, _, z, _⟩ := h2; cases z
      · obtain ⟨a, es, rfl, _, s, v⟩ := (v1.ext e2).vt.rol_inv
        cases v2.vt.int_inv
        exact ⟨es, s, h2.1, h2.2.1, by rw [← v.length]; exact h2.2.2.1, fun r f => P _ _ _ _ _ (ql_rol h2.2.2.2) e12 dk2 (v.rep _) f⟩
  case bi f as =>
    cases f <;> try (simp [frB] at hf; done)
    simp only [wqE] at h
    simp only [wpE]
    refine sndA as k r h fun ds es S1 g1 h1 e1 dk1 v1 => ?_
    simp only [if_true] at v1
    unfold biV at h1
    split at h1 <;> first | exact h1.elim | simp_all
    all_goals
      obtain ⟨e, rfl, v⟩ := one_inv v1
      obtain ⟨zs, z, w⟩ := seq_ok v rfl
      exact ⟨_, z, fun r f => P _ _ _ _ _ (ql_rol h1) e1 dk1 w f⟩
  case lst as =>
    simp only [wqE] at h
    simp only [wpE]
    refine sndA as k r h fun ds es S1 g1 h1 e1 dk1 v1 => ?_
    simp only [Bool.false_eq_true, if_false] at v1
    exact ⟨by rw [← v1.length]; exact h1.1, fun a f => P _ _ _ _ _ (ql_rol h1.2) e1 dk1 v1 f⟩
  case sl a lo hi =>
    simp only [wqE] at h
    simp only [wpE]
    refine sndE a k r h fun x x1 S1 g1 h1 e1 dk1 v1 => sndO lo (k.ext e1 dk1) (r.ext e1) h1 fun l S2 g2 h2 e2 dk2 => ?_
    refine sndO hi (k.ext (e1.trans e2) dk2) (r.ext (e1.trans e2)) h2 fun l' S3 g3 h3 e3 dk3 => ?_
    have v3 := v1.vt.ext (e2.trans e3)
    cases x <;> try exact h3.elim
    · obtain ⟨_, _, z, _⟩ := h3; cases z
    · obtain ⟨_, z, _⟩ := h3; cases z
    · obtain ⟨a, es, rfl, _, s, v⟩ := v3.rol_inv
      exact ⟨es, s, fun r f => P _ _ _ _ _ (ql_rol h3) (e1.trans (e2.trans e3)) dk3 (v.cut l l') f⟩
  case lc vs t it c e =>
    simp only [wqE] at h
    simp only [wpE]
    refine sndI it k r h fun xs xs1 G S1 g1 h1 e1 dk1 v1 hG a fa => ?_
    have k1 := k.ext e1 dk1
    obtain ⟨n1, n2, n3⟩ := k1.fresh fa
    have hG' : ∀ S', ExtB p S1 S' → G S' := fun S' e' => hG S' fun c o _ nc s => e' c o nc s
    have eA : ExtB p S1 (put S1 a (.lst [])) := (Ext.put fa).but
    have kA : OkO p q (fun c => O c ∨ c = a) (put S1 a (.lst [])) g1 := by
      refine ⟨dk1.put n1 n2, fun c hc z => ?_, fun z => z.elim k.np n1, fun z => z.elim k.nq n2⟩
      by_cases hca : c = a
      · rw [hca, put_same] at z; cases z
      · rw [put_ne hca] at z
        exact k1.dom c (hc.resolve_right hca) z
    refine ⟨hG' _ eA, ?_⟩
    refine lc_ok (q := q) (O := O) fa hG' (fun x x1 S2 g2 k2 k1' kk e2 v2 h2 hk => ?_) xs xs1 [] [] _ g1 kA eA put_same .nil ((v1.own fa).ext eA) h1 fun acc acc1 S2 g2 h2 kk e2 s2 v2 => ?_
    · have r2 : RelV2 p (fun c => O c ∨ c = a) M S2 (wipeD env vs) (wipeD env1 vs) := (((r.ext e1).own fa).ext e2).wipe vs
      refine wqP_ok t r2 v2 h2 fun env' env1' h3 r3 => ?_
      refine sndC c kk r3 h3 fun tt S3 g3 h4 e4 dk4 => ?_
      cases tt with
      | false =>
        simp only [Bool.false_eq_true, if_false] at h4 ⊢
        exact hk none none S3 g3 h4 e4 dk4 trivial
      | true =>
        simp only [if_true] at h4 ⊢
        refine sndE e (kk.ext e4 dk4) (r3.ext e4) h4 fun y y1 S4 g4 h5 e5 dk5 v5 => ?_
        exact hk (some y) (some y1) S4 g4 h5 (e4.trans e5) dk5 v5
    · let S3 : Sto := fun c => if c = a then none else S2 c
      have s3 : S3 a = none := if_pos rfl
      have e3 : put S3 a (.lst acc1) = S2 := by
        funext c
        by_cases hc : c = a
        · rw [hc, put_same, s2]
        · rw [put_ne hc]; exact if_neg hc
      rw [← e3]
      refine P _ _ S3 g2 _ (ql_rol h2) (e1.trans fun c o nc s => ?_) ?_ (v2.to fun c es nc np s => ⟨fun z => nc (.inl z), ?_⟩) s3
      · show (if c = a then none else S2 c) = _
        rw [if_neg (fun z => by rw [z, fa] at s; cases s)]
        exact e2 c o nc s
      · obtain ⟨ns, i1, i2, i3, d1, d2, rest⟩ := kk.dk
        refine ⟨ns, i1, i2, i3, ?_, ?_, rest⟩
        · show (if p = a then none else S2 p) = _
          rw [if_neg n1]; exact d1
        · show (if q = a then none else S2 q) = _
          rw [if_neg n2]; exact d2
      · show (if c = a then none else S2 c) = _
        rw [if_neg (fun z => nc (.inr z))]; exact s
theorem RelS.newL (r : RelS p q O0 S0 M S env env1 g) {i : Nat} {a : Addr} {ds es : List D} (hi : ownB M i = true) (f : S a = none) (v : VFs p (OO O0 M env env1) S ds es) :
    RelS p q O0 S0 M (put S a (.lst es)) (env.set i (some (.rol ds))) (env1.set i (some (.ref a))) g := by
  obtain ⟨n1, n2, n3⟩ := r.ok.fresh f
  have at' : ∀ j c, OwAt M (env.set i (some (.rol ds))) (env1.set i (some (.ref a))) j c → (j = i ∧ c = a) ∨ (j ≠ i ∧ OwAt M env env1 j c) := by
    rintro j c ⟨hj, hd, z⟩
    by_cases hji : i = j
    · subst hji
      by_cases hl : i < env1.length
      · rw [List.getElem?_set_self hl] at z; cases z; exact .inl ⟨rfl, rfl⟩
      · rw [List.getElem?_eq_none (by simpa using hl)] at z; cases z
    · rw [List.getElem?_set_ne hji] at z hd; exact .inr ⟨fun w => hji w.symm, hj, hd, z⟩
  have sub : ∀ c, OO O0 M (env.set i (some (.rol ds))) (env1.set i (some (.ref a))) c → OO O0 M env env1 c ∨ c = a := by
    rintro c (z | ⟨j, z⟩)
    · exact .inl (.inl z)
    · rcases at' j c z with ⟨_, h⟩ | ⟨_, h⟩
      · exact .inr h
      · exact .inl (.inr ⟨j, h⟩)
  have vto : ∀ c es', ¬ OO O0 M env env1 c → c ≠ p → S c = some (.lst es') → ¬ OO O0 M (env.set i (some (.rol ds))) (env1.set i (some (.ref a))) c ∧ put S a (.lst es) c = some (.lst es') := fun c es' nc np s => by
    have hca : c ≠ a := fun z => by rw [z, f] at s; cases s
    exact ⟨fun z => (sub c z).elim nc hca, by rw [put_ne hca]; exact s⟩
  have S0a : S0 a = none := by
    cases z : S0 a with
    | none => rfl
    | some o => rw [r.ext a o (fun w => n1 w.symm) z] at f; cases f
  refine ⟨⟨r.ok.dk.put n1 n2, fun c hc z => ?_, fun z => (sub p z).elim r.ok.np n1, fun z => (sub q z).elim r.ok.nq n2⟩, ⟨by simp [r.rel.len], fun j d e => ?_⟩, r.ext.trans (Ext.put f).but, fun c ⟨j, z⟩ => ?_, r.dom, fun j l c z1 z2 => ?_⟩
  · by_cases hca : c = a
    · rw [hca, put_same] at z; cases z
    · rw [put_ne hca] at z
      exact r.ok.dom c ((sub c hc).resolve_right hca) z
  · by_cases hji : i = j
    · subst hji
      by_cases hl : i < env.length
      · rw [List.getElem?_set_self hl] at e
        cases e
        refine ⟨.ref a, List.getElem?_set_self (by rw [← r.rel.len]; exact hl), ?_⟩
        rw [hi]
        exact ⟨a, es, rfl, fun z => n1 z.symm, put_same, v.to vto⟩
      · rw [List.getElem?_eq_none (by simpa using hl)] at e; cases e
    · rw [List.getElem?_set_ne hji] at e
      obtain ⟨x, h1, w⟩ := r.rel.var j d e
      refine ⟨x, by rw [List.getElem?_set_ne hji]; exact h1, ?_⟩
      cases hj : ownB M j with
      | false =>
        rw [hj] at w
        exact VF.to vto w
      | true =>
        rw [hj] at w
        have w' : VT p (OO O0 M env env1) S d x := w
        show VT p _ _ d x
        cases d <;> try exact VF.to vto w'
        obtain ⟨b, fs, rfl, np, s, u⟩ := w'.rol_inv
        exact ⟨b, fs, rfl, np, by rw [put_ne (fun z => by rw [z, f] at s; cases s)]; exact s, u.to vto⟩
  · rcases at' j c z with ⟨_, h⟩ | ⟨_, h⟩
    · rw [h]; exact S0a
    · exact r.new c ⟨j, h⟩
  · have key : ∀ l', OwAt M env env1 l' a → False := fun l' z => r.ok.dom a (.inr ⟨l', z⟩) f
    rcases at' j c z1 with ⟨e1, h1⟩ | ⟨e1, h1⟩
    · rcases at' l c z2 with ⟨e2, h2⟩ | ⟨e2, h2⟩
      · rw [e1, e2]
      · rw [h1] at h2; exact (key l h2).elim
    · rcases at' l c z2 with ⟨e2, h2⟩ | ⟨e2, h2⟩
      · rw [h2] at h1; exact (key j h1).elim
      · exact r.inj j l c h1 h2
theorem RelS.write (r : RelS p q O0 S0 M S env env1 g) {i : Nat} {a : Addr} {ds0 ds es : List D} (hi : ownB M i = true) (h0 : env[i]? = some (some (.rol ds0))) (h1 : env1[i]? = some (some (.ref a))) (hap : a ≠ p) (v : VFs p (OO O0 M env env1) S ds es) :
    RelS p q O0 S0 M (put S a (.lst es)) (env.set i (some (.rol ds))) env1 g := by
  have hat : OwAt M env env1 i a := ⟨hi, ⟨_, h0⟩, h1⟩
  have oa : OO O0 M env env1 a := .inr ⟨i, hat⟩
  have nq : q ≠ a := fun z => r.ok.nq (by rw [z]; exact oa)
  have at' : ∀ j c, OwAt M (env.set i (some (.rol ds))) env1 j c ↔ OwAt M env env1 j c := fun j c => by
    have : (∃ ds', (env.set i (some (.rol ds)))[j]? = some (some (.rol ds'))) ↔ ∃ ds', env[j]? = some (some (.rol ds')) := by
      by_cases hji : i = j
      · subst hji
        have hl : i < env.length := by
          rcases Nat.lt_or_ge i env.length with h | h
          · exact h
          · rw [List.getElem?_eq_none h] at h0; cases h0
        rw [List.getElem?_set_self hl, h0]
        exact ⟨fun _ => ⟨_, rfl⟩, fun _ => ⟨_, rfl⟩⟩
      · rw [List.getElem?_set_ne hji]
    unfold OwAt
    rw [this]
  have eO : OO O0 M (env.set i (some (.rol ds))) env1 = OO O0 M env env1 := by
    funext c; apply propext
    constructor
    · rintro (z | ⟨j, z⟩)
      · exact .inl z
      · exact .inr ⟨j, (at' j c).mp z⟩
    · rintro (z | ⟨j, z⟩)
      · exact .inl z
      · exact .inr ⟨j, (at' j c).mpr z⟩
  refine ⟨by rw [eO]; exact ⟨r.ok.dk.put (fun z => hap z.symm) nq, (fun c hc z => by
    by_cases hca : c = a
    · rw [hca, put_same] at z; cases z
    · rw [put_ne hca] at z; exact r.ok.dom c hc z), r.ok.np, r.ok.nq⟩, ⟨by simp [r.rel.len], fun j d e => ?_⟩, fun c o nc s => ?_, fun c ⟨j, z⟩ => r.new c ⟨j, (at' j c).mp z⟩, r.dom, fun j l c z1 z2 => r.inj j l c ((at' j c).mp z1) ((at' l c).mp z2)⟩
  · rw [eO]
    by_cases hji : i = j
    · subst hji
      by_cases hl : i < env.length
      · rw [List.getElem?_set_self hl] at e
        cases e
        refine ⟨.ref a, h1, ?_⟩
        rw [hi]
        exact ⟨a, es, rfl, hap, put_same, v.write oa⟩
      · rw [List.getElem?_eq_none (by simpa using hl)] at e; cases e
    · rw [List.getElem?_set_ne hji] at e
      obtain ⟨x, h2, w⟩ := r.rel.var j d e
      refine ⟨x, h2, ?_⟩
      cases hj : ownB M j with
      | false =>
        rw [hj] at w
        exact VF.write w oa
      | true =>
        rw [hj] at w
        have w' : VT p (OO O0 M env env1) S d x := w
        show VT p _ _ d x
        cases d <;> try exact VF.write w' oa
        obtain ⟨b, fs, rfl, np, s, u⟩ := w'.rol_inv
        exact ⟨b, fs, rfl, np, by rw [put_ne (fun z => hji (r.inj i j a hat ⟨hj, ⟨_, e⟩, by rw [← z]; exact h2⟩))]; exact s, u.write oa⟩
  · rw [put_ne (fun z => by rw [z] at s; rw [r.new a ⟨i, hat⟩] at s; cases s)]
    exact r.ext c o nc s
theorem RelS.slot (r : RelS p q O0 S0 M S env env1 g) {i : Nat} {ds : List D} (hi : ownB M i = true) (e : env[i]? = some (some (.rol ds))) : ∃ a es, env1[i]? = some (some (.ref a)) ∧ a ≠ p ∧ S a = some (.lst es) ∧ VFs p (OO O0 M env env1) S ds es := by
  obtain ⟨x, h1, v⟩ := r.rel.var i _ e
  rw [hi] at v
  obtain ⟨a, es, rfl, np, s, w⟩ := VT.rol_inv (show VT p (OO O0 M env env1) S (.rol ds) x from v)
  exact ⟨a, es, h1, np, s, w⟩
theorem ok_asgO {i : Nat} {e : Ex} (hf : frB e = true) (hi : ownB M i = true) (h : wqE M Φ e false env g (QL fun ds g' => E.nx (env.set i (some (.rol ds))) g')) : OkS Φ M (.asg (.v i) e) E env g := fun p q O0 S0 S env1 E1 rs er => by
  simp only [wpS]
  refine sndF e hf rs.ok rs.rel h fun ds es S' g' a h' e' dk' v' f' => ?_
  simp only [wpP]
  exact er.nx _ _ _ _ h' ((rs.go e' dk').newL hi f' v')
theorem ok_app {i : Nat} {e : Ex} (hi : ownB M i = true) (ds : List D) (e0 : env[i]? = some (some (.rol ds))) (h : wqE M Φ e false env g fun d g' => ds.length < 16777216 ∧ E.nx (env.set i (some (.rol (ds ++ [d])))) g') :
    OkS Φ M (.ex (.mt .append (.var i) (.cons e .nil))) E env g := fun p q O0 S0 S env1 E1 rs er => by
  obtain ⟨a, es, h1, np, s, v⟩ := rs.slot hi e0
  simp only [wpS, wpE, wpA]
  refine ⟨_, h1, ⟨es, s⟩, sndE e rs.ok rs.rel h fun d2 d1 S' g' h' e' dk' v' => ?_⟩
  have s' := e' a _ np s
  exact ⟨es, s', by rw [← v.length]; exact h'.1, er.nx _ _ _ _ h'.2 ((rs.go e' dk').write hi e0 h1 np ((v.ext e').append (.cons v' .nil)))⟩
theorem ok_ext {i : Nat} {e : Ex} (hi : ownB M i = true) (ds : List D) (e0 : env[i]? = some (some (.rol ds))) (h : wqE M Φ e true env g (QL fun ys g' => ds.length + ys.length ≤ 16777216 ∧ E.nx (env.set i (some (.rol (ds ++ ys)))) g')) :
    OkS Φ M (.ex (.mt .extend (.var i) (.cons e .nil))) E env g := fun p q O0 S0 S env1 E1 rs er => by
  obtain ⟨a, es, h1, np, s, v⟩ := rs.slot hi e0
  simp only [wpS, wpE, wpA]
  refine ⟨_, h1, ⟨es, s⟩, sndE e rs.ok rs.rel h fun d2 d1 S' g' h' e' dk' v' => ?_⟩
  obtain ⟨ys, rfl, hl, h'⟩ := h'
  have s' := e' a _ np s
  obtain ⟨b, fs, rfl, _, t, w⟩ := v'.vt.rol_inv
  exact ⟨es, fs, s', t, by rw [← v.length, ← w.length]; exact hl, er.nx _ _ _ _ h' ((rs.go e' dk').write hi e0 h1 np ((v.ext e').append w))⟩
theorem ok_set {i : Nat} {ix e : Ex} (hi : ownB M i = true) (ds : List D) (e0 : env[i]? = some (some (.rol ds)))
    (h : wqE M Φ e false env g fun d g1 => wqE M Φ ix true env g1 fun y g2 => ∃ k n, y = .int k ∧ ixN ds.length k = some n ∧ E.nx (env.set i (some (.rol (ds.set n d)))) g2) :
    OkS Φ M (.set (.var i) ix e) E env g := fun p q O0 S0 S env1 E1 rs er => by
  obtain ⟨a, es, h1, np, s, v⟩ := rs.slot hi e0
  simp only [wpS, wpE]
  refine sndE e rs.ok rs.rel h fun d2 d1 S1 g1 h' e' dk' v' => ⟨_, h1, sndE ix (rs.go e' dk').ok (rs.go e' dk').rel h' fun y y1 S2 g2 h2 e2 dk2 v2 => ?_⟩
  obtain ⟨kk, n, rfl, hn, h2⟩ := h2
  cases v2.vt.int_inv
  exact ⟨es, n, e2 a _ np (e' a _ np s), by rw [← v.length]; exact hn, er.nx _ _ _ _ h2 (((rs.go e' dk').go e2 dk2).write hi e0 h1 np (((v.ext e').ext e2).set n (VF.ext v' e2)))⟩
theorem RelS.base (r : RelS p q O0 S0 M S env env1 g) : ∃ S0', RelS p q O0 S0' M S env env1 g ∧ (∀ a o, ¬ OO O0 M env env1 a → a ≠ p → S a = some o → S0' a = some o) ∧
    (∀ S' env' env1' g', RelS p q O0 S0' M S' env' env1' g' → RelS p q O0 S0 M S' env' env1' g') ∧ ∀ S', ExtB p S0' S' → ExtB p S0 S' := by
  classical
  have hx : ∀ a o, a ≠ p → S0 a = some o → (if Ow M env env1 a then none else S a) = some o := fun a o np s => by
    rw [if_neg (fun z => by rw [r.new a z] at s; cases s)]
    exact r.ext a o np s
  refine ⟨fun a => if Ow M env env1 a then none else S a, ⟨r.ok, r.rel, fun a o np s => ?_, fun a ha => if_pos ha, fun a ha z => ?_, r.inj⟩, fun a o na np s => ?_, fun S' env' env1' g' r' => ⟨r'.ok, r'.rel, fun a o np s => r'.ext a o np (hx a o np s), fun a ha => ?_, r.dom, r'.inj⟩, fun S' e a o np s => e a o np (hx a o np s)⟩
  · have s' : (if Ow M env env1 a then none else S a) = some o := s
    split at s'
    · cases s'
    · exact s'
  · have z' : (if Ow M env env1 a then none else S a) = none := z
    rw [if_neg (fun w => r.dom a ha (r.new a w))] at z'
    exact r.ok.dom a (.inl ha) z'
  · show (if Ow M env env1 a then none else S a) = some o
    rw [if_neg (fun w => na (.inr w))]; exact s
  · have z := r'.new a ha
    cases s : S0 a with
    | none => rfl
    | some o =>
      have : a ≠ p := fun w => r'.ok.np (.inr (by rw [← w]; exact ha))
      rw [hx a o this s] at z; cases z
theorem ER.base {E1 : EndsD} {S0' : Sto} (er : ER p q O0 S0 M E E1) (h : ∀ S' env' env1' g', RelS p q O0 S0' M S' env' env1' g' → RelS p q O0 S0 M S' env' env1' g') (h2 : ∀ S', ExtB p S0' S' → ExtB p S0 S') : ER p q O0 S0' M E E1 :=
  ⟨fun env env1 S g a r => er.nx _ _ _ _ a (h _ _ _ _ r), fun d2 d1 S g a e => er.rt _ _ _ _ a (h2 _ e), fun env env1 S g a r => er.bk _ _ _ _ a (h _ _ _ _ r), fun env env1 S g a r => er.ct _ _ _ _ a (h _ _ _ _ r)⟩
def forV (body : D → En → Nat → (En → Nat → Prop) → Prop) (Q : En → Nat → Prop) : List D → En → Nat → Prop
  | [], env, g => Q env g
  | x :: xs, env, g => body x env g fun env' g' => forV body Q xs env' g'
theorem forV_ok {t : Pt} {b : Sx} {E1 : EndsD} {G : Sto → Prop} {W : D → D → Prop} (hb : ptB M t = true) (er : ER p q O0 S0 M E E1) (hG : ∀ S', ExtB p S0 S' → G S')
    (tr : ∀ S env env1 g d e, RelS p q O0 S0 M S env env1 g → W d e → VF p (OO O0 M env env1) S d e) :
    ∀ (xs xs1 : List D), (All2 W xs xs1) → ∀ (env env1 : En) (S : Sto) (g : Nat), RelS p q O0 S0 M S env env1 g →
      forV (fun x env g N => wqP t x env fun env2 => OkS Φ M b { nx := N, ct := N, bk := E.nx, rt := E.rt } env2 g) E.nx xs env g →
      forRun G (fun x env1 S2 N => wpP t x S2 env1 fun env2 => wpS (tab1 Φ) b { nx := N, ct := N, bk := E1.nx, rt := E1.rt } env2 S2) E1.nx xs1 env1 S
  | _, _, .nil, env, env1, S, g, r, h => er.nx _ _ _ _ h r
  | _, _, .cons (x := x) (y := x1) (xs := xs) (ys := xs1) hw ht, env, env1, S, g, r, h => by
    simp only [forV] at h
    simp only [forRun]
    refine wqP_ok2 t hb r.rel (tr S env env1 g _ _ r hw) h fun env' env1' h' r' s' => ?_
    refine h' p q O0 S0 S env1' _ (r.same r' s') ⟨fun env2 env12 S2 g2 h2 r2 => ?_, er.rt, er.nx, fun env2 env12 S2 g2 h2 r2 => ?_⟩
    · exact ⟨hG _ r2.ext, forV_ok hb er hG tr xs xs1 ht env2 env12 S2 g2 r2 h2⟩
    · exact ⟨hG _ r2.ext, forV_ok hb er hG tr xs xs1 ht env2 env12 S2 g2 r2 h2⟩
theorem VFs.all2 {O : Own} : ∀ {xs es : List D}, VFs p O S xs es → All2 (VF p O S) xs es
  | [], _, h => by simp only [VFs] at h; subst h; exact .nil
  | x :: xs, es, h => by
    simp only [VFs] at h
    obtain ⟨e, r, rfl, v, w⟩ := h
    exact .cons v w.all2
theorem ok_loop {t : Pt} {it : Ex} {b : Sx} (hb : ptB M t = true)
    (h : wqI M Φ it false env g fun xs g' => forV (fun x env g N => wqP t x env fun env2 => OkS Φ M b { nx := N, ct := N, bk := E.nx, rt := E.rt } env2 g) E.nx xs env g') : OkS Φ M (.loop t it b) E env g := fun p q O0 S0 S env1 E1 rs er => by
  simp only [wpS]
  refine sndI it rs.ok rs.rel h fun xs xs1 G S1 g1 h1 e1 dk1 v1 hG => ?_
  have r1 := rs.go e1 dk1
  obtain ⟨S0', rb, keep, back, back2⟩ := r1.base
  refine forV_ok (S0 := S0') (W := VF p (OO O0 M env env1) S1) hb (er.base back back2) (fun S' e' => hG S' fun a o ha np s => ?_) (fun S' env' env1' g' d e r' w => w.to fun a es na np s => ⟨fun z => ?_, ?_⟩) xs xs1 v1.all2 env env1 S1 g1 rb h1
  · exact e' a o np (keep a o (ha.resolve_left (by decide)) np s)
  · rcases z with z | z
    · exact na (.inl z)
    · have := r'.new a z
      rw [keep a _ na np s] at this; cases this
  · exact r'.ext a _ np (keep a _ na np s)
def whV (Φ : Tab2) (M : List Nat) (c : Ex) (b : Sx) (E : Ends2) : Nat → En → Nat → Prop
  | 0, _, _ => False
  | n + 1, env, g => wqT M Φ c env g fun t g' => if t = true then OkS Φ M b { nx := whV Φ M c b E n, ct := whV Φ M c b E n, bk := E.nx, rt := E.rt } env g' else E.nx env g'
theorem whV_ok {c : Ex} {b : Sx} {E1 : EndsD} (er : ER p q O0 S0 M E E1) : ∀ (n : Nat) (env env1 : En) (S : Sto) (g : Nat), RelS p q O0 S0 M S env env1 g → whV Φ M c b E n env g →
    whRun (wpT (tab1 Φ) c) (fun env1 S1 N => wpS (tab1 Φ) b { nx := N, ct := N, bk := E1.nx, rt := E1.rt } env1 S1) E1.nx n env1 S
  | 0, env, env1, S, g, r, h => h.elim
  | n + 1, env, env1, S, g, r, h => by
    simp only [whV] at h
    simp only [whRun]
    refine sndT c r.ok r.rel h fun t S' g' h' e' dk' => ?_
    cases t with
    | false => simp only [Bool.false_eq_true, if_false] at h' ⊢; exact er.nx _ _ _ _ h' (r.go e' dk')
    | true =>
      simp only [if_true] at h' ⊢
      exact h' p q O0 S0 S' env1 _ (r.go e' dk') ⟨fun env2 env12 S2 g2 h2 r2 => whV_ok er n env2 env12 S2 g2 r2 h2, er.rt, er.nx, fun env2 env12 S2 g2 h2 r2 => whV_ok er n env2 env12 S2 g2 r2 h2⟩
theorem ok_wh {c : Ex} {b : Sx} (n : Nat) (h : whV Φ M c b E n env g) : OkS Φ M (.wh c b) E env g := fun p q O0 S0 S env1 E1 rs er => by
  simp only [wpS]
  exact ⟨n, whV_ok er n env env1 S g rs h⟩
def wqN (M : List Nat) (Φ : Tab2) (i : Nat) (e : Ex) (env : En) (g : Nat) (Q : QK) : Prop := if ownB M i = true then frB e = true ∧ wqE M Φ e false env g (QL fun ds g' => Q (.rol ds) g') else wqE M Φ e false env g Q
theorem ok_asg2 {i j : Nat} {a b : Ex} (hij : i ≠ j) (h : wqN M Φ i a env g fun x g1 => wqN M Φ j b env g1 fun y g2 => E.nx ((env.set i (some x)).set j (some y)) g2) :
    OkS Φ M (.asg (.t (.cons (.v i) (.cons (.v j) .nil))) (.tup (.cons a (.cons b .nil)))) E env g := fun p q O0 S0 S env1 E1 rs er => by
  simp only [wpS, wpE, wpA]
  have two : (2 : Nat) ≤ 16777216 := by decide
  have second : ∀ (O : Own) (S1 : Sto) (g1 : Nat) (Q : QK) (Q1 : DK), OkO p q O S1 g1 → RelV2 p O M S1 env env1 → wqN M Φ j b env g1 Q →
      (∀ y y1 S2 g2, Q y g2 → ExtB p S1 S2 → Deck S2 p q g2 → VF p O S2 y y1 → (ownB M j = false) → Q1 y1 S2) →
      (∀ ds es S2 g2 c, Q (.rol ds) g2 → ExtB p S1 S2 → Deck S2 p q g2 → VFs p O S2 ds es → S2 c = none → ownB M j = true → Q1 (.ref c) (put S2 c (.lst es))) → wpE (tab1 Φ) b env1 S1 Q1 := by
    intro O S1 g1 Q Q1 k r h k1 k2
    unfold wqN at h
    split at h
    · rename_i hj
      exact sndF b h.1 k r h.2 fun ds es S2 g2 c q e dk v f => k2 ds es S2 g2 c q e dk v f hj
    · rename_i hj
      exact sndE b k r h fun y y1 S2 g2 q e dk v => k1 y y1 S2 g2 q e dk v (by simpa using hj)
  have fin : ∀ x1 y1 S2, E1.nx ((env1.set i (some x1)).set j (some y1)) S2 → ([x1, y1] : List D).length ≤ 16777216 ∧ wpP (.t (.cons (.v i) (.cons (.v j) .nil))) (.tup [x1, y1]) S2 env1 fun env' => E1.nx env' S2 := fun x1 y1 S2 h => by
    refine ⟨two, ?_⟩
    simp only [wpP]
    exact ⟨_, rfl, by simp only [wpPs, wpP]; exact h⟩
  have setO : ∀ {k : Nat} {o o' : Option D}, ownB M k = false → ∀ (e e' : En) l, ownB M l = true → (e.set k o)[l]? = e[l]? ∧ (e'.set k o')[l]? = e'[l]? := fun {k o o'} hk e e' l hl => ⟨List.getElem?_set_ne (fun z => by rw [z, hl] at hk; cases hk), List.getElem?_set_ne (fun z => by rw [z, hl] at hk; cases hk)⟩
  unfold wqN at h
  split at h
  ·
    rename_i hi
    refine sndF a h.1 rs.ok rs.rel h.2 fun ds es S1 g1 c h1 e1 dk1 v1 f1 => ?_
    have r1 := rs.go e1 dk1
    obtain ⟨n1, n2, n3⟩ := r1.ok.fresh f1
    have eA : ExtB p S1 (put S1 c (.lst es)) := (Ext.put f1).but
    have kA : OkO p q (fun d => OO O0 M env env1 d ∨ d = c) (put S1 c (.lst es)) g1 := by
      refine ⟨dk1.put n1 n2, fun d hd z => ?_, fun z => z.elim r1.ok.np n1, fun z => z.elim r1.ok.nq n2⟩
      by_cases hdc : d = c
      · rw [hdc, put_same] at z; cases z
      · rw [put_ne hdc] at z
        exact r1.ok.dom d (hd.resolve_right hdc) z
    have sub2 : ∀ b, OO O0 M (env.set i (some (.rol ds))) (env1.set i (some (.ref c))) b → OO O0 M env env1 b ∨ b = c := by
      rintro b (z | ⟨l, hl, hd, z⟩)
      · exact .inl (.inl z)
      · by_cases hil : i = l
        · subst hil
          by_cases hlen : i < env1.length
          · rw [List.getElem?_set_self hlen] at z; cases z; exact .inr rfl
          · rw [List.getElem?_eq_none (by simpa using hlen)] at z; cases z
        · rw [List.getElem?_set_ne hil] at z hd; exact .inl (.inr ⟨l, hl, hd, z⟩)
    have clean : ∀ (S2 : Sto) g2, ExtB p (put S1 c (.lst es)) S2 → Deck S2 p q g2 → ∃ S3 : Sto, S3 c = none ∧ put S3 c (.lst es) = S2 ∧ ExtB p S1 S3 ∧ Deck S3 p q g2 ∧ ∀ b, b ≠ c → S3 b = S2 b := fun S2 g2 e2 dk2 => by
      refine ⟨fun b => if b = c then none else S2 b, if_pos rfl, ?_, fun b o nb s => ?_, ?_, fun b hb => if_neg hb⟩
      · funext b
        by_cases hb : b = c
        · rw [hb, put_same, e2 c _ (fun z => n1 z.symm) put_same]
        · rw [put_ne hb]; exact if_neg hb
      · show (if b = c then none else S2 b) = _
        rw [if_neg (fun z => by rw [z, f1] at s; cases s)]
        exact e2 b o nb (eA b o nb s)
      · obtain ⟨ns, i1, i2, i3, d1, d2, rest⟩ := dk2
        refine ⟨ns, i1, i2, i3, ?_, ?_, rest⟩
        · show (if p = c then none else S2 p) = _
          rw [if_neg n1]; exact d1
        · show (if q = c then none else S2 q) = _
          rw [if_neg n2]; exact d2
    refine second _ _ g1 _ _ kA ((r1.rel.own f1).ext eA) h1 (fun y y1 S2 g2 h2 e2 dk2 v2 hj => fin _ _ _ ?_) (fun ds2 es2 S2 g2 c2 h2 e2 dk2 v2 f2 hj => fin _ _ _ ?_)
    · obtain ⟨S3, s3, es3, e3, dk3, sb⟩ := clean S2 g2 e2 dk2
      have r3 : RelS p q O0 S0 M S3 env env1 g2 := r1.go e3 dk3
      have r4 := r3.newL (ds := ds) hi s3 (v1.ext e3)
      rw [es3] at r4
      refine er.nx _ _ _ _ h2 (r4.same (r4.rel.set j ?_) (setO hj _ _))
      exact v2.to fun b fs nb np s => ⟨fun z => nb (sub2 b z), s⟩
    · obtain ⟨S3, s3, es3, e3, dk3, sb⟩ := clean S2 g2 e2 dk2
      have r3 : RelS p q O0 S0 M S3 env env1 g2 := r1.go e3 dk3
      have r4 := r3.newL (ds := ds) hi s3 (v1.ext e3)
      rw [es3] at r4
      exact er.nx _ _ _ _ h2 (r4.newL hj f2 (v2.to fun b fs nb np s => ⟨fun z => nb (sub2 b z), s⟩))
  · rename_i hi
    have hi' : ownB M i = false := by simpa using hi
    refine sndE a rs.ok rs.rel h fun x x1 S1 g1 h1 e1 dk1 v1 => ?_
    have r1 := rs.go e1 dk1
    refine second _ _ g1 _ _ r1.ok r1.rel h1 (fun y y1 S2 g2 h2 e2 dk2 v2 hj => fin _ _ _ ?_) (fun ds2 es2 S2 g2 c2 h2 e2 dk2 v2 f2 hj => fin _ _ _ ?_)
    · have r2 := r1.go e2 dk2
      have r4 : RelV2 p (OO O0 M env env1) M S2 ((env.set i (some x)).set j (some y)) ((env1.set i (some x1)).set j (some y1)) := (r2.rel.set i (VF.ext v1 e2)).set j v2
      exact er.nx _ _ _ _ h2 (r2.same r4 fun l hl => ⟨(setO (o' := none) hj _ [] l hl).1.trans (setO (o' := none) hi' _ [] l hl).1, (setO (o' := none) hj _ [] l hl).1.trans (setO (o' := none) hi' _ [] l hl).1⟩)
    · have r2 := r1.go e2 dk2
      have r3 := r2.same (r2.rel.set i (VF.ext v1 e2)) (setO hi' _ _)
      refine er.nx _ _ _ _ h2 (r3.newL hj f2 (v2.to fun b fs nb np s => ⟨fun z => nb ?_, s⟩))
      rcases z with z | ⟨l, hl, hd, z⟩
      · exact .inl z
      · rw [(setO (o' := none) hi' _ [] l hl).1] at z hd; exact .inr ⟨l, hl, hd, z⟩
end
end G57
set_option Elab.async false
set_option linter.all false
set_option maxRecDepth 100000
set_option maxHeartbeats 800000
namespace G57
open PySem L2 PySem.Spec PyProof.Rows
def tab2 (L : List (Str × Spec2)) : Tab2 := { q := fun i => (L[i]?).map (·.2) }
theorem tab2_q {L : List (Str × Spec2)} {i : Nat} : (tab2 L).q i = (L[i]?).map (·.2) := rfl
theorem tab2_eq (L : List (Str × Spec2)) : (fun i => ((L.map fun p => (p.1, lift2 p.2))[i]?).map (·.2)) = tab1 (tab2 L) := by
  funext i
  simp only [tab1, tab2, List.getElem?_map]
  cases L[i]? <;> rfl
theorem startD_rel {p : Addr} {S : Sto} {O : Own} {M : List Nat} {N : List Str} {ds es : List D} {n : Nat} (v : VFs p O S ds es) : RelV2 p O M S (startD N ds) (startD N es) := by
  have hl := v.length
  refine ⟨by simp [startD, hl], fun i d e => ?_⟩
  unfold startD at e ⊢
  by_cases hi : i < ds.length
  · rw [List.getElem?_append_left (by simpa using hi), List.getElem?_map] at e
    obtain ⟨d', e1, e2⟩ := Option.map_eq_some_iff.mp e
    cases e2
    obtain ⟨u, e3, rv⟩ := v.get e1
    exact ⟨u, by rw [List.getElem?_append_left (by simp; omega), List.getElem?_map, e3]; rfl, rv.vb _⟩
  · rw [List.getElem?_append_right (by simpa using hi), List.getElem?_replicate] at e
    split at e <;> cases e
theorem startD_none {N : List Str} {es : List D} {i : Nat} {a : Addr} (h : es.length ≤ i) : (startD N es)[i]? ≠ some (some (.ref a)) := fun e => by
  unfold startD at e
  rw [List.getElem?_append_right (by simpa using h), List.getElem?_replicate] at e
  split at e <;> cases e
theorem lift_body {L : Tab2} {M : List Nat} {N : List Str} {n : Nat} {ir : Sx} {sp : Spec2} (len : ∀ ds g Q, sp ds g Q → ds.length = n) (hM : ∀ i, ownB M i = true → n ≤ i)
    (body : ∀ ds g Q, sp ds g Q → OkS L M ir { nx := fun _ g' => Q .non g', rt := Q } (startD N ds) g) (es : List D) (S : Sto) (Q : DK) (h : lift2 sp es S Q) : wpS (tab1 L) ir { nx := fun _ S' => Q .non S', rt := Q } (startD N es) S := by
  obtain ⟨p, q, O, g, ds, R, k, v, h, P⟩ := h
  have hn := len _ _ _ h
  have hes : es.length = n := by rw [← v.length, hn]
  have no : ∀ a, ¬ Ow M (startD N ds) (startD N es) a := fun a ⟨i, hi, _, e⟩ => startD_none (by rw [hes]; exact hM i hi) e
  have eO : OO O M (startD N ds) (startD N es) = O := by
    funext a; apply propext
    exact ⟨fun z => z.elim id fun w => (no a w).elim, .inl⟩
  refine body ds g R h p q O S S (startD N es) _ ⟨by rw [eO]; exact k, by rw [eO]; exact startD_rel (n := n) v, ExtB.refl, fun a ha => (no a ha).elim, k.dom, fun i j a z _ => (no a ⟨i, z⟩).elim⟩ ⟨fun env env1 S' g' hR r => ?_, fun d2 d1 S' g' hR e dk v' => P _ _ _ _ hR e dk v', fun _ _ _ _ z => z.elim, fun _ _ _ _ z => z.elim⟩
  exact P _ _ _ _ hR r.ext r.ok.dk .n
theorem lift_len {sp : Spec2} {n : Nat} (len : ∀ ds g Q, sp ds g Q → ds.length = n) : ∀ es S Q, lift2 sp es S Q → es.length = n := fun es S Q ⟨p, q, O, g, ds, R, k, v, h, P⟩ => by rw [← v.length]; exact len _ _ _ h
theorem does2 {P : Program} {w : World} {K : PySem.W.Frag} {mg : Str → Option Value} {base : Heap} {k : Nat} {x : Str} {st : Stmt} {N ps bs : List Str} {cs : List (Str × D)} {L : List (Str × Spec2)} {M : List Nat} {ir : Sx} {sp : Spec2}
    (F : FT K mg x st ps) (hsc : fnOkB N ps (defScope st) = true) (tr : trB 300 (gamOf N (defScope st) bs (L.map (·.1)) cs) (defBody st) = some ir) (md : Md K mg bs cs) (tab : ∀ p ∈ L, Does P w K mg base k p.1 (lift2 p.2))
    (len : ∀ ds g Q, sp ds g Q → ds.length = ps.length) (hM : ∀ i, ownB M i = true → ps.length ≤ i)
    (body : ∀ ds g Q, sp ds g Q → OkS (tab2 L) M ir { nx := fun _ g' => Q .non g', rt := Q } (startD N ds) g) : Does P w K mg base (k + 1) x (lift2 sp) := by
  refine does_of (Φ := L.map fun p => (p.1, lift2 p.2)) F hsc (by rw [List.map_map]; exact tr) md (fun p hp => ?_) (lift_len len) ?_
  · obtain ⟨p', hp', rfl⟩ := List.mem_map.mp hp
    exact tab p' hp'
  · rw [tab2_eq]
    exact lift_body len hM body
theorem Does.weak {P : Program} {w : World} {K : PySem.W.Frag} {mg : Str → Option Value} {base : Heap} {k : Nat} {x : Str} {sp sp' : Spec} (d : Does P w K mg base k x sp) (h : ∀ ds S Q, sp' ds S Q → sp ds S Q) : Does P w K mg base k x sp' := by
  obtain ⟨f, fd, ps, a, b, c, e, l⟩ := d.ex
  refine ⟨f, fd, ps, a, b, c, ⟨fun vs H Q E z => z.1, fun A outer s H args us vs Q E r g e0 hb rv z => ?_⟩, fun ds S Q z => l ds S Q (h _ _ _ z)⟩
  obtain ⟨z1, ds, S, Qd, z2, z3, z4, z5⟩ := z
  exact e.run A outer s H args us vs Q E r g e0 hb rv ⟨z1, ds, S, Qd, z2, z3, h _ _ _ z4, z5⟩
theorem does2_no {P : Program} {w : World} {K : PySem.W.Frag} {mg : Str → Option Value} {base : Heap} {k : Nat} {x : Str} {st : Stmt} {ps : List Str} {sp : Spec2} (F : FT K mg x st ps) (h : ∀ ds g Q, ¬ sp ds g Q) : Does P w K mg base k x (lift2 sp) :=
  does_no F fun es S Q ⟨p, q, O, g, ds, R, k, v, z, P⟩ => h _ _ _ z
def dck : D := .ref 0
def sDraw : Spec2 := fun ds g Q => ∃ n : Int, ds = [dck, .int n] ∧ 0 < n ∧ n < 2 ^ 8000 ∧ 1 ≤ g ∧ ∀ r : Int, 0 ≤ r → r < n → Q (.int r) (g - 1)
theorem does_draw2 {P : Program} {w : World} {K : PySem.W.Frag} {mg : Str → Option Value} {base : Heap} {k : Nat} (d : Does P w K mg base k "_law_draw" spDraw) : Does P w K mg base k "_law_draw" (lift2 sDraw) :=
  d.weak fun es S Q ⟨p, q, O, g, ds, R, k, v, ⟨n, e, h1, h2, h3, h4⟩, P⟩ => by
    subst e
    simp only [VFs] at v
    obtain ⟨_, _, rfl, v1, _, _, rfl, v2, rfl⟩ := v
    simp only [dck, VF] at v1 v2
    subst v1 v2
    exact ⟨p, q, n, g - 1, rfl, h1, h2, k.dk.less (by omega), fun S' r r0 r1 dk e => P _ _ _ _ (h4 r r0 r1) e dk .i⟩
def tabL (L : List (Str × (Spec ⊕ Spec2))) : Tab2 where
  q := fun i => match L[i]? with
    | some (_, .inr s) => some s
    | _ => none
  w := fun i => match L[i]? with
    | some (_, .inl s) => some s
    | _ => none
theorem tabL_q {L : List (Str × (Spec ⊕ Spec2))} {i : Nat} : (tabL L).q i = match L[i]? with | some (_, .inr s) => some s | _ => none := rfl
def sp12 : Spec ⊕ Spec2 → Spec
  | .inl s => s
  | .inr s => lift2 s
theorem tabL_eq (L : List (Str × (Spec ⊕ Spec2))) : (fun i => ((L.map fun p => (p.1, sp12 p.2))[i]?).map (·.2)) = tab1 (tabL L) := by
  funext i
  simp only [tab1, tabL, List.getElem?_map]
  rcases L[i]? with _ | ⟨n, s | s⟩ <;> rfl
theorem law_body {L : List (Str × (Spec ⊕ Spec2))} {M : List Nat} {N : List Str} {r : Sx} {j : Nat} {nm : Str} (hj : L[j]? = some (nm, .inl spDeck)) (hN : 2 ≤ N.length) (h0 : ownB M 0 = false) (h1 : ownB M 1 = false)
    (body : OkS (tabL L) M r { nx := fun _ _ => False, rt := fun d _ => d = .bl true } (none :: some dck :: List.replicate (N.length - 2) none) 2147483648) :
    ∀ ds S Q, lawSp 63 ds S Q → wpS (tab1 (tabL L)) (.cons (.asg (.v 1) (.call j (.cons (.var 0) .nil))) r) { nx := fun _ S' => Q .non S', rt := Q } (startD N ds) S := by
  rintro ds S Q ⟨ns, hl, rfl, k⟩
  have e0 : startD N [.rol (ns.map D.int)] = some (.rol (ns.map D.int)) :: none :: List.replicate (N.length - 2) none := by
    unfold startD
    obtain ⟨m, hm⟩ : ∃ m, N.length = m + 2 := ⟨N.length - 2, by omega⟩
    rw [hm]
    rfl
  rw [e0]
  refine st_cons (st_asg ?_)
  simp only [wpE, wpA, wpP]
  refine ⟨spDeck, by simp only [tab1, tabL, hj], _, rfl, ns, rfl, hl, fun S' p q dk e => ?_⟩
  have eset : (some (D.rol (ns.map D.int)) :: none :: List.replicate (N.length - 2) none : En).set 1 (some (.ref p)) = some (D.rol (ns.map D.int)) :: some (.ref p) :: List.replicate (N.length - 2) none := rfl
  show wpS (tab1 (tabL L)) r _ ((some (D.rol (ns.map D.int)) :: none :: List.replicate (N.length - 2) none : En).set 1 (some (.ref p))) S'
  rw [eset]
  have no : ∀ a, ¬ Ow M (none :: some dck :: List.replicate (N.length - 2) none) (some (D.rol (ns.map D.int)) :: some (.ref p) :: List.replicate (N.length - 2) none) a := fun a ⟨i, hi, _, z⟩ => by
    match i, hi, z with
    | 0, hi, _ => rw [h0] at hi; cases hi
    | 1, hi, _ => rw [h1] at hi; cases hi
    | i + 2, _, z =>
      simp only [List.getElem?_cons_succ, List.getElem?_replicate] at z
      split at z <;> cases z
  have eO : OO (fun _ => False) M (none :: some dck :: List.replicate (N.length - 2) none) (some (D.rol (ns.map D.int)) :: some (.ref p) :: List.replicate (N.length - 2) none) = fun _ => False := by
    funext a; apply propext
    exact ⟨fun z => z.elim id fun w => no a w, False.elim⟩
  have rel : RelV2 p (fun _ => False) M S' (none :: some dck :: List.replicate (N.length - 2) none) (some (D.rol (ns.map D.int)) :: some (.ref p) :: List.replicate (N.length - 2) none) := by
    refine ⟨by simp, fun i d z => ?_⟩
    match i, z with
    | 0, z => cases z
    | 1, z =>
      simp only [List.getElem?_cons_succ, List.getElem?_cons_zero, Option.some.injEq] at z
      subst z
      refine ⟨.ref p, rfl, VF.vb _ ?_⟩
      simp only [dck, VF]
    | i + 2, z =>
      simp only [List.getElem?_cons_succ, List.getElem?_replicate] at z
      split at z <;> cases z
  refine body p q (fun _ => False) (fun _ => none) S' _ _ ⟨by rw [eO]; exact ⟨dk, fun a ha => ha.elim, id, id⟩, by rw [eO]; exact rel, (fun a o _ z => by cases z), fun a _ => rfl, fun a ha => ha.elim, fun i j a z _ => (no a ⟨i, z⟩).elim⟩ ⟨fun _ _ _ _ z _ => z.elim, fun d2 d1 S2 g z _ _ v => ?_, fun _ _ _ _ z _ => z.elim, fun _ _ _ _ z _ => z.elim⟩
  subst z
  cases v.vt.bl_inv
  exact k S2
theorem law_does {P : Program} {w : World} {K : PySem.W.Frag} {mg : Str → Option Value} {base : Heap} {k : Nat} {x : Str} {st : Stmt} {f : Addr} {fd : FuncData} {N ps bs : List Str} {cs : List (Str × D)} {L : List (Str × (Spec ⊕ Spec2))} {ir : Sx} {sp : Spec}
    (F : Fun K x x st f fd) (hsc : fnOkB N ps (defScope st) = true) (tr : trB 300 (gamOf N (defScope st) bs (L.map (·.1)) cs) (defBody st) = some ir) (md : Md K mg bs cs) (tab : ∀ p ∈ L, Does P w K mg base k p.1 (sp12 p.2))
    (body : ∀ ds S Q, sp ds S Q → wpS (tab1 (tabL L)) ir { nx := fun _ S' => Q .non S', rt := Q } (startD N ds) S) : FnG P w K mg base (k + 1) f fd ps (liftSp K ps.length sp) := by
  refine fn_does (Φ := L.map fun p => (p.1, sp12 p.2)) F hsc (by rw [List.map_map]; exact tr) md (fun p hp => ?_) ?_
  · obtain ⟨p', hp', rfl⟩ := List.mem_map.mp hp
    exact tab p' hp'
  · rw [tabL_eq]
    exact body
theorem lcV_fm {α : Type} (enc : α → D) (f : α → Option D) {body : D → Nat → (Option D → Nat → Prop) → Prop} {Q : List D → Nat → Prop} : ∀ (xs : List α) (acc : List D) (g : Nat), acc.length + xs.length ≤ 16777216 →
    (∀ x ∈ xs, ∀ k, k (f x) g → body (enc x) g k) → Q (acc ++ xs.filterMap f) g → lcV body Q (xs.map enc) acc g
  | [], acc, g, _, _, h => by simp only [List.map_nil, lcV]; simpa using h
  | x :: xs, acc, g, hl, hb, h => by
    simp only [List.map_cons, lcV]
    rw [List.length_cons] at hl
    refine hb x (by simp) _ ?_
    cases hf : f x with
    | none =>
      simp only
      exact lcV_fm enc f xs acc g (by omega) (fun y hy => hb y (by simp [hy])) (by rw [List.filterMap_cons_none hf] at h; exact h)
    | some y =>
      simp only
      exact ⟨by omega, lcV_fm enc f xs _ g (by rw [List.length_append]; simp; omega) (fun y hy => hb y (by simp [hy])) (by rw [List.filterMap_cons_some hf] at h; simpa using h)⟩
theorem lcV_map {α : Type} (enc : α → D) (f : α → D) {body : D → Nat → (Option D → Nat → Prop) → Prop} {Q : List D → Nat → Prop} {g : Nat} (xs : List α) (hl : xs.length ≤ 16777216)
    (hb : ∀ x ∈ xs, ∀ k, k (some (f x)) g → body (enc x) g k) (h : Q (xs.map f) g) : lcV body Q (xs.map enc) [] g :=
  lcV_fm enc (fun x => some (f x)) xs [] g (by simpa using hl) hb (by rw [fm_some]; simpa using h)
theorem lcV_draw (c : Nat) (P : D → Prop) {body : D → Nat → (Option D → Nat → Prop) → Prop} {Q : List D → Nat → Prop} : ∀ (xs acc : List D) (g : Nat), acc.length + xs.length ≤ 16777216 → c * xs.length ≤ g → (∀ y ∈ acc, P y) →
    (∀ x ∈ xs, ∀ g k, c ≤ g → (∀ y, P y → k (some y) (g - c)) → body x g k) → (∀ ys, ys.length = acc.length + xs.length → (∀ y ∈ ys, P y) → Q ys (g - c * xs.length)) → lcV body Q xs acc g
  | [], acc, g, _, _, hP, _, hQ => by
    simp only [lcV]
    exact hQ acc (by simp) hP
  | x :: xs, acc, g, hl, hg, hP, hb, hQ => by
    simp only [lcV]
    rw [List.length_cons] at hl
    rw [List.length_cons, Nat.mul_succ] at hg
    refine hb x (by simp) g _ (by omega) fun y hy => ?_
    simp only
    refine ⟨by omega, lcV_draw c P xs (acc ++ [y]) (g - c) (by rw [List.length_append]; simp; omega) (by omega) (fun z hz => ?_) (fun z hz => hb z (by simp [hz])) fun ys hl2 hP2 => ?_⟩
    · rcases List.mem_append.mp hz with h | h
      · exact hP z h
      · rw [List.mem_singleton.mp h]; exact hy
    · have := hQ ys (by rw [hl2, List.length_append, List.length_cons, List.length_cons, List.length_nil]; omega) hP2
      rw [List.length_cons, Nat.mul_succ] at this
      rw [show g - c - c * xs.length = g - (c * xs.length + c) by omega]
      exact this
theorem forV_inv {body : D → En → Nat → (En → Nat → Prop) → Prop} {Q : En → Nat → Prop} (I : List D → En → Nat → Prop) : ∀ (xs : List D) (env : En) (g : Nat), I xs env g →
    (∀ x r env g N, I (x :: r) env g → (∀ env' g', I r env' g' → N env' g') → body x env g N) → (∀ env g, I [] env g → Q env g) → forV body Q xs env g
  | [], env, g, h, _, hd => hd env g h
  | x :: xs, env, g, h, hs, hd => by
    simp only [forV]
    exact hs x xs env g _ h fun env' g' h' => forV_inv I xs env' g' h' hs hd
theorem whV_inv {Φ : Tab2} {M : List Nat} {c : Ex} {b : Sx} {E : Ends2} (I : Nat → En → Nat → Prop)
    (step : ∀ n env g (N : En → Nat → Prop), I n env g → (∀ n' env' g', n' < n → I n' env' g' → N env' g') → wqT M Φ c env g fun t g' => if t = true then OkS Φ M b { nx := N, ct := N, bk := E.nx, rt := E.rt } env g' else E.nx env g') :
    ∀ (fuel n : Nat) (env : En) (g : Nat), n < fuel → I n env g → whV Φ M c b E fuel env g
  | 0, n, _, _, h, _ => absurd h (by omega)
  | fuel + 1, n, env, g, h, hi => by
    simp only [whV]
    exact step n env g _ hi fun n' env' g' hn' hi' => whV_inv I step fuel n' env' g' (by omega) hi'
section
variable {R : RK} {B : Bool → Prop} {P : List D → Prop} {W : List Nat → Prop} {U : En → Prop} {env : En} {p1 pt : Pt} {i j : Int} {x y : List Nat} {ds es : List D} {b : Bool} {d : D} {n : Nat} {lo hi : Option Int} {f : Int → Int → Bool} {h : List Nat → List Nat → Bool}
theorem addV_ii : addV (.int i) (.int j) R = R (.int (i + j)) := rfl
theorem addV_ss : addV (.str x) (.str y) R = (x.length + y.length ≤ 16777216 ∧ R (.str (x ++ y))) := rfl
theorem addV_tt : addV (.tup ds) (.tup es) R = (ds.length + es.length ≤ 16777216 ∧ R (.tup (ds ++ es))) := rfl
theorem addV_rr : addV (.rol ds) (.rol es) R = (ds.length + es.length ≤ 16777216 ∧ R (.rol (ds ++ es))) := rfl
theorem subV_ii : subV (.int i) (.int j) R = R (.int (i - j)) := rfl
theorem mulV_ii : mulV (.int i) (.int j) R = (CMulW i j ∧ R (.int (i * j))) := rfl
theorem mulV_si : mulV (.str x) (.int j) R = (j < 2 ^ 40 ∧ -(2 ^ 40) < j ∧ x.length * j.toNat ≤ 16777216 ∧ R (.str (List.replicate j.toNat x).flatten)) := rfl
theorem mulV_ti : mulV (.tup ds) (.int j) R = (j ≤ 1000 ∧ -1000 ≤ j ∧ ds.length ≤ 1000 ∧ R (.tup (List.replicate j.toNat ds).flatten)) := rfl
theorem fdivV_ii : fdivV (.int i) (.int j) R = (0 < j ∧ j < 2 ^ 8000 ∧ R (.int (i / j))) := rfl
theorem modV_ii : modV (.int i) (.int j) R = (0 < j ∧ R (.int (i % j))) := rfl
theorem negV_i : negV (.int i) R = R (.int (-i)) := rfl
theorem truthV_b : truthV (.bl b) B = B b := rfl
theorem ordV_ii : ordV f h (.int i) (.int j) R = R (.bl (f i j)) := rfl
theorem idxV_t : idxV (.tup ds) (.int i) R = (∃ d, atI ds i = some d ∧ R d) := rfl
theorem idxV_r : idxV (.rol ds) (.int i) R = (∃ d, atI ds i = some d ∧ R d) := rfl
theorem idxV_s : idxV (.str x) (.int i) R = (x.length ≤ 16777216 ∧ ∃ c, atI x i = some c ∧ R (.str [c])) := rfl
theorem slV_t : slV (.tup ds) lo hi R = R (.tup (cutD ds lo hi)) := rfl
theorem slV_r : slV (.rol ds) lo hi R = R (.rol (cutD ds lo hi)) := rfl
theorem slV_s : slV (.str x) lo hi R = (x.length ≤ 16777216 ∧ R (.str (cutD x lo hi))) := rfl
theorem biV_len_s : biV .len [.str x] R = (x.length ≤ 16777216 ∧ R (.int x.length)) := rfl
theorem biV_len_t : biV .len [.tup ds] R = R (.int ds.length) := rfl
theorem biV_len_r : biV .len [.rol ds] R = R (.int ds.length) := rfl
theorem biV_sum_t : biV .sum [.tup ds] R = (∃ is, intsF ds = some is ∧ R (.int is.sum)) := rfl
theorem biV_sum_r : biV .sum [.rol ds] R = (∃ is, intsF ds = some is ∧ R (.int is.sum)) := rfl
theorem biV_any_t : biV .any [.tup ds] R = (∃ bs, trusF ds = some bs ∧ R (.bl (bs.any id))) := rfl
theorem biV_int_i : biV .int [.int i] R = R (.int i) := rfl
theorem biV_tuple_r : biV .tuple [.rol ds] R = R (.tup ds) := rfl
theorem biV_rev_s : biV .rev [.str x] R = (x.length ≤ 16777216 ∧ R (.str x.reverse)) := rfl
theorem mtV_join_r : mtV .join (.str x) [.rol ds] R = (∃ xs, strsF ds = some xs ∧ lenL xs + xs.length * x.length ≤ 16777216 ∧ R (.str (joinL x xs))) := rfl
theorem mtO_join : mtO .join (.str x) = True := rfl
theorem itV_t : itV (.tup ds) = some ds := rfl
theorem itV_r : itV (.rol ds) = some ds := rfl
theorem rng1V_i : rng1V (.int i) P = (smallI i ∧ P (rngD 0 i)) := rfl
theorem rng2V_i : rng2V (.int i) (.int j) P = (smallI i ∧ smallI j ∧ P (rngD i j)) := rfl
theorem flatD_n : flatD .non = true := rfl
theorem flatD_b : flatD (.bl b) = true := rfl
theorem flatD_i : flatD (.int i) = true := rfl
theorem flatD_s : flatD (.str x) = true := rfl
theorem opV_Add : opV .Add = addV := rfl
theorem opV_Sub : opV .Sub = subV := rfl
theorem opV_Mult : opV .Mult = mulV := rfl
theorem opV_FloorDiv : opV .FloorDiv = fdivV := rfl
theorem opV_Mod : opV .Mod = modV := rfl
theorem cmpV_Eq : cmpV .Eq = eqV' false := rfl
theorem cmpV_NotEq : cmpV .NotEq = eqV' true := rfl
theorem cmpV_Lt : cmpV .Lt = ordV (fun i j => decide (i < j)) (fun x y => decide (x < y)) := rfl
theorem cmpV_Gt : cmpV .Gt = ordV (fun i j => decide (j < i)) (fun x y => decide (y < x)) := rfl
theorem cmpV_GtE : cmpV .GtE = ordV (fun i j => decide (j ≤ i)) (fun x y => decide (y ≤ x)) := rfl
theorem wqP_v : wqP (.v n) d env U = U (env.set n (some d)) := by simp only [wqP]
theorem wqP_t : wqP (.t pt) (.tup ds) env U = wqPs pt ds env U := by simp only [wqP]
theorem wqP_r : wqP (.t pt) (.rol ds) env U = wqPs pt ds env U := by simp only [wqP]
theorem wqPs_n : wqPs .nil [] env U = U env := by simp only [wqPs]
theorem wqPs_c : wqPs (.cons p1 pt) (d :: ds) env U = (wqP p1 d env fun env' => wqPs pt ds env' U) := by simp only [wqPs]
end
section
variable {R : RK} {b : Bool}
theorem eqV_ii {i j : Int} : eqV' b (.int i) (.int j) R = R (.bl (b ^^ decide (i = j))) := rfl
theorem eqV_ss {i j : List Nat} : eqV' b (.str i) (.str j) R = R (.bl (b ^^ decide (i = j))) := rfl
theorem eqV_bb {i j : Bool} : eqV' b (.bl i) (.bl j) R = R (.bl (b ^^ decide (i = j))) := rfl
theorem eqV_tt {i j : List D} : eqV' b (.tup i) (.tup j) R = (okV (.tup i) = true ∧ okV (.tup j) = true ∧ R (.bl (b ^^ PyData.eqv (.tuple (pys i)) (.tuple (pys j))))) := by simp only [eqV', py]
theorem eqV_rr {i j : List D} : eqV' b (.rol i) (.rol j) R = (okV (.rol i) = true ∧ okV (.rol j) = true ∧ R (.bl (b ^^ PyData.eqv (.list (pys i)) (.list (pys j))))) := by simp only [eqV', py]
end
theorem own_all {M : List Nat} {n : Nat} (h : M.all (fun i => decide (n ≤ i)) = true) : ∀ i, ownB M i = true → n ≤ i := by
  induction M with
  | nil => intro i hi; simp [ownB] at hi
  | cons j M ih =>
    simp only [List.all_cons, Bool.and_eq_true, decide_eq_true_eq] at h
    intro i hi
    simp only [ownB, Bool.or_eq_true, beq_iff_eq] at hi
    rcases hi with rfl | hi
    · exact h.1
    · exact ih h.2 i hi
end G57
set_option Elab.async false
set_option linter.all false
set_option maxRecDepth 100000
set_option maxHeartbeats 800000
namespace G57
open PySem L2
mutual
def noB : D → Bool
  | .bl _ | .ref _ => false
  | .tup ds | .rol ds => noBs ds
  | _ => true
def noBs : List D → Bool
  | [] => true
  | d :: ds => noB d && noBs ds
end
theorem beq_str (x y : List Nat) : ((⟨x.toArray⟩ : Str) == ⟨y.toArray⟩) = decide (x = y) := by
  by_cases h : x = y
  · subst h; simp
  · rw [decide_eq_false h]
    apply Bool.eq_false_iff.mpr
    intro e
    have := eq_of_beq e
    exact h (by simpa using congrArg (fun z : Str => z.cps.toList) this)
mutual
theorem eqv_iff : ∀ d e : D, noB d = true → noB e = true → (PyData.eqv (py d) (py e) = true ↔ d = e)
  | .bl _, _, h, _ | .ref _, _, h, _ => by simp [noB] at h
  | .non, e, _, h => by cases e <;> simp [py, PyData.eqv, noB] at h ⊢
  | .int i, e, _, h => by cases e <;> simp [py, PyData.eqv, noB] at h ⊢
  | .str x, e, _, h => by cases e <;> simp [py, PyData.eqv, noB, beq_str] at h ⊢
  | .tup ds, e, h', h => by
    cases e with
    | tup es =>
      simp only [noB] at h h'
      simp only [py, PyData.eqv, D.tup.injEq]
      exact eqvs_iff ds es h' h
    | _ => simp [py, PyData.eqv, noB] at h ⊢
  | .rol ds, e, h', h => by
    cases e with
    | rol es =>
      simp only [noB] at h h'
      simp only [py, PyData.eqv, D.rol.injEq]
      exact eqvs_iff ds es h' h
    | _ => simp [py, PyData.eqv, noB] at h ⊢
theorem eqvs_iff : ∀ ds es : List D, noBs ds = true → noBs es = true → (PyData.eqvAll (pys ds) (pys es) = true ↔ ds = es)
  | [], [], _, _ => by simp [pys, PyData.eqvAll]
  | [], _ :: _, _, _ => by simp [pys, PyData.eqvAll]
  | _ :: _, [], _, _ => by simp [pys, PyData.eqvAll]
  | d :: ds, e :: es, h, g => by
    simp only [noBs, Bool.and_eq_true] at h g
    simp only [pys, PyData.eqvAll, Bool.and_eq_true, List.cons.injEq]
    rw [eqv_iff d e h.1 g.1, eqvs_iff ds es h.2 g.2]
end
structure Cmp (d : D) : Prop where
  pr : pureD d = true
  ok : okD 40 d = true
  nb : noB d = true
mutual
theorem ok_more : ∀ (d : D) (n : Nat), okD n d = true → okD (n + 1) d = true
  | .non, n, _ | .bl _, n, _ | .int _, n, _ => by simp [okD]
  | .str x, n, h => by cases n <;> simpa [okD] using h
  | .tup ds, 0, h | .rol ds, 0, h => by simp [okD] at h
  | .tup ds, n + 1, h | .rol ds, n + 1, h => by simp only [okD] at h ⊢; exact oks_more ds n h
  | .ref _, n, h => by cases n <;> simp [okD] at h
theorem oks_more : ∀ (ds : List D) (n : Nat), oksD n ds = true → oksD (n + 1) ds = true
  | [], _, _ => by simp [oksD]
  | d :: ds, n, h => by
    simp only [oksD, Bool.and_eq_true] at h ⊢
    exact ⟨ok_more d n h.1, oks_more ds n h.2⟩
end
theorem ok_le {d : D} {n m : Nat} (h : n ≤ m) (hd : okD n d = true) : okD m d = true := by
  obtain ⟨k, rfl⟩ := Nat.exists_eq_add_of_le h
  induction k with
  | zero => exact hd
  | succ k ih => exact ok_more d _ (ih (by omega))
theorem oks_le {d : List D} {n m : Nat} (h : n ≤ m) (hd : oksD n d = true) : oksD m d = true := by
  obtain ⟨k, rfl⟩ := Nat.exists_eq_add_of_le h
  induction k with
  | zero => exact hd
  | succ k ih => exact oks_more d _ (ih (by omega))
theorem oks_of {n : Nat} : ∀ {ds : List D}, (∀ d ∈ ds, okD n d = true) → oksD n ds = true
  | [], _ => by simp [oksD]
  | d :: ds, h => by simp only [oksD, Bool.and_eq_true]; exact ⟨h d (by simp), oks_of fun e he => h e (by simp [he])⟩
theorem pures_of : ∀ {ds : List D}, (∀ d ∈ ds, pureD d = true) → puresD ds = true
  | [], _ => by simp [puresD]
  | d :: ds, h => by simp only [puresD, Bool.and_eq_true]; exact ⟨h d (by simp), pures_of fun e he => h e (by simp [he])⟩
theorem noBs_of : ∀ {ds : List D}, (∀ d ∈ ds, noB d = true) → noBs ds = true
  | [], _ => by simp [noBs]
  | d :: ds, h => by simp only [noBs, Bool.and_eq_true]; exact ⟨h d (by simp), noBs_of fun e he => h e (by simp [he])⟩
structure CmpN (n : Nat) (d : D) : Prop where
  pr : pureD d = true
  ok : okD n d = true
  nb : noB d = true
theorem CmpN.tup {n : Nat} {ds : List D} (h : ∀ d ∈ ds, CmpN n d) : CmpN (n + 1) (.tup ds) :=
  ⟨by simp only [pureD]; exact pures_of fun d hd => (h d hd).pr, by simp only [okD]; exact oks_of fun d hd => (h d hd).ok, by simp only [noB]; exact noBs_of fun d hd => (h d hd).nb⟩
theorem CmpN.int {n : Nat} {i : Int} : CmpN n (.int i) := ⟨by simp [pureD], by cases n <;> simp [okD], by simp [noB]⟩
theorem CmpN.non {n : Nat} : CmpN n .non := ⟨by simp [pureD], by cases n <;> simp [okD], by simp [noB]⟩
theorem CmpN.str {n : Nat} {x : List Nat} (h : ∀ c ∈ x, c < 0x110000) : CmpN n (.str x) := ⟨by simp [pureD], by cases n <;> simpa [okD] using h, by simp [noB]⟩
theorem CmpN.le {n m : Nat} {d : D} (h : CmpN n d) (hm : n ≤ m) : CmpN m d := ⟨h.pr, ok_le hm h.ok, h.nb⟩
theorem CmpN.okV {n : Nat} {d : D} (h : CmpN n d) (hn : n ≤ 40) : okV d = true := by
  cases d with
  | rol ds => have := h.pr; simp [pureD] at this
  | _ => simp only [G57.okV, Bool.and_eq_true]; exact ⟨h.pr, ok_le (by omega) h.ok⟩
theorem CmpN.eqv {n m : Nat} {d e : D} (h : CmpN n d) (g : CmpN m e) : PyData.eqv (py d) (py e) = true ↔ d = e := eqv_iff d e h.nb g.nb
theorem eqV_of {n m : Nat} {d e : D} {b : Bool} {R : RK} (h : CmpN n d) (g : CmpN m e) (hn : n ≤ 40) (hm : m ≤ 40) (k : ∀ t : Bool, (t = true ↔ d = e) → R (.bl (b ^^ t))) : eqV' b d e R := by
  have gen : okV d = true ∧ okV e = true ∧ R (.bl (b ^^ PyData.eqv (py d) (py e))) := ⟨h.okV hn, g.okV hm, k _ (h.eqv g)⟩
  cases d with
  | int i => cases e with
    | int j => exact k _ (by simp)
    | _ => exact gen
  | str i => cases e with
    | str j => exact k _ (by simp)
    | _ => exact gen
  | bl i => have := h.nb; simp [noB] at this
  | _ => cases e <;> exact gen
abbrev Lp := List Nat × List Int
abbrev It := Nat ⊕ Lp
def txs : List It → List Nat × List (List Nat)
  | [] => ([], [])
  | .inl c :: r => (c :: (txs r).1, (txs r).2)
  | .inr _ :: r => ([], (txs r).1 :: (txs r).2)
def txl (r : List It) : List (List Nat) := (txs r).1 :: (txs r).2
def lps : List It → List Lp
  | [] => []
  | .inl _ :: r => lps r
  | .inr l :: r => l :: lps r
def encLp (l : Lp) : D := .tup [.str l.1, .tup (l.2.map .int)]
def encTx (r : List It) : D := .tup ((txl r).map .str)
def encLs (r : List It) : D := .tup ((lps r).map encLp)
def encTL (r : List It) : D := .tup [encTx r, encLs r]
def encRw (m : Nat) (r : List It) : D := .tup [.int m, encTx r, encLs r]
theorem lps_app : ∀ a b : List It, lps (a ++ b) = lps a ++ lps b
  | [], b => rfl
  | .inl c :: a, b => by simp only [List.cons_append, lps, lps_app a b]
  | .inr c :: a, b => by simp only [List.cons_append, lps, lps_app a b, List.cons_append]
theorem txl_app : ∀ a b : List It, ∃ i l, txl a = i ++ [l] ∧ txl (a ++ b) = i ++ (l ++ (txs b).1) :: (txs b).2
  | [], b => ⟨[], [], rfl, by simp [txl]⟩
  | .inl c :: a, b => by
    obtain ⟨i, l, h1, h2⟩ := txl_app a b
    unfold txl at h1 h2 ⊢
    simp only [List.cons_append, txs]
    cases i with
    | nil => simp at h1 h2; exact ⟨[], c :: l, by simp [h1], by simp [h2]⟩
    | cons x i => simp at h1 h2; exact ⟨(c :: x) :: i, l, by simp [h1], by simp [h2]⟩
  | .inr l :: a, b => by
    obtain ⟨i, l, h1, h2⟩ := txl_app a b
    unfold txl at h1 h2 ⊢
    simp only [List.cons_append, txs]
    exact ⟨[] :: i, l, by rw [h1]; rfl, by rw [h2]; rfl⟩
theorem txl_len : ∀ r : List It, (txl r).length = (lps r).length + 1
  | [] => rfl
  | .inl c :: r => by have := txl_len r; simpa [txl, txs, lps] using this
  | .inr l :: r => by have := txl_len r; simp [txl, txs, lps] at this ⊢; omega
theorem txl_le : ∀ r : List It, (txl r).length ≤ r.length + 1 ∧ ∀ t ∈ txl r, t.length ≤ r.length
  | [] => by simp [txl, txs]
  | .inl c :: r => by
    obtain ⟨h1, h2⟩ := txl_le r
    simp only [txl, txs, List.mem_cons, List.length_cons] at h1 h2 ⊢
    refine ⟨by omega, fun t ht => ?_⟩
    rcases ht with rfl | ht
    · have := h2 _ (.inl rfl); simp; omega
    · have := h2 t (.inr ht); omega
  | .inr l :: r => by
    obtain ⟨h1, h2⟩ := txl_le r
    simp only [txl, txs, List.mem_cons, List.length_cons] at h1 h2 ⊢
    refine ⟨by omega, fun t ht => ?_⟩
    rcases ht with rfl | rfl | ht
    · simp
    · have := h2 _ (.inl rfl); omega
    · have := h2 t (.inr ht); omega
theorem lps_le : ∀ r : List It, (lps r).length ≤ r.length
  | [] => by simp [lps]
  | .inl c :: r => by have := lps_le r; simp [lps]; omega
  | .inr l :: r => by have := lps_le r; simp [lps]; omega
theorem txs_map (w : List Nat) : txs (w.map .inl) = (w, []) ∧ lps (w.map .inl) = [] := by
  induction w with
  | nil => exact ⟨rfl, rfl⟩
  | cons c w ih => simp [txs, lps, ih.1, ih.2]
theorem encTL_map (w : List Nat) : encTL (w.map .inl) = .tup [.tup [.str w], .tup []] := by
  unfold encTL encTx encLs txl; simp [txs_map]
def ir_fixed_row : Sx := .cons (.ret (.tup (.cons (.tup (.cons (.var 0) (.nil))) (.cons (.tup (.nil)) (.nil))))) .nil
def ir_behind_1 : Sx := .cons (.ret (.tup (.cons (.var 2) (.cons (.bin .Add (.idx (.var 0) (.con (.int 1))) (.idx (.var 1) (.con (.int 1)))) (.nil))))) .nil
def ir_behind : Sx := .cons (.asg (.v 2) (.bin .Add (.bin .Add (.sl (.idx (.var 0) (.con (.int 0))) (.nil) (.cons (.neg (.con (.int 1))) .nil)) (.tup (.cons (.bin .Add (.idx (.idx (.var 0) (.con (.int 0))) (.neg (.con (.int 1)))) (.idx (.idx (.var 1) (.con (.int 0))) (.con (.int 0)))) (.nil)))) (.sl (.idx (.var 1) (.con (.int 0))) (.cons (.con (.int 1)) .nil) (.nil)))) ir_behind_1
def ir_part_row_b1 : Sx := .cons (.ret (.call 2 (.cons (.idx (.var 0) (.con (.int 1))) (.nil)))) .nil
def ir_part_row_b2 : Sx := .cons (.ret (.call 2 (.cons (.con (.str [])) (.nil)))) .nil
def ir_part_row_b3 : Sx := .cons (.ret (.ite (.cmp .Eq (.var 2) (.call 2 (.cons (.con (.str [])) (.nil)))) (.call 2 (.cons (.con (.str [])) (.nil))) (.tup (.cons (.tup (.cons (.con (.str [])) (.cons (.con (.str [])) (.nil)))) (.cons (.tup (.cons (.tup (.cons (.idx (.idx (.var 2) (.con (.int 0))) (.con (.int 0))) (.cons (.var 1) (.nil)))) (.nil))) (.nil)))))) .nil
def ir_part_row_b4 : Sx := .cons (.asg (.v 3) (.call 3 (.cons (.var 3) (.cons (.var 2) (.nil))))) .nil
def ir_part_row_7 : Sx := .cons (.ret (.var 3)) .nil
def ir_part_row_6 : Sx := .cons (.loop (.v 4) (.iR1 (.ite (.cmp .NotEq (.var 2) (.call 2 (.cons (.con (.str [])) (.nil)))) (.idx (.var 1) (.con (.int 0))) (.con (.int 0)))) (ir_part_row_b4)) ir_part_row_7
def ir_part_row_5 : Sx := .cons (.asg (.v 3) (.call 2 (.cons (.con (.str [])) (.nil)))) ir_part_row_6
def ir_part_row_4 : Sx := .cons (.iff (.call 1 (.cons (.var 1) (.nil))) (ir_part_row_b3) (.nil)) ir_part_row_5
def ir_part_row_3 : Sx := .cons (.asg (.v 2) (.call 0 (.cons (.idx (.var 0) (.con (.int 2))) (.nil)))) ir_part_row_4
def ir_part_row_2 : Sx := .cons (.iff (.not (.bi .any (.cons (.var 1) (.nil)))) (ir_part_row_b2) (.nil)) ir_part_row_3
def ir_part_row_1 : Sx := .cons (.asg (.v 1) (.idx (.var 0) (.con (.int 1)))) ir_part_row_2
def ir_part_row : Sx := .cons (.iff (.cmp .Eq (.idx (.var 0) (.con (.int 0))) (.con (.str [116, 101, 120, 116]))) (ir_part_row_b1) (.nil)) ir_part_row_1
def ir_parts_row_b1 : Sx := .cons (.asg (.v 1) (.call 1 (.cons (.var 1) (.cons (.call 2 (.cons (.var 2) (.nil))) (.nil))))) .nil
def ir_parts_row_2 : Sx := .cons (.ret (.var 1)) .nil
def ir_parts_row_1 : Sx := .cons (.loop (.v 2) (.iE (.var 0)) (ir_parts_row_b1)) ir_parts_row_2
def ir_parts_row : Sx := .cons (.asg (.v 1) (.call 0 (.cons (.con (.str [])) (.nil)))) ir_parts_row_1
def ir_flat_1 : Sx := .cons (.ret (.tup (.cons (.idx (.var 0) (.con (.int 0))) (.cons (.var 1) (.cons (.var 2) (.nil)))))) .nil
def ir_flat : Sx := .cons (.asg (.t (.cons (.v 1) (.cons (.v 2) (.nil)))) (.call 0 (.cons (.idx (.var 0) (.con (.int 1))) (.nil)))) ir_flat_1
def sFixed : Spec2 := fun ds g Q => ∃ w, ds = [.str w] ∧ Q (encTL (w.map .inl)) g
theorem q_fixed : ∀ ds g Q, sFixed ds g Q → OkS (tab2 []) [] ir_fixed_row { nx := fun _ g' => Q .non g', rt := Q } (startD ["word"] ds) g := by
  rintro ds g Q ⟨w, rfl, k⟩
  rw [encTL_map] at k
  rw [show startD ["word"] [.str w] = [some (.str w)] from rfl]
  unfold ir_fixed_row
  refine ok_cons (ok_ret ?_)
  simp only [wqE, wqA, ownB, Bool.not_false, Bool.or_true, List.getElem?_cons_zero, Option.some.injEq, exists_eq_left', true_and]
  exact ⟨by simp, by simp, by simp, k⟩
def sBehind : Spec2 := fun ds g Q => ∃ a b, ds = [encTL a, encTL b] ∧ a.length + b.length ≤ 16000000 ∧ Q (encTL (a ++ b)) g
theorem cut_1m {α : Type} (x : α) (r : List α) : cutD (x :: r) (some 1) none = r := by rw [cut_1]; rfl
theorem q_behind : ∀ ds g Q, sBehind ds g Q → OkS (tab2 []) [] ir_behind { nx := fun _ g' => Q .non g', rt := Q } (startD ["one", "other", "texts"] ds) g := by
  rintro ds g Q ⟨a, b, rfl, hl, k⟩
  rw [show startD ["one", "other", "texts"] [encTL a, encTL b] = [some (encTL a), some (encTL b), none] from rfl]
  obtain ⟨la, la'⟩ := txl_le a
  obtain ⟨lb, lb'⟩ := txl_le b
  have lpa := lps_le a
  have lpb := lps_le b
  obtain ⟨i, l, h1, h2⟩ := txl_app a b
  have eb : txl b = (txs b).1 :: (txs b).2 := rfl
  rw [h1] at la la'
  rw [eb] at lb lb'
  have l1 := la' l (by simp)
  have l2 := lb' (txs b).1 (by simp)
  simp only [List.length_append, List.length_cons, List.length_nil] at la lb
  unfold ir_behind
  refine ok_cons (ok_asg rfl ?_)
  simp only [encTL, wqE, wqA, wqO, negV_i, idxV_t, flatD_i, opV_Add, wqP_v, ownB, Bool.not_false, Bool.or_self, List.getElem?_cons_zero, List.getElem?_cons_succ, List.set_cons_zero, List.set_cons_succ, Option.some.injEq, exists_eq_left', D.int.injEq, atI_0, true_and]
  simp only [encTx, h1, eb, List.map_append, List.map_cons, List.map_nil, addV_ss, addV_tt, idxV_t, slV_t, Option.some.injEq, exists_eq_left', atI_0, cut_m, cut_1m, List.dropLast_concat, atI_m]
  refine ⟨by omega, by simp, by simp; omega, by simp; omega, ?_⟩
  unfold ir_behind_1
  refine ok_cons (ok_ret ?_)
  simp only [encLs, wqE, wqA, addV_tt, idxV_t, flatD_i, opV_Add, ownB, Bool.not_false, Bool.or_self, Bool.or_true, List.getElem?_cons_zero, List.getElem?_cons_succ, Option.some.injEq, exists_eq_left', atI_1, true_and]
  refine ⟨by simp; omega, by simp, ?_⟩
  have e : encTL (a ++ b) = .tup [.tup ((i ++ (l ++ (txs b).1) :: (txs b).2).map .str), .tup ((lps a).map encLp ++ (lps b).map encLp)] := by
    unfold encTL encTx encLs
    rw [h2, lps_app]; simp only [List.map_append]
  rw [e] at k
  simpa using k
end G57
set_option Elab.async false
set_option linter.all false
set_option maxRecDepth 100000
set_option maxHeartbeats 800000
namespace G57
open PySem L2
mutual
def rowP : Pg → List It
  | .text w => w.map .inl
  | .loop f ps => if f.any (· != 0) = false then [] else if isOpen f = true then (if rowPs ps = [] then [] else [.inr ((txs (rowPs ps)).1, f)]) else (List.replicate (f.headD 0).toNat (rowPs ps)).flatten
def rowPs : List Pg → List It
  | [] => []
  | p :: ps => rowP p ++ rowPs ps
end
def rsize : List It → Nat
  | [] => 0
  | .inl _ :: r => rsize r + 1
  | .inr l :: r => rsize r + l.1.length + 1
theorem rsize_app : ∀ a b : List It, rsize (a ++ b) = rsize a + rsize b
  | [], b => by simp [rsize]
  | .inl c :: a, b => by simp only [List.cons_append, rsize, rsize_app a b]; omega
  | .inr l :: a, b => by simp only [List.cons_append, rsize, rsize_app a b]; omega
theorem rsize_rep (n : Nat) (a : List It) : rsize (List.replicate n a).flatten = n * rsize a := by
  induction n with
  | zero => simp [rsize]
  | succ n ih => rw [List.replicate_succ, List.flatten_cons, rsize_app, ih, Nat.succ_mul, Nat.add_comm]
theorem len_rsize : ∀ a : List It, a.length ≤ rsize a
  | [] => by simp
  | .inl c :: a => by have := len_rsize a; simp [rsize]; omega
  | .inr l :: a => by have := len_rsize a; simp [rsize]; omega
mutual
def wfP (m : Nat) : Pg → Nat → Bool → Prop
  | .text w, _, _ => ∀ c ∈ w, c < 0x110000
  | .loop f ps, d, b => 0 < d ∧ f.length = m + 1 ∧ (∀ i ∈ f, 0 ≤ i) ∧ (isOpen f = true → b = true) ∧ wfPs m ps (d - 1) (b && !isOpen f)
def wfPs (m : Nat) : List Pg → Nat → Bool → Prop
  | [], _, _ => True
  | p :: ps, d, b => wfP m p d b ∧ wfPs m ps d b
end
theorem rowPs_app : ∀ xs ys : List Pg, rowPs (xs ++ ys) = rowPs xs ++ rowPs ys
  | [], ys => rfl
  | x :: xs, ys => by rw [List.cons_append, rowPs, rowPs, rowPs_app xs ys, List.append_assoc]
def sOpen : Spec2 := fun ds g Q => ∃ f : List Int, ds = [.tup (f.map .int)] ∧ Q (.bl (isOpen f)) g
theorem any_bs (f : List Int) : (f.map (· != 0)).any id = f.any (· != 0) := by rw [List.any_map]; rfl
theorem q_open : ∀ ds g Q, sOpen ds g Q → OkS (tab2 []) [] ir_is_open { nx := fun _ g' => Q .non g', rt := Q } (startD ["form"] ds) g := by
  rintro ds g Q ⟨f, rfl, k⟩
  rw [show startD ["form"] [.tup (f.map .int)] = [some (.tup (f.map .int))] from rfl]
  unfold ir_is_open
  refine ok_cons (ok_ret ?_)
  simp only [wqE, wqA, wqO, slV_t, biV_any_t, flatD_i, ownB, Bool.not_false, Bool.or_self, List.getElem?_cons_zero, Option.some.injEq, exists_eq_left', D.int.injEq, true_and, cut_1, ← List.map_tail]
  refine ⟨_, trus_ints _, ?_⟩
  rw [any_bs]; exact k
theorem low_enc {r : List It} (h : ∀ t ∈ txl r, ∀ c ∈ t, c < 0x110000) (h2 : ∀ l ∈ lps r, ∀ c ∈ l.1, c < 0x110000) : CmpN 4 (encTL r) := by
  refine CmpN.tup fun d hd => ?_
  simp only [List.mem_cons, List.not_mem_nil, or_false] at hd
  rcases hd with rfl | rfl
  · refine CmpN.tup fun d hd => ?_
    obtain ⟨t, ht, rfl⟩ := List.mem_map.mp hd
    exact .str (h t ht)
  · refine CmpN.tup fun d hd => ?_
    obtain ⟨l, hl, rfl⟩ := List.mem_map.mp hd
    refine CmpN.tup fun d hd => ?_
    simp only [List.mem_cons, List.not_mem_nil, or_false] at hd
    rcases hd with rfl | rfl
    · exact .str (h2 l hl)
    · refine CmpN.tup fun d hd => ?_
      obtain ⟨i, hi, rfl⟩ := List.mem_map.mp hd
      exact .int
def lowR (r : List It) : Prop := ∀ x ∈ r, match x with
  | .inl c => c < 0x110000
  | .inr l => ∀ c ∈ l.1, c < 0x110000
theorem lowR_enc : ∀ {r : List It}, lowR r → (∀ t ∈ txl r, ∀ c ∈ t, c < 0x110000) ∧ ∀ l ∈ lps r, ∀ c ∈ l.1, c < 0x110000
  | [], _ => by simp [txl, txs, lps]
  | .inl a :: r, h => by
    obtain ⟨h1, h2⟩ := lowR_enc (r := r) fun x hx => h x (by simp [hx])
    have ha : a < 0x110000 := h (.inl a) (by simp)
    refine ⟨fun t ht c hc => ?_, h2⟩
    simp only [txl, txs, List.mem_cons] at ht h1
    rcases ht with rfl | ht
    · rcases List.mem_cons.mp hc with rfl | hc
      · exact ha
      · exact h1 _ (.inl rfl) c hc
    · exact h1 t (.inr ht) c hc
  | .inr l :: r, h => by
    obtain ⟨h1, h2⟩ := lowR_enc (r := r) fun x hx => h x (by simp [hx])
    have ha := h (.inr l) (by simp)
    refine ⟨fun t ht c hc => ?_, fun l' hl' => ?_⟩
    · simp only [txl, txs, List.mem_cons] at ht h1
      rcases ht with rfl | ht
      · simp at hc
      · exact h1 t ht c hc
    · simp only [lps, List.mem_cons] at hl'
      rcases hl' with rfl | hl'
      · exact ha
      · exact h2 l' hl'
theorem lowR_cmp {r : List It} (h : lowR r) : CmpN 4 (encTL r) := low_enc (lowR_enc h).1 (lowR_enc h).2
theorem encTL_nil {r : List It} (h : encTL r = encTL []) : r = [] := by
  unfold encTL encTx encLs at h
  simp only [D.tup.injEq, List.cons.injEq, and_true] at h
  obtain ⟨h1, h2⟩ := h
  cases r with
  | nil => rfl
  | cons x r =>
    cases x with
    | inl c =>
      simp [txl, txs] at h1
    | inr l => simp [lps] at h2
mutual
theorem lowR_row {m : Nat} : ∀ (p : Pg) (d : Nat) (b : Bool), wfP m p d b → lowR (rowP p)
  | .text w, d, b, h => by
    rw [wfP] at h
    rw [rowP]
    intro x hx
    obtain ⟨c, hc, rfl⟩ := List.mem_map.mp hx
    exact h c hc
  | .loop f ps, d, b, h => by
    rw [wfP] at h
    have ih := lowR_rows ps _ _ h.2.2.2.2
    rw [rowP]
    split
    · intro x hx; simp at hx
    · split
      · split
        · intro x hx; simp at hx
        · intro x hx
          rw [List.mem_singleton.mp hx]
          exact (lowR_enc ih).1 _ (by simp [txl])
      · intro x hx
        obtain ⟨ys, h1, h2⟩ := List.mem_flatten.mp hx
        rw [(List.mem_replicate.mp h1).2] at h2
        exact ih x h2
theorem lowR_rows {m : Nat} : ∀ (ps : List Pg) (d : Nat) (b : Bool), wfPs m ps d b → lowR (rowPs ps)
  | [], d, b, h => by intro x hx; simp [rowPs] at hx
  | p :: ps, d, b, h => by
    rw [wfPs] at h
    rw [rowPs]
    intro x hx
    rcases List.mem_append.mp hx with hx | hx
    · exact lowR_row p d b h.1 x hx
    · exact lowR_rows ps d b h.2 x hx
end
mutual
theorem shutR {m : Nat} : ∀ (p : Pg) (d : Nat), wfP m p d false → ∃ w : List Nat, rowP p = w.map .inl
  | .text w, d, h => ⟨w, by rw [rowP]⟩
  | .loop f ps, d, h => by
    rw [wfP] at h
    have ho : isOpen f = false := by
      cases e : isOpen f with
      | false => rfl
      | true => have := h.2.2.2.1 e; cases this
    obtain ⟨w, hw⟩ := shutRs ps (d - 1) (by simpa using h.2.2.2.2)
    rw [rowP, ho, hw]
    split
    · exact ⟨[], rfl⟩
    · refine ⟨(List.replicate (f.headD 0).toNat w).flatten, ?_⟩
      simp [List.map_flatten, List.map_replicate]
theorem shutRs {m : Nat} : ∀ (ps : List Pg) (d : Nat), wfPs m ps d false → ∃ w : List Nat, rowPs ps = w.map .inl
  | [], d, h => ⟨[], rfl⟩
  | p :: ps, d, h => by
    rw [wfPs] at h
    obtain ⟨w, hw⟩ := shutR p d h.1
    obtain ⟨u, hu⟩ := shutRs ps d h.2
    exact ⟨w ++ u, by rw [rowPs, hw, hu, List.map_append]⟩
end
theorem rsize_map (w : List Nat) : rsize (w.map .inl) = w.length := by
  induction w with
  | nil => rfl
  | cons c w ih => simp [rsize, ih]
def sPartR (n : Nat) : Spec2 := fun ds g Q => ∃ (p : Pg) (m d : Nat) (b : Bool), ds = [encP p] ∧ wfP m p d b ∧ d < n ∧ rsize (rowP p) ≤ 15000000 ∧ Q (encTL (rowP p)) g
def sPartsR (n : Nat) : Spec2 := fun ds g Q => ∃ (ps : List Pg) (m d : Nat) (b : Bool), ds = [.tup (encPs ps)] ∧ wfPs m ps d b ∧ d < n ∧ rsize (rowPs ps) ≤ 15000000 ∧ Q (encTL (rowPs ps)) g
theorem encTL_sing (w : List Nat) (f : List Int) : encTL [.inr (w, f)] = .tup [.tup [.str [], .str []], .tup [.tup [.str w, .tup (f.map .int)]]] := rfl
abbrev LpR (n : Nat) : List (Str × Spec2) := [("parts_row", sPartsR n), ("is_open", sOpen), ("fixed_row", sFixed), ("behind", sBehind)]
theorem rng_lenN (n : Nat) : (rngD 0 (n : Int)).length = n := by simp [rngD]
theorem part_loop (n N : Nat) {NX : En → Nat → Prop} {RT : QK} {A B o : Option D} {inner : List It} {g : Nat} (hz : N * rsize inner ≤ 15000000) (hE : ∀ o, NX [A, B, some (encTL inner), some (encTL (List.replicate N inner).flatten), o] g) :
    forV (fun x env g N' => OkS (tab2 (LpR n)) [] ir_part_row_b4 { nx := N', ct := N', bk := NX, rt := RT } (env.set 4 (some x)) g) NX (rngD 0 (N : Int)) [A, B, some (encTL inner), some (encTL []), o] g := by
  refine forV_inv (fun xs env g' => g' = g ∧ ∃ j o, j + xs.length = N ∧ env = [A, B, some (encTL inner), some (encTL (List.replicate j inner).flatten), o]) _ _ _ ⟨rfl, 0, o, by rw [rng_lenN]; omega, rfl⟩ ?_ ?_
  · rintro x r env g' N' ⟨rfl, j, o, hj, rfl⟩ hN
    unfold ir_part_row_b4
    refine ok_cons (ok_asg rfl ?_)
    simp only [wqE, wqA, wqP_v, ownB, Bool.not_false, Bool.or_true, tab2_q, List.getElem?_cons_zero, List.getElem?_cons_succ, List.set_cons_zero, List.set_cons_succ, Option.some.injEq, exists_eq_left', Option.map_some, true_and]
    have h1 : (List.replicate j inner).flatten.length ≤ j * rsize inner := by
      rw [len_rep]; exact Nat.mul_le_mul_left _ (len_rsize _)
    have h2 : (j + 1) * rsize inner ≤ N * rsize inner := Nat.mul_le_mul_right _ (by rw [List.length_cons] at hj; omega)
    rw [Nat.succ_mul] at h2
    have h3 := len_rsize inner
    refine ⟨_, _, rfl, by omega, ?_⟩
    refine ok_nil (hN _ _ ⟨rfl, j + 1, some x, by rw [List.length_cons] at hj; omega, ?_⟩)
    rw [List.replicate_succ', List.flatten_append]
    simp
  · rintro env g' ⟨rfl, j, o, hj, rfl⟩
    rw [List.length_nil, Nat.add_zero] at hj
    subst hj
    exact hE _
theorem q_part_row (n : Nat) : ∀ ds g Q, sPartR (n + 1) ds g Q → OkS (tab2 (LpR n)) [] ir_part_row { nx := fun _ g' => Q .non g', rt := Q } (startD ["part", "form", "inner", "found", "turn"] ds) g := by
  rintro ds g Q ⟨p, m, d, b, rfl, hw, hd, hz, k⟩
  rw [show startD ["part", "form", "inner", "found", "turn"] [encP p] = [some (encP p), none, none, none, none] from rfl]
  have low := lowR_row p d b hw
  unfold ir_part_row
  refine ok_cons (ok_iff ?_)
  cases p with
  | text w =>
    simp only [encP, wqE, wqT, idxV_t, flatD_i, flatD_s, cmpV_Eq, eqV_ss, ownB, Bool.not_false, Bool.or_self, List.getElem?_cons_zero, Option.some.injEq, exists_eq_left', Bool.false_xor, D.bl.injEq, atI_0, true_and, decide_eq_true_eq]
    simp only [if_true]
    unfold ir_part_row_b1
    refine ok_cons (ok_ret ?_)
    simp only [wqE, wqA, idxV_t, flatD_i, ownB, Bool.not_false, Bool.or_self, tab2_q, List.getElem?_cons_zero, List.getElem?_cons_succ, Option.some.injEq, exists_eq_left', Option.map_some, atI_1, true_and]
    exact ⟨w, rfl, k⟩
  | loop f ps =>
    simp only [encP, wqE, wqT, idxV_t, flatD_i, flatD_s, cmpV_Eq, eqV_ss, ownB, Bool.not_false, Bool.or_self, List.getElem?_cons_zero, Option.some.injEq, exists_eq_left', Bool.false_xor, D.bl.injEq, atI_0, true_and, decide_eq_true_eq]
    rw [if_neg (by simp)]
    refine ok_nil ?_
    rw [wfP] at hw
    obtain ⟨hd0, hf, hi, ho, hps⟩ := hw
    have lowI := lowR_rows ps _ _ hps
    have hcmp := lowR_cmp lowI
    have hcmp0 : CmpN 4 (encTL []) := lowR_cmp (fun x hx => by simp at hx)
    obtain ⟨c, r, rfl⟩ : ∃ c r, f = c :: r := by cases f with | nil => simp at hf | cons c r => exact ⟨c, r, rfl⟩
    have hc0 : 0 ≤ c := hi c (by simp)
    rw [rowP] at k hz
    unfold ir_part_row_1
    refine ok_cons (ok_asg rfl ?_)
    simp only [wqE, idxV_t, flatD_i, wqP_v, ownB, Bool.not_false, Bool.or_self, List.getElem?_cons_zero, List.set_cons_zero, List.set_cons_succ, Option.some.injEq, exists_eq_left', atI_1, true_and]
    unfold ir_part_row_2
    refine ok_cons (ok_iff ?_)
    simp only [wqE, wqT, wqA, truthV_b, biV_any_t, ownB, Bool.not_false, Bool.or_self, List.getElem?_cons_zero, List.getElem?_cons_succ, Option.some.injEq, exists_eq_left', true_and]
    refine ⟨_, trus_ints _, ?_⟩
    rw [any_bs]
    cases hany : (c :: r).any (· != 0) with
    | false =>
      simp only [Bool.not_false, if_true]
      rw [hany, if_pos rfl] at k
      unfold ir_part_row_b2
      refine ok_cons (ok_ret ?_)
      simp only [wqE, wqA, flatD_s, tab2_q, List.getElem?_cons_zero, List.getElem?_cons_succ, Option.some.injEq, exists_eq_left', Option.map_some, true_and]
      exact ⟨[], rfl, k⟩
    | true =>
      simp only [Bool.not_true, Bool.false_eq_true, if_false]
      rw [hany, if_neg (by decide)] at k hz
      refine ok_nil ?_
      unfold ir_part_row_3
      refine ok_cons (ok_asg rfl ?_)
      simp only [wqE, wqA, idxV_t, flatD_i, wqP_v, ownB, Bool.not_false, Bool.or_self, tab2_q, List.getElem?_cons_zero, List.set_cons_zero, List.set_cons_succ, Option.some.injEq, exists_eq_left', Option.map_some, atI_2, true_and]
      have hsz : rsize (rowPs ps) ≤ 15000000 := by
        split at hz
        · rename_i h1
          split at hz
          · rename_i h0; rw [h0]; simp [rsize]
          · rw [h1] at hps
            obtain ⟨w, hw⟩ := shutRs ps (d - 1) (by simpa using hps)
            rw [hw] at hz ⊢
            rw [rsize_map]
            simp only [rsize, txs_map] at hz
            omega
        · rename_i h1
          rw [rsize_rep, List.headD_cons] at hz
          have hc1 : 1 ≤ c.toNat := by
            have : isOpen (c :: r) = false := by simpa using h1
            simp only [isOpen, List.tail_cons] at this
            rw [List.any_cons, this, Bool.or_false] at hany
            have : c ≠ 0 := by simpa using hany
            omega
          have : 1 * rsize (rowPs ps) ≤ c.toNat * rsize (rowPs ps) := Nat.mul_le_mul_right _ hc1
          omega
      refine ⟨ps, m, d - 1, _, rfl, hps, by omega, hsz, ?_⟩
      unfold ir_part_row_4
      refine ok_cons (ok_iff ?_)
      simp only [wqE, wqT, wqA, ownB, Bool.not_false, Bool.or_true, tab2_q, List.getElem?_cons_zero, List.getElem?_cons_succ, Option.some.injEq, exists_eq_left', Option.map_some, true_and]
      refine ⟨c :: r, rfl, ?_⟩
      simp only [truthV]
      cases hop : isOpen (c :: r) with
      | true =>
        simp only [if_true]
        rw [hop, if_pos rfl] at k
        unfold ir_part_row_b3
        refine ok_cons (ok_ret ?_)
        simp only [wqE, wqT, wqA, flatD_i, flatD_s, cmpV_Eq, ownB, Bool.not_false, Bool.or_self, Bool.or_true, tab2_q, List.getElem?_cons_zero, List.getElem?_cons_succ, Option.some.injEq, exists_eq_left', Option.map_some, true_and]
        refine ⟨[], rfl, ?_⟩
        refine eqV_of hcmp hcmp0 (by decide) (by decide) fun t ht => ⟨_, rfl, ?_⟩
        rw [Bool.false_xor]
        cases t with
        | true =>
          simp only [if_true]
          have e := encTL_nil (ht.mp rfl)
          rw [if_pos e] at k
          exact ⟨[], rfl, k⟩
        | false =>
          simp only [Bool.false_eq_true, if_false]
          have hne : rowPs ps ≠ [] := fun e => by rw [e] at ht; simp at ht
          rw [if_neg hne, encTL_sing] at k
          simp only [encTL, encTx, txl, List.map_cons, idxV_t, Option.some.injEq, exists_eq_left', atI_0]
          exact ⟨by simp, by simp, by simp, by simp, k⟩
      | false =>
        simp only [Bool.false_eq_true, if_false]
        rw [hop, if_neg (by decide)] at k hz
        rw [List.headD_cons] at k hz
        rw [rsize_rep] at hz
        refine ok_nil ?_
        unfold ir_part_row_5
        refine ok_cons (ok_asg rfl ?_)
        simp only [wqE, wqA, flatD_s, wqP_v, tab2_q, List.getElem?_cons_zero, List.getElem?_cons_succ, List.set_cons_zero, List.set_cons_succ, Option.some.injEq, exists_eq_left', Option.map_some, true_and]
        refine ⟨[], rfl, ?_⟩
        unfold ir_part_row_6
        refine ok_cons (ok_loop rfl ?_)
        simp only [wqE, wqT, wqA, wqI, idxV_t, rng1V_i, flatD_i, flatD_s, cmpV_NotEq, wqP_v, ownB, Bool.not_false, Bool.or_self, tab2_q, List.getElem?_cons_zero, List.getElem?_cons_succ, Option.some.injEq, exists_eq_left', Option.map_some, true_and]
        refine ⟨[], rfl, ?_⟩
        refine eqV_of hcmp hcmp0 (by decide) (by decide) fun t ht => ⟨_, rfl, ?_⟩
        rw [Bool.true_xor]
        have hc2 : rowPs ps ≠ [] → c.toNat ≤ 15000000 := fun hne => by
          have h1 : 1 ≤ rsize (rowPs ps) := Nat.le_trans (List.length_pos_iff.mpr hne) (len_rsize _)
          have h2 : c.toNat * 1 ≤ c.toNat * rsize (rowPs ps) := Nat.mul_le_mul_left _ h1
          omega
        have fin : ∀ (N : Nat), (List.replicate N (rowPs ps)).flatten = (List.replicate c.toNat (rowPs ps)).flatten → ∀ o, OkS (tab2 (LpR n)) [] ir_part_row_7 { nx := fun _ g' => Q .non g', rt := Q } [some (.tup [.str [108, 111, 111, 112], .tup ((c :: r).map .int), .tup (encPs ps)]), some (.tup ((c :: r).map .int)), some (encTL (rowPs ps)), some (encTL (List.replicate N (rowPs ps)).flatten), o] g := fun N hN o => by
          unfold ir_part_row_7
          refine ok_cons (ok_ret ?_)
          simp only [wqE, ownB, Bool.not_false, Bool.or_true, List.getElem?_cons_zero, List.getElem?_cons_succ, Option.some.injEq, exists_eq_left', true_and]
          rw [hN]; exact k
        cases t with
        | true =>
          simp only [Bool.not_true, Bool.false_eq_true, if_false]
          have e := encTL_nil (ht.mp rfl)
          refine ⟨small_of (by decide) (by decide), part_loop n 0 (by omega) (fin 0 ?_)⟩
          rw [e]; simp
        | false =>
          simp only [Bool.not_false, if_true, List.map_cons, Option.some.injEq, exists_eq_left', atI_0]
          have hne : rowPs ps ≠ [] := fun e => by rw [e] at ht; simp at ht
          have hc3 := hc2 hne
          obtain ⟨N, rfl⟩ := Int.eq_ofNat_of_zero_le hc0
          exact ⟨small_of (by omega) (by simp at hc3; omega), part_loop n N (by simpa using hz) (fin N rfl)⟩
abbrev LpsR (n : Nat) : List (Str × Spec2) := [("fixed_row", sFixed), ("behind", sBehind), ("part_row", sPartR n)]
theorem q_parts_row (n : Nat) : ∀ ds g Q, sPartsR n ds g Q → OkS (tab2 (LpsR n)) [] ir_parts_row { nx := fun _ g' => Q .non g', rt := Q } (startD ["parts", "found", "part"] ds) g := by
  rintro ds g Q ⟨ps, m, d, b, rfl, hw, hd, hz, k⟩
  rw [show startD ["parts", "found", "part"] [.tup (encPs ps)] = [some (.tup (encPs ps)), none, none] from rfl]
  unfold ir_parts_row
  refine ok_cons (ok_asg rfl ?_)
  simp only [wqE, wqA, flatD_s, wqP_v, tab2_q, List.getElem?_cons_zero, List.set_cons_zero, List.set_cons_succ, Option.some.injEq, exists_eq_left', Option.map_some, true_and]
  refine ⟨[], rfl, ?_⟩
  unfold ir_parts_row_1
  refine ok_cons (ok_loop rfl ?_)
  simp only [wqE, wqI, itV_t, wqP_v, ownB, Bool.not_false, Bool.or_true, List.getElem?_cons_zero, Option.some.injEq, exists_eq_left', true_and]
  refine forV_inv (fun xs env g' => g' = g ∧ ∃ dn rs o, dn ++ rs = ps ∧ xs = encPs rs ∧ env = [some (.tup (encPs ps)), some (encTL (rowPs dn)), o]) _ _ _ ⟨rfl, [], ps, none, rfl, rfl, rfl⟩ ?_ ?_
  · rintro x r env g' N' ⟨rfl, dn, rs, o, hps, hr, rfl⟩ hN
    cases rs with
    | nil => rw [encPs] at hr; cases hr
    | cons y rs =>
      rw [encPs] at hr
      cases hr
      have e1 : rsize (rowPs ps) = rsize (rowPs dn) + (rsize (rowP y) + rsize (rowPs rs)) := by rw [← hps, rowPs_app, rsize_app, rowPs, rsize_app]
      have hy : wfP m y d b := by
        have : ∀ (xs : List Pg), wfPs m (xs ++ y :: rs) d b → wfP m y d b := fun xs => by
          induction xs with
          | nil => intro h; rw [List.nil_append, wfPs] at h; exact h.1
          | cons z zs ih => intro h; rw [List.cons_append, wfPs] at h; exact ih h.2
        exact this dn (by rw [hps]; exact hw)
      have l1 := len_rsize (rowPs dn)
      have l2 := len_rsize (rowP y)
      unfold ir_parts_row_b1
      refine ok_cons (ok_asg rfl ?_)
      simp only [wqE, wqA, wqP_v, ownB, Bool.not_false, Bool.or_true, tab2_q, List.getElem?_cons_zero, List.getElem?_cons_succ, List.set_cons_zero, List.set_cons_succ, Option.some.injEq, exists_eq_left', Option.map_some, true_and]
      refine ⟨y, m, d, b, rfl, hy, hd, by omega, _, _, rfl, by omega, ?_⟩
      refine ok_nil (hN _ _ ⟨rfl, dn ++ [y], rs, some (encP y), by rw [← hps]; simp, rfl, ?_⟩)
      rw [rowPs_app]
      simp [rowPs]
  · rintro env g' ⟨rfl, dn, rs, o, hps, hr, rfl⟩
    cases rs with
    | cons y rs => rw [encPs] at hr; cases hr
    | nil =>
      rw [List.append_nil] at hps
      subst hps
      unfold ir_parts_row_2
      refine ok_cons (ok_ret ?_)
      simp only [wqE, ownB, Bool.not_false, Bool.or_true, List.getElem?_cons_zero, List.getElem?_cons_succ, Option.some.injEq, exists_eq_left', true_and]
      exact k
end G57
set_option Elab.async false
set_option linter.all false
set_option maxRecDepth 100000
set_option maxHeartbeats 800000
namespace G57
open PySem L2
def wB (xs : List Int) : Prop := ∀ x ∈ xs, x.natAbs < 2 ^ 4000
theorem cmul_B {i j : Int} (hi : i.natAbs < 2 ^ 10000) (hj : j.natAbs < 2 ^ 10000) : CMulW i j := wide_mul hi hj (by decide) (by decide) (by decide)
theorem lt_B {i : Nat} {n m : Nat} (h : i < 2 ^ n) (hn : n ≤ m) : i < 2 ^ m := Nat.lt_of_lt_of_le h (Nat.pow_le_pow_right (by decide) hn)
abbrev Run := List Nat × Int
def runT (x : Run) : List Nat := (List.replicate x.2.toNat x.1).flatten
def itTx (ns : List Int) : It → List Nat
  | .inl c => [c]
  | .inr l => runT (l.1, valF l.2 ns)
def rowT (ns : List Int) : List It → List Nat
  | [] => []
  | x :: r => itTx ns x ++ rowT ns r
theorem runT_1 (w : List Nat) : runT (w, 1) = w := by simp [runT]
structure OkR (m : Nat) (r : List It) : Prop where
  sz : rsize r ≤ 5000000
  fm : ∀ l ∈ lps r, l.2.length = m + 1 ∧ wB l.2
  ne : ∀ l ∈ lps r, l.1 ≠ []
  low : lowR r
theorem zip_tl : ∀ (ts : List (List Nat)) (ls : List Lp), zipD (ts.map .str) (ls.map encLp) = (ts.zip ls).map fun y => .tup [.str y.1, encLp y.2]
  | [], _ => by simp [zipD]
  | t :: ts, [] => by simp [zipD]
  | t :: ts, l :: ls => by simp [zipD, zip_tl ts ls]
theorem fm_filter {α β : Type} (p : α → Bool) (f : α → β) (xs : List α) : xs.filterMap (fun x => if p x = true then some (f x) else none) = (xs.filter p).map f := by
  induction xs with
  | nil => rfl
  | cons x xs ih => cases h : p x <;> simp [h, ih]
theorem rep_get (w : List Nat) (hw : w ≠ []) : ∀ (n i : Nat), i < n * w.length → (List.replicate n w).flatten[i]? = w[i % w.length]?
  | 0, i, h => by omega
  | n + 1, i, h => by
    rw [List.replicate_succ, List.flatten_cons]
    have hp : 0 < w.length := List.length_pos_iff.mpr hw
    by_cases hi : i < w.length
    · rw [List.getElem?_append_left hi, Nat.mod_eq_of_lt hi]
    · rw [List.getElem?_append_right (by omega), rep_get w hw n (i - w.length) (by rw [Nat.succ_mul] at h; omega)]
      congr 1
      conv => rhs; rw [show i = i - w.length + w.length by omega, Nat.add_mod_right]
end G57
set_option Elab.async false
set_option linter.all false
set_option maxRecDepth 100000
set_option maxHeartbeats 800000
namespace G57
open PySem L2
structure Sh (n k : Nat) (d : D) : Prop where
  pr : pureD d = true
  ok : okD n d = true
  ins : inB 40 d
  sz : rsz 40 d ≤ k
theorem Sh.int {n : Nat} {i : Int} (h : i.natAbs < 10 ^ 40) : Sh n 41 (.int i) := ⟨by simp [pureD], by cases n <;> simp [okD], by simpa only [inB] using h, by simp only [rsz]; omega⟩
theorem Sh.non {n : Nat} : Sh n 5 .non := ⟨by simp [pureD], by cases n <;> simp [okD], by simp only [inB], by simp only [rsz]; omega⟩
theorem Sh.bl {n : Nat} {b : Bool} : Sh n 5 (.bl b) := ⟨by simp [pureD], by cases n <;> simp [okD], by simp only [inB], by simp only [rsz]; omega⟩
theorem Sh.str {n k : Nat} {x : List Nat} (h : ∀ c ∈ x, c < 0x110000) (hk : x.length ≤ k) : Sh n (10 * k + 2) (.str x) := ⟨by simp [pureD], by cases n <;> simpa [okD] using h, by simp only [inB], by simp only [rsz]; omega⟩
theorem insB_of {B : Nat} : ∀ {ds : List D}, (∀ d ∈ ds, inB B d) → insB B ds
  | [], _ => by simp [insB]
  | d :: ds, h => by simp only [insB]; exact ⟨h d (by simp), insB_of fun e he => h e (by simp [he])⟩
theorem rszs_of {B k : Nat} : ∀ {ds : List D}, (∀ d ∈ ds, rsz B d ≤ k) → rszs B ds ≤ ds.length * (k + 2)
  | [], _ => by simp [rszs]
  | d :: ds, h => by
    have a := h d (by simp)
    have b := rszs_of (ds := ds) fun e he => h e (by simp [he])
    simp only [rszs, List.length_cons, Nat.succ_mul]; omega
theorem Sh.tup {n k m : Nat} {ds : List D} (h : ∀ d ∈ ds, Sh n k d) (hm : ds.length ≤ m) : Sh (n + 1) (m * (k + 2) + 3) (.tup ds) :=
  ⟨by simp only [pureD]; exact pures_of fun d hd => (h d hd).pr, by simp only [okD]; exact oks_of fun d hd => (h d hd).ok, by simp only [inB]; exact insB_of fun d hd => (h d hd).ins, by
    have a := rszs_of (B := 40) (k := k) fun d hd => (h d hd).sz
    have b : ds.length * (k + 2) ≤ m * (k + 2) := Nat.mul_le_mul_right _ hm
    simp only [rsz]; omega⟩
theorem Sh.up {n k n' k' : Nat} {d : D} (h : Sh n k d) (hn : n ≤ n') (hk : k ≤ k') : Sh n' k' d := ⟨h.pr, ok_le hn h.ok, h.ins, Nat.le_trans h.sz hk⟩
theorem Sh.two {n k l : Nat} {a b : D} (ha : Sh n k a) (hb : Sh n l b) : Sh (n + 1) (k + l + 7) (.tup [a, b]) :=
  ⟨by simp only [pureD, puresD, ha.pr, hb.pr]; rfl, by simp only [okD, oksD, ha.ok, hb.ok]; rfl, by simp only [inB, insB]; exact ⟨ha.ins, hb.ins, trivial⟩, by have a := ha.sz; have b := hb.sz; simp only [rsz, rszs]; omega⟩
theorem biV_reprL {n k m : Nat} {ds : List D} {R : RK} (h : ∀ d ∈ ds, Sh n k d) (hm : ds.length ≤ m) (hn : n ≤ 40) (hk : m * (k + 2) + 3 ≤ 16777216) (r : R (.str (rtxt (py (.rol ds))))) : biV .repr [.rol ds] R := by
  have o : oksD n ds = true := oks_of fun d hd => (h d hd).ok
  have i : insB 40 ds := insB_of fun d hd => (h d hd).ins
  have e1 : okV (.rol ds) = true := by
    simp only [okV, Bool.and_eq_true]; exact ⟨pures_of fun d hd => (h d hd).pr, oks_le hn o⟩
  have e2 : shV (.rol ds) = true := shs_of 40 (by decide) ds i
  have e3 : (py (.rol ds)).shown.length ≤ 16777216 := by
    have a := shown_rsz 40 (by decide) (.rol ds) (n + 1) (by simp only [okD]; exact o) (by simp only [inB]; exact i)
    have b := rszs_of (B := 40) (k := k) fun d hd => (h d hd).sz
    have c : ds.length * (k + 2) ≤ m * (k + 2) := Nat.mul_le_mul_right _ hm
    simp only [rsz] at a
    omega
  exact ⟨e1, e2, e3, r⟩
theorem Sh.ints {n k : Nat} {f : List Int} (h : ∀ i ∈ f, i.natAbs < 10 ^ 40) (hk : f.length ≤ k) : Sh (n + 1) (k * 43 + 3) (.tup (f.map .int)) :=
  .tup (fun d hd => by obtain ⟨i, hi, rfl⟩ := List.mem_map.mp hd; exact .int (h i hi)) (by simpa using hk)
section
variable {P : Program} {w : World} {K : PySem.W.Frag} {mg : Str → Option Value} {base : Heap} {k : Nat}
end
def sOne : Spec2 := fun ds g Q => ∃ (d : D) (xs : List D), ds = [dck, d] ∧ itV d = some xs ∧ xs ≠ [] ∧ xs.length ≤ 16777216 ∧ 1 ≤ g ∧ ∀ x ∈ xs, Q x (g - 1)
theorem q_one : ∀ ds g Q, sOne ds g Q → OkS (tab2 [("_law_draw", sDraw)]) [] ir_l_one { nx := fun _ g' => Q .non g', rt := Q } (startD ["_law_deck_here", "_law_items"] ds) g := by
  rintro ds g Q ⟨d, xs, rfl, hi, hne, hl, hg, k⟩
  rw [show startD ["_law_deck_here", "_law_items"] [dck, d] = [some dck, some d] from rfl]
  have hz : 0 < xs.length := List.length_pos_iff.mpr hne
  unfold ir_l_one
  refine ok_cons (ok_ret ?_)
  cases d with
  | str x =>
    cases hi
    rw [List.length_map] at hl hz
    simp only [wqE, wqA, biV_len_s, ownB, Bool.not_false, Bool.or_self, Bool.or_true, tab2_q, List.getElem?_cons_zero, List.getElem?_cons_succ, Option.some.injEq, exists_eq_left', Option.map_some, true_and]
    refine ⟨hl, _, rfl, by omega, by omega, hg, fun r h0 h1 => ?_⟩
    obtain ⟨c, e1, e2⟩ := pick h0 h1
    simp only [idxV_s]
    exact ⟨hl, c, e1, k _ (List.mem_map.mpr ⟨c, e2, rfl⟩)⟩
  | tup es =>
    cases hi
    simp only [wqE, wqA, biV_len_t, ownB, Bool.not_false, Bool.or_self, Bool.or_true, tab2_q, List.getElem?_cons_zero, List.getElem?_cons_succ, Option.some.injEq, exists_eq_left', Option.map_some, true_and]
    refine ⟨_, rfl, by omega, by omega, hg, fun r h0 h1 => ?_⟩
    obtain ⟨c, e1, e2⟩ := pick h0 h1
    simp only [idxV_t]
    exact ⟨c, e1, k _ e2⟩
  | rol es =>
    cases hi
    simp only [wqE, wqA, biV_len_r, ownB, Bool.not_false, Bool.or_self, Bool.or_true, tab2_q, List.getElem?_cons_zero, List.getElem?_cons_succ, Option.some.injEq, exists_eq_left', Option.map_some, true_and]
    refine ⟨_, rfl, by omega, by omega, hg, fun r h0 h1 => ?_⟩
    obtain ⟨c, e1, e2⟩ := pick h0 h1
    simp only [idxV_r]
    exact ⟨c, e1, k _ e2⟩
  | _ => cases hi
end G57
set_option Elab.async false
set_option linter.all false
set_option maxRecDepth 100000
set_option maxHeartbeats 800000
namespace G57
open PySem L2
def pcRow : Pc → List It
  | (w, none) => w.map .inl
  | (w, some f) => if w = [] then [] else [.inr (w, f)]
def rowOf (xs : List Pc) : List It := (xs.map pcRow).flatten
theorem rowOf_app (xs ys : List Pc) : rowOf (xs ++ ys) = rowOf xs ++ rowOf ys := by simp [rowOf]
theorem rowOf_rep (n : Nat) (xs : List Pc) : rowOf (List.replicate n xs).flatten = (List.replicate n (rowOf xs)).flatten := by
  induction n with
  | zero => rfl
  | succ n ih => rw [List.replicate_succ, List.flatten_cons, rowOf_app, ih, List.replicate_succ, List.flatten_cons]
theorem rowOf_shut : ∀ xs : List Pc, (∀ x ∈ xs, x.2 = none) → rowOf xs = ((xs.map (·.1)).flatten).map .inl
  | [], _ => rfl
  | (w, g) :: xs, h => by
    have hg : g = none := h (w, g) (by simp)
    subst hg
    have ih := rowOf_shut xs fun y hy => h y (by simp [hy])
    unfold rowOf at ih ⊢
    rw [List.map_cons, List.flatten_cons, ih]
    simp [pcRow]
theorem all0 {f : List Int} (h : f.any (· != 0) = false) : isOpen f = false ∧ f.headD 0 = 0 := by
  cases f with
  | nil => exact ⟨rfl, rfl⟩
  | cons c r =>
    rw [List.any_cons, Bool.or_eq_false_iff] at h
    exact ⟨h.2, by simpa using h.1⟩
mutual
theorem row_pcs {m : Nat} : ∀ (p : Pg) (d : Nat) (b : Bool), okP m p d b → rowP p = rowOf (pcsP p)
  | .text w, d, b, h => by rw [rowP, pcsP]; simp [rowOf, pcRow]
  | .loop f ps, d, b, h => by
    rw [okP] at h
    obtain ⟨h0, hf, h1, h3, h4, h5⟩ := h
    have ih := row_pcss ps _ _ h5
    rw [rowP, pcsP, ih]
    split
    · rename_i ha
      obtain ⟨e1, e2⟩ := all0 ha
      rw [e1, if_neg (by decide), e2]
      rfl
    · split
      · rename_i ho
        rw [ho] at h5
        simp only [Bool.not_true, Bool.and_false] at h5
        rw [rowOf_shut _ (shut_pcss ps _ h5)]
        simp only [List.map_eq_nil_iff, txs_map]
        simp [rowOf, pcRow]
      · rw [rowOf_rep]
theorem row_pcss {m : Nat} : ∀ (ps : List Pg) (d : Nat) (b : Bool), okPs m ps d b → rowPs ps = rowOf (pcsPs ps)
  | [], d, b, h => rfl
  | p :: ps, d, b, h => by
    rw [okPs] at h
    rw [rowPs, pcsPs, rowOf_app, row_pcs p d b h.1, row_pcss ps d b h.2]
end
def pcT (ns : List Int) (xs : List Pc) : List Nat := (xs.map fun x => runT (x.1, valC ns x.2)).flatten
theorem pcT_app (ns : List Int) (xs ys : List Pc) : pcT ns (xs ++ ys) = pcT ns xs ++ pcT ns ys := by simp [pcT]
theorem pcT_cons (ns : List Int) (x : Pc) (xs : List Pc) : pcT ns (x :: xs) = runT (x.1, valC ns x.2) ++ pcT ns xs := by simp [pcT]
theorem pcT_rep (ns : List Int) (n : Nat) (xs : List Pc) : pcT ns (List.replicate n xs).flatten = (List.replicate n (pcT ns xs)).flatten := by
  induction n with
  | zero => rfl
  | succ n ih => rw [List.replicate_succ, List.flatten_cons, pcT_app, ih, List.replicate_succ, List.flatten_cons]
theorem pcT_shut (ns : List Int) : ∀ xs : List Pc, (∀ x ∈ xs, x.2 = none) → pcT ns xs = (xs.map (·.1)).flatten
  | [], _ => rfl
  | (w, g) :: xs, h => by
    have hg : g = none := h (w, g) (by simp)
    subst hg
    rw [pcT_cons, pcT_shut ns xs fun y hy => h y (by simp [hy])]
    simp [valC, runT_1]
theorem rowT_app (ns : List Int) : ∀ a b : List It, rowT ns (a ++ b) = rowT ns a ++ rowT ns b
  | [], b => rfl
  | x :: a, b => by rw [List.cons_append, rowT, rowT, rowT_app ns a b, List.append_assoc]
theorem rowT_map (ns : List Int) (w : List Nat) : rowT ns (w.map .inl) = w := by
  induction w with
  | nil => rfl
  | cons c w ih => simp [rowT, itTx, ih]
theorem rowT_rowOf (ns : List Int) : ∀ xs : List Pc, rowT ns (rowOf xs) = pcT ns xs
  | [] => rfl
  | (w, g) :: xs => by
    rw [show rowOf ((w, g) :: xs) = pcRow (w, g) ++ rowOf xs by simp [rowOf], rowT_app, rowT_rowOf ns xs, pcT_cons]
    congr 1
    cases g with
    | none => simp only [pcRow, valC, runT_1, rowT_map]
    | some f =>
      simp only [pcRow, valC]
      split
      · rename_i hw; subst hw; simp [rowT, runT]
      · simp [rowT, itTx]
mutual
theorem wrt_pcs {m : Nat} (ns : List Int) : ∀ (p : Pg) (d : Nat) (b : Bool), okP m p d b → wrt ns p = pcT ns (pcsP p)
  | .text w, d, b, h => by rw [wrt, pcsP]; simp [pcT, valC, runT_1]
  | .loop f ps, d, b, h => by
    rw [okP] at h
    obtain ⟨h0, hf, h1, h3, h4, h5⟩ := h
    have ih := wrts_pcs ns ps _ _ h5
    rw [wrt, pcsP, ih]
    split
    · rename_i ho
      rw [ho] at h5
      simp only [Bool.not_true, Bool.and_false] at h5
      rw [pcT_shut ns _ (shut_pcss ps _ h5)]
      simp [pcT, valC, runT]
    · rename_i ho
      rw [pcT_rep, val_shut (by simpa using ho)]
theorem wrts_pcs {m : Nat} (ns : List Int) : ∀ (ps : List Pg) (d : Nat) (b : Bool), okPs m ps d b → wrts ns ps = pcT ns (pcsPs ps)
  | [], d, b, h => rfl
  | p :: ps, d, b, h => by
    rw [okPs] at h
    rw [wrts, pcsPs, pcT_app, wrt_pcs ns p d b h.1, wrts_pcs ns ps d b h.2]
end
section
variable {m : Nat} {ps : List Pg} (h : OkPg m ps)
include h
theorem OkPg.row : rowPs ps = rowOf (pcsPs ps) := row_pcss ps 3 true h.ok
theorem OkPg.text (ns : List Int) : rowT ns (rowPs ps) = wrts ns ps := by rw [h.row, rowT_rowOf, wrts_pcs ns ps 3 true h.ok]
end
theorem word_rsize : ∀ (r : List It) (l : Lp), l ∈ lps r → l.1.length ≤ rsize r
  | [], l, h => by simp [lps] at h
  | .inl c :: r, l, h => by have := word_rsize r l (by simpa [lps] using h); simp [rsize]; omega
  | .inr k :: r, l, h => by
    simp only [lps, List.mem_cons] at h
    rcases h with rfl | h
    · simp [rsize]; omega
    · have := word_rsize r l h; simp [rsize]; omega
end G57
set_option Elab.async false
set_option linter.all false
set_option maxRecDepth 100000
set_option maxHeartbeats 800000
namespace G57
open PySem L2
def ir_row_program_b1_1 : Sx := .cons (.ex (.mt .append (.var 4) (.cons (.tup (.cons (.con (.str [116, 101, 120, 116])) (.cons (.var 5) (.nil)))) (.nil)))) .nil
def ir_row_program_b1 : Sx := .cons (.ex (.mt .append (.var 4) (.cons (.tup (.cons (.con (.str [108, 111, 111, 112])) (.cons (.var 7) (.cons (.tup (.cons (.tup (.cons (.con (.str [116, 101, 120, 116])) (.cons (.var 6) (.nil)))) (.nil))) (.nil))))) (.nil)))) ir_row_program_b1_1
def ir_row_program_3 : Sx := .cons (.ret (.tup (.cons (.var 1) (.cons (.bi .tuple (.cons (.lc [8] (.v 8) (.iE (.var 4)) (.cons (.cmp .NotEq (.var 8) (.tup (.cons (.con (.str [116, 101, 120, 116])) (.cons (.con (.str [])) (.nil))))) .nil) (.var 8)) (.nil))) (.nil))))) .nil
def ir_row_program_2 : Sx := .cons (.loop (.t (.cons (.v 5) (.cons (.t (.cons (.v 6) (.cons (.v 7) (.nil)))) (.nil)))) (.iZ (.sl (.var 2) (.cons (.con (.int 1)) .nil) (.nil)) (.var 3)) (ir_row_program_b1)) ir_row_program_3
def ir_row_program_1 : Sx := .cons (.asg (.v 4) (.lst (.cons (.tup (.cons (.con (.str [116, 101, 120, 116])) (.cons (.idx (.var 2) (.con (.int 0))) (.nil)))) (.nil)))) ir_row_program_2
def ir_row_program : Sx := .cons (.asg (.t (.cons (.v 1) (.cons (.v 2) (.cons (.v 3) (.nil))))) (.var 0)) ir_row_program_1
mutual
def lwP : Pg → Prop
  | .text w => lowW w ∧ w.length ≤ 16777216
  | .loop _ ps => lwPs ps ∧ ps.length ≤ 16777216
def lwPs : List Pg → Prop
  | [] => True
  | p :: ps => lwP p ∧ lwPs ps
end
mutual
theorem cmp_encP {m : Nat} : ∀ (p : Pg) (d : Nat) (b : Bool), wfP m p d b → CmpN (2 * d + 1) (encP p)
  | .text w, d, b, h => by
    rw [wfP] at h
    rw [encP]
    refine CmpN.tup fun e he => ?_
    simp only [List.mem_cons, List.not_mem_nil, or_false] at he
    rcases he with rfl | rfl
    · exact .str (by decide)
    · exact .str h
  | .loop f ps, d, b, h => by
    rw [wfP] at h
    have ih := cmp_encPs ps _ _ h.2.2.2.2
    rw [encP]
    refine CmpN.tup fun e he => ?_
    simp only [List.mem_cons, List.not_mem_nil, or_false] at he
    rcases he with rfl | rfl | rfl
    · exact .str (by decide)
    · refine (CmpN.tup (n := 0) fun e he => ?_).le (by omega)
      obtain ⟨i, _, rfl⟩ := List.mem_map.mp he
      exact .int
    · exact (CmpN.tup (n := 2 * (d - 1) + 1) ih).le (by omega)
theorem cmp_encPs {m : Nat} : ∀ (ps : List Pg) (d : Nat) (b : Bool), wfPs m ps d b → ∀ e ∈ encPs ps, CmpN (2 * d + 1) e
  | [], d, b, h, e, he => by simp [encPs] at he
  | p :: ps, d, b, h, e, he => by
    rw [wfPs] at h
    rw [encPs] at he
    rcases List.mem_cons.mp he with rfl | he
    · exact cmp_encP p d b h.1
    · exact cmp_encPs ps d b h.2 e he
end
end G57
set_option Elab.async false
set_option linter.all false
set_option maxRecDepth 100000
set_option maxHeartbeats 800000
namespace G57
open PySem L2
def irb_l_word_1 : Sx := .cons (.ret (.call 0 (.cons (.var 0) (.cons (.var 1) (.nil))))) .nil
def irb_l_word : Sx := .cons (.asg (.v 1) (.lst (.cons (.con (.str [97])) (.cons (.con (.str [98])) (.cons (.con (.str [97, 98])) (.cons (.con (.str [98, 97])) (.cons (.con (.str [97, 97])) (.cons (.con (.str [97, 98, 97, 98])) (.cons (.con (.str [97, 97, 98])) (.cons (.con (.str [97, 98, 97])) (.cons (.con (.str [98, 97, 98])) (.cons (.con (.str [99])) (.cons (.con (.str [97, 98, 99])) (.cons (.con (.str [98, 99, 98])) (.cons (.con (.str [98, 97, 98, 97])) (.nil)))))))))))))))) irb_l_word_1
def irb_l_form_b1 : Sx := .cons (.set (.var 3) (.call 1 (.cons (.var 0) (.cons (.var 1) (.nil)))) (.con (.int 1))) .nil
def irb_l_form_2 : Sx := .cons (.ret (.bi .tuple (.cons (.bin .Add (.lst (.cons (.call 0 (.cons (.var 0) (.cons (.lst (.cons (.con (.int 0)) (.cons (.con (.int 0)) (.cons (.con (.int 1)) (.cons (.con (.int 2)) (.cons (.con (.int 3)) (.nil))))))) (.nil)))) (.nil))) (.var 3)) (.nil)))) .nil
def irb_l_form_1 : Sx := .cons (.iff (.and (.cmp .Eq (.var 2) (.con (.int 1))) (.cmp .Eq (.bi .sum (.cons (.var 3) (.nil))) (.con (.int 0)))) (irb_l_form_b1) (.nil)) irb_l_form_2
def irb_l_form : Sx := .cons (.asg (.v 3) (.lc [4] (.v 4) (.iR1 (.var 1)) (.nil) (.bin .Mult (.call 0 (.cons (.var 0) (.cons (.lst (.cons (.con (.int 0)) (.cons (.con (.int 1)) (.cons (.con (.int 1)) (.cons (.con (.int 2)) (.cons (.con (.int 3)) (.nil))))))) (.nil)))) (.var 2)))) irb_l_form_1
def irb_l_parts_b2 : Sx := .cons (.ex (.mt .append (.var 4) (.cons (.tup (.cons (.con (.str [116, 101, 120, 116])) (.cons (.call 1 (.cons (.var 0) (.cons (.lst (.cons (.con (.str [])) (.cons (.call 4 (.cons (.var 0) (.nil))) (.cons (.call 4 (.cons (.var 0) (.nil))) (.nil))))) (.nil)))) (.nil)))) (.nil)))) .nil
def irb_l_parts_b4 : Sx := .cons (.ex (.mt .append (.var 4) (.cons (.tup (.cons (.con (.str [108, 111, 111, 112])) (.cons (.call 2 (.cons (.var 0) (.cons (.var 1) (.cons (.con (.int 1)) (.nil))))) (.cons (.call 3 (.cons (.var 0) (.cons (.var 1) (.cons (.bin .Sub (.var 2) (.con (.int 1))) (.cons (.con (.bl true)) (.nil)))))) (.nil))))) (.nil)))) .nil
def irb_l_parts_b5 : Sx := .cons (.ex (.mt .append (.var 4) (.cons (.tup (.cons (.con (.str [108, 111, 111, 112])) (.cons (.call 2 (.cons (.var 0) (.cons (.var 1) (.cons (.con (.int 0)) (.nil))))) (.cons (.call 3 (.cons (.var 0) (.cons (.var 1) (.cons (.bin .Sub (.var 2) (.con (.int 1))) (.cons (.var 3) (.nil)))))) (.nil))))) (.nil)))) .nil
def irb_l_parts_b3 : Sx := .cons (.iff (.and (.cmp .Lt (.var 6) (.con (.int 6))) (.and (.cmp .Gt (.var 1) (.con (.int 0))) (.not (.var 3)))) (irb_l_parts_b4) (irb_l_parts_b5)) .nil
def irb_l_parts_b1_1 : Sx := .cons (.iff (.or (.cmp .Lt (.var 6) (.con (.int 3))) (.cmp .Eq (.var 2) (.con (.int 0)))) (irb_l_parts_b2) (irb_l_parts_b3)) .nil
def irb_l_parts_b1 : Sx := .cons (.asg (.v 6) (.call 0 (.cons (.var 0) (.cons (.con (.int 7)) (.nil))))) irb_l_parts_b1_1
def irb_l_parts_2 : Sx := .cons (.ret (.bi .tuple (.cons (.var 4) (.nil)))) .nil
def irb_l_parts_1 : Sx := .cons (.loop (.v 5) (.iR1 (.bin .Add (.con (.int 1)) (.call 0 (.cons (.var 0) (.cons (.con (.int 3)) (.nil)))))) (irb_l_parts_b1)) irb_l_parts_2
def irb_l_parts : Sx := .cons (.asg (.v 4) (.lst (.nil))) irb_l_parts_1
def irb_l_row_b2 : Sx := .cons (.set (.var 1) (.neg (.con (.int 1))) (.bin .Add (.idx (.var 1) (.neg (.con (.int 1)))) (.idx (.var 3) (.con (.int 1))))) .nil
def irb_l_row_b5_1 : Sx := .cons (.ex (.mt .append (.var 1) (.cons (.con (.str [])) (.nil)))) .nil
def irb_l_row_b5 : Sx := .cons (.ex (.mt .append (.var 2) (.cons (.tup (.cons (.idx (.idx (.var 4) (.con (.int 0))) (.con (.int 0))) (.cons (.idx (.var 3) (.con (.int 1))) (.nil)))) (.nil)))) irb_l_row_b5_1
def irb_l_row_b4 : Sx := .cons (.iff (.cmp .NotEq (.idx (.idx (.var 4) (.con (.int 0))) (.con (.int 0))) (.con (.str []))) (irb_l_row_b5) (.nil)) .nil
def irb_l_row_b7_2 : Sx := .cons (.ex (.mt .extend (.var 2) (.cons (.idx (.var 4) (.con (.int 1))) (.nil)))) .nil
def irb_l_row_b7_1 : Sx := .cons (.ex (.mt .extend (.var 1) (.cons (.sl (.idx (.var 4) (.con (.int 0))) (.cons (.con (.int 1)) .nil) (.nil)) (.nil)))) irb_l_row_b7_2
def irb_l_row_b7 : Sx := .cons (.set (.var 1) (.neg (.con (.int 1))) (.bin .Add (.idx (.var 1) (.neg (.con (.int 1)))) (.idx (.idx (.var 4) (.con (.int 0))) (.con (.int 0))))) irb_l_row_b7_1
def irb_l_row_b6 : Sx := .cons (.loop (.v 5) (.iR1 (.idx (.idx (.var 3) (.con (.int 1))) (.con (.int 0)))) (irb_l_row_b7)) .nil
def irb_l_row_b3_1 : Sx := .cons (.iff (.cmp .Gt (.bi .sum (.cons (.sl (.idx (.var 3) (.con (.int 1))) (.cons (.con (.int 1)) .nil) (.nil)) (.nil))) (.con (.int 0))) (irb_l_row_b4) (irb_l_row_b6)) .nil
def irb_l_row_b3 : Sx := .cons (.asg (.v 4) (.call 0 (.cons (.idx (.var 3) (.con (.int 2))) (.nil)))) irb_l_row_b3_1
def irb_l_row_b1 : Sx := .cons (.iff (.cmp .Eq (.idx (.var 3) (.con (.int 0))) (.con (.str [116, 101, 120, 116]))) (irb_l_row_b2) (irb_l_row_b3)) .nil
def irb_l_row_2 : Sx := .cons (.ret (.lst (.cons (.var 1) (.cons (.var 2) (.nil))))) .nil
def irb_l_row_1 : Sx := .cons (.loop (.v 3) (.iE (.var 0)) (irb_l_row_b1)) irb_l_row_2
def irb_l_row : Sx := .cons (.asg (.t (.cons (.v 1) (.cons (.v 2) (.nil)))) (.tup (.cons (.lst (.cons (.con (.str [])) (.nil))) (.cons (.lst (.nil)) (.nil))))) irb_l_row_1
def irb_l_size : Sx := .cons (.ret (.bin .Add (.bi .sum (.cons (.lc [2] (.v 2) (.iE (.var 0)) (.nil) (.bi .len (.cons (.var 2) (.nil)))) (.nil))) (.bi .sum (.cons (.lc [3, 4] (.t (.cons (.v 3) (.cons (.v 4) (.nil)))) (.iE (.var 1)) (.nil) (.bin .Mult (.bi .len (.cons (.var 3) (.nil))) (.bin .Add (.con (.int 1)) (.idx (.var 4) (.con (.int 0)))))) (.nil))))) .nil
def irb_l_program_b1_1 : Sx := .cons (.asg (.t (.cons (.v 4) (.cons (.v 5) (.nil)))) (.call 1 (.cons (.var 3) (.nil)))) .nil
def irb_l_program_b1 : Sx := .cons (.asg (.v 3) (.sl (.var 3) (.nil) (.cons (.neg (.con (.int 1))) .nil))) irb_l_program_b1_1
def irb_l_program_3 : Sx := .cons (.ret (.tup (.cons (.tup (.cons (.var 1) (.cons (.var 3) (.nil)))) (.cons (.tup (.cons (.var 1) (.cons (.bi .tuple (.cons (.var 4) (.nil))) (.cons (.bi .tuple (.cons (.var 5) (.nil))) (.nil))))) (.nil))))) .nil
def irb_l_program_2 : Sx := .cons (.wh (.or (.cmp .Gt (.bi .len (.cons (.var 5) (.nil))) (.con (.int 12))) (.cmp .Gt (.call 2 (.cons (.var 4) (.cons (.var 5) (.nil)))) (.var 2))) (irb_l_program_b1)) irb_l_program_3
def irb_l_program_1 : Sx := .cons (.asg (.t (.cons (.v 4) (.cons (.v 5) (.nil)))) (.call 1 (.cons (.var 3) (.nil)))) irb_l_program_2
def irb_l_program : Sx := .cons (.asg (.v 3) (.call 0 (.cons (.var 0) (.cons (.var 1) (.cons (.con (.int 3)) (.cons (.con (.bl false)) (.nil))))))) irb_l_program_1
theorem start_eq {N : List Str} {n : Nat} {ds : List D} (h : N.length = n) : startD N ds = ds.map some ++ List.replicate (n - ds.length) none := by unfold startD; rw [h]
def wOk (w : List Nat) : Prop := w.length ≤ 4 ∧ lowW w
def sWordB : Spec2 := fun ds g Q => ds = [dck] ∧ 1 ≤ g ∧ ∀ w, wOk w → w ≠ [] → Q (.str w) (g - 1)
theorem q_wordB (N : List Str) (hN : N.length = 2) : ∀ ds g Q, sWordB ds g Q → OkS (tab2 [("_law_one", sOne)]) [] irb_l_word { nx := fun _ g' => Q .non g', rt := Q } (startD N ds) g := by
  rintro ds g Q ⟨rfl, hg, k⟩
  rw [start_eq hN, show ([dck].map some ++ List.replicate (2 - [dck].length) none : En) = [some dck, none] from rfl]
  unfold irb_l_word
  refine ok_cons (ok_asg rfl ?_)
  simp only [wqE, wqA, flatD_s, wqP_v, List.set_cons_zero, List.set_cons_succ, true_and]
  refine ⟨by decide, ?_⟩
  unfold irb_l_word_1
  refine ok_cons (ok_ret ?_)
  simp only [wqE, wqA, ownB, Bool.not_false, Bool.or_true, tab2_q, List.getElem?_cons_zero, List.getElem?_cons_succ, Option.some.injEq, exists_eq_left', Option.map_some, true_and, Bool.not_false]
  refine ⟨_, _, rfl, rfl, by simp, by simp, hg, fun x hx => ?_⟩
  simp only [List.mem_cons, List.not_mem_nil, or_false] at hx
  rcases hx with rfl | rfl | rfl | rfl | rfl | rfl | rfl | rfl | rfl | rfl | rfl | rfl | rfl <;> exact k _ ⟨by decide, by unfold lowW; decide⟩ (by decide)
def okFB (m : Nat) (f : List Int) : Prop := f.length = m + 1 ∧ (∀ i ∈ f, 0 ≤ i ∧ i ≤ 3) ∧ f.headD 0 ≤ 3
def sFormB : Spec2 := fun ds g Q => ∃ (m : Nat) (o : Int), ds = [dck, .int m, .int o] ∧ m ≤ 3 ∧ (o = 0 ∨ (o = 1 ∧ 0 < m)) ∧ 5 ≤ g ∧ ∀ f, okFB m f → (isOpen f = decide (o = 1)) → Q (.tup (f.map .int)) (g - 5)
abbrev LfB : List (Str × Spec2) := [("_law_one", sOne), ("_law_draw", sDraw)]
theorem sum_nn : ∀ fs : List Int, (∀ i ∈ fs, 0 ≤ i) → (fs.sum = 0 ↔ fs.any (· != 0) = false) ∧ 0 ≤ fs.sum
  | [], _ => by simp
  | i :: fs, h => by
    obtain ⟨h1, h2⟩ := sum_nn fs fun j hj => h j (by simp [hj])
    have hi := h i (by simp)
    rw [List.sum_cons, List.any_cons]
    constructor
    · rw [Bool.or_eq_false_iff, ← h1]
      simp only [bne_eq_false_iff_eq]
      omega
    · omega
theorem sum_open {f : List Int} (h : ∀ i ∈ f, 0 ≤ i) : decide (0 < f.tail.sum) = isOpen f := by
  obtain ⟨h1, h2⟩ := sum_nn f.tail fun i hi => h i (List.mem_of_mem_tail hi)
  unfold isOpen
  cases e : f.tail.any (· != 0) with
  | false => rw [e] at h1; have := h1.mpr rfl; rw [this]; rfl
  | true =>
    have : f.tail.sum ≠ 0 := fun z => by rw [h1.mp z] at e; cases e
    exact decide_eq_true (by omega)
theorem form_end {m : Nat} {o : Int} {fs : List Int} {g0 g : Nat} {Q : QK} {d4 : Option D} {ir : Sx} {items : List Int} (hl : fs.length = m) (hf : ∀ i ∈ fs, 0 ≤ i ∧ i ≤ 3) (ho : fs.any (· != 0) = decide (o = 1)) (hm : m ≤ 3)
    (hg : g0 + 1 ≤ g) (k : ∀ f, okFB m f → (isOpen f = decide (o = 1)) → Q (.tup (f.map .int)) g0) (c : Int) (hc : 0 ≤ c ∧ c ≤ 3) : Q (.tup (([D.int c]) ++ fs.map .int)) g0 := by
  have := k (c :: fs) ⟨by simp [hl], fun i hi => by
    rcases List.mem_cons.mp hi with rfl | hi
    · omega
    · exact hf i hi, by simpa using hc.2⟩ ho
  exact this
theorem any_set {fs : List Int} {n : Nat} (h : n < fs.length) : (fs.set n 1).any (· != 0) = true := by
  rw [List.any_eq_true]
  exact ⟨1, List.mem_set h 1, by decide⟩
theorem q_formB (N : List Str) (hN : N.length = 5) : ∀ ds g Q, sFormB ds g Q → OkS (tab2 LfB) [3] irb_l_form { nx := fun _ g' => Q .non g', rt := Q } (startD N ds) g := by
  rintro ds g Q ⟨m, o, rfl, hm, ho, hg, k⟩
  rw [start_eq hN, show ([dck, .int m, .int o].map some ++ List.replicate (5 - [dck, D.int m, D.int o].length) none : En) = [some dck, some (.int m), some (.int o), none, none] from rfl]
  unfold irb_l_form
  refine ok_cons (ok_asgO rfl rfl ?_)
  simp only [wqE, wqA, wqC, wqI, rng1V_i, flatD_i, opV_Mult, wqP_v, ownB, Bool.not_false, Nat.reduceBEq, Bool.or_self, Bool.or_true, tab2_q, List.getElem?_cons_zero, List.getElem?_cons_succ, List.set_cons_zero, List.set_cons_succ, Option.some.injEq, exists_eq_left', Option.map_some, true_and, if_true, Bool.not_false]
  refine ⟨small_of (by omega) (by omega), ?_⟩
  have last : ∀ (fs : List Int) (g' : Nat), fs.length = m → (∀ i ∈ fs, 0 ≤ i ∧ i ≤ 3) → fs.any (· != 0) = decide (o = 1) → g - 5 + 1 ≤ g' → OkS (tab2 LfB) [3] irb_l_form_2 { nx := fun _ g' => Q .non g', rt := Q } [some dck, some (.int m), some (.int o), some (.rol (fs.map .int)), none] g' := fun fs g' hl hf ho' hg' => by
    refine ok_less hg' ?_
    unfold irb_l_form_2
    refine ok_cons (ok_ret ?_)
    simp only [wqE, wqA, addV_rr, biV_tuple_r, flatD_i, opV_Add, ownB, Bool.not_false, Bool.or_self, Bool.or_true, tab2_q, List.getElem?_cons_zero, List.getElem?_cons_succ, Option.some.injEq, exists_eq_left', Option.map_some, true_and, Bool.not_false]
    refine ⟨by decide, _, _, rfl, rfl, by simp, by simp, by omega, fun x hx => ?_⟩
    have hx' : ∃ c : Int, x = .int c ∧ 0 ≤ c ∧ c ≤ 3 := by
      simp only [List.mem_cons, List.not_mem_nil, or_false] at hx
      rcases hx with rfl | rfl | rfl | rfl | rfl <;> exact ⟨_, rfl, by decide, by decide⟩
    obtain ⟨c, rfl, hc⟩ := hx'
    simp only []
    refine ⟨by simp, by simp; omega, ?_⟩
    rw [show g - 5 + 1 - 1 = g - 5 by omega]
    exact form_end (g := g) (ir := .nil) (d4 := none) (items := []) hl hf ho' hm (by omega) k c hc
  refine lcV_draw 1 (fun y => ∃ i : Int, y = .int i ∧ 0 ≤ i ∧ i ≤ 3 ∧ (o = 0 → i = 0)) _ _ _ (by rw [rng_lenN]; simp; omega) (by rw [rng_lenN]; omega) (by simp) (fun x hx g1 kk hg1 hk => ?_) (fun ys hl hP => ?_)
  · simp only [wipeD, List.getElem?_cons_zero, List.getElem?_cons_succ, List.set_cons_zero, List.set_cons_succ, Option.some.injEq, exists_eq_left']
    refine ⟨by decide, _, _, rfl, rfl, by simp, by simp, hg1, fun x hx => ?_⟩
    have hx' : ∃ c : Int, x = .int c ∧ 0 ≤ c ∧ c ≤ 3 := by
      simp only [List.mem_cons, List.not_mem_nil, or_false] at hx
      rcases hx with rfl | rfl | rfl | rfl | rfl <;> exact ⟨_, rfl, by decide, by decide⟩
    obtain ⟨c, rfl, hc⟩ := hx'
    simp only [mulV_ii]
    rcases ho with rfl | ⟨rfl, _⟩
    · exact ⟨cmul_of (by omega) (by decide), hk _ ⟨_, rfl, by omega, by omega, fun _ => by omega⟩⟩
    · exact ⟨cmul_of (by omega) (by decide), hk _ ⟨_, rfl, by omega, by omega, fun h => by omega⟩⟩
  · rw [rng_lenN, List.length_nil, Nat.zero_add] at hl
    have hfs : ∃ fs : List Int, ys = fs.map .int ∧ (∀ i ∈ fs, 0 ≤ i ∧ i ≤ 3) ∧ (o = 0 → ∀ i ∈ fs, i = 0) := by
      clear hl
      induction ys with
      | nil => exact ⟨[], rfl, by simp, by simp⟩
      | cons y ys ih =>
        obtain ⟨i, rfl, h1, h2, h3⟩ := hP y (by simp)
        obtain ⟨fs, rfl, h4, h5⟩ := ih fun z hz => hP z (by simp [hz])
        refine ⟨i :: fs, rfl, fun j hj => ?_, fun e j hj => ?_⟩
        · rcases List.mem_cons.mp hj with rfl | hj
          · exact ⟨h1, h2⟩
          · exact h4 j hj
        · rcases List.mem_cons.mp hj with rfl | hj
          · exact h3 e
          · exact h5 e j hj
    obtain ⟨fs, rfl, hf, hf0⟩ := hfs
    rw [List.length_map] at hl
    rw [rng_lenN]
    obtain ⟨s1, s2⟩ := sum_nn fs fun i hi => (hf i hi).1
    refine ⟨_, rfl, ?_⟩
    unfold irb_l_form_1
    refine ok_cons (ok_iff ?_)
    simp only [wqE, wqT, wqA, biV_sum_r, flatD_i, cmpV_Eq, eqV_ii, ownB, Bool.or_false, Bool.not_false, Bool.not_true, Nat.reduceBEq, Bool.or_self, List.getElem?_cons_zero, List.getElem?_cons_succ, Option.some.injEq, exists_eq_left', Bool.false_xor, D.bl.injEq, true_and, decide_eq_true_eq, if_false, Bool.false_eq_true, Bool.not_true, Bool.not_false]
    rcases ho with rfl | ⟨rfl, hm0⟩
    · simp only [show ((0 : Int) = 1) = False from by simp, if_false]
      refine ok_nil (last fs _ hl hf ?_ (by omega))
      rw [show decide ((0 : Int) = 1) = false from rfl, List.any_eq_false]
      intro i hi
      rw [hf0 rfl i hi]; decide
    · simp only [if_true]
      refine ⟨_, intsF_map _, ?_⟩
      by_cases hs : fs.sum = 0
      · rw [if_pos hs]
        unfold irb_l_form_b1
        refine ok_cons (ok_set rfl _ rfl ?_)
        simp only [wqE, wqA, flatD_i, ownB, Bool.not_false, Nat.reduceBEq, Bool.or_self, Bool.or_true, tab2_q, List.getElem?_cons_zero, List.getElem?_cons_succ, List.set_cons_zero, List.set_cons_succ, Option.some.injEq, exists_eq_left', Option.map_some, exists_and_left, true_and, Bool.not_false]
        refine ⟨_, rfl, by omega, by omega, by omega, fun r h0 h1 => ?_⟩
        obtain ⟨j, rfl⟩ := Int.eq_ofNat_of_zero_le h0
        refine ⟨_, rfl, j, ?_, ok_nil ?_⟩
        · unfold ixN
          rw [if_pos (by omega), if_pos (by rw [List.length_map, hl]; omega)]
          simp
        · have e : (fs.map D.int).set j (.int 1) = (fs.set j 1).map .int := by rw [List.map_set]
          rw [e]
          refine last (fs.set j 1) _ (by simpa using hl) (fun i hi => ?_) ?_ (by omega)
          · rcases List.mem_or_eq_of_mem_set hi with h | h
            · exact hf i h
            · rw [h]; omega
          · rw [any_set (by omega)]; rfl
      · rw [if_neg hs]
        refine ok_nil (last fs _ hl hf ?_ (by omega))
        cases e : fs.any (· != 0) with
        | false => exact absurd (s1.mpr e) hs
        | true => rfl
end G57
set_option Elab.async false
set_option linter.all false
set_option maxRecDepth 100000
set_option maxHeartbeats 800000
namespace G57
open PySem L2
mutual
def okQ (m : Nat) : Pg → Nat → Bool → Prop
  | .text w, _, _ => wOk w
  | .loop f ps, d, b => 0 < d ∧ okFB m f ∧ (isOpen f = true → b = true) ∧ ps.length ≤ 3 ∧ okQs m ps (d - 1) (b && !isOpen f)
def okQs (m : Nat) : List Pg → Nat → Bool → Prop
  | [], _, _ => True
  | p :: ps, d, b => okQ m p d b ∧ okQs m ps d b
end
theorem okQs_mem {m d : Nat} {b : Bool} : ∀ {ps : List Pg}, okQs m ps d b → ∀ p ∈ ps, okQ m p d b
  | [], _, p, h => by simp at h
  | q :: ps, h, p, hp => by
    rw [okQs] at h
    rcases List.mem_cons.mp hp with rfl | hp
    · exact h.1
    · exact okQs_mem h.2 p hp
theorem okQs_of {m d : Nat} {b : Bool} : ∀ {ps : List Pg}, (∀ p ∈ ps, okQ m p d b) → okQs m ps d b
  | [], _ => by simp [okQs]
  | q :: ps, h => by rw [okQs]; exact ⟨h q (by simp), okQs_of fun p hp => h p (by simp [hp])⟩
mutual
theorem wf_of_okQ {m : Nat} : ∀ (p : Pg) (d : Nat) (b : Bool), okQ m p d b → wfP m p d b ∧ lwP p
  | .text w, d, b, h => by
    rw [okQ] at h
    rw [wfP, lwP]
    exact ⟨fun c hc => by have := h.2 c hc; omega, h.2, by have := h.1; omega⟩
  | .loop f ps, d, b, h => by
    rw [okQ] at h
    obtain ⟨a1, a2⟩ := wfs_of_okQ ps _ _ h.2.2.2.2
    rw [wfP, lwP]
    exact ⟨⟨h.1, h.2.1.1, fun i hi => (h.2.1.2.1 i hi).1, h.2.2.1, a1⟩, a2, by have := h.2.2.2.1; omega⟩
theorem wfs_of_okQ {m : Nat} : ∀ (ps : List Pg) (d : Nat) (b : Bool), okQs m ps d b → wfPs m ps d b ∧ lwPs ps
  | [], d, b, h => by rw [wfPs, lwPs]; exact ⟨trivial, trivial⟩
  | p :: ps, d, b, h => by
    rw [okQs] at h
    obtain ⟨a1, a2⟩ := wf_of_okQ p d b h.1
    obtain ⟨b1, b2⟩ := wfs_of_okQ ps d b h.2
    rw [wfPs, lwPs]
    exact ⟨⟨a1, b1⟩, a2, b2⟩
end
mutual
theorem bdQ {m : Nat} : ∀ (p : Pg) (d : Nat) (b : Bool), okQ m p d b → rsize (rowP p) ≤ 5 * 34 ^ d
  | .text w, d, b, h => by
    rw [okQ] at h
    have : 1 ≤ 34 ^ d := Nat.one_le_pow _ _ (by decide)
    have := h.1
    rw [rowP, rsize_map]; omega
  | .loop f ps, d, b, h => by
    rw [okQ] at h
    obtain ⟨h0, hf, ho, hl, hps⟩ := h
    obtain ⟨d', rfl⟩ : ∃ d', d = d' + 1 := ⟨d - 1, by omega⟩
    simp only [Nat.add_sub_cancel] at hps
    have ih := bdQs ps _ _ hps
    have i2 : ps.length * (5 * 34 ^ d') ≤ 3 * (5 * 34 ^ d') := Nat.mul_le_mul_right _ hl
    have pw : 34 ^ (d' + 1) = 34 * 34 ^ d' := by rw [Nat.pow_succ, Nat.mul_comm]
    have p1 : 1 ≤ 34 ^ d' := Nat.one_le_pow _ _ (by decide)
    rw [rowP]
    split
    · simp [rsize]
    · split
      · rename_i hop
        rw [hop] at hps
        obtain ⟨w, hw⟩ := shutRs ps d' (by simpa using (wfs_of_okQ ps _ _ hps).1)
        split
        · simp [rsize]
        · rw [hw] at ih ⊢
          rw [rsize_map] at ih
          simp only [rsize, txs_map]
          omega
      · rw [rsize_rep]
        have hc : (f.headD 0).toNat ≤ 11 := by have := hf.2.2; omega
        have := Nat.mul_le_mul_right (rsize (rowPs ps)) hc
        omega
theorem bdQs {m : Nat} : ∀ (ps : List Pg) (d : Nat) (b : Bool), okQs m ps d b → rsize (rowPs ps) ≤ ps.length * (5 * 34 ^ d)
  | [], d, b, h => by simp [rowPs, rsize]
  | p :: ps, d, b, h => by
    rw [okQs] at h
    have a := bdQ p d b h.1
    have c := bdQs ps d b h.2
    rw [rowPs, rsize_app, List.length_cons, Nat.succ_mul]
    omega
end
theorem bdQ3 {m d : Nat} {b : Bool} {ps : List Pg} (h : okQs m ps d b) (hd : d ≤ 3) (hl : ps.length ≤ 3) : rsize (rowPs ps) ≤ 600000 := by
  have a := bdQs ps d b h
  have c : 34 ^ d ≤ 34 ^ 3 := Nat.pow_le_pow_right (by decide) hd
  have e : 34 ^ 3 = 39304 := by decide
  have f : ps.length * (5 * 34 ^ d) ≤ 3 * (5 * 34 ^ d) := Nat.mul_le_mul_right _ hl
  omega
def perB : Nat → Nat
  | 0 => 4
  | d + 1 => 7 + 3 * perB d
def sPartsB (n : Nat) : Spec2 := fun ds g Q => ∃ (m d : Nat) (cl : Bool), ds = [dck, .int m, .int d, .bl cl] ∧ m ≤ 3 ∧ d < n ∧ 1 + 3 * perB d ≤ g ∧ ∀ ps, okQs m ps d (!cl) → ps.length ≤ 3 → Q (.tup (encPs ps)) (g - (1 + 3 * perB d))
abbrev LptB (n : Nat) : List (Str × Spec2) := [("_law_draw", sDraw), ("_law_one", sOne), ("_law_form", sFormB), ("_law_parts", sPartsB n), ("_law_word", sWordB)]
theorem q_partsB (n : Nat) (N : List Str) (hN : N.length = 7) : ∀ ds g Q, sPartsB (n + 1) ds g Q → OkS (tab2 (LptB n)) [4] irb_l_parts { nx := fun _ g' => Q .non g', rt := Q } (startD N ds) g := by
  rintro ds g Q ⟨m, d, cl, rfl, hm, hd, hg, k⟩
  rw [start_eq hN, show ([dck, .int m, .int d, .bl cl].map some ++ List.replicate (7 - [dck, D.int m, D.int d, D.bl cl].length) none : En) = [some dck, some (.int m), some (.int d), some (.bl cl), none, none, none] from rfl]
  have hper : 4 ≤ perB d := by cases d <;> simp [perB]; omega
  unfold irb_l_parts
  refine ok_cons (ok_asgO rfl rfl ?_)
  simp only [wqE, wqA, List.set_cons_zero, List.set_cons_succ]
  refine ⟨by simp, _, rfl, ?_⟩
  unfold irb_l_parts_1
  refine ok_cons (ok_loop rfl ?_)
  simp only [wqE, wqA, wqI, flatD_i, opV_Add, wqP_v, ownB, Bool.not_false, Nat.reduceBEq, Bool.or_self, Bool.or_true, tab2_q, List.getElem?_cons_zero, Option.some.injEq, exists_eq_left', Option.map_some, true_and, Bool.not_false]
  refine ⟨_, rfl, by decide, by decide, by omega, fun r hr0 hr1 => ?_⟩
  simp only [addV_ii, rng1V_i]
  obtain ⟨rn, rfl⟩ := Int.eq_ofNat_of_zero_le hr0
  have hrl : (rngD 0 (1 + (rn : Int))).length = 1 + rn := by simp [rngD]; omega
  refine ⟨small_of (by omega) (by omega), ?_⟩
  refine forV_inv (fun xs env g' => g - (1 + 3 * perB d) + perB d * xs.length ≤ g' ∧ ∃ (ps : List Pg) (o5 o6 : Option D), okQs m ps d (!cl) ∧ ps.length + xs.length ≤ 3 ∧ env = [some dck, some (.int m), some (.int d), some (.bl cl), some (.rol (encPs ps)), o5, o6]) _ _ _ ⟨?_, [], none, none, by simp [okQs], ?_, rfl⟩ ?_ ?_
  · rw [hrl]
    have : perB d * (1 + rn) ≤ perB d * 3 := Nat.mul_le_mul_left _ (by omega)
    omega
  · rw [hrl]; simp; omega
  · rintro x xs env g1 N' ⟨hg1, ps, o5, o6, hps, hpl, rfl⟩ hN'
    rw [List.length_cons, Nat.mul_succ] at hg1
    rw [List.length_cons] at hpl
    have fin : ∀ (p : Pg) (g2 : Nat) (a b : Option D), okQ m p d (!cl) → g1 - perB d ≤ g2 → N' [some dck, some (.int m), some (.int d), some (.bl cl), some (.rol (encPs ps ++ [encP p])), a, b] g2 := fun p g2 a b hp hg2 => by
      refine hN' _ _ ⟨by omega, ps ++ [p], a, b, okQs_of fun q hq => ?_, by simp; omega, by rw [encPs_map, encPs_map, List.map_append]; rfl⟩
      rcases List.mem_append.mp hq with hq | hq
      · exact okQs_mem hps q hq
      · rw [List.mem_singleton.mp hq]; exact hp
    have hpl' : (encPs ps).length < 16777216 := by rw [encPs_len]; omega
    unfold irb_l_parts_b1
    refine ok_cons (ok_asg rfl ?_)
    simp only [wqE, wqA, flatD_i, wqP_v, ownB, Bool.not_false, Nat.reduceBEq, Bool.or_self, Bool.or_true, tab2_q, List.getElem?_cons_zero, List.set_cons_zero, List.set_cons_succ, Option.some.injEq, exists_eq_left', Option.map_some, true_and, Bool.not_false]
    refine ⟨_, rfl, by decide, by decide, by omega, fun so h0 h1 => ?_⟩
    simp only []
    unfold irb_l_parts_b1_1
    refine ok_cons (ok_iff ?_)
    simp only [wqE, wqT, ordV_ii, flatD_i, cmpV_Eq, cmpV_Lt, eqV_ii, ownB, Bool.not_false, Nat.reduceBEq, Bool.or_self, List.getElem?_cons_zero, List.getElem?_cons_succ, Option.some.injEq, exists_eq_left', Bool.false_xor, D.bl.injEq, true_and, decide_eq_true_eq, if_true, Bool.not_false]
    have txt : OkS (tab2 (LptB n)) [4] irb_l_parts_b2 { nx := fun env' g' => OkS (tab2 (LptB n)) [4] .nil { nx := N', ct := N', bk := fun env' g' => OkS (tab2 (LptB n)) [4] irb_l_parts_2 { nx := fun _ g' => Q .non g', rt := Q } env' g', rt := Q } env' g', ct := N', bk := fun env' g' => OkS (tab2 (LptB n)) [4] irb_l_parts_2 { nx := fun _ g' => Q .non g', rt := Q } env' g', rt := Q } [some dck, some (.int m), some (.int d), some (.bl cl), some (.rol (encPs ps)), some x, some (.int so)] (g1 - 1) := by
      unfold irb_l_parts_b2
      refine ok_cons (ok_app rfl _ rfl ?_)
      simp only [wqE, wqA, flatD_s, ownB, Bool.not_false, Nat.reduceBEq, Bool.or_self, Bool.or_true, tab2_q, List.getElem?_cons_zero, List.getElem?_cons_succ, List.set_cons_zero, List.set_cons_succ, Option.some.injEq, exists_eq_left', Option.map_some, true_and, Bool.not_false]
      refine ⟨rfl, by omega, fun w1 hw1 _ => ?_⟩
      simp only []
      refine ⟨rfl, by omega, fun w2 hw2 _ => ?_⟩
      simp only []
      refine ⟨by simp, _, _, rfl, rfl, by simp, by simp, by omega, fun y hy => ?_⟩
      have hy' : ∃ w, y = .str w ∧ wOk w := by
        simp only [List.mem_cons, List.not_mem_nil, or_false] at hy
        rcases hy with rfl | rfl | rfl
        · exact ⟨_, rfl, by simp, by unfold lowW; simp⟩
        · exact ⟨_, rfl, hw1⟩
        · exact ⟨_, rfl, hw2⟩
      obtain ⟨w, rfl, hw⟩ := hy'
      exact ⟨by simp, hpl', ok_nil (ok_nil (fin (.text w) _ _ _ (by rw [okQ]; exact hw) (by omega)))⟩
    by_cases hs : so < 3
    · rw [if_pos hs]
      exact txt
    · rw [if_neg hs]
      by_cases hd0 : (d : Int) = 0
      · rw [if_pos hd0]
        exact txt
      · rw [if_neg hd0]
        obtain ⟨d', rfl⟩ : ∃ d', d = d' + 1 := ⟨d - 1, by omega⟩
        simp only [perB] at hg1 hper hg fin
        unfold irb_l_parts_b3
        refine ok_cons (ok_iff ?_)
        simp only [wqE, wqT, truthV_b, ordV_ii, flatD_i, cmpV_Lt, cmpV_Gt, ownB, Bool.not_false, Nat.reduceBEq, Bool.or_self, List.getElem?_cons_zero, List.getElem?_cons_succ, Option.some.injEq, exists_eq_left', D.bl.injEq, true_and, decide_eq_true_eq, if_false, Bool.false_eq_true, Bool.not_false]
        have hsub : ((d' + 1 : Nat) : Int) - 1 = (d' : Int) := by omega
        have shut : OkS (tab2 (LptB n)) [4] irb_l_parts_b5 { nx := fun env' g' => OkS (tab2 (LptB n)) [4] .nil { nx := fun env' g' => OkS (tab2 (LptB n)) [4] .nil { nx := N', ct := N', bk := fun env' g' => OkS (tab2 (LptB n)) [4] irb_l_parts_2 { nx := fun _ g' => Q .non g', rt := Q } env' g', rt := Q } env' g', ct := N', bk := fun env' g' => OkS (tab2 (LptB n)) [4] irb_l_parts_2 { nx := fun _ g' => Q .non g', rt := Q } env' g', rt := Q } env' g', ct := N', bk := fun env' g' => OkS (tab2 (LptB n)) [4] irb_l_parts_2 { nx := fun _ g' => Q .non g', rt := Q } env' g', rt := Q } [some dck, some (.int m), some (.int (d' + 1 : Nat)), some (.bl cl), some (.rol (encPs ps)), some x, some (.int so)] (g1 - 1) := by
          unfold irb_l_parts_b5
          refine ok_cons (ok_app rfl _ rfl ?_)
          simp only [wqE, wqA, subV_ii, flatD_i, flatD_s, opV_Sub, ownB, Bool.not_false, Nat.reduceBEq, Bool.or_self, Bool.or_true, tab2_q, List.getElem?_cons_zero, List.getElem?_cons_succ, List.set_cons_zero, List.set_cons_succ, Option.some.injEq, exists_eq_left', Option.map_some, true_and, Bool.not_false, hsub]
          refine ⟨m, 0, rfl, hm, .inl rfl, by omega, fun f hf hop => ?_⟩
          simp only []
          refine ⟨m, d', cl, rfl, hm, by omega, by omega, fun qs hqs hql => ?_⟩
          simp only []
          have hok : okQ m (.loop f qs) (d' + 1) (!cl) := by
            rw [okQ]
            have ho : isOpen f = false := by rw [hop]; rfl
            exact ⟨by omega, hf, (fun h => by rw [ho] at h; cases h), hql, by rw [ho]; simpa using hqs⟩
          have := fin (.loop f qs) (g1 - 1 - 5 - (1 + 3 * perB d')) (some x) (some (.int so)) hok (by omega)
          rw [encP] at this
          exact ⟨by simp, hpl', ok_nil (ok_nil (ok_nil this))⟩
        by_cases hs6 : so < 6
        · rw [if_pos hs6]
          by_cases hm0 : 0 < (m : Int)
          · rw [if_pos hm0]
            cases cl with
            | true => simp only [Bool.not_true, if_false, Bool.false_eq_true, Bool.not_true]; exact shut
            | false =>
              simp only [Bool.not_false, if_true, Bool.not_false]
              unfold irb_l_parts_b4
              refine ok_cons (ok_app rfl _ rfl ?_)
              simp only [wqE, wqA, subV_ii, flatD_b, flatD_i, flatD_s, opV_Sub, ownB, Bool.not_false, Nat.reduceBEq, Bool.or_self, Bool.or_true, tab2_q, List.getElem?_cons_zero, List.getElem?_cons_succ, List.set_cons_zero, List.set_cons_succ, Option.some.injEq, exists_eq_left', Option.map_some, true_and, Bool.not_false, hsub]
              refine ⟨m, 1, rfl, hm, .inr ⟨rfl, by omega⟩, by omega, fun f hf hop => ?_⟩
              simp only []
              refine ⟨m, d', true, rfl, hm, by omega, by omega, fun qs hqs hql => ?_⟩
              simp only []
              have hok : okQ m (.loop f qs) (d' + 1) true := by
                rw [okQ]
                have ho : isOpen f = true := by rw [hop]; rfl
                exact ⟨by omega, hf, fun _ => rfl, hql, by rw [ho]; simpa using hqs⟩
              have := fin (.loop f qs) (g1 - 1 - 5 - (1 + 3 * perB d')) (some x) (some (.int so)) hok (by omega)
              rw [encP] at this
              exact ⟨by simp, hpl', ok_nil (ok_nil (ok_nil this))⟩
          · rw [if_neg hm0]
            exact shut
        · rw [if_neg hs6]
          exact shut
  · rintro env g1 ⟨hg1, ps, o5, o6, hps, hpl, rfl⟩
    rw [List.length_nil] at hg1 hpl
    refine ok_less (show g - (1 + 3 * perB d) ≤ g1 by omega) ?_
    unfold irb_l_parts_2
    refine ok_cons (ok_ret ?_)
    simp only [wqE, wqA, biV_tuple_r, ownB, Bool.not_false, Bool.or_self, List.getElem?_cons_zero, List.getElem?_cons_succ, Option.some.injEq, exists_eq_left', true_and, Bool.not_false]
    exact k ps hps (by omega)
def encTLr (r : List It) : D := .rol [.rol ((txl r).map .str), .rol ((lps r).map encLp)]
def sRowL (n : Nat) : Spec2 := fun ds g Q => ∃ (ps : List Pg) (m d : Nat) (b : Bool), ds = [.tup (encPs ps)] ∧ okQs m ps d b ∧ d < n ∧ d ≤ 3 ∧ ps.length ≤ 3 ∧ Q (encTLr (rowPs ps)) g
theorem set_last {xs : List D} {x y : D} : (xs ++ [x]).set xs.length y = xs ++ [y] := by
  rw [List.set_append_right _ _ (Nat.le_refl _)]; simp
theorem ixN_last {n : Nat} : ixN (n + 1) (-1) = some n := by
  unfold ixN
  rw [if_neg (by decide), if_pos (by omega)]
  congr 1
  omega
theorem txl_map (w : List Nat) : txl (w.map .inl) = [w] := by unfold txl; rw [(txs_map w).1]
theorem rowL_loop (n c : Nat) {NX : En → Nat → Prop} {RT : QK} {A B o : Option D} {R inner : List It} {g : Nat} (hz : rsize R + c * rsize inner ≤ 600000)
    (hE : ∀ o, NX [A, some (.rol ((txl (R ++ (List.replicate c inner).flatten)).map .str)), some (.rol ((lps (R ++ (List.replicate c inner).flatten)).map encLp)), B, some (encTLr inner), o] g) :
    forV (fun x env g N' => OkS (tab2 [("_law_row", sRowL n)]) [1, 2] irb_l_row_b7 { nx := N', ct := N', bk := NX, rt := RT } (env.set 5 (some x)) g) NX (rngD 0 (c : Int)) [A, some (.rol ((txl R).map .str)), some (.rol ((lps R).map encLp)), B, some (encTLr inner), o] g := by
  refine forV_inv (fun xs env g' => g' = g ∧ ∃ j o, j + xs.length = c ∧ env = [A, some (.rol ((txl (R ++ (List.replicate j inner).flatten)).map .str)), some (.rol ((lps (R ++ (List.replicate j inner).flatten)).map encLp)), B, some (encTLr inner), o]) _ _ _ ⟨rfl, 0, o, by rw [rng_lenN]; omega, by simp⟩ ?_ ?_
  · rintro x r env g' N' ⟨rfl, j, o, hj, rfl⟩ hN
    rw [List.length_cons] at hj
    generalize hR : R ++ (List.replicate j inner).flatten = R'
    have hz' : rsize R' + rsize inner ≤ 600000 := by
      rw [← hR, rsize_app, rsize_rep]
      have : (j + 1) * rsize inner ≤ c * rsize inner := Nat.mul_le_mul_right _ (by omega)
      rw [Nat.succ_mul] at this
      omega
    have hn := hN [A, some (.rol ((txl (R' ++ inner)).map .str)), some (.rol ((lps (R' ++ inner)).map encLp)), B, some (encTLr inner), some x] g' ⟨rfl, j + 1, some x, by omega, by rw [List.replicate_succ', List.flatten_append, ← hR]; simp⟩
    obtain ⟨i, l, h1, h2⟩ := txl_app R' inner
    have lR := txl_le R'
    have lI := txl_le inner
    have r1 := len_rsize R'
    have r2 := len_rsize inner
    have p1 := lps_le R'
    have p2 := lps_le inner
    have eI : txl inner = (txs inner).1 :: (txs inner).2 := rfl
    rw [h1] at lR
    rw [eI] at lI
    have ll := lR.2 l (by simp)
    have lt := lI.2 (txs inner).1 (by simp)
    simp only [List.length_append, List.length_cons, List.length_nil] at lR lI
    rw [h2, lps_app] at hn
    simp only [List.map_append, List.map_cons] at hn
    unfold irb_l_row_b7
    refine ok_cons (ok_set rfl _ rfl ?_)
    simp only [encTLr, wqE, addV_ss, negV_i, idxV_r, flatD_i, opV_Add, ownB, Bool.or_false, Bool.not_false, Bool.not_true, Nat.reduceBEq, Bool.or_self, List.getElem?_cons_zero, List.getElem?_cons_succ, List.set_cons_zero, List.set_cons_succ, Option.some.injEq, exists_eq_left', D.int.injEq, atI_0, exists_and_left, true_and, Bool.not_true, Bool.not_false, h1, eI, List.map_append, List.map_cons, List.map_nil, atI_m]
    refine ⟨by omega, (i.map D.str).length, ?_, ?_⟩
    · rw [List.length_append, List.length_singleton]; exact ixN_last
    · rw [set_last]
      unfold irb_l_row_b7_1
      refine ok_cons (ok_ext rfl _ rfl ?_)
      simp only [wqE, wqO, idxV_r, slV_r, flatD_i, ownB, Bool.not_false, Nat.reduceBEq, Bool.or_self, List.getElem?_cons_zero, List.getElem?_cons_succ, List.set_cons_zero, List.set_cons_succ, Option.some.injEq, exists_eq_left', D.int.injEq, atI_0, true_and, Bool.not_false, cut_1m, QL]
      refine ⟨_, rfl, by simp; omega, ?_⟩
      unfold irb_l_row_b7_2
      refine ok_cons (ok_ext rfl _ rfl ?_)
      simp only [wqE, idxV_r, flatD_i, ownB, Bool.not_false, Nat.reduceBEq, Bool.or_self, List.getElem?_cons_zero, List.getElem?_cons_succ, List.set_cons_zero, List.set_cons_succ, Option.some.injEq, exists_eq_left', atI_1, true_and, Bool.not_false, QL]
      refine ⟨_, rfl, by simp; omega, ok_nil ?_⟩
      simp only [encTLr, eI, List.map_cons, List.append_assoc, List.singleton_append] at hn ⊢
      exact hn
  · rintro env g' ⟨rfl, j, o, hj, rfl⟩
    rw [List.length_nil, Nat.add_zero] at hj
    subst hj
    exact hE _
theorem q_rowL (n : Nat) (N : List Str) (hN : N.length = 6) : ∀ ds g Q, sRowL (n + 1) ds g Q → OkS (tab2 [("_law_row", sRowL n)]) [1, 2] irb_l_row { nx := fun _ g' => Q .non g', rt := Q } (startD N ds) g := by
  rintro ds g Q ⟨ps, m, d, b, rfl, hok, hd, hd3, hl, k⟩
  rw [start_eq hN, show ([.tup (encPs ps)].map some ++ List.replicate (6 - [D.tup (encPs ps)].length) none : En) = [some (.tup (encPs ps)), none, none, none, none, none] from rfl]
  have hsz := bdQ3 hok hd3 hl
  unfold irb_l_row
  refine ok_cons (ok_asg2 (by decide) ?_)
  simp only [wqN, wqE, wqA, flatD_s, ownB, Bool.or_false, Nat.reduceBEq, Bool.or_self, Bool.or_true, List.set_cons_zero, List.set_cons_succ, true_and, if_true, frB, QL]
  refine ⟨by simp, _, rfl, by simp, _, rfl, ?_⟩
  unfold irb_l_row_1
  refine ok_cons (ok_loop rfl ?_)
  simp only [wqE, wqI, itV_t, wqP_v, ownB, Bool.not_false, Nat.reduceBEq, Bool.or_self, Bool.or_true, List.getElem?_cons_zero, Option.some.injEq, exists_eq_left', true_and, Bool.not_false]
  refine forV_inv (fun xs env g' => g' = g ∧ ∃ (dn rs : List Pg) (o3 o4 o5 : Option D), dn ++ rs = ps ∧ xs = encPs rs ∧ env = [some (.tup (encPs ps)), some (.rol ((txl (rowPs dn)).map .str)), some (.rol ((lps (rowPs dn)).map encLp)), o3, o4, o5]) _ _ _ ⟨rfl, [], ps, none, none, none, rfl, rfl, rfl⟩ ?_ ?_
  · rintro x r env g' N' ⟨rfl, dn, rs, o3, o4, o5, hps, hr, rfl⟩ hN'
    cases rs with
    | nil => rw [encPs] at hr; cases hr
    | cons y rs =>
      rw [encPs] at hr
      cases hr
      have hy : okQ m y d b := okQs_mem hok y (by rw [← hps]; simp)
      have hsp : rsize (rowPs dn) + rsize (rowP y) ≤ 600000 := by
        have : rsize (rowPs ps) = rsize (rowPs dn) + (rsize (rowP y) + rsize (rowPs rs)) := by rw [← hps, rowPs_app, rsize_app, rowPs, rsize_app]
        omega
      have fin : ∀ (a b c : Option D), N' [some (.tup (encPs ps)), some (.rol ((txl (rowPs dn ++ rowP y)).map .str)), some (.rol ((lps (rowPs dn ++ rowP y)).map encLp)), a, b, c] g' := fun a b c => by
        refine hN' _ _ ⟨rfl, dn ++ [y], rs, a, b, c, by rw [← hps]; simp, rfl, ?_⟩
        rw [rowPs_app]; simp [rowPs]
      have ldn := txl_le (rowPs dn)
      have rdn := len_rsize (rowPs dn)
      unfold irb_l_row_b1
      refine ok_cons (ok_iff ?_)
      cases y with
      | text w =>
        simp only [encP, wqE, wqT, idxV_t, flatD_i, flatD_s, cmpV_Eq, eqV_ss, ownB, Bool.not_false, Nat.reduceBEq, Bool.or_self, List.getElem?_cons_zero, List.getElem?_cons_succ, List.set_cons_zero, List.set_cons_succ, Option.some.injEq, exists_eq_left', Bool.false_xor, D.bl.injEq, atI_0, true_and, if_true, decide_true, Bool.not_false]
        unfold irb_l_row_b2
        refine ok_cons (ok_set rfl _ rfl ?_)
        obtain ⟨i, l, h1, h2⟩ := txl_app (rowPs dn) (w.map .inl)
        rw [rowP] at fin hsp
        rw [rsize_map] at hsp
        rw [(txs_map w).1] at h2
        rw [h1] at ldn
        have ll := ldn.2 l (by simp)
        simp only [wqE, addV_ss, negV_i, idxV_t, idxV_r, flatD_i, opV_Add, ownB, Bool.or_false, Bool.not_false, Bool.not_true, Nat.reduceBEq, Bool.or_self, List.getElem?_cons_zero, List.getElem?_cons_succ, List.set_cons_zero, List.set_cons_succ, Option.some.injEq, exists_eq_left', D.int.injEq, atI_1, exists_and_left, true_and, Bool.not_true, Bool.not_false, h1, List.map_append, List.map_cons, List.map_nil, atI_m]
        refine ⟨by omega, (i.map D.str).length, ?_, ok_nil ?_⟩
        · rw [List.length_append, List.length_singleton]; exact ixN_last
        · rw [set_last]
          rw [h2, lps_app, (txs_map w).2, List.append_nil] at fin
          simp only [List.map_append, List.map_cons, List.map_nil] at fin
          exact ok_nil (fin _ _ _)
      | loop f qs =>
        rw [okQ] at hy
        obtain ⟨hd0, hf, ho, hql, hqs⟩ := hy
        have hq3 := bdQ3 hqs (by omega) hql
        have lqs := txl_le (rowPs qs)
        have lqp := lps_le (rowPs qs)
        have rqs := len_rsize (rowPs qs)
        simp only [encP, wqE, wqT, idxV_t, flatD_i, flatD_s, cmpV_Eq, eqV_ss, ownB, Bool.not_false, Nat.reduceBEq, Bool.or_self, List.getElem?_cons_zero, List.getElem?_cons_succ, List.set_cons_zero, List.set_cons_succ, Option.some.injEq, exists_eq_left', Bool.false_xor, D.bl.injEq, atI_0, true_and, decide_eq_true_eq, Bool.not_false]
        rw [if_neg (by simp)]
        unfold irb_l_row_b3
        refine ok_cons (ok_asg rfl ?_)
        simp only [wqE, wqA, idxV_t, flatD_i, wqP_v, ownB, Bool.not_false, Nat.reduceBEq, Bool.or_self, tab2_q, List.getElem?_cons_zero, List.getElem?_cons_succ, List.set_cons_zero, List.set_cons_succ, Option.some.injEq, exists_eq_left', Option.map_some, atI_2, true_and, Bool.not_false]
        refine ⟨qs, m, d - 1, _, rfl, hqs, by omega, by omega, hql, ?_⟩
        unfold irb_l_row_b3_1
        refine ok_cons (ok_iff ?_)
        simp only [encTLr, wqE, wqT, wqA, wqO, ordV_ii, idxV_t, slV_t, biV_sum_t, flatD_i, cmpV_Gt, ownB, Bool.not_false, Nat.reduceBEq, Bool.or_self, List.getElem?_cons_zero, List.getElem?_cons_succ, Option.some.injEq, exists_eq_left', D.int.injEq, D.bl.injEq, atI_1, true_and, decide_eq_true_eq, Bool.not_false, cut_1, ← List.map_tail]
        refine ⟨_, intsF_map _, ?_⟩
        have hso := sum_open fun i hi => (hf.2.1 i hi).1
        cases hop : isOpen f with
        | true =>
          rw [hop] at hso
          rw [if_pos (by simpa using hso)]
          rw [hop] at hqs
          obtain ⟨w, hw⟩ := shutRs qs (d - 1) (by simpa using (wfs_of_okQ qs _ _ hqs).1)
          have hany : f.any (· != 0) = true := by
            cases e : f.any (· != 0) with
            | true => rfl
            | false => rw [(all0 e).1] at hop; cases hop
          have erow : rowP (.loop f qs) = if w = [] then [] else [.inr (w, f)] := by
            rw [rowP, hany, if_neg (by decide), if_pos hop, hw]
            simp only [List.map_eq_nil_iff, txs_map]
          unfold irb_l_row_b4
          refine ok_cons (ok_iff ?_)
          simp only [hw, txl_map, List.map_cons, List.map_nil, wqE, wqT, idxV_r, flatD_i, flatD_s, cmpV_NotEq, eqV_ss, ownB, Bool.not_false, Nat.reduceBEq, Bool.or_self, List.getElem?_cons_zero, List.getElem?_cons_succ, Option.some.injEq, exists_eq_left', Bool.true_xor, D.bl.injEq, atI_0, true_and, Bool.not_false]
          by_cases hw0 : w = []
          · rw [if_neg (by simpa using hw0)]
            rw [erow, if_pos hw0, List.append_nil] at fin
            exact ok_nil (ok_nil (ok_nil (ok_nil (fin _ _ _))))
          · rw [if_pos (by simpa using hw0)]
            rw [erow, if_neg hw0] at fin
            unfold irb_l_row_b5
            refine ok_cons (ok_app rfl _ rfl ?_)
            simp only [wqE, wqA, idxV_t, idxV_r, flatD_i, ownB, Bool.not_false, Nat.reduceBEq, Bool.or_self, List.getElem?_cons_zero, List.getElem?_cons_succ, List.set_cons_zero, List.set_cons_succ, Option.some.injEq, exists_eq_left', atI_0, atI_1, true_and, Bool.not_false]
            have lpd := lps_le (rowPs dn)
            refine ⟨by simp, by rw [List.length_map]; omega, ?_⟩
            unfold irb_l_row_b5_1
            refine ok_cons (ok_app rfl _ rfl ?_)
            simp only [wqE, flatD_s, List.set_cons_zero, List.set_cons_succ, true_and]
            obtain ⟨i, l, h1, h2⟩ := txl_app (rowPs dn) [.inr (w, f)]
            have e1 : txl (rowPs dn ++ [.inr (w, f)]) = txl (rowPs dn) ++ [[]] := by rw [h2, h1]; simp [txs]
            have e2 : lps (rowPs dn ++ [.inr (w, f)]) = lps (rowPs dn) ++ [(w, f)] := by rw [lps_app]; rfl
            rw [e1, e2] at fin
            simp only [List.map_append, List.map_cons, List.map_nil] at fin
            exact ⟨by rw [List.length_map]; omega, ok_nil (ok_nil (ok_nil (ok_nil (fin _ _ _))))⟩
        | false =>
          rw [hop] at hso
          rw [if_neg (by simpa using hso)]
          obtain ⟨c, r, rfl⟩ : ∃ c r, f = c :: r := by cases f with | nil => have := hf.1; simp at this | cons c r => exact ⟨c, r, rfl⟩
          have hc0 := (hf.2.1 c (by simp)).1
          obtain ⟨c, rfl⟩ := Int.eq_ofNat_of_zero_le hc0
          have hc11 : c ≤ 11 := by have := hf.2.2; simp at this; omega
          have erow : rowP (.loop ((c : Int) :: r) qs) = (List.replicate c (rowPs qs)).flatten := by
            rw [rowP]
            split
            · rename_i ha
              have := (all0 ha).2
              simp only [List.headD_cons] at this
              have hc : c = 0 := by omega
              rw [hc]; rfl
            · rw [if_neg (by rw [hop]; decide), List.headD_cons, Int.toNat_natCast]
          rw [erow] at fin hsp
          rw [rsize_rep] at hsp
          unfold irb_l_row_b6
          refine ok_cons (ok_loop rfl ?_)
          simp only [List.map_cons, wqE, wqI, idxV_t, rng1V_i, flatD_i, wqP_v, ownB, Bool.not_false, Nat.reduceBEq, Bool.or_self, List.getElem?_cons_zero, List.getElem?_cons_succ, Option.some.injEq, exists_eq_left', atI_0, atI_1, true_and, Bool.not_false]
          refine ⟨small_of (by omega) (by omega), ?_⟩
          exact rowL_loop n c hsp fun o => ok_nil (ok_nil (ok_nil (fin _ _ _)))
  · rintro env g' ⟨rfl, dn, rs, o3, o4, o5, hps, hr, rfl⟩
    cases rs with
    | cons y rs => rw [encPs] at hr; cases hr
    | nil =>
      rw [List.append_nil] at hps
      subst hps
      unfold irb_l_row_2
      refine ok_cons (ok_ret ?_)
      simp only [wqE, wqA, ownB, Bool.not_false, Bool.or_true, List.getElem?_cons_zero, List.getElem?_cons_succ, Option.some.injEq, exists_eq_left', true_and, Bool.not_false]
      exact ⟨by simp, k⟩
end G57
set_option Elab.async false
set_option linter.all false
set_option maxRecDepth 100000
set_option maxHeartbeats 800000
namespace G57
open PySem L2
def szT (ts : List (List Nat)) : Int := (ts.map fun t => (t.length : Int)).sum
def szL (ls : List Lp) : Int := (ls.map fun l => (l.1.length : Int) * (1 + l.2.headD 0)).sum
def mkS (b : Bool) (ds : List D) : D := if b then .rol ds else .tup ds
theorem mkS_t (ds : List D) : mkS true ds = .rol ds := rfl
theorem mkS_f (ds : List D) : mkS false ds = .tup ds := rfl
def sSizeB : Spec2 := fun ds g Q => ∃ (b : Bool) (ts : List (List Nat)) (ls : List Lp), ds = [mkS b (ts.map .str), mkS b (ls.map encLp)] ∧ ts.length ≤ 16777216 ∧ ls.length ≤ 16777216 ∧ (∀ t ∈ ts, t.length ≤ 16777216) ∧ (∀ l ∈ ls, l.1.length ≤ 16777216 ∧ l.2 ≠ [] ∧ (l.2.headD 0).natAbs ≤ 16000000) ∧ Q (.int (szT ts + szL ls)) g
theorem q_sizeB (N : List Str) (hN : N.length = 5) : ∀ ds g Q, sSizeB ds g Q → OkS (tab2 []) [] irb_l_size { nx := fun _ g' => Q .non g', rt := Q } (startD N ds) g := by
  rintro ds g Q ⟨b, ts, ls, rfl, h1, h2, h3, h4, k⟩
  rw [start_eq hN, show ([mkS b (ts.map .str), mkS b (ls.map encLp)].map some ++ List.replicate (5 - [mkS b (ts.map D.str), mkS b (ls.map encLp)].length) none : En) = [some (mkS b (ts.map .str)), some (mkS b (ls.map encLp)), none, none, none] from rfl]
  unfold irb_l_size
  refine ok_cons (ok_ret ?_)
  cases b <;> simp only [mkS_t, mkS_f, wqE, wqA, wqC, wqI, addV_ii, biV_sum_r, itV_t, itV_r, flatD_i, opV_Add, opV_Mult, wqP_v, ownB, Bool.not_false, Bool.or_self, List.getElem?_cons_zero, List.getElem?_cons_succ, Option.some.injEq, exists_eq_left', true_and, if_true, Bool.not_false]
  all_goals
    refine lcV_map D.str (fun t => .int t.length) _ h1 (fun t ht kk hk => ?_) ?_
    · simp only [wipeD, biV_len_s, List.getElem?_cons_zero, List.getElem?_cons_succ, List.set_cons_zero, List.set_cons_succ, Option.some.injEq, exists_eq_left']
      exact ⟨h3 t ht, hk⟩
    · refine ⟨_, by rw [show (fun t : List Nat => D.int t.length) = D.int ∘ (fun t => (t.length : Int)) from rfl, ← List.map_map]; exact intsF_map _, ?_⟩
      refine lcV_map encLp (fun l => .int ((l.1.length : Int) * (1 + l.2.headD 0))) _ h2 (fun l hl kk hk => ?_) ?_
      · obtain ⟨a1, a2, a3⟩ := h4 l hl
        obtain ⟨w, f⟩ := l
        simp only at a1 a2 a3 hk
        cases f with
        | nil => exact absurd rfl a2
        | cons c r =>
          simp only [List.headD_cons] at a3 hk
          simp only [encLp, List.map_cons, wipeD, addV_ii, mulV_ii, idxV_t, biV_len_s, wqP_v, wqP_t, wqPs_n, wqPs_c, List.getElem?_cons_zero, List.getElem?_cons_succ, List.set_cons_zero, List.set_cons_succ, Option.some.injEq, exists_eq_left', atI_0]
          exact ⟨a1, cmul_of (by omega) (by omega), hk⟩
      · refine ⟨_, by rw [show (fun l : Lp => D.int ((l.1.length : Int) * (1 + l.2.headD 0))) = D.int ∘ (fun l => (l.1.length : Int) * (1 + l.2.headD 0)) from rfl, ← List.map_map]; exact intsF_map _, k⟩
structure OkB (m : Nat) (most : Int) (ps : List Pg) : Prop where
  m3 : m ≤ 3
  ok : okQs m ps 3 true
  len : ps.length ≤ 3
  lp : (lps (rowPs ps)).length ≤ 12
  sz : szT (txl (rowPs ps)) + szL (lps (rowPs ps)) ≤ most
mutual
theorem fmQ {m : Nat} : ∀ (p : Pg) (d : Nat) (b : Bool), okQ m p d b → ∀ l ∈ lps (rowP p), okFB m l.2 ∧ isOpen l.2 = true ∧ l.1 ≠ [] ∧ lowW l.1
  | .text w, d, b, h, l, hl => by rw [rowP, (txs_map w).2] at hl; simp at hl
  | .loop f ps, d, b, h, l, hl => by
    rw [okQ] at h
    obtain ⟨h0, hf, ho, hql, hqs⟩ := h
    rw [rowP] at hl
    split at hl
    · simp [lps] at hl
    · split at hl
      · rename_i hop
        rw [hop] at hqs
        obtain ⟨w, hw⟩ := shutRs ps (d - 1) (by simpa using (wfs_of_okQ ps _ _ hqs).1)
        split at hl
        · simp [lps] at hl
        · rename_i hne
          simp only [lps, List.mem_singleton] at hl
          subst hl
          refine ⟨hf, hop, ?_, ?_⟩
          · rw [hw, (txs_map w).1]
            rw [hw] at hne
            simpa using hne
          · rw [hw, (txs_map w).1]
            intro c hc
            have := lowQs ps _ _ hqs (.inl c) (by rw [hw]; exact List.mem_map.mpr ⟨c, hc, rfl⟩)
            exact this
      · have : ∀ n : Nat, ∀ l ∈ lps (List.replicate n (rowPs ps)).flatten, l ∈ lps (rowPs ps) := fun n => by
          induction n with
          | zero => intro l hl; simp [lps] at hl
          | succ n ih => intro l hl; rw [List.replicate_succ, List.flatten_cons, lps_app] at hl; rcases List.mem_append.mp hl with h | h; exact h; exact ih l h
        exact fmQs ps _ _ hqs l (this _ l hl)
theorem fmQs {m : Nat} : ∀ (ps : List Pg) (d : Nat) (b : Bool), okQs m ps d b → ∀ l ∈ lps (rowPs ps), okFB m l.2 ∧ isOpen l.2 = true ∧ l.1 ≠ [] ∧ lowW l.1
  | [], d, b, h, l, hl => by simp [rowPs, lps] at hl
  | p :: ps, d, b, h, l, hl => by
    rw [okQs] at h
    rw [rowPs, lps_app] at hl
    rcases List.mem_append.mp hl with hl | hl
    · exact fmQ p d b h.1 l hl
    · exact fmQs ps d b h.2 l hl
theorem lowQ {m : Nat} : ∀ (p : Pg) (d : Nat) (b : Bool), okQ m p d b → ∀ x ∈ rowP p, match x with | .inl c => 97 ≤ c ∧ c ≤ 122 | .inr _ => True
  | .text w, d, b, h, x, hx => by
    rw [okQ] at h
    rw [rowP] at hx
    obtain ⟨c, hc, rfl⟩ := List.mem_map.mp hx
    exact h.2 c hc
  | .loop f ps, d, b, h, x, hx => by
    rw [okQ] at h
    rw [rowP] at hx
    split at hx
    · simp at hx
    · split at hx
      · split at hx
        · simp at hx
        · rw [List.mem_singleton.mp hx]; trivial
      · obtain ⟨ys, h1, h2⟩ := List.mem_flatten.mp hx
        rw [(List.mem_replicate.mp h1).2] at h2
        exact lowQs ps _ _ h.2.2.2.2 x h2
theorem lowQs {m : Nat} : ∀ (ps : List Pg) (d : Nat) (b : Bool), okQs m ps d b → ∀ x ∈ rowPs ps, match x with | .inl c => 97 ≤ c ∧ c ≤ 122 | .inr _ => True
  | [], d, b, h, x, hx => by simp [rowPs] at hx
  | p :: ps, d, b, h, x, hx => by
    rw [okQs] at h
    rw [rowPs] at hx
    rcases List.mem_append.mp hx with hx | hx
    · exact lowQ p d b h.1 x hx
    · exact lowQs ps d b h.2 x hx
end
def sProgB : Spec2 := fun ds g Q => ∃ (m : Nat) (most : Int), ds = [dck, .int m, .int most] ∧ m ≤ 3 ∧ 0 ≤ most ∧ 600 ≤ g ∧ ∀ ps, OkB m most ps → Q (.tup [encPg m ps, encRw m (rowPs ps)]) (g - 600)
abbrev LpgB : List (Str × Spec2) := [("_law_parts", sPartsB 4), ("_law_row", sRowL 4), ("_law_size", sSizeB)]
theorem q_programB (N : List Str) (hN : N.length = 6) : ∀ ds g Q, sProgB ds g Q → OkS (tab2 LpgB) [] irb_l_program { nx := fun _ g' => Q .non g', rt := Q } (startD N ds) g := by
  rintro ds g Q ⟨m, most, rfl, hm, hmo, hg, k⟩
  rw [start_eq hN, show ([dck, .int m, .int most].map some ++ List.replicate (6 - [dck, D.int m, D.int most].length) none : En) = [some dck, some (.int m), some (.int most), none, none, none] from rfl]
  have hp3 : 1 + 3 * perB 3 ≤ 600 := by decide
  unfold irb_l_program
  refine ok_cons (ok_asg rfl ?_)
  simp only [wqE, wqA, flatD_b, flatD_i, wqP_v, ownB, Bool.not_false, Bool.or_true, tab2_q, List.getElem?_cons_zero, List.getElem?_cons_succ, List.set_cons_zero, List.set_cons_succ, Option.some.injEq, exists_eq_left', Option.map_some, true_and, Bool.not_false]
  refine ⟨m, 3, false, rfl, hm, by omega, by omega, fun ps hps hpl => ?_⟩
  unfold irb_l_program_1
  refine ok_cons (ok_asg rfl ?_)
  simp only [wqE, wqA, ownB, Bool.not_false, Bool.or_true, tab2_q, List.getElem?_cons_zero, List.getElem?_cons_succ, Option.some.injEq, exists_eq_left', Option.map_some, true_and, Bool.not_false]
  refine ⟨ps, m, 3, true, rfl, hps, by omega, by omega, hpl, ?_⟩
  simp only [encTLr, wqP_v, wqP_r, wqPs_n, wqPs_c, List.set_cons_zero, List.set_cons_succ]
  unfold irb_l_program_2
  refine ok_cons (ok_wh (ps.length + 1) ?_)
  refine whV_inv (fun n env g' => g - 600 ≤ g' ∧ ∃ ps, n = ps.length ∧ okQs m ps 3 true ∧ ps.length ≤ 3 ∧ env = [some dck, some (.int m), some (.int most), some (.tup (encPs ps)), some (.rol ((txl (rowPs ps)).map .str)), some (.rol ((lps (rowPs ps)).map encLp))]) ?_ _ ps.length _ _ (by omega) ⟨by omega, ps, rfl, hps, hpl, rfl⟩
  rintro n env g' N' ⟨hg', ps, rfl, hps, hpl, rfl⟩ hN'
  have hsz := bdQ3 hps (by omega) hpl
  have ltx := txl_le (rowPs ps)
  have llp := lps_le (rowPs ps)
  have lrs := len_rsize (rowPs ps)
  have hsp : sSizeB [.rol ((txl (rowPs ps)).map .str), .rol ((lps (rowPs ps)).map encLp)] g' (fun d g2 => d = .int (szT (txl (rowPs ps)) + szL (lps (rowPs ps))) ∧ g2 = g') := by
    refine ⟨true, _, _, rfl, by omega, by omega, fun t ht => by have := ltx.2 t ht; omega, fun l hl => ?_, rfl, rfl⟩
    obtain ⟨f1, f2, f3, f4⟩ := fmQs ps 3 true hps l hl
    refine ⟨by have := word_rsize _ l hl; omega, fun e => by rw [e] at f1; have := f1.1; simp at this, ?_⟩
    have a := f1.2.2
    have b : 0 ≤ l.2.headD 0 := by
      cases e : l.2 with
      | nil => simp
      | cons c r => rw [List.headD_cons]; exact (f1.2.1 c (by rw [e]; simp)).1
    omega
  have back : ∀ g2, g - 600 ≤ g2 → ps ≠ [] → OkS (tab2 LpgB) [] irb_l_program_b1 { nx := N', ct := N', bk := fun env' g' => OkS (tab2 LpgB) [] irb_l_program_3 { nx := fun _ g' => Q .non g', rt := Q } env' g', rt := Q } [some dck, some (.int m), some (.int most), some (.tup (encPs ps)), some (.rol ((txl (rowPs ps)).map .str)), some (.rol ((lps (rowPs ps)).map encLp))] g2 := fun g2 hg2 hne => by
    have hp : 0 < ps.length := List.length_pos_iff.mpr hne
    have hps' : okQs m ps.dropLast 3 true := okQs_of fun y hy => okQs_mem hps y (List.dropLast_subset _ hy)
    unfold irb_l_program_b1
    refine ok_cons (ok_asg rfl ?_)
    simp only [wqE, wqO, negV_i, slV_t, flatD_i, wqP_v, ownB, Bool.not_false, Bool.or_self, List.getElem?_cons_zero, List.getElem?_cons_succ, List.set_cons_zero, List.set_cons_succ, Option.some.injEq, exists_eq_left', D.int.injEq, true_and, Bool.not_false, cut_m, encPs_dropLast]
    unfold irb_l_program_b1_1
    refine ok_cons (ok_asg rfl ?_)
    simp only [wqE, wqA, ownB, Bool.not_false, Bool.or_true, tab2_q, List.getElem?_cons_zero, List.getElem?_cons_succ, Option.some.injEq, exists_eq_left', Option.map_some, true_and, Bool.not_false]
    refine ⟨ps.dropLast, m, 3, true, rfl, hps', by omega, by omega, by rw [List.length_dropLast]; omega, ?_⟩
    simp only [encTLr, wqP_v, wqP_r, wqPs_n, wqPs_c, List.set_cons_zero, List.set_cons_succ]
    exact ok_nil (hN' ps.dropLast.length _ _ (by rw [List.length_dropLast]; omega) ⟨hg2, _, rfl, hps', by rw [List.length_dropLast]; omega, rfl⟩)
  simp only [wqE, wqT, wqA, ordV_ii, biV_len_r, flatD_i, cmpV_Gt, ownB, Bool.not_false, Bool.or_self, Bool.or_true, tab2_q, List.getElem?_cons_zero, List.getElem?_cons_succ, Option.some.injEq, exists_eq_left', Option.map_some, D.bl.injEq, true_and, decide_eq_true_eq, if_true, Bool.not_false, List.length_map]
  by_cases h12 : (12 : Int) < (lps (rowPs ps)).length
  · rw [if_pos h12]
    refine back g' hg' fun e => ?_
    rw [e] at h12
    simp [rowPs, lps] at h12
  · rw [if_neg h12]
    obtain ⟨b, ts, ls, e, a1, a2, a3, a4, a5, a6⟩ := hsp
    refine ⟨b, ts, ls, e, a1, a2, a3, a4, ?_⟩
    rw [a5]
    simp only [ordV_ii, exists_eq_left', D.bl.injEq, decide_eq_true_eq]
    by_cases hs : most < szT (txl (rowPs ps)) + szL (lps (rowPs ps))
    · rw [if_pos (by simpa using hs)]
      refine back g' hg' fun e => ?_
      rw [e] at hs
      simp [rowPs, lps, txl, txs, szT, szL] at hs
      omega
    · rw [if_neg (by simpa using hs)]
      refine ok_less hg' ?_
      unfold irb_l_program_3
      refine ok_cons (ok_ret ?_)
      simp only [wqE, wqA, biV_tuple_r, ownB, Bool.not_false, Bool.or_self, Bool.or_true, List.getElem?_cons_zero, List.getElem?_cons_succ, Option.some.injEq, exists_eq_left', true_and, Bool.not_false]
      refine ⟨by simp, by simp, by simp, ?_⟩
      exact k ps ⟨hm, hps, hpl, by omega, by omega⟩
def tailPg : List (List Nat) → List Lp → List Pg
  | t :: ts, l :: ls => .loop l.2 [.text l.1] :: .text t :: tailPg ts ls
  | _, _ => []
def allPg (r : List It) : List Pg := .text (txs r).1 :: tailPg (txs r).2 (lps r)
def fullP : Pg → Bool
  | .text w => !w.isEmpty
  | _ => true
def progOf (r : List It) : List Pg := (allPg r).filter fullP
theorem rowPs_filter : ∀ ps : List Pg, rowPs (ps.filter fullP) = rowPs ps
  | [] => rfl
  | p :: ps => by
    rw [List.filter_cons]
    split
    · rw [rowPs, rowPs, rowPs_filter ps]
    · rename_i h
      cases p with
      | text w =>
        have : w = [] := by simpa [fullP] using h
        subst this
        rw [rowPs, rowPs_filter ps]; simp [rowP]
      | loop f qs => simp [fullP] at h
theorem rowP_loop1 {w : List Nat} {f : List Int} (hw : w ≠ []) (hf : isOpen f = true) : rowP (.loop f [.text w]) = [.inr (w, f)] := by
  have hany : f.any (· != 0) = true := by
    cases e : f.any (· != 0) with
    | true => rfl
    | false => rw [(all0 e).1] at hf; cases hf
  have e : rowPs [.text w] = w.map .inl := by simp [rowPs, rowP]
  rw [rowP, hany, if_neg (by decide), if_pos hf, e]
  simp only [List.map_eq_nil_iff, txs_map]
  rw [if_neg hw]
theorem row_all : ∀ r : List It, (∀ l ∈ lps r, l.1 ≠ [] ∧ isOpen l.2 = true) → rowPs (allPg r) = r
  | [], _ => by simp [allPg, rowPs, rowP, txs, tailPg]
  | .inl c :: r, h => by
    have ih := row_all r h
    simp only [allPg, txs, lps, rowPs, rowP] at ih ⊢
    rw [List.map_cons, List.cons_append, ih]
  | .inr l :: r, h => by
    have ih := row_all r fun l' hl' => h l' (by simp [lps, hl'])
    obtain ⟨h1, h2⟩ := h l (by simp [lps])
    simp only [allPg, txs, lps, tailPg, rowPs] at ih ⊢
    rw [ih, rowP_loop1 h1 h2]
    simp [rowP]
theorem row_progOf {r : List It} (h : ∀ l ∈ lps r, l.1 ≠ [] ∧ isOpen l.2 = true) : rowPs (progOf r) = r := by unfold progOf; rw [rowPs_filter, row_all r h]
theorem tailPg_zip : ∀ (ts : List (List Nat)) (ls : List Lp), tailPg ts ls = ((ts.zip ls).map fun y => [.loop y.2.2 [.text y.2.1], .text y.1]).flatten
  | [], _ => by simp [tailPg]
  | t :: ts, [] => by simp [tailPg]
  | t :: ts, l :: ls => by simp [tailPg, tailPg_zip ts ls]
def lowT (r : List It) : Prop := ∀ x ∈ r, match x with
  | .inl c => 97 ≤ c ∧ c ≤ 122
  | .inr l => lowW l.1
theorem lowT_words : ∀ {r : List It}, lowT r → (∀ t ∈ txl r, lowW t) ∧ ∀ l ∈ lps r, lowW l.1
  | [], _ => by simp [txl, txs, lps, lowW]
  | .inl a :: r, h => by
    obtain ⟨h1, h2⟩ := lowT_words (r := r) fun x hx => h x (by simp [hx])
    have ha := h (.inl a) (by simp)
    refine ⟨fun t ht c hc => ?_, h2⟩
    simp only [txl, txs, List.mem_cons] at ht h1
    rcases ht with rfl | ht
    · rcases List.mem_cons.mp hc with rfl | hc
      · exact ha
      · exact h1 _ (.inl rfl) c hc
    · exact h1 t (.inr ht) c hc
  | .inr l :: r, h => by
    obtain ⟨h1, h2⟩ := lowT_words (r := r) fun x hx => h x (by simp [hx])
    have ha := h (.inr l) (by simp)
    refine ⟨fun t ht c hc => ?_, fun l' hl' => ?_⟩
    · simp only [txl, txs, List.mem_cons] at ht h1
      rcases ht with rfl | ht
      · simp at hc
      · exact h1 t ht c hc
    · simp only [lps, List.mem_cons] at hl'
      rcases hl' with rfl | hl'
      · exact ha
      · exact h2 l' hl'
structure OkRow (m : Nat) (r : List It) : Prop where
  sz : rsize r ≤ 5000000
  low : lowT r
  lp : ∀ l ∈ lps r, l.1 ≠ [] ∧ isOpen l.2 = true ∧ l.2.length = m + 1 ∧ ∀ i ∈ l.2, 0 ≤ i
theorem mem_tailPg : ∀ (ts : List (List Nat)) (ls : List Lp) (p : Pg), p ∈ tailPg ts ls → (∃ t ∈ ts, p = .text t) ∨ ∃ l ∈ ls, p = .loop l.2 [.text l.1]
  | [], _, p, h => by simp [tailPg] at h
  | t :: ts, [], p, h => by simp [tailPg] at h
  | t :: ts, l :: ls, p, h => by
    simp only [tailPg, List.mem_cons] at h
    rcases h with rfl | rfl | h
    · exact .inr ⟨l, by simp, rfl⟩
    · exact .inl ⟨t, by simp, rfl⟩
    · rcases mem_tailPg ts ls p h with ⟨a, b, c⟩ | ⟨a, b, c⟩
      · exact .inl ⟨a, by simp [b], c⟩
      · exact .inr ⟨a, by simp [b], c⟩
theorem mem_allPg {r : List It} {p : Pg} (h : p ∈ allPg r) : (∃ t ∈ txl r, p = .text t) ∨ ∃ l ∈ lps r, p = .loop l.2 [.text l.1] := by
  simp only [allPg, List.mem_cons] at h
  rcases h with rfl | h
  · exact .inl ⟨_, by simp [txl], rfl⟩
  · rcases mem_tailPg _ _ p h with ⟨a, b, c⟩ | h
    · exact .inl ⟨a, by simp [txl, b], c⟩
    · exact .inr h
theorem tailPg_len : ∀ (ts : List (List Nat)) (ls : List Lp), (tailPg ts ls).length ≤ 2 * ls.length
  | [], _ => by simp [tailPg]
  | t :: ts, [] => by simp [tailPg]
  | t :: ts, l :: ls => by have := tailPg_len ts ls; simp [tailPg]; omega
theorem wfPs_of {m d : Nat} {b : Bool} : ∀ {ps : List Pg}, (∀ p ∈ ps, wfP m p d b) → wfPs m ps d b
  | [], _ => by simp [wfPs]
  | q :: ps, h => by rw [wfPs]; exact ⟨h q (by simp), wfPs_of fun p hp => h p (by simp [hp])⟩
theorem lwPs_of : ∀ {ps : List Pg}, (∀ p ∈ ps, lwP p) → lwPs ps
  | [], _ => by simp [lwPs]
  | q :: ps, h => by rw [lwPs]; exact ⟨h q (by simp), lwPs_of fun p hp => h p (by simp [hp])⟩
theorem allPg_wf {m : Nat} {r : List It} (h : OkRow m r) : (∀ p ∈ allPg r, wfP m p 1 true ∧ lwP p) ∧ (allPg r).length ≤ 16777216 := by
  have sz := h.sz
  have rl := len_rsize r
  obtain ⟨w1, w2⟩ := lowT_words h.low
  refine ⟨fun p hp => ?_, ?_⟩
  · rcases mem_allPg hp with ⟨t, ht, rfl⟩ | ⟨l, hl, rfl⟩
    · have hw := w1 t ht
      rw [wfP, lwP]
      exact ⟨fun c hc => by have := hw c hc; omega, hw, by have := (txl_le r).2 t ht; omega⟩
    · obtain ⟨a, b, c, e⟩ := h.lp l hl
      have hw := w2 l hl
      rw [wfP, lwP]
      refine ⟨⟨by omega, c, e, fun _ => rfl, ?_⟩, ?_, by simp⟩
      · rw [wfPs, wfP, wfPs]
        exact ⟨fun c hc => by have := hw c hc; omega, trivial⟩
      · rw [lwPs, lwP, lwPs]
        exact ⟨⟨hw, by have := word_rsize r l hl; omega⟩, trivial⟩
  · have := tailPg_len (txs r).2 (lps r)
    have := lps_le r
    simp only [allPg, List.length_cons]; omega
theorem progOf_wf {m : Nat} {r : List It} (h : OkRow m r) : wfPs m (progOf r) 1 true ∧ lwPs (progOf r) ∧ (progOf r).length ≤ 16777216 := by
  obtain ⟨a, b⟩ := allPg_wf h
  unfold progOf
  refine ⟨wfPs_of fun p hp => (a p (List.mem_filter.mp hp).1).1, lwPs_of fun p hp => (a p (List.mem_filter.mp hp).1).2, Nat.le_trans (List.length_filter_le _ _) b⟩
def sRowPg : Spec2 := fun ds g Q => ∃ (m : Nat) (r : List It), ds = [encRw m r] ∧ OkRow m r ∧ Q (encPg m (progOf r)) g
theorem q_row_program : ∀ ds g Q, sRowPg ds g Q → OkS (tab2 []) [4] ir_row_program { nx := fun _ g' => Q .non g', rt := Q } (startD ["row", "k", "texts", "loops", "parts", "text", "word", "form", "part"] ds) g := by
  rintro ds g Q ⟨m, r, rfl, ok, k⟩
  rw [show startD ["row", "k", "texts", "loops", "parts", "text", "word", "form", "part"] [encRw m r] = [some (encRw m r), none, none, none, none, none, none, none, none] from rfl]
  have ll := txl_le r
  have lp := lps_le r
  have lr := len_rsize r
  have sz := ok.sz
  unfold ir_row_program
  refine ok_cons (ok_asg rfl ?_)
  simp only [encRw, wqE, wqP_v, wqP_t, wqPs_n, wqPs_c, ownB, Bool.not_false, Nat.reduceBEq, Bool.or_self, Bool.or_true, List.getElem?_cons_zero, List.set_cons_zero, List.set_cons_succ, Option.some.injEq, exists_eq_left', true_and, Bool.not_false]
  unfold ir_row_program_1
  refine ok_cons (ok_asgO rfl rfl ?_)
  simp only [encTx, txl, List.map_cons, wqE, wqA, idxV_t, flatD_i, flatD_s, ownB, Bool.not_false, Nat.reduceBEq, Bool.or_self, List.getElem?_cons_zero, List.getElem?_cons_succ, List.set_cons_zero, List.set_cons_succ, Option.some.injEq, exists_eq_left', atI_0, true_and, Bool.not_false, QL]
  refine ⟨by simp, by simp, _, rfl, ?_⟩
  unfold ir_row_program_2
  refine ok_cons (ok_loop rfl ?_)
  simp only [encLs, wqE, wqO, wqI, slV_t, itV_t, flatD_i, ownB, Bool.not_false, Nat.reduceBEq, Bool.or_self, Bool.or_true, List.getElem?_cons_zero, List.getElem?_cons_succ, Option.some.injEq, exists_eq_left', D.int.injEq, exists_and_left, true_and, Bool.not_false, cut_1m]
  rw [zip_tl]
  refine forV_inv (fun xs env g' => g' = g ∧ ∃ (dn rs : List (List Nat × Lp)) (o5 o6 o7 : Option D), dn ++ rs = (txs r).2.zip (lps r) ∧ xs = (rs.map fun y => .tup [.str y.1, encLp y.2]) ∧
    env = [some (encRw m r), some (.int m), some (encTx r), some (encLs r), some (.rol ((Pg.text (txs r).1 :: (dn.map fun y => [Pg.loop y.2.2 [.text y.2.1], .text y.1]).flatten).map encP)), o5, o6, o7, none]) _ _ _ ⟨rfl, [], _, none, none, none, rfl, rfl, rfl⟩ ?_ ?_
  · rintro x r' env g' N' ⟨rfl, dn, rs, o5, o6, o7, hps, hr, rfl⟩ hN
    cases rs with
    | nil => cases hr
    | cons y rs =>
      rw [List.map_cons] at hr
      cases hr
      have hlen : (dn.map fun y : List Nat × Lp => [Pg.loop y.2.2 [.text y.2.1], Pg.text y.1]).flatten.length ≤ 2 * ((txs r).2.zip (lps r)).length := by
        have : ∀ l : List (List Nat × Lp), (l.map fun y : List Nat × Lp => [Pg.loop y.2.2 [.text y.2.1], Pg.text y.1]).flatten.length = 2 * l.length := fun l => by
          induction l with
          | nil => rfl
          | cons a l ih => simp [ih]; omega
        rw [this, ← hps, List.length_append]; omega
      have hzl : ((txs r).2.zip (lps r)).length ≤ (lps r).length := by rw [List.length_zip]; omega
      simp only [encLp, wqP_v, wqP_t, wqPs_n, wqPs_c, List.set_cons_zero, List.set_cons_succ]
      unfold ir_row_program_b1
      refine ok_cons (ok_app rfl _ rfl ?_)
      simp only [wqE, wqA, flatD_s, ownB, Bool.not_false, Nat.reduceBEq, Bool.or_self, Bool.or_true, List.getElem?_cons_zero, List.getElem?_cons_succ, List.set_cons_zero, List.set_cons_succ, Option.some.injEq, exists_eq_left', true_and, Bool.not_false]
      refine ⟨by simp, by simp, by simp, by rw [List.length_map, List.length_cons]; omega, ?_⟩
      unfold ir_row_program_b1_1
      refine ok_cons (ok_app rfl _ rfl ?_)
      simp only [wqE, wqA, flatD_s, ownB, Bool.not_false, Nat.reduceBEq, Bool.or_self, Bool.or_true, List.getElem?_cons_zero, List.getElem?_cons_succ, List.set_cons_zero, List.set_cons_succ, Option.some.injEq, exists_eq_left', true_and, Bool.not_false]
      refine ⟨by simp, by rw [List.length_append, List.length_map, List.length_cons, List.length_singleton]; omega, ok_nil (hN _ _ ⟨rfl, dn ++ [y], rs, some (.str y.1), some (.str y.2.1), some (.tup (y.2.2.map .int)), by rw [← hps]; simp, rfl, ?_⟩)⟩
      simp [encP, encPs]
  · rintro env g' ⟨rfl, dn, rs, o5, o6, o7, hps, hr, rfl⟩
    cases rs with
    | cons y rs => cases hr
    | nil =>
      rw [List.append_nil] at hps
      subst hps
      unfold ir_row_program_3
      refine ok_cons (ok_ret ?_)
      rw [← tailPg_zip]
      simp only [wqE, wqT, wqA, wqC, wqI, biV_tuple_r, itV_r, flatD_s, cmpV_NotEq, wqP_v, ownB, Bool.not_false, Bool.or_self, Bool.or_true, List.getElem?_cons_zero, List.getElem?_cons_succ, Option.some.injEq, exists_eq_left', true_and, Bool.not_false]
      obtain ⟨a, b⟩ := allPg_wf ok
      refine lcV_fm encP (fun x => if fullP x = true then some (encP x) else none) (allPg r) [] g' (by simpa using b) (fun x hx kk hk => ?_) ?_
      · have hc := cmp_encP x 1 true (a x hx).1
        have h0 : CmpN 1 (.tup [.str [116, 101, 120, 116], .str []]) := CmpN.tup (n := 0) fun e he => by
          simp only [List.mem_cons, List.not_mem_nil, or_false] at he
          rcases he with rfl | rfl
          · exact .str (by decide)
          · exact .str (by decide)
        simp only [wipeD, List.getElem?_cons_zero, List.getElem?_cons_succ, List.set_cons_zero, List.set_cons_succ, Option.some.injEq, exists_eq_left']
        refine ⟨by simp, eqV_of hc h0 (by omega) (by decide) fun t ht => ⟨_, rfl, ?_⟩⟩
        have hft : fullP x = !t := by
          cases t with
          | true =>
            have e := ht.mp rfl
            cases x with
            | text w => rw [encP] at e; simp at e; subst e; rfl
            | loop f qs => rw [encP] at e; simp at e
          | false =>
            cases x with
            | text w =>
              cases w with
              | nil => simp [encP] at ht
              | cons c w => rfl
            | loop f qs => rfl
        rw [hft] at hk
        rw [Bool.true_xor]
        cases t with
        | true => simp only [Bool.not_true, if_false, Bool.false_eq_true, Bool.not_true] at hk ⊢; exact hk
        | false => simp only [Bool.not_false, if_true, Bool.not_false] at hk ⊢; exact hk
      · rw [fm_filter]
        simp only [List.nil_append]
        refine ⟨by simp, ?_⟩
        have : encPg m (progOf r) = .tup [.int m, .tup (((allPg r).filter fullP).map encP)] := by unfold encPg progOf; rw [encPs_map]
        rw [this] at k
        exact k
end G57
set_option Elab.async false
set_option linter.all false
set_option maxRecDepth 100000
set_option maxHeartbeats 800000
namespace G57
open PySem L2
theorem w4 {w : List Nat} (h : lowW w) : ∀ c ∈ w, c < 0x110000 := fun c hc => by have := h c hc; omega
def shQ : Nat → Nat
  | 0 => 100
  | d + 1 => 9 * shQ d + 36
theorem shQ_ge : ∀ d, 100 ≤ shQ d
  | 0 => by simp [shQ]
  | d + 1 => by have := shQ_ge d; simp [shQ]; omega
mutual
theorem sh_Q {m : Nat} (hm : m ≤ 3) : ∀ (p : Pg) (d : Nat) (b : Bool), okQ m p d b → Sh (2 * d + 1) (shQ d) (encP p)
  | .text w, d, b, h => by
    rw [okQ] at h
    rw [encP]
    refine (Sh.two (n := 0) (k := 42) (l := 42) ((Sh.str (n := 0) (k := 4) (by decide) (by simp)).up (by omega) (by omega)) ((Sh.str (n := 0) (k := 4) (w4 h.2) h.1).up (by omega) (by omega))).up (by omega) ?_
    have := shQ_ge d; omega
  | .loop f ps, d, b, h => by
    rw [okQ] at h
    obtain ⟨h0, hf, ho, hql, hqs⟩ := h
    obtain ⟨d', rfl⟩ : ∃ d', d = d' + 1 := ⟨d - 1, by omega⟩
    simp only [Nat.add_sub_cancel] at hqs
    have ih := sh_Qs hm ps _ _ hqs
    have hk := shQ_ge d'
    rw [encP]
    refine (Sh.tup (n := 2 * d' + 2) (k := 3 * (shQ d' + 2) + 3) (m := 3) (fun e he => ?_) (by simp)).up (by omega) (by simp only [shQ]; omega)
    simp only [List.mem_cons, List.not_mem_nil, or_false] at he
    rcases he with rfl | rfl | rfl
    · exact (Sh.str (n := 0) (k := 4) (by decide) (by simp)).up (by omega) (by omega)
    · refine (Sh.ints (n := 0) (k := 4) (fun i hi => ?_) (by rw [hf.1]; omega)).up (by omega) (by omega)
      have := hf.2.1 i hi
      exact Nat.lt_of_le_of_lt (show i.natAbs ≤ 999 by omega) (by decide)
    · exact (Sh.tup (n := 2 * d' + 1) (m := 3) ih (by rw [encPs_len]; exact hql)).up (by omega) (by omega)
theorem sh_Qs {m : Nat} (hm : m ≤ 3) : ∀ (ps : List Pg) (d : Nat) (b : Bool), okQs m ps d b → ∀ e ∈ encPs ps, Sh (2 * d + 1) (shQ d) e
  | [], d, b, h, e, he => by simp [encPs] at he
  | p :: ps, d, b, h, e, he => by
    rw [okQs] at h
    rw [encPs] at he
    rcases List.mem_cons.mp he with rfl | he
    · exact sh_Q hm p d b h.1
    · exact sh_Qs hm ps d b h.2 e he
end
theorem szT_mem : ∀ {ts : List (List Nat)} {t : List Nat}, t ∈ ts → (t.length : Int) ≤ szT ts
  | [], t, h => by simp at h
  | u :: ts, t, h => by
    have hn : ∀ us : List (List Nat), 0 ≤ szT us := fun us => by
      induction us with
      | nil => simp [szT]
      | cons v us ih => unfold szT at ih ⊢; rw [List.map_cons, List.sum_cons]; omega
    have e : szT (u :: ts) = u.length + szT ts := by simp [szT]
    rw [e]
    rcases List.mem_cons.mp h with rfl | h
    · have := hn ts; omega
    · have := szT_mem h; omega
theorem szT_nn (ts : List (List Nat)) : 0 ≤ szT ts := by
  induction ts with
  | nil => simp [szT]
  | cons v us ih => unfold szT at ih ⊢; rw [List.map_cons, List.sum_cons]; omega
theorem szL_nn : ∀ {ls : List Lp}, (∀ l ∈ ls, 0 ≤ l.2.headD 0) → 0 ≤ szL ls
  | [], _ => by simp [szL]
  | l :: ls, h => by
    have a := szL_nn (ls := ls) fun k hk => h k (by simp [hk])
    have b := h l (by simp)
    have c : 0 ≤ (l.1.length : Int) * (1 + l.2.headD 0) := Int.mul_nonneg (by omega) (by omega)
    have e : szL (l :: ls) = l.1.length * (1 + l.2.headD 0) + szL ls := by simp [szL]
    rw [e]; omega
theorem szL_mem : ∀ {ls : List Lp} {l : Lp}, (∀ l ∈ ls, 0 ≤ l.2.headD 0) → l ∈ ls → (l.1.length : Int) ≤ szL ls
  | [], l, _, h => by simp at h
  | k :: ls, l, hn, h => by
    have e : szL (k :: ls) = k.1.length * (1 + k.2.headD 0) + szL ls := by simp [szL]
    have b := hn k (by simp)
    have c : (k.1.length : Int) * 1 ≤ (k.1.length : Int) * (1 + k.2.headD 0) := Int.mul_le_mul_of_nonneg_left (by omega) (by omega)
    rw [e]
    rcases List.mem_cons.mp h with rfl | h
    · have := szL_nn (ls := ls) fun k hk => hn k (by simp [hk]); omega
    · have := szL_mem (ls := ls) (fun k hk => hn k (by simp [hk])) h; omega
theorem head_nn {m : Nat} {f : List Int} (h : okFB m f) : 0 ≤ f.headD 0 := by
  cases e : f with
  | nil => simp
  | cons c r => rw [List.headD_cons]; exact (h.2.1 c (by rw [e]; simp)).1
section
variable {m : Nat} {ps : List Pg} (h : OkB m 300 ps)
include h
theorem OkB.wf : wfPs m ps 3 true ∧ lwPs ps := wfs_of_okQ ps 3 true h.ok
theorem OkB.rs : rsize (rowPs ps) ≤ 600000 := bdQ3 h.ok (by omega) h.len
theorem OkB.hd : ∀ l ∈ lps (rowPs ps), 0 ≤ l.2.headD 0 := fun l hl => head_nn (fmQs ps 3 true h.ok l hl).1
theorem OkB.tl {t : List Nat} (ht : t ∈ txl (rowPs ps)) : t.length ≤ 300 := by
  have a := szT_mem ht
  have b := szL_nn h.hd
  have c := h.sz
  omega
theorem OkB.wl {l : Lp} (hl : l ∈ lps (rowPs ps)) : l.1.length ≤ 300 := by
  have a := szL_mem h.hd hl
  have b := szT_nn (txl (rowPs ps))
  have c := h.sz
  omega
theorem OkB.low : lowT (rowPs ps) := fun x hx => by
  have := lowQs ps 3 true h.ok x hx
  cases x with
  | inl c => exact this
  | inr l =>
    have : ∀ r : List It, .inr l ∈ r → l ∈ lps r := fun r => by
      induction r with
      | nil => intro h; simp at h
      | cons y r ih =>
        intro h
        cases y with
        | inl c => simp only [lps]; exact ih (by simpa using h)
        | inr k =>
          simp only [lps, List.mem_cons]
          rcases List.mem_cons.mp h with h | h
          · cases h; exact .inl rfl
          · exact .inr (ih h)
    exact (fmQs ps 3 true h.ok l (this _ hx)).2.2.2
theorem OkB.okRow : OkRow m (rowPs ps) := ⟨by have := h.rs; omega, h.low, fun l hl => by
  obtain ⟨f1, f2, f3, f4⟩ := fmQs ps 3 true h.ok l hl
  exact ⟨f3, f2, f1.1, fun i hi => (f1.2.1 i hi).1⟩⟩
theorem OkB.shP : Sh 9 500000 (encPg m ps) := by
  have a := sh_Qs h.m3 ps 3 true h.ok
  have e : shQ 3 = 76176 := by decide
  refine (Sh.two (n := 8) (k := 41) (l := 3 * (shQ 3 + 2) + 3) ((Sh.int (n := 0) (Nat.lt_of_le_of_lt (show ((m : Int)).natAbs ≤ 3 by have := h.m3; omega) (by decide))).up (by omega) (by omega)) (Sh.tup (n := 7) (m := 3) a (by rw [encPs_len]; exact h.len))).up (by omega) (by omega)
end
end G57
set_option Elab.async false
set_option linter.all false
set_option maxRecDepth 100000
set_option maxHeartbeats 800000
namespace G57
abbrev Wd := List Nat
def pw (n : Nat) (w : Wd) : Wd := (List.replicate n w).flatten
theorem pw_0 (w : Wd) : pw 0 w = [] := rfl
theorem pw_s (n : Nat) (w : Wd) : pw (n + 1) w = w ++ pw n w := by simp [pw, List.replicate_succ]
theorem pw_1 (w : Wd) : pw 1 w = w := by simp [pw]
theorem pw_add (a b : Nat) (w : Wd) : pw (a + b) w = pw a w ++ pw b w := by
  induction a with
  | zero => simp [pw_0]
  | succ a ih => rw [Nat.succ_add, pw_s, ih, pw_s, List.append_assoc]
theorem pw_s' (n : Nat) (w : Wd) : pw (n + 1) w = pw n w ++ w := by rw [pw_add, pw_1]
theorem pw_mul (a b : Nat) (w : Wd) : pw a (pw b w) = pw (a * b) w := by
  induction a with
  | zero => simp [pw_0]
  | succ a ih => rw [pw_s, ih, Nat.succ_mul, Nat.add_comm, pw_add]
theorem pw_len (n : Nat) (w : Wd) : (pw n w).length = n * w.length := len_rep w n
theorem pw_rot (n : Nat) (x : Nat) (u : Wd) : x :: pw n (u ++ [x]) = pw n (x :: u) ++ [x] := by
  induction n with
  | zero => simp [pw_0]
  | succ n ih =>
    rw [pw_s, pw_s]
    calc x :: (u ++ [x] ++ pw n (u ++ [x])) = (x :: u) ++ (x :: pw n (u ++ [x])) := by simp
      _ = (x :: u) ++ (pw n (x :: u) ++ [x]) := by rw [ih]
      _ = (x :: u) ++ pw n (x :: u) ++ [x] := by simp
def isPer (w : Wd) (s : Nat) : Prop := 0 < s ∧ s ≤ w.length ∧ w = pw (w.length / s) (w.take s)
instance (w : Wd) (s : Nat) : Decidable (isPer w s) := by unfold isPer; exact inferInstance
theorem per_dvd {w : Wd} {s : Nat} (h : isPer w s) : s ∣ w.length := by
  obtain ⟨h0, h1, h2⟩ := h
  have e := congrArg List.length h2
  rw [pw_len, List.length_take, Nat.min_eq_left h1] at e
  exact ⟨w.length / s, by rw [Nat.mul_comm]; exact e⟩
theorem per_self {w : Wd} (h : w ≠ []) : isPer w w.length := by
  have hp := List.length_pos_iff.mpr h
  refine ⟨hp, Nat.le_refl _, ?_⟩
  rw [Nat.div_self hp, pw_1, List.take_length]
def rnd (w : Wd) (i : Nat) : Option Nat := w[i % w.length]?
theorem rnd_get {w : Wd} {i : Nat} (h : i < w.length) : rnd w i = w[i]? := by unfold rnd; rw [Nat.mod_eq_of_lt h]
theorem pw_get {v : Wd} (hv : v ≠ []) (n i : Nat) (h : i < n * v.length) : (pw n v)[i]? = rnd v i := rep_get v hv n i h
theorem per_rnd {w : Wd} {s : Nat} (h : isPer w s) : ∀ i, rnd w (i + s) = rnd w i := by
  have hd := per_dvd h
  obtain ⟨h0, h1, h2⟩ := h
  have hL : 0 < w.length := by omega
  obtain ⟨q, hq⟩ := hd
  have hv : w.take s ≠ [] := by
    intro e
    have := congrArg List.length e
    rw [List.length_take, Nat.min_eq_left h1] at this
    simp at this; omega
  have hvl : (w.take s).length = s := by rw [List.length_take, Nat.min_eq_left h1]
  have key : ∀ i, i < w.length → w[i]? = rnd (w.take s) i := fun i hi => by
    have hi' : i < (w.length / s) * (w.take s).length := by rw [hvl, hq, Nat.mul_div_cancel_left _ h0, Nat.mul_comm, ← hq]; exact hi
    have := pw_get hv (w.length / s) i hi'
    rw [← h2] at this
    exact this
  have key2 : ∀ i, rnd w i = rnd (w.take s) i := fun i => by
    unfold rnd
    rw [key _ (Nat.mod_lt _ hL)]
    unfold rnd
    rw [hvl]
    congr 1
    exact Nat.mod_mod_of_dvd _ ⟨q, hq⟩
  intro i
  rw [key2, key2]
  unfold rnd
  rw [hvl, Nat.add_mod_right]
theorem rnd_per {w : Wd} {s : Nat} (h0 : 0 < s) (hd : s ∣ w.length) (hw : w ≠ []) (h : ∀ i, rnd w (i + s) = rnd w i) : isPer w s := by
  have hL := List.length_pos_iff.mpr hw
  have h1 : s ≤ w.length := Nat.le_of_dvd hL hd
  refine ⟨h0, h1, ?_⟩
  obtain ⟨q, hq⟩ := hd
  have hvl : (w.take s).length = s := by rw [List.length_take, Nat.min_eq_left h1]
  have hv : w.take s ≠ [] := by intro e; rw [e] at hvl; simp at hvl; omega
  have hm : ∀ k i, rnd w (i + k * s) = rnd w i := fun k => by
    induction k with
    | zero => intro i; simp
    | succ k ih => intro i; rw [Nat.succ_mul, ← Nat.add_assoc, h, ih]
  apply List.ext_getElem?
  intro i
  have hlen : (pw (w.length / s) (w.take s)).length = w.length := by rw [pw_len, hvl, hq, Nat.mul_div_cancel_left _ h0, Nat.mul_comm]
  by_cases hi : i < w.length
  · rw [pw_get hv _ i (by rw [hvl, hq, Nat.mul_div_cancel_left _ h0, Nat.mul_comm, ← hq]; exact hi)]
    unfold rnd
    rw [hvl, List.getElem?_take, if_pos (Nat.mod_lt _ h0)]
    have e := hm (i / s) (i % s)
    rw [show i % s + i / s * s = i by rw [Nat.mul_comm]; exact Nat.mod_add_div i s] at e
    rw [rnd_get hi] at e
    rw [e, rnd_get (Nat.lt_of_lt_of_le (Nat.mod_lt _ h0) h1)]
  · rw [List.getElem?_eq_none (by omega), List.getElem?_eq_none (by omega)]
theorem rnd_gcd {f : Nat → Option Nat} : ∀ (n a b : Nat), a + b ≤ n → (∀ i, f (i + a) = f i) → (∀ i, f (i + b) = f i) → ∀ i, f (i + Nat.gcd a b) = f i
  | 0, a, b, h, ha, hb => by
    have : a = 0 := by omega
    have : b = 0 := by omega
    subst_vars; simpa using ha
  | n + 1, a, b, h, ha, hb => by
    by_cases h0 : a = 0
    · subst h0; simpa using hb
    by_cases h1 : b = 0
    · subst h1; simpa using ha
    by_cases hab : a ≤ b
    · have hb' : ∀ i, f (i + (b - a)) = f i := fun i => by
        rw [← ha (i + (b - a)), show i + (b - a) + a = i + b by omega]; exact hb i
      have := rnd_gcd n a (b - a) (by omega) ha hb'
      have e : Nat.gcd a (b - a) = Nat.gcd a b := Nat.gcd_sub_self_right hab
      rw [e] at this; exact this
    · have ha' : ∀ i, f (i + (a - b)) = f i := fun i => by
        rw [← hb (i + (a - b)), show i + (a - b) + b = i + a by omega]; exact ha i
      have := rnd_gcd n (a - b) b (by omega) ha' hb
      have e : Nat.gcd (a - b) b = Nat.gcd a b := Nat.gcd_sub_self_left (by omega)
      rw [e] at this; exact this
theorem rnd_pw {v : Wd} (hv : v ≠ []) {k : Nat} (hk : 0 < k) (i : Nat) : rnd (pw k v) i = rnd v i := by
  have hp := List.length_pos_iff.mpr hv
  unfold rnd
  rw [pw_len, pw_get hv _ _ (Nat.mod_lt _ (Nat.mul_pos hk hp))]
  unfold rnd
  rw [Nat.mod_mod_of_dvd _ (Nat.dvd_mul_left _ _)]
def lst (w : Wd) : Nat → Nat → Nat
  | 0, s => s
  | n + 1, s => if isPer w s then s else lst w n (s + 1)
theorem lst_spec (w : Wd) : ∀ (n s : Nat), isPer w (s + n) → isPer w (lst w n s) ∧ s ≤ lst w n s ∧ (∀ t, s ≤ t → t < lst w n s → ¬ isPer w t)
  | 0, s, h => by simp only [lst]; exact ⟨h, Nat.le_refl _, fun t h1 h2 => by omega⟩
  | n + 1, s, h => by
    simp only [lst]
    split
    · rename_i hp; exact ⟨hp, Nat.le_refl _, fun t h1 h2 => by omega⟩
    · rename_i hp
      obtain ⟨a, b, c⟩ := lst_spec w n (s + 1) (by rw [show s + 1 + n = s + (n + 1) by omega]; exact h)
      refine ⟨a, by omega, fun t h1 h2 => ?_⟩
      by_cases e : t = s
      · rw [e]; exact hp
      · exact c t (by omega) h2
def per (w : Wd) : Nat := lst w (w.length - 1) 1
theorem per_spec {w : Wd} (h : w ≠ []) : isPer w (per w) ∧ ∀ t, isPer w t → per w ≤ t := by
  have hp := List.length_pos_iff.mpr h
  obtain ⟨a, b, c⟩ := lst_spec w (w.length - 1) 1 (by rw [show 1 + (w.length - 1) = w.length by omega]; exact per_self h)
  refine ⟨a, fun t ht => ?_⟩
  rcases Nat.lt_or_ge t (lst w (w.length - 1) 1) with h1 | h1
  · exact absurd ht (c t ht.1 h1)
  · exact h1
theorem per_least {w : Wd} (h : w ≠ []) {t : Nat} (ht : isPer w t) : per w ∣ t := by
  obtain ⟨a, b⟩ := per_spec h
  have g := rnd_gcd (per w + t) (per w) t (Nat.le_refl _) (per_rnd a) (per_rnd ht)
  have hg : 0 < Nat.gcd (per w) t := Nat.gcd_pos_of_pos_left _ a.1
  have := rnd_per hg (Nat.dvd_trans (Nat.gcd_dvd_left _ _) (per_dvd a)) h g
  have hle := b _ this
  have hd : Nat.gcd (per w) t ∣ per w := Nat.gcd_dvd_left _ _
  have e : Nat.gcd (per w) t = per w := Nat.le_antisymm (Nat.le_of_dvd a.1 hd) hle
  rw [← e]; exact Nat.gcd_dvd_right _ _
def root (w : Wd) : Wd × Nat := (w.take (per w), w.length / per w)
theorem root_pw {w : Wd} (h : w ≠ []) : w = pw (root w).2 (root w).1 := (per_spec h).1.2.2
theorem root_len {w : Wd} (h : w ≠ []) : (root w).1.length = per w := by
  have := (per_spec h).1
  unfold root
  rw [List.length_take, Nat.min_eq_left this.2.1]
theorem root_ne {w : Wd} (h : w ≠ []) : (root w).1 ≠ [] ∧ 0 < (root w).2 := by
  have a := (per_spec h).1
  have l := root_len h
  refine ⟨fun e => by rw [e, List.length_nil] at l; have := a.1; omega, ?_⟩
  exact Nat.div_pos a.2.1 a.1
theorem per_pw {v : Wd} (hv : v ≠ []) {k : Nat} (hk : 0 < k) : per (pw k v) = per v := by
  have hp := List.length_pos_iff.mpr hv
  have hw : pw k v ≠ [] := fun e => by
    have := congrArg List.length e
    rw [pw_len] at this
    have := Nat.mul_pos hk hp
    simp at *; omega
  obtain ⟨a, b⟩ := per_spec hv
  obtain ⟨c, d⟩ := per_spec hw
  apply Nat.le_antisymm
  · apply d
    refine rnd_per a.1 (by rw [pw_len]; exact Nat.dvd_trans (per_dvd a) (Nat.dvd_mul_left _ _)) hw fun i => ?_
    rw [rnd_pw hv hk, rnd_pw hv hk]; exact per_rnd a i
  · have hL : isPer (pw k v) v.length := by
      refine rnd_per hp (by rw [pw_len]; exact Nat.dvd_mul_left _ _) hw fun i => ?_
      rw [rnd_pw hv hk, rnd_pw hv hk]
      unfold rnd
      rw [Nat.add_mod_right]
    apply b
    refine rnd_per c.1 (per_least hw hL) hv fun i => ?_
    rw [← rnd_pw hv hk, ← rnd_pw hv hk]; exact per_rnd c i
theorem root_of_pw {v : Wd} (hv : v ≠ []) {k : Nat} (hk : 0 < k) : root (pw k v) = ((root v).1, k * (root v).2) := by
  have a := (per_spec hv).1
  unfold root
  rw [per_pw hv hk, pw_len]
  congr 1
  · obtain ⟨k', rfl⟩ : ∃ k', k = k' + 1 := ⟨k - 1, by omega⟩
    rw [pw_s, List.take_append_of_le_length a.2.1]
  · exact Nat.mul_div_assoc _ (per_dvd a)
theorem rnd_rot {x : Nat} {u : Wd} (i : Nat) : rnd (x :: u) (i + 1) = rnd (u ++ [x]) i := by
  unfold rnd
  rw [List.length_append, List.length_singleton, List.length_cons]
  have hm := Nat.mod_lt i (show 0 < u.length + 1 by omega)
  by_cases h : i % (u.length + 1) = u.length
  · have e : (i + 1) % (u.length + 1) = 0 := by
      rw [Nat.add_mod, h]
      by_cases hu : u.length = 0
      · rw [hu]
      · rw [Nat.mod_eq_of_lt (show 1 < u.length + 1 by omega), Nat.mod_self]
    rw [e, h, List.getElem?_append_right (Nat.le_refl _)]
    simp
  · have e : (i + 1) % (u.length + 1) = i % (u.length + 1) + 1 := by
      rw [Nat.add_mod]
      by_cases hu : u.length = 0
      · rw [hu] at hm h; omega
      · rw [Nat.mod_eq_of_lt (show 1 < u.length + 1 by omega), Nat.mod_eq_of_lt (by omega)]
    rw [e, List.getElem?_cons_succ, List.getElem?_append_left (by omega)]
theorem isPer_rot {x : Nat} {u : Wd} {s : Nat} : isPer (x :: u) s ↔ isPer (u ++ [x]) s := by
  have hl : (u ++ [x]).length = (x :: u).length := by simp
  constructor
  · intro h
    refine rnd_per h.1 (by rw [hl]; exact per_dvd h) (by simp) fun i => ?_
    rw [← rnd_rot, ← rnd_rot, show i + s + 1 = i + 1 + s by omega]; exact per_rnd h _
  · intro h
    have hr := per_rnd h
    have hr' : ∀ i, rnd (x :: u) (i + 1 + s) = rnd (x :: u) (i + 1) := fun i => by rw [show i + 1 + s = i + s + 1 by omega, rnd_rot, rnd_rot]; exact hr i
    refine rnd_per h.1 (by rw [← hl]; exact per_dvd h) (by simp) fun i => ?_
    have e : ∀ j, rnd (x :: u) (j + (x :: u).length) = rnd (x :: u) j := fun j => by unfold rnd; rw [Nat.add_mod_right]
    rw [← e i, ← e (i + s)]
    have := hr' (i + u.length)
    rw [show i + s + (x :: u).length = i + u.length + 1 + s by simp; omega, show i + (x :: u).length = i + u.length + 1 by simp; omega]
    exact this
theorem per_rot {x : Nat} {u : Wd} : per (x :: u) = per (u ++ [x]) := by
  obtain ⟨a, b⟩ := per_spec (w := x :: u) (by simp)
  obtain ⟨c, d⟩ := per_spec (w := u ++ [x]) (by simp)
  exact Nat.le_antisymm (b _ (isPer_rot.mpr c)) (d _ (isPer_rot.mp a))
theorem root_rot {x : Nat} {u : Wd} : ∃ v n, root (u ++ [x]) = (v ++ [x], n) ∧ root (x :: u) = (x :: v, n) := by
  have h1 : u ++ [x] ≠ [] := by simp
  have h2 : x :: u ≠ [] := by simp
  have e1 := root_pw h1
  have l1 := root_len h1
  obtain ⟨n1, n2⟩ := root_ne h1
  obtain ⟨p1, p2⟩ := (per_spec h2).1
  obtain ⟨n, hn⟩ : ∃ n, (root (u ++ [x])).2 = n + 1 := ⟨(root (u ++ [x])).2 - 1, by omega⟩
  have hne := List.dropLast_concat_getLast n1
  generalize hv : (root (u ++ [x])).1.dropLast = v at hne
  generalize hy : (root (u ++ [x])).1.getLast n1 = y at hne
  have e2 : u ++ [x] = pw (n + 1) (v ++ [y]) := by rw [hne, ← hn]; exact e1
  have hxy : u ++ [x] = (pw n (v ++ [y]) ++ v) ++ [y] := by rw [e2, pw_s']; simp
  obtain ⟨hu, hx⟩ := List.append_inj' hxy rfl
  have hx' : x = y := by simpa using hx
  subst hx'
  refine ⟨v, n + 1, by rw [← hn]; exact Prod.ext hne.symm rfl, ?_⟩
  have e3 : x :: u = pw (n + 1) (x :: v) := by
    rw [hu, pw_s']
    rw [← List.cons_append, pw_rot]; simp
  have hlen : (x :: v).length = per (x :: u) := by
    rw [per_rot, ← l1, ← hne]; simp
  unfold root
  refine Prod.ext ?_ ?_
  · show (x :: u).take (per (x :: u)) = x :: v
    rw [← hlen]
    conv => lhs; rw [e3, pw_s]
    exact List.take_left
  · show (x :: u).length / per (x :: u) = n + 1
    rw [← hlen]
    conv => lhs; rw [e3, pw_len]
    exact Nat.mul_div_cancel _ (by simp)
end G57
set_option Elab.async false
set_option linter.all false
set_option maxRecDepth 100000
set_option maxHeartbeats 800000
namespace G57
def lets (w : Wd) : List It := w.map .inl
theorem lets_app (a b : Wd) : lets (a ++ b) = lets a ++ lets b := by simp [lets]
def pullR : List It → Wd → List It × Wd × Wd
  | .inl c :: a, w => match w.getLast? with
    | some d => if c = d then let r := pullR a (c :: w.dropLast); (r.1, r.2.1, r.2.2 ++ [c]) else (.inl c :: a, w, [])
    | none => (.inl c :: a, w, [])
  | a, w => (a, w, [])
def upF (n : Nat) (f : List Int) : List Int := 0 :: f.tail.map fun i => (n : Int) * i
def addF (f g : List Int) : List Int := (f.zip g).map fun y => y.1 + y.2
def stepR (acc : List It) : It → List It
  | .inl c => .inl c :: acc
  | .inr (w, f) =>
    let r := root w
    let p := pullR acc r.1
    let behind := (lets (p.2.2 ++ pw (r.2 * (f.headD 0).toNat) r.1)).reverse
    behind ++ match p.1 with
      | .inr (v, g) :: a => if v = p.2.1 then .inr (v, addF g (upF r.2 f)) :: a else .inr (p.2.1, upF r.2 f) :: .inr (v, g) :: a
      | a => .inr (p.2.1, upF r.2 f) :: a
def plainR (acc : List It) (r : List It) : List It := r.foldl stepR acc
def plainI (r : List It) : List It := (plainR [] r).reverse
theorem plainR_app (acc a b : List It) : plainR acc (a ++ b) = plainR (plainR acc a) b := List.foldl_append
theorem plainR_lets (acc : List It) (w : Wd) : plainR acc (lets w) = (lets w).reverse ++ acc := by
  induction w generalizing acc with
  | nil => rfl
  | cons c w ih =>
    show plainR (stepR acc (.inl c)) (lets w) = _
    rw [ih, stepR]
    simp [lets]
theorem pullR_cons (a : List It) (c : Nat) (u : Wd) : pullR (.inl c :: a) (u ++ [c]) = ((pullR a (c :: u)).1, (pullR a (c :: u)).2.1, (pullR a (c :: u)).2.2 ++ [c]) := by
  rw [pullR]
  simp
theorem pullR_inr (a : List It) (l : Lp) (w : Wd) : pullR (.inr l :: a) w = (.inr l :: a, w, []) := by rw [pullR]; simp
theorem pullR_nil (w : Wd) : pullR [] w = ([], w, []) := by rw [pullR]; simp
theorem pull_back (m : Nat) (A : List It) : ∀ (a : List It) (w : Wd), w ≠ [] →
    pullR ((lets ((pullR a w).2.2 ++ pw m w)).reverse ++ A) w = ((pullR A (pullR a w).2.1).1, (pullR A (pullR a w).2.1).2.1, (pullR A (pullR a w).2.1).2.2 ++ ((pullR a w).2.2 ++ pw m w)) := by
  have words : ∀ (m : Nat) (B : List It) (w : Wd), w ≠ [] → pullR ((lets (pw m w)).reverse ++ B) w = ((pullR B w).1, (pullR B w).2.1, (pullR B w).2.2 ++ pw m w) := by
    have suff : ∀ (s t : Wd) (B : List It), pullR ((lets s).reverse ++ B) (t ++ s) = ((pullR B (s ++ t)).1, (pullR B (s ++ t)).2.1, (pullR B (s ++ t)).2.2 ++ s) := by
      intro s
      induction hs : s.length generalizing s with
      | zero => intro t B; rw [List.length_eq_zero_iff.mp hs]; simp [lets]
      | succ n ih =>
        intro t B
        have hne : s ≠ [] := fun e => by rw [e] at hs; simp at hs
        obtain ⟨s', c, rfl⟩ : ∃ s' c, s = s' ++ [c] := ⟨s.dropLast, s.getLast hne, (List.dropLast_concat_getLast hne).symm⟩
        rw [List.length_append, List.length_singleton] at hs
        rw [lets_app, List.reverse_append, show (lets [c]).reverse = [.inl c] from rfl, List.singleton_append, List.cons_append, ← List.append_assoc, pullR_cons]
        have := ih s' (by omega) (c :: t) B
        rw [List.cons_append] at this
        rw [this]
        simp
    intro m
    induction m with
    | zero => intro B w hw; simp [pw_0, lets]
    | succ m ih =>
      intro B w hw
      rw [pw_s', lets_app, List.reverse_append, List.append_assoc]
      have := suff w [] ((lets (pw m w)).reverse ++ B)
      rw [List.nil_append, List.append_nil] at this
      rw [this, ih B w hw]
      simp
  intro a
  induction a with
  | nil => intro w hw; rw [pullR_nil]; simp only [List.nil_append]; exact words m A w hw
  | cons x a ih =>
    intro w hw
    cases x with
    | inr l => rw [pullR_inr]; simp only [List.nil_append]; exact words m A w hw
    | inl c =>
      rw [pullR]
      split
      · rename_i d hd
        split
        · rename_i hcd
          subst hcd
          obtain ⟨v, e⟩ : ∃ v, w = v ++ [c] := by
            have := List.getLast?_eq_some_iff.mp hd
            obtain ⟨v, e⟩ := this
            exact ⟨v, e⟩
          subst e
          simp only [List.dropLast_concat]
          have ih' := ih (c :: v) (by simp)
          have e1 : (pullR a (c :: v)).2.2 ++ [c] ++ pw m (v ++ [c]) = ((pullR a (c :: v)).2.2 ++ pw m (c :: v)) ++ [c] := by
            rw [List.append_assoc, List.singleton_append, pw_rot, List.append_assoc]
          rw [e1, lets_app, List.reverse_append, show (lets [c]).reverse = [.inl c] from rfl, List.singleton_append, List.cons_append, pullR_cons, ih']
          simp
        · simp only [List.nil_append]; exact words m A w hw
      · simp only [List.nil_append]; exact words m A w hw
end G57
set_option Elab.async false
set_option linter.all false
set_option maxRecDepth 100000
set_option maxHeartbeats 800000
namespace G57
def joinR (a : List It) (v : Wd) (F : List Int) : List It := match a with
  | .inr (u, g) :: b => if u = v then .inr (u, addF g F) :: b else .inr (v, F) :: .inr (u, g) :: b
  | a => .inr (v, F) :: a
theorem stepR_eq (acc : List It) (w : Wd) (f : List Int) : stepR acc (.inr (w, f)) = (lets ((pullR acc (root w).1).2.2 ++ pw ((root w).2 * (f.headD 0).toNat) (root w).1)).reverse ++ joinR (pullR acc (root w).1).1 (pullR acc (root w).1).2.1 (upF (root w).2 f) := by
  rw [stepR]
  congr 1
theorem joinR_head (a : List It) (v : Wd) (F : List Int) : ∃ G b, joinR a v F = .inr (v, G) :: b := by
  unfold joinR
  split
  · split
    · rename_i h; exact ⟨_, _, by rw [h]⟩
    · exact ⟨_, _, rfl⟩
  · exact ⟨_, _, rfl⟩
theorem addF_assoc : ∀ a b c : List Int, addF (addF a b) c = addF a (addF b c)
  | [], b, c => by simp [addF]
  | x :: a, [], c => by simp [addF]
  | x :: a, y :: b, [] => by simp [addF]
  | x :: a, y :: b, z :: c => by
    have := addF_assoc a b c
    unfold addF at this ⊢
    simp only [List.zip_cons_cons, List.map_cons, Int.add_assoc]
    rw [this]
theorem addF_up (n : Nat) (f g : List Int) : addF (upF n f) (upF n g) = upF n (addF f g) := by
  have core : ∀ a b : List Int, ((a.map fun i => (n : Int) * i).zip (b.map fun i => (n : Int) * i)).map (fun y => y.1 + y.2) = ((a.zip b).map fun y => y.1 + y.2).map fun i => (n : Int) * i := fun a => by
    induction a with
    | nil => intro b; simp
    | cons x a ih =>
      intro b
      cases b with
      | nil => simp
      | cons y b => simp only [List.map_cons, List.zip_cons_cons, ih, Int.mul_add]
  unfold upF addF
  cases f with
  | nil => simp
  | cons x f => cases g with
    | nil => simp
    | cons y g =>
      simp only [List.tail_cons, List.zip_cons_cons, List.map_cons, core, Int.add_zero]
theorem joinR_two (a : List It) (v : Wd) (F G : List Int) : joinR (joinR a v F) v G = joinR a v (addF F G) := by
  unfold joinR
  split
  · rename_i u g b h
    split at h
    · rename_i u' g' b'
      split at h
      · rename_i hu
        cases h
        subst hu
        simp [addF_assoc]
      · rename_i hu
        cases h
        simp [hu]
    · cases h
      simp
  · rename_i h
    exfalso
    split at h
    · split at h
      · exact h _ _ _ rfl
      · exact h _ _ _ rfl
    · exact h _ _ _ rfl
theorem inv_left (acc : List It) (x : Nat) (u : Wd) (f : List Int) : plainR acc [.inl x, .inr (u ++ [x], f)] = plainR acc [.inr (x :: u, f), .inl x] := by
  obtain ⟨v, n, h1, h2⟩ := root_rot (x := x) (u := u)
  show stepR (stepR acc (.inl x)) (.inr (u ++ [x], f)) = stepR (stepR acc (.inr (x :: u, f))) (.inl x)
  rw [stepR_eq, stepR_eq, h1, h2]
  simp only [stepR]
  rw [pullR_cons]
  simp only
  rw [List.append_assoc, List.singleton_append, pw_rot, ← List.append_assoc, lets_app _ [x], List.reverse_append]
  rfl
theorem inv_root (acc : List It) (n : Nat) (v : Wd) (f : List Int) (hv : v ≠ []) (hn : 0 < n) (hf : 0 ≤ f.headD 0) : plainR acc [.inr (pw n v, f)] = plainR acc [.inr (v, f.map fun i => (n : Int) * i)] := by
  show stepR acc (.inr (pw n v, f)) = stepR acc (.inr (v, f.map fun i => (n : Int) * i))
  rw [stepR_eq, stepR_eq, root_of_pw hv hn]
  have e1 : (n * (root v).2) * (f.headD 0).toNat = (root v).2 * ((f.map fun i => (n : Int) * i).headD 0).toNat := by
    cases f with
    | nil => simp
    | cons c r =>
      simp only [List.headD_cons, List.map_cons] at hf ⊢
      obtain ⟨c, rfl⟩ := Int.eq_ofNat_of_zero_le hf
      rw [show ((n : Int) * (c : Int)) = ((n * c : Nat) : Int) from by simp, Int.toNat_natCast, Int.toNat_natCast]
      rw [Nat.mul_comm n, Nat.mul_assoc]
  have e2 : upF (n * (root v).2) f = upF (root v).2 (f.map fun i => (n : Int) * i) := by
    unfold upF
    congr 1
    rw [← List.map_tail, List.map_map]
    apply List.map_congr_left
    intro i _
    simp only [Function.comp]
    rw [show ((n * (root v).2 : Nat) : Int) = (n : Int) * ((root v).2 : Int) from by simp, Int.mul_comm (n : Int), Int.mul_assoc]
  rw [e1, e2]
theorem inv_out (acc : List It) (w : Wd) (c : Int) (r : List Int) (hw : w ≠ []) (hc : 1 ≤ c) : plainR acc [.inr (w, c :: r)] = plainR acc (.inr (w, (c - 1) :: r) :: lets w) := by
  show stepR acc (.inr (w, c :: r)) = plainR (stepR acc (.inr (w, (c - 1) :: r))) (lets w)
  rw [plainR_lets, stepR_eq, stepR_eq]
  have e1 : (root w).2 * ((c :: r).headD 0).toNat = (root w).2 * (((c - 1) :: r).headD 0).toNat + (root w).2 := by
    simp only [List.headD_cons]
    rw [show c.toNat = (c - 1).toNat + 1 by omega, Nat.mul_add, Nat.mul_one]
  have e2 : upF (root w).2 (c :: r) = upF (root w).2 ((c - 1) :: r) := rfl
  rw [e1, e2, pw_add, ← root_pw hw, ← List.append_assoc, lets_app _ w, List.reverse_append, List.append_assoc]
theorem inv_join (acc : List It) (w : Wd) (f g : List Int) (hw : w ≠ []) (hf : f ≠ []) (hg : g ≠ []) (hf0 : 0 ≤ f.headD 0) (hg0 : 0 ≤ g.headD 0) : plainR acc [.inr (w, f), .inr (w, g)] = plainR acc [.inr (w, addF f g)] := by
  show stepR (stepR acc (.inr (w, f))) (.inr (w, g)) = stepR acc (.inr (w, addF f g))
  obtain ⟨r1, r2⟩ := root_ne hw
  rw [stepR_eq (stepR acc _), stepR_eq acc, stepR_eq acc]
  obtain ⟨G, b, hh⟩ := joinR_head (pullR acc (root w).1).1 (pullR acc (root w).1).2.1 (upF (root w).2 f)
  rw [pull_back _ _ _ _ r1]
  rw [hh, pullR_inr, ← hh]
  simp only [List.nil_append]
  rw [joinR_two, addF_up]
  congr 2
  rw [List.append_assoc, ← pw_add]
  congr 3
  cases f with
  | nil => exact absurd rfl hf
  | cons a f => cases g with
    | nil => exact absurd rfl hg
    | cons b g =>
      simp only [addF, List.zip_cons_cons, List.map_cons, List.headD_cons] at hf0 hg0 ⊢
      rw [Int.toNat_add hf0 hg0, Nat.mul_add]
theorem plain_mid {a x y b : List It} (h : ∀ acc, plainR acc x = plainR acc y) : plainI (a ++ x ++ b) = plainI (a ++ y ++ b) := by
  unfold plainI
  rw [plainR_app, plainR_app, plainR_app, plainR_app, h]
def plainB : Option It → List It → Prop
  | _, [] => True
  | _, .inl c :: r => plainB (some (.inl c)) r
  | o, .inr (w, f) :: r => (w ≠ [] ∧ (root w).2 = 1 ∧ f ≠ [] ∧ f.headD 0 = 0 ∧ (∀ c, o = some (.inl c) → w.getLast? ≠ some c) ∧ ∀ g, o ≠ some (.inr (w, g))) ∧ plainB (some (.inr (w, f))) r
theorem pull_stop {acc : List It} {w : Wd} (h : ∀ c, acc.head? = some (.inl c) → w.getLast? ≠ some c) : pullR acc w = (acc, w, []) := by
  cases acc with
  | nil => exact pullR_nil w
  | cons x acc =>
    cases x with
    | inr l => exact pullR_inr acc l w
    | inl c =>
      rw [pullR]
      split
      · rename_i d hd
        split
        · rename_i e
          subst e
          exact absurd hd (h c rfl)
        · rfl
      · rfl
theorem root_1 {w : Wd} (hw : w ≠ []) (h : (root w).2 = 1) : (root w).1 = w := by
  have := root_pw hw
  rw [h, pw_1] at this
  exact this.symm
theorem upF_1 {f : List Int} (h : f ≠ []) (h0 : f.headD 0 = 0) : upF 1 f = f := by
  cases f with
  | nil => exact absurd rfl h
  | cons c r =>
    simp only [List.headD_cons] at h0
    subst h0
    simp [upF]
theorem plain_fix : ∀ (r acc : List It), plainB acc.head? r → plainR acc r = r.reverse ++ acc
  | [], acc, h => rfl
  | .inl c :: r, acc, h => by
    show plainR (stepR acc (.inl c)) r = _
    rw [stepR, plain_fix r _ (by simpa [plainB] using h)]
    simp
  | .inr (w, f) :: r, acc, h => by
    simp only [plainB] at h
    obtain ⟨⟨h1, h2, h3, h4, h5, h6⟩, h7⟩ := h
    show plainR (stepR acc (.inr (w, f))) r = _
    rw [stepR_eq, h2, root_1 h1 h2, pull_stop (fun c hc => h5 c hc), upF_1 h3 h4, h4]
    simp only [Int.toNat_zero, Nat.mul_zero, pw_0, List.append_nil, lets, List.map_nil, List.reverse_nil, List.nil_append]
    have e : joinR acc w f = .inr (w, f) :: acc := by
      unfold joinR
      split
      · rename_i u g b
        split
        · rename_i hu
          subst hu
          exact absurd rfl (h6 g)
        · rfl
      · rfl
    rw [e, plain_fix r _ (by simpa using h7)]
    simp
theorem plainI_fix {r : List It} (h : plainB none r) : plainI r = r := by
  unfold plainI
  rw [plain_fix r [] h]
  simp
end G57
set_option Elab.async false
set_option linter.all false
set_option maxRecDepth 100000
set_option maxHeartbeats 800000
namespace G57
open PySem L2
def ir_root_of_b2 : Sx := .cons (.ret (.tup (.cons (.sl (.var 0) (.nil) (.cons (.var 1) .nil)) (.cons (.bin .FloorDiv (.bi .len (.cons (.var 0) (.nil))) (.var 1)) (.nil))))) .nil
def ir_root_of_b1 : Sx := .cons (.iff (.cmp .Eq (.var 0) (.bin .Mult (.sl (.var 0) (.nil) (.cons (.var 1) .nil)) (.bin .FloorDiv (.bi .len (.cons (.var 0) (.nil))) (.var 1)))) (ir_root_of_b2) (.nil)) .nil
def ir_root_of_1 : Sx := .cons (.ret (.tup (.cons (.var 0) (.cons (.con (.int 1)) (.nil))))) .nil
def ir_root_of : Sx := .cons (.loop (.v 1) (.iR2 (.con (.int 1)) (.bi .len (.cons (.var 0) (.nil)))) (ir_root_of_b1)) ir_root_of_1
def ir_moved_left_b1_1 : Sx := .cons (.asg (.t (.cons (.v 0) (.cons (.v 1) (.nil)))) (.tup (.cons (.sl (.var 0) (.nil) (.cons (.neg (.con (.int 1))) .nil)) (.cons (.bin .Add (.idx (.var 1) (.neg (.con (.int 1)))) (.sl (.var 1) (.nil) (.cons (.neg (.con (.int 1))) .nil))) (.nil))))) .nil
def ir_moved_left_b1 : Sx := .cons (.asg (.v 2) (.bin .Add (.idx (.var 1) (.neg (.con (.int 1)))) (.var 2))) ir_moved_left_b1_1
def ir_moved_left_1 : Sx := .cons (.ret (.tup (.cons (.var 0) (.cons (.var 1) (.cons (.var 2) (.nil)))))) .nil
def ir_moved_left : Sx := .cons (.wh (.and (.cmp .NotEq (.var 0) (.con (.str []))) (.cmp .Eq (.idx (.var 0) (.neg (.con (.int 1)))) (.idx (.var 1) (.neg (.con (.int 1)))))) (ir_moved_left_b1)) ir_moved_left_1
def ir_plain_row_b2_1 : Sx := .cons (.set (.var 4) (.neg (.con (.int 1))) (.var 12)) .nil
def ir_plain_row_b2 : Sx := .cons (.set (.var 5) (.neg (.con (.int 1))) (.tup (.cons (.var 9) (.cons (.call 3 (.cons (.idx (.idx (.var 5) (.neg (.con (.int 1)))) (.con (.int 1))) (.cons (.var 8) (.nil)))) (.nil))))) ir_plain_row_b2_1
def ir_plain_row_b3_1 : Sx := .cons (.ex (.mt .append (.var 4) (.cons (.var 12) (.nil)))) .nil
def ir_plain_row_b3 : Sx := .cons (.ex (.mt .append (.var 5) (.cons (.tup (.cons (.var 9) (.cons (.var 8) (.nil)))) (.nil)))) ir_plain_row_b3_1
def ir_plain_row_b1_4 : Sx := .cons (.iff (.and (.cmp .Eq (.var 11) (.con (.str []))) (.and (.cmp .NotEq (.var 5) (.lst (.nil))) (.cmp .Eq (.idx (.idx (.var 5) (.neg (.con (.int 1)))) (.con (.int 0))) (.var 9)))) (ir_plain_row_b2) (ir_plain_row_b3)) .nil
def ir_plain_row_b1_3 : Sx := .cons (.set (.var 4) (.neg (.con (.int 1))) (.var 11)) ir_plain_row_b1_4
def ir_plain_row_b1_2 : Sx := .cons (.asg (.v 8) (.bin .Add (.tup (.cons (.con (.int 0)) (.nil))) (.call 2 (.cons (.sl (.var 8) (.cons (.con (.int 1)) .nil) (.nil)) (.cons (.var 10) (.nil)))))) ir_plain_row_b1_3
def ir_plain_row_b1_1 : Sx := .cons (.asg (.t (.cons (.v 11) (.cons (.v 9) (.cons (.v 12) (.nil))))) (.call 1 (.cons (.idx (.var 4) (.neg (.con (.int 1)))) (.cons (.var 9) (.cons (.bin .Add (.bin .Mult (.var 9) (.bin .Mult (.var 10) (.idx (.var 8) (.con (.int 0))))) (.var 6)) (.nil)))))) ir_plain_row_b1_2
def ir_plain_row_b1 : Sx := .cons (.asg (.t (.cons (.v 9) (.cons (.v 10) (.nil)))) (.call 0 (.cons (.var 7) (.nil)))) ir_plain_row_b1_1
def ir_plain_row_3 : Sx := .cons (.ret (.tup (.cons (.var 1) (.cons (.bi .tuple (.cons (.var 4) (.nil))) (.cons (.bi .tuple (.cons (.var 5) (.nil))) (.nil)))))) .nil
def ir_plain_row_2 : Sx := .cons (.loop (.t (.cons (.v 6) (.cons (.t (.cons (.v 7) (.cons (.v 8) (.nil)))) (.nil)))) (.iZ (.sl (.var 2) (.cons (.con (.int 1)) .nil) (.nil)) (.var 3)) (ir_plain_row_b1)) ir_plain_row_3
def ir_plain_row_1 : Sx := .cons (.asg (.t (.cons (.v 4) (.cons (.v 5) (.nil)))) (.tup (.cons (.lst (.cons (.idx (.var 2) (.con (.int 0))) (.nil))) (.cons (.lst (.nil)) (.nil))))) ir_plain_row_2
def ir_plain_row : Sx := .cons (.asg (.t (.cons (.v 1) (.cons (.v 2) (.cons (.v 3) (.nil))))) (.var 0)) ir_plain_row_1
def ir_plain : Sx := .cons (.ret (.call 0 (.cons (.call 1 (.cons (.var 0) (.nil))) (.nil)))) .nil
theorem rng_cons {lo hi : Int} (h : lo < hi) : rngD lo hi = .int lo :: rngD (lo + 1) hi := by
  unfold rngD
  obtain ⟨n, hn⟩ : ∃ n, (hi - lo).toNat = n + 1 := ⟨(hi - lo).toNat - 1, by omega⟩
  rw [hn, List.range_succ_eq_map, List.map_cons, List.map_map, show (hi - (lo + 1)).toNat = n by omega]
  congr 1
  · simp
  · apply List.map_congr_left
    intro i _
    simp only [Function.comp]
    congr 1
    omega
theorem rng_nil {lo hi : Int} (h : hi ≤ lo) : rngD lo hi = [] := by
  unfold rngD
  rw [show (hi - lo).toNat = 0 by omega]; rfl
theorem root_at {w : Wd} {s : Nat} (hw : w ≠ []) (h : isPer w s) (hm : ∀ t, 1 ≤ t → t < s → ¬ isPer w t) : root w = (w.take s, w.length / s) := by
  obtain ⟨a, b⟩ := per_spec hw
  have e : per w = s := by
    apply Nat.le_antisymm (b s h)
    rcases Nat.lt_or_ge (per w) s with h1 | h1
    · exact absurd a (hm _ a.1 h1)
    · exact h1
  unfold root; rw [e]
def sRoot : Spec2 := fun ds g Q => ∃ w : Wd, ds = [.str w] ∧ w ≠ [] ∧ w.length ≤ 5000000 ∧ Q (.tup [.str (root w).1, .int (root w).2]) g
theorem q_root_of : ∀ ds g Q, sRoot ds g Q → OkS (tab2 []) [] ir_root_of { nx := fun _ g' => Q .non g', rt := Q } (startD ["word", "size"] ds) g := by
  rintro ds g Q ⟨w, rfl, hw, hl, k⟩
  rw [show startD ["word", "size"] [.str w] = [some (.str w), none] from rfl]
  have hp := List.length_pos_iff.mpr hw
  unfold ir_root_of
  refine ok_cons (ok_loop rfl ?_)
  simp only [wqE, wqA, wqI, biV_len_s, rng2V_i, flatD_i, wqP_v, ownB, Bool.not_false, Bool.or_self, List.getElem?_cons_zero, Option.some.injEq, exists_eq_left', true_and, Bool.not_false]
  refine ⟨by omega, small_of (by omega) (by omega), small_of (by omega) (by omega), ?_⟩
  refine forV_inv (fun xs env g' => g' = g ∧ ∃ (s : Nat) (o : Option D), 1 ≤ s ∧ s ≤ w.length ∧ xs = rngD (s : Int) w.length ∧ (∀ t, 1 ≤ t → t < s → ¬ isPer w t) ∧ env = [some (.str w), o]) _ _ _ ⟨rfl, 1, none, by omega, by omega, rfl, fun t h1 h2 => by omega, rfl⟩ ?_ ?_
  · rintro x r env g' N' ⟨rfl, s, o, hs, hsl, hr, hm, rfl⟩ hN
    have hlt : s < w.length := by
      rcases Nat.lt_or_ge s w.length with h | h
      · exact h
      · rw [rng_nil (by omega)] at hr; cases hr
    rw [rng_cons (by omega)] at hr
    cases hr
    have hdiv : (w.length : Int) / (s : Int) = ((w.length / s : Nat) : Int) := by rw [Int.natCast_ediv]
    unfold ir_root_of_b1
    refine ok_cons (ok_iff ?_)
    simp only [wqE, wqT, wqA, wqO, mulV_si, fdivV_ii, slV_s, biV_len_s, opV_Mult, opV_FloorDiv, cmpV_Eq, eqV_ss, ownB, Bool.not_false, Bool.or_self, List.getElem?_cons_zero, List.getElem?_cons_succ, List.set_cons_zero, List.set_cons_succ, Option.some.injEq, exists_eq_left', Bool.false_xor, D.int.injEq, D.bl.injEq, true_and, decide_eq_true_eq, Bool.not_false, cut_h, hdiv, Int.toNat_natCast]
    have hle : (w.length / s : Nat) ≤ w.length := Nat.div_le_self _ _
    have hnn : (0 : Int) ≤ (w.length : Int) / (s : Int) := Int.ediv_nonneg (by omega) (by omega)
    have hpl : (w.take s).length * (w.length / s) ≤ w.length := by
      rw [List.length_take, Nat.min_eq_left hsl]
      exact Nat.mul_div_le _ _
    refine ⟨by omega, by omega, by omega, Int.lt_of_le_of_lt (show (s : Int) ≤ 2 ^ 24 by omega) (by decide), by omega, by omega, by omega, ?_⟩
    have hd : (w = (List.replicate (w.length / s) (w.take s)).flatten) ↔ isPer w s := ⟨fun e => ⟨hs, hsl, e⟩, fun e => e.2.2⟩
    by_cases hq : w = (List.replicate (w.length / s) (w.take s)).flatten
    · rw [if_pos hq]
      unfold ir_root_of_b2
      refine ok_cons (ok_ret ?_)
      simp only [wqE, wqA, wqO, fdivV_ii, slV_s, biV_len_s, opV_FloorDiv, ownB, Bool.not_false, Bool.or_self, List.getElem?_cons_zero, List.getElem?_cons_succ, Option.some.injEq, exists_eq_left', D.int.injEq, true_and, Bool.not_false, cut_h, hdiv]
      rw [root_at hw (hd.mp hq) hm] at k
      exact ⟨by omega, by omega, by omega, Int.lt_of_le_of_lt (show (s : Int) ≤ 2 ^ 24 by omega) (by decide), by simp, k⟩
    · rw [if_neg hq]
      refine ok_nil (ok_nil (hN _ _ ⟨rfl, s + 1, some (.int s), by omega, by omega, rfl, fun t h1 h2 => ?_, rfl⟩))
      by_cases e : t = s
      · rw [e]; exact fun h => hq (hd.mpr h)
      · exact hm t h1 (by omega)
  · rintro env g' ⟨rfl, s, o, hs, hsl, hr, hm, rfl⟩
    have hge : w.length ≤ s := by
      rcases Nat.lt_or_ge s w.length with h | h
      · rw [rng_cons (by omega)] at hr; cases hr
      · exact h
    have es : s = w.length := by omega
    subst es
    unfold ir_root_of_1
    refine ok_cons (ok_ret ?_)
    simp only [wqE, wqA, flatD_i, ownB, Bool.not_false, Bool.or_true, List.getElem?_cons_zero, Option.some.injEq, exists_eq_left', true_and, Bool.not_false]
    rw [root_at hw (per_self hw) hm, List.take_length, Nat.div_self hp] at k
    exact ⟨by simp, k⟩
def sTimes : Spec2 := fun ds g Q => ∃ (f : List Int) (n : Int), ds = [.tup (f.map .int), .int n] ∧ wB f ∧ n.natAbs < 2 ^ 4000 ∧ f.length ≤ 16777216 ∧ Q (.tup ((f.map (n * ·)).map .int)) g
theorem q_times : ∀ ds g Q, sTimes ds g Q → OkS (tab2 []) [] ir_times { nx := fun _ g' => Q .non g', rt := Q } (startD ["form", "number", "part"] ds) g := by
  rintro ds g Q ⟨f, n, rfl, hf, hn, hl, k⟩
  rw [show startD ["form", "number", "part"] [.tup (f.map .int), .int n] = [some (.tup (f.map .int)), some (.int n), none] from rfl]
  unfold ir_times
  refine ok_cons (ok_ret ?_)
  simp only [wqE, wqA, wqC, wqI, biV_tuple_r, itV_t, opV_Mult, wqP_v, ownB, Bool.not_false, Bool.or_self, List.getElem?_cons_zero, Option.some.injEq, exists_eq_left', true_and, if_true, Bool.not_false]
  refine lcV_map D.int (fun x => .int (n * x)) _ hl (fun y hy kk hk => ?_) ?_
  · simp only [wipeD, mulV_ii, List.getElem?_cons_zero, List.getElem?_cons_succ, List.set_cons_zero, List.set_cons_succ, Option.some.injEq, exists_eq_left']
    exact ⟨cmul_B (lt_B hn (by decide)) (lt_B (hf y hy) (by decide)), hk⟩
  · rw [List.map_map] at k
    exact k
def sPlus : Spec2 := fun ds g Q => ∃ f h : List Int, ds = [.tup (f.map .int), .tup (h.map .int)] ∧ f.length ≤ 16777216 ∧ Q (.tup ((addF f h).map .int)) g
theorem q_plus : ∀ ds g Q, sPlus ds g Q → OkS (tab2 []) [] ir_plus { nx := fun _ g' => Q .non g', rt := Q } (startD ["one", "other", "part", "more"] ds) g := by
  rintro ds g Q ⟨f, h, rfl, hl, k⟩
  rw [show startD ["one", "other", "part", "more"] [.tup (f.map .int), .tup (h.map .int)] = [some (.tup (f.map .int)), some (.tup (h.map .int)), none, none] from rfl]
  unfold ir_plus
  refine ok_cons (ok_ret ?_)
  simp only [wqE, wqA, wqC, wqI, biV_tuple_r, itV_t, opV_Add, ownB, Bool.not_false, Bool.or_self, List.getElem?_cons_zero, List.getElem?_cons_succ, Option.some.injEq, exists_eq_left', exists_and_left, true_and, if_true, Bool.not_false]
  rw [zip_ii]
  refine lcV_map encII (fun y => .int (y.1 + y.2)) _ (by rw [List.length_zip]; omega) (fun y hy kk hk => ?_) ?_
  · simp only [encII, wipeD, addV_ii, wqP_v, wqP_t, wqPs_n, wqPs_c, List.getElem?_cons_zero, List.getElem?_cons_succ, List.set_cons_zero, List.set_cons_succ, Option.some.injEq, exists_eq_left']
    exact hk
  · unfold addF at k
    rw [List.map_map] at k
    exact k
def mvS : Wd → Wd → Wd × Wd × Wd
  | c :: a, w => match w.getLast? with
    | some d => if c = d then ((mvS a (c :: w.dropLast)).1, (mvS a (c :: w.dropLast)).2.1, (mvS a (c :: w.dropLast)).2.2 ++ [c]) else (c :: a, w, [])
    | none => (c :: a, w, [])
  | [], w => ([], w, [])
theorem mvS_pull (B : List It) (hB : ∀ c, B.head? ≠ some (.inl c)) : ∀ (a w : Wd), pullR (lets a ++ B) w = (lets (mvS a w).1 ++ B, (mvS a w).2.1, (mvS a w).2.2)
  | [], w => by
    show pullR B w = _
    rw [pull_stop (fun c hc => absurd hc (hB c))]
    simp [mvS, lets]
  | c :: a, w => by
    show pullR (.inl c :: (lets a ++ B)) w = _
    rw [pullR, mvS]
    cases hg : w.getLast? with
    | none => simp [lets]
    | some d =>
      by_cases h : c = d
      · simp only [h, if_true]
        have := mvS_pull B hB a (d :: w.dropLast)
        rw [this]
      · simp [h, lets]
theorem mvS_cons (a : Wd) (c : Nat) (u : Wd) : mvS (c :: a) (u ++ [c]) = ((mvS a (c :: u)).1, (mvS a (c :: u)).2.1, (mvS a (c :: u)).2.2 ++ [c]) := by
  rw [mvS]; simp
theorem mvS_len : ∀ a w : Wd, (mvS a w).1.length + (mvS a w).2.2.length = a.length ∧ (mvS a w).2.1.length = w.length
  | [], w => by simp [mvS]
  | c :: a, w => by
    rw [mvS]
    cases hg : w.getLast? with
    | none => simp
    | some d =>
      by_cases h : c = d
      · simp only [h, if_true]
        have ih := mvS_len a (d :: w.dropLast)
        have hw : w ≠ [] := fun e => by rw [e] at hg; simp at hg
        have hl := List.length_pos_iff.mpr hw
        rw [List.length_cons, List.length_dropLast] at ih
        rw [List.length_append, List.length_singleton, List.length_cons]
        omega
      · simp [h]
def sMvL : Spec2 := fun ds g Q => ∃ a w l : Wd, ds = [.str a, .str w, .str l] ∧ w ≠ [] ∧ a.length + w.length + l.length ≤ 16000000 ∧ Q (.tup [.str (mvS a.reverse w).1.reverse, .str (mvS a.reverse w).2.1, .str ((mvS a.reverse w).2.2 ++ l)]) g
theorem q_moved_left : ∀ ds g Q, sMvL ds g Q → OkS (tab2 []) [] ir_moved_left { nx := fun _ g' => Q .non g', rt := Q } (startD ["ahead", "word", "later"] ds) g := by
  rintro ds g Q ⟨a, w, l, rfl, hw, hl, k⟩
  rw [show startD ["ahead", "word", "later"] [.str a, .str w, .str l] = [some (.str a), some (.str w), some (.str l)] from rfl]
  unfold ir_moved_left
  refine ok_cons (ok_wh (a.length + 1) ?_)
  refine whV_inv (fun n env g' => g' = g ∧ ∃ a w l : Wd, n = a.length ∧ w ≠ [] ∧ a.length + w.length + l.length ≤ 16000000 ∧ env = [some (.str a), some (.str w), some (.str l)] ∧ Q (.tup [.str (mvS a.reverse w).1.reverse, .str (mvS a.reverse w).2.1, .str ((mvS a.reverse w).2.2 ++ l)]) g) ?_ _ a.length _ _ (by omega) ⟨rfl, a, w, l, rfl, hw, hl, rfl, k⟩
  clear k hl hw
  rintro n env g' N' ⟨rfl, a, w, l, rfl, hw, hl, rfl, k⟩ hN
  obtain ⟨u, d, rfl⟩ : ∃ u d, w = u ++ [d] := ⟨w.dropLast, w.getLast hw, (List.dropLast_concat_getLast hw).symm⟩
  rw [List.length_append, List.length_singleton] at hl
  have stop : (mvS a.reverse (u ++ [d])) = (a.reverse, u ++ [d], []) → OkS (tab2 []) [] ir_moved_left_1 { nx := fun _ g' => Q .non g', rt := Q } [some (.str a), some (.str (u ++ [d])), some (.str l)] g' := fun e => by
    rw [e] at k
    simp only [List.reverse_reverse, List.nil_append] at k
    unfold ir_moved_left_1
    refine ok_cons (ok_ret ?_)
    simp only [wqE, wqA, ownB, Bool.not_false, Bool.or_true, List.getElem?_cons_zero, List.getElem?_cons_succ, Option.some.injEq, exists_eq_left', true_and, Bool.not_false]
    exact ⟨by simp, k⟩
  by_cases ha : a = []
  · subst ha
    simp only [wqE, wqT, negV_i, idxV_s, flatD_i, flatD_s, cmpV_Eq, cmpV_NotEq, eqV_ss, ownB, Bool.not_false, Bool.not_true, Bool.or_self, List.getElem?_cons_zero, List.getElem?_cons_succ, Option.some.injEq, exists_eq_left', Bool.false_xor, Bool.true_xor, D.bl.injEq, true_and, decide_eq_true_eq, if_false, Bool.false_eq_true, decide_true, Bool.not_true, Bool.not_false]
    exact stop (by simp [mvS])
  · obtain ⟨b, c, rfl⟩ : ∃ b c, a = b ++ [c] := ⟨a.dropLast, a.getLast ha, (List.dropLast_concat_getLast ha).symm⟩
    rw [List.length_append, List.length_singleton] at hl
    have hne : (b ++ [c] = []) = False := by simp
    simp only [wqE, wqT, negV_i, idxV_s, flatD_i, flatD_s, cmpV_Eq, cmpV_NotEq, eqV_ss, ownB, Bool.not_false, Bool.or_self, List.getElem?_cons_zero, List.getElem?_cons_succ, Option.some.injEq, exists_eq_left', Bool.false_xor, Bool.true_xor, D.bl.injEq, true_and, decide_eq_true_eq, if_true, if_false, Bool.false_eq_true, decide_false, Bool.not_false, hne, atI_m]
    refine ⟨by simp; omega, by simp; omega, ?_⟩
    by_cases hcd : c = d
    · subst hcd
      simp only [if_true]
      unfold ir_moved_left_b1
      refine ok_cons (ok_asg rfl ?_)
      simp only [wqE, addV_ss, negV_i, idxV_s, flatD_i, opV_Add, wqP_v, ownB, Bool.not_false, Bool.or_self, List.getElem?_cons_zero, List.getElem?_cons_succ, List.set_cons_zero, List.set_cons_succ, Option.some.injEq, exists_eq_left', true_and, Bool.not_false, atI_m]
      refine ⟨by simp; omega, by simp; omega, ?_⟩
      unfold ir_moved_left_b1_1
      refine ok_cons (ok_asg rfl ?_)
      simp only [wqE, wqA, wqO, addV_ss, negV_i, idxV_s, slV_s, flatD_i, opV_Add, wqP_v, wqP_t, wqPs_n, wqPs_c, ownB, Bool.not_false, Bool.or_self, List.getElem?_cons_zero, List.getElem?_cons_succ, List.set_cons_zero, List.set_cons_succ, Option.some.injEq, exists_eq_left', D.int.injEq, true_and, Bool.not_false, atI_m, cut_m, List.dropLast_concat]
      refine ⟨by simp; omega, by simp; omega, by simp; omega, by simp; omega, by simp, ok_nil (hN b.length _ _ (by simp) ⟨rfl, b, c :: u, c :: l, rfl, by simp, by simp; omega, by simp, ?_⟩)⟩
      rw [List.reverse_append, List.reverse_singleton, List.singleton_append, mvS_cons] at k
      simpa using k
    · have hcd' : ([c] = [d]) = False := by simp [hcd]
      simp only [if_false, hcd']
      refine stop ?_
      rw [List.reverse_append, List.reverse_singleton, List.singleton_append, mvS]
      simp [hcd]
end G57
set_option Elab.async false
set_option linter.all false
set_option maxRecDepth 100000
set_option maxHeartbeats 800000
namespace G57
open PySem L2
def wz : It → Nat
  | .inl _ => 1
  | .inr l => l.1.length * (1 + (l.2.headD 0).toNat) + 1
def wzs (r : List It) : Nat := (r.map wz).sum
theorem wzs_app (a b : List It) : wzs (a ++ b) = wzs a + wzs b := by simp [wzs]
theorem wzs_lets (w : Wd) : wzs (lets w) = w.length := by
  induction w with
  | nil => rfl
  | cons c w ih =>
    have : wzs (lets (c :: w)) = 1 + wzs (lets w) := by simp [wzs, lets, wz]
    rw [this, ih, List.length_cons]; omega
theorem rsize_rev (r : List It) : rsize r.reverse = rsize r := by
  induction r with
  | nil => rfl
  | cons x r ih => rw [List.reverse_cons, rsize_app, ih]; cases x <;> simp [rsize] <;> omega
theorem rsize_lets (w : Wd) : rsize (lets w) = w.length := rsize_map w
theorem pull_size : ∀ (a : List It) (w : Wd), rsize (pullR a w).1 + (pullR a w).2.2.length = rsize a ∧ (pullR a w).2.1.length = w.length
  | [], w => by rw [pullR_nil]; simp
  | .inr l :: a, w => by rw [pullR_inr]; simp
  | .inl c :: a, w => by
    rw [pullR]
    cases hg : w.getLast? with
    | none => simp
    | some d =>
      by_cases h : c = d
      · simp only [h, if_true]
        have ih := pull_size a (d :: w.dropLast)
        have hw : w ≠ [] := fun e => by rw [e] at hg; simp at hg
        have hl := List.length_pos_iff.mpr hw
        rw [List.length_cons, List.length_dropLast] at ih
        rw [List.length_append, List.length_singleton]
        simp only [rsize]
        omega
      · simp [h]
theorem joinR_size (a : List It) (v : Wd) (F : List Int) : rsize (joinR a v F) ≤ rsize a + v.length + 1 := by
  unfold joinR
  split
  · split
    · simp only [rsize]; omega
    · simp only [rsize]; omega
  · simp only [rsize]; omega
theorem root_size {w : Wd} (hw : w ≠ []) : (root w).2 * (root w).1.length = w.length := by
  have := congrArg List.length (root_pw hw)
  rw [pw_len] at this; exact this.symm
theorem step_size (acc : List It) (x : It) (hx : match x with | .inl _ => True | .inr l => l.1 ≠ []) : rsize (stepR acc x) ≤ rsize acc + wz x := by
  cases x with
  | inl c => rw [stepR]; simp only [rsize, wz]; omega
  | inr l =>
    obtain ⟨w, f⟩ := l
    simp only at hx
    rw [stepR_eq, rsize_app, rsize_rev, rsize_lets]
    obtain ⟨p1, p2⟩ := pull_size acc (root w).1
    have j := joinR_size (pullR acc (root w).1).1 (pullR acc (root w).1).2.1 (upF (root w).2 f)
    have rs := root_size hx
    have h1 : (root w).1.length ≤ w.length := by
      have := (root_ne hx).2
      have := Nat.mul_le_mul_right (root w).1.length this
      omega
    have h2 : (root w).2 * (f.headD 0).toNat * (root w).1.length = w.length * (f.headD 0).toNat := by
      rw [Nat.mul_right_comm, rs]
    simp only [wz]
    rw [List.length_append, pw_len, h2, Nat.mul_add, Nat.mul_one]
    omega
def okW (r : List It) : Prop := ∀ l ∈ lps r, l.1 ≠ []
theorem plain_size : ∀ (r acc : List It), okW r → rsize (plainR acc r) ≤ rsize acc + wzs r
  | [], acc, h => by simp [plainR, wzs]
  | x :: r, acc, h => by
    have hr : okW r := fun l hl => h l (by cases x <;> simp [lps, hl])
    have ih := plain_size r (stepR acc x) hr
    have s := step_size acc x (by
      cases x with
      | inl c => trivial
      | inr l => exact h l (by simp [lps]))
    have e : wzs (x :: r) = wz x + wzs r := by simp [wzs]
    show rsize (plainR (stepR acc x) r) ≤ _
    omega
def itP (P : Nat → Prop) : It → Prop
  | .inl c => P c
  | .inr l => ∀ c ∈ l.1, P c
def allP (P : Nat → Prop) (r : List It) : Prop := ∀ x ∈ r, itP P x
theorem lowR_all {r : List It} : lowR r ↔ allP (· < 0x110000) r := by
  constructor
  · intro h x hx; have := h x hx; cases x <;> exact this
  · intro h x hx; have := h x hx; cases x <;> exact this
theorem lowT_all {r : List It} : lowT r ↔ allP (fun c => 97 ≤ c ∧ c ≤ 122) r := by
  constructor
  · intro h x hx; have := h x hx; cases x <;> exact this
  · intro h x hx; have := h x hx; cases x <;> exact this
theorem allP_cons {P : Nat → Prop} {x : It} {r : List It} (h : allP P (x :: r)) : itP P x ∧ allP P r := ⟨h x (by simp), fun y hy => h y (by simp [hy])⟩
theorem allP_app {P : Nat → Prop} {a b : List It} (ha : allP P a) (hb : allP P b) : allP P (a ++ b) := fun x hx => by
  rcases List.mem_append.mp hx with h | h
  · exact ha x h
  · exact hb x h
theorem allP_lets {P : Nat → Prop} {w : Wd} (h : ∀ c ∈ w, P c) : allP P (lets w) := fun x hx => by
  obtain ⟨c, hc, rfl⟩ := List.mem_map.mp hx
  exact h c hc
theorem allP_rev {P : Nat → Prop} {a : List It} (h : allP P a) : allP P a.reverse := fun x hx => h x (List.mem_reverse.mp hx)
theorem pull_all {P : Nat → Prop} : ∀ (a : List It) (w : Wd), allP P a → (∀ c ∈ w, P c) → allP P (pullR a w).1 ∧ (∀ c ∈ (pullR a w).2.1, P c) ∧ ∀ c ∈ (pullR a w).2.2, P c
  | [], w, ha, hw => by rw [pullR_nil]; exact ⟨ha, hw, by simp⟩
  | .inr l :: a, w, ha, hw => by rw [pullR_inr]; exact ⟨ha, hw, by simp⟩
  | .inl c :: a, w, ha, hw => by
    rw [pullR]
    cases hg : w.getLast? with
    | none => exact ⟨ha, hw, by simp⟩
    | some d =>
      by_cases h : c = d
      · simp only [h, if_true]
        have hc : P d := by have := (allP_cons ha).1; rw [h] at this; exact this
        obtain ⟨i1, i2, i3⟩ := pull_all a (d :: w.dropLast) (allP_cons ha).2 (fun e he => by
          rcases List.mem_cons.mp he with rfl | he
          · exact hc
          · exact hw e (List.dropLast_subset _ he))
        refine ⟨i1, i2, fun e he => ?_⟩
        rcases List.mem_append.mp he with he | he
        · exact i3 e he
        · rw [List.mem_singleton.mp he]; exact hc
      · simp only [h, if_false]; exact ⟨ha, hw, by simp⟩
theorem mem_pw {n : Nat} {w : Wd} {c : Nat} (h : c ∈ pw n w) : c ∈ w := by
  unfold pw at h
  obtain ⟨v, h1, h2⟩ := List.mem_flatten.mp h
  rw [(List.mem_replicate.mp h1).2] at h2
  exact h2
theorem joinR_all {P : Nat → Prop} {a : List It} {v : Wd} {F : List Int} (ha : allP P a) (hv : ∀ c ∈ v, P c) : allP P (joinR a v F) := by
  unfold joinR
  split
  · rename_i u g b
    split
    · intro x hx
      rcases List.mem_cons.mp hx with rfl | hx
      · exact ha (.inr (u, g)) (by simp)
      · exact ha x (by simp [hx])
    · intro x hx
      rcases List.mem_cons.mp hx with rfl | hx
      · exact hv
      · exact ha x hx
  · intro x hx
    rcases List.mem_cons.mp hx with rfl | hx
    · exact hv
    · exact ha x hx
theorem plain_all {P : Nat → Prop} : ∀ (r acc : List It), allP P acc → allP P r → allP P (plainR acc r)
  | [], acc, ha, _ => ha
  | .inl c :: r, acc, ha, h => by
    refine plain_all r _ ?_ (allP_cons h).2
    rw [stepR]
    intro x hx
    rcases List.mem_cons.mp hx with rfl | hx
    · exact (allP_cons h).1
    · exact ha x hx
  | .inr (w, f) :: r, acc, ha, h => by
    refine plain_all r _ ?_ (allP_cons h).2
    have hw : ∀ c ∈ w, P c := (allP_cons h).1
    have hr : ∀ c ∈ (root w).1, P c := fun c hc => hw c (List.mem_of_mem_take hc)
    obtain ⟨p1, p2, p3⟩ := pull_all acc (root w).1 ha hr
    rw [stepR_eq]
    refine allP_app (allP_rev (allP_lets fun c hc => ?_)) (joinR_all p1 p2)
    rcases List.mem_append.mp hc with hc | hc
    · exact p3 c hc
    · exact hr c (mem_pw hc)
theorem txl_loop (A : List It) (l : Lp) (x : Wd) : txl (A ++ .inr l :: lets x) = txl A ++ [x] ∧ lps (A ++ .inr l :: lets x) = lps A ++ [l] := by
  obtain ⟨i, t, h1, h2⟩ := txl_app A (.inr l :: lets x)
  have e : txs (.inr l :: lets x) = ([], [x]) := by
    simp only [txs]
    have := txs_map x
    unfold lets
    rw [this.1]
  rw [e] at h2
  refine ⟨by rw [h2, h1]; simp, ?_⟩
  rw [lps_app]
  simp only [lps]
  unfold lets
  rw [(txs_map x).2]
theorem txl_lets (x : Wd) : txl (lets x) = [x] ∧ lps (lets x) = [] := ⟨txl_map x, (txs_map x).2⟩
theorem ends (R : List It) : ∃ x, R = lets x ∨ ∃ A l, R = A ++ .inr l :: lets x := by
  induction hn : R.length generalizing R with
  | zero => exact ⟨[], .inl (by rw [List.length_eq_zero_iff.mp hn]; rfl)⟩
  | succ n ih =>
    have hne : R ≠ [] := fun e => by rw [e] at hn; simp at hn
    obtain ⟨R', y, rfl⟩ : ∃ R' y, R = R' ++ [y] := ⟨R.dropLast, R.getLast hne, (List.dropLast_concat_getLast hne).symm⟩
    rw [List.length_append, List.length_singleton] at hn
    cases y with
    | inr l => exact ⟨[], .inr ⟨R', l, rfl⟩⟩
    | inl c =>
      obtain ⟨x, h | ⟨A, l, h⟩⟩ := ih R' (by omega)
      · exact ⟨x ++ [c], .inl (by rw [h, lets_app]; rfl)⟩
      · exact ⟨x ++ [c], .inr ⟨A, l, by rw [h, lets_app]; simp [lets]⟩⟩
end G57
set_option Elab.async false
set_option linter.all false
set_option maxRecDepth 100000
set_option maxHeartbeats 1000000
namespace G57
open PySem L2
theorem lets_rev (w : Wd) : (lets w).reverse = lets w.reverse := by simp [lets]
theorem joinR_lets {a : Wd} {v : Wd} {F : List Int} (B : List It) (h : a ≠ [] ∨ B = []) : joinR (lets a ++ B) v F = .inr (v, F) :: (lets a ++ B) := by
  cases a with
  | nil =>
    have hb := h.resolve_left (by simp)
    subst hb; rfl
  | cons c a => rfl
theorem step1 (x w : Wd) (f : List Int) (t : Wd) : (plainR (lets x).reverse (.inr (w, f) :: lets t)).reverse =
    lets (mvS x.reverse (root w).1).1.reverse ++ .inr ((mvS x.reverse (root w).1).2.1, upF (root w).2 f) :: lets ((mvS x.reverse (root w).1).2.2 ++ (pw ((root w).2 * (f.headD 0).toNat) (root w).1 ++ t)) := by
  show (plainR (stepR _ (.inr (w, f))) (lets t)).reverse = _
  have hp := mvS_pull [] (by simp) x.reverse (root w).1
  rw [List.append_nil] at hp
  rw [lets_rev x, plainR_lets, stepR_eq, hp]
  simp only
  rw [joinR_lets [] (.inr rfl)]
  simp [lets_app, lets_rev]
theorem step2 (A : List It) (l0 : Lp) (x w : Wd) (f : List Int) (t : Wd) : (plainR (A ++ .inr l0 :: lets x).reverse (.inr (w, f) :: lets t)).reverse =
    if (mvS x.reverse (root w).1).1 = [] ∧ l0.1 = (mvS x.reverse (root w).1).2.1 then A ++ .inr (l0.1, addF l0.2 (upF (root w).2 f)) :: lets ((mvS x.reverse (root w).1).2.2 ++ (pw ((root w).2 * (f.headD 0).toNat) (root w).1 ++ t))
    else (A ++ .inr l0 :: lets (mvS x.reverse (root w).1).1.reverse) ++ .inr ((mvS x.reverse (root w).1).2.1, upF (root w).2 f) :: lets ((mvS x.reverse (root w).1).2.2 ++ (pw ((root w).2 * (f.headD 0).toNat) (root w).1 ++ t)) := by
  show (plainR (stepR _ (.inr (w, f))) (lets t)).reverse = _
  have e : (A ++ .inr l0 :: lets x).reverse = lets x.reverse ++ .inr l0 :: A.reverse := by simp [lets]
  have hp := mvS_pull (.inr l0 :: A.reverse) (by simp) x.reverse (root w).1
  rw [plainR_lets, stepR_eq, e, hp]
  simp only
  split
  · rename_i h
    rw [h.1]
    have : joinR (lets [] ++ .inr l0 :: A.reverse) (mvS x.reverse (root w).1).2.1 (upF (root w).2 f) = .inr (l0.1, addF l0.2 (upF (root w).2 f)) :: A.reverse := by
      show joinR (.inr (l0.1, l0.2) :: A.reverse) _ _ = _
      simp only [joinR]
      rw [if_pos h.2]
    rw [this]
    simp [lets_app, lets_rev]
  · rename_i h
    have : joinR (lets (mvS x.reverse (root w).1).1 ++ .inr l0 :: A.reverse) (mvS x.reverse (root w).1).2.1 (upF (root w).2 f) = .inr ((mvS x.reverse (root w).1).2.1, upF (root w).2 f) :: (lets (mvS x.reverse (root w).1).1 ++ .inr l0 :: A.reverse) := by
      by_cases h1 : (mvS x.reverse (root w).1).1 = []
      · rw [h1]
        show joinR (.inr (l0.1, l0.2) :: A.reverse) _ _ = _
        simp only [joinR]
        rw [if_neg (fun h2 => h ⟨h1, h2⟩)]
        rfl
      · exact joinR_lets _ (.inl h1)
    rw [this]
    simp [lets_app, lets_rev]
def pcs2 (dn : List (List Nat × Lp)) : List It := (dn.map fun y => .inr y.2 :: lets y.1).flatten
theorem pcs2_app (a b : List (List Nat × Lp)) : pcs2 (a ++ b) = pcs2 a ++ pcs2 b := by simp [pcs2]
theorem row_split : ∀ r : List It, r = lets (txs r).1 ++ pcs2 ((txs r).2.zip (lps r))
  | [] => rfl
  | .inl c :: r => by
    have := row_split r
    simp only [txs, lps]
    conv => lhs; rw [this]
    rfl
  | .inr l :: r => by
    have := row_split r
    simp only [txs, lps]
    conv => lhs; rw [this]
    simp [pcs2, lets]
structure OkPl (m : Nat) (r : List It) : Prop where
  sz : wzs r ≤ 5000000
  low : lowR r
  lp : ∀ l ∈ lps r, l.1 ≠ [] ∧ l.2.length = m + 1 ∧ wB l.2 ∧ 0 ≤ l.2.headD 0
  m3 : m ≤ 1000
def sPlainR : Spec2 := fun ds g Q => ∃ (m : Nat) (r : List It), ds = [encRw m r] ∧ OkPl m r ∧ Q (encRw m (plainI r)) g
theorem eqV_nil {b : Bool} {xs : List D} {R : RK} (h : okV (.rol xs) = true) (k : R (.bl (b ^^ xs.isEmpty))) : eqV' b (.rol xs) (.rol []) R := by
  rw [eqV_rr]
  refine ⟨h, by decide, ?_⟩
  cases xs with
  | nil => exact k
  | cons x xs => exact k
theorem okV_lps {R : List It} (h : lowR R) : okV (.rol ((lps R).map encLp)) = true := by
  have c : ∀ d ∈ (lps R).map encLp, CmpN 2 d := fun d hd => by
    obtain ⟨l, hl, rfl⟩ := List.mem_map.mp hd
    refine CmpN.tup fun e he => ?_
    simp only [List.mem_cons, List.not_mem_nil, or_false] at he
    rcases he with rfl | rfl
    · exact .str ((lowR_enc h).2 l hl)
    · refine CmpN.tup fun e he => ?_
      obtain ⟨i, _, rfl⟩ := List.mem_map.mp he
      exact .int
  simp only [okV, Bool.and_eq_true]
  exact ⟨pures_of fun d hd => (c d hd).pr, oks_le (by omega) (oks_of fun d hd => (c d hd).ok)⟩
def lenP (K : Nat) : It → Prop
  | .inl _ => True
  | .inr l => l.2.length ≤ K
theorem mem_lps {l : Lp} : ∀ {r : List It}, .inr l ∈ r → l ∈ lps r
  | [], h => by simp at h
  | .inl c :: r, h => by simp only [lps]; exact mem_lps (by simpa using h)
  | .inr k :: r, h => by
    simp only [lps, List.mem_cons]
    rcases List.mem_cons.mp h with h | h
    · cases h; exact .inl rfl
    · exact .inr (mem_lps h)
theorem pull_sub : ∀ (a : List It) (w : Wd) (x : It), x ∈ (pullR a w).1 → x ∈ a
  | [], w, x, h => by rw [pullR_nil] at h; exact h
  | .inr l :: a, w, x, h => by rw [pullR_inr] at h; exact h
  | .inl c :: a, w, x, h => by
    rw [pullR] at h
    cases hg : w.getLast? with
    | none => rw [hg] at h; exact h
    | some d =>
      rw [hg] at h
      by_cases hc : c = d
      · simp only [hc, if_true] at h
        exact List.mem_cons_of_mem _ (pull_sub a _ x h)
      · simp only [hc, if_false] at h; exact h
theorem plain_lenP {K : Nat} : ∀ (r acc : List It), (∀ x ∈ acc, lenP (K + 1) x) → (∀ x ∈ r, lenP (K + 1) x) → ∀ x ∈ plainR acc r, lenP (K + 1) x
  | [], acc, ha, _ => ha
  | y :: r, acc, ha, h => by
    refine plain_lenP r (stepR acc y) (fun x hx => ?_) fun x hx => h x (by simp [hx])
    cases y with
    | inl c =>
      rw [stepR] at hx
      rcases List.mem_cons.mp hx with rfl | hx
      · trivial
      · exact ha x hx
    | inr l =>
      obtain ⟨w, f⟩ := l
      have hf : f.length ≤ K + 1 := h (.inr (w, f)) (by simp)
      have hu : (upF (root w).2 f).length ≤ K + 1 := by
        unfold upF
        rw [List.length_cons, List.length_map, List.length_tail]
        omega
      rw [stepR_eq] at hx
      rcases List.mem_append.mp hx with hx | hx
      · obtain ⟨c, _, rfl⟩ := List.mem_map.mp (List.mem_reverse.mp hx)
        trivial
      · have hp : ∀ x ∈ (pullR acc (root w).1).1, lenP (K + 1) x := fun x hx => ha x (pull_sub _ _ x hx)
        unfold joinR at hx
        split at hx
        · rename_i u g b heq
          rw [heq] at hp
          have hg : g.length ≤ K + 1 := hp (.inr (u, g)) (by simp)
          split at hx
          · rcases List.mem_cons.mp hx with rfl | hx
            · show (addF g _).length ≤ K + 1
              unfold addF
              rw [List.length_map, List.length_zip]
              omega
            · exact hp x (by simp [hx])
          · rcases List.mem_cons.mp hx with rfl | hx
            · exact hu
            · exact hp x hx
        · rcases List.mem_cons.mp hx with rfl | hx
          · exact hu
          · exact hp x hx
abbrev Lpr : List (Str × Spec2) := [("root_of", sRoot), ("moved_left", sMvL), ("times", sTimes), ("plus", sPlus)]
theorem q_plain_row : ∀ ds g Q, sPlainR ds g Q → OkS (tab2 Lpr) [4, 5] ir_plain_row { nx := fun _ g' => Q .non g', rt := Q } (startD ["row", "k", "texts", "loops", "found", "known", "text", "word", "form", "root", "number", "ahead", "later"] ds) g := by
  rintro ds g Q ⟨m, r, rfl, ok, k⟩
  rw [show startD ["row", "k", "texts", "loops", "found", "known", "text", "word", "form", "root", "number", "ahead", "later"] [encRw m r] = [some (encRw m r), none, none, none, none, none, none, none, none, none, none, none, none] from rfl]
  have sz := ok.sz
  have hsplit := row_split r
  have hokW : okW r := fun l hl => (ok.lp l hl).1
  unfold ir_plain_row
  refine ok_cons (ok_asg rfl ?_)
  simp only [encRw, wqE, wqP_v, wqP_t, wqPs_n, wqPs_c, ownB, Bool.not_false, Nat.reduceBEq, Bool.or_self, Bool.or_true, List.getElem?_cons_zero, List.set_cons_zero, List.set_cons_succ, Option.some.injEq, exists_eq_left', true_and, Bool.not_false]
  unfold ir_plain_row_1
  refine ok_cons (ok_asg2 (by decide) ?_)
  simp only [wqN, frB, QL, encTx, txl, List.map_cons, wqE, wqA, idxV_t, flatD_i, ownB, Bool.or_false, Bool.not_false, Nat.reduceBEq, Bool.or_self, Bool.or_true, List.getElem?_cons_zero, List.getElem?_cons_succ, List.set_cons_zero, List.set_cons_succ, Option.some.injEq, exists_eq_left', atI_0, true_and, if_true, Bool.not_false]
  refine ⟨by simp, _, rfl, by simp, _, rfl, ?_⟩
  unfold ir_plain_row_2
  refine ok_cons (ok_loop rfl ?_)
  simp only [encLs, wqE, wqO, wqI, slV_t, itV_t, flatD_i, ownB, Bool.not_false, Nat.reduceBEq, Bool.or_self, Bool.or_true, List.getElem?_cons_zero, List.getElem?_cons_succ, Option.some.injEq, exists_eq_left', D.int.injEq, exists_and_left, true_and, Bool.not_false, cut_1m]
  rw [zip_tl]
  refine forV_inv (fun xs env g' => g' = g ∧ ∃ (dn rs : List (List Nat × Lp)) (R : List It) (o6 o7 o8 o9 o10 o11 o12 : Option D), dn ++ rs = (txs r).2.zip (lps r) ∧ xs = (rs.map fun y => .tup [.str y.1, encLp y.2]) ∧ R = (plainR [] (lets (txs r).1 ++ pcs2 dn)).reverse ∧
    env = [some (encRw m r), some (.int m), some (encTx r), some (encLs r), some (.rol ((txl R).map .str)), some (.rol ((lps R).map encLp)), o6, o7, o8, o9, o10, o11, o12]) _ _ _ ⟨rfl, [], _, lets (txs r).1, none, none, none, none, none, none, none, rfl, rfl, ?_, ?_⟩ ?_ ?_
  · simp only [pcs2, List.map_nil, List.flatten_nil, List.append_nil]
    rw [plainR_lets]; simp
  · rw [(txl_lets _).1, (txl_lets _).2]; rfl
  · rintro x r' env g' N' ⟨rfl, dn, rs, R, o6, o7, o8, o9, o10, o11, o12, hps, hr, hR, rfl⟩ hN
    cases rs with
    | nil => cases hr
    | cons y rs =>
      rw [List.map_cons] at hr
      cases hr
      obtain ⟨t, w, f⟩ := y
      have hmem : (t, w, f) ∈ (txs r).2.zip (lps r) := by rw [← hps]; simp
      have hl := (List.of_mem_zip hmem).2
      obtain ⟨hw, hfl, hfB, hf0⟩ := ok.lp (w, f) hl
      simp only at hw hfl hfB hf0
      obtain ⟨c, fr, rfl⟩ : ∃ c fr, f = c :: fr := by cases f with | nil => simp at hfl | cons c fr => exact ⟨c, fr, rfl⟩
      rw [List.headD_cons] at hf0
      obtain ⟨c, rfl⟩ := Int.eq_ofNat_of_zero_le hf0
      have hwz : wzs (lets (txs r).1 ++ pcs2 dn) + (w.length * (1 + c) + 1 + t.length) ≤ 5000000 := by
        have e : wzs r = wzs (lets (txs r).1 ++ pcs2 dn) + (wzs (.inr (w, (c : Int) :: fr) :: lets t) + wzs (pcs2 rs)) := by
          conv => lhs; rw [hsplit, ← hps, pcs2_app]
          rw [show pcs2 ((t, w, (c : Int) :: fr) :: rs) = (.inr (w, (c : Int) :: fr) :: lets t) ++ pcs2 rs by simp [pcs2]]
          rw [wzs_app, wzs_app, wzs_app, wzs_app, Nat.add_assoc]
        have e2 : wzs (.inr (w, (c : Int) :: fr) :: lets t) = w.length * (1 + c) + 1 + t.length := by
          rw [show wzs (.inr (w, (c : Int) :: fr) :: lets t) = wz (.inr (w, (c : Int) :: fr)) + wzs (lets t) by simp [wzs], wzs_lets]
          simp [wz]
        omega
      have hokd : okW (lets (txs r).1 ++ pcs2 dn) := fun l hl' => hokW l (by
        rw [hsplit, ← hps, pcs2_app, ← List.append_assoc, lps_app]
        exact List.mem_append_left _ hl')
      have hlowr := lowR_all.mp ok.low
      have hlowd : lowR R := by
        rw [lowR_all, hR]
        refine allP_rev (plain_all _ _ (fun x hx => by simp at hx) fun x hx => hlowr x ?_)
        rw [hsplit, ← hps, pcs2_app, ← List.append_assoc]
        exact List.mem_append_left _ hx
      have hRs : rsize R ≤ wzs (lets (txs r).1 ++ pcs2 dn) := by
        rw [hR, rsize_rev]
        have := plain_size (lets (txs r).1 ++ pcs2 dn) [] hokd
        simpa [rsize] using this
      have hR' : ∀ R', R' = (plainR R.reverse (.inr (w, (c : Int) :: fr) :: lets t)).reverse → R' = (plainR [] (lets (txs r).1 ++ pcs2 (dn ++ [(t, w, (c : Int) :: fr)]))).reverse := fun R' e => by
        rw [e, hR, List.reverse_reverse, pcs2_app, ← List.append_assoc, plainR_app _ (lets (txs r).1 ++ pcs2 dn)]
        simp [pcs2]
      obtain ⟨rt1, rt2⟩ := root_ne hw
      have rts := root_size hw
      have hrl : (root w).1.length ≤ w.length := by
        have := Nat.mul_le_mul_right (root w).1.length rt2
        omega
      have hrn : (root w).2 ≤ w.length := by
        have h1 : 1 ≤ (root w).1.length := List.length_pos_iff.mpr rt1
        have := Nat.mul_le_mul_left (root w).2 h1
        omega
      have hNl : (root w).2 * c * (root w).1.length = w.length * c := by rw [Nat.mul_right_comm, rts]
      have hwl : w.length + w.length * c = w.length * (1 + c) := by rw [Nat.mul_add, Nat.mul_one]
      have hc5 : c ≤ w.length * c := Nat.le_mul_of_pos_left _ (List.length_pos_iff.mpr hw)
      have hnc : (root w).2 * c ≤ w.length * c := Nat.mul_le_mul_right _ hrn
      simp only [encLp, wqP_v, wqP_t, wqPs_n, wqPs_c, List.set_cons_zero, List.set_cons_succ]
      unfold ir_plain_row_b1
      refine ok_cons (ok_asg rfl ?_)
      simp only [wqE, wqA, ownB, Bool.not_false, Nat.reduceBEq, Bool.or_self, Bool.or_true, tab2_q, List.getElem?_cons_zero, List.getElem?_cons_succ, Option.some.injEq, exists_eq_left', Option.map_some, true_and, Bool.not_false]
      refine ⟨w, rfl, hw, by omega, ?_⟩
      simp only [wqP_v, wqP_t, wqPs_n, wqPs_c, List.set_cons_zero, List.set_cons_succ]
      obtain ⟨x, hx⟩ := ends R
      have hlast : ∃ i : List Wd, txl R = i ++ [x] := by
        rcases hx with hx | ⟨A, l0, hx⟩
        · exact ⟨[], by rw [hx, (txl_lets x).1]; rfl⟩
        · exact ⟨txl A, by rw [hx, (txl_loop A l0 x).1]⟩
      have hxl : x.length ≤ rsize R := by
        rcases hx with hx | ⟨A, l0, hx⟩
        · rw [hx, rsize_lets]; omega
        · rw [hx, rsize_app]; simp only [rsize]; rw [rsize_lets]; omega
      obtain ⟨i, hi⟩ := hlast
      obtain ⟨ml1, ml2⟩ := mvS_len x.reverse (root w).1
      rw [List.length_reverse] at ml1
      unfold ir_plain_row_b1_1
      refine ok_cons (ok_asg rfl ?_)
      have hcast : ((root w).2 : Int) * (c : Int) = (((root w).2 * c : Nat) : Int) := by simp
      simp only [wqE, wqA, addV_ss, mulV_ii, mulV_si, negV_i, idxV_t, idxV_r, flatD_i, opV_Add, opV_Mult, ownB, Bool.or_false, Bool.not_false, Bool.not_true, Nat.reduceBEq, Bool.or_self, Bool.or_true, tab2_q, List.getElem?_cons_zero, List.getElem?_cons_succ, Option.some.injEq, exists_eq_left', Option.map_some, atI_0, true_and, Bool.not_true, Bool.not_false, hi, List.map_append, List.map_cons, List.map_nil, atI_m, hcast, Int.toNat_natCast]
      have hpl : (List.replicate ((root w).2 * c) (root w).1).flatten.length = w.length * c := by rw [len_rep, hNl]
      have hrr : (root w).1.length * ((root w).2 * c) = w.length * c := by rw [Nat.mul_comm]; exact hNl
      refine ⟨cmul_of (by omega) (by omega), by omega, by omega, by omega, by omega, x, (root w).1, _, rfl, rt1, by rw [List.length_append, hpl]; omega, ?_⟩
      generalize hM : mvS x.reverse (root w).1 = M at ml1 ml2
      obtain ⟨a', ρ, s⟩ := M
      simp only at ml1 ml2
      simp only [wqP_v, wqP_t, wqPs_n, wqPs_c, List.set_cons_zero, List.set_cons_succ]
      unfold ir_plain_row_b1_2
      refine ok_cons (ok_asg rfl ?_)
      simp only [wqE, wqA, wqO, slV_t, flatD_i, opV_Add, wqP_v, ownB, Bool.not_false, Nat.reduceBEq, Bool.or_self, Bool.or_true, tab2_q, List.getElem?_cons_zero, List.getElem?_cons_succ, List.set_cons_zero, List.set_cons_succ, Option.some.injEq, exists_eq_left', Option.map_some, D.int.injEq, true_and, Bool.not_false, cut_1m]
      refine ⟨by simp, fr, (root w).2, rfl, fun i hi => hfB i (by simp [hi]), Nat.lt_of_le_of_lt (show (((root w).2 : Nat) : Int).natAbs ≤ 2 ^ 24 by omega) (Nat.pow_lt_pow_right (by decide) (by decide)), by have := ok.m3; simp at hfl; omega, ?_⟩
      simp only [addV_tt]
      refine ⟨by have := ok.m3; simp at hfl; simp; omega, ?_⟩
      have hup : [D.int 0] ++ (fr.map (fun i => ((root w).2 : Int) * i)).map D.int = (upF (root w).2 ((c : Int) :: fr)).map D.int := by simp [upF]
      rw [hup]
      generalize hF : upF (root w).2 ((c : Int) :: fr) = F
      have hlater : s ++ ((List.replicate ((root w).2 * c) (root w).1).flatten ++ t) = s ++ (pw ((root w).2 * (((c : Int) :: fr).headD 0).toNat) (root w).1 ++ t) := by simp [pw]
      rw [hlater]
      generalize hL : s ++ (pw ((root w).2 * (((c : Int) :: fr).headD 0).toNat) (root w).1 ++ t) = later
      unfold ir_plain_row_b1_3
      refine ok_cons (ok_set rfl _ rfl ?_)
      simp only [wqE, negV_i, flatD_i, ownB, Bool.not_false, Nat.reduceBEq, Bool.or_self, Bool.or_true, List.getElem?_cons_zero, List.getElem?_cons_succ, List.set_cons_zero, List.set_cons_succ, Option.some.injEq, exists_eq_left', D.int.injEq, exists_and_left, true_and, Bool.not_false]
      refine ⟨(i.map D.str).length, by rw [List.length_append, List.length_singleton]; exact ixN_last, ?_⟩
      rw [set_last]
      have il : i.length ≤ rsize R := by
        have := (txl_le R).1
        have := len_rsize R
        rw [hi, List.length_append, List.length_singleton] at *
        omega
      have kl : (lps R).length ≤ rsize R := Nat.le_trans (lps_le R) (len_rsize R)
      have more : ∀ R' : List It, R' = (plainR R.reverse (.inr (w, (c : Int) :: fr) :: lets t)).reverse → txl R' = (i ++ [a'.reverse]) ++ [later] → lps R' = lps R ++ [(ρ, F)] →
          OkS (tab2 Lpr) [4, 5] ir_plain_row_b3 { nx := fun env' g' => OkS (tab2 Lpr) [4, 5] .nil { nx := N', ct := N', bk := fun env' g' => OkS (tab2 Lpr) [4, 5] ir_plain_row_3 { nx := fun _ g' => Q .non g', rt := Q } env' g', rt := Q } env' g', ct := N', bk := fun env' g' => OkS (tab2 Lpr) [4, 5] ir_plain_row_3 { nx := fun _ g' => Q .non g', rt := Q } env' g', rt := Q }
            [some (encRw m r), some (.int m), some (encTx r), some (encLs r), some (.rol (i.map D.str ++ [.str a'.reverse])), some (.rol ((lps R).map encLp)), some (.str t), some (.str w), some (.tup (F.map .int)), some (.str ρ), some (.int (root w).2), some (.str a'.reverse), some (.str later)] g' := fun R' e1 e2 e3 => by
        unfold ir_plain_row_b3
        refine ok_cons (ok_app rfl _ rfl ?_)
        simp only [wqE, wqA, ownB, Bool.not_false, Nat.reduceBEq, Bool.or_self, Bool.or_true, List.getElem?_cons_zero, List.getElem?_cons_succ, List.set_cons_zero, List.set_cons_succ, Option.some.injEq, exists_eq_left', true_and, Bool.not_false]
        refine ⟨by simp, by rw [List.length_map]; omega, ?_⟩
        unfold ir_plain_row_b3_1
        refine ok_cons (ok_app rfl _ rfl ?_)
        simp only [wqE, ownB, Bool.not_false, Nat.reduceBEq, Bool.or_self, Bool.or_true, List.getElem?_cons_zero, List.getElem?_cons_succ, List.set_cons_zero, List.set_cons_succ, Option.some.injEq, exists_eq_left', true_and, Bool.not_false]
        refine ⟨by simp; omega, ok_nil (ok_nil (hN _ _ ⟨rfl, dn ++ [(t, w, (c : Int) :: fr)], rs, R', some (.str t), some (.str w), some (.tup (F.map .int)), some (.str ρ), some (.int (root w).2), some (.str a'.reverse), some (.str later), by rw [← hps]; simp, rfl, hR' R' e1, ?_⟩))⟩
        rw [e2, e3]
        simp [encLp]
      unfold ir_plain_row_b1_4
      refine ok_cons (ok_iff ?_)
      rcases hx with hx | ⟨A, l0, hx⟩
      ·
        have hk0 : lps R = [] := by rw [hx, (txl_lets x).2]
        have hi0 : i = [] := by
          rw [hx, (txl_lets x).1] at hi
          cases i with
          | nil => rfl
          | cons y i => simp at hi
        have go := more (lets a'.reverse ++ .inr (ρ, F) :: lets later) (by rw [hx, step1, hM, hF, hL]) (by rw [(txl_loop _ _ _).1, (txl_lets _).1, hi0]; rfl) (by rw [(txl_loop _ _ _).2, (txl_lets _).2, hk0])
        simp only [wqE, wqT, wqA, negV_i, idxV_r, flatD_i, flatD_s, cmpV_Eq, cmpV_NotEq, eqV_ss, ownB, Bool.or_false, Bool.not_false, Bool.not_true, Nat.reduceBEq, Bool.or_self, Bool.or_true, List.getElem?_cons_zero, List.getElem?_cons_succ, Option.some.injEq, exists_eq_left', Bool.false_xor, D.bl.injEq, true_and, decide_eq_true_eq, if_false, Bool.false_eq_true, Bool.not_true, Bool.not_false]
        by_cases ha : a'.reverse = []
        · rw [if_pos ha]
          refine ⟨by simp, eqV_nil (okV_lps hlowd) ⟨_, rfl, ?_⟩⟩
          rw [hk0]
          simp only [List.map_nil, List.isEmpty_nil, Bool.not_true, Bool.true_xor, if_false, Bool.false_eq_true, Bool.not_true]
          rw [hk0] at go
          exact go
        · rw [if_neg ha]
          exact go
      · have hkk : lps R = lps A ++ [l0] := by rw [hx, (txl_loop _ _ _).2]
        have hii : i = txl A := by
          rw [hx, (txl_loop _ _ _).1] at hi
          exact (List.append_inj_left' hi rfl).symm
        have stp := step2 A l0 x w ((c : Int) :: fr) t
        rw [hM, hF, hL, ← hx] at stp
        simp only at stp
        have go : ¬ (a' = [] ∧ l0.1 = ρ) → _ := fun hno => more ((A ++ .inr l0 :: lets a'.reverse) ++ .inr (ρ, F) :: lets later) (by rw [stp, if_neg hno]) (by rw [(txl_loop _ _ _).1, (txl_loop _ _ _).1, hii]) (by rw [(txl_loop _ _ _).2, (txl_loop _ _ _).2, hkk])
        simp only [wqE, wqT, wqA, negV_i, idxV_r, flatD_i, flatD_s, cmpV_Eq, cmpV_NotEq, eqV_ss, ownB, Bool.or_false, Bool.not_false, Bool.not_true, Nat.reduceBEq, Bool.or_self, Bool.or_true, List.getElem?_cons_zero, List.getElem?_cons_succ, Option.some.injEq, exists_eq_left', Bool.false_xor, D.bl.injEq, true_and, decide_eq_true_eq, if_false, Bool.false_eq_true, Bool.not_true, Bool.not_false]
        by_cases ha : a'.reverse = []
        · rw [if_pos ha]
          have ha' : a' = [] := by simpa using ha
          refine ⟨by simp, eqV_nil (okV_lps hlowd) ⟨_, rfl, ?_⟩⟩
          rw [hkk]
          simp only [List.map_append, List.map_cons, List.map_nil]
          rw [show ((lps A).map encLp ++ [encLp l0]).isEmpty = false from by simp]
          simp only [Bool.not_false, Option.some.injEq, exists_eq_left', Bool.true_xor, if_true, Bool.not_false, atI_m]
          simp only [encLp, idxV_t, eqV_ss, Option.some.injEq, exists_eq_left', Bool.false_xor, D.bl.injEq, atI_0, decide_eq_true_eq]
          by_cases hq : l0.1 = ρ
          · rw [if_pos hq]
            unfold ir_plain_row_b2
            refine ok_cons (ok_set rfl _ rfl ?_)
            simp only [wqE, wqA, negV_i, idxV_t, idxV_r, flatD_i, ownB, Bool.or_false, Bool.not_false, Bool.not_true, Nat.reduceBEq, Bool.or_self, Bool.or_true, tab2_q, List.getElem?_cons_zero, List.getElem?_cons_succ, List.set_cons_zero, List.set_cons_succ, Option.some.injEq, exists_eq_left', Option.map_some, D.int.injEq, atI_1, exists_and_left, true_and, Bool.not_true, Bool.not_false, atI_m]
            have hlf : l0.2.length ≤ 16777216 := by
              have : lenP (m + 1) (.inr l0) := by
                have hall : ∀ x ∈ plainR [] (lets (txs r).1 ++ pcs2 dn), lenP (m + 1) x := plain_lenP _ _ (fun x hx => by simp at hx) fun x hx => by
                  cases x with
                  | inl c => trivial
                  | inr l =>
                    have hin : l ∈ lps r := mem_lps (by
                      rw [hsplit, ← hps, pcs2_app, ← List.append_assoc]
                      exact List.mem_append_left _ hx)
                    exact Nat.le_of_eq (ok.lp l hin).2.1
                apply hall
                have : Sum.inr l0 ∈ R := by rw [hx]; simp
                rw [hR] at this
                exact List.mem_reverse.mp this
              have h1 : l0.2.length ≤ m + 1 := this
              have := ok.m3
              omega
            refine ⟨l0.2, F, rfl, hlf, ?_⟩
            simp only []
            refine ⟨by simp, ((lps A).map encLp).length, by rw [List.length_append, List.length_singleton]; exact ixN_last, ?_⟩
            rw [set_last]
            unfold ir_plain_row_b2_1
            refine ok_cons (ok_set rfl _ rfl ?_)
            simp only [wqE, negV_i, flatD_i, ownB, Bool.not_false, Nat.reduceBEq, Bool.or_self, Bool.or_true, List.getElem?_cons_zero, List.getElem?_cons_succ, List.set_cons_zero, List.set_cons_succ, Option.some.injEq, exists_eq_left', D.int.injEq, exists_and_left, true_and, Bool.not_false]
            refine ⟨(i.map D.str).length, by rw [List.length_append, List.length_singleton]; exact ixN_last, ?_⟩
            rw [set_last]
            rw [if_pos ⟨ha', hq⟩] at stp
            refine ok_nil (ok_nil (hN _ _ ⟨rfl, dn ++ [(t, w, (c : Int) :: fr)], rs, _, some (.str t), some (.str w), some (.tup (F.map .int)), some (.str ρ), some (.int (root w).2), some (.str a'.reverse), some (.str later), by rw [← hps]; simp, rfl, hR' _ stp.symm, ?_⟩))
            rw [(txl_loop _ _ _).1, (txl_loop _ _ _).2, hii, hq]
            simp [encLp]
          · rw [if_neg hq]
            have := go (fun h => hq h.2)
            rw [hkk] at this
            simp only [List.map_append, List.map_cons, List.map_nil] at this
            exact this
        · rw [if_neg ha]
          have ha' : a' ≠ [] := by simpa using ha
          exact go (fun h => ha' h.1)
  · rintro env g' ⟨rfl, dn, rs, R, o6, o7, o8, o9, o10, o11, o12, hps, hr, hR, rfl⟩
    cases rs with
    | cons y rs => cases hr
    | nil =>
      rw [List.append_nil] at hps
      subst hps
      unfold ir_plain_row_3
      refine ok_cons (ok_ret ?_)
      simp only [wqE, wqA, biV_tuple_r, ownB, Bool.not_false, Bool.or_self, Bool.or_true, List.getElem?_cons_zero, List.getElem?_cons_succ, Option.some.injEq, exists_eq_left', true_and, Bool.not_false]
      have e : R = plainI r := by rw [hR, ← row_split]; rfl
      rw [e]
      exact ⟨by simp, k⟩
end G57
set_option Elab.async false
set_option linter.all false
set_option maxRecDepth 100000
set_option maxHeartbeats 800000
namespace G57
open PySem L2
structure okL (m : Nat) (l : Lp) : Prop where
  ne : l.1 ≠ []
  low : lowW l.1
  len : l.2.length = m + 1
  nn : ∀ i ∈ l.2, 0 ≤ i
  op : isOpen l.2 = true
def okI (m : Nat) : It → Prop
  | .inl c => 97 ≤ c ∧ c ≤ 122
  | .inr l => okL m l
def okA (m : Nat) (r : List It) : Prop := ∀ x ∈ r, okI m x
theorem okA_app {m : Nat} {a b : List It} : okA m (a ++ b) ↔ okA m a ∧ okA m b :=
  ⟨fun h => ⟨fun x hx => h x (by simp [hx]), fun x hx => h x (by simp [hx])⟩, fun h x hx => (List.mem_append.mp hx).elim (h.1 x) (h.2 x)⟩
theorem okA_cons {m : Nat} {x : It} {b : List It} : okA m (x :: b) ↔ okI m x ∧ okA m b := by
  rw [← List.singleton_append, okA_app]
  exact ⟨fun h => ⟨h.1 x (by simp), h.2⟩, fun h => ⟨fun y hy => by rw [List.mem_singleton.mp hy]; exact h.1, h.2⟩⟩
theorem okA_nil {m : Nat} : okA m [] := fun x hx => by simp at hx
theorem okA_lets {m : Nat} {w : Wd} : okA m (lets w) ↔ lowW w :=
  ⟨fun h c hc => h (.inl c) (by simp [lets, hc]), fun h x hx => by
    simp only [lets, List.mem_map] at hx
    obtain ⟨c, hc, rfl⟩ := hx
    exact h c hc⟩
theorem okA_lp {m : Nat} : ∀ {r : List It}, okA m r → ∀ l ∈ lps r, okL m l
  | .inl c :: r, h, l, hl => okA_lp (okA_cons.mp h).2 l (by simpa [lps] using hl)
  | .inr k :: r, h, l, hl => by
    simp only [lps, List.mem_cons] at hl
    rcases hl with rfl | hl
    · exact (okA_cons.mp h).1
    · exact okA_lp (okA_cons.mp h).2 l hl
inductive RedC : List It → List It → Prop
  | left (x : Nat) (u : Wd) (f : List Int) : RedC [.inl x, .inr (u ++ [x], f)] [.inr (x :: u, f), .inl x]
  | out (w : Wd) (c : Int) (t : List Int) : 1 ≤ c → RedC [.inr (w, c :: t)] (.inr (w, (c - 1) :: t) :: lets w)
  | root (n : Nat) (v : Wd) (f : List Int) : 2 ≤ n → RedC [.inr (pw n v, f)] [.inr (v, f.map fun i => (n : Int) * i)]
  | join (w : Wd) (f g : List Int) : RedC [.inr (w, f), .inr (w, g)] [.inr (w, addF f g)]
structure Red (m : Nat) (x y : List It) : Prop where
  c : RedC x y
  a : okA m x
  b : okA m y
theorem okL.hd {m : Nat} {w : Wd} {f : List Int} (h : okL m (w, f)) : f ≠ [] ∧ 0 ≤ f.headD 0 := by
  have h1 : f.length = m + 1 := h.len
  have h2 : ∀ i ∈ f, 0 ≤ i := h.nn
  cases f with
  | nil => simp at h1
  | cons c t => exact ⟨by simp, h2 c (by simp)⟩
theorem Red.plain {m : Nat} {x y : List It} (h : Red m x y) (acc : List It) : plainR acc x = plainR acc y := by
  obtain ⟨c, a, b⟩ := h
  cases c with
  | left x u f => exact inv_left acc x u f
  | out w c t hc => exact inv_out acc w c t (okA_cons.mp a).1.ne hc
  | root n v f hn =>
    exact inv_root acc n v f (okA_cons.mp b).1.ne (by omega) (okL.hd (okA_cons.mp a).1).2
  | join w f g =>
    have h1 := (okA_cons.mp a).1
    have h2 := (okA_cons.mp (okA_cons.mp a).2).1
    exact inv_join acc w f g h1.ne h1.hd.1 h2.hd.1 h1.hd.2 h2.hd.2
theorem Red.plainI {m : Nat} {x y a b : List It} (h : Red m x y) : plainI (a ++ x ++ b) = plainI (a ++ y ++ b) := plain_mid h.plain
theorem dot_scale (c : Int) : ∀ as ns : List Int, dot (as.map fun i => c * i) ns = c * dot as ns
  | [], ns => by simp [dot]
  | a :: as, [] => by simp [dot]
  | a :: as, n :: ns => by simp only [List.map_cons, dot, dot_scale c as ns, Int.mul_add, Int.mul_assoc]
theorem dot_plus : ∀ as bs ns : List Int, as.length = bs.length → dot (addF as bs) ns = dot as ns + dot bs ns
  | [], bs, ns, h => by cases bs with
    | nil => simp [addF, dot]
    | cons => simp at h
  | a :: as, [], ns, h => by simp at h
  | a :: as, b :: bs, [], h => by simp [addF, dot]
  | a :: as, b :: bs, n :: ns, h => by
    have := dot_plus as bs ns (by simpa using h)
    unfold addF at this ⊢
    simp only [List.zip_cons_cons, List.map_cons, dot, this, Int.add_mul]
    omega
theorem valF_nn {m : Nat} {l : Lp} (h : okL m l) {ns : List Int} (hn : ∀ n ∈ ns, 0 ≤ n) : 0 ≤ valF l.2 ns := by
  have h0 := (okL.hd (w := l.1) (f := l.2) h).2
  unfold valF
  have := dot_pos l.2.tail ns (fun a ha => h.nn a (List.mem_of_mem_tail ha)) hn
  omega
theorem valF_scale (n : Int) (f ns : List Int) : valF (f.map fun i => n * i) ns = n * valF f ns := by
  unfold valF
  rw [← List.map_tail, dot_scale]
  cases f <;> simp [Int.mul_add]
theorem valF_plus {f g ns : List Int} (h : f.length = g.length) (hf : f ≠ []) : valF (addF f g) ns = valF f ns + valF g ns := by
  cases f with
  | nil => exact absurd rfl hf
  | cons a f => cases g with
    | nil => simp at h
    | cons b g =>
      unfold valF
      have := dot_plus f g ns (by simpa using h)
      simp only [addF, List.zip_cons_cons, List.map_cons, List.headD_cons, List.tail_cons] at this ⊢
      omega
theorem rowT_lets (ns : List Int) (w : Wd) : rowT ns (lets w) = w := rowT_map ns w
theorem runT_pw (w : Wd) (v : Int) : runT (w, v) = pw v.toNat w := rfl
theorem Red.text {m : Nat} {x y : List It} (h : Red m x y) {ns : List Int} (hn : ∀ n ∈ ns, 0 ≤ n) : rowT ns x = rowT ns y := by
  obtain ⟨c, a, b⟩ := h
  cases c with
  | left x u f =>
    simp only [rowT, itTx, runT_pw, List.append_nil, List.singleton_append]
    rw [pw_rot]
  | out w c t hc =>
    have h2 := valF_nn (okA_cons.mp b).1 hn
    simp only at h2
    have e : valF (c :: t) ns = valF ((c - 1) :: t) ns + 1 := by unfold valF; simp only [List.headD_cons, List.tail_cons]; omega
    simp only [rowT, itTx, runT_pw, List.append_nil, rowT_lets]
    rw [e, show (valF ((c - 1) :: t) ns + 1).toNat = (valF ((c - 1) :: t) ns).toNat + 1 by omega, pw_s']
  | root n v f hn' =>
    have h1 := valF_nn (okA_cons.mp a).1 hn
    simp only at h1
    simp only [rowT, itTx, runT_pw, List.append_nil]
    rw [valF_scale, pw_mul]
    congr 1
    obtain ⟨k, hk⟩ := Int.eq_ofNat_of_zero_le h1
    rw [hk, show ((n : Int) * (k : Int)) = ((n * k : Nat) : Int) from by simp, Int.toNat_natCast, Int.toNat_natCast, Nat.mul_comm]
  | join w f g =>
    have h1 := (okA_cons.mp a).1
    have h2 := (okA_cons.mp (okA_cons.mp a).2).1
    have v1 := valF_nn h1 hn
    have v2 := valF_nn h2 hn
    have e1 : f.length = m + 1 := h1.len
    have e2 : g.length = m + 1 := h2.len
    simp only at v1 v2
    simp only [rowT, itTx, runT_pw, List.append_nil]
    rw [valF_plus (by omega) h1.hd.1, Int.toNat_add v1 v2, pw_add]
def ones (m : Nat) : List Int := List.replicate m 1
theorem ones_nn (m : Nat) : ∀ n ∈ ones m, 0 ≤ n := fun n hn => by rw [List.eq_of_mem_replicate hn]; decide
def tsz (m : Nat) (r : List It) : Nat := (rowT (ones m) r).length
theorem tsz_app (m : Nat) (a b : List It) : tsz m (a ++ b) = tsz m a + tsz m b := by unfold tsz; rw [rowT_app, List.length_append]
theorem tsz_inl (m c : Nat) (r : List It) : tsz m (.inl c :: r) = tsz m r + 1 := by unfold tsz; simp [rowT, itTx]
theorem tsz_inr (m : Nat) (l : Lp) (r : List It) : tsz m (.inr l :: r) = (valF l.2 (ones m)).toNat * l.1.length + tsz m r := by unfold tsz; simp [rowT, itTx, runT_pw, pw_len]
theorem dot_ones : ∀ (t : List Int) (m : Nat), t.length = m → (∀ i ∈ t, 0 ≤ i) → (∀ i ∈ t, i ≤ dot t (ones m)) ∧ 0 ≤ dot t (ones m) ∧ (t.any (· != 0) = true → 1 ≤ dot t (ones m))
  | [], m, h, hn => by simp [dot]
  | a :: t, 0, h, hn => by simp at h
  | a :: t, m + 1, h, hn => by
    obtain ⟨h1, h2, h3⟩ := dot_ones t m (by simpa using h) (fun i hi => hn i (by simp [hi]))
    have ha := hn a (by simp)
    have e : dot (a :: t) (ones (m + 1)) = a + dot t (ones m) := by simp [ones, List.replicate_succ, dot]
    rw [e]
    refine ⟨fun i hi => ?_, by omega, fun ho => ?_⟩
    · rcases List.mem_cons.mp hi with rfl | hi
      · omega
      · have := h1 i hi; omega
    · simp only [List.any_cons, Bool.or_eq_true] at ho
      rcases ho with ho | ho
      · have : a ≠ 0 := by simpa using ho
        omega
      · have := h3 ho; omega
theorem val_ones {m : Nat} {l : Lp} (h : okL m l) : (∀ i ∈ l.2, i ≤ valF l.2 (ones m)) ∧ l.2.headD 0 + 1 ≤ valF l.2 (ones m) := by
  obtain ⟨w, f⟩ := l
  have h1 : f.length = m + 1 := h.len
  have h2 : ∀ i ∈ f, 0 ≤ i := h.nn
  have h3 : isOpen f = true := h.op
  cases f with
  | nil => simp at h1
  | cons c t =>
    unfold valF
    simp only [List.headD_cons, List.tail_cons]
    unfold isOpen at h3
    simp only [List.tail_cons] at h3
    obtain ⟨a, b, d⟩ := dot_ones t m (by simpa using h1) (fun i hi => h2 i (by simp [hi]))
    have := d h3
    have := h2 c (by simp)
    refine ⟨fun i hi => ?_, by omega⟩
    rcases List.mem_cons.mp hi with rfl | hi
    · omega
    · have := a i hi; omega
theorem one_lp {m : Nat} {l : Lp} (h : okL m l) : ((l.2.headD 0).toNat + 1) * l.1.length ≤ (valF l.2 (ones m)).toNat * l.1.length ∧ 1 ≤ l.1.length := by
  have h1 := (val_ones h).2
  have h0 := (okL.hd (w := l.1) (f := l.2) h).2
  have := List.length_pos_iff.mpr h.ne
  exact ⟨Nat.mul_le_mul_right _ (by omega), this⟩
theorem tsz_lps {m : Nat} : ∀ {r : List It}, okA m r → (lps r).length ≤ tsz m r ∧ rsize r ≤ 2 * tsz m r ∧ wzs r ≤ 2 * tsz m r ∧ ∀ l ∈ lps r, l.1.length ≤ tsz m r ∧ ∀ i ∈ l.2, i ≤ tsz m r
  | [], h => by simp [lps, rsize, wzs]
  | .inl c :: r, h => by
    obtain ⟨h1, h2, h3, h4⟩ := tsz_lps (okA_cons.mp h).2
    rw [tsz_inl]
    simp only [lps, rsize, wzs, List.map_cons, wz, List.sum_cons] at h3 ⊢
    refine ⟨by omega, by omega, by omega, fun l hl => ?_⟩
    obtain ⟨a, b⟩ := h4 l hl
    exact ⟨by omega, fun i hi => by have := b i hi; omega⟩
  | .inr k :: r, h => by
    obtain ⟨h1, h2, h3, h4⟩ := tsz_lps (okA_cons.mp h).2
    have hk := (okA_cons.mp h).1
    obtain ⟨o1, o2⟩ := one_lp hk
    obtain ⟨v1, v2⟩ := val_ones hk
    rw [tsz_inr]
    generalize hV : (valF k.2 (ones m)).toNat * k.1.length = V at o1 ⊢
    have o3 : ((k.2.headD 0).toNat + 1) * k.1.length = (k.2.headD 0).toNat * k.1.length + k.1.length := by rw [Nat.add_mul, Nat.one_mul]
    have hw : wz (.inr k) ≤ 2 * V := by unfold wz; simp only [Nat.mul_comm k.1.length, Nat.add_comm 1, o3] at *; omega
    simp only [lps, rsize, wzs, List.map_cons, List.sum_cons, List.length_cons] at h3 ⊢
    refine ⟨by omega, by omega, by omega, fun l hl => ?_⟩
    rcases List.mem_cons.mp hl with rfl | hl
    · refine ⟨by omega, fun i hi => ?_⟩
      have a := v1 i hi
      have b : (valF l.2 (ones m)).toNat * 1 ≤ (valF l.2 (ones m)).toNat * l.1.length := Nat.mul_le_mul_left _ o2
      omega
    · obtain ⟨a, b⟩ := h4 l hl
      exact ⟨by omega, fun i hi => by have := b i hi; omega⟩
def nl : List It → Nat
  | [] => 0
  | .inl _ :: r => nl r + 1
  | .inr _ :: r => nl r
def mzr (L : Nat) : Nat → List It → Nat
  | _, [] => 0
  | k, .inl _ :: r => mzr L (k + 1) r
  | k, .inr l :: r => l.1.length + (L + 1) * ((l.2.headD 0).toNat * l.1.length) + k + mzr L k r
theorem nl_app : ∀ a b : List It, nl (a ++ b) = nl a + nl b
  | [], b => by simp [nl]
  | .inl c :: a, b => by simp only [List.cons_append, nl, nl_app a b]; omega
  | .inr c :: a, b => by simp only [List.cons_append, nl, nl_app a b]
theorem nl_lets (w : Wd) : nl (lets w) = w.length := by
  induction w with
  | nil => rfl
  | cons c w ih => simp only [lets, List.map_cons, nl, List.length_cons] at ih ⊢; omega
theorem mzr_app (L : Nat) : ∀ (a b : List It) (k : Nat), mzr L k (a ++ b) = mzr L k a + mzr L (k + nl a) b
  | [], b, k => by simp [mzr, nl]
  | .inl c :: a, b, k => by simp only [List.cons_append, mzr, nl, mzr_app L a b, Nat.add_assoc, Nat.add_comm 1]
  | .inr c :: a, b, k => by simp only [List.cons_append, mzr, nl, mzr_app L a b]; omega
theorem mzr_shift (L j : Nat) : ∀ (r : List It) (k : Nat), mzr L (k + j) r = mzr L k r + j * (lps r).length
  | [], k => by simp [mzr, lps]
  | .inl c :: r, k => by
    simp only [mzr, lps]
    rw [show k + j + 1 = (k + 1) + j by omega, mzr_shift L j r]
  | .inr c :: r, k => by
    simp only [mzr, lps, List.length_cons]
    rw [mzr_shift L j r, Nat.mul_succ]; omega
theorem mzr_lets (L k : Nat) (w : Wd) : mzr L k (lets w) = 0 := by
  induction w generalizing k with
  | nil => rfl
  | cons c w ih => simp only [lets, List.map_cons, mzr] at ih ⊢; exact ih _
theorem Red.mz {m : Nat} {x y : List It} (h : Red m x y) {L : Nat} {b : List It} (hb : (lps b).length ≤ L) (k : Nat) : mzr L k (y ++ b) < mzr L k (x ++ b) := by
  obtain ⟨c, a, b'⟩ := h
  rw [mzr_app, mzr_app]
  cases c with
  | left x u f => simp only [mzr, nl, List.length_append, List.length_cons, List.length_nil, Nat.zero_add]; omega
  | out w c t hc =>
    simp only [mzr, nl, mzr_lets, nl_lets, List.headD_cons, Nat.add_zero]
    rw [mzr_shift, show c.toNat = (c - 1).toNat + 1 by omega, Nat.add_mul (c - 1).toNat 1 w.length, Nat.one_mul, Nat.mul_add (L + 1)]
    have h1 := List.length_pos_iff.mpr (okA_cons.mp a).1.ne
    have h2 : w.length * (lps b).length ≤ L * w.length := by rw [Nat.mul_comm]; exact Nat.mul_le_mul_right _ hb
    rw [Nat.add_mul (L) 1 w.length, Nat.one_mul]
    simp only at h1
    omega
  | root n v f hn =>
    have h1 := List.length_pos_iff.mpr (okA_cons.mp b').1.ne
    have h0 := (okL.hd (okA_cons.mp a).1).2
    simp only at h1
    simp only [mzr, nl, pw_len, Nat.add_zero]
    have e : ((f.map fun i => (n : Int) * i).headD 0).toNat = n * (f.headD 0).toNat := by
      cases f with
      | nil => simp
      | cons c t =>
        simp only [List.map_cons, List.headD_cons] at h0 ⊢
        obtain ⟨d, rfl⟩ := Int.eq_ofNat_of_zero_le h0
        rw [show ((n : Int) * (d : Int)) = ((n * d : Nat) : Int) from by simp, Int.toNat_natCast, Int.toNat_natCast]
    rw [e, show n * (f.headD 0).toNat * v.length = (f.headD 0).toNat * (n * v.length) by rw [Nat.mul_comm n, Nat.mul_assoc]]
    have : 2 * v.length ≤ n * v.length := Nat.mul_le_mul_right _ hn
    omega
  | join w f g =>
    have h1 := (okA_cons.mp a).1
    have h2 := (okA_cons.mp (okA_cons.mp a).2).1
    have p := List.length_pos_iff.mpr h1.ne
    have f0 := h1.hd
    have g0 := h2.hd
    simp only at p f0 g0
    simp only [mzr, nl, Nat.add_zero]
    have e : (addF f g).headD 0 = f.headD 0 + g.headD 0 := by
      cases f with
      | nil => exact absurd rfl f0.1
      | cons c t => cases g with
        | nil => exact absurd rfl g0.1
        | cons d s => simp [addF]
    rw [e, Int.toNat_add f0.2 g0.2, Nat.add_mul (f.headD 0).toNat (g.headD 0).toNat w.length, Nat.mul_add (L + 1)]
    omega
theorem Red.nlp {m : Nat} {x y : List It} (h : Red m x y) : (lps y).length ≤ (lps x).length := by
  obtain ⟨c, a, b'⟩ := h
  cases c with
  | left => simp [lps]
  | out w c t hc => simp only [lps]; rw [(txl_lets w).2]; simp
  | root => simp [lps]
  | join => simp [lps]
theorem nl_le {m : Nat} : ∀ r : List It, nl r ≤ tsz m r
  | [] => by simp [nl]
  | .inl c :: r => by have := nl_le (m := m) r; rw [tsz_inl]; simp only [nl]; omega
  | .inr c :: r => by have := nl_le (m := m) r; rw [tsz_inr]; simp only [nl]; omega
end G57
set_option Elab.async false
set_option linter.all false
set_option maxRecDepth 100000
set_option maxHeartbeats 800000
namespace G57
open PySem L2
structure Dec (r : List It) (j : Nat) (A0 : List It) (la : Wd) (l : Lp) (fb : Wd) (B0 : List It) : Prop where
  e : r = (A0 ++ lets la) ++ .inr l :: (lets fb ++ B0)
  ea : A0 = [] ∨ ∃ A1 k, A0 = A1 ++ [.inr k]
  eb : B0 = [] ∨ ∃ k B1, B0 = .inr k :: B1
  n : (lps A0).length = j
def ini (A : List It) : List Wd := (txl A).dropLast
theorem ini_len (A : List It) : (ini A).length = (lps A).length := by unfold ini; rw [List.length_dropLast, txl_len]; omega
theorem txl_ea {A0 : List It} (h : A0 = [] ∨ ∃ A1 k, A0 = A1 ++ [.inr k]) (R : List It) : txl (A0 ++ R) = ini A0 ++ txl R := by
  rcases h with rfl | ⟨A1, k, rfl⟩
  · rfl
  · obtain ⟨i, l, h1, h2⟩ := txl_app (A1 ++ [.inr k]) R
    have h3 := (txl_loop A1 k []).1
    rw [show A1 ++ .inr k :: lets [] = A1 ++ [.inr k] from rfl] at h3
    unfold ini
    rw [h2, h3]
    have e := h1.symm.trans h3
    have e2 : i = txl A1 ∧ l = [] := by
      have := List.append_inj' e rfl
      exact ⟨this.1, by simpa using this.2⟩
    rw [e2.1, e2.2, List.dropLast_concat]
    simp [txl]
theorem txs_lets (y : Wd) (B : List It) : txs (lets y ++ B) = (y ++ (txs B).1, (txs B).2) := by
  induction y with
  | nil => rfl
  | cons c y ih =>
    show txs (.inl c :: (lets y ++ B)) = _
    rw [txs, ih]; rfl
theorem txs_eb {B0 : List It} (h : B0 = [] ∨ ∃ k B1, B0 = .inr k :: B1) : (txs B0).1 = [] := by
  rcases h with rfl | ⟨k, B1, rfl⟩ <;> rfl
theorem txl_inr (l : Lp) (R : List It) : txl (.inr l :: R) = [] :: txl R := rfl
theorem txl_xl (x : Wd) (l : Lp) (R : List It) : txl (lets x ++ .inr l :: R) = x :: txl R := by
  unfold txl
  rw [txs_lets]
  simp [txs]
theorem txl_ls (R : List It) : ∀ ls : List Lp, txl (ls.map Sum.inr ++ R) = List.replicate ls.length [] ++ txl R
  | [] => rfl
  | l :: ls => by rw [List.map_cons, List.cons_append, txl_inr, txl_ls R ls]; rfl
theorem lps_ls : ∀ ls : List Lp, lps (ls.map Sum.inr) = ls
  | [] => rfl
  | l :: ls => by rw [List.map_cons, lps, lps_ls ls]
theorem lps_lets (w : Wd) : lps (lets w) = [] := (txl_lets w).2
theorem put_row {A0 B0 : List It} (ha : A0 = [] ∨ ∃ A1 k, A0 = A1 ++ [.inr k]) (hb : B0 = [] ∨ ∃ k B1, B0 = .inr k :: B1) (x y : Wd) (l : Lp) (ls : List Lp) :
    txl ((A0 ++ lets x) ++ ((l :: ls).map Sum.inr ++ (lets y ++ B0))) = ini A0 ++ x :: (List.replicate ls.length [] ++ y :: (txs B0).2) ∧
    lps ((A0 ++ lets x) ++ ((l :: ls).map Sum.inr ++ (lets y ++ B0))) = lps A0 ++ (l :: ls ++ lps B0) := by
  constructor
  · rw [List.append_assoc, txl_ea ha, List.map_cons, List.cons_append, txl_xl, txl_ls]
    congr 2
    congr 1
    unfold txl
    rw [txs_lets, txs_eb hb, List.append_nil]
  · simp only [lps_app, lps_lets, lps_ls, List.nil_append, List.append_assoc]
theorem Dec.tx {r : List It} {j : Nat} {A0 B0 : List It} {la fb : Wd} {l : Lp} (h : Dec r j A0 la l fb B0) : txl r = ini A0 ++ la :: fb :: (txs B0).2 ∧ lps r = lps A0 ++ l :: lps B0 ∧ (ini A0).length = j := by
  obtain ⟨a, b⟩ := put_row h.ea h.eb la fb l []
  have e := h.e
  refine ⟨?_, ?_, by rw [ini_len, h.n]⟩
  · rw [e]; simpa using a
  · rw [e]; simpa using b
theorem cut_of : ∀ (r : List It) (j : Nat), j < (lps r).length → ∃ A l B, r = A ++ .inr l :: B ∧ (lps A).length = j
  | .inl c :: r, j, h => by
    obtain ⟨A, l, B, e, n⟩ := cut_of r j (by simpa [lps] using h)
    exact ⟨.inl c :: A, l, B, by rw [e]; rfl, by simpa [lps] using n⟩
  | .inr k :: r, 0, h => ⟨[], k, r, rfl, rfl⟩
  | .inr k :: r, j + 1, h => by
    obtain ⟨A, l, B, e, n⟩ := cut_of r j (by simpa [lps] using h)
    exact ⟨.inr k :: A, l, B, by rw [e]; rfl, by simp [lps, n]⟩
theorem dec_at (A B : List It) (l : Lp) : ∃ A0 la fb B0, A = A0 ++ lets la ∧ B = lets fb ++ B0 ∧ Dec (A ++ .inr l :: B) (lps A).length A0 la l fb B0 := by
  have hA : ∃ A0 la, A = A0 ++ lets la ∧ (A0 = [] ∨ ∃ A1 k, A0 = A1 ++ [.inr k]) := by
    obtain ⟨x, h | ⟨A1, k, h⟩⟩ := ends A
    · exact ⟨[], x, h, .inl rfl⟩
    · exact ⟨A1 ++ [.inr k], x, by rw [h]; simp, .inr ⟨A1, k, rfl⟩⟩
  have hB : ∃ fb B0, B = lets fb ++ B0 ∧ (B0 = [] ∨ ∃ k B1, B0 = .inr k :: B1) := by
    refine ⟨(txs B).1, _, row_split B, ?_⟩
    cases (txs B).2.zip (lps B) with
    | nil => exact .inl rfl
    | cons y ys => exact .inr ⟨y.2, _, by simp [pcs2]; rfl⟩
  obtain ⟨A0, la, rfl, ha⟩ := hA
  obtain ⟨fb, B0, rfl, hb⟩ := hB
  exact ⟨A0, la, fb, B0, rfl, rfl, rfl, ha, hb, by rw [lps_app, lps_lets, List.append_nil]⟩
theorem dec_of {r : List It} {j : Nat} (h : j < (lps r).length) : ∃ A0 la l fb B0, Dec r j A0 la l fb B0 := by
  obtain ⟨A, l, B, rfl, rfl⟩ := cut_of r j h
  obtain ⟨A0, la, fb, B0, _, _, d⟩ := dec_at A B l
  exact ⟨A0, la, l, fb, B0, d⟩
theorem cut_uni : ∀ {A A' B B' : List It} {l l' : Lp}, A ++ .inr l :: B = A' ++ .inr l' :: B' → (lps A).length = (lps A').length → A = A' ∧ l = l' ∧ B = B'
  | [], [], B, B', l, l', h, n => by simpa using h
  | [], .inl c :: A', B, B', l, l', h, n => by simp at h
  | [], .inr c :: A', B, B', l, l', h, n => by simp [lps] at n
  | .inl c :: A, [], B, B', l, l', h, n => by simp at h
  | .inr c :: A, [], B, B', l, l', h, n => by simp [lps] at n
  | .inl c :: A, .inl c' :: A', B, B', l, l', h, n => by
    simp only [List.cons_append, List.cons.injEq, Sum.inl.injEq] at h
    obtain ⟨a, b, d⟩ := cut_uni h.2 (by simpa [lps] using n)
    exact ⟨by rw [h.1, a], b, d⟩
  | .inr c :: A, .inr c' :: A', B, B', l, l', h, n => by
    simp only [List.cons_append, List.cons.injEq, Sum.inr.injEq] at h
    obtain ⟨a, b, d⟩ := cut_uni h.2 (by simpa [lps] using n)
    exact ⟨by rw [h.1, a], b, d⟩
  | .inl c :: A, .inr c' :: A', B, B', l, l', h, n => by simp at h
  | .inr c :: A, .inl c' :: A', B, B', l, l', h, n => by simp at h
structure good (o : Option It) (l : Lp) : Prop where
  ne : l.1 ≠ []
  rt : (root l.1).2 = 1
  fn : l.2 ≠ []
  f0 : l.2.headD 0 = 0
  lf : ∀ c, o = some (.inl c) → l.1.getLast? ≠ some c
  jn : ∀ g, o ≠ some (.inr (l.1, g))
theorem plainB_of {r : List It} (h : ∀ A l B, r = A ++ .inr l :: B → good A.getLast? l) : plainB none r := by
  have gen : ∀ (B A : List It), r = A ++ B → plainB A.getLast? B := by
    intro B
    induction B with
    | nil => intro A e; simp [plainB]
    | cons x B ih =>
      intro A e
      have := ih (A ++ [x]) (by rw [e]; simp)
      rw [List.getLast?_concat] at this
      cases x with
      | inl c => simpa [plainB] using this
      | inr l =>
        obtain ⟨w, f⟩ := l
        simp only [plainB]
        have g := h A (w, f) B e
        exact ⟨⟨g.ne, g.rt, g.fn, g.f0, g.lf, g.jn⟩, this⟩
  exact gen r [] rfl
theorem last_dec {A0 : List It} (ea : A0 = [] ∨ ∃ A1 k, A0 = A1 ++ [.inr k]) (la : Wd) :
    (A0 ++ lets la).getLast? = match la.getLast? with
      | some c => some (.inl c)
      | none => (lps A0).getLast?.map .inr := by
  rcases List.eq_nil_or_concat la with rfl | ⟨u, c, rfl⟩
  · rcases ea with rfl | ⟨A1, k, rfl⟩
    · rfl
    · rw [lps_app]; simp [lets, lps]
  · rw [List.concat_eq_append, lets_app, ← List.append_assoc, show lets [c] = [.inl c] from rfl, List.getLast?_concat]
    simp
end G57
set_option Elab.async false
set_option linter.all false
set_option maxRecDepth 100000
set_option maxHeartbeats 800000
namespace G57
open PySem L2
theorem low_pw {n : Nat} {v : Wd} (h : lowW v) : lowW (pw n v) := fun c hc => h c (mem_pw hc)
theorem low_of_pw {n : Nat} {v : Wd} (hn : 0 < n) (h : lowW (pw n v)) : lowW v := fun c hc => h c (by
  obtain ⟨k, rfl⟩ : ∃ k, n = k + 1 := ⟨n - 1, by omega⟩
  rw [pw_s]; simp [hc])
theorem pw_ne {n : Nat} {v : Wd} (hn : 0 < n) (h : v ≠ []) : pw n v ≠ [] := fun e => by
  have := congrArg List.length e
  rw [pw_len] at this
  have := List.length_pos_iff.mpr h
  simp only [List.length_nil] at *
  rcases Nat.mul_eq_zero.mp ‹n * v.length = 0› with h | h <;> omega
theorem ne_of_pw {n : Nat} {v : Wd} (h : pw n v ≠ []) : v ≠ [] := fun e => h (by
  rw [e]; unfold pw
  induction n with
  | zero => rfl
  | succ n ih => rw [List.replicate_succ, List.flatten_cons]; simp)
theorem open_scale {n : Nat} {f : List Int} (hn : 0 < n) : isOpen (f.map fun i => (n : Int) * i) = isOpen f := by
  unfold isOpen
  rw [← List.map_tail, List.any_map]
  congr 1
  funext i
  show ((n : Int) * i != 0) = (i != 0)
  by_cases h : i = 0
  · simp [h]
  · rw [bne_iff_ne.mpr (Int.mul_ne_zero (by omega) h), bne_iff_ne.mpr h]
theorem okL_scale {m n : Nat} {v : Wd} {f : List Int} (hn : 0 < n) : okL m (pw n v, f) ↔ okL m (v, f.map fun i => (n : Int) * i) := by
  constructor
  · intro h
    have h1 : ∀ i ∈ f, 0 ≤ i := h.nn
    have h2 : f.length = m + 1 := h.len
    refine ⟨ne_of_pw h.ne, low_of_pw hn h.low, by simpa using h2, fun i hi => ?_, (open_scale hn).trans h.op⟩
    simp only [List.mem_map] at hi
    obtain ⟨a, ha, rfl⟩ := hi
    exact Int.mul_nonneg (by omega) (h1 a ha)
  · intro h
    have h1 : ∀ i ∈ f.map (fun i => (n : Int) * i), 0 ≤ i := h.nn
    have h2 : (f.map fun i => (n : Int) * i).length = m + 1 := h.len
    refine ⟨pw_ne hn h.ne, low_pw h.low, by simpa using h2, fun i hi => ?_, (open_scale hn).symm.trans h.op⟩
    have := h1 ((n : Int) * i) (List.mem_map.mpr ⟨i, hi, rfl⟩)
    rcases Int.lt_or_le i 0 with hi | hi
    · have : (n : Int) * i < 0 := Int.mul_neg_of_pos_of_neg (by omega) hi
      omega
    · exact hi
theorem okA_1 {m : Nat} {l : Lp} : okA m [.inr l] ↔ okL m l := by rw [okA_cons]; exact ⟨fun h => h.1, fun h => ⟨h, okA_nil⟩⟩
theorem mk_root {m n : Nat} {v : Wd} {f : List Int} (h : okL m (pw n v, f)) (hn : 2 ≤ n) : Red m [.inr (pw n v, f)] [.inr (v, f.map fun i => (n : Int) * i)] :=
  ⟨.root n v f hn, okA_1.mpr h, okA_1.mpr ((okL_scale (by omega)).mp h)⟩
theorem mk_whole {m n : Nat} {v : Wd} {f : List Int} (h : okL m (v, f)) (hn : 2 ≤ n) (hd : ∀ i ∈ f, i % (n : Int) = 0) : Red m [.inr (pw n v, f.map fun i => i / (n : Int))] [.inr (v, f)] := by
  have e : (f.map fun i => i / (n : Int)).map (fun i => (n : Int) * i) = f := by
    rw [List.map_map]
    conv => rhs; rw [← List.map_id f]
    apply List.map_congr_left
    intro i hi
    simp only [Function.comp, id]
    have := hd i hi
    have := Int.mul_ediv_add_emod i n
    omega
  have := okL_scale (m := m) (n := n) (v := v) (f := f.map fun i => i / (n : Int)) (by omega)
  rw [e] at this
  have r := RedC.root n v (f.map fun i => i / (n : Int)) hn
  rw [e] at r
  exact ⟨r, okA_1.mpr (this.mpr h), okA_1.mpr h⟩
theorem okL_form {m : Nat} {w : Wd} {f g : List Int} (h : okL m (w, f)) (hl : g.length = m + 1) (hn : ∀ i ∈ g, 0 ≤ i) (ho : isOpen g = true) : okL m (w, g) := ⟨h.ne, h.low, hl, hn, ho⟩
theorem okL_word {m : Nat} {w v : Wd} {f : List Int} (h : okL m (w, f)) (hv : v ≠ []) (hl : lowW v) : okL m (v, f) := ⟨hv, hl, h.len, h.nn, h.op⟩
theorem sub_add : ∀ {f g : List Int}, f.length = g.length → addF g ((f.zip g).map fun y => y.1 - y.2) = f
  | [], [], _ => rfl
  | [], _ :: _, h => by simp at h
  | _ :: _, [], h => by simp at h
  | a :: f, b :: g, h => by
    have := sub_add (f := f) (g := g) (by simpa using h)
    unfold addF at this ⊢
    simp only [List.zip_cons_cons, List.map_cons, this]
    congr 1
    omega
theorem mk_part {m : Nat} {w : Wd} {f g : List Int} (h : okL m (w, f)) (hl : g.length = m + 1) (hn : ∀ i ∈ g, 0 ≤ i) (ho : isOpen g = true) (hle : ∀ y ∈ f.zip g, y.2 ≤ y.1) (ho2 : isOpen ((f.zip g).map fun y => y.1 - y.2) = true) :
    Red m [.inr (w, g), .inr (w, (f.zip g).map fun y => y.1 - y.2)] [.inr (w, f)] := by
  have hf : f.length = m + 1 := h.len
  have r := RedC.join w g ((f.zip g).map fun y => y.1 - y.2)
  rw [sub_add (by omega)] at r
  refine ⟨r, okA_cons.mpr ⟨okL_form h hl hn ho, okA_1.mpr (okL_form h (by simp [List.length_zip]; omega) (fun i hi => ?_) ho2)⟩, okA_1.mpr h⟩
  simp only [List.mem_map] at hi
  obtain ⟨y, hy, rfl⟩ := hi
  have := hle y hy
  omega
theorem low_app {a b : Wd} : lowW (a ++ b) ↔ lowW a ∧ lowW b := ⟨fun h => ⟨fun c hc => h c (by simp [hc]), fun c hc => h c (by simp [hc])⟩, fun h c hc => (List.mem_append.mp hc).elim (h.1 c) (h.2 c)⟩
theorem low_cons {c : Nat} {b : Wd} : lowW (c :: b) ↔ (97 ≤ c ∧ c ≤ 122) ∧ lowW b := ⟨fun h => ⟨h c (by simp), fun d hd => h d (by simp [hd])⟩, fun h d hd => (List.mem_cons.mp hd).elim (fun e => e ▸ h.1) (h.2 d)⟩
theorem mk_left {m x : Nat} {u : Wd} {f : List Int} (h : okL m (u ++ [x], f)) : Red m [.inl x, .inr (u ++ [x], f)] [.inr (x :: u, f), .inl x] := by
  have hl := low_app.mp h.low
  have hx := (low_cons.mp hl.2).1
  have h2 : okL m (x :: u, f) := okL_word h (by simp) (low_cons.mpr ⟨hx, hl.1⟩)
  exact ⟨.left x u f, okA_cons.mpr ⟨hx, okA_1.mpr h⟩, okA_cons.mpr ⟨h2, okA_cons.mpr ⟨hx, okA_nil⟩⟩⟩
theorem mk_right {m x : Nat} {u : Wd} {f : List Int} (h : okL m (x :: u, f)) : Red m [.inl x, .inr (u ++ [x], f)] [.inr (x :: u, f), .inl x] := by
  have hl := low_cons.mp h.low
  exact mk_left (okL_word h (by simp) (low_app.mpr ⟨hl.2, low_cons.mpr ⟨hl.1, fun c hc => by simp at hc⟩⟩))
theorem okL_const {m : Nat} {w : Wd} {c d : Int} {t : List Int} (h : okL m (w, c :: t)) (hd : 0 ≤ d) : okL m (w, d :: t) := by
  have h1 : ∀ i ∈ c :: t, 0 ≤ i := h.nn
  have h2 : (c :: t).length = m + 1 := h.len
  refine okL_form h (by simpa using h2) (fun i hi => ?_) h.op
  rcases List.mem_cons.mp hi with rfl | hi
  · exact hd
  · exact h1 i (by simp [hi])
theorem mk_out {m : Nat} {w : Wd} {c : Int} {t : List Int} (h : okL m (w, c :: t)) (hc : 1 ≤ c) : Red m [.inr (w, c :: t)] (.inr (w, (c - 1) :: t) :: lets w) :=
  ⟨.out w c t hc, okA_1.mpr h, okA_cons.mpr ⟨okL_const h (by omega), okA_lets.mpr h.low⟩⟩
theorem mk_in {m : Nat} {w : Wd} {c : Int} {t : List Int} (h : okL m (w, c :: t)) : Red m [.inr (w, (c + 1) :: t)] (.inr (w, c :: t) :: lets w) := by
  have h1 : ∀ i ∈ c :: t, 0 ≤ i := h.nn
  have h0 := h1 c (by simp)
  have := mk_out (okL_const h (d := c + 1) (by omega)) (by omega)
  rwa [show c + 1 - 1 = c by omega] at this
theorem addF_mem : ∀ {f g : List Int}, (∀ i ∈ f, 0 ≤ i) → (∀ i ∈ g, 0 ≤ i) → ∀ i ∈ addF f g, 0 ≤ i := fun {f g} hf hg i hi => by
  unfold addF at hi
  simp only [List.mem_map] at hi
  obtain ⟨⟨a, b⟩, hy, rfl⟩ := hi
  have := hf a (List.of_mem_zip hy).1
  have := hg b (List.of_mem_zip hy).2
  simp only; omega
theorem open_add {f g : List Int} (hl : f.length = g.length) (hf : ∀ i ∈ f, 0 ≤ i) (hg : ∀ i ∈ g, 0 ≤ i) (ho : isOpen f = true) : isOpen (addF f g) = true := by
  have core : ∀ (f g : List Int), f.length = g.length → (∀ i ∈ f, 0 ≤ i) → (∀ i ∈ g, 0 ≤ i) → f.any (· != 0) = true → (addF f g).any (· != 0) = true := by
    intro f
    induction f with
    | nil => intro g _ _ _ h; simp at h
    | cons a f ih =>
      intro g hl hf hg h
      cases g with
      | nil => simp at hl
      | cons b g =>
        have e : addF (a :: f) (b :: g) = (a + b) :: addF f g := rfl
        rw [e]
        simp only [List.any_cons, Bool.or_eq_true] at h ⊢
        have ha := hf a (by simp)
        have hb := hg b (by simp)
        rcases h with h | h
        · have : a ≠ 0 := by simpa using h
          exact .inl (by simp; omega)
        · exact .inr (ih g (by simpa using hl) (fun i hi => hf i (by simp [hi])) (fun i hi => hg i (by simp [hi])) h)
  cases f with
  | nil => simp [isOpen] at ho
  | cons a f => cases g with
    | nil => simp at hl
    | cons b g =>
      exact core f g (by simpa using hl) (fun i hi => hf i (by simp [hi])) (fun i hi => hg i (by simp [hi])) ho
theorem mk_join {m : Nat} {w : Wd} {f g : List Int} (h1 : okL m (w, f)) (h2 : okL m (w, g)) : Red m [.inr (w, f), .inr (w, g)] [.inr (w, addF f g)] := by
  have a1 : f.length = m + 1 := h1.len
  have a2 : g.length = m + 1 := h2.len
  exact ⟨.join w f g, okA_cons.mpr ⟨h1, okA_1.mpr h2⟩, okA_1.mpr (okL_form h1 (by unfold addF; simp [List.length_zip]; omega) (addF_mem h1.nn h2.nn) (open_add (by omega) h1.nn h2.nn h1.op))⟩
end G57
set_option Elab.async false
set_option linter.all false
set_option maxRecDepth 100000
set_option maxHeartbeats 1000000
namespace G57
open PySem L2
def irb_l_put_3 : Sx := .cons (.ret (.tup (.cons (.var 5) (.cons (.var 9) (.cons (.bin .Add (.bin .Add (.sl (.var 7) (.nil) (.cons (.var 1) .nil)) (.bi .tuple (.cons (.var 3) (.nil)))) (.sl (.var 7) (.cons (.bin .Add (.var 1) (.con (.int 1))) .nil) (.nil))) (.nil)))))) .nil
def irb_l_put_2 : Sx := .cons (.asg (.v 9) (.bin .Add (.bin .Add (.bin .Add (.bin .Add (.sl (.var 6) (.nil) (.cons (.var 1) .nil)) (.tup (.cons (.var 2) (.nil)))) (.var 8)) (.tup (.cons (.var 4) (.nil)))) (.sl (.var 6) (.cons (.bin .Add (.var 1) (.con (.int 2))) .nil) (.nil)))) irb_l_put_3
def irb_l_put_1 : Sx := .cons (.asg (.v 8) (.bin .Mult (.tup (.cons (.con (.str [])) (.nil))) (.bin .Sub (.bi .len (.cons (.var 3) (.nil))) (.con (.int 1))))) irb_l_put_2
def irb_l_put : Sx := .cons (.asg (.t (.cons (.v 5) (.cons (.v 6) (.cons (.v 7) (.nil))))) (.var 0)) irb_l_put_1
def irb_l_turn_by_b1_1 : Sx := .cons (.ret (.call 0 (.cons (.var 0) (.cons (.var 4) (.cons (.var 7) (.cons (.lst (.cons (.var 9) (.nil))) (.cons (.var 8) (.nil)))))))) .nil
def irb_l_turn_by_b1 : Sx := .cons (.asg (.v 9) (.tup (.cons (.sl (.var 2) (.nil) (.cons (.bin .FloorDiv (.bi .len (.cons (.var 2) (.nil))) (.var 6)) .nil)) (.cons (.bi .tuple (.cons (.lc [11] (.v 11) (.iE (.var 3)) (.nil) (.bin .Mult (.var 11) (.var 6))) (.nil))) (.nil))))) irb_l_turn_by_b1_1
def irb_l_turn_by_b2 : Sx := .cons (.ret (.call 0 (.cons (.var 0) (.cons (.var 4) (.cons (.var 7) (.cons (.lst (.cons (.tup (.cons (.bin .Mult (.var 2) (.var 6)) (.cons (.bi .tuple (.cons (.lc [11] (.v 11) (.iE (.var 3)) (.nil) (.bin .FloorDiv (.var 11) (.var 6))) (.nil))) (.nil)))) (.nil))) (.cons (.var 8) (.nil)))))))) .nil
def irb_l_turn_by_b4 : Sx := .cons (.ret (.call 0 (.cons (.var 0) (.cons (.var 4) (.cons (.var 7) (.cons (.lst (.cons (.tup (.cons (.var 2) (.cons (.var 6) (.nil)))) (.cons (.tup (.cons (.var 2) (.cons (.var 10) (.nil)))) (.nil)))) (.cons (.var 8) (.nil)))))))) .nil
def irb_l_turn_by_b3_1 : Sx := .cons (.iff (.cmp .Gt (.bi .sum (.cons (.sl (.var 10) (.cons (.con (.int 1)) .nil) (.nil)) (.nil))) (.con (.int 0))) (irb_l_turn_by_b4) (.nil)) .nil
def irb_l_turn_by_b3 : Sx := .cons (.asg (.v 10) (.bi .tuple (.cons (.lc [11, 12] (.t (.cons (.v 11) (.cons (.v 12) (.nil)))) (.iZ (.var 3) (.var 6)) (.nil) (.bin .Sub (.var 11) (.var 12))) (.nil)))) irb_l_turn_by_b3_1
def irb_l_turn_by_5 : Sx := .cons (.ret (.con .non)) .nil
def irb_l_turn_by_4 : Sx := .cons (.iff (.and (.cmp .Eq (.var 5) (.con (.str [112, 97, 114, 116]))) (.and (.cmp .Gt (.bi .sum (.cons (.sl (.var 6) (.cons (.con (.int 1)) .nil) (.nil)) (.nil))) (.con (.int 0))) (.cmp .Eq (.lc [11, 12] (.t (.cons (.v 11) (.cons (.v 12) (.nil)))) (.iZ (.var 3) (.var 6)) (.cons (.cmp .Gt (.var 12) (.var 11)) .nil) (.con (.int 1))) (.lst (.nil))))) (irb_l_turn_by_b3) (.nil)) irb_l_turn_by_5
def irb_l_turn_by_3 : Sx := .cons (.iff (.and (.cmp .Eq (.var 5) (.con (.str [119, 104, 111, 108, 101]))) (.cmp .Eq (.lc [11] (.v 11) (.iE (.var 3)) (.cons (.cmp .NotEq (.bin .Mod (.bi .int (.cons (.var 11) (.nil))) (.var 6)) (.con (.int 0))) .nil) (.var 11)) (.lst (.nil)))) (irb_l_turn_by_b2) (.nil)) irb_l_turn_by_4
def irb_l_turn_by_2 : Sx := .cons (.iff (.and (.cmp .Eq (.var 5) (.con (.str [114, 111, 111, 116]))) (.and (.cmp .GtE (.bi .len (.cons (.var 2) (.nil))) (.var 6)) (.cmp .Eq (.bin .Mult (.sl (.var 2) (.nil) (.cons (.bin .FloorDiv (.bi .len (.cons (.var 2) (.nil))) (.var 6)) .nil)) (.var 6)) (.var 2)))) (irb_l_turn_by_b1) (.nil)) irb_l_turn_by_3
def irb_l_turn_by_1 : Sx := .cons (.asg (.t (.cons (.v 7) (.cons (.v 8) (.nil)))) (.tup (.cons (.idx (.idx (.var 0) (.con (.int 1))) (.var 4)) (.cons (.idx (.idx (.var 0) (.con (.int 1))) (.bin .Add (.var 4) (.con (.int 1)))) (.nil))))) irb_l_turn_by_2
def irb_l_turn_by : Sx := .cons (.asg (.t (.cons (.v 4) (.cons (.v 5) (.cons (.v 6) (.nil))))) (.tup (.cons (.idx (.var 1) (.con (.int 1))) (.cons (.idx (.var 1) (.con (.int 0))) (.cons (.idx (.var 1) (.con (.int 2))) (.nil)))))) irb_l_turn_by_1
def irb_l_turn_b1 : Sx := .cons (.ret (.con .non)) .nil
def irb_l_turn_b2 : Sx := .cons (.ret (.call 0 (.cons (.var 0) (.cons (.var 5) (.cons (.sl (.var 9) (.nil) (.cons (.neg (.con (.int 1))) .nil)) (.cons (.lst (.cons (.tup (.cons (.bin .Add (.idx (.var 6) (.neg (.con (.int 1)))) (.sl (.var 6) (.nil) (.cons (.neg (.con (.int 1))) .nil))) (.cons (.var 7) (.nil)))) (.nil))) (.cons (.bin .Add (.idx (.var 6) (.neg (.con (.int 1)))) (.var 10)) (.nil)))))))) .nil
def irb_l_turn_b3 : Sx := .cons (.ret (.call 0 (.cons (.var 0) (.cons (.var 5) (.cons (.bin .Add (.var 9) (.idx (.var 6) (.con (.int 0)))) (.cons (.lst (.cons (.tup (.cons (.bin .Add (.sl (.var 6) (.cons (.con (.int 1)) .nil) (.nil)) (.idx (.var 6) (.con (.int 0)))) (.cons (.var 7) (.nil)))) (.nil))) (.cons (.sl (.var 10) (.cons (.con (.int 1)) .nil) (.nil)) (.nil)))))))) .nil
def irb_l_turn_b4 : Sx := .cons (.ret (.call 0 (.cons (.var 0) (.cons (.var 5) (.cons (.var 9) (.cons (.lst (.cons (.tup (.cons (.var 6) (.cons (.bin .Add (.tup (.cons (.bin .Sub (.idx (.var 7) (.con (.int 0))) (.con (.int 1))) (.nil))) (.sl (.var 7) (.cons (.con (.int 1)) .nil) (.nil))) (.nil)))) (.nil))) (.cons (.bin .Add (.var 6) (.var 10)) (.nil)))))))) .nil
def irb_l_turn_b5 : Sx := .cons (.ret (.call 0 (.cons (.var 0) (.cons (.var 5) (.cons (.var 9) (.cons (.lst (.cons (.tup (.cons (.var 6) (.cons (.bin .Add (.tup (.cons (.bin .Add (.idx (.var 7) (.con (.int 0))) (.con (.int 1))) (.nil))) (.sl (.var 7) (.cons (.con (.int 1)) .nil) (.nil))) (.nil)))) (.nil))) (.cons (.sl (.var 10) (.cons (.bi .len (.cons (.var 6) (.nil))) .nil) (.nil)) (.nil)))))))) .nil
def irb_l_turn_b6_1 : Sx := .cons (.ret (.tup (.cons (.var 2) (.cons (.bin .Add (.sl (.var 3) (.nil) (.cons (.bin .Add (.var 5) (.con (.int 1))) .nil)) (.sl (.var 3) (.cons (.bin .Add (.var 5) (.con (.int 2))) .nil) (.nil))) (.cons (.bin .Add (.bin .Add (.sl (.var 4) (.nil) (.cons (.var 5) .nil)) (.tup (.cons (.tup (.cons (.var 6) (.cons (.var 11) (.nil)))) (.nil)))) (.sl (.var 4) (.cons (.bin .Add (.var 5) (.con (.int 2))) .nil) (.nil))) (.nil)))))) .nil
def irb_l_turn_b6 : Sx := .cons (.asg (.v 11) (.bi .tuple (.cons (.lc [12, 13] (.t (.cons (.v 12) (.cons (.v 13) (.nil)))) (.iZ (.var 7) (.idx (.idx (.var 4) (.bin .Add (.var 5) (.con (.int 1)))) (.con (.int 1)))) (.nil) (.bin .Add (.var 12) (.var 13))) (.nil)))) irb_l_turn_b6_1
def irb_l_turn_9 : Sx := .cons (.ret (.ite (.cmp .Eq (.bi .len (.cons (.var 1) (.nil))) (.con (.int 3))) (.call 1 (.cons (.var 0) (.cons (.var 1) (.cons (.var 6) (.cons (.var 7) (.nil)))))) (.con .non))) .nil
def irb_l_turn_8 : Sx := .cons (.iff (.and (.cmp .Eq (.var 8) (.con (.str [106, 111, 105, 110]))) (.and (.cmp .Eq (.var 10) (.con (.str []))) (.and (.cmp .Lt (.bin .Add (.var 5) (.con (.int 1))) (.bi .len (.cons (.var 4) (.nil)))) (.cmp .Eq (.idx (.idx (.var 4) (.bin .Add (.var 5) (.con (.int 1)))) (.con (.int 0))) (.var 6))))) (irb_l_turn_b6) (.nil)) irb_l_turn_9
def irb_l_turn_7 : Sx := .cons (.iff (.and (.cmp .Eq (.var 8) (.con (.str [105, 110]))) (.cmp .Eq (.sl (.var 10) (.nil) (.cons (.bi .len (.cons (.var 6) (.nil))) .nil)) (.var 6))) (irb_l_turn_b5) (.nil)) irb_l_turn_8
def irb_l_turn_6 : Sx := .cons (.iff (.and (.cmp .Eq (.var 8) (.con (.str [111, 117, 116]))) (.cmp .Gt (.idx (.var 7) (.con (.int 0))) (.con (.int 0)))) (irb_l_turn_b4) (.nil)) irb_l_turn_7
def irb_l_turn_5 : Sx := .cons (.iff (.and (.cmp .Eq (.var 8) (.con (.str [114, 105, 103, 104, 116]))) (.cmp .Eq (.sl (.var 10) (.nil) (.cons (.con (.int 1)) .nil)) (.idx (.var 6) (.con (.int 0))))) (irb_l_turn_b3) (.nil)) irb_l_turn_6
def irb_l_turn_4 : Sx := .cons (.iff (.and (.cmp .Eq (.var 8) (.con (.str [108, 101, 102, 116]))) (.cmp .Eq (.sl (.var 9) (.cons (.neg (.con (.int 1))) .nil) (.nil)) (.idx (.var 6) (.neg (.con (.int 1)))))) (irb_l_turn_b2) (.nil)) irb_l_turn_5
def irb_l_turn_3 : Sx := .cons (.asg (.t (.cons (.v 9) (.cons (.v 10) (.nil)))) (.tup (.cons (.idx (.var 3) (.var 5)) (.cons (.idx (.var 3) (.bin .Add (.var 5) (.con (.int 1)))) (.nil))))) irb_l_turn_4
def irb_l_turn_2 : Sx := .cons (.asg (.t (.cons (.v 5) (.cons (.t (.cons (.v 6) (.cons (.v 7) (.nil)))) (.cons (.v 8) (.nil))))) (.tup (.cons (.idx (.var 1) (.con (.int 1))) (.cons (.idx (.var 4) (.idx (.var 1) (.con (.int 1)))) (.cons (.idx (.var 1) (.con (.int 0))) (.nil)))))) irb_l_turn_3
def irb_l_turn_1 : Sx := .cons (.iff (.cmp .GtE (.idx (.var 1) (.con (.int 1))) (.bi .len (.cons (.var 4) (.nil)))) (irb_l_turn_b1) (.nil)) irb_l_turn_2
def irb_l_turn : Sx := .cons (.asg (.t (.cons (.v 2) (.cons (.v 3) (.cons (.v 4) (.nil))))) (.var 0)) irb_l_turn_1
theorem cut_d {α : Type} (xs : List α) (n : Nat) : cutD xs (some (n : Int)) none = xs.drop n := by
  unfold cutD
  rw [HT.sIx_nat, HT.sIx_none]
  rcases Nat.le_total n xs.length with h | h
  · rw [Nat.min_eq_left h, List.take_of_length_le (by simp)]
  · rw [Nat.min_eq_right h, List.drop_of_length_le h, List.drop_of_length_le (Nat.le_refl _)]; simp
theorem cut_l {α : Type} (xs : List α) : cutD xs (some (-1)) none = xs.drop (xs.length - 1) := by
  unfold cutD
  have e : HT.sIx xs.length 0 (some (-1)) = xs.length - 1 := by
    simp only [HT.sIx]
    rw [if_pos (by decide)]
    omega
  rw [e, HT.sIx_none, List.take_of_length_le (by simp)]
theorem take_ini {α : Type} {a b : List α} {n : Nat} (h : a.length = n) : (a ++ b).take n = a := by rw [← h]; simp
theorem drop_ini {α : Type} {a b : List α} {n k : Nat} (h : a.length = n) : (a ++ b).drop (n + k) = b.drop k := by rw [← h, List.drop_append]; simp
def sPut : Spec2 := fun ds g Q => ∃ (m j : Nat) (r A0 B0 : List It) (la fb x y : Wd) (l k : Lp) (ks : List Lp), ds = [encRw m r, .int j, .str x, .rol ((k :: ks).map encLp), .str y] ∧ Dec r j A0 la l fb B0 ∧ (lps r).length ≤ 8000000 ∧ ks.length ≤ 1 ∧ Q (encRw m ((A0 ++ lets x) ++ ((k :: ks).map Sum.inr ++ (lets y ++ B0)))) g
theorem rep_nil (n : Nat) : (List.replicate n [D.str []]).flatten = (List.replicate n ([] : List Nat)).map D.str := by
  induction n with
  | zero => rfl
  | succ n ih => rw [List.replicate_succ, List.flatten_cons, ih, List.replicate_succ]; rfl
theorem q_put (N : List Str) (hN : N.length = 10) : ∀ ds g Q, sPut ds g Q → OkS (tab2 []) [] irb_l_put { nx := fun _ g' => Q .non g', rt := Q } (startD N ds) g := by
  rintro ds g Q ⟨m, j, r, A0, B0, la, fb, x, y, l, k, ks, rfl, hd, hl, hk, kq⟩
  rw [start_eq hN, show ([encRw m r, .int j, .str x, .rol ((k :: ks).map encLp), .str y].map some ++ List.replicate (10 - [encRw m r, D.int j, .str x, .rol ((k :: ks).map encLp), .str y].length) none : En) = [some (encRw m r), some (.int j), some (.str x), some (.rol ((k :: ks).map encLp)), some (.str y), none, none, none, none, none] from rfl]
  obtain ⟨h1, h2, h3⟩ := hd.tx
  obtain ⟨p1, p2⟩ := put_row hd.ea hd.eb x y k ks
  have n1 := txl_len r
  have n2 : (lps r).length = (lps A0).length + ((lps B0).length + 1) := by rw [h2]; simp
  have n3 : (txl r).length = (ini A0).length + ((txs B0).2.length + 2) := by rw [h1]; simp
  have n4 := hd.n
  unfold irb_l_put
  refine ok_cons (ok_asg rfl ?_)
  simp only [encRw, wqE, wqP_v, wqP_t, wqPs_n, wqPs_c, ownB, Bool.not_false, Bool.or_true, List.getElem?_cons_zero, List.set_cons_zero, List.set_cons_succ, Option.some.injEq, exists_eq_left', true_and, Bool.not_false]
  unfold irb_l_put_1
  refine ok_cons (ok_asg rfl ?_)
  simp only [wqE, wqA, subV_ii, mulV_ti, biV_len_r, flatD_i, flatD_s, opV_Sub, opV_Mult, wqP_v, ownB, Bool.not_false, Bool.or_self, List.getElem?_cons_zero, List.getElem?_cons_succ, List.set_cons_zero, List.set_cons_succ, Option.some.injEq, exists_eq_left', true_and, Bool.not_false, List.length_map, List.length_cons]
  rw [show ((ks.length + 1 : Nat) : Int) - 1 = (ks.length : Int) by omega]
  repeat (with_reducible refine And.intro (by first | omega | (simp; done) | (simp; omega)) ?_)
  simp only [Int.toNat_natCast, rep_nil]
  unfold irb_l_put_2
  refine ok_cons (ok_asg rfl ?_)
  simp only [encTx, wqE, wqA, wqO, addV_ii, addV_tt, slV_t, flatD_i, opV_Add, wqP_v, ownB, Bool.not_false, Bool.or_self, Bool.or_true, List.getElem?_cons_zero, List.getElem?_cons_succ, List.set_cons_zero, List.set_cons_succ, Option.some.injEq, exists_eq_left', D.int.injEq, true_and, Bool.not_false, cut_h]
  rw [show (j : Int) + 2 = ((j + 2 : Nat) : Int) by omega, cut_d, ← List.map_take, ← List.map_drop, h1, take_ini h3, drop_ini h3]
  simp only [List.drop_succ_cons, List.drop_zero, List.length_map, List.length_append, List.length_cons, List.length_nil, List.length_replicate]
  repeat (with_reducible refine And.intro (by first | omega | (simp; done) | (simp; omega)) ?_)
  unfold irb_l_put_3
  refine ok_cons (ok_ret ?_)
  simp only [encLs, wqE, wqA, wqO, addV_ii, addV_tt, slV_t, biV_tuple_r, flatD_i, opV_Add, ownB, Bool.not_false, Bool.or_self, Bool.or_true, List.getElem?_cons_zero, List.getElem?_cons_succ, Option.some.injEq, exists_eq_left', D.int.injEq, true_and, Bool.not_false, cut_h]
  rw [show (j : Int) + 1 = ((j + 1 : Nat) : Int) by omega, cut_d, ← List.map_take, ← List.map_drop, h2, take_ini hd.n, drop_ini hd.n]
  simp only [List.drop_succ_cons, List.drop_zero, List.length_map, List.length_append, List.length_cons, List.length_nil]
  repeat (with_reducible refine And.intro (by first | omega | (simp; done) | (simp; omega)) ?_)
  unfold encRw encTx encLs at kq
  rw [p1, p2] at kq
  simpa using kq
theorem nm_left_right : (([108, 101, 102, 116] : List Nat) = [114, 105, 103, 104, 116]) = False := eq_false (by decide)
theorem nm_left_out : (([108, 101, 102, 116] : List Nat) = [111, 117, 116]) = False := eq_false (by decide)
theorem nm_left_inn : (([108, 101, 102, 116] : List Nat) = [105, 110]) = False := eq_false (by decide)
theorem nm_left_join : (([108, 101, 102, 116] : List Nat) = [106, 111, 105, 110]) = False := eq_false (by decide)
theorem nm_right_left : (([114, 105, 103, 104, 116] : List Nat) = [108, 101, 102, 116]) = False := eq_false (by decide)
theorem nm_right_out : (([114, 105, 103, 104, 116] : List Nat) = [111, 117, 116]) = False := eq_false (by decide)
theorem nm_right_inn : (([114, 105, 103, 104, 116] : List Nat) = [105, 110]) = False := eq_false (by decide)
theorem nm_right_join : (([114, 105, 103, 104, 116] : List Nat) = [106, 111, 105, 110]) = False := eq_false (by decide)
theorem nm_out_left : (([111, 117, 116] : List Nat) = [108, 101, 102, 116]) = False := eq_false (by decide)
theorem nm_out_right : (([111, 117, 116] : List Nat) = [114, 105, 103, 104, 116]) = False := eq_false (by decide)
theorem nm_out_inn : (([111, 117, 116] : List Nat) = [105, 110]) = False := eq_false (by decide)
theorem nm_out_join : (([111, 117, 116] : List Nat) = [106, 111, 105, 110]) = False := eq_false (by decide)
theorem nm_inn_left : (([105, 110] : List Nat) = [108, 101, 102, 116]) = False := eq_false (by decide)
theorem nm_inn_right : (([105, 110] : List Nat) = [114, 105, 103, 104, 116]) = False := eq_false (by decide)
theorem nm_inn_out : (([105, 110] : List Nat) = [111, 117, 116]) = False := eq_false (by decide)
theorem nm_inn_join : (([105, 110] : List Nat) = [106, 111, 105, 110]) = False := eq_false (by decide)
theorem nm_join_left : (([106, 111, 105, 110] : List Nat) = [108, 101, 102, 116]) = False := eq_false (by decide)
theorem nm_join_right : (([106, 111, 105, 110] : List Nat) = [114, 105, 103, 104, 116]) = False := eq_false (by decide)
theorem nm_join_out : (([106, 111, 105, 110] : List Nat) = [111, 117, 116]) = False := eq_false (by decide)
theorem nm_join_inn : (([106, 111, 105, 110] : List Nat) = [105, 110]) = False := eq_false (by decide)
theorem nm_root_left : (([114, 111, 111, 116] : List Nat) = [108, 101, 102, 116]) = False := eq_false (by decide)
theorem nm_root_right : (([114, 111, 111, 116] : List Nat) = [114, 105, 103, 104, 116]) = False := eq_false (by decide)
theorem nm_root_out : (([114, 111, 111, 116] : List Nat) = [111, 117, 116]) = False := eq_false (by decide)
theorem nm_root_inn : (([114, 111, 111, 116] : List Nat) = [105, 110]) = False := eq_false (by decide)
theorem nm_root_join : (([114, 111, 111, 116] : List Nat) = [106, 111, 105, 110]) = False := eq_false (by decide)
theorem nm_root_whole : (([114, 111, 111, 116] : List Nat) = [119, 104, 111, 108, 101]) = False := eq_false (by decide)
theorem nm_root_part : (([114, 111, 111, 116] : List Nat) = [112, 97, 114, 116]) = False := eq_false (by decide)
theorem nm_whole_left : (([119, 104, 111, 108, 101] : List Nat) = [108, 101, 102, 116]) = False := eq_false (by decide)
theorem nm_whole_right : (([119, 104, 111, 108, 101] : List Nat) = [114, 105, 103, 104, 116]) = False := eq_false (by decide)
theorem nm_whole_out : (([119, 104, 111, 108, 101] : List Nat) = [111, 117, 116]) = False := eq_false (by decide)
theorem nm_whole_inn : (([119, 104, 111, 108, 101] : List Nat) = [105, 110]) = False := eq_false (by decide)
theorem nm_whole_join : (([119, 104, 111, 108, 101] : List Nat) = [106, 111, 105, 110]) = False := eq_false (by decide)
theorem nm_whole_root : (([119, 104, 111, 108, 101] : List Nat) = [114, 111, 111, 116]) = False := eq_false (by decide)
theorem nm_whole_part : (([119, 104, 111, 108, 101] : List Nat) = [112, 97, 114, 116]) = False := eq_false (by decide)
theorem nm_part_left : (([112, 97, 114, 116] : List Nat) = [108, 101, 102, 116]) = False := eq_false (by decide)
theorem nm_part_right : (([112, 97, 114, 116] : List Nat) = [114, 105, 103, 104, 116]) = False := eq_false (by decide)
theorem nm_part_out : (([112, 97, 114, 116] : List Nat) = [111, 117, 116]) = False := eq_false (by decide)
theorem nm_part_inn : (([112, 97, 114, 116] : List Nat) = [105, 110]) = False := eq_false (by decide)
theorem nm_part_join : (([112, 97, 114, 116] : List Nat) = [106, 111, 105, 110]) = False := eq_false (by decide)
theorem nm_part_root : (([112, 97, 114, 116] : List Nat) = [114, 111, 111, 116]) = False := eq_false (by decide)
theorem nm_part_whole : (([112, 97, 114, 116] : List Nat) = [119, 104, 111, 108, 101]) = False := eq_false (by decide)
inductive Mv where
  | left (j : Nat)
  | right (j : Nat)
  | out (j : Nat)
  | inn (j : Nat)
  | join (j : Nat)
  | root (j n : Nat)
  | whole (j n : Nat)
  | part (j : Nat) (f : List Int)
def Mv.enc : Mv → D
  | .left j => .tup [.str [108, 101, 102, 116], .int j]
  | .right j => .tup [.str [114, 105, 103, 104, 116], .int j]
  | .out j => .tup [.str [111, 117, 116], .int j]
  | .inn j => .tup [.str [105, 110], .int j]
  | .join j => .tup [.str [106, 111, 105, 110], .int j]
  | .root j n => .tup [.str [114, 111, 111, 116], .int j, .int n]
  | .whole j n => .tup [.str [119, 104, 111, 108, 101], .int j, .int n]
  | .part j f => .tup [.str [112, 97, 114, 116], .int j, .tup (f.map .int)]
def Mv.cut : Mv → Bool
  | .left _ | .out _ | .join _ | .root _ _ => true
  | _ => false
def can (r : List It) : Mv → Prop
  | .left j => ∃ A l B c, r = A ++ .inr l :: B ∧ (lps A).length = j ∧ A.getLast? = some (.inl c) ∧ l.1.getLast? = some c
  | .out j => ∃ A l B, r = A ++ .inr l :: B ∧ (lps A).length = j ∧ 0 < l.2.headD 0
  | .join j => ∃ A l g B, r = A ++ .inr l :: .inr (l.1, g) :: B ∧ (lps A).length = j
  | .root j n => ∃ A l B, r = A ++ .inr l :: B ∧ (lps A).length = j ∧ n ≤ l.1.length ∧ pw n (l.1.take (l.1.length / n)) = l.1
  | _ => False
def okMv (m : Nat) : Mv → Prop
  | .root _ n => 2 ≤ n ∧ n ≤ 8000000
  | .whole _ n => 2 ≤ n ∧ n ≤ 4
  | .part _ f => f.length = m + 1 ∧ (∀ i ∈ f, 0 ≤ i)
  | _ => True
structure TurnQ (m : Nat) (r : List It) (mv : Mv) (g : Nat) (Q : QK) : Prop where
  md : ∀ a x y b, r = a ++ x ++ b → (Red m x y ∨ (mv.cut = false ∧ Red m y x)) → Q (encRw m (a ++ y ++ b)) g
  no : ¬ can r mv → Q .non g
structure OkX (m : Nat) (r : List It) : Prop where
  ok : okA m r
  sz : tsz m r ≤ 2000000
  m3 : m ≤ 1000
def sTurnBy : Spec2 := fun ds g Q => ∃ (m j : Nat) (r A0 B0 : List It) (la fb w : Wd) (f : List Int) (mv : Mv), ds = [encRw m r, mv.enc, .str w, .tup (f.map .int)] ∧ ((∃ n, mv = .root j n) ∨ (∃ n, mv = .whole j n) ∨ ∃ h, mv = .part j h) ∧ Dec r j A0 la (w, f) fb B0 ∧ OkX m r ∧ okMv m mv ∧ TurnQ m r mv g Q
end G57
set_option Elab.async false
set_option linter.all false
set_option maxRecDepth 100000
set_option maxHeartbeats 1000000
namespace G57
open PySem L2
theorem at_ini {α : Type} {a b : List α} {x : α} {j : Nat} (h : a.length = j) : atI (a ++ x :: b) (j : Int) = some x := by
  rw [atI_n (n := j) rfl, ← h]; simp
theorem at_ini1 {α : Type} {a b : List α} {x y : α} {j : Nat} (h : a.length = j) : atI (a ++ x :: y :: b) ((j : Int) + 1) = some y := by
  rw [atI_n (n := j + 1) (by omega), ← h]; simp
theorem Dec.at {r : List It} {j : Nat} {A0 B0 : List It} {la fb : Wd} {l : Lp} (h : Dec r j A0 la l fb B0) :
    atI ((txl r).map D.str) (j : Int) = some (.str la) ∧ atI ((txl r).map D.str) ((j : Int) + 1) = some (.str fb) ∧ atI ((lps r).map encLp) (j : Int) = some (encLp l) := by
  obtain ⟨h1, h2, h3⟩ := h.tx
  rw [h1, h2]
  simp only [List.map_append, List.map_cons]
  exact ⟨at_ini (by simp [h3]), at_ini1 (by simp [h3]), at_ini (by simp [h.n])⟩
theorem OkX.dec {m j : Nat} {r A0 B0 : List It} {la fb w : Wd} {f : List Int} (o : OkX m r) (h : Dec r j A0 la (w, f) fb B0) :
    okL m (w, f) ∧ lowW la ∧ lowW fb ∧ w.length ≤ 2000000 ∧ la.length ≤ 4000000 ∧ fb.length ≤ 4000000 ∧ (lps r).length ≤ 8000000 ∧ (∀ i ∈ f, 0 ≤ i ∧ i ≤ 2000000) := by
  obtain ⟨ok, sz, m3⟩ := o
  obtain ⟨t1, t2, t3, t4⟩ := tsz_lps ok
  have e := h.e
  have ok' := ok
  rw [e] at ok'
  obtain ⟨a1, a2⟩ := okA_app.mp ok'
  obtain ⟨a3, a4⟩ := okA_app.mp a1
  obtain ⟨a5, a6⟩ := okA_cons.mp a2
  obtain ⟨a7, a8⟩ := okA_app.mp a6
  have hl : (w, f) ∈ lps r := by rw [h.tx.2.1]; simp
  obtain ⟨b1, b2⟩ := t4 _ hl
  have n1 : nl r ≤ tsz m r := nl_le r
  have n2 : nl r = nl A0 + la.length + (fb.length + nl B0) := by
    rw [e, nl_app, nl_app, nl_lets]
    simp only [nl, nl_app, nl_lets]
  refine ⟨a5, okA_lets.mp a4, okA_lets.mp a7, by simp only at b1; omega, by omega, by omega, by omega, fun i hi => ⟨a5.nn i hi, by have := b2 i hi; omega⟩⟩
theorem stop4 {g : Nat} {Q : QK} {c : List Nat} {env : En} {L : List (Str × Spec2)} (he : env[5]? = some (some (.str c))) (h2 : (c = [112, 97, 114, 116]) = False) (hn : Q .non g) :
    OkS (tab2 L) [] irb_l_turn_by_4 { nx := fun _ g' => Q .non g', rt := Q } env g := by
  unfold irb_l_turn_by_4
  refine ok_cons (ok_iff ?_)
  simp only [wqE, wqT, wqA, wqC, wqO, wqI, flatD_i, flatD_s, cmpV_Eq, cmpV_Gt, eqV_ss, ownB, Bool.not_false, Bool.or_self, Option.some.injEq, exists_eq_left', Bool.false_xor, D.int.injEq, D.bl.injEq, exists_and_left, true_and, if_false, Bool.false_eq_true, decide_false, Bool.not_false, he, h2]
  refine ok_nil ?_
  unfold irb_l_turn_by_5
  refine ok_cons (ok_ret ?_)
  simp only [wqE, flatD_n, true_and]
  exact hn
theorem stop3 {g : Nat} {Q : QK} {c : List Nat} {env : En} {L : List (Str × Spec2)} (he : env[5]? = some (some (.str c))) (h1 : (c = [119, 104, 111, 108, 101]) = False) (h2 : (c = [112, 97, 114, 116]) = False) (hn : Q .non g) :
    OkS (tab2 L) [] irb_l_turn_by_3 { nx := fun _ g' => Q .non g', rt := Q } env g := by
  unfold irb_l_turn_by_3
  refine ok_cons (ok_iff ?_)
  simp only [wqE, wqT, wqA, wqC, wqI, flatD_i, flatD_s, opV_Mod, cmpV_Eq, cmpV_NotEq, wqP_v, eqV_ss, ownB, Bool.not_false, Bool.or_self, Bool.or_true, Option.some.injEq, exists_eq_left', Bool.false_xor, D.bl.injEq, true_and, if_false, Bool.false_eq_true, decide_false, Bool.not_false, he, h1]
  exact ok_nil (stop4 he h2 hn)
theorem fm_ints {α : Type} {f : List α} (P : α → Prop) [DecidablePred P] (v : α → Int) : f.filterMap (fun i => if P i then none else some (D.int (v i))) = ((f.filter fun i => decide (¬ P i)).map v).map D.int := by
  induction f with
  | nil => rfl
  | cons i f ih =>
    by_cases h : P i
    · simp [h, ih]
    · simp [h, ih]
theorem okV_ints (xs : List Int) : okV (.rol (xs.map .int)) = true := by
  simp only [okV, Bool.and_eq_true]
  refine ⟨pures_of fun d hd => ?_, ints_ok 40 xs⟩
  obtain ⟨i, _, rfl⟩ := List.mem_map.mp hd
  simp [pureD]
theorem emp_ints {α : Type} {f : List α} (P : α → Prop) [DecidablePred P] (v : α → Int) : (((f.filter fun i => decide (¬ P i)).map v).map D.int).isEmpty = decide (∀ i ∈ f, P i) := by
  by_cases h : ∀ i ∈ f, P i
  · rw [decide_eq_true h, List.isEmpty_iff, List.map_eq_nil_iff, List.map_eq_nil_iff, List.filter_eq_nil_iff]
    intro i hi; simp [h i hi]
  · rw [decide_eq_false h]
    cases e : (((f.filter fun i => decide (¬ P i)).map v).map D.int).isEmpty with
    | false => rfl
    | true =>
      rw [List.isEmpty_iff, List.map_eq_nil_iff, List.map_eq_nil_iff, List.filter_eq_nil_iff] at e
      exact absurd (fun i hi => by have := e i hi; simpa using this) h
abbrev Ltb : List (Str × Spec2) := [("_law_put", sPut)]
theorem q_turn_by (N : List Str) (hN : N.length = 13) : ∀ ds g Q, sTurnBy ds g Q → OkS (tab2 Ltb) [] irb_l_turn_by { nx := fun _ g' => Q .non g', rt := Q } (startD N ds) g := by
  rintro ds g Q ⟨m, j, r, A0, B0, la, fb, w, f, mv, rfl, hmv, hd, ho, hm, hq⟩
  rw [start_eq hN, show ([encRw m r, mv.enc, .str w, .tup (f.map .int)].map some ++ List.replicate (13 - [encRw m r, mv.enc, D.str w, .tup (f.map .int)].length) none : En) = [some (encRw m r), some mv.enc, some (.str w), some (.tup (f.map .int)), none, none, none, none, none, none, none, none, none] from rfl]
  obtain ⟨ol, lla, lfb, zw, zla, zfb, zl, zf⟩ := ho.dec hd
  obtain ⟨t1, t2, t3⟩ := hd.at
  have lf : f.length = m + 1 := ol.len
  have m3 := ho.m3
  have hr : r = (A0 ++ lets la) ++ [.inr (w, f)] ++ (lets fb ++ B0) := by rw [hd.e]; simp
  rcases hmv with ⟨n, rfl⟩ | ⟨n, rfl⟩ | ⟨h, rfl⟩
  ·
    obtain ⟨n2, n8⟩ := hm
    unfold irb_l_turn_by
    refine ok_cons (ok_asg rfl ?_)
    simp only [Mv.enc, wqE, wqA, idxV_t, flatD_i, wqP_v, wqP_t, wqPs_n, wqPs_c, ownB, Bool.not_false, Bool.or_self, List.getElem?_cons_zero, List.getElem?_cons_succ, List.set_cons_zero, List.set_cons_succ, Option.some.injEq, exists_eq_left', atI_0, atI_1, atI_2, true_and, Bool.not_false]
    repeat (with_reducible refine And.intro (by first | omega | (simp; done) | (simp; omega)) ?_)
    unfold irb_l_turn_by_1
    refine ok_cons (ok_asg rfl ?_)
    simp only [encRw, encTx, wqE, wqA, addV_ii, idxV_t, flatD_i, opV_Add, wqP_v, wqP_t, wqPs_n, wqPs_c, ownB, Bool.not_false, Bool.or_self, List.getElem?_cons_zero, List.getElem?_cons_succ, List.set_cons_zero, List.set_cons_succ, Option.some.injEq, exists_eq_left', atI_1, true_and, Bool.not_false, t1, t2]
    repeat (with_reducible refine And.intro (by first | omega | (simp; done) | (simp; omega)) ?_)
    unfold irb_l_turn_by_2
    refine ok_cons (ok_iff ?_)
    simp only [wqE, wqT, wqA, wqO, mulV_si, fdivV_ii, ordV_ii, slV_s, biV_len_s, flatD_s, opV_Mult, opV_FloorDiv, cmpV_Eq, cmpV_GtE, eqV_ss, ownB, Bool.not_false, Bool.or_self, List.getElem?_cons_zero, List.getElem?_cons_succ, Option.some.injEq, exists_eq_left', Bool.false_xor, D.int.injEq, D.bl.injEq, true_and, decide_eq_true_eq, if_true, if_false, Bool.false_eq_true, decide_true, Bool.not_false]
    have hdiv : (w.length : Int) / (n : Int) = ((w.length / n : Nat) : Int) := by rw [Int.natCast_ediv]
    have hle : w.length / n * n ≤ w.length := Nat.div_mul_le_self _ _
    have hlen : (w.take (w.length / n)).length = w.length / n := by rw [List.length_take]; have := Nat.div_le_self w.length n; omega
    have n40 : (n : Int) < 2 ^ 8000 := Int.lt_of_le_of_lt (show (n : Int) ≤ 2 ^ 24 by omega) (by decide)
    have uni : can r (.root j n) → n ≤ w.length ∧ pw n (w.take (w.length / n)) = w := by
      rintro ⟨A, l, B, e, hn, h1, h2⟩
      obtain ⟨_, rfl, _⟩ := cut_uni (hd.e.symm.trans e) (by rw [lps_app, lps_lets, List.append_nil, hd.n, hn])
      exact ⟨h1, h2⟩
    refine ⟨by omega, ?_⟩
    by_cases c1 : n ≤ w.length
    · rw [if_pos (by omega)]
      simp only [hdiv, cut_h, Int.toNat_natCast]
      refine ⟨by omega, by omega, n40, by omega, by omega, by omega, by rw [hlen]; omega, ?_⟩
      by_cases c2 : pw n (w.take (w.length / n)) = w
      · rw [if_pos (show (List.replicate n (w.take (w.length / n))).flatten = w from c2)]
        unfold irb_l_turn_by_b1
        refine ok_cons (ok_asg rfl ?_)
        simp only [wqE, wqA, wqC, wqO, wqI, fdivV_ii, slV_s, biV_len_s, biV_tuple_r, itV_t, opV_Mult, opV_FloorDiv, wqP_v, ownB, Bool.not_false, Bool.or_self, List.getElem?_cons_zero, List.getElem?_cons_succ, List.set_cons_zero, List.set_cons_succ, Option.some.injEq, exists_eq_left', D.int.injEq, true_and, if_true, Bool.not_false, hdiv, cut_h]
        refine ⟨by omega, by omega, n40, by omega, ?_⟩
        refine lcV_map D.int (fun i => .int ((n : Int) * i)) _ (by omega) (fun i hi kk hk => ?_) ?_
        · simp only [wipeD, mulV_ii, List.getElem?_cons_zero, List.getElem?_cons_succ, List.set_cons_zero, List.set_cons_succ, Option.some.injEq, exists_eq_left']
          have := zf i hi
          rw [Int.mul_comm i]
          exact ⟨cmul_of (by omega) (by omega), hk⟩
        · repeat (with_reducible refine And.intro (by first | omega | (simp; done) | (simp; omega)) ?_)
          unfold irb_l_turn_by_b1_1
          refine ok_cons (ok_ret ?_)
          simp only [wqE, wqA, ownB, Bool.not_false, Bool.or_true, tab2_q, List.getElem?_cons_zero, List.getElem?_cons_succ, Option.some.injEq, exists_eq_left', Option.map_some, true_and, Bool.not_false]
          repeat (with_reducible refine And.intro (by first | omega | (simp; done) | (simp; omega)) ?_)
          refine ⟨m, j, r, A0, B0, la, fb, la, fb, (w, f), (w.take (w.length / n), f.map fun i => (n : Int) * i), [], ?_, hd, zl, by simp, ?_⟩
          · simp [encRw, encTx, encLp]
          · have ol' := ol
            rw [← c2] at ol' hr
            have := hq.md _ _ _ _ hr (.inl (mk_root ol' n2))
            simpa using this
      · rw [if_neg (show ¬ (List.replicate n (w.take (w.length / n))).flatten = w from c2)]
        exact ok_nil (stop3 rfl nm_root_whole nm_root_part (hq.no fun hc => c2 (uni hc).2))
    · rw [if_neg (by omega)]
      exact ok_nil (stop3 rfl nm_root_whole nm_root_part (hq.no fun hc => c1 (uni hc).1))
  ·
    obtain ⟨n2, n8⟩ := hm
    unfold irb_l_turn_by
    refine ok_cons (ok_asg rfl ?_)
    simp only [Mv.enc, wqE, wqA, idxV_t, flatD_i, wqP_v, wqP_t, wqPs_n, wqPs_c, ownB, Bool.not_false, Bool.or_self, List.getElem?_cons_zero, List.getElem?_cons_succ, List.set_cons_zero, List.set_cons_succ, Option.some.injEq, exists_eq_left', atI_0, atI_1, atI_2, true_and, Bool.not_false]
    repeat (with_reducible refine And.intro (by first | omega | (simp; done) | (simp; omega)) ?_)
    unfold irb_l_turn_by_1
    refine ok_cons (ok_asg rfl ?_)
    simp only [encRw, encTx, wqE, wqA, addV_ii, idxV_t, flatD_i, opV_Add, wqP_v, wqP_t, wqPs_n, wqPs_c, ownB, Bool.not_false, Bool.or_self, List.getElem?_cons_zero, List.getElem?_cons_succ, List.set_cons_zero, List.set_cons_succ, Option.some.injEq, exists_eq_left', atI_1, true_and, Bool.not_false, t1, t2]
    repeat (with_reducible refine And.intro (by first | omega | (simp; done) | (simp; omega)) ?_)
    unfold irb_l_turn_by_2
    refine ok_cons (ok_iff ?_)
    simp only [wqE, wqT, wqA, wqO, mulV_si, fdivV_ii, ordV_ii, slV_s, biV_len_s, flatD_s, opV_Mult, opV_FloorDiv, cmpV_Eq, cmpV_GtE, eqV_ss, ownB, Bool.not_false, Bool.or_self, List.getElem?_cons_zero, List.getElem?_cons_succ, Option.some.injEq, exists_eq_left', Bool.false_xor, D.int.injEq, D.bl.injEq, true_and, decide_eq_true_eq, if_false, Bool.false_eq_true, decide_false, Bool.not_false, nm_whole_root]
    refine ok_nil ?_
    unfold irb_l_turn_by_3
    refine ok_cons (ok_iff ?_)
    simp only [wqE, wqT, wqA, wqC, wqI, itV_t, flatD_i, flatD_s, opV_Mod, cmpV_Eq, cmpV_NotEq, wqP_v, eqV_ss, ownB, Bool.not_false, Bool.or_self, Bool.or_true, List.getElem?_cons_zero, List.getElem?_cons_succ, Option.some.injEq, exists_eq_left', Bool.false_xor, D.bl.injEq, true_and, if_true, if_false, Bool.false_eq_true, decide_true, Bool.not_false]
    refine lcV_fm D.int (fun i => if i % (n : Int) = 0 then none else some (.int i)) f [] g (by simp; omega) (fun i hi kk hk => ?_) ?_
    · simp only [wipeD, modV_ii, biV_int_i, eqV_ii, List.getElem?_cons_zero, List.getElem?_cons_succ, List.set_cons_zero, List.set_cons_succ, Option.some.injEq, exists_eq_left', Bool.true_xor, D.bl.injEq]
      refine ⟨by omega, ?_⟩
      by_cases hc : i % (n : Int) = 0
      · rw [if_pos hc] at hk
        simp only [Bool.not_true, if_false, Bool.false_eq_true, decide_true, Bool.not_true, hc]
        exact hk
      · rw [if_neg hc] at hk
        simp only [Bool.not_false, if_true, decide_false, Bool.not_false, hc]
        exact hk
    · rw [fm_ints (fun i => i % (n : Int) = 0) (fun i => i)]
      refine ⟨by simp, eqV_nil (okV_ints _) ?_⟩
      rw [List.nil_append, emp_ints (fun i => i % (n : Int) = 0) (fun i => i)]
      by_cases c1 : ∀ i ∈ f, i % (n : Int) = 0
      · simp only [decide_eq_true c1, exists_eq_left', Bool.false_xor, D.bl.injEq, if_true]
        unfold irb_l_turn_by_b2
        refine ok_cons (ok_ret ?_)
        simp only [wqE, wqA, wqC, wqI, mulV_si, biV_tuple_r, itV_t, opV_Mult, opV_FloorDiv, wqP_v, ownB, Bool.not_false, Bool.or_self, Bool.or_true, tab2_q, List.getElem?_cons_zero, List.getElem?_cons_succ, Option.some.injEq, exists_eq_left', Option.map_some, true_and, if_true, Bool.not_false]
        refine ⟨by omega, by omega, by rw [Int.toNat_natCast]; have : w.length * n ≤ 2000000 * 4 := Nat.mul_le_mul zw n8; omega, ?_⟩
        refine lcV_map D.int (fun i => .int (i / (n : Int))) _ (by omega) (fun i hi kk hk => ?_) ?_
        · simp only [wipeD, fdivV_ii, List.getElem?_cons_zero, List.getElem?_cons_succ, List.set_cons_zero, List.set_cons_succ, Option.some.injEq, exists_eq_left']
          exact ⟨by omega, Int.lt_of_le_of_lt (show (n : Int) ≤ 2 ^ 24 by omega) (by decide), hk⟩
        · repeat (with_reducible refine And.intro (by first | omega | (simp; done) | (simp; omega)) ?_)
          refine ⟨m, j, r, A0, B0, la, fb, la, fb, (w, f), (pw n w, f.map fun i => i / (n : Int)), [], ?_, hd, zl, by simp, ?_⟩
          · simp [encRw, encTx, encLp, pw]
          · have := hq.md _ _ _ _ hr (.inr ⟨rfl, mk_whole ol n2 c1⟩)
            simpa using this
      · simp only [decide_eq_false c1, exists_eq_left', Bool.false_xor, D.bl.injEq, if_false, Bool.false_eq_true]
        exact ok_nil (stop4 rfl nm_whole_part (hq.no fun hc => hc))
  ·
    obtain ⟨n2, n8⟩ := hm
    unfold irb_l_turn_by
    refine ok_cons (ok_asg rfl ?_)
    simp only [Mv.enc, wqE, wqA, idxV_t, flatD_i, wqP_v, wqP_t, wqPs_n, wqPs_c, ownB, Bool.not_false, Bool.or_self, List.getElem?_cons_zero, List.getElem?_cons_succ, List.set_cons_zero, List.set_cons_succ, Option.some.injEq, exists_eq_left', atI_0, atI_1, atI_2, true_and, Bool.not_false]
    repeat (with_reducible refine And.intro (by first | omega | (simp; done) | (simp; omega)) ?_)
    unfold irb_l_turn_by_1
    refine ok_cons (ok_asg rfl ?_)
    simp only [encRw, encTx, wqE, wqA, addV_ii, idxV_t, flatD_i, opV_Add, wqP_v, wqP_t, wqPs_n, wqPs_c, ownB, Bool.not_false, Bool.or_self, List.getElem?_cons_zero, List.getElem?_cons_succ, List.set_cons_zero, List.set_cons_succ, Option.some.injEq, exists_eq_left', atI_1, true_and, Bool.not_false, t1, t2]
    repeat (with_reducible refine And.intro (by first | omega | (simp; done) | (simp; omega)) ?_)
    unfold irb_l_turn_by_2
    refine ok_cons (ok_iff ?_)
    simp only [wqE, wqT, wqA, wqO, slV_s, biV_len_s, flatD_s, opV_Mult, opV_FloorDiv, cmpV_Eq, cmpV_GtE, eqV_ss, ownB, Bool.not_false, Bool.or_self, List.getElem?_cons_zero, List.getElem?_cons_succ, Option.some.injEq, exists_eq_left', Bool.false_xor, D.bl.injEq, true_and, if_false, Bool.false_eq_true, decide_false, Bool.not_false, nm_part_root]
    refine ok_nil ?_
    unfold irb_l_turn_by_3
    refine ok_cons (ok_iff ?_)
    simp only [wqE, wqT, wqA, wqC, wqI, itV_t, flatD_i, flatD_s, opV_Mod, cmpV_Eq, cmpV_NotEq, wqP_v, eqV_ss, ownB, Bool.not_false, Bool.or_self, Bool.or_true, List.getElem?_cons_zero, List.getElem?_cons_succ, Option.some.injEq, exists_eq_left', Bool.false_xor, D.bl.injEq, true_and, if_false, Bool.false_eq_true, decide_false, Bool.not_false, nm_part_whole]
    refine ok_nil ?_
    unfold irb_l_turn_by_4
    refine ok_cons (ok_iff ?_)
    simp only [wqE, wqT, wqA, wqC, wqO, wqI, ordV_ii, slV_t, biV_sum_t, itV_t, flatD_i, flatD_s, cmpV_Eq, cmpV_Gt, eqV_ss, ownB, Bool.not_false, Bool.or_self, List.getElem?_cons_zero, List.getElem?_cons_succ, Option.some.injEq, exists_eq_left', Bool.false_xor, D.int.injEq, D.bl.injEq, exists_and_left, true_and, decide_eq_true_eq, if_true, if_false, Bool.false_eq_true, decide_true, Bool.not_false]
    rw [cut_1, ← List.map_tail]
    refine ⟨_, intsF_map _, ?_⟩
    have fin : ∀ env, OkS (tab2 Ltb) [] irb_l_turn_by_5 { nx := fun _ g' => Q .non g', rt := Q } env g := fun env => by
      unfold irb_l_turn_by_5
      refine ok_cons (ok_ret ?_)
      simp only [wqE, flatD_n, true_and]
      exact hq.no fun hc => hc
    have so := sum_open n8
    by_cases c1 : isOpen h = true
    · rw [if_pos (of_decide_eq_true (so.trans c1)), zip_ii]
      refine lcV_fm encII (fun y => if y.2 ≤ y.1 then none else some (.int 1)) _ [] g (by simp [List.length_zip]; omega) (fun y hy kk hk => ?_) ?_
      · simp only [encII, wipeD, ordV_ii, wqP_v, wqP_t, wqPs_n, wqPs_c, List.getElem?_cons_zero, List.getElem?_cons_succ, List.set_cons_zero, List.set_cons_succ, Option.some.injEq, exists_eq_left', D.bl.injEq, decide_eq_true_eq]
        by_cases hc : y.2 ≤ y.1
        · rw [if_pos hc] at hk
          rw [if_neg (by omega)]
          exact hk
        · rw [if_neg hc] at hk
          rw [if_pos (by omega)]
          exact hk
      · rw [fm_ints (fun y : Int × Int => y.2 ≤ y.1) (fun _ => 1)]
        refine ⟨by simp, eqV_nil (okV_ints _) ?_⟩
        rw [List.nil_append, emp_ints (fun y : Int × Int => y.2 ≤ y.1) (fun _ => 1)]
        by_cases c2 : ∀ y ∈ f.zip h, y.2 ≤ y.1
        · simp only [decide_eq_true c2, exists_eq_left', Bool.false_xor, D.bl.injEq, if_true]
          unfold irb_l_turn_by_b3
          refine ok_cons (ok_asg rfl ?_)
          simp only [wqE, wqA, wqC, wqI, biV_tuple_r, itV_t, opV_Sub, wqP_v, ownB, Bool.not_false, Bool.or_self, List.getElem?_cons_zero, List.getElem?_cons_succ, List.set_cons_zero, List.set_cons_succ, Option.some.injEq, exists_eq_left', exists_and_left, true_and, if_true, Bool.not_false]
          rw [zip_ii]
          refine lcV_map encII (fun y => .int (y.1 - y.2)) _ (by rw [List.length_zip]; omega) (fun y hy kk hk => ?_) ?_
          · simp only [encII, wipeD, subV_ii, wqP_v, wqP_t, wqPs_n, wqPs_c, List.getElem?_cons_zero, List.getElem?_cons_succ, List.set_cons_zero, List.set_cons_succ, Option.some.injEq, exists_eq_left']
            exact hk
          · rw [show (fun y : Int × Int => D.int (y.1 - y.2)) = D.int ∘ (fun y => y.1 - y.2) from rfl, ← List.map_map]
            have nn2 : ∀ i ∈ (f.zip h).map (fun y => y.1 - y.2), 0 ≤ i := fun i hi => by
              simp only [List.mem_map] at hi
              obtain ⟨y, hy, rfl⟩ := hi
              have := c2 y hy
              omega
            have so2 := sum_open nn2
            unfold irb_l_turn_by_b3_1
            refine ok_cons (ok_iff ?_)
            simp only [wqE, wqT, wqA, wqO, ordV_ii, slV_t, biV_sum_t, flatD_i, cmpV_Gt, ownB, Bool.not_false, Bool.or_self, List.getElem?_cons_zero, List.getElem?_cons_succ, Option.some.injEq, exists_eq_left', D.int.injEq, D.bl.injEq, true_and, decide_eq_true_eq, Bool.not_false]
            rw [cut_1, ← List.map_tail]
            refine ⟨_, intsF_map _, ?_⟩
            by_cases c3 : isOpen ((f.zip h).map fun y => y.1 - y.2) = true
            · rw [if_pos (of_decide_eq_true (so2.trans c3))]
              unfold irb_l_turn_by_b4
              refine ok_cons (ok_ret ?_)
              simp only [wqE, wqA, ownB, Bool.not_false, Bool.or_true, tab2_q, List.getElem?_cons_zero, List.getElem?_cons_succ, Option.some.injEq, exists_eq_left', Option.map_some, true_and, Bool.not_false]
              repeat (with_reducible refine And.intro (by first | omega | (simp; done) | (simp; omega)) ?_)
              refine ⟨m, j, r, A0, B0, la, fb, la, fb, (w, f), (w, h), [(w, (f.zip h).map fun y => y.1 - y.2)], ?_, hd, zl, by simp, ?_⟩
              · simp [encRw, encTx, encLp]
              · have := hq.md _ _ _ _ hr (.inr ⟨rfl, mk_part ol n2 n8 c1 c2 c3⟩)
                simpa using this
            · rw [if_neg (fun hh => c3 (so2.symm.trans (decide_eq_true hh)))]
              exact ok_nil (ok_nil (fin _))
        · simp only [decide_eq_false c2, exists_eq_left', Bool.false_xor, D.bl.injEq, if_false, Bool.false_eq_true]
          exact ok_nil (fin _)
    · rw [if_neg (fun hh => c1 (so.symm.trans (decide_eq_true hh)))]
      exact ok_nil (fin _)
end G57
set_option Elab.async false
set_option linter.all false
set_option maxRecDepth 100000
set_option maxHeartbeats 1000000
namespace G57
open PySem L2
def Mv.num : Mv → Nat
  | .left j | .right j | .out j | .inn j | .join j | .root j _ | .whole j _ | .part j _ => j
theorem can_lt {r : List It} : ∀ {mv : Mv}, can r mv → mv.num < (lps r).length
  | .left j, ⟨A, l, B, c, e, n, _⟩ => by rw [e, lps_app]; simp only [Mv.num, lps, List.length_append, List.length_cons]; omega
  | .out j, ⟨A, l, B, e, n, _⟩ => by rw [e, lps_app]; simp only [Mv.num, lps, List.length_append, List.length_cons]; omega
  | .join j, ⟨A, l, g, B, e, n⟩ => by rw [e, lps_app]; simp only [Mv.num, lps, List.length_append, List.length_cons]; omega
  | .root j k, ⟨A, l, B, e, n, _⟩ => by rw [e, lps_app]; simp only [Mv.num, lps, List.length_append, List.length_cons]; omega
theorem enc_mv (mv : Mv) : ∃ c rest, mv.enc = .tup (.str c :: .int mv.num :: rest) := by
  cases mv <;> exact ⟨_, _, rfl⟩
def sTurn : Spec2 := fun ds g Q => ∃ (m : Nat) (r : List It) (mv : Mv), ds = [encRw m r, mv.enc] ∧ OkX m r ∧ okMv m mv ∧ TurnQ m r mv g Q
abbrev Ltn : List (Str × Spec2) := [("_law_put", sPut), ("_law_turn_by", sTurnBy)]
section
variable {g : Nat} {Q : QK} {c : List Nat} {env : En} (he : env[8]? = some (some (.str c)))
include he
theorem skip4 (h : (c = [108, 101, 102, 116]) = False) (k : OkS (tab2 Ltn) [] irb_l_turn_5 { nx := fun _ g' => Q .non g', rt := Q } env g) : OkS (tab2 Ltn) [] irb_l_turn_4 { nx := fun _ g' => Q .non g', rt := Q } env g := by
  unfold irb_l_turn_4
  refine ok_cons (ok_iff ?_)
  simp only [wqE, wqT, wqO, negV_i, flatD_i, flatD_s, cmpV_Eq, eqV_ss, ownB, Bool.not_false, Bool.or_self, Option.some.injEq, exists_eq_left', Bool.false_xor, D.int.injEq, D.bl.injEq, true_and, if_false, Bool.false_eq_true, decide_false, Bool.not_false, he, h]
  exact ok_nil k
theorem skip5 (h : (c = [114, 105, 103, 104, 116]) = False) (k : OkS (tab2 Ltn) [] irb_l_turn_6 { nx := fun _ g' => Q .non g', rt := Q } env g) : OkS (tab2 Ltn) [] irb_l_turn_5 { nx := fun _ g' => Q .non g', rt := Q } env g := by
  unfold irb_l_turn_5
  refine ok_cons (ok_iff ?_)
  simp only [wqE, wqT, wqO, flatD_i, flatD_s, cmpV_Eq, eqV_ss, ownB, Bool.not_false, Bool.or_self, Option.some.injEq, exists_eq_left', Bool.false_xor, D.int.injEq, D.bl.injEq, true_and, if_false, Bool.false_eq_true, decide_false, Bool.not_false, he, h]
  exact ok_nil k
theorem skip6 (h : (c = [111, 117, 116]) = False) (k : OkS (tab2 Ltn) [] irb_l_turn_7 { nx := fun _ g' => Q .non g', rt := Q } env g) : OkS (tab2 Ltn) [] irb_l_turn_6 { nx := fun _ g' => Q .non g', rt := Q } env g := by
  unfold irb_l_turn_6
  refine ok_cons (ok_iff ?_)
  simp only [wqE, wqT, flatD_i, flatD_s, cmpV_Eq, cmpV_Gt, eqV_ss, ownB, Bool.not_false, Bool.or_self, Option.some.injEq, exists_eq_left', Bool.false_xor, D.bl.injEq, true_and, if_false, Bool.false_eq_true, decide_false, Bool.not_false, he, h]
  exact ok_nil k
theorem skip7 (h : (c = [105, 110]) = False) (k : OkS (tab2 Ltn) [] irb_l_turn_8 { nx := fun _ g' => Q .non g', rt := Q } env g) : OkS (tab2 Ltn) [] irb_l_turn_7 { nx := fun _ g' => Q .non g', rt := Q } env g := by
  unfold irb_l_turn_7
  refine ok_cons (ok_iff ?_)
  simp only [wqE, wqT, wqA, wqO, flatD_s, cmpV_Eq, eqV_ss, ownB, Bool.not_false, Bool.or_self, Option.some.injEq, exists_eq_left', Bool.false_xor, D.bl.injEq, true_and, if_false, Bool.false_eq_true, decide_false, Bool.not_false, he, h]
  exact ok_nil k
theorem skip8 (h : (c = [106, 111, 105, 110]) = False) (k : OkS (tab2 Ltn) [] irb_l_turn_9 { nx := fun _ g' => Q .non g', rt := Q } env g) : OkS (tab2 Ltn) [] irb_l_turn_8 { nx := fun _ g' => Q .non g', rt := Q } env g := by
  unfold irb_l_turn_8
  refine ok_cons (ok_iff ?_)
  simp only [wqE, wqT, wqA, flatD_i, flatD_s, opV_Add, cmpV_Eq, cmpV_Lt, eqV_ss, ownB, Bool.not_false, Bool.or_self, Option.some.injEq, exists_eq_left', Bool.false_xor, D.bl.injEq, true_and, if_false, Bool.false_eq_true, decide_false, Bool.not_false, he, h]
  exact ok_nil k
end
theorem fin9 {g : Nat} {Q : QK} {env : En} {a b : D} (he : env[1]? = some (some (.tup [a, b]))) (hn : Q .non g) : OkS (tab2 Ltn) [] irb_l_turn_9 { nx := fun _ g' => Q .non g', rt := Q } env g := by
  unfold irb_l_turn_9
  refine ok_cons (ok_ret ?_)
  simp only [wqE, wqT, wqA, biV_len_t, flatD_n, flatD_i, cmpV_Eq, eqV_ii, ownB, Bool.not_false, Bool.or_self, Bool.or_true, tab2_q, List.getElem?_cons_zero, List.getElem?_cons_succ, Option.some.injEq, exists_eq_left', Option.map_some, Bool.false_xor, D.bl.injEq, true_and, decide_eq_true_eq, Bool.not_false, he, List.length_cons, List.length_nil, Nat.zero_add, Nat.reduceAdd]
  simp only [show (((2 : Nat) : Int) = 3) = False from eq_false (by decide), if_false]
  exact hn
theorem tk_1 {α : Type} (xs : List α) : cutD xs none (some 1) = xs.take 1 := cut_h xs 1
theorem q_turn (N : List Str) (hN : N.length = 14) : ∀ ds g Q, sTurn ds g Q → OkS (tab2 Ltn) [] irb_l_turn { nx := fun _ g' => Q .non g', rt := Q } (startD N ds) g := by
  rintro ds g Q ⟨m, r, mv, rfl, ho, hm, hq⟩
  rw [start_eq hN, show ([encRw m r, mv.enc].map some ++ List.replicate (14 - [encRw m r, mv.enc].length) none : En) = [some (encRw m r), some mv.enc, none, none, none, none, none, none, none, none, none, none, none, none] from rfl]
  obtain ⟨c, rest, he⟩ := enc_mv mv
  rw [he]
  unfold irb_l_turn
  refine ok_cons (ok_asg rfl ?_)
  simp only [encRw, wqE, wqP_v, wqP_t, wqPs_n, wqPs_c, ownB, Bool.not_false, Bool.or_true, List.getElem?_cons_zero, List.set_cons_zero, List.set_cons_succ, Option.some.injEq, exists_eq_left', true_and, Bool.not_false]
  unfold irb_l_turn_1
  refine ok_cons (ok_iff ?_)
  simp only [encLs, wqE, wqT, wqA, ordV_ii, idxV_t, biV_len_t, flatD_i, cmpV_GtE, ownB, Bool.not_false, Bool.or_self, List.getElem?_cons_zero, List.getElem?_cons_succ, Option.some.injEq, exists_eq_left', D.bl.injEq, atI_1, true_and, decide_eq_true_eq, Bool.not_false, List.length_map]
  by_cases hj : mv.num < (lps r).length
  · rw [if_neg (by omega)]
    refine ok_nil ?_
    obtain ⟨A0, la, l, fb, B0, hd⟩ := dec_of hj
    obtain ⟨w, f⟩ := l
    obtain ⟨ol, lla, lfb, zw, zla, zfb, zl, zf⟩ := ho.dec hd
    obtain ⟨t1, t2, t3⟩ := hd.at
    have lf : f.length = m + 1 := ol.len
    have m3 := ho.m3
    unfold irb_l_turn_2
    refine ok_cons (ok_asg rfl ?_)
    simp only [wqE, wqA, idxV_t, flatD_i, wqP_v, wqP_t, wqPs_n, wqPs_c, ownB, Bool.not_false, Bool.or_self, List.getElem?_cons_zero, List.getElem?_cons_succ, List.set_cons_zero, List.set_cons_succ, Option.some.injEq, exists_eq_left', atI_0, atI_1, true_and, Bool.not_false, t3, encLp]
    repeat (with_reducible refine And.intro (by first | omega | (simp; done) | (simp; omega)) ?_)
    unfold irb_l_turn_3
    refine ok_cons (ok_asg rfl ?_)
    simp only [encTx, wqE, wqA, addV_ii, idxV_t, flatD_i, opV_Add, wqP_v, wqP_t, wqPs_n, wqPs_c, ownB, Bool.not_false, Bool.or_self, List.getElem?_cons_zero, List.getElem?_cons_succ, List.set_cons_zero, List.set_cons_succ, Option.some.injEq, exists_eq_left', true_and, Bool.not_false, t1, t2]
    repeat (with_reducible refine And.intro (by first | omega | (simp; done) | (simp; omega)) ?_)
    have uni : ∀ {A : List It} {l : Lp} {B : List It}, r = A ++ .inr l :: B → (lps A).length = mv.num → A0 ++ lets la = A ∧ (w, f) = l ∧ lets fb ++ B0 = B := fun {A l B} e hn =>
      cut_uni (hd.e.symm.trans e) (by rw [lps_app, lps_lets, List.append_nil, hd.n, hn])
    cases mv with
    | left j =>
      simp only [Mv.enc, Mv.num, D.tup.injEq, List.cons.injEq, D.str.injEq, true_and] at he
      obtain ⟨rfl, rfl⟩ := he
      simp only [Mv.num] at *
      have stop : ∀ {env : En}, env[8]? = some (some (.str [108, 101, 102, 116])) → env[1]? = some (some (.tup [.str [108, 101, 102, 116], .int j])) → ¬ can r (.left j) → OkS (tab2 Ltn) [] irb_l_turn_5 { nx := fun _ g' => Q .non g', rt := Q } env g := fun e8 e1 hc =>
        skip5 e8 nm_left_right (skip6 e8 nm_left_out (skip7 e8 nm_left_inn (skip8 e8 nm_left_join (fin9 e1 (hq.no hc)))))
      obtain ⟨u, d, rfl⟩ : ∃ u d, w = u ++ [d] := ⟨w.dropLast, w.getLast ol.ne, (List.dropLast_concat_getLast ol.ne).symm⟩
      unfold irb_l_turn_4
      refine ok_cons (ok_iff ?_)
      simp only [wqE, wqT, wqO, negV_i, idxV_s, slV_s, flatD_i, flatD_s, cmpV_Eq, eqV_ss, ownB, Bool.not_false, Bool.or_self, List.getElem?_cons_zero, List.getElem?_cons_succ, Option.some.injEq, exists_eq_left', Bool.false_xor, D.int.injEq, D.bl.injEq, true_and, decide_eq_true_eq, if_true, if_false, Bool.false_eq_true, decide_true, Bool.not_false, cut_l, atI_m]
      refine ⟨by omega, by omega, ?_⟩
      have ld := last_dec hd.ea la
      rcases List.eq_nil_or_concat la with rfl | ⟨b, x, rfl⟩
      · simp only [List.drop_nil, if_false, show (([] : List Nat) = [d]) = False from by simp]
        refine ok_nil (stop rfl rfl ?_)
        rintro ⟨A, l, B, x, e, hn, h1, h2⟩
        obtain ⟨rfl, _, _⟩ := uni e hn
        rw [h1] at ld
        cases hh : (lps A0).getLast? <;> rw [hh] at ld <;> simp at ld
      · rw [List.concat_eq_append] at *
        simp only [List.length_append, List.length_singleton, Nat.add_sub_cancel, List.drop_left']
        by_cases hx : x = d
        · subst hx
          simp only [if_true]
          unfold irb_l_turn_b2
          refine ok_cons (ok_ret ?_)
          simp only [wqE, wqA, wqO, addV_ss, negV_i, idxV_s, slV_s, flatD_i, opV_Add, ownB, Bool.not_false, Bool.or_self, Bool.or_true, tab2_q, List.getElem?_cons_zero, List.getElem?_cons_succ, Option.some.injEq, exists_eq_left', Option.map_some, D.int.injEq, true_and, Bool.not_false, atI_m, cut_m, List.dropLast_concat]
          simp only [List.length_append, List.length_singleton] at zla zw
          repeat (with_reducible refine And.intro (by first | omega | (simp; done) | (simp; omega)) ?_)
          refine ⟨m, j, r, A0, B0, b ++ [x], fb, b, x :: fb, (u ++ [x], f), (x :: u, f), [], ?_, hd, zl, by simp, ?_⟩
          · simp [encRw, encTx, encLp, encLs]
          · have hr : r = (A0 ++ lets b) ++ [.inl x, .inr (u ++ [x], f)] ++ (lets fb ++ B0) := by rw [hd.e, lets_app]; simp [lets]
            have := hq.md _ _ _ _ hr (.inl (mk_left ol))
            simpa [lets] using this
        · simp only [if_false, show ([x] = [d]) = False from by simp [hx]]
          refine ok_nil (stop rfl rfl ?_)
          rintro ⟨A, l, B, y, e, hn, h1, h2⟩
          obtain ⟨rfl, rfl, _⟩ := uni e hn
          rw [h1] at ld
          simp at ld h2
          exact hx (by rw [← ld, h2])
    | right j =>
      simp only [Mv.enc, Mv.num, D.tup.injEq, List.cons.injEq, D.str.injEq, true_and] at he
      obtain ⟨rfl, rfl⟩ := he
      simp only [Mv.num] at *
      have stop : ∀ {env : En}, env[8]? = some (some (.str [114, 105, 103, 104, 116])) → env[1]? = some (some (.tup [.str [114, 105, 103, 104, 116], .int j])) → OkS (tab2 Ltn) [] irb_l_turn_6 { nx := fun _ g' => Q .non g', rt := Q } env g := fun e8 e1 =>
        skip6 e8 nm_right_out (skip7 e8 nm_right_inn (skip8 e8 nm_right_join (fin9 e1 (hq.no fun hc => hc))))
      obtain ⟨x, u, rfl⟩ : ∃ x u, w = x :: u := by cases w with
        | nil => exact absurd rfl ol.ne
        | cons x u => exact ⟨x, u, rfl⟩
      refine skip4 rfl nm_right_left ?_
      unfold irb_l_turn_5
      refine ok_cons (ok_iff ?_)
      simp only [wqE, wqT, wqO, idxV_s, slV_s, flatD_i, flatD_s, cmpV_Eq, eqV_ss, ownB, Bool.not_false, Bool.or_self, List.getElem?_cons_zero, List.getElem?_cons_succ, Option.some.injEq, exists_eq_left', Bool.false_xor, D.int.injEq, D.bl.injEq, atI_0, true_and, decide_eq_true_eq, if_true, if_false, Bool.false_eq_true, decide_true, Bool.not_false, tk_1]
      refine ⟨by omega, by omega, ?_⟩
      cases fb with
      | nil =>
        simp only [List.take_nil, if_false, show (([] : List Nat) = [x]) = False from by simp]
        exact ok_nil (stop rfl rfl)
      | cons y fb =>
        simp only [List.take_succ_cons, List.take_zero]
        by_cases hx : y = x
        · subst hx
          simp only [if_true]
          unfold irb_l_turn_b3
          refine ok_cons (ok_ret ?_)
          simp only [wqE, wqA, wqO, addV_ss, idxV_s, slV_s, flatD_i, opV_Add, ownB, Bool.not_false, Bool.or_self, Bool.or_true, tab2_q, List.getElem?_cons_zero, List.getElem?_cons_succ, Option.some.injEq, exists_eq_left', Option.map_some, D.int.injEq, atI_0, true_and, Bool.not_false, cut_1m]
          simp only [List.length_cons] at zfb zw
          repeat (with_reducible refine And.intro (by first | omega | (simp; done) | (simp; omega)) ?_)
          refine ⟨m, j, r, A0, B0, la, y :: fb, la ++ [y], fb, (y :: u, f), (u ++ [y], f), [], ?_, hd, zl, by simp, ?_⟩
          · simp [encRw, encTx, encLp, encLs]
          · have hr : r = (A0 ++ lets la) ++ [.inr (y :: u, f), .inl y] ++ (lets fb ++ B0) := by rw [hd.e]; simp [lets]
            have := hq.md _ _ _ _ hr (.inr ⟨rfl, mk_right ol⟩)
            simpa [lets] using this
        · simp only [if_false, show ([y] = [x]) = False from by simp [hx]]
          exact ok_nil (stop rfl rfl)
    | out j =>
      simp only [Mv.enc, Mv.num, D.tup.injEq, List.cons.injEq, D.str.injEq, true_and] at he
      obtain ⟨rfl, rfl⟩ := he
      simp only [Mv.num] at *
      have stop : ∀ {env : En}, env[8]? = some (some (.str [111, 117, 116])) → env[1]? = some (some (.tup [.str [111, 117, 116], .int j])) → ¬ can r (.out j) → OkS (tab2 Ltn) [] irb_l_turn_7 { nx := fun _ g' => Q .non g', rt := Q } env g := fun e8 e1 hc =>
        skip7 e8 nm_out_inn (skip8 e8 nm_out_join (fin9 e1 (hq.no hc)))
      obtain ⟨c, t, rfl⟩ : ∃ c t, f = c :: t := by cases f with
        | nil => simp at lf
        | cons c t => exact ⟨c, t, rfl⟩
      refine skip4 rfl nm_out_left (skip5 rfl nm_out_right ?_)
      unfold irb_l_turn_6
      refine ok_cons (ok_iff ?_)
      simp only [wqE, wqT, ordV_ii, idxV_t, flatD_i, flatD_s, cmpV_Eq, cmpV_Gt, eqV_ss, ownB, Bool.not_false, Bool.or_self, List.getElem?_cons_zero, List.getElem?_cons_succ, Option.some.injEq, exists_eq_left', Bool.false_xor, D.bl.injEq, atI_0, true_and, decide_eq_true_eq, if_true, if_false, Bool.false_eq_true, decide_true, Bool.not_false, List.map_cons]
      by_cases hc : 0 < c
      · rw [if_pos hc]
        unfold irb_l_turn_b4
        refine ok_cons (ok_ret ?_)
        simp only [wqE, wqA, wqO, addV_ss, addV_tt, subV_ii, idxV_t, slV_t, flatD_i, opV_Add, opV_Sub, ownB, Bool.not_false, Bool.or_self, Bool.or_true, tab2_q, List.getElem?_cons_zero, List.getElem?_cons_succ, Option.some.injEq, exists_eq_left', Option.map_some, D.int.injEq, atI_0, true_and, Bool.not_false, cut_1m]
        simp only [List.length_cons] at lf
        repeat (with_reducible refine And.intro (by first | omega | (simp; done) | (simp; omega)) ?_)
        refine ⟨m, j, r, A0, B0, la, fb, la, w ++ fb, (w, c :: t), (w, (c - 1) :: t), [], ?_, hd, zl, by simp, ?_⟩
        · simp [encRw, encTx, encLp, encLs]
        · have hr : r = (A0 ++ lets la) ++ [.inr (w, c :: t)] ++ (lets fb ++ B0) := by rw [hd.e]; simp
          have := hq.md _ _ _ _ hr (.inl (mk_out ol hc))
          simpa [lets_app] using this
      · rw [if_neg hc]
        refine ok_nil (stop rfl rfl ?_)
        rintro ⟨A, l, B, e, hn, h1⟩
        obtain ⟨rfl, rfl, _⟩ := uni e hn
        exact hc h1
    | inn j =>
      simp only [Mv.enc, Mv.num, D.tup.injEq, List.cons.injEq, D.str.injEq, true_and] at he
      obtain ⟨rfl, rfl⟩ := he
      simp only [Mv.num] at *
      have stop : ∀ {env : En}, env[8]? = some (some (.str [105, 110])) → env[1]? = some (some (.tup [.str [105, 110], .int j])) → OkS (tab2 Ltn) [] irb_l_turn_8 { nx := fun _ g' => Q .non g', rt := Q } env g := fun e8 e1 =>
        skip8 e8 nm_inn_join (fin9 e1 (hq.no fun hc => hc))
      obtain ⟨c, t, rfl⟩ : ∃ c t, f = c :: t := by cases f with
        | nil => simp at lf
        | cons c t => exact ⟨c, t, rfl⟩
      refine skip4 rfl nm_inn_left (skip5 rfl nm_inn_right (skip6 rfl nm_inn_out ?_))
      unfold irb_l_turn_7
      refine ok_cons (ok_iff ?_)
      simp only [wqE, wqT, wqA, wqO, slV_s, biV_len_s, flatD_s, cmpV_Eq, eqV_ss, ownB, Bool.not_false, Bool.or_self, List.getElem?_cons_zero, List.getElem?_cons_succ, Option.some.injEq, exists_eq_left', Bool.false_xor, D.int.injEq, D.bl.injEq, true_and, decide_eq_true_eq, if_true, if_false, Bool.false_eq_true, decide_true, Bool.not_false, cut_h]
      refine ⟨by omega, by omega, ?_⟩
      by_cases hc : fb.take w.length = w
      · rw [if_pos hc]
        have hfb : fb = w ++ fb.drop w.length := by
          conv => lhs; rw [← List.take_append_drop w.length fb]
          rw [hc]
        unfold irb_l_turn_b5
        refine ok_cons (ok_ret ?_)
        simp only [wqE, wqA, wqO, addV_ii, addV_tt, idxV_t, slV_t, slV_s, biV_len_s, flatD_i, opV_Add, ownB, Bool.not_false, Bool.or_self, Bool.or_true, tab2_q, List.getElem?_cons_zero, List.getElem?_cons_succ, Option.some.injEq, exists_eq_left', Option.map_some, D.int.injEq, atI_0, true_and, Bool.not_false, cut_1m, cut_d, List.map_cons]
        simp only [List.length_cons] at lf
        repeat (with_reducible refine And.intro (by first | omega | (simp; done) | (simp; omega)) ?_)
        refine ⟨m, j, r, A0, B0, la, fb, la, fb.drop w.length, (w, c :: t), (w, (c + 1) :: t), [], ?_, hd, zl, by simp, ?_⟩
        · simp [encRw, encTx, encLp, encLs]
        · have hr : r = (A0 ++ lets la) ++ (.inr (w, c :: t) :: lets w) ++ (lets (fb.drop w.length) ++ B0) := by
            rw [hd.e]
            conv => lhs; rw [hfb, lets_app]
            simp
          have := hq.md _ _ _ _ hr (.inr ⟨rfl, mk_in ol⟩)
          simpa using this
      · rw [if_neg hc]
        exact ok_nil (stop rfl rfl)
    | join j =>
      simp only [Mv.enc, Mv.num, D.tup.injEq, List.cons.injEq, D.str.injEq, true_and] at he
      obtain ⟨rfl, rfl⟩ := he
      simp only [Mv.num] at *
      refine skip4 rfl nm_join_left (skip5 rfl nm_join_right (skip6 rfl nm_join_out (skip7 rfl nm_join_inn ?_)))
      unfold irb_l_turn_8
      refine ok_cons (ok_iff ?_)
      simp only [wqE, wqT, wqA, addV_ii, ordV_ii, idxV_t, biV_len_t, flatD_i, flatD_s, opV_Add, cmpV_Eq, cmpV_Lt, eqV_ss, ownB, Bool.not_false, Bool.or_self, List.getElem?_cons_zero, List.getElem?_cons_succ, Option.some.injEq, exists_eq_left', Bool.false_xor, D.bl.injEq, true_and, decide_eq_true_eq, if_true, if_false, Bool.false_eq_true, decide_true, Bool.not_false]
      have noc : (fb ≠ [] ∨ ∀ h B1, B0 ≠ .inr (w, h) :: B1) → ¬ can r (.join j) := by
        rintro h ⟨A, l, h', B, e, hn⟩
        obtain ⟨_, rfl, e3⟩ := uni e hn
        cases fb with
        | nil => exact h.elim (fun h => h rfl) (fun h => h h' B e3)
        | cons c fb => simp [lets] at e3
      obtain ⟨x1, x2, x3⟩ := hd.tx
      by_cases h0 : fb = []
      · subst h0
        rw [if_pos rfl]
        rcases hd.eb with rfl | ⟨k, B1, rfl⟩
        · have hlen : (lps r).length = j + 1 := by rw [x2]; simp [lps, hd.n]
          rw [if_neg (by rw [List.length_map]; omega)]
          exact ok_nil (fin9 rfl (hq.no (noc (.inr fun h B1 h => by simp at h))))
        · obtain ⟨v, h⟩ := k
          have hlen : (lps r).length = j + 2 + (lps B1).length := by rw [x2]; simp [lps, hd.n]; omega
          have nx : atI ((lps r).map encLp) ((j : Int) + 1) = some (encLp (v, h)) := by
            rw [x2]
            simp only [lps, List.map_append, List.map_cons]
            exact at_ini1 (by simp [hd.n])
          have oh : okL m (v, h) := okA_lp ho.ok _ (by rw [x2]; simp [lps])
          rw [if_pos (by rw [List.length_map]; omega)]
          refine ⟨_, nx, ?_⟩
          simp only [encLp, idxV_t, eqV_ss, Option.some.injEq, exists_eq_left', Bool.false_xor, D.bl.injEq, atI_0, decide_eq_true_eq]
          by_cases hv : v = w
          · subst hv
            simp only [if_true]
            unfold irb_l_turn_b6
            refine ok_cons (ok_asg rfl ?_)
            simp only [wqE, wqA, wqC, wqI, addV_ii, idxV_t, biV_tuple_r, itV_t, flatD_i, opV_Add, wqP_v, ownB, Bool.not_false, Bool.or_self, List.getElem?_cons_zero, List.getElem?_cons_succ, List.set_cons_zero, List.set_cons_succ, Option.some.injEq, exists_eq_left', atI_1, exists_and_left, true_and, if_true, Bool.not_false, nx, encLp, zip_ii]
            refine lcV_map encII (fun y => .int (y.1 + y.2)) _ (by rw [List.length_zip]; omega) (fun y hy kk hk => ?_) ?_
            · simp only [encII, wipeD, addV_ii, wqP_v, wqP_t, wqPs_n, wqPs_c, List.getElem?_cons_zero, List.getElem?_cons_succ, List.set_cons_zero, List.set_cons_succ, Option.some.injEq, exists_eq_left']
              exact hk
            · rw [show (fun y : Int × Int => D.int (y.1 + y.2)) = D.int ∘ (fun y => y.1 + y.2) from rfl, ← List.map_map]
              unfold irb_l_turn_b6_1
              refine ok_cons (ok_ret ?_)
              simp only [wqE, wqA, wqO, addV_ii, addV_tt, slV_t, flatD_i, opV_Add, ownB, Bool.not_false, Bool.or_self, Bool.or_true, List.getElem?_cons_zero, List.getElem?_cons_succ, Option.some.injEq, exists_eq_left', D.int.injEq, true_and, Bool.not_false]
              rw [show (j : Int) + 1 = ((j + 1 : Nat) : Int) by omega, show (j : Int) + 2 = ((j + 2 : Nat) : Int) by omega, cut_h, cut_h, cut_d, cut_d]
              have lt := txl_len r
              have hr : r = (A0 ++ lets la) ++ [.inr (v, f), .inr (v, h)] ++ B1 := by rw [hd.e]; simp [lets]
              have fin := hq.md _ _ _ _ hr (.inl (mk_join ol oh))
              have p1 : txl (A0 ++ lets la ++ [.inr (v, addF f h)] ++ B1) = ini A0 ++ la :: txl B1 := by
                rw [List.append_assoc, List.append_assoc, txl_ea hd.ea, List.singleton_append, txl_xl]
              have p2 : lps (A0 ++ lets la ++ [.inr (v, addF f h)] ++ B1) = lps A0 ++ (v, addF f h) :: lps B1 := by
                simp only [lps_app, lps_lets, List.append_assoc]; rfl
              have c1 : (txl r).take (j + 1) = ini A0 ++ [la] := by
                rw [x1, show ini A0 ++ la :: [] :: (txs (.inr (v, h) :: B1)).2 = (ini A0 ++ [la]) ++ [] :: (txs (.inr (v, h) :: B1)).2 by simp]
                exact take_ini (by simp [x3])
              have c2 : (txl r).drop (j + 2) = txl B1 := by
                rw [x1, drop_ini x3]; rfl
              have c3 : (lps r).take j = lps A0 := by rw [x2]; exact take_ini hd.n
              have c4 : (lps r).drop (j + 2) = lps B1 := by rw [x2, drop_ini hd.n]; rfl
              simp only [← List.map_take, ← List.map_drop, c1, c2, c3, c4, List.length_map, List.length_append, List.length_cons, List.length_nil]
              have e1 := txl_len B1
              have e2 := hd.n
              repeat (with_reducible refine And.intro (by first | omega | (simp; done) | (simp; omega)) ?_)
              unfold encRw encTx encLs at fin
              rw [p1, p2] at fin
              simpa [encLp, addF] using fin
          · simp only [hv, if_false]
            exact ok_nil (fin9 rfl (hq.no (noc (.inr fun h B1 e => by simp at e; exact hv e.1.1))))
      · rw [if_neg h0]
        exact ok_nil (fin9 rfl (hq.no (noc (.inl h0))))
    | root j n =>
      simp only [Mv.enc, Mv.num, D.tup.injEq, List.cons.injEq, D.str.injEq, true_and] at he
      obtain ⟨rfl, rfl⟩ := he
      simp only [Mv.num] at *
      refine skip4 rfl nm_root_left (skip5 rfl nm_root_right (skip6 rfl nm_root_out (skip7 rfl nm_root_inn (skip8 rfl nm_root_join ?_))))
      unfold irb_l_turn_9
      refine ok_cons (ok_ret ?_)
      simp only [wqE, wqT, wqA, biV_len_t, flatD_n, flatD_i, cmpV_Eq, eqV_ii, ownB, Bool.not_false, Bool.or_self, Bool.or_true, tab2_q, List.getElem?_cons_zero, List.getElem?_cons_succ, Option.some.injEq, exists_eq_left', Option.map_some, Bool.false_xor, D.bl.injEq, true_and, decide_eq_true_eq, Bool.not_false, List.length_cons, List.length_nil, Nat.zero_add, Nat.reduceAdd]
      simp only [show (((3 : Nat) : Int) = 3) = True from eq_true rfl, if_true]
      exact ⟨m, j, r, A0, B0, la, fb, w, f, .root j n, rfl, .inl ⟨n, rfl⟩, hd, ho, hm, hq⟩
    | whole j n =>
      simp only [Mv.enc, Mv.num, D.tup.injEq, List.cons.injEq, D.str.injEq, true_and] at he
      obtain ⟨rfl, rfl⟩ := he
      simp only [Mv.num] at *
      refine skip4 rfl nm_whole_left (skip5 rfl nm_whole_right (skip6 rfl nm_whole_out (skip7 rfl nm_whole_inn (skip8 rfl nm_whole_join ?_))))
      unfold irb_l_turn_9
      refine ok_cons (ok_ret ?_)
      simp only [wqE, wqT, wqA, biV_len_t, flatD_n, flatD_i, cmpV_Eq, eqV_ii, ownB, Bool.not_false, Bool.or_self, Bool.or_true, tab2_q, List.getElem?_cons_zero, List.getElem?_cons_succ, Option.some.injEq, exists_eq_left', Option.map_some, Bool.false_xor, D.bl.injEq, true_and, decide_eq_true_eq, Bool.not_false, List.length_cons, List.length_nil, Nat.zero_add, Nat.reduceAdd]
      simp only [show (((3 : Nat) : Int) = 3) = True from eq_true rfl, if_true]
      exact ⟨m, j, r, A0, B0, la, fb, w, f, .whole j n, rfl, .inr (.inl ⟨n, rfl⟩), hd, ho, hm, hq⟩
    | part j h =>
      simp only [Mv.enc, Mv.num, D.tup.injEq, List.cons.injEq, D.str.injEq, true_and] at he
      obtain ⟨rfl, rfl⟩ := he
      simp only [Mv.num] at *
      refine skip4 rfl nm_part_left (skip5 rfl nm_part_right (skip6 rfl nm_part_out (skip7 rfl nm_part_inn (skip8 rfl nm_part_join ?_))))
      unfold irb_l_turn_9
      refine ok_cons (ok_ret ?_)
      simp only [wqE, wqT, wqA, biV_len_t, flatD_n, flatD_i, cmpV_Eq, eqV_ii, ownB, Bool.not_false, Bool.or_self, Bool.or_true, tab2_q, List.getElem?_cons_zero, List.getElem?_cons_succ, Option.some.injEq, exists_eq_left', Option.map_some, Bool.false_xor, D.bl.injEq, true_and, decide_eq_true_eq, Bool.not_false, List.length_cons, List.length_nil, Nat.zero_add, Nat.reduceAdd]
      simp only [show (((3 : Nat) : Int) = 3) = True from eq_true rfl, if_true]
      exact ⟨m, j, r, A0, B0, la, fb, w, f, .part j h, rfl, .inr (.inr ⟨h, rfl⟩), hd, ho, hm, hq⟩
  · rw [if_pos (by omega)]
    unfold irb_l_turn_b1
    refine ok_cons (ok_ret ?_)
    simp only [wqE, flatD_n, true_and]
    exact hq.no fun hc => hj (can_lt hc)
end G57
set_option Elab.async false
set_option linter.all false
set_option maxRecDepth 100000
set_option maxHeartbeats 1000000
namespace G57
open PySem L2
theorem OkX.cmp {m : Nat} {r : List It} (h : OkX m r) : CmpN 4 (encLs r) := by
  refine CmpN.le (n := 3) (CmpN.tup fun d hd => ?_) (by omega)
  obtain ⟨l, hl, rfl⟩ := List.mem_map.mp hd
  have ol := okA_lp h.ok l hl
  refine CmpN.tup fun e he => ?_
  simp only [List.mem_cons, List.not_mem_nil, or_false] at he
  rcases he with rfl | rfl
  · exact .str fun c hc => by have := ol.low c hc; omega
  · refine CmpN.tup fun e he => ?_
    obtain ⟨i, _, rfl⟩ := List.mem_map.mp he
    exact .int
end G57
set_option Elab.async false
set_option linter.all false
set_option maxRecDepth 100000
set_option maxHeartbeats 1000000
namespace G57
open PySem L2
structure Alk (m : Nat) (r r' : List It) : Prop where
  ok : OkX m r'
  pl : plainI r' = plainI r
  tx : ∀ ns : List Int, (∀ n ∈ ns, 0 ≤ n) → rowT ns r' = rowT ns r
theorem Alk.refl {m : Nat} {r : List It} (h : OkX m r) : Alk m r r := ⟨h, rfl, fun _ _ => rfl⟩
theorem Alk.sz {m : Nat} {r r' : List It} (h : Alk m r r') : tsz m r' = tsz m r := by unfold tsz; rw [h.tx _ (ones_nn m)]
theorem red_both {m : Nat} {a x y b : List It} (h : Red m x y ∨ Red m y x) : (okA m (a ++ x ++ b) → okA m (a ++ y ++ b)) ∧ plainI (a ++ y ++ b) = plainI (a ++ x ++ b) ∧ ∀ ns : List Int, (∀ n ∈ ns, 0 ≤ n) → rowT ns (a ++ y ++ b) = rowT ns (a ++ x ++ b) := by
  refine ⟨fun ok => ?_, ?_, fun ns hn => ?_⟩
  · obtain ⟨h1, h2⟩ := okA_app.mp ok
    obtain ⟨h3, h4⟩ := okA_app.mp h1
    exact okA_app.mpr ⟨okA_app.mpr ⟨h3, h.elim (fun h => h.b) (fun h => h.a)⟩, h2⟩
  · exact h.elim (fun h => h.plainI.symm) (fun h => h.plainI)
  · rw [rowT_app, rowT_app, rowT_app, rowT_app]
    rw [h.elim (fun h => (h.text hn).symm) (fun h => h.text hn)]
theorem Alk.step {m : Nat} {r a x y b : List It} (k : Alk m r (a ++ x ++ b)) (h : Red m x y ∨ Red m y x) : Alk m r (a ++ y ++ b) := by
  obtain ⟨h1, h2, h3⟩ := red_both (a := a) (b := b) h
  refine ⟨⟨h1 k.ok.ok, ?_, k.ok.m3⟩, h2.trans k.pl, fun ns hn => (h3 ns hn).trans (k.tx ns hn)⟩
  have : tsz m (a ++ y ++ b) = tsz m (a ++ x ++ b) := by unfold tsz; rw [h3 _ (ones_nn m)]
  rw [this]
  exact k.ok.sz
theorem OkX.size {m : Nat} {r : List It} (h : OkX m r) : (txl r).length ≤ 16777216 ∧ (lps r).length ≤ 16777216 ∧ (∀ t ∈ txl r, t.length ≤ 16777216) ∧ (∀ l ∈ lps r, l.1.length ≤ 16777216 ∧ l.2 ≠ [] ∧ (l.2.headD 0).natAbs ≤ 16000000) := by
  obtain ⟨t1, t2, t3, t4⟩ := tsz_lps h.ok
  have sz := h.sz
  have tl := txl_le r
  have lr := len_rsize r
  refine ⟨by omega, by omega, fun t ht => by have := tl.2 t ht; omega, fun l hl => ?_⟩
  obtain ⟨a, b⟩ := t4 l hl
  have ol := okA_lp h.ok l hl
  have o2 := okL.hd (w := l.1) (f := l.2) ol
  refine ⟨by omega, o2.1, ?_⟩
  have : l.2.headD 0 ≤ tsz m r := by
    cases e : l.2 with
    | nil => exact absurd e o2.1
    | cons c t => rw [List.headD_cons]; exact b c (by rw [e]; simp)
  omega
end G57
set_option Elab.async false
set_option linter.all false
set_option maxRecDepth 100000
set_option maxHeartbeats 1000000
namespace G57
open PySem L2
theorem not_plain {m : Nat} {r : List It} (ok : okA m r) (h : ¬ plainB none r) : ∃ a x y b, r = a ++ x ++ b ∧ Red m x y := by
  have h1 : ¬ ∀ A l B, r = A ++ .inr l :: B → good A.getLast? l := fun g => h (plainB_of g)
  simp only [Classical.not_forall] at h1
  obtain ⟨A, ⟨w, f⟩, B, e, hg⟩ := h1
  have ok' := ok
  rw [e] at ok'
  have ol : okL m (w, f) := (okA_cons.mp (okA_app.mp ok').2).1
  have lf : f.length = m + 1 := ol.len
  by_cases c1 : (root w).2 = 1
  · by_cases c2 : f.headD 0 = 0
    · by_cases c3 : ∃ c, A.getLast? = some (.inl c) ∧ w.getLast? = some c
      · obtain ⟨c, h2, h3⟩ := c3
        obtain ⟨A', rfl⟩ := List.getLast?_eq_some_iff.mp h2
        obtain ⟨u, rfl⟩ := List.getLast?_eq_some_iff.mp h3
        exact ⟨A', _, _, B, by rw [e]; simp, mk_left ol⟩
      · by_cases c4 : ∃ g, A.getLast? = some (.inr (w, g))
        · obtain ⟨g, h2⟩ := c4
          obtain ⟨A', rfl⟩ := List.getLast?_eq_some_iff.mp h2
          have og : okL m (w, g) := (okA_cons.mp (okA_app.mp (okA_app.mp ok').1).2).1
          exact ⟨A', _, _, B, by rw [e]; simp, mk_join og ol⟩
        · exact absurd ⟨ol.ne, c1, ol.hd.1, c2, fun c h2 h3 => c3 ⟨c, h2, h3⟩, fun g h2 => c4 ⟨g, h2⟩⟩ hg
    · cases f with
      | nil => simp at lf
      | cons c t =>
        have h0 : 0 ≤ c := ol.nn c (by simp)
        rw [List.headD_cons] at c2
        exact ⟨A, _, _, B, by rw [e]; simp, mk_out ol (by omega)⟩
  · obtain ⟨r1, r2⟩ := root_ne ol.ne
    simp only at r1 r2
    have rp := root_pw ol.ne
    simp only at rp
    have ol' := ol
    rw [rp] at ol'
    exact ⟨A, [.inr (w, f)], _, B, by rw [e]; simp, by
      have := mk_root ol' (by omega)
      rwa [← rp] at this⟩
structure PlS (m : Nat) (r : List It) : Prop where
  pb : plainB none (plainI r)
  nl : (lps (plainI r)).length ≤ (lps r).length
  ak : okA m (plainI r)
  tx : ∀ ns : List Int, (∀ n ∈ ns, 0 ≤ n) → rowT ns (plainI r) = rowT ns r
theorem plain_spec {m L : Nat} : ∀ (n : Nat) (r : List It), okA m r → mzr L 0 r ≤ n → (lps r).length ≤ L → PlS m r := by
  intro n
  induction n with
  | zero =>
    intro r ok hz hl
    by_cases h : plainB none r
    · have e := plainI_fix h
      exact ⟨by rw [e]; exact h, by rw [e]; omega, by rw [e]; exact ok, fun ns hn => by rw [e]⟩
    · obtain ⟨a, x, y, b, rfl, hr⟩ := not_plain ok h
      exfalso
      have lb : (lps b).length ≤ L := by rw [lps_app, lps_app] at hl; simp at hl; omega
      have := hr.mz lb (0 + nl a)
      rw [List.append_assoc, mzr_app] at hz
      omega
  | succ n ih =>
    intro r ok hz hl
    by_cases h : plainB none r
    · have e := plainI_fix h
      exact ⟨by rw [e]; exact h, by rw [e]; omega, by rw [e]; exact ok, fun ns hn => by rw [e]⟩
    · obtain ⟨a, x, y, b, rfl, hr⟩ := not_plain ok h
      have hl' := hl
      rw [lps_app, lps_app] at hl'
      simp only [List.length_append] at hl'
      have lb : (lps b).length ≤ L := by omega
      have m1 := hr.mz lb (0 + nl a)
      rw [List.append_assoc, mzr_app] at hz
      obtain ⟨h1, h2, h3⟩ := red_both (a := a) (b := b) (.inl hr)
      have hn := hr.nlp
      have hlen : (lps (a ++ y ++ b)).length ≤ (lps (a ++ x ++ b)).length := by
        simp only [lps_app, List.length_append]; omega
      have := ih (a ++ y ++ b) (h1 ok) (by rw [List.append_assoc, mzr_app]; omega) (by omega)
      obtain ⟨p1, p2, p3, p4⟩ := this
      rw [h2] at p1 p2 p3 p4
      exact ⟨p1, by omega, p3, fun ns hn => (p4 ns hn).trans (h3 ns hn)⟩
theorem okA.pl {m : Nat} {r : List It} (ok : okA m r) : PlS m r := plain_spec (L := (lps r).length) _ r ok (Nat.le_refl _) (Nat.le_refl _)
theorem OkX.pl {m : Nat} {r : List It} (ho : OkX m r) : Alk m r (plainI r) := by
  have p := okA.pl ho.ok
  have e := plainI_fix p.pb
  refine ⟨⟨p.ak, ?_, ho.m3⟩, e, p.tx⟩
  unfold tsz
  rw [p.tx _ (ones_nn m)]
  exact ho.sz
theorem plain_iff {m : Nat} {r : List It} (ok : okA m r) : plainB none r ↔ plainI r = r := ⟨plainI_fix, fun e => by have := (okA.pl ok).pb; rwa [e] at this⟩
def goodAt (r : List It) (j : Nat) : Prop := ∀ A l B, r = A ++ .inr l :: B → (lps A).length = j → good A.getLast? l
theorem Dec.good {r : List It} {j : Nat} {A0 B0 : List It} {la fb : Wd} {l : Lp} (h : Dec r j A0 la l fb B0) : goodAt r j ↔ good (A0 ++ lets la).getLast? l := by
  constructor
  · intro g
    exact g _ _ _ h.e (by rw [lps_app, lps_lets, List.append_nil, h.n])
  · intro g A l' B e n
    obtain ⟨rfl, rfl, _⟩ := cut_uni (h.e.symm.trans e) (by rw [lps_app, lps_lets, List.append_nil, h.n, n])
    exact g
theorem enum_step {r : List It} {j : Nat} {x : D} {xs : List D} (h : x :: xs = enumD j (((lps r).drop j).map encLp)) : ∃ A0 la l fb B0, Dec r j A0 la l fb B0 ∧ x = .tup [.int j, encLp l] ∧ xs = enumD (j + 1) (((lps r).drop (j + 1)).map encLp) ∧ j < (lps r).length := by
  have hj : j < (lps r).length := by
    rcases Nat.lt_or_ge j (lps r).length with h1 | h1
    · exact h1
    · rw [List.drop_of_length_le h1] at h; simp [enumD] at h
  obtain ⟨A0, la, l, fb, B0, hd⟩ := dec_of hj
  have e : (lps r).drop j = l :: lps B0 := by
    rw [hd.tx.2.1]
    have := drop_ini (k := 0) (b := l :: lps B0) hd.n
    simpa using this
  have e2 : (lps r).drop (j + 1) = lps B0 := by rw [hd.tx.2.1, drop_ini hd.n]; rfl
  rw [e, List.map_cons, enumD] at h
  simp only [List.cons.injEq] at h
  exact ⟨A0, la, l, fb, B0, hd, h.1, by rw [h.2, e2], hj⟩
end G57
set_option Elab.async false
set_option linter.all false
set_option maxRecDepth 100000
set_option maxHeartbeats 1000000
namespace G57
open PySem L2
def irb_l_cuts_b3 : Sx := .cons (.ex (.mt .append (.var 1) (.cons (.tup (.cons (.con (.str [114, 111, 111, 116])) (.cons (.var 2) (.cons (.var 5) (.nil))))) (.nil)))) .nil
def irb_l_cuts_b2 : Sx := .cons (.iff (.cmp .Eq (.bin .Mult (.sl (.var 3) (.nil) (.cons (.bin .FloorDiv (.bi .len (.cons (.var 3) (.nil))) (.var 5)) .nil)) (.var 5)) (.var 3)) (irb_l_cuts_b3) (.nil)) .nil
def irb_l_cuts_b4 : Sx := .cons (.ex (.mt .append (.var 1) (.cons (.tup (.cons (.con (.str [111, 117, 116])) (.cons (.var 2) (.nil)))) (.nil)))) .nil
def irb_l_cuts_b5 : Sx := .cons (.ex (.mt .append (.var 1) (.cons (.tup (.cons (.con (.str [108, 101, 102, 116])) (.cons (.var 2) (.nil)))) (.nil)))) .nil
def irb_l_cuts_b6 : Sx := .cons (.ex (.mt .append (.var 1) (.cons (.tup (.cons (.con (.str [106, 111, 105, 110])) (.cons (.var 2) (.nil)))) (.nil)))) .nil
def irb_l_cuts_b1_3 : Sx := .cons (.iff (.and (.cmp .Lt (.bin .Add (.var 2) (.con (.int 1))) (.bi .len (.cons (.idx (.var 0) (.con (.int 2))) (.nil)))) (.and (.cmp .Eq (.idx (.idx (.var 0) (.con (.int 1))) (.bin .Add (.var 2) (.con (.int 1)))) (.con (.str []))) (.cmp .Eq (.idx (.idx (.idx (.var 0) (.con (.int 2))) (.bin .Add (.var 2) (.con (.int 1)))) (.con (.int 0))) (.var 3)))) (irb_l_cuts_b6) (.nil)) .nil
def irb_l_cuts_b1_2 : Sx := .cons (.iff (.cmp .Eq (.sl (.idx (.idx (.var 0) (.con (.int 1))) (.var 2)) (.cons (.neg (.con (.int 1))) .nil) (.nil)) (.idx (.var 3) (.neg (.con (.int 1))))) (irb_l_cuts_b5) (.nil)) irb_l_cuts_b1_3
def irb_l_cuts_b1_1 : Sx := .cons (.iff (.cmp .Gt (.idx (.var 4) (.con (.int 0))) (.con (.int 0))) (irb_l_cuts_b4) (.nil)) irb_l_cuts_b1_2
def irb_l_cuts_b1 : Sx := .cons (.loop (.v 5) (.iR2 (.con (.int 2)) (.bin .Add (.bi .len (.cons (.var 3) (.nil))) (.con (.int 1)))) (irb_l_cuts_b2)) irb_l_cuts_b1_1
def irb_l_cuts_2 : Sx := .cons (.ret (.var 1)) .nil
def irb_l_cuts_1 : Sx := .cons (.loop (.t (.cons (.v 2) (.cons (.t (.cons (.v 3) (.cons (.v 4) (.nil)))) (.nil)))) (.iN (.idx (.var 0) (.con (.int 2)))) (irb_l_cuts_b1)) irb_l_cuts_2
def irb_l_cuts : Sx := .cons (.asg (.v 1) (.lst (.nil))) irb_l_cuts_1
def irb_l_plain_b1_1 : Sx := .cons (.asg (.v 2) (.call 0 (.cons (.var 1) (.nil)))) .nil
def irb_l_plain_b1 : Sx := .cons (.asg (.v 1) (.call 1 (.cons (.var 1) (.cons (.call 2 (.cons (.var 0) (.cons (.var 2) (.nil)))) (.nil))))) irb_l_plain_b1_1
def irb_l_plain_2 : Sx := .cons (.ret (.var 1)) .nil
def irb_l_plain_1 : Sx := .cons (.wh (.cmp .NotEq (.var 2) (.lst (.nil))) (irb_l_plain_b1)) irb_l_plain_2
def irb_l_plain : Sx := .cons (.asg (.v 2) (.call 0 (.cons (.var 1) (.nil)))) irb_l_plain_1
def wtl (ls : List Lp) : Nat := (ls.map fun l => l.1.length + 3).sum
theorem wtl_cons (l : Lp) (ls : List Lp) : wtl (l :: ls) = l.1.length + 3 + wtl ls := by simp [wtl]
theorem wtl_le : ∀ r : List It, wtl (lps r) ≤ 3 * rsize r
  | [] => by simp [lps, wtl]
  | .inl c :: r => by have := wtl_le r; simp only [lps, rsize]; omega
  | .inr l :: r => by have := wtl_le r; simp only [lps, rsize, wtl_cons]; omega
structure goodL (A : List It) (l : Lp) (B : List It) : Prop where
  rt : (root l.1).2 = 1
  f0 : l.2.headD 0 = 0
  lf : ∀ c, A.getLast? = some (.inl c) → l.1.getLast? ≠ some c
  jn : ∀ g B1, B ≠ .inr (l.1, g) :: B1
def goodC (r : List It) (j : Nat) : Prop := ∀ A l B, r = A ++ .inr l :: B → (lps A).length = j → goodL A l B
theorem goodC_all {m : Nat} {r : List It} (ok : okA m r) (h : ∀ j, j < (lps r).length → goodC r j) : plainB none r :=
  plainB_of fun A l B e => by
    have g := h (lps A).length (by rw [e, lps_app]; simp [lps]) A l B e rfl
    have ok' := ok
    rw [e] at ok'
    have ol : okL m l := (okA_cons.mp (okA_app.mp ok').2).1
    refine ⟨ol.ne, g.rt, (okL.hd (w := l.1) (f := l.2) ol).1, g.f0, g.lf, fun q hq => ?_⟩
    obtain ⟨A', rfl⟩ := List.getLast?_eq_some_iff.mp hq
    have e' : r = A' ++ .inr (l.1, q) :: (.inr l :: B) := by rw [e]; simp
    have g' := h (lps A').length (by rw [e', lps_app]; simp [lps]) A' _ _ e' rfl
    exact g'.jn l.2 B rfl
theorem root_cut {w : Wd} (hw : w ≠ []) : (root w).2 ≤ w.length ∧ pw (root w).2 (w.take (w.length / (root w).2)) = w := by
  obtain ⟨r1, r2⟩ := root_ne hw
  have e := root_pw hw
  have l1 := root_size hw
  have hp := List.length_pos_iff.mpr r1
  have hd : w.length / (root w).2 = (root w).1.length := by rw [← l1, Nat.mul_div_cancel_left _ r2]
  have : (root w).2 * 1 ≤ (root w).2 * (root w).1.length := Nat.mul_le_mul_left _ hp
  refine ⟨by omega, ?_⟩
  rw [hd]
  have gen : ∀ (k : Nat) (v : Wd), 0 < k → (pw k v).take v.length = v := fun k v hk => by
    obtain ⟨k, rfl⟩ : ∃ k', k = k' + 1 := ⟨k - 1, by omega⟩
    rw [pw_s]; simp
  have et : w.take (root w).1.length = (root w).1 := by
    have := gen (root w).2 (root w).1 r2
    rwa [← e] at this
  rw [et, ← e]
def cutP (m : Nat) (r : List It) (mv : Mv) : Prop := can r mv ∧ okMv m mv ∧ mv.cut = true
def sCuts : Spec2 := fun ds g Q => ∃ (m : Nat) (r : List It), ds = [encRw m r] ∧ OkX m r ∧ ∀ mvs : List Mv, mvs.length ≤ 16777215 → (∀ mv ∈ mvs, cutP m r mv) → (mvs = [] → plainB none r) → Q (.rol (mvs.map Mv.enc)) g
theorem app_P {m : Nat} {r : List It} {mvs : List Mv} {mv : Mv} (h : ∀ mv ∈ mvs, cutP m r mv) (h1 : cutP m r mv) : ∀ q ∈ mvs ++ [mv], cutP m r q := fun q hq => by
  rcases List.mem_append.mp hq with hq | hq
  · exact h q hq
  · rw [List.mem_singleton.mp hq]; exact h1
theorem q_cuts (N : List Str) (hN : N.length = 6) : ∀ ds g Q, sCuts ds g Q → OkS (tab2 []) [1] irb_l_cuts { nx := fun _ g' => Q .non g', rt := Q } (startD N ds) g := by
  rintro ds g Q ⟨m, r, rfl, ho, k⟩
  rw [start_eq hN, show ([encRw m r].map some ++ List.replicate (6 - [encRw m r].length) none : En) = [some (encRw m r), none, none, none, none, none] from rfl]
  have wt : wtl (lps r) ≤ 12000000 := by have := wtl_le r; have := (tsz_lps ho.ok).2.1; have := ho.sz; omega
  unfold irb_l_cuts
  refine ok_cons (ok_asgO rfl rfl ?_)
  simp only [wqE, wqA, List.set_cons_zero, List.set_cons_succ]
  refine ⟨by simp, _, rfl, ?_⟩
  unfold irb_l_cuts_1
  refine ok_cons (ok_loop rfl ?_)
  simp only [encRw, encLs, wqE, wqI, idxV_t, itV_t, flatD_i, ownB, Bool.not_false, Nat.reduceBEq, Bool.or_self, List.getElem?_cons_zero, Option.some.injEq, exists_eq_left', atI_2, true_and, Bool.not_false]
  refine forV_inv (fun xs env g' => g' = g ∧ ∃ (j : Nat) (mvs : List Mv) (o2 o3 o4 o5 : Option D), xs = enumD j (((lps r).drop j).map encLp) ∧ (∀ mv ∈ mvs, cutP m r mv) ∧ mvs.length + wtl ((lps r).drop j) ≤ wtl (lps r) ∧ (mvs = [] → ∀ i, i < j → goodC r i) ∧ env = [some (encRw m r), some (.rol (mvs.map Mv.enc)), o2, o3, o4, o5]) _ _ _ ⟨rfl, 0, [], _, _, _, _, by simp, by simp, by simp, fun _ i hi => by omega, rfl⟩ ?_ ?_
  · rintro x xs env g' N' ⟨rfl, j, mvs, o2, o3, o4, o5, hx, hP, hl, hi, rfl⟩ hN'
    obtain ⟨A0, la, ⟨w, f⟩, fb, B0, hd, rfl, hxs, hj⟩ := enum_step hx
    obtain ⟨ol, lla, lfb, zw, zla, zfb, zl, zf⟩ := ho.dec hd
    obtain ⟨t1, t2, t3⟩ := hd.at
    have lf : f.length = m + 1 := ol.len
    have ld := last_dec hd.ea la
    have hdr : (lps r).drop j = (w, f) :: (lps r).drop (j + 1) := by
      rw [hd.tx.2.1]
      have a1 := drop_ini (k := 0) (b := (w, f) :: lps B0) hd.n
      rw [drop_ini (k := 1) hd.n]
      simpa using a1
    rw [hdr, wtl_cons] at hl
    simp only at hl
    obtain ⟨c, t, rfl⟩ : ∃ c t, f = c :: t := by cases f with
      | nil => simp at lf
      | cons c t => exact ⟨c, t, rfl⟩
    have nA : (lps (A0 ++ lets la)).length = j := by rw [lps_app, lps_lets, List.append_nil, hd.n]
    obtain ⟨u, d, rfl⟩ : ∃ u d, w = u ++ [d] := ⟨w.dropLast, w.getLast ol.ne, (List.dropLast_concat_getLast ol.ne).symm⟩
    have k4 : ∀ (ms : List Mv) (o5 : Option D), (∀ mv ∈ ms, cutP m r mv) → ms.length + wtl ((lps r).drop (j + 1)) ≤ wtl (lps r) → (ms = [] → mvs = [] ∧ goodL (A0 ++ lets la) (u ++ [d], c :: t) (lets fb ++ B0)) → ∀ o2 o3 o4, N' [some (encRw m r), some (.rol (ms.map Mv.enc)), o2, o3, o4, o5] g' := fun ms o5 h1 h2 h3 o2 o3 o4 =>
      hN' _ _ ⟨rfl, j + 1, ms, _, _, _, _, hxs, h1, h2, fun e i hij => by
        obtain ⟨e1, e2⟩ := h3 e
        rcases Nat.lt_or_ge i j with h | h
        · exact hi e1 i h
        · intro A l B e3 e4
          obtain ⟨rfl, rfl, rfl⟩ := cut_uni (hd.e.symm.trans e3) (by omega)
          exact e2, rfl⟩
    have k3 : ∀ (ms : List Mv) (o5 : Option D), (∀ mv ∈ ms, cutP m r mv) → ms.length + 1 + wtl ((lps r).drop (j + 1)) ≤ wtl (lps r) → (ms = [] → mvs = [] ∧ (root (u ++ [d])).2 = 1 ∧ c = 0 ∧ ∀ c, (A0 ++ lets la).getLast? = some (.inl c) → (u ++ [d]).getLast? ≠ some c) →
        OkS (tab2 []) [1] irb_l_cuts_b1_3 { nx := N', rt := Q, bk := fun env' g' => OkS (tab2 []) [1] irb_l_cuts_2 { nx := fun _ g' => Q .non g', rt := Q } env' g', ct := N' } [some (encRw m r), some (.rol (ms.map Mv.enc)), some (.int j), some (.str (u ++ [d])), some (.tup (D.int c :: t.map D.int)), o5] g' := fun ms o5 h1 h2 h3 => by
      have fin : (∀ h B1, lets fb ++ B0 ≠ .inr (u ++ [d], h) :: B1) → N' [some (encRw m r), some (.rol (ms.map Mv.enc)), some (.int j), some (.str (u ++ [d])), some (.tup (D.int c :: t.map D.int)), o5] g' := fun hj =>
        k4 ms o5 h1 (by omega) (fun e => ⟨(h3 e).1, (h3 e).2.1, by simpa using (h3 e).2.2.1, (h3 e).2.2.2, hj⟩) _ _ _
      obtain ⟨x1, x2, x3⟩ := hd.tx
      unfold irb_l_cuts_b1_3
      refine ok_cons (ok_iff ?_)
      simp only [encRw, encTx, encLs, wqE, wqT, wqA, addV_ii, ordV_ii, idxV_t, biV_len_t, flatD_i, flatD_s, opV_Add, cmpV_Eq, cmpV_Lt, ownB, Bool.not_false, Nat.reduceBEq, Bool.or_self, List.getElem?_cons_zero, List.getElem?_cons_succ, Option.some.injEq, exists_eq_left', D.bl.injEq, atI_1, atI_2, true_and, decide_eq_true_eq, if_false, Bool.false_eq_true, Bool.not_false, List.length_map]
      rcases hd.eb with rfl | ⟨⟨v, h⟩, B1, rfl⟩
      · have hlen : (lps r).length = j + 1 := by rw [x2]; simp [lps, hd.n]
        rw [if_neg (by omega)]
        refine ok_nil (ok_nil (fin fun h B1 e => ?_))
        cases fb <;> simp [lets] at e
      · have hlen : (lps r).length = j + 2 + (lps B1).length := by rw [x2]; simp [lps, hd.n]; omega
        have nx : atI ((lps r).map encLp) ((j : Int) + 1) = some (encLp (v, h)) := by
          rw [x2]
          simp only [lps, List.map_append, List.map_cons]
          exact at_ini1 (by simp [hd.n])
        rw [if_pos (by omega)]
        simp only [eqV_ss, Option.some.injEq, exists_eq_left', Bool.false_xor, D.bl.injEq, decide_eq_true_eq, t2]
        by_cases h0 : fb = []
        · subst h0
          simp only [idxV_t, eqV_ss, Option.some.injEq, exists_eq_left', Bool.false_xor, D.bl.injEq, atI_0, decide_eq_true_eq, if_true, nx, encLp]
          by_cases hv : v = u ++ [d]
          · subst hv
            simp only [if_true]
            unfold irb_l_cuts_b6
            refine ok_cons (ok_app rfl _ rfl ?_)
            simp only [wqE, wqA, flatD_s, ownB, Bool.not_false, Nat.reduceBEq, Bool.or_self, Bool.or_true, List.getElem?_cons_zero, List.getElem?_cons_succ, List.set_cons_zero, List.set_cons_succ, Option.some.injEq, exists_eq_left', true_and, Bool.not_false, List.length_map]
            refine ⟨by simp, by omega, ok_nil (ok_nil ?_)⟩
            have := k4 (ms ++ [.join j]) o5 (app_P (mv := .join j) h1 ⟨by simp only [can]; exact ⟨A0 ++ lets la, (u ++ [d], c :: t), h, B1, by rw [hd.e]; rfl, nA⟩, trivial, rfl⟩) (by simp; omega) (fun e => by simp at e) (some (.int j)) (some (.str (u ++ [d]))) (some (.tup (D.int c :: t.map D.int)))
            simpa [Mv.enc, encRw, encTx, encLs] using this
          · simp only [if_false, hv]
            refine ok_nil (ok_nil (fin fun h' B1' e => ?_))
            simp [lets] at e
            exact hv e.1.1
        · simp only [if_false, h0]
          refine ok_nil (ok_nil (fin fun h' B1' e => ?_))
          cases fb with
          | nil => exact h0 rfl
          | cons => simp [lets] at e
    have k2 : ∀ (ms : List Mv) (o5 : Option D), (∀ mv ∈ ms, cutP m r mv) → ms.length + 2 + wtl ((lps r).drop (j + 1)) ≤ wtl (lps r) → (ms = [] → mvs = [] ∧ (root (u ++ [d])).2 = 1 ∧ c = 0) →
        OkS (tab2 []) [1] irb_l_cuts_b1_2 { nx := N', rt := Q, bk := fun env' g' => OkS (tab2 []) [1] irb_l_cuts_2 { nx := fun _ g' => Q .non g', rt := Q } env' g', ct := N' } [some (encRw m r), some (.rol (ms.map Mv.enc)), some (.int j), some (.str (u ++ [d])), some (.tup (D.int c :: t.map D.int)), o5] g' := fun ms o5 h1 h2 h3 => by
      unfold irb_l_cuts_b1_2
      refine ok_cons (ok_iff ?_)
      simp only [encRw, encTx, wqE, wqT, wqO, negV_i, idxV_t, idxV_s, slV_s, flatD_i, cmpV_Eq, eqV_ss, ownB, Bool.not_false, Nat.reduceBEq, Bool.or_self, List.getElem?_cons_zero, List.getElem?_cons_succ, Option.some.injEq, exists_eq_left', Bool.false_xor, D.int.injEq, D.bl.injEq, atI_1, true_and, decide_eq_true_eq, Bool.not_false, t1, cut_l, atI_m]
      refine ⟨by omega, by omega, ?_⟩
      by_cases hx : la.getLast? = some d
      · obtain ⟨b, rfl⟩ := List.getLast?_eq_some_iff.mp hx
        simp only [List.length_append, List.length_singleton, Nat.add_sub_cancel, List.drop_left', if_true]
        unfold irb_l_cuts_b5
        refine ok_cons (ok_app rfl _ rfl ?_)
        simp only [wqE, wqA, flatD_s, ownB, Bool.not_false, Nat.reduceBEq, Bool.or_self, Bool.or_true, List.getElem?_cons_zero, List.getElem?_cons_succ, List.set_cons_zero, List.set_cons_succ, Option.some.injEq, exists_eq_left', true_and, Bool.not_false, List.length_map]
        refine ⟨by simp, by omega, ok_nil ?_⟩
        have := k3 (ms ++ [.left j]) o5 (app_P (mv := .left j) h1 ⟨by simp only [can]; exact ⟨A0 ++ lets (b ++ [d]), (u ++ [d], c :: t), _, d, hd.e, nA, by rw [ld]; simp, by simp⟩, trivial, rfl⟩) (by simp; omega) (fun e => by simp at e)
        simpa [Mv.enc, encRw, encTx, encLs] using this
      · have hne : (la.drop (la.length - 1) = [d]) = False := by
          apply eq_false
          intro e
          apply hx
          rcases List.eq_nil_or_concat la with rfl | ⟨b, x, rfl⟩
          · simp at e
          · simp at e ⊢; exact e
        simp only [if_false, hne]
        have := k3 ms o5 h1 (by omega) fun e => ⟨(h3 e).1, (h3 e).2.1, (h3 e).2.2, fun q hq => by
          rw [ld] at hq
          cases hh : la.getLast? with
          | some y =>
            rw [hh] at hq hx
            simp at hq hx
            subst hq
            simp
            exact fun e => hx e.symm
          | none =>
            rw [hh] at hq
            cases h5 : (lps A0).getLast? <;> rw [h5] at hq <;> simp at hq⟩
        exact ok_nil (by simpa [encRw, encTx, encLs] using this)
    have k1 : ∀ (ms : List Mv) (o5 : Option D), (∀ mv ∈ ms, cutP m r mv) → ms.length + 3 + wtl ((lps r).drop (j + 1)) ≤ wtl (lps r) → (ms = [] → mvs = [] ∧ (root (u ++ [d])).2 = 1) →
        OkS (tab2 []) [1] irb_l_cuts_b1_1 { nx := N', rt := Q, bk := fun env' g' => OkS (tab2 []) [1] irb_l_cuts_2 { nx := fun _ g' => Q .non g', rt := Q } env' g', ct := N' } [some (encRw m r), some (.rol (ms.map Mv.enc)), some (.int j), some (.str (u ++ [d])), some (.tup (D.int c :: t.map D.int)), o5] g' := fun ms o5 h1 h2 h3 => by
      unfold irb_l_cuts_b1_1
      refine ok_cons (ok_iff ?_)
      simp only [wqE, wqT, ordV_ii, idxV_t, flatD_i, cmpV_Gt, ownB, Bool.not_false, Nat.reduceBEq, Bool.or_self, List.getElem?_cons_zero, List.getElem?_cons_succ, Option.some.injEq, exists_eq_left', D.bl.injEq, atI_0, true_and, decide_eq_true_eq, Bool.not_false]
      by_cases hc : 0 < c
      · rw [if_pos hc]
        unfold irb_l_cuts_b4
        refine ok_cons (ok_app rfl _ rfl ?_)
        simp only [wqE, wqA, flatD_s, ownB, Bool.not_false, Nat.reduceBEq, Bool.or_self, Bool.or_true, List.getElem?_cons_zero, List.getElem?_cons_succ, List.set_cons_zero, List.set_cons_succ, Option.some.injEq, exists_eq_left', true_and, Bool.not_false, List.length_map]
        refine ⟨by simp, by omega, ok_nil ?_⟩
        have := k2 (ms ++ [.out j]) o5 (app_P (mv := .out j) h1 ⟨by simp only [can]; exact ⟨_, _, _, hd.e, nA, hc⟩, trivial, rfl⟩) (by simp; omega) (fun e => by simp at e)
        simpa [Mv.enc] using this
      · rw [if_neg hc]
        exact ok_nil (k2 ms o5 h1 (by omega) fun e => ⟨(h3 e).1, (h3 e).2, by have := (zf c (by simp)).1; omega⟩)
    unfold irb_l_cuts_b1
    refine ok_cons ?_
    simp only [List.set_cons_zero, List.set_cons_succ]
    refine ok_loop rfl ?_
    simp only [wqE, wqA, wqI, addV_ii, biV_len_s, rng2V_i, flatD_i, opV_Add, wqP_v, ownB, Bool.not_false, Nat.reduceBEq, Bool.or_self, List.getElem?_cons_zero, List.getElem?_cons_succ, Option.some.injEq, exists_eq_left', true_and, Bool.not_false, List.map_cons]
    have wl : (u ++ [d]).length = u.length + 1 := by simp
    refine ⟨by omega, small_of (by decide) (by decide), small_of (by omega) (by omega), ?_⟩
    have hadd : (((u ++ [d]).length : Nat) : Int) + 1 = (((u ++ [d]).length + 1 : Nat) : Int) := by omega
    rw [hadd]
    refine forV_inv (fun xs env g'' => g'' = g' ∧ ∃ (n : Nat) (ms : List Mv) (o : Option D), 2 ≤ n ∧ n ≤ (u ++ [d]).length + 1 ∧ xs = rngD (n : Int) (((u ++ [d]).length + 1 : Nat) : Int) ∧ (∀ mv ∈ ms, cutP m r mv) ∧ ms.length ≤ mvs.length + (n - 2) ∧ (ms = [] → mvs = [] ∧ ∀ q, 2 ≤ q → q < n → ¬ pw q ((u ++ [d]).take ((u ++ [d]).length / q)) = u ++ [d]) ∧ env = [some (encRw m r), some (.rol (ms.map Mv.enc)), some (.int j), some (.str (u ++ [d])), some (.tup (D.int c :: t.map D.int)), o]) _ _ _ ?_ ?_ ?_
    · refine ⟨rfl, 2, mvs, _, by omega, ?_, rfl, hP, by omega, fun e => ⟨e, fun q h1 h2 => by omega⟩, rfl⟩
      omega
    · rintro x xs env g'' N2 ⟨rfl, n, ms, o, hn2, hnl, hxs', hP', hml, hno, rfl⟩ hN2
      have hlt : n < (u ++ [d]).length + 1 := by
        rcases Nat.lt_or_ge n ((u ++ [d]).length + 1) with h | h
        · exact h
        · rw [rng_nil (by omega)] at hxs'; cases hxs'
      rw [rng_cons (by omega)] at hxs'
      simp only [List.cons.injEq] at hxs'
      obtain ⟨rfl, hxs'⟩ := hxs'
      rw [show (n : Int) + 1 = ((n + 1 : Nat) : Int) by omega] at hxs'
      have hdiv : ((u ++ [d]).length : Int) / (n : Int) = (((u ++ [d]).length / n : Nat) : Int) := by rw [Int.natCast_ediv]
      have hle : (u ++ [d]).length / n * n ≤ (u ++ [d]).length := Nat.div_mul_le_self _ _
      have htl : ((u ++ [d]).take ((u ++ [d]).length / n)).length = (u ++ [d]).length / n := by rw [List.length_take]; have := Nat.div_le_self (u ++ [d]).length n; omega
      unfold irb_l_cuts_b2
      refine ok_cons (ok_iff ?_)
      simp only [wqE, wqT, wqA, wqO, mulV_si, fdivV_ii, slV_s, biV_len_s, opV_Mult, opV_FloorDiv, cmpV_Eq, eqV_ss, ownB, Bool.not_false, Nat.reduceBEq, Bool.or_self, List.getElem?_cons_zero, List.getElem?_cons_succ, List.set_cons_zero, List.set_cons_succ, Option.some.injEq, exists_eq_left', Bool.false_xor, D.int.injEq, D.bl.injEq, true_and, decide_eq_true_eq, Bool.not_false, hdiv, cut_h, Int.toNat_natCast]
      refine ⟨by omega, by omega, Int.lt_of_le_of_lt (show (n : Int) ≤ 2 ^ 24 by omega) (by decide), by omega, by omega, by omega, by rw [htl]; omega, ?_⟩
      by_cases hc : pw n ((u ++ [d]).take ((u ++ [d]).length / n)) = u ++ [d]
      · rw [if_pos (show (List.replicate n ((u ++ [d]).take ((u ++ [d]).length / n))).flatten = u ++ [d] from hc)]
        unfold irb_l_cuts_b3
        refine ok_cons (ok_app rfl _ rfl ?_)
        simp only [wqE, wqA, flatD_s, ownB, Bool.not_false, Nat.reduceBEq, Bool.or_self, Bool.or_true, List.getElem?_cons_zero, List.getElem?_cons_succ, List.set_cons_zero, List.set_cons_succ, Option.some.injEq, exists_eq_left', true_and, Bool.not_false, List.length_map]
        refine ⟨by simp, by omega, ok_nil (ok_nil (hN2 _ _ ⟨rfl, n + 1, ms ++ [.root j n], _, by omega, by omega, hxs', app_P (mv := .root j n) hP' ⟨by simp only [can]; exact ⟨A0 ++ lets la, (u ++ [d], c :: t), _, hd.e, nA, by simp only; omega, hc⟩, ⟨hn2, by omega⟩, rfl⟩, by simp; omega, fun e => by simp at e, by simp [Mv.enc]; rfl⟩))⟩
      · rw [if_neg (show ¬ (List.replicate n ((u ++ [d]).take ((u ++ [d]).length / n))).flatten = u ++ [d] from hc)]
        refine ok_nil (ok_nil (hN2 _ _ ⟨rfl, n + 1, ms, _, by omega, by omega, hxs', hP', by omega, fun e => ⟨(hno e).1, fun q h1 h2 => ?_⟩, rfl⟩))
        rcases Nat.lt_or_ge q n with h | h
        · exact (hno e).2 q h1 h
        · rw [show q = n by omega]; exact hc
    · rintro env g'' ⟨rfl, n, ms, o, hn2, hnl, hxs', hP', hml, hno, rfl⟩
      have hge : (u ++ [d]).length + 1 ≤ n := by
        rcases Nat.lt_or_ge n ((u ++ [d]).length + 1) with h | h
        · rw [rng_cons (by omega)] at hxs'; cases hxs'
        · exact h
      refine k1 ms o hP' (by omega) fun e => ⟨(hno e).1, ?_⟩
      obtain ⟨q1, q2⟩ := root_cut (w := u ++ [d]) ol.ne
      have q3 := (root_ne (w := u ++ [d]) ol.ne).2
      rcases Nat.lt_or_ge (root (u ++ [d])).2 2 with h | h
      · omega
      · exact absurd q2 ((hno e).2 _ h (by omega))
  · rintro env g' ⟨rfl, j, mvs, o2, o3, o4, o5, hx, hP, hl, hi, rfl⟩
    have hj : (lps r).length ≤ j := by
      rcases Nat.lt_or_ge j (lps r).length with h1 | h1
      · rw [List.drop_eq_getElem_cons h1, List.map_cons, enumD] at hx; cases hx
      · exact h1
    unfold irb_l_cuts_2
    refine ok_cons (ok_ret ?_)
    simp only [wqE, ownB, Bool.not_false, Bool.or_true, List.getElem?_cons_zero, List.getElem?_cons_succ, Option.some.injEq, exists_eq_left', true_and, Bool.not_false]
    exact k mvs (by omega) hP fun e => goodC_all ho.ok fun i h => hi e i (by omega)
end G57
set_option Elab.async false
set_option linter.all false
set_option maxRecDepth 100000
set_option maxHeartbeats 1000000
namespace G57
open PySem L2
theorem cmp_mv (mv : Mv) : CmpN 3 mv.enc := by
  have hs : ∀ x : List Nat, (∀ c ∈ x, c < 0x110000) → CmpN 2 (.str x) := fun x h => .str h
  cases mv <;> refine CmpN.tup fun d hd => ?_ <;> simp only [List.mem_cons, List.not_mem_nil, or_false] at hd
  all_goals first
    | (rcases hd with rfl | rfl
       · exact hs _ (by decide)
       · exact .int)
    | (rcases hd with rfl | rfl | rfl
       · exact hs _ (by decide)
       · exact .int
       · first
         | exact .int
         | (refine CmpN.tup fun e he => ?_
            obtain ⟨i, _, rfl⟩ := List.mem_map.mp he
            exact .int))
theorem okV_mvs (mvs : List Mv) : okV (.rol (mvs.map Mv.enc)) = true := by
  simp only [okV, Bool.and_eq_true]
  have c : ∀ d ∈ mvs.map Mv.enc, CmpN 3 d := fun d hd => by
    obtain ⟨mv, _, rfl⟩ := List.mem_map.mp hd
    exact cmp_mv mv
  exact ⟨pures_of fun d hd => (c d hd).pr, oks_le (by omega) (oks_of fun d hd => (c d hd).ok)⟩
theorem can_red {m : Nat} {r : List It} (ok : okA m r) : ∀ {mv : Mv}, can r mv → okMv m mv → ∃ a x y b, r = a ++ x ++ b ∧ Red m x y
  | .left j, ⟨A, ⟨w, f⟩, B, c, e, n, h1, h2⟩, _ => by
    have ok' := ok
    rw [e] at ok'
    have ol : okL m (w, f) := (okA_cons.mp (okA_app.mp ok').2).1
    obtain ⟨A', rfl⟩ := List.getLast?_eq_some_iff.mp h1
    obtain ⟨u, rfl⟩ := List.getLast?_eq_some_iff.mp h2
    exact ⟨A', _, _, B, by rw [e]; simp, mk_left ol⟩
  | .out j, ⟨A, ⟨w, f⟩, B, e, n, h1⟩, _ => by
    have ok' := ok
    rw [e] at ok'
    have ol : okL m (w, f) := (okA_cons.mp (okA_app.mp ok').2).1
    cases f with
    | nil => simp at h1
    | cons c t => exact ⟨A, _, _, B, by rw [e]; simp, mk_out ol h1⟩
  | .join j, ⟨A, ⟨w, f⟩, g, B, e, n⟩, _ => by
    have ok' := ok
    rw [e] at ok'
    have ol := okA_cons.mp (okA_app.mp ok').2
    have ol2 := (okA_cons.mp ol.2).1
    exact ⟨A, _, _, B, by rw [e]; simp, mk_join ol.1 ol2⟩
  | .root j k, ⟨A, ⟨w, f⟩, B, e, n, h1, h2⟩, hk => by
    have ok' := ok
    rw [e] at ok'
    have ol : okL m (w, f) := (okA_cons.mp (okA_app.mp ok').2).1
    simp only at h1 h2
    have ol' := ol
    rw [← h2] at ol'
    have hr := mk_root ol' hk.1
    rw [h2] at hr
    exact ⟨A, _, _, B, by rw [e]; simp, hr⟩
def sPlainL : Spec2 := fun ds g Q => ∃ (m K : Nat) (r : List It), ds = [dck, encRw m r] ∧ OkX m r ∧ mzr (lps r).length 0 r ≤ K ∧ K ≤ g ∧ Q (encRw m (plainI r)) (g - K)
abbrev Lpl : List (Str × Spec2) := [("_law_cuts", sCuts), ("_law_turn", sTurn), ("_law_one", sOne)]
theorem q_plainL (N : List Str) (hN : N.length = 3) : ∀ ds g Q, sPlainL ds g Q → OkS (tab2 Lpl) [] irb_l_plain { nx := fun _ g' => Q .non g', rt := Q } (startD N ds) g := by
  rintro ds g Q ⟨m, K, r, rfl, ho, hK, hg, k⟩
  rw [start_eq hN, show ([dck, encRw m r].map some ++ List.replicate (3 - [dck, encRw m r].length) none : En) = [some dck, some (encRw m r), none] from rfl]
  unfold irb_l_plain
  refine ok_cons (ok_asg rfl ?_)
  simp only [wqE, wqA, wqP_v, ownB, Bool.not_false, Bool.or_true, tab2_q, List.getElem?_cons_zero, List.getElem?_cons_succ, List.set_cons_zero, List.set_cons_succ, Option.some.injEq, exists_eq_left', Option.map_some, true_and, Bool.not_false]
  refine ⟨m, r, rfl, ho, fun mvs hml hP hE => ?_⟩
  unfold irb_l_plain_1
  refine ok_cons (ok_wh (K + 1) ?_)
  refine whV_inv (fun n env g' => n + (g - K) ≤ g' ∧ ∃ (r' : List It) (ms : List Mv), mzr (lps r).length 0 r' ≤ n ∧ (lps r').length ≤ (lps r).length ∧ Alk m r r' ∧ ms.length ≤ 16777215 ∧ (∀ mv ∈ ms, cutP m r' mv) ∧ (ms = [] → plainB none r') ∧ env = [some dck, some (encRw m r'), some (.rol (ms.map Mv.enc))]) ?_ _ (mzr (lps r).length 0 r) _ _ (by omega) ⟨by omega, r, mvs, Nat.le_refl _, Nat.le_refl _, Alk.refl ho, hml, hP, hE, rfl⟩
  rintro n env g' N' ⟨hg', r', ms, hz, hl, ha, hml, hP, hE, rfl⟩ hN'
  simp only [wqE, wqT, wqA, cmpV_NotEq, ownB, Bool.not_false, Bool.or_self, List.getElem?_cons_zero, List.getElem?_cons_succ, Option.some.injEq, exists_eq_left', true_and, Bool.not_false]
  refine ⟨by simp, eqV_nil (okV_mvs ms) ?_⟩
  cases ms with
  | nil =>
    simp only [List.map_nil, List.isEmpty_nil, Bool.not_true, exists_eq_left', Bool.true_xor, D.bl.injEq, if_false, Bool.false_eq_true, Bool.not_true]
    have e : plainI r = r' := by rw [← ha.pl, plainI_fix (hE rfl)]
    rw [← e]
    refine ok_less (show g - K ≤ g' by omega) ?_
    unfold irb_l_plain_2
    refine ok_cons (ok_ret ?_)
    simp only [wqE, ownB, Bool.not_false, Bool.or_true, List.getElem?_cons_zero, List.getElem?_cons_succ, Option.some.injEq, exists_eq_left', true_and, Bool.not_false]
    exact k
  | cons mv0 ms =>
    simp only [List.map_cons, List.isEmpty_cons, Bool.not_false, exists_eq_left', Bool.true_xor, D.bl.injEq, if_true, Bool.not_false]
    have hn : 1 ≤ n := by
      have c0 := hP mv0 (by simp)
      rcases Nat.eq_zero_or_pos n with h | h
      · exfalso
        obtain ⟨a, x, y, b, rfl, hr⟩ := can_red ha.ok.ok c0.1 c0.2.1
        have lb : (lps b).length ≤ (lps r).length := by rw [lps_app, lps_app] at hl; simp at hl; omega
        have := hr.mz lb (0 + nl a)
        rw [List.append_assoc, mzr_app] at hz
        omega
      · exact h
    unfold irb_l_plain_b1
    refine ok_cons (ok_asg rfl ?_)
    simp only [wqE, wqA, wqP_v, ownB, Bool.not_false, Bool.or_true, tab2_q, List.getElem?_cons_zero, List.getElem?_cons_succ, List.set_cons_zero, List.set_cons_succ, Option.some.injEq, exists_eq_left', Option.map_some, true_and, Bool.not_false]
    refine ⟨_, _, rfl, rfl, by simp, by simp at hml ⊢; omega, by omega, fun x hx => ?_⟩
    obtain ⟨mv, hmv, rfl⟩ : ∃ mv ∈ mv0 :: ms, mv.enc = x := by
      rw [← List.map_cons] at hx
      exact List.mem_map.mp hx
    obtain ⟨c1, c2, c3⟩ := hP mv hmv
    refine ⟨m, r', mv, rfl, ha.ok, c2, fun a x y b hr hxy => ?_, fun h => absurd c1 h⟩
    have hred : Red m x y := hxy.elim id fun h => by rw [c3] at h; cases h.1
    subst hr
    have ha2 : Alk m r (a ++ y ++ b) := ha.step (.inl hred)
    have lb : (lps b).length ≤ (lps r).length := by rw [lps_app, lps_app] at hl; simp at hl; omega
    have hmz := hred.mz lb (0 + nl a)
    have hnl := hred.nlp
    rw [List.append_assoc, mzr_app] at hz
    unfold irb_l_plain_b1_1
    refine ok_cons (ok_asg rfl ?_)
    simp only [wqE, wqA, wqP_v, ownB, Bool.not_false, Bool.or_true, tab2_q, List.getElem?_cons_zero, List.getElem?_cons_succ, List.set_cons_zero, List.set_cons_succ, Option.some.injEq, exists_eq_left', Option.map_some, true_and, Bool.not_false]
    refine ⟨m, a ++ y ++ b, rfl, ha2.ok, fun mvs2 h1 h2 h3 => ?_⟩
    refine ok_nil (hN' (n - 1) _ _ (by omega) ⟨by omega, a ++ y ++ b, mvs2, by rw [List.append_assoc, mzr_app]; omega, ?_, ha2, h1, h2, h3, rfl⟩)
    simp only [lps_app, List.length_append] at hl ⊢
    omega
end G57
set_option Elab.async false
set_option linter.all false
set_option maxRecDepth 100000
set_option maxHeartbeats 1000000
namespace G57
open PySem L2
def irb_l_value : Sx := .cons (.ret (.bin .Add (.idx (.var 0) (.con (.int 0))) (.bi .sum (.cons (.lc [2, 3] (.t (.cons (.v 2) (.cons (.v 3) (.nil)))) (.iZ (.sl (.var 0) (.cons (.con (.int 1)) .nil) (.nil)) (.var 1)) (.nil) (.bin .Mult (.var 2) (.var 3))) (.nil))))) .nil
def irb_l_text_b1 : Sx := .cons (.ex (.mt .append (.var 2) (.cons (.bin .Add (.bin .Mult (.var 4) (.call 0 (.cons (.var 5) (.cons (.var 1) (.nil))))) (.var 3)) (.nil)))) .nil
def irb_l_text_2 : Sx := .cons (.ret (.mt .join (.con (.str [])) (.cons (.var 2) (.nil)))) .nil
def irb_l_text_1 : Sx := .cons (.loop (.t (.cons (.v 3) (.cons (.t (.cons (.v 4) (.cons (.v 5) (.nil)))) (.nil)))) (.iZ (.sl (.idx (.var 0) (.con (.int 1))) (.cons (.con (.int 1)) .nil) (.nil)) (.idx (.var 0) (.con (.int 2)))) (irb_l_text_b1)) irb_l_text_2
def irb_l_text : Sx := .cons (.asg (.v 2) (.lst (.cons (.idx (.idx (.var 0) (.con (.int 1))) (.con (.int 0))) (.nil)))) irb_l_text_1
def sValueL : Spec2 := fun ds g Q => ∃ f ns : List Int, ds = [.tup (f.map .int), .tup (ns.map .int)] ∧ f ≠ [] ∧ f.length ≤ 2000 ∧ (∀ i ∈ f, i.natAbs < 2 ^ 60) ∧ (∀ i ∈ ns, i.natAbs < 2 ^ 60) ∧ Q (.int (valF f ns)) g
theorem q_valueL (N : List Str) (hN : N.length = 4) : ∀ ds g Q, sValueL ds g Q → OkS (tab2 []) [] irb_l_value { nx := fun _ g' => Q .non g', rt := Q } (startD N ds) g := by
  rintro ds g Q ⟨f, ns, rfl, hf, hl, h1, h2, k⟩
  rw [start_eq hN, show ([.tup (f.map .int), .tup (ns.map .int)].map some ++ List.replicate (4 - [D.tup (f.map .int), .tup (ns.map .int)].length) none : En) = [some (.tup (f.map .int)), some (.tup (ns.map .int)), none, none] from rfl]
  cases f with
  | nil => exact absurd rfl hf
  | cons c t =>
    unfold irb_l_value
    refine ok_cons (ok_ret ?_)
    simp only [List.map_cons, wqE, wqA, wqC, wqO, wqI, addV_ii, idxV_t, slV_t, biV_sum_r, itV_t, flatD_i, opV_Add, opV_Mult, ownB, Bool.not_false, Bool.or_self, List.getElem?_cons_zero, List.getElem?_cons_succ, Option.some.injEq, exists_eq_left', D.int.injEq, atI_0, exists_and_left, true_and, if_true, Bool.not_false, cut_1m, zip_ii]
    simp only [List.length_cons] at hl
    refine lcV_map encII (fun y => .int (y.1 * y.2)) _ (by rw [List.length_zip]; omega) (fun y hy kk hk => ?_) ?_
    · simp only [encII, wipeD, mulV_ii, wqP_v, wqP_t, wqPs_n, wqPs_c, List.getElem?_cons_zero, List.getElem?_cons_succ, List.set_cons_zero, List.set_cons_succ, Option.some.injEq, exists_eq_left']
      have a1 := h1 y.1 (by simp [(List.of_mem_zip hy).1])
      have a2 := h2 y.2 (List.of_mem_zip hy).2
      exact ⟨cmul_of (Nat.lt_of_lt_of_le a1 (by decide)) (Nat.lt_of_lt_of_le a2 (by decide)), hk⟩
    · refine ⟨_, by rw [show (fun y : Int × Int => D.int (y.1 * y.2)) = D.int ∘ (fun y => y.1 * y.2) from rfl, ← List.map_map]; exact intsF_map _, ?_⟩
      unfold valF at k
      rw [List.headD_cons, List.tail_cons, dot_zip] at k
      exact k
theorem strsF_mapX : ∀ xs : List (List Nat), strsF (xs.map .str) = some xs
  | [] => rfl
  | x :: xs => by simp [strsF, strsF_mapX xs]
theorem lenL_flatX : ∀ xs : List (List Nat), lenL xs = xs.flatten.length
  | [] => rfl
  | x :: xs => by
    have := lenL_flatX xs
    simp only [lenL, List.flatten_cons, List.length_append] at this ⊢
    omega
theorem rowT_pcs2 (ns : List Int) : ∀ dn : List (List Nat × Lp), rowT ns (pcs2 dn) = (dn.map fun y => pw (valF y.2.2 ns).toNat y.2.1 ++ y.1).flatten
  | [] => rfl
  | y :: dn => by
    have := rowT_pcs2 ns dn
    show rowT ns ((.inr y.2 :: lets y.1) ++ pcs2 dn) = _
    rw [rowT_app, this]
    simp only [rowT, itTx, runT_pw, rowT_lets, List.map_cons, List.flatten_cons]
def sTextL : Spec2 := fun ds g Q => ∃ (m : Nat) (r : List It) (ns : List Int), ds = [encRw m r, .tup (ns.map .int)] ∧ OkX m r ∧ (∀ n ∈ ns, 0 ≤ n ∧ n < 1000000) ∧ (rowT ns r).length ≤ 16000000 ∧ Q (.str (rowT ns r)) g
theorem q_textL (N : List Str) (hN : N.length = 6) : ∀ ds g Q, sTextL ds g Q → OkS (tab2 [("_law_value", sValueL)]) [2] irb_l_text { nx := fun _ g' => Q .non g', rt := Q } (startD N ds) g := by
  rintro ds g Q ⟨m, r, ns, rfl, ho, hn, hT, k⟩
  rw [start_eq hN, show ([encRw m r, .tup (ns.map .int)].map some ++ List.replicate (6 - [encRw m r, D.tup (ns.map .int)].length) none : En) = [some (encRw m r), some (.tup (ns.map .int)), none, none, none, none] from rfl]
  have hn0 : ∀ n ∈ ns, 0 ≤ n := fun n h => (hn n h).1
  have rs : rowT ns r = (txs r).1 ++ (((txs r).2.zip (lps r)).map fun y => pw (valF y.2.2 ns).toNat y.2.1 ++ y.1).flatten := by
    conv => lhs; rw [row_split r]
    rw [rowT_app, rowT_lets, rowT_pcs2]
  have lps_ok : ∀ y ∈ (txs r).2.zip (lps r), okL m y.2 ∧ ∀ i ∈ y.2.2, 0 ≤ i ∧ i ≤ 2000000 := fun y hy => by
    have hm := (List.of_mem_zip hy).2
    have ol := okA_lp ho.ok _ hm
    obtain ⟨_, _, _, t4⟩ := tsz_lps ho.ok
    exact ⟨ol, fun i hi => ⟨ol.nn i hi, by have := (t4 _ hm).2 i hi; have := ho.sz; omega⟩⟩
  have m3 := ho.m3
  obtain ⟨z1, z2, z3, z4⟩ := ho.size
  unfold irb_l_text
  refine ok_cons (ok_asgO rfl rfl ?_)
  simp only [encRw, encTx, txl, List.map_cons, wqE, wqA, idxV_t, flatD_i, ownB, Bool.not_false, Nat.reduceBEq, Bool.or_self, List.getElem?_cons_zero, List.set_cons_zero, List.set_cons_succ, Option.some.injEq, exists_eq_left', atI_0, atI_1, true_and, Bool.not_false]
  refine ⟨by simp, _, rfl, ?_⟩
  unfold irb_l_text_1
  refine ok_cons (ok_loop rfl ?_)
  simp only [wqE, wqO, wqI, idxV_t, slV_t, itV_t, flatD_i, ownB, Bool.not_false, Nat.reduceBEq, Bool.or_self, List.getElem?_cons_zero, Option.some.injEq, exists_eq_left', D.int.injEq, atI_1, atI_2, exists_and_left, true_and, Bool.not_false, cut_1m, encLs, zip_tl]
  refine forV_inv (fun xs env g' => g' = g ∧ ∃ (dn : List (List Nat × Lp)) (acc : List (List Nat)) (o3 o4 o5 : Option D), xs = dn.map (fun y => D.tup [.str y.1, encLp y.2]) ∧ (∀ y ∈ dn, okL m y.2 ∧ ∀ i ∈ y.2.2, 0 ≤ i ∧ i ≤ 2000000) ∧ acc.length + dn.length ≤ 8000000 ∧ rowT ns r = acc.flatten ++ (dn.map fun y => pw (valF y.2.2 ns).toNat y.2.1 ++ y.1).flatten ∧ env = [some (encRw m r), some (.tup (ns.map .int)), some (.rol (acc.map .str)), o3, o4, o5]) _ _ _ ⟨rfl, (txs r).2.zip (lps r), [(txs r).1], _, _, _, rfl, lps_ok, by simp only [List.length_zip, List.length_singleton]; have := (tsz_lps ho.ok).1; have := ho.sz; omega, by rw [rs]; simp, rfl⟩ ?_ ?_
  · rintro x xs env g' N' ⟨rfl, dn, acc, o3, o4, o5, hx, hok, hlen, hrow, rfl⟩ hN'
    cases dn with
    | nil => cases hx
    | cons y dn =>
      obtain ⟨t, w, f⟩ := y
      simp only [List.map_cons, List.cons.injEq] at hx
      obtain ⟨rfl, rfl⟩ := hx
      obtain ⟨ol, hf⟩ := hok _ (List.mem_cons_self ..)
      simp only at ol hf
      have hv := valF_nn ol hn0
      simp only at hv
      have lf : f.length = m + 1 := ol.len
      simp only [List.length_cons] at hlen
      have hTl : ((valF f ns).toNat * w.length) + t.length ≤ 16000000 := by
        rw [hrow] at hT
        simp only [List.map_cons, List.flatten_cons, List.length_append, pw_len] at hT
        omega
      have hw1 := List.length_pos_iff.mpr ol.ne
      simp only at hw1
      have hv2 : (valF f ns).toNat * 1 ≤ (valF f ns).toNat * w.length := Nat.mul_le_mul_left _ hw1
      unfold irb_l_text_b1
      refine ok_cons ?_
      simp only [List.set_cons_zero, List.set_cons_succ]
      refine ok_app rfl _ rfl ?_
      simp only [wqE, wqA, opV_Add, opV_Mult, ownB, Bool.not_false, Nat.reduceBEq, Bool.or_self, Bool.or_true, tab2_q, List.getElem?_cons_zero, List.getElem?_cons_succ, List.set_cons_zero, List.set_cons_succ, Option.some.injEq, exists_eq_left', Option.map_some, true_and, Bool.not_false]
      refine ⟨f, ns, rfl, ol.hd.1, by omega, fun i hi => ?_, fun i hi => ?_, ?_⟩
      · have := hf i hi
        exact Nat.lt_of_lt_of_le (show i.natAbs < 2 ^ 24 by omega) (by decide)
      · have := hn i hi
        exact Nat.lt_of_lt_of_le (show i.natAbs < 2 ^ 24 by omega) (by decide)
      simp only [addV_ss, mulV_si, List.length_map]
      have hc : w.length * (valF f ns).toNat = (valF f ns).toNat * w.length := Nat.mul_comm _ _
      refine ⟨by omega, by omega, by omega, ?_, by omega, ok_nil (hN' _ _ ⟨rfl, dn, acc ++ [pw (valF f ns).toNat w ++ t], some (.str t), some (.str w), some (.tup (f.map .int)), rfl, fun y hy => hok y (by simp [hy]), by simp; omega, by rw [hrow]; simp, by simp [pw]⟩)⟩
      show (pw (valF f ns).toNat w).length + t.length ≤ _
      rw [pw_len]; omega
  · rintro env g' ⟨rfl, dn, acc, o3, o4, o5, hx, hok, hlen, hrow, rfl⟩
    cases dn with
    | cons y dn => cases hx
    | nil =>
      simp only [List.map_nil, List.flatten_nil, List.append_nil] at hrow
      unfold irb_l_text_2
      refine ok_cons (ok_ret ?_)
      simp only [wqE, wqA, mtV_join_r, mtO_join, flatD_s, ownB, Bool.not_false, Bool.or_self, List.getElem?_cons_zero, List.getElem?_cons_succ, Option.some.injEq, exists_eq_left', true_and, Bool.not_false]
      refine ⟨_, strsF_mapX _, by rw [lenL_flatX, ← hrow]; simp; omega, ?_⟩
      rw [join_nil, ← hrow]
      exact k
end G57
set_option Elab.async false
set_option linter.all false
set_option maxRecDepth 100000
set_option maxHeartbeats 1000000
namespace G57
open PySem L2
structure LongR (m : Nat) (r : List It) (a w : Wd) (f : List Int) : Prop where
  e : r = lets a ++ [.inr (w, f)]
  la : lowW a
  za : a.length ≤ 8
  ol : okL m (w, f)
  zw : w.length ≤ 290
  zf : ∀ i ∈ f, i ≤ 999
  f0 : f.headD 0 = 0
end G57
set_option Elab.async false
set_option linter.all false
set_option maxRecDepth 100000
set_option maxHeartbeats 1000000
namespace G57
open PySem L2
theorem rep_zero (n : Nat) : (List.replicate n [D.int 0]).flatten = (List.replicate n (0 : Int)).map D.int := by
  induction n with
  | zero => rfl
  | succ n ih => rw [List.replicate_succ, List.flatten_cons, ih, List.replicate_succ]; rfl
end G57
set_option Elab.async false
set_option linter.all false
set_option maxRecDepth 100000
set_option maxHeartbeats 1000000
namespace G57
open PySem L2
def sw (r : List It) : Nat := ((lps r).map fun l => l.1.length).sum
theorem szT_txl : ∀ r : List It, szT (txl r) = nl r
  | [] => rfl
  | .inl c :: r => by
    have := szT_txl r
    simp only [txl, szT, txs, List.map_cons, List.sum_cons, nl, List.length_cons] at this ⊢
    omega
  | .inr l :: r => by
    have := szT_txl r
    simp only [txl, szT, txs, List.map_cons, List.sum_cons, nl, List.length_nil] at this ⊢
    omega
theorem tsz_le {m V : Nat} : ∀ {r : List It}, (∀ l ∈ lps r, (valF l.2 (ones m)).toNat ≤ V) → tsz m r ≤ nl r + V * sw r
  | [], _ => by simp [tsz, rowT]
  | .inl c :: r, h => by
    have := tsz_le (r := r) (m := m) (V := V) (fun l hl => h l (by simpa [lps] using hl))
    rw [tsz_inl]
    simp only [nl, sw, lps] at this ⊢
    omega
  | .inr l :: r, h => by
    have := tsz_le (r := r) (m := m) (V := V) (fun l hl => h l (by simp [lps, hl]))
    rw [tsz_inr]
    have hl := h l (by simp [lps])
    have : (valF l.2 (ones m)).toNat * l.1.length ≤ V * l.1.length := Nat.mul_le_mul_right _ hl
    simp only [nl, sw, lps, List.map_cons, List.sum_cons, Nat.mul_add] at *
    omega
theorem sw_le : ∀ {ls : List Lp}, (∀ l ∈ ls, 0 ≤ l.2.headD 0) → (((ls.map fun l => l.1.length).sum : Nat) : Int) ≤ szL ls
  | [], _ => by simp [szL]
  | l :: ls, h => by
    have ih := sw_le (ls := ls) (fun k hk => h k (by simp [hk]))
    have h0 := h l (by simp)
    simp only [szL, List.map_cons, List.sum_cons] at ih ⊢
    have : (l.1.length : Int) * 1 ≤ (l.1.length : Int) * (1 + l.2.headD 0) := Int.mul_le_mul_of_nonneg_left (by omega) (by omega)
    push_cast
    omega
theorem val_le {m : Nat} {f : List Int} (hm : m ≤ 3) (hl : f.length = m + 1) (h0 : f.headD 0 ≤ 3) (h : ∀ i ∈ f, 0 ≤ i ∧ i ≤ 3) : (valF f (ones m)).toNat ≤ 12 := by
  have := dot_le (M := 3) (B := 1) (by decide) (by decide) f.tail (ones m) (fun a ha => h a (List.mem_of_mem_tail ha)) (fun n hn => by rw [List.eq_of_mem_replicate hn]; decide)
  have e : f.tail.length = m := by rw [List.length_tail]; omega
  rw [e] at this
  unfold valF
  omega
theorem OkB.to300 {m : Nat} {most : Int} {ps : List Pg} (h : OkB m most ps) (hm : most ≤ 300) : OkB m 300 ps := ⟨h.m3, h.ok, h.len, h.lp, by have := h.sz; omega⟩
theorem OkB.okX {m : Nat} {ps : List Pg} (h : OkB m 300 ps) : OkX m (rowPs ps) := by
  have fm := fmQs ps 3 true h.ok
  have hd := h.hd
  have s1 := szT_txl (rowPs ps)
  have s2 := sw_le hd
  have sz := h.sz
  have nn := szL_nn hd
  have t := tsz_le (m := m) (V := 12) (r := rowPs ps) (fun l hl => val_le h.m3 (fm l hl).1.1 (fm l hl).1.2.2 (fm l hl).1.2.1)
  refine ⟨fun x hx => ?_, ?_, by have := h.m3; omega⟩
  · cases x with
    | inl c => exact h.low _ hx
    | inr l =>
      obtain ⟨f1, f2, f3, f4⟩ := fm l (mem_lps hx)
      exact ⟨f3, f4, f1.1, fun i hi => (f1.2.1 i hi).1, f2⟩
  · have : 12 * sw (rowPs ps) ≤ 12 * 300 := Nat.mul_le_mul_left _ (by unfold sw; omega)
    omega
theorem wzs_eq : ∀ {r : List It}, (∀ l ∈ lps r, 0 ≤ l.2.headD 0) → (wzs r : Int) = nl r + szL (lps r) + (lps r).length
  | [], _ => by simp [wzs, szL, nl, lps]
  | .inl c :: r, h => by
    have := wzs_eq (r := r) (fun l hl => h l (by simpa [lps] using hl))
    simp only [wzs, List.map_cons, List.sum_cons, wz, lps, nl] at this ⊢
    omega
  | .inr l :: r, h => by
    have := wzs_eq (r := r) (fun l hl => h l (by simp [lps, hl]))
    have h0 := h l (by simp [lps])
    simp only [wzs, List.map_cons, List.sum_cons, wz, lps, nl, szL, List.length_cons] at this ⊢
    obtain ⟨c, hc⟩ := Int.eq_ofNat_of_zero_le h0
    rw [hc] at *
    push_cast at *
    simp at *
    omega
theorem OkX.okPl {m : Nat} {r : List It} (h : OkX m r) : OkPl m r := by
  obtain ⟨t1, t2, t3, t4⟩ := tsz_lps h.ok
  have sz := h.sz
  refine ⟨by omega, lowR_all.mpr fun x hx => ?_, fun l hl => ?_, h.m3⟩
  · have := h.ok x hx
    cases x with
    | inl c => simp only [itP]; simp only [okI] at this; omega
    | inr l => simp only [itP]; exact fun c hc => by have := this.low c hc; omega
  · have ol := okA_lp h.ok l hl
    refine ⟨ol.ne, ol.len, fun i hi => ?_, (okL.hd (w := l.1) (f := l.2) ol).2⟩
    have a := ol.nn i hi
    have b := (t4 l hl).2 i hi
    exact Nat.lt_of_lt_of_le (show i.natAbs < 2 ^ 24 by omega) (Nat.pow_le_pow_right (by decide) (by decide))
theorem OkX.okRow {m : Nat} {r : List It} (h : OkX m r) : OkRow m r := by
  obtain ⟨t1, t2, t3, t4⟩ := tsz_lps h.ok
  have sz := h.sz
  refine ⟨by omega, lowT_all.mpr fun x hx => ?_, fun l hl => ?_⟩
  · have := h.ok x hx
    cases x with
    | inl c => simpa only [itP, okI] using this
    | inr l => simp only [itP]; exact fun c hc => this.low c hc
  · have ol := okA_lp h.ok l hl
    exact ⟨ol.ne, ol.op, ol.len, ol.nn⟩
theorem OkX.sh {m : Nat} {r : List It} (h : OkX m r) (hm : m ≤ 3) (hl : (lps r).length ≤ 12) (hz : rsize r ≤ 400) : Sh 4 300000 (encRw m r) := by
  obtain ⟨w1, w2⟩ := lowT_words h.okRow.low
  obtain ⟨t1, t2, t3, t4⟩ := tsz_lps h.ok
  have sz := h.sz
  have tl := txl_len r
  have tt := txl_le r
  have lr := len_rsize r
  refine (Sh.tup (n := 3) (k := 90000) (m := 3) (fun e he => ?_) (by simp)).up (by omega) (by omega)
  simp only [List.mem_cons, List.not_mem_nil, or_false] at he
  rcases he with rfl | rfl | rfl
  · exact (Sh.int (n := 0) (Nat.lt_of_le_of_lt (show ((m : Int)).natAbs ≤ 3 by omega) (by decide))).up (by omega) (by omega)
  · refine (Sh.tup (n := 0) (k := 4002) (m := 13) (fun e he => ?_) (by rw [List.length_map]; omega)).up (by omega) (by omega)
    obtain ⟨t, ht, rfl⟩ := List.mem_map.mp he
    exact (Sh.str (n := 0) (k := 400) (w4 (w1 t ht)) (by have := tt.2 t ht; omega)).up (by omega) (by omega)
  · refine (Sh.tup (n := 2) (k := 5000) (m := 12) (fun e he => ?_) (by rw [List.length_map]; omega)).up (by omega) (by omega)
    obtain ⟨l, hl, rfl⟩ := List.mem_map.mp he
    have ol := okA_lp h.ok l hl
    have wz := word_rsize r l hl
    exact (Sh.two (n := 1) (k := 4002) (l := 4 * 43 + 3) ((Sh.str (n := 0) (k := 400) (w4 (w2 l hl)) (by omega)).up (by omega) (by omega)) (Sh.ints (n := 0) (k := 4) (fun i hi => Nat.lt_of_le_of_lt (show i.natAbs ≤ 2000000 by have := (t4 l hl).2 i hi; have := ol.nn i hi; omega) (by decide)) (by have := ol.len; omega))).up (by omega) (by omega)
theorem map_injX {α β : Type} {f : α → β} (hf : ∀ a b, f a = f b → a = b) : ∀ xs ys : List α, xs.map f = ys.map f → xs = ys
  | [], [], _ => rfl
  | [], _ :: _, h => by simp at h
  | _ :: _, [], h => by simp at h
  | x :: xs, y :: ys, h => by
    simp only [List.map_cons, List.cons.injEq] at h
    rw [hf x y h.1, map_injX hf xs ys h.2]
theorem encLp_inj {a b : Lp} (h : encLp a = encLp b) : a = b := by
  obtain ⟨w, f⟩ := a
  obtain ⟨v, g⟩ := b
  simp only [encLp, D.tup.injEq, List.cons.injEq, D.str.injEq, and_true] at h
  have : f = g := by
    have h2 := h.2
    have : ∀ (f g : List Int), f.map D.int = g.map D.int → f = g := fun f => by
      induction f with
      | nil => intro g e; cases g with
        | nil => rfl
        | cons => simp at e
      | cons a f ih => intro g e; cases g with
        | nil => simp at e
        | cons b g =>
          simp only [List.map_cons, List.cons.injEq, D.int.injEq] at e
          rw [e.1, ih g e.2]
    exact this f g h2
  rw [h.1, this]
theorem encRw_inj {m : Nat} {r r' : List It} (h : encRw m r = encRw m r') : r = r' := by
  unfold encRw encTx encLs at h
  simp only [D.tup.injEq, List.cons.injEq, and_true, true_and] at h
  have e1 : txl r = txl r' := map_injX (fun a b e => by simpa using e) _ _ h.1
  have e2 : lps r = lps r' := map_injX (fun a b e => encLp_inj e) _ _ h.2
  unfold txl at e1
  simp only [List.cons.injEq] at e1
  rw [row_split r, row_split r', e1.1, e1.2, e2]
theorem OkX.cmpR {m : Nat} {r : List It} (h : OkX m r) : CmpN 5 (encRw m r) := by
  refine CmpN.tup fun e he => ?_
  simp only [List.mem_cons, List.not_mem_nil, or_false] at he
  rcases he with rfl | rfl | rfl
  · exact .int
  · refine CmpN.le (n := 1) (CmpN.tup fun e he => ?_) (by omega)
    obtain ⟨t, ht, rfl⟩ := List.mem_map.mp he
    exact .str (w4 ((lowT_words h.okRow.low).1 t ht))
  · exact h.cmp
theorem dot_B {B : Int} (hB : 0 ≤ B) : ∀ (t ns : List Int) (m : Nat), ns.length = m → t.length = m → (∀ i ∈ t, 0 ≤ i) → (∀ n ∈ ns, n ≤ B) → dot t ns ≤ B * dot t (ones m)
  | [], ns, m, _, _, _, _ => by simp [dot]
  | a :: t, [], m, h1, h2, _, _ => by simp at h1; subst h1; simp at h2
  | a :: t, n :: ns, m, h1, h2, h3, h4 => by
    obtain ⟨m, rfl⟩ : ∃ k, m = k + 1 := ⟨ns.length, by simpa using h1.symm⟩
    have ih := dot_B hB t ns m (by simpa using h1) (by simpa using h2) (fun i hi => h3 i (by simp [hi])) (fun i hi => h4 i (by simp [hi]))
    have ha := h3 a (by simp)
    have hn := h4 n (by simp)
    have e : dot (a :: t) (ones (m + 1)) = a + dot t (ones m) := by simp [ones, List.replicate_succ, dot]
    rw [e, dot, Int.mul_add]
    have : a * n ≤ a * B := Int.mul_le_mul_of_nonneg_left hn ha
    rw [Int.mul_comm B a]
    omega
theorem text_B {m B : Nat} (hB : 1 ≤ B) {ns : List Int} (hl : ns.length = m) (h0 : ∀ n ∈ ns, 0 ≤ n) (hn : ∀ n ∈ ns, n ≤ B) : ∀ {r : List It}, okA m r → (rowT ns r).length ≤ B * tsz m r
  | [], _ => by simp [rowT]
  | .inl c :: r, h => by
    have := text_B hB hl h0 hn (okA_cons.mp h).2
    rw [tsz_inl]
    simp only [rowT, itTx, List.length_append, List.length_singleton, Nat.mul_add]
    omega
  | .inr l :: r, h => by
    have := text_B hB hl h0 hn (okA_cons.mp h).2
    have ol := (okA_cons.mp h).1
    rw [tsz_inr]
    simp only [rowT, itTx, List.length_append, runT_pw, pw_len, Nat.mul_add]
    have v1 := valF_nn ol h0
    have v2 := valF_nn ol (ones_nn m)
    have ll := ol.len
    have vb : valF l.2 ns ≤ B * valF l.2 (ones m) := by
      have d := dot_B (B := B) (by omega) l.2.tail ns m hl (by rw [List.length_tail]; omega) (fun i hi => ol.nn i (List.mem_of_mem_tail hi)) hn
      have hd := (okL.hd (w := l.1) (f := l.2) ol).2
      have : 1 * l.2.headD 0 ≤ (B : Int) * l.2.headD 0 := Int.mul_le_mul_of_nonneg_right (by omega) hd
      unfold valF
      rw [Int.mul_add]
      omega
    have : (valF l.2 ns).toNat ≤ B * (valF l.2 (ones m)).toNat := by
      obtain ⟨a, ha⟩ := Int.eq_ofNat_of_zero_le v1
      obtain ⟨b, hb⟩ := Int.eq_ofNat_of_zero_le v2
      rw [ha, hb] at vb ⊢
      rw [Int.toNat_natCast, Int.toNat_natCast]
      exact_mod_cast vb
    have := Nat.mul_le_mul_right l.1.length this
    rw [Nat.mul_assoc] at this
    omega
end G57
set_option Elab.async false
set_option linter.all false
set_option maxRecDepth 100000
set_option maxHeartbeats 1000000
namespace G57
open PySem L2
def irb_l_changed_b1_1 : Sx := .cons (.ret (.tup (.cons (.var 2) (.cons (.bin .Add (.bin .Add (.sl (.var 3) (.nil) (.cons (.var 6) .nil)) (.tup (.cons (.var 9) (.nil)))) (.sl (.var 3) (.cons (.bin .Add (.var 6) (.con (.int 1))) .nil) (.nil))) (.cons (.var 4) (.nil)))))) .nil
def irb_l_changed_b1 : Sx := .cons (.asg (.v 9) (.call 1 (.cons (.var 0) (.cons (.lst (.cons (.bin .Add (.idx (.var 3) (.var 6)) (.con (.str [97]))) (.cons (.bin .Add (.con (.str [98])) (.idx (.var 3) (.var 6))) (.cons (.sl (.idx (.var 3) (.var 6)) (.cons (.con (.int 1)) .nil) (.nil)) (.cons (.sl (.idx (.var 3) (.var 6)) (.nil) (.cons (.neg (.con (.int 1))) .nil)) (.nil)))))) (.nil))))) irb_l_changed_b1_1
def irb_l_changed_b2 : Sx := .cons (.asg (.v 7) (.call 1 (.cons (.var 0) (.cons (.lst (.cons (.bin .Add (.var 7) (.con (.str [97]))) (.cons (.bi .rev (.cons (.var 7) .nil)) (.cons (.bin .Add (.con (.str [98])) (.var 7)) (.cons (.bin .Add (.sl (.var 7) (.cons (.con (.int 1)) .nil) (.nil)) (.sl (.var 7) (.nil) (.cons (.con (.int 1)) .nil))) (.nil)))))) (.nil))))) .nil
def irb_l_changed_b3 : Sx := .cons (.asg (.v 8) (.bin .Add (.tup (.cons (.bin .Add (.idx (.var 8) (.con (.int 0))) (.con (.int 1))) (.nil))) (.sl (.var 8) (.cons (.con (.int 1)) .nil) (.nil)))) .nil
def irb_l_changed_b4_1 : Sx := .cons (.asg (.v 8) (.bin .Add (.bin .Add (.sl (.var 8) (.nil) (.cons (.var 10) .nil)) (.tup (.cons (.bin .Add (.idx (.var 8) (.var 10)) (.con (.int 1))) (.nil)))) (.sl (.var 8) (.cons (.bin .Add (.var 10) (.con (.int 1))) .nil) (.nil)))) .nil
def irb_l_changed_b4 : Sx := .cons (.asg (.v 10) (.bin .Add (.con (.int 1)) (.call 0 (.cons (.var 0) (.cons (.var 2) (.nil)))))) irb_l_changed_b4_1
def irb_l_changed_8 : Sx := .cons (.ret (.tup (.cons (.var 2) (.cons (.var 3) (.cons (.bin .Add (.bin .Add (.sl (.var 4) (.nil) (.cons (.var 6) .nil)) (.tup (.cons (.tup (.cons (.var 7) (.cons (.var 8) (.nil)))) (.nil)))) (.sl (.var 4) (.cons (.bin .Add (.var 6) (.con (.int 1))) .nil) (.nil))) (.nil)))))) .nil
def irb_l_changed_7 : Sx := .cons (.iff (.cmp .Gt (.var 5) (.con (.int 2))) (irb_l_changed_b4) (.nil)) irb_l_changed_8
def irb_l_changed_6 : Sx := .cons (.iff (.cmp .Eq (.var 5) (.con (.int 2))) (irb_l_changed_b3) (.nil)) irb_l_changed_7
def irb_l_changed_5 : Sx := .cons (.iff (.cmp .Eq (.var 5) (.con (.int 1))) (irb_l_changed_b2) (.nil)) irb_l_changed_6
def irb_l_changed_4 : Sx := .cons (.asg (.t (.cons (.v 7) (.cons (.v 8) (.nil)))) (.idx (.var 4) (.var 6))) irb_l_changed_5
def irb_l_changed_3 : Sx := .cons (.asg (.v 6) (.call 0 (.cons (.var 0) (.cons (.bi .len (.cons (.var 4) (.nil))) (.nil))))) irb_l_changed_4
def irb_l_changed_2 : Sx := .cons (.iff (.or (.cmp .Eq (.var 5) (.con (.int 0))) (.cmp .Eq (.var 4) (.tup (.nil)))) (irb_l_changed_b1) (.nil)) irb_l_changed_3
def irb_l_changed_1 : Sx := .cons (.asg (.t (.cons (.v 5) (.cons (.v 6) (.nil)))) (.tup (.cons (.call 0 (.cons (.var 0) (.cons (.con (.int 5)) (.nil)))) (.cons (.call 0 (.cons (.var 0) (.cons (.bi .len (.cons (.var 3) (.nil))) (.nil)))) (.nil))))) irb_l_changed_2
def irb_l_changed : Sx := .cons (.asg (.t (.cons (.v 2) (.cons (.v 3) (.cons (.v 4) (.nil))))) (.var 1)) irb_l_changed_1
structure DecT (r : List It) (j : Nat) (A0 : List It) (la : Wd) (B0 : List It) : Prop where
  e : r = A0 ++ (lets la ++ B0)
  ea : A0 = [] ∨ ∃ A1 k, A0 = A1 ++ [.inr k]
  eb : B0 = [] ∨ ∃ k B1, B0 = .inr k :: B1
  n : (lps A0).length = j
theorem decT_of {r : List It} {j : Nat} (h : j ≤ (lps r).length) : ∃ A0 la B0, DecT r j A0 la B0 := by
  rcases Nat.lt_or_ge j (lps r).length with h1 | h1
  · obtain ⟨A0, la, l, fb, B0, d⟩ := dec_of h1
    exact ⟨A0, la, .inr l :: (lets fb ++ B0), by rw [d.e]; simp, d.ea, .inr ⟨_, _, rfl⟩, d.n⟩
  · obtain ⟨x, h2 | ⟨A1, k, h2⟩⟩ := ends r
    · refine ⟨[], x, [], by rw [h2]; simp, .inl rfl, .inl rfl, ?_⟩
      rw [h2, lps_lets] at h1 h
      simp [lps] at h h1 ⊢
      omega
    · refine ⟨A1 ++ [.inr k], x, [], by rw [h2]; simp, .inr ⟨_, _, rfl⟩, .inl rfl, ?_⟩
      rw [h2, lps_app] at h h1
      simp only [lps, lps_lets, lps_app, List.length_append, List.length_cons, List.length_nil] at h h1 ⊢
      omega
theorem DecT.tx {r A0 B0 : List It} {j : Nat} {la : Wd} (h : DecT r j A0 la B0) (y : Wd) : txl (A0 ++ (lets y ++ B0)) = ini A0 ++ y :: (txs B0).2 ∧ lps (A0 ++ (lets y ++ B0)) = lps A0 ++ lps B0 ∧ (ini A0).length = j := by
  refine ⟨?_, ?_, by rw [ini_len, h.n]⟩
  · rw [txl_ea h.ea]
    congr 1
    unfold txl
    rw [txs_lets, txs_eb h.eb, List.append_nil]
  · simp only [lps_app, lps_lets, List.nil_append]
theorem rsize_lets' : ∀ la : Wd, rsize (lets la) = la.length
  | [] => rfl
  | c :: u => by show rsize (.inl c :: lets u) = _; rw [rsize, rsize_lets' u, List.length_cons]
def vB (m V : Nat) (r : List It) : Prop := ∀ l ∈ lps r, (valF l.2 (ones m)).toNat ≤ V
structure Chg (m V : Nat) (r r' : List It) : Prop where
  ok : okA m r'
  nlp : (lps r').length = (lps r).length
  vb : vB m (V + 1) r'
  sw : sw r' ≤ sw r + 1
  nl : nl r' ≤ nl r + 1
  tz : tsz m r' ≤ tsz m r + V + G57.sw r + 2
  wz : ∀ C : Nat, (∀ l ∈ lps r, (l.2.headD 0).toNat ≤ C) → wzs r' ≤ wzs r + G57.sw r + C + 1
  hc : ∀ C : Nat, (∀ l ∈ lps r, (l.2.headD 0).toNat ≤ C) → ∀ l ∈ lps r', (l.2.headD 0).toNat ≤ C + 1
theorem sw_app (a b : List It) : sw (a ++ b) = sw a + sw b := by simp [sw, lps_app]
theorem chg_text {m V : Nat} {A0 B0 : List It} {la y : Wd} (ok : okA m (A0 ++ (lets la ++ B0))) (hv : vB m V (A0 ++ (lets la ++ B0))) (hy : lowW y) (hl : y.length ≤ la.length + 1) : Chg m V (A0 ++ (lets la ++ B0)) (A0 ++ (lets y ++ B0)) := by
  obtain ⟨o1, o2⟩ := okA_app.mp ok
  obtain ⟨o3, o4⟩ := okA_app.mp o2
  refine ⟨okA_app.mpr ⟨o1, okA_app.mpr ⟨okA_lets.mpr hy, o4⟩⟩, by simp only [lps_app, lps_lets, List.length_append], ?_, by simp only [sw_app]; simp [sw, lps_lets], by simp only [nl_app, nl_lets]; omega, ?_, fun C hC => by simp only [wzs_app, wzs_lets]; omega, fun C hC l hl => by have := hC l (by simpa [lps_app, lps_lets] using hl); omega⟩
  · intro l h
    have : l ∈ lps (A0 ++ (lets la ++ B0)) := by simpa [lps_app, lps_lets] using h
    have := hv l this
    omega
  · simp only [tsz_app]
    have e : ∀ w : Wd, tsz m (lets w) = w.length := fun w => by
      unfold tsz
      rw [rowT_lets]
    rw [e, e]
    omega
theorem chg_loop {m V : Nat} {A B : List It} {l l' : Lp} (ok : okA m (A ++ .inr l :: B)) (hv : vB m V (A ++ .inr l :: B)) (hl : okL m l')
    (h : (l'.1.length = l.1.length + 1 ∧ l'.2 = l.2) ∨ (l'.1.length = l.1.length ∧ (valF l'.2 (ones m)).toNat ≤ (valF l.2 (ones m)).toNat + 1 ∧ (l'.2.headD 0).toNat ≤ (l.2.headD 0).toNat + 1)) : Chg m V (A ++ .inr l :: B) (A ++ .inr l' :: B) := by
  obtain ⟨o1, o2⟩ := okA_app.mp ok
  obtain ⟨o3, o4⟩ := okA_cons.mp o2
  have hV := hv l (by rw [lps_app]; simp [lps])
  have hle : l'.1.length ≤ l.1.length + 1 := by rcases h with h | h <;> omega
  have hvl : (valF l'.2 (ones m)).toNat ≤ (valF l.2 (ones m)).toNat + 1 := by
    rcases h with h | h
    · rw [h.2]; omega
    · exact h.2.1
  have hcl : (l'.2.headD 0).toNat ≤ (l.2.headD 0).toNat + 1 := by
    rcases h with h | h
    · rw [h.2]; omega
    · exact h.2.2
  refine ⟨okA_app.mpr ⟨o1, okA_cons.mpr ⟨hl, o4⟩⟩, by simp [lps_app, lps], ?_, by simp only [sw_app]; simp only [sw, lps, List.map_cons, List.sum_cons]; omega, by simp only [nl_app, G57.nl]; omega, ?_, fun C hC => ?_, fun C hC k hk => ?_⟩
  · intro k hk
    rw [lps_app] at hk
    simp only [lps, List.mem_append, List.mem_cons] at hk
    rcases hk with hk | rfl | hk
    · have := hv k (by rw [lps_app]; simp [hk]); omega
    · omega
    · have := hv k (by rw [lps_app]; simp [lps, hk]); omega
  · simp only [tsz_app, tsz_inr]
    have sl : l.1.length ≤ sw (A ++ .inr l :: B) := by simp only [sw_app]; simp only [sw, lps, List.map_cons, List.sum_cons]; omega
    rcases h with ⟨h1, h2⟩ | ⟨h1, h2, _⟩
    · rw [h1, h2, Nat.mul_succ]; omega
    · rw [h1]
      have := Nat.mul_le_mul_right l.1.length h2
      rw [Nat.succ_mul] at this
      omega
  · have sl : l.1.length ≤ sw (A ++ .inr l :: B) := by simp only [sw_app]; simp only [sw, lps, List.map_cons, List.sum_cons]; omega
    have cl := hC l (by rw [lps_app]; simp [lps])
    simp only [wzs_app]
    simp only [wzs, List.map_cons, List.sum_cons, G57.wz]
    rcases h with ⟨h1, h2⟩ | ⟨h1, _, h2⟩
    · rw [h1, h2, Nat.succ_mul]; omega
    · rw [h1]
      have := Nat.mul_le_mul_left l.1.length (show 1 + (l'.2.headD 0).toNat ≤ 1 + (l.2.headD 0).toNat + 1 by omega)
      rw [Nat.mul_succ] at this
      omega
  · rw [lps_app] at hk
    simp only [lps, List.mem_append, List.mem_cons] at hk
    rcases hk with hk | rfl | hk
    · have := hC k (by rw [lps_app]; simp [hk]); omega
    · have := hC l (by rw [lps_app]; simp [lps]); omega
    · have := hC k (by rw [lps_app]; simp [lps, hk]); omega
def sChg : Spec2 := fun ds g Q => ∃ (m V : Nat) (r : List It), ds = [dck, encRw m r] ∧ OkX m r ∧ vB m V r ∧ 4 ≤ g ∧ ∀ r', Chg m V r r' → Q (encRw m r') (g - 4)
theorem cut_m1 {α : Type} (xs : List α) : cutD xs none (some (-1)) = xs.take (xs.length - 1) := by
  unfold cutD
  have e : HT.sIx xs.length xs.length (some (-1)) = xs.length - 1 := by
    simp only [HT.sIx]
    rw [if_pos (by decide)]
    omega
  rw [e, HT.sIx_none, List.drop_zero, Nat.sub_zero]
theorem low_a {w : Wd} (h : lowW w) : lowW (w ++ [97]) ∧ lowW ([98] ++ w) := by
  constructor
  · intro c hc
    rcases List.mem_append.mp hc with hc | hc
    · exact h c hc
    · rw [List.mem_singleton.mp hc]; decide
  · intro c hc
    rcases List.mem_append.mp hc with hc | hc
    · rw [List.mem_singleton.mp hc]; decide
    · exact h c hc
theorem eqV_tnil {b : Bool} {xs : List D} {R : RK} (h : okV (.tup xs) = true) (k : R (.bl (b ^^ xs.isEmpty))) : eqV' b (.tup xs) (.tup []) R := by
  rw [eqV_tt]
  refine ⟨h, by decide, ?_⟩
  cases xs with
  | nil => exact k
  | cons x xs => exact k
theorem dot_set : ∀ {t : List Int} {m q : Nat}, t.length = m → q < m → ∃ x, t[q]? = some x ∧ dot (t.take q ++ (x + 1) :: t.drop (q + 1)) (ones m) = dot t (ones m) + 1
  | [], m, q, h, hq => by simp at h; omega
  | a :: t, 0, q, h, hq => by omega
  | a :: t, m + 1, 0, h, hq => ⟨a, rfl, by simp [ones, List.replicate_succ, dot]; omega⟩
  | a :: t, m + 1, q + 1, h, hq => by
    obtain ⟨x, h1, h2⟩ := dot_set (t := t) (m := m) (q := q) (by simpa using h) (by omega)
    refine ⟨x, by simpa using h1, ?_⟩
    simp only [ones, List.replicate_succ, List.take_succ_cons, List.drop_succ_cons, List.cons_append, dot] at h2 ⊢
    omega
theorem val_set {m : Nat} {f : List Int} {p : Nat} (hl : f.length = m + 1) (h1 : p < f.length) : ∃ x, f[p]? = some x ∧ valF (f.take p ++ (x + 1) :: f.drop (p + 1)) (ones m) = valF f (ones m) + 1 := by
  cases f with
  | nil => simp at hl
  | cons c t =>
    cases p with
    | zero => exact ⟨c, rfl, by simp [valF]; omega⟩
    | succ p =>
      obtain ⟨x, e1, e2⟩ := dot_set (t := t) (m := m) (q := p) (by simpa using hl) (by simp at hl h1; omega)
      refine ⟨x, by simpa using e1, ?_⟩
      simp only [valF, List.take_succ_cons, List.drop_succ_cons, List.cons_append, List.headD_cons, List.tail_cons]
      omega
theorem okL_up {m : Nat} {w : Wd} {f : List Int} {p : Nat} {x : Int} (h : okL m (w, f)) (hx : f[p]? = some x) : okL m (w, f.take p ++ (x + 1) :: f.drop (p + 1)) := by
  have hp : p < f.length := (List.getElem?_eq_some_iff.mp hx).1
  have x0 : 0 ≤ x := h.nn x (List.mem_of_getElem? hx)
  refine ⟨h.ne, h.low, ?_, ?_, ?_⟩
  · have := h.len
    simp at this hp ⊢; omega
  · intro i hi
    simp only [List.mem_append, List.mem_cons] at hi
    rcases hi with hi | rfl | hi
    · exact h.nn i (List.mem_of_mem_take hi)
    · omega
    · exact h.nn i (List.mem_of_mem_drop hi)
  · have op := h.op
    simp only [isOpen] at op ⊢
    cases f with
    | nil => simp at hp
    | cons c t =>
      cases p with
      | zero => simpa using op
      | succ p =>
        simp only [List.take_succ_cons, List.cons_append, List.tail_cons, List.any_append, List.any_cons, Bool.or_eq_true]
        exact .inr (.inl (by simp; omega))
theorem q_changed (N : List Str) (hN : N.length = 11) : ∀ ds g Q, sChg ds g Q → OkS (tab2 [("_law_draw", sDraw), ("_law_one", sOne)]) [] irb_l_changed { nx := fun _ g' => Q .non g', rt := Q } (startD N ds) g := by
  rintro ds g Q ⟨m, V, r, rfl, ho, hv, hg, k⟩
  rw [start_eq hN, show ([dck, encRw m r].map some ++ List.replicate (11 - [dck, encRw m r].length) none : En) = [some dck, some (encRw m r), none, none, none, none, none, none, none, none, none] from rfl]
  obtain ⟨z1, z2, z3, z4⟩ := tsz_lps ho.ok
  have sz := ho.sz
  have nT := txl_len r
  unfold irb_l_changed
  refine ok_cons (ok_asg rfl ?_)
  simp only [encRw, wqE, wqP_v, wqP_t, wqPs_n, wqPs_c, ownB, Bool.not_false, Bool.or_true, List.getElem?_cons_zero, List.getElem?_cons_succ, List.set_cons_zero, List.set_cons_succ, Option.some.injEq, exists_eq_left', true_and, Bool.not_false]
  unfold irb_l_changed_1
  refine ok_cons (ok_asg rfl ?_)
  simp only [encTx, wqE, wqA, biV_len_t, flatD_i, wqP_v, wqP_t, wqPs_n, wqPs_c, ownB, Bool.not_false, Bool.or_self, Bool.or_true, tab2_q, List.getElem?_cons_zero, List.getElem?_cons_succ, List.set_cons_zero, List.set_cons_succ, Option.some.injEq, exists_eq_left', Option.map_some, true_and, Bool.not_false, List.length_map]
  refine ⟨5, rfl, by decide, by decide, by omega, fun sort s0 s5 => ⟨((txl r).length : Int), rfl, by omega, Int.lt_of_le_of_lt (show ((txl r).length : Int) ≤ 2 ^ 24 by omega) (by decide), by omega, fun spot p0 p1 => ?_⟩⟩
  obtain ⟨j, rfl⟩ := Int.eq_ofNat_of_zero_le p0
  refine ⟨by simp, ?_⟩
  unfold irb_l_changed_2
  refine ok_cons (ok_iff ?_)
  simp only [encLs, wqE, wqT, wqA, flatD_i, cmpV_Eq, eqV_ii, ownB, Bool.not_false, Bool.or_self, List.getElem?_cons_zero, List.getElem?_cons_succ, Option.some.injEq, exists_eq_left', Bool.false_xor, D.bl.injEq, true_and, decide_eq_true_eq, if_true, Bool.not_false]
  have B1 : OkS (tab2 [("_law_draw", sDraw), ("_law_one", sOne)]) [] irb_l_changed_b1 { nx := fun env g => OkS (tab2 [("_law_draw", sDraw), ("_law_one", sOne)]) [] irb_l_changed_3 { nx := fun _ g' => Q .non g', rt := Q } env g, rt := Q } [some dck, some (encRw m r), some (.int m), some (encTx r), some (encLs r), some (.int sort), some (.int j), none, none, none, none] (g - 1 - 1) := by
    obtain ⟨A0, la, B0, hd⟩ := decT_of (r := r) (j := j) (by omega)
    obtain ⟨t1, t2, t3⟩ := hd.tx la
    rw [← hd.e] at t1 t2
    have at1 : atI ((txl r).map D.str) (j : Int) = some (.str la) := by
      rw [t1, List.map_append, List.map_cons]
      exact at_ini (by rw [List.length_map, t3])
    have hla : lowW la := okA_lets.mp (okA_app.mp (okA_app.mp (hd.e ▸ ho.ok)).2).1
    have zla : la.length ≤ 4000000 := by
      have := rsize_app A0 (lets la ++ B0)
      have e2 := rsize_app (lets la) B0
      have e3 := rsize_lets' la
      rw [← hd.e] at this
      omega
    refine ok_less (g' := g - 3) (by omega) ?_
    unfold irb_l_changed_b1
    refine ok_cons (ok_asg rfl ?_)
    simp only [encTx, wqE, wqA, wqO, addV_ss, negV_i, idxV_t, slV_s, flatD_i, flatD_s, opV_Add, wqP_v, ownB, Bool.not_false, Bool.or_self, Bool.or_true, tab2_q, List.getElem?_cons_zero, List.getElem?_cons_succ, List.set_cons_zero, List.set_cons_succ, Option.some.injEq, exists_eq_left', Option.map_some, D.int.injEq, true_and, Bool.not_false, at1]
    refine ⟨by simp; omega, by simp; omega, by omega, by omega, by simp, _, _, rfl, rfl, by simp, by simp, by omega, fun x hx => ?_⟩
    obtain ⟨y, rfl, hy, hl⟩ : ∃ y : Wd, x = .str y ∧ lowW y ∧ y.length ≤ la.length + 1 := by
      simp only [List.mem_cons, List.not_mem_nil, or_false] at hx
      rcases hx with rfl | rfl | rfl | rfl
      · exact ⟨_, rfl, (low_a hla).1, by simp⟩
      · exact ⟨_, rfl, (low_a hla).2, by simp⟩
      · rw [show cutD la (some 1) none = la.drop 1 from cut_d la 1]
        exact ⟨_, rfl, fun c hc => hla c (List.mem_of_mem_drop hc), by simp; omega⟩
      · rw [cut_m1]
        exact ⟨_, rfl, fun c hc => hla c (List.mem_of_mem_take hc), by simp; omega⟩
    obtain ⟨q1, q2, q3⟩ := hd.tx y
    unfold irb_l_changed_b1_1
    refine ok_cons (ok_ret ?_)
    simp only [encLs, wqE, wqA, wqO, addV_ii, addV_tt, slV_t, flatD_i, opV_Add, ownB, Bool.not_false, Bool.or_self, Bool.or_true, List.getElem?_cons_zero, List.getElem?_cons_succ, Option.some.injEq, exists_eq_left', D.int.injEq, true_and, Bool.not_false, cut_h]
    rw [show (j : Int) + 1 = ((j + 1 : Nat) : Int) by omega, cut_d, ← List.map_take, ← List.map_drop, t1, take_ini t3, drop_ini t3]
    have e1 : (txl r).length = (ini A0).length + 1 + (txs B0).2.length := by rw [t1]; simp; omega
    simp only [List.length_map, List.drop_succ_cons, List.drop_zero, List.length_append, List.length_cons, List.length_nil]
    repeat (with_reducible refine And.intro (by first | omega | (simp; done) | (simp; omega)) ?_)
    have hc := chg_text (m := m) (V := V) (y := y) (by rw [← hd.e]; exact ho.ok) (by rw [← hd.e]; exact hv) hy hl
    rw [← hd.e] at hc
    have := k _ hc
    rw [show g - 3 - 1 = g - 4 by omega]
    unfold encRw encTx encLs at this
    rw [q1, q2] at this
    rw [t2]
    simpa using this
  have okL0 : okV (.tup ((lps r).map encLp)) = true := by
    refine CmpN.okV (n := 4) (CmpN.tup fun d hd => ?_) (by decide)
    obtain ⟨l, hl, rfl⟩ := List.mem_map.mp hd
    refine CmpN.tup fun e he => ?_
    simp only [List.mem_cons, List.not_mem_nil, or_false] at he
    rcases he with rfl | rfl
    · exact .str fun c hc => by have := (okA_lp ho.ok l hl).low c hc; omega
    · refine CmpN.tup fun e he => ?_
      obtain ⟨i, _, rfl⟩ := List.mem_map.mp he
      exact .int
  by_cases c0 : sort = 0
  · simp only [if_true, c0]
    subst c0
    exact B1
  simp only [if_false, c0]
  refine ⟨by simp, eqV_tnil okL0 ?_⟩
  by_cases c1 : lps r = []
  · rw [show ((lps r).map encLp).isEmpty = true by rw [c1]; rfl]
    simp only [exists_eq_left', Bool.false_xor, D.bl.injEq, if_true]
    exact B1
  rw [show ((lps r).map encLp).isEmpty = false by cases h : lps r with
    | nil => exact absurd h c1
    | cons => rfl]
  simp only [exists_eq_left', Bool.false_xor, D.bl.injEq, if_false, Bool.false_eq_true]
  refine ok_nil ?_
  have pl := List.length_pos_iff.mpr c1
  unfold irb_l_changed_3
  refine ok_cons (ok_asg rfl ?_)
  simp only [wqE, wqA, biV_len_t, wqP_v, ownB, Bool.not_false, Bool.or_self, Bool.or_true, tab2_q, List.getElem?_cons_zero, List.getElem?_cons_succ, List.set_cons_zero, List.set_cons_succ, Option.some.injEq, exists_eq_left', Option.map_some, true_and, Bool.not_false, List.length_map]
  refine ⟨((lps r).length : Int), rfl, by omega, Int.lt_of_le_of_lt (show ((lps r).length : Int) ≤ 2 ^ 24 by omega) (by decide), by omega, fun spot2 p2 p3 => ?_⟩
  obtain ⟨i, rfl⟩ := Int.eq_ofNat_of_zero_le p2
  obtain ⟨A0, la, ⟨w, f⟩, fb, B0, hd⟩ := dec_of (r := r) (j := i) (by omega)
  obtain ⟨ol, lla, lfb, zw, zla, zfb, zl, zf⟩ := ho.dec hd
  obtain ⟨t1, t2, t3⟩ := hd.at
  obtain ⟨x1, x2, x3⟩ := hd.tx
  unfold irb_l_changed_4
  refine ok_cons (ok_asg rfl ?_)
  simp only [wqE, idxV_t, wqP_v, wqP_t, wqPs_n, wqPs_c, ownB, Bool.not_false, Bool.or_self, List.getElem?_cons_zero, List.getElem?_cons_succ, List.set_cons_zero, List.set_cons_succ, Option.some.injEq, exists_eq_left', true_and, Bool.not_false, t3, encLp]
  have fin : ∀ (w' : Wd) (f' : List Int) (g' : Nat) (o10 : Option D), g - 4 ≤ g' → okL m (w', f') → (w'.length = w.length + 1 ∧ f' = f ∨ w'.length = w.length ∧ (valF f' (ones m)).toNat ≤ (valF f (ones m)).toNat + 1 ∧ (f'.headD 0).toNat ≤ (f.headD 0).toNat + 1) →
      OkS (tab2 [("_law_draw", sDraw), ("_law_one", sOne)]) [] irb_l_changed_8 { nx := fun _ g' => Q .non g', rt := Q } [some dck, some (encRw m r), some (.int m), some (encTx r), some (encLs r), some (.int sort), some (.int i), some (.str w'), some (.tup (f'.map .int)), none, o10] g' := by
    intro w' f' g' o10 hg' ol' hh
    refine ok_less hg' ?_
    unfold irb_l_changed_8
    refine ok_cons (ok_ret ?_)
    simp only [encTx, encLs, wqE, wqA, wqO, addV_ii, addV_tt, slV_t, flatD_i, opV_Add, ownB, Bool.not_false, Bool.or_self, Bool.or_true, List.getElem?_cons_zero, List.getElem?_cons_succ, Option.some.injEq, exists_eq_left', D.int.injEq, true_and, Bool.not_false, cut_h]
    rw [show (i : Int) + 1 = ((i + 1 : Nat) : Int) by omega, cut_d, ← List.map_take, ← List.map_drop, x2, take_ini hd.n, drop_ini hd.n]
    have e1 : (lps r).length = (lps A0).length + 1 + (lps B0).length := by rw [x2]; simp; omega
    simp only [List.length_map, List.drop_succ_cons, List.drop_zero, List.length_append, List.length_cons, List.length_nil]
    repeat (with_reducible refine And.intro (by first | omega | (simp; done) | (simp; omega)) ?_)
    have hc := chg_loop (m := m) (V := V) (A := A0 ++ lets la) (B := lets fb ++ B0) (l := (w, f)) (l' := (w', f')) (by rw [← hd.e]; exact ho.ok) (by rw [← hd.e]; exact hv) ol' hh
    rw [← hd.e] at hc
    have := k _ hc
    obtain ⟨q1, q2⟩ := put_row hd.ea hd.eb la fb (w', f') []
    simp only [List.map_cons, List.map_nil, List.length_nil, List.replicate_zero, List.nil_append, List.singleton_append] at q1 q2
    unfold encRw encTx encLs at this
    rw [q1, q2] at this
    rw [x1]
    simpa [encLp] using this
  have fin2 : ∀ (o10 : Option D), sort ≤ 2 → ∀ (w' : Wd) (f' : List Int) (g' : Nat), g - 4 ≤ g' → okL m (w', f') → (w'.length = w.length + 1 ∧ f' = f ∨ w'.length = w.length ∧ (valF f' (ones m)).toNat ≤ (valF f (ones m)).toNat + 1 ∧ (f'.headD 0).toNat ≤ (f.headD 0).toNat + 1) →
      OkS (tab2 [("_law_draw", sDraw), ("_law_one", sOne)]) [] irb_l_changed_7 { nx := fun _ g' => Q .non g', rt := Q } [some dck, some (encRw m r), some (.int m), some (encTx r), some (encLs r), some (.int sort), some (.int i), some (.str w'), some (.tup (f'.map .int)), none, o10] g' := by
    intro o10 hs w' f' g' h1 h2 h3
    unfold irb_l_changed_7
    refine ok_cons (ok_iff ?_)
    simp only [wqE, wqT, ordV_ii, flatD_i, cmpV_Gt, ownB, Bool.not_false, Bool.or_self, List.getElem?_cons_zero, List.getElem?_cons_succ, Option.some.injEq, exists_eq_left', D.bl.injEq, true_and, decide_eq_true_eq, Bool.not_false]
    rw [if_neg (by omega)]
    exact ok_nil (fin w' f' g' o10 h1 h2 h3)
  have lf : f.length = m + 1 := ol.len
  have step : ∀ p : Nat, p < f.length → ∃ x, f[p]? = some x ∧ okL m (w, f.take p ++ (x + 1) :: f.drop (p + 1)) ∧ (valF (f.take p ++ (x + 1) :: f.drop (p + 1)) (ones m)).toNat ≤ (valF f (ones m)).toNat + 1 ∧ ((f.take p ++ (x + 1) :: f.drop (p + 1)).headD 0).toNat ≤ (f.headD 0).toNat + 1 := fun p hp => by
    obtain ⟨x, e1, e2⟩ := val_set lf hp
    refine ⟨x, e1, okL_up ol e1, by rw [e2]; omega, ?_⟩
    cases f with
    | nil => simp at hp
    | cons c t =>
      cases p with
      | zero => simp at e1 ⊢; omega
      | succ p => simp
  unfold irb_l_changed_5
  refine ok_cons (ok_iff ?_)
  simp only [wqE, wqT, flatD_i, cmpV_Eq, eqV_ii, ownB, Bool.not_false, Bool.or_self, List.getElem?_cons_zero, List.getElem?_cons_succ, Option.some.injEq, exists_eq_left', Bool.false_xor, D.bl.injEq, true_and, decide_eq_true_eq, Bool.not_false]
  by_cases c2 : sort = 1
  · simp only [if_true, c2]
    subst c2
    unfold irb_l_changed_b2
    refine ok_cons (ok_asg rfl ?_)
    simp only [wqE, wqA, wqO, addV_ss, slV_s, flatD_i, flatD_s, opV_Add, wqP_v, biV_rev_s, ownB, Bool.not_false, Bool.or_self, Bool.or_true, tab2_q, List.getElem?_cons_zero, List.getElem?_cons_succ, List.set_cons_zero, List.set_cons_succ, Option.some.injEq, exists_eq_left', Option.map_some, D.int.injEq, true_and, Bool.not_false, cut_1, tk_1]
    refine ⟨by simp; omega, by omega, by simp; omega, by omega, by omega, by simp; omega, by simp, _, _, rfl, rfl, by simp, by simp, by omega, fun x hx => ?_⟩
    have ll := low_a ol.low
    obtain ⟨w', rfl, hw, hh⟩ : ∃ w' : Wd, x = .str w' ∧ (lowW w' ∧ w' ≠ []) ∧ (w'.length = w.length + 1 ∨ w'.length = w.length) := by
      simp only [List.mem_cons, List.not_mem_nil, or_false] at hx
      rcases hx with rfl | rfl | rfl | rfl
      · exact ⟨_, rfl, ⟨ll.1, by simp⟩, .inl (by simp)⟩
      · exact ⟨_, rfl, ⟨fun c hc => ol.low c (by simpa using hc), by simpa using ol.ne⟩, .inr (by simp)⟩
      · exact ⟨_, rfl, ⟨ll.2, by simp⟩, .inl (by simp)⟩
      · refine ⟨_, rfl, ?_⟩
        cases w with
        | nil => exact absurd rfl ol.ne
        | cons c u =>
          refine ⟨⟨fun d hd => ol.low d ?_, by simp⟩, .inr (by simp)⟩
          simp at hd ⊢
          exact hd.symm
    have ol' : okL m (w', f) := ⟨hw.2, hw.1, ol.len, ol.nn, ol.op⟩
    refine ok_nil ?_
    unfold irb_l_changed_6
    refine ok_cons (ok_iff ?_)
    simp only [wqE, wqT, flatD_i, cmpV_Eq, eqV_ii, ownB, Bool.not_false, Bool.or_self, List.getElem?_cons_zero, List.getElem?_cons_succ, Option.some.injEq, exists_eq_left', Bool.false_xor, D.bl.injEq, true_and, if_false, Bool.false_eq_true, decide_false, Bool.not_false, show ((1 : Int) = 2) = False from eq_false (by decide)]
    refine ok_nil (fin2 _ (by decide) w' f _ (by omega) ol' ?_)
    rcases hh with hh | hh
    · exact .inl ⟨hh, rfl⟩
    · exact .inr ⟨hh, by omega, by omega⟩
  simp only [if_false, c2]
  refine ok_nil ?_
  unfold irb_l_changed_6
  refine ok_cons (ok_iff ?_)
  simp only [wqE, wqT, flatD_i, cmpV_Eq, eqV_ii, ownB, Bool.not_false, Bool.or_self, List.getElem?_cons_zero, List.getElem?_cons_succ, Option.some.injEq, exists_eq_left', Bool.false_xor, D.bl.injEq, true_and, decide_eq_true_eq, Bool.not_false]
  by_cases c3 : sort = 2
  · simp only [if_true, c3]
    subst c3
    obtain ⟨x, e1, e2, e3⟩ := step 0 (by omega)
    cases f with
    | nil => simp at lf
    | cons c t =>
      simp at e1
      subst e1
      unfold irb_l_changed_b3
      refine ok_cons (ok_asg rfl ?_)
      simp only [List.map_cons, wqE, wqA, wqO, addV_ii, addV_tt, idxV_t, slV_t, flatD_i, opV_Add, wqP_v, ownB, Bool.not_false, Bool.or_self, List.getElem?_cons_zero, List.getElem?_cons_succ, List.set_cons_zero, List.set_cons_succ, Option.some.injEq, exists_eq_left', D.int.injEq, atI_0, true_and, Bool.not_false, cut_1, List.tail_cons, List.length_map]
      refine ⟨by simp, ?_, ok_nil ?_⟩
      · have := ho.m3
        simp at lf ⊢
        omega
      have := fin2 none (by decide) w _ (g - 1 - 1 - 1) (by omega) e2 (.inr ⟨rfl, e3⟩)
      exact this
  simp only [if_false, c3]
  refine ok_nil ?_
  unfold irb_l_changed_7
  refine ok_cons (ok_iff ?_)
  simp only [wqE, wqT, ordV_ii, flatD_i, cmpV_Gt, ownB, Bool.not_false, Bool.or_self, List.getElem?_cons_zero, List.getElem?_cons_succ, Option.some.injEq, exists_eq_left', D.bl.injEq, true_and, decide_eq_true_eq, Bool.not_false]
  rw [if_pos (by omega)]
  have m1 : 1 ≤ m := by
    have := ol.op
    rcases Nat.eq_zero_or_pos m with rfl | h
    · match f, lf, this with
      | [c], _, h => simp [isOpen] at h
    · exact h
  have m3 := ho.m3
  unfold irb_l_changed_b4
  refine ok_cons (ok_asg rfl ?_)
  simp only [wqE, wqA, flatD_i, opV_Add, wqP_v, ownB, Bool.not_false, Bool.or_true, tab2_q, List.getElem?_cons_zero, List.getElem?_cons_succ, List.set_cons_zero, List.set_cons_succ, Option.some.injEq, exists_eq_left', Option.map_some, true_and, Bool.not_false]
  refine ⟨(m : Int), rfl, by omega, Int.lt_of_le_of_lt (show (m : Int) ≤ 2 ^ 24 by omega) (by decide), by omega, fun pl0 h0 h1 => ?_⟩
  obtain ⟨p, rfl⟩ := Int.eq_ofNat_of_zero_le h0
  obtain ⟨x, e1, e2, e3⟩ := step (p + 1) (by omega)
  have ex : atI (f.map D.int) (1 + (p : Int)) = some (.int x) := by
    rw [atI_n (n := p + 1) (by omega)]
    simp [e1]
  unfold irb_l_changed_b4_1
  refine ok_cons (ok_asg rfl ?_)
  rw [show (1 : Int) + (p : Int) = ((p + 1 : Nat) : Int) by omega] at ex ⊢
  simp only [wqE, wqA, wqO, addV_ii, addV_tt, idxV_t, slV_t, flatD_i, opV_Add, wqP_v, ownB, Bool.not_false, Bool.or_self, List.getElem?_cons_zero, List.getElem?_cons_succ, List.set_cons_zero, List.set_cons_succ, Option.some.injEq, exists_eq_left', D.int.injEq, true_and, Bool.not_false, ex, cut_h]
  rw [show ((p + 1 : Nat) : Int) + 1 = ((p + 1 + 1 : Nat) : Int) by omega, cut_d, ← List.map_take, ← List.map_drop]
  simp only [List.length_map, List.length_take, List.length_drop, List.length_append, List.length_cons, List.length_nil]
  repeat (with_reducible refine And.intro (by first | omega | (simp; done) | (simp; omega)) ?_)
  have := fin w _ (g - 4) (some (.int ((p + 1 : Nat) : Int))) (Nat.le_refl _) e2 (.inr ⟨rfl, e3⟩)
  refine ok_nil (ok_less (show g - 4 ≤ _ by omega) ?_)
  simpa [encRw, encTx, encLs] using this
end G57
set_option Elab.async false
set_option linter.all false
set_option maxRecDepth 100000
set_option maxHeartbeats 800000
namespace G57
open PySem L2
theorem rnd_mod {w : Wd} (i k : Nat) : rnd w (i + w.length * k) = rnd w i := by unfold rnd; rw [Nat.add_mul_mod_self_left]
theorem rnd_len {w : Wd} (i : Nat) : rnd w (i + w.length) = rnd w i := by unfold rnd; rw [Nat.add_mod_right]
def prim (w : Wd) : Prop := w ≠ [] ∧ (root w).2 = 1
theorem prim_per {w : Wd} (h : prim w) {g : Nat} (h0 : 0 < g) (hd : g ∣ w.length) (hp : ∀ i, rnd w (i + g) = rnd w i) : g = w.length := by
  have ip := rnd_per h0 hd h.1 hp
  have pl := (per_spec h.1).2 g ip
  have pd := per_dvd (per_spec h.1).1
  have p0 := (per_spec h.1).1.1
  have e : w.length / per w = 1 := h.2
  have e2 : per w = w.length := by
    have := Nat.div_mul_cancel pd
    rw [e] at this
    omega
  have := Nat.le_of_dvd (List.length_pos_iff.mpr h.1) hd
  omega
theorem two_runs {u v : Wd} (hu : prim u) (hv : prim v) {B L : Nat} (hL : u.length + v.length ≤ L) (h : ∀ i, i < L → rnd u (B + i) = rnd v i) : u.length = v.length ∧ ∀ i, rnd u (B + i) = rnd v i := by
  have lu := List.length_pos_iff.mpr hu.1
  have lv := List.length_pos_iff.mpr hv.1
  have pv : ∀ i, rnd v (i + u.length) = rnd v i := fun i => by
    have hj : i % v.length < v.length := Nat.mod_lt _ lv
    have e : i = i % v.length + v.length * (i / v.length) := by have := Nat.mod_add_div i v.length; omega
    have a1 : rnd v i = rnd v (i % v.length) := by rw [e, rnd_mod]; simp
    have a2 : rnd v (i + u.length) = rnd v (i % v.length + u.length) := by
      rw [show i + u.length = i % v.length + u.length + v.length * (i / v.length) by omega, rnd_mod]
    rw [a1, a2, ← h _ (by omega), ← h _ (by omega), ← Nat.add_assoc, rnd_len]
  have pu : ∀ i, rnd u (i + v.length) = rnd u i := fun i => by
    obtain ⟨j, k, k', hj, e⟩ : ∃ j k k', j < u.length ∧ B + j + u.length * k = i + u.length * k' := by
      refine ⟨(i + u.length * B - B) % u.length, (i + u.length * B - B) / u.length, B, Nat.mod_lt _ lu, ?_⟩
      have := Nat.mod_add_div (i + u.length * B - B) u.length
      have : 1 * B ≤ u.length * B := Nat.mul_le_mul_right _ lu
      omega
    have a1 : rnd u i = rnd u (B + j) := by rw [← rnd_mod i k', ← e, rnd_mod]
    have a2 : rnd u (i + v.length) = rnd u (B + j + v.length) := by
      rw [← rnd_mod (i + v.length) k', show i + v.length + u.length * k' = B + j + v.length + u.length * k by omega, rnd_mod]
    rw [a1, a2, Nat.add_assoc, h _ (by omega), h _ (by omega), rnd_len]
  have gv := rnd_gcd (f := rnd v) _ v.length u.length (Nat.le_refl _) (fun i => rnd_len i) pv
  have gu := rnd_gcd (f := rnd u) _ u.length v.length (Nat.le_refl _) (fun i => rnd_len i) pu
  have e1 := prim_per hv (Nat.gcd_pos_of_pos_left _ lv) (Nat.gcd_dvd_left _ _) gv
  have e2 := prim_per hu (Nat.gcd_pos_of_pos_left _ lu) (Nat.gcd_dvd_left _ _) gu
  have e3 : u.length = v.length := by rw [← e1, Nat.gcd_comm, e2]
  refine ⟨e3, fun i => ?_⟩
  have e : i = i % v.length + v.length * (i / v.length) := by have := Nat.mod_add_div i v.length; omega
  have hj : i % v.length < v.length := Nat.mod_lt _ lv
  have a1 : rnd v i = rnd v (i % v.length) := by rw [e, rnd_mod]; simp
  have a2 : rnd u (B + i) = rnd u (B + i % v.length) := by
    rw [show B + i = B + i % v.length + u.length * (i / v.length) by rw [e3]; omega, rnd_mod]
  rw [a1, a2, h _ (by omega)]
theorem rnd_last {v : Wd} (hv : v ≠ []) : rnd v (v.length - 1) = v.getLast? := by
  have := List.length_pos_iff.mpr hv
  rw [rnd_get (by omega), List.getLast?_eq_getElem?]
theorem rnd_ext {u v : Wd} (hl : u.length = v.length) (h : ∀ i, rnd u i = rnd v i) : u = v := by
  apply List.ext_getElem?
  intro i
  rcases Nat.lt_or_ge i u.length with h1 | h1
  · rw [← rnd_get h1, h i, rnd_get (by omega)]
  · rw [List.getElem?_eq_none h1, List.getElem?_eq_none (by omega)]
abbrev Xr := List (Nat ⊕ (Wd × Nat))
def xT : Xr → Wd
  | [] => []
  | .inl c :: x => c :: xT x
  | .inr (w, e) :: x => pw e w ++ xT x
def xsz : Xr → Nat
  | [] => 0
  | .inl _ :: x => xsz x + 1
  | .inr (w, _) :: x => xsz x + w.length
def xPl : Option (Nat ⊕ Wd) → Xr → Prop
  | _, [] => True
  | _, .inl c :: x => xPl (some (.inl c)) x
  | o, .inr (w, e) :: x => (prim w ∧ 0 < e ∧ (∀ c, o = some (.inl c) → w.getLast? ≠ some c) ∧ o ≠ some (.inr w)) ∧ xPl (some (.inr w)) x
def xEx (P : Nat → Prop) : Xr → Prop
  | [] => True
  | .inl _ :: x => xEx P x
  | .inr (_, e) :: x => P e ∧ xEx P x
inductive xHd (x : Xr) : Wd → Prop
  | fin (t : Wd) : x = t.map .inl → xHd x t
  | lp (t : Wd) (w : Wd) (e : Nat) (y : Xr) : x = t.map .inl ++ .inr (w, e) :: y → xHd x t
theorem xT_app : ∀ x y : Xr, xT (x ++ y) = xT x ++ xT y
  | [], y => rfl
  | .inl c :: x, y => by simp only [List.cons_append, xT, xT_app x y]
  | .inr (w, e) :: x, y => by simp only [List.cons_append, xT, xT_app x y, List.append_assoc]
theorem xT_lets : ∀ t : Wd, xT (t.map .inl) = t
  | [] => rfl
  | c :: t => by simp only [List.map_cons, xT, xT_lets t]
theorem xsz_app : ∀ x y : Xr, xsz (x ++ y) = xsz x + xsz y
  | [], y => by simp [xsz]
  | .inl c :: x, y => by simp only [List.cons_append, xsz, xsz_app x y]; omega
  | .inr (w, e) :: x, y => by simp only [List.cons_append, xsz, xsz_app x y]; omega
theorem xsz_lets : ∀ t : Wd, xsz (t.map .inl) = t.length
  | [] => rfl
  | c :: t => by simp only [List.map_cons, xsz, xsz_lets t, List.length_cons]
theorem xEx_app {P : Nat → Prop} : ∀ {x y : Xr}, xEx P (x ++ y) → xEx P y
  | [], y, h => h
  | .inl c :: x, y, h => xEx_app (x := x) h
  | .inr (w, e) :: x, y, h => xEx_app (x := x) h.2
theorem xHd_of : ∀ x : Xr, ∃ t : Wd, x = t.map .inl ∨ ∃ w e y, x = t.map .inl ++ .inr (w, e) :: y
  | [] => ⟨[], .inl rfl⟩
  | .inl c :: x => by
    obtain ⟨t, h | ⟨w, e, y, h⟩⟩ := xHd_of x
    · exact ⟨c :: t, .inl (by rw [h]; rfl)⟩
    · exact ⟨c :: t, .inr ⟨w, e, y, by rw [h]; rfl⟩⟩
  | .inr (w, e) :: x => ⟨[], .inr ⟨w, e, x, rfl⟩⟩
theorem xPl_lp : ∀ {t : Wd} {o : Option (Nat ⊕ Wd)} {w : Wd} {e : Nat} {y : Xr}, xPl o (t.map .inl ++ .inr (w, e) :: y) → prim w ∧ 0 < e ∧ (∀ c, t.getLast? = some c → w.getLast? ≠ some c) ∧ (t = [] → (∀ c, o = some (.inl c) → w.getLast? ≠ some c) ∧ o ≠ some (.inr w))
  | [], o, w, e, y, h => ⟨h.1.1, h.1.2.1, fun c hc => by simp at hc, fun _ => h.1.2.2⟩
  | [c], o, w, e, y, h => by
    have h : xPl (some (.inl c)) (.inr (w, e) :: y) := h
    refine ⟨h.1.1, h.1.2.1, fun d hd => ?_, fun z => by cases z⟩
    simp at hd
    subst hd
    exact h.1.2.2.1 c rfl
  | c :: d :: t, o, w, e, y, h => by
    have h : xPl (some (.inl c)) ((d :: t).map .inl ++ .inr (w, e) :: y) := h
    obtain ⟨a, b, c1, _⟩ := xPl_lp h
    exact ⟨a, b, fun q hq => c1 q (by simpa using hq), fun z => by cases z⟩
theorem run_in {u w : Wd} {t R y : Wd} {a e : Nat} (hu : prim u) (hw : prim w) (h1 : t.length + u.length + w.length ≤ a * u.length) (h2 : u.length + w.length ≤ e * w.length)
    (h : pw a u ++ R = t ++ (pw e w ++ y)) : (t = [] → u = w) ∧ ∀ c, t.getLast? = some c → w.getLast? = some c := by
  have lu := List.length_pos_iff.mpr hu.1
  have lw := List.length_pos_iff.mpr hw.1
  have g1 : ∀ i, i < a * u.length → (pw a u ++ R)[i]? = rnd u i := fun i hi => by
    rw [List.getElem?_append_left (by rw [pw_len]; exact hi), pw_get hu.1 _ _ hi]
  have g2 : ∀ i, i < e * w.length → (pw a u ++ R)[t.length + i]? = rnd w i := fun i hi => by
    rw [h, List.getElem?_append_right (by omega), Nat.add_sub_cancel_left, List.getElem?_append_left (by rw [pw_len]; exact hi), pw_get hw.1 _ _ hi]
  obtain ⟨e1, e2⟩ := two_runs hu hw (B := t.length) (L := u.length + w.length) (Nat.le_refl _) fun i hi => by rw [← g1 _ (by omega), g2 _ (by omega)]
  refine ⟨fun ht => ?_, fun c hc => ?_⟩
  · subst ht
    exact rnd_ext e1 fun i => by have := e2 i; simpa using this
  · have ht : t ≠ [] := fun e => by rw [e] at hc; cases hc
    have lt := List.length_pos_iff.mpr ht
    have q : (pw a u ++ R)[t.length - 1]? = some c := by
      rw [h, List.getElem?_append_left (by omega), ← List.getLast?_eq_getElem?, hc]
    rw [g1 _ (by omega), ← rnd_len, show t.length - 1 + u.length = t.length + (u.length - 1) by omega, e2, e1, rnd_last hw.1] at q
    exact q
theorem no_run {x : Xr} {u R : Wd} {a S : Nat} {o : Option (Nat ⊕ Wd)} (hu : prim u) (ha : 2 * S ≤ a) (hS : xsz x + u.length ≤ S) (hx : xPl o x) (he : xEx (S ≤ ·) x)
    (h : pw a u ++ R = xT x) (hn : ∀ w e y, x = .inr (w, e) :: y → w ≠ u) : False := by
  have lu := List.length_pos_iff.mpr hu.1
  have ha1 : a * 1 ≤ a * u.length := Nat.mul_le_mul_left _ lu
  obtain ⟨t, h1 | ⟨w, e, y, h1⟩⟩ := xHd_of x
  · rw [h1, xT_lets] at h
    rw [h1, xsz_lets] at hS
    have := congrArg List.length h
    rw [List.length_append, pw_len] at this
    omega
  · rw [h1] at hx he
    obtain ⟨pw1, pw2, pw3, pw4⟩ := xPl_lp hx
    have he' := (xEx_app he).1
    have lw := List.length_pos_iff.mpr pw1.1
    have he1 : e * 1 ≤ e * w.length := Nat.mul_le_mul_left _ lw
    have sz : t.length + w.length + u.length ≤ S := by
      rw [h1, xsz_app, xsz_lets] at hS
      simp only [xsz] at hS
      omega
    rw [h1, xT_app, xT_lets] at h
    obtain ⟨r1, r2⟩ := run_in hu pw1 (by omega) (by omega) h
    rcases List.eq_nil_or_concat t with rfl | ⟨t', c, rfl⟩
    · exact hn w e y (by rw [h1]; rfl) (r1 rfl).symm
    · exact pw3 c (by simp) (r2 c (by simp))
theorem xT_nil {o : Option (Nat ⊕ Wd)} : ∀ {x : Xr}, xPl o x → xT x = [] → x = []
  | [], _, _ => rfl
  | .inl c :: x, _, h => by simp [xT] at h
  | .inr (w, e) :: x, hx, h => by
    have := congrArg List.length h
    simp only [xT, List.length_append, pw_len, List.length_nil] at this
    have lw := List.length_pos_iff.mpr hx.1.1.1
    have := Nat.mul_pos hx.1.2.1 lw
    omega
theorem tells {K S : Nat} (hK : 2 * S ≤ K) : ∀ (x y : Xr) (o : Option (Nat ⊕ Wd)), xPl o x → xPl o y → xEx (K ∣ ·) x → xEx (K ∣ ·) y → xsz x + xsz y ≤ S → xT x = xT y → x = y := by
  have big : ∀ {o : Option (Nat ⊕ Wd)} {x : Xr}, xPl o x → xEx (K ∣ ·) x → xEx (S ≤ ·) x := by
    intro o x
    induction x generalizing o with
    | nil => intro _ _; trivial
    | cons z x ih =>
      cases z with
      | inl c => intro h1 h2; exact ih (o := some (.inl c)) h1 h2
      | inr we =>
        obtain ⟨w, e⟩ := we
        intro h1 h2
        exact ⟨by have := Nat.le_of_dvd h1.1.2.1 h2.1; omega, ih h1.2 h2.2⟩
  have letter : ∀ (c : Nat) (x y : Xr) (v : Wd) (d : Nat) (o : Option (Nat ⊕ Wd)), xPl o (.inl c :: x) → xPl o (.inr (v, d) :: y) → xEx (K ∣ ·) (.inl c :: x) → xEx (K ∣ ·) (.inr (v, d) :: y) → xsz (.inl c :: x) + xsz (.inr (v, d) :: y) ≤ S → xT (.inl c :: x) = xT (.inr (v, d) :: y) → False := by
    intro c x y v d o h1 h2 h3 h4 h5 h6
    refine no_run (x := .inl c :: x) (u := v) (R := xT y) (a := d) (S := S) (o := o) h2.1.1 ?_ ?_ h1 (big h1 h3) h6.symm ?_
    · have := Nat.le_of_dvd h2.1.2.1 h4.1; omega
    · simp only [xsz] at h5 ⊢; omega
    · intro w e z hz; cases hz
  have onward : ∀ (u : Wd) (x' y' : Xr) (e d : Nat), prim u → K ∣ e → K ∣ d → e < d → xPl (some (.inr u)) x' → xEx (K ∣ ·) x' → xsz x' + u.length ≤ S → xT (.inr (u, e) :: x') = xT (.inr (u, d) :: y') → False := by
    intro u x' y' e d hu he hd hlt h1 h2 h3 h4
    obtain ⟨k, rfl⟩ : ∃ k, d = e + k := ⟨d - e, by omega⟩
    have hk : K ∣ k := (Nat.dvd_add_right he).mp hd
    simp only [xT, pw_add, List.append_assoc, List.append_cancel_left_eq] at h4
    refine no_run (x := x') (u := u) (R := xT y') (a := k) (S := S) (o := some (.inr u)) hu ?_ h3 h1 (big h1 h2) h4.symm ?_
    · have := Nat.le_of_dvd (by omega) hk; omega
    · intro w q z hz e'
      subst hz e'
      exact h1.1.2.2.2 rfl
  intro x
  induction x with
  | nil => intro y o h1 h2 h3 h4 h5 h6; exact (xT_nil h2 (by rw [← h6]; rfl)).symm
  | cons z x ih =>
    intro y o h1 h2 h3 h4 h5 h6
    cases y with
    | nil => exact absurd (xT_nil h1 (by rw [h6]; rfl)) (by simp)
    | cons z' y =>
      cases z with
      | inl c =>
        cases z' with
        | inl c' =>
          simp only [xT, List.cons.injEq] at h6
          obtain ⟨rfl, h6⟩ := h6
          rw [ih y (some (.inl c)) h1 h2 h3 h4 (by simp only [xsz] at h5; omega) h6]
        | inr vd => obtain ⟨v, d⟩ := vd; exact (letter c x y v d o h1 h2 h3 h4 h5 h6).elim
      | inr ue =>
        obtain ⟨u, e⟩ := ue
        cases z' with
        | inl c' => exact (letter c' y x u e o h2 h1 h4 h3 (by omega) h6.symm).elim
        | inr vd =>
          obtain ⟨v, d⟩ := vd
          have e1 := Nat.le_of_dvd h1.1.2.1 h3.1
          have e2 := Nat.le_of_dvd h2.1.2.1 h4.1
          have lu := List.length_pos_iff.mpr h1.1.1.1
          have lv := List.length_pos_iff.mpr h2.1.1.1
          have m1 : e * 1 ≤ e * u.length := Nat.mul_le_mul_left _ lu
          have m2 : d * 1 ≤ d * v.length := Nat.mul_le_mul_left _ lv
          have huv : u = v := (run_in (t := []) h1.1.1 h2.1.1 (by simp only [xsz] at h5; simp; omega) (by simp only [xsz] at h5; omega) h6).1 rfl
          subst huv
          rcases Nat.lt_trichotomy e d with h | h | h
          · exact (onward u x y e d h1.1.1 h3.1 h4.1 h h1.2 h3.2 (by simp only [xsz] at h5; omega) h6).elim
          · subst h
            simp only [xT, List.append_cancel_left_eq] at h6
            rw [ih y (some (.inr u)) h1.2 h2.2 h3.2 h4.2 (by simp only [xsz] at h5; omega) h6]
          · exact (onward u y x d e h1.1.1 h4.1 h3.1 h h2.2 h4.2 (by simp only [xsz] at h5; omega) h6.symm).elim
end G57
set_option Elab.async false
set_option linter.all false
set_option maxRecDepth 100000
set_option maxHeartbeats 800000
namespace G57
open PySem L2
inductive xSk : Xr → Xr → Prop
  | nil : xSk [] []
  | lt (c : Nat) {x y : Xr} : xSk x y → xSk (.inl c :: x) (.inl c :: y)
  | lp (w : Wd) (e d : Nat) {x y : Xr} : xSk x y → xSk (.inr (w, e) :: x) (.inr (w, d) :: y)
theorem xSk.symm {x y : Xr} (h : xSk x y) : xSk y x := by
  induction h with
  | nil => exact .nil
  | lt c _ ih => exact .lt c ih
  | lp w e d _ ih => exact .lp w d e ih
theorem xSk.app : ∀ {t : Wd} {w : Wd} {e : Nat} {z y : Xr}, xSk (t.map .inl ++ .inr (w, e) :: z) y → ∃ d z', y = t.map .inl ++ .inr (w, d) :: z' ∧ xSk z z'
  | [], w, e, z, y, h => by
    cases h with
    | lp _ _ d h => exact ⟨d, _, rfl, h⟩
  | c :: t, w, e, z, y, h => by
    cases h with
    | lt _ h =>
      obtain ⟨d, z', rfl, hz⟩ := xSk.app h
      exact ⟨d, z', rfl, hz⟩
theorem xSk.lets : ∀ {t : Wd} {y : Xr}, xSk (t.map .inl) y → y = t.map .inl
  | [], y, h => by cases h; rfl
  | c :: t, y, h => by
    cases h with
    | lt _ h => rw [xSk.lets h]; rfl
theorem prim_pw {u v : Wd} (hu : prim u) (hv : prim v) {a b : Nat} (ha : 0 < a) (hb : 0 < b) (h : pw a u = pw b v) : u = v := by
  have e1 := root_of_pw hu.1 ha
  have e2 := root_of_pw hv.1 hb
  rw [h, e2] at e1
  have r1 : (root u).1 = u := by have := root_pw hu.1; rw [hu.2, pw_1] at this; exact this.symm
  have r2 : (root v).1 = v := by have := root_pw hv.1; rw [hv.2, pw_1] at this; exact this.symm
  have := congrArg Prod.fst e1
  simp only at this
  rw [r1, r2] at this
  exact this.symm
theorem same_on {S : Nat} : ∀ (x y : Xr) (o : Option (Nat ⊕ Wd)), xSk x y → xPl o x → xPl o y → xEx (2 * S ≤ ·) x → xEx (2 * S ≤ ·) y → xsz x ≤ S → xT x = xT y → x = y := by
  have go : ∀ (u : Wd) (x y : Xr) (e d : Nat), prim u → xSk x y → xPl (some (.inr u)) x → xEx (2 * S ≤ ·) x → xEx (2 * S ≤ ·) y → xsz x + u.length ≤ S → e < d → xT (.inr (u, e) :: x) = xT (.inr (u, d) :: y) → False := by
    intro u x y e d hu sk hx he hy hS hlt h
    obtain ⟨k, rfl⟩ : ∃ k, d = e + k := ⟨d - e, by omega⟩
    simp only [xT, pw_add, List.append_assoc, List.append_cancel_left_eq] at h
    have lu := List.length_pos_iff.mpr hu.1
    obtain ⟨t, h1 | ⟨w, e', z, h1⟩⟩ := xHd_of x
    · subst h1
      have := sk.lets
      subst this
      have hl := congrArg List.length h
      rw [List.length_append, pw_len] at hl
      have := Nat.mul_pos (show 0 < k by omega) lu
      omega
    · subst h1
      obtain ⟨d', z', rfl, skz⟩ := sk.app
      obtain ⟨pw1, pw2, pw3, pw4⟩ := xPl_lp hx
      have g1 := (xEx_app he).1
      have g2 := (xEx_app hy).1
      have lw := List.length_pos_iff.mpr pw1.1
      have q1 : e' * 1 ≤ e' * w.length := Nat.mul_le_mul_left _ lw
      have q2 : d' * 1 ≤ d' * w.length := Nat.mul_le_mul_left _ lw
      rw [xsz_app, xsz_lets] at hS
      simp only [xsz] at hS
      simp only [xT_app, xT_lets, xT] at h
      rcases Nat.lt_or_ge (k * u.length) (t.length + u.length + w.length) with hk | hk
      ·
        have k0 := Nat.mul_pos (show 0 < k by omega) lu
        obtain ⟨s, hs⟩ : ∃ s, s = k * u.length := ⟨_, rfl⟩
        rw [← hs] at hk k0
        have a1 : ∀ i, i < e' * w.length → (t ++ (pw e' w ++ xT z))[t.length + i]? = rnd w i := fun i hi => by
          rw [List.getElem?_append_right (by omega), Nat.add_sub_cancel_left, List.getElem?_append_left (by rw [pw_len]; exact hi), pw_get pw1.1 _ _ hi]
        have a2 : ∀ i, i < d' * w.length → (t ++ (pw e' w ++ xT z))[s + t.length + i]? = rnd w i := fun i hi => by
          rw [h, List.getElem?_append_right (by rw [pw_len]; omega), pw_len, ← hs, List.getElem?_append_right (by omega), show s + t.length + i - s - t.length = i by omega, List.getElem?_append_left (by rw [pw_len]; exact hi), pw_get pw1.1 _ _ hi]
        rcases List.eq_nil_or_concat t with rfl | ⟨t', c, rfl⟩
        ·
          simp only [List.length_nil, Nat.zero_add, Nat.add_zero, List.nil_append] at a1 a2 h hk hS
          have rot : ∀ i, i < w.length → rnd w (i + s) = rnd w i := fun i hi => by
            rw [← a2 i (by omega), ← a1 (i + s) (by omega), Nat.add_comm]
          have rotA : ∀ i, rnd w (i + s) = rnd w i := fun i => by
            have e : i = i % w.length + w.length * (i / w.length) := by have := Nat.mod_add_div i w.length; omega
            have hj : i % w.length < w.length := Nat.mod_lt _ lw
            have b1 : rnd w i = rnd w (i % w.length) := by rw [e, rnd_mod]; simp
            have b2 : rnd w (i + s) = rnd w (i % w.length + s) := by rw [show i + s = i % w.length + s + w.length * (i / w.length) by omega, rnd_mod]
            rw [b1, b2, rot _ hj]
          have gg := rnd_gcd (f := rnd w) _ w.length s (Nat.le_refl _) (fun i => rnd_len i) rotA
          have ge := prim_per pw1 (Nat.gcd_pos_of_pos_left _ lw) (Nat.gcd_dvd_left _ _) gg
          have dv : w.length ∣ s := by rw [← ge]; exact Nat.gcd_dvd_right _ _
          obtain ⟨n, hn⟩ := dv
          have hn0 : 0 < n := by
            rcases Nat.eq_zero_or_pos n with h0 | h0
            · rw [h0] at hn; omega
            · exact h0
          have eq1 : pw k u = pw n w := by
            apply List.ext_getElem?
            intro i
            rcases Nat.lt_or_ge i s with hi | hi
            · have c1 : (pw k u)[i]? = (pw e' w ++ xT z)[i]? := by rw [h, List.getElem?_append_left (by rw [pw_len, ← hs]; exact hi)]
              rw [c1, a1 i (by omega), pw_get pw1.1 _ _ (by rw [Nat.mul_comm, ← hn]; exact hi)]
            · rw [List.getElem?_eq_none (by rw [pw_len]; omega), List.getElem?_eq_none (by rw [pw_len, Nat.mul_comm, ← hn]; exact hi)]
          exact (pw4 rfl).2 (by rw [prim_pw hu pw1 (by omega) hn0 eq1])
        · have lt : (t' ++ [c]).length = t'.length + 1 := by simp
          simp only [List.concat_eq_append] at *
          have c0 : (t' ++ [c] ++ (pw e' w ++ xT z))[s + (t' ++ [c]).length - 1]? = some c := by
            rw [h, List.getElem?_append_right (by rw [pw_len]; omega), pw_len, ← hs, show s + (t' ++ [c]).length - 1 - s = t'.length by omega]
            simp
          have c1 : (t' ++ [c] ++ (pw e' w ++ xT z))[s + (t' ++ [c]).length - 1]? = rnd w (s - 1) := by
            rw [← a1 (s - 1) (by omega)]
            congr 1
            omega
          have c2 : rnd w (s - 1) = rnd w (w.length - 1) := by
            rw [← rnd_len, ← a1 (s - 1 + w.length) (by omega), ← a2 (w.length - 1) (by omega)]
            congr 1
            omega
          rw [c0, c2, rnd_last pw1.1] at c1
          exact pw3 c (by simp) c1.symm
      · obtain ⟨r1, r2⟩ := run_in hu pw1 hk (by omega) h.symm
        rcases List.eq_nil_or_concat t with rfl | ⟨t', c, rfl⟩
        · exact (pw4 rfl).2 (by rw [r1 rfl])
        · exact pw3 c (by simp) (r2 c (by simp))
  intro x
  induction x with
  | nil => intro y o sk _ _ _ _ _ _; cases sk; rfl
  | cons z x ih =>
    intro y o sk h1 h2 h3 h4 h5 h6
    cases sk with
    | lt c sk =>
      simp only [xT, List.cons.injEq, true_and] at h6
      rw [ih _ (some (.inl c)) sk h1 h2 h3 h4 (by simp only [xsz] at h5; omega) h6]
    | lp w e d sk =>
      rename_i y
      have szs : ∀ {x y : Xr}, xSk x y → xsz x = xsz y := by
        intro x y h
        induction h with
        | nil => rfl
        | lt c _ ih => simp only [xsz, ih]
        | lp w e d _ ih => simp only [xsz, ih]
      rcases Nat.lt_trichotomy e d with h | h | h
      · exact (go w x y e d h1.1.1 sk h1.2 h3.2 h4.2 (by simp only [xsz] at h5; omega) h h6).elim
      · subst h
        simp only [xT, List.append_cancel_left_eq] at h6
        rw [ih _ (some (.inr w)) sk h1.2 h2.2 h3.2 h4.2 (by simp only [xsz] at h5; omega) h6]
      · exact (go w y x d e h1.1.1 sk.symm h2.2 h4.2 h3.2 (by simp only [xsz] at h5; rw [← szs sk]; omega) h h6.symm).elim
end G57
set_option Elab.async false
set_option linter.all false
set_option maxRecDepth 100000
set_option maxHeartbeats 800000
namespace G57
open PySem L2
def xv (ns : List Int) : List It → Xr
  | [] => []
  | .inl c :: r => .inl c :: xv ns r
  | .inr (w, f) :: r => .inr (w, (valF f ns).toNat) :: xv ns r
theorem xv_T (ns : List Int) : ∀ r : List It, xT (xv ns r) = rowT ns r
  | [] => rfl
  | .inl c :: r => by simp only [xv, xT, xv_T ns r, rowT, itTx]; rfl
  | .inr (w, f) :: r => by simp only [xv, xT, xv_T ns r, rowT, itTx, runT_pw]
theorem xv_sz (ns : List Int) : ∀ r : List It, xsz (xv ns r) = nl r + sw r
  | [] => by simp [xv, xsz, nl, sw, lps]
  | .inl c :: r => by have := xv_sz ns r; simp only [xv, xsz, nl, sw, lps] at this ⊢; omega
  | .inr (w, f) :: r => by have := xv_sz ns r; simp only [xv, xsz, nl, sw, lps, List.map_cons, List.sum_cons] at this ⊢; omega
def oW : It → Nat ⊕ Wd
  | .inl c => .inl c
  | .inr l => .inr l.1
theorem xv_pl {m : Nat} {ns : List Int} : ∀ {r : List It} {o : Option It}, okA m r → plainB o r → (∀ l ∈ lps r, 0 < (valF l.2 ns).toNat) → xPl (o.map oW) (xv ns r)
  | [], o, _, _, _ => trivial
  | .inl c :: r, o, ok, h, hv => by
    have := xv_pl (o := some (.inl c)) (okA_cons.mp ok).2 h (fun l hl => hv l (by simpa [lps] using hl))
    exact this
  | .inr (w, f) :: r, o, ok, h, hv => by
    simp only [plainB] at h
    obtain ⟨⟨h1, h2, h3, h4, h5, h6⟩, h7⟩ := h
    have := xv_pl (o := some (.inr (w, f))) (okA_cons.mp ok).2 h7 (fun l hl => hv l (by simp [lps, hl]))
    refine ⟨⟨⟨h1, h2⟩, hv (w, f) (by simp [lps]), fun c hc => ?_, fun hc => ?_⟩, this⟩
    · cases o with
      | none => cases hc
      | some x =>
        cases x with
        | inl d => simp only [Option.map_some, oW, Option.some.injEq, Sum.inl.injEq] at hc; subst hc; exact h5 d rfl
        | inr l => simp [oW] at hc
    · cases o with
      | none => cases hc
      | some x =>
        cases x with
        | inl d => simp [oW] at hc
        | inr l =>
          simp only [Option.map_some, oW, Option.some.injEq, Sum.inr.injEq] at hc
          exact h6 l.2 (by rw [← hc])
theorem xv_ex {P : Nat → Prop} {ns : List Int} : ∀ {r : List It}, (∀ l ∈ lps r, P (valF l.2 ns).toNat) → xEx P (xv ns r)
  | [], _ => trivial
  | .inl c :: r, h => xv_ex (r := r) (fun l hl => h l (by simpa [lps] using hl))
  | .inr (w, f) :: r, h => ⟨h (w, f) (by simp [lps]), xv_ex (r := r) fun l hl => h l (by simp [lps, hl])⟩
theorem dot_rep (N : Int) : ∀ (t : List Int) (m : Nat), dot t (List.replicate m N) = N * dot t (ones m)
  | [], m => by simp [dot]
  | a :: t, 0 => by simp [dot, ones]
  | a :: t, m + 1 => by
    have := dot_rep N t m
    simp only [ones, List.replicate_succ, dot] at this ⊢
    rw [this, Int.mul_add, Int.mul_one, Int.mul_comm a N]
theorem dot_one (N : Int) : ∀ (t : List Int) (m j : Nat), t.length = m → j < m → ∃ a, t[j]? = some a ∧ dot t ((List.replicate m N).set j (N + 1)) = N * dot t (ones m) + a
  | [], m, j, h, hj => by simp at h; omega
  | a :: t, 0, j, h, hj => by omega
  | a :: t, m + 1, 0, h, hj => ⟨a, rfl, by
    have := dot_rep N t m
    simp only [ones, List.replicate_succ, List.set_cons_zero, dot] at this ⊢
    rw [this, Int.mul_add, Int.mul_add, Int.mul_one, Int.mul_comm a N]; omega⟩
  | a :: t, m + 1, j + 1, h, hj => by
    obtain ⟨b, h1, h2⟩ := dot_one N t m j (by simpa using h) (by omega)
    refine ⟨b, by simpa using h1, ?_⟩
    simp only [ones, List.replicate_succ, List.set_cons_succ, dot] at h2 ⊢
    rw [h2, Int.mul_add, Int.mul_one, Int.mul_comm a N]
    omega
structure pF (m : Nat) (f : List Int) : Prop where
  len : f.length = m + 1
  f0 : f.headD 0 = 0
  nn : ∀ i ∈ f, 0 ≤ i
  op : 1 ≤ dot f.tail (ones m)
theorem pF_of {m : Nat} {w : Wd} {f : List Int} (h : okL m (w, f)) (h0 : f.headD 0 = 0) : pF m f := by
  have hl : f.tail.length = m := by rw [List.length_tail]; have : f.length = m + 1 := h.len; omega
  have := (dot_ones f.tail m hl (fun i hi => h.nn i (List.mem_of_mem_tail hi))).2.2 h.op
  exact ⟨h.len, h0, h.nn, this⟩
theorem pFs {m : Nat} : ∀ {r : List It} {o : Option It}, okA m r → plainB o r → ∀ l ∈ lps r, pF m l.2
  | .inl c :: r, o, ok, h, l, hl => pFs (o := some (.inl c)) (okA_cons.mp ok).2 h l (by simpa [lps] using hl)
  | .inr (w, f) :: r, o, ok, h, l, hl => by
    simp only [plainB] at h
    obtain ⟨h1, h2⟩ := okA_cons.mp ok
    simp only [lps, List.mem_cons] at hl
    rcases hl with rfl | hl
    · exact pF_of h1 h.1.2.2.2.1
    · exact pFs h2 h.2 l hl
theorem pF.val0 {m : Nat} {f : List Int} (h : pF m f) (N : Nat) : valF f (List.replicate m (N : Int)) = (N : Int) * dot f.tail (ones m) := by
  unfold valF
  rw [h.f0, dot_rep, Int.zero_add]
theorem pF.val1 {m : Nat} {f : List Int} (h : pF m f) (N : Nat) {j : Nat} (hj : j < m) : ∃ a, f.tail[j]? = some a ∧ valF f ((List.replicate m (N : Int)).set j ((N : Int) + 1)) = (N : Int) * dot f.tail (ones m) + a := by
  have hl : f.tail.length = m := by rw [List.length_tail]; have := h.len; omega
  obtain ⟨a, h1, h2⟩ := dot_one (N : Int) f.tail m j hl hj
  refine ⟨a, h1, ?_⟩
  unfold valF
  rw [h.f0, h2, Int.zero_add]
theorem pF.big {m : Nat} {f : List Int} (h : pF m f) (N : Nat) : (N : Int) ≤ (N : Int) * dot f.tail (ones m) := by
  have := Int.mul_le_mul_of_nonneg_left h.op (show (0 : Int) ≤ N by omega)
  omega
theorem nat_mul {N : Nat} {d : Int} (h : 0 ≤ d) : ((N : Int) * d).toNat = N * d.toNat := by
  obtain ⟨k, rfl⟩ := Int.eq_ofNat_of_zero_le h
  rw [Int.toNat_natCast]
  exact Int.toNat_natCast (N * k)
theorem rows_eq {m N : Nat} (hN : 0 < N) : ∀ {r r' : List It}, (∀ l ∈ lps r, pF m l.2) → (∀ l ∈ lps r', pF m l.2) → xv (List.replicate m (N : Int)) r = xv (List.replicate m (N : Int)) r' → (∀ j, j < m → xv ((List.replicate m (N : Int)).set j ((N : Int) + 1)) r = xv ((List.replicate m (N : Int)).set j ((N : Int) + 1)) r') → r = r'
  | [], [], _, _, _, _ => rfl
  | [], .inl c :: r', _, _, h, _ => by simp [xv] at h
  | [], .inr (w, f) :: r', _, _, h, _ => by simp [xv] at h
  | .inl c :: r, [], _, _, h, _ => by simp [xv] at h
  | .inr (w, f) :: r, [], _, _, h, _ => by simp [xv] at h
  | .inl c :: r, .inr (w, f) :: r', _, _, h, _ => by simp [xv] at h
  | .inr (w, f) :: r, .inl c :: r', _, _, h, _ => by simp [xv] at h
  | .inl c :: r, .inl c' :: r', p1, p2, h, hj => by
    simp only [xv, List.cons.injEq, Sum.inl.injEq] at h hj
    rw [h.1, rows_eq hN (fun l hl => p1 l (by simpa [lps] using hl)) (fun l hl => p2 l (by simpa [lps] using hl)) h.2 fun j hjm => (hj j hjm).2]
  | .inr (w, f) :: r, .inr (w', f') :: r', p1, p2, h, hj => by
    have a1 : pF m f := p1 (w, f) (by simp [lps])
    have a2 : pF m f' := p2 (w', f') (by simp [lps])
    simp only [xv, List.cons.injEq, Sum.inr.injEq, Prod.mk.injEq] at h hj
    obtain ⟨⟨rfl, h1⟩, h2⟩ := h
    rw [a1.val0, a2.val0] at h1
    have b1 := a1.big N
    have b2 := a2.big N
    have hs : (N : Int) * dot f.tail (ones m) = (N : Int) * dot f'.tail (ones m) := by omega
    have ht : f.tail = f'.tail := by
      apply List.ext_getElem?
      intro j
      rcases Nat.lt_or_ge j m with hjm | hjm
      · obtain ⟨x, x1, x2⟩ := a1.val1 N hjm
        obtain ⟨y, y1, y2⟩ := a2.val1 N hjm
        have := (hj j hjm).1.2
        rw [x2, y2, hs] at this
        have x0 := a1.nn x (List.mem_of_mem_tail (List.mem_of_getElem? x1))
        have y0 := a2.nn y (List.mem_of_mem_tail (List.mem_of_getElem? y1))
        have : x = y := by omega
        rw [x1, y1, this]
      · have l1 := a1.len
        have l2 := a2.len
        rw [List.getElem?_eq_none (by rw [List.length_tail]; omega), List.getElem?_eq_none (by rw [List.length_tail]; omega)]
    have hf : f = f' := by
      have l1 := a1.len
      have l2 := a2.len
      have z1 := a1.f0
      have z2 := a2.f0
      cases f with
      | nil => simp at l1
      | cons c t =>
        cases f' with
        | nil => simp at l2
        | cons c' t' =>
          simp at z1 z2 ht
          rw [z1, z2, ht]
    subst hf
    rw [rows_eq hN (fun l hl => p1 l (by simp [lps, hl])) (fun l hl => p2 l (by simp [lps, hl])) h2 fun j hjm => (hj j hjm).2]
theorem xv_sk {ns ms : List Int} : ∀ {r r' : List It}, xv ns r = xv ns r' → xSk (xv ms r) (xv ms r')
  | [], [], _ => .nil
  | [], .inl c :: r', h => by simp [xv] at h
  | [], .inr (w, f) :: r', h => by simp [xv] at h
  | .inl c :: r, [], h => by simp [xv] at h
  | .inr (w, f) :: r, [], h => by simp [xv] at h
  | .inl c :: r, .inr (w, f) :: r', h => by simp [xv] at h
  | .inr (w, f) :: r, .inl c :: r', h => by simp [xv] at h
  | .inl c :: r, .inl c' :: r', h => by
    simp only [xv, List.cons.injEq, Sum.inl.injEq] at h
    rw [h.1]
    exact .lt _ (xv_sk h.2)
  | .inr (w, f) :: r, .inr (w', f') :: r', h => by
    simp only [xv, List.cons.injEq, Sum.inr.injEq, Prod.mk.injEq] at h
    obtain ⟨⟨rfl, _⟩, h2⟩ := h
    exact .lp _ _ _ (xv_sk h2)
theorem sz_nil {m : Nat} : ∀ {r : List It}, okA m r → nl r + sw r = 0 → r = []
  | [], _, _ => rfl
  | .inl c :: r, _, h => by simp only [nl] at h; omega
  | .inr l :: r, ok, h => by
    have : okL m l := (okA_cons.mp ok).1
    have := List.length_pos_iff.mpr this.ne
    simp only [nl, sw, lps, List.map_cons, List.sum_cons] at h
    omega
def greatC (m N : Nat) : Option Nat → List Int
  | none => List.replicate m (N : Int)
  | some j => (List.replicate m (N : Int)).set j ((N : Int) + 1)
theorem rows_part {m N : Nat} {r r' : List It} (ok : okA m r) (ok' : okA m r') (pb : plainB none r) (pb' : plainB none r') (hN : 2 * (nl r + sw r + (nl r' + sw r')) ≤ N)
    (h : ∀ o, (∀ j, o = some j → j < m) → rowT (greatC m N o) r = rowT (greatC m N o) r') : r = r' := by
  rcases Nat.eq_zero_or_pos (nl r + sw r + (nl r' + sw r')) with hz | hz
  · rw [sz_nil ok (by omega), sz_nil ok' (by omega)]
  have p1 := pFs ok pb
  have p2 := pFs ok' pb'
  have hN0 : 0 < N := by omega
  have v0 : ∀ {q : List It}, (∀ l ∈ lps q, pF m l.2) → ∀ l ∈ lps q, 0 < (valF l.2 (List.replicate m (N : Int))).toNat ∧ N ∣ (valF l.2 (List.replicate m (N : Int))).toNat := fun {q} hq l hl => by
    have := (hq l hl).big N
    rw [(hq l hl).val0]
    refine ⟨by omega, ?_⟩
    rw [nat_mul (by have := (hq l hl).op; omega)]
    exact Nat.dvd_mul_right _ _
  have v1 : ∀ {q : List It}, (∀ l ∈ lps q, pF m l.2) → ∀ j, j < m → ∀ l ∈ lps q, 0 < (valF l.2 ((List.replicate m (N : Int)).set j ((N : Int) + 1))).toNat ∧ N ≤ (valF l.2 ((List.replicate m (N : Int)).set j ((N : Int) + 1))).toNat := fun {q} hq j hj l hl => by
    obtain ⟨a, a1, a2⟩ := (hq l hl).val1 N hj
    have a0 := (hq l hl).nn a (List.mem_of_mem_tail (List.mem_of_getElem? a1))
    have := (hq l hl).big N
    rw [a2]
    exact ⟨by omega, by omega⟩
  have e0 : xv (List.replicate m (N : Int)) r = xv (List.replicate m (N : Int)) r' := by
    refine tells (K := N) (S := nl r + sw r + (nl r' + sw r')) hN _ _ none (xv_pl (o := none) ok pb fun l hl => (v0 p1 l hl).1) (xv_pl (o := none) ok' pb' fun l hl => (v0 p2 l hl).1) (xv_ex fun l hl => (v0 p1 l hl).2) (xv_ex fun l hl => (v0 p2 l hl).2) ?_ ?_
    · rw [xv_sz, xv_sz]; omega
    · rw [xv_T, xv_T]; exact h none (fun j hj => by cases hj)
  refine rows_eq hN0 p1 p2 e0 fun j hj => ?_
  refine same_on (S := nl r + sw r + (nl r' + sw r')) _ _ none (xv_sk e0) (xv_pl (o := none) ok pb fun l hl => (v1 p1 j hj l hl).1) (xv_pl (o := none) ok' pb' fun l hl => (v1 p2 j hj l hl).1) (xv_ex fun l hl => ?_) (xv_ex fun l hl => ?_) ?_ ?_
  · have := (v1 p1 j hj l hl).2; omega
  · have := (v1 p2 j hj l hl).2; omega
  · rw [xv_sz]; omega
  · rw [xv_T, xv_T]; exact h (some j) (fun i hi => by cases hi; exact hj)
end G57
set_option Elab.async false
set_option linter.all false
set_option maxRecDepth 100000
set_option maxHeartbeats 1000000
namespace G57
open PySem L2
mutual
def inZ (Z : Nat) : Pg → Prop
  | .text _ => True
  | .loop f ps => rsize (rowPs ps) ≤ Z ∧ (isOpen f = false → f.headD 0 ≤ 1000) ∧ inZs Z ps
def inZs (Z : Nat) : List Pg → Prop
  | [] => True
  | p :: ps => inZ Z p ∧ inZs Z ps
end
theorem inZs_of {Z : Nat} : ∀ {ps : List Pg}, (∀ p ∈ ps, inZ Z p) → inZs Z ps
  | [], _ => by simp [inZs]
  | q :: ps, h => by rw [inZs]; exact ⟨h q (by simp), inZs_of fun p hp => h p (by simp [hp])⟩
end G57
set_option Elab.async false
set_option linter.all false
set_option maxRecDepth 100000
set_option maxHeartbeats 1000000
namespace G57
open PySem L2
def gP (m : Nat) (p : Pg) : Prop := wfP m p 2 true ∧ lwP p ∧ inZ 600000 p ∧ Sh 5 19000 (encP p)
def gPs (m : Nat) (ps : List Pg) : Prop := ∀ p ∈ ps, gP m p
theorem gPs.all {m : Nat} {ps : List Pg} (h : gPs m ps) (hl : ps.length ≤ 52) (hm : m ≤ 3) : wfPs m ps 2 true ∧ lwPs ps ∧ inZs 600000 ps ∧ Sh 9 1000000 (encPg m ps) := by
  refine ⟨wfPs_of fun p hp => (h p hp).1, lwPs_of fun p hp => (h p hp).2.1, inZs_of fun p hp => (h p hp).2.2.1, ?_⟩
  have a : Sh 6 (52 * 19002 + 3) (.tup (encPs ps)) := Sh.tup (n := 5) (k := 19000) (fun d hd => by
    rw [encPs_map] at hd
    obtain ⟨p, hp, rfl⟩ := List.mem_map.mp hd
    exact (h p hp).2.2.2) (by rw [encPs_len]; exact hl)
  have b : Sh 6 41 (.int (m : Int)) := Sh.int (by rw [Int.natAbs_natCast]; exact Nat.lt_of_le_of_lt hm (by decide))
  exact (Sh.two b a).up (by omega) (by omega)
end G57
set_option Elab.async false
set_option linter.all false
set_option maxRecDepth 100000
set_option maxHeartbeats 1000000
namespace G57
open PySem L2
def ir_alike : Sx := .cons (.ret (.cmp .Eq (.call 0 (.cons (.var 0) (.nil))) (.call 0 (.cons (.var 1) (.nil))))) .nil
structure Pgd (m L T : Nat) (ps : List Pg) (r : List It) : Prop where
  wf : wfPs m ps 3 true
  lw : lwPs ps
  iz : inZs 600000 ps
  len : ps.length ≤ 52
  sh : Sh 9 1000000 (encPg m ps)
  row : rowPs ps = r
  ok : OkX m r
  lp : (lps r).length ≤ L
  tz : tsz m r ≤ T
theorem rsz_eq : ∀ r : List It, rsize r = nl r + sw r + (lps r).length
  | [] => by simp [rsize, nl, sw, lps]
  | .inl c :: r => by have := rsz_eq r; simp only [rsize, nl, sw, lps] at this ⊢; omega
  | .inr c :: r => by have := rsz_eq r; simp only [rsize, nl, sw, lps, List.map_cons, List.sum_cons, List.length_cons] at this ⊢; omega
mutual
theorem inZ_Q {m : Nat} : ∀ (p : Pg) (d : Nat) (b : Bool), okQ m p d b → d ≤ 3 → inZ 600000 p
  | .text w, d, b, h, _ => by rw [inZ]; trivial
  | .loop f ps, d, b, h, hd => by
    rw [okQ] at h
    obtain ⟨h0, hf, ho, hl, hq⟩ := h
    rw [inZ]
    refine ⟨bdQ3 hq (by omega) hl, fun _ => by have := hf.2.2; omega, inZs_Q ps _ _ hq (by omega)⟩
theorem inZs_Q {m : Nat} : ∀ (ps : List Pg) (d : Nat) (b : Bool), okQs m ps d b → d ≤ 3 → inZs 600000 ps
  | [], d, b, _, _ => by rw [inZs]; trivial
  | p :: ps, d, b, h, hd => by
    rw [okQs] at h
    rw [inZs]
    exact ⟨inZ_Q p d b h.1 hd, inZs_Q ps d b h.2 hd⟩
end
theorem szA_app (a b : List It) : (szT (txl (a ++ b)) + szL (lps (a ++ b)) : Int) = (szT (txl a) + szL (lps a)) + (szT (txl b) + szL (lps b)) := by
  rw [szT_txl, szT_txl, szT_txl, nl_app, lps_app]
  have : ∀ x y : List Lp, szL (x ++ y) = szL x + szL y := fun x y => by
    induction x with
    | nil => simp [szL]
    | cons l x ih => simp only [szL, List.cons_append, List.map_cons, List.sum_cons] at ih ⊢; omega
  rw [this]
  omega
theorem rowPs_dropLast {ps : List Pg} (h : ps ≠ []) : rowPs ps = rowPs ps.dropLast ++ rowP (ps.getLast h) := by
  conv => lhs; rw [← List.dropLast_concat_getLast h, rowPs_app]
  simp [rowPs]
theorem OkB.drop {m : Nat} {most : Int} {ps : List Pg} (h : OkB m most ps) (hm : most ≤ 300) (hne : ps ≠ []) : OkB m most ps.dropLast := by
  have e := rowPs_dropLast hne
  have lp := h.lp
  have sz := h.sz
  rw [e, lps_app, List.length_append] at lp
  rw [e, szA_app] at sz
  have h300 := h.to300 hm
  have hq : okQs m ps.dropLast 3 true := okQs_of fun y hy => okQs_mem h.ok y (List.dropLast_subset _ hy)
  refine ⟨h.m3, hq, by rw [List.length_dropLast]; have := h.len; omega, by omega, ?_⟩
  have := szT_nn (txl (rowP (ps.getLast hne)))
  have := szL_nn (ls := lps (rowP (ps.getLast hne))) fun l hl => h300.hd l (by rw [e, lps_app]; simp [hl])
  omega
theorem OkB.pgd {m : Nat} {most : Nat} {ps : List Pg} (h : OkB m most ps) (hm : most ≤ 300) {L : Nat} (hL : (lps (rowPs ps)).length ≤ L) : Pgd m L (12 * most) ps (rowPs ps) := by
  have h3 := h.to300 (by omega)
  have fm := fmQs ps 3 true h.ok
  have s1 := szT_txl (rowPs ps)
  have s2 := sw_le h3.hd
  have sz := h.sz
  have t := tsz_le (m := m) (V := 12) (r := rowPs ps) (fun l hl => val_le h.m3 (fm l hl).1.1 (fm l hl).1.2.2 (fm l hl).1.2.1)
  refine ⟨h3.wf.1, h3.wf.2, inZs_Q ps 3 true h.ok (by omega), by have := h.len; omega, h3.shP.up (by omega) (by omega), rfl, h3.okX, hL, ?_⟩
  have e : 12 * (nl (rowPs ps) + sw (rowPs ps)) ≤ 12 * most := Nat.mul_le_mul_left _ (by unfold sw; omega)
  omega
def sFlatN (n : Nat) : Spec2 := fun ds g Q => ∃ (ps : List Pg) (m d : Nat), ds = [encPg m ps] ∧ wfPs m ps d true ∧ d < n ∧ rsize (rowPs ps) ≤ 15000000 ∧ Q (encRw m (rowPs ps)) g
theorem q_flatN (n : Nat) : ∀ ds g Q, sFlatN n ds g Q → OkS (tab2 [("parts_row", sPartsR n)]) [] ir_flat { nx := fun _ g' => Q .non g', rt := Q } (startD ["program", "texts", "loops"] ds) g := by
  rintro ds g Q ⟨ps, m, d, rfl, hw, hd, hz, k⟩
  rw [show startD ["program", "texts", "loops"] [encPg m ps] = [some (encPg m ps), none, none] from rfl]
  unfold ir_flat
  refine ok_cons (ok_asg rfl ?_)
  simp only [encPg, wqE, wqA, idxV_t, flatD_i, ownB, Bool.not_false, Bool.or_self, tab2_q, List.getElem?_cons_zero, Option.some.injEq, exists_eq_left', Option.map_some, atI_1, true_and]
  refine ⟨ps, m, d, true, rfl, hw, hd, hz, ?_⟩
  simp only [encTL, wqP_v, wqP_t, wqPs_n, wqPs_c, List.set_cons_zero, List.set_cons_succ]
  unfold ir_flat_1
  refine ok_cons (ok_ret ?_)
  simp only [wqE, wqA, idxV_t, flatD_i, ownB, Bool.not_false, Bool.or_self, Bool.or_true, List.getElem?_cons_zero, List.getElem?_cons_succ, Option.some.injEq, exists_eq_left', atI_0, true_and]
  exact ⟨by simp, k⟩
theorem OkX.rs {m : Nat} {r : List It} (h : OkX m r) : rsize r ≤ 4000000 := by have := (tsz_lps h.ok).2.1; have := h.sz; omega
def sPlainN (n : Nat) : Spec2 := fun ds g Q => ∃ (ps : List Pg) (m d : Nat), ds = [encPg m ps] ∧ wfPs m ps d true ∧ d < n ∧ OkX m (rowPs ps) ∧ Q (encRw m (plainI (rowPs ps))) g
theorem q_plainN (n : Nat) : ∀ ds g Q, sPlainN n ds g Q → OkS (tab2 [("plain_row", sPlainR), ("flat", sFlatN n)]) [] ir_plain { nx := fun _ g' => Q .non g', rt := Q } (startD ["program"] ds) g := by
  rintro ds g Q ⟨ps, m, d, rfl, hw, hd, ok, k⟩
  rw [show startD ["program"] [encPg m ps] = [some (encPg m ps)] from rfl]
  unfold ir_plain
  refine ok_cons (ok_ret ?_)
  simp only [wqE, wqA, ownB, Bool.not_false, Bool.or_true, tab2_q, List.getElem?_cons_zero, List.getElem?_cons_succ, Option.some.injEq, exists_eq_left', Option.map_some, true_and, Bool.not_false]
  have := ok.rs
  exact ⟨ps, m, d, rfl, hw, hd, by omega, m, rowPs ps, rfl, ok.okPl, k⟩
def sAlike (n : Nat) : Spec2 := fun ds g Q => ∃ (m : Nat) (ps qs : List Pg) (d e : Nat), ds = [encPg m ps, encPg m qs] ∧ wfPs m ps d true ∧ d < n ∧ OkX m (rowPs ps) ∧ wfPs m qs e true ∧ e < n ∧ OkX m (rowPs qs) ∧ ∀ b : Bool, (b = true ↔ plainI (rowPs ps) = plainI (rowPs qs)) → Q (.bl b) g
theorem q_alike (n : Nat) : ∀ ds g Q, sAlike n ds g Q → OkS (tab2 [("plain", sPlainN n)]) [] ir_alike { nx := fun _ g' => Q .non g', rt := Q } (startD ["one", "other"] ds) g := by
  rintro ds g Q ⟨m, ps, qs, d, e, rfl, w1, d1, o1, w2, d2, o2, k⟩
  rw [show startD ["one", "other"] [encPg m ps, encPg m qs] = [some (encPg m ps), some (encPg m qs)] from rfl]
  unfold ir_alike
  refine ok_cons (ok_ret ?_)
  simp only [wqE, wqA, cmpV_Eq, ownB, Bool.not_false, Bool.or_true, tab2_q, List.getElem?_cons_zero, List.getElem?_cons_succ, Option.some.injEq, exists_eq_left', Option.map_some, true_and, Bool.not_false]
  refine ⟨ps, m, d, rfl, w1, d1, o1, qs, m, e, rfl, w2, d2, o2, ?_⟩
  refine eqV_of o1.pl.ok.cmpR o2.pl.ok.cmpR (by omega) (by omega) fun t h => ?_
  simp only [Bool.false_xor]
  exact k t (h.trans ⟨fun e => encRw_inj e, fun e => by rw [e]⟩)
end G57
set_option Elab.async false
set_option linter.all false
set_option maxRecDepth 100000
set_option maxHeartbeats 1000000
namespace G57
open PySem L2
theorem OkX.app {m : Nat} {a b : List It} (h : OkX m a) (h2 : OkX m b) (hz : tsz m a + tsz m b ≤ 2000000) : OkX m (a ++ b) := ⟨okA_app.mpr ⟨h.ok, h2.ok⟩, by rw [tsz_app]; exact hz, h.m3⟩
end G57
set_option Elab.async false
set_option linter.all false
set_option maxRecDepth 100000
set_option maxHeartbeats 1000000
namespace G57
open PySem L2
def repI (n : Nat) (r : List It) : List It := (List.replicate n r).flatten
theorem okA_repI {m n : Nat} {r : List It} (h : okA m r) : okA m (repI n r) := fun x hx => by
  unfold repI at hx
  obtain ⟨l, hl, hx⟩ := List.mem_flatten.mp hx
  rw [List.eq_of_mem_replicate hl] at hx
  exact h x hx
theorem repI_succ (n : Nat) (r : List It) : repI (n + 1) r = r ++ repI n r := by unfold repI; rw [List.replicate_succ, List.flatten_cons]
theorem rowT_repI (ns : List Int) (n : Nat) (r : List It) : rowT ns (repI n r) = pw n (rowT ns r) := by
  induction n with
  | zero => rfl
  | succ n ih => rw [repI_succ, rowT_app, ih, Nat.add_comm, pw_add, pw_1]
theorem tsz_repI (m n : Nat) (r : List It) : tsz m (repI n r) = n * tsz m r := by unfold tsz; rw [rowT_repI, pw_len]
theorem OkX.rep {m n : Nat} {r : List It} (h : OkX m r) (hz : n * tsz m r ≤ 2000000) : OkX m (repI n r) := ⟨okA_repI h.ok, by rw [tsz_repI]; exact hz, h.m3⟩
end G57
set_option Elab.async false
set_option linter.all false
set_option maxRecDepth 100000
set_option maxHeartbeats 1000000
namespace G57
open PySem L2
theorem val_tsz' {m : Nat} : ∀ {r : List It}, okA m r → ∀ l ∈ lps r, (valF l.2 (ones m)).toNat ≤ tsz m r
  | .inl c :: r, h, l, hl => by
    have := val_tsz' (okA_cons.mp h).2 l (by simpa [lps] using hl)
    rw [tsz_inl]; omega
  | .inr k :: r, h, l, hl => by
    obtain ⟨h1, h2⟩ := okA_cons.mp h
    have h1 : okL m k := h1
    rw [tsz_inr]
    simp only [lps, List.mem_cons] at hl
    rcases hl with rfl | hl
    · have := List.length_pos_iff.mpr h1.ne
      have : (valF l.2 (ones m)).toNat * 1 ≤ (valF l.2 (ones m)).toNat * l.1.length := Nat.mul_le_mul_left _ this
      omega
    · have := val_tsz' h2 l hl
      omega
theorem mzr_wz' {L : Nat} : ∀ (r : List It) (k : Nat), mzr L k r ≤ (L + 1) * wzs r + (lps r).length * (k + nl r)
  | [], k => by simp [mzr, lps]
  | .inl c :: r, k => by
    have := mzr_wz' (L := L) r (k + 1)
    simp only [mzr, lps, nl, wzs, List.map_cons, List.sum_cons, wz] at this ⊢
    rw [show k + (nl r + 1) = k + 1 + nl r by omega, Nat.mul_add (L + 1)]
    omega
  | .inr l :: r, k => by
    have := mzr_wz' (L := L) r k
    simp only [mzr, lps, nl, wzs, List.map_cons, List.sum_cons, wz, List.length_cons] at this ⊢
    have e1 : (L + 1) * ((l.2.headD 0).toNat * l.1.length) + l.1.length ≤ (L + 1) * (l.1.length * (1 + (l.2.headD 0).toNat) + 1) := by
      rw [Nat.mul_add l.1.length, Nat.mul_one, Nat.mul_comm l.1.length, Nat.mul_add, Nat.mul_add]
      have : 1 * l.1.length ≤ (L + 1) * l.1.length := Nat.mul_le_mul_right _ (by omega)
      omega
    rw [Nat.mul_add (L + 1), Nat.add_mul _ 1 (k + nl r), Nat.one_mul]
    omega
theorem nl_wz' : ∀ r : List It, nl r + (lps r).length ≤ wzs r
  | [] => by simp [nl, lps]
  | .inl c :: r => by have := nl_wz' r; simp only [nl, wzs, List.map_cons, List.sum_cons, wz, lps] at this ⊢; omega
  | .inr c :: r => by have := nl_wz' r; simp only [nl, wzs, List.map_cons, List.sum_cons, wz, lps, List.length_cons] at this ⊢; omega
theorem mzr_bd {r : List It} {S : Nat} (h : wzs r ≤ S) (hl : (lps r).length ≤ 12) : mzr (lps r).length 0 r ≤ 25 * S := by
  have a := mzr_wz' (L := (lps r).length) r 0
  have d := nl_wz' r
  have e1 : ((lps r).length + 1) * wzs r ≤ 13 * S := Nat.mul_le_mul (by omega) h
  have e2 : (lps r).length * (0 + nl r) ≤ 12 * S := Nat.mul_le_mul hl (by omega)
  omega
theorem wzs_plain : ∀ {r : List It}, (∀ l ∈ lps r, l.2.headD 0 = 0) → wzs r = rsize r
  | [], _ => rfl
  | .inl c :: r, h => by
    have := wzs_plain (r := r) (fun l hl => h l (by simpa [lps] using hl))
    simp only [wzs, List.map_cons, List.sum_cons, wz, rsize] at this ⊢
    omega
  | .inr l :: r, h => by
    have := wzs_plain (r := r) (fun l hl => h l (by simp [lps, hl]))
    have h0 := h l (by simp [lps])
    simp only [wzs, List.map_cons, List.sum_cons, wz, rsize, h0] at this ⊢
    simp
    omega
structure PlR (m S T : Nat) (r : List It) : Prop where
  ok : OkX m r
  pl : plainI r = r
  lp : (lps r).length ≤ 12
  wz : wzs r ≤ S
  tz : tsz m r ≤ T
theorem PlR.f0 {m S T : Nat} {r : List It} (h : PlR m S T r) : ∀ l ∈ lps r, l.2.headD 0 = 0 := fun l hl => (pFs h.ok.ok ((plain_iff h.ok.ok).mpr h.pl) l hl).f0
theorem PlR.rs {m S T : Nat} {r : List It} (h : PlR m S T r) : rsize r ≤ S := by rw [← wzs_plain h.f0]; exact h.wz
theorem PlR.mono {m S T S' T' : Nat} {r : List It} (h : PlR m S T r) (h1 : S ≤ S') (h2 : T ≤ T') : PlR m S' T' r := ⟨h.ok, h.pl, h.lp, Nat.le_trans h.wz h1, Nat.le_trans h.tz h2⟩
theorem PlR.of {m S T : Nat} {r : List It} (ok : OkX m r) (lp : (lps r).length ≤ 12) (wz : wzs r ≤ S) (tz : tsz m r ≤ T) : PlR m S T (plainI r) := by
  have p := ok.pl
  have pl := okA.pl ok.ok
  have f0 : ∀ l ∈ lps (plainI r), l.2.headD 0 = 0 := fun l hl => (pFs p.ok.ok pl.pb l hl).f0
  have ps := plain_size r [] (fun l hl => (okA_lp ok.ok l hl).ne)
  have rs2 : rsize (plainI r) ≤ wzs r := by
    unfold plainI
    rw [rsize_rev]
    simpa [rsize] using ps
  exact ⟨p.ok, p.pl, by have := pl.nl; omega, by rw [wzs_plain f0]; omega, by rw [p.sz]; exact tz⟩
theorem OkB.wzL {m : Nat} {most : Nat} {ps : List Pg} (h : OkB m most ps) (hm : most ≤ 300) : wzs (rowPs ps) ≤ most + 12 := by
  have h3 := h.to300 (by omega)
  have e := wzs_eq h3.hd
  have s1 := szT_txl (rowPs ps)
  have sz := h.sz
  have lp := h.lp
  omega
theorem OkX.wzL {m : Nat} {most : Nat} {r : List It} (h : OkX m r) (h1 : (lps r).length ≤ 12) (h2 : szT (txl r) + szL (lps r) ≤ (most : Int)) : wzs r ≤ most + 12 := by
  have e := wzs_eq (r := r) fun l hl => by
    have ol := okA_lp h.ok l hl
    cases e : l.2 with
    | nil => simp
    | cons c t => rw [List.headD_cons]; exact ol.nn c (by rw [e]; simp)
  have s1 := szT_txl r
  omega
def mkR (t : Wd) (ts : List Wd) (ls : List Lp) : List It := lets t ++ pcs2 (ts.zip ls)
theorem lps_pcs2 : ∀ (ts : List Wd) (ls : List Lp), ts.length = ls.length → lps (pcs2 (ts.zip ls)) = ls ∧ txs (pcs2 (ts.zip ls)) = ([], ts)
  | [], [], _ => ⟨rfl, rfl⟩
  | [], l :: ls, h => by simp at h
  | t :: ts, [], h => by simp at h
  | t :: ts, l :: ls, h => by
    obtain ⟨h1, h2⟩ := lps_pcs2 ts ls (by simpa using h)
    have e : pcs2 ((t :: ts).zip (l :: ls)) = .inr l :: (lets t ++ pcs2 (ts.zip ls)) := by simp [pcs2]
    rw [e]
    constructor
    · simp only [lps, lps_app, lps_lets, List.nil_append, h1]
    · simp only [txs, txs_lets, h2, List.append_nil]
theorem mkR_lps {t : Wd} {ts : List Wd} {ls : List Lp} (h : ts.length = ls.length) : lps (mkR t ts ls) = ls := by unfold mkR; rw [lps_app, lps_lets, (lps_pcs2 ts ls h).1]; rfl
theorem mkR_txs {t : Wd} {ts : List Wd} {ls : List Lp} (h : ts.length = ls.length) : txs (mkR t ts ls) = (t, ts) := by unfold mkR; rw [txs_lets, (lps_pcs2 ts ls h).2]; simp
theorem mkR_self (r : List It) : mkR (txs r).1 (txs r).2 (lps r) = r := (row_split r).symm
theorem encRw_mkR {m : Nat} {t : Wd} {ts : List Wd} {ls : List Lp} (h : ts.length = ls.length) : encRw m (mkR t ts ls) = .tup [.int m, .tup (.str t :: ts.map .str), .tup (ls.map encLp)] := by
  unfold encRw encTx encLs txl
  rw [mkR_lps h, mkR_txs h]
  rfl
theorem txs_len (r : List It) : (txs r).2.length = (lps r).length := by have := txl_len r; unfold txl at this; simpa using this
theorem nl_sum : ∀ r : List It, nl r = (txs r).1.length + ((txs r).2.map List.length).sum
  | [] => by simp [nl, txs]
  | .inl c :: r => by have := nl_sum r; simp only [nl, txs, List.length_cons] at this ⊢; omega
  | .inr l :: r => by have := nl_sum r; simp only [nl, txs, List.length_nil, List.map_cons, List.sum_cons] at this ⊢; omega
theorem tsz_sum (m : Nat) : ∀ r : List It, tsz m r = nl r + ((lps r).map fun l => (valF l.2 (ones m)).toNat * l.1.length).sum
  | [] => by simp [tsz, rowT, nl, lps]
  | .inl c :: r => by have := tsz_sum m r; rw [tsz_inl]; simp only [nl, lps] at this ⊢; omega
  | .inr l :: r => by have := tsz_sum m r; rw [tsz_inr]; simp only [nl, lps, List.map_cons, List.sum_cons] at this ⊢; omega
theorem wzs_sum : ∀ r : List It, wzs r = nl r + ((lps r).map fun l => l.1.length * (1 + (l.2.headD 0).toNat) + 1).sum
  | [] => by simp [wzs, nl, lps]
  | .inl c :: r => by have := wzs_sum r; simp only [wzs, List.map_cons, List.sum_cons, wz, nl, lps] at this ⊢; omega
  | .inr l :: r => by have := wzs_sum r; simp only [wzs, List.map_cons, List.sum_cons, wz, nl, lps] at this ⊢; omega
theorem okA_words : ∀ {m : Nat} {r : List It}, okA m r ↔ (∀ t ∈ txl r, lowW t) ∧ ∀ l ∈ lps r, okL m l := by
  intro m r
  constructor
  · intro h
    exact ⟨(lowT_words fun x hx => by have := h x hx; cases x with | inl c => exact this | inr l => exact (this : okL m l).low).1, okA_lp h⟩
  · rintro ⟨h1, h2⟩
    rw [← mkR_self r]
    unfold mkR
    refine okA_app.mpr ⟨okA_lets.mpr (h1 _ (by simp [txl])), ?_⟩
    intro x hx
    unfold pcs2 at hx
    obtain ⟨q, hq, hx⟩ := List.mem_flatten.mp hx
    obtain ⟨y, hy, rfl⟩ := List.mem_map.mp hq
    have hz := List.of_mem_zip hy
    rcases List.mem_cons.mp hx with rfl | hx
    · exact h2 _ hz.2
    · exact okA_lets.mpr (h1 y.1 (by simp [txl, hz.1])) x hx
theorem greatC_some {m N j : Nat} (h : j < m) : greatC m N (some j) = List.replicate j (N : Int) ++ ((N : Int) + 1) :: List.replicate (m - j - 1) (N : Int) := by
  unfold greatC
  apply List.ext_getElem?
  intro i
  rcases Nat.lt_trichotomy i j with hi | hi | hi
  · rw [List.getElem?_set_ne (by omega), List.getElem?_append_left (by simpa using hi)]
    simp [hi, show i < m by omega]
  · subst hi
    rw [List.getElem?_set_self (by simpa using h), List.getElem?_append_right (by simp)]
    simp
  · rw [List.getElem?_set_ne (by omega), List.getElem?_append_right (by simpa using Nat.le_of_lt hi), List.length_replicate]
    obtain ⟨k, hk⟩ : ∃ k, i - j = k + 1 := ⟨i - j - 1, by omega⟩
    rw [hk, List.getElem?_cons_succ]
    simp only [List.getElem?_replicate]
    by_cases h1 : i < m
    · rw [if_pos h1, if_pos (by omega)]
    · rw [if_neg h1, if_neg (by omega)]
theorem greatC_len (m N : Nat) (o : Option Nat) : (greatC m N o).length = m := by cases o <;> simp [greatC]
theorem greatC_mem {m N : Nat} {o : Option Nat} {n : Int} (h : n ∈ greatC m N o) : 0 ≤ n ∧ n ≤ ((N + 1 : Nat) : Int) := by
  cases o with
  | none => rw [List.eq_of_mem_replicate h]; omega
  | some j =>
    rcases List.mem_or_eq_of_mem_set h with h1 | h1
    · rw [List.eq_of_mem_replicate h1]; omega
    · rw [h1]; omega
end G57
set_option Elab.async false
set_option linter.all false
set_option maxRecDepth 100000
set_option maxHeartbeats 2000000
namespace G57
open PySem L2 PySem.Spec PyProof.Rows
def irz_l_otherwise_b1_1 : Sx := .cons (.ret (.tup (.cons (.var 2) (.cons (.var 3) (.cons (.bin .Add (.bin .Add (.sl (.var 4) (.nil) (.cons (.var 5) .nil)) (.tup (.cons (.idx (.var 4) (.bin .Add (.var 5) (.con (.int 1)))) (.cons (.idx (.var 4) (.var 5)) (.nil))))) (.sl (.var 4) (.cons (.bin .Add (.var 5) (.con (.int 2))) .nil) (.nil))) (.nil)))))) .nil
def irz_l_otherwise_b1 : Sx := .cons (.asg (.v 5) (.call 1 (.cons (.var 0) (.cons (.bin .Sub (.bi .len (.cons (.var 4) (.nil))) (.con (.int 1))) (.nil))))) irz_l_otherwise_b1_1
def irz_l_otherwise_b2 : Sx := .cons (.ret (.tup (.cons (.var 2) (.cons (.bin .Add (.var 3) (.tup (.cons (.con (.str [])) (.nil)))) (.cons (.bin .Add (.var 4) (.tup (.cons (.tup (.cons (.call 2 (.cons (.var 0) (.nil))) (.cons (.bin .Add (.bin .Mult (.tup (.cons (.con (.int 0)) (.nil))) (.var 2)) (.tup (.cons (.con (.int 1)) (.nil)))) (.nil)))) (.nil)))) (.nil)))))) .nil
def irz_l_otherwise_3 : Sx := .cons (.ret (.call 0 (.cons (.var 0) (.cons (.var 1) (.nil))))) .nil
def irz_l_otherwise_2 : Sx := .cons (.iff (.and (.cmp .Lt (.bi .len (.cons (.var 4) (.nil))) (.con (.int 11))) (.cmp .Eq (.call 1 (.cons (.var 0) (.cons (.con (.int 4)) (.nil)))) (.con (.int 0)))) (irz_l_otherwise_b2) (.nil)) irz_l_otherwise_3
def irz_l_otherwise_1 : Sx := .cons (.iff (.and (.cmp .Gt (.bi .len (.cons (.var 4) (.nil))) (.con (.int 1))) (.cmp .Eq (.call 1 (.cons (.var 0) (.cons (.con (.int 3)) (.nil)))) (.con (.int 0)))) (irz_l_otherwise_b1) (.nil)) irz_l_otherwise_2
def irz_l_otherwise : Sx := .cons (.asg (.t (.cons (.v 2) (.cons (.v 3) (.cons (.v 4) (.nil))))) (.var 1)) irz_l_otherwise_1
def irz_law_b2 : Sx := .cons (.asg (.v 5) (.call 1 (.cons (.var 1) (.cons (.call 4 (.cons (.var 1) (.cons (.var 5) (.nil)))) (.nil))))) .nil
def irz_law_b3 : Sx := .cons (.ret (.con (.bl false))) .nil
def irz_law_b4 : Sx := .cons (.ret (.con (.bl false))) .nil
def irz_law_b5 : Sx := .cons (.ex (.mt .append (.var 10) (.cons (.bin .Add (.bin .Add (.bin .Mult (.tup (.cons (.bin .Mult (.con (.int 5)) (.var 9)) (.nil))) (.var 11)) (.tup (.cons (.bin .Add (.bin .Mult (.con (.int 5)) (.var 9)) (.con (.int 1))) (.nil)))) (.bin .Mult (.tup (.cons (.bin .Mult (.con (.int 5)) (.var 9)) (.nil))) (.bin .Sub (.bin .Sub (.var 3) (.var 11)) (.con (.int 1))))) (.nil)))) .nil
def irz_law_b6 : Sx := .cons (.ret (.con (.bl false))) .nil
def irz_law_b1_10 : Sx := .cons (.iff (.cmp .Eq (.var 7) (.cmp .NotEq (.lc [14] (.v 14) (.iE (.var 10)) (.cons (.cmp .NotEq (.call 8 (.cons (.var 4) (.cons (.var 14) (.nil)))) (.call 8 (.cons (.var 5) (.cons (.var 14) (.nil))))) .nil) (.var 14)) (.lst (.nil)))) (irz_law_b6) (.nil)) .nil
def irz_law_b1_9 : Sx := .cons (.loop (.v 11) (.iR1 (.var 3)) (irz_law_b5)) irz_law_b1_10
def irz_law_b1_8 : Sx := .cons (.asg (.v 10) (.lst (.cons (.bin .Mult (.tup (.cons (.bin .Mult (.con (.int 5)) (.var 9)) (.nil))) (.var 3)) (.nil)))) irz_law_b1_9
def irz_law_b1_7 : Sx := .cons (.asg (.v 9) (.bin .Add (.bi .sum (.cons (.lc [12] (.v 12) (.iE (.bin .Add (.idx (.var 4) (.con (.int 1))) (.idx (.var 5) (.con (.int 1))))) (.nil) (.bi .len (.cons (.var 12) (.nil)))) (.nil))) (.bi .sum (.cons (.lc [13] (.v 13) (.iE (.bin .Add (.idx (.var 4) (.con (.int 2))) (.idx (.var 5) (.con (.int 2))))) (.nil) (.bi .len (.cons (.idx (.var 13) (.con (.int 0))) (.nil)))) (.nil))))) irz_law_b1_8
def irz_law_b1_6 : Sx := .cons (.iff (.cmp .NotEq (.bi .repr (.cons (.lst (.cons (.call 7 (.cons (.idx (.var 8) (.con (.int 0))) (.cons (.idx (.var 8) (.con (.int 1))) (.nil)))) (.cons (.call 7 (.cons (.idx (.var 8) (.con (.int 0))) (.cons (.idx (.var 8) (.con (.int 0))) (.nil)))) (.nil)))) (.nil))) (.bi .repr (.cons (.lst (.cons (.var 7) (.cons (.con (.bl true)) (.nil)))) (.nil)))) (irz_law_b4) (.nil)) irz_law_b1_7
def irz_law_b1_5 : Sx := .cons (.iff (.cmp .NotEq (.bi .repr (.cons (.lst (.cons (.call 6 (.cons (.idx (.var 8) (.con (.int 0))) (.nil))) (.cons (.call 6 (.cons (.idx (.var 8) (.con (.int 1))) (.nil))) (.nil)))) (.nil))) (.bi .repr (.cons (.lst (.cons (.var 4) (.cons (.var 5) (.nil)))) (.nil)))) (irz_law_b3) (.nil)) irz_law_b1_6
def irz_law_b1_4 : Sx := .cons (.asg (.t (.cons (.v 7) (.cons (.v 8) (.nil)))) (.tup (.cons (.cmp .Eq (.var 4) (.var 5)) (.cons (.lst (.cons (.call 5 (.cons (.var 4) (.nil))) (.cons (.call 5 (.cons (.var 5) (.nil))) (.nil)))) (.nil))))) irz_law_b1_5
def irz_law_b1_3 : Sx := .cons (.loop (.v 6) (.iR1 (.bin .Add (.con (.int 1)) (.call 2 (.cons (.var 1) (.cons (.con (.int 2)) (.nil)))))) (irz_law_b2)) irz_law_b1_4
def irz_law_b1_2 : Sx := .cons (.asg (.v 5) (.var 4)) irz_law_b1_3
def irz_law_b1_1 : Sx := .cons (.asg (.v 4) (.call 1 (.cons (.var 1) (.cons (.idx (.call 3 (.cons (.var 1) (.cons (.var 3) (.cons (.con (.int 30)) (.nil))))) (.con (.int 1))) (.nil))))) irz_law_b1_2
def irz_law_b1 : Sx := .cons (.asg (.v 3) (.bin .Add (.con (.int 1)) (.call 2 (.cons (.var 1) (.cons (.con (.int 3)) (.nil)))))) irz_law_b1_1
def irz_law_2 : Sx := .cons (.ret (.con (.bl true))) .nil
def irz_law_1 : Sx := .cons (.loop (.v 2) (.iR1 (.con (.int 4))) (irz_law_b1)) irz_law_2
def irz_law : Sx := .cons (.asg (.v 1) (.call 0 (.cons (.var 0) (.nil)))) irz_law_1
def tb (i : Nat) : Stmt := PySem.Challenge.pw_everycount_k36_whole_texts_tell_plain_ro.main.body.getD i (.Pass ⟨0, 0, 0, 0⟩)
def bs0 : List Str := ["any", "range", "zip", "tuple", "len", "list", "int", "abs", "sum", "enumerate", "repr"]
def cs0 : List (Str × D) := []
theorem ok_is_open : fnOkB ["form"] ["form"] (defScope (tb 1)) = true := by decide +kernel
theorem tr_is_open : trB 300 (gamOf ["form"] (defScope (tb 1)) bs0 [] cs0) (defBody (tb 1)) = some ir_is_open := by kernel_rfl
theorem ok_fixed_row : fnOkB ["word"] ["word"] (defScope (tb 2)) = true := by decide +kernel
theorem tr_fixed_row : trB 300 (gamOf ["word"] (defScope (tb 2)) bs0 [] cs0) (defBody (tb 2)) = some ir_fixed_row := by kernel_rfl
theorem ok_behind : fnOkB ["one", "other", "texts"] ["one", "other"] (defScope (tb 3)) = true := by decide +kernel
theorem tr_behind : trB 300 (gamOf ["one", "other", "texts"] (defScope (tb 3)) bs0 [] cs0) (defBody (tb 3)) = some ir_behind := by kernel_rfl
theorem ok_part_row : fnOkB ["part", "form", "inner", "found", "turn"] ["part"] (defScope (tb 4)) = true := by decide +kernel
theorem tr_part_row : trB 300 (gamOf ["part", "form", "inner", "found", "turn"] (defScope (tb 4)) bs0 ["parts_row", "is_open", "fixed_row", "behind"] cs0) (defBody (tb 4)) = some ir_part_row := by kernel_rfl
theorem ok_parts_row : fnOkB ["parts", "found", "part"] ["parts"] (defScope (tb 5)) = true := by decide +kernel
theorem tr_parts_row : trB 300 (gamOf ["parts", "found", "part"] (defScope (tb 5)) bs0 ["fixed_row", "behind", "part_row"] cs0) (defBody (tb 5)) = some ir_parts_row := by kernel_rfl
theorem ok_flat : fnOkB ["program", "texts", "loops"] ["program"] (defScope (tb 6)) = true := by decide +kernel
theorem tr_flat : trB 300 (gamOf ["program", "texts", "loops"] (defScope (tb 6)) bs0 ["parts_row"] cs0) (defBody (tb 6)) = some ir_flat := by kernel_rfl
theorem ok_row_program : fnOkB ["row", "k", "texts", "loops", "parts", "text", "word", "form", "part"] ["row"] (defScope (tb 7)) = true := by decide +kernel
theorem tr_row_program : trB 300 (gamOf ["row", "k", "texts", "loops", "parts", "text", "word", "form", "part"] (defScope (tb 7)) bs0 [] cs0) (defBody (tb 7)) = some ir_row_program := by kernel_rfl
theorem ok_root_of : fnOkB ["word", "size"] ["word"] (defScope (tb 8)) = true := by decide +kernel
theorem tr_root_of : trB 300 (gamOf ["word", "size"] (defScope (tb 8)) bs0 [] cs0) (defBody (tb 8)) = some ir_root_of := by kernel_rfl
theorem ok_times : fnOkB ["form", "number", "part"] ["form", "number"] (defScope (tb 9)) = true := by decide +kernel
theorem tr_times : trB 300 (gamOf ["form", "number", "part"] (defScope (tb 9)) bs0 [] cs0) (defBody (tb 9)) = some ir_times := by kernel_rfl
theorem ok_plus : fnOkB ["one", "other", "part", "more"] ["one", "other"] (defScope (tb 10)) = true := by decide +kernel
theorem tr_plus : trB 300 (gamOf ["one", "other", "part", "more"] (defScope (tb 10)) bs0 [] cs0) (defBody (tb 10)) = some ir_plus := by kernel_rfl
theorem ok_moved_left : fnOkB ["ahead", "word", "later"] ["ahead", "word", "later"] (defScope (tb 11)) = true := by decide +kernel
theorem tr_moved_left : trB 300 (gamOf ["ahead", "word", "later"] (defScope (tb 11)) bs0 [] cs0) (defBody (tb 11)) = some ir_moved_left := by kernel_rfl
theorem ok_plain_row : fnOkB ["row", "k", "texts", "loops", "found", "known", "text", "word", "form", "root", "number", "ahead", "later"] ["row"] (defScope (tb 12)) = true := by decide +kernel
theorem tr_plain_row : trB 300 (gamOf ["row", "k", "texts", "loops", "found", "known", "text", "word", "form", "root", "number", "ahead", "later"] (defScope (tb 12)) bs0 ["root_of", "moved_left", "times", "plus"] cs0) (defBody (tb 12)) = some ir_plain_row := by kernel_rfl
theorem ok_plain : fnOkB ["program"] ["program"] (defScope (tb 13)) = true := by decide +kernel
theorem tr_plain : trB 300 (gamOf ["program"] (defScope (tb 13)) bs0 ["plain_row", "flat"] cs0) (defBody (tb 13)) = some ir_plain := by kernel_rfl
theorem ok_alike : fnOkB ["one", "other"] ["one", "other"] (defScope (tb 15)) = true := by decide +kernel
theorem tr_alike : trB 300 (gamOf ["one", "other"] (defScope (tb 15)) bs0 ["plain"] cs0) (defBody (tb 15)) = some ir_alike := by kernel_rfl
theorem ok_l_deck : fnOkB ["_law_script"] ["_law_script"] (defScope (tb 17)) = true := by decide +kernel
theorem tr_l_deck : trB 300 (gamOf ["_law_script"] (defScope (tb 17)) bs0 [] cs0) (defBody (tb 17)) = some ir_l_deck := by kernel_rfl
theorem ok_l_draw : fnOkB ["_law_deck_here", "_law_many", "_law_cell", "_law_mixed", "_law_found"] ["_law_deck_here", "_law_many"] (defScope (tb 18)) = true := by decide +kernel
theorem tr_l_draw : trB 300 (gamOf ["_law_deck_here", "_law_many", "_law_cell", "_law_mixed", "_law_found"] (defScope (tb 18)) bs0 [] cs0) (defBody (tb 18)) = some ir_l_draw := by kernel_rfl
theorem ok_l_one : fnOkB ["_law_deck_here", "_law_items"] ["_law_deck_here", "_law_items"] (defScope (tb 19)) = true := by decide +kernel
theorem tr_l_one : trB 300 (gamOf ["_law_deck_here", "_law_items"] (defScope (tb 19)) bs0 ["_law_draw"] cs0) (defBody (tb 19)) = some ir_l_one := by kernel_rfl
theorem ok_l_word : fnOkB ["_law_deck_here", "_law_some"] ["_law_deck_here"] (defScope (tb 20)) = true := by decide +kernel
theorem tr_l_word : trB 300 (gamOf ["_law_deck_here", "_law_some"] (defScope (tb 20)) bs0 ["_law_one"] cs0) (defBody (tb 20)) = some irb_l_word := by kernel_rfl
theorem ok_l_form : fnOkB ["_law_deck_here", "_law_k", "_law_opened", "_law_factors", "_law_number"] ["_law_deck_here", "_law_k", "_law_opened"] (defScope (tb 21)) = true := by decide +kernel
theorem tr_l_form : trB 300 (gamOf ["_law_deck_here", "_law_k", "_law_opened", "_law_factors", "_law_number"] (defScope (tb 21)) bs0 ["_law_one", "_law_draw"] cs0) (defBody (tb 21)) = some irb_l_form := by kernel_rfl
theorem ok_l_parts : fnOkB ["_law_deck_here", "_law_k", "_law_deep", "_law_closed", "_law_found", "_law_turn_here", "_law_sort"] ["_law_deck_here", "_law_k", "_law_deep", "_law_closed"] (defScope (tb 22)) = true := by decide +kernel
theorem tr_l_parts : trB 300 (gamOf ["_law_deck_here", "_law_k", "_law_deep", "_law_closed", "_law_found", "_law_turn_here", "_law_sort"] (defScope (tb 22)) bs0 ["_law_draw", "_law_one", "_law_form", "_law_parts", "_law_word"] cs0) (defBody (tb 22)) = some irb_l_parts := by kernel_rfl
theorem ok_l_row : fnOkB ["_law_parts_here", "_law_texts", "_law_loops", "_law_some", "_law_inner", "_law_turn_here"] ["_law_parts_here"] (defScope (tb 23)) = true := by decide +kernel
theorem tr_l_row : trB 300 (gamOf ["_law_parts_here", "_law_texts", "_law_loops", "_law_some", "_law_inner", "_law_turn_here"] (defScope (tb 23)) bs0 ["_law_row"] cs0) (defBody (tb 23)) = some irb_l_row := by kernel_rfl
theorem ok_l_size : fnOkB ["_law_texts", "_law_loops", "_law_text_here", "_law_word_here", "_law_form_here"] ["_law_texts", "_law_loops"] (defScope (tb 24)) = true := by decide +kernel
theorem tr_l_size : trB 300 (gamOf ["_law_texts", "_law_loops", "_law_text_here", "_law_word_here", "_law_form_here"] (defScope (tb 24)) bs0 [] cs0) (defBody (tb 24)) = some irb_l_size := by kernel_rfl
theorem ok_l_program : fnOkB ["_law_deck_here", "_law_k", "_law_most", "_law_parts_here", "_law_texts", "_law_loops"] ["_law_deck_here", "_law_k", "_law_most"] (defScope (tb 25)) = true := by decide +kernel
theorem tr_l_program : trB 300 (gamOf ["_law_deck_here", "_law_k", "_law_most", "_law_parts_here", "_law_texts", "_law_loops"] (defScope (tb 25)) bs0 ["_law_parts", "_law_row", "_law_size"] cs0) (defBody (tb 25)) = some irb_l_program := by kernel_rfl
theorem ok_l_value : fnOkB ["_law_form_here", "_law_counts", "_law_factor", "_law_count"] ["_law_form_here", "_law_counts"] (defScope (tb 26)) = true := by decide +kernel
theorem tr_l_value : trB 300 (gamOf ["_law_form_here", "_law_counts", "_law_factor", "_law_count"] (defScope (tb 26)) bs0 [] cs0) (defBody (tb 26)) = some irb_l_value := by kernel_rfl
theorem ok_l_text : fnOkB ["_law_row_here", "_law_counts", "_law_found", "_law_text_here", "_law_word_here", "_law_form_here"] ["_law_row_here", "_law_counts"] (defScope (tb 27)) = true := by decide +kernel
theorem tr_l_text : trB 300 (gamOf ["_law_row_here", "_law_counts", "_law_found", "_law_text_here", "_law_word_here", "_law_form_here"] (defScope (tb 27)) bs0 ["_law_value"] cs0) (defBody (tb 27)) = some irb_l_text := by kernel_rfl
theorem ok_l_put : fnOkB ["_law_row_here", "_law_number", "_law_ahead", "_law_some", "_law_later", "_law_k", "_law_texts", "_law_loops", "_law_between", "_law_fresh"] ["_law_row_here", "_law_number", "_law_ahead", "_law_some", "_law_later"] (defScope (tb 28)) = true := by decide +kernel
theorem tr_l_put : trB 300 (gamOf ["_law_row_here", "_law_number", "_law_ahead", "_law_some", "_law_later", "_law_k", "_law_texts", "_law_loops", "_law_between", "_law_fresh"] (defScope (tb 28)) bs0 [] cs0) (defBody (tb 28)) = some irb_l_put := by kernel_rfl
theorem ok_l_turn_by : fnOkB ["_law_row_here", "_law_move", "_law_word_here", "_law_form_here", "_law_number", "_law_name", "_law_many", "_law_ahead", "_law_later", "_law_fresh", "_law_spare", "_law_one_here", "_law_two"] ["_law_row_here", "_law_move", "_law_word_here", "_law_form_here"] (defScope (tb 29)) = true := by decide +kernel
theorem tr_l_turn_by : trB 300 (gamOf ["_law_row_here", "_law_move", "_law_word_here", "_law_form_here", "_law_number", "_law_name", "_law_many", "_law_ahead", "_law_later", "_law_fresh", "_law_spare", "_law_one_here", "_law_two"] (defScope (tb 29)) bs0 ["_law_put"] cs0) (defBody (tb 29)) = some irb_l_turn_by := by kernel_rfl
theorem ok_l_turn : fnOkB ["_law_row_here", "_law_move", "_law_k", "_law_texts", "_law_loops", "_law_number", "_law_word_here", "_law_form_here", "_law_name", "_law_ahead", "_law_later", "_law_both", "_law_one_here", "_law_two"] ["_law_row_here", "_law_move"] (defScope (tb 30)) = true := by decide +kernel
theorem tr_l_turn : trB 300 (gamOf ["_law_row_here", "_law_move", "_law_k", "_law_texts", "_law_loops", "_law_number", "_law_word_here", "_law_form_here", "_law_name", "_law_ahead", "_law_later", "_law_both", "_law_one_here", "_law_two"] (defScope (tb 30)) bs0 ["_law_put", "_law_turn_by"] cs0) (defBody (tb 30)) = some irb_l_turn := by kernel_rfl
theorem ok_l_cuts : fnOkB ["_law_row_here", "_law_found", "_law_number", "_law_word_here", "_law_form_here", "_law_many"] ["_law_row_here"] (defScope (tb 31)) = true := by decide +kernel
theorem tr_l_cuts : trB 300 (gamOf ["_law_row_here", "_law_found", "_law_number", "_law_word_here", "_law_form_here", "_law_many"] (defScope (tb 31)) bs0 [] cs0) (defBody (tb 31)) = some irb_l_cuts := by kernel_rfl
theorem ok_l_plain : fnOkB ["_law_deck_here", "_law_row_here", "_law_some"] ["_law_deck_here", "_law_row_here"] (defScope (tb 32)) = true := by decide +kernel
theorem tr_l_plain : trB 300 (gamOf ["_law_deck_here", "_law_row_here", "_law_some"] (defScope (tb 32)) bs0 ["_law_cuts", "_law_turn", "_law_one"] cs0) (defBody (tb 32)) = some irb_l_plain := by kernel_rfl
theorem ok_l_changed : fnOkB ["_law_deck_here", "_law_row_here", "_law_k", "_law_texts", "_law_loops", "_law_sort", "_law_spot", "_law_word_here", "_law_form_here", "_law_fresh", "_law_place"] ["_law_deck_here", "_law_row_here"] (defScope (tb 33)) = true := by decide +kernel
theorem tr_l_changed : trB 300 (gamOf ["_law_deck_here", "_law_row_here", "_law_k", "_law_texts", "_law_loops", "_law_sort", "_law_spot", "_law_word_here", "_law_form_here", "_law_fresh", "_law_place"] (defScope (tb 33)) bs0 ["_law_draw", "_law_one"] cs0) (defBody (tb 33)) = some irb_l_changed := by kernel_rfl
theorem ok_l_otherwise : fnOkB ["_law_deck_here", "_law_row_here", "_law_k", "_law_texts", "_law_loops", "_law_spot"] ["_law_deck_here", "_law_row_here"] (defScope (tb 34)) = true := by decide +kernel
theorem tr_l_otherwise : trB 300 (gamOf ["_law_deck_here", "_law_row_here", "_law_k", "_law_texts", "_law_loops", "_law_spot"] (defScope (tb 34)) bs0 ["_law_changed", "_law_draw", "_law_word"] cs0) (defBody (tb 34)) = some irz_l_otherwise := by kernel_rfl
theorem ok_law : fnOkB ["_law_script", "_law_deck_here", "_law_turn_here", "_law_k", "_law_first", "_law_second", "_law_again", "_law_due", "_law_some", "_law_great", "_law_every", "_law_number", "_law_text_here", "_law_loop", "_law_counts"] ["_law_script"] (defScope (tb 35)) = true := by decide +kernel
theorem tr_law : trB 300 (gamOf ["_law_script", "_law_deck_here", "_law_turn_here", "_law_k", "_law_first", "_law_second", "_law_again", "_law_due", "_law_some", "_law_great", "_law_every", "_law_number", "_law_text_here", "_law_loop", "_law_counts"] (defScope (tb 35)) bs0 ["_law_deck", "_law_plain", "_law_draw", "_law_program", "_law_otherwise", "row_program", "plain", "alike", "_law_text"] cs0) (defBody (tb 35)) = some irz_law := by kernel_rfl
structure Tops (K : PySem.W.Frag) (mg : Str → Option Value) : Prop where
  f_is_open : FT K mg "is_open" (tb 1) ["form"]
  f_fixed_row : FT K mg "fixed_row" (tb 2) ["word"]
  f_behind : FT K mg "behind" (tb 3) ["one", "other"]
  f_part_row : FT K mg "part_row" (tb 4) ["part"]
  f_parts_row : FT K mg "parts_row" (tb 5) ["parts"]
  f_flat : FT K mg "flat" (tb 6) ["program"]
  f_row_program : FT K mg "row_program" (tb 7) ["row"]
  f_root_of : FT K mg "root_of" (tb 8) ["word"]
  f_times : FT K mg "times" (tb 9) ["form", "number"]
  f_plus : FT K mg "plus" (tb 10) ["one", "other"]
  f_moved_left : FT K mg "moved_left" (tb 11) ["ahead", "word", "later"]
  f_plain_row : FT K mg "plain_row" (tb 12) ["row"]
  f_plain : FT K mg "plain" (tb 13) ["program"]
  f_alike : FT K mg "alike" (tb 15) ["one", "other"]
  f_l_deck : FT K mg "_law_deck" (tb 17) ["_law_script"]
  f_l_draw : FT K mg "_law_draw" (tb 18) ["_law_deck_here", "_law_many"]
  f_l_one : FT K mg "_law_one" (tb 19) ["_law_deck_here", "_law_items"]
  f_l_word : FT K mg "_law_word" (tb 20) ["_law_deck_here"]
  f_l_form : FT K mg "_law_form" (tb 21) ["_law_deck_here", "_law_k", "_law_opened"]
  f_l_parts : FT K mg "_law_parts" (tb 22) ["_law_deck_here", "_law_k", "_law_deep", "_law_closed"]
  f_l_row : FT K mg "_law_row" (tb 23) ["_law_parts_here"]
  f_l_size : FT K mg "_law_size" (tb 24) ["_law_texts", "_law_loops"]
  f_l_program : FT K mg "_law_program" (tb 25) ["_law_deck_here", "_law_k", "_law_most"]
  f_l_value : FT K mg "_law_value" (tb 26) ["_law_form_here", "_law_counts"]
  f_l_text : FT K mg "_law_text" (tb 27) ["_law_row_here", "_law_counts"]
  f_l_put : FT K mg "_law_put" (tb 28) ["_law_row_here", "_law_number", "_law_ahead", "_law_some", "_law_later"]
  f_l_turn_by : FT K mg "_law_turn_by" (tb 29) ["_law_row_here", "_law_move", "_law_word_here", "_law_form_here"]
  f_l_turn : FT K mg "_law_turn" (tb 30) ["_law_row_here", "_law_move"]
  f_l_cuts : FT K mg "_law_cuts" (tb 31) ["_law_row_here"]
  f_l_plain : FT K mg "_law_plain" (tb 32) ["_law_deck_here", "_law_row_here"]
  f_l_changed : FT K mg "_law_changed" (tb 33) ["_law_deck_here", "_law_row_here"]
  f_l_otherwise : FT K mg "_law_otherwise" (tb 34) ["_law_deck_here", "_law_row_here"]
  md : Md K mg bs0 cs0
end G57
set_option Elab.async false
set_option linter.all false
set_option maxRecDepth 100000
set_option maxHeartbeats 2000000
namespace G57
open PySem L2 PySem.Spec PyProof.Rows
structure Oth (m S T : Nat) (r' : List It) : Prop where
  ok : OkX m r'
  lp : (lps r').length ≤ 12
  wz : wzs r' ≤ 2 * S + 5
  tz : tsz m r' ≤ 2 * T + S + 4
def sOth : Spec2 := fun ds g Q => ∃ (m S T : Nat) (r : List It), ds = [dck, encRw m r] ∧ PlR m S T r ∧ 1 ≤ m ∧ m ≤ 3 ∧ T ≤ 10000 ∧ S ≤ 1000 ∧ 10 ≤ g ∧ ∀ r', Oth m S T r' → Q (encRw m r') (g - 10)
abbrev Loth : List (Str × Spec2) := [("_law_changed", sChg), ("_law_draw", sDraw), ("_law_word", sWordB)]
theorem dot_last (m : Nat) : dot (List.replicate m 0 ++ [1]) (ones (m + 1)) = 1 := by
  induction m with
  | zero => decide
  | succ m ih =>
    rw [ones, List.replicate_succ, List.replicate_succ, List.cons_append, dot, ← ones, ih]
    simp
theorem q_otherwise (N : List Str) (hN : N.length = 6) : ∀ ds g Q, sOth ds g Q → OkS (tab2 Loth) [] irz_l_otherwise { nx := fun _ g' => Q .non g', rt := Q } (startD N ds) g := by
  rintro ds g Q ⟨m, S, T, r, rfl, P, hm1, hm, hT, hS, hg, k⟩
  rw [start_eq hN, show ([dck, encRw m r].map some ++ List.replicate (6 - [dck, encRw m r].length) none : En) = [some dck, some (encRw m r), none, none, none, none] from rfl]
  have hl := P.lp
  have tl := txl_len r
  have tz := P.tz
  have wz := P.wz
  unfold irz_l_otherwise
  refine ok_cons (ok_asg rfl ?_)
  simp only [encRw, wqE, wqP_v, wqP_t, wqPs_n, wqPs_c, ownB, Bool.not_false, Bool.or_true, List.getElem?_cons_zero, List.getElem?_cons_succ, List.set_cons_zero, List.set_cons_succ, Option.some.injEq, exists_eq_left', true_and, Bool.not_false]
  have B3 : ∀ g', g - 10 + 4 ≤ g' → OkS (tab2 Loth) [] irz_l_otherwise_3 { nx := fun _ g' => Q .non g', rt := Q } [some dck, some (encRw m r), some (.int m), some (encTx r), some (encLs r), none] g' := fun g' hg' => by
    refine ok_less hg' ?_
    unfold irz_l_otherwise_3
    refine ok_cons (ok_ret ?_)
    simp only [wqE, wqA, ownB, Bool.not_false, Bool.or_true, tab2_q, List.getElem?_cons_zero, List.getElem?_cons_succ, Option.some.injEq, exists_eq_left', Option.map_some, true_and, Bool.not_false]
    refine ⟨m, T, r, rfl, P.ok, fun l hl => Nat.le_trans (val_tsz' P.ok.ok l hl) tz, by omega, fun r' hc => ?_⟩
    rw [show g - 10 + 4 - 4 = g - 10 by omega]
    have h0 : ∀ l ∈ lps r, (l.2.headD 0).toNat ≤ 0 := fun l hl => by rw [P.f0 l hl]; decide
    have sw1 : sw r ≤ S := by have := P.rs; rw [rsz_eq] at this; omega
    have w1 := hc.wz 0 h0
    have t1 := hc.tz
    exact k r' ⟨⟨hc.ok, by omega, P.ok.m3⟩, by rw [hc.nlp]; exact hl, by omega, by omega⟩
  have B2 : ∀ g', g - 10 + 9 ≤ g' → OkS (tab2 Loth) [] irz_l_otherwise_2 { nx := fun _ g' => Q .non g', rt := Q } [some dck, some (encRw m r), some (.int m), some (encTx r), some (encLs r), none] g' := fun g' hg' => by
    unfold irz_l_otherwise_2
    refine ok_cons (ok_iff ?_)
    simp only [encLs, wqE, wqT, wqA, ordV_ii, biV_len_t, flatD_i, cmpV_Eq, cmpV_Lt, ownB, Bool.not_false, Bool.or_self, Bool.or_true, tab2_q, List.getElem?_cons_zero, List.getElem?_cons_succ, Option.some.injEq, exists_eq_left', Option.map_some, D.bl.injEq, true_and, decide_eq_true_eq, if_false, Bool.false_eq_true, Bool.not_false, List.length_map]
    by_cases h11 : ((lps r).length : Int) < 11
    · rw [if_pos h11]
      refine ⟨4, rfl, by decide, by decide, by omega, fun q q0 q1 => ?_⟩
      simp only [eqV_ii, exists_eq_left', Bool.false_xor, D.bl.injEq, decide_eq_true_eq]
      by_cases hq : q = 0
      · rw [if_pos hq]
        refine ok_less (g' := g - 10 + 1) (by omega) ?_
        unfold irz_l_otherwise_b2
        refine ok_cons (ok_ret ?_)
        simp only [encTx, wqE, wqA, addV_tt, mulV_ti, flatD_i, flatD_s, opV_Add, opV_Mult, ownB, Bool.not_false, Bool.or_self, Bool.or_true, tab2_q, List.getElem?_cons_zero, List.getElem?_cons_succ, Option.some.injEq, exists_eq_left', Option.map_some, true_and, Bool.not_false, List.length_map]
        refine ⟨by simp, by simp; omega, rfl, by omega, fun w hw hne => ?_⟩
        repeat (with_reducible refine And.intro (by first | omega | (simp; done) | (simp; omega)) ?_)
        rw [Int.toNat_natCast, rep_zero]
        repeat (with_reducible refine And.intro (by first | omega | (simp; done) | (simp; omega)) ?_)
        obtain ⟨m', rfl⟩ : ∃ m', m = m' + 1 := ⟨m - 1, by omega⟩
        have ol : okL (m' + 1) (w, List.replicate (m' + 1) 0 ++ [1]) := by
          refine ⟨hne, hw.2, by simp, fun i hi => ?_, ?_⟩
          · rcases List.mem_append.mp hi with hi | hi
            · rw [List.eq_of_mem_replicate hi]; decide
            · rw [List.mem_singleton.mp hi]; decide
          · unfold isOpen
            rw [List.replicate_succ, List.cons_append, List.tail_cons]
            simp
        have v1 : (valF (List.replicate (m' + 1) 0 ++ [1]) (ones (m' + 1))).toNat = 1 := by
          unfold valF
          rw [List.replicate_succ, List.cons_append, List.headD_cons, List.tail_cons, dot_last]
          decide
        have hx : OkX (m' + 1) (r ++ [.inr (w, List.replicate (m' + 1) 0 ++ [1])]) := ⟨okA_app.mpr ⟨P.ok.ok, okA_1.mpr ol⟩, by rw [tsz_app, tsz_inr, v1]; simp [tsz, rowT]; have := P.ok.sz; have : tsz (m' + 1) r = (rowT (ones (m' + 1)) r).length := rfl; have := hw.1; omega, P.ok.m3⟩
        have := k _ ⟨hx, by rw [lps_app]; simp [lps]; omega, by rw [wzs_app]; simp [wzs, G57.wz, List.replicate_succ]; have : wzs r = (r.map G57.wz).sum := rfl; have := hw.1; omega, by rw [tsz_app, tsz_inr, v1]; simp [tsz, rowT]; have : tsz (m' + 1) r = (rowT (ones (m' + 1)) r).length := rfl; have := hw.1; omega⟩
        obtain ⟨i, l, h1, h2⟩ := txl_app r [.inr (w, List.replicate (m' + 1) 0 ++ [1])]
        have e1 : txl (r ++ [.inr (w, List.replicate (m' + 1) 0 ++ [1])]) = txl r ++ [[]] := by rw [h2, h1]; simp [txs]
        have e2 : lps (r ++ [.inr (w, List.replicate (m' + 1) 0 ++ [1])]) = lps r ++ [(w, List.replicate (m' + 1) 0 ++ [1])] := by rw [lps_app]; rfl
        unfold encRw encTx encLs at this
        rw [e1, e2] at this
        simp only [List.map_append, List.map_cons, List.map_nil, encLp] at this
        rw [show g - 10 + 1 - 1 = g - 10 by omega]
        exact this
      · rw [if_neg hq]
        exact ok_nil (B3 _ (by omega))
    · rw [if_neg h11]
      exact ok_nil (B3 _ (by omega))
  unfold irz_l_otherwise_1
  refine ok_cons (ok_iff ?_)
  simp only [encLs, wqE, wqT, wqA, ordV_ii, biV_len_t, flatD_i, cmpV_Eq, cmpV_Gt, ownB, Bool.not_false, Bool.or_self, Bool.or_true, tab2_q, List.getElem?_cons_zero, List.getElem?_cons_succ, Option.some.injEq, exists_eq_left', Option.map_some, D.bl.injEq, true_and, decide_eq_true_eq, if_false, Bool.false_eq_true, Bool.not_false, List.length_map]
  by_cases h1 : (1 : Int) < (lps r).length
  · rw [if_pos h1]
    refine ⟨3, rfl, by decide, by decide, by omega, fun q q0 q1 => ?_⟩
    simp only [eqV_ii, exists_eq_left', Bool.false_xor, D.bl.injEq, decide_eq_true_eq]
    by_cases hq : q = 0
    · rw [if_pos hq]
      refine ok_less (g' := g - 10 + 1) (by omega) ?_
      unfold irz_l_otherwise_b1
      refine ok_cons (ok_asg rfl ?_)
      simp only [wqE, wqA, subV_ii, biV_len_t, flatD_i, opV_Sub, wqP_v, ownB, Bool.not_false, Bool.or_self, Bool.or_true, tab2_q, List.getElem?_cons_zero, List.getElem?_cons_succ, List.set_cons_zero, List.set_cons_succ, Option.some.injEq, exists_eq_left', Option.map_some, true_and, Bool.not_false, List.length_map]
      refine ⟨((lps r).length : Int) - 1, rfl, by omega, Int.lt_of_le_of_lt (show ((lps r).length : Int) - 1 ≤ 2 ^ 24 by omega) (by decide), by omega, fun spot p0 p1 => ?_⟩
      obtain ⟨j, rfl⟩ := Int.eq_ofNat_of_zero_le p0
      have hj : j + 1 < (lps r).length := by omega
      unfold irz_l_otherwise_b1_1
      refine ok_cons (ok_ret ?_)
      simp only [wqE, wqA, wqO, addV_ii, addV_tt, idxV_t, slV_t, flatD_i, opV_Add, ownB, Bool.not_false, Bool.or_self, Bool.or_true, List.getElem?_cons_zero, List.getElem?_cons_succ, Option.some.injEq, exists_eq_left', D.int.injEq, true_and, Bool.not_false]
      have a1 : atI ((lps r).map encLp) ((j : Int) + 1) = some (encLp (lps r)[j + 1]) := by
        rw [atI_n (n := j + 1) (by omega)]
        simp [hj]
      have a2 : atI ((lps r).map encLp) (j : Int) = some (encLp (lps r)[j]) := by
        rw [atI_n (n := j) (by omega)]
        simp [show j < (lps r).length by omega]
      have es : lps r = (lps r).take j ++ (lps r)[j] :: (lps r)[j + 1] :: (lps r).drop (j + 2) := by
        conv => lhs; rw [← List.take_append_drop j (lps r)]
        rw [List.drop_eq_getElem_cons (by omega), List.drop_eq_getElem_cons hj]
      obtain ⟨A, a, b, B, hA, hab⟩ : ∃ A a b B, A.length = j ∧ lps r = A ++ a :: b :: B := ⟨_, _, _, _, by rw [List.length_take]; omega, es⟩
      have ga : (lps r)[j] = a := by
        have : (lps r)[j]? = some a := by rw [hab, List.getElem?_append_right (by omega), hA]; simp
        rw [List.getElem?_eq_getElem (by omega)] at this
        simpa using this
      have gb : (lps r)[j + 1] = b := by
        have : (lps r)[j + 1]? = some b := by rw [hab, List.getElem?_append_right (by omega), hA]; simp
        rw [List.getElem?_eq_getElem (by omega)] at this
        simpa using this
      have tA : (lps r).take j = A := by rw [hab]; exact List.take_left' hA
      have tB : (lps r).drop (j + 2) = B := by rw [hab, show j + 2 = A.length + 2 by omega, List.drop_append, List.drop_eq_nil_of_le (by omega)]; simp
      refine ⟨_, a1, _, a2, ?_⟩
      rw [show (j : Int) + 2 = ((j + 2 : Nat) : Int) by omega, cut_d, cut_h, ← List.map_take, ← List.map_drop, tA, tB, ga, gb]
      have lab : (lps r).length = A.length + B.length + 2 := by rw [hab]; simp; omega
      simp only [List.length_map, List.length_append, List.length_cons, List.length_nil]
      repeat (with_reducible refine And.intro (by first | omega | (simp; done) | (simp; omega)) ?_)
      have hlen : (txs r).2.length = (A ++ b :: a :: B).length := by rw [txs_len, hab]; simp
      have perm : (A ++ b :: a :: B).Perm (lps r) := by rw [hab]; exact List.Perm.append_left A (List.Perm.swap a b B)
      have hr : lps (mkR (txs r).1 (txs r).2 (A ++ b :: a :: B)) = A ++ b :: a :: B := mkR_lps hlen
      have ht : txs (mkR (txs r).1 (txs r).2 (A ++ b :: a :: B)) = ((txs r).1, (txs r).2) := mkR_txs hlen
      have nle : nl (mkR (txs r).1 (txs r).2 (A ++ b :: a :: B)) = nl r := by rw [nl_sum, ht, ← nl_sum]
      have tse : tsz m (mkR (txs r).1 (txs r).2 (A ++ b :: a :: B)) = tsz m r := by rw [tsz_sum, tsz_sum m r, nle, hr, (perm.map _).sum_nat]
      have wse : wzs (mkR (txs r).1 (txs r).2 (A ++ b :: a :: B)) = wzs r := by rw [wzs_sum, wzs_sum r, nle, hr, (perm.map _).sum_nat]
      have hw := okA_words.mp P.ok.ok
      have := k _ ⟨⟨okA_words.mpr ⟨by unfold txl; rw [ht]; exact hw.1, fun l hl => by rw [hr] at hl; exact hw.2 l (perm.mem_iff.mp hl)⟩, by rw [tse]; exact P.ok.sz, P.ok.m3⟩, by rw [hr, perm.length_eq]; exact hl, by rw [wse]; omega, by rw [tse]; omega⟩
      rw [encRw_mkR hlen] at this
      rw [show g - 10 + 1 - 1 = g - 10 by omega]
      simp only [List.map_append, List.map_cons] at this
      simpa [encTx, txl] using this
    · rw [if_neg hq]
      exact ok_nil (B2 _ (by omega))
  · rw [if_neg h1]
    exact ok_nil (B2 _ (by omega))
abbrev Nlaw : List Str := ["_law_script", "_law_deck_here", "_law_turn_here", "_law_k", "_law_first", "_law_second", "_law_again", "_law_due", "_law_some", "_law_great", "_law_every", "_law_number", "_law_text_here", "_law_loop", "_law_counts"]
abbrev Llaw : List (Str × (Spec ⊕ Spec2)) := [("_law_deck", .inl spDeck), ("_law_plain", .inr sPlainL), ("_law_draw", .inr sDraw), ("_law_program", .inr sProgB), ("_law_otherwise", .inr sOth), ("row_program", .inr sRowPg), ("plain", .inr (sPlainN 8)), ("alike", .inr (sAlike 8)), ("_law_text", .inr sTextL)]
theorem len_sum (ts : List Wd) : (ts.map fun t => (t.length : Int)).sum = ((ts.map List.length).sum : Nat) := by
  induction ts with
  | nil => rfl
  | cons t ts ih => simp only [List.map_cons, List.sum_cons, ih]; omega
theorem sum_txl (r : List It) : ((txl r).map List.length).sum = nl r := by rw [nl_sum]; rfl
def cnt (m N : Nat) (o : Option Nat) : D := .tup ((greatC m N o).map .int)
theorem rep_int (n : Nat) (a : Int) : (List.replicate n [D.int a]).flatten = (List.replicate n a).map D.int := by
  induction n with
  | zero => rfl
  | succ n ih => rw [List.replicate_succ, List.flatten_cons, ih, List.replicate_succ]; rfl
theorem okV_cnts (m N : Nat) (os : List (Option Nat)) : okV (.rol (os.map (cnt m N))) = true := by
  simp only [okV, Bool.and_eq_true]
  have c : ∀ d ∈ os.map (cnt m N), CmpN 3 d := fun d hd => by
    obtain ⟨o, _, rfl⟩ := List.mem_map.mp hd
    refine CmpN.tup fun e he => ?_
    obtain ⟨i, _, rfl⟩ := List.mem_map.mp he
    exact .int
  exact ⟨pures_of fun d hd => (c d hd).pr, oks_le (by omega) (oks_of fun d hd => (c d hd).ok)⟩
theorem w_law : ∀ ds S Q, lawSp 63 ds S Q → wpS (tab1 (tabL Llaw)) irz_law { nx := fun _ S' => Q .non S', rt := Q } (startD Nlaw ds) S := by
  unfold irz_law
  refine law_body (M := [10]) rfl (by decide) rfl rfl ?_
  show OkS (tabL Llaw) [10] irz_law_1 _ [none, some dck, none, none, none, none, none, none, none, none, none, none, none, none, none] 2147483648
  unfold irz_law_1
  refine ok_cons (ok_loop rfl ?_)
  simp only [wqE, wqI, rng1V_i, flatD_i, wqP_v, true_and]
  refine ⟨small_of (by decide) (by decide), ?_⟩
  refine forV_inv (fun xs env g => 40000 * xs.length ≤ g ∧ ∃ o2 o3 o4 o5 o6 o7 o8 o9 o10 o11 o12 o13 o14, env = [none, some dck, o2, o3, o4, o5, o6, o7, o8, o9, o10, o11, o12, o13, o14]) _ _ _ ⟨by rw [show (rngD 0 4).length = 4 from by decide]; decide, _, _, _, _, _, _, _, _, _, _, _, _, _, rfl⟩ ?_ ?_
  · rintro x xs env g N ⟨hg, o2, o3, o4, o5, o6, o7, o8, o9, o10, o11, o12, o13, o14, rfl⟩ hN
    rw [List.length_cons, Nat.mul_succ] at hg
    unfold irz_law_b1
    refine ok_cons (ok_asg rfl ?_)
    simp only [wqE, wqA, flatD_i, opV_Add, wqP_v, ownB, Bool.not_false, Nat.reduceBEq, Bool.or_self, Bool.or_true, List.getElem?_cons_zero, List.getElem?_cons_succ, List.set_cons_zero, List.set_cons_succ, Option.some.injEq, exists_eq_left', true_and, Bool.not_false, tabL_q]
    refine ⟨3, rfl, by decide, by decide, by omega, fun mi hm0 hm4 => ?_⟩
    obtain ⟨m, hm', hm1, hm⟩ : ∃ m : Nat, 1 + mi = m ∧ 1 ≤ m ∧ m ≤ 3 := ⟨(1 + mi).toNat, by omega, by omega, by omega⟩
    simp only [addV_ii]
    rw [hm']
    unfold irz_law_b1_1
    refine ok_cons (ok_asg rfl ?_)
    simp only [wqE, wqA, flatD_i, wqP_v, ownB, Bool.not_false, Nat.reduceBEq, Bool.or_self, Bool.or_true, List.getElem?_cons_zero, List.getElem?_cons_succ, List.set_cons_zero, List.set_cons_succ, Option.some.injEq, exists_eq_left', true_and, Bool.not_false, tabL_q]
    refine ⟨m, 30, rfl, hm, by decide, by omega, fun ps hp => ?_⟩
    simp only [idxV_t, Option.some.injEq, exists_eq_left', atI_1]
    have P0 := (show OkB m ((30 : Nat) : Int) ps from hp).pgd (by omega) hp.lp
    have z0 := (show OkB m ((30 : Nat) : Int) ps from hp).wzL (by omega)
    have A := PlR.of P0.ok P0.lp z0 P0.tz
    have lp0 := P0.lp
    refine ⟨m, 10000, rowPs ps, rfl, P0.ok, by have := mzr_bd z0 lp0; omega, by omega, ?_⟩
    obtain ⟨r1, hr1⟩ : ∃ r1, r1 = plainI (rowPs ps) := ⟨_, rfl⟩
    rw [← hr1] at A ⊢
    unfold irz_law_b1_2
    refine ok_cons (ok_asg rfl ?_)
    simp only [wqE, wqP_v, ownB, Bool.not_false, Nat.reduceBEq, Bool.or_self, Bool.or_true, List.getElem?_cons_zero, List.getElem?_cons_succ, List.set_cons_zero, List.set_cons_succ, Option.some.injEq, exists_eq_left', true_and, Bool.not_false]
    unfold irz_law_b1_3
    refine ok_cons (ok_loop rfl ?_)
    simp only [wqE, wqA, wqI, flatD_i, opV_Add, wqP_v, ownB, Bool.not_false, Nat.reduceBEq, Bool.or_self, Bool.or_true, List.getElem?_cons_zero, List.getElem?_cons_succ, Option.some.injEq, exists_eq_left', true_and, Bool.not_false, tabL_q]
    refine ⟨2, rfl, by decide, by decide, by omega, fun t t0 t1 => ?_⟩
    obtain ⟨c, hc, hc1, hc2⟩ : ∃ c : Nat, 1 + t = c ∧ 1 ≤ c ∧ c ≤ 2 := ⟨(1 + t).toNat, by omega, by omega, by omega⟩
    simp only [addV_ii, rng1V_i]
    rw [hc]
    refine ⟨small_of (by omega) (by omega), ?_⟩
    have hcl : (rngD 0 (c : Int)).length = c := by simp [rngD]
    refine forV_inv (fun ys env g' => ys.length ≤ 2 ∧ g - 40000 + 10000 + 9000 * ys.length ≤ g' ∧ ∃ (r2 : List It) (o6 : Option D), (ys.length = 2 → PlR m 42 360 r2) ∧ (ys.length = 1 → PlR m 89 766 r2) ∧ (ys.length = 0 → PlR m 183 1625 r2) ∧ env = [none, some dck, some x, some (.int m), some (encRw m r1), some (encRw m r2), o6, o7, o8, o9, o10, o11, o12, o13, o14]) _ _ _ ⟨by omega, by omega, r1, o6, fun _ => A, fun _ => A.mono (by omega) (by omega), fun _ => A.mono (by omega) (by omega), rfl⟩ ?_ ?_
    · rintro y ys env g' N' ⟨hy2, hg', r2, o6, q2, q1, q0, rfl⟩ hN'
      rw [List.length_cons] at hg' hy2 q2 q1
      obtain ⟨S, T, hS, hT, B, hfin⟩ : ∃ S T, S ≤ 89 ∧ T ≤ 766 ∧ PlR m S T r2 ∧ ∀ {r3 : List It}, PlR m (2 * S + 5) (2 * T + S + 4) r3 → (ys.length = 2 → PlR m 42 360 r3) ∧ (ys.length = 1 → PlR m 89 766 r3) ∧ (ys.length = 0 → PlR m 183 1625 r3) := by
        rcases Nat.eq_zero_or_pos ys.length with h | h
        · exact ⟨89, 766, by omega, by omega, q1 (by omega), fun h3 => ⟨fun e => by omega, fun e => by omega, fun _ => h3.mono (by omega) (by omega)⟩⟩
        · exact ⟨42, 360, by omega, by omega, q2 (by omega), fun h3 => ⟨fun e => by omega, fun _ => h3.mono (by omega) (by omega), fun e => by omega⟩⟩
      unfold irz_law_b2
      refine ok_cons (ok_asg rfl ?_)
      simp only [wqE, wqA, wqP_v, ownB, Bool.not_false, Nat.reduceBEq, Bool.or_self, Bool.or_true, List.getElem?_cons_zero, List.getElem?_cons_succ, List.set_cons_zero, List.set_cons_succ, Option.some.injEq, exists_eq_left', true_and, Bool.not_false, tabL_q]
      refine ⟨m, S, T, r2, rfl, B, hm1, hm, by omega, by omega, by omega, fun r3 h3 => ?_⟩
      have w3 := h3.wz
      refine ⟨m, 8000, r3, rfl, h3.ok, by have := mzr_bd h3.wz h3.lp; omega, by omega, ?_⟩
      obtain ⟨f1, f2, f3⟩ := hfin (PlR.of h3.ok h3.lp h3.wz h3.tz)
      exact ok_nil (hN' _ _ ⟨by omega, by omega, plainI r3, _, f1, f2, f3, rfl⟩)
    · rintro env g' ⟨_, hg', r2, o6, _, _, q0, rfl⟩
      simp only [List.length_nil, Nat.mul_zero, Nat.add_zero] at hg'
      have B := q0 rfl
      have zA := A.rs
      have zB := B.rs
      have okA1 := A.ok
      have okB1 := B.ok
      have pdA := progOf_wf okA1.okRow
      have pdB := progOf_wf okB1.okRow
      have rdA : rowPs (progOf r1) = r1 := row_progOf fun l hl => ⟨(okA1.okRow.lp l hl).1, (okA1.okRow.lp l hl).2.1⟩
      have rdB : rowPs (progOf r2) = r2 := row_progOf fun l hl => ⟨(okB1.okRow.lp l hl).1, (okB1.okRow.lp l hl).2.1⟩
      have shA := okA1.sh hm A.lp (by omega)
      have shB := okB1.sh hm B.lp (by omega)
      unfold irz_law_b1_4
      refine ok_cons (ok_asg rfl ?_)
      simp only [wqE, wqA, cmpV_Eq, wqP_v, wqP_t, wqPs_n, wqPs_c, ownB, Bool.not_false, Nat.reduceBEq, Bool.or_self, Bool.or_true, List.getElem?_cons_zero, List.getElem?_cons_succ, List.set_cons_zero, List.set_cons_succ, Option.some.injEq, exists_eq_left', true_and, Bool.not_false, tabL_q]
      refine eqV_of okA1.cmpR okB1.cmpR (by omega) (by omega) fun due hdue => ?_
      simp only [Bool.false_xor]
      have hdue : due = true ↔ r1 = r2 := hdue.trans ⟨fun e => encRw_inj e, fun e => by rw [e]⟩
      refine ⟨m, r1, rfl, okA1.okRow, m, r2, rfl, okB1.okRow, by simp, by simp, ?_⟩
      unfold irz_law_b1_5
      refine ok_cons (ok_iff ?_)
      simp only [wqE, wqT, wqA, idxV_r, flatD_i, cmpV_NotEq, ownB, Bool.not_false, Nat.reduceBEq, Bool.or_self, Bool.or_true, List.getElem?_cons_zero, List.getElem?_cons_succ, Option.some.injEq, exists_eq_left', atI_0, atI_1, true_and, Bool.not_false, tabL_q]
      refine ⟨progOf r1, m, 1, rfl, pdA.1, by omega, by rw [rdA]; exact okA1, progOf r2, m, 1, rfl, pdB.1, by omega, by rw [rdB]; exact okB1, ?_⟩
      rw [rdA, rdB, A.pl, B.pl]
      have sh2 : ∀ d ∈ [encRw m r1, encRw m r2], Sh 4 300000 d := fun d hd => by
        simp only [List.mem_cons, List.not_mem_nil, or_false] at hd
        rcases hd with rfl | rfl
        · exact shA
        · exact shB
      refine ⟨by simp, biV_reprL (m := 2) sh2 (by simp) (by omega) (by omega) ⟨by simp, biV_reprL (m := 2) sh2 (by simp) (by omega) (by omega) ?_⟩⟩
      simp only [eqV_ss, Bool.not_true, exists_eq_left', Bool.true_xor, D.bl.injEq, if_false, Bool.false_eq_true, decide_true, Bool.not_true]
      refine ok_nil ?_
      unfold irz_law_b1_6
      refine ok_cons (ok_iff ?_)
      simp only [wqE, wqT, wqA, idxV_r, flatD_b, flatD_i, cmpV_NotEq, ownB, Bool.not_false, Nat.reduceBEq, Bool.or_self, Bool.or_true, List.getElem?_cons_zero, List.getElem?_cons_succ, Option.some.injEq, exists_eq_left', atI_0, atI_1, true_and, Bool.not_false, tabL_q]
      refine ⟨m, progOf r1, progOf r2, 1, 1, rfl, pdA.1, by omega, by rw [rdA]; exact okA1, pdB.1, by omega, by rw [rdB]; exact okB1, fun b1 hb1 => ?_⟩
      refine ⟨m, progOf r1, progOf r1, 1, 1, rfl, pdA.1, by omega, by rw [rdA]; exact okA1, pdA.1, by omega, by rw [rdA]; exact okA1, fun b2 hb2 => ?_⟩
      have e2 : b2 = true := hb2.mpr rfl
      subst e2
      rw [rdA, rdB, A.pl, B.pl] at hb1
      have e1 : b1 = due := by rw [Bool.eq_iff_iff, hb1, hdue]
      subst e1
      have shb : ∀ d ∈ [D.bl b1, D.bl true], Sh 0 5 d := fun d hd => by
        simp only [List.mem_cons, List.not_mem_nil, or_false] at hd
        rcases hd with rfl | rfl <;> exact Sh.bl
      refine ⟨by simp, biV_reprL (m := 2) shb (by simp) (by omega) (by omega) ⟨by simp, biV_reprL (m := 2) shb (by simp) (by omega) (by omega) ?_⟩⟩
      simp only [eqV_ss, Bool.not_true, exists_eq_left', Bool.true_xor, D.bl.injEq, if_false, Bool.false_eq_true, decide_true, Bool.not_true]
      refine ok_nil ?_
      unfold irz_law_b1_7
      refine ok_cons (ok_asg rfl ?_)
      simp only [encRw, encTx, encLs, wqE, wqA, wqC, wqI, addV_ii, addV_tt, idxV_t, biV_sum_r, itV_t, flatD_i, opV_Add, wqP_v, ownB, Bool.not_false, Nat.reduceBEq, Bool.or_self, List.getElem?_cons_zero, List.getElem?_cons_succ, List.set_cons_zero, List.set_cons_succ, Option.some.injEq, exists_eq_left', atI_1, atI_2, true_and, if_true, Bool.not_false, List.length_map]
      have tl1 := txl_len r1
      have tl2 := txl_len r2
      have lA := A.lp
      have lB := B.lp
      have rA := rsz_eq r1
      have rB := rsz_eq r2
      have tle1 := txl_le r1
      have tle2 := txl_le r2
      have lr1 := len_rsize r1
      have lr2 := len_rsize r2
      refine ⟨by omega, ?_⟩
      rw [← List.map_append, ← List.map_append]
      refine lcV_map D.str (fun t => .int (t.length : Int)) _ (by rw [List.length_append]; omega) (fun t ht kk hk => ?_) ?_
      · simp only [wipeD, biV_len_s, List.getElem?_cons_zero, List.getElem?_cons_succ, List.set_cons_zero, List.set_cons_succ, Option.some.injEq, exists_eq_left']
        refine ⟨?_, hk⟩
        rcases List.mem_append.mp ht with h | h
        · have := tle1.2 t h; omega
        · have := tle2.2 t h; omega
      refine ⟨(txl r1 ++ txl r2).map fun t => (t.length : Int), by rw [← intsF_map, List.map_map]; rfl, by omega, ?_⟩
      refine lcV_map encLp (fun l => .int (l.1.length : Int)) _ (by rw [List.length_append]; omega) (fun l hl kk hk => ?_) ?_
      · simp only [wipeD, encLp, idxV_t, biV_len_s, List.getElem?_cons_zero, List.getElem?_cons_succ, List.set_cons_zero, List.set_cons_succ, Option.some.injEq, exists_eq_left', atI_0]
        refine ⟨?_, hk⟩
        rcases List.mem_append.mp hl with h | h
        · have := word_rsize r1 l h; omega
        · have := word_rsize r2 l h; omega
      refine ⟨(lps r1 ++ lps r2).map fun l => (l.1.length : Int), by rw [← intsF_map, List.map_map]; rfl, ?_⟩
      obtain ⟨S, hS⟩ : ∃ S, S = nl r1 + sw r1 + (nl r2 + sw r2) := ⟨_, rfl⟩
      have eS : ((txl r1 ++ txl r2).map fun t => (t.length : Int)).sum + ((lps r1 ++ lps r2).map fun l => (l.1.length : Int)).sum = (S : Int) := by
        have e1 : ((lps r1 ++ lps r2).map fun l => (l.1.length : Int)) = ((lps r1 ++ lps r2).map fun l => l.1).map fun t => (t.length : Int) := by rw [List.map_map]; rfl
        have e2 : ∀ q : List It, ((lps q).map fun l => l.1.length) = ((lps q).map fun l => l.1).map List.length := fun q => by rw [List.map_map]; rfl
        rw [e1, len_sum, len_sum, List.map_append, List.sum_append, sum_txl, sum_txl, List.map_append, List.map_append, List.sum_append, ← e2, ← e2]
        rw [hS]
        unfold sw
        omega
      rw [eS]
      have S5 : 5 * S ≤ 1125 := by omega
      unfold irz_law_b1_8
      refine ok_cons (ok_asgO rfl rfl ?_)
      simp only [wqE, wqA, mulV_ii, mulV_ti, flatD_i, opV_Mult, ownB, Bool.not_false, Nat.reduceBEq, Bool.or_self, List.getElem?_cons_zero, List.getElem?_cons_succ, List.set_cons_zero, List.set_cons_succ, Option.some.injEq, exists_eq_left', true_and, Bool.not_false]
      refine ⟨cmul_of (by omega) (by omega), ?_⟩
      repeat (with_reducible refine And.intro (by first | omega | (simp; done) | (simp; omega)) ?_)
      rw [Int.toNat_natCast, rep_int]
      refine ⟨_, rfl, ?_⟩
      have n5 : (5 : Int) * (S : Int) = ((5 * S : Nat) : Int) := by omega
      rw [n5]
      have e0 : [D.tup ((List.replicate m ((5 * S : Nat) : Int)).map .int)] = (none :: (List.range 0).map some).map (cnt m (5 * S)) := rfl
      rw [e0]
      unfold irz_law_b1_9
      refine ok_cons (ok_loop rfl ?_)
      simp only [wqE, wqI, rng1V_i, wqP_v, ownB, Bool.not_false, Nat.reduceBEq, Bool.or_self, List.getElem?_cons_zero, List.getElem?_cons_succ, Option.some.injEq, exists_eq_left', true_and, Bool.not_false]
      refine ⟨small_of (by omega) (by omega), ?_⟩
      refine forV_inv (fun xs env g2 => g2 = g' ∧ ∃ (j : Nat) (o11 : Option D), j ≤ m ∧ xs = ((List.range m).drop j).map (fun (i : Nat) => D.int (i : Int)) ∧ env = [none, some dck, some x, some (.int m), some (encRw m r1), some (encRw m r2), o6, some (.bl b1), some (.rol [encPg m (progOf r1), encPg m (progOf r2)]), some (.int S), some (.rol ((none :: (List.range j).map some).map (cnt m (5 * S)))), o11, o12, o13, o14]) _ _ _ ⟨rfl, 0, o11, by omega, by simp [rngD], rfl⟩ ?_ ?_
      · rintro y ys env g2 N' ⟨rfl, j, o11, hj, hys, rfl⟩ hN'
        have hjm : j < m := by
          rcases Nat.lt_or_ge j m with h | h
          · exact h
          · rw [List.drop_eq_nil_of_le (by simpa using h)] at hys; cases hys
        rw [List.drop_eq_getElem_cons (by simpa using hjm), List.getElem_range, List.map_cons, List.cons.injEq] at hys
        obtain ⟨rfl, hys⟩ := hys
        unfold irz_law_b5
        refine ok_cons (ok_app rfl _ rfl ?_)
        simp only [wqE, wqA, addV_ii, addV_tt, subV_ii, mulV_ii, mulV_ti, flatD_i, opV_Add, opV_Sub, opV_Mult, ownB, Bool.not_false, Nat.reduceBEq, Bool.or_self, List.getElem?_cons_zero, List.getElem?_cons_succ, List.set_cons_zero, List.set_cons_succ, Option.some.injEq, exists_eq_left', true_and, Bool.not_false]
        refine ⟨cmul_of (by omega) (by omega), ?_⟩
        repeat (with_reducible refine And.intro (by first | omega | (simp; done) | (simp; omega)) ?_)
        refine ⟨cmul_of (by omega) (by omega), ?_⟩
        have ej : ((m : Int) - j - 1).toNat = m - j - 1 := by omega
        rw [ej, Int.toNat_natCast, rep_int, rep_int]
        repeat (with_reducible refine And.intro (by first | omega | (simp; done) | (simp; omega)) ?_)
        refine ⟨cmul_of (by omega) (by omega), ?_⟩
        repeat (with_reducible refine And.intro (by first | omega | (simp; done) | (simp; omega)) ?_)
        refine ok_nil (hN' _ _ ⟨rfl, j + 1, some (.int j), by omega, hys, ?_⟩)
        have ec : D.tup ((List.replicate j (5 * (S : Int))).map D.int ++ [D.int (5 * (S : Int) + 1)] ++ (List.replicate (m - j - 1) (5 * (S : Int))).map D.int) = cnt m (5 * S) (some j) := by
          unfold cnt
          rw [greatC_some hjm, ← n5]
          simp
        rw [ec, List.range_succ]
        simp
      · rintro env g2 ⟨rfl, j, o11, hj, hys, rfl⟩
        have hjm : j = m := by
          rcases Nat.lt_or_ge j m with h | h
          · rw [List.drop_eq_getElem_cons (by simpa using h)] at hys; cases hys
          · omega
        subst hjm
        have tA := A.tz
        have tB := B.tz
        have hnm : ∀ o : Option Nat, ∀ n ∈ greatC j (5 * S) o, 0 ≤ n ∧ n < 1000000 := fun o n h => by have := greatC_mem h; omega
        have tT : ∀ {q : List It} (o : Option Nat), OkX j q → tsz j q ≤ 1625 → (rowT (greatC j (5 * S) o) q).length ≤ 16000000 := fun {q} o hq hz => by
          have := text_B (B := 5 * S + 1) (by omega) (greatC_len j (5 * S) o) (fun n h => (greatC_mem h).1) (fun n h => (greatC_mem h).2) hq.ok
          have : (5 * S + 1) * tsz j q ≤ 1126 * 1625 := Nat.mul_le_mul (by omega) hz
          omega
        unfold irz_law_b1_10
        refine ok_cons (ok_iff ?_)
        simp only [wqE, wqT, wqA, wqC, wqI, itV_r, cmpV_Eq, cmpV_NotEq, wqP_v, ownB, Bool.or_false, Bool.not_false, Bool.not_true, Nat.reduceBEq, Bool.or_self, Bool.or_true, List.getElem?_cons_zero, List.getElem?_cons_succ, Option.some.injEq, exists_eq_left', true_and, Bool.not_true, Bool.not_false]
        refine lcV_fm (cnt j (5 * S)) (fun o => if rowT (greatC j (5 * S) o) r1 = rowT (greatC j (5 * S) o) r2 then none else some (cnt j (5 * S) o)) _ _ _ (by simp; omega) (fun o ho kk hk => ?_) ?_
        · simp only [wipeD, cnt, List.getElem?_cons_zero, List.getElem?_cons_succ, List.set_cons_zero, List.set_cons_succ, Option.some.injEq, exists_eq_left', tabL_q]
          refine ⟨j, r1, greatC j (5 * S) o, rfl, okA1, hnm o, tT o okA1 (by omega), j, r2, greatC j (5 * S) o, rfl, okB1, hnm o, tT o okB1 (by omega), ?_⟩
          by_cases he : rowT (greatC j (5 * S) o) r1 = rowT (greatC j (5 * S) o) r2
          · rw [if_pos he] at hk
            simp only [he, eqV_ss, Bool.not_true, exists_eq_left', Bool.true_xor, D.bl.injEq, if_false, Bool.false_eq_true, decide_true, Bool.not_true]
            exact hk
          · rw [if_neg he] at hk
            simp only [he, eqV_ss, Bool.not_false, exists_eq_left', Bool.true_xor, D.bl.injEq, if_true, decide_false, Bool.not_false]
            exact hk
        · have hfm : ∀ os : List (Option Nat), ∃ qs : List (Option Nat), os.filterMap (fun o => if rowT (greatC j (5 * S) o) r1 = rowT (greatC j (5 * S) o) r2 then none else some (cnt j (5 * S) o)) = qs.map (cnt j (5 * S)) ∧ (qs = [] ↔ ∀ o ∈ os, rowT (greatC j (5 * S) o) r1 = rowT (greatC j (5 * S) o) r2) := fun os => by
            induction os with
            | nil => exact ⟨[], rfl, by simp⟩
            | cons o os ih =>
              obtain ⟨qs, h1, h2⟩ := ih
              by_cases he : rowT (greatC j (5 * S) o) r1 = rowT (greatC j (5 * S) o) r2
              · refine ⟨qs, ?_, ?_⟩
                · rw [List.filterMap_cons, if_pos he, h1]
                · rw [h2]; simp [he]
              · refine ⟨o :: qs, ?_, ?_⟩
                · rw [List.filterMap_cons, if_neg he, h1]; rfl
                · simp [he]
          obtain ⟨qs, h1, h2⟩ := hfm (none :: (List.range j).map some)
          rw [List.nil_append, h1]
          refine ⟨by simp, eqV_nil (okV_cnts j (5 * S) qs) ?_⟩
          have hq : ((qs.map (cnt j (5 * S))).isEmpty = true) ↔ r1 = r2 := by
            rw [List.isEmpty_iff, List.map_eq_nil_iff, h2]
            constructor
            · intro h
              refine rows_part okA1.ok okB1.ok ((plain_iff okA1.ok).mpr A.pl) ((plain_iff okB1.ok).mpr B.pl) (N := 5 * S) (by omega) fun o ho => ?_
              cases o with
              | none => exact h none (by simp)
              | some i => exact h (some i) (by simp; exact ho i rfl)
            · intro e o _
              rw [e]
          have hq2 : (qs.map (cnt j (5 * S))).isEmpty = b1 := by rw [Bool.eq_iff_iff, hq, hb1]
          rw [hq2]
          simp only [eqV_bb, exists_eq_left', Bool.false_xor, Bool.true_xor, D.bl.injEq, decide_eq_true_eq]
          cases b1
          · simp only [Bool.not_false, if_false, Bool.false_eq_true, Bool.not_false]
            exact ok_nil (ok_nil (hN _ _ ⟨by omega, _, _, _, _, _, _, _, _, _, _, _, _, _, rfl⟩))
          · simp only [Bool.not_true, if_false, Bool.not_true, reduceCtorEq]
            exact ok_nil (ok_nil (hN _ _ ⟨by omega, _, _, _, _, _, _, _, _, _, _, _, _, _, rfl⟩))
  · rintro env g ⟨hg, o2, o3, o4, o5, o6, o7, o8, o9, o10, o11, o12, o13, o14, rfl⟩
    unfold irz_law_2
    refine ok_cons (ok_ret ?_)
    simp only [wqE, flatD_b, and_true]
end G57
set_option Elab.async false
set_option linter.all false
set_option maxRecDepth 100000
set_option maxHeartbeats 2000000
namespace G57
open PySem L2 PySem.Spec PyProof.Rows
section
variable {P : Program} {w : World} {K : PySem.W.Frag} {mg : Str → Option Value} {base : Heap}
theorem does_rows (T : Tops K mg) (ho : Does P w K mg base 1 "is_open" (lift2 sOpen)) (hf : Does P w K mg base 1 "fixed_row" (lift2 sFixed)) (hb : Does P w K mg base 1 "behind" (lift2 sBehind)) : ∀ n, Does P w K mg base (2 * n + 3) "parts_row" (lift2 (sPartsR n)) := by
  have parts : ∀ n, Does P w K mg base (2 * n + 2) "part_row" (lift2 (sPartR n)) → Does P w K mg base (2 * n + 3) "parts_row" (lift2 (sPartsR n)) := fun n h =>
    does2 (L := LpsR n) (M := []) T.f_parts_row ok_parts_row tr_parts_row T.md (fun p hp => by
      simp only [LpsR, List.mem_cons, List.not_mem_nil, or_false] at hp
      rcases hp with rfl | rfl | rfl
      · exact hf.mono (by omega)
      · exact hb.mono (by omega)
      · exact h) (fun ds g Q h => by obtain ⟨_, _, _, _, rfl, _⟩ := h; rfl) (own_all (by decide)) (q_parts_row n)
  intro n
  induction n with
  | zero =>
    exact parts 0 (does2_no T.f_part_row (fun ds g Q h => by obtain ⟨_, _, _, _, _, _, h, _⟩ := h; omega))
  | succ n ih =>
    refine parts (n + 1) ?_
    refine does2 (k := 2 * n + 3) (L := LpR n) (M := []) T.f_part_row ok_part_row tr_part_row T.md (fun p hp => ?_) (fun ds g Q h => by obtain ⟨_, _, _, _, rfl, _⟩ := h; rfl) (own_all (by decide)) (q_part_row n)
    simp only [LpR, List.mem_cons, List.not_mem_nil, or_false] at hp
    rcases hp with rfl | rfl | rfl | rfl
    · exact ih
    · exact ho.mono (by omega)
    · exact hf.mono (by omega)
    · exact hb.mono (by omega)
theorem does_partsB (T : Tops K mg) (hd : Does P w K mg base 1 "_law_draw" (lift2 sDraw)) (ho : Does P w K mg base 2 "_law_one" (lift2 sOne)) (hf : Does P w K mg base 3 "_law_form" (lift2 sFormB)) (hw : Does P w K mg base 3 "_law_word" (lift2 sWordB)) : ∀ n, Does P w K mg base (n + 3) "_law_parts" (lift2 (sPartsB n))
  | 0 => does2_no T.f_l_parts (fun ds g Q h => by obtain ⟨_, _, _, _, _, h, _⟩ := h; omega)
  | n + 1 => by
    refine does2 (k := n + 3) (L := LptB n) (M := [4]) T.f_l_parts ok_l_parts tr_l_parts T.md (fun p hp => ?_) (fun ds g Q h => by obtain ⟨_, _, _, rfl, _⟩ := h; rfl) (own_all (by decide)) (q_partsB n _ rfl)
    simp only [LptB, List.mem_cons, List.not_mem_nil, or_false] at hp
    rcases hp with rfl | rfl | rfl | rfl | rfl
    · exact hd.mono (by omega)
    · exact ho.mono (by omega)
    · exact hf.mono (by omega)
    · exact does_partsB T hd ho hf hw n
    · exact hw.mono (by omega)
theorem does_rowL (T : Tops K mg) : ∀ n, Does P w K mg base (n + 1) "_law_row" (lift2 (sRowL n))
  | 0 => does2_no T.f_l_row (fun ds g Q h => by obtain ⟨_, _, _, _, _, _, h, _⟩ := h; omega)
  | n + 1 => by
    refine does2 (k := n + 1) (L := [("_law_row", sRowL n)]) (M := [1, 2]) T.f_l_row ok_l_row tr_l_row T.md (fun p hp => ?_) (fun ds g Q h => by obtain ⟨_, _, _, _, rfl, _⟩ := h; rfl) (own_all (by decide)) (q_rowL n _ rfl)
    rw [List.mem_singleton.mp hp]; exact does_rowL T n
theorem fn_law {f : Addr} {fd : FuncData} (T : Tops K mg) (F : Fun K "law" "law" (tb 35) f fd) : FnG P w K mg base 60 f fd ["_law_script"] (liftSp K 1 (lawSp 63)) := by
  have draw1 : Does P w K mg base 1 "_law_draw" spDraw := does_of (Φ := []) T.f_l_draw ok_l_draw tr_l_draw T.md (fun p hp => by simp at hp) (fun ds S Q h => by obtain ⟨_, _, _, _, rfl, _⟩ := h; rfl) w_draw
  have h_l_draw : Does P w K mg base 1 "_law_draw" (lift2 sDraw) := does_draw2 draw1
  have h_l_one : Does P w K mg base 2 "_law_one" (lift2 sOne) := does2 (k := 1) (L := [("_law_draw", sDraw)]) (M := []) T.f_l_one ok_l_one tr_l_one T.md (fun p hp => by rw [List.mem_singleton.mp hp]; exact h_l_draw) (fun ds g Q h => by obtain ⟨_, _, rfl, _⟩ := h; rfl) (own_all (by decide)) q_one
  have h_l_word : Does P w K mg base 3 "_law_word" (lift2 sWordB) := does2 (k := 2) (L := [("_law_one", sOne)]) (M := []) T.f_l_word ok_l_word tr_l_word T.md (fun p hp => by rw [List.mem_singleton.mp hp]; exact h_l_one) (fun ds g Q h => by obtain ⟨rfl, _⟩ := h; rfl) (own_all (by decide)) (q_wordB _ rfl)
  have h_l_form : Does P w K mg base 3 "_law_form" (lift2 sFormB) := does2 (k := 2) (L := [("_law_one", sOne), ("_law_draw", sDraw)]) (M := [3]) T.f_l_form ok_l_form tr_l_form T.md (fun p hp => by
    simp only [List.mem_cons, List.not_mem_nil, or_false] at hp
    rcases hp with rfl | rfl
    · exact h_l_one.mono (by omega)
    · exact h_l_draw.mono (by omega)) (fun ds g Q h => by obtain ⟨_, _, rfl, _⟩ := h; rfl) (own_all (by decide)) (q_formB _ rfl)
  have h_l_parts : Does P w K mg base 7 "_law_parts" (lift2 (sPartsB 4)) := does_partsB T h_l_draw h_l_one h_l_form h_l_word 4
  have h_l_row : Does P w K mg base 5 "_law_row" (lift2 (sRowL 4)) := does_rowL T 4
  have h_l_size : Does P w K mg base 1 "_law_size" (lift2 sSizeB) := does2 (k := 0) (L := []) (M := []) T.f_l_size ok_l_size tr_l_size T.md (fun p hp => by simp at hp) (fun ds g Q h => by obtain ⟨_, _, _, rfl, _⟩ := h; rfl) (own_all (by decide)) (q_sizeB _ rfl)
  have h_l_program : Does P w K mg base 8 "_law_program" (lift2 sProgB) := does2 (k := 7) (L := [("_law_parts", sPartsB 4), ("_law_row", sRowL 4), ("_law_size", sSizeB)]) (M := []) T.f_l_program ok_l_program tr_l_program T.md (fun p hp => by
    simp only [List.mem_cons, List.not_mem_nil, or_false] at hp
    rcases hp with rfl | rfl | rfl
    · exact h_l_parts.mono (by omega)
    · exact h_l_row.mono (by omega)
    · exact h_l_size.mono (by omega)) (fun ds g Q h => by obtain ⟨_, _, rfl, _⟩ := h; rfl) (own_all (by decide)) (q_programB _ rfl)
  have h_is_open : Does P w K mg base 1 "is_open" (lift2 sOpen) := does2 (k := 0) (L := []) (M := []) T.f_is_open ok_is_open tr_is_open T.md (fun p hp => by simp at hp) (fun ds g Q h => by obtain ⟨_, rfl, _⟩ := h; rfl) (own_all (by decide)) q_open
  have h_fixed_row : Does P w K mg base 1 "fixed_row" (lift2 sFixed) := does2 (k := 0) (L := []) (M := []) T.f_fixed_row ok_fixed_row tr_fixed_row T.md (fun p hp => by simp at hp) (fun ds g Q h => by obtain ⟨_, rfl, _⟩ := h; rfl) (own_all (by decide)) q_fixed
  have h_behind : Does P w K mg base 1 "behind" (lift2 sBehind) := does2 (k := 0) (L := []) (M := []) T.f_behind ok_behind tr_behind T.md (fun p hp => by simp at hp) (fun ds g Q h => by obtain ⟨_, _, rfl, _⟩ := h; rfl) (own_all (by decide)) q_behind
  have h_parts_row : Does P w K mg base 19 "parts_row" (lift2 (sPartsR 8)) := does_rows T h_is_open h_fixed_row h_behind 8
  have h_flat : Does P w K mg base 20 "flat" (lift2 (sFlatN 8)) := does2 (k := 19) (L := [("parts_row", sPartsR 8)]) (M := []) T.f_flat ok_flat tr_flat T.md (fun p hp => by rw [List.mem_singleton.mp hp]; exact h_parts_row) (fun ds g Q h => by obtain ⟨_, _, _, rfl, _⟩ := h; rfl) (own_all (by decide)) (q_flatN 8)
  have h_root_of : Does P w K mg base 1 "root_of" (lift2 sRoot) := does2 (k := 0) (L := []) (M := []) T.f_root_of ok_root_of tr_root_of T.md (fun p hp => by simp at hp) (fun ds g Q h => by obtain ⟨_, rfl, _⟩ := h; rfl) (own_all (by decide)) q_root_of
  have h_times : Does P w K mg base 1 "times" (lift2 sTimes) := does2 (k := 0) (L := []) (M := []) T.f_times ok_times tr_times T.md (fun p hp => by simp at hp) (fun ds g Q h => by obtain ⟨_, _, rfl, _⟩ := h; rfl) (own_all (by decide)) q_times
  have h_plus : Does P w K mg base 1 "plus" (lift2 sPlus) := does2 (k := 0) (L := []) (M := []) T.f_plus ok_plus tr_plus T.md (fun p hp => by simp at hp) (fun ds g Q h => by obtain ⟨_, _, rfl, _⟩ := h; rfl) (own_all (by decide)) q_plus
  have h_moved_left : Does P w K mg base 1 "moved_left" (lift2 sMvL) := does2 (k := 0) (L := []) (M := []) T.f_moved_left ok_moved_left tr_moved_left T.md (fun p hp => by simp at hp) (fun ds g Q h => by obtain ⟨_, _, _, rfl, _⟩ := h; rfl) (own_all (by decide)) q_moved_left
  have h_plain_row : Does P w K mg base 2 "plain_row" (lift2 sPlainR) := does2 (k := 1) (L := [("root_of", sRoot), ("moved_left", sMvL), ("times", sTimes), ("plus", sPlus)]) (M := [4, 5]) T.f_plain_row ok_plain_row tr_plain_row T.md (fun p hp => by
    simp only [List.mem_cons, List.not_mem_nil, or_false] at hp
    rcases hp with rfl | rfl | rfl | rfl
    · exact h_root_of.mono (by omega)
    · exact h_moved_left.mono (by omega)
    · exact h_times.mono (by omega)
    · exact h_plus.mono (by omega)) (fun ds g Q h => by obtain ⟨_, _, rfl, _⟩ := h; rfl) (own_all (by decide)) q_plain_row
  have h_plain : Does P w K mg base 21 "plain" (lift2 (sPlainN 8)) := does2 (k := 20) (L := [("plain_row", sPlainR), ("flat", sFlatN 8)]) (M := []) T.f_plain ok_plain tr_plain T.md (fun p hp => by
    simp only [List.mem_cons, List.not_mem_nil, or_false] at hp
    rcases hp with rfl | rfl
    · exact h_plain_row.mono (by omega)
    · exact h_flat.mono (by omega)) (fun ds g Q h => by obtain ⟨_, _, _, rfl, _⟩ := h; rfl) (own_all (by decide)) (q_plainN 8)
  have h_alike : Does P w K mg base 22 "alike" (lift2 (sAlike 8)) := does2 (k := 21) (L := [("plain", sPlainN 8)]) (M := []) T.f_alike ok_alike tr_alike T.md (fun p hp => by rw [List.mem_singleton.mp hp]; exact h_plain) (fun ds g Q h => by obtain ⟨_, _, _, _, _, rfl, _⟩ := h; rfl) (own_all (by decide)) (q_alike 8)
  have h_l_put : Does P w K mg base 1 "_law_put" (lift2 sPut) := does2 (k := 0) (L := []) (M := []) T.f_l_put ok_l_put tr_l_put T.md (fun p hp => by simp at hp) (fun ds g Q h => by obtain ⟨_, _, _, _, _, _, _, _, _, _, _, _, rfl, _⟩ := h; rfl) (own_all (by decide)) (q_put _ rfl)
  have h_l_turn_by : Does P w K mg base 2 "_law_turn_by" (lift2 sTurnBy) := does2 (k := 1) (L := [("_law_put", sPut)]) (M := []) T.f_l_turn_by ok_l_turn_by tr_l_turn_by T.md (fun p hp => by rw [List.mem_singleton.mp hp]; exact h_l_put) (fun ds g Q h => by obtain ⟨_, _, _, _, _, _, _, _, _, _, rfl, _⟩ := h; rfl) (own_all (by decide)) (q_turn_by _ rfl)
  have h_l_turn : Does P w K mg base 3 "_law_turn" (lift2 sTurn) := does2 (k := 2) (L := [("_law_put", sPut), ("_law_turn_by", sTurnBy)]) (M := []) T.f_l_turn ok_l_turn tr_l_turn T.md (fun p hp => by
    simp only [List.mem_cons, List.not_mem_nil, or_false] at hp
    rcases hp with rfl | rfl
    · exact h_l_put.mono (by omega)
    · exact h_l_turn_by.mono (by omega)) (fun ds g Q h => by obtain ⟨_, _, _, rfl, _⟩ := h; rfl) (own_all (by decide)) (q_turn _ rfl)
  have h_l_value : Does P w K mg base 1 "_law_value" (lift2 sValueL) := does2 (k := 0) (L := []) (M := []) T.f_l_value ok_l_value tr_l_value T.md (fun p hp => by simp at hp) (fun ds g Q h => by obtain ⟨_, _, rfl, _⟩ := h; rfl) (own_all (by decide)) (q_valueL _ rfl)
  have h_l_text : Does P w K mg base 2 "_law_text" (lift2 sTextL) := does2 (k := 1) (L := [("_law_value", sValueL)]) (M := [2]) T.f_l_text ok_l_text tr_l_text T.md (fun p hp => by rw [List.mem_singleton.mp hp]; exact h_l_value) (fun ds g Q h => by obtain ⟨_, _, _, rfl, _⟩ := h; rfl) (own_all (by decide)) (q_textL _ rfl)
  have h_row_program : Does P w K mg base 1 "row_program" (lift2 sRowPg) := does2 (k := 0) (L := []) (M := [4]) T.f_row_program ok_row_program tr_row_program T.md (fun p hp => by simp at hp) (fun ds g Q h => by obtain ⟨_, _, rfl, _⟩ := h; rfl) (own_all (by decide)) q_row_program
  have h_l_cuts : Does P w K mg base 1 "_law_cuts" (lift2 sCuts) := does2 (k := 0) (L := []) (M := [1]) T.f_l_cuts ok_l_cuts tr_l_cuts T.md (fun p hp => by simp at hp) (fun ds g Q h => by obtain ⟨_, _, rfl, _⟩ := h; rfl) (own_all (by decide)) (q_cuts _ rfl)
  have h_l_plain : Does P w K mg base 4 "_law_plain" (lift2 sPlainL) := does2 (k := 3) (L := [("_law_cuts", sCuts), ("_law_turn", sTurn), ("_law_one", sOne)]) (M := []) T.f_l_plain ok_l_plain tr_l_plain T.md (fun p hp => by
    simp only [List.mem_cons, List.not_mem_nil, or_false] at hp
    rcases hp with rfl | rfl | rfl
    · exact h_l_cuts.mono (by omega)
    · exact h_l_turn.mono (by omega)
    · exact h_l_one.mono (by omega)) (fun ds g Q h => by obtain ⟨_, _, _, rfl, _⟩ := h; rfl) (own_all (by decide)) (q_plainL _ rfl)
  have h_l_changed : Does P w K mg base 3 "_law_changed" (lift2 sChg) := does2 (k := 2) (L := [("_law_draw", sDraw), ("_law_one", sOne)]) (M := []) T.f_l_changed ok_l_changed tr_l_changed T.md (fun p hp => by
    simp only [List.mem_cons, List.not_mem_nil, or_false] at hp
    rcases hp with rfl | rfl
    · exact h_l_draw.mono (by omega)
    · exact h_l_one.mono (by omega)) (fun ds g Q h => by obtain ⟨_, _, _, rfl, _⟩ := h; rfl) (own_all (by decide)) (q_changed _ rfl)
  have h_l_otherwise : Does P w K mg base 4 "_law_otherwise" (lift2 sOth) := does2 (k := 3) (L := [("_law_changed", sChg), ("_law_draw", sDraw), ("_law_word", sWordB)]) (M := []) T.f_l_otherwise ok_l_otherwise tr_l_otherwise T.md (fun p hp => by
    simp only [List.mem_cons, List.not_mem_nil, or_false] at hp
    rcases hp with rfl | rfl | rfl
    · exact h_l_changed.mono (by omega)
    · exact h_l_draw.mono (by omega)
    · exact h_l_word.mono (by omega)) (fun ds g Q h => by obtain ⟨_, _, _, _, rfl, _⟩ := h; rfl) (own_all (by decide)) (q_otherwise _ rfl)
  have h_deck : Does P w K mg base 1 "_law_deck" spDeck := does_of (Φ := []) T.f_l_deck ok_l_deck tr_l_deck T.md (fun p hp => by simp at hp) (fun ds S Q h => by obtain ⟨_, rfl, _⟩ := h; rfl) w_deck
  refine law_does (k := 59) (L := Llaw) F ok_law tr_law T.md (fun p hp => ?_) w_law
  simp only [Llaw, List.mem_cons, List.not_mem_nil, or_false] at hp
  rcases hp with rfl | rfl | rfl | rfl | rfl | rfl | rfl | rfl | rfl
  · exact h_deck.mono (by omega)
  · exact h_l_plain.mono (by omega)
  · exact h_l_draw.mono (by omega)
  · exact h_l_program.mono (by omega)
  · exact h_l_otherwise.mono (by omega)
  · exact h_row_program.mono (by omega)
  · exact h_plain.mono (by omega)
  · exact h_alike.mono (by omega)
  · exact h_l_text.mono (by omega)
end
end G57
namespace G57
open PySem L2 PySem.Spec PyProof.Rows
theorem all_mk {l : PySem.W.OpenLaw} {w : World} {K : PySem.W.Frag} {h : Heap} {mg : Str → Option Value} {fa : Addr} (X : K.In h) (G : h.Ns mainGlobals mg) (hfa : mg "law" = some (.ref fa))
    {f0 f1 f2 f3 f4 f5 f6 f7 f8 f9 f10 f11 f12 f13 f14 f15 f16 f17 f18 f19 f20 f21 f22 f23 f24 f25 f26 f27 f28 f29 f30 f31 f32 : Addr} {od0 an0 od1 an1 od2 an2 od3 an3 od4 an4 od5 an5 od6 an6 od7 an7 od8 an8 od9 an9 od10 an10 od11 an11 od12 an12 od13 an13 od14 an14 od15 an15 od16 an16 od17 an17 od18 an18 od19 an19 od20 an20 od21 an21 od22 an22 od23 an23 od24 an24 od25 an25 od26 an26 od27 an27 od28 an28 od29 an29 od30 an30 od31 an31 od32 an32 : Option Addr} {sl0 sl1 sl2 sl3 sl4 sl5 sl6 sl7 sl8 sl9 sl10 sl11 sl12 sl13 sl14 sl15 sl16 sl17 sl18 sl19 sl20 sl21 sl22 sl23 sl24 sl25 sl26 sl27 sl28 sl29 sl30 sl31 sl32 : Array (Option Value)} {oc0 kV0 dc0 pm0 cd0 ct0 oc1 kV1 dc1 pm1 cd1 ct1 oc2 kV2 dc2 pm2 cd2 ct2 oc3 kV3 dc3 pm3 cd3 ct3 oc4 kV4 dc4 pm4 cd4 ct4 oc5 kV5 dc5 pm5 cd5 ct5 oc6 kV6 dc6 pm6 cd6 ct6 oc7 kV7 dc7 pm7 cd7 ct7 oc8 kV8 dc8 pm8 cd8 ct8 oc9 kV9 dc9 pm9 cd9 ct9 oc10 kV10 dc10 pm10 cd10 ct10 oc11 kV11 dc11 pm11 cd11 ct11 oc12 kV12 dc12 pm12 cd12 ct12 oc13 kV13 dc13 pm13 cd13 ct13 oc14 kV14 dc14 pm14 cd14 ct14 oc15 kV15 dc15 pm15 cd15 ct15 oc16 kV16 dc16 pm16 cd16 ct16 oc17 kV17 dc17 pm17 cd17 ct17 oc18 kV18 dc18 pm18 cd18 ct18 oc19 kV19 dc19 pm19 cd19 ct19 oc20 kV20 dc20 pm20 cd20 ct20 oc21 kV21 dc21 pm21 cd21 ct21 oc22 kV22 dc22 pm22 cd22 ct22 oc23 kV23 dc23 pm23 cd23 ct23 oc24 kV24 dc24 pm24 cd24 ct24 oc25 kV25 dc25 pm25 cd25 ct25 oc26 kV26 dc26 pm26 cd26 ct26 oc27 kV27 dc27 pm27 cd27 ct27 oc28 kV28 dc28 pm28 cd28 ct28 oc29 kV29 dc29 pm29 cd29 ct29 oc30 kV30 dc30 pm30 cd30 ct30 oc31 kV31 dc31 pm31 cd31 ct31 oc32 kV32 dc32 pm32 cd32 ct32 : Value}
    (a0 : PySem.W.nsIn K mainGlobals "is_open" = some (some (.ref f0))) (l0 : K.lookup f0 = some ⟨oc0, od0, .func (PySem.W.fnOf "is_open" "is_open" (defArgs (tb 1)) (defBody (tb 1)) (defScope (tb 1)) .none kV0 dc0 pm0 an0 cd0 ct0), sl0⟩) (c0 : PySem.W.codeIn K cd0 "is_open" = true) (k0 : PySem.W.keepIn K (.ref f0) = true)
    (a1 : PySem.W.nsIn K mainGlobals "fixed_row" = some (some (.ref f1))) (l1 : K.lookup f1 = some ⟨oc1, od1, .func (PySem.W.fnOf "fixed_row" "fixed_row" (defArgs (tb 2)) (defBody (tb 2)) (defScope (tb 2)) .none kV1 dc1 pm1 an1 cd1 ct1), sl1⟩) (c1 : PySem.W.codeIn K cd1 "fixed_row" = true) (k1 : PySem.W.keepIn K (.ref f1) = true)
    (a2 : PySem.W.nsIn K mainGlobals "behind" = some (some (.ref f2))) (l2 : K.lookup f2 = some ⟨oc2, od2, .func (PySem.W.fnOf "behind" "behind" (defArgs (tb 3)) (defBody (tb 3)) (defScope (tb 3)) .none kV2 dc2 pm2 an2 cd2 ct2), sl2⟩) (c2 : PySem.W.codeIn K cd2 "behind" = true) (k2 : PySem.W.keepIn K (.ref f2) = true)
    (a3 : PySem.W.nsIn K mainGlobals "part_row" = some (some (.ref f3))) (l3 : K.lookup f3 = some ⟨oc3, od3, .func (PySem.W.fnOf "part_row" "part_row" (defArgs (tb 4)) (defBody (tb 4)) (defScope (tb 4)) .none kV3 dc3 pm3 an3 cd3 ct3), sl3⟩) (c3 : PySem.W.codeIn K cd3 "part_row" = true) (k3 : PySem.W.keepIn K (.ref f3) = true)
    (a4 : PySem.W.nsIn K mainGlobals "parts_row" = some (some (.ref f4))) (l4 : K.lookup f4 = some ⟨oc4, od4, .func (PySem.W.fnOf "parts_row" "parts_row" (defArgs (tb 5)) (defBody (tb 5)) (defScope (tb 5)) .none kV4 dc4 pm4 an4 cd4 ct4), sl4⟩) (c4 : PySem.W.codeIn K cd4 "parts_row" = true) (k4 : PySem.W.keepIn K (.ref f4) = true)
    (a5 : PySem.W.nsIn K mainGlobals "flat" = some (some (.ref f5))) (l5 : K.lookup f5 = some ⟨oc5, od5, .func (PySem.W.fnOf "flat" "flat" (defArgs (tb 6)) (defBody (tb 6)) (defScope (tb 6)) .none kV5 dc5 pm5 an5 cd5 ct5), sl5⟩) (c5 : PySem.W.codeIn K cd5 "flat" = true) (k5 : PySem.W.keepIn K (.ref f5) = true)
    (a6 : PySem.W.nsIn K mainGlobals "row_program" = some (some (.ref f6))) (l6 : K.lookup f6 = some ⟨oc6, od6, .func (PySem.W.fnOf "row_program" "row_program" (defArgs (tb 7)) (defBody (tb 7)) (defScope (tb 7)) .none kV6 dc6 pm6 an6 cd6 ct6), sl6⟩) (c6 : PySem.W.codeIn K cd6 "row_program" = true) (k6 : PySem.W.keepIn K (.ref f6) = true)
    (a7 : PySem.W.nsIn K mainGlobals "root_of" = some (some (.ref f7))) (l7 : K.lookup f7 = some ⟨oc7, od7, .func (PySem.W.fnOf "root_of" "root_of" (defArgs (tb 8)) (defBody (tb 8)) (defScope (tb 8)) .none kV7 dc7 pm7 an7 cd7 ct7), sl7⟩) (c7 : PySem.W.codeIn K cd7 "root_of" = true) (k7 : PySem.W.keepIn K (.ref f7) = true)
    (a8 : PySem.W.nsIn K mainGlobals "times" = some (some (.ref f8))) (l8 : K.lookup f8 = some ⟨oc8, od8, .func (PySem.W.fnOf "times" "times" (defArgs (tb 9)) (defBody (tb 9)) (defScope (tb 9)) .none kV8 dc8 pm8 an8 cd8 ct8), sl8⟩) (c8 : PySem.W.codeIn K cd8 "times" = true) (k8 : PySem.W.keepIn K (.ref f8) = true)
    (a9 : PySem.W.nsIn K mainGlobals "plus" = some (some (.ref f9))) (l9 : K.lookup f9 = some ⟨oc9, od9, .func (PySem.W.fnOf "plus" "plus" (defArgs (tb 10)) (defBody (tb 10)) (defScope (tb 10)) .none kV9 dc9 pm9 an9 cd9 ct9), sl9⟩) (c9 : PySem.W.codeIn K cd9 "plus" = true) (k9 : PySem.W.keepIn K (.ref f9) = true)
    (a10 : PySem.W.nsIn K mainGlobals "moved_left" = some (some (.ref f10))) (l10 : K.lookup f10 = some ⟨oc10, od10, .func (PySem.W.fnOf "moved_left" "moved_left" (defArgs (tb 11)) (defBody (tb 11)) (defScope (tb 11)) .none kV10 dc10 pm10 an10 cd10 ct10), sl10⟩) (c10 : PySem.W.codeIn K cd10 "moved_left" = true) (k10 : PySem.W.keepIn K (.ref f10) = true)
    (a11 : PySem.W.nsIn K mainGlobals "plain_row" = some (some (.ref f11))) (l11 : K.lookup f11 = some ⟨oc11, od11, .func (PySem.W.fnOf "plain_row" "plain_row" (defArgs (tb 12)) (defBody (tb 12)) (defScope (tb 12)) .none kV11 dc11 pm11 an11 cd11 ct11), sl11⟩) (c11 : PySem.W.codeIn K cd11 "plain_row" = true) (k11 : PySem.W.keepIn K (.ref f11) = true)
    (a12 : PySem.W.nsIn K mainGlobals "plain" = some (some (.ref f12))) (l12 : K.lookup f12 = some ⟨oc12, od12, .func (PySem.W.fnOf "plain" "plain" (defArgs (tb 13)) (defBody (tb 13)) (defScope (tb 13)) .none kV12 dc12 pm12 an12 cd12 ct12), sl12⟩) (c12 : PySem.W.codeIn K cd12 "plain" = true) (k12 : PySem.W.keepIn K (.ref f12) = true)
    (a13 : PySem.W.nsIn K mainGlobals "alike" = some (some (.ref f13))) (l13 : K.lookup f13 = some ⟨oc13, od13, .func (PySem.W.fnOf "alike" "alike" (defArgs (tb 15)) (defBody (tb 15)) (defScope (tb 15)) .none kV13 dc13 pm13 an13 cd13 ct13), sl13⟩) (c13 : PySem.W.codeIn K cd13 "alike" = true) (k13 : PySem.W.keepIn K (.ref f13) = true)
    (a14 : PySem.W.nsIn K mainGlobals "_law_deck" = some (some (.ref f14))) (l14 : K.lookup f14 = some ⟨oc14, od14, .func (PySem.W.fnOf "_law_deck" "_law_deck" (defArgs (tb 17)) (defBody (tb 17)) (defScope (tb 17)) .none kV14 dc14 pm14 an14 cd14 ct14), sl14⟩) (c14 : PySem.W.codeIn K cd14 "_law_deck" = true) (k14 : PySem.W.keepIn K (.ref f14) = true)
    (a15 : PySem.W.nsIn K mainGlobals "_law_draw" = some (some (.ref f15))) (l15 : K.lookup f15 = some ⟨oc15, od15, .func (PySem.W.fnOf "_law_draw" "_law_draw" (defArgs (tb 18)) (defBody (tb 18)) (defScope (tb 18)) .none kV15 dc15 pm15 an15 cd15 ct15), sl15⟩) (c15 : PySem.W.codeIn K cd15 "_law_draw" = true) (k15 : PySem.W.keepIn K (.ref f15) = true)
    (a16 : PySem.W.nsIn K mainGlobals "_law_one" = some (some (.ref f16))) (l16 : K.lookup f16 = some ⟨oc16, od16, .func (PySem.W.fnOf "_law_one" "_law_one" (defArgs (tb 19)) (defBody (tb 19)) (defScope (tb 19)) .none kV16 dc16 pm16 an16 cd16 ct16), sl16⟩) (c16 : PySem.W.codeIn K cd16 "_law_one" = true) (k16 : PySem.W.keepIn K (.ref f16) = true)
    (a17 : PySem.W.nsIn K mainGlobals "_law_word" = some (some (.ref f17))) (l17 : K.lookup f17 = some ⟨oc17, od17, .func (PySem.W.fnOf "_law_word" "_law_word" (defArgs (tb 20)) (defBody (tb 20)) (defScope (tb 20)) .none kV17 dc17 pm17 an17 cd17 ct17), sl17⟩) (c17 : PySem.W.codeIn K cd17 "_law_word" = true) (k17 : PySem.W.keepIn K (.ref f17) = true)
    (a18 : PySem.W.nsIn K mainGlobals "_law_form" = some (some (.ref f18))) (l18 : K.lookup f18 = some ⟨oc18, od18, .func (PySem.W.fnOf "_law_form" "_law_form" (defArgs (tb 21)) (defBody (tb 21)) (defScope (tb 21)) .none kV18 dc18 pm18 an18 cd18 ct18), sl18⟩) (c18 : PySem.W.codeIn K cd18 "_law_form" = true) (k18 : PySem.W.keepIn K (.ref f18) = true)
    (a19 : PySem.W.nsIn K mainGlobals "_law_parts" = some (some (.ref f19))) (l19 : K.lookup f19 = some ⟨oc19, od19, .func (PySem.W.fnOf "_law_parts" "_law_parts" (defArgs (tb 22)) (defBody (tb 22)) (defScope (tb 22)) .none kV19 dc19 pm19 an19 cd19 ct19), sl19⟩) (c19 : PySem.W.codeIn K cd19 "_law_parts" = true) (k19 : PySem.W.keepIn K (.ref f19) = true)
    (a20 : PySem.W.nsIn K mainGlobals "_law_row" = some (some (.ref f20))) (l20 : K.lookup f20 = some ⟨oc20, od20, .func (PySem.W.fnOf "_law_row" "_law_row" (defArgs (tb 23)) (defBody (tb 23)) (defScope (tb 23)) .none kV20 dc20 pm20 an20 cd20 ct20), sl20⟩) (c20 : PySem.W.codeIn K cd20 "_law_row" = true) (k20 : PySem.W.keepIn K (.ref f20) = true)
    (a21 : PySem.W.nsIn K mainGlobals "_law_size" = some (some (.ref f21))) (l21 : K.lookup f21 = some ⟨oc21, od21, .func (PySem.W.fnOf "_law_size" "_law_size" (defArgs (tb 24)) (defBody (tb 24)) (defScope (tb 24)) .none kV21 dc21 pm21 an21 cd21 ct21), sl21⟩) (c21 : PySem.W.codeIn K cd21 "_law_size" = true) (k21 : PySem.W.keepIn K (.ref f21) = true)
    (a22 : PySem.W.nsIn K mainGlobals "_law_program" = some (some (.ref f22))) (l22 : K.lookup f22 = some ⟨oc22, od22, .func (PySem.W.fnOf "_law_program" "_law_program" (defArgs (tb 25)) (defBody (tb 25)) (defScope (tb 25)) .none kV22 dc22 pm22 an22 cd22 ct22), sl22⟩) (c22 : PySem.W.codeIn K cd22 "_law_program" = true) (k22 : PySem.W.keepIn K (.ref f22) = true)
    (a23 : PySem.W.nsIn K mainGlobals "_law_value" = some (some (.ref f23))) (l23 : K.lookup f23 = some ⟨oc23, od23, .func (PySem.W.fnOf "_law_value" "_law_value" (defArgs (tb 26)) (defBody (tb 26)) (defScope (tb 26)) .none kV23 dc23 pm23 an23 cd23 ct23), sl23⟩) (c23 : PySem.W.codeIn K cd23 "_law_value" = true) (k23 : PySem.W.keepIn K (.ref f23) = true)
    (a24 : PySem.W.nsIn K mainGlobals "_law_text" = some (some (.ref f24))) (l24 : K.lookup f24 = some ⟨oc24, od24, .func (PySem.W.fnOf "_law_text" "_law_text" (defArgs (tb 27)) (defBody (tb 27)) (defScope (tb 27)) .none kV24 dc24 pm24 an24 cd24 ct24), sl24⟩) (c24 : PySem.W.codeIn K cd24 "_law_text" = true) (k24 : PySem.W.keepIn K (.ref f24) = true)
    (a25 : PySem.W.nsIn K mainGlobals "_law_put" = some (some (.ref f25))) (l25 : K.lookup f25 = some ⟨oc25, od25, .func (PySem.W.fnOf "_law_put" "_law_put" (defArgs (tb 28)) (defBody (tb 28)) (defScope (tb 28)) .none kV25 dc25 pm25 an25 cd25 ct25), sl25⟩) (c25 : PySem.W.codeIn K cd25 "_law_put" = true) (k25 : PySem.W.keepIn K (.ref f25) = true)
    (a26 : PySem.W.nsIn K mainGlobals "_law_turn_by" = some (some (.ref f26))) (l26 : K.lookup f26 = some ⟨oc26, od26, .func (PySem.W.fnOf "_law_turn_by" "_law_turn_by" (defArgs (tb 29)) (defBody (tb 29)) (defScope (tb 29)) .none kV26 dc26 pm26 an26 cd26 ct26), sl26⟩) (c26 : PySem.W.codeIn K cd26 "_law_turn_by" = true) (k26 : PySem.W.keepIn K (.ref f26) = true)
    (a27 : PySem.W.nsIn K mainGlobals "_law_turn" = some (some (.ref f27))) (l27 : K.lookup f27 = some ⟨oc27, od27, .func (PySem.W.fnOf "_law_turn" "_law_turn" (defArgs (tb 30)) (defBody (tb 30)) (defScope (tb 30)) .none kV27 dc27 pm27 an27 cd27 ct27), sl27⟩) (c27 : PySem.W.codeIn K cd27 "_law_turn" = true) (k27 : PySem.W.keepIn K (.ref f27) = true)
    (a28 : PySem.W.nsIn K mainGlobals "_law_cuts" = some (some (.ref f28))) (l28 : K.lookup f28 = some ⟨oc28, od28, .func (PySem.W.fnOf "_law_cuts" "_law_cuts" (defArgs (tb 31)) (defBody (tb 31)) (defScope (tb 31)) .none kV28 dc28 pm28 an28 cd28 ct28), sl28⟩) (c28 : PySem.W.codeIn K cd28 "_law_cuts" = true) (k28 : PySem.W.keepIn K (.ref f28) = true)
    (a29 : PySem.W.nsIn K mainGlobals "_law_plain" = some (some (.ref f29))) (l29 : K.lookup f29 = some ⟨oc29, od29, .func (PySem.W.fnOf "_law_plain" "_law_plain" (defArgs (tb 32)) (defBody (tb 32)) (defScope (tb 32)) .none kV29 dc29 pm29 an29 cd29 ct29), sl29⟩) (c29 : PySem.W.codeIn K cd29 "_law_plain" = true) (k29 : PySem.W.keepIn K (.ref f29) = true)
    (a30 : PySem.W.nsIn K mainGlobals "_law_changed" = some (some (.ref f30))) (l30 : K.lookup f30 = some ⟨oc30, od30, .func (PySem.W.fnOf "_law_changed" "_law_changed" (defArgs (tb 33)) (defBody (tb 33)) (defScope (tb 33)) .none kV30 dc30 pm30 an30 cd30 ct30), sl30⟩) (c30 : PySem.W.codeIn K cd30 "_law_changed" = true) (k30 : PySem.W.keepIn K (.ref f30) = true)
    (a31 : PySem.W.nsIn K mainGlobals "_law_otherwise" = some (some (.ref f31))) (l31 : K.lookup f31 = some ⟨oc31, od31, .func (PySem.W.fnOf "_law_otherwise" "_law_otherwise" (defArgs (tb 34)) (defBody (tb 34)) (defScope (tb 34)) .none kV31 dc31 pm31 an31 cd31 ct31), sl31⟩) (c31 : PySem.W.codeIn K cd31 "_law_otherwise" = true) (k31 : PySem.W.keepIn K (.ref f31) = true)
    (a32 : PySem.W.nsIn K mainGlobals "law" = some (some (.ref f32))) (l32 : K.lookup f32 = some ⟨oc32, od32, .func (PySem.W.fnOf "law" "law" (defArgs (tb 35)) (defBody (tb 35)) (defScope (tb 35)) .none kV32 dc32 pm32 an32 cd32 ct32), sl32⟩) (c32 : PySem.W.codeIn K cd32 "law" = true) (k32 : PySem.W.keepIn K (.ref f32) = true)
    (z0 : PySem.W.nsIn K mainGlobals "any" = some none)
    (z1 : PySem.W.nsIn K mainGlobals "range" = some none)
    (z2 : PySem.W.nsIn K mainGlobals "zip" = some none)
    (z3 : PySem.W.nsIn K mainGlobals "tuple" = some none)
    (z4 : PySem.W.nsIn K mainGlobals "len" = some none)
    (z5 : PySem.W.nsIn K mainGlobals "list" = some none)
    (z6 : PySem.W.nsIn K mainGlobals "int" = some none)
    (z7 : PySem.W.nsIn K mainGlobals "abs" = some none)
    (z8 : PySem.W.nsIn K mainGlobals "sum" = some none)
    (z9 : PySem.W.nsIn K mainGlobals "enumerate" = some none)
    (z10 : PySem.W.nsIn K mainGlobals "repr" = some none)
    : ∃ fd : FuncData, (∀ (s : Shared) (v : Value), BindsTo s fd ⟨[v], []⟩ [("_law_script", v)]) ∧ ∀ base : Heap, K.In base → base.Ns mainGlobals mg → FnG l.prog w K mg base 60 fa fd ["_law_script"] (liftSp K 1 (lawSp 63)) := by
  have e := hfa.symm.trans (PySem.W.mg_of X G a32)
  cases e
  have T : Tops K mg := {
    f_is_open := ft_mk X G a0 l0 c0 k0 fun _ _ _ _ _ _ us hl => match us, hl with | [_], _ => rfl
    f_fixed_row := ft_mk X G a1 l1 c1 k1 fun _ _ _ _ _ _ us hl => match us, hl with | [_], _ => rfl
    f_behind := ft_mk X G a2 l2 c2 k2 fun _ _ _ _ _ _ us hl => match us, hl with | [_, _], _ => rfl
    f_part_row := ft_mk X G a3 l3 c3 k3 fun _ _ _ _ _ _ us hl => match us, hl with | [_], _ => rfl
    f_parts_row := ft_mk X G a4 l4 c4 k4 fun _ _ _ _ _ _ us hl => match us, hl with | [_], _ => rfl
    f_flat := ft_mk X G a5 l5 c5 k5 fun _ _ _ _ _ _ us hl => match us, hl with | [_], _ => rfl
    f_row_program := ft_mk X G a6 l6 c6 k6 fun _ _ _ _ _ _ us hl => match us, hl with | [_], _ => rfl
    f_root_of := ft_mk X G a7 l7 c7 k7 fun _ _ _ _ _ _ us hl => match us, hl with | [_], _ => rfl
    f_times := ft_mk X G a8 l8 c8 k8 fun _ _ _ _ _ _ us hl => match us, hl with | [_, _], _ => rfl
    f_plus := ft_mk X G a9 l9 c9 k9 fun _ _ _ _ _ _ us hl => match us, hl with | [_, _], _ => rfl
    f_moved_left := ft_mk X G a10 l10 c10 k10 fun _ _ _ _ _ _ us hl => match us, hl with | [_, _, _], _ => rfl
    f_plain_row := ft_mk X G a11 l11 c11 k11 fun _ _ _ _ _ _ us hl => match us, hl with | [_], _ => rfl
    f_plain := ft_mk X G a12 l12 c12 k12 fun _ _ _ _ _ _ us hl => match us, hl with | [_], _ => rfl
    f_alike := ft_mk X G a13 l13 c13 k13 fun _ _ _ _ _ _ us hl => match us, hl with | [_, _], _ => rfl
    f_l_deck := ft_mk X G a14 l14 c14 k14 fun _ _ _ _ _ _ us hl => match us, hl with | [_], _ => rfl
    f_l_draw := ft_mk X G a15 l15 c15 k15 fun _ _ _ _ _ _ us hl => match us, hl with | [_, _], _ => rfl
    f_l_one := ft_mk X G a16 l16 c16 k16 fun _ _ _ _ _ _ us hl => match us, hl with | [_, _], _ => rfl
    f_l_word := ft_mk X G a17 l17 c17 k17 fun _ _ _ _ _ _ us hl => match us, hl with | [_], _ => rfl
    f_l_form := ft_mk X G a18 l18 c18 k18 fun _ _ _ _ _ _ us hl => match us, hl with | [_, _, _], _ => rfl
    f_l_parts := ft_mk X G a19 l19 c19 k19 fun _ _ _ _ _ _ us hl => match us, hl with | [_, _, _, _], _ => rfl
    f_l_row := ft_mk X G a20 l20 c20 k20 fun _ _ _ _ _ _ us hl => match us, hl with | [_], _ => rfl
    f_l_size := ft_mk X G a21 l21 c21 k21 fun _ _ _ _ _ _ us hl => match us, hl with | [_, _], _ => rfl
    f_l_program := ft_mk X G a22 l22 c22 k22 fun _ _ _ _ _ _ us hl => match us, hl with | [_, _, _], _ => rfl
    f_l_value := ft_mk X G a23 l23 c23 k23 fun _ _ _ _ _ _ us hl => match us, hl with | [_, _], _ => rfl
    f_l_text := ft_mk X G a24 l24 c24 k24 fun _ _ _ _ _ _ us hl => match us, hl with | [_, _], _ => rfl
    f_l_put := ft_mk X G a25 l25 c25 k25 fun _ _ _ _ _ _ us hl => match us, hl with | [_, _, _, _, _], _ => rfl
    f_l_turn_by := ft_mk X G a26 l26 c26 k26 fun _ _ _ _ _ _ us hl => match us, hl with | [_, _, _, _], _ => rfl
    f_l_turn := ft_mk X G a27 l27 c27 k27 fun _ _ _ _ _ _ us hl => match us, hl with | [_, _], _ => rfl
    f_l_cuts := ft_mk X G a28 l28 c28 k28 fun _ _ _ _ _ _ us hl => match us, hl with | [_], _ => rfl
    f_l_plain := ft_mk X G a29 l29 c29 k29 fun _ _ _ _ _ _ us hl => match us, hl with | [_, _], _ => rfl
    f_l_changed := ft_mk X G a30 l30 c30 k30 fun _ _ _ _ _ _ us hl => match us, hl with | [_, _], _ => rfl
    f_l_otherwise := ft_mk X G a31 l31 c31 k31 fun _ _ _ _ _ _ us hl => match us, hl with | [_, _], _ => rfl
    md := ⟨fun x hx => by
        simp only [bs0, List.mem_cons, List.not_mem_nil, or_false] at hx
        rcases hx with rfl | rfl | rfl | rfl | rfl | rfl | rfl | rfl | rfl | rfl | rfl
        · exact PySem.W.mg_none_of X G z0
        · exact PySem.W.mg_none_of X G z1
        · exact PySem.W.mg_none_of X G z2
        · exact PySem.W.mg_none_of X G z3
        · exact PySem.W.mg_none_of X G z4
        · exact PySem.W.mg_none_of X G z5
        · exact PySem.W.mg_none_of X G z6
        · exact PySem.W.mg_none_of X G z7
        · exact PySem.W.mg_none_of X G z8
        · exact PySem.W.mg_none_of X G z9
        · exact PySem.W.mg_none_of X G z10,
      fun x d e => by simp [cs0] at e⟩ }
  exact ⟨PySem.W.fnOf "law" "law" (defArgs (tb 35)) (defBody (tb 35)) (defScope (tb 35)) .none kV32 dc32 pm32 an32 cd32 ct32, fun s v => .of_eq rfl, fun base _ _ => fn_law T (fun_mk l32 c32 k32)⟩
end G57
open PySem PySem.W PyProof.Rows
set_option maxHeartbeats 0 in
theorem PySem.Challenge.cw_everycount_k36_whole_texts_tell_plain_ro_holds : PySem.Challenge.rw_everycount_k36_whole_texts_tell_plain_ro.Holds := by
  w_on; o_law; k_head; (case hw => w_witness2)
  k_fill
  refine G57.walk_end (l := PySem.Challenge.rw_everycount_k36_whole_texts_tell_plain_ro) (n := 63) (k := 60) (x := "_law_script") rfl (by decide) rfl ⟨rfl, by decide, by decide⟩ (fun w h Y => PySem.W.kIn_of Y) ?F
  case F =>
    intro w mg fa h KX G hmg
    refine' G57.all_mk KX G hmg ?a0 ?l0 ?c0 ?k0 ?a1 ?l1 ?c1 ?k1 ?a2 ?l2 ?c2 ?k2 ?a3 ?l3 ?c3 ?k3 ?a4 ?l4 ?c4 ?k4 ?a5 ?l5 ?c5 ?k5 ?a6 ?l6 ?c6 ?k6 ?a7 ?l7 ?c7 ?k7 ?a8 ?l8 ?c8 ?k8 ?a9 ?l9 ?c9 ?k9 ?a10 ?l10 ?c10 ?k10 ?a11 ?l11 ?c11 ?k11 ?a12 ?l12 ?c12 ?k12 ?a13 ?l13 ?c13 ?k13 ?a14 ?l14 ?c14 ?k14 ?a15 ?l15 ?c15 ?k15 ?a16 ?l16 ?c16 ?k16 ?a17 ?l17 ?c17 ?k17 ?a18 ?l18 ?c18 ?k18 ?a19 ?l19 ?c19 ?k19 ?a20 ?l20 ?c20 ?k20 ?a21 ?l21 ?c21 ?k21 ?a22 ?l22 ?c22 ?k22 ?a23 ?l23 ?c23 ?k23 ?a24 ?l24 ?c24 ?k24 ?a25 ?l25 ?c25 ?k25 ?a26 ?l26 ?c26 ?k26 ?a27 ?l27 ?c27 ?k27 ?a28 ?l28 ?c28 ?k28 ?a29 ?l29 ?c29 ?k29 ?a30 ?l30 ?c30 ?k30 ?a31 ?l31 ?c31 ?k31 ?a32 ?l32 ?c32 ?k32 ?z0 ?z1 ?z2 ?z3 ?z4 ?z5 ?z6 ?z7 ?z8 ?z9 ?z10
    (case a0 => k_is)
    (case l0 => k_is)
    (case c0 => k_is)
    (case k0 => k_is)
    (case a1 => k_is)
    (case l1 => k_is)
    (case c1 => k_is)
    (case k1 => k_is)
    (case a2 => k_is)
    (case l2 => k_is)
    (case c2 => k_is)
    (case k2 => k_is)
    (case a3 => k_is)
    (case l3 => k_is)
    (case c3 => k_is)
    (case k3 => k_is)
    (case a4 => k_is)
    (case l4 => k_is)
    (case c4 => k_is)
    (case k4 => k_is)
    (case a5 => k_is)
    (case l5 => k_is)
    (case c5 => k_is)
    (case k5 => k_is)
    (case a6 => k_is)
    (case l6 => k_is)
    (case c6 => k_is)
    (case k6 => k_is)
    (case a7 => k_is)
    (case l7 => k_is)
    (case c7 => k_is)
    (case k7 => k_is)
    (case a8 => k_is)
    (case l8 => k_is)
    (case c8 => k_is)
    (case k8 => k_is)
    (case a9 => k_is)
    (case l9 => k_is)
    (case c9 => k_is)
    (case k9 => k_is)
    (case a10 => k_is)
    (case l10 => k_is)
    (case c10 => k_is)
    (case k10 => k_is)
    (case a11 => k_is)
    (case l11 => k_is)
    (case c11 => k_is)
    (case k11 => k_is)
    (case a12 => k_is)
    (case l12 => k_is)
    (case c12 => k_is)
    (case k12 => k_is)
    (case a13 => k_is)
    (case l13 => k_is)
    (case c13 => k_is)
    (case k13 => k_is)
    (case a14 => k_is)
    (case l14 => k_is)
    (case c14 => k_is)
    (case k14 => k_is)
    (case a15 => k_is)
    (case l15 => k_is)
    (case c15 => k_is)
    (case k15 => k_is)
    (case a16 => k_is)
    (case l16 => k_is)
    (case c16 => k_is)
    (case k16 => k_is)
    (case a17 => k_is)
    (case l17 => k_is)
    (case c17 => k_is)
    (case k17 => k_is)
    (case a18 => k_is)
    (case l18 => k_is)
    (case c18 => k_is)
    (case k18 => k_is)
    (case a19 => k_is)
    (case l19 => k_is)
    (case c19 => k_is)
    (case k19 => k_is)
    (case a20 => k_is)
    (case l20 => k_is)
    (case c20 => k_is)
    (case k20 => k_is)
    (case a21 => k_is)
    (case l21 => k_is)
    (case c21 => k_is)
    (case k21 => k_is)
    (case a22 => k_is)
    (case l22 => k_is)
    (case c22 => k_is)
    (case k22 => k_is)
    (case a23 => k_is)
    (case l23 => k_is)
    (case c23 => k_is)
    (case k23 => k_is)
    (case a24 => k_is)
    (case l24 => k_is)
    (case c24 => k_is)
    (case k24 => k_is)
    (case a25 => k_is)
    (case l25 => k_is)
    (case c25 => k_is)
    (case k25 => k_is)
    (case a26 => k_is)
    (case l26 => k_is)
    (case c26 => k_is)
    (case k26 => k_is)
    (case a27 => k_is)
    (case l27 => k_is)
    (case c27 => k_is)
    (case k27 => k_is)
    (case a28 => k_is)
    (case l28 => k_is)
    (case c28 => k_is)
    (case k28 => k_is)
    (case a29 => k_is)
    (case l29 => k_is)
    (case c29 => k_is)
    (case k29 => k_is)
    (case a30 => k_is)
    (case l30 => k_is)
    (case c30 => k_is)
    (case k30 => k_is)
    (case a31 => k_is)
    (case l31 => k_is)
    (case c31 => k_is)
    (case k31 => k_is)
    (case a32 => k_is)
    (case l32 => k_is)
    (case c32 => k_is)
    (case k32 => k_is)
    (case z0 => k_is)
    (case z1 => k_is)
    (case z2 => k_is)
    (case z3 => k_is)
    (case z4 => k_is)
    (case z5 => k_is)
    (case z6 => k_is)
    (case z7 => k_is)
    (case z8 => k_is)
    (case z9 => k_is)
    (case z10 => k_is)
