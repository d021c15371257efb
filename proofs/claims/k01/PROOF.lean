import PyProof.Rows.All
import Wide.All
import OpenK.AllK
import Wide.FinOn
import HandS.ForMost
import HandS.Flow
import HandS.Wide
import HandS.TupAny
import HandS.TupMul
import HandS.TupLe
import HandS.Zip
import HandS.FStr
import HandS.IsInst
import HandS.Style
import HandS.NoneIn
import PyProof.Rows.NestShow
import PyProof.ConsumeWalk
import PyProof.WalksMore
import HandS.StrMore
import HandS.Replace
import PyProof.Rows.SumAny
import PyProof.Rows.StrCountLaw
import HandS.SortInts
import HandS.Conv
import PyProof.StrLawsFrom
import HandS.SetFor
import HandS.Strs
import KE.KMinKey
import PyProof.WalkInts
import HandS.SortKw
import KE.GoesZip
import KE.GoesMore
import KE.GoesEnum
import KE.KExcSuper
import KE.KExcIs
import HandS.ExcInit
import HandS.ExcField
import HandS.ExcSuper
import HandS.WordsExc
import HandS.ExcIs
import HandS.Property
import HandS.Codes
import HandS.NamedTupSort
import HandS.SlotsOwn
import KE.KRevSl
import PyProof.ReprLen
import KE.IntTextLaws
import PySem.Challenge.RW_everycount_k01_values_of_forms
set_option Elab.async false
set_option linter.all false
set_option maxRecDepth 100000
namespace G57
open PySem L2
inductive D where
  | non | bl (b : Bool) | int (i : Int) | str (x : List Nat) | tup (ds : List D) | rol (ds : List D) | ref (a : Addr)
  | obj (c : Nat) (d : D)
inductive Ob where
  | lst (ds : List D)
abbrev Sto := Addr → Option Ob
def put (S : Sto) (a : Addr) (o : Ob) : Sto := fun b => if b = a then some o else S b
theorem put_same {S : Sto} {a : Addr} {o : Ob} : put S a o a = some o := if_pos rfl
theorem put_ne {S : Sto} {a b : Addr} {o : Ob} (h : b ≠ a) : put S a o b = S b := if_neg h
theorem put_put {S : Sto} {a : Addr} {o u : Ob} : put (put S a o) a u = put S a u := by
  funext b; unfold put; split <;> rfl
def clsN : Nat → Str
  | 0 => "Long"
  | _ => "Piece"
def ClsAt (K : PySem.W.Frag) (c : Nat) (C : Addr) : Prop := c < 2 ∧ PySem.W.nsIn K mainGlobals (clsN c) = some (some (.ref C))
def excN : Nat → Str
  | 0 => "TooLong"
  | 1 => "Unused"
  | 2 => "NoPlace"
  | 3 => "NoMove"
  | 4 => "NoLetter"
  | _ => "BadText"
def excF : Nat → Str
  | 0 => "length"
  | 1 => "number"
  | 2 => "word"
  | 3 => "number"
  | 4 => "place"
  | _ => "place"
def stays : HO → Bool
  | .lst _ => false
  | .ins _ _ [(x, _)] => decide (x = "runs")
  | .ins _ _ [] => true
  | .ins _ _ _ => false
  | _ => true
def partsO : HO → Bool
  | .tup _ | .frz _ _ => true
  | .ins _ _ [(x, _)] => decide (x = "runs")
  | _ => false
theorem stays_of {o : HO} (h : partsO o = true) : stays o = true := by
  cases o <;> first | rfl | cases h | skip
  rename_i C dx fs
  cases fs with
  | nil => rfl
  | cons y r => cases r with
    | nil => exact h
    | cons _ _ => cases h
def SqF (K : PySem.W.Frag) (H : Hp) (a : Addr) (xs : List V) : Prop :=
  (∃ o, H a = some (.frz o (.lst xs))) ∨ ∀ H' : Hp, SqL K H' a xs
theorem SqF.sq {K : PySem.W.Frag} {H : Hp} {a : Addr} {xs : List V} (h : SqF K H a xs) : SqL K H a xs := by
  rcases h with ⟨o, h⟩ | h
  · exact .inl (.inr ⟨o, h⟩)
  · exact h H
mutual
def Rep (K : PySem.W.Frag) (H : Hp) : D → V → Prop
  | .non, v => v = .non
  | .bl b, v => v = .bl b
  | .int i, v => v = .int i
  | .str x, v => v = .str ⟨x.toArray⟩
  | .ref a, v => v = .ref a
  | .tup ds, v => ∃ a vs, v = .ref a ∧ SqT K H a vs ∧ Reps K H ds vs
  | .rol ds, v => ∃ a vs, v = .ref a ∧ SqF K H a vs ∧ Reps K H ds vs
  | .obj c d, v => ∃ a C dx u, v = .ref a ∧ ClsAt K c C ∧ H a = some (.ins C dx [("runs", u)]) ∧ Rep K H d u
def Reps (K : PySem.W.Frag) (H : Hp) : List D → List V → Prop
  | [], vs => vs = []
  | d :: ds, vs => ∃ v r, vs = v :: r ∧ Rep K H d v ∧ Reps K H ds r
end
def Keep (H H' : Hp) : Prop := ∀ a o, H a = some o → stays o = true → H' a = some o
theorem Keep.refl {H : Hp} : Keep H H := fun _ _ e _ => e
theorem Keep.trans {H H1 H2 : Hp} (a : Keep H H1) (b : Keep H1 H2) : Keep H H2 := fun x o e s => b x o (a x o e s) s
theorem Keep.new {H : Hp} {p : Addr} {o : HO} (h : H p = none) : Keep H (upd H p o) := fun _ _ e _ => by rw [upd_ne (ne_of_none e h)]; exact e
theorem Keep.lst {H : Hp} {p : Addr} {xs : List V} {o : HO} (h : H p = some (.lst xs)) : Keep H (upd H p o) := fun _ _ e s => by
  rw [upd_ne (ne_of e h (by intro z; rw [z] at s; cases s))]; exact e
def KeepR (H H' : Hp) : Prop := ∀ a o, H a = some o → partsO o = true → H' a = some o
theorem Keep.r {H H' : Hp} (k : Keep H H') : KeepR H H' := fun a o e s => k a o e (stays_of s)
theorem Keep.tup {H H' : Hp} (k : Keep H H') {a : Addr} {xs : List V} (h : H a = some (.tup xs)) : H' a = some (.tup xs) := k _ _ h rfl
theorem Keep.frz {H H' : Hp} (k : Keep H H') {a : Addr} {o : Obj} {u : HO} (h : H a = some (.frz o u)) : H' a = some (.frz o u) := k _ _ h rfl
theorem Keep.ins {H H' : Hp} (k : Keep H H') {a C dx : Addr} {u : V} (h : H a = some (.ins C dx [("runs", u)])) : H' a = some (.ins C dx [("runs", u)]) := k _ _ h (by simp [stays])
theorem KeepR.sqt {K : PySem.W.Frag} {H H' : Hp} {a : Addr} {xs : List V} (k : KeepR H H') (h : SqT K H a xs) : SqT K H' a xs := by
  rcases h with (h | ⟨o, h⟩) | h
  · exact .inl (.inl (k _ _ h rfl))
  · exact .inl (.inr ⟨o, k _ _ h rfl⟩)
  · exact .inr h
theorem KeepR.sqf {K : PySem.W.Frag} {H H' : Hp} {a : Addr} {xs : List V} (k : KeepR H H') (h : SqF K H a xs) : SqF K H' a xs := by
  rcases h with ⟨o, h⟩ | h
  · exact .inl ⟨o, k _ _ h rfl⟩
  · exact .inr h
theorem Keep.sqt {K : PySem.W.Frag} {H H' : Hp} {a : Addr} {xs : List V} (k : Keep H H') (h : SqT K H a xs) : SqT K H' a xs := k.r.sqt h
theorem Keep.sqf {K : PySem.W.Frag} {H H' : Hp} {a : Addr} {xs : List V} (k : Keep H H') (h : SqF K H a xs) : SqF K H' a xs := k.r.sqf h
mutual
theorem Rep.monoR {K : PySem.W.Frag} {H H' : Hp} (k : KeepR H H') : ∀ {d : D} {v : V}, Rep K H d v → Rep K H' d v
  | .non, _, h | .bl _, _, h | .int _, _, h | .str _, _, h | .ref _, _, h => by simpa only [Rep] using h
  | .tup ds, v, h => by
    simp only [Rep] at h ⊢
    obtain ⟨a, vs, e, q, r⟩ := h
    exact ⟨a, vs, e, k.sqt q, Reps.monoR k r⟩
  | .rol ds, v, h => by
    simp only [Rep] at h ⊢
    obtain ⟨a, vs, e, q, r⟩ := h
    exact ⟨a, vs, e, k.sqf q, Reps.monoR k r⟩
  | .obj c d, v, h => by
    simp only [Rep] at h ⊢
    obtain ⟨a, C, dx, u, e, hc, q, r⟩ := h
    exact ⟨a, C, dx, u, e, hc, k _ _ q (by simp [partsO]), Rep.monoR k r⟩
theorem Reps.monoR {K : PySem.W.Frag} {H H' : Hp} (k : KeepR H H') : ∀ {ds : List D} {vs : List V}, Reps K H ds vs → Reps K H' ds vs
  | [], _, h => by simpa only [Reps] using h
  | d :: ds, vs, h => by
    simp only [Reps] at h ⊢
    obtain ⟨v, r, e, q, t⟩ := h
    exact ⟨v, r, e, Rep.monoR k q, Reps.monoR k t⟩
end
theorem Rep.mono {K : PySem.W.Frag} {H H' : Hp} (k : Keep H H') {d : D} {v : V} (h : Rep K H d v) : Rep K H' d v := h.monoR k.r
theorem Reps.mono {K : PySem.W.Frag} {H H' : Hp} (k : Keep H H') {ds : List D} {vs : List V} (h : Reps K H ds vs) : Reps K H' ds vs := h.monoR k.r
def StoOk (K : PySem.W.Frag) (H : Hp) (S : Sto) : Prop := ∀ a o, S a = some o → match o with
  | .lst ds => ∃ vs, H a = some (.lst vs) ∧ Reps K H ds vs
abbrev En := List (Option D)
def RelE (K : PySem.W.Frag) (H : Hp) (env : En) (σ : L2.St) : Prop := env.length = σ.length ∧ ∀ (i : Nat) (d : D), env[i]? = some (some d) → ∃ v : V, σ[i]? = some (some v) ∧ Rep K H d v
theorem RelE.mono {K : PySem.W.Frag} {H H' : Hp} {env : En} {σ : L2.St} (k : Keep H H') (h : RelE K H env σ) : RelE K H' env σ :=
  ⟨h.1, fun i d e => let ⟨v, q, r⟩ := h.2 i d e; ⟨v, q, r.mono k⟩⟩
theorem RelE.set {K : PySem.W.Frag} {H : Hp} {env : En} {σ : L2.St} {i : Nat} {d : D} {v : V} (h : RelE K H env σ) (r : Rep K H d v) : RelE K H (env.set i (some d)) (σ.set i (some v)) := by
  refine ⟨by simp [h.1], fun j e q => ?_⟩
  by_cases hj : i = j
  · subst hj
    by_cases hi : i < env.length
    · rw [List.getElem?_set_self hi] at q
      cases q
      exact ⟨v, List.getElem?_set_self (by rw [← h.1]; exact hi), r⟩
    · rw [List.getElem?_eq_none (by simpa using hi)] at q; cases q
  · rw [List.getElem?_set_ne hj] at q ⊢
    exact h.2 j e q
theorem StoOk.fresh {K : PySem.W.Frag} {H : Hp} {S : Sto} (h : StoOk K H S) {p : Addr} (e : H p = none) : S p = none := by
  cases q : S p with
  | none => rfl
  | some o =>
    have := h p o q
    cases o
    obtain ⟨vs, z, _⟩ := this
    rw [e] at z; cases z
theorem StoOk.new {K : PySem.W.Frag} {H : Hp} {S : Sto} (h : StoOk K H S) {p : Addr} {o : HO} (e : H p = none) : StoOk K (upd H p o) S := fun a ob q => by
  have := h a ob q
  cases ob
  obtain ⟨vs, z, r⟩ := this
  exact ⟨vs, by rw [upd_ne (ne_of_none z e)]; exact z, r.mono (Keep.new e)⟩
theorem StoOk.newL {K : PySem.W.Frag} {H : Hp} {S : Sto} (h : StoOk K H S) {p : Addr} {ds : List D} {vs : List V} (e : H p = none) (r : Reps K H ds vs) : StoOk K (upd H p (.lst vs)) (put S p (.lst ds)) := fun a ob q => by
  by_cases ha : a = p
  · subst ha
    rw [put_same] at q; cases q
    exact ⟨vs, upd_same, r.mono (Keep.new e)⟩
  · rw [put_ne ha] at q
    exact h.new e a ob q
theorem StoOk.write {K : PySem.W.Frag} {H : Hp} {S : Sto} (h : StoOk K H S) {p : Addr} {ds : List D} {us vs : List V} (e : H p = some (.lst us)) (r : Reps K H ds vs) : StoOk K (upd H p (.lst vs)) (put S p (.lst ds)) := fun a ob q => by
  by_cases ha : a = p
  · subst ha
    rw [put_same] at q; cases q
    exact ⟨vs, upd_same, r.mono (Keep.lst e)⟩
  · rw [put_ne ha] at q
    have := h a ob q
    cases ob
    obtain ⟨ws, z, t⟩ := this
    exact ⟨ws, by rw [upd_ne ha]; exact z, t.mono (Keep.lst e)⟩
section
variable {K : PySem.W.Frag} {H : Hp}
theorem Reps.length : ∀ {ds : List D} {vs : List V}, Reps K H ds vs → ds.length = vs.length
  | [], _, h => by simp only [Reps] at h; rw [h]; rfl
  | d :: ds, vs, h => by
    simp only [Reps] at h
    obtain ⟨v, r, e, _, t⟩ := h
    rw [e, List.length_cons, List.length_cons, t.length]
theorem Reps.nil : Reps K H [] [] := by simp only [Reps]
theorem Reps.cons {d : D} {v : V} {ds : List D} {vs : List V} (a : Rep K H d v) (b : Reps K H ds vs) : Reps K H (d :: ds) (v :: vs) := by simp only [Reps]; exact ⟨v, vs, rfl, a, b⟩
theorem Reps.inv {d : D} {v : V} {ds : List D} {vs : List V} (h : Reps K H (d :: ds) (v :: vs)) : Rep K H d v ∧ Reps K H ds vs := by
  simp only [Reps] at h
  obtain ⟨_, _, e, a, b⟩ := h
  cases e
  exact ⟨a, b⟩
theorem Reps.get : ∀ {ds : List D} {vs : List V} {i : Nat} {d : D}, Reps K H ds vs → ds[i]? = some d → ∃ v, vs[i]? = some v ∧ Rep K H d v
  | [], _, _, _, _, e => by simp at e
  | d :: ds, v :: vs, 0, _, h, e => by simp at e; subst e; exact ⟨v, rfl, h.inv.1⟩
  | d :: ds, v :: vs, i + 1, _, h, e => by
    simp at e
    obtain ⟨x, q, r⟩ := Reps.get h.inv.2 e
    exact ⟨x, by simpa using q, r⟩
  | d :: ds, [], _, _, h, _ => by simp only [Reps] at h; obtain ⟨_, _, e, _⟩ := h; cases e
theorem Reps.append : ∀ {ds es : List D} {vs us : List V}, Reps K H ds vs → Reps K H es us → Reps K H (ds ++ es) (vs ++ us)
  | [], _, _, _, h, g => by simp only [Reps] at h; subst h; exact g
  | d :: ds, _, v :: vs, _, h, g => .cons h.inv.1 (h.inv.2.append g)
  | d :: ds, _, [], _, h, _ => by simp only [Reps] at h; obtain ⟨_, _, e, _⟩ := h; cases e
theorem Reps.take : ∀ {ds : List D} {vs : List V} (n : Nat), Reps K H ds vs → Reps K H (ds.take n) (vs.take n)
  | _, _, 0, _ => by simp only [List.take_zero]; exact .nil
  | [], _, n + 1, h => by simp only [Reps] at h; subst h; exact .nil
  | d :: ds, v :: vs, n + 1, h => .cons h.inv.1 (h.inv.2.take n)
  | d :: ds, [], _, h => by simp only [Reps] at h; obtain ⟨_, _, e, _⟩ := h; cases e
theorem Reps.drop : ∀ {ds : List D} {vs : List V} (n : Nat), Reps K H ds vs → Reps K H (ds.drop n) (vs.drop n)
  | _, _, 0, h => h
  | [], _, n + 1, h => by simp only [Reps] at h; subst h; exact .nil
  | d :: ds, v :: vs, n + 1, h => h.inv.2.drop n
  | d :: ds, [], _, h => by simp only [Reps] at h; obtain ⟨_, _, e, _⟩ := h; cases e
theorem Reps.set : ∀ {ds : List D} {vs : List V} {d : D} {v : V} (n : Nat), Reps K H ds vs → Rep K H d v → Reps K H (ds.set n d) (vs.set n v)
  | [], _, _, _, _, h, _ => by simp only [Reps] at h; subst h; exact .nil
  | d :: ds, v :: vs, _, _, 0, h, r => .cons r h.inv.2
  | d :: ds, v :: vs, _, _, n + 1, h, r => .cons h.inv.1 (h.inv.2.set n r)
  | d :: ds, [], _, _, _, h, _ => by simp only [Reps] at h; obtain ⟨_, _, e, _⟩ := h; cases e
theorem Reps.rep {ds : List D} {vs : List V} (h : Reps K H ds vs) : ∀ n : Nat, Reps K H (List.replicate n ds).flatten (List.replicate n vs).flatten
  | 0 => .nil
  | n + 1 => by rw [List.replicate_succ, List.replicate_succ, List.flatten_cons, List.flatten_cons]; exact h.append (h.rep n)
theorem Reps.reverse : ∀ {ds : List D} {vs : List V}, Reps K H ds vs → Reps K H ds.reverse vs.reverse
  | [], _, h => by simp only [Reps] at h; subst h; exact .nil
  | d :: ds, v :: vs, h => by rw [List.reverse_cons, List.reverse_cons]; exact h.inv.2.reverse.append (.cons h.inv.1 .nil)
  | d :: ds, [], h => by simp only [Reps] at h; obtain ⟨_, _, e, _⟩ := h; cases e
end
abbrev DK := D → Sto → Prop
abbrev TD := En → Sto → DK → Prop
abbrev TBD := En → Sto → (Bool → Sto → Prop) → Prop
abbrev TAD := En → Sto → (List D → Sto → Prop) → Prop
def Lv (K : PySem.W.Frag) (H : Hp) (Qd : DK) (Q : VK) : Prop := ∀ d S' v H', Qd d S' → Keep H H' → Rep K H' d v → StoOk K H' S' → Q v H'
def liftE (K : PySem.W.Frag) (t : TD) : TE := fun σ H Q => ∃ env S Qd, RelE K H env σ ∧ StoOk K H S ∧ t env S Qd ∧ Lv K H Qd Q
def liftT (K : PySem.W.Frag) (t : TBD) : TT := fun σ H Q => ∃ env S, ∃ Qd : Bool → Sto → Prop, RelE K H env σ ∧ StoOk K H S ∧ t env S Qd ∧ ∀ b S' H', Qd b S' → Keep H H' → StoOk K H' S' → Q b H'
def liftA (K : PySem.W.Frag) (t : TAD) : TA := fun σ H Q => ∃ env S, ∃ Qd : List D → Sto → Prop, RelE K H env σ ∧ StoOk K H S ∧ t env S Qd ∧ ∀ ds S' vs H', Qd ds S' → Keep H H' → Reps K H' ds vs → StoOk K H' S' → Q vs H'
theorem _root_.L2.PE.weak {X : Cx} {e : Expr} {t t' : TE} (h : PE X e t) (w : ∀ σ H Q, t' σ H Q → t σ H Q) : PE X e t' := ⟨fun pins s σ H Q I q => h.run pins s σ H Q I (w σ H Q q)⟩
theorem _root_.L2.PT.weak {X : Cx} {e : Expr} {t t' : TT} (h : PT X e t) (w : ∀ σ H Q, t' σ H Q → t σ H Q) : PT X e t' := ⟨fun pins s σ H Q I q => h.run pins s σ H Q I (w σ H Q q)⟩
theorem _root_.L2.PA.weak {X : Cx} {e : List Expr} {t t' : TA} (h : PA X e t) (w : ∀ σ H Q, t' σ H Q → t σ H Q) : PA X e t' := ⟨fun pos pins s σ H Q I q => h.run pos pins s σ H Q I (w σ H Q q)⟩
abbrev QE (X : Cx) (e : Expr) (t : TD) : Prop := PE X e (liftE X.K t)
abbrev QT (X : Cx) (e : Expr) (t : TBD) : Prop := PT X e (liftT X.K t)
abbrev QA (X : Cx) (es : List Expr) (t : TAD) : Prop := PA X es (liftA X.K t)
abbrev R2D := D → D → Sto → DK → Prop
def liftR2 (K : PySem.W.Frag) (r : R2D) : R2 := fun x y H Q => ∃ a b S Qd, Rep K H a x ∧ Rep K H b y ∧ StoOk K H S ∧ r a b S Qd ∧ Lv K H Qd Q
abbrev RLD := List D → Sto → DK → Prop
def liftRL (K : PySem.W.Frag) (r : RLD) : List V → Hp → VK → Prop := fun xs H Q => ∃ ds S Qd, Reps K H ds xs ∧ StoOk K H S ∧ r ds S Qd ∧ Lv K H Qd Q
theorem Lv.keep {K : PySem.W.Frag} {H H' : Hp} {Qd : DK} {Q : VK} (l : Lv K H Qd Q) (k : Keep H H') : Lv K H' Qd Q := fun d S' v H2 q k2 r s => l d S' v H2 q (k.trans k2) r s
section
variable {X : Cx} {a b c : Expr} {ta tb tc : TD} {pos : Pos}
theorem q_bin {op : Operator} {r : R2D} (ho : OpR X (binaryOp op) (liftR2 X.K r)) (ha : QE X a ta) (hb : QE X b tb) :
    QE X (.BinOp a op b pos) (fun env S Q => ta env S fun x S1 => tb env S1 fun y S2 => r x y S2 Q) :=
  (pe_op ho ha hb).weak fun σ H Q ⟨env, S, Qd, re, so, h, l⟩ =>
    ⟨env, S, _, re, so, h, fun x S1 v H1 h1 k1 r1 s1 => ⟨env, S1, _, re.mono k1, s1, h1, fun y S2 u H2 h2 k2 r2 s2 =>
      ⟨x, y, S2, Qd, r1.mono k2, r2, s2, h2, l.keep (k1.trans k2)⟩⟩⟩
theorem q_cmp {op : CmpOp} {r : R2D} (ho : OpR X (compareOp op) (liftR2 X.K r)) (ha : QE X a ta) (hb : QE X b tb) (hm : behindInMarks op b = false) :
    QE X (.Compare a [op] [b] pos) (fun env S Q => ta env S fun x S1 => tb env S1 fun y S2 => r x y S2 Q) :=
  (pe_cmpR ho ha hb hm).weak fun σ H Q ⟨env, S, Qd, re, so, h, l⟩ =>
    ⟨env, S, _, re, so, h, fun x S1 v H1 h1 k1 r1 s1 => ⟨env, S1, _, re.mono k1, s1, h1, fun y S2 u H2 h2 k2 r2 s2 =>
      ⟨x, y, S2, Qd, r1.mono k2, r2, s2, h2, l.keep (k1.trans k2)⟩⟩⟩
theorem q_nil : QA X [] (fun env S Q => Q [] S) := pa_nil.weak fun σ H Q ⟨env, S, Qd, re, so, h, l⟩ => l [] S [] H h .refl .nil so
theorem q_cons {e : Expr} {es : List Expr} {te : TD} {t : TAD} (he : QE X e te) (ht : QA X es t) (hs : starEach (e :: es) X.env = (false, eval e X.env) :: starEach es X.env) :
    QA X (e :: es) (fun env S Q => te env S fun x S1 => t env S1 fun xs S2 => Q (x :: xs) S2) :=
  (pa_cons he ht hs).weak fun σ H Q ⟨env, S, Qd, re, so, h, l⟩ =>
    ⟨env, S, _, re, so, h, fun x S1 v H1 h1 k1 r1 s1 => ⟨env, S1, _, re.mono k1, s1, h1, fun xs S2 vs H2 h2 k2 r2 s2 =>
      l (x :: xs) S2 (v :: vs) H2 h2 (k1.trans k2) (.cons (r1.mono k2) r2) s2⟩⟩
theorem q_var {i : Nat} {x : Str} (hN : X.N[i]? = some x) (hv : Vis X.env.scope x) (hd : (x == ("__debug__" : Str)) = false) (hcd : (x == ("__classdict__" : Str)) = false) :
    QE X (.Name x pos) (fun env S Q => ∃ d, env[i]? = some (some d) ∧ Q d S) :=
  (pe_var hN hv hd hcd).weak fun σ H Q ⟨env, S, Qd, re, so, ⟨d, e, h⟩, l⟩ => let ⟨v, e2, r⟩ := re.2 i d e; ⟨v, e2, l d S v H h .refl r so⟩
theorem q_con {d : D} {v : V} {e : Expr} (h : PE X e (tC v)) (hr : ∀ H, Rep X.K H d v) : QE X e (fun env S Q => Q d S) :=
  h.weak fun σ H Q ⟨env, S, Qd, re, so, h, l⟩ => l d S v H h .refl (hr H) so
end
end G57
set_option Elab.async false
set_option linter.all false
set_option maxRecDepth 100000
namespace G57
open PySem L2
theorem szl : sizeLine = 16777216 := by decide
theorem cps_app (x y : List Nat) : (⟨x.toArray⟩ : Str) ++ ⟨y.toArray⟩ = ⟨(x ++ y).toArray⟩ := by
  show Str.append _ _ = _
  unfold Str.append
  simp
theorem str_len (x : List Nat) : (⟨x.toArray⟩ : Str).length = x.length := by
  unfold Str.length
  simp
theorem Rep.tup_inv {K : PySem.W.Frag} {H : Hp} {ds : List D} {v : V} (h : Rep K H (.tup ds) v) : ∃ a vs, v = .ref a ∧ SqT K H a vs ∧ Reps K H ds vs := by
  simpa only [Rep] using h
theorem Rep.rol_inv {K : PySem.W.Frag} {H : Hp} {ds : List D} {v : V} (h : Rep K H (.rol ds) v) : ∃ a vs, v = .ref a ∧ SqF K H a vs ∧ Reps K H ds vs := by
  simpa only [Rep] using h
theorem Rep.obj_inv {K : PySem.W.Frag} {H : Hp} {c : Nat} {d : D} {v : V} (h : Rep K H (.obj c d) v) : ∃ a C dx u, v = .ref a ∧ ClsAt K c C ∧ H a = some (.ins C dx [("runs", u)]) ∧ Rep K H d u := by
  simpa only [Rep] using h
theorem Rep.tup_mk {K : PySem.W.Frag} {H : Hp} {ds : List D} {a : Addr} {vs : List V} (h : SqT K H a vs) (r : Reps K H ds vs) : Rep K H (.tup ds) (.ref a) := by
  simp only [Rep]; exact ⟨a, vs, rfl, h, r⟩
theorem Rep.int {K : PySem.W.Frag} {H : Hp} {i : Int} : Rep K H (.int i) (.int i) := by simp only [Rep]
theorem Rep.bl {K : PySem.W.Frag} {H : Hp} {i : Bool} : Rep K H (.bl i) (.bl i) := by simp only [Rep]
theorem Rep.non {K : PySem.W.Frag} {H : Hp} : Rep K H .non .non := by simp only [Rep]
theorem Rep.str {K : PySem.W.Frag} {H : Hp} {x : List Nat} : Rep K H (.str x) (.str ⟨x.toArray⟩) := by simp only [Rep]
theorem Rep.ref {K : PySem.W.Frag} {H : Hp} {a : Addr} : Rep K H (.ref a) (.ref a) := by simp only [Rep]
theorem Lv.tup {K : PySem.W.Frag} {H : Hp} {Qd : DK} {Q : VK} {S : Sto} {ds : List D} {vs : List V} (l : Lv K H Qd Q) (so : StoOk K H S) (h : Qd (.tup ds) S) (r : Reps K H ds vs) (p : Addr) (hp : H p = none) : Q (.ref p) (upd H p (.tup vs)) :=
  l (.tup ds) S (.ref p) _ h (Keep.new hp) (.tup_mk (.inl (.inl upd_same)) (r.mono (Keep.new hp))) (so.new hp)
theorem Lv.lst {K : PySem.W.Frag} {H : Hp} {Qd : DK} {Q : VK} {S : Sto} {ds : List D} {vs : List V} (l : Lv K H Qd Q) (so : StoOk K H S) (h : ∀ p, S p = none → Qd (.ref p) (put S p (.lst ds))) (r : Reps K H ds vs) (p : Addr) (hp : H p = none) : Q (.ref p) (upd H p (.lst vs)) :=
  l (.ref p) _ (.ref p) _ (h p (so.fresh hp)) (Keep.new hp) .ref (so.newL hp r)
def addD : R2D
  | .int i, .int j, S, Q => Q (.int (i + j)) S
  | .str x, .str y, S, Q => x.length + y.length ≤ 16777216 ∧ Q (.str (x ++ y)) S
  | .tup x, .tup y, S, Q => x.length + y.length ≤ 16777216 ∧ Q (.tup (x ++ y)) S
  | .ref p, .ref q, S, Q => ∃ xs ys, S p = some (.lst xs) ∧ S q = some (.lst ys) ∧ xs.length + ys.length ≤ 16777216 ∧ ∀ r, S r = none → Q (.ref r) (put S r (.lst (xs ++ ys)))
  | _, _, _, _ => False
def subD : R2D
  | .int i, .int j, S, Q => Q (.int (i - j)) S
  | _, _, _, _ => False
def mulD : R2D
  | .int i, .int j, S, Q => CMulW i j ∧ Q (.int (i * j)) S
  | .str x, .int j, S, Q => j < 2 ^ 40 ∧ -(2 ^ 40) < j ∧ x.length * j.toNat ≤ 16777216 ∧ Q (.str (List.replicate j.toNat x).flatten) S
  | .tup x, .int j, S, Q => j ≤ 1000 ∧ -1000 ≤ j ∧ x.length ≤ 1000 ∧ Q (.tup (List.replicate j.toNat x).flatten) S
  | .ref p, .int j, S, Q => ∃ xs, S p = some (.lst xs) ∧ j < 2 ^ 40 ∧ -(2 ^ 40) < j ∧ xs.length * j.toNat ≤ 16777216 ∧ ∀ r, S r = none → Q (.ref r) (put S r (.lst (List.replicate j.toNat xs).flatten))
  | _, _, _, _ => False
def fdivD : R2D
  | .int i, .int j, S, Q => 0 < j ∧ j < 2 ^ 8000 ∧ Q (.int (i / j)) S
  | _, _, _, _ => False
def modD : R2D
  | .int i, .int j, S, Q => 0 < j ∧ Q (.int (i % j)) S
  | _, _, _, _ => False
def powD : R2D
  | .int i, .int j, S, Q => CPow i j ∧ Q (.int (i ^ j.toNat)) S
  | _, _, _, _ => False
section
variable {X : Cx}
theorem addD_ok : OpR X (binaryOp .Add) (liftR2 X.K addD) := by
  intro pins s σ H x y v u Q I rx ry ⟨a, b, S, Qd, ra, rb, so, h, l⟩
  cases a <;> cases b <;> try exact h.elim
  case int.int i j =>
    simp only [Rep] at ra rb
    exact op_add pins s σ H x y v u Q I rx ry ⟨i, j, ra, rb, l _ S _ H h .refl .int so⟩
  case str.str i j =>
    simp only [Rep] at ra rb
    obtain ⟨h1, h2⟩ := h
    refine op_add_str pins s σ H x y v u Q I rx ry ⟨_, _, ra, rb, by rw [str_len, str_len, szl]; exact h1, ?_⟩
    rw [cps_app]
    exact l _ S _ H h2 .refl .str so
  case tup.tup ds es =>
    obtain ⟨p, ps, rfl, hp, rp⟩ := ra.tup_inv
    obtain ⟨q, qs, rfl, hq, rq⟩ := rb.tup_inv
    obtain ⟨h1, h2⟩ := h
    refine op_catA pins s σ H _ _ v u Q I rx ry ⟨p, q, ps, qs, rfl, rfl, hp, hq, by rw [← rp.length, ← rq.length, szl]; exact h1, fun e => ?_, fun e e2 => ?_, fun e e2 r hr => ?_⟩
    · have e' : ds = [] := List.eq_nil_of_length_eq_zero (by rw [rp.length, e]; rfl)
      subst e'
      exact l _ S _ H h2 .refl rb so
    · have e' : es = [] := List.eq_nil_of_length_eq_zero (by rw [rq.length, e2]; rfl)
      subst e'
      rw [List.append_nil] at h2
      exact l _ S _ H h2 .refl ra so
    · exact l.tup so h2 (rp.append rq) r hr
  case ref.ref p q =>
    simp only [Rep] at ra rb
    obtain ⟨xs, ys, e1, e2, hz, h⟩ := h
    obtain ⟨vs, f1, r1⟩ := so p _ e1
    obtain ⟨us, f2, r2⟩ := so q _ e2
    exact op_cat pins s σ H x y v u Q I rx ry ⟨p, q, vs, us, ra, rb, f1, f2, by rw [← r1.length, ← r2.length, szl]; exact hz, fun r hr => l.lst so h (r1.append r2) r hr⟩
theorem subD_ok : OpR X (binaryOp .Sub) (liftR2 X.K subD) := by
  intro pins s σ H x y v u Q I rx ry ⟨a, b, S, Qd, ra, rb, so, h, l⟩
  cases a <;> cases b <;> try exact h.elim
  case int.int i j =>
    simp only [Rep] at ra rb
    exact op_sub pins s σ H x y v u Q I rx ry ⟨i, j, ra, rb, l _ S _ H h .refl .int so⟩
theorem modD_ok : OpR X (binaryOp .Mod) (liftR2 X.K modD) := by
  intro pins s σ H x y v u Q I rx ry ⟨a, b, S, Qd, ra, rb, so, h, l⟩
  cases a <;> cases b <;> try exact h.elim
  case int.int i j =>
    simp only [Rep] at ra rb
    obtain ⟨h1, h2⟩ := h
    refine op_modN pins s σ H x y v u Q I rx ry ⟨i, j, ra, rb, by show j ≠ 0; omega, ?_⟩
    show Q (.int (i.fmod j)) H
    rw [Int.fmod_eq_emod_of_nonneg i (by omega)]
    exact l _ S _ H h2 .refl .int so
theorem fdivD_ok : OpR X (binaryOp .FloorDiv) (liftR2 X.K fdivD) := by
  intro pins s σ H x y v u Q I rx ry ⟨a, b, S, Qd, ra, rb, so, h, l⟩
  cases a <;> cases b <;> try exact h.elim
  case int.int i j =>
    simp only [Rep] at ra rb
    obtain ⟨h1, h2, h3⟩ := h
    refine op_fdivW pins s σ H x y v u Q I rx ry ⟨i, j, ra, rb, wide_div (b := 8000) h1 ?_ (by decide) (by decide), l _ S _ H h3 .refl .int so⟩
    have e : ((j.natAbs : Nat) : Int) = j := by omega
    have e2 : ((j.natAbs : Nat) : Int) < ((2 ^ 8000 : Nat) : Int) := by
      rw [e, Int.natCast_pow]
      exact h2
    exact Int.ofNat_lt.mp e2
theorem powD_ok : OpR X (binaryOp .Pow) (liftR2 X.K powD) := by
  intro pins s σ H x y v u Q I rx ry ⟨a, b, S, Qd, ra, rb, so, h, l⟩
  cases a <;> cases b <;> try exact h.elim
  case int.int i j =>
    simp only [Rep] at ra rb
    obtain ⟨h1, h2⟩ := h
    exact op_pow pins s σ H x y v u Q I rx ry ⟨i, j, ra, rb, h1, l _ S _ H h2 .refl .int so⟩
end
end G57
set_option Elab.async false
set_option linter.all false
set_option maxRecDepth 100000
set_option maxHeartbeats 4000000
namespace G57
open PySem L2 PySem.Spec PyProof.Rows
theorem tupMul_same (l : Addr) (its : Array Value) (n : Nat) (dd : Option Addr) (sl : Array (Option Value)) (x : Int) (u : Tok)
    (c0 : (decide (x < -(2 ^ 63)) || decide (x ≥ 2 ^ 63)) = false) (c1 : (its.isEmpty || x == 1) = true) :
    Meets (Builtin.«tuple.__mul__» ⟨[.ref l, .int x u], []⟩) (fun _ R s =>
      s.heap.get? l = some { cls := .type "tuple", dict := dd, data := .seq its n, slots := sl } ∧ R (.ok (.ret (.ref l))) s) :=
  .of_wp fun prog w A R s h => by
    obtain ⟨hp, g, d, tk, os⟩ := s
    obtain ⟨hl, h⟩ := h
    have f1 := AutoSeq1.idx_int
    wp_walk using wpAny_loadPart' hl
    repeat (first
      | exact ⟨_, rfl, h⟩
      | (refine wpAny_ite_false (decide_eq_false (by rw [c0]; simp)) ?_; wp_walk using wpAny_loadPart' hl)
      | (refine wpAny_ite_true (decide_eq_true c1) ?_; wp_walk using wpAny_loadPart' hl))
theorem tupMul_none (l : Addr) (its : Array Value) (n : Nat) (dd : Option Addr) (sl : Array (Option Value)) (x : Int) (u : Tok)
    (c0 : (decide (x < -(2 ^ 63)) || decide (x ≥ 2 ^ 63)) = false) (c1 : (its.isEmpty || x == 1) = false) (c2 : (decide (x ≤ 0) || its.isEmpty) = true) :
    Meets (Builtin.«tuple.__mul__» ⟨[.ref l, .int x u], []⟩) (fun _ R s =>
      s.heap.get? l = some { cls := .type "tuple", dict := dd, data := .seq its n, slots := sl } ∧
      R (.ok (.ret (Value.ref s.heap.objs.size))) { s with heap := s.heap.push { cls := Value.type "tuple", data := Data.seq #[] }, toks := s.toks }) :=
  .of_wp fun prog w A R s h => by
    obtain ⟨hp, g, d, tk, os⟩ := s
    obtain ⟨hl, h⟩ := h
    have f1 := AutoSeq1.idx_int
    wp_walk using wpAny_loadPart' hl
    repeat (first
      | exact ⟨_, rfl, h⟩
      | (refine wpAny_ite_false (decide_eq_false (by rw [c0]; simp)) ?_; wp_walk using wpAny_loadPart' hl)
      | (refine wpAny_ite_false (decide_eq_false (by rw [c1]; simp)) ?_; wp_walk using wpAny_loadPart' hl)
      | (refine wpAny_ite_true (decide_eq_true c2) ?_; wp_walk using wpAny_loadPart' hl))
section
variable {X : Cx}
theorem foldl_reps (x : List Nat) : ∀ (m : Nat) (acc : List Nat), (List.replicate m x.toArray).foldl (· ++ ·) acc.toArray = (acc ++ (List.replicate m x).flatten).toArray
  | 0, acc => by simp
  | m + 1, acc => by
    rw [List.replicate_succ, List.foldl_cons, List.replicate_succ, List.flatten_cons]
    rw [List.append_toArray, foldl_reps x m (acc ++ x), List.append_assoc]
theorem len_rep (x : List α) (m : Nat) : (List.replicate m x).flatten.length = m * x.length := by
  induction m with
  | zero => simp
  | succ m ih => rw [List.replicate_succ, List.flatten_cons, List.length_append, ih, Nat.succ_mul]; omega
theorem mulD_ok : OpR X (binaryOp .Mult) (liftR2 X.K mulD) := by
  intro pins s σ H x y v u Q I rx ry ⟨a, b, S, Qd, ra, rb, so, h, l⟩
  cases a <;> cases b <;> try exact h.elim
  case int.int i j =>
    simp only [Rep] at ra rb
    obtain ⟨h1, h2⟩ := h
    exact op_mulW pins s σ H x y v u Q I rx ry ⟨i, j, ra, rb, h1, l _ S _ H h2 .refl .int so⟩
  case str.int z j =>
    simp only [Rep] at ra rb
    subst ra rb
    obtain ⟨t, rfl⟩ := rx
    obtain ⟨t', rfl⟩ := ry
    obtain ⟨h1, h2, h3, h4⟩ := h
    have fin : ∀ tk tk', EP X pins σ Q (.str ⟨((List.replicate j.toNat z).flatten).toArray⟩ tk) { s with toks := tk' } := fun tk tk' => ⟨.str ⟨((List.replicate j.toNat z).flatten).toArray⟩, H, I.tok tk', ⟨tk, rfl⟩, l _ S _ H h4 .refl .str so⟩
    have fin0 : ∀ tk, EP X pins σ Q (.str ⟨((List.replicate j.toNat z).flatten).toArray⟩ tk) s := fun tk => ⟨.str ⟨((List.replicate j.toNat z).flatten).toArray⟩, H, I, ⟨tk, rfl⟩, l _ S _ H h4 .refl .str so⟩
    refine P.mul_str (by rw [decide_eq_false (by omega), decide_eq_false (by omega)]; rfl) (fun q1 q2 => ?_) (fun q1 q2 => ?_) ?_
    · rw [str_len]
      have : (z.length : Int) * j ≤ 16777216 := by
        have e : j = (j.toNat : Int) := by omega
        rw [e, ← Int.natCast_mul]
        exact Int.ofNat_le.mpr h3
      intro hq
      have h5 : (2 ^ 63 - 1) / j < (z.length : Int) := hq
      have h6 := Int.lt_mul_of_ediv_lt (by omega : (0 : Int) < j) h5
      omega
    · unfold Builtin.Str.tooLong
      rw [str_len]
      exact decide_eq_false (by rw [szl]; omega)
    · by_cases q1 : j < 1
      · rw [if_pos q1]
        refine ⟨by decide, ?_⟩
        have e : j.toNat = 0 := by omega
        have f := fin s.toks (s.toks + 1)
        rw [e] at f
        exact f
      · rw [if_neg q1]
        by_cases q2 : (j == 1 || (⟨z.toArray⟩ : Str).length == 0) = true
        · rw [if_pos q2]
          have f := fin0 t
          have e : (List.replicate j.toNat z).flatten = z := by
            rw [str_len] at q2
            rcases Bool.or_eq_true_iff.mp q2 with q | q
            · have e1 : j = 1 := by simpa using q
              subst e1; simp
            · have e1 : z = [] := by simpa using q
              subst e1; simp
          rw [e] at f
          exact f
        · rw [if_neg q2]
          refine ⟨?_, ?_⟩
          · have e := foldl_reps z j.toNat []
            rw [List.nil_append] at e
            show (⟨List.foldl _ _ (List.replicate j.toNat z.toArray)⟩ : Str).length ≤ sizeLine
            rw [show (#[] : Array Nat) = ([] : List Nat).toArray from rfl, e, str_len, len_rep, szl, Nat.mul_comm]
            exact h3
          · have e := foldl_reps z j.toNat []
            rw [List.nil_append] at e
            have f := fin s.toks (s.toks + 1)
            rw [← e] at f
            exact f
  case tup.int ds j =>
    obtain ⟨p, vs, rfl, hp, rp⟩ := ra.tup_inv
    simp only [Rep] at rb
    subst rb
    obtain ⟨h1, h2, h3, h4⟩ := h
    by_cases hj : vs ≠ [] ∧ 2 ≤ j
    · exact op_repT pins s σ H _ _ v u Q I rx ry ⟨p, j, vs, rfl, rfl, hp, hj.1, hj.2, h1, by rw [← rp.length]; exact h3, fun r hr => l.tup so h4 (rp.rep _) r hr⟩
    · cases rx
      obtain ⟨t, rfl⟩ := ry
      obtain ⟨its, r, ⟨⟨cls, dd, data, sl⟩, ho, hc, n, hd⟩, hs⟩ := I.tuple hp
      simp only at hc hd
      subst hc hd
      have c0 : (decide (j < -(2 ^ 63)) || decide (j ≥ 2 ^ 63)) = false := by
        rw [decide_eq_false (by omega), decide_eq_false (by omega)] <;> rfl
      by_cases c1 : (its.toArray.isEmpty || j == 1) = true
      · have e : (List.replicate j.toNat ds).flatten = ds := by
          rcases Bool.or_eq_true_iff.mp c1 with q | q
          · have e1 : its = [] := by simpa using q
            have e2 : ds = [] := List.eq_nil_of_length_eq_zero (by rw [rp.length, r.length, e1]; rfl)
            subst e2; simp
          · have e1 : j = 1 := by simpa using q
            subst e1; simp
        rw [e] at h4
        exact wpAny_binaryOp_repeat_ref (T := "tuple") (U := "int") (by decide) ⟨_, ho, rfl⟩ (fun s' => typeIs_int s' j t) noFill_tuple_mul F.fills_int_mul F.slot_int_rmul repeat_tuple F.slot_int_index.lookup
          (call_meets F.slot_int_rmul (typeIs_int s j t) F.entry_int_rmul (F.args_int_rmul_2 _ _) (int_rmul_tuple j t p its.toArray n dd sl)
          ⟨ho, rfl, ⟨_, ho, rfl⟩, call_meets F.slot_tuple_mul ⟨_, ho, rfl⟩ F.entry_tuple_mul (F.args_tuple_mul_2 _ _) (tupMul_same p its.toArray n dd sl j t c0 c1)
            ⟨ho, ⟨.ref p, H, I, rfl, l _ S _ H h4 .refl ra so⟩⟩⟩)
      · have c1' := Bool.eq_false_iff.mpr c1
        have jz : j ≤ 0 := by
          by_cases hv : vs ≠ []
          · have h5 : ¬ 2 ≤ j := fun z => hj ⟨hv, z⟩
            have h6 : j ≠ 1 := fun z => c1 (by rw [z]; simp)
            omega
          · have e0 : vs = [] := Classical.not_not.mp hv
            have e1 : its = [] := List.eq_nil_of_length_eq_zero (by rw [← r.length, e0]; rfl)
            exact absurd (by rw [e1]; rfl) c1
        have e : j.toNat = 0 := by omega
        rw [e, List.replicate_zero, List.flatten_nil] at h4
        refine wpAny_binaryOp_repeat_ref (T := "tuple") (U := "int") (by decide) ⟨_, ho, rfl⟩ (fun s' => typeIs_int s' j t) noFill_tuple_mul F.fills_int_mul F.slot_int_rmul repeat_tuple F.slot_int_index.lookup
          (call_meets F.slot_int_rmul (typeIs_int s j t) F.entry_int_rmul (F.args_int_rmul_2 _ _) (int_rmul_tuple j t p its.toArray n dd sl)
          ⟨ho, rfl, ⟨_, ho, rfl⟩, call_meets F.slot_tuple_mul ⟨_, ho, rfl⟩ F.entry_tuple_mul (F.args_tuple_mul_2 _ _) (tupMul_none p its.toArray n dd sl j t c0 c1' (by rw [decide_eq_true jz]; rfl)) ⟨ho, ?_⟩⟩)
        have hf : H s.heap.objs.size = none := I.hok.fresh (Nat.le_refl _)
        refine ⟨.ref s.heap.objs.size, _, I.laid (t' := s.toks) (o := .tup []) (fun b ob q => Heap.get?_push_of_some _ q) (Nat.le_refl _) ?_, rfl, l.tup so h4 .nil _ hf⟩
        exact ⟨by simp, [], .nil, IsTup.new _ _⟩
  case ref.int p j =>
    simp only [Rep] at ra rb
    obtain ⟨xs, e1, h1, h2, hz, h⟩ := h
    obtain ⟨vs, f1, r1⟩ := so p _ e1
    exact op_rep pins s σ H x y v u Q I rx ry ⟨p, j, vs, ra, rb, f1, by omega, by omega, by rw [← r1.length, szl]; exact hz, fun r hr => l.lst so h (r1.rep _) r hr⟩
end
end G57
set_option Elab.async false
set_option linter.all false
set_option maxRecDepth 100000
namespace G57
open PySem L2 PySem.Spec PyProof.Rows
section
variable {prog : Program} {w : World} {A : Around} {E : Value → Shared → Prop} {s : Shared} {K : PySem.W.Frag}
theorem over_mid {M : Model} {a : Int} {Q : Option Nat → Shared → Prop} (hb : a.natAbs.log2 < 12900) (X : K.In s.heap) (e : PySem.W.nsIn K cStatics "sys.int_max_str_digits" = some none) (h : Q none s) : wpAny M A (Builtin.overDigitLimit? a) Q E s := by
  unfold Builtin.overDigitLimit?
  by_cases h1 : a.natAbs.log2 < 1920
  · rw [if_pos h1]; exact wpAny_pure h
  · rw [if_neg h1]
    unfold Builtin.intMaxStrDigits
    refine wpAny_bind (m := (nsGet cStatics (Str.ofString "sys.int_max_str_digits") >>= _)) (wpAny_bind ((PySem.W.looks_nsIn X e).here ?_))
    refine wpAny_pure ?_
    show wpAny M A (if a.natAbs.log2 / 30 + 1 > 1000 then _ else _) Q E s
    rw [if_neg (by omega)]
    show wpAny M A (if (4300 == 0 || decide (a.natAbs.log2 < 3 * 4300)) = true then _ else _) Q E s
    rw [if_pos (by simp; omega)]
    exact wpAny_pure h
theorem fits_mid {a : Int} (hb : a.natAbs.log2 < 12900) : (Str.ofString (toString a)).length ≤ sizeLine := by
  have := int_text_length_le (k := 12900) (by decide) hb
  rw [PySem.ofString_length, sizeLine_eq]; omega
theorem pyReprObj_mid {a : Int} {t : Tok} {Q : Value → Shared → Prop} (hb : a.natAbs.log2 < 12900) (X : K.In s.heap) (e : PySem.W.nsIn K cStatics "sys.int_max_str_digits" = some none)
    (h : Q (.str (toString a) s.toks) { s with toks := s.toks + 1 }) : wpAny (model prog w) A (pyReprObj (.int a t)) Q E s := by
  unfold pyReprObj
  have hv : [Value.int a t].any Value.onHeap = false := rfl
  simp only [cRoomFor, hv, Bool.false_eq_true, if_false, pure_bind]
  refine wpAny_bind (wpAny_specialOf (name := Str.ofString "__repr__") (typeIs_int s a t) F.slot_int_repr.lookup ?_)
  refine wpAny_bind (m := callSpecialIfBound? (.int a t) (Str.ofString "__repr__")) (wpAny_callSpecialIfBound?_slot (name := Str.ofString "__repr__") (typeIs_int s a t) F.slot_int_repr
    (wpAny_call (codeAny_call_builtin F.slot_int_repr.plain F.entry_int_repr (F.slot_int_repr.check _ _ _ _ _ _ _ _ (typeIs_int s a t) (F.args_int_repr_1 _) ?_))))
  unfold Builtin.«int.__repr__»
  show wpAny _ _ (do let r ← Builtin.overDigitLimit? a; _) _ _ _
  refine wpAny_bind (over_mid hb X e ?_)
  refine wpAny_bind (wpAny_mkStr ?_ (fits_mid hb))
  refine wpAny_pure ?_
  exact wpAny_bind (wpAny_isInstance (T := "str") (b := true) rfl isSubtype_str_str (wpAny_pure h))
theorem ReprK_mid {h₀ : Heap} {a : Int} {t : Tok} (hb : a.natAbs.log2 < 12900) (X : K.In h₀) (e : PySem.W.nsIn K cStatics "sys.int_max_str_digits" = some none) (as : List Addr) (d : Nat) : ReprK prog w as h₀ d (.int a t) (toString a) := fun base hz A g E s Q _ _ _ hk hQ => by
  have hn' : base ≤ sizeLine := by omega
  rw [pyReprUnder_leaf (v := .int a t) hn' (fun _ e => nomatch e)]
  unfold pyRepr
  exact wpAny_bind (pyReprObj_mid hb (fun b o q => hk b o (X b o q)) e (wpAny_pure (hQ s.heap _ fun _ _ e => e)))
theorem repr_of_mid {a : Int} {t : Tok} {Q : Value → Shared → Prop} (hb : a.natAbs.log2 < 12900) (X : K.In s.heap) (e : PySem.W.nsIn K cStatics "sys.int_max_str_digits" = some none)
    (h : Q (.str (toString a) s.toks) { s with toks := s.toks + 1 }) : wpAny (model prog w) A (call (.builtin "repr") [.int a t]) Q E s := by
  refine Calls.call_function_entry F.kind_repr F.plain_repr F.entry_repr (F.args_repr1 _) ?_
  unfold Builtin.«repr»
  refine wpAny_bind (m := oneArg "repr" _) (wpAny_pure ?_)
  have hv : [Value.int a t].any Value.onHeap = false := rfl
  simp only [cRoomFor, hv, Bool.false_eq_true, if_false, pure_bind]
  refine wpAny_bind (wpAny_specialOf (name := Str.ofString "__repr__") (typeIs_int s a t) F.slot_int_repr.lookup ?_)
  refine wpAny_bind (m := callSpecialIfBound? (.int a t) (Str.ofString "__repr__")) (wpAny_callSpecialIfBound?_slot (name := Str.ofString "__repr__") (typeIs_int s a t) F.slot_int_repr
    (wpAny_call (codeAny_call_builtin F.slot_int_repr.plain F.entry_int_repr (F.slot_int_repr.check _ _ _ _ _ _ _ _ (typeIs_int s a t) (F.args_int_repr_1 _) ?_))))
  unfold Builtin.«int.__repr__»
  show wpAny _ _ (do let r ← Builtin.overDigitLimit? a; _) _ _ _
  refine wpAny_bind (over_mid hb X e ?_)
  refine wpAny_bind (wpAny_mkStr ?_ (fits_mid hb))
  refine wpAny_pure ?_
  exact wpAny_bind (wpAny_isInstance (T := "str") (b := true) rfl isSubtype_str_str (wpAny_pure ⟨_, rfl, h⟩))
end
mutual
def midP : PyData → Bool
  | .none | .bool _ | .str _ => true
  | .int i => decide (i.natAbs.log2 < 12900)
  | .tuple xs | .list xs => midPs xs
  | _ => false
def midPs : List PyData → Bool
  | [] => true
  | x :: xs => midP x && midPs xs
end
section
variable {prog : Program} {w : World} {K : PySem.W.Frag} {h₀ : Heap}
mutual
theorem reprK_mids (X : K.In h₀) (e : PySem.W.nsIn K cStatics "sys.int_max_str_digits" = some none) : ∀ {v : Value} {d : PyData} {as : List Addr}, Reads h₀ v d as → midP d = true → d.shown.length ≤ sizeLine → ∃ bs, ReadAtMost h₀ d.depth bs ∧ ReprK prog w bs h₀ d.depth v d.shown
  | _, _, _, .none, _, _ => ⟨[], (fun _ h => nomatch h), by simp only [PyData.shown]; exact .of_is ReprIs.none _ _ _⟩
  | _, _, _, .bool b, _, _ => ⟨[], (fun _ h => nomatch h), by simp only [PyData.shown]; exact .of_is (ReprIs.bool b) _ _ _⟩
  | _, _, _, .int i t, hs, _ => ⟨[], (fun _ h => nomatch h), by simp only [PyData.shown]; exact ReprK_mid (by simpa [midP] using hs) X e _ _⟩
  | _, _, _, .str x t, _, hz => ⟨[], (fun _ h => nomatch h), by simp only [PyData.shown]; exact .of_is (ReprIs.str x t (by simpa only [PyData.shown] using hz)) _ _ _⟩
  | _, _, _, .dict _ _ _ _ _, hs, _ => by simp [midP] at hs
  | _, _, _, .list (a := a) (vs := vs) (xs := xs) h1 h2 h3 h4, hs, hz => by
    have hz' : (listText (PyData.shownAll xs)).length ≤ sizeLine := by simpa only [PyData.shown] using hz
    obtain ⟨bs, hb, hk⟩ := reprAllK_mids X e h4 (by simpa only [midP] using hs) (fun t ht => Nat.le_trans (listText_mem_le ht) hz')
    have r : Reads h₀ (.ref a) (.list xs) _ := .list h1 h2 h3 h4
    have hna : a ∉ bs := not_mem_of_deeper r (by simp only [PyData.depth]; omega) hb
    refine ⟨a :: bs, ReadAtMost.cons r (by simp only [PyData.depth]; omega) hb, ?_⟩
    simp only [PyData.depth, PyData.shown]
    obtain ⟨l⟩ := vs
    cases l with
    | nil =>
      have h4' : ReadsAll h₀ [] xs _ := h4
      cases h4'
      simp only [PyData.shownAll, listText_nil]
      exact ReprK.listEmpty h1 h2 h3
    | cons x l => exact ReprK.list h1 h2 h3 hna (by simpa using hk.length_eq) (fun i y q => hk.item i y (by simpa using q))
  | _, _, _, .tuple (a := a) (xs := xs) h1 h2 h3 h4, hs, hz => by
    have hz' : (tupleText (PyData.shownAll xs)).length ≤ sizeLine := by simpa only [PyData.shown] using hz
    obtain ⟨bs, hb, hk⟩ := reprAllK_mids X e h4 (by simpa only [midP] using hs) (fun t ht => Nat.le_trans (tupleText_mem_le ht) hz')
    have r : Reads h₀ (.ref a) (.tuple xs) _ := .tuple h1 h2 h3 h4
    have hna : a ∉ bs := not_mem_of_deeper r (by simp only [PyData.depth]; omega) hb
    refine ⟨a :: bs, ReadAtMost.cons r (by simp only [PyData.depth]; omega) hb, ?_⟩
    simp only [PyData.depth, PyData.shown]
    exact ReprK.tuple h1 h2 h3 hna hk
theorem reprAllK_mids (X : K.In h₀) (e : PySem.W.nsIn K cStatics "sys.int_max_str_digits" = some none) : ∀ {vs : List Value} {ds : List PyData} {as : List Addr}, ReadsAll h₀ vs ds as → midPs ds = true → (∀ t ∈ PyData.shownAll ds, t.length ≤ sizeLine) →
    ∃ bs, ReadAtMost h₀ (PyData.depthAll ds) bs ∧ ReprAllK prog w bs h₀ (PyData.depthAll ds) vs (PyData.shownAll ds)
  | _, _, _, .nil, _, _ => ⟨[], (fun _ h => nomatch h), by simp only [PyData.shownAll]; exact .nil⟩
  | _, _, _, .cons (d := d) (ds := ds) r rs, hs, hz => by
    simp only [midPs, Bool.and_eq_true] at hs
    obtain ⟨b1, hb1, k1⟩ := reprK_mids X e r hs.1 (hz _ (by simp only [PyData.shownAll]; exact List.mem_cons_self ..))
    obtain ⟨b2, hb2, k2⟩ := reprAllK_mids X e rs hs.2 (fun t ht => hz t (by simp only [PyData.shownAll]; exact List.mem_cons_of_mem _ ht))
    refine ⟨b1 ++ b2, ?_, ?_⟩
    · simp only [PyData.depthAll]
      exact (hb1.mono (Nat.le_max_left _ _)).append (hb2.mono (Nat.le_max_right _ _))
    · simp only [PyData.depthAll, PyData.shownAll]
      exact .cons ((k1.more fun b hb => List.mem_append_left _ hb).level_le (Nat.le_max_left _ _)) (k2.more_le (fun b hb => List.mem_append_right _ hb) (Nat.le_max_right _ _))
end
theorem repr_reads_mid (X : K.In h₀) (e : PySem.W.nsIn K cStatics "sys.int_max_str_digits" = some none) {a : Addr} {d : PyData} {as : List Addr} (r : Reads h₀ (.ref a) d as) (hs : midP d = true) (hz : d.shown.length ≤ sizeLine)
    {A : Around} {E : Value → Shared → Prop} {s : Shared} {Q : Value → Shared → Prop} (hg : A.guards = some []) (hu : A.units + (d.depth + 1) < cLine) (hk0 : ∀ b o, h₀.get? b = some o → s.heap.get? b = some o)
    (hQ : ∀ h' u tk, (∀ b o, s.heap.get? b = some o → h'.get? b = some o) → Q (.str d.shown u) { s with heap := h', toks := tk }) : wpAny (model prog w) A (call (.builtin "repr") [.ref a]) Q E s := by
  cases r with
  | list h1 h2 h3 h4 =>
    rename_i o vs n xs bs₀
    have hz' : (listText (PyData.shownAll xs)).length ≤ sizeLine := by simpa only [PyData.shown] using hz
    obtain ⟨bs, hb, hk⟩ := reprAllK_mids (prog := prog) (w := w) X e h4 (by simpa only [midP] using hs) (fun t ht => Nat.le_trans (listText_mem_le ht) hz')
    have hna : a ∉ bs := not_mem_of_deeper (.list h1 h2 h3 h4) (by simp only [PyData.depth]; omega) hb
    simp only [PyData.depth] at hu
    simp only [PyData.shown] at hQ
    refine call_repr_slot (by omega) ⟨o, hk0 _ _ h1, h2⟩ F.slot_list_repr.toG ?_
    obtain ⟨l⟩ := vs
    cases l with
    | nil =>
      have h4' : ReadsAll h₀ [] xs _ := h4
      cases h4'
      simp only [PyData.shownAll, listText_nil] at hQ
      exact call_list_repr_empty ⟨o, hk0 _ _ h1, h2⟩ (hk0 _ _ h1) h3 ⟨_, _, rfl, hQ s.heap _ _ fun _ _ e => e⟩
    | cons x l =>
      exact call_list_reprK h1 h2 h3 hna (by simpa using hk.length_eq) (fun i y q => hk.item i y (by simpa using q)) hg (fun b _ => Clear.nil b) (by show A.units + 1 + _ < cLine; omega) hk0 (fun h' u tk hk => ⟨_, _, rfl, hQ h' u tk hk⟩) hz'
  | tuple h1 h2 h3 h4 =>
    rename_i o vs n xs
    have hz' : (tupleText (PyData.shownAll xs)).length ≤ sizeLine := by simpa only [PyData.shown] using hz
    obtain ⟨bs, hb, hk⟩ := reprAllK_mids (prog := prog) (w := w) X e h4 (by simpa only [midP] using hs) (fun t ht => Nat.le_trans (tupleText_mem_le ht) hz')
    have hna : a ∉ bs := not_mem_of_deeper (.tuple h1 h2 h3 h4) (by simp only [PyData.depth]; omega) hb
    simp only [PyData.depth] at hu
    simp only [PyData.shown] at hQ
    refine call_repr_slot (by omega) ⟨o, hk0 _ _ h1, h2⟩ F.slot_tuple_repr ?_
    exact call_tuple_reprK h1 h2 h3 hna hk hg (fun b _ => Clear.nil b) (by show A.units + 1 + _ < cLine; omega) hk0 (fun h' u tk hk => ⟨_, _, rfl, hQ h' u tk hk⟩) hz'
  | dict _ _ _ _ _ => simp [midP] at hs
end
end G57
set_option Elab.async false
set_option linter.all false
set_option maxRecDepth 100000
set_option maxHeartbeats 4000000
namespace G57
open PySem L2 PySem.Spec PyProof.Rows
mutual
def py : D → PyData
  | .non => .none
  | .bl b => .bool b
  | .int i => .int i
  | .str x => .str ⟨x.toArray⟩
  | .tup ds => .tuple (pys ds)
  | .rol ds => .list (pys ds)
  | .ref _ => .none
  | .obj _ _ => .none
def pys : List D → List PyData
  | [] => []
  | d :: ds => py d :: pys ds
end
mutual
def okD : Nat → D → Bool
  | _, .non | _, .bl _ | _, .int _ => true
  | _, .str x => x.all fun c => decide (c < 0x110000)
  | 0, .tup _ | 0, .rol _ => false
  | n + 1, .tup ds | n + 1, .rol ds => oksD n ds
  | _, .ref _ => false
  | _, .obj _ _ => false
def oksD : Nat → List D → Bool
  | _, [] => true
  | n, d :: ds => okD n d && oksD n ds
end
mutual
def shD : D → Bool
  | .int i => decide (i.natAbs < 2 ^ 12800)
  | .tup ds | .rol ds => shsD ds
  | _ => true
def shsD : List D → Bool
  | [] => true
  | d :: ds => shD d && shsD ds
end
def dn (S : Sto) : Nat → D → D
  | k + 1, .ref p => match S p with
    | some (.lst ds) => .rol (ds.map (dn S k))
    | none => .ref p
  | k + 1, .tup ds => .tup (ds.map (dn S k))
  | k + 1, .rol ds => .rol (ds.map (dn S k))
  | _, d => d
def shS (S : Sto) (d : D) : Bool := shD (dn S 41 d)
def pyS (S : Sto) (d : D) : PyData := py (dn S 41 d)
def okS (S : Sto) (d : D) : Bool := okD 41 (dn S 41 d)
mutual
theorem dp_of {K : PySem.W.Frag} {H : Hp} : ∀ (d : D) (n : Nat) (v : V), okD n d = true → Rep K H d v → Dp K H v (py d)
  | .non, _, v, _, r => by simp only [Rep] at r; subst r; simp only [py]; exact .non
  | .bl b, _, v, _, r => by simp only [Rep] at r; subst r; simp only [py]; exact .bl b
  | .int i, _, v, _, r => by simp only [Rep] at r; subst r; simp only [py]; exact .int i
  | .str x, _, v, _, r => by simp only [Rep] at r; subst r; simp only [py]; exact .str _
  | .tup ds, n, v, h, r => by
    obtain ⟨a, vs, rfl, q, r⟩ := r.tup_inv
    cases n with
    | zero => simp [okD] at h
    | succ n =>
      simp only [okD] at h
      simp only [py]
      exact .tup q (dps_of ds n vs h r)
  | .rol ds, n, v, h, r => by
    obtain ⟨a, vs, rfl, q, r⟩ := r.rol_inv
    cases n with
    | zero => simp [okD] at h
    | succ n =>
      simp only [okD] at h
      simp only [py]
      exact .lst q.sq (dps_of ds n vs h r)
  | .ref _, n, _, h, _ => by cases n <;> simp [okD] at h
  | .obj _ _, n, _, h, _ => by cases n <;> simp [okD] at h
theorem dps_of {K : PySem.W.Frag} {H : Hp} : ∀ (ds : List D) (n : Nat) (vs : List V), oksD n ds = true → Reps K H ds vs → DpAll K H vs (pys ds)
  | [], _, vs, _, r => by simp only [Reps] at r; subst r; simp only [pys]; exact .nil
  | d :: ds, n, v :: vs, h, r => by
    simp only [oksD, Bool.and_eq_true] at h
    simp only [pys]
    exact .cons (dp_of d n v h.1 r.inv.1) (dps_of ds n vs h.2 r.inv.2)
  | d :: ds, _, [], _, r => by simp only [Reps] at r; obtain ⟨_, _, e, _⟩ := r; cases e
end
theorem dps_map {K : PySem.W.Frag} {H : Hp} {f : D → D} {n : Nat} (hf : ∀ d v, okD n (f d) = true → Rep K H d v → Dp K H v (py (f d))) : ∀ (ds : List D) (vs : List V), oksD n (ds.map f) = true → Reps K H ds vs → DpAll K H vs (pys (ds.map f))
  | [], vs, _, r => by simp only [Reps] at r; subst r; simp only [List.map_nil, pys]; exact .nil
  | d :: ds, v :: vs, h, r => by
    simp only [List.map_cons, oksD, Bool.and_eq_true] at h
    simp only [List.map_cons, pys]
    exact .cons (hf d v h.1 r.inv.1) (dps_map hf ds vs h.2 r.inv.2)
  | d :: ds, [], _, r => by simp only [Reps] at r; obtain ⟨_, _, e, _⟩ := r; cases e
theorem dp_dn {K : PySem.W.Frag} {H : Hp} {S : Sto} (so : StoOk K H S) : ∀ (k n : Nat) (d : D) (v : V), okD n (dn S k d) = true → Rep K H d v → Dp K H v (py (dn S k d))
  | 0, n, d, v, h, r => by
    have e : dn S 0 d = d := by cases d <;> rfl
    rw [e] at h ⊢
    exact dp_of d n v h r
  | k + 1, n, .ref p, v, h, r => by
    simp only [Rep] at r
    subst r
    simp only [dn] at h ⊢
    cases e : S p with
    | none => rw [e] at h; cases n <;> simp [okD] at h
    | some o =>
      cases o with
      | lst ds =>
        rw [e] at h
        obtain ⟨vs, q, r⟩ := so p _ e
        cases n with
        | zero => simp [okD] at h
        | succ n =>
          simp only [okD] at h
          simp only [py]
          exact .lst (.inl (.inl q)) (dps_map (fun d v => dp_dn so k n d v) ds vs h r)
  | k + 1, n, .tup ds, v, h, r => by
    obtain ⟨a, vs, rfl, q, r⟩ := r.tup_inv
    simp only [dn] at h ⊢
    cases n with
    | zero => simp [okD] at h
    | succ n =>
      simp only [okD] at h
      simp only [py]
      exact .tup q (dps_map (fun d v => dp_dn so k n d v) ds vs h r)
  | k + 1, n, .rol ds, v, h, r => by
    obtain ⟨a, vs, rfl, q, r⟩ := r.rol_inv
    simp only [dn] at h ⊢
    cases n with
    | zero => simp [okD] at h
    | succ n =>
      simp only [okD] at h
      simp only [py]
      exact .lst q.sq (dps_map (fun d v => dp_dn so k n d v) ds vs h r)
  | k + 1, n, .non, v, h, r | k + 1, n, .bl _, v, h, r | k + 1, n, .int _, v, h, r | k + 1, n, .str _, v, h, r | k + 1, n, .obj _ _, v, h, r => dp_of _ n v h r
theorem dpS {K : PySem.W.Frag} {H : Hp} {S : Sto} (so : StoOk K H S) {d : D} {v : V} (h : okS S d = true) (r : Rep K H d v) : Dp K H v (pyS S d) := dp_dn so 41 41 d v h r
mutual
theorem dn_ok {S : Sto} : ∀ (d : D) (n k : Nat), okD n d = true → dn S k d = d
  | .ref _, n, k, h => by cases n <;> simp [okD] at h
  | .obj _ _, n, k, h => by cases n <;> simp [okD] at h
  | .non, n, k, _ | .bl _, n, k, _ | .int _, n, k, _ | .str _, n, k, _ => by cases k <;> rfl
  | .tup ds, 0, k, h | .rol ds, 0, k, h => by simp [okD] at h
  | .tup ds, n + 1, 0, h | .rol ds, n + 1, 0, h => rfl
  | .tup ds, n + 1, k + 1, h | .rol ds, n + 1, k + 1, h => by
    simp only [okD] at h
    simp only [dn, dns_ok ds n k h]
theorem dns_ok {S : Sto} : ∀ (ds : List D) (n k : Nat), oksD n ds = true → ds.map (dn S k) = ds
  | [], _, _, _ => rfl
  | d :: ds, n, k, h => by
    simp only [oksD, Bool.and_eq_true] at h
    rw [List.map_cons, dn_ok d n k h.1, dns_ok ds n k h.2]
end
mutual
theorem ok_lay : ∀ (d : D) (n : Nat), okD n d = true → (py d).canLay0 = true ∧ (py d).depth ≤ n ∧ (py d).hasDict = false
  | .non, n, _ | .bl b, n, _ | .int b, n, _ => by simp [py, PyData.canLay0, PyData.depth, PyData.hasDict]
  | .str x, n, h => by
    have h1 : (x.all fun c => decide (c < 0x110000)) = true := by cases n <;> simpa only [okD] using h
    refine ⟨?_, by simp [py, PyData.depth], by simp [py, PyData.hasDict]⟩
    simp only [py, PyData.canLay0, PyData.strOk]
    simpa using h1
  | .tup ds, 0, h | .rol ds, 0, h => by simp [okD] at h
  | .tup ds, n + 1, h | .rol ds, n + 1, h => by
    simp only [okD] at h
    have := oks_lay ds n h
    simp only [py, PyData.canLay0, PyData.depth, PyData.hasDict]
    exact ⟨this.1, by omega, this.2.2⟩
  | .ref _, n, h => by cases n <;> simp [okD] at h
  | .obj _ _, n, h => by cases n <;> simp [okD] at h
theorem oks_lay : ∀ (ds : List D) (n : Nat), oksD n ds = true → PyData.canLayAll0 (pys ds) = true ∧ PyData.depthAll (pys ds) ≤ n ∧ PyData.hasDictAll (pys ds) = false
  | [], n, _ => by simp [pys, PyData.canLayAll0, PyData.depthAll, PyData.hasDictAll]
  | d :: ds, n, h => by
    simp only [oksD, Bool.and_eq_true] at h
    have h1 := ok_lay d n h.1
    have h2 := oks_lay ds n h.2
    simp only [pys, PyData.canLayAll0, PyData.depthAll, PyData.hasDictAll, h1.1, h2.1, h1.2.2, h2.2.2, Bool.and_self, Bool.or_self, true_and, and_true]
    omega
end
theorem log2_12900 {n : Nat} (h : n < 2 ^ 12800) : n.log2 < 12900 := by
  by_cases h0 : n = 0
  · subst h0; decide
  · exact Nat.lt_trans ((Nat.log2_lt h0).mpr h) (by decide)
mutual
theorem sh_show : ∀ d : D, shD d = true → midP (py d) = true
  | .non, _ | .bl b, _ | .str x, _ | .ref a, _ | .obj _ _, _ => by simp [py, midP]
  | .int i, h => by
    have h1 : i.natAbs < 2 ^ 12800 := of_decide_eq_true (by simpa only [shD] using h)
    simp only [py, midP]
    exact decide_eq_true (log2_12900 h1)
  | .tup ds, h | .rol ds, h => by
    simp only [shD] at h
    simp only [py, midP]
    exact shs_show ds h
theorem shs_show : ∀ ds : List D, shsD ds = true → midPs (pys ds) = true
  | [], _ => by simp [pys, midPs]
  | d :: ds, h => by
    simp only [shsD, Bool.and_eq_true] at h
    simp only [pys, midPs, sh_show d h.1, shs_show ds h.2, Bool.and_self]
end
theorem shS_show {S : Sto} {d : D} (h : shS S d = true) : midP (pyS S d) = true := sh_show _ h
theorem okS_lay {S : Sto} {d : D} (h : okS S d = true) : SeqAt.shaped (pyS S d) = true ∧ (pyS S d).hasDict = false ∧ (pyS S d).depth ≤ 41 := by
  have fin : (pyS S d).canLay0 = true ∧ (pyS S d).depth ≤ 41 ∧ (pyS S d).hasDict = false := ok_lay _ 41 h
  obtain ⟨h1, h2, h4⟩ := fin
  refine ⟨?_, h4, h2⟩
  unfold SeqAt.shaped
  rw [h1, decide_eq_true (by omega)]
  rfl
def eqD (neg : Bool) : R2D
  | .int i, .int j, S, Q => Q (.bl (neg ^^ decide (i = j))) S
  | .str x, .str y, S, Q => Q (.bl (neg ^^ decide (x = y))) S
  | .bl x, .bl y, S, Q => Q (.bl (neg ^^ decide (x = y))) S
  | a, b, S, Q => okS S a = true ∧ okS S b = true ∧ Q (.bl (neg ^^ PyData.eqv (pyS S a) (pyS S b))) S
def ordD (p : Int → Int → Bool) (q : List Nat → List Nat → Bool) : R2D
  | .int i, .int j, S, Q => Q (.bl (p i j)) S
  | .str x, .str y, S, Q => Q (.bl (q x y)) S
  | _, _, _, _ => False
def flatD : D → Bool
  | .non | .bl _ | .int _ | .str _ => true
  | _ => false
def eqF : D → D → Bool
  | .non, .non => true
  | .bl a, .bl b => a == b
  | .bl a, .int b => (if a then 1 else 0) == b
  | .int a, .bl b => a == (if b then 1 else 0)
  | .int a, .int b => a == b
  | .str a, .str b => a == b
  | _, _ => false
def AtL (x y : List Nat) (i : Nat) : Prop := i + y.length ≤ x.length ∧ (x.drop i).take y.length = y
def inD (neg : Bool) : R2D
  | .str [c], .str y, S, Q => Q (.bl (neg ^^ decide (c ∈ y))) S
  | .str z, .str y, S, Q => ∀ t : Bool, (t = true ↔ ∃ i, AtL y z i) → Q (.bl (neg ^^ t)) S
  | .tup as, .ref p, S, Q => ∃ ds, S p = some (.lst ds) ∧ okS S (.tup as) = true ∧ ds.all (okS S) = true ∧ Q (.bl (neg ^^ ds.any fun z => PyData.eqv (pyS S z) (pyS S (.tup as)))) S
  | a, .tup ds, S, Q => flatD a = true ∧ ds.all flatD = true ∧ Q (.bl (neg ^^ ds.any fun z => eqF z a)) S
  | a, .ref p, S, Q => ∃ ds, S p = some (.lst ds) ∧ flatD a = true ∧ ds.all flatD = true ∧ Q (.bl (neg ^^ ds.any fun z => eqF z a)) S
  | _, _, _, _ => False
def isNon : D → Bool
  | .non => true
  | _ => false
def isD (neg : Bool) : R2D
  | a, .non, S, Q => Q (.bl (neg ^^ isNon a)) S
  | .bl a, .bl b, S, Q => Q (.bl (neg ^^ decide (a = b))) S
  | .non, .bl _, S, Q => Q (.bl neg) S
  | _, _, _, _ => False
def cmpD : CmpOp → R2D
  | .Eq => eqD false
  | .NotEq => eqD true
  | .Lt => ordD (fun i j => decide (i < j)) (fun x y => decide (x < y))
  | .LtE => ordD (fun i j => decide (i ≤ j)) (fun x y => decide (x ≤ y))
  | .Gt => ordD (fun i j => decide (j < i)) (fun x y => decide (y < x))
  | .GtE => ordD (fun i j => decide (j ≤ i)) (fun x y => decide (y ≤ x))
  | .Is => isD false
  | .IsNot => isD true
  | .In => inD false
  | .NotIn => inD true
section
variable {X : Cx}
theorem str_inj {x y : List Nat} : decide (V.str ⟨x.toArray⟩ = V.str ⟨y.toArray⟩) = decide (x = y) := by
  by_cases h : x = y
  · subst h; simp
  · rw [decide_eq_false h, decide_eq_false]
    intro e
    injection e with e
    injection e with e
    exact h (by simpa using congrArg Array.toList e)
theorem eqD_ok (hu : X.A.units + 64 < cLine) (neg : Bool) : OpR X (compareOp (if neg then .NotEq else .Eq)) (liftR2 X.K (eqD neg)) := by
  intro pins s σ H x y v u Q I rx ry ⟨a, b, S, Qd, ra, rb, so, h, l⟩
  have scalar : ∀ (b' : Bool), scal x y = true → decide (x = y) = b' → Qd (.bl (neg ^^ b')) S → wpAny (model X.prog X.w) X.A (compareOp (if neg then .NotEq else .Eq) v u) (EP X pins σ Q) X.xe s := fun b' h1 h2 h3 => by
    cases neg with
    | false =>
      refine op_eq pins s σ H x y v u Q I rx ry ⟨h1, ?_⟩
      rw [h2]
      rw [Bool.false_xor] at h3
      exact l _ S _ H h3 .refl .bl so
    | true =>
      refine op_ne pins s σ H x y v u Q I rx ry ⟨h1, ?_⟩
      rw [h2]
      rw [Bool.true_xor] at h3
      exact l _ S _ H h3 .refl .bl so
  have gen : okS S a = true → okS S b = true → Qd (.bl (neg ^^ PyData.eqv (pyS S a) (pyS S b))) S → wpAny (model X.prog X.w) X.A (compareOp (if neg then .NotEq else .Eq) v u) (EP X pins σ Q) X.xe s := fun h1 h2 h3 => by
    cases neg with
    | false =>
      refine op_eqD hu pins s σ H x y v u Q I rx ry ⟨_, _, dpS so h1 ra, dpS so h2 rb, (okS_lay h1).1, (okS_lay h2).1, ?_⟩
      rw [Bool.false_xor] at h3
      exact l _ S _ H h3 .refl .bl so
    | true =>
      refine op_neD hu pins s σ H x y v u Q I rx ry ⟨_, _, dpS so h1 ra, dpS so h2 rb, (okS_lay h1).1, (okS_lay h2).1, ?_⟩
      rw [Bool.true_xor] at h3
      exact l _ S _ H h3 .refl .bl so
  cases a <;> cases b
  case int.int i j => simp only [Rep] at ra rb; subst ra rb; exact scalar _ rfl (by simp) h
  case str.str i j => simp only [Rep] at ra rb; subst ra rb; exact scalar _ rfl str_inj h
  case bl.bl i j => simp only [Rep] at ra rb; subst ra rb; exact scalar _ rfl (by simp) h
  all_goals exact gen h.1 h.2.1 h.2.2
theorem le_lists (x y : List Nat) : decide (x ≤ y) = !decide (y < x) := by
  by_cases h : y < x
  · rw [decide_eq_true h, decide_eq_false (List.not_le.mpr h)]; rfl
  · rw [decide_eq_false h, decide_eq_true (List.not_lt.mp h)]; rfl
end
end G57
set_option Elab.async false
set_option linter.all false
set_option maxRecDepth 100000
set_option maxHeartbeats 4000000
namespace G57
open PySem L2 PySem.Spec PyProof.Rows
section
variable {X : Cx}
theorem ordD_ok {op : CmpOp} {p : Int → Int → Bool} {q : List Nat → List Nat → Bool}
    (r1 : OpR X (compareOp op) (rI0 fun i j => .bl (p i j)))
    (r2 : OpR X (compareOp op) (fun x y H Q => ∃ i j, x = .str i ∧ y = .str j ∧ Q (.bl (q i.cps.toList j.cps.toList)) H)) :
    OpR X (compareOp op) (liftR2 X.K (ordD p q)) := by
  intro pins s σ H x y v u Q I rx ry ⟨a, b, S, Qd, ra, rb, so, h, l⟩
  cases a <;> cases b <;> try exact h.elim
  case int.int i j =>
    simp only [Rep] at ra rb
    exact r1 pins s σ H x y v u Q I rx ry ⟨i, j, ra, rb, l _ S _ H h .refl .bl so⟩
  case str.str i j =>
    simp only [Rep] at ra rb
    exact r2 pins s σ H x y v u Q I rx ry ⟨_, _, ra, rb, l _ S _ H h .refl .bl so⟩
theorem isD_ok (neg : Bool) : OpR X (compareOp (if neg then .IsNot else .Is)) (liftR2 X.K (isD neg)) := by
  intro pins s σ H x y v u Q I rx ry ⟨a, b, S, Qd, ra, rb, so, h, l⟩
  cases b with
  | non =>
    simp only [Rep] at rb
    subst rb
    have e : decide (x = .non) = isNon a := by
      cases a with
      | tup ds => obtain ⟨_, _, rfl, _⟩ := ra.tup_inv; rfl
      | rol ds => obtain ⟨_, _, rfl, _⟩ := ra.rol_inv; rfl
      | obj c d => obtain ⟨_, _, _, _, rfl, _⟩ := ra.obj_inv; rfl
      | _ => simp only [Rep] at ra; subst ra; rfl
    have h : Qd (.bl (neg ^^ isNon a)) S := by cases a <;> exact h
    rw [← e] at h
    cases neg with
    | false => exact op_isN pins s σ H x _ v u Q I rx ry ⟨rfl, l _ S _ H (by rw [Bool.false_xor] at h; exact h) .refl .bl so⟩
    | true => exact op_notN pins s σ H x _ v u Q I rx ry ⟨rfl, l _ S _ H (by rw [Bool.true_xor] at h; exact h) .refl .bl so⟩
  | bl b =>
    simp only [Rep] at rb
    subst rb
    cases a <;> try exact h.elim
    case bl a =>
      simp only [Rep] at ra
      subst ra
      cases neg with
      | false => exact op_isBl pins s σ H _ _ v u Q I rx ry ⟨a, b, rfl, rfl, l _ S _ H (by have h : Qd (.bl (false ^^ decide (a = b))) S := h; rw [Bool.false_xor] at h; exact h) .refl .bl so⟩
      | true => exact op_notBl pins s σ H _ _ v u Q I rx ry ⟨a, b, rfl, rfl, l _ S _ H (by have h : Qd (.bl (true ^^ decide (a = b))) S := h; rw [Bool.true_xor] at h; exact h) .refl .bl so⟩
    case non =>
      simp only [Rep] at ra
      subst ra
      cases rx
      cases ry
      cases neg with
      | false =>
        show wpAny _ _ (compareOp .Is .none (.bool b)) _ _ s
        exact fun _ _ _ => ⟨.bl false, H, I, rfl, l _ S _ H h .refl .bl so⟩
      | true =>
        show wpAny _ _ (compareOp .IsNot .none (.bool b)) _ _ s
        exact fun _ _ _ => ⟨.bl true, H, I, rfl, l _ S _ H h .refl .bl so⟩
  | _ => cases a <;> exact h.elim
theorem flat_of {K : PySem.W.Frag} {H : Hp} {d : D} {v : V} (h : flatD d = true) (r : Rep K H d v) : flatV v = true := by
  cases d <;> simp [flatD] at h <;> (simp only [Rep] at r; subst r; rfl)
theorem eqF_of {K : PySem.W.Frag} {H : Hp} {d e : D} {v u : V} (r : Rep K H d v) (t : Rep K H e u) (hd : flatD d = true) (he : flatD e = true) : eqV v u = eqF d e := by
  cases d <;> simp [flatD] at hd <;> cases e <;> simp [flatD] at he <;> (simp only [Rep] at r t; subst r t; try rfl)
  rename_i x y
  show (_ == _) = (_ == _)
  by_cases h : x = y
  · subst h; simp
  · rw [beq_eq_false_iff_ne.mpr h]
    exact beq_eq_false_iff_ne.mpr fun e => h (by injection e with e; simpa using congrArg Array.toList e)
theorem flats_of {K : PySem.W.Frag} {H : Hp} : ∀ {ds : List D} {vs : List V}, ds.all flatD = true → Reps K H ds vs → vs.all flatV = true
  | [], _, _, r => by simp only [Reps] at r; subst r; rfl
  | d :: ds, v :: vs, h, r => by
    rw [List.all_cons, Bool.and_eq_true] at h ⊢
    exact ⟨flat_of h.1 r.inv.1, flats_of h.2 r.inv.2⟩
  | d :: ds, [], _, r => by simp only [Reps] at r; obtain ⟨_, _, e, _⟩ := r; cases e
theorem ins_of {K : PySem.W.Frag} {H : Hp} {a : D} {x : V} (ra : Rep K H a x) (ha : flatD a = true) : ∀ {ds : List D} {vs : List V}, ds.all flatD = true → Reps K H ds vs → inV x vs = ds.any fun z => eqF z a
  | [], _, _, r => by simp only [Reps] at r; subst r; rfl
  | d :: ds, v :: vs, h, r => by
    rw [List.all_cons, Bool.and_eq_true] at h
    have ih := ins_of ra ha h.2 r.inv.2
    unfold inV at ih ⊢
    rw [List.any_cons, List.any_cons, ih, eqF_of r.inv.1 ra h.1 ha]
  | d :: ds, [], _, r => by simp only [Reps] at r; obtain ⟨_, _, e, _⟩ := r; cases e
theorem reads_any {pins : List (Addr × Obj)} {σ : L2.St} {H : Hp} {s : Shared} {S : Sto} (I : Inv X pins σ H s) (so : StoOk X.K H S) (da : PyData) (hda : SeqAt.shaped da = true) : ∀ {ds : List D} {vs : List V} {its : List Value}, ds.all (okS S) = true → Reps X.K H ds vs → Vals vs its →
    (its.any fun w => @decide (∃ d bs, Reads s.heap w d bs ∧ PyData.eqv d da = true) (Classical.propDecidable _)) = ds.any (fun z => PyData.eqv (pyS S z) da) ∧
    ∀ w ∈ its, ∃ d bs, Reads s.heap w d bs ∧ SeqAt.shaped d = true ∧ (@decide (∃ d bs, Reads s.heap w d bs ∧ PyData.eqv d da = true) (Classical.propDecidable _)) = PyData.eqv d da
  | [], _, _, _, r, v => by
    simp only [Reps] at r; subst r; cases v; exact ⟨rfl, fun w hw => by cases hw⟩
  | z :: ds, [], _, _, r, _ => by simp only [Reps] at r; obtain ⟨_, _, e, _⟩ := r; cases e
  | z :: ds, x :: vs, its, h, r, v => by
    cases v with
    | cons rx v =>
      rename_i u its
      rw [List.all_cons, Bool.and_eq_true] at h
      obtain ⟨ih1, ih2⟩ := reads_any I so da hda h.2 r.inv.2 v
      obtain ⟨bs, rd⟩ := Dp.reads I _ x u (dpS so h.1 r.inv.1) rx
      have sh := (okS_lay h.1).1
      have e1 : (@decide (∃ d bs, Reads s.heap u d bs ∧ PyData.eqv d da = true) (Classical.propDecidable _)) = PyData.eqv (pyS S z) da := by
        cases hb : PyData.eqv (pyS S z) da with
        | true => exact @decide_eq_true _ (Classical.propDecidable _) ⟨_, bs, rd, hb⟩
        | false =>
          refine @decide_eq_false _ (Classical.propDecidable _) fun ⟨d, bs', rd', he⟩ => ?_
          have := SeqAt.Reads.unique _ _ _ _ _ (SeqAt.canLay_of_shaped sh) rd rd'
          rw [this, he] at hb
          cases hb
      refine ⟨by rw [List.any_cons, List.any_cons, ih1, e1], fun w hw => ?_⟩
      rcases List.mem_cons.mp hw with rfl | hw
      · exact ⟨_, bs, rd, sh, e1⟩
      · exact ih2 w hw
theorem at_AtL {x y : List Nat} {i : Nat} : (i + (⟨y.toArray⟩ : Str).length ≤ (⟨x.toArray⟩ : Str).length ∧ Builtin.Str.subAt ⟨x.toArray⟩ ⟨y.toArray⟩ i = true) ↔ AtL x y i := by
  rw [StrLaws.subAt_eq, str_len, str_len]
  unfold AtL
  rw [beq_iff_eq]
theorem inD_str (neg : Bool) {pins : List (Addr × Obj)} {s : Shared} {σ : L2.St} {H : Hp} {z w : List Nat} {v u : Value} {Q : VK} {S : Sto} {Qd : DK} (I : Inv X pins σ H s) (rx : RelV (.str ⟨w.toArray⟩) v) (ry : RelV (.str ⟨z.toArray⟩) u) (so : StoOk X.K H S) (l : Lv X.K H Qd Q)
    (h : ∀ t : Bool, (t = true ↔ ∃ i, AtL z w i) → Qd (.bl (neg ^^ t)) S) : wpAny (model X.prog X.w) X.A (compareOp (if neg then .NotIn else .In) v u) (EP X pins σ Q) X.xe s := by
  have hf := StrLaws.found_iff ⟨z.toArray⟩ ⟨w.toArray⟩
  simp only [at_AtL] at hf
  have h := h _ hf
  cases neg with
  | false => exact op_in_str pins s σ H _ _ v u Q I rx ry ⟨_, _, rfl, rfl, l _ S _ H (by rw [Bool.false_xor] at h; exact h) .refl .bl so⟩
  | true => exact op_notIn_str pins s σ H _ _ v u Q I rx ry ⟨_, _, rfl, rfl, l _ S _ H (by rw [Bool.true_xor] at h; exact h) .refl .bl so⟩
theorem inD_ok (hu : X.A.units + 64 < cLine) (neg : Bool) : OpR X (compareOp (if neg then .NotIn else .In)) (liftR2 X.K (inD neg)) := by
  intro pins s σ H x y v u Q I rx ry ⟨a, b, S, Qd, ra, rb, so, h, l⟩
  have gen : ∀ p ds vs, y = .ref p → (SqL X.K H p vs ∨ SqT X.K H p vs) → Reps X.K H ds vs → flatD a = true → ds.all flatD = true → Qd (.bl (neg ^^ ds.any fun z => eqF z a)) S →
      wpAny (model X.prog X.w) X.A (compareOp (if neg then .NotIn else .In) v u) (EP X pins σ Q) X.xe s := fun p ds vs e hq r f1 f2 h => by
    rw [← ins_of ra f1 f2 r] at h
    cases neg with
    | false => exact op_in_seq pins s σ H x y v u Q I rx ry ⟨p, vs, e, hq, flat_of f1 ra, flats_of f2 r, l _ S _ H (by rw [Bool.false_xor] at h; exact h) .refl .bl so⟩
    | true => exact op_notIn_seq pins s σ H x y v u Q I rx ry ⟨p, vs, e, hq, flat_of f1 ra, flats_of f2 r, l _ S _ H (by rw [Bool.true_xor] at h; exact h) .refl .bl so⟩
  cases b with
  | tup ds =>
    obtain ⟨p, vs, e, q, r⟩ := rb.tup_inv
    have h : flatD a = true ∧ ds.all flatD = true ∧ Qd (.bl (neg ^^ ds.any fun z => eqF z a)) S := by
      cases a with
      | str z => rcases z with _ | ⟨c, _ | ⟨c', z⟩⟩ <;> exact h
      | _ => exact h
    exact gen p ds vs e (.inr q) r h.1 h.2.1 h.2.2
  | ref p =>
    simp only [Rep] at rb
    by_cases ht : ∃ as, a = .tup as
    · obtain ⟨as, rfl⟩ := ht
      have h : ∃ ds, S p = some (.lst ds) ∧ okS S (.tup as) = true ∧ ds.all (okS S) = true ∧ Qd (.bl (neg ^^ ds.any fun z => PyData.eqv (pyS S z) (pyS S (.tup as)))) S := h
      obtain ⟨ds, e, h1, h2, h3⟩ := h
      obtain ⟨vs, q, r⟩ := so p _ e
      subst rb
      cases ry
      obtain ⟨its, rv, pl, hz⟩ := I.list (.inl (.inl q))
      obtain ⟨as2, rda⟩ := Dp.reads I _ x v (dpS so h1 ra) rx
      have sha := okS_lay h1
      obtain ⟨a1, a2⟩ := reads_any I so _ sha.1 h2 r rv
      have eqs : ∀ w, w ∈ its.toArray → SeqAt.EqAt X.A.in1 s w v (@decide (∃ d bs, Reads s.heap w d bs ∧ PyData.eqv d (pyS S (.tup as)) = true) (Classical.propDecidable _)) := fun w hw => by
        obtain ⟨d, bs, rd, sd, ed⟩ := a2 w (by simpa using hw)
        rw [ed]
        refine SeqAt.eqAt_reads _ _ _ _ _ _ _ _ rd rda (SeqAt.canLay_of_shaped sd) (SeqAt.canLay_of_shaped sha.1) ?_
        have : min d.depth (pyS S (.tup as)).depth ≤ (pyS S (.tup as)).depth := Nat.min_le_right _ _
        have := sha.2.2
        have e1 : X.A.in1.units ≤ X.A.units + 1 := by first | exact Nat.le_refl _ | simp [Around.in1] | exact Nat.le_succ _
        omega
      cases neg with
      | false =>
        refine SeqAt.in_listAt _ pl.isList eqs ⟨.bl _, H, I, rfl, ?_⟩
        rw [List.any_toArray, a1]
        exact l _ S _ H (by rw [Bool.false_xor] at h3; exact h3) .refl .bl so
      | true =>
        refine SeqAt.notIn_listAt _ pl.isList eqs ⟨.bl _, H, I, rfl, ?_⟩
        rw [List.any_toArray, a1]
        exact l _ S _ H (by rw [Bool.true_xor] at h3; exact h3) .refl .bl so
    have h : ∃ ds, S p = some (.lst ds) ∧ flatD a = true ∧ ds.all flatD = true ∧ Qd (.bl (neg ^^ ds.any fun z => eqF z a)) S := by
      cases a with
      | str z => rcases z with _ | ⟨c, _ | ⟨c', z⟩⟩ <;> exact h
      | tup as => exact absurd ⟨as, rfl⟩ ht
      | _ => exact h
    obtain ⟨ds, e, h1, h2, h3⟩ := h
    obtain ⟨vs, q, r⟩ := so p _ e
    exact gen p ds vs rb (.inl (.inl (.inl q))) r h1 h2 h3
  | str z =>
    cases a with
    | str w =>
      rcases w with _ | ⟨c, _ | ⟨c', w⟩⟩
      · simp only [Rep] at ra rb
        subst ra rb
        exact inD_str neg I rx ry so l h
      · simp only [Rep] at ra rb
        subst ra rb
        cases neg with
        | false => exact op_in_sign pins s σ H _ _ v u Q I rx ry ⟨c, _, rfl, rfl, l _ S _ H (by have h : Qd (.bl (false ^^ decide (c ∈ z))) S := h; rw [Bool.false_xor] at h; exact h) .refl .bl so⟩
        | true => exact op_notIn_sign pins s σ H _ _ v u Q I rx ry ⟨c, _, rfl, rfl, l _ S _ H (by have h : Qd (.bl (true ^^ decide (c ∈ z))) S := h; rw [Bool.true_xor] at h; exact h) .refl .bl so⟩
      · simp only [Rep] at ra rb
        subst ra rb
        exact inD_str neg I rx ry so l h
    | _ => exact h.elim
  | _ =>
    cases a with
    | str z => rcases z with _ | ⟨c, _ | ⟨c', z⟩⟩ <;> exact h.elim
    | _ => exact h.elim
theorem cmpD_ok (hu : X.A.units + 64 < cLine) (op : CmpOp) : OpR X (compareOp op) (liftR2 X.K (cmpD op)) := by
  cases op with
  | Eq => exact eqD_ok hu false
  | NotEq => exact eqD_ok hu true
  | Is => exact isD_ok false
  | IsNot => exact isD_ok true
  | In => exact inD_ok hu false
  | NotIn => exact inD_ok hu true
  | Lt => exact ordD_ok op_lt op_lt_str
  | Gt => exact ordD_ok op_gt op_gt_str
  | LtE => exact ordD_ok op_le fun pins s σ H x y v u Q I rx ry ⟨i, j, e1, e2, q⟩ => op_le_str pins s σ H x y v u Q I rx ry ⟨i, j, e1, e2, by rw [← le_lists]; exact q⟩
  | GtE => exact ordD_ok op_ge fun pins s σ H x y v u Q I rx ry ⟨i, j, e1, e2, q⟩ => op_ge_str pins s σ H x y v u Q I rx ry ⟨i, j, e1, e2, by rw [← le_lists]; exact q⟩
end
def truD (S : Sto) : D → Option Bool
  | .non => some false
  | .bl b => some b
  | .int i => some (i != 0)
  | .str x => some (!x.isEmpty)
  | .tup ds => some (!ds.isEmpty)
  | .rol ds => some (!ds.isEmpty)
  | .ref p => match S p with
    | some (.lst ds) => some (!ds.isEmpty)
    | none => none
  | .obj _ _ => none
theorem isEmpty_reps {K : PySem.W.Frag} {H : Hp} {ds : List D} {vs : List V} (r : Reps K H ds vs) : ds.isEmpty = vs.isEmpty := by
  cases ds with
  | nil => simp only [Reps] at r; subst r; rfl
  | cons d ds => simp only [Reps] at r; obtain ⟨_, _, e, _⟩ := r; subst e; rfl
theorem truD_ok {K : PySem.W.Frag} {H : Hp} {S : Sto} (so : StoOk K H S) {d : D} {v : V} {b : Bool} (r : Rep K H d v) (h : truD S d = some b) (hz : ∀ x, d = .str x → x.length ≤ 16777216) : TruV K v H b := by
  cases d with
  | non => simp only [Rep] at r; subst r; simp only [truD] at h; cases h; rfl
  | bl c => simp only [Rep] at r; subst r; simp only [truD] at h; cases h; rfl
  | int i => simp only [Rep] at r; subst r; simp only [truD] at h; cases h; rfl
  | str x =>
    simp only [Rep] at r; subst r; simp only [truD] at h; cases h
    refine ⟨by rw [str_len, szl]; exact hz x rfl, ?_⟩
    rw [str_len]
    cases x with
    | nil => rfl
    | cons c x => simp; omega
  | tup ds =>
    obtain ⟨a, vs, rfl, q, r⟩ := r.tup_inv
    simp only [truD] at h; cases h
    exact .inr (.inl ⟨vs, q, by rw [isEmpty_reps r]⟩)
  | rol ds =>
    obtain ⟨a, vs, rfl, q, r⟩ := r.rol_inv
    simp only [truD] at h; cases h
    exact .inl ⟨vs, q.sq, by rw [isEmpty_reps r]⟩
  | ref p =>
    simp only [Rep] at r; subst r
    simp only [truD] at h
    cases e : S p with
    | none => rw [e] at h; cases h
    | some o =>
      cases o with
      | lst ds =>
        rw [e] at h; cases h
        obtain ⟨vs, q, r⟩ := so p _ e
        exact .inl ⟨vs, .inl (.inl q), by rw [isEmpty_reps r]⟩
  | obj c d => simp [truD] at h
theorem atI_reps {K : PySem.W.Frag} {H : Hp} {ds : List D} {vs : List V} {i : Int} {d : D} (r : Reps K H ds vs) (h : atI ds i = some d) : ∃ v, atI vs i = some v ∧ Rep K H d v := by
  unfold atI at h ⊢
  rw [r.length] at h
  obtain ⟨j, e1, e2⟩ := Option.bind_eq_some_iff.mp h
  obtain ⟨v, q, t⟩ := r.get e2
  exact ⟨v, by rw [e1]; exact q, t⟩
def idxD : R2D
  | .tup ds, .int i, S, Q => ∃ d, atI ds i = some d ∧ Q d S
  | .rol ds, .int i, S, Q => ∃ d, atI ds i = some d ∧ Q d S
  | .str x, .int i, S, Q => x.length ≤ 16777216 ∧ ∃ c, atI x i = some c ∧ Q (.str [c]) S
  | .ref p, .int i, S, Q => ∃ ds d, S p = some (.lst ds) ∧ atI ds i = some d ∧ Q d S
  | _, _, _, _ => False
def cutD {α : Type} (xs : List α) (lo hi : Option Int) : List α := (xs.drop (HT.sIx xs.length 0 lo)).take (HT.sIx xs.length xs.length hi - HT.sIx xs.length 0 lo)
def slD : D → Option Int → Option Int → Sto → DK → Prop
  | .tup ds, lo, hi, S, Q => Q (.tup (cutD ds lo hi)) S
  | .rol ds, lo, hi, S, Q => ∀ p, S p = none → Q (.ref p) (put S p (.lst (cutD ds lo hi)))
  | .str x, lo, hi, S, Q => x.length ≤ 16777216 ∧ Q (.str (cutD x lo hi)) S
  | .ref p, lo, hi, S, Q => ∃ ds, S p = some (.lst ds) ∧ ∀ r, S r = none → Q (.ref r) (put S r (.lst (cutD ds lo hi)))
  | _, _, _, _, _ => False
section
variable {X : Cx}
theorem idxD_ok : IxR X (liftR2 X.K idxD) := by
  intro value slice pins s σ H x y v u Q I rx ry ⟨a, b, S, Qd, ra, rb, so, h, l⟩ hs
  cases a <;> cases b <;> try exact h.elim
  case tup.int ds i =>
    obtain ⟨p, vs, rfl, q, r⟩ := ra.tup_inv
    simp only [Rep] at rb
    obtain ⟨d, e, h⟩ := h
    obtain ⟨z, e2, rz⟩ := atI_reps r e
    exact ix_tup value slice pins s σ H _ y v u Q I rx ry ⟨p, vs, i, z, rfl, rb, q, e2, l d S z H h .refl rz so⟩ hs
  case rol.int ds i =>
    obtain ⟨p, vs, rfl, q, r⟩ := ra.rol_inv
    simp only [Rep] at rb
    obtain ⟨d, e, h⟩ := h
    obtain ⟨z, e2, rz⟩ := atI_reps r e
    exact ix_list value slice pins s σ H _ y v u Q I rx ry ⟨p, vs, i, z, rfl, rb, q.sq, e2, l d S z H h .refl rz so⟩ hs
  case str.int w i =>
    simp only [Rep] at ra rb
    obtain ⟨hz, c, e, h⟩ := h
    exact ix_str value slice pins s σ H _ y v u Q I rx ry ⟨_, i, c, ra, rb, by rw [str_len, szl]; exact hz, e, l _ S _ H h .refl (by simp only [Rep]) so⟩ hs
  case ref.int p i =>
    simp only [Rep] at ra rb
    obtain ⟨ds, d, e0, e, h⟩ := h
    obtain ⟨vs, q, r⟩ := so p _ e0
    obtain ⟨z, e2, rz⟩ := atI_reps r e
    exact ix_list value slice pins s σ H _ y v u Q I rx ry ⟨p, vs, i, z, ra, rb, .inl (.inl q), e2, l d S z H h .refl rz so⟩ hs
theorem cut_reps {K : PySem.W.Frag} {H : Hp} {ds : List D} {vs : List V} {lo hi : Option Int} (r : Reps K H ds vs) : Reps K H (cutD ds lo hi) (cutV vs lo hi) := by
  unfold cutD cutV
  rw [r.length]
  exact (r.drop _).take _
def liftSl (K : PySem.W.Frag) : V → Option Int → Option Int → Hp → VK → Prop := fun x lo hi H Q => ∃ a S Qd, Rep K H a x ∧ StoOk K H S ∧ slD a lo hi S Qd ∧ Lv K H Qd Q
theorem slD_ok : SlR X (liftSl X.K) := by
  intro pins s σ H x v vl vu lo hi sl Q I rx hs pl pu ⟨a, S, Qd, ra, so, h, l⟩
  cases a <;> try exact h.elim
  case tup ds =>
    obtain ⟨p, vs, rfl, q, r⟩ := ra.tup_inv
    refine sl_tupA pins s σ H _ v vl vu lo hi sl Q I rx hs pl pu ⟨p, vs, rfl, q, fun hw => ?_, fun _ t ht => l.tup so h (cut_reps r) t ht⟩
    have e : cutD ds lo hi = ds := by
      unfold cutD
      rw [r.length, hw.1, hw.2, List.drop_zero, Nat.sub_zero, ← r.length, List.take_length]
    have h : Qd (.tup (cutD ds lo hi)) S := h
    rw [e] at h
    exact l _ S _ H h .refl ra so
  case rol ds =>
    obtain ⟨p, vs, rfl, q, r⟩ := ra.rol_inv
    exact sl_list pins s σ H _ v vl vu lo hi sl Q I rx hs pl pu ⟨p, vs, rfl, q.sq, fun t ht => l.lst so h (cut_reps r) t ht⟩
  case str z =>
    simp only [Rep] at ra
    obtain ⟨hz, h⟩ := h
    refine sl_str pins s σ H _ v vl vu lo hi sl Q I rx hs pl pu ⟨_, ra, by rw [str_len, szl]; exact hz, ?_⟩
    have e : cutS (⟨z.toArray⟩ : Str) lo hi = ⟨(cutD z lo hi).toArray⟩ := by
      unfold cutS cutD
      rw [str_len]
    rw [e]
    exact l _ S _ H h .refl .str so
  case ref p =>
    simp only [Rep] at ra
    obtain ⟨ds, e, h⟩ := h
    obtain ⟨vs, q, r⟩ := so p _ e
    exact sl_list pins s σ H _ v vl vu lo hi sl Q I rx hs pl pu ⟨p, vs, ra, .inl (.inl q), fun t ht => l.lst so h (cut_reps r) t ht⟩
end
end G57
set_option Elab.async false
set_option linter.all false
set_option maxRecDepth 100000
set_option maxHeartbeats 4000000
namespace G57
open PySem L2 PySem.Spec PyProof.Rows
section
variable {prog : Program} {w : World} {A : Around} {E : Value → Shared → Prop} {s : Shared} {l : Addr} {its : List Value} {Q : Value → Shared → Prop}
def Seen (h : Heap) (l : Addr) (its : List Value) : Prop := h.IsList l its.toArray ∨ h.IsTuple l its.toArray
theorem iter_seen (hh : A.handled = none) (hl : Seen s.heap l its)
    (h : ∀ (s₂ : Shared) (St : Nat → Heap → Prop), (∀ b o, s.heap.get? b = some o → s₂.heap.get? b = some o) → s₂.heap.objs.size = s.heap.objs.size + 1 → s₂.gens = s.gens → s₂.drawn = s.drawn → s₂.os = s.os → l < s.heap.objs.size →
      Walks prog w A s.heap.objs.size [s.heap.objs.size, l] [s.heap.objs.size] its.length (fun i v => its[i]? = some v) St → St 0 s₂.heap → Q (.ref s.heap.objs.size) s₂) :
    wpAny (model prog w) A (pyIter (.ref l)) Q E s := by
  rcases hl with hl | hl
  · have hlt : l < s.heap.objs.size := by obtain ⟨_, e, _⟩ := hl; exact Heap.lt_size e
    refine wpAny_pyIter_list hl (h _ (fun i h => h.IsListIter s.heap.objs.size l i ∧ h.IsList l its.toArray) (fun b o e => Heap.get?_push_of_some _ e) (Heap.size_push ..) rfl rfl rfl hlt ?_ ⟨⟨_, Heap.get?_push_size _ rfl, rfl, rfl⟩, hl.push _⟩)
    have W := Walks.list (prog := prog) (w := w) hh s.heap.objs.size l (Nat.ne_of_lt hlt) its.toArray
    simpa using W
  · have hlt : l < s.heap.objs.size := by obtain ⟨_, e, _⟩ := hl; exact Heap.lt_size e
    refine wpAny_pyIter_tuple hl (h _ (fun i h => h.IsTupleIter s.heap.objs.size l i ∧ h.IsTuple l its.toArray) (fun b o e => Heap.get?_push_of_some _ e) (Heap.size_push ..) rfl rfl rfl hlt ?_ ⟨⟨_, Heap.get?_push_size _ rfl, rfl, rfl⟩, hl.push _⟩)
    have W := Walks.tuple (prog := prog) (w := w) hh s.heap.objs.size l (Nat.ne_of_lt hlt) its.toArray
    simpa using W
end
def truF : D → Option Bool
  | .non => some false
  | .bl b => some b
  | .int i => some (i != 0)
  | _ => none
def trusF : List D → Option (List Bool)
  | [] => some []
  | d :: ds => match truF d, trusF ds with
    | some b, some bs => some (b :: bs)
    | _, _ => none
def intsF : List D → Option (List Int)
  | [] => some []
  | .int i :: ds => match intsF ds with
    | some is => some (i :: is)
    | none => none
  | _ :: _ => none
def seqD (S : Sto) : D → Option (List D)
  | .tup ds | .rol ds => some ds
  | .ref p => match S p with
    | some (.lst ds) => some ds
    | none => none
  | _ => none
section
variable {X : Cx}
theorem seq_inv {K : PySem.W.Frag} {H : Hp} {S : Sto} (so : StoOk K H S) {d : D} {v : V} {ds : List D} (r : Rep K H d v) (h : seqD S d = some ds) :
    ∃ a vs, v = .ref a ∧ (SqL K H a vs ∨ SqT K H a vs) ∧ Reps K H ds vs := by
  cases d <;> simp only [seqD] at h <;> try cases h
  case tup => obtain ⟨a, vs, e, q, r⟩ := r.tup_inv; exact ⟨a, vs, e, .inr q, r⟩
  case rol => obtain ⟨a, vs, e, q, r⟩ := r.rol_inv; exact ⟨a, vs, e, .inl q.sq, r⟩
  case ref p =>
    simp only [Rep] at r
    cases e : S p with
    | none => rw [e] at h; cases h
    | some o =>
      cases o with
      | lst es =>
        rw [e] at h; cases h
        obtain ⟨vs, q, t⟩ := so p _ e
        exact ⟨p, vs, r, .inl (.inl (.inl q)), t⟩
theorem seen_of {pins : List (Addr × Obj)} {σ : L2.St} {H : Hp} {s : Shared} (I : Inv X pins σ H s) {a : Addr} {vs : List V} (h : SqL X.K H a vs ∨ SqT X.K H a vs) : ∃ its : List Value, Vals vs its ∧ Seen s.heap a its := by
  rcases h with h | h
  · obtain ⟨its, r, q, _⟩ := I.list h; exact ⟨its, r, .inl q.isList⟩
  · obtain ⟨its, r, q, _⟩ := I.tuple h; exact ⟨its, r, .inr q⟩
theorem trus_get {K : PySem.W.Frag} {H : Hp} : ∀ {ds : List D} {bs : List Bool} {vs : List V} {its : List Value} {i : Nat} {v : Value}, trusF ds = some bs → Reps K H ds vs → Vals vs its → its[i]? = some v →
    ∃ b, bs[i]? = some b ∧ ∀ (prog : Program) (w : World) (A : Around) (s : Shared) (Q : Bool → Shared → Prop) (E : Value → Shared → Prop), Q b s → wpAny (model prog w) A (truthy v) Q E s
  | [], _, _, _, _, _, _, r, t, e => by
    simp only [Reps] at r; subst r; cases t; simp at e
  | d :: ds, bs, [], _, _, _, _, r, _, _ => by simp only [Reps] at r; obtain ⟨_, _, e, _⟩ := r; cases e
  | d :: ds, bs, x :: vs, _, i, v, h, r, t, e => by
    simp only [trusF] at h
    cases h1 : truF d with
    | none => rw [h1] at h; cases h
    | some b =>
      cases h2 : trusF ds with
      | none => rw [h1, h2] at h; cases h
      | some bs' =>
        rw [h1, h2] at h; cases h
        cases t with
        | cons t1 t2 =>
          cases i with
          | zero =>
            rw [List.getElem?_cons_zero] at e
            cases e
            refine ⟨b, rfl, fun prog w A s Q E hq => ?_⟩
            have r1 := r.inv.1
            cases d <;> simp [truF] at h1
            case non => simp only [Rep] at r1; subst r1; cases t1; subst h1; exact fun _ _ _ => hq
            case bl c => simp only [Rep] at r1; subst r1; cases t1; subst h1; exact wpAny_truthy_bool hq
            case int c => simp only [Rep] at r1; subst r1; obtain ⟨_, rfl⟩ := t1; subst h1; exact PyProof.Rows.truthy_int hq
          | succ i =>
            rw [List.getElem?_cons_succ] at e ⊢
            exact trus_get h2 r.inv.2 t2 e
theorem trus_len : ∀ {ds : List D} {bs : List Bool}, trusF ds = some bs → bs.length = ds.length
  | [], _, h => by simp only [trusF] at h; cases h; rfl
  | d :: ds, bs, h => by
    simp only [trusF] at h
    cases h1 : truF d with
    | none => rw [h1] at h; cases h
    | some b =>
      cases h2 : trusF ds with
      | none => rw [h1, h2] at h; cases h
      | some bs' => rw [h1, h2] at h; cases h; rw [List.length_cons, List.length_cons, trus_len h2]
theorem ints_reps {K : PySem.W.Frag} {H : Hp} : ∀ {ds : List D} {is : List Int} {vs : List V}, intsF ds = some is → Reps K H ds vs → vs = is.map V.int
  | [], _, _, h, r => by simp only [intsF] at h; cases h; simp only [Reps] at r; exact r
  | d :: ds, is, [], _, r => by simp only [Reps] at r; obtain ⟨_, _, e, _⟩ := r; cases e
  | d :: ds, is, v :: vs, h, r => by
    cases d <;> simp only [intsF] at h <;> try cases h
    case int i =>
      cases h2 : intsF ds with
      | none => rw [h2] at h; cases h
      | some is' =>
        rw [h2] at h; cases h
        have r1 := r.inv.1
        simp only [Rep] at r1
        rw [List.map_cons, r1, ints_reps h2 r.inv.2]
theorem any_all_kept {s : Shared} {s₂ : Shared} {h' : Heap} (h1 : ∀ b o, s.heap.get? b = some o → s₂.heap.get? b = some o) (hk : ∀ b o, b ∉ [s.heap.objs.size] → s₂.heap.get? b = some o → h'.get? b = some o) :
    ∀ b o, s.heap.get? b = some o → h'.get? b = some o := fun b o e => hk b o (by
      intro hm
      rw [List.mem_singleton] at hm
      exact absurd (Heap.lt_size e) (by rw [hm]; exact Nat.lt_irrefl _)) (h1 b o e)
def anyD : RLD
  | [d], S, Q => ∃ ds bs, seqD S d = some ds ∧ trusF ds = some bs ∧ Q (.bl (bs.any id)) S
  | _, _, _ => False
def allD : RLD
  | [d], S, Q => ∃ ds bs, seqD S d = some ds ∧ trusF ds = some bs ∧ Q (.bl (bs.all id)) S
  | _, _, _ => False
def sumD : RLD
  | [d], S, Q => ∃ ds is, seqD S d = some ds ∧ intsF ds = some is ∧ Q (.int is.sum) S
  | _, _, _ => False
theorem one_arg {K : PySem.W.Frag} {H : Hp} {d : D} {xs : List V} {us : List Value} (r : Reps K H [d] xs) (t : Vals xs us) : ∃ x u, xs = [x] ∧ us = [u] ∧ Rep K H d x ∧ RelV x u := by
  simp only [Reps] at r
  obtain ⟨x, _, e, r1, rfl⟩ := r
  subst e
  cases t with
  | cons t1 t2 => cases t2; exact ⟨x, _, rfl, rfl, r1, t1⟩
theorem anyD_ok (hc : X.calm = true) : CallR X (.builtin "any") (liftRL X.K anyD) := by
  intro pins s σ H xs us Q I t ⟨ds, S, Qd, r, so, h, l⟩
  match ds, r, h with
  | [d], r, h =>
    obtain ⟨es, bs, e1, e2, h⟩ := h
    obtain ⟨x, u, rfl, rfl, r1, t1⟩ := one_arg r t
    obtain ⟨a, vs, rfl, q, rs⟩ := seq_inv so r1 e1
    cases t1
    obtain ⟨its, tv, hs⟩ := seen_of I q
    have hl : its.length = bs.length := by rw [trus_len e2, rs.length, tv.length]
    refine call_any_walk (iter_seen (I.ok.hd hc) hs fun s₂ St k1 k2 k3 k4 k5 k6 W st => ?_)
    refine ⟨_, _, _, _, _, St, fun i => bs.getD i false, rfl, W, st, fun i v s Q E hv hq => ?_, fun h' tk hk => ?_⟩
    · obtain ⟨b, eb, tr⟩ := trus_get e2 rs tv hv
      refine tr _ _ _ _ _ _ ?_
      have eg : bs.getD i false = b := by rw [List.getD_eq_getElem?_getD, eb] <;> rfl
      rw [← eg]; exact hq
    · obtain ⟨hh, g, d, tt, os⟩ := s₂
      obtain rfl : g = s.gens := k3
      obtain rfl : d = s.drawn := k4
      obtain rfl : os = s.os := k5
      refine ⟨.bl _, H, I.kept (any_all_kept k1 hk), rfl, ?_⟩
      rw [hl, L2.any_range]
      exact l _ S _ H h .refl .bl so
theorem allD_ok (hc : X.calm = true) : CallR X (.builtin "all") (liftRL X.K allD) := by
  intro pins s σ H xs us Q I t ⟨ds, S, Qd, r, so, h, l⟩
  match ds, r, h with
  | [d], r, h =>
    obtain ⟨es, bs, e1, e2, h⟩ := h
    obtain ⟨x, u, rfl, rfl, r1, t1⟩ := one_arg r t
    obtain ⟨a, vs, rfl, q, rs⟩ := seq_inv so r1 e1
    cases t1
    obtain ⟨its, tv, hs⟩ := seen_of I q
    have hl : its.length = bs.length := by rw [trus_len e2, rs.length, tv.length]
    refine call_all_walk (iter_seen (I.ok.hd hc) hs fun s₂ St k1 k2 k3 k4 k5 k6 W st => ?_)
    refine ⟨_, _, _, _, _, St, fun i => bs.getD i false, rfl, W, st, fun i v s Q E hv hq => ?_, fun h' tk hk => ?_⟩
    · obtain ⟨b, eb, tr⟩ := trus_get e2 rs tv hv
      refine tr _ _ _ _ _ _ ?_
      have eg : bs.getD i false = b := by rw [List.getD_eq_getElem?_getD, eb] <;> rfl
      rw [← eg]; exact hq
    · obtain ⟨hh, g, d, tt, os⟩ := s₂
      obtain rfl : g = s.gens := k3
      obtain rfl : d = s.drawn := k4
      obtain rfl : os = s.os := k5
      refine ⟨.bl _, H, I.kept (any_all_kept k1 hk), rfl, ?_⟩
      rw [hl, L2.all_range]
      exact l _ S _ H h .refl .bl so
theorem preSum_list (is : List Int) : preSum (fun i => is.getD i 0) is.length = is.sum := by
  have gen : ∀ n, n ≤ is.length → preSum (fun i => is.getD i 0) n = (is.take n).sum := by
    intro n
    induction n with
    | zero => intro _; rfl
    | succ n ih =>
      intro hn
      have e : preSum (fun i => is.getD i 0) (n + 1) = preSum (fun i => is.getD i 0) n + is.getD n 0 := rfl
      have e2 : is.take (n + 1) = is.take n ++ [is[n]] := by
        rw [List.take_add_one, List.getElem?_eq_getElem (by omega)] <;> rfl
      rw [e, ih (by omega), e2, List.sum_append, List.getD_eq_getElem?_getD, List.getElem?_eq_getElem (by omega)]
      simp
  rw [gen _ (Nat.le_refl _), List.take_length]
theorem sumD_ok (hc : X.calm = true) : CallR X (.builtin "sum") (liftRL X.K sumD) := by
  intro pins s σ H xs us Q I t ⟨ds, S, Qd, r, so, h, l⟩
  match ds, r, h with
  | [d], r, h =>
    obtain ⟨es, is, e1, e2, h⟩ := h
    obtain ⟨x, u, rfl, rfl, r1, t1⟩ := one_arg r t
    obtain ⟨a, vs, rfl, q, rs⟩ := seq_inv so r1 e1
    cases t1
    obtain ⟨its, tv, hs⟩ := seen_of I q
    have ev := ints_reps e2 rs
    subst ev
    have hl : its.length = is.length := by rw [← tv.length, List.length_map]
    refine call_sum_walkG (iter_seen (I.ok.hd hc) hs fun s₂ St k1 k2 k3 k4 k5 k6 W st => ?_)
    refine ⟨_, _, _, _, _, St, fun i => is.getD i 0, rfl, W, st, fun b hb => ?_, fun i v hv => ?_, fun h' tk t' hk => ?_⟩
    · rw [k2]
      simp only [List.mem_cons, List.mem_nil_iff, or_false] at hb
      rcases hb with rfl | rfl
      · exact Nat.lt_succ_self _
      · exact Nat.lt_succ_of_lt k6
    · have hi : i < its.length := by
        by_cases z : i < its.length
        · exact z
        · rw [List.getElem?_eq_none (by omega)] at hv; cases hv
      have : (is.map V.int)[i]? = some (V.int is[i]) := by rw [List.getElem?_map, List.getElem?_eq_getElem (by omega)]; rfl
      obtain ⟨u, hu, ru⟩ := tv.get this
      rw [hv] at hu; cases hu
      obtain ⟨tt, rfl⟩ := ru
      exact ⟨tt, by show _ = Value.int (is.getD i 0) tt; rw [List.getD_eq_getElem?_getD, List.getElem?_eq_getElem (by omega)]; rfl⟩
    · obtain ⟨hh, g, d, tt, os⟩ := s₂
      obtain rfl : g = s.gens := k3
      obtain rfl : d = s.drawn := k4
      obtain rfl : os = s.os := k5
      refine ⟨.int is.sum, H, I.kept (any_all_kept k1 hk), ⟨t', ?_⟩, ?_⟩
      · rw [hl, preSum_list]
      · exact l _ S _ H h .refl .int so
end
end G57
set_option Elab.async false
set_option linter.all false
set_option maxRecDepth 100000
set_option maxHeartbeats 400000
namespace G57
open PySem L2 PySem.Spec PyProof.Rows
def itxt (i : Int) : List Nat := (Str.ofString (toString i)).cps.toList
def rtxt (d : PyData) : List Nat := d.shown.cps.toList
def strsF : List D → Option (List (List Nat))
  | [] => some []
  | .str x :: ds => match strsF ds with
    | some xs => some (x :: xs)
    | none => none
  | _ :: _ => none
def joinL (sep : List Nat) : List (List Nat) → List Nat
  | [] => []
  | [x] => x
  | x :: y :: r => x ++ sep ++ joinL sep (y :: r)
def lenL : List (List Nat) → Nat
  | [] => 0
  | x :: xs => x.length + lenL xs
inductive Bi where
  | len | sum | any | all | abs | min | max | int | str | tuple | list | repr
  | isi (T : String) | rev | sorted | trange | lrange | ssort | maxd
def lenD : RLD
  | [.str x], S, Q => x.length ≤ 16777216 ∧ Q (.int x.length) S
  | [d], S, Q => ∃ ds, seqD S d = some ds ∧ Q (.int ds.length) S
  | _, _, _ => False
def absD : RLD
  | [.int i], S, Q => Q (.int i.natAbs) S
  | _, _, _ => False
def minD : RLD
  | [.int i, .int j], S, Q => Q (.int (min i j)) S
  | [.ref p], S, Q => ∃ ds is, S p = some (.lst ds) ∧ intsF ds = some is ∧ is ≠ [] ∧ ∀ m, m ∈ is → (∀ y ∈ is, m ≤ y) → Q (.int m) S
  | _, _, _ => False
def maxD : RLD
  | [.int i, .int j], S, Q => Q (.int (max i j)) S
  | [.ref p], S, Q => ∃ ds is, S p = some (.lst ds) ∧ intsF ds = some is ∧ is ≠ [] ∧ ∀ m, m ∈ is → (∀ y ∈ is, y ≤ m) → Q (.int m) S
  | _, _, _ => False
def intD : RLD
  | [.int i], S, Q => Q (.int i) S
  | [.bl b], S, Q => Q (.int (if b then 1 else 0)) S
  | [.str x], S, Q => ∃ n, PySem.intText? ⟨x.toArray⟩ = some n ∧ x.length ≤ 640 ∧ Q (.int n) S
  | _, _, _ => False
def strD : RLD
  | [.int i], S, Q => i.natAbs < 2 ^ 1900 ∧ Q (.str (itxt i)) S
  | [.bl b], S, Q => Q (.str (if b = true then [84, 114, 117, 101] else [70, 97, 108, 115, 101])) S
  | _, _, _ => False
def tupleD : RLD
  | [d], S, Q => ∃ ds, seqD S d = some ds ∧ Q (.tup ds) S
  | _, _, _ => False
def listD : RLD
  | [d], S, Q => ∃ ds, seqD S d = some ds ∧ ∀ p, S p = none → Q (.ref p) (put S p (.lst ds))
  | _, _, _ => False
def reprD : RLD
  | [d], S, Q => okS S d = true ∧ shS S d = true ∧ (pyS S d).shown.length ≤ 16777216 ∧ Q (.str (rtxt (pyS S d))) S
  | _, _, _ => False
def kindD (S : Sto) : D → Option String
  | .non => some "NoneType"
  | .bl _ => some "bool"
  | .int _ => some "int"
  | .str _ => some "str"
  | .tup _ => some "tuple"
  | .rol _ => some "list"
  | .ref p => match S p with
    | some (.lst _) => some "list"
    | none => none
  | .obj _ _ => none
def isK (k T : String) : Bool := k == T || (k == "bool" && T == "int")
def isiD (T : String) : RLD
  | [d], S, Q => ∃ k, kindD S d = some k ∧ Q (.bl (isK k T)) S
  | _, _, _ => False
def revD : RLD
  | [.str x], S, Q => x.length ≤ 16777216 ∧ Q (.str x.reverse) S
  | [.tup ds], S, Q => Q (.tup ds.reverse) S
  | [.ref p], S, Q => ∃ ds, S p = some (.lst ds) ∧ ∀ r, S r = none → Q (.ref r) (put S r (.lst ds.reverse))
  | _, _, _ => False
def sortedD : RLD
  | [.ref p], S, Q => ∃ ds, S p = some (.lst ds) ∧ ((∃ is, intsF ds = some is ∧ ∀ js : List Int, js.Perm is → js.Pairwise (· ≤ ·) → ∀ r, S r = none → Q (.ref r) (put S r (.lst (js.map .int)))) ∨
      ∃ xs, strsF ds = some xs ∧ xs.length < 64 ∧ ∀ ys : List (List Nat), ys.Perm xs → PyProof.Rows.sortedS (ys.map fun y => ⟨y.toArray⟩) = true → ∀ r, S r = none → Q (.ref r) (put S r (.lst (ys.map .str))))
  | _, _, _ => False
def rngD (lo hi : Int) : List D := (List.range (hi - lo).toNat).map fun i => .int (lo + (i : Nat))
def trangeD : RLD
  | [.int n], S, Q => 0 ≤ n ∧ n ≤ 16777216 ∧ Q (.tup (rngD 0 n)) S
  | _, _, _ => False
def lrangeD : RLD
  | [.int n], S, Q => 0 ≤ n ∧ n ≤ 16777216 ∧ ∀ p, S p = none → Q (.ref p) (put S p (.lst (rngD 0 n)))
  | _, _, _ => False
def ssortD : RLD
  | [.ref p], S, Q => ∃ ds is, S p = some (.lst ds) ∧ intsF ds = some is ∧ is.length < 60 ∧ ∀ js : List Int, js.Pairwise (· < ·) → (∀ k, k ∈ js ↔ k ∈ is) → ∀ r, S r = none → Q (.ref r) (put S r (.lst (js.map .int)))
  | _, _, _ => False
def maxdD : RLD
  | [.ref p, .int c], S, Q => ∃ ds is, S p = some (.lst ds) ∧ intsF ds = some is ∧ (is = [] → Q (.int c) S) ∧ (is ≠ [] → ∀ m, m ∈ is → (∀ y ∈ is, y ≤ m) → Q (.int m) S)
  | _, _, _ => False
def biD : Bi → RLD
  | .len => lenD | .sum => sumD | .any => anyD | .all => allD | .abs => absD | .min => minD | .max => maxD
  | .int => intD | .str => strD | .tuple => tupleD | .list => listD | .repr => reprD
  | .isi T => isiD T | .rev => revD | .sorted => sortedD | .trange => trangeD | .lrange => lrangeD | .ssort => ssortD | .maxd => maxdD
section
variable {X : Cx}
theorem seqs_ref {K : PySem.W.Frag} {H : Hp} {S : Sto} (so : StoOk K H S) {d : D} {xs : List V} {ds : List D} (r : Reps K H [d] xs) (h : seqD S d = some ds) :
    ∃ a vs, xs = [.ref a] ∧ (SqL K H a vs ∨ SqT K H a vs) ∧ Reps K H ds vs := by
  simp only [Reps] at r
  obtain ⟨x, _, e, r1, rfl⟩ := r
  obtain ⟨a, vs, rfl, q, t⟩ := seq_inv so r1 h
  exact ⟨a, vs, e, q, t⟩
theorem lenD_ok : CallR X (.builtin "len") (liftRL X.K lenD) := by
  intro pins s σ H xs us Q I t ⟨ds, S, Qd, r, so, h, l⟩
  unfold lenD at h
  split at h
  · rename_i x
    simp only [Reps, Rep] at r
    obtain ⟨_, _, rfl, rfl, rfl⟩ := r
    obtain ⟨hz, h⟩ := h
    refine call_len_str pins s σ H _ us Q I t ⟨_, rfl, by rw [str_len, szl]; exact hz, ?_⟩
    rw [str_len]
    exact l _ S _ H h .refl .int so
  · obtain ⟨es, e1, h⟩ := h
    obtain ⟨a, vs, rfl, q, rs⟩ := seqs_ref so r e1
    refine call_len_seq pins s σ H _ us Q I t ⟨a, vs, rfl, q, ?_⟩
    rw [← rs.length]
    exact l _ S _ H h .refl .int so
  · exact h.elim
theorem absD_ok : CallR X (.builtin "abs") (liftRL X.K absD) := by
  intro pins s σ H xs us Q I t ⟨ds, S, Qd, r, so, h, l⟩
  unfold absD at h
  split at h
  · rename_i i
    simp only [Reps, Rep] at r
    obtain ⟨_, _, rfl, rfl, rfl⟩ := r
    refine call_abs pins s σ H _ us Q I t ⟨i, rfl, ?_⟩
    have e : (if i < 0 then -i else i) = (i.natAbs : Int) := by split <;> omega
    rw [e]
    exact l _ S _ H h .refl .int so
  · exact h.elim
theorem minD_ok (hc : X.calm = true) : CallR X (.builtin "min") (liftRL X.K minD) := by
  intro pins s σ H xs us Q I t ⟨ds, S, Qd, r, so, h, l⟩
  unfold minD at h
  split at h
  · rename_i i j
    simp only [Reps, Rep] at r
    obtain ⟨_, _, rfl, rfl, _, _, rfl, rfl, rfl⟩ := r
    refine call_min2 hc pins s σ H _ us Q I t ⟨i, j, rfl, ?_⟩
    have e : (if j < i then j else i) = min i j := by split <;> omega
    rw [e]
    exact l _ S _ H h .refl .int so
  · rename_i p
    simp only [Reps, Rep] at r
    obtain ⟨_, _, rfl, rfl, rfl⟩ := r
    obtain ⟨es, is, e1, e2, hne, h⟩ := h
    obtain ⟨vs, q, rs⟩ := so p _ e1
    have e3 := ints_reps e2 rs
    subst e3
    exact cr_min hc pins s σ H _ us Q I t ⟨p, is, rfl, .inl (.inl q), List.length_pos_iff.mpr hne, fun m h1 h2 => l _ S _ H (h m h1 h2) .refl .int so⟩
  · exact h.elim
theorem maxD_ok (hc : X.calm = true) : CallR X (.builtin "max") (liftRL X.K maxD) := by
  intro pins s σ H xs us Q I t ⟨ds, S, Qd, r, so, h, l⟩
  unfold maxD at h
  split at h
  · rename_i i j
    simp only [Reps, Rep] at r
    obtain ⟨_, _, rfl, rfl, _, _, rfl, rfl, rfl⟩ := r
    refine call_max2 hc pins s σ H _ us Q I t ⟨i, j, rfl, ?_⟩
    have e : (if j > i then j else i) = max i j := by split <;> omega
    rw [e]
    exact l _ S _ H h .refl .int so
  · rename_i p
    simp only [Reps, Rep] at r
    obtain ⟨_, _, rfl, rfl, rfl⟩ := r
    obtain ⟨es, is, e1, e2, hne, h⟩ := h
    obtain ⟨vs, q, rs⟩ := so p _ e1
    have e3 := ints_reps e2 rs
    subst e3
    exact cr_max hc pins s σ H _ us Q I t ⟨p, is, rfl, .inl (.inl q), List.length_pos_iff.mpr hne, fun m h1 h2 => l _ S _ H (h m h1 h2) .refl .int so⟩
  · exact h.elim
theorem intD_ok : CallR X (.type "int") (liftRL X.K intD) := by
  intro pins s σ H xs us Q I t ⟨ds, S, Qd, r, so, h, l⟩
  unfold intD at h
  split at h
  · rename_i i
    simp only [Reps, Rep] at r
    obtain ⟨_, _, rfl, rfl, rfl⟩ := r
    exact call_int1 pins s σ H _ us Q I t (.inl ⟨i, rfl, l _ S _ H h .refl .int so⟩)
  · rename_i i
    simp only [Reps, Rep] at r
    obtain ⟨_, _, rfl, rfl, rfl⟩ := r
    exact call_int1 pins s σ H _ us Q I t (.inr ⟨i, rfl, l _ S _ H h .refl .int so⟩)
  · rename_i x
    simp only [Reps, Rep] at r
    obtain ⟨_, _, rfl, rfl, rfl⟩ := r
    obtain ⟨n, e, hz, h⟩ := h
    exact call_int_str pins s σ H _ us Q I t ⟨_, n, rfl, e, by rw [str_len]; exact hz, l _ S _ H h .refl .int so⟩
  · exact h.elim
theorem log2_1920 {i : Int} (h : i.natAbs < 2 ^ 1900) : i.natAbs.log2 < 1920 :=
  PySem.Spec.log2_small (Nat.lt_of_lt_of_le h (Nat.pow_le_pow_right (by decide) (by decide)))
theorem call_str_bl : CallR X (.type "str") (fun xs H Q => ∃ b : Bool, xs = [.bl b] ∧ Q (.str (if b then "True" else "False")) H) := by
  intro pins s σ H xs us Q I r h
  obtain ⟨b, rfl, q⟩ := h
  obtain ⟨u, rfl, r1⟩ := vals1 r
  cases r1
  exact PySem.P.str_of_bool ⟨.str _, H, I.tok _, ⟨_, rfl⟩, q⟩
theorem strD_ok : CallR X (.type "str") (liftRL X.K strD) := by
  intro pins s σ H xs us Q I t ⟨ds, S, Qd, r, so, h, l⟩
  unfold strD at h
  split at h
  · rename_i i
    simp only [Reps, Rep] at r
    obtain ⟨_, _, rfl, rfl, rfl⟩ := r
    exact call_str_int pins s σ H _ us Q I t ⟨i, rfl, log2_1920 h.1, l _ S _ H h.2 .refl (by simp only [Rep]; rfl) so⟩
  · rename_i b
    simp only [Reps, Rep] at r
    obtain ⟨_, _, rfl, rfl, rfl⟩ := r
    exact call_str_bl pins s σ H _ us Q I t ⟨b, rfl, l _ S _ H h .refl (by simp only [Rep]; cases b <;> rfl) so⟩
  · exact h.elim
theorem tupleD_ok : CallR X (.type "tuple") (liftRL X.K tupleD) := by
  intro pins s σ H xs us Q I t ⟨ds, S, Qd, r, so, h, l⟩
  unfold tupleD at h
  split at h
  · rename_i d
    obtain ⟨es, e1, h⟩ := h
    obtain ⟨a, vs, rfl, q, rs⟩ := seqs_ref so r e1
    rcases q with q | q
    · exact call_tuple_of pins s σ H _ us Q I t ⟨a, vs, rfl, .inl ⟨q, fun p hp => l.tup so h rs p hp⟩⟩
    · exact call_tuple_of pins s σ H _ us Q I t ⟨a, vs, rfl, .inr ⟨q, l _ S _ H h .refl (.tup_mk q rs) so⟩⟩
  · exact h.elim
theorem listD_ok : CallR X (.type "list") (liftRL X.K listD) := by
  intro pins s σ H xs us Q I t ⟨ds, S, Qd, r, so, h, l⟩
  unfold listD at h
  split at h
  · rename_i d
    obtain ⟨es, e1, h⟩ := h
    obtain ⟨a, vs, rfl, q, rs⟩ := seqs_ref so r e1
    exact call_list_of pins s σ H _ us Q I t ⟨a, vs, rfl, q, fun p hp => l.lst so h rs p hp⟩
  · exact h.elim
theorem ints_rep0 {K : PySem.W.Frag} {H : Hp} : ∀ ns : List Int, Reps K H (ns.map D.int) (ns.map V.int)
  | [] => .nil
  | n :: ns => .cons .int (ints_rep0 ns)
theorem strs_reps {K : PySem.W.Frag} {H : Hp} : ∀ {ds : List D} {xs : List (List Nat)} {vs : List V}, strsF ds = some xs → Reps K H ds vs → vs = (xs.map fun x => (⟨x.toArray⟩ : Str)).map V.str
  | [], _, _, h, r => by simp only [strsF] at h; cases h; simp only [Reps] at r; exact r
  | d :: ds, is, [], _, r => by simp only [Reps] at r; obtain ⟨_, _, e, _⟩ := r; cases e
  | d :: ds, is, v :: vs, h, r => by
    cases d <;> simp only [strsF] at h <;> try cases h
    case str i =>
      cases h2 : strsF ds with
      | none => rw [h2] at h; cases h
      | some is' =>
        rw [h2] at h; cases h
        have r1 := r.inv.1
        simp only [Rep] at r1
        rw [List.map_cons, List.map_cons, r1, strs_reps h2 r.inv.2]
theorem strs_rep0 {K : PySem.W.Frag} {H : Hp} : ∀ ns : List (List Nat), Reps K H (ns.map D.str) (ns.map (V.str ∘ fun y => (⟨y.toArray⟩ : Str)))
  | [] => .nil
  | n :: ns => .cons (by simp only [Rep]; rfl) (strs_rep0 ns)
theorem sortedD_ok : CallR X (.builtin "sorted") (liftRL X.K sortedD) := by
  intro pins s σ H xs us Q I t ⟨ds, S, Qd, r, so, h, l⟩
  unfold sortedD at h
  split at h
  · rename_i p
    simp only [Reps, Rep] at r
    obtain ⟨_, _, rfl, rfl, rfl⟩ := r
    obtain ⟨es, e1, h⟩ := h
    obtain ⟨vs, q, rs⟩ := so p _ e1
    rcases h with ⟨is, e2, h⟩ | ⟨zs, e2, h64, h⟩
    case inr =>
      have e3 := strs_reps e2 rs
      subst e3
      refine cr_sortedS pins s σ H _ us Q I t ⟨p, zs.map fun y => ⟨y.toArray⟩, rfl, .inl (.inl q), by simpa using h64, fun ys a h1 h2 ha => ?_⟩
      obtain ⟨zs', hz1, hz2⟩ : ∃ zs' : List (List Nat), ys = zs'.map (fun y => (⟨y.toArray⟩ : Str)) ∧ zs'.Perm zs := by
        refine ⟨ys.map fun y => y.cps.toList, ?_, ?_⟩
        · rw [List.map_map]
          exact (List.map_id' ys).symm
        · have := h1.map fun y : Str => y.cps.toList
          rw [List.map_map] at this
          rw [show (fun y : Str => y.cps.toList) ∘ (fun y : List Nat => (⟨y.toArray⟩ : Str)) = id from rfl, List.map_id] at this
          exact this
      rw [hz1] at h2 ⊢
      rw [List.map_map]
      exact l.lst so (fun b hb => h zs' hz2 h2 b hb) (strs_rep0 zs') a ha
    have e3 := ints_reps e2 rs
    subst e3
    exact cr_sortedI pins s σ H _ us Q I t ⟨p, is, rfl, .inl (.inl q), fun js a h1 h2 ha => l.lst so (fun b hb => h js h1 h2 b hb) (ints_rep0 js) a ha⟩
  · exact h.elim
theorem reprD_ok (dg : PySem.W.nsIn X.K cStatics "sys.int_max_str_digits" = some none) (hg : X.A.guards = some []) (hu : X.A.units + 64 < cLine) : CallR X (.builtin "repr") (liftRL X.K reprD) := by
  intro pins s σ H xs us Q I t ⟨ds, S, Qd, r, so, h, l⟩
  unfold reprD at h
  split at h
  · rename_i d
    obtain ⟨h1, hsh, h2, h3⟩ := h
    simp only [Reps] at r
    obtain ⟨x, _, rfl, r1, rfl⟩ := r
    cases t with
    | cons t1 t2 =>
      cases t2
      rename_i u
      obtain ⟨k1, k3, k4⟩ := okS_lay h1
      have k2 := shS_show hsh
      have dp := dpS so h1 r1
      have fin : ∀ h' tk tk', (∀ b o, s.heap.get? b = some o → h'.get? b = some o) → EP X pins σ Q (.str (pyS S d).shown tk) { s with heap := h', toks := tk' } := fun h' tk tk' hk =>
        ⟨.str (pyS S d).shown, H, I.kept hk, ⟨tk, rfl⟩, l _ S _ H h3 .refl (by simp only [Rep, rtxt]) so⟩
      have kk : ∀ b o, s.heap.get? b = some o → s.heap.get? b = some o := fun _ _ e => e
      obtain ⟨as, rd⟩ := Dp.reads I _ _ u dp t1
      generalize hpy : pyS S d = q at *
      cases rd with
      | none => exact PySem.P.repr_of_none (by have := fin s.heap s.toks (s.toks + 1) kk; simp only [PyData.shown] at this; exact this)
      | bool b => exact PySem.P.repr_of_bool (by have := fin s.heap s.toks (s.toks + 1) kk; simp only [PyData.shown] at this; exact this)
      | int i t => exact repr_of_mid (by simpa [midP] using k2) I.kIn dg (by have := fin s.heap s.toks (s.toks + 1) kk; simp only [PyData.shown] at this; exact this)
      | str x t => exact PySem.P.repr_of_str (by have := fin s.heap s.toks (s.toks + 1) kk; simp only [PyData.shown] at this; exact this) (by simp only [PyData.shown] at h2; rw [szl]; exact h2)
      | list e1 e2 e3 e4 => exact repr_reads_mid I.kIn dg (.list e1 e2 e3 e4) k2 (by rw [szl]; exact h2) hg (by omega) kk (fun h' u tk hk => fin h' u tk hk)
      | tuple e1 e2 e3 e4 => exact repr_reads_mid I.kIn dg (.tuple e1 e2 e3 e4) k2 (by rw [szl]; exact h2) hg (by omega) kk (fun h' u tk hk => fin h' u tk hk)
      | dict e1 e2 e3 e4 e5 => simp [PyData.hasDict] at k3
  · exact h.elim
end
end G57
set_option Elab.async false
set_option linter.all false
set_option maxRecDepth 100000
set_option maxHeartbeats 400000
namespace G57
open PySem L2 PySem.Spec PyProof.Rows
inductive Mt where
  | append | extend | pop | join | count | find | endswith | startswith | index
def appD : D → RLD
  | .ref p, [d], S, Q => ∃ ds, S p = some (.lst ds) ∧ ds.length < 16777216 ∧ Q .non (put S p (.lst (ds ++ [d])))
  | _, _, _, _ => False
def extD : D → RLD
  | .ref p, [.ref q], S, Q => ∃ ds es, S p = some (.lst ds) ∧ S q = some (.lst es) ∧ ds.length + es.length ≤ 16777216 ∧ Q .non (put S p (.lst (ds ++ es)))
  | _, _, _, _ => False
def popD : D → RLD
  | .ref p, [], S, Q => ∃ ds d, S p = some (.lst (ds ++ [d])) ∧ Q d (put S p (.lst ds))
  | .ref p, [.int i], S, Q => ∃ ds d, S p = some (.lst ds) ∧ 0 ≤ i ∧ i < 2 ^ 40 ∧ ds[i.toNat]? = some d ∧ Q d (put S p (.lst (ds.eraseIdx i.toNat)))
  | _, _, _, _ => False
def joinD : D → RLD
  | .str a, [d], S, Q => ∃ ds xs, seqD S d = some ds ∧ strsF ds = some xs ∧ lenL xs + xs.length * a.length ≤ 16777216 ∧ Q (.str (joinL a xs)) S
  | _, _, _, _ => False
def countD : D → RLD
  | .str a, [.str [c]], S, Q => Q (.int (a.count c)) S
  | _, _, _, _ => False
def FindS (x y : List Nat) (lo : Nat) (r : Int) : Prop := (r = -1 ∧ ∀ i, lo ≤ i → ¬ AtL x y i) ∨ ∃ i : Nat, r = i ∧ lo ≤ i ∧ AtL x y i ∧ ∀ k, lo ≤ k → k < i → ¬ AtL x y k
def findD : D → RLD
  | .str a, [.str b], S, Q => ∀ r, FindS a b 0 r → Q (.int r) S
  | .str a, [.str b, .int i], S, Q => 0 ≤ i ∧ ∀ r, FindS a b i.toNat r → Q (.int r) S
  | _, _, _, _ => False
def endsD : D → RLD
  | .str a, [.str b], S, Q => ∀ t : Bool, (t = true ↔ b <:+ a) → Q (.bl t) S
  | _, _, _, _ => False
def startsD : D → RLD
  | .str a, [.str b], S, Q => ∀ t : Bool, (t = true ↔ b <+: a) → Q (.bl t) S
  | _, _, _, _ => False
def kndD : D → Nat
  | .int _ => 1
  | .bl _ => 2
  | .str _ => 3
  | _ => 0
def indexD : D → RLD
  | .ref p, [d], S, Q => ∃ ds, S p = some (.lst ds) ∧ kndD d ≠ 0 ∧ (∀ e ∈ ds, kndD e = kndD d) ∧ ∃ j : Nat, ds[j]? = some d ∧ (∀ m, m < j → ds[m]? ≠ some d) ∧ Q (.int j) S
  | _, _, _, _ => False
def mtD : Mt → D → RLD
  | .append => appD | .extend => extD | .pop => popD | .join => joinD | .count => countD | .find => findD | .endswith => endsD | .startswith => startsD | .index => indexD
def liftM (K : PySem.W.Frag) (r : D → RLD) : V → List V → Hp → VK → Prop := fun x xs H Q => ∃ a ds S Qd, Rep K H a x ∧ Reps K H ds xs ∧ StoOk K H S ∧ r a ds S Qd ∧ Lv K H Qd Q
section
variable {X : Cx}
theorem Lv.put {K : PySem.W.Frag} {H : Hp} {Qd : DK} {Q : VK} {S : Sto} {p : Addr} {d : D} {v : V} {ds : List D} {us vs : List V} (l : Lv K H Qd Q) (so : StoOk K H S) (e : H p = some (.lst us)) (r : Reps K H ds vs) (rv : Rep K H d v) (h : Qd d (G57.put S p (.lst ds))) : Q v (upd H p (.lst vs)) :=
  l d _ v _ h (Keep.lst e) (rv.mono (Keep.lst e)) (so.write e r)
theorem appD_ok : MtM X "list.append" (liftM X.K appD) := by
  intro pins s σ H x xs v us Q I rx t ⟨a, ds, S, Qd, ra, r, so, h, l⟩
  unfold appD at h
  split at h
  · rename_i p d
    simp only [Rep] at ra
    simp only [Reps] at r
    obtain ⟨y, _, rfl, ry, rfl⟩ := r
    obtain ⟨es, e, hz, h⟩ := h
    obtain ⟨vs, q, rs⟩ := so p _ e
    exact mt_append pins s σ H x _ v us Q I rx t ⟨p, vs, y, ra, rfl, q, by rw [← rs.length, szl]; exact hz, l.put so q (rs.append (.cons ry .nil)) .non h⟩
  · exact h.elim
theorem extD_ok : MtM X "list.extend" (liftM X.K extD) := by
  intro pins s σ H x xs v us Q I rx t ⟨a, ds, S, Qd, ra, r, so, h, l⟩
  unfold extD at h
  split at h
  · rename_i p b
    simp only [Rep] at ra
    simp only [Reps, Rep] at r
    obtain ⟨y, _, rfl, rfl, rfl⟩ := r
    obtain ⟨es, fs, e, e2, hz, h⟩ := h
    obtain ⟨vs, q, rs⟩ := so p _ e
    obtain ⟨ws, q2, rs2⟩ := so b _ e2
    exact mt_extend pins s σ H x _ v us Q I rx t ⟨p, b, vs, ws, ra, rfl, q, q2, by rw [← rs.length, ← rs2.length, szl]; exact hz, l.put so q (rs.append rs2) .non h⟩
  · exact h.elim
theorem Reps.last {K : PySem.W.Frag} {H : Hp} {d : D} : ∀ {ds : List D} {vs : List V}, Reps K H (ds ++ [d]) vs → ∃ us v, vs = us ++ [v] ∧ Reps K H ds us ∧ Rep K H d v
  | [], vs, r => by
    simp only [List.nil_append, Reps] at r
    obtain ⟨v, _, rfl, r1, rfl⟩ := r
    exact ⟨[], v, rfl, .nil, r1⟩
  | e :: ds, vs, r => by
    simp only [List.cons_append, Reps] at r
    obtain ⟨v, w, rfl, r1, r2⟩ := r
    obtain ⟨us, z, rfl, r3, r4⟩ := Reps.last r2
    exact ⟨v :: us, z, rfl, .cons r1 r3, r4⟩
theorem Reps.erase {K : PySem.W.Frag} {H : Hp} : ∀ {ds : List D} {vs : List V} (n : Nat), Reps K H ds vs → Reps K H (ds.eraseIdx n) (vs.eraseIdx n)
  | [], _, _, h => by simp only [Reps] at h; subst h; exact .nil
  | d :: ds, v :: vs, 0, h => h.inv.2
  | d :: ds, v :: vs, n + 1, h => .cons h.inv.1 (h.inv.2.erase n)
  | d :: ds, [], _, h => by simp only [Reps] at h; obtain ⟨_, _, e, _⟩ := h; cases e
theorem popD_ok : MtM X "list.pop" (liftM X.K popD) := by
  intro pins s σ H x xs v us Q I rx t ⟨a, ds, S, Qd, ra, r, so, h, l⟩
  unfold popD at h
  split at h
  · rename_i p
    simp only [Rep] at ra
    simp only [Reps] at r
    subst r
    obtain ⟨es, d, e, h⟩ := h
    obtain ⟨vs, q, rs⟩ := so p _ e
    obtain ⟨ws, z, rfl, r1, r2⟩ := rs.last
    refine mt_pop pins s σ H x _ v us Q I rx t ⟨p, _, z, ra, rfl, q, by simp, ?_⟩
    rw [List.dropLast_concat]
    exact l.put so q r1 r2 h
  · rename_i p i
    simp only [Rep] at ra
    simp only [Reps, Rep] at r
    obtain ⟨y, _, rfl, rfl, rfl⟩ := r
    obtain ⟨es, d, e, h0, h1, h2, h⟩ := h
    obtain ⟨vs, q, rs⟩ := so p _ e
    obtain ⟨z, e3, rz⟩ := rs.get h2
    have hlt : i.toNat < vs.length := by
      by_cases k : i.toNat < vs.length
      · exact k
      · rw [List.getElem?_eq_none (by omega)] at e3; cases e3
    refine mt_popAt pins s σ H x _ v us Q I rx t ⟨p, vs, i, i.toNat, z, ra, rfl, q, by omega, by omega, ?_, e3, l.put so q (rs.erase _) rz h⟩
    unfold seqIndex?
    simp [show ¬ i < 0 by omega, h0]
    omega
  · exact h.elim
theorem join_cps0 (a : List Nat) : ∀ xs : List (List Nat), Str.join ⟨a.toArray⟩ (xs.map fun x => (⟨x.toArray⟩ : Str)) = ⟨(joinL a xs).toArray⟩
  | [] => rfl
  | [x] => rfl
  | x :: y :: r => by
    have ih := join_cps0 a (y :: r)
    show (⟨x.toArray⟩ : Str) ++ ⟨a.toArray⟩ ++ Str.join ⟨a.toArray⟩ ((y :: r).map fun x => (⟨x.toArray⟩ : Str)) = _
    rw [ih, cps_app, cps_app]
    rfl
theorem join_cps (a : List Nat) (xs : List (List Nat)) : Txt.join ⟨a.toArray⟩ (xs.map fun x => (⟨x.toArray⟩ : Str)) = ⟨(joinL a xs).toArray⟩ :=
  (TL.join_eq _ _).trans (join_cps0 a xs)
theorem lenL_sum : ∀ xs : List (List Nat), ((xs.map fun x => (⟨x.toArray⟩ : Str)).map (·.length)).sum = lenL xs
  | [] => rfl
  | x :: r => by rw [List.map_cons, List.map_cons, List.sum_cons, lenL_sum r, str_len]; rfl
theorem joinD_ok : MtR X "str.join" (liftM X.K joinD) := by
  intro pins s σ H x xs v us Q I rx t ⟨a, ds, S, Qd, ra, r, so, h, l⟩
  unfold joinD at h
  split at h
  · rename_i z d
    simp only [Rep] at ra
    obtain ⟨es, ws, e1, e2, hz, h⟩ := h
    obtain ⟨p, vs, rfl, q, rs⟩ := seqs_ref so r e1
    have e3 := strs_reps e2 rs
    subst e3
    refine mt_join pins s σ H x _ v us Q I rx t ⟨_, p, _, ra, rfl, q, ?_, ?_⟩
    · rw [lenL_sum, List.length_map, str_len]; exact hz
    · rw [join_cps]; exact l _ S _ H h .refl .str so
  · exact h.elim
theorem cnt_count (c : Nat) : ∀ x : List Nat, cnt c x = (x.count c : Int)
  | [] => rfl
  | n :: x => by
    rw [cnt_cons, cnt_count c x, List.count_cons]
    by_cases h : n = c
    · subst h; simp; omega
    · simp [h]
theorem countD_ok : MtR X "str.count" (liftM X.K countD) := by
  intro pins s σ H x xs v us Q I rx t ⟨a, ds, S, Qd, ra, r, so, h, l⟩
  unfold countD at h
  split at h
  · rename_i z c
    simp only [Rep] at ra
    simp only [Reps, Rep] at r
    obtain ⟨y, _, rfl, rfl, rfl⟩ := r
    refine mt_count pins s σ H x _ v us Q I rx t ⟨_, _, ra, rfl, ?_⟩
    have e : Txt.count ⟨z.toArray⟩ ⟨#[c]⟩ = (z.count c : Int) := by
      rw [count_is]
      exact cnt_count c z
    rw [e]
    exact l _ S _ H h .refl .int so
  · exact h.elim
theorem find_S {x y : List Nat} {lo : Nat} : FindS x y lo (match Builtin.Str.occurrences ⟨x.toArray⟩ ⟨y.toArray⟩ lo (⟨x.toArray⟩ : Str).length 1 with | k :: _ => (k : Int) | [] => -1) := by
  have at' : ∀ i, StrLaws.At ⟨x.toArray⟩ ⟨y.toArray⟩ (⟨x.toArray⟩ : Str).length i ↔ AtL x y i := fun i => at_AtL
  rcases StrLaws.occ_head_from ⟨x.toArray⟩ ⟨y.toArray⟩ lo 1 (Nat.le_refl 1) with ⟨e, h⟩ | ⟨i, r, e, h1, h2, h3⟩
  · rw [e]
    exact .inl ⟨rfl, fun i hi z => h i hi ((at' i).mpr z)⟩
  · rw [e]
    exact .inr ⟨i, rfl, h1, (at' i).mp h2, fun k hk hk2 z => h3 k hk hk2 ((at' k).mpr z)⟩
theorem findD_ok : MtR X "str.find" (liftM X.K findD) := by
  intro pins s σ H x xs v us Q I rx t ⟨a, ds, S, Qd, ra, r, so, h, l⟩
  unfold findD at h
  split at h
  · rename_i z w
    simp only [Rep] at ra
    simp only [Reps, Rep] at r
    obtain ⟨_, _, rfl, rfl, rfl⟩ := r
    exact mt_find pins s σ H x _ v us Q I rx t ⟨_, _, ra, rfl, l _ S _ H (h _ find_S) .refl .int so⟩
  · rename_i z w i
    simp only [Rep] at ra
    simp only [Reps, Rep] at r
    obtain ⟨_, _, rfl, rfl, _, _, rfl, rfl, rfl⟩ := r
    obtain ⟨h0, h⟩ := h
    refine mt_find3 pins s σ H x _ v us Q I rx t ⟨_, _, i, ra, rfl, ?_⟩
    have e : fromIndex (⟨z.toArray⟩ : Str).length i = i.toNat := by
      unfold fromIndex
      rw [if_neg (by omega)]
      omega
    have f := find_S (x := z) (y := w) (lo := i.toNat)
    rw [← e] at f
    rw [e] at f
    refine l _ S _ H (h _ ?_) .refl .int so
    unfold Txt.find3
    rw [e]
    exact f
  · exact h.elim
theorem ends_iff {x y : List Nat} : Txt.endswith ⟨x.toArray⟩ ⟨y.toArray⟩ = true ↔ y <:+ x := by
  unfold Txt.endswith
  rw [Bool.and_eq_true, decide_eq_true_eq, StrLaws.subAt_eq, str_len, str_len, beq_iff_eq]
  show 0 + y.length ≤ x.length ∧ (x.drop (x.length - y.length)).take y.length = y ↔ _
  constructor
  · rintro ⟨h1, h2⟩
    rw [List.take_of_length_le (by simp; omega)] at h2
    exact h2 ▸ List.drop_suffix _ _
  · rintro ⟨t, rfl⟩
    refine ⟨by simp, ?_⟩
    simp
theorem starts_iff {x y : List Nat} : Txt.startswith ⟨x.toArray⟩ ⟨y.toArray⟩ = true ↔ y <+: x := by
  unfold Txt.startswith
  rw [Bool.and_eq_true, decide_eq_true_eq, StrLaws.subAt_eq, str_len, str_len, beq_iff_eq]
  show 0 + y.length ≤ x.length ∧ (x.drop 0).take y.length = y ↔ _
  constructor
  · rintro ⟨h1, h2⟩
    rw [List.drop_zero] at h2
    exact h2 ▸ List.take_prefix _ _
  · rintro ⟨t, rfl⟩
    exact ⟨by simp, by simp⟩
theorem endsD_ok : MtR X "str.endswith" (liftM X.K endsD) := by
  intro pins s σ H x xs v us Q I rx t ⟨a, ds, S, Qd, ra, r, so, h, l⟩
  unfold endsD at h
  split at h
  · simp only [Rep] at ra
    simp only [Reps, Rep] at r
    obtain ⟨_, _, rfl, rfl, rfl⟩ := r
    exact mt_endswith pins s σ H x _ v us Q I rx t ⟨_, _, ra, rfl, l _ S _ H (h _ ends_iff) .refl .bl so⟩
  · exact h.elim
theorem startsD_ok : MtR X "str.startswith" (liftM X.K startsD) := by
  intro pins s σ H x xs v us Q I rx t ⟨a, ds, S, Qd, ra, r, so, h, l⟩
  unfold startsD at h
  split at h
  · simp only [Rep] at ra
    simp only [Reps, Rep] at r
    obtain ⟨_, _, rfl, rfl, rfl⟩ := r
    exact mt_startswith pins s σ H x _ v us Q I rx t ⟨_, _, ra, rfl, l _ S _ H (h _ starts_iff) .refl .bl so⟩
  · exact h.elim
theorem rep_kind {K : PySem.W.Frag} {H : Hp} {d e : D} {v w : V} (r : Rep K H d v) (q : Rep K H e w) (h0 : kndD d ≠ 0) (h : kndD e = kndD d) : flatV v = true ∧ flatV w = true ∧ (eqV w v = true ↔ e = d) := by
  cases d <;> first | exact absurd rfl h0 | skip
  all_goals cases e <;> first | (exfalso; simp [kndD] at h; done) | skip
  all_goals
    simp only [Rep] at r q
    subst r q
    refine ⟨rfl, rfl, ?_⟩
    simp [eqV]
theorem indexD_ok : MtR X "list.index" (liftM X.K indexD) := by
  intro pins s σ H x xs v us Q I rx t ⟨a, ds, S, Qd, ra, r, so, h, l⟩
  unfold indexD at h
  split at h
  · rename_i p d
    simp only [Rep] at ra
    simp only [Reps] at r
    obtain ⟨y, _, rfl, ry, rfl⟩ := r
    obtain ⟨es, e, hk, hall, j, hj, hno, h⟩ := h
    obtain ⟨vs, q, rs⟩ := so p _ e
    obtain ⟨z, hz, rz⟩ := rs.get hj
    have k0 := rep_kind ry rz hk rfl
    refine mt_index pins s σ H x _ v us Q I rx t ⟨p, vs, y, j, z, ra, rfl, Or.inl (Or.inl q), k0.1, ?_, hz, k0.2.2.mpr rfl, fun m z' hm hz' => ?_, l _ S _ H h .refl .int so⟩
    · refine List.all_eq_true.mpr fun w hw => ?_
      obtain ⟨i, hi⟩ := List.getElem?_of_mem hw
      have hil : i < es.length := by rw [rs.length]; exact (List.getElem?_eq_some_iff.mp hi).1
      obtain ⟨w', h1, h2⟩ := rs.get (List.getElem?_eq_getElem hil)
      rw [hi] at h1
      cases h1
      exact (rep_kind ry h2 hk (hall _ (List.getElem_mem hil))).2.1
    · have hil : m < es.length := by rw [rs.length]; exact (List.getElem?_eq_some_iff.mp hz').1
      obtain ⟨w', h1, h2⟩ := rs.get (List.getElem?_eq_getElem hil)
      rw [hz'] at h1
      cases h1
      have k1 := (rep_kind ry h2 hk (hall _ (List.getElem_mem hil))).2.2
      cases hq : eqV z' y with
      | false => rfl
      | true => exact absurd (by rw [List.getElem?_eq_getElem hil, k1.mp hq]) (hno m hm)
  · exact h.elim
end
end G57
set_option Elab.async false
set_option linter.all false
set_option maxRecDepth 100000
set_option maxHeartbeats 400000
namespace G57
open PySem L2
inductive Pt where
  | v (i : Nat) | t (p : Pt) | nil | cons (a r : Pt)
inductive Ex where
  | var (i : Nat) | con (d : D)
  | bin (op : Operator) (a b : Ex) | neg (a : Ex) | not (a : Ex)
  | cmp (op : CmpOp) (a b : Ex) | chain (o1 o2 : CmpOp) (a b c : Ex)
  | and (a b : Ex) | or (a b : Ex) | ite (c a b : Ex)
  | call (f : Nat) (as : Ex) | bi (f : Bi) (as : Ex) | mt (m : Mt) (o as : Ex)
  | tup (as : Ex) | lst (as : Ex) | idx (a b : Ex) | sl (a lo hi : Ex)
  | lc (vs : List Nat) (p : Pt) (it c e : Ex)
  | fs (as : Ex)
  | nil | cons (a r : Ex)
  | iE (a : Ex) | iR1 (a : Ex) | iR2 (a b : Ex) | iZ (a b : Ex) | iN (a : Ex)
  | att (f : Nat) (a : Ex) | prp (f : Nat) (a : Ex) | meth (f : Nat) (o as : Ex) | oop (f : Nat) (a b : Ex) | ocm (op : CmpOp) (f : Nat) (a b : Ex) | iso (f : Nat) (a : Ex)
  | iR3 (a b c : Ex)
inductive Sx where
  | asg (p : Pt) (e : Ex) | set (o i e : Ex) | ex (e : Ex) | ret (e : Ex)
  | iff (c : Ex) (a b : Sx) | loop (p : Pt) (it : Ex) (b : Sx) | wh (c : Ex) (b : Sx)
  | brk | cnt | pass | rai
  | rais (f c : Nat) (e : Ex) | tryx (f fx : Nat) (m : Bool) (as : Ex) (r : Bool) (ei x : Nat) (h : Sx)
  | lc2 (j : Nat) (vs : List Nat) (p : Pt) (it : Ex) (vs1 : List Nat) (p1 : Pt) (it1 e : Ex)
  | nil | cons (a r : Sx)
abbrev Spec := List D → Sto → DK → Prop
abbrev Tab := Nat → Option Spec
def opD : Operator → R2D
  | .Add => addD | .Sub => subD | .Mult => mulD | .FloorDiv => fdivD | .Mod => modD | .Pow => powD
  | _ => fun _ _ _ _ => False
def negD : D → Sto → DK → Prop
  | .int i, S, Q => Q (.int (-i)) S
  | _, _, _ => False
def truthD (d : D) (S : Sto) (Q : Bool → Prop) : Prop := match d with
  | .str x => x.length ≤ 16777216 ∧ Q (!x.isEmpty)
  | d => ∃ b, truD S d = some b ∧ Q b
def wipeD (env : En) : List Nat → En
  | [] => env
  | v :: vs => (wipeD env vs).set v none
mutual
def wpP : Pt → D → Sto → En → (En → Prop) → Prop
  | .v i, d, _, env, Q => Q (env.set i (some d))
  | .t p, d, S, env, Q => ∃ ds, seqD S d = some ds ∧ wpPs p ds S env Q
  | .nil, _, _, _, _ => False
  | .cons _ _, _, _, _, _ => False
def wpPs : Pt → List D → Sto → En → (En → Prop) → Prop
  | .nil, [], _, env, Q => Q env
  | .cons a r, d :: ds, S, env, Q => wpP a d S env fun env' => wpPs r ds S env' Q
  | _, _, _, _, _ => False
end
def lcRun (p : Addr) (G : Sto → Prop) (body : D → Sto → (Option D → Sto → Prop) → Prop) (Q : Sto → Prop) : List D → List D → Sto → Prop
  | [], _, S => Q S
  | x :: xs, acc, S => body x S fun y S1 => S1 p = some (.lst acc) ∧ match y with
    | none => G S1 ∧ lcRun p G body Q xs acc S1
    | some y => acc.length < 16777216 ∧ G (put S1 p (.lst (acc ++ [y]))) ∧ lcRun p G body Q xs (acc ++ [y]) (put S1 p (.lst (acc ++ [y])))
def lcRun2 (G : Sto → Prop) (body : D → Sto → (Sto → Prop) → Prop) (Q : Sto → Prop) : List D → Sto → Prop
  | [], S => Q S
  | x :: xs, S => body x S fun S1 => G S1 ∧ lcRun2 G body Q xs S1
abbrev IK := List D → (Sto → Prop) → Sto → Prop
def iterD (d : D) (S : Sto) (K : IK) : Prop := match d with
  | .tup ds | .rol ds => K ds (fun _ => True) S
  | .str x => K (x.map fun c => .str [c]) (fun _ => True) S
  | .ref p => ∃ ds, S p = some (.lst ds) ∧ K ds (fun S => S p = some (.lst ds)) S
  | _ => False
def smallI (_ : Int) : Prop := True
def smallJ (i : Int) : Prop := -(2 ^ 62) ≤ i ∧ i < 2 ^ 62
def zipD : List D → List D → List D
  | x :: xs, y :: ys => .tup [x, y] :: zipD xs ys
  | _, _ => []
def enumD : Nat → List D → List D
  | _, [] => []
  | i, x :: xs => .tup [.int (i : Nat), x] :: enumD (i + 1) xs
def range1D (d : D) (S : Sto) (K : IK) : Prop := match d with
  | .int n => smallI n ∧ K (rngD 0 n) (fun _ => True) S
  | _ => False
def range2D (d e : D) (S : Sto) (K : IK) : Prop := match d, e with
  | .int m, .int n => smallI m ∧ smallI n ∧ K (rngD m n) (fun _ => True) S
  | _, _ => False
def srcD (S : Sto) : D → Option (List D × (Sto → Prop))
  | .tup ds => some (ds, fun _ => True)
  | .rol ds => some (ds, fun _ => True)
  | .str x => some (x.map (fun c => .str [c]), fun _ => True)
  | .ref p => match S p with
    | some (.lst ds) => some (ds, fun S => S p = some (.lst ds))
    | none => none
  | _ => none
def zipsD (d e : D) (S : Sto) (K : IK) : Prop := ∃ xs G ys G', srcD S d = some (xs, G) ∧ srcD S e = some (ys, G') ∧ K (zipD xs ys) (fun S => G S ∧ G' S) S
def enumedD (d : D) (S : Sto) (K : IK) : Prop := ∃ xs G, srcD S d = some (xs, G) ∧ K (enumD 0 xs) G S
def fmtD (d : D) (Q : List Nat → Prop) : Prop := match d with
  | .str x => x.length ≤ 16777216 ∧ Q x
  | .int i => i.natAbs < 2 ^ 1900 ∧ Q (itxt i)
  | _ => False
def mtTy : Mt → D → Sto → Prop
  | .join, .str _, _ | .count, .str _, _ | .find, .str _, _ | .endswith, .str _, _ | .startswith, .str _, _ => True
  | .append, .ref p, S | .extend, .ref p, S | .pop, .ref p, S | .index, .ref p, S => ∃ ds, S p = some (.lst ds)
  | _, _, _ => False
def isObj : D → Bool
  | .obj _ _ => true
  | _ => false
def isoK : D → Bool
  | .ref _ | .rol _ => false
  | _ => true
def ocmD (op : CmpOp) (sp : Spec) : R2D := fun x y S Q => isObj x = true ∧ match op with
  | .Eq => isoK y = true ∧ sp [x, y] S Q ∧ (isObj y = true → sp [y, x] S Q)
  | .NotEq => isoK y = true ∧ sp [x, y] S (fun d S' => ∃ b, d = .bl b ∧ Q (.bl (!b)) S') ∧ (isObj y = true → sp [y, x] S (fun d S' => ∃ b, d = .bl b ∧ Q (.bl (!b)) S'))
  | .Lt | .LtE => isObj y = true ∧ sp [x, y] S Q
  | .Gt | .GtE => isObj y = true ∧ sp [y, x] S Q
  | _ => False
def addOk : D → D → Bool
  | .obj _ _, .obj _ _ => true
  | _, _ => false
def oopD (sp : Spec) : R2D := fun x y S Q => addOk x y = true ∧ sp [x, y] S Q
def rngdD (lo hi : Int) : List D := (List.range (lo - hi).toNat).map fun i => .int (lo - (i : Nat))
def range3D (d e f : D) (S : Sto) (K : IK) : Prop := match d, e, f with
  | .int m, .int n, .int c => c = -1 ∧ smallJ m ∧ smallJ n ∧ K (rngdD m n) (fun _ => True) S
  | _, _, _ => False
section
variable (Φ : Tab)
mutual
def wpE : Ex → TD
  | .var i => fun env S Q => ∃ d, env[i]? = some (some d) ∧ Q d S
  | .con d => fun _ S Q => Q d S
  | .bin op a b => fun env S Q => wpE a env S fun x S1 => wpE b env S1 fun y S2 => opD op x y S2 Q
  | .neg a => fun env S Q => wpE a env S fun x S1 => negD x S1 Q
  | .not a => fun env S Q => wpE a env S fun x S1 => truthD x S1 fun b => Q (.bl (!b)) S1
  | .cmp op a b => fun env S Q => wpE a env S fun x S1 => wpE b env S1 fun y S2 => cmpD op x y S2 Q
  | .chain o1 o2 a b c => fun env S Q => wpE a env S fun x S1 => wpE b env S1 fun y S2 => cmpD o1 x y S2 fun z S3 => ∃ k, z = .bl k ∧
      (if k = true then wpE c env S3 fun w S4 => cmpD o2 y w S4 Q else Q (.bl false) S3)
  | .and a b => fun env S Q => wpE a env S fun x S1 => truthD x S1 fun t => if t = true then wpE b env S1 Q else Q x S1
  | .or a b => fun env S Q => wpE a env S fun x S1 => truthD x S1 fun t => if t = true then Q x S1 else wpE b env S1 Q
  | .ite c a b => fun env S Q => wpT c env S fun t S1 => if t = true then wpE a env S1 Q else wpE b env S1 Q
  | .call f as => fun env S Q => ∃ sp, Φ f = some sp ∧ wpA as env S fun ds S1 => sp ds S1 Q
  | .bi f as => fun env S Q => wpA as env S fun ds S1 => biD f ds S1 Q
  | .mt m o as => fun env S Q => wpE o env S fun x S1 => mtTy m x S1 ∧ wpA as env S1 fun ds S2 => mtD m x ds S2 Q
  | .tup as => fun env S Q => wpA as env S fun ds S1 => ds.length ≤ 16777216 ∧ Q (.tup ds) S1
  | .lst as => fun env S Q => wpA as env S fun ds S1 => ds.length ≤ 16777216 ∧ ∀ p, S1 p = none → Q (.ref p) (put S1 p (.lst ds))
  | .idx a b => fun env S Q => wpE a env S fun x S1 => wpE b env S1 fun y S2 => idxD x y S2 Q
  | .sl a lo hi => fun env S Q => wpE a env S fun x S1 => wpO lo env S1 fun l S2 => wpO hi env S2 fun h S3 => slD x l h S3 Q
  | .lc vs p it c e => fun env S Q => wpI it env S fun xs G S1 => ∀ a, S1 a = none → G (put S1 a (.lst [])) ∧ lcRun a G (fun x S2 k => wpP p x S2 (wipeD env vs) fun env2 => wpC c env2 S2 fun t S3 =>
      if t = true then wpE e env2 S3 fun y S4 => k (some y) S4 else k none S3) (fun S' => Q (.ref a) S') xs [] (put S1 a (.lst []))
  | .fs as => fun env S Q => wpJ as env S [] fun x S1 => Q (.str x) S1
  | .att f a => fun env S Q => ∃ sp, Φ f = some sp ∧ wpE a env S fun x S1 => ∃ c d, x = .obj c d ∧ Q d S1
  | .prp f a => fun env S Q => ∃ sp, Φ f = some sp ∧ wpE a env S fun x S1 => isObj x = true ∧ sp [x] S1 Q
  | .meth f o as => fun env S Q => ∃ sp, Φ f = some sp ∧ wpE o env S fun x S1 => isObj x = true ∧ wpA as env S1 fun ds S2 => sp (x :: ds) S2 Q
  | .oop f a b => fun env S Q => ∃ sp, Φ f = some sp ∧ wpE a env S fun x S1 => wpE b env S1 fun y S2 => oopD sp x y S2 Q
  | .ocm op f a b => fun env S Q => ∃ sp, Φ f = some sp ∧ wpE a env S fun x S1 => wpE b env S1 fun y S2 => ocmD op sp x y S2 Q
  | .iso f a => fun env S Q => ∃ sp, Φ f = some sp ∧ wpE a env S fun x S1 => isoK x = true ∧ Q (.bl (isObj x)) S1
  | .nil | .cons _ _ | .iE _ | .iR1 _ | .iR2 _ _ | .iR3 _ _ _ | .iZ _ _ | .iN _ => fun _ _ _ => False
def wpT : Ex → TBD
  | .not a => fun env S Q => wpT a env S fun b S1 => Q (!b) S1
  | .and a b => fun env S Q => wpT a env S fun t S1 => if t = true then wpT b env S1 Q else Q false S1
  | .or a b => fun env S Q => wpT a env S fun t S1 => if t = true then Q true S1 else wpT b env S1 Q
  | .cmp op a b => fun env S Q => wpE a env S fun x S1 => wpE b env S1 fun y S2 => cmpD op x y S2 fun z S3 => ∃ k, z = .bl k ∧ Q k S3
  | .chain o1 o2 a b c => fun env S Q => wpE a env S fun x S1 => wpE b env S1 fun y S2 => cmpD o1 x y S2 fun z S3 => ∃ k, z = .bl k ∧
      (if k = true then wpE c env S3 fun w S4 => cmpD o2 y w S4 fun z S5 => ∃ k, z = .bl k ∧ Q k S5 else Q false S3)
  | .var i => fun env S Q => ∃ d, env[i]? = some (some d) ∧ truthD d S fun b => Q b S
  | .call f as => fun env S Q => ∃ sp, Φ f = some sp ∧ wpA as env S fun ds S1 => sp ds S1 fun d S2 => truthD d S2 fun b => Q b S2
  | .bi f as => fun env S Q => wpA as env S fun ds S1 => biD f ds S1 fun d S2 => truthD d S2 fun b => Q b S2
  | .idx a b => fun env S Q => wpE a env S fun x S1 => wpE b env S1 fun y S2 => idxD x y S2 fun d S3 => truthD d S3 fun b => Q b S3
  | .ocm op f a b => fun env S Q => ∃ sp, Φ f = some sp ∧ wpE a env S fun x S1 => wpE b env S1 fun y S2 => ocmD op sp x y S2 fun z S3 => ∃ k, z = .bl k ∧ Q k S3
  | .iso f a => fun env S Q => ∃ sp, Φ f = some sp ∧ wpE a env S fun x S1 => isoK x = true ∧ truthD (.bl (isObj x)) S1 fun b => Q b S1
  | _ => fun _ _ _ => False
def wpC : Ex → TBD
  | .nil => fun _ S Q => Q true S
  | .cons c _ => wpT c
  | _ => fun _ _ _ => False
def wpA : Ex → TAD
  | .nil => fun _ S Q => Q [] S
  | .cons a r => fun env S Q => wpE a env S fun x S1 => wpA r env S1 fun xs S2 => Q (x :: xs) S2
  | _ => fun _ _ _ => False
def wpO : Ex → En → Sto → (Option Int → Sto → Prop) → Prop
  | .nil => fun _ S Q => Q none S
  | .cons a _ => fun env S Q => wpE a env S fun x S1 => ∃ i, x = .int i ∧ Q (some i) S1
  | _ => fun _ _ _ => False
def wpI : Ex → En → Sto → IK → Prop
  | .iE a => fun env S K => wpE a env S fun x S1 => iterD x S1 K
  | .iR1 a => fun env S K => wpE a env S fun x S1 => range1D x S1 K
  | .iR2 a b => fun env S K => wpE a env S fun x S1 => wpE b env S1 fun y S2 => range2D x y S2 K
  | .iR3 a b c => fun env S K => wpE a env S fun x S1 => wpE b env S1 fun y S2 => wpE c env S2 fun z S3 => range3D x y z S3 K
  | .iZ a b => fun env S K => wpE a env S fun x S1 => wpE b env S1 fun y S2 => zipsD x y S2 K
  | .iN a => fun env S K => wpE a env S fun x S1 => enumedD x S1 K
  | _ => fun _ _ _ => False
def wpJ : Ex → En → Sto → List Nat → (List Nat → Sto → Prop) → Prop
  | .nil => fun _ S acc Q => Q acc S
  | .cons a r => fun env S acc Q => wpE a env S fun x S1 => fmtD x fun z => acc.length + z.length ≤ 16777216 ∧ wpJ r env S1 (acc ++ z) Q
  | _ => fun _ _ _ _ => False
end
structure EndsD where
  nx : En → Sto → Prop
  rt : DK
  bk : En → Sto → Prop := fun _ _ => False
  ct : En → Sto → Prop := fun _ _ => False
  xc : Nat → D → Sto → Prop := fun _ _ _ => False
def excV : D → Option (Nat × D)
  | .obj (c + 2) d => some (c, d)
  | _ => none
def setD : D → D → D → Sto → (Sto → Prop) → Prop
  | .ref p, .int i, d, S, Q => ∃ ds j, S p = some (.lst ds) ∧ ixN ds.length i = some j ∧ Q (put S p (.lst (ds.set j d)))
  | _, _, _, _, _ => False
def forRun (G : Sto → Prop) (body : D → En → Sto → (En → Sto → Prop) → Prop) (Q : En → Sto → Prop) : List D → En → Sto → Prop
  | [], env, S => Q env S
  | x :: xs, env, S => body x env S fun env' S' => G S' ∧ forRun G body Q xs env' S'
def whRun (test : En → Sto → (Bool → Sto → Prop) → Prop) (body : En → Sto → (En → Sto → Prop) → Prop) (Q : En → Sto → Prop) : Nat → En → Sto → Prop
  | 0, _, _ => False
  | n + 1, env, S => test env S fun t S1 => if t = true then body env S1 (whRun test body Q n) else Q env S1
def wpArgs (m : Bool) (as : Ex) (env : En) (S : Sto) (K : List D → Sto → Prop) : Prop := match m, as with
  | false, as => wpA Φ as env S K
  | true, .cons o r => wpE Φ o env S fun x S1 => isObj x = true ∧ wpA Φ r env S1 fun ds S2 => K (x :: ds) S2
  | true, _ => False
def wpS : Sx → EndsD → En → Sto → Prop
  | .asg p e, E, env, S => wpE Φ e env S fun d S1 => wpP p d S1 env fun env' => E.nx env' S1
  | .set o i e, E, env, S => wpE Φ e env S fun d S1 => wpE Φ o env S1 fun x S2 => wpE Φ i env S2 fun y S3 => setD x y d S3 fun S4 => E.nx env S4
  | .ex e, E, env, S => wpE Φ e env S fun _ S1 => E.nx env S1
  | .ret e, E, env, S => wpE Φ e env S E.rt
  | .iff c a b, E, env, S => wpT Φ c env S fun t S1 => if t = true then wpS a E env S1 else wpS b E env S1
  | .loop p it b, E, env, S => wpI Φ it env S fun xs G S1 => forRun G (fun x env1 S2 N => wpP p x S2 env1 fun env2 => wpS b { nx := N, ct := N, bk := E.nx, rt := E.rt, xc := E.xc } env2 S2) E.nx xs env S1
  | .wh c b, E, env, S => ∃ n, whRun (wpT Φ c) (fun env1 S1 N => wpS b { nx := N, ct := N, bk := E.nx, rt := E.rt, xc := E.xc } env1 S1) E.nx n env S
  | .brk, E, env, S => E.bk env S
  | .cnt, E, env, S => E.ct env S
  | .pass, E, env, S => E.nx env S
  | .rai, _, _, _ => False
  | .rais f c e, E, env, S => ∃ sp, Φ f = some sp ∧ wpE Φ e env S fun d S1 => E.xc c d S1
  | .tryx f fx m as r ei x h, E, env, S => ∃ sp sx, Φ f = some sp ∧ Φ fx = some sx ∧ ei < env.length ∧ wpArgs Φ m as env S fun ds S1 => sp ds S1 fun d S2 => match excV d with
    | some (c, y) => c = x ∧ wpS h { nx := fun env' S' => E.nx (env'.set ei none) S', rt := E.rt } (env.set ei (some y)) S2
    | none => if r = true then E.rt d S2 else E.nx env S2
  | .lc2 j vs p it vs1 p1 it1 e, E, env, S => wpI Φ it env S fun xs G S1 => ∀ a, S1 a = none → G (put S1 a (.lst [])) ∧ lcRun2 G (fun x S2 N => wpP p x S2 (wipeD env vs) fun env2 => wpI Φ it1 env2 S2 fun ys G1 S3 => ∃ acc, S3 a = some (.lst acc) ∧
      lcRun a G1 (fun y S4 k => wpP p1 y S4 (wipeD env2 vs1) fun env3 => wpE Φ e env3 S4 fun z S5 => k (some z) S5) N ys acc S3) (fun S' => E.nx (env.set j (some (.ref a))) S') xs (put S1 a (.lst []))
  | .nil, E, env, S => E.nx env S
  | .cons a r, E, env, S => wpS a { E with nx := fun env' S' => wpS r E env' S' } env S
end
end G57
set_option Elab.async false
set_option linter.all false
set_option maxRecDepth 100000
set_option maxHeartbeats 400000
namespace G57
open PySem L2
structure Gam where
  N : List Str
  sc : Scope
  st : List Str
  bs : List Str
  fs : List Str
  cs : List (Str × D)
  os : List Str := []
def vix : List Str → Str → Option Nat
  | [], _ => none
  | y :: ys, x => if y = x then some 0 else (vix ys x).map (· + 1)
def visB (sc : Scope) (x : Str) : Bool := match sc.names.lookup x with
  | some .local | some .cell | some .free => true
  | _ => false
def glB (sc : Scope) (x : Str) : Bool := match sc.names.lookup x with
  | some .globalImplicit => true
  | _ => false
def dotN (m : Str) : Str := ⟨#[46] ++ m.cps⟩
def dotted (x : Str) : Bool := x.cps[0]? == some 46
def bangN (m : Str) : Str := ⟨#[33] ++ m.cps⟩
def banged (x : Str) : Bool := x.cps[0]? == some 33
def bracN (x : Str) : Str := ⟨#[91] ++ x.cps⟩
def plainName (x : Str) : Bool := !banged x && !dotted x && !(x == ("__debug__" : Str)) && !(x == ("__classdict__" : Str)) && !(x == ("__name__" : Str))
def biOf (x : Str) : Option Bi :=
  if x = "len" then some .len else if x = "sum" then some .sum else if x = "any" then some .any else if x = "all" then some .all
  else if x = "abs" then some .abs else if x = "min" then some .min else if x = "max" then some .max else if x = "repr" then some .repr
  else if x = "int" then some .int else if x = "str" then some .str else if x = "tuple" then some .tuple else if x = "list" then some .list else if x = "sorted" then some .sorted else none
def mtOf (x : Str) : Option Mt :=
  if x = "append" then some .append else if x = "extend" then some .extend else if x = "pop" then some .pop
  else if x = "join" then some .join else if x = "count" then some .count else if x = "find" then some .find else if x = "endswith" then some .endswith else if x = "startswith" then some .startswith else if x = "index" then some .index else none
def tyNames : List Str := ["int", "bool", "str", "tuple", "list"]
def tyStr (x : Str) : String := if x = "int" then "int" else if x = "bool" then "bool" else if x = "str" then "str" else if x = "tuple" then "tuple" else "list"
def isiOf (Γ : Gam) : List Expr → Option Bi
  | [.Name T _] => if tyNames.contains T && glB Γ.sc T && Γ.bs.contains T then some (.isi (tyStr T)) else none
  | _ => none
def backB : Expr → Bool
  | .Slice none none (some (.UnaryOp .USub (.Constant (.int 1) _ _) _)) _ => true
  | _ => false
def ptOf : Nat → Gam → Expr → Option Pt
  | 0, _, _ => none
  | n + 1, Γ, .Name x _ => if Γ.st.contains x && plainName x then (vix Γ.N x).map .v else none
  | n + 1, Γ, .Tuple es _ _ => (es.foldr (fun e r => match ptOf n Γ e, r with | some a, some b => some (.cons a b) | _, _ => none) (some .nil)).map .t
  | _, _, _ => none
def ownOf : Nat → Gam → Expr → Option (List (Str × Nat))
  | 0, _, _ => none
  | n + 1, Γ, .Name x _ => (vix Γ.N x).map fun i => [(x, i)]
  | n + 1, Γ, .Tuple es _ _ => es.foldr (fun e r => match ownOf n Γ e, r with | some a, some b => some (a ++ b) | _, _ => none) (some [])
  | _, _, _ => none
def blk (Γ : Gam) (scope : Scope) : Gam := { Γ with sc := relS scope Γ.sc, st := (scope.names.filter fun y => y.2 == .local || y.2 == .cell).map (·.1) }
def starry : Expr → Bool
  | .Starred _ _ => true
  | _ => false
def tupleT : Expr → Bool
  | .Tuple _ _ _ => true
  | _ => false
def superish : Expr → Bool
  | .Call (.Name _ _) [] [] _ => true
  | _ => false
def setish : Expr → Bool
  | .Set _ _ _ => true
  | _ => false
def objB : Nat → List Str → Expr → Bool
  | 0, _, _ => false
  | n + 1, os, .Name x _ => os.contains x
  | n + 1, os, .Call (.Name f _) _ _ _ => f == ("Long" : Str) || f == ("Piece" : Str)
  | n + 1, os, .Call (.Attribute _ m _) _ _ _ => m == ("part" : Str)
  | n + 1, os, .BinOp a .Add _ _ => objB n os a
  | n + 1, os, .Subscript (.Name x _) _ _ => os.contains (bracN x)
  | n + 1, os, .Subscript (.Subscript (.Name x _) _ _) _ _ => os.contains (bracN (bracN x))
  | n + 1, os, .IfExp _ a _ _ => objB n os a
  | _, _, _ => false
def addB : Operator → Bool
  | .Add => true
  | _ => false
def cmpN : CmpOp → Option Str
  | .Eq | .NotEq => some (dotN "__eq__")
  | .Lt | .Gt => some (dotN "__lt__")
  | .LtE | .GtE => some (dotN "__le__")
  | _ => none
def cmpI (Γ : Gam) (op : CmpOp) : Option Nat := match cmpN op with
  | some x => vix Γ.fs x
  | none => none
def rngArg : Expr → Expr
  | .Call _ [b] _ _ => b
  | e => e
def rngB (Γ : Gam) (f : Str) (a : Expr) (as : List Expr) : Bool := (decide (f = "tuple") || decide (f = "list")) && Γ.bs.contains f && as.isEmpty && (match a with
  | .Call (.Name g _) [b] [] _ => decide (g = "range") && glB Γ.sc g && Γ.bs.contains g && !starry b
  | _ => false)
def setB (Γ : Gam) (f : Str) (a : Expr) (as : List Expr) : Bool := decide (f = "sorted") && Γ.bs.contains f && as.isEmpty && (match a with
  | .Call (.Name g _) [b] [] _ => decide (g = "set") && glB Γ.sc g && Γ.bs.contains g && !starry b
  | _ => false)
def mxdB (Γ : Gam) (f : Str) (a : Expr) (k : Keyword) : Bool := plainName f && glB Γ.sc f && decide (f = "max") && Γ.bs.contains f && !starry a && (match k with
  | ⟨some d, .Constant (.int _) _ _, _⟩ => decide (d = "default")
  | _ => false)
def kwInt : Keyword → Int
  | ⟨_, .Constant (.int c) _ _, _⟩ => c
  | _ => 0
def longB (Γ : Gam) : List Expr → Bool
  | [.Name T _] => decide (T = "Long") && glB Γ.sc T
  | _ => false
def opt2 {α β γ : Type} (a : Option α) (b : Option β) (f : α → β → γ) : Option γ := match a, b with
  | some x, some y => some (f x y)
  | _, _ => none
def opt3 {α β δ γ : Type} (a : Option α) (b : Option β) (d : Option δ) (f : α → β → δ → γ) : Option γ := match a, b, d with
  | some x, some y, some z => some (f x y z)
  | _, _, _ => none
def optLc (Γ : Gam) (scope : Scope) (own : Option (List (Str × Nat))) (p : Option Pt) (i c x : Option Ex) : Option Ex := match own, p, i, c, x with
  | some own, some p, some i, some c, some x => if blkC Γ.N Γ.sc scope own then some (.lc (own.map (·.2)) p i c x) else none
  | _, _, _, _, _ => none
mutual
def trE : Nat → Gam → Expr → Option Ex
  | 0, _, _ => none
  | n + 1, Γ, .Name x _ => if !plainName x then none else if visB Γ.sc x then (vix Γ.N x).map .var else if glB Γ.sc x then (Γ.cs.lookup x).map .con else none
  | n + 1, _, .Constant (.int i) _ _ => some (.con (.int i))
  | n + 1, _, .Constant (.bool b) _ _ => some (.con (.bl b))
  | n + 1, _, .Constant .none _ _ => some (.con .non)
  | n + 1, _, .Constant (.str x) _ _ => some (.con (.str x.cps.toList))
  | n + 1, Γ, .BinOp a op b _ => if objB 8 Γ.os a && addB op then opt3 (vix Γ.fs (dotN "__add__")) (trE n Γ a) (trE n Γ b) fun i x y => .oop i x y else opt2 (trE n Γ a) (trE n Γ b) fun x y => .bin op x y
  | n + 1, Γ, .UnaryOp .USub a _ => (trE n Γ a).map .neg
  | n + 1, Γ, .UnaryOp .Not a _ => (trE n Γ a).map .not
  | n + 1, Γ, .BoolOp .And (a :: b :: []) _ => opt2 (trE n Γ a) (trE n Γ b) fun x y => .and x y
  | n + 1, Γ, .BoolOp .And (a :: b :: c :: r) p => opt2 (trE n Γ a) (trE n Γ (.BoolOp .And (b :: c :: r) p)) fun x y => .and x y
  | n + 1, Γ, .BoolOp .Or (a :: b :: []) _ => opt2 (trE n Γ a) (trE n Γ b) fun x y => .or x y
  | n + 1, Γ, .BoolOp .Or (a :: b :: c :: r) p => opt2 (trE n Γ a) (trE n Γ (.BoolOp .Or (b :: c :: r) p)) fun x y => .or x y
  | n + 1, Γ, .Compare a [op] [b] _ => if setish b then none else if objB 8 Γ.os a then opt3 (cmpI Γ op) (trE n Γ a) (trE n Γ b) fun i x y => .ocm op i x y else opt2 (trE n Γ a) (trE n Γ b) fun x y => .cmp op x y
  | n + 1, Γ, .Compare a [o1, o2] [b, c] _ => if setish b || setish c then none else opt3 (trE n Γ a) (trE n Γ b) (trE n Γ c) fun x y z => .chain o1 o2 x y z
  | n + 1, Γ, .IfExp c a b _ => opt3 (trE n Γ c) (trE n Γ a) (trE n Γ b) fun x y z => .ite x y z
  | n + 1, Γ, .Call (.Name f _) (a :: as) [] _ => if !plainName f || !glB Γ.sc f then none else
    if rngB Γ f a as then (trE n Γ (rngArg a)).map (fun x => .bi (if f = "tuple" then .trange else .lrange) (.cons x .nil)) else
    if setB Γ f a as then (trE n Γ (rngArg a)).map (fun x => .bi .ssort (.cons x .nil)) else
    if f = "isinstance" then (if Γ.bs.contains f && !starry a then (if longB Γ as then opt2 (vix Γ.fs "Long") (trE n Γ a) fun i x => .iso i x else opt2 (isiOf Γ as) (trE n Γ a) fun b x => .bi b (.cons x .nil)) else none) else
    if Γ.bs.contains f then opt2 (biOf f) (trA n Γ (a :: as)) fun b xs => .bi b xs
    else opt2 (vix Γ.fs f) (trA n Γ (a :: as)) fun i xs => .call i xs
  | n + 1, Γ, .Call (.Name f _) [a] [k] _ => if mxdB Γ f a k then (trE n Γ a).map (fun x => .bi .maxd (.cons x (.cons (.con (.int (kwInt k))) .nil))) else none
  | n + 1, Γ, .Call (.Attribute o m apos) as [] cpos => if superish o || !(apos.endLine == cpos.line) || !decide (as.length < 20) then none else
    if objB 8 Γ.os o then (if m = "size" then none else opt3 (vix Γ.fs (dotN m)) (trE n Γ o) (trA n Γ as) fun i x xs => .meth i x xs) else
    opt3 (mtOf m) (trE n Γ o) (trA n Γ as) fun m x xs => .mt m x xs
  | n + 1, Γ, .Attribute e f _ => if superish e then none else if f = "runs" then opt2 (vix Γ.fs "Long") (trE n Γ e) fun i x => .att i x else if f = "size" then opt2 (vix Γ.fs (dotN f)) (trE n Γ e) fun i x => .prp i x else none
  | n + 1, Γ, .Tuple es _ _ => (trA n Γ es).map .tup
  | n + 1, Γ, .List es _ => (trA n Γ es).map .lst
  | n + 1, Γ, .Subscript a (.Slice lo hi none _) _ => opt3 (trE n Γ a) (trO n Γ lo) (trO n Γ hi) fun x y z => .sl x y z
  | n + 1, Γ, .Subscript a b _ => if backB b then (trE n Γ a).map (fun x => .bi .rev (.cons x .nil)) else opt2 (trE n Γ a) (trE n Γ b) fun x y => .idx x y
  | n + 1, Γ, .ListComp e [⟨tg, it, ifs, 0⟩] scope _ => if setish it then none else optLc Γ scope (ownOf n Γ tg) (ptOf n (blk Γ scope) tg) (trI n Γ (tupleT tg) it) (trC n (blk Γ scope) ifs) (trE n (blk Γ scope) e)
  | n + 1, Γ, .JoinedStr (a :: b :: r) _ => (trJ n Γ (a :: b :: r)).map .fs
  | _, _, _ => none
def trA : Nat → Gam → List Expr → Option Ex
  | 0, _, _ => none
  | n + 1, _, [] => some .nil
  | n + 1, Γ, e :: es => if starry e then none else opt2 (trE n Γ e) (trA n Γ es) fun x y => .cons x y
def trJ : Nat → Gam → List Expr → Option Ex
  | 0, _, _ => none
  | n + 1, _, [] => some .nil
  | n + 1, Γ, .FormattedValue e (-1) none _ :: es => opt2 (trE n Γ e) (trJ n Γ es) fun x y => .cons x y
  | n + 1, Γ, .Constant (.str x) _ _ :: es => (trJ n Γ es).map (.cons (.con (.str x.cps.toList)))
  | _, _, _ => none
def trO : Nat → Gam → Option Expr → Option Ex
  | 0, _, _ => none
  | n + 1, _, none => some .nil
  | n + 1, Γ, some e => (trE n Γ e).map fun x => .cons x .nil
def trC : Nat → Gam → List Expr → Option Ex
  | 0, _, _ => none
  | n + 1, _, [] => some .nil
  | n + 1, Γ, [c] => (trE n Γ c).map fun x => .cons x .nil
  | _, _, _ => none
def trI : Nat → Gam → Bool → Expr → Option Ex
  | 0, _, _, _ => none
  | n + 1, Γ, tt, e => match e with
    | .Call (.Name f _) [a] [] _ =>
      if f = "range" then (if glB Γ.sc f && Γ.bs.contains f && !starry a then (trE n Γ a).map .iR1 else none)
      else if f = "enumerate" then (if tt && glB Γ.sc f && Γ.bs.contains f && !starry a then (trE n Γ a).map .iN else none)
      else (trE n Γ e).map .iE
    | .Call (.Name f _) [a, b] [] _ =>
      if f = "range" then (if glB Γ.sc f && Γ.bs.contains f && !starry a && !starry b then opt2 (trE n Γ a) (trE n Γ b) fun x y => .iR2 x y else none)
      else if f = "zip" then (if tt && glB Γ.sc f && Γ.bs.contains f && !starry a && !starry b then opt2 (trE n Γ a) (trE n Γ b) fun x y => .iZ x y else none)
      else (trE n Γ e).map .iE
    | .Call (.Name f _) [a, b, c] [] _ =>
      if f = "range" then (if glB Γ.sc f && Γ.bs.contains f && !starry a && !starry b && !starry c then opt3 (trE n Γ a) (trE n Γ b) (trE n Γ c) fun x y z => .iR3 x y z else none)
      else (trE n Γ e).map .iE
    | _ => (trE n Γ e).map .iE
end
end G57
set_option Elab.async false
set_option linter.all false
set_option maxRecDepth 100000
set_option maxHeartbeats 400000
namespace G57
open PySem L2 PySem.Spec PyProof.Rows
structure FnG (P : Program) (w : World) (K : PySem.W.Frag) (mg : Str → Option Value) (base : Heap) (k : Nat) (f : Addr) (fd : FuncData) (ps : List Str) (sp : Sp) : Prop where
  len : ∀ vs H Q E, sp vs H Q E → vs.length = ps.length
  run : ∀ (A : Around) (outer : List Env) (s : Shared) (H : Hp) (args : Args) (us : List Value) (vs : List V) (Q : VK) (E : XK), Room k A → A.guards = some [] →
    Env0 P w K mg base A outer s H → BindsTo s fd args (ps.zip us) → Vals vs us → sp vs H Q E →
    codeAny (model P w) A (.call (.ref f) args) (CR CX0 outer P w H s Q E) s
theorem FnG.mono {P : Program} {w : World} {K : PySem.W.Frag} {mg : Str → Option Value} {base : Heap} {j k : Nat} {f : Addr} {fd : FuncData} {ps : List Str} {sp : Sp} (F : FnG P w K mg base j f fd ps sp) (h : j ≤ k) : FnG P w K mg base k f fd ps sp :=
  ⟨F.len, fun A outer s H args us vs Q E hr => F.run A outer s H args us vs Q E (hr.mono h)⟩
theorem fnG_of {P : Program} {w : World} {K : PySem.W.Frag} {mg : Str → Option Value} {base : Heap} {k : Nat} {x qual : Str} {st : Stmt} {f : Addr} {fd : FuncData} {N ps : List Str} {sp : Sp} (F : Fun K x qual st f fd) (S : FnScope N ps (defScope st))
    (len : ∀ vs H Q E, sp vs H Q E → vs.length = ps.length)
    (hbody : ∀ (cdv : Value) (A : Around) (outer : List Env) (s : Shared) (H : Hp) (vs : List V) (Q : VK) (E : XK), Room k (A.deeper (envOfC qual (defScope st) s.heap.objs.size f cdv)) → A.guards = some [] → sp vs H Q E →
      ∃ t, PSs (cxOf CX0 P w K mg base N qual (defScope st) f cdv A outer s H E).nox (defBody st) t ∧ t { nx := fun _ H' => Q .non H', rt := Q } (start N vs) H) : FnG P w K mg base (k + 1) f fd ps sp := by
  obtain ⟨oc, od, kV, doc, pm, an, cdv, ct, osl, rfl, lk, hcd⟩ := F.ex
  refine ⟨len, fun A outer s H args us vs Q E hr hg e0 hb r hsp => ?_⟩
  have hl := len _ _ _ _ hsp
  have keep0 : ∀ b o, base.get? b = some o → s.heap.get? b = some o :=
    fun b o e => (e0.bs b o e).1
  have KX : K.In s.heap := e0.mod.kin.keeps keep0
  have kinds : ∀ y ∈ ps.zip us, (defScope st).names.lookup y.1 = some .local ∨
      ((defScope st).names.lookup y.1 = some .cell ∧ ((cellsFrom (s.heap.objs.size + 1) (defScope st).names []).lookup y.1).isSome = true) := by
    intro ⟨n, v⟩ hy
    rcases S.par n (List.of_mem_zip hy).1 with q | q
    · exact .inl q
    · exact .inr ⟨q, PySem.W.cellsFrom_some _ _ _ (.inl q)⟩
  apply codeAny_call_function hr.depth (KX _ _ lk) rfl S.co S.gen rfl (PySem.W.codeRec_of KX hcd)
  refine hb _ _ _ _ (wpAny_newFunctionEnv_cells S.kind kinds fun env he s1 x => ?_)
  subst he
  refine ⟨(e0.mod.nolimit.keeps keep0).keeps x.toInCall.keep, codeAny_func ?_⟩
  obtain ⟨t, ht, hq⟩ := hbody cdv A outer s H vs Q E (hr.deeper _) hg hsp
  have I := inv_start (CX := CX0) (E := E) (w := w) S hr.hd e0 hl r x
  refine wpAny_mono (ht.nox.run [] s1 _ H _ I hq) (fun fl s' hs => ?_) fun e s' hs => hs
  cases fl with
  | ret u => obtain ⟨v, σ', H', J, rv, q⟩ := hs; exact ⟨v, H', J.os, J.bare, J.base, J.hok, rv, q⟩
  | next => obtain ⟨σ', H', J, q⟩ := hs; exact ⟨.non, H', J.os, J.bare, J.base, J.hok, rfl, q⟩
  | brk => obtain ⟨_, _, _, q⟩ := hs; exact False.elim q
  | cont => obtain ⟨_, _, _, q⟩ := hs; exact False.elim q
section
variable {X : Cx} {pos : Pos}
theorem pe_callG {k : Nat} {f : Addr} {fd : FuncData} {ps : List Str} {sp : Sp} {x : Str} {p : Pos} {e : Expr} {es : List Expr} {t : TA} (F : FnG X.prog X.w X.K X.mg X.base k f fd ps sp) (hr : Room k X.A) (hgd : X.A.guards = some [])
    (hg : Gl X x) (hm : X.mg x = some (.ref f)) (hk : PySem.W.keepIn X.K (.ref f) = true) (hb : Binds X.K fd ps []) (ha : PA X (e :: es) t) (hdb : (x == ("__debug__" : Str)) = false)
    (he : starEach (e :: es) X.env = (false, eval e X.env) :: starEach es X.env) (hpl : (backTo pos (starEach es X.env)).any (·.1) = false) : PE X (.Call (.Name x p) (e :: es) [] pos) (tCall sp [] E0 t) := by
  refine ⟨fun pins s σ H Q I h => wpAny_Call_Name_kw (ld_glob I hg hm ?_ hdb)⟩
  refine PySem.W.callWith_K (h₀ := X.base) I.ok.mod.kin hk (thn (ha.run pos pins s σ H _ I h) fun us s1 ⟨vs, H1, I1, r, q⟩ => ⟨I1.kIn, ?_⟩) he hpl
  have q' : sp vs H1 Q E0 := by have z : sp (vs ++ []) H1 Q E0 := q; rwa [List.append_nil] at z
  have hl : us.length = ps.length := by rw [← r.length]; exact F.len _ _ _ _ q'
  have b := hb s1 us I1.kIn (by rw [List.append_nil]; exact hl)
  rw [List.append_nil] at b
  refine wpAny_call (codeAny_mono (F.run X.A X.stack s1 H1 ⟨us, []⟩ us vs Q E0 hr hgd I1.env0 b r q') fun r s' hq => ?_)
  match r, hq with
  | .error e, hq => exact hq.elim
  | .ok (.ret u), hq => exact I1.after hq
  | .ok .next, hq => exact hq.elim
  | .ok .brk, hq => exact hq.elim
  | .ok .cont, hq => exact hq.elim
def liftSp (K : PySem.W.Frag) (n : Nat) (sp : Spec) : Sp := fun vs H Q _ => vs.length = n ∧ ∃ ds S Qd, Reps K H ds vs ∧ StoOk K H S ∧ sp ds S Qd ∧ Lv K H Qd Q
variable {a b c e : Expr} {es : List Expr} {ta tb tc te : TD} {tA tB : TBD} {t : TAD}
theorem q_call {k : Nat} {f : Addr} {fd : FuncData} {ps : List Str} {sp : Spec} {x : Str} {p : Pos} (F : FnG X.prog X.w X.K X.mg X.base k f fd ps (liftSp X.K ps.length sp)) (hr : Room k X.A) (hgd : X.A.guards = some [])
    (hlen : ∀ ds S Q, sp ds S Q → ds.length = ps.length)
    (hg : Gl X x) (hm : X.mg x = some (.ref f)) (hk : PySem.W.keepIn X.K (.ref f) = true) (hb : Binds X.K fd ps []) (ha : QA X (e :: es) t) (hdb : (x == ("__debug__" : Str)) = false)
    (he : starEach (e :: es) X.env = (false, eval e X.env) :: starEach es X.env) (hpl : (backTo pos (starEach es X.env)).any (·.1) = false) :
    QE X (.Call (.Name x p) (e :: es) [] pos) (fun env S Q => t env S fun ds S1 => sp ds S1 Q) :=
  (pe_callG F hr hgd hg hm hk hb ha hdb he hpl).weak fun σ H Q ⟨env, S, Qd, re, so, h, l⟩ =>
    ⟨env, S, _, re, so, h, fun ds S1 vs H1 h1 k1 r1 s1 => ⟨by rw [List.append_nil, ← r1.length]; exact hlen _ _ _ h1, ds, S1, Qd, by rw [List.append_nil]; exact r1, s1, h1, l.keep k1⟩⟩
theorem truth_tru {K : PySem.W.Frag} {H : Hp} {S : Sto} (so : StoOk K H S) {d : D} {v : V} {Qb : Bool → Prop} (r : Rep K H d v) (h : truthD d S Qb) : ∃ b, TruV K v H b ∧ Qb b := by
  cases d with
  | str x => exact ⟨_, truD_ok so r rfl (fun y e => by cases e; exact h.1), h.2⟩
  | _ => obtain ⟨b, e, q⟩ := h; exact ⟨b, truD_ok so r e (fun y e => by cases e), q⟩
theorem q_neg (ha : QE X a ta) : QE X (.UnaryOp .USub a pos) (fun env S Q => ta env S fun x S1 => negD x S1 Q) :=
  (pe_un un_neg ha).weak fun σ H Q ⟨env, S, Qd, re, so, h, l⟩ => ⟨env, S, _, re, so, h, fun x S1 v H1 h1 k1 r1 s1 => by
    cases x <;> try exact h1.elim
    rename_i i
    simp only [Rep] at r1
    exact ⟨i, r1, l _ S1 _ H1 h1 k1 .int s1⟩⟩
theorem q_not (ha : QE X a ta) : QE X (.UnaryOp .Not a pos) (fun env S Q => ta env S fun x S1 => truthD x S1 fun b => Q (.bl (!b)) S1) :=
  (pe_notT ha).weak fun σ H Q ⟨env, S, Qd, re, so, h, l⟩ => ⟨env, S, _, re, so, h, fun x S1 v H1 h1 k1 r1 s1 =>
    let ⟨b, q, z⟩ := truth_tru s1 r1 h1; ⟨b, q, l _ S1 _ H1 z k1 .bl s1⟩⟩
theorem q_and {rest : List Expr} (ha : QE X a ta) (hb : QE X (.BoolOp .And (b :: rest) pos) tb) :
    QE X (.BoolOp .And (a :: b :: rest) pos) (fun env S Q => ta env S fun x S1 => truthD x S1 fun t => if t = true then tb env S1 Q else Q x S1) :=
  (pe_andT ha hb).weak fun σ H Q ⟨env, S, Qd, re, so, h, l⟩ => ⟨env, S, _, re, so, h, fun x S1 v H1 h1 k1 r1 s1 => by
    obtain ⟨t, q, z⟩ := truth_tru s1 r1 h1
    refine ⟨t, q, ?_⟩
    cases t with
    | true => exact ⟨env, S1, Qd, re.mono k1, s1, z, l.keep k1⟩
    | false => exact l _ S1 _ H1 z k1 r1 s1⟩
theorem q_or {rest : List Expr} (ha : QE X a ta) (hb : QE X (.BoolOp .Or (b :: rest) pos) tb) :
    QE X (.BoolOp .Or (a :: b :: rest) pos) (fun env S Q => ta env S fun x S1 => truthD x S1 fun t => if t = true then Q x S1 else tb env S1 Q) :=
  (pe_orT ha hb).weak fun σ H Q ⟨env, S, Qd, re, so, h, l⟩ => ⟨env, S, _, re, so, h, fun x S1 v H1 h1 k1 r1 s1 => by
    obtain ⟨t, q, z⟩ := truth_tru s1 r1 h1
    refine ⟨t, q, ?_⟩
    cases t with
    | false => exact ⟨env, S1, Qd, re.mono k1, s1, z, l.keep k1⟩
    | true => exact l _ S1 _ H1 z k1 r1 s1⟩
theorem q_ite (hc : QT X c tA) (ha : QE X a ta) (hb : QE X b tb) : QE X (.IfExp c a b pos) (fun env S Q => tA env S fun t S1 => if t = true then ta env S1 Q else tb env S1 Q) :=
  (pe_ifExp hc ha hb).weak fun σ H Q ⟨env, S, Qd, re, so, h, l⟩ => ⟨env, S, _, re, so, h, fun t S1 H1 h1 k1 s1 => by
    cases t with
    | true => exact ⟨env, S1, Qd, re.mono k1, s1, h1, l.keep k1⟩
    | false => exact ⟨env, S1, Qd, re.mono k1, s1, h1, l.keep k1⟩⟩
theorem q_chain {o1 o2 : CmpOp} (hu : X.A.units + 64 < cLine) (ha : QE X a ta) (hb : QE X b tb) (hc : QE X c tc) (hm : lastMarks [o1, o2] [b, c] = false) :
    QE X (.Compare a [o1, o2] [b, c] pos) (fun env S Q => ta env S fun x S1 => tb env S1 fun y S2 => cmpD o1 x y S2 fun z S3 => ∃ k, z = .bl k ∧
      (if k = true then tc env S3 fun w S4 => cmpD o2 y w S4 Q else Q (.bl false) S3)) :=
  (pe_chain (cmpD_ok hu o1) (cmpD_ok hu o2) ha hb hc hm).weak fun σ H Q ⟨env, S, Qd, re, so, h, l⟩ => ⟨env, S, _, re, so, h, fun x S1 v H1 h1 k1 r1 s1 =>
    ⟨env, S1, _, re.mono k1, s1, h1, fun y S2 u H2 h2 k2 r2 s2 => ⟨x, y, S2, _, r1.mono k2, r2, s2, h2, fun z S3 w H3 h3 k3 r3 s3 => by
      obtain ⟨k, rfl, h3⟩ := h3
      simp only [Rep] at r3
      refine ⟨k, r3, ?_⟩
      cases k with
      | true => exact ⟨env, S3, _, re.mono (k1.trans (k2.trans k3)), s3, h3, fun w S4 u' H4 h4 k4 r4 s4 => ⟨y, w, S4, Qd, r2.mono (k3.trans k4), r4, s4, h4, l.keep (k1.trans (k2.trans (k3.trans k4)))⟩⟩
      | false => exact l _ S3 _ H3 h3 (k1.trans (k2.trans k3)) .bl s3⟩⟩⟩
theorem q_tup {k1 : Nat} (h : QA X es t) : QE X (.Tuple es k1 pos) (fun env S Q => t env S fun ds S1 => ds.length ≤ 16777216 ∧ Q (.tup ds) S1) :=
  (pe_tup h).weak fun σ H Q ⟨env, S, Qd, re, so, h, l⟩ => ⟨env, S, _, re, so, h, fun ds S1 vs H1 h1 k1 r1 s1 =>
    ⟨by rw [← r1.length, szl]; exact h1.1, fun p hp => (l.keep k1).tup s1 h1.2 r1 p hp⟩⟩
theorem q_lst (h : QA X es t) : QE X (.List es pos) (fun env S Q => t env S fun ds S1 => ds.length ≤ 16777216 ∧ ∀ p, S1 p = none → Q (.ref p) (put S1 p (.lst ds))) :=
  (pe_lst h).weak fun σ H Q ⟨env, S, Qd, re, so, h, l⟩ => ⟨env, S, _, re, so, h, fun ds S1 vs H1 h1 k1 r1 s1 =>
    ⟨by rw [← r1.length, szl]; exact h1.1, fun p hp => (l.keep k1).lst s1 h1.2 r1 p hp⟩⟩
theorem q_idx (ha : QE X a ta) (hb : QE X b tb) (hs : PlainIx b) : QE X (.Subscript a b pos) (fun env S Q => ta env S fun x S1 => tb env S1 fun y S2 => idxD x y S2 Q) :=
  (pe_ix idxD_ok ha hb hs).weak fun σ H Q ⟨env, S, Qd, re, so, h, l⟩ =>
    ⟨env, S, _, re, so, h, fun x S1 v H1 h1 k1 r1 s1 => ⟨env, S1, _, re.mono k1, s1, h1, fun y S2 u H2 h2 k2 r2 s2 =>
      ⟨x, y, S2, Qd, r1.mono k2, r2, s2, h2, l.keep (k1.trans k2)⟩⟩⟩
abbrev TOD := En → Sto → (Option Int → Sto → Prop) → Prop
def liftO (K : PySem.W.Frag) (t : TOD) : TO := fun σ H Q => ∃ env S, ∃ Qd : Option Int → Sto → Prop, RelE K H env σ ∧ StoOk K H S ∧ t env S Qd ∧ ∀ o S' H', Qd o S' → Keep H H' → StoOk K H' S' → Q o H'
theorem PO.weak' {o : Option Expr} {t t' : TO} (h : PO X o t) (w : ∀ σ H Q, t' σ H Q → t σ H Q) : PO X o t' := ⟨fun pins s σ H Q I q => h.run pins s σ H Q I (w σ H Q q)⟩
theorem q_on : PO X none (liftO X.K fun _ S Q => Q none S) := PO.weak' po_none fun σ H Q ⟨env, S, Qd, re, so, h, l⟩ => l none S H h .refl so
theorem q_os (he : QE X e te) : PO X (some e) (liftO X.K fun env S Q => te env S fun x S1 => ∃ i, x = .int i ∧ Q (some i) S1) :=
  PO.weak' (po_some he) fun σ H Q ⟨env, S, Qd, re, so, h, l⟩ => ⟨env, S, _, re, so, h, fun x S1 v H1 h1 k1 r1 s1 => by
    obtain ⟨i, rfl, h1⟩ := h1
    simp only [Rep] at r1
    exact ⟨i, r1, l _ S1 H1 h1 k1 s1⟩⟩
theorem q_sl {lo hi : Option Expr} {tl th : TOD} {p2 : Pos} (ha : QE X a ta) (hl : PO X lo (liftO X.K tl)) (hh : PO X hi (liftO X.K th)) :
    QE X (.Subscript a (.Slice lo hi none p2) pos) (fun env S Q => ta env S fun x S1 => tl env S1 fun l S2 => th env S2 fun h S3 => slD x l h S3 Q) :=
  (pe_slice slD_ok ha hl hh).weak fun σ H Q ⟨env, S, Qd, re, so, h, l⟩ =>
    ⟨env, S, _, re, so, h, fun x S1 v H1 h1 k1 r1 s1 => ⟨env, S1, _, re.mono k1, s1, h1, fun o S2 H2 h2 k2 s2 => ⟨env, S2, _, re.mono (k1.trans k2), s2, h2, fun o' S3 H3 h3 k3 s3 =>
      ⟨x, S3, Qd, r1.mono (k2.trans k3), s3, h3, l.keep (k1.trans (k2.trans k3))⟩⟩⟩⟩
end
end G57
set_option Elab.async false
set_option linter.all false
set_option maxRecDepth 100000
set_option maxHeartbeats 400000
namespace G57
open PySem L2 PySem.Spec PyProof.Rows
theorem _root_.L2.PW.weak {X : Cx} {e : Expr} {t t' : TT} (h : PW X e t) (w : ∀ σ H Q, t' σ H Q → t σ H Q) : PW X e t' := ⟨fun wh pins s σ H Q I q => h.run wh pins s σ H Q I (w σ H Q q)⟩
theorem _root_.L2.PI.weak {X : Cx} {tg e : Expr} {t t' : TI} (h : PI X tg e t) (w : ∀ σ H Q, t' σ H Q → t σ H Q) : PI X tg e t' := ⟨fun pins s σ H Q I q => h.run pins s σ H Q I (w σ H Q q)⟩
abbrev QW (X : Cx) (e : Expr) (t : TBD) : Prop := PW X e (liftT X.K t)
section
variable {X : Cx} {pos : Pos} {a b c e : Expr} {es rest : List Expr} {ta tb tc te : TD} {tA tB : TBD} {t : TAD}
theorem qt_not (ha : QT X a tA) : QT X (.UnaryOp .Not a pos) (fun env S Q => tA env S fun b S1 => Q (!b) S1) :=
  (pt_not ha).weak fun σ H Q ⟨env, S, Qd, re, so, h, l⟩ => ⟨env, S, _, re, so, h, fun b S1 H1 h1 k1 s1 => l _ S1 H1 h1 k1 s1⟩
theorem qw_and1 (ha : QT X a tA) : QW X (.BoolOp .And [a] pos) tA := pw_and1 ha
theorem qw_or1 (ha : QT X a tA) : QW X (.BoolOp .Or [a] pos) tA := pw_or1 ha
theorem qw_and (ha : QT X a tA) (hb : QW X (.BoolOp .And (b :: rest) pos) tB) : QW X (.BoolOp .And (a :: b :: rest) pos) (fun env S Q => tA env S fun t S1 => if t = true then tB env S1 Q else Q false S1) :=
  (pw_and ha hb).weak fun σ H Q ⟨env, S, Qd, re, so, h, l⟩ => ⟨env, S, _, re, so, h, fun t S1 H1 h1 k1 s1 => by
    cases t with
    | true => exact ⟨env, S1, Qd, re.mono k1, s1, h1, fun b S2 H2 h2 k2 s2 => l b S2 H2 h2 (k1.trans k2) s2⟩
    | false => exact l _ S1 H1 h1 k1 s1⟩
theorem qw_or (ha : QT X a tA) (hb : QW X (.BoolOp .Or (b :: rest) pos) tB) : QW X (.BoolOp .Or (a :: b :: rest) pos) (fun env S Q => tA env S fun t S1 => if t = true then Q true S1 else tB env S1 Q) :=
  (pw_or ha hb).weak fun σ H Q ⟨env, S, Qd, re, so, h, l⟩ => ⟨env, S, _, re, so, h, fun t S1 H1 h1 k1 s1 => by
    cases t with
    | false => exact ⟨env, S1, Qd, re.mono k1, s1, h1, fun b S2 H2 h2 k2 s2 => l b S2 H2 h2 (k1.trans k2) s2⟩
    | true => exact l _ S1 H1 h1 k1 s1⟩
theorem qt_cmp {op : CmpOp} (hu : X.A.units + 64 < cLine) (ha : QE X a ta) (hb : QE X b tb) (hm : behindInMarks op b = false) :
    QT X (.Compare a [op] [b] pos) (fun env S Q => ta env S fun x S1 => tb env S1 fun y S2 => cmpD op x y S2 fun z S3 => ∃ k, z = .bl k ∧ Q k S3) :=
  (pt_cmpR (cmpD_ok hu op) ha hb hm).weak fun σ H Q ⟨env, S, Qd, re, so, h, l⟩ =>
    ⟨env, S, _, re, so, h, fun x S1 v H1 h1 k1 r1 s1 => ⟨env, S1, _, re.mono k1, s1, h1, fun y S2 u H2 h2 k2 r2 s2 =>
      ⟨x, y, S2, _, r1.mono k2, r2, s2, h2, fun z S3 w H3 h3 k3 r3 s3 => by
        obtain ⟨k, rfl, h3⟩ := h3
        simp only [Rep] at r3
        exact ⟨k, r3, l _ S3 H3 h3 (k1.trans (k2.trans k3)) s3⟩⟩⟩⟩
theorem qt_chain {o1 o2 : CmpOp} (hu : X.A.units + 64 < cLine) (ha : QE X a ta) (hb : QE X b tb) (hc : QE X c tc) (hm : lastMarks [o1, o2] [b, c] = false) :
    QT X (.Compare a [o1, o2] [b, c] pos) (fun env S Q => ta env S fun x S1 => tb env S1 fun y S2 => cmpD o1 x y S2 fun z S3 => ∃ k, z = .bl k ∧
      (if k = true then tc env S3 fun w S4 => cmpD o2 y w S4 fun z S5 => ∃ k, z = .bl k ∧ Q k S5 else Q false S3)) :=
  (pt_chain (cmpD_ok hu o1) (cmpD_ok hu o2) ha hb hc hm).weak fun σ H Q ⟨env, S, Qd, re, so, h, l⟩ => ⟨env, S, _, re, so, h, fun x S1 v H1 h1 k1 r1 s1 =>
    ⟨env, S1, _, re.mono k1, s1, h1, fun y S2 u H2 h2 k2 r2 s2 => ⟨x, y, S2, _, r1.mono k2, r2, s2, h2, fun z S3 w H3 h3 k3 r3 s3 => by
      obtain ⟨k, rfl, h3⟩ := h3
      simp only [Rep] at r3
      refine ⟨k, r3, ?_⟩
      cases k with
      | true => exact ⟨env, S3, _, re.mono (k1.trans (k2.trans k3)), s3, h3, fun w S4 u' H4 h4 k4 r4 s4 => ⟨y, w, S4, _, r2.mono (k3.trans k4), r4, s4, h4, fun z S5 w' H5 h5 k5 r5 s5 => by
          obtain ⟨k, rfl, h5⟩ := h5
          simp only [Rep] at r5
          exact ⟨k, r5, l _ S5 H5 h5 (k1.trans (k2.trans (k3.trans (k4.trans k5)))) s5⟩⟩⟩
      | false => exact ⟨false, rfl, l _ S3 H3 h3 (k1.trans (k2.trans k3)) s3⟩⟩⟩⟩
theorem qt_truth (ha : QE X a ta) (he : ∀ whole, isTrue a X.env whole = (do let v ← whole; standAt a.pos; holding [v] (truthy v))) : QT X a (fun env S Q => ta env S fun d S1 => truthD d S1 fun b => Q b S1) :=
  (pt_truth ha he).weak fun σ H Q ⟨env, S, Qd, re, so, h, l⟩ => ⟨env, S, _, re, so, h, fun x S1 v H1 h1 k1 r1 s1 =>
    let ⟨b, q, z⟩ := truth_tru s1 r1 h1; ⟨b, q, l _ S1 H1 z k1 s1⟩⟩
theorem q_b {id : String} {r : RLD} {x : Str} {p : Pos} (hc : CallR X (.builtin id) (liftRL X.K r)) (hg : Gl X x) (hm : X.mg x = none) (hv : bootBuiltins x = some (.builtin id)) (ha : QA X (e :: es) t) (hn : x ≠ "__name__") (hdb : (x == ("__debug__" : Str)) = false)
    (he : starEach (e :: es) X.env = (false, eval e X.env) :: starEach es X.env) (hpl : (backTo pos (starEach es X.env)).any (·.1) = false) : QE X (.Call (.Name x p) (e :: es) [] pos) (fun env S Q => t env S fun ds S1 => r ds S1 Q) :=
  (pe_callB hc hg hm hv ha hn hdb he hpl).weak fun σ H Q ⟨env, S, Qd, re, so, h, l⟩ => ⟨env, S, _, re, so, h, fun ds S1 vs H1 h1 k1 r1 s1 => ⟨ds, S1, Qd, r1, s1, h1, l.keep k1⟩⟩
theorem q_ty {id : String} {r : RLD} {x : Str} {p : Pos} (hc : CallR X (.type id) (liftRL X.K r)) (hg : Gl X x) (hm : X.mg x = none) (hv : bootBuiltins x = some (.type id)) (ha : QA X (e :: es) t) (hn : x ≠ "__name__") (hdb : (x == ("__debug__" : Str)) = false)
    (he : starEach (e :: es) X.env = (false, eval e X.env) :: starEach es X.env) (hpl : (backTo pos (starEach es X.env)).any (·.1) = false) : QE X (.Call (.Name x p) (e :: es) [] pos) (fun env S Q => t env S fun ds S1 => r ds S1 Q) :=
  (pe_callTy hc hg hm hv ha hn hdb he hpl).weak fun σ H Q ⟨env, S, Qd, re, so, h, l⟩ => ⟨env, S, _, re, so, h, fun ds S1 vs H1 h1 k1 r1 s1 => ⟨ds, S1, Qd, r1, s1, h1, l.keep k1⟩⟩
theorem bt_len : bootBuiltins "len" = some (.builtin "len") := by decide +kernel
theorem bt_sum : bootBuiltins "sum" = some (.builtin "sum") := by decide +kernel
theorem bt_any : bootBuiltins "any" = some (.builtin "any") := by decide +kernel
theorem bt_all : bootBuiltins "all" = some (.builtin "all") := by decide +kernel
theorem bt_abs : bootBuiltins "abs" = some (.builtin "abs") := by decide +kernel
theorem bt_min : bootBuiltins "min" = some (.builtin "min") := by decide +kernel
theorem bt_max : bootBuiltins "max" = some (.builtin "max") := by decide +kernel
theorem bt_repr : bootBuiltins "repr" = some (.builtin "repr") := by decide +kernel
theorem bt_int : bootBuiltins "int" = some (.type "int") := by decide +kernel
theorem bt_str : bootBuiltins "str" = some (.type "str") := by decide +kernel
theorem bt_tuple : bootBuiltins "tuple" = some (.type "tuple") := by decide +kernel
theorem bt_sorted : bootBuiltins "sorted" = some (.builtin "sorted") := by decide +kernel
theorem bt_list : bootBuiltins "list" = some (.type "list") := by decide +kernel
theorem biOf_inv {x : Str} {f : Bi} (h : biOf x = some f) : (x = "len" ∧ f = .len) ∨ (x = "sum" ∧ f = .sum) ∨ (x = "any" ∧ f = .any) ∨ (x = "all" ∧ f = .all) ∨ (x = "abs" ∧ f = .abs) ∨ (x = "min" ∧ f = .min) ∨ (x = "max" ∧ f = .max) ∨ (x = "repr" ∧ f = .repr) ∨ (x = "int" ∧ f = .int) ∨ (x = "str" ∧ f = .str) ∨ (x = "tuple" ∧ f = .tuple) ∨ (x = "list" ∧ f = .list) ∨ (x = "sorted" ∧ f = .sorted) := by
  unfold biOf at h
  by_cases e0 : x = "len"
  · rw [if_pos e0] at h; cases h; exact Or.inl (⟨e0, rfl⟩)
  rw [if_neg e0] at h
  by_cases e1 : x = "sum"
  · rw [if_pos e1] at h; cases h; exact Or.inr (Or.inl (⟨e1, rfl⟩))
  rw [if_neg e1] at h
  by_cases e2 : x = "any"
  · rw [if_pos e2] at h; cases h; exact Or.inr (Or.inr (Or.inl (⟨e2, rfl⟩)))
  rw [if_neg e2] at h
  by_cases e3 : x = "all"
  · rw [if_pos e3] at h; cases h; exact Or.inr (Or.inr (Or.inr (Or.inl (⟨e3, rfl⟩))))
  rw [if_neg e3] at h
  by_cases e4 : x = "abs"
  · rw [if_pos e4] at h; cases h; exact Or.inr (Or.inr (Or.inr (Or.inr (Or.inl (⟨e4, rfl⟩)))))
  rw [if_neg e4] at h
  by_cases e5 : x = "min"
  · rw [if_pos e5] at h; cases h; exact Or.inr (Or.inr (Or.inr (Or.inr (Or.inr (Or.inl (⟨e5, rfl⟩))))))
  rw [if_neg e5] at h
  by_cases e6 : x = "max"
  · rw [if_pos e6] at h; cases h; exact Or.inr (Or.inr (Or.inr (Or.inr (Or.inr (Or.inr (Or.inl (⟨e6, rfl⟩)))))))
  rw [if_neg e6] at h
  by_cases e7 : x = "repr"
  · rw [if_pos e7] at h; cases h; exact Or.inr (Or.inr (Or.inr (Or.inr (Or.inr (Or.inr (Or.inr (Or.inl (⟨e7, rfl⟩))))))))
  rw [if_neg e7] at h
  by_cases e8 : x = "int"
  · rw [if_pos e8] at h; cases h; exact Or.inr (Or.inr (Or.inr (Or.inr (Or.inr (Or.inr (Or.inr (Or.inr (Or.inl (⟨e8, rfl⟩)))))))))
  rw [if_neg e8] at h
  by_cases e9 : x = "str"
  · rw [if_pos e9] at h; cases h; exact Or.inr (Or.inr (Or.inr (Or.inr (Or.inr (Or.inr (Or.inr (Or.inr (Or.inr (Or.inl (⟨e9, rfl⟩))))))))))
  rw [if_neg e9] at h
  by_cases e10 : x = "tuple"
  · rw [if_pos e10] at h; cases h; exact Or.inr (Or.inr (Or.inr (Or.inr (Or.inr (Or.inr (Or.inr (Or.inr (Or.inr (Or.inr (Or.inl (⟨e10, rfl⟩)))))))))))
  rw [if_neg e10] at h
  by_cases e11 : x = "list"
  · rw [if_pos e11] at h; cases h; exact Or.inr (Or.inr (Or.inr (Or.inr (Or.inr (Or.inr (Or.inr (Or.inr (Or.inr (Or.inr (Or.inr (Or.inl (⟨e11, rfl⟩))))))))))))
  rw [if_neg e11] at h
  by_cases e12 : x = "sorted"
  · rw [if_pos e12] at h; cases h; exact Or.inr (Or.inr (Or.inr (Or.inr (Or.inr (Or.inr (Or.inr (Or.inr (Or.inr (Or.inr (Or.inr (Or.inr (⟨e12, rfl⟩))))))))))))
  rw [if_neg e12] at h
  cases h
theorem q_bi {f : Bi} {x : Str} {p : Pos} (hdg : PySem.W.nsIn X.K cStatics "sys.int_max_str_digits" = some none) (hcalm : X.calm = true) (hgd : X.A.guards = some []) (hu : X.A.units + 64 < cLine) (hf : biOf x = some f) (hg : Gl X x) (hm : X.mg x = none) (ha : QA X (e :: es) t) (hn : x ≠ "__name__") (hdb : (x == ("__debug__" : Str)) = false)
    (he : starEach (e :: es) X.env = (false, eval e X.env) :: starEach es X.env) (hpl : (backTo pos (starEach es X.env)).any (·.1) = false) : QE X (.Call (.Name x p) (e :: es) [] pos) (fun env S Q => t env S fun ds S1 => biD f ds S1 Q) := by
  rcases biOf_inv hf with ⟨rfl, rfl⟩ | ⟨rfl, rfl⟩ | ⟨rfl, rfl⟩ | ⟨rfl, rfl⟩ | ⟨rfl, rfl⟩ | ⟨rfl, rfl⟩ | ⟨rfl, rfl⟩ | ⟨rfl, rfl⟩ | ⟨rfl, rfl⟩ | ⟨rfl, rfl⟩ | ⟨rfl, rfl⟩ | ⟨rfl, rfl⟩ | ⟨rfl, rfl⟩
  · exact q_b lenD_ok hg hm bt_len ha hn hdb he hpl
  · exact q_b (sumD_ok hcalm) hg hm bt_sum ha hn hdb he hpl
  · exact q_b (anyD_ok hcalm) hg hm bt_any ha hn hdb he hpl
  · exact q_b (allD_ok hcalm) hg hm bt_all ha hn hdb he hpl
  · exact q_b absD_ok hg hm bt_abs ha hn hdb he hpl
  · exact q_b (minD_ok hcalm) hg hm bt_min ha hn hdb he hpl
  · exact q_b (maxD_ok hcalm) hg hm bt_max ha hn hdb he hpl
  · exact q_b (reprD_ok hdg hgd hu) hg hm bt_repr ha hn hdb he hpl
  · exact q_ty intD_ok hg hm bt_int ha hn hdb he hpl
  · exact q_ty strD_ok hg hm bt_str ha hn hdb he hpl
  · exact q_ty tupleD_ok hg hm bt_tuple ha hn hdb he hpl
  · exact q_ty listD_ok hg hm bt_list ha hn hdb he hpl
  · exact q_b sortedD_ok hg hm bt_sorted ha hn hdb he hpl
def mtT : Mt → String
  | .join | .count | .find | .endswith | .startswith => "str"
  | _ => "list"
theorem ty_of {m : Mt} {T : String} {K : PySem.W.Frag} {H : Hp} {S : Sto} (so : StoOk K H S) {d : D} {v : V} (r : Rep K H d v) (h : mtTy m d S) (hT : T = mtT m) : tyV K T v H := by
  subst hT
  cases m <;> cases d <;> try exact h.elim
  case join.str => simp only [Rep] at r; subst r; rfl
  case count.str => simp only [Rep] at r; subst r; rfl
  case find.str => simp only [Rep] at r; subst r; rfl
  case endswith.str => simp only [Rep] at r; subst r; rfl
  case startswith.str => simp only [Rep] at r; subst r; rfl
  all_goals
    simp only [Rep] at r; subst r
    obtain ⟨ds, e⟩ := h
    obtain ⟨vs, q, _⟩ := so _ _ e
    exact Or.inl ⟨rfl, vs, Or.inl (Or.inl q)⟩
theorem q_m1 {m : Mt} {T id : String} {name : Str} {apos : Pos} {o : Expr} {to : TD} (pa : PlainAttrs T) (slot : Slot T name id) (hty : typeOf (.builtin id) = pure (.type "method_descriptor")) (hm : MtR X id (liftM X.K (mtD m)))
    (hT : T = mtT m) (ho : QE X o to) (ha : QA X (e :: es) t) (hbase : attributeBase o name X.env (eval o X.env) = eval o X.env)
    (hfew : ((backTo pos (starEach (e :: es) X.env)).all (fun x => !x.1) && (backToKw pos (keywordEach [] X.env)).all (fun x => x.1.isSome) && decide ((e :: es).length + ([] : List Keyword).length + (if ([] : List Keyword).isEmpty then 0 else 1) < 30)) = true)
    (hline : (apos.endLine == pos.line) = true) (hs : starEach (e :: es) X.env = (false, eval e X.env) :: starEach es X.env) (hplain : (backTo pos (starEach es X.env)).any (·.1) = false) :
    QE X (.Call (.Attribute o name apos) (e :: es) [] pos) (fun env S Q => to env S fun x S1 => mtTy m x S1 ∧ t env S1 fun ds S2 => mtD m x ds S2 Q) :=
  (pe_bm pa slot hty hm ho ha hbase hfew hline hs hplain).weak fun σ H Q ⟨env, S, Qd, re, so, h, l⟩ =>
    ⟨env, S, _, re, so, h, fun x S1 v H1 h1 k1 r1 s1 => ⟨ty_of s1 r1 h1.1 hT, env, S1, _, re.mono k1, s1, h1.2, fun ds S2 vs H2 h2 k2 r2 s2 => ⟨x, ds, S2, Qd, r1.mono k2, r2, s2, h2, l.keep (k1.trans k2)⟩⟩⟩
theorem q_m0 {m : Mt} {T id : String} {name : Str} {apos : Pos} {o : Expr} {to : TD} (pa : PlainAttrs T) (slot : Slot T name id) (hty : typeOf (.builtin id) = pure (.type "method_descriptor")) (hm : MtR X id (liftM X.K (mtD m)))
    (hT : T = mtT m) (ho : QE X o to) (hbase : attributeBase o name X.env (eval o X.env) = eval o X.env) (hline : (apos.endLine == pos.line) = true) :
    QE X (.Call (.Attribute o name apos) [] [] pos) (fun env S Q => to env S fun x S1 => mtTy m x S1 ∧ mtD m x [] S1 Q) :=
  (pe_bm0 pa slot hty hm ho hbase hline).weak fun σ H Q ⟨env, S, Qd, re, so, h, l⟩ =>
    ⟨env, S, _, re, so, h, fun x S1 v H1 h1 k1 r1 s1 => ⟨ty_of s1 r1 h1.1 hT, x, [], S1, Qd, r1, .nil, s1, h1.2, l.keep k1⟩⟩
abbrev TID := En → Sto → IK → Prop
def Drv (K : PySem.W.Frag) (H0 : Hp) (J : It) (xs : List D) (G : Sto → Prop) : Prop := ∀ H S (i : Nat), Keep H0 H → StoOk K H S → G S →
  (∀ d, xs[i]? = some d → J.go i H ∧ ∀ v H', J.yld i H v H' → Keep H H' ∧ StoOk K H' S ∧ Rep K H' d v) ∧ (i = xs.length → J.stop i H)
def liftI (K : PySem.W.Frag) (t : TID) : TI := fun σ H R => ∃ env S, ∃ Kd : IK, RelE K H env σ ∧ StoOk K H S ∧ t env S Kd ∧
  ∀ xs G S' J H', Kd xs G S' → Keep H H' → StoOk K H' S' → G S' → Drv K H' J xs G → R J H'
abbrev QI (X : Cx) (tg it : Expr) (t : TID) : Prop := PI X tg it (liftI X.K t)
theorem drv_list {K : PySem.W.Frag} {H0 : Hp} {a : Addr} {xs : List D} {G : Sto → Prop} (h : ∀ H S, Keep H0 H → StoOk K H S → G S → ∃ vs, SqL K H a vs ∧ Reps K H xs vs) : Drv K H0 (Itl K a) xs G := fun H S i k so g => by
  obtain ⟨vs, q, r⟩ := h H S k so g
  refine ⟨fun d e => ?_, fun e => ⟨vs, q, by rw [e, r.length]; exact Nat.le_refl _⟩⟩
  obtain ⟨v, e2, rv⟩ := r.get e
  refine ⟨⟨vs, v, q, e2⟩, fun w H' y => ?_⟩
  obtain ⟨rfl, y⟩ := y
  have := y vs q
  rw [e2] at this; cases this
  exact ⟨.refl, so, rv⟩
end
end G57
set_option Elab.async false
set_option linter.all false
set_option maxRecDepth 100000
set_option maxHeartbeats 4000000
namespace G57
open PySem L2 PySem.Spec PyProof.Rows
section
variable {P : Program} {w : World} {A : Around} {E : Value → Shared → Prop} {s : Shared}
abbrev setO (w : World) : Obj := { cls := .type "set", dict := none, data := .set #[] 0 (.fresh 0 0 (!w.params.followText "set-order")) }
theorem set_from_list {l : Addr} {items : Array Value} {R : Result → Shared → Prop} (ns : List Int) (hh : A.handled = none) (hl : s.heap.IsList l items) (hit : IntsAre items.toList ns) (hb : ns.length + 1 < scanBound)
    (hR : ∀ (h' : Heap) (tk c : Nat), SetR w h' s.heap.objs.size (fun j => decide (j ∈ ns)) c → c ≤ ns.length → (∀ b o, s.heap.get? b = some o → h'.get? b = some o) → R (.ok (.ret .none)) { s with heap := h', toks := tk }) :
    codeAny (model P w) A (.call (.builtin "set.__init__") ⟨[.ref s.heap.objs.size, .ref l], []⟩) R { s with heap := s.heap.push (setO w) } := by
  have hisz : items.size = ns.length := by rw [← IntsAre.length hit, Array.length_toList]
  have hS : (s.heap.push (setO w)).get? s.heap.objs.size = some (setO w) := Heap.get?_push_size _ rfl
  have hT : Shared.TypeIs { s with heap := s.heap.push (setO w) } (.ref s.heap.objs.size) "set" := ⟨_, hS, rfl⟩
  refine codeAny_call_builtin PySem.F.called_set.init.plain PySem.F.entry_set_init (check_set_init_1 hT ?_)
  obtain ⟨⟨ocls, odict, odata, oslots⟩, hol, hcl, nl, hdl⟩ := id hl
  simp only at hcl hdl
  subst hcl; subst hdl
  have hlS : l < s.heap.objs.size := Heap.lt_size hol
  have hol' := Heap.get?_push_of_some (setO w) hol
  have hsls := PySem.F.sub_list_set
  have hslf := PySem.F.sub_list_frozenset
  have hne : (Value.type "list" == Value.type "dict") = false := by decide
  have hl1 : (s.heap.push (setO w)).IsList l items := ⟨_, hol', rfl, nl, rfl⟩
  have hz1 : (s.heap.push (setO w)).objs.size = s.heap.objs.size + 1 := Heap.size_push ..
  have hneI : l ≠ (s.heap.push (setO w)).objs.size := by rw [hz1]; exact Nat.ne_of_lt (Nat.lt_succ_of_lt hlS)
  have hSf : s.heap.objs.size ∉ [(s.heap.push (setO w)).objs.size, l] := by
    rw [hz1]
    simp only [List.mem_cons, List.not_mem_nil, or_false, not_or]
    exact ⟨Nat.ne_of_lt (Nat.lt_succ_self _), Nat.ne_of_gt hlS⟩
  unfold Builtin.«set.__init__» noKeywords Builtin.Frozenset.updateFrom
  generalize hPI : pyIter = PI
  wp_walk
  subst hPI
  refine wpAny_pyIter_list hl1 (wpAny_bind (wpAny_runValue ?_))
  refine set_update_ints ((Walks.list (by simp [hh]) _ l hneI items).toS) s.heap.objs.size hSf ns hisz hb (fun i v hv => ?_) (items.size - 0) 0 _ (by omega) (Nat.zero_le _)
    ⟨⟨_, Heap.get?_push_size _ rfl, rfl, rfl⟩, (hl1.push _)⟩ ⟨0, Nat.le_refl 0, setR_new_at (Heap.get?_push_of_some _ hS)⟩ fun s' c' hm hc' hS' => ?_
  · have hi : i < ns.length := by rw [← hisz]; exact (Array.getElem?_eq_some_iff.mp hv).1
    obtain ⟨t, e⟩ := PyProof.Rows.IntsAre.int_at hit i v (by rw [Array.getElem?_toList]; exact hv)
    exact ⟨ns[i], t, List.getElem?_eq_getElem hi, by rw [e, List.getD_eq_getElem?_getD, List.getElem?_eq_getElem hi] <;> rfl⟩
  · obtain ⟨h', g2, d', tk', os'⟩ := s'
    obtain rfl : g2 = s.gens := hm.gens
    obtain rfl : d' = s.drawn := hm.drawn
    obtain rfl : os' = s.os := hm.os
    show wpAny _ _ _ _ _ _
    refine wpAny_pure ?_
    show wpAny _ _ (ret Value.none) _ _ _
    refine wpAny_pure (hR h' tk' c' hS' (by omega) fun b o e => ?_)
    have hb0 : b < s.heap.objs.size := Heap.lt_size e
    exact hm.heap b o (by
      rw [hz1]
      simp only [List.mem_cons, List.not_mem_nil, or_false, not_or]
      exact ⟨Nat.ne_of_lt hb0, Nat.ne_of_lt (Nat.lt_succ_of_lt hb0)⟩) (Heap.get?_push_of_some _ (Heap.get?_push_of_some _ e))
theorem call_set_lst {l : Addr} {items : Array Value} (ns : List Int) {Q : Value → Shared → Prop} (hh : A.handled = none) (hl : s.heap.IsList l items) (hit : IntsAre items.toList ns) (hb : ns.length + 1 < scanBound)
    (h : ∀ (h' : Heap) (tk c : Nat), SetR w h' s.heap.objs.size (fun j => decide (j ∈ ns)) c → c ≤ ns.length → (∀ b o, s.heap.get? b = some o → h'.get? b = some o) → Q (.ref s.heap.objs.size) { s with heap := h', toks := tk }) :
    wpAny (model P w) A (call (.type "set") [.ref l]) Q E s := by
  obtain ⟨c, tl, hmro⟩ := PySem.F.called_set.mro
  have hmade := PySem.F.called_set.made
  have hsub := PySem.F.called_set.sub
  have h1 := PySem.F.called_set.notType
  have h2 := PySem.F.called_set.canCreate
  have hct := PySem.F.typeCall_set_1 (.ref l)
  refine wpAny_call (codeAny_of_tree ?_)
  show wpAny _ _ (callAny (.type "set") _) _ _ _
  refine wpAny_pure ⟨Code.quiet_builtin _ (by decide +kernel), codeAny_builtin PySem.F.entry_type_call ?_⟩
  rw [Around.under_plain (weight_type_call_type "set" [.ref l] []) rfl]
  repeat (any_goals (first | assumption | wp_step))
  refine codeAny_mono (code_set_led1 (.ref l) (E := E) (Q₁ := fun obj s₁ => obj = .ref s.heap.objs.size ∧ s₁ = { s with heap := s.heap.push (setO w) }) ⟨rfl, rfl⟩) fun r s₁ hr => ?_
  cases r with
  | error e => exact hr
  | ok fl =>
    cases fl with
    | ret obj =>
      obtain ⟨rfl, rfl⟩ := hr
      have hS : (s.heap.push (setO w)).get? s.heap.objs.size = some (setO w) := Heap.get?_push_size _ rfl
      have hT : Shared.TypeIs { s with heap := s.heap.push (setO w) } (.ref s.heap.objs.size) "set" := ⟨_, hS, rfl⟩
      have hli := PySem.F.called_set.init.lookup
      have hbi := PySem.F.called_set.init.bind (.ref s.heap.objs.size)
      repeat (any_goals (first | assumption | wp_step))
      refine codeAny_mono (set_from_list (R := wants (fun r s₂ => r = .none ∧ ∃ h' tk c, s₂ = { s with heap := h', toks := tk } ∧ SetR w h' s.heap.objs.size (fun j => decide (j ∈ ns)) c ∧ c ≤ ns.length ∧
          (∀ b o, s.heap.get? b = some o → h'.get? b = some o)) E) ns (by simp [hh]) hl hit hb fun h' tk c a b k => ⟨rfl, h', tk, c, rfl, a, b, k⟩) fun r₂ s₂ hr₂ => ?_
      cases r₂ with
      | error e => exact hr₂
      | ok fl₂ =>
        cases fl₂ with
        | ret r =>
          obtain ⟨rfl, h', tk, c', rfl, a, b, k⟩ := hr₂
          repeat (any_goals (first | assumption | wp_step))
          exact h _ _ _ a b k
        | _ => exact hr₂.elim
    | _ => exact hr.elim
end
section
variable {X : Cx}
def rSetL (K : PySem.W.Frag) (w : World) : List V → Hp → VK → Prop := fun xs H Q => ∃ (p : Addr) (ns : List Int), xs = [.ref p] ∧ SqL K H p (ns.map V.int) ∧ ns.length + 1 < scanBound ∧
  ∀ (a : Addr) (c : Nat), H a = none → c ≤ ns.length → Q (.ref a) (upd H a (SetO w a (fun j => decide (j ∈ ns)) c))
theorem cr_setL (hc : X.calm = true) : CallR X (.type "set") (rSetL X.K X.w) := by
  intro pins s σ H xs us Q I r h
  obtain ⟨p, ns, rfl, hs, hb, q⟩ := h
  rw [Vals.ref1 r]
  obtain ⟨its, rv, hl, hlen⟩ := I.list hs
  refine call_set_lst ns (I.ok.hd hc) hl.isList (ints_of_vals rv) hb fun h' tk c a b k => ?_
  exact ⟨.ref _, _, I.laid (t' := tk) k (Nat.le_refl _) (setO_new a), rfl, q _ c (I.hok.fresh (Nat.le_refl _)) b⟩
theorem bt_set : bootBuiltins "set" = some (.type "set") := by decide +kernel
theorem q_sortedSet {b : Expr} {tb : TD} {fp gp pos gpos : Pos} (hc : X.calm = true) (hg : Gl X "sorted") (hm : X.mg "sorted" = none) (hgs : Gl X "set") (hms : X.mg "set" = none) (hx : QE X b tb) (hs : starEach [b] X.env = [(false, eval b X.env)]) :
    QE X (.Call (.Name "sorted" fp) [.Call (.Name "set" gp) [b] [] gpos] [] pos) (fun env S Q => tb env S fun x S1 => ssortD [x] S1 Q) := by
  have p1 : PE X (.Call (.Name "set" gp) [b] [] gpos) _ := pe_callTy (cr_setL hc) hgs hms bt_set (pa_cons hx pa_nil hs) (by decide) (by decide) hs rfl
  refine (pe_callB (cr_sortedSet hc) hg hm bt_sorted (pa_cons p1 pa_nil rfl) (by decide) (by decide) rfl rfl).weak fun σ H Q ⟨env, S, Qd, re, so, h, l⟩ => ?_
  refine ⟨env, S, fun x S1 => ssortD [x] S1 Qd, re, so, h, fun x S1 v H1 h1 k1 r1 s1 => ?_⟩
  change ssortD [x] S1 Qd at h1
  cases x <;> try exact h1.elim
  · rename_i p
    obtain ⟨ds, is, e1, e2, hl, h1⟩ := h1
    simp only [Rep] at r1
    subst r1
    obtain ⟨vs, q, rs⟩ := s1 p _ e1
    obtain rfl := ints_reps e2 rs
    exact ⟨p, is, rfl, .inl (.inl q), by unfold scanBound; omega, fun a c ha hc => ⟨a, _, c, rfl, upd_same, by omega, fun ns p' hlt hmem _ hp =>
      (l.keep (k1.trans (Keep.new ha))).lst (s1.new ha) (fun b hb => h1 ns hlt (fun k => (hmem k).trans decide_eq_true_iff) b hb) (ints_rep0 ns) p' hp⟩⟩
end
end G57
set_option Elab.async false
set_option linter.all false
set_option maxRecDepth 100000
set_option maxHeartbeats 4000000
namespace G57
open PySem PyProof.Rows
open PySem.Sem (wp)
theorem args_maxd (a v : Value) : argsOk "max" ⟨[a], [(Str.ofString "default", v)]⟩ := by unfold argsOk; kernel_rfl
section
variable {prog : Program} {w : World} {A : Around} {R : Result → Shared → Prop} {I : Addr} {fp wr : List Addr} {n : Nat} {P : Nat → Value → Prop} {St : Nat → Heap → Prop} {d : Value}
abbrev kwD (d : Value) : List (Str × Value) := [(Str.ofString "default", d)]
theorem maxd_loop (W : Walks prog w A.in1 I fp wr n P St) (bt : Nat → Nat → Bool) (hcmp : CmpOf prog w A.in1 .Gt P bt) (S : Addr) (hSf : S ∉ fp) :
    ∀ (k j : Nat) (s : Shared) (vb : Value) (c : Nat), n - (j + 1) = k → j + 1 ≤ n → St (j + 1) s.heap → P (argBest bt j) vb →
    s.heap.get? S = some { cls := .type "list", dict := none, data := .seq #[vb, vb] c, slots := #[] } →
    (∀ v h' tk, P (argBest bt (n - 1)) v → (∀ b o, b ∉ wr → b ≠ S → s.heap.get? b = some o → h'.get? b = some o) → R (.ok (.ret v)) { s with heap := h', toks := tk }) →
    codeAny (model prog w) A (.builtin "max.loop" ⟨[.ref I, .none, .ref S], kwD d⟩) R s := by
  have hSw : S ∉ wr := fun h => hSf (W.sub _ h)
  have hname : (toString "max" ++ toString ".loop" : String) = "max.loop" := by decide
  intro k
  induction k with
  | zero =>
    intro j s vb c hk hj hst hPb hS hR
    have hin : j + 1 = n := by omega
    refine codeAny_builtin F.entry_max_loop ?_
    rw [Around.under_plainId F.plain_max_loop _]
    show wpAny _ A.in1 (seqItems? (.ref S) >>= _) _ _ s
    refine wpAny_bind (wpAny_seqItems hS rfl ?_)
    show wpAny _ A.in1 (tryCatch (pyNext (.ref I)) _ >>= _) _ _ s
    refine wpAny_bind (wpAny_tryCatch (W.done s _ _ (hin ▸ hst) fun h' tk hk' => ?_))
    have hS' := hk' S _ hSw hS
    show wpAny _ A.in1 (updateSeq S (fun _ => #[]) >>= _) _ _ _
    refine wpAny_bind ?_
    refine wpAny_updateSeq hS' rfl (wpAny_bind (wpAny_letGo (wpAny_pure ?_)))
    refine hR vb _ tk (by rw [← hin]; exact hPb) fun b o hbw hbS e => (Heap.get?_update_other _ _ (Ne.symm hbS)).trans (hk' b o hbw e)
  | succ k ih =>
    intro j s vb c hk hj hst hPb hS hR
    have hlt : j + 1 < n := by omega
    refine codeAny_builtin F.entry_max_loop ?_
    rw [Around.under_plainId F.plain_max_loop _]
    show wpAny _ A.in1 (seqItems? (.ref S) >>= _) _ _ s
    refine wpAny_bind (wpAny_seqItems hS rfl ?_)
    show wpAny _ A.in1 (tryCatch (pyNext (.ref I)) _ >>= _) _ _ s
    refine wpAny_bind (wpAny_tryCatch (W.item (j + 1) s _ _ hlt hst fun v h' tk hP hst' hk' => ?_))
    have hS' := hk' S _ hSw hS
    show wpAny _ A.in1 (tryCatch (holding [v, v] (richCompare .Gt v vb >>= _)) _ >>= _) _ _ _
    refine wpAny_bind (wpAny_tryCatch (wpAny_holding (wpAny_bind (hcmp (j + 1) (argBest bt j) v vb _ _ _ hP hPb ?_))))
    refine wpAny_bind (wpAny_holding (wpAny_truthy_bool ?_))
    refine wpAny_bind (wpAny_letGo (wpAny_pure ?_))
    cases hb : bt (j + 1) (argBest bt j) with
    | true =>
      simp only [if_true]
      refine wpAny_bind ?_
      refine wpAny_updateSeq hS' rfl (wpAny_bind (wpAny_letGo ?_))
      rw [hname]
      refine wpAny_pure ⟨plainId_quiet F.plain_max_loop _, ih (j + 1) _ v _ (by omega) hlt (W.frame _ _ _ hst' fun b hbf o e => ?_) (by simp only [argBest, hb, if_true]; exact hP) (Heap.get?_update_self _ hS' rfl)
        fun v' h'' tk'' hP' hk'' => ?_⟩
      · exact (Heap.get?_update_other _ _ (fun h : S = b => hSf (by rw [h]; exact hbf))).trans e
      · exact hR v' h'' tk'' hP' fun b o hbw hbS e => hk'' b o hbw hbS ((Heap.get?_update_other _ _ (Ne.symm hbS)).trans (hk' b o hbw e))
    | false =>
      simp only [Bool.false_eq_true, if_false]
      refine wpAny_bind (wpAny_letGo ?_)
      rw [hname]
      refine wpAny_pure ⟨plainId_quiet F.plain_max_loop _, ih (j + 1) _ vb c (by omega) hlt hst' (by simp only [argBest, hb, Bool.false_eq_true, if_false]; exact hPb) hS' fun v' h'' tk'' hP' hk'' => ?_⟩
      exact hR v' h'' tk'' hP' fun b o hbw hbS e => hk'' b o hbw hbS (hk' b o hbw e)
theorem maxd_first (W : Walks prog w A.in1 I fp wr n P St) (bt : Nat → Nat → Bool) (hcmp : CmpOf prog w A.in1 .Gt P bt) (S : Addr) (hSf : S ∉ fp) {s : Shared} {c : Nat} (hst : St 0 s.heap)
    (hS : s.heap.get? S = some { cls := .type "list", dict := none, data := .seq #[] c, slots := #[] })
    (h0 : n = 0 → ∀ h' tk, (∀ b o, b ∉ wr → b ≠ S → s.heap.get? b = some o → h'.get? b = some o) → R (.ok (.ret d)) { s with heap := h', toks := tk })
    (hR : 0 < n → ∀ v h' tk, P (argBest bt (n - 1)) v → (∀ b o, b ∉ wr → b ≠ S → s.heap.get? b = some o → h'.get? b = some o) → R (.ok (.ret v)) { s with heap := h', toks := tk }) :
    codeAny (model prog w) A (.builtin "max.loop" ⟨[.ref I, .none, .ref S], kwD d⟩) R s := by
  have hSw : S ∉ wr := fun h => hSf (W.sub _ h)
  have hname : (toString "max" ++ toString ".loop" : String) = "max.loop" := by decide
  refine codeAny_builtin F.entry_max_loop ?_
  rw [Around.under_plainId F.plain_max_loop _]
  show wpAny _ A.in1 (seqItems? (.ref S) >>= _) _ _ s
  refine wpAny_bind (wpAny_seqItems hS rfl ?_)
  show wpAny _ A.in1 (tryCatch (pyNext (.ref I)) _ >>= _) _ _ s
  rcases Nat.eq_zero_or_pos n with hn | hn
  · refine wpAny_bind (wpAny_tryCatch (W.done s _ _ (hn ▸ hst) fun h' tk hk' => ?_))
    refine wpAny_bind (wpAny_rule (wpAny_pure ?_))
    exact h0 hn h' tk fun b o hbw _ e => hk' b o hbw e
  · refine wpAny_bind (wpAny_tryCatch (W.item 0 s _ _ hn hst fun v h' tk hP hst' hk' => ?_))
    have hS' := hk' S _ hSw hS
    show wpAny _ A.in1 (updateSeq S (fun _ => #[v, v]) >>= _) _ _ _
    refine wpAny_bind ?_
    refine wpAny_updateSeq hS' rfl ?_
    rw [hname]
    refine wpAny_pure ⟨plainId_quiet F.plain_max_loop _, maxd_loop W bt hcmp S hSf _ 0 _ v _ rfl hn (W.frame _ _ _ hst' fun b hbf o e => ?_) hP (Heap.get?_update_self _ hS' rfl) fun v' h'' tk'' hP' hk'' => ?_⟩
    · exact (Heap.get?_update_other _ _ (fun h : S = b => hSf (by rw [h]; exact hbf))).trans e
    · exact hR hn v' h'' tk'' hP' fun b o hbw hbS e => hk'' b o hbw hbS ((Heap.get?_update_other _ _ (Ne.symm hbS)).trans (hk' b o hbw e))
end
section
variable {prog : Program} {w : World} {A : Around} {E : Value → Shared → Prop} {s : Shared}
theorem maxd_walk {x d : Value} {Q : Value → Shared → Prop}
    (h : wpAny (model prog w) A.in1 (pyIter x) (fun it s₂ => ∃ I fp wr n P St bt, it = .ref I ∧ Walks prog w A.in1 I fp wr n P St ∧ St 0 s₂.heap ∧ (∀ b ∈ fp, b < s₂.heap.objs.size) ∧ CmpOf prog w A.in1 .Gt P bt ∧
      (n = 0 → ∀ h' tk, (∀ b o, b ∉ wr → s₂.heap.get? b = some o → h'.get? b = some o) → Q d { s₂ with heap := h', toks := tk }) ∧
      (0 < n → ∀ v h' tk, P (argBest bt (n - 1)) v → (∀ b o, b ∉ wr → s₂.heap.get? b = some o → h'.get? b = some o) → Q v { s₂ with heap := h', toks := tk })) E s) :
    wpAny (model prog w) A (call (.builtin "max") [x] (kwD d)) Q E s := by
  have hname : (toString "max" ++ toString ".loop" : String) = "max.loop" := by decide
  refine kmk_tree F.kind_max F.plain_max F.entry_max (args_maxd _ _) ?_
  show wpAny _ A.in1 (Builtin.Builtins.bindParams "max" ["key", "default"] 0 ⟨[], kwD d⟩ >>= _) _ _ s
  refine wpAny_bind (wpAny_of_eq (show Builtin.Builtins.bindParams "max" ["key", "default"] 0 ⟨[], kwD d⟩ = pure [none, some d] from rfl) ?_)
  refine wpAny_bind (wpAny_pure ?_)
  refine wpAny_bind (wpAny_mono h (fun it s₂ h₂ => ?_) fun _ _ e => e)
  obtain ⟨I, fp, wr, n, P, St, bt, rfl, W, hst, hfp, hcmp, hQ0, hQ⟩ := h₂
  refine wpAny_bind (wpAny_newObj_type ?_)
  have hSf : s₂.heap.objs.size ∉ fp := fun hm => Nat.lt_irrefl _ (hfp _ hm)
  rw [hname]
  refine wpAny_pure ⟨plainId_quiet F.plain_max_loop _, maxd_first W bt hcmp s₂.heap.objs.size hSf (W.frame _ _ _ hst fun b _ o e => Heap.get?_push_of_some _ e) (Heap.get?_push_size _ rfl) (fun hn h' tk hk => ?_) fun hn v h' tk hP hk => ?_⟩
  · exact hQ0 hn h' tk fun b o hbw e => hk b o hbw (Nat.ne_of_lt (Heap.lt_size e)) (Heap.get?_push_of_some _ e)
  · exact hQ hn v h' tk hP fun b o hbw e => hk b o hbw (Nat.ne_of_lt (Heap.lt_size e)) (Heap.get?_push_of_some _ e)
theorem maxd_intList {l : Addr} {xs : Array (Int × Tok)} {d : Value} {Q : Value → Shared → Prop} (hh : A.handled = none) (hl : s.heap.IsList l (intItems xs))
    (h0 : xs.size = 0 → ∀ h' tk, (∀ b o, s.heap.get? b = some o → h'.get? b = some o) → Q d { s with heap := h', toks := tk })
    (h : 0 < xs.size → ∀ v h' tk, (intItems xs)[argBest (fun i j => decide (numAt xs i > numAt xs j)) (xs.size - 1)]? = some v → (∀ b o, s.heap.get? b = some o → h'.get? b = some o) → Q v { s with heap := h', toks := tk }) :
    wpAny (model prog w) A (call (.builtin "max") [.ref l] (kwD d)) Q E s := by
  refine maxd_walk (iter_intList hl fun s₂ e st hfp hlI => ?_)
  subst e
  refine ⟨_, _, _, _, _, _, _, rfl, Walks.list (A := A.in1) hh _ l hlI (intItems xs), st, hfp, CmpOf.ints_gt (numAt xs) (fun _ _ => intItems_at), fun hn h' tk hk => ?_, fun hn v h' tk hP hk => ?_⟩
  · exact h0 (by simpa [intItems] using hn) h' tk (old_kept hk)
  · exact h (by simpa [intItems] using hn) v h' tk (by simpa [intItems] using hP) (old_kept hk)
theorem maxd_raw {l : Addr} {its : List Value} {ns : List Int} {d : Value} {Q : Value → Shared → Prop} (hh : A.handled = none) (hl : s.heap.IsList l its.toArray) (hi : IntsAre its ns)
    (h0 : ns = [] → ∀ h' tk, (∀ b o, s.heap.get? b = some o → h'.get? b = some o) → Q d { s with heap := h', toks := tk })
    (h : ns ≠ [] → ∀ h' tk M t', (∀ b o, s.heap.get? b = some o → h'.get? b = some o) → M ∈ ns → (∀ a, a ∈ ns → a ≤ M) → Q (.int M t') { s with heap := h', toks := tk }) : wpAny (model prog w) A (call (.builtin "max") [.ref l] (kwD d)) Q E s := by
  obtain ⟨xs, e⟩ := hi.allInts.items
  have hn : numsOf (intItems xs).toList = ns := by rw [← e]; exact hi.numsOf
  rw [nums_intItems] at hn
  subst hn
  rw [e] at hl
  refine maxd_intList hh hl (fun hz => h0 (List.length_eq_zero_iff.mp (by rw [List.length_map, Array.length_toList]; exact hz))) fun hsz v h' tk hv hk => ?_
  obtain ⟨t, rfl⟩ := intItems_at hv
  obtain ⟨h1, h2⟩ := argBest_gt (numAt xs) (xs.size - 1)
  refine h (fun z => by have := congrArg List.length z; rw [List.length_map, Array.length_toList, List.length_nil] at this; omega) h' tk _ t hk ?_ fun a ha => ?_
  · rw [numAt_eq]; refine PySem.getD_mem ?_; rw [List.length_map, Array.length_toList]; have hsz2 : 0 < xs.size := hsz; omega
  · obtain ⟨j, hj, rfl⟩ := mem_getD ha
    rw [List.length_map, Array.length_toList] at hj
    rw [← numAt_eq]; exact h2 j (by omega)
end
end G57
set_option Elab.async false
set_option linter.all false
set_option maxRecDepth 100000
set_option maxHeartbeats 4000000
namespace G57
open PySem L2 PySem.Spec PyProof.Rows
section
variable {X : Cx}
def rMaxd (K : PySem.W.Frag) : List V → List V → Hp → VK → Prop := fun vs zs H Q => ∃ (a : Addr) (ns : List Int) (c : Int), vs = [V.ref a] ∧ zs = [V.int c] ∧ SqL K H a (ns.map V.int) ∧
  (ns = [] → Q (.int c) H) ∧ (ns ≠ [] → ∀ m, m ∈ ns → (∀ y, y ∈ ns → y ≤ m) → Q (.int m) H)
theorem cr_maxd (hc : X.calm = true) : CallRK X (.builtin "max") [Str.ofString "default"] (rMaxd X.K) := by
  intro pins s σ H vs zs us ws Q I r rz h
  obtain ⟨a, ns, c, rfl, rfl, hs, q0, q⟩ := h
  obtain rfl := Vals.ref1 r
  obtain ⟨w1, rfl, t, rfl⟩ := vals1 rz
  obtain ⟨its, rv, hl, _⟩ := I.list hs
  exact maxd_raw (I.ok.hd hc) hl.isList rv.ints (fun e h' tk hk => ⟨.int c, H, I.kept hk, ⟨_, rfl⟩, q0 e⟩) fun e h' tk m t' hk h1 h2 => ⟨.int _, H, I.kept hk, ⟨_, rfl⟩, q e m h1 h2⟩
theorem q_maxd {b : Expr} {tb : TD} {fp pos cp kp : Pos} {c : Int} {j : Nat} (hc : X.calm = true) (hg : Gl X "max") (hm : X.mg "max" = none) (hx : QE X b tb) (hs : starEach [b] X.env = [(false, eval b X.env)]) :
    QE X (.Call (.Name "max" fp) [b] [⟨some "default", .Constant (.int c) j cp, kp⟩] pos) (fun env S Q => tb env S fun x S1 => maxdD [x, .int c] S1 Q) := by
  refine (pe_callBK (cr_maxd hc) hg hm bt_max (pa_cons hx pa_nil hs) (pk_cons pe_int pk_nil) (by decide) (by decide) (by rw [hs]; rfl) (by rw [hs]; rfl) rfl rfl rfl).weak fun σ H Q ⟨env, S, Qd, re, so, h, l⟩ => ?_
  refine ⟨env, S, fun x S1 => maxdD [x, .int c] S1 Qd, re, so, h, fun x S1 v H1 h1 k1 r1 s1 => ?_⟩
  change maxdD [x, .int c] S1 Qd at h1
  cases x <;> try exact h1.elim
  · rename_i p
    obtain ⟨ds, is, e1, e2, q0, q⟩ := h1
    simp only [Rep] at r1
    subst r1
    obtain ⟨vs, sq, rs⟩ := s1 p _ e1
    obtain rfl := ints_reps e2 rs
    exact ⟨p, is, c, rfl, rfl, .inl (.inl sq), fun e => l _ S1 _ H1 (q0 e) k1 .int s1, fun e m h1 h2 => l _ S1 _ H1 (q e m h1 h2) k1 .int s1⟩
end
end G57
set_option Elab.async false
set_option linter.all false
set_option maxRecDepth 100000
set_option maxHeartbeats 1000000
namespace PySem
open Sem (wp)
namespace F
theorem lr_owner : Manifest.owners.lookup (String.ofList ['r', 'o', 't', 'a', 'r', 'e', 't', 'i', '_', 'e', 'g', 'n', 'a', 'r', 'g', 'n', 'o', 'l'].reverse) = some Manifest.sig_longrange_iterator := by kernel_rfl
theorem lr_slot_iter : Slot "longrange_iterator" "__iter__" "longrange_iterator.__iter__" :=
  .of (owner := "longrange_iterator") (n := "__iter__") (by rw [typeLookup_type, builtinLookup_eq_fast]; kernel_rfl) (by decide +kernel) (by decide +kernel) (by decide +kernel)
    (by first | exact .inl (by decide +kernel) | exact .inr (by decide +kernel)) (by rw [isSubtype_type]; kernel_rfl)
theorem lr_args_iter (a : Value) : argsOk "longrange_iterator.__iter__" ⟨[a], []⟩ := by
  unfold argsOk; rw [signature?_of (id := "longrange_iterator.__iter__") (n := ['_', '_', 'r', 'e', 't', 'i', '_', '_']) (o := ['r', 'o', 't', 'a', 'r', 'e', 't', 'i', '_', 'e', 'g', 'n', 'a', 'r', 'g', 'n', 'o', 'l']) (by kernel_rfl) lr_owner]; kernel_rfl
theorem lr_slot_next : Slot "longrange_iterator" "__next__" "longrange_iterator.__next__" :=
  .of (owner := "longrange_iterator") (n := "__next__") (by rw [typeLookup_type, builtinLookup_eq_fast]; kernel_rfl) (by decide +kernel) (by decide +kernel) (by decide +kernel)
    (by first | exact .inl (by decide +kernel) | exact .inr (by decide +kernel)) (by rw [isSubtype_type]; kernel_rfl)
theorem lr_entry_next : entryFor table "longrange_iterator.__next__" = some Builtin.«longrange_iterator.__next__» := entryFor_of_tree (by kernel_rfl)
theorem lr_args_next (a : Value) : argsOk "longrange_iterator.__next__" ⟨[a], []⟩ := by
  unfold argsOk; rw [signature?_of (id := "longrange_iterator.__next__") (n := ['_', '_', 't', 'x', 'e', 'n', '_', '_']) (o := ['r', 'o', 't', 'a', 'r', 'e', 't', 'i', '_', 'e', 'g', 'n', 'a', 'r', 'g', 'n', 'o', 'l']) (by kernel_rfl) lr_owner]; kernel_rfl
theorem lr_bound (a : Value) : bound "longrange_iterator.__next__" ⟨[a], []⟩ = pure #[some a] := by
  unfold bound; rw [signature?_of (id := "longrange_iterator.__next__") (n := ['_', '_', 't', 'x', 'e', 'n', '_', '_']) (o := ['r', 'o', 't', 'a', 'r', 'e', 't', 'i', '_', 'e', 'g', 'n', 'a', 'r', 'g', 'n', 'o', 'l']) (by kernel_rfl) lr_owner]; rfl
theorem lr_entry_iter : entryFor table "longrange_iterator.__iter__" = some Builtin.«dict_keyiterator.__iter__» :=
  entryFor_alias (id' := "dict_keyiterator.__iter__") (by kernel_rfl) (by first | rfl | decide +kernel | (unfold String.splitOn; simp +decide [String.splitOnAux])) (by decide +kernel) (by kernel_rfl)
end F
abbrev IsLRange (h : Heap) (it : Addr) (x left step : Int) : Prop := h.get? it = some { cls := .type "longrange_iterator", dict := none, data := .fields #[rawInt x, rawInt left, rawInt step], slots := #[] }
section
variable {prog : Program} {w : World} {A : Around} {E : Value → Shared → Prop} {s : Shared}
theorem lr_next (it : Addr) (x left step : Int) (hc0 : ¬left ≤ 0) :
    Meets (Builtin.«longrange_iterator.__next__» ⟨[.ref it], []⟩) (fun _ R s => s.heap.get? it = some { cls := .type "longrange_iterator", dict := none, data := .fields #[rawInt x, rawInt left, rawInt step], slots := #[] } ∧ R (.ok (.ret (Value.int x s.toks))) { s with heap := (s.heap.update it (Obj.mapFields fun x_1 => x_1.setIfInBounds 0 (rawInt (x + step)))).update it (Obj.mapFields fun x => x.setIfInBounds 1 (rawInt (left - 1))), toks := s.toks + 1 }) :=
  .of_wp fun prog w A R s h => by obtain ⟨hp, g, d, tk, os⟩ := s; obtain ⟨hl, h⟩ := h; wp_walk; exact ⟨_, rfl, h⟩
theorem lr_pyIter {r : Addr} {a b c : Int} {t u v : Tok} {Q : Value → Shared → Prop} (hr : IsRange s.heap r a b c t u v) (hsmall : Builtin.Range.small a b c = false)
    (hQ : Q (.ref s.heap.objs.size) { s with heap := s.heap.push { cls := .type "longrange_iterator", data := .fields #[rawInt a, rawInt (Builtin.Range.rangeSize a b c), rawInt c] } }) :
    wpAny (model prog w) A (pyIter (.ref r)) Q E s := by
  have hT : s.TypeIs (.ref r) "range" := ⟨_, hr, rfl⟩
  refine wpAny_pyIter_slot hT F.slot_range_iter (call_meets F.slot_range_iter hT F.entry_range_iter (F.args_range_iter_1 _)
    (AutoRange.range___iter___range_0 r a b c t u v (by unfold Builtin.Range.small at hsmall; rw [hsmall]; rfl)) ⟨hr, ?_⟩)
  unfold Builtin.Range.small at hsmall
  simp only [hsmall, Bool.false_eq_true, if_false]
  exact ⟨"longrange_iterator", _, ⟨_, Heap.get?_push_size _ rfl, rfl⟩, F.lr_slot_next.lookup, hQ⟩
theorem lr_item {it : Addr} {x left step : Int} {Q : Option Value → Shared → Prop} (hit : IsLRange s.heap it x left step) (hleft : 0 < left)
    (hQ : ∀ h', IsLRange h' it (x + step) (left - 1) step → Heap.SameBut it s.heap h' → Q (some (.int x s.toks)) { s with heap := h', toks := s.toks + 1 }) :
    wpAny (model prog w) A (pyNext (.ref it)) Q E s := by
  have hT : s.TypeIs (.ref it) "longrange_iterator" := ⟨_, hit, rfl⟩
  unfold pyNext
  refine wpAny_bind (wpAny_attempt (wpAny_callSpecial?_slot (name := Str.ofString "__next__") hT F.lr_slot_next
    (call_meets F.lr_slot_next hT F.lr_entry_next (F.lr_args_next _) (lr_next it x left step (by omega)) ⟨hit, ?_⟩)))
  exact wpAny_pure (hQ _ (Heap.get?_update_self _ (Heap.get?_update_self _ hit rfl) rfl) ((Heap.SameBut.update ..).trans (Heap.SameBut.update ..)))
theorem lr_end {it : Addr} {x left step : Int} {Q : Option Value → Shared → Prop} (hh : A.handled = none) (hit : IsLRange s.heap it x left step) (hleft : left ≤ 0)
    (hQ : ∀ h', Heap.ExtBut it s.heap h' → Q none { s with heap := h' }) : wpAny (model prog w) A (pyNext (.ref it)) Q E s := by
  have hT : s.TypeIs (.ref it) "longrange_iterator" := ⟨_, hit, rfl⟩
  unfold pyNext
  refine wpAny_bind (wpAny_attempt (wpAny_callSpecial?_slot (name := Str.ofString "__next__") hT F.lr_slot_next
    (wpAny_call_entry F.lr_slot_next hT F.lr_entry_next ?_ (F.lr_args_next _))))
  unfold Builtin.«longrange_iterator.__next__»
  refine wpAny_bind (wpAny_of_eq (F.lr_bound _) ?_)
  have fld : ∀ (i : Nat) (z : Int) {Q : Int → Shared → Prop} {E : Value → Shared → Prop} {A : Around}, (#[rawInt x, rawInt left, rawInt step] : Array Value)[i]? = some (rawInt z) → Q z s → wpAny (model prog w) A (Builtin.Iterators_pickling.intField "longrange_iterator.__next__" (.ref it) i) Q E s := fun i z {Q E A} h q => by
    unfold Builtin.Iterators_pickling.intField
    exact wpAny_bind (wpAny_field hit rfl (x := rawInt z) h (wpAny_pure q))
  refine wpAny_bind (fld 0 x rfl ?_)
  refine wpAny_bind (fld 1 left rfl ?_)
  refine wpAny_bind (fld 2 step rfl ?_)
  show wpAny _ _ (if left ≤ 0 then _ else _) _ _ s
  rw [if_pos hleft]
  refine wpAny_bind (wpAny_rule ?_)
  refine wpAny_bind ?_
  show wpAny _ _ (newExc (.type "StopIteration") [] >>= _) _ _ _
  refine wpAny_bind ?_
  simp only [newExc, newTuple]
  refine wpAny_bind (wpAny_newObj_type ?_ (by size_fits))
  refine wpAny_bind (m := firstArgMember _ _) (wpAny_of_eq (a := Value.none) (by first | rfl | (simp only [firstArgMember]; rfl)) ?_)
  refine wpAny_newObj_type ?_ (by size_fits)
  simp only [raiseNew]
  refine wpAny_pure ?_
  refine wpAny_bind ?_
  refine wpAny_bind (wpAny_handled ?_)
  first | rw [show A.in1.handled = none from hh] | rw [hh]
  refine wpAny_bind (wpAny_pure (wpAny_throw ?_))
  refine wpAny_bind (wpAny_isInstance (T := "StopIteration") (b := true) ⟨_, Heap.get?_push_size _ rfl, rfl⟩ isSubtype_stop ?_)
  exact wpAny_pure (hQ _ (((Heap.ExtBut.refl it s.heap).push _).push _))
theorem lr_self {it : Addr} {x left step : Int} {Q : Value → Shared → Prop} (hit : IsLRange s.heap it x left step) (h : Q (.ref it) s) : wpAny (model prog w) A (pyIter (.ref it)) Q E s := by
  have hT : s.TypeIs (.ref it) "longrange_iterator" := ⟨_, hit, rfl⟩
  refine wpAny_pyIter_slot hT F.lr_slot_iter (wpAny_call_entry F.lr_slot_iter hT F.lr_entry_iter ?_ (F.lr_args_iter _))
  show wpAny _ _ (ret (.ref it)) _ _ s
  exact wpAny_pure ⟨_, rfl, "longrange_iterator", _, hT, F.lr_slot_next.lookup, h⟩
end
end PySem
namespace L2
open PySem PySem.Spec PyProof.Rows
theorem turn_lr {P : Program} {w : World} {K : PySem.W.Frag} {tg : Expr} (it : Addr) (lo : Int) (n : Nat) : Turn P w K tg (Itr lo n) [it] it (fun i h => IsLRange h it (lo + (i : Nat)) ((n : Int) - (i : Nat)) 1) where
  mem := by simp
  obj := fun i h st b hb => by
    have e : b = it := by simpa using hb
    subst e
    exact ⟨_, st, fun v z => by
      have z' : Data.fields _ = Data.cell v := z
      cases z'⟩
  keep := fun i h h' st k => k it (by simp) _ st
  item := by
    intro X hP hw hK hc i pins s σ H E I hf st hg
    subst hP hw hK
    obtain ⟨f0, f1, f2, f3, f4, f5⟩ := hf it (by simp)
    have hg' : i < n := hg
    refine lr_item st (by omega) fun h' hit' hs' => ?_
    have kk : ∀ b o, b ∉ [it] → s.heap.get? b = some o → h'.get? b = some o := fun b o hb e => hs'.extBut b o (fun h => hb (by simp [h])) e
    have I1 : Inv X pins σ H { s with heap := h', toks := s.toks + 1 } := I.turned (fun b o hb e => kk b o (by simpa using hb) e) f0 f1 f3 f4 f5
    have e1 : lo + ((i + 1 : Nat) : Int) = lo + (i : Int) + 1 := by push_cast; omega
    have e2 : (n : Int) - ((i + 1 : Nat) : Int) = (n : Int) - (i : Int) - 1 := by push_cast; omega
    refine ⟨_, rfl, go_of (s := { s with heap := h', toks := s.toks + 1 }) (n := "longrange_iterator") hit' rfl rfl (by decide) ⟨.int (lo + i), H, I1, ⟨_, rfl⟩, ⟨rfl, rfl⟩, ?_, fun b hb => (hf b hb).1⟩⟩
    rw [e1, e2]; exact hit'
  done := by
    intro X hP hw hK hc i pins s σ H E I hf st hg
    subst hP hw hK
    obtain ⟨f0, f1, f2, f3, f4, f5⟩ := hf it (by simp)
    exact lr_end (I.ok.hd hc) st (by have : n ≤ i := hg; omega) fun h' eb => ⟨rfl, I.turned (t' := s.toks) (fun b o hb e => eb b o hb e) f0 f1 f3 f4 f5⟩
  self := fun _ _ _ _ _ st h => lr_self st h
section
variable {X : Cx} {tg : Expr}
theorem range_itB {pins : List (Addr × Obj)} {σ : St} {H : Hp} {s : Shared} {R : It → Hp → Prop} {E : Value → Shared → Prop} {lo hi : Int} {t u v : Tok} {tk : Nat} (I : Inv X pins σ H s)
    (q : R (Itr lo (hi - lo).toNat) H) : wpAny (model X.prog X.w) X.A (pyIter (.ref s.heap.objs.size)) (PIE X pins σ tg R) E { s with heap := s.heap.push { cls := .type "range", data := .fields #[.int lo t, .int hi u, .int 1 v] }, toks := tk } := by
  have I1 : Inv X pins σ H { s with heap := s.heap.push { cls := .type "range", data := .fields #[.int lo t, .int hi u, .int 1 v] }, toks := tk } := I.kept fun b o e => Heap.get?_push_of_some _ e
  have e2 : (((hi - lo).toNat : Nat) : Int) - ((0 : Nat) : Int) = Builtin.Range.rangeSize lo hi 1 := by rw [rangeSize_one]; split <;> omega
  cases hs : Builtin.Range.small lo hi 1 with
  | true =>
    refine wpAny_pyIter_range (IsRange.new ..) hs ?_
    refine ⟨(s.heap.push { cls := .type "range", data := .fields #[.int lo t, .int hi u, .int 1 v] }).objs.size, [(s.heap.push { cls := .type "range", data := .fields #[.int lo t, .int hi u, .int 1 v] }).objs.size], _, _, H, rfl,
      I1.kept (t' := tk) fun b o e => Heap.get?_push_of_some _ e, turn_range _ lo (hi - lo).toNat, ?_, fun b hb => ?_, q⟩
    · have e1 : lo + ((0 : Nat) : Int) * 1 = lo := by simp
      show IsRangeIter _ _ (lo + ((0 : Nat) : Int) * 1) ((((hi - lo).toNat : Nat) : Int) - ((0 : Nat) : Int)) 1
      rw [e1, e2]
      exact Heap.get?_push_size _ rfl
    · have e : b = (s.heap.push { cls := .type "range", data := .fields #[.int lo t, .int hi u, .int 1 v] }).objs.size := by simpa using hb
      subst e
      exact I1.fpOk (Nat.le_refl _) (I1.hok.fresh (Nat.le_refl _))
  | false =>
    refine lr_pyIter (IsRange.new ..) hs ?_
    refine ⟨(s.heap.push { cls := .type "range", data := .fields #[.int lo t, .int hi u, .int 1 v] }).objs.size, [(s.heap.push { cls := .type "range", data := .fields #[.int lo t, .int hi u, .int 1 v] }).objs.size], _, _, H, rfl,
      I1.kept (t' := tk) fun b o e => Heap.get?_push_of_some _ e, turn_lr _ lo (hi - lo).toNat, ?_, fun b hb => ?_, q⟩
    · have e1 : lo + ((0 : Nat) : Int) = lo := by simp
      show IsLRange _ _ (lo + ((0 : Nat) : Int)) ((((hi - lo).toNat : Nat) : Int) - ((0 : Nat) : Int)) 1
      rw [e1, e2]
      exact Heap.get?_push_size _ rfl
    · have e : b = (s.heap.push { cls := .type "range", data := .fields #[.int lo t, .int hi u, .int 1 v] }).objs.size := by simpa using hb
      subst e
      exact I1.fpOk (Nat.le_refl _) (I1.hok.fresh (Nat.le_refl _))
def iRng1B (ta : TA) : TI := fun σ H R => ta σ H fun vs H1 => ∃ j : Int, vs = [.int j] ∧ R (Itr 0 j.toNat) H1
def iRng2B (ta : TA) : TI := fun σ H R => ta σ H fun vs H1 => ∃ i j : Int, vs = [.int i, .int j] ∧ R (Itr i (j - i).toNat) H1
theorem pi_range1B {a : Expr} {ta : TA} {p pos : Pos} (hg : Gl X "range") (hm : X.mg "range" = none) (ha : PA X [a] ta) (hs : starEach [a] X.env = [(false, eval a X.env)] := by rfl) : PI X tg (.Call (.Name "range" p) [a] [] pos) (iRng1B ta) := by
  refine ⟨fun pins s σ H R I h => ?_⟩
  refine Call_ (ld_blt I hg hm boot_range (PyProof.Rows.callWith_type1 (thn (ha.run pos pins s σ H _ I h) fun us s1 ⟨vs, H1, I1, r1, q1⟩ => ?_) hs rfl))
  obtain ⟨j, e, q⟩ := q1
  subst e
  cases r1 with
  | cons r rr =>
    cases rr
    obtain ⟨t, rfl⟩ := r
    exact call_range_1 (range_itB I1 (by simpa using q))
theorem pi_range2B {a b : Expr} {ta : TA} {p pos : Pos} (hg : Gl X "range") (hm : X.mg "range" = none) (ha : PA X [a, b] ta) (hs : starEach [a, b] X.env = [(false, eval a X.env), (false, eval b X.env)] := by rfl) (hs2 : starEach [b] X.env = [(false, eval b X.env)] := by rfl) :
    PI X tg (.Call (.Name "range" p) [a, b] [] pos) (iRng2B ta) := by
  refine ⟨fun pins s σ H R I h => ?_⟩
  refine Call_ (ld_blt I hg hm boot_range (PyProof.Rows.callWith_type1 (thn (ha.run pos pins s σ H _ I h) fun us s1 ⟨vs, H1, I1, r1, q1⟩ => ?_) (by rw [hs, hs2]) (by rw [hs2]; rfl)))
  obtain ⟨i, j, e, q⟩ := q1
  subst e
  cases r1 with
  | cons r rr =>
    cases rr with
    | cons r' rr =>
      cases rr
      obtain ⟨t, rfl⟩ := r
      obtain ⟨t', rfl⟩ := r'
      exact call_range_2 (range_itB I1 q)
end
end L2
set_option Elab.async false
set_option linter.all false
set_option maxRecDepth 100000
set_option maxHeartbeats 400000
namespace G57
open PySem L2 PySem.Spec PyProof.Rows
section
variable {K : PySem.W.Frag} {H0 : Hp} {G : Sto → Prop}
theorem drv_tup {a : Addr} {xs : List D} {vs : List V} (q : SqT K H0 a vs) (r : Reps K H0 xs vs) : Drv K H0 (Itt K a) xs G := fun H S i k so g => by
  refine ⟨fun d e => ?_, fun e => ⟨vs, k.sqt q, by rw [e, r.length]; exact Nat.le_refl _⟩⟩
  obtain ⟨v, e2, rv⟩ := r.get e
  refine ⟨⟨vs, v, k.sqt q, e2⟩, fun w H' y => ?_⟩
  obtain ⟨rfl, y⟩ := y
  have := y vs (k.sqt q)
  rw [e2] at this; cases this
  exact ⟨.refl, so, rv.mono k⟩
theorem drv_str {x : List Nat} : Drv K H0 (Its ⟨x.toArray⟩) (x.map fun c => .str [c]) G := fun H S i k so g => by
  refine ⟨fun d e => ?_, fun e => ?_⟩
  · rw [List.getElem?_map] at e
    obtain ⟨c, e1, rfl⟩ := Option.map_eq_some_iff.mp e
    have hlt : i < x.length := by
      by_cases z : i < x.length
      · exact z
      · rw [List.getElem?_eq_none (by omega)] at e1; cases e1
    refine ⟨by show i < x.toArray.size; simpa using hlt, fun w H' y => ?_⟩
    obtain ⟨rfl, c', e2, rfl⟩ := y
    have e3 : x[i]? = some c' := by simpa using e2
    rw [e1] at e3; cases e3
    exact ⟨.refl, so, by simp only [Rep]⟩
  · show x.toArray.size ≤ i
    rw [e]; simp
theorem drv_rng {lo : Int} {n : Nat} : Drv K H0 (Itr lo n) ((List.range n).map fun i => .int (lo + (i : Nat))) G := fun H S i k so g => by
  refine ⟨fun d e => ?_, fun e => ?_⟩
  · rw [List.getElem?_map] at e
    obtain ⟨c, e1, rfl⟩ := Option.map_eq_some_iff.mp e
    obtain ⟨hlt, e1⟩ := List.getElem?_eq_some_iff.mp e1
    rw [List.length_range] at hlt
    rw [List.getElem_range] at e1
    subst e1
    refine ⟨hlt, fun w H' y => ?_⟩
    obtain ⟨rfl, rfl⟩ := y
    exact ⟨.refl, so, .int⟩
  · show n ≤ i
    rw [e]; simp
theorem zip_get : ∀ {xs ys : List D} {i : Nat} {d : D}, (zipD xs ys)[i]? = some d → ∃ x y, xs[i]? = some x ∧ ys[i]? = some y ∧ d = .tup [x, y]
  | [], _, i, d, h => by simp [zipD] at h
  | x :: xs, [], i, d, h => by simp [zipD] at h
  | x :: xs, y :: ys, 0, d, h => by simp [zipD] at h; exact ⟨x, y, rfl, rfl, h.symm⟩
  | x :: xs, y :: ys, i + 1, d, h => by
    rw [zipD, List.getElem?_cons_succ] at h
    obtain ⟨a, b, e1, e2, e3⟩ := zip_get h
    exact ⟨a, b, by simpa using e1, by simpa using e2, e3⟩
theorem zip_len : ∀ {xs ys : List D}, (zipD xs ys).length = min xs.length ys.length
  | [], _ => by simp [zipD]
  | x :: xs, [] => by simp [zipD]
  | x :: xs, y :: ys => by simp only [zipD, List.length_cons, zip_len]; omega
theorem pair_new {H : Hp} {S : Sto} {x y : D} {u v : V} {T : Addr} (so : StoOk K H S) (rx : Rep K H x u) (ry : Rep K H y v) (hT : H T = none) :
    Keep H (upd H T (.tup [u, v])) ∧ StoOk K (upd H T (.tup [u, v])) S ∧ Rep K (upd H T (.tup [u, v])) (.tup [x, y]) (.ref T) :=
  ⟨.new hT, so.new hT, .tup_mk (.inl (.inl upd_same)) (.cons (rx.mono (.new hT)) (.cons (ry.mono (.new hT)) .nil))⟩
theorem enum_get : ∀ {xs : List D} {j i : Nat} {d : D}, (enumD j xs)[i]? = some d → ∃ x, xs[i]? = some x ∧ d = .tup [.int ((j + i : Nat) : Int), x]
  | [], j, i, d, h => by simp [enumD] at h
  | x :: xs, j, 0, d, h => by simp [enumD] at h; exact ⟨x, rfl, by simpa using h.symm⟩
  | x :: xs, j, i + 1, d, h => by
    rw [enumD, List.getElem?_cons_succ] at h
    obtain ⟨a, e1, e3⟩ := enum_get h
    exact ⟨a, by simpa using e1, by rw [e3]; congr 3; omega⟩
theorem enum_len : ∀ {xs : List D} {j : Nat}, (enumD j xs).length = xs.length
  | [], _ => by simp [enumD]
  | x :: xs, j => by simp only [enumD, List.length_cons, enum_len]
end
section
variable {X : Cx} {pos : Pos} {tg a b e : Expr} {ta tb te : TD}
theorem lst_at {K : PySem.W.Frag} {H : Hp} {S : Sto} {p : Addr} {ds : List D} (so : StoOk K H S) (e : S p = some (.lst ds)) : ∃ vs, SqL K H p vs ∧ Reps K H ds vs := by
  obtain ⟨vs, q, r⟩ := so p _ e
  exact ⟨vs, .inl (.inl q), r⟩
theorem qi_E (he : QE X e te) : QI X tg e (fun env S K => te env S fun x S1 => iterD x S1 K) := by
  refine ⟨fun pins s σ H R I ⟨env, S, Kd, re, so, h, l⟩ => ?_⟩
  refine thn (he.run pins s σ H (fun x H1 => ∃ d S1, iterD d S1 Kd ∧ Keep H H1 ∧ Rep X.K H1 d x ∧ StoOk X.K H1 S1) I ⟨env, S, _, re, so, h, fun d S1 v H1 h1 k1 r1 s1 => ⟨d, S1, h1, k1, r1, s1⟩⟩) ?_
  rintro v s1 ⟨x, H1, I1, r1, d, S1, h1, k1, rd, so1⟩
  cases d <;> try exact h1.elim
  case tup ds =>
    obtain ⟨p, vs, rfl, q, r⟩ := rd.tup_inv
    cases r1
    obtain ⟨its, rv, pl, hz⟩ := I1.tuple q
    exact wpAny_pyIter_tuple (show s1.heap.IsTuple p its.toArray from pl) (pi_one (tk := s1.toks) I1 _ (turn_tuple p _) ⟨_, Heap.get?_push_size _ rfl, rfl, rfl⟩ (l _ _ S1 _ H1 h1 k1 so1 trivial (drv_tup q r)))
  case rol ds =>
    obtain ⟨p, vs, rfl, q, r⟩ := rd.rol_inv
    cases r1
    obtain ⟨its, rv, pl, hz⟩ := I1.list q.sq
    exact wpAny_pyIter_list pl.isList (pi_one (tk := s1.toks) I1 _ (turn_list p _) ⟨_, Heap.get?_push_size _ rfl, rfl, rfl⟩ (l _ _ S1 _ H1 h1 k1 so1 trivial (drv_list fun H2 S2 k2 s2 _ => ⟨vs, (k2.sqf q).sq, r.mono k2⟩)))
  case str w =>
    simp only [Rep] at rd
    subst rd
    obtain ⟨t, rfl⟩ := r1
    cases ha : (⟨w.toArray⟩ : Str).cps.all (· < 128)
    · exact wpAny_pyIter_wide ha (pi_one (tk := s1.toks) I1 _ (turn_str _ ⟨w.toArray⟩ t "str_iterator" (.inr rfl)) ⟨_, Heap.get?_push_size _ rfl, rfl, rfl⟩ (l _ _ S1 _ H1 h1 k1 so1 trivial drv_str))
    · exact wpAny_pyIter_ascii ha (pi_one (tk := s1.toks) I1 _ (turn_str _ ⟨w.toArray⟩ t "str_ascii_iterator" (.inl rfl)) ⟨_, Heap.get?_push_size _ rfl, rfl, rfl⟩ (l _ _ S1 _ H1 h1 k1 so1 trivial drv_str))
  case ref p =>
    simp only [Rep] at rd
    subst rd
    cases r1
    obtain ⟨ds, e1, h1⟩ := h1
    obtain ⟨vs, q, r⟩ := lst_at so1 e1
    obtain ⟨its, rv, pl, hz⟩ := I1.list q
    exact wpAny_pyIter_list pl.isList (pi_one (tk := s1.toks) I1 _ (turn_list p _) ⟨_, Heap.get?_push_size _ rfl, rfl, rfl⟩ (l _ _ S1 _ H1 h1 k1 so1 e1 (drv_list fun H2 S2 k2 s2 g => lst_at s2 g)))
theorem args1 (ha : QE X a ta) (hs : starEach [a] X.env = [(false, eval a X.env)]) : QA X [a] (fun env S Q => ta env S fun x S1 => Q [x] S1) := q_cons ha q_nil hs
theorem args2 (ha : QE X a ta) (hb : QE X b tb) (hs : starEach [a, b] X.env = (false, eval a X.env) :: starEach [b] X.env) (hs2 : starEach [b] X.env = [(false, eval b X.env)]) :
    QA X [a, b] (fun env S Q => ta env S fun x S1 => tb env S1 fun y S2 => Q [x, y] S2) := q_cons ha (args1 hb hs2) hs
def on1 (f : D → Sto → Prop) : List D → Sto → Prop
  | [x], S => f x S
  | _, _ => False
def on2 (f : D → D → Sto → Prop) : List D → Sto → Prop
  | [x, y], S => f x y S
  | _, _ => False
theorem on1_inv {f : D → Sto → Prop} {ds : List D} {S : Sto} (h : on1 f ds S) : ∃ x, ds = [x] ∧ f x S := by
  unfold on1 at h
  split at h
  · exact ⟨_, rfl, h⟩
  · exact h.elim
theorem on2_inv {f : D → D → Sto → Prop} {ds : List D} {S : Sto} (h : on2 f ds S) : ∃ x y, ds = [x, y] ∧ f x y S := by
  unfold on2 at h
  split at h
  · exact ⟨_, _, rfl, h⟩
  · exact h.elim
theorem qi_R1 {p : Pos} (hg : Gl X "range") (hm : X.mg "range" = none) (ha : QE X a ta) (hs : starEach [a] X.env = [(false, eval a X.env)]) :
    QI X tg (.Call (.Name "range" p) [a] [] pos) (fun env S K => ta env S fun x S1 => range1D x S1 K) :=
  (pi_range1B hg hm (args1 ha hs) hs).weak fun σ H R ⟨env, S, Kd, re, so, h, l⟩ => ⟨env, S, on1 fun x S1 => range1D x S1 Kd, re, so, h, fun ds S1 vs H1 h1 k1 r1 s1 => by
    obtain ⟨x, rfl, z1⟩ := on1_inv h1
    clear h1
    have h1 := z1
    clear z1
    cases x <;> try exact h1.elim
    rename_i n
    simp only [Reps, Rep] at r1
    obtain ⟨_, _, rfl, rfl, rfl⟩ := r1
    refine ⟨n, rfl, ?_⟩
    have d := drv_rng (K := X.K) (H0 := H1) (lo := 0) (n := n.toNat) (G := fun _ => True)
    refine l _ _ S1 _ H1 h1.2 k1 s1 trivial ?_
    unfold rngD
    rw [Int.sub_zero]
    exact d⟩
theorem qi_R2 {p : Pos} (hg : Gl X "range") (hm : X.mg "range" = none) (ha : QE X a ta) (hb : QE X b tb) (hs : starEach [a, b] X.env = (false, eval a X.env) :: starEach [b] X.env) (hs2 : starEach [b] X.env = [(false, eval b X.env)]) :
    QI X tg (.Call (.Name "range" p) [a, b] [] pos) (fun env S K => ta env S fun x S1 => tb env S1 fun y S2 => range2D x y S2 K) :=
  (pi_range2B hg hm (args2 ha hb hs hs2) (by rw [hs, hs2]) hs2).weak fun σ H R ⟨env, S, Kd, re, so, h, l⟩ => ⟨env, S, on2 fun x y S1 => range2D x y S1 Kd, re, so, h, fun ds S1 vs H1 h1 k1 r1 s1 => by
    obtain ⟨x, y, rfl, z1⟩ := on2_inv h1
    clear h1
    have h1 := z1
    clear z1
    cases x <;> cases y <;> try exact h1.elim
    rename_i m n
    simp only [Reps, Rep] at r1
    obtain ⟨_, _, rfl, rfl, _, _, rfl, rfl, rfl⟩ := r1
    exact ⟨m, n, rfl, l _ _ S1 _ H1 h1.2.2 k1 s1 trivial drv_rng⟩⟩
def places : Pt → List Nat
  | .v i => [i]
  | .t p => places p
  | .nil => []
  | .cons a r => places a ++ places r
theorem wipe_in (i : Nat) (x : Option V) (σ : L2.St) : ∀ vs : List Nat, (wipe (σ.set i x) vs).set i none = (wipe σ vs).set i none
  | [] => by simp [wipe]
  | v :: vs => by
    unfold wipe
    by_cases e : v = i
    · subst e
      rw [List.set_set, List.set_set, wipe_in v x σ vs]
    · rw [List.set_comm _ _ e, wipe_in i x σ vs, List.set_comm _ _ (fun z => e z.symm)]
theorem wipe_set {i : Nat} {x : Option V} {σ : L2.St} : ∀ {vs : List Nat}, i ∈ vs → wipe (σ.set i x) vs = wipe σ vs
  | v :: vs, h => by
    unfold wipe
    by_cases e : v = i
    · subst e; exact wipe_in v x σ vs
    · rw [wipe_set (vs := vs) (by rcases List.mem_cons.mp h with z | z; exact absurd z.symm e; exact z)]
theorem RelE.wipe {K : PySem.W.Frag} {H : Hp} {env : En} {σ : L2.St} (h : RelE K H env σ) : ∀ vs : List Nat, RelE K H (wipeD env vs) (L2.wipe σ vs)
  | [] => h
  | v :: vs => by
    have ih := RelE.wipe h vs
    unfold wipeD L2.wipe
    refine ⟨by simp [ih.1], fun j d q => ?_⟩
    by_cases hj : v = j
    · subst hj
      by_cases hv : v < (wipeD env vs).length
      · rw [List.getElem?_set_self hv] at q; cases q
      · rw [List.getElem?_eq_none (by simpa using hv)] at q; cases q
    · rw [List.getElem?_set_ne hj] at q ⊢
      exact ih.2 j d q
def GK' (K : PySem.W.Frag) (H : Hp) (p : Pt) (σ : L2.St) (Qe : En → Prop) (Q : L2.St → Hp → Prop) : Prop := ∀ env' σ', Qe env' → RelE K H env' σ' → (∀ vs, (∀ i ∈ places p, i ∈ vs) → L2.wipe σ' vs = L2.wipe σ vs) → Q σ' H
def liftG (K : PySem.W.Frag) (p : Pt) : TG := fun v σ H Q => ∃ d env S Qe, Rep K H d v ∧ RelE K H env σ ∧ StoOk K H S ∧ wpP p d S env Qe ∧ GK' K H p σ Qe Q
def liftGs (K : PySem.W.Frag) (p : Pt) : TGs := fun vs σ H Q => ∃ ds env S Qe, Reps K H ds vs ∧ RelE K H env σ ∧ StoOk K H S ∧ wpPs p ds S env Qe ∧ GK' K H p σ Qe Q
theorem _root_.L2.PG.weak {X : Cx} {tg : Expr} {t t' : TG} (h : PG X tg t) (w : ∀ v σ H Q, t' v σ H Q → t v σ H Q) : PG X tg t' := ⟨fun pins s σ H v u Q I r q => h.run pins s σ H v u Q I r (w v σ H Q q)⟩
theorem _root_.L2.PGs.weak {X : Cx} {tg : List Expr} {t t' : TGs} (h : PGs X tg t) (w : ∀ v σ H Q, t' v σ H Q → t v σ H Q) : PGs X tg t' := ⟨fun pins s σ H v u Q I r q => h.run pins s σ H v u Q I r (w v σ H Q q)⟩
theorem qg_name {i : Nat} {x : Str} (hN : X.N.Nodup) (hi : X.N[i]? = some x) (hx : Loc X.env.scope x) (hf : X.fn x = true ∨ X.env.scope.names.lookup x = some .local) : PG X (.Name x pos) (liftG X.K (.v i)) :=
  (pg_name hN hi hx hf).weak fun v σ H Q ⟨d, env, S, Qe, r, re, so, h, l⟩ => l _ _ h (re.set r) fun vs hv => wipe_set (hv i (by simp [places]))
theorem qgs_nil : PGs X [] (liftGs X.K .nil) := pgs_nil.weak fun v σ H Q ⟨ds, env, S, Qe, r, re, so, h, l⟩ => by
  cases ds with
  | nil => simp only [Reps] at r; exact ⟨r, l _ _ h re fun _ _ => rfl⟩
  | cons d ds => exact h.elim
theorem qgs_cons {es : List Expr} {p q : Pt} (h1 : PG X e (liftG X.K p)) (h2 : PGs X es (liftGs X.K q)) (hs : (assignEach (e :: es) X.env).map (·.2) = assign e X.env :: (assignEach es X.env).map (·.2)) : PGs X (e :: es) (liftGs X.K (.cons p q)) :=
  (pgs_cons h1 h2 hs).weak fun v σ H Q ⟨ds, env, S, Qe, r, re, so, h, l⟩ => by
    cases ds with
    | nil => exact h.elim
    | cons d ds =>
      simp only [Reps] at r
      obtain ⟨u, us, rfl, r1, r2⟩ := r
      refine ⟨u, us, rfl, d, env, S, _, r1, re, so, h, fun env' σ' h' re' w' => ⟨ds, env', S, Qe, r2, re', so, h', fun env2 σ2 h2 re2 w2 => l env2 σ2 h2 re2 fun vs hv => ?_⟩⟩
      rw [w2 vs fun i hi => hv i (by simp [places, hi]), w' vs fun i hi => hv i (by simp [places, hi])]
theorem qg_tup {es : List Expr} {k n : Nat} {p : Pt} (hc : X.calm = true) (h : PGs X es (liftGs X.K p)) (hn : (assignEach es X.env).length = n) (hst : (assignEach es X.env).findIdx? (·.1) = none) (hl : ∀ ds S env Qe, wpPs p ds S env Qe → ds.length = n) :
    PG X (.Tuple es k pos) (liftG X.K (.t p)) := by
  refine ⟨fun pins s σ H v u Q I r ⟨d, env, S, Qe, rd, re, so, hw, l⟩ => ?_⟩
  obtain ⟨ds, e1, hw⟩ := hw
  obtain ⟨a, vs, rfl, q, rs⟩ := seq_inv so rd e1
  have hlen : vs.length = n := by rw [← rs.length]; exact hl _ _ _ _ hw
  rcases q with q | q
  · exact (pg_unl (n := n) hc h hn hst).run pins s σ H _ u Q I r ⟨a, vs, rfl, q, hlen, ds, env, S, Qe, rs, re, so, hw, l⟩
  · exact (pg_tup (n := n) hc h hn hst).run pins s σ H _ u Q I r ⟨a, vs, rfl, q, hlen, ds, env, S, Qe, rs, re, so, hw, l⟩
end
end G57
set_option Elab.async false
set_option linter.all false
set_option maxRecDepth 100000
set_option maxHeartbeats 1000000
namespace G57
open PySem L2 PySem.Spec PyProof.Rows
inductive Sr where
  | l (a : Addr) | t (a : Addr) | s (x : Str)
def Sr.rel : Sr → Value → Prop
  | .l a, v => v = .ref a
  | .t a, v => v = .ref a
  | .s x, v => ∃ t, v = .str x t
def Sr.at (K : PySem.W.Frag) (H : Hp) : Sr → List V → Prop
  | .l a, xs => SqL K H a xs
  | .t a, xs => SqT K H a xs
  | .s x, xs => xs = x.cps.toList.map fun c => V.str ⟨#[c]⟩
def Sr.it (v : Value) : Sr → Addr → Nat → Heap → Prop
  | .l a, it, i, h => h.IsListIter it a i
  | .t a, it, i, h => h.IsTupleIter it a i
  | .s x, it, i, h => ∃ t, v = .str x t ∧ h.IsStrIter it (strIterType x) x t i
theorem Sr.it_at {v : Value} {r : Sr} {it : Addr} {i : Nat} {h h' : Heap} (x : r.it v it i h) (k : ∀ o, h.get? it = some o → h'.get? it = some o) : r.it v it i h' := by
  cases r with
  | l a => exact Heap.IsListIter.at x k
  | t a => exact Heap.IsTupleIter.at x k
  | s y =>
    obtain ⟨t, e, o, ho, q⟩ := x
    exact ⟨t, e, o, k o ho, q⟩
theorem Sr.it_obj {v : Value} {r : Sr} {it : Addr} {i : Nat} {h : Heap} (x : r.it v it i h) : ∃ o, h.get? it = some o ∧ ∀ v, o.data ≠ .cell v := by
  cases r with
  | l a => obtain ⟨o, e, _, d⟩ := x; exact ⟨o, e, fun v q => by rw [d] at q; cases q⟩
  | t a => obtain ⟨o, e, _, d⟩ := x; exact ⟨o, e, fun v q => by rw [d] at q; cases q⟩
  | s y => obtain ⟨t, _, o, e, _, d⟩ := x; exact ⟨o, e, fun v q => by rw [d] at q; cases q⟩
theorem Sr.inj {X : Cx} {pins : List (Addr × Obj)} {σ : L2.St} {H : Hp} {s : Shared} (I : Inv X pins σ H s) {r : Sr} {xs ys : List V} (h : r.at X.K H xs) (h' : r.at X.K H ys) : xs = ys := by
  cases r with
  | l a => exact I.list_inj h h'
  | t a => exact I.tuple_inj h h'
  | s y => exact h.trans h'.symm
theorem Sr.draws {X : Cx} {pins : List (Addr × Obj)} {σ : L2.St} {H : Hp} {s : Shared} (I : Inv X pins σ H s) (hc : X.calm = true) (A : Around) (hh : A.handled = none) {r : Sr} {xs : List V} (h : r.at X.K H xs) {v : Value} {it : Addr} {i : Nat} (hit : r.it v it i s.heap) (hn : H it = none) (hK : ∀ a, (r = .l a ∨ r = .t a) → a ≠ it) :
    ∃ fp P St, Draws X.prog X.w A it fp xs.length P St ∧ it ∈ fp ∧ (∀ b ∈ fp, b = it ∨ r = .l b ∨ r = .t b) ∧ St i s.heap ∧ (∀ j h, St j h → r.it v it j h) ∧ ∀ j u, P j u → ∃ x, xs[j]? = some x ∧ RelV x u := by
  cases r with
  | l a =>
    obtain ⟨its, rv, p, _⟩ := I.list h
    have D := Draws.list (prog := X.prog) (w := X.w) hh it a (hK a (.inl rfl)) its.toArray
    rw [List.size_toArray, ← rv.length] at D
    refine ⟨_, _, _, D, by simp, fun b hb => ?_, ⟨hit, p.isList⟩, fun j h st => st.1, fun j u hu => ?_⟩
    · rcases List.mem_cons.mp hb with e | hb
      · exact .inl e
      · exact .inr (.inl (by rw [List.mem_singleton.mp hb]))
    · have hu' : its[j]? = some u := by simpa using hu
      have hj : j < xs.length := by
        rw [rv.length]
        by_cases z : j < its.length
        · exact z
        · rw [List.getElem?_eq_none (by omega)] at hu'; cases hu'
      obtain ⟨u2, e2, r2⟩ := rv.get (List.getElem?_eq_getElem hj)
      rw [hu'] at e2; cases e2
      exact ⟨_, List.getElem?_eq_getElem hj, r2⟩
  | t a =>
    obtain ⟨its, rv, p, _⟩ := I.tuple h
    have D := Draws.tuple (prog := X.prog) (w := X.w) hh it a (hK a (.inr rfl)) its.toArray
    rw [List.size_toArray, ← rv.length] at D
    refine ⟨_, _, _, D, by simp, fun b hb => ?_, ⟨hit, p⟩, fun j h st => st.1, fun j u hu => ?_⟩
    · rcases List.mem_cons.mp hb with e | hb
      · exact .inl e
      · exact .inr (.inr (by rw [List.mem_singleton.mp hb]))
    · have hu' : its[j]? = some u := by simpa using hu
      have hj : j < xs.length := by
        rw [rv.length]
        by_cases z : j < its.length
        · exact z
        · rw [List.getElem?_eq_none (by omega)] at hu'; cases hu'
      obtain ⟨u2, e2, r2⟩ := rv.get (List.getElem?_eq_getElem hj)
      rw [hu'] at e2; cases e2
      exact ⟨_, List.getElem?_eq_getElem hj, r2⟩
  | s y =>
    obtain ⟨t, ev, hs⟩ := hit
    have e : xs = y.cps.toList.map fun c => V.str ⟨#[c]⟩ := h
    subst e
    have D := Draws.text (prog := X.prog) (w := X.w) hh it y t
    rw [show y.cps.size = (y.cps.toList.map fun c => V.str ⟨#[c]⟩).length by simp] at D
    refine ⟨_, _, _, D, by simp, fun b hb => .inl (by simpa using hb), hs, fun j h st => ⟨t, ev, st⟩, fun j u hu => ?_⟩
    obtain ⟨c, u', e1, rfl⟩ := hu
    refine ⟨.str ⟨#[c]⟩, ?_, ⟨u', rfl⟩⟩
    rw [List.getElem?_map]
    have : y.cps.toList[j]? = some c := by simpa using e1
    rw [this]; rfl
def ItZ (K : PySem.W.Frag) (r q : Sr) : It :=
  ⟨fun i H => ∃ (xs ys : List V) (x y : V), r.at K H xs ∧ q.at K H ys ∧ xs[i]? = some x ∧ ys[i]? = some y,
    fun i H v H' => ∃ T x y, v = .ref T ∧ H T = none ∧ H' = upd H T (.tup [x, y]) ∧ (∀ xs, r.at K H xs → xs[i]? = some x) ∧ ∀ ys, q.at K H ys → ys[i]? = some y,
    fun i H => ∃ xs ys : List V, r.at K H xs ∧ q.at K H ys ∧ i = min xs.length ys.length⟩
structure Apart (z TI TO i1 i2 : Addr) (r q : Sr) : Prop where
  nd : [z, TI, TO, i1, i2].Nodup
  far : ∀ a, (r = .l a ∨ r = .t a ∨ q = .l a ∨ q = .t a) → a ∉ [z, TI, TO, i1, i2]
theorem Apart.sep {z TI TO i1 i2 : Addr} {r q : Sr} (D : Apart z TI TO i1 i2 r q) {f1 f2 : List Addr} (m1 : i1 ∈ f1) (m2 : i2 ∈ f2) (h1 : ∀ b ∈ f1, b = i1 ∨ r = .l b ∨ r = .t b) (h2 : ∀ b ∈ f2, b = i2 ∨ q = .l b ∨ q = .t b) : ZipSep2 z TI TO i1 i2 f1 f2 := by
  have nd := D.nd
  simp only [List.nodup_cons, List.mem_cons, List.mem_nil_iff, or_false, not_or, List.nodup_nil, and_true, not_false_eq_true] at nd
  obtain ⟨⟨n1, n2, n3, n4⟩, ⟨n5, n6, n7⟩, ⟨n8, n9⟩, n10⟩ := nd
  have g1 : ∀ c, c ∈ [z, TI, TO, i1, i2] → c ≠ i1 → c ∉ f1 := fun c hc hne hm => by
    rcases h1 c hm with e | e | e
    · exact hne e
    · exact D.far c (.inl e) hc
    · exact D.far c (.inr (.inl e)) hc
  have g2 : ∀ c, c ∈ [z, TI, TO, i1, i2] → c ≠ i2 → c ∉ f2 := fun c hc hne hm => by
    rcases h2 c hm with e | e | e
    · exact hne e
    · exact D.far c (.inr (.inr (.inl e))) hc
    · exact D.far c (.inr (.inr (.inr e))) hc
  exact ⟨fun e => n1 e.symm, fun e => n2 e.symm, n5, n6, m1, g1 z (by simp) n3, g1 TO (by simp) n8, n7, m2, g2 z (by simp) n4, g2 TO (by simp) n9, g2 i1 (by simp) n10, g1 i2 (by simp) fun e => n10 e.symm⟩
theorem turn_z {P : Program} {w : World} {K : PySem.W.Frag} {elts : List Expr} {kk : Nat} {tpos : Pos} {z TI TO i1 i2 : Addr} {r q : Sr} {v1 v2 : Value} (D : Apart z TI TO i1 i2 r q) :
    Turn P w K (.Tuple elts kk tpos) (ItZ K r q) [z, TI, TO, i1, i2] z (fun i h => IsZip h z TI TO .none ∧ IsTupOf2 h TI (.ref i1) (.ref i2) ∧ (∃ x y, IsTupOf2 h TO x y) ∧ r.it v1 i1 i h ∧ q.it v2 i2 i h) where
  mem := by simp
  obj := fun i h st c hc => by
    obtain ⟨hz, hTI, ⟨x, y, hTO⟩, h1, h2⟩ := st
    simp only [List.mem_cons, List.mem_nil_iff, or_false] at hc
    rcases hc with rfl | rfl | rfl | rfl | rfl
    · exact ⟨_, hz, fun v q => nomatch q⟩
    · exact ⟨_, hTI, fun v q => nomatch q⟩
    · exact ⟨_, hTO, fun v q => nomatch q⟩
    · exact Sr.it_obj h1
    · exact Sr.it_obj h2
  keep := fun i h h' st k => by
    obtain ⟨hz, hTI, ⟨x, y, hTO⟩, h1, h2⟩ := st
    exact ⟨k z (by simp) _ hz, k TI (by simp) _ hTI, ⟨x, y, k TO (by simp) _ hTO⟩, Sr.it_at h1 fun o q => k i1 (by simp) o q, Sr.it_at h2 fun o q => k i2 (by simp) o q⟩
  item := by
    intro X hP hw hK hc i pins s σ H E I hf st hg
    subst hP hw hK
    obtain ⟨hz, hTI, hTO, h1, h2⟩ := st
    obtain ⟨xs, ys, x, y, hqx, hqy, hx, hy⟩ := hg
    have hh : X.A.in1.handled = none := I.ok.hd hc
    obtain ⟨f1, P1, St1, D1, m1, sb1, st1, bk1, pr1⟩ := Sr.draws I hc X.A.in1 hh hqx h1 (hf i1 (by simp)).1 fun a ha e => D.far a (by rcases ha with z | z; exact .inl z; exact .inr (.inl z)) (by rw [e]; simp)
    obtain ⟨f2, P2, St2, D2, m2, sb2, st2, bk2, pr2⟩ := Sr.draws I hc X.A.in1 hh hqy h2 (hf i2 (by simp)).1 fun a ha e => D.far a (by rcases ha with z | z; exact .inr (.inr (.inl z)); exact .inr (.inr (.inr z))) (by rw [e]; simp)
    have W := WalksT.zipD2 (D.sep m1 m2 sb1 sb2) D1 D2
    have lx : i < xs.length := (List.getElem?_eq_some_iff.mp hx).1
    have ly : i < ys.length := (List.getElem?_eq_some_iff.mp hy).1
    refine W.item i s _ E (by omega) ⟨hz, hTI, hTO, st1, st2⟩ fun T vals h' tk pv hT isT mid kp => ?_
    obtain ⟨u1, u2, p1, p2, rfl⟩ := pv
    obtain ⟨x', ex, rx⟩ := pr1 i u1 p1
    obtain ⟨y', ey, ry⟩ := pr2 i u2 p2
    rw [hx] at ex; cases ex
    rw [hy] at ey; cases ey
    refine ⟨_, rfl, W.go elts kk tpos i T _ _ E mid fun h'' st' kp' => ?_⟩
    obtain ⟨z1, z2, z3, z4, z5⟩ := st'
    have nT : T ∉ [z, TO, i1, i2] := W.apart i T h' mid
    have isT2 : h''.IsTuple T #[u1, u2] := isT.at fun o e => kp' T o nT e
    have sub4 : ∀ c, c ∉ [z, TI, TO, i1, i2] → c ∉ [z, TO, i1, i2] := fun c hc hm => hc (by
      simp only [List.mem_cons, List.mem_nil_iff, or_false] at hm ⊢
      rcases hm with e | e | e | e
      · exact .inl e
      · exact .inr (.inr (.inl e))
      · exact .inr (.inr (.inr (.inl e)))
      · exact .inr (.inr (.inr (.inr e))))
    have new : ObjOk X.prog X.w (upd H T (.tup [x, y])) h'' T (.tup [x, y]) := ⟨by show 2 ≤ sizeLine; decide, [u1, u2], .cons rx (.cons ry .nil), isT2⟩
    have I1 : Inv X pins σ (upd H T (.tup [x, y])) { s with heap := h'', toks := tk } := I.turnedNew (ch := [z, TI, TO, i1, i2]) (fun c o hb e => kp' c o (sub4 c hb) (kp c o (sub4 c hb) e)) hf hT new
    refine ⟨.ref T, _, I1, rfl, ⟨T, x, y, rfl, I.hok.fresh hT, rfl, fun l hl => by rw [Sr.inj I hl hqx]; exact hx, fun l hl => by rw [Sr.inj I hl hqy]; exact hy⟩, ⟨z1, z2, z3, bk1 _ _ z4, bk2 _ _ z5⟩, fun c hcm => ?_⟩
    have hlt : c < s.heap.objs.size := by
      simp only [List.mem_cons, List.mem_nil_iff, or_false] at hcm
      obtain ⟨o1, e1, _⟩ := Sr.it_obj h1
      obtain ⟨o2, e2, _⟩ := Sr.it_obj h2
      obtain ⟨a1, a2, hTO⟩ := hTO
      rcases hcm with rfl | rfl | rfl | rfl | rfl
      · exact Heap.lt_size hz
      · exact Heap.lt_size hTI
      · exact Heap.lt_size hTO
      · exact Heap.lt_size e1
      · exact Heap.lt_size e2
    rw [upd_ne (Nat.ne_of_lt (Nat.lt_of_lt_of_le hlt hT))]
    exact (hf c hcm).1
  done := by
    intro X hP hw hK hc i pins s σ H E I hf st hg
    subst hP hw hK
    obtain ⟨hz, hTI, hTO, h1, h2⟩ := st
    obtain ⟨xs, ys, hqx, hqy, hend⟩ := hg
    have hh : X.A.in1.handled = none := I.ok.hd hc
    obtain ⟨f1, P1, St1, D1, m1, sb1, st1, bk1, pr1⟩ := Sr.draws I hc X.A.in1 hh hqx h1 (hf i1 (by simp)).1 fun a ha e => D.far a (by rcases ha with z | z; exact .inl z; exact .inr (.inl z)) (by rw [e]; simp)
    obtain ⟨f2, P2, St2, D2, m2, sb2, st2, bk2, pr2⟩ := Sr.draws I hc X.A.in1 hh hqy h2 (hf i2 (by simp)).1 fun a ha e => D.far a (by rcases ha with z | z; exact .inr (.inr (.inl z)); exact .inr (.inr (.inr z))) (by rw [e]; simp)
    have W := WalksT.zipD2 (D.sep m1 m2 sb1 sb2) D1 D2
    rw [hend] at st1 st2
    refine W.done s _ E ⟨hz, hTI, hTO, st1, st2⟩ fun h' tk kp => ⟨rfl, ?_⟩
    have sub4 : ∀ c, c ∉ [z, TI, TO, i1, i2] → c ∉ [z, TO, i1, i2] := fun c hc hm => hc (by
      simp only [List.mem_cons, List.mem_nil_iff, or_false] at hm ⊢
      rcases hm with e | e | e | e
      · exact .inl e
      · exact .inr (.inr (.inl e))
      · exact .inr (.inr (.inr (.inl e)))
      · exact .inr (.inr (.inr (.inr e))))
    exact I.turnedL (ch := [z, TI, TO, i1, i2]) (fun c o hb e => kp c o (sub4 c hb) e) hf
  self := fun A i s Q E st h => wpAny_pyIter_zip st.1 h
theorem Sr.begins {X : Cx} {pins : List (Addr × Obj)} {σ : L2.St} {H : Hp} {s : Shared} (I : Inv X pins σ H s) {r : Sr} {v : Value} {xs : List V} (hv : r.rel v) (h : r.at X.K H xs) :
    ∃ o Hb, Begins v o Hb ∧ Hb s.heap ∧ (∀ h' it, h'.get? it = some o → r.it v it 0 h') ∧ ∀ a, (r = .l a ∨ r = .t a) → a < s.heap.objs.size := by
  cases r with
  | l a =>
    obtain rfl : v = .ref a := hv
    obtain ⟨its, rv, p, _⟩ := I.list h
    exact ⟨_, _, begins_list a its.toArray, p.isList, fun h' it e => ⟨_, e, rfl, rfl⟩, fun b hb => by rcases hb with e | e <;> cases e; exact p.lt⟩
  | t a =>
    obtain rfl : v = .ref a := hv
    obtain ⟨its, rv, p, _⟩ := I.tuple h
    exact ⟨_, _, begins_tuple a its.toArray, p, fun h' it e => ⟨_, e, rfl, rfl⟩, fun b hb => by rcases hb with e | e <;> cases e; exact IsTup.lt p⟩
  | s x =>
    obtain ⟨t, rfl⟩ : ∃ t, v = .str x t := hv
    exact ⟨_, _, begins_text x t, trivial, fun h' it e => ⟨t, rfl, _, e, rfl, rfl⟩, fun b hb => by rcases hb with e | e <;> cases e⟩
theorem src_of {K : PySem.W.Frag} {H : Hp} {S : Sto} (so : StoOk K H S) {d : D} {x : V} {u : Value} {ds : List D} {G : Sto → Prop} (r : Rep K H d x) (ru : RelV x u) (h : srcD S d = some (ds, G)) :
    ∃ q : Sr, q.rel u ∧ G S ∧ ∀ H' S', Keep H H' → StoOk K H' S' → G S' → ∃ xs, q.at K H' xs ∧ Reps K H' ds xs := by
  cases d <;> simp only [srcD] at h <;> try cases h
  case tup =>
    obtain ⟨a, vs, rfl, q, rs⟩ := r.tup_inv
    exact ⟨.t a, ru, trivial, fun H' S' k _ _ => ⟨vs, k.sqt q, rs.mono k⟩⟩
  case rol =>
    obtain ⟨a, vs, rfl, q, rs⟩ := r.rol_inv
    exact ⟨.l a, ru, trivial, fun H' S' k _ _ => ⟨vs, (k.sqf q).sq, rs.mono k⟩⟩
  case str z =>
    simp only [Rep] at r
    subst r
    refine ⟨.s ⟨z.toArray⟩, ru, trivial, fun H' S' k _ _ => ⟨_, rfl, ?_⟩⟩
    show Reps K H' _ (z.map _)
    clear ru
    induction z with
    | nil => exact .nil
    | cons c z ih => exact .cons (by simp only [Rep]) ih
  case ref p =>
    simp only [Rep] at r
    subst r
    cases e : S p with
    | none => rw [e] at h; cases h
    | some o =>
      cases o with
      | lst es =>
        rw [e] at h
        cases h
        exact ⟨.l p, ru, e, fun H' S' k s' g => lst_at s' g⟩
theorem drv_z {K : PySem.W.Frag} {H0 : Hp} {r q : Sr} {xs ys : List D} {G1 G2 : Sto → Prop} (h1 : ∀ H' S', Keep H0 H' → StoOk K H' S' → G1 S' → ∃ vs, r.at K H' vs ∧ Reps K H' xs vs) (h2 : ∀ H' S', Keep H0 H' → StoOk K H' S' → G2 S' → ∃ vs, q.at K H' vs ∧ Reps K H' ys vs) :
    Drv K H0 (ItZ K r q) (zipD xs ys) (fun S => G1 S ∧ G2 S) := fun H S i k so g => by
  obtain ⟨us, q1, r1⟩ := h1 H S k so g.1
  obtain ⟨vs, q2, r2⟩ := h2 H S k so g.2
  refine ⟨fun d e => ?_, fun e => ⟨us, vs, q1, q2, by rw [e, zip_len, r1.length, r2.length]⟩⟩
  obtain ⟨x, y, e1, e2, rfl⟩ := zip_get e
  obtain ⟨u, f1, g1⟩ := r1.get e1
  obtain ⟨v, f2, g2⟩ := r2.get e2
  refine ⟨⟨us, vs, u, v, q1, q2, f1, f2⟩, fun w H' z => ?_⟩
  obtain ⟨T, x1, y1, rfl, hT, rfl, z1, z2⟩ := z
  have z1 := z1 us q1
  have z2 := z2 vs q2
  rw [f1] at z1; rw [f2] at z2
  cases z1; cases z2
  exact pair_new so g1 g2 hT
theorem qi_Z2 {X : Cx} {pos p tp : Pos} {a b : Expr} {ta tb : TD} {elts : List Expr} {kk : Nat} (hg : Gl X "zip") (hm : X.mg "zip" = none) (ha : QE X a ta) (hb : QE X b tb) (hs : starEach [a, b] X.env = (false, eval a X.env) :: starEach [b] X.env) (hs2 : starEach [b] X.env = [(false, eval b X.env)]) :
    QI X (.Tuple elts kk tp) (.Call (.Name "zip" p) [a, b] [] pos) (fun env S K => ta env S fun x S1 => tb env S1 fun y S2 => zipsD x y S2 K) := by
  refine ⟨fun pins s σ H R I ⟨env, S, Kd, re, so, h, l⟩ => ?_⟩
  have hA := args2 ha hb hs hs2
  refine Call_ (ld_blt I hg hm PyProof.Rows.boot_zip (PyProof.Rows.callWith_type1 (thn (hA.run pos pins s σ H (fun vs H1 => ∃ x y S1 u v, vs = [u, v] ∧ zipsD x y S1 Kd ∧ Keep H H1 ∧ Rep X.K H1 x u ∧ Rep X.K H1 y v ∧ StoOk X.K H1 S1) I
    ⟨env, S, on2 fun x y S1 => zipsD x y S1 Kd, re, so, h, fun ds S1 vs H1 h1 k1 r1 s1 => ?_⟩) fun us s1 ⟨vs, H1, I1, rv, q⟩ => ?_) hs (by rw [hs2]; rfl)))
  · obtain ⟨x, y, rfl, z1⟩ := on2_inv h1
    simp only [Reps] at r1
    obtain ⟨u, _, rfl, ru, v, _, rfl, rv, rfl⟩ := r1
    exact ⟨x, y, S1, u, v, rfl, z1, k1, ru, rv, s1⟩
  · obtain ⟨x, y, S1, u, v, rfl, ⟨xs, G, ys, G', e1, e2, hK⟩, k1, rx, ry, so1⟩ := q
    obtain ⟨u1, u2, rfl, t1, t2⟩ : ∃ u1 u2, us = [u1, u2] ∧ RelV u u1 ∧ RelV v u2 := by
      cases rv with
      | cons p1 rr => cases rr with
        | cons p2 rr => cases rr; exact ⟨_, _, rfl, p1, p2⟩
    · obtain ⟨r, hr, g1, at1⟩ := src_of so1 rx t1 e1
      obtain ⟨q, hq, g2, at2⟩ := src_of so1 ry t2 e2
      obtain ⟨as, a1, _⟩ := at1 H1 S1 .refl so1 g1
      obtain ⟨bs, a2, _⟩ := at2 H1 S1 .refl so1 g2
      obtain ⟨o1, Hb1, B1, b1, it1, lt1⟩ := Sr.begins I1 hr a1
      obtain ⟨o2, Hb2, B2, b2, it2, lt2⟩ := Sr.begins I1 hq a2
      have ge : ∀ c, c ∈ [s1.heap.objs.size + 4, s1.heap.objs.size + 2, s1.heap.objs.size + 3, s1.heap.objs.size, s1.heap.objs.size + 1] → s1.heap.objs.size ≤ c := fun c hcm => by
        simp only [List.mem_cons, List.mem_nil_iff, or_false] at hcm
        rcases hcm with z | z | z | z | z <;> rw [z] <;> first | exact Nat.le_add_right _ _ | exact Nat.le_refl _
      refine zip_begins2 B1 B2 b1 b2 fun h' hz hTI hTO f1 f2 hsz hk => wpAny_pyIter_zip hz ?_
      have I2 : Inv X pins σ H1 { s1 with heap := h' } := I1.kept (t' := s1.toks) hk
      have D : Apart (s1.heap.objs.size + 4) (s1.heap.objs.size + 2) (s1.heap.objs.size + 3) s1.heap.objs.size (s1.heap.objs.size + 1) r q := by
        refine ⟨?_, fun c hc hm => ?_⟩
        · have far5 : ∀ n : Nat, [n + 4, n + 2, n + 3, n, n + 1].Nodup := fun n => by simp
          exact far5 _
        · have hlt : c < s1.heap.objs.size := by
            rcases hc with e | e | e | e
            · exact lt1 c (.inl e)
            · exact lt1 c (.inr e)
            · exact lt2 c (.inl e)
            · exact lt2 c (.inr e)
          exact absurd (Nat.lt_of_lt_of_le hlt (ge c hm)) (Nat.lt_irrefl _)
      exact ⟨s1.heap.objs.size + 4, _, _, _, H1, rfl, I2, turn_z (v1 := u1) (v2 := u2) D, ⟨hz, hTI, ⟨_, _, hTO⟩, it1 _ _ f1, it2 _ _ f2⟩, fun c hcm => I1.fpOk (ge c hcm) (I1.hok.fresh (ge c hcm)), l _ _ S1 _ H1 hK k1 so1 ⟨g1, g2⟩ (drv_z at1 at2)⟩
theorem meets_enum1 {v : Value} {o : Obj} {Hb : Heap → Prop} (B : Begins v o Hb) :
    Meets (Builtin.«enumerate.__new__» ⟨[.type "enumerate", v], []⟩) (fun _ R s => Hb s.heap ∧
      R (.ok (.ret (.ref (s.heap.push o).objs.size))) { s with heap := (s.heap.push o).push { cls := .type "enumerate", data := .fields #[.none, .bool false, .ref s.heap.objs.size, rawInt 0, .none, .none] } }) :=
  .of_wp fun prog w A R s h => by
    obtain ⟨hp, g, d, tk, os⟩ := s
    obtain ⟨h1, h⟩ := h
    have hsub := sub_enumerate
    have q1 : ∀ {A' : Around} {E : Value → Shared → Prop} {Q : Value → Shared → Prop}, Q (.ref hp.objs.size) ⟨hp.push o, g, d, tk, os⟩ →
        wpAny (model prog w) A' (pyIter v) Q E ⟨hp, g, d, tk, os⟩ := fun q => B.iter prog w _ _ ⟨hp, g, d, tk, os⟩ _ h1 q
    wp_walk using q1
    refine wpAny_stack_any fun st => wpAny_pure ?_
    split
    · rename_i c _ _ _ _ _
      cases (c == Value.type "enumerate")
      · wp_walk using q1
        exact ⟨_, rfl, h⟩
      · wp_walk using q1
        exact ⟨_, rfl, h⟩
    · wp_walk using q1
      exact ⟨_, rfl, h⟩
theorem enum_begins1 {prog : Program} {w : World} {A : Around} {E : Value → Shared → Prop} {s : Shared} {v : Value} {o : Obj} {Hb : Heap → Prop} {Q : Value → Shared → Prop} (B : Begins v o Hb) (h1 : Hb s.heap)
    (h : ∀ h', IsEnum h' (s.heap.objs.size + 1) s.heap.objs.size 0 .none → h'.get? s.heap.objs.size = some o → (∀ b o, s.heap.get? b = some o → h'.get? b = some o) → Q (.ref (s.heap.objs.size + 1)) { s with heap := h' }) :
    wpAny (model prog w) A (call (.type "enumerate") [v]) Q E s := by
  refine callType_new F.called_enumerate (by decide) (F.typeCall_enumerate_1 _) (F.newCall_enumerate_1 _) (fun obj => F.args_object_init_2 obj _) F.entry_enumerate_new (meets_enum1 B) ⟨h1, ?_⟩
  have hz : (s.heap.push o).objs.size = s.heap.objs.size + 1 := Heap.size_push ..
  show _ ∧ _
  rw [hz]
  have he : IsEnum ((s.heap.push o).push { cls := .type "enumerate", data := .fields #[.none, .bool false, .ref s.heap.objs.size, rawInt 0, .none, .none] }) (s.heap.objs.size + 1) s.heap.objs.size 0 .none := by
    have z := Heap.get?_push_size (s.heap.push o) (o := { cls := .type "enumerate", data := .fields #[.none, .bool false, .ref s.heap.objs.size, rawInt 0, .none, .none] }) rfl
    rw [hz] at z
    exact z
  exact ⟨⟨_, he, rfl⟩, h _ he (Heap.get?_push_of_some _ (Heap.get?_push_size _ B.free)) fun b o x => Heap.get?_push_of_some _ (Heap.get?_push_of_some _ x)⟩
def ItN (K : PySem.W.Frag) (r : Sr) : It :=
  ⟨fun i H => ∃ (xs : List V) (x : V), r.at K H xs ∧ xs[i]? = some x,
    fun i H v H' => ∃ T x, v = .ref T ∧ H T = none ∧ H' = upd H T (.tup [.int (i : Nat), x]) ∧ ∀ xs, r.at K H xs → xs[i]? = some x,
    fun i H => ∃ xs : List V, r.at K H xs ∧ i = xs.length⟩
theorem turn_n {P : Program} {w : World} {K : PySem.W.Frag} {elts : List Expr} {kk : Nat} {tpos : Pos} {e it : Addr} {r : Sr} {v : Value} (ne : e ≠ it) (far : ∀ a, (r = .l a ∨ r = .t a) → a ≠ e ∧ a ≠ it) :
    Turn P w K (.Tuple elts kk tpos) (ItN K r) [e, it] e (fun i h => (∃ old, IsEnum h e it (0 + (i : Int)) old) ∧ r.it v it i h) where
  mem := by simp
  obj := fun i h st c hc => by
    obtain ⟨⟨old, he⟩, h1⟩ := st
    simp only [List.mem_cons, List.mem_nil_iff, or_false] at hc
    rcases hc with rfl | rfl
    · exact ⟨_, he, fun v q => nomatch q⟩
    · exact Sr.it_obj h1
  keep := fun i h h' st k => by
    obtain ⟨⟨old, he⟩, h1⟩ := st
    exact ⟨⟨old, k e (by simp) _ he⟩, Sr.it_at h1 fun o q => k it (by simp) o q⟩
  item := by
    intro X hP hw hK hc i pins s σ H E I hf st hg
    subst hP hw hK
    obtain ⟨he, h1⟩ := st
    obtain ⟨xs, x, hqx, hx⟩ := hg
    obtain ⟨f1, P1, St1, D1, m1, sb1, st1, bk1, pr1⟩ := Sr.draws I hc X.A.in1 (I.ok.hd hc) hqx h1 (hf it (by simp)).1 fun a ha => (far a ha).2
    have W := WalksT.enumFrom 0 D1 e ne (fun hm => by
      rcases sb1 e hm with z | z | z
      · exact ne z
      · exact (far e (.inl z)).1 rfl
      · exact (far e (.inr z)).1 rfl) m1
    refine W.item i s _ E (List.getElem?_eq_some_iff.mp hx).1 ⟨he, st1⟩ fun T vals h' tk pv hT isT mid kp => ?_
    obtain ⟨tt, u1, p1, rfl⟩ := pv
    obtain ⟨x', ex, rx⟩ := pr1 i u1 p1
    rw [hx] at ex; cases ex
    refine ⟨_, rfl, W.go elts kk tpos i T _ _ E mid fun h'' st' kp' => ?_⟩
    obtain ⟨z1, z2⟩ := st'
    have isT2 : h''.IsTuple T #[.int (0 + (i : Int)) tt, u1] := isT.at fun o e => kp' T o (W.apart i T h' mid) e
    have new : ObjOk X.prog X.w (upd H T (.tup [.int (i : Nat), x])) h'' T (.tup [.int (i : Nat), x]) :=
      ⟨by show 2 ≤ sizeLine; decide, [_, u1], .cons ⟨tt, by rw [Int.zero_add]⟩ (.cons rx .nil), isT2⟩
    have I1 : Inv X pins σ (upd H T (.tup [.int (i : Nat), x])) { s with heap := h'', toks := tk } := I.turnedNew (ch := [e, it]) (fun c o hb e => kp' c o hb (kp c o hb e)) hf hT new
    refine ⟨.ref T, _, I1, rfl, ⟨T, x, rfl, I.hok.fresh hT, rfl, fun l hl => by rw [Sr.inj I hl hqx]; exact hx⟩, ⟨z1, bk1 _ _ z2⟩, fun c hcm => ?_⟩
    have hlt : c < s.heap.objs.size := by
      simp only [List.mem_cons, List.mem_nil_iff, or_false] at hcm
      obtain ⟨o1, e1, _⟩ := Sr.it_obj h1
      obtain ⟨old, he⟩ := he
      rcases hcm with rfl | rfl
      · exact Heap.lt_size he
      · exact Heap.lt_size e1
    rw [upd_ne (Nat.ne_of_lt (Nat.lt_of_lt_of_le hlt hT))]
    exact (hf c hcm).1
  done := by
    intro X hP hw hK hc i pins s σ H E I hf st hg
    subst hP hw hK
    obtain ⟨he, h1⟩ := st
    obtain ⟨xs, hqx, hend⟩ := hg
    obtain ⟨f1, P1, St1, D1, m1, sb1, st1, bk1, pr1⟩ := Sr.draws I hc X.A.in1 (I.ok.hd hc) hqx h1 (hf it (by simp)).1 fun a ha => (far a ha).2
    have W := WalksT.enumFrom 0 D1 e ne (fun hm => by
      rcases sb1 e hm with z | z | z
      · exact ne z
      · exact (far e (.inl z)).1 rfl
      · exact (far e (.inr z)).1 rfl) m1
    rw [hend] at st1 he
    exact W.done s _ E ⟨he, st1⟩ fun h' tk kp => ⟨rfl, I.turnedL (ch := [e, it]) (fun c o hb e => kp c o hb e) hf⟩
  self := fun A i s Q E st h => by
    obtain ⟨⟨old, he⟩, _⟩ := st
    exact wpAny_pyIter_enum he h
theorem drv_n {K : PySem.W.Frag} {H0 : Hp} {r : Sr} {xs : List D} {G : Sto → Prop} (h1 : ∀ H' S', Keep H0 H' → StoOk K H' S' → G S' → ∃ vs, r.at K H' vs ∧ Reps K H' xs vs) : Drv K H0 (ItN K r) (enumD 0 xs) G := fun H S i k so g => by
  obtain ⟨us, q, r1⟩ := h1 H S k so g
  refine ⟨fun d e => ?_, fun e => ⟨us, q, by rw [e, enum_len, r1.length]⟩⟩
  obtain ⟨x, e1, rfl⟩ := enum_get e
  obtain ⟨u, f1, g1⟩ := r1.get e1
  refine ⟨⟨us, u, q, f1⟩, fun w H' z => ?_⟩
  obtain ⟨T, x1, rfl, hT, rfl, z1⟩ := z
  have z1 := z1 us q
  rw [f1] at z1; cases z1
  rw [Nat.zero_add]
  exact pair_new so .int g1 hT
theorem qi_N2 {X : Cx} {pos p tp : Pos} {a : Expr} {ta : TD} {elts : List Expr} {kk : Nat} (hg : Gl X "enumerate") (hm : X.mg "enumerate" = none) (ha : QE X a ta) (hs : starEach [a] X.env = [(false, eval a X.env)]) :
    QI X (.Tuple elts kk tp) (.Call (.Name "enumerate" p) [a] [] pos) (fun env S K => ta env S fun x S1 => enumedD x S1 K) := by
  refine ⟨fun pins s σ H R I ⟨env, S, Kd, re, so, h, l⟩ => ?_⟩
  have hA := args1 ha hs
  refine Call_ (ld_blt I hg hm boot_enumerate (PyProof.Rows.callWith_type1 (thn (hA.run pos pins s σ H (fun vs H1 => ∃ x S1 u, vs = [u] ∧ enumedD x S1 Kd ∧ Keep H H1 ∧ Rep X.K H1 x u ∧ StoOk X.K H1 S1) I
    ⟨env, S, on1 fun x S1 => enumedD x S1 Kd, re, so, h, fun ds S1 vs H1 h1 k1 r1 s1 => ?_⟩) fun us s1 ⟨vs, H1, I1, rv, q⟩ => ?_) hs rfl))
  · obtain ⟨x, rfl, z1⟩ := on1_inv h1
    simp only [Reps] at r1
    obtain ⟨u, _, rfl, ru, rfl⟩ := r1
    exact ⟨x, S1, u, rfl, z1, k1, ru, s1⟩
  · obtain ⟨x, S1, u, rfl, ⟨xs, G, e1, hK⟩, k1, rx, so1⟩ := q
    obtain ⟨u1, rfl, t1⟩ : ∃ u1, us = [u1] ∧ RelV u u1 := by
      cases rv with
      | cons p1 rr => cases rr; exact ⟨_, rfl, p1⟩
    obtain ⟨r, hr, g1, at1⟩ := src_of so1 rx t1 e1
    obtain ⟨as, a1, _⟩ := at1 H1 S1 .refl so1 g1
    obtain ⟨o1, Hb1, B1, b1, it1, lt1⟩ := Sr.begins I1 hr a1
    refine enum_begins1 B1 b1 fun h' he f1 hk => wpAny_pyIter_enum he ?_
    have I2 : Inv X pins σ H1 { s1 with heap := h' } := I1.kept (t' := s1.toks) hk
    have ge : ∀ c, c ∈ [s1.heap.objs.size + 1, s1.heap.objs.size] → s1.heap.objs.size ≤ c := fun c hcm => by
      simp only [List.mem_cons, List.mem_nil_iff, or_false] at hcm
      rcases hcm with z | z <;> rw [z] <;> first | exact Nat.le_add_right _ _ | exact Nat.le_refl _
    exact ⟨s1.heap.objs.size + 1, _, _, _, H1, rfl, I2, turn_n (v := u1) (e := s1.heap.objs.size + 1) (it := s1.heap.objs.size) (Nat.succ_ne_self _) (fun c hc => ⟨Nat.ne_of_lt (Nat.lt_succ_of_lt (lt1 c hc)), Nat.ne_of_lt (lt1 c hc)⟩), ⟨⟨.none, by simpa using he⟩, it1 _ _ f1⟩,
      fun c hcm => I1.fpOk (ge c hcm) (I1.hok.fresh (ge c hcm)), l _ _ S1 _ H1 hK k1 so1 g1 (drv_n at1)⟩
end G57
set_option Elab.async false
set_option linter.all false
set_option maxRecDepth 100000
set_option maxHeartbeats 400000
namespace G57
open PySem L2 PySem.Spec PyProof.Rows
section
variable {X : Cx} {pos : Pos} {tg it e : Expr} {te : TD} {tA : TBD} {ti : TID} {p : Pt}
theorem lc_read {K : PySem.W.Frag} {vs : List Nat} (hp : ∀ i ∈ places p, i ∈ vs) (σ : L2.St) (H : Hp) (Q : VK)
    (h : liftE K (fun env S Q => ti env S fun xs G S1 => ∀ a, S1 a = none → G (put S1 a (.lst [])) ∧ lcRun a G (fun x S2 k => wpP p x S2 (wipeD env vs) fun env2 => tA env2 S2 fun t S3 =>
      if t = true then te env2 S3 fun y S4 => k (some y) S4 else k none S3) (fun S' => Q (.ref a) S') xs [] (put S1 a (.lst []))) σ H Q) :
    tLc (liftI K ti) (liftG K p) (liftT K tA) (liftE K te) vs σ H Q := by
  obtain ⟨env, S, Qd, re, so, h, l⟩ := h
  refine ⟨env, S, _, re, so, h, fun xs G S1 J H1 h1 k1 s1 g1 dr a ha => ?_⟩
  obtain ⟨g0, run⟩ := h1 a (s1.fresh ha)
  generalize hb : (fun (x : D) (S2 : Sto) (k : Option D → Sto → Prop) => wpP p x S2 (wipeD env vs) fun env2 => tA env2 S2 fun t S3 => if t = true then te env2 S3 fun y S4 => k (some y) S4 else k none S3) = body at run
  have kn : Keep H1 (upd H1 a (.lst [])) := .new ha
  refine ⟨fun i m H2 => m = xs.length - i ∧ i ≤ xs.length ∧ ∃ S2 acc, Keep H1 H2 ∧ StoOk K H2 S2 ∧ G S2 ∧ S2 a = some (.lst acc) ∧ lcRun a G body (fun S' => Qd (.ref a) S') (xs.drop i) acc S2,
    ⟨xs.length, by simp, Nat.zero_le _, put S1 a (.lst []), [], kn, s1.newL ha .nil, g0, put_same, by rw [List.drop_zero]; exact run⟩, ?_⟩
  rintro i m H2 ⟨rfl, hi, S2, acc, k2, s2, g2, ea, run⟩
  by_cases hlt : i < xs.length
  · refine .inr ?_
    have ex : xs[i]? = some xs[i] := List.getElem?_eq_getElem hlt
    obtain ⟨go, yl⟩ := (dr H2 S2 i k2 s2 g2).1 _ ex
    rw [List.drop_eq_getElem_cons hlt] at run
    refine ⟨go, fun H3 => ∃ S3 acc, Keep H1 H3 ∧ StoOk K H3 S3 ∧ G S3 ∧ S3 a = some (.lst acc) ∧ lcRun a G body (fun S' => Qd (.ref a) S') (xs.drop (i + 1)) acc S3,
      fun H3 ⟨S3, acc3, z⟩ => ⟨xs.length - (i + 1), by omega, rfl, by omega, S3, acc3, z⟩, fun v H3 y => ?_⟩
    obtain ⟨k3, s3, rv⟩ := yl v H3 y
    simp only [lcRun] at run
    rw [← hb] at run
    refine ⟨xs[i], wipeD env vs, S2, _, rv, (re.mono (k1.trans (k2.trans k3))).wipe vs, s3, run, fun env2 σ2 h2 re2 w2 => ⟨by
      have := w2 vs hp
      rw [this]
      exact wipe_wipe σ vs, env2, S2, _, re2, s3, h2, fun t S4 H4 h4 k4 s4 => ?_⟩⟩
    cases t with
    | false =>
      simp only [Bool.false_eq_true, if_false] at h4 ⊢
      obtain ⟨z1, z2, z3⟩ := h4
      exact ⟨S4, acc, k2.trans (k3.trans k4), s4, z2, z1, by rw [← hb]; exact z3⟩
    | true =>
      simp only [if_true] at h4 ⊢
      refine ⟨env2, S4, _, re2.mono k4, s4, h4, fun y S5 u H5 h5 k5 r5 s5 => ?_⟩
      obtain ⟨z1, z2, z3, z4⟩ := h5
      obtain ⟨us, q5, t5⟩ := s5 a _ z1
      refine ⟨us, q5, by rw [← t5.length, szl]; exact z2, put S5 a (.lst (acc ++ [y])), acc ++ [y], k2.trans (k3.trans (k4.trans (k5.trans (.lst q5)))), s5.write q5 (t5.append (.cons r5 .nil)), z3, put_same, by rw [← hb]; exact z4⟩
  · refine .inl ⟨(dr H2 S2 i k2 s2 g2).2 (by omega), ?_⟩
    rw [List.drop_of_length_le (by omega)] at run
    exact l _ S2 _ H2 run (k1.trans k2) .ref s2
where
  wipe_wipe (σ : L2.St) (vs : List Nat) : L2.wipe (L2.wipe σ vs) vs = L2.wipe σ vs := by
    have gen : ∀ (us : List Nat), (∀ i ∈ us, i ∈ vs) → L2.wipe (L2.wipe σ us) vs = L2.wipe σ vs := by
      intro us
      induction us with
      | nil => intro _; rfl
      | cons u us ih =>
        intro hu
        show L2.wipe ((L2.wipe σ us).set u none) vs = _
        rw [wipe_set (hu u (by simp)), ih fun i hi => hu i (by simp [hi])]
    exact gen vs fun _ h => h
theorem lc_read2 {K : PySem.W.Frag} {vs vs1 : List Nat} {p1 : Pt} {ti1 : TID} (hp : ∀ i ∈ places p, i ∈ vs) (hp1 : ∀ i ∈ places p1, i ∈ vs1) (σ : L2.St) (H : Hp) (Q : VK)
    (h : liftE K (fun env S Q => ti env S fun xs G S1 => ∀ a, S1 a = none → G (put S1 a (.lst [])) ∧ lcRun2 G (fun x S2 N => wpP p x S2 (wipeD env vs) fun env2 => ti1 env2 S2 fun ys G1 S3 => ∃ acc, S3 a = some (.lst acc) ∧
      lcRun a G1 (fun y S4 k => wpP p1 y S4 (wipeD env2 vs1) fun env3 => te env3 S4 fun z S5 => k (some z) S5) N ys acc S3) (fun S' => Q (.ref a) S') xs (put S1 a (.lst []))) σ H Q) :
    tLc2 (liftI K ti) (liftG K p) (liftT K fun _ S Q => Q true S) (liftI K ti1) (liftG K p1) (liftT K fun _ S Q => Q true S) (liftE K te) vs vs1 σ H Q := by
  obtain ⟨env, S, Qd, re, so, h, l⟩ := h
  refine ⟨env, S, _, re, so, h, fun xs G S1 J H1 h1 k1 s1 g1 dr a ha => ?_⟩
  obtain ⟨g0, run⟩ := h1 a (s1.fresh ha)
  generalize hb : (fun (x : D) (S2 : Sto) (N : Sto → Prop) => wpP p x S2 (wipeD env vs) fun env2 => ti1 env2 S2 fun ys G1 S3 => ∃ acc, S3 a = some (.lst acc) ∧
      lcRun a G1 (fun y S4 k => wpP p1 y S4 (wipeD env2 vs1) fun env3 => te env3 S4 fun z S5 => k (some z) S5) N ys acc S3) = body at run
  have kn : Keep H1 (upd H1 a (.lst [])) := .new ha
  refine ⟨fun i m H2 => m = xs.length - i ∧ i ≤ xs.length ∧ ∃ S2, Keep H1 H2 ∧ StoOk K H2 S2 ∧ G S2 ∧ lcRun2 G body (fun S' => Qd (.ref a) S') (xs.drop i) S2,
    ⟨xs.length, by simp, Nat.zero_le _, put S1 a (.lst []), kn, s1.newL ha .nil, g0, by rw [List.drop_zero]; exact run⟩, ?_⟩
  rintro i m H2 ⟨rfl, hi, S2, k2, s2, g2, run⟩
  by_cases hlt : i < xs.length
  · refine .inr ?_
    have ex : xs[i]? = some xs[i] := List.getElem?_eq_getElem hlt
    obtain ⟨go, yl⟩ := (dr H2 S2 i k2 s2 g2).1 _ ex
    rw [List.drop_eq_getElem_cons hlt] at run
    refine ⟨go, fun H3 => ∃ S3, Keep H1 H3 ∧ StoOk K H3 S3 ∧ G S3 ∧ lcRun2 G body (fun S' => Qd (.ref a) S') (xs.drop (i + 1)) S3,
      fun H3 ⟨S3, z⟩ => ⟨xs.length - (i + 1), by omega, rfl, by omega, S3, z⟩, fun v H3 y => ?_⟩
    obtain ⟨k3, s3, rv⟩ := yl v H3 y
    simp only [lcRun2] at run
    rw [← hb] at run
    have kk3 := k2.trans k3
    refine ⟨xs[i], wipeD env vs, S2, _, rv, (re.mono (k1.trans kk3)).wipe vs, s3, run, fun env2 σ2 h2 re2 w2 => ⟨by
      have := w2 vs hp
      rw [this]
      exact lc_read.wipe_wipe σ vs, env2, S2, fun b S' => b = true ∧ S' = S2, re2, s3, ⟨rfl, rfl⟩, fun t S4 H4 h4 k4 s4 => ?_⟩⟩
    obtain ⟨rfl, rfl⟩ := h4
    simp only [if_true]
    refine ⟨env2, S4, _, re2.mono k4, s4, h2, fun ys G1 S5 J1 H5 h5 k5 s5 g5 dr1 => ?_⟩
    obtain ⟨acc, ea, run1⟩ := h5
    generalize hb1 : (fun (y : D) (S4 : Sto) (k : Option D → Sto → Prop) => wpP p1 y S4 (wipeD env2 vs1) fun env3 => te env3 S4 fun z S5 => k (some z) S5) = body1 at run1
    have kk5 := kk3.trans (k4.trans k5)
    generalize hN : (fun S1 : Sto => G S1 ∧ lcRun2 G _ _ _ S1) = N at run1
    refine ⟨fun j k H6 => k = ys.length - j ∧ j ≤ ys.length ∧ ∃ S6 acc, Keep H5 H6 ∧ StoOk K H6 S6 ∧ G1 S6 ∧ S6 a = some (.lst acc) ∧ lcRun a G1 body1 N (ys.drop j) acc S6,
      ⟨ys.length, by simp, Nat.zero_le _, S5, acc, .refl, s5, g5, ea, by rw [List.drop_zero]; exact run1⟩, ?_⟩
    rintro j k H6 ⟨rfl, hj, S6, acc6, k6, s6, g6, ea6, run6⟩
    by_cases hlt1 : j < ys.length
    · refine .inr ?_
      have ey : ys[j]? = some ys[j] := List.getElem?_eq_getElem hlt1
      obtain ⟨go1, yl1⟩ := (dr1 H6 S6 j k6 s6 g6).1 _ ey
      rw [List.drop_eq_getElem_cons hlt1] at run6
      refine ⟨go1, fun H7 => ∃ S7 acc, Keep H5 H7 ∧ StoOk K H7 S7 ∧ G1 S7 ∧ S7 a = some (.lst acc) ∧ lcRun a G1 body1 N (ys.drop (j + 1)) acc S7,
        fun H7 ⟨S7, acc7, z⟩ => ⟨ys.length - (j + 1), by omega, rfl, by omega, S7, acc7, z⟩, fun v1 H7 y1 => ?_⟩
      obtain ⟨k7, s7, rv1⟩ := yl1 v1 H7 y1
      simp only [lcRun] at run6
      rw [← hb1] at run6
      refine ⟨ys[j], wipeD env2 vs1, S6, _, rv1, (re2.mono (k4.trans (k5.trans (k6.trans k7)))).wipe vs1, s7, run6, fun env3 σ3 h8 re3 w3 => ⟨by
        have := w3 vs1 hp1
        rw [this]
        exact lc_read.wipe_wipe σ2 vs1, env3, S6, fun b S' => b = true ∧ S' = S6, re3, s7, ⟨rfl, rfl⟩, fun t S8 H8 h9 k8 s8 => ?_⟩⟩
      obtain ⟨rfl, rfl⟩ := h9
      simp only [if_true]
      refine ⟨env3, S8, _, re3.mono k8, s8, h8, fun z S9 u H9 h10 k9 r9 s9 => ?_⟩
      obtain ⟨z1, z2, z3, z4⟩ := h10
      obtain ⟨us, q9, t9⟩ := s9 a _ z1
      exact ⟨us, q9, by rw [← t9.length, szl]; exact z2, put S9 a (.lst (acc6 ++ [z])), acc6 ++ [z], k6.trans (k7.trans (k8.trans (k9.trans (.lst q9)))), s9.write q9 (t9.append (.cons r9 .nil)), z3, put_same, by rw [← hb1]; exact z4⟩
    · refine .inl ⟨(dr1 H6 S6 j k6 s6 g6).2 (by omega), ?_⟩
      rw [List.drop_of_length_le (by omega)] at run6
      simp only [lcRun] at run6
      rw [← hN] at run6
      exact ⟨S6, kk5.trans k6, s6, run6.1, by rw [← hb]; exact run6.2⟩
  · refine .inl ⟨(dr H2 S2 i k2 s2 g2).2 (by omega), ?_⟩
    rw [List.drop_of_length_le (by omega)] at run
    exact l _ S2 _ H2 run (k1.trans k2) .ref s2
theorem q_lc {ifs : List Expr} {scope : Scope} {own : List (Str × Nat)} (hc : X.calm = true) (hN : X.N.Nodup) (hi : QI X tg it ti) (ok : BlkOk X.N X.env.scope scope own) (hp : ∀ i ∈ places p, i ∈ own.map (·.2))
    (hg : ∀ (s : Shared) (H : Hp) (C : Addr) (cl : List (Str × Addr)) (fp : List Addr), PG (X.blk s H scope (compEnvC scope cl C X.env) fp) tg (liftG X.K p))
    (ht : ∀ (s : Shared) (H : Hp) (C : Addr) (cl : List (Str × Addr)) (fp : List Addr), PTs (X.blk s H scope (compEnvC scope cl C X.env) fp) ifs (liftT X.K tA))
    (he : ∀ (s : Shared) (H : Hp) (C : Addr) (cl : List (Str × Addr)) (fp : List Addr), QE (X.blk s H scope (compEnvC scope cl C X.env) fp) e te) (hs : ∀ x, foldedSetIterable it X.env x = pure x) :
    QE X (.ListComp e [⟨tg, it, ifs, 0⟩] scope pos) (fun env S Q => ti env S fun xs G S1 => ∀ a, S1 a = none → G (put S1 a (.lst [])) ∧ lcRun a G (fun x S2 k => wpP p x S2 (wipeD env (own.map (·.2))) fun env2 => tA env2 S2 fun t S3 =>
      if t = true then te env2 S3 fun y S4 => k (some y) S4 else k none S3) (fun S' => Q (.ref a) S') xs [] (put S1 a (.lst []))) :=
  (pe_lc (own := own) hc hN hi ok hg ht he hs).weak fun σ H Q h => lc_read hp σ H Q h
theorem q_yes : PTs X [] (liftT X.K fun _ S Q => Q true S) := ⟨fun pins s σ H Q I ⟨env, S, Qd, re, so, h, l⟩ => pts_nil.run pins s σ H Q I (l true S H h .refl so)⟩
theorem q_fmt (he : QE X e te) : QE X (.FormattedValue e (-1) none pos) (fun env S Q => te env S fun x S1 => fmtD x fun z => Q (.str z) S1) :=
  (pe_fmt he).weak fun σ H Q ⟨env, S, Qd, re, so, h, l⟩ => ⟨env, S, _, re, so, h, fun x S1 v H1 h1 k1 r1 s1 => by
    cases x <;> try exact h1.elim
    case str z =>
      simp only [Rep] at r1
      exact .inl ⟨_, r1, by rw [str_len, szl]; exact h1.1, l _ S1 _ H1 h1.2 k1 .str s1⟩
    case int i =>
      simp only [Rep] at r1
      exact .inr ⟨i, r1, log2_1920 h1.1, l _ S1 _ H1 h1.2 k1 (by simp only [Rep]; rfl) s1⟩⟩
abbrev TJD := En → Sto → List Nat → (List Nat → Sto → Prop) → Prop
structure QJ (X : Cx) (es : List Expr) (t : TJD) : Prop where
  ex : ∃ ts, PJ X es ts ∧ ∀ (acc : List Nat) σ H (Q : Str → Hp → Prop), (∃ env S Qd, RelE X.K H env σ ∧ StoOk X.K H S ∧ t env S acc Qd ∧ ∀ x S' H', Qd x S' → Keep H H' → StoOk X.K H' S' → Q ⟨x.toArray⟩ H') → tJs ts ⟨acc.toArray⟩ σ H Q
theorem qj_nil : QJ X [] (fun _ S acc Q => Q acc S) := ⟨[], .nil, fun acc σ H Q ⟨env, S, Qd, re, so, h, l⟩ => l _ S H h .refl so⟩
theorem qj_cons {es : List Expr} {te : TD} {t : TJD} (he : QE X e (fun env S Q => te env S fun x S1 => fmtD x fun z => Q (.str z) S1)) (h : QJ X es t) :
    QJ X (e :: es) (fun env S acc Q => te env S fun x S1 => fmtD x fun z => acc.length + z.length ≤ 16777216 ∧ t env S1 (acc ++ z) Q) := by
  obtain ⟨ts, pj, rd⟩ := h.ex
  refine ⟨_, .cons he pj, fun acc σ H Q ⟨env, S, Qd, re, so, h, l⟩ => ?_⟩
  refine ⟨env, S, fun d S1 => ∃ z, d = .str z ∧ acc.length + z.length ≤ 16777216 ∧ t env S1 (acc ++ z) Qd, re, so, ?_, fun d S1 v H1 h1 k1 r1 s1 => ?_⟩
  · have e : (fun (x : D) (S1 : Sto) => fmtD x fun z => acc.length + z.length ≤ 16777216 ∧ t env S1 (acc ++ z) Qd) = fun x S1 => fmtD x fun z => ∃ z_1, D.str z = D.str z_1 ∧ acc.length + z_1.length ≤ 16777216 ∧ t env S1 (acc ++ z_1) Qd := by
      funext x S1
      have : (fun z => acc.length + z.length ≤ 16777216 ∧ t env S1 (acc ++ z) Qd) = fun z => ∃ z_1, D.str z = D.str z_1 ∧ acc.length + z_1.length ≤ 16777216 ∧ t env S1 (acc ++ z_1) Qd := by
        funext z
        exact propext ⟨fun h => ⟨z, rfl, h⟩, fun ⟨w, e, h⟩ => by cases e; exact h⟩
      rw [this]
    rw [e] at h
    exact h
  · obtain ⟨z, rfl, hz, h1⟩ := h1
    simp only [Rep] at r1
    refine ⟨_, r1, ?_, ?_⟩
    · rw [cps_app, str_len, List.length_append, szl]; exact hz
    · rw [cps_app]
      exact rd (acc ++ z) σ H1 Q ⟨env, S1, Qd, re.mono k1, s1, h1, fun x S' H' q k s => l x S' H' q (k1.trans k) s⟩
theorem q_fs {v1 v2 : Expr} {rest : List Expr} {t : TJD} (h : QJ X (v1 :: v2 :: rest) t) : QE X (.JoinedStr (v1 :: v2 :: rest) pos) (fun env S Q => t env S [] fun x S1 => Q (.str x) S1) := by
  obtain ⟨ts, pj, rd⟩ := h.ex
  exact (pe_joined pj).weak fun σ H Q ⟨env, S, Qd, re, so, h, l⟩ => rd [] σ H _ ⟨env, S, _, re, so, h, fun x S' H' q k s => l _ S' _ H' q k .str s⟩
end
end G57
set_option Elab.async false
set_option linter.all false
set_option maxRecDepth 100000
set_option maxHeartbeats 400000
namespace G57
open PySem L2 PySem.Spec PyProof.Rows
abbrev TSD := EndsD → En → Sto → Prop
def ExcAt (K : PySem.W.Frag) (c : Nat) (C : Addr) : Prop := PySem.W.nsIn K mainGlobals (excN c) = some (some (.ref C))
structure LvS (K : PySem.W.Frag) (W : WX) (H : Hp) (E : EndsD) (D' : Ends) : Prop where
  nx : ∀ env S σ H', E.nx env S → Keep H H' → RelE K H' env σ → StoOk K H' S → D'.nx σ H'
  bk : ∀ env S σ H', E.bk env S → Keep H H' → RelE K H' env σ → StoOk K H' S → D'.bk σ H'
  ct : ∀ env S σ H', E.ct env S → Keep H H' → RelE K H' env σ → StoOk K H' S → D'.ct σ H'
  rt : Lv K H E.rt D'.rt
  xc : ∀ c d S C dd v H' σ, E.xc c d S → Keep H H' → ExcAt K c C → H' dd = some (.xd [(excF c, v)]) → Rep K H' d v → StoOk K H' S → W (.ref C) (some dd) σ H'
theorem LvS.keep {K : PySem.W.Frag} {W : WX} {H H1 : Hp} {E : EndsD} {D' : Ends} (l : LvS K W H E D') (k : Keep H H1) : LvS K W H1 E D' :=
  ⟨fun env S σ H' h k' => l.nx env S σ H' h (k.trans k'), fun env S σ H' h k' => l.bk env S σ H' h (k.trans k'), fun env S σ H' h k' => l.ct env S σ H' h (k.trans k'), l.rt.keep k, fun c d S C dd v H' σ h k' => l.xc c d S C dd v H' σ h (k.trans k')⟩
def liftS (K : PySem.W.Frag) (W : WX) (t : TSD) : TS := fun D' σ H => ∃ env S E, RelE K H env σ ∧ StoOk K H S ∧ t E env S ∧ LvS K W H E D'
abbrev QS (X : Cx) (W : WX) (st : Stmt) (t : TSD) : Prop := PS X st (liftS X.K W t)
abbrev QSs (X : Cx) (W : WX) (st : List Stmt) (t : TSD) : Prop := PSs X st (liftS X.K W t)
theorem _root_.L2.PS.weak {X : Cx} {st : Stmt} {t t' : TS} (h : PS X st t) (w : ∀ D' σ H, t' D' σ H → t D' σ H) : PS X st t' := ⟨fun pins s σ H D' I q => h.run pins s σ H D' I (w D' σ H q)⟩
theorem _root_.L2.PSs.weak {X : Cx} {st : List Stmt} {t t' : TS} (h : PSs X st t) (w : ∀ D' σ H, t' D' σ H → t D' σ H) : PSs X st t' := ⟨fun pins s σ H D' I q => h.run pins s σ H D' I (w D' σ H q)⟩
section
variable {X : Cx} {W : WX} {pos : Pos} {tg it e c o i : Expr} {te to ti : TD} {tA : TBD} {tit : TID} {p : Pt} {st : Stmt} {a b body rest : List Stmt} {t u : TSD}
theorem asg_read {K : PySem.W.Frag} (D' : Ends) (σ : L2.St) (H : Hp) (h : liftS K W (fun E env S => te env S fun d S1 => wpP p d S1 env fun env' => E.nx env' S1) D' σ H) : tAsg (liftE K te) (liftG K p) D' σ H := by
  obtain ⟨env, S, E, re, so, h, l⟩ := h
  exact ⟨env, S, _, re, so, h, fun d S1 v H1 h1 k1 r1 s1 => ⟨d, env, S1, _, r1, re.mono k1, s1, h1, fun env' σ' h' re' _ => l.nx env' S1 σ' H1 h' k1 re' s1⟩⟩
theorem qs_asg (he : QE X e te) (hg : PG X tg (liftG X.K p)) (hs : swapsWithSole [tg] e pos.line X.env = pure false) (hw : swappedStores [tg] e X.env = pure none) (hone : (assignEach [tg] X.env).map (·.2) = [assign tg X.env]) :
    QS X W (.Assign [tg] e pos) (fun E env S => te env S fun d S1 => wpP p d S1 env fun env' => E.nx env' S1) :=
  (ps_asg he hg hs hw hone).weak fun D' σ H h => asg_read D' σ H h
theorem gName_of {K : PySem.W.Frag} {j : Nat} {v : V} {σ : L2.St} {H : Hp} {Q : L2.St → Hp → Prop} (h : liftG K (.v j) v σ H Q) : gName j v σ H Q := by
  obtain ⟨d, env, S, Qe, r, re, so, h, l⟩ := h
  exact l _ _ h (re.set r) fun vs hv => wipe_set (hv j (by simp [places]))
theorem qs_setLc {j : Nat} {y : Str} {py lpos : Pos} {ifs : List Expr} {scope : Scope} {own : List (Str × Nat)} (hc : X.calm = true) (hN : X.N.Nodup) (hy : X.N[j]? = some y) (hyl : X.env.scope.names.lookup y = some .local)
    (hsw : swapsWith (.ListComp e [⟨tg, it, ifs, 0⟩] scope lpos) (some (.Name y py)) pos.line X.env = pure true) (hi : QI X tg it tit) (ok : BlkOk X.N X.env.scope scope own) (hp : ∀ i ∈ places p, i ∈ own.map (·.2))
    (hg : ∀ (s : Shared) (H : Hp) (C : Addr) (cl : List (Str × Addr)) (fp : List Addr), PG (X.blk s H scope (compEnvC scope cl C X.env) fp) tg (liftG X.K p))
    (ht : ∀ (s : Shared) (H : Hp) (C : Addr) (cl : List (Str × Addr)) (fp : List Addr), PTs (X.blk s H scope (compEnvC scope cl C X.env) fp) ifs (liftT X.K tA))
    (he : ∀ (s : Shared) (H : Hp) (C : Addr) (cl : List (Str × Addr)) (fp : List Addr), QE (X.blk s H scope (compEnvC scope cl C X.env) fp) e te) (hs : ∀ x, foldedSetIterable it X.env x = pure x) :
    QS X W (.Assign [.Name y py] (.ListComp e [⟨tg, it, ifs, 0⟩] scope lpos) pos) (fun E env S => (tit env S fun xs G S1 => ∀ a, S1 a = none → G (put S1 a (.lst [])) ∧ lcRun a G (fun x S2 k => wpP p x S2 (wipeD env (own.map (·.2))) fun env2 => tA env2 S2 fun t S3 =>
      if t = true then te env2 S3 fun y S4 => k (some y) S4 else k none S3) (fun S' => wpP (.v j) (.ref a) S' env fun env' => E.nx env' S') xs [] (put S1 a (.lst [])))) :=
  (ps_setLc (own := own) hc hN hy hyl hsw hi ok hg ht he hs).weak fun D' σ H ⟨env, S, E, re, so, h, l⟩ =>
    lc_read hp σ H _ ⟨env, S, fun d S' => wpP (.v j) d S' env fun env' => E.nx env' S', re, so, h, fun d S1 v H1 h1 k1 r1 s1 =>
      gName_of ⟨d, env, S1, _, r1, re.mono k1, s1, h1, fun env' σ' h' re' _ => l.nx env' S1 σ' H1 h' k1 re' s1⟩⟩
theorem qs_setLc2 {j : Nat} {y : Str} {py lpos : Pos} {tg1 it1 : Expr} {tit1 : TID} {p1 : Pt} {scope : Scope} {own : List (Str × Nat)} {vs1 : List Nat} (hc : X.calm = true) (hN : X.N.Nodup) (hy : X.N[j]? = some y) (hyl : X.env.scope.names.lookup y = some .local)
    (hsw : swapsWith (.ListComp e [⟨tg, it, [], 0⟩, ⟨tg1, it1, [], 0⟩] scope lpos) (some (.Name y py)) pos.line X.env = pure true) (hi : QI X tg it tit) (ok : BlkOk X.N X.env.scope scope own) (hp : ∀ i ∈ places p, i ∈ own.map (·.2)) (hp1 : ∀ i ∈ places p1, i ∈ vs1) (hv : ∀ i ∈ vs1, i ∈ own.map (·.2))
    (hg : ∀ (s : Shared) (H : Hp) (C : Addr) (cl : List (Str × Addr)) (fp : List Addr), PG (X.blk s H scope (compEnvC scope cl C X.env) fp) tg (liftG X.K p))
    (hi1 : ∀ (s : Shared) (H : Hp) (C : Addr) (cl : List (Str × Addr)) (fp : List Addr), QI (X.blk s H scope (compEnvC scope cl C X.env) fp) tg1 it1 tit1)
    (hg1 : ∀ (s : Shared) (H : Hp) (C : Addr) (cl : List (Str × Addr)) (fp : List Addr), PG (X.blk s H scope (compEnvC scope cl C X.env) fp) tg1 (liftG X.K p1))
    (he : ∀ (s : Shared) (H : Hp) (C : Addr) (cl : List (Str × Addr)) (fp : List Addr), QE (X.blk s H scope (compEnvC scope cl C X.env) fp) e te) (hs : ∀ x, foldedSetIterable it X.env x = pure x) (hs1 : ∀ env x, foldedSetIterable it1 env x = pure x) :
    QS X W (.Assign [.Name y py] (.ListComp e [⟨tg, it, [], 0⟩, ⟨tg1, it1, [], 0⟩] scope lpos) pos) (fun E env S => tit env S fun xs G S1 => ∀ a, S1 a = none → G (put S1 a (.lst [])) ∧ lcRun2 G (fun x S2 N => wpP p x S2 (wipeD env (own.map (·.2))) fun env2 => tit1 env2 S2 fun ys G1 S3 => ∃ acc, S3 a = some (.lst acc) ∧
      lcRun a G1 (fun y S4 k => wpP p1 y S4 (wipeD env2 vs1) fun env3 => te env3 S4 fun z S5 => k (some z) S5) N ys acc S3) (fun S' => E.nx (env.set j (some (.ref a))) S') xs (put S1 a (.lst []))) :=
  (ps_setLc2 (own := own) hc hN hy hyl hsw hi ok hv hg (fun _ _ _ _ _ => q_yes) hi1 hg1 (fun _ _ _ _ _ => q_yes) he hs hs1).weak fun D' σ H ⟨env, S, E, re, so, h, l⟩ =>
    lc_read2 hp hp1 σ H _ ⟨env, S, fun d S' => wpP (.v j) d S' env fun env' => E.nx env' S', re, so, h, fun d S1 v H1 h1 k1 r1 s1 =>
      gName_of ⟨d, env, S1, _, r1, re.mono k1, s1, h1, fun env' σ' h' re' _ => l.nx env' S1 σ' H1 h' k1 re' s1⟩⟩
theorem setD_ok : PSet X (fun o i v H Q => ∃ x y d S, ∃ Qd : Sto → Prop, Rep X.K H x o ∧ Rep X.K H y i ∧ Rep X.K H d v ∧ StoOk X.K H S ∧ setD x y d S Qd ∧ ∀ S' H', Qd S' → Keep H H' → StoOk X.K H' S' → Q H') := by
  intro pins s σ H o i v ov iv u Q I r1 r2 r3 ⟨x, y, d, S, Qd, rx, ry, rd, so, h, l⟩
  cases x <;> cases y <;> try exact h.elim
  rename_i p k
  simp only [Rep] at rx ry
  obtain ⟨ds, j, e1, e2, h⟩ := h
  obtain ⟨vs, q, r⟩ := so p _ e1
  exact set_list pins s σ H o i v ov iv u Q I r1 r2 r3 ⟨p, vs, k, j, rx, ry, q, by rw [← r.length]; exact e2, l _ _ h (.lst q) (so.write q (r.set j rd))⟩
theorem qs_set {tpos : Pos} (he : QE X e te) (ho : QE X o to) (hi : QE X i ti) (hs : swapsWithSole [.Subscript o i tpos] e pos.line X.env = pure false) (hw : swappedStores [.Subscript o i tpos] e X.env = pure none)
    (ha : ∀ v, assign (.Subscript o i tpos) X.env v = (do
      let ov ← holding [v] (eval o X.env)
      let iv ← holding [v, ov] (eval i X.env)
      standAt tpos
      holding [v, ov, iv] (setItem ov iv v)
      release [v, ov, iv] [])) :
    QS X W (.Assign [.Subscript o i tpos] e pos) (fun E env S => te env S fun d S1 => to env S1 fun x S2 => ti env S2 fun y S3 => setD x y d S3 fun S4 => E.nx env S4) :=
  (ps_asg he (pg_sub ho hi setD_ok ha) hs hw).weak fun D' σ H ⟨env, S, E, re, so, h, l⟩ =>
    ⟨env, S, _, re, so, h, fun d S1 v H1 h1 k1 r1 s1 => ⟨env, S1, _, re.mono k1, s1, h1, fun x S2 u H2 h2 k2 r2 s2 => ⟨env, S2, _, re.mono (k1.trans k2), s2, h2, fun y S3 w H3 h3 k3 r3 s3 =>
      ⟨x, y, d, S3, _, r2.mono k3, r3, r1.mono (k2.trans k3), s3, h3, fun S4 H4 h4 k4 s4 => l.nx env S4 σ H4 h4 (k1.trans (k2.trans (k3.trans k4))) (re.mono (k1.trans (k2.trans (k3.trans k4)))) s4⟩⟩⟩⟩
theorem qs_expr (he : QE X e te) (hs : swapsWith e none pos.line X.env = pure false) : QS X W (.Expr e pos) (fun E env S => te env S fun _ S1 => E.nx env S1) :=
  (ps_expr he hs).weak fun D' σ H ⟨env, S, E, re, so, h, l⟩ => ⟨env, S, _, re, so, h, fun d S1 v H1 h1 k1 r1 s1 => l.nx env S1 σ H1 h1 k1 (re.mono k1) s1⟩
theorem qs_ret (he : QE X e te) : QS X W (.Return (some e) pos) (fun E env S => te env S E.rt) :=
  (ps_ret he).weak fun D' σ H ⟨env, S, E, re, so, h, l⟩ => ⟨env, S, _, re, so, h, l.rt⟩
theorem qs_if (hc : QT X c tA) (ha : QSs X W a t) (hb : QSs X W b u) : QS X W (.If c a b pos) (fun E env S => tA env S fun z S1 => if z = true then t E env S1 else u E env S1) :=
  (ps_if hc ha hb).weak fun D' σ H ⟨env, S, E, re, so, h, l⟩ => ⟨env, S, _, re, so, h, fun z S1 H1 h1 k1 s1 => by
    cases z with
    | true => exact ⟨env, S1, E, re.mono k1, s1, h1, l.keep k1⟩
    | false => exact ⟨env, S1, E, re.mono k1, s1, h1, l.keep k1⟩⟩
theorem qs_pass : QS X W (.Pass pos) (fun E env S => E.nx env S) := ps_pass.weak fun D' σ H ⟨env, S, E, re, so, h, l⟩ => l.nx env S σ H h .refl re so
theorem qs_break : QS X W (.Break pos) (fun E env S => E.bk env S) := ps_break.weak fun D' σ H ⟨env, S, E, re, so, h, l⟩ => l.bk env S σ H h .refl re so
theorem qs_cont : QS X W (.Continue pos) (fun E env S => E.ct env S) := ps_continue.weak fun D' σ H ⟨env, S, E, re, so, h, l⟩ => l.ct env S σ H h .refl re so
theorem qss_nil : QSs X W [] (fun E env S => E.nx env S) := pss_nil.weak fun D' σ H ⟨env, S, E, re, so, h, l⟩ => l.nx env S σ H h .refl re so
theorem qss_cons (h1 : QS X W st t) (h2 : QSs X W rest u) : QSs X W (st :: rest) (fun E env S => t { E with nx := fun env' S' => u E env' S' } env S) :=
  (pss_cons h1 h2).weak fun D' σ H ⟨env, S, E, re, so, h, l⟩ => ⟨env, S, _, re, so, h, fun env' S' σ' H' h' k' re' s' => ⟨env', S', E, re', s', h', l.keep k'⟩, l.bk, l.ct, l.rt, l.xc⟩
theorem qs_for (hx : PassesOwn (model X.prog X.w) X.A X.env X.xe) (hc : X.calm = true) (hi : QI X tg it tit) (hg : PG X tg (liftG X.K p)) (hb : QSs X W body t) (hs : ∀ x, foldedSetIterable it X.env x = pure x) :
    QS X W (.For tg it body [] pos) (fun E env S => tit env S fun xs G S1 => forRun G (fun x env1 S2 N => wpP p x S2 env1 fun env2 => t { nx := N, ct := N, bk := E.nx, rt := E.rt, xc := E.xc } env2 S2) E.nx xs env S1) :=
  (ps_for hx hc hi hg hb hs).weak fun D' σ H ⟨env, S, E, re, so, h, l⟩ => by
    refine ⟨env, S, _, re, so, h, fun xs G S1 J H1 h1 k1 s1 g1 dr => ?_⟩
    generalize hbd : (fun (x : D) (env1 : En) (S2 : Sto) (N : En → Sto → Prop) => wpP p x S2 env1 fun env2 => t { nx := N, ct := N, bk := E.nx, rt := E.rt, xc := E.xc } env2 S2) = bd at h1
    refine ⟨fun i m σ2 H2 => m = xs.length - i ∧ i ≤ xs.length ∧ ∃ env2 S2, Keep H1 H2 ∧ RelE X.K H2 env2 σ2 ∧ StoOk X.K H2 S2 ∧ G S2 ∧ forRun G bd E.nx (xs.drop i) env2 S2,
      ⟨xs.length, by simp, Nat.zero_le _, env, S1, .refl, re.mono k1, s1, g1, by rw [List.drop_zero]; exact h1⟩, ?_⟩
    rintro i m σ2 H2 ⟨rfl, hi2, env2, S2, k2, re2, s2, g2, run⟩
    by_cases hlt : i < xs.length
    · refine .inr ?_
      have ex : xs[i]? = some xs[i] := List.getElem?_eq_getElem hlt
      obtain ⟨go, yl⟩ := (dr H2 S2 i k2 s2 g2).1 _ ex
      rw [List.drop_eq_getElem_cons hlt] at run
      refine ⟨go, fun σ3 H3 => ∃ env3 S3, Keep H1 H3 ∧ RelE X.K H3 env3 σ3 ∧ StoOk X.K H3 S3 ∧ G S3 ∧ forRun G bd E.nx (xs.drop (i + 1)) env3 S3,
        fun σ3 H3 ⟨env3, S3, z⟩ => ⟨xs.length - (i + 1), by omega, rfl, by omega, env3, S3, z⟩, fun v H3 y => ?_⟩
      obtain ⟨k3, s3, rv⟩ := yl v H3 y
      simp only [forRun] at run
      rw [← hbd] at run
      have kk := k2.trans k3
      refine ⟨xs[i], env2, S2, _, rv, re2.mono k3, s3, run, fun env3 σ3 h3 re3 _ => ⟨env3, S2, _, re3, s3, h3, ?_, ?_, ?_, l.rt.keep (k1.trans kk), (l.keep (k1.trans kk)).xc⟩⟩
      · exact fun env4 S4 σ4 H4 h4 k4 re4 s4 => ⟨env4, S4, kk.trans k4, re4, s4, h4.1, by rw [← hbd]; exact h4.2⟩
      · exact fun env4 S4 σ4 H4 h4 k4 re4 s4 => l.nx env4 S4 σ4 H4 h4 (k1.trans (kk.trans k4)) re4 s4
      · exact fun env4 S4 σ4 H4 h4 k4 re4 s4 => ⟨env4, S4, kk.trans k4, re4, s4, h4.1, by rw [← hbd]; exact h4.2⟩
    · refine .inl ⟨(dr H2 S2 i k2 s2 g2).2 (by omega), ?_⟩
      rw [List.drop_of_length_le (by omega)] at run
      exact l.nx env2 S2 σ2 H2 run (k1.trans k2) re2 s2
theorem qs_while (hx : PassesOwn (model X.prog X.w) X.A X.env X.xe) (hc : QT X c tA) (hb : QSs X W body t) :
    QS X W (.While c body [] pos) (fun E env S => ∃ n, whRun tA (fun env1 S1 N => t { nx := N, ct := N, bk := E.nx, rt := E.rt, xc := E.xc } env1 S1) E.nx n env S) :=
  (ps_while hx hc hb).weak fun D' σ H ⟨env, S, E, re, so, ⟨n, h⟩, l⟩ => by
    generalize hbd : (fun (env1 : En) (S1 : Sto) (N : En → Sto → Prop) => t { nx := N, ct := N, bk := E.nx, rt := E.rt, xc := E.xc } env1 S1) = bd at h
    refine ⟨fun m σ2 H2 => ∃ env2 S2, Keep H H2 ∧ RelE X.K H2 env2 σ2 ∧ StoOk X.K H2 S2 ∧ whRun tA bd E.nx m env2 S2, ⟨n, env, S, .refl, re, so, h⟩, ?_⟩
    rintro m σ2 H2 ⟨env2, S2, k2, re2, s2, run⟩
    cases m with
    | zero => exact run.elim
    | succ m =>
      simp only [whRun] at run
      refine ⟨env2, S2, _, re2, s2, run, fun z S3 H3 h3 k3 s3 => ?_⟩
      have kk := k2.trans k3
      cases z with
      | false =>
        simp only [Bool.false_eq_true, if_false] at h3 ⊢
        exact l.nx env2 S3 σ2 H3 h3 kk (re2.mono k3) s3
      | true =>
        simp only [if_true] at h3 ⊢
        refine ⟨fun σ4 H4 => ∃ env4 S4, Keep H H4 ∧ RelE X.K H4 env4 σ4 ∧ StoOk X.K H4 S4 ∧ whRun tA bd E.nx m env4 S4, fun σ4 H4 z => ⟨m, Nat.lt_succ_self _, z⟩, ?_⟩
        rw [← hbd] at h3
        refine ⟨env2, S3, _, re2.mono k3, s3, h3, ?_, ?_, ?_, l.rt.keep kk, (l.keep kk).xc⟩
        · exact fun env4 S4 σ4 H4 h4 k4 re4 s4 => ⟨env4, S4, kk.trans k4, re4, s4, by rw [← hbd]; exact h4⟩
        · exact fun env4 S4 σ4 H4 h4 k4 re4 s4 => l.nx env4 S4 σ4 H4 h4 (kk.trans k4) re4 s4
        · exact fun env4 S4 σ4 H4 h4 k4 re4 s4 => ⟨env4, S4, kk.trans k4, re4, s4, by rw [← hbd]; exact h4⟩
theorem qs_par {j k : Nat} {x y : Str} {ea eb : Expr} {ta tb : TD} {px py pt pt2 : Pos} {kt k2 : Nat} (hc : X.calm = true) (hN : X.N.Nodup) (hi : X.N[j]? = some x) (hj : X.N[k]? = some y) (hij : j ≠ k)
    (hx : X.env.scope.names.lookup x = some .local) (hy : X.env.scope.names.lookup y = some .local) (ha : QA X [ea, eb] (fun env S Q => ta env S fun v S1 => tb env S1 fun w S2 => Q [v, w] S2))
    (hw : swappedStores [.Tuple [.Name x px, .Name y py] kt pt] (.Tuple [ea, eb] k2 pt2) X.env = pure (some [x, y])) (hs : swapsWithSole [.Tuple [.Name x px, .Name y py] kt pt] (.Tuple [ea, eb] k2 pt2) pos.line X.env = pure false) :
    QS X W (.Assign [.Tuple [.Name x px, .Name y py] kt pt] (.Tuple [ea, eb] k2 pt2) pos) (fun E env S => ta env S fun v S1 => tb env S1 fun w S2 => E.nx ((env.set j (some v)).set k (some w)) S2) :=
  (ps_par hc hN hi hj hij hx hy ha hw hs).weak fun D' σ H ⟨env, S, E, re, so, h, l⟩ => ⟨env, S, on2 fun v w S2 => E.nx ((env.set j (some v)).set k (some w)) S2, re, so, h, fun ds S1 vs H1 h1 k1 r1 s1 => by
    obtain ⟨v, w, rfl, z1⟩ := on2_inv h1
    simp only [Reps] at r1
    obtain ⟨u, _, rfl, ru, u2, _, rfl, ru2, rfl⟩ := r1
    exact ⟨u, u2, rfl, l.nx _ S1 _ H1 z1 k1 (((re.mono k1).set ru).set ru2) s1⟩⟩
def on3 (f : D → D → D → Sto → Prop) : List D → Sto → Prop
  | [x, y, z], S => f x y z S
  | _, _ => False
theorem on3_inv {f : D → D → D → Sto → Prop} {ds : List D} {S : Sto} (h : on3 f ds S) : ∃ x y z, ds = [x, y, z] ∧ f x y z S := by
  unfold on3 at h
  split at h
  · exact ⟨_, _, _, rfl, h⟩
  · exact h.elim
theorem qs_par3 {j k m : Nat} {x y z : Str} {ea eb ec : Expr} {ta tb tc : TD} {px py pz pt pt2 : Pos} {kt k2 : Nat} (hc : X.calm = true) (hN : X.N.Nodup) (hi : X.N[j]? = some x) (hj : X.N[k]? = some y) (hl : X.N[m]? = some z) (hij : j ≠ k) (hil : j ≠ m) (hjl : k ≠ m)
    (hx : X.env.scope.names.lookup x = some .local) (hy : X.env.scope.names.lookup y = some .local) (hz : X.env.scope.names.lookup z = some .local) (ha : QA X [ea, eb, ec] (fun env S Q => ta env S fun v S1 => tb env S1 fun w S2 => tc env S2 fun w' S3 => Q [v, w, w'] S3))
    (hw : swappedStores [.Tuple [.Name x px, .Name y py, .Name z pz] kt pt] (.Tuple [ea, eb, ec] k2 pt2) X.env = pure (some [x, y, z])) (hs : swapsWithSole [.Tuple [.Name x px, .Name y py, .Name z pz] kt pt] (.Tuple [ea, eb, ec] k2 pt2) pos.line X.env = pure false) :
    QS X W (.Assign [.Tuple [.Name x px, .Name y py, .Name z pz] kt pt] (.Tuple [ea, eb, ec] k2 pt2) pos) (fun E env S => ta env S fun v S1 => tb env S1 fun w S2 => tc env S2 fun w' S3 => E.nx (((env.set j (some v)).set k (some w)).set m (some w')) S3) :=
  (ps_par3 hc hN hi hj hl hij hil hjl hx hy hz ha hw hs).weak fun D' σ H ⟨env, S, E, re, so, h, l⟩ => ⟨env, S, on3 fun v w w' S2 => E.nx (((env.set j (some v)).set k (some w)).set m (some w')) S2, re, so, h, fun ds S1 vs H1 h1 k1 r1 s1 => by
    obtain ⟨v, w, w', rfl, z1⟩ := on3_inv h1
    simp only [Reps] at r1
    obtain ⟨u, _, rfl, ru, u2, _, rfl, ru2, u3, _, rfl, ru3, rfl⟩ := r1
    exact ⟨u, u2, u3, rfl, l.nx _ S1 _ H1 z1 k1 ((((re.mono k1).set ru).set ru2).set ru3) s1⟩⟩
end
end G57
set_option Elab.async false
set_option linter.all false
set_option maxRecDepth 100000
set_option maxHeartbeats 2000000
namespace G57
open PySem L2 PySem.Spec PyProof.Rows PySem.W PySem.Calls
def excBody : List Stmt → Option Str
  | [.Expr (.Call (.Attribute (.Call (.Name sp _) [] [] _) ini ap) [.Name x _] [] cp) _, .Assign [.Attribute (.Name self _) f _] (.Name x2 _) _] =>
    if decide (sp = "super") && decide (ini = "__init__") && decide (self = "self") && decide (x2 = x) && decide (f = x) && (ap.endLine == cp.line) then some f else none
  | _ => none
theorem excBody_inv {b : List Stmt} {f : Str} (h : excBody b = some f) : ∃ p0 p1 ap p2 cp p3 p4 p5 p6 p7, (ap.endLine == cp.line) = true ∧
    b = [.Expr (.Call (.Attribute (.Call (.Name "super" p0) [] [] p1) "__init__" ap) [.Name f p2] [] cp) p3, .Assign [.Attribute (.Name "self" p4) f p5] (.Name f p6) p7] := by
  unfold excBody at h
  split at h
  · split at h
    · rename_i hc
      cases h
      simp only [Bool.and_eq_true, decide_eq_true_eq] at hc
      obtain ⟨⟨⟨⟨⟨rfl, rfl⟩, rfl⟩, rfl⟩, rfl⟩, hc⟩ := hc
      exact ⟨_, _, _, _, _, _, _, _, _, _, hc, rfl⟩
    · cases h
  · cases h
abbrev iniSc (f : Str) : Scope := { kind := .function, names := [("self", .local), (f, .local), ("__class__", .free), ("super", .globalImplicit)], isGenerator := false, isCoroutine := false, more := [] }
structure ExcI (K : Frag) (mf : Str) (C : Addr) (f : Str) : Prop where
  ox : OexC K C
  xf : XfC K C
  no : findIn K (.ref C) f = some none
  ve : subIn K (.ref C) (.type "ValueError") = some true
  cc : mroIn K C (.ref C) = some true
  sup : nsIn K mainGlobals "super" = some none
  opq : nsIn K cStatics "thirdparty.any" = some none
  ini : ks_superIn K C C "__init__" = some (some (.builtin "ValueError.__init__"))
  cl : findIn K (.ref C) "__class__" = some (some (.builtin "object.__class__"))
  mo : mroIn K C (.type "object") = some true
  cn : specialIn K (.builtin "object.__class__") "__get__" = some (some (.builtin "getset_descriptor.__get__"))
  ct : takesIn K (.builtin "object.__class__") = some true
  fn : ∃ fI cc cda params body scope kV doc pm ct an oc od osl ccl cdd vs ccs file tf cl cld csl sp lp, findIn K (.ref C) "__init__" = some (some (.ref fI)) ∧ typeIn K (.ref fI) = some (.type "function") ∧
    K.lookup fI = some ⟨oc, od, .func (ksFn "__init__" sp params body scope .none kV doc pm an (.ref cda) ct cc), osl⟩ ∧ codeIn K (.ref cda) sp = true ∧ K.lookup cda = some ⟨ccl, cdd, .fields vs, ccs⟩ ∧ vs[2]? = some (.str file tf) ∧ ((mf : Str) == file) = true ∧
    K.lookup cc = some ⟨cl, cld, .cell (some (.ref C)), csl⟩ ∧ excBody body = some f ∧ f ≠ "self" ∧ f ≠ "super" ∧ f ≠ "__class__" ∧ f ≠ "__debug__" ∧ (params.posonlyargs ++ params.args).head? = some lp ∧ lp.arg = "self" ∧
    (∀ (s : Shared) (u v : Value), BindsTo s (ksFn "__init__" sp params body scope .none kV doc pm an (.ref cda) ct cc) ⟨[u, v], []⟩ [("self", u), (f, v)]) ∧
    scope = iniSc f
theorem typ_sup : bootBuiltins "super" = some (.type "super") := by kernel_rfl
section
variable {prog : Program} {w : World} {A : Around} {R : Result → Shared → Prop} {K : Frag} {mg : Str → Option Value} {C : Addr} {f : Str}
theorem init_run {h base : Heap} {u : Value} {fI : Addr} {g : Array GenState} {d : Drawn} {t : Nat} {os : OsState} (I : ExcI K prog.main.file C f) (hI : findIn K (.ref C) "__init__" = some (some (.ref fI))) (htop : (prog.main.scope.names.lookup ("super" : Str)).isSome = false) (M : Mod K mg base) (kb : ∀ b o, base.get? b = some o → h.get? b = some o) (hh : handedIn u = true) (room : A.depth < recursionLimit)
    (hq : ∀ h' t' dx t1, (∀ b o, h.get? b = some o → h'.get? b = some o) → h.objs.size ≤ dx → dx ≠ h.objs.size + 1 → h'.get? (h.objs.size + 1) = some { cls := .ref C, dict := some dx, data := .fields #[.ref t1, .none, .none, .none, .bool false, .none] } →
      h'.Ns1 dx (fun y => if y = f then some u else none) → R (.ok (.ret .none)) ⟨h', g, d, t', os⟩) :
    codeAny (model prog w) A (.call (.ref fI) ⟨[.ref (h.objs.size + 1), u], []⟩) R ⟨(h.push (kdv_tup [u])).push (HandSPX.excO C h.objs.size), g, d, t, os⟩ := by
  obtain ⟨fI', cc, cda, params, body, scope, kV, doc, pm, ct, an, oc, od, osl, ccl, cdd, vs, ccs, file, tf, cl, cld, csl, sp, lp, e1, e2, e3, e4, e5, e6, e7, e8, e9, n1, n2, n3, n4, e10, e11, e12, e13⟩ := I.fn
  have eI : fI' = fI := by
    have z := e1.symm.trans hI
    injection z with z; injection z with z; injection z
  subst eI
  obtain ⟨p0, p1, ap, p2, cp, p3, p4, p5, p6, p7, hap, hbody⟩ := excBody_inv e9
  subst hbody
  subst e13
  obtain ⟨nm, q, N, bs, bm, sn, sub, ab, col, dd, k0, k1, k2, k3, k5, hC, hbm⟩ := I.ox.cls
  have KB : K.In base := M.kin
  have kh : ∀ b o, h.get? b = some o → ((h.push (kdv_tup [u])).push (HandSPX.excO C h.objs.size)).get? b = some o := fun b o e => Heap.get?_push_of_some _ (Heap.get?_push_of_some _ e)
  have k1' : ∀ b o, base.get? b = some o → ((h.push (kdv_tup [u])).push (HandSPX.excO C h.objs.size)).get? b = some o := fun b o e => kh b o (kb b o e)
  have hx0 : ((h.push (kdv_tup [u])).push (HandSPX.excO C h.objs.size)).get? (h.objs.size + 1) = some (HandSPX.excO C h.objs.size) := by heap_get
  have xnew : ∀ b o, h.get? b = some o → b ≠ h.objs.size + 1 := fun b o e => Nat.ne_of_lt (Nat.lt_succ_of_lt (Heap.lt_size e))
  generalize hxe : h.objs.size + 1 = x at *
  generalize hh1 : (h.push (kdv_tup [u])).push (HandSPX.excO C h.objs.size) = h1 at *
  have K1 : K.In h1 := KB.keeps k1'
  obtain ⟨mb, nb, bb⟩ := M.blt
  have ns3 : ("self" : Str) ≠ f := Ne.symm n1
  refine ks_codeAny_call_defAt (binds := [("self", .ref x), (f, u)]) room (K1 _ _ e3) rfl (M.nolimit.keeps k1') (codeRec_of K1 e4) rfl (e12 _ _ _) ?_ ?_ (fun h2 hns hk => ?_) rfl rfl rfl
  · intro y hy
    simp only [List.mem_cons, List.not_mem_nil, or_false] at hy
    rcases hy with rfl | rfl | rfl | rfl <;> (intro z; cases z)
  · intro y hy
    simp only [List.mem_cons, List.not_mem_nil, or_false] at hy
    rcases hy with rfl | rfl
    · rfl
    · have e : (f == ("self" : Str)) = false := by simpa using n1
      simp [List.lookup, e]
  have ls : [(("self" : Str), NameKind.local), (f, .local), ("__class__", .free), ("super", .globalImplicit)].lookup ("self" : Str) = some .local := rfl
  have lf : [(("self" : Str), NameKind.local), (f, .local), ("__class__", .free), ("super", .globalImplicit)].lookup f = some .local := by
    have e : (f == ("self" : Str)) = false := by simpa using n1
    simp [List.lookup, e]
  have lc : [(("self" : Str), NameKind.local), (f, .local), ("__class__", .free), ("super", .globalImplicit)].lookup ("__class__" : Str) = some .free := by
    have e : (("__class__" : Str) == f) = false := by simpa using Ne.symm n3
    have e0 : (("__class__" : Str) == ("self" : Str)) = false := by decide
    simp [List.lookup, e, e0]
  have lu : [(("self" : Str), NameKind.local), (f, .local), ("__class__", .free), ("super", .globalImplicit)].lookup ("super" : Str) = some .globalImplicit := by
    have e : (("super" : Str) == f) = false := by simpa using Ne.symm n2
    have e0 : (("super" : Str) == ("self" : Str)) = false := by decide
    have e1 : (("super" : Str) == ("__class__" : Str)) = false := by decide
    simp [List.lookup, e, e0, e1]
  have hk2 : ∀ b o, h.get? b = some o → h2.get? b = some o := fun b o e => hk b o (kh b o e)
  have kb2 : ∀ b o, base.get? b = some o → h2.get? b = some o := fun b o e => hk2 b o (kb b o e)
  have K2 : K.In h2 := KB.keeps kb2
  have hx2 : h2.get? x = some (HandSPX.excO C h.objs.size) := hk _ _ hx0
  have IA : InstAt h2 x (HandSPX.excO C h.objs.size) C none := ⟨hx2, rfl, rfl, trivial⟩
  have hcl : clsIn K C = some { name := nm, bases := bs, mro := .ref C :: bm, ns := N, qualname := q, hasDict := true, slotNames := sn, subclasses := sub, abstract := ab, collection := col, hasDel := false } := by unfold clsIn; rw [hC] <;> rfl
  have mself : ([("self", .ref x), (f, u)] : List (Str × Value)).reverse.lookup ("self" : Str) = some (.ref x) := by
    have e : (("self" : Str) == f) = false := by simpa using Ne.symm n1
    simp [List.lookup, e]
  have mf : ([("self", .ref x), (f, u)] : List (Str × Value)).reverse.lookup f = some u := by
    simp []
  have hsz : h1.objs.size = x + 1 := by rw [← hh1, ← hxe]; simp [Heap.size_push]
  generalize hmb : (fun y => ([("self", .ref x), (f, u)] : List (Str × Value)).reverse.lookup y) = mL at hns
  have mself' : mL ("self" : Str) = some (.ref x) := by rw [← hmb]; exact mself
  have mf' : mL f = some u := by rw [← hmb]; exact mf
  clear mself mf
  generalize hL : h1.objs.size = L at *
  show _root_.PySem.wpAt (model prog w) (A.deeper (ksEnv sp (iniSc f) L fI' (.ref cda) cc)) (.func _ (ksEnv sp (iniSc f) L fI' (.ref cda) cc)) (execs _ (ksEnv sp (iniSc f) L fI' (.ref cda) cc)) _ _ _
  refine ks_wpAt_execs_cons (ks_wpAt_Expr_any (ks_wpAt_MethodCall (pl := (do return (← importBound (.Call (.Name "super" p0) [] [] p1) (ksEnv sp (iniSc f) L fI' (.ref cda) cc)).getD true)) ?_ ?_))
  · refine ks_wpAt_super_base (env := ksEnv sp (iniSc f) L fI' (.ref cda) cc) lu lc (by decide) rfl (K2 _ _ e3) rfl e10 rfl (K2 _ _ e5) rfl e6 e7 htop ?_
    refine ks_loadName_global (env := ksEnv sp (iniSc f) L fI' (.ref cda) cc) rfl lu (loadGlobal_builtin (env := ksEnv sp (iniSc f) L fI' (.ref cda) cc) (M.glob.keeps kb2) (mg_none_of KB M.glob I.sup) (nb.keeps kb2) ((bb _ (by decide +kernel)).trans typ_sup) ⟨rfl, ?_⟩)
    refine wpAny_loadName_free (env := ksEnv sp (iniSc f) L fI' (.ref cda) cc) rfl lc rfl ⟨_, K2 _ _ e8, rfl⟩ ?_
    rw [e11]
    refine wpAny_loadName_local (env := ksEnv sp (iniSc f) L fI' (.ref cda) cc) rfl ls hns mself' ?_
    refine ks_wpAny_isType_cls (K2 _ _ hC) rfl ⟨rfl, ?_⟩
    refine ks_wpAny_call_super (K2 _ _ hC) rfl hx2 rfl (fun c e => by cases e) (looks_mroIn K2 I.cc) (fun h3 hso hk3 => ?_)
    have K3 : K.In h3 := K2.keeps hk3
    have I3 : InstAt h3 x (HandSPX.excO C h.objs.size) C none := ⟨hk3 _ _ hx2, rfl, rfl, trivial⟩
    have hB : Looks (model prog w) h3 (isInstance (.ref x) (.type "ValueError")) true := I3.type.andThen (looks_subIn K3 I.ve)
    have hin := I.ini
    unfold ks_superIn at hin
    rw [hcl] at hin
    refine kxs_getMethod kxs_ValueError hso (looks_opaque K3 I.opq) (l₀ := .ref C :: bm) (fun A Q E s k q => wpAny_bind ((looks_clsIn K3 hcl) A _ E s k (wpAny_pure q))) rfl K3 hin hB (ks_ne K3 I3 hcl) (by decide) ?_
    refine kxs_callWith (i := "ValueError.__init__") (x := x) rfl ?_
    have hns3 : h3.Ns L mL := hns.keeps hk3
    have hu : (h3.push (kxs_mw "ValueError.__init__" x)).get? h3.objs.size = some (kxs_mw "ValueError.__init__" x) := Heap.get?_push_at rfl rfl
    have k4 : ∀ b o, h3.get? b = some o → (h3.push (kxs_mw "ValueError.__init__" x)).get? b = some o := fun b o e => Heap.get?_push_of_some _ e
    have hx4 := k4 _ _ (hk3 _ _ hx2)
    have hns4 := hns3.keeps k4
    have K4 : K.In (h3.push (kxs_mw "ValueError.__init__" x)) := K3.keeps k4
    have hk5 : ∀ b o, h2.get? b = some o → (h3.push (kxs_mw "ValueError.__init__" x)).get? b = some o := fun b o e => k4 b o (hk3 b o e)
    generalize h3.push (kxs_mw "ValueError.__init__" x) = h4 at *
    generalize h3.objs.size = so at *
    refine evalArgs_plain (Calls.spliced_cons (PySem.ESX.ldL (env := ksEnv sp (iniSc f) L fI' (.ref cda) cc) hns4 mf' ?_ rfl lf (by simpa using n4)))
    refine Calls.spliced_nil ⟨hu, ?_⟩
    refine wpAny_call (codeAny_of_tree ?_)
    show wpAny _ _ (callAny (.ref so) ⟨[u], []⟩) _ _ _
    simp only [callAny]
    refine wpAny_bind (wpAny_load hu ?_)
    simp only [show (Value.type "method-wrapper" == Value.type "method" || Value.type "method-wrapper" == Value.type "builtin_function_or_method" || Value.type "method-wrapper" == Value.type "method-wrapper") = true by decide, if_true]
    refine KFB.if_so (by decide) ?_
    refine wpAny_bind (check_bound_init PySem.F.excBase_ValueError.toExcCallFacts (K4 _ _ hC) hx4 rfl ?_)
    refine wpAny_bind (wpAny_pure (wpAny_pure ?_))
    refine ⟨plainId_quiet PySem.F.excBase_ValueError.init.plain _, codeAny_builtin PySem.F.excBase_ValueError.initEntry ?_⟩
    refine exc_init_tree (cls := .ref C) (t0 := h.objs.size) (dv := none) (c2 := .none) (c3 := .none) (b4 := .bool false) hx4 (by rw [sizeLine_eq]; show 1 ≤ _; decide) fun h5 kx hx5 _ => ?_
    have xL : x ≠ L := by omega
    have hns5 : h5.Ns L mL := by
      obtain ⟨o, es, ep, e, r⟩ := hns4
      exact ⟨o, es, ep, kx L o (Ne.symm xL) e, r⟩
    have kb5 : ∀ b o, h.get? b = some o → h5.get? b = some o := fun b o e => kx b o (xnew b o e) (hk5 b o (hk2 b o e))
    have K5 : K.In h5 := KB.keeps fun b o e => kb5 b o (kb b o e)
    have size5 : h.objs.size ≤ h5.objs.size := Nat.le_of_lt (Nat.lt_of_le_of_lt (Nat.le_of_lt (Nat.lt_of_lt_of_le (Nat.lt_succ_self _) (Nat.le_of_eq hxe))) (Heap.lt_size hx5))
    show _root_.PySem.wpAt _ _ _ (execs _ _) _ _ _
    refine ks_wpAt_execs_cons (wpAt_of_wpAny (plainObj_wpAny_Assign_Attribute ?_ rfl))
    refine PySem.ESX.ldL (env := ksEnv sp (iniSc f) L fI' (.ref cda) cc) hns5 mf' ?_ rfl lf (by simpa using n4)
    refine PySem.ESX.ldL (env := ksEnv sp (iniSc f) L fI' (.ref cda) cc) hns5 mself' ?_ rfl ls (by decide)
    refine set_plain K5 (ox := { cls := .ref C, dict := none, data := .fields #[.ref h4.objs.size, .none, .none, .none, .bool false, .none] }) (od := none) ⟨hx5, rfl, rfl, trivial⟩ I.ox.sa ?_
    refine HandSPX.exc_osa K5 hx5 hcl (show HandSPX.refsVE (.ref C :: bm) = true from hbm) rfl I.no fun h' tk' dx k dn dne hx hn => ?_
    show _root_.PySem.wpAt _ _ _ (execs [] _) _ _ _
    refine wpAt_of_wpAny (wpAny_execs_nil ?_)
    exact hq h' tk' dx _ (fun b o e => k b o (xnew b o e) (kb5 b o e)) (Nat.le_trans size5 dn) dne hx hn
  · rw [arm_eval_Call]
    unfold methodCall calleeOf methodCallPos
    simp only [hap, if_true, Bool.or_true]
    rfl
end
end G57
set_option Elab.async false
set_option linter.all false
set_option maxRecDepth 100000
set_option maxHeartbeats 2000000
namespace G57
open PySem L2 PySem.Spec PyProof.Rows PySem.W PySem.Calls
section
variable {X : Cx} {pos p : Pos} {e : Expr} {te : TE} {C : Addr} {f x : Str}
theorem pmk_exc (I0 : ExcI X.K X.prog.main.file C f) (htop : (X.prog.main.scope.names.lookup ("super" : Str)).isSome = false) {k : Nat} (hr : Room (k + 1) X.A) (hg : Gl X x) (hm : X.mg x = some (.ref C)) (hdb : (x == ("__debug__" : Str)) = false) (hs : starEach [e] X.env = [(false, eval e X.env)]) (he : PE X e te) :
    PMk X (.Call (.Name x p) [e] [] pos) (fun σ H Q => te σ H fun v H1 => ∃ w, [v] = [w] ∧ ∀ dx, H1 dx = none → Q (.ref C) (some dx) (upd H1 dx (.xd [(f, w)]))) := by
  intro pins s σ H Q I h
  have T := I0.ox
  obtain ⟨nm, q, N, bs, bm, sn, sub, ab, col, dd, k0, k1, k2, k3, k5, hC, hbm⟩ := T.cls
  have iC := I0.fn
  obtain ⟨fI, cc, cda, params, body, scope, kV, doc, pm, ct, an, oc, od, osl, ccl, cdd, vs, ccs, file, tf, cl, cld, csl, sp, lp, e1, e2, _⟩ := iC
  refine wpAny_Call_Name_kw (ld_glob I hg hm ?_ hdb)
  refine PySem.W.callWith_K (h₀ := X.base) I.ok.mod.kin T.kC (thn ((pa_cons he pa_nil hs).run pos pins s σ H (fun vs H1 => ∃ v, vs = [v] ∧ ∀ dx, H1 dx = none → Q (.ref C) (some dx) (upd H1 dx (.xd [(f, v)]))) I h) fun us s1 ⟨vs, H1, I1, r1, v, ev, q1⟩ => ⟨I1.kIn, ?_⟩) (by rw [hs]; rfl) rfl
  subst ev
  obtain ⟨u, rfl, ra⟩ : ∃ u, us = [u] ∧ RelV v u := by
    cases r1 with
    | cons ra rr => cases rr; exact ⟨_, rfl, ra⟩
  show wpAny _ _ (call (.ref C) [u]) _ _ _
  obtain ⟨hp, g, dr, tk, os⟩ := s1
  have kb : ∀ b o, X.base.get? b = some o → hp.get? b = some o := fun b o z => (I1.bs b o z).1
  refine wpAny_call (PySem.HandSPX.call_own PySem.F.excBase_ValueError (fun Y => PySem.HandSPX.refsVE_contains Y bm hbm) (I1.kIn _ _ hC) (PySem.W.looks_findIn I1.kIn e1) (fun self => PySem.W.bind_fn I1.kIn self e2) (by rw [sizeLine_eq]; show 1 ≤ _; decide)
    (init_run I0 e1 htop I1.ok.mod kb (handed_of ra) (hr.make C [u] []).depth fun h' t' dx t1 k dn dne hx hn => ?_))
  show _ ∧ _
  refine ⟨rfl, ?_⟩
  have hd : H1 dx = none := I1.hok.fresh dn
  obtain ⟨G, g1, g2⟩ := restrict h' fun b => (hp.get? b).isSome || decide (b = dx)
  have gk : ∀ b o, hp.get? b = some o → G.get? b = some o := fun b o z => by
    rw [g1 b (by simp [z])]
    exact k b o z
  have gn : G.Ns1 dx (fun y => if y = f then some u else none) := by
    obtain ⟨o, es, ep, e', r⟩ := hn
    exact ⟨o, es, ep, (g1 dx (by simp)).trans e', r⟩
  have xn : hp.get? (hp.objs.size + 1) = none := by
    cases z : hp.get? (hp.objs.size + 1) with
    | none => rfl
    | some o => exact absurd (Heap.lt_size z) (Nat.not_lt.mpr (Nat.le_succ _))
  have J : Inv X pins σ (upd H1 dx (.xd [(f, v)])) ⟨G, g, dr, t', os⟩ := I1.laid (t' := t') (h' := G) (a := dx) gk dn ⟨_, gn, fun y => relO_put (fs := []) (mA := fun _ => none) ra (fun _ => True.intro) y⟩
  refine ⟨hp.objs.size + 1, _, _, ⟨G, g, dr, t', os⟩, _, .ref C, some dx, rfl, J, fun b o z => ?_, ?_, hx, ⟨rfl, rfl⟩, rfl, rfl, ?_, rfl, I1.bare, raises_own T.exC T.tyC, q1 dx hd⟩
  · have z' : G.get? b = some o := z
    cases q : ((hp.get? b).isSome || decide (b = dx)) with
    | false => rw [g2 b q] at z'; cases z'
    | true => exact (g1 b q).symm.trans z'
  · exact g2 _ (by simp [xn, Ne.symm dne])
  · rw [upd_ne (Ne.symm dne)]
    exact I1.hok.fresh (Nat.le_succ _)
end
end G57
set_option Elab.async false
set_option linter.all false
set_option maxRecDepth 100000
set_option maxHeartbeats 1000000
namespace G57
open PySem L2 PySem.Spec PyProof.Rows
def excIx (x : Str) : Option Nat := if x = "TooLong" then some 0 else if x = "Unused" then some 1 else if x = "NoPlace" then some 2 else if x = "NoMove" then some 3 else if x = "NoLetter" then some 4 else if x = "BadText" then some 5 else none
structure FnX (P : Program) (w : World) (K : PySem.W.Frag) (mg : Str → Option Value) (base : Heap) (k : Nat) (f : Addr) (fd : FuncData) (ps : List Str) (sp : Sp) : Prop where
  len : ∀ vs H Q E, sp vs H Q E → vs.length = ps.length
  run : ∀ (A : Around) (outer : List Env) (s : Shared) (H : Hp) (args : Args) (us : List Value) (vs : List V) (Q : VK) (E : XK), Room k A → A.guards = some [] →
    Env0 P w K mg base A outer s H → BindsTo s fd args (ps.zip us) → Vals vs us → sp vs H Q E →
    codeAny (model P w) A (.call (.ref f) args) (CR (L2.CX P w) outer P w H s Q E) s
theorem FnX.mono {P : Program} {w : World} {K : PySem.W.Frag} {mg : Str → Option Value} {base : Heap} {j k : Nat} {f : Addr} {fd : FuncData} {ps : List Str} {sp : Sp} (F : FnX P w K mg base j f fd ps sp) (h : j ≤ k) : FnX P w K mg base k f fd ps sp :=
  ⟨F.len, fun A outer s H args us vs Q E hr => F.run A outer s H args us vs Q E (hr.mono h)⟩
def LvX (K : PySem.W.Frag) (H : Hp) (Qd : DK) (E : XK) : Prop := ∀ c d S' C dd v H', Qd (.obj (c + 2) d) S' → Keep H H' → ExcAt K c C → H' dd = some (.xd [(excF c, v)]) → Rep K H' d v → StoOk K H' S' → E (.ref C) (some dd) H'
def liftSpX (K : PySem.W.Frag) (n : Nat) (sp : Spec) : Sp := fun vs H Q E => vs.length = n ∧ ∃ ds S Qd, Reps K H ds vs ∧ StoOk K H S ∧ sp ds S Qd ∧ Lv K H Qd Q ∧ LvX K H Qd E
theorem LvX.keep {K : PySem.W.Frag} {H H1 : Hp} {Qd : DK} {E : XK} (l : LvX K H Qd E) (k : Keep H H1) : LvX K H1 Qd E := fun c d S' C dd v H' q k' => l c d S' C dd v H' q (k.trans k')
structure ExK (P : Program) (K : PySem.W.Frag) (mg : Str → Option Value) (c : Nat) (C CE : Addr) : Prop where
  i : ExcI K P.main.file C (excF c)
  at_ : ExcAt K c C
  mg_ : mg (excN c) = some (.ref C)
  top : (P.main.scope.names.lookup ("super" : Str)).isSome = false
  kit : PySem.W.kitOne K (.ref C) (.type "ValueError") = some true
  exm0 : PySem.W.exmOne K (.ref C) (.ref C) = some true
  ce : mg "CountError" = some (.ref CE)
  exm : PySem.W.exmOne K (.ref C) (.ref CE) = some true
theorem excAt_uni {K : PySem.W.Frag} {c : Nat} {C D : Addr} (h : ExcAt K c C) (g : ExcAt K c D) : C = D := by
  have e := h.symm.trans g
  injection e with e
  injection e with e
  injection e
section
variable {X : Cx} {W : WX}
theorem run_x {pins : List (Addr × Obj)} {σ : L2.St} {H : Hp} {s : Shared} {k : Nat} {f : Addr} {fd : FuncData} {ps : List Str} {sp : Sp} {us : List Value} {vs : List V} {Q : VK} {E : XK} (F : FnX X.prog X.w X.K X.mg X.base k f fd ps sp) (hr : Room k X.A) (hg : X.A.guards = some [])
    (hb : Binds X.K fd ps []) (I : Inv X pins σ H s) (tk : Takes X W) (r : Vals vs us) (h : sp vs H Q E) (hE : ∀ cls d H', E cls d H' → W cls d σ H') : wpAny (model X.prog X.w) X.A (call (.ref f) us) (EP X pins σ Q) X.xe s := by
  have hl : us.length = ps.length := by rw [← r.length]; exact F.len _ _ _ _ h
  have hbb := hb s us I.kIn (by rw [List.append_nil]; exact hl)
  rw [List.append_nil] at hbb
  refine wpAny_call (codeAny_mono (F.run X.A X.stack s H ⟨us, []⟩ us vs Q E hr hg I.env0 hbb r h) fun r s' hq => ?_)
  match r, hq with
  | .error e, hq => exact tk e s' (XE.of_call I hE hq)
  | .ok (.ret u), hq => exact I.after hq
  | .ok .next, hq => exact hq.elim
  | .ok .brk, hq => exact hq.elim
  | .ok .cont, hq => exact hq.elim
end
end G57
set_option Elab.async false
set_option linter.all false
set_option maxRecDepth 100000
set_option maxHeartbeats 1000000
namespace G57
open PySem L2 PySem.Spec PyProof.Rows
section
variable {X : Cx} {a C : Addr} {oe : Obj} {pn : List (Addr × Obj)} {dd : Addr} {c ei : Nat} {en : Str}
theorem isFld {cls : Value} {d : Option Addr} (hz : Zc cls d oe) (hf : ∃ vs, oe.data = .fields vs) : PySem.W.notCls oe := by
  obtain ⟨vs, h⟩ := hf
  unfold PySem.W.notCls
  rw [h]
theorem call_isX {T : Value} {V : V} {CE : Addr} (K1 : ExK X.prog X.K X.mg c C CE) (hz : Zc (.ref C) (some dd) oe) (hf : ∃ vs, oe.data = .fields vs) (hV : ∀ u, RelV V u → u = T) (hk : PySem.W.kitOne X.K (.ref C) T = some true) :
    CallR (X.suite a ((a, oe) :: pn)) (.builtin "isinstance") (fun xs H Q => xs = [.ref a, V] ∧ (∃ fs, H dd = some (.xd fs)) ∧ Q (.bl true) H) := by
  intro pins s σ H xs us Q I r h
  obtain ⟨rfl, ⟨fs, ea⟩, q⟩ := h
  cases r with
  | cons rx rr =>
    cases rr with
    | cons rt rr =>
      cases rr
      cases rx
      have ec := hV _ rt
      subst ec
      obtain ⟨ha, _⟩ := I.pin (a, oe) (List.mem_append.mpr (.inl List.mem_cons_self))
      have hx : ObjOk X.prog X.w H s.heap dd (.xd fs) := I.hok dd _ ea
      obtain ⟨mA, hns, hr⟩ := hx
      obtain ⟨od, ho, hl⟩ := lookIn_ns hns
      have J : PySem.W.InstAt s.heap a oe C (some od) := ⟨ha, hz.1, isFld hz hf, by rw [hz.2]; exact ho⟩
      have hcl : (PySem.W.clsIn X.K C).isSome = true := by
        obtain ⟨cdD, hcD, _⟩ := PySem.W.any_some K1.i.xf.hdC
        rw [hcD]; rfl
      exact PySem.W.kia_one (PySem.W.kitx_exc hcl K1.i.xf.ga K1.i.xf.gg K1.i.xf.exC K1.i.cl K1.i.cn K1.i.ct K1.i.mo) I.kIn J hk (fun z => nomatch z) fun tk => ⟨.bl true, H, I.kept (t' := tk) fun _ _ z => z, rfl, q⟩
def tHx (ei : Nat) (a dd : Addr) (f : Str) (wr : Bool) : TE := fun σ H Q => σ[ei]? = some (some (.ref a)) ∧ ∃ fs v, H dd = some (.xd fs) ∧ fs.lookup f = some v ∧ (wr = false → Q v H) ∧ (wr = true → ∀ p, H p = none → Q (.ref p) (upd H p (.lst [v])))
def hxA (en f : Str) : Expr → Option Bool
  | .Attribute (.Name n _) g _ => if decide (n = en) && decide (g = f) then some false else none
  | .List [.Attribute (.Name n _) g _] _ => if decide (n = en) && decide (g = f) then some true else none
  | _ => none
def hxT (en x : Str) : Expr → Bool
  | .BoolOp .And [.Call (.Name i1 _) [.Name e1 _, .Name x1 _] [] _, .Call (.Name i2 _) [.Name e2 _, .Name x2 _] [] _] _ => decide (i1 = "isinstance") && decide (i2 = "isinstance") && decide (e1 = en) && decide (e2 = en) && decide (x1 = x) && decide (x2 = "ValueError")
  | _ => false
def hxE (en x f : Str) : Expr → Option Bool
  | .IfExp t b _ _ => if hxT en x t then hxA en f b else none
  | e => hxA en f e
variable {CE : Addr} (K1 : ExK X.prog X.K X.mg c C CE) (hz : Zc (.ref C) (some dd) oe) (hf : ∃ vs, oe.data = .fields vs) (hi : X.N[ei]? = some en) (hv : Vis X.env.scope en) (hd : (en == ("__debug__" : Str)) = false) (hcd : (en == ("__classdict__" : Str)) = false)
include K1 hz hf hi hv hd hcd
theorem pe_en {pos : Pos} : PE (X.suite a ((a, oe) :: pn)) (.Name en pos) (tVar ei) := pe_var (X := X.suite a ((a, oe) :: pn)) hi hv hd hcd
theorem pe_hxA {e : Expr} {wr : Bool} (h : hxA en (excF c) e = some wr) : PE (X.suite a ((a, oe) :: pn)) e (tHx ei a dd (excF c) wr) := by
  have att : ∀ {p pos : Pos}, PE (X.suite a ((a, oe) :: pn)) (.Attribute (.Name en p) (excF c) pos) (tHx ei a dd (excF c) false) := fun {p pos} =>
    (pe_xf (X := X) K1.i.xf K1.i.no hz hf (pe_en (X := X) (a := a) (oe := oe) (pn := pn) K1 hz hf hi hv hd hcd) rfl).weak fun σ H Q ⟨e1, fs, v, e2, e3, q, _⟩ => ⟨.ref a, e1, rfl, rfl, dd, fs, v, rfl, e2, e3, q rfl⟩
  unfold hxA at h
  split at h
  · split at h
    · rename_i hc
      cases h
      simp only [Bool.and_eq_true, decide_eq_true_eq] at hc
      obtain ⟨rfl, rfl⟩ := hc
      exact att
    · cases h
  · split at h
    · rename_i hc
      cases h
      simp only [Bool.and_eq_true, decide_eq_true_eq] at hc
      obtain ⟨rfl, rfl⟩ := hc
      refine (pe_lst (pa_cons att pa_nil rfl)).weak fun σ H Q ⟨e1, fs, v, e2, e3, _, q⟩ => ⟨e1, fs, v, e2, e3, fun _ => ⟨by rw [sizeLine_eq]; show 1 ≤ _; decide, fun p hp => q rfl p hp⟩, fun z => by cases z⟩
    · cases h
  · cases h
theorem pt_hxT {t : Expr} (h : hxT en (excN c) t = true) (hgi : Gl X "isinstance") (hmi : X.mg "isinstance" = none) (hgx : Gl X (excN c)) (hgv : Gl X "ValueError") (hmv : X.mg "ValueError" = none) :
    PT (X.suite a ((a, oe) :: pn)) t (fun σ H Q => σ[ei]? = some (some (.ref a)) ∧ (∃ fs, H dd = some (.xd fs)) ∧ Q true H) := by
  unfold hxT at h
  split at h
  · simp only [Bool.and_eq_true, decide_eq_true_eq] at h
    obtain ⟨⟨⟨⟨⟨rfl, rfl⟩, rfl⟩, rfl⟩, rfl⟩, rfl⟩ := h
    have hdx : (excN c == ("__debug__" : Str)) = false := by
      unfold excN; split <;> decide
    have en1 := fun {p : Pos} => pe_en (X := X) (a := a) (oe := oe) (pn := pn) (pos := p) K1 hz hf hi hv hd hcd
    have c1 := fun {p1 p2 p3 p4 : Pos} => pe_callB (X := X.suite a ((a, oe) :: pn)) (p := p1) (pos := p2) (call_isX (T := .ref C) (V := .ref C) K1 hz hf (fun u r => r) (by
      unfold PySem.W.kitOne; rw [if_pos (by simp)])) hgi hmi (by kernel_rfl) (pa_cons (en1 (p := p3)) (pa_cons (pe_glob (X := X.suite a ((a, oe) :: pn)) (pos := p4) (v := .ref C) hgx K1.mg_ rfl hdx) pa_nil rfl) rfl) (by decide) (by decide) rfl rfl
    have c2 := fun {p1 p2 p3 p4 : Pos} => pe_callB (X := X.suite a ((a, oe) :: pn)) (p := p1) (pos := p2) (call_isX (T := .type "ValueError") (V := .ty "ValueError") K1 hz hf (fun u r => r) K1.kit) hgi hmi (by kernel_rfl) (pa_cons (en1 (p := p3)) (pa_cons (pe_bltn (X := X.suite a ((a, oe) :: pn)) (pos := p4) (v := .ty "ValueError") hgv hmv PyProof.Rows.Boot.«ValueError» rfl (by decide) (by decide)) pa_nil rfl) rfl) (by decide) (by decide) rfl rfl
    refine ((pw_and (pt_val c1) (pw_and1 (pt_val c2))).pt).weak fun σ H Q ⟨e1, ⟨fs, e2⟩, q⟩ => ?_
    refine ⟨.ref a, e1, rfl, ⟨fs, e2⟩, true, rfl, ?_⟩
    show if true = true then _ else _
    rw [if_pos rfl]
    exact ⟨.ref a, e1, rfl, ⟨fs, e2⟩, true, rfl, q⟩
  · cases h
theorem pe_hxE {e : Expr} {wr : Bool} (h : hxE en (excN c) (excF c) e = some wr) (hG : (∃ t b o p, e = .IfExp t b o p) → Gl X "isinstance" ∧ X.mg "isinstance" = none ∧ Gl X (excN c) ∧ Gl X "ValueError" ∧ X.mg "ValueError" = none) : PE (X.suite a ((a, oe) :: pn)) e (tHx ei a dd (excF c) wr) := by
  cases e with
  | IfExp t b o p =>
    obtain ⟨g1, g2, g3, g4, g5⟩ := hG ⟨_, _, _, _, rfl⟩
    have h' : (if hxT en (excN c) t then hxA en (excF c) b else none) = some wr := h
    split at h'
    · rename_i ht
      refine (pe_ifExp (pt_hxT (a := a) (oe := oe) (pn := pn) K1 hz hf hi hv hd hcd ht g1 g2 g3 g4 g5) (pe_hxA (a := a) (oe := oe) (pn := pn) K1 hz hf hi hv hd hcd h') (tb := fun _ _ _ => False) ⟨fun _ _ _ _ _ _ z => z.elim⟩).weak fun σ H Q q => ?_
      obtain ⟨e1, fs, v, e2, r⟩ := q
      refine ⟨e1, ⟨fs, e2⟩, ?_⟩
      show if true = true then _ else _
      rw [if_pos rfl]
      exact ⟨e1, fs, v, e2, r⟩
    · cases h'
  | _ => exact pe_hxA (a := a) (oe := oe) (pn := pn) K1 hz hf hi hv hd hcd h
end
def LvW (K : PySem.W.Frag) (W : WX) (σ : L2.St) (H : Hp) (Qd : DK) : Prop := ∀ c d S' C dd v H', Qd (.obj (c + 2) d) S' → Keep H H' → ExcAt K c C → H' dd = some (.xd [(excF c, v)]) → Rep K H' d v → StoOk K H' S' → W (.ref C) (some dd) σ H'
def liftX (K : PySem.W.Frag) (W : WX) (t : TD) : TE := fun σ H Q => ∃ env S Qd, RelE K H env σ ∧ StoOk K H S ∧ t env S Qd ∧ Lv K H Qd Q ∧ LvW K W σ H Qd
theorem Rep.noExc {K : PySem.W.Frag} {H : Hp} {d : D} {v : V} (r : Rep K H d v) : excV d = none := by
  unfold excV
  split
  · obtain ⟨_, _, _, _, _, hc, _⟩ := r.obj_inv
    exact absurd hc.1 (by omega)
  · rfl
inductive SuiteOk (X : Cx) (C : Addr) (c ei : Nat) : List Stmt → Sx → Prop where
  | ret {e : Expr} {p : Pos} {wr : Bool} (h : ∀ a oe dd pn, Zc (.ref C) (some dd) oe → (∃ vs, oe.data = .fields vs) → PE (X.suite a ((a, oe) :: pn)) e (tHx ei a dd (excF c) wr)) : SuiteOk X C c ei [.Return (some e) p] (.cons (.ret (if wr = true then .lst (.cons (.var ei) .nil) else .var ei)) .nil)
  | asg {e : Expr} {p p2 : Pos} {y : Str} {j : Nat} (h : ∀ a oe dd pn, Zc (.ref C) (some dd) oe → (∃ vs, oe.data = .fields vs) → PE (X.suite a ((a, oe) :: pn)) e (tHx ei a dd (excF c) false)) (hy : X.N[j]? = some y) (hN : X.N.Nodup) (hl : Loc X.env.scope y) (hfn : X.fn y = true ∨ X.env.scope.names.lookup y = some .local) (hne : j ≠ ei)
      (hs : swapsWithSole [.Name y p2] e p.line X.env = pure false) (hw : swappedStores [.Name y p2] e X.env = pure none) : SuiteOk X C c ei [.Assign [.Name y p2] e p] (.cons (.asg (.v j) (.var ei)) .nil)
end G57
set_option Elab.async false
set_option linter.all false
set_option maxRecDepth 100000
set_option maxHeartbeats 1000000
namespace G57
open PySem L2 PySem.Spec PyProof.Rows
section
variable {X : Cx} {W : WX} {C CE : Addr} {c ei : Nat} {en hn : Str} {cv : Value} {np pos pos' : Pos} {st0 : Stmt} {suite : List Stmt} {h : Sx} {Φ : Tab} {callE : Expr} {tcall : DK → TD} {r : Bool}
inductive BodyOk (callE : Expr) : Bool → Stmt → Prop where
  | ret {p : Pos} : BodyOk callE true (.Return (some callE) p)
  | ex {p : Pos} (hc : ∀ env, swapsWith callE none p.line env = pure false) : BodyOk callE false (.Expr callE p)
theorem RelE.non {K : PySem.W.Frag} {H : Hp} {env : En} {σ : L2.St} (h : RelE K H env σ) (i : Nat) (y : Option V) : RelE K H (env.set i none) (σ.set i y) := by
  refine ⟨by simp [h.1], fun j d q => ?_⟩
  by_cases hj : i = j
  · subst hj
    by_cases hi : i < env.length
    · rw [List.getElem?_set_self hi] at q; cases q
    · rw [List.getElem?_eq_none (by simpa using hi)] at q; cases q
  · rw [List.getElem?_set_ne hj] at q ⊢
    exact h.2 j d q
theorem set3 {α : Type} {l : List α} {i j : Nat} {x y z : α} (h : j ≠ i) : ((l.set i x).set j y).set i z = (l.set j y).set i z := by
  rw [List.set_comm _ _ (Ne.symm h), List.set_set]
def tSu (K : PySem.W.Frag) (Φ : Tab) (c ei : Nat) (h : Sx) (a dd : Addr) : TS := fun D' σ H => ∃ (σ0 : L2.St) (env : En) (S : Sto) (E : EndsD) (d : D) (v : V) (fs : List (Str × V)), σ = σ0.set ei (some (.ref a)) ∧ ei < σ0.length ∧ RelE K H env σ0 ∧ H dd = some (.xd fs) ∧ fs.lookup (excF c) = some v ∧ Rep K H d v ∧ StoOk K H S ∧
  wpS Φ h { nx := fun env' S' => E.nx (env'.set ei none) S', rt := E.rt } (env.set ei (some d)) S ∧ (∀ env S σ' H', E.nx env S → Keep H H' → RelE K H' env (σ'.set ei none) → StoOk K H' S → D'.nx σ' H') ∧ Lv K H E.rt D'.rt
theorem suite_snd (hb : SuiteOk X C c ei suite h) {a : Addr} {oe : Obj} {dd : Addr} {pn : List (Addr × Obj)} (hz : Zc (.ref C) (some dd) oe) (hf : ∃ vs, oe.data = .fields vs) :
    PSs (X.suite a ((a, oe) :: pn)) suite (tSu X.K Φ c ei h a dd) := by
  cases hb with
  | ret h1 =>
    rename_i e p wr
    refine (pss_one (ps_ret (h1 a oe dd pn hz hf))).weak ?_
    rintro D' σ H ⟨σ0, env, S, E, d, v, fs, rfl, hlt, re, e2, e3, rd, so, hw, _, l⟩
    have e4 : (env.set ei (some d))[ei]? = some (some d) := List.getElem?_set_self (by rw [re.1]; exact hlt)
    refine ⟨List.getElem?_set_self hlt, fs, v, e2, e3, fun hwr => ?_, fun hwr p hp => ?_⟩
    · subst hwr
      simp only [wpS, wpE, Bool.false_eq_true, if_false] at hw
      obtain ⟨d', e5, hw⟩ := hw
      rw [e4] at e5
      cases e5
      exact l d S v H hw .refl rd so
    · subst hwr
      simp only [wpS, wpE, wpA, if_true] at hw
      obtain ⟨d', e5, _, hw⟩ := hw
      rw [e4] at e5
      cases e5
      exact l.lst so hw (.cons rd .nil) p hp
  | asg h1 hy hN hl hfn hne hs hw0 =>
    rename_i e p p2 y j
    refine (pss_one (ps_asg (X := X.suite a ((a, oe) :: pn)) (h1 a oe dd pn hz hf) (pg_name (X := X.suite a ((a, oe) :: pn)) hN hy hl hfn) hs hw0)).weak ?_
    rintro D' σ H ⟨σ0, env, S, E, d, v, fs, rfl, hlt, re, e2, e3, rd, so, hw, n, _⟩
    have e4 : (env.set ei (some d))[ei]? = some (some d) := List.getElem?_set_self (by rw [re.1]; exact hlt)
    refine ⟨List.getElem?_set_self hlt, fs, v, e2, e3, fun _ => ?_, fun z => by cases z⟩
    simp only [wpS, wpE, wpP] at hw
    obtain ⟨d', e5, hw⟩ := hw
    rw [e4] at e5
    cases e5
    refine n _ S _ H hw .refl ?_ so
    rw [set3 hne, set3 hne]
    exact (re.set rd).non ei _
theorem qs_tryx {b0 : Stmt} {sx : Spec} {fi fx : Nat} {m : Bool} {as : Ex} {sp : Spec} (hs : X.stack = X.env :: X.outer) (hfr : X.env.frame = some X.env.locals) (hN : X.N.Nodup) (hi : X.N[ei]? = some en) (hln : X.env.kindOf en = some .local) (hcv : Names X hn cv) (tk : Takes X W)
    (K1 : ExK X.prog X.K X.mg c C CE) (hex : PySem.W.exmOne X.K (.ref C) cv = some true)
    (hc : ∀ (W' : WX) (pn : List (Addr × Obj)) (xe : Value → Shared → Prop), Takes (X.tr pn xe) W' → PassesOwn (model X.prog X.w) X.A X.env xe → PE (X.tr pn xe) callE (liftX X.K W' (fun env S Q => wpArgs Φ m as env S fun ds S1 => sp ds S1 Q)))
    (hb : BodyOk callE r st0) (hsu : SuiteOk X C c ei (b0 :: suite) h) (hf : Φ fi = some sp) (hfx : Φ fx = some sx) :
    QS X W (.Try [st0] [.ExceptHandler (some (.Name hn np)) (some en) (b0 :: suite) pos'] [] [] pos) (wpS Φ (.tryx fi fx m as r ei c h)) := by
  refine (ps_try_as (ts := fun a cls d => fun D' σ H => ∃ dd, cls = .ref C ∧ d = some dd ∧ tSu X.K Φ c ei h a dd D' σ H) (Wout := W) (tb := fun W' D' σ H => liftX X.K W' (fun env S Q => wpArgs Φ m as env S fun ds S1 => sp ds S1 Q) σ H (fun v H' => if r = true then D'.rt v H' else D'.nx σ H')) hs hfr hN hi hln hcv tk (fun W' pn xe tk' hp => ?_) (fun a oe cls d pn hz hf => ?_)).weak ?_
  · cases hb with
    | ret => exact pss_one ((ps_ret (hc W' pn xe tk' hp)).weak fun D' σ H z => by simp only [if_true] at z; exact z)
    | ex hsw => exact pss_one ((ps_expr (hc W' pn xe tk' hp) (hsw _)).weak fun D' σ H z => by simp only [Bool.false_eq_true, if_false] at z; exact z)
  · refine ⟨fun pins s σ H D' I z => ?_⟩
    obtain ⟨dd, rfl, rfl, z⟩ := z
    exact (suite_snd hsu hz hf).run pins s σ H D' I z
  · rintro D' σ H ⟨env, S, E, re, so, hw, l⟩
    simp only [wpS] at hw
    obtain ⟨sp', sx', e1, e2, hlt, hw⟩ := hw
    rw [hf] at e1
    cases e1
    refine ⟨env, S, _, re, so, hw, fun d S' v H' h1 k1 r1 s1 => ?_, fun c' d S' C' dd v H' h1 k1 x1 xd r1 s1 => ?_⟩
    · dsimp only at h1
      rw [r1.noExc] at h1
      dsimp only at h1
      split
      · rename_i hr
        rw [if_pos hr] at h1
        exact l.rt d S' v H' h1 k1 r1 s1
      · rename_i hr
        rw [if_neg hr] at h1
        exact l.nx env S' σ H' h1 k1 (re.mono k1) s1
    · simp only [excV] at h1
      obtain ⟨rfl, h1⟩ := h1
      obtain rfl := excAt_uni x1 K1.at_
      refine ⟨true, hex, fun _ a ha => ⟨dd, rfl, rfl, σ, env, S', E, d, v, _, rfl, ?_, re.mono k1, xd, by simp [List.lookup], r1, s1, h1, fun env2 S2 σ2 H2 n2 k2 re2 s2 => l.nx env2 S2 _ H2 n2 (k1.trans k2) re2 s2, ?_⟩, fun z => by cases z⟩
      · rw [← re.1]; exact hlt
      · exact l.rt.keep k1
end
end G57
set_option Elab.async false
set_option linter.all false
set_option maxRecDepth 100000
set_option maxHeartbeats 1000000
namespace G57
open PySem L2 PySem.Spec PyProof.Rows
structure LC (K : PySem.W.Frag) (CL C : Addr) : Prop where
  cl : Cls K C
  na : NoAttr K C "runs"
  ki : PySem.W.kitOne K (.ref C) (.ref CL) = some true
  ca : PySem.W.findIn K (.ref C) "__class__" = some (some (.builtin "object.__class__"))
  cm : PySem.W.mroIn K C (.type "object") = some true
  mr : (PySem.W.clsIn K C).any (fun cd => cd.mro.head? == some (.ref C)) = true
  ra : NoAttr K C "__radd__"
  gt : PySem.W.findIn K (.ref C) "__gt__" = some (some (.builtin "object.__gt__"))
  ge : PySem.W.findIn K (.ref C) "__ge__" = some (some (.builtin "object.__ge__"))
  ne : PySem.W.findIn K (.ref C) "__ne__" = some (some (.builtin "object.__ne__"))
  sn : PySem.W.subIn K (.type "NoneType") (.ref C) = some false
  sb : PySem.W.subIn K (.type "bool") (.ref C) = some false
  si : PySem.W.subIn K (.type "int") (.ref C) = some false
  ss : PySem.W.subIn K (.type "str") (.ref C) = some false
  st : PySem.W.subIn K (.type "tuple") (.ref C) = some false
structure LongK (K : PySem.W.Frag) (CL CP : Addr) : Prop where
  a0 : ClsAt K 0 CL
  a1 : ClsAt K 1 CP
  l0 : LC K CL CL
  l1 : LC K CL CP
  cn : PySem.W.specialIn K (.builtin "object.__class__") "__get__" = some (some (.builtin "getset_descriptor.__get__"))
  ct : PySem.W.takesIn K (.builtin "object.__class__") = some true
  s10 : PySem.W.subIn K (.ref CP) (.ref CL) = some true
  s01 : PySem.W.subIn K (.ref CL) (.ref CP) = some false
  kn : PySem.W.kitOne K (.type "NoneType") (.ref CL) = some false
  kb : PySem.W.kitOne K (.type "bool") (.ref CL) = some false
  kI : PySem.W.kitOne K (.type "int") (.ref CL) = some false
  ks : PySem.W.kitOne K (.type "str") (.ref CL) = some false
  kt : PySem.W.kitOne K (.type "tuple") (.ref CL) = some false
  tp : PySem.W.typeIn K (.ref CP) = some (.type "type")
  op : PySem.W.nsIn K cStatics "thirdparty.any" = some none
  np : (PySem.W.clsIn K CP).any (fun cd => cd.name == ("Piece" : Str)) = true
theorem clsAt_uni {K : PySem.W.Frag} {c : Nat} {C D : Addr} (h : ClsAt K c C) (g : ClsAt K c D) : C = D := by
  have e := h.2.symm.trans g.2
  injection e with e
  injection e with e
  injection e
theorem LongK.lc {K : PySem.W.Frag} {CL CP C : Addr} {c : Nat} (L : LongK K CL CP) (h : ClsAt K c C) : LC K CL C ∧ (C = CL ∨ C = CP) := by
  have e : ClsAt K c C → C = CL ∨ C = CP := fun h => by
    cases c with
    | zero => exact .inl (clsAt_uni h L.a0)
    | succ n =>
      obtain rfl : n = 0 := by have := h.1; omega
      exact .inr (clsAt_uni (c := 1) h L.a1)
  rcases e h with rfl | rfl
  · exact ⟨L.l0, .inl rfl⟩
  · exact ⟨L.l1, .inr rfl⟩
def initSp (K : PySem.W.Frag) (C : Addr) (c n : Nat) (sp : Spec) : Sp := fun vs H Q _ => vs.length = n ∧ ∃ a dx us ds S, ∃ Qd : DK, vs = .ref a :: us ∧ H a = some (.ins C dx []) ∧ Reps K H ds us ∧ StoOk K H S ∧ sp ds S Qd ∧
  ∀ d S' u H', Qd (.obj c d) S' → Keep H H' → Rep K H' d u → StoOk K H' S' → Q .non (upd H' a (.ins C dx [("runs", u)]))
inductive Cal (P : Program) (w : World) (K : PySem.W.Frag) (mg : Str → Option Value) (base : Heap) (k : Nat) (x : Str) (sp : Spec) : Prop where
  | fn (hx : dotted x = false ∧ x ≠ "Long" ∧ banged x = false) (ex : ∃ a fd ps, mg x = some (.ref a) ∧ PySem.W.keepIn K (.ref a) = true ∧ Binds K fd ps [] ∧ FnG P w K mg base k a fd ps (liftSp K ps.length sp) ∧ ∀ ds S Q, sp ds S Q → ds.length = ps.length)
  | mk (hx : dotted x = false ∧ banged x = false) (ex : ∃ CL CP C c f fd ps j, j + 1 ≤ k ∧ LongK K CL CP ∧ (x = "Long" → C = CL) ∧ mg x = some (.ref C) ∧ ClsAt K c C ∧ Mk K C f ∧ Binds K fd ps [] ∧ FnG P w K mg base j f fd ps (initSp K C c ps.length sp) ∧ ∀ ds S Q, sp ds S Q → ds.length + 1 = ps.length)
  | me (m : Str) (hx : x = dotN m) (hm : m ≠ "size" ∧ m ≠ "runs") (ex : ∃ CL CP f fd ps j, j + 1 ≤ k ∧ LongK K CL CP ∧ Meth K CL m f ∧ Meth K CP m f ∧ Binds K fd ps [] ∧ FnG P w K mg base j f fd ps (liftSp K ps.length sp) ∧ ∀ ds S Q, sp ds S Q → ds.length = ps.length)
  | pr (hx : x = dotN "size") (ex : ∃ CL CP p g fd ps j, j + 1 ≤ k ∧ LongK K CL CP ∧ PropOf K CL "size" p g ∧ PropOf K CP "size" p g ∧ Binds K fd ps [] ∧ FnG P w K mg base j g fd ps (liftSp K ps.length sp) ∧ ∀ ds S Q, sp ds S Q → ds.length = ps.length)
  | fx (y : Str) (hx : x = bangN y) (hy : dotted y = false ∧ excIx y = none) (ex : ∃ a fd ps, mg y = some (.ref a) ∧ PySem.W.keepIn K (.ref a) = true ∧ Binds K fd ps [] ∧ FnX P w K mg base k a fd ps (liftSpX K ps.length sp) ∧ ∀ ds S Q, sp ds S Q → ds.length = ps.length)
  | mx (m : Str) (hx : x = bangN (dotN m)) (hm : m ≠ "runs") (ex : ∃ CL CP f fd ps j, j + 1 ≤ k ∧ LongK K CL CP ∧ Meth K CL m f ∧ Meth K CP m f ∧ Binds K fd ps [] ∧ FnX P w K mg base j f fd ps (liftSpX K ps.length sp) ∧ ∀ ds S Q, sp ds S Q → ds.length = ps.length)
  | ek (c : Nat) (hx : x = bangN (excN c)) (hk : 1 ≤ k) (ex : ∃ C CE, ExK P K mg c C CE)
section
variable {X : Cx} {pos : Pos} {a b e o : Expr} {es : List Expr} {ta tb te to : TD} {t : TAD}
theorem isObj_inv {x : D} (h : isObj x = true) : ∃ c d, x = .obj c d := by
  cases x <;> first | exact ⟨_, _, rfl⟩ | cases h
theorem run_g {pins : List (Addr × Obj)} {σ : L2.St} {H : Hp} {s : Shared} {k : Nat} {f : Addr} {fd : FuncData} {ps : List Str} {sp : Sp} {us : List Value} {vs : List V} {Q : VK} {A : Around} (F : FnG X.prog X.w X.K X.mg X.base k f fd ps sp) (hr : Room k A) (hg : A.guards = some [])
    (e0 : Env0 X.prog X.w X.K X.mg X.base A X.stack s H) (hb : Binds X.K fd ps []) (I : Inv X pins σ H s) (r : Vals vs us) (h : sp vs H Q E0) :
    codeAny (model X.prog X.w) A (.call (.ref f) ⟨us, []⟩) (fun r s' => match r with | .ok (.ret v) => EP X pins σ Q v s' | _ => False) s := by
  have hl : us.length = ps.length := by rw [← r.length]; exact F.len _ _ _ _ h
  have hbb := hb s us I.kIn (by rw [List.append_nil]; exact hl)
  rw [List.append_nil] at hbb
  refine codeAny_mono (F.run A X.stack s H ⟨us, []⟩ us vs Q E0 hr hg e0 hbb r h) fun r s' hq => ?_
  match r, hq with
  | .error e, hq => exact hq.elim
  | .ok (.ret u), hq => exact I.after hq
  | .ok .next, hq => exact hq.elim
  | .ok .brk, hq => exact hq.elim
  | .ok .cont, hq => exact hq.elim
theorem call_g {pins : List (Addr × Obj)} {σ : L2.St} {H : Hp} {s : Shared} {k : Nat} {f : Addr} {fd : FuncData} {ps : List Str} {sp : Sp} {us : List Value} {vs : List V} {Q : VK} (F : FnG X.prog X.w X.K X.mg X.base k f fd ps sp) (hr : Room k X.A) (hg : X.A.guards = some [])
    (hb : Binds X.K fd ps []) (I : Inv X pins σ H s) (r : Vals vs us) (h : sp vs H Q E0) : wpAny (model X.prog X.w) X.A (call (.ref f) us) (EP X pins σ Q) X.xe s := by
  refine wpAny_call (codeAny_mono (run_g F hr hg I.env0 hb I r h) fun r s' hq => ?_)
  match r, hq with
  | .ok (.ret u), hq => exact hq
theorem liftSp_of {K : PySem.W.Frag} {H : Hp} {S : Sto} {n : Nat} {sp : Spec} {ds : List D} {vs : List V} {Qd : DK} {Q : VK} (hn : ds.length = n) (r : Reps K H ds vs) (so : StoOk K H S) (h : sp ds S Qd) (l : Lv K H Qd Q) : liftSp K n sp vs H Q E0 :=
  ⟨by rw [← r.length]; exact hn, ds, S, Qd, r, so, h, l⟩
theorem q_att {CL CP : Addr} (L : LongK X.K CL CP) (he : QE X e te) (hb : attributeBase e "runs" X.env (eval e X.env) = eval e X.env) :
    QE X (.Attribute e "runs" pos) (fun env S Q => te env S fun x S1 => ∃ c d, x = .obj c d ∧ Q d S1) :=
  (pe_fld he hb).weak fun σ H Q ⟨env, S, Qd, re, so, h, l⟩ => ⟨env, S, _, re, so, h, fun x S1 v H1 h1 k1 r1 s1 => by
    obtain ⟨c, d, rfl, h1⟩ := h1
    obtain ⟨a, C, dx, u, rfl, hc, ea, ru⟩ := r1.obj_inv
    obtain ⟨lc, _⟩ := L.lc hc
    exact ⟨a, C, dx, _, u, rfl, ea, lc.cl, lc.na, rfl, l d S1 u H1 h1 k1 ru s1⟩⟩
theorem q_meth {CL CP f : Addr} {k : Nat} {fd : FuncData} {ps : List Str} {sp : Spec} {m : Str} {apos : Pos} {pl : Sem Bool} (L : LongK X.K CL CP) (m0 : Meth X.K CL m f) (m1 : Meth X.K CP m f) (hmr : m ≠ "runs") (F : FnG X.prog X.w X.K X.mg X.base k f fd ps (liftSp X.K ps.length sp))
    (hr : Room k X.A) (hgd : X.A.guards = some []) (hb : Binds X.K fd ps []) (hlen : ∀ ds S Q, sp ds S Q → ds.length = ps.length) (ho : QE X o to) (ha : QA X (e :: es) t)
    (hst : starEach (e :: es) X.env = (false, eval e X.env) :: starEach es X.env) (hpl : (backTo pos (starEach es X.env)).any (·.1) = false)
    (ht : eval (.Call (.Attribute o m apos) (e :: es) [] pos) X.env = (do
      let ov ← eval o X.env
      standAt apos.atName
      let (f, first) ← holding [ov] (getMethod ov m pl)
      callWith pos f first (backTo pos (starEach (e :: es) X.env)) (backToKw pos (keywordEach [] X.env)))) :
    QE X (.Call (.Attribute o m apos) (e :: es) [] pos) (fun env S Q => to env S fun x S1 => isObj x = true ∧ t env S1 fun ds S2 => sp (x :: ds) S2 Q) := by
  refine ⟨fun pins s σ H Q I ⟨env, S, Qd, re, so, h, l⟩ => ?_⟩
  refine PySem.W.methodCall_KW (pl := pl) (thn (ho.run pins s σ H (fun v H1 => ∃ x S1, isObj x = true ∧ (t env S1 fun ds S2 => sp (x :: ds) S2 Qd) ∧ Keep H H1 ∧ Rep X.K H1 x v ∧ StoOk X.K H1 S1) I ⟨env, S, _, re, so, h, fun x S1 v H1 h1 k1 r1 s1 => ⟨x, S1, h1.1, h1.2, k1, r1, s1⟩⟩) fun u s1 ⟨v, H1, I1, rv, x, S1, hx, h1, k1, r1, so1⟩ => ?_) ht
  obtain ⟨c, d, rfl⟩ := isObj_inv hx
  obtain ⟨p, C, dx, w, rfl, hc, ea, rw_⟩ := r1.obj_inv
  obtain rfl : u = Value.ref p := rv
  obtain ⟨lc, hC⟩ := L.lc hc
  have hm : Meth X.K C m f := by rcases hC with rfl | rfl <;> assumption
  refine getmeth_ok I1 ea lc.cl hm (by rw [List.lookup_cons, beq_eq_false_iff_ne.mpr hmr]; rfl) ?_
  refine PySem.W.callWith_K (first := [.ref p]) (h₀ := X.base) I.ok.mod.kin hm.kp (thn (ha.run pos pins s1 σ H1 (fun vs H2 => ∃ ds S2, sp (.obj c d :: ds) S2 Qd ∧ Keep H1 H2 ∧ Reps X.K H2 ds vs ∧ StoOk X.K H2 S2) I1 ⟨env, S1, _, re.mono k1, so1, h1, fun ds S2 vs H2 h2 k2 r2 s2 => ⟨ds, S2, h2, k2, r2, s2⟩⟩) fun us s2 ⟨vs, H2, I2, r, ds, S2, h2, k2, r2, so2⟩ => ⟨I2.kIn, ?_⟩) hst hpl
  exact call_g (us := .ref p :: us) (vs := .ref p :: vs) F hr hgd hb I2 (.cons rfl r) (liftSp_of (hlen _ _ _ h2) (.cons (r1.mono k2) r2) so2 h2 (l.keep (k1.trans k2)))
theorem q_meth0 {CL CP f : Addr} {k : Nat} {fd : FuncData} {ps : List Str} {sp : Spec} {m : Str} {apos : Pos} {pl : Sem Bool} (L : LongK X.K CL CP) (m0 : Meth X.K CL m f) (m1 : Meth X.K CP m f) (hmr : m ≠ "runs") (F : FnG X.prog X.w X.K X.mg X.base k f fd ps (liftSp X.K ps.length sp))
    (hr : Room k X.A) (hgd : X.A.guards = some []) (hb : Binds X.K fd ps []) (hlen : ∀ ds S Q, sp ds S Q → ds.length = ps.length) (ho : QE X o to)
    (ht : eval (.Call (.Attribute o m apos) [] [] pos) X.env = (do
      let ov ← eval o X.env
      standAt apos.atName
      let (f, first) ← holding [ov] (getMethod ov m pl)
      callWith pos f first (backTo pos (starEach [] X.env)) (backToKw pos (keywordEach [] X.env)))) :
    QE X (.Call (.Attribute o m apos) [] [] pos) (fun env S Q => to env S fun x S1 => isObj x = true ∧ sp [x] S1 Q) := by
  refine ⟨fun pins s σ H Q I ⟨env, S, Qd, re, so, h, l⟩ => ?_⟩
  refine PySem.W.methodCall_KW (pl := pl) (thn (ho.run pins s σ H (fun v H1 => ∃ x S1, isObj x = true ∧ sp [x] S1 Qd ∧ Keep H H1 ∧ Rep X.K H1 x v ∧ StoOk X.K H1 S1) I ⟨env, S, _, re, so, h, fun x S1 v H1 h1 k1 r1 s1 => ⟨x, S1, h1.1, h1.2, k1, r1, s1⟩⟩) fun u s1 ⟨v, H1, I1, rv, x, S1, hx, h1, k1, r1, so1⟩ => ?_) ht
  obtain ⟨c, d, rfl⟩ := isObj_inv hx
  obtain ⟨p, C, dx, w, rfl, hc, ea, rw_⟩ := r1.obj_inv
  obtain rfl : u = Value.ref p := rv
  obtain ⟨lc, hC⟩ := L.lc hc
  have hm : Meth X.K C m f := by rcases hC with rfl | rfl <;> assumption
  refine getmeth_ok I1 ea lc.cl hm (by rw [List.lookup_cons, beq_eq_false_iff_ne.mpr hmr]; rfl) ?_
  exact PySem.W.callWith_K0 (first := [.ref p]) I1.kIn hm.kp (call_g (us := [.ref p]) (vs := [.ref p]) F hr hgd hb I1 (.cons rfl .nil) (liftSp_of (hlen _ _ _ h1) (.cons r1 .nil) so1 h1 (l.keep k1)))
theorem q_prp {CL CP p g : Addr} {k : Nat} {fd : FuncData} {ps : List Str} {sp : Spec} {f : Str} (L : LongK X.K CL CP) (p0 : PropOf X.K CL f p g) (p1 : PropOf X.K CP f p g) (F : FnG X.prog X.w X.K X.mg X.base k g fd ps (liftSp X.K ps.length sp))
    (hr : Room (k + 1) X.A) (hgd : X.A.guards = some []) (hb : Binds X.K fd ps []) (hlen : ∀ ds S Q, sp ds S Q → ds.length = ps.length) (he : QE X e te) (hab : attributeBase e f X.env (eval e X.env) = eval e X.env) :
    QE X (.Attribute e f pos) (fun env S Q => te env S fun x S1 => isObj x = true ∧ sp [x] S1 Q) := by
  refine ⟨fun pins s σ H Q I ⟨env, S, Qd, re, so, h, l⟩ => ?_⟩
  refine attr_of hab (thn (he.run pins s σ H (fun v H1 => ∃ x S1, isObj x = true ∧ sp [x] S1 Qd ∧ Keep H H1 ∧ Rep X.K H1 x v ∧ StoOk X.K H1 S1) I ⟨env, S, _, re, so, h, fun x S1 v H1 h1 k1 r1 s1 => ⟨x, S1, h1.1, h1.2, k1, r1, s1⟩⟩) fun u s1 ⟨v, H1, I1, rv, x, S1, hx, h1, k1, r1, so1⟩ => ?_)
  obtain ⟨c, d, rfl⟩ := isObj_inv hx
  obtain ⟨q, C, dx, w, rfl, hc, ea, rw_⟩ := r1.obj_inv
  obtain rfl : u = Value.ref q := rv
  obtain ⟨lc, hC⟩ := L.lc hc
  have hp : PropOf X.K C f p g := by rcases hC with rfl | rfl <;> assumption
  obtain ⟨mA, O, _, _, _, _⟩ := ins_get I1.hok ea
  obtain ⟨od, J, _⟩ := O.look
  obtain ⟨rest, hrec⟩ := hp.rec_
  have I2 := I1.tok (s1.toks + 1)
  have hcd : (PySem.W.clsIn X.K C).isSome = true := by
    obtain ⟨cd, hz, _⟩ := PySem.W.any_some lc.cl.hd
    rw [hz]; rfl
  refine PySem.W.get_bind I1.kIn J (PySem.W.plainGet_of (lc.cl.get f)).1 (PySem.W.findObj_data hcd hp.at_ hp.get hp.tak) (PySem.W.plainGet_of (lc.cl.get f)).2 (wpAny_call (PySem.W.prop_get (s := { s1 with toks := s1.toks + 1 }) I1.kIn hrec ?_))
  refine codeAny_mono (run_g (us := [.ref q]) (vs := [.ref q]) (Q := Q) F hr.in1 (show X.A.in1.guards = some [] from hgd) I2.env0.in1 hb I2 (.cons rfl .nil) (liftSp_of (hlen _ _ _ h1) (.cons r1 .nil) so1 h1 (l.keep k1))) fun r s' hq => ?_
  match r, hq with
  | .ok (.ret u), hq =>
    obtain ⟨v, H', I3, rv, q3⟩ := hq
    show wpAny _ _ (handedOut u) _ _ _
    rw [PySem.W.handedOut_of (handed_of rv)]
    exact wpAny_pure ⟨v, H', I3, rv, q3⟩
theorem under_gd {A : Around} {C : Addr} {us : List Value} (h : A.guards = some []) : (A.under (.builtin "type.__call__" ⟨.ref C :: us, []⟩)).guards = some [] := by
  first | exact h | (simpa [Around.under, Code.isGuard, guardIds] using h)
theorem Keep.made {H : Hp} {x dx C : Addr} (hx : H x = none) (hd : H dx = none) (ne : dx ≠ x) : Keep H (upd (upd H dx (.own x)) x (.ins C dx [])) :=
  (Keep.new hd).trans (.new (by rw [upd_ne (Ne.symm ne)]; exact hx))
theorem q_make {C f : Addr} {c k : Nat} {fd : FuncData} {ps : List Str} {sp : Spec} {x : Str} {p : Pos} (hc : ClsAt X.K c C) (M : Mk X.K C f) (F : FnG X.prog X.w X.K X.mg X.base k f fd ps (initSp X.K C c ps.length sp)) (hr : Room (k + 1) X.A) (hgd : X.A.guards = some [])
    (hlen : ∀ ds S Q, sp ds S Q → ds.length + 1 = ps.length) (hg : Gl X x) (hm : X.mg x = some (.ref C)) (hb : Binds X.K fd ps []) (ha : QA X (e :: es) t) (hdb : (x == ("__debug__" : Str)) = false)
    (he : starEach (e :: es) X.env = (false, eval e X.env) :: starEach es X.env) (hpl : (backTo pos (starEach es X.env)).any (·.1) = false) :
    QE X (.Call (.Name x p) (e :: es) [] pos) (fun env S Q => t env S fun ds S1 => sp ds S1 Q) := by
  refine ⟨fun pins s σ H Q I ⟨env, S, Qd, re, so, h, l⟩ => ?_⟩
  refine wpAny_Call_Name_kw (ld_glob I hg hm ?_ hdb)
  refine PySem.W.callWith_K (h₀ := X.base) I.ok.mod.kin M.kp (thn (ha.run pos pins s σ H (fun vs H1 => ∃ ds S1, sp ds S1 Qd ∧ Keep H H1 ∧ Reps X.K H1 ds vs ∧ StoOk X.K H1 S1) I ⟨env, S, _, re, so, h, fun ds S1 vs H1 h1 k1 r1 s1 => ⟨ds, S1, h1, k1, r1, s1⟩⟩) fun us s1 ⟨vs, H1, I1, r, ds, S1, h1, k1, r1, so1⟩ => ⟨I1.kIn, ?_⟩) he hpl
  have f1 := I1.hok.fresh (Nat.le_succ s1.heap.objs.size)
  have f2 := I1.hok.fresh (Nat.le_refl s1.heap.objs.size)
  have ne : s1.heap.objs.size ≠ s1.heap.objs.size + 1 := Nat.ne_of_lt (Nat.lt_succ_self _)
  have I2 := Inv.made (C := C) I1
  have km := Keep.made (C := C) f1 f2 ne
  have hs : initSp X.K C c ps.length sp (.ref (s1.heap.objs.size + 1) :: vs) (upd (upd H1 s1.heap.objs.size (.own (s1.heap.objs.size + 1))) (s1.heap.objs.size + 1) (.ins C s1.heap.objs.size [])) (fun v H2 => v = .non ∧ Q (.ref (s1.heap.objs.size + 1)) H2) E0 := by
    refine ⟨by rw [List.length_cons, ← r1.length]; exact hlen _ _ _ h1, s1.heap.objs.size + 1, s1.heap.objs.size, vs, ds, S1, Qd, rfl, upd_same, r1.mono km, (so1.new f2).new (by rw [upd_ne (Ne.symm ne)]; exact f1), h1, fun d S' u H' hq k' ru so' => ⟨rfl, ?_⟩⟩
    have hx' : H' (s1.heap.objs.size + 1) = some (.ins C s1.heap.objs.size []) := k' _ _ upd_same rfl
    have kR : KeepR H' (upd H' (s1.heap.objs.size + 1) (.ins C s1.heap.objs.size [("runs", u)])) := fun b ob eb pb => by
      by_cases hb : b = s1.heap.objs.size + 1
      · subst hb; rw [hx'] at eb; cases eb; cases pb
      · rw [upd_ne hb]; exact eb
    refine l (.obj c d) S' (.ref (s1.heap.objs.size + 1)) _ hq (k1.trans fun b ob eb sb => ?_) (by simp only [Rep]; exact ⟨_, C, _, u, rfl, hc, upd_same, ru.monoR kR⟩) fun b ob eb => ?_
    · rw [upd_ne (ne_of_none eb f1)]; exact k' _ _ (km _ _ eb sb) sb
    · have z := so' b ob eb
      cases ob with
      | lst es =>
        obtain ⟨ws, z1, z2⟩ := z
        exact ⟨ws, by rw [upd_ne (ne_of z1 hx' (by intro z; cases z))]; exact z1, z2.monoR kR⟩
  refine wpAny_call (make_map (f := f) I1.kIn M.makes M.init (beq_iff_eq.mp M.fn) (codeAny_mono (run_g (us := .ref (s1.heap.objs.size + 1) :: us) (vs := .ref (s1.heap.objs.size + 1) :: vs) F (hr.make C us []) (under_gd hgd) (I2.env0.make C us []) hb I2 (.cons rfl r) hs) fun r s' hq => ?_))
  match r, hq with
  | .ok (.ret u), hq =>
    obtain ⟨v, H', I3, rv, ev, q3⟩ := hq
    subst ev
    exact ⟨rv, ⟨V.ref (s1.heap.objs.size + 1), H', I3, rfl, q3⟩⟩
theorem ty_obj {CL CP : Addr} (L : LongK X.K CL CP) {H : Hp} {x : D} {v : V} (r : Rep X.K H x v) (h : isoK x = true) : ∃ t, TyX X.K H v t ∧ PySem.W.kitOne X.K t (.ref CL) = some (isObj x) := by
  cases x with
  | non => simp only [Rep] at r; subst r; exact ⟨_, .base .non, L.kn⟩
  | bl b => simp only [Rep] at r; subst r; exact ⟨_, .base (.bl b), L.kb⟩
  | int i => simp only [Rep] at r; subst r; exact ⟨_, .base (.int i), L.kI⟩
  | str x => simp only [Rep] at r; subst r; exact ⟨_, .base (.str _), L.ks⟩
  | tup ds =>
    obtain ⟨a, vs, rfl, q, _⟩ := r.tup_inv
    refine ⟨.type "tuple", ?_, L.kt⟩
    rcases q with (q | ⟨o, q⟩) | ⟨o, _, _, q, c, _⟩
    · exact .base (.tup q)
    · exact .fTuple q
    · exact .kTuple q c
  | rol ds => cases h
  | ref a => cases h
  | obj c d =>
    obtain ⟨a, C, dx, u, rfl, hc, ea, ru⟩ := r.obj_inv
    obtain ⟨lc, _⟩ := L.lc hc
    exact ⟨_, .base (.ins ea lc.cl lc.ca L.cn L.ct lc.cm), lc.ki⟩
theorem q_iso {CL CP : Addr} {p p2 : Pos} (L : LongK X.K CL CP) (hm : X.mg "Long" = some (.ref CL)) (hg : Gl X "isinstance") (hmi : X.mg "isinstance" = none) (hbt : bootBuiltins "isinstance" = some (.builtin "isinstance")) (hgT : Gl X "Long") (ha : QE X a ta)
    (he : starEach [a, .Name "Long" p2] X.env = (false, eval a X.env) :: starEach [.Name "Long" p2] X.env) :
    QE X (.Call (.Name "isinstance" p) [a, .Name "Long" p2] [] pos) (fun env S Q => ta env S fun x S1 => isoK x = true ∧ Q (.bl (isObj x)) S1) := by
  have hty : PE X (.Name "Long" p2) (tC (.ref CL)) := pe_glob hgT hm rfl (by decide)
  refine (pe_callB call_isi hg hmi hbt (pa_cons ha (pa_cons hty pa_nil rfl) he) (by decide) (by decide) he rfl).weak fun σ H Q ⟨env, S, Qd, re, so, h, l⟩ => ?_
  refine ⟨env, S, _, re, so, h, fun x S1 v H1 h1 k1 r1 s1 => ?_⟩
  obtain ⟨t, ty, ki⟩ := ty_obj L r1 h1.1
  exact ⟨v, .ref CL, t, .ref CL, isObj x, rfl, .own CL, ty, ki, l _ S1 _ H1 h1.2 k1 .bl s1⟩
end
end G57
set_option Elab.async false
set_option linter.all false
set_option maxRecDepth 100000
set_option maxHeartbeats 1000000
namespace G57
open PySem L2 PySem.Spec PyProof.Rows
theorem en_gt : entryFor table "object.__gt__" = some Builtin.«object.__gt__» := entryFor_of_tree (by kernel_rfl)
theorem en_ge : entryFor table "object.__ge__" = some Builtin.«object.__ge__» := entryFor_of_tree (by kernel_rfl)
theorem ar_gt (a b : Value) : argsOk "object.__gt__" ⟨[a, b], []⟩ := by unfold argsOk; kernel_rfl
theorem ar_ge (a b : Value) : argsOk "object.__ge__" ⟨[a, b], []⟩ := by unfold argsOk; kernel_rfl
section
variable {prog : Program} {w : World} {A : Around} {E : Value → Shared → Prop} {s : Shared} {K : PySem.W.Frag}
theorem gt_body {a b : Value} {Q : Fin → Shared → Prop} (h : Q (.done (.ret .notImplemented)) s) : wpAny (model prog w) A (Builtin.«object.__gt__» ⟨[a, b], []⟩) Q E s := by
  unfold Builtin.«object.__gt__»
  repeat wp_step
  exact h
theorem ge_body {a b : Value} {Q : Fin → Shared → Prop} (h : Q (.done (.ret .notImplemented)) s) : wpAny (model prog w) A (Builtin.«object.__ge__» ⟨[a, b], []⟩) Q E s := by
  unfold Builtin.«object.__ge__»
  repeat wp_step
  exact h
theorem tc_none {x C : Addr} {ox : Obj} {od : Option Obj} {name : Str} {id n : String} {bi : Builtin} {b : Value} {Q : Option Value → Shared → Prop} (X : K.In s.heap) (J : PySem.W.InstAt s.heap x ox C od) (hs : PySem.W.findIn K (.ref C) name = some (some (.builtin id)))
    (hm : PySem.W.mroIn K C (.type "object") = some true) (hb : bindSpecial (.builtin id) (.ref x) = pure (.builtin id, [.ref x])) (hp : plainId id = true) (he : entryFor table id = some bi) (hk : builtinKind id = some .slot) (hsp : splitId id = some ("object", n)) (ha : argsOk id ⟨[.ref x, b], []⟩)
    (hbody : ∀ (A' : Around) (E' : Value → Shared → Prop) (R : Fin → Shared → Prop), R (.done (.ret .notImplemented)) s → wpAny (model prog w) A' (bi ⟨[.ref x, b], []⟩) R E' s) (h : Q none s) : wpAny (model prog w) A (tryCompare (.ref x) name b) Q E s := by
  have iv : PySem.W.Looks (model prog w) s.heap (isInstance (.ref x) (.type "object")) true := J.type.andThen (PySem.W.looks_mroIn X hm)
  unfold tryCompare
  refine wpAny_bind (NtL.csib (J.type.andThen (PySem.W.looks_findIn X hs)) hb ?_)
  refine wpAny_call (codeAny_call_builtin hp he (@PySem.W.check_slot (model prog w) _ _ s id "object" n (.ref x) [b] [] _ hk hsp iv ha ?_))
  exact hbody _ _ _ (wpAny_pure h)
theorem tc_own {x C f : Addr} {ox : Obj} {od : Option Obj} {name : Str} {b : Value} {Q : Option Value → Shared → Prop} (X : K.In s.heap) (J : PySem.W.InstAt s.heap x ox C od) (hs : PySem.W.findIn K (.ref C) name = some (some (.ref f))) (hf : PySem.W.isFn K (.ref f) = true)
    (h : wpAny (model prog w) A (call (.ref f) [.ref x, b]) (PySem.W.CmpBack fun v s' => Q (some v) s') E s) : wpAny (model prog w) A (tryCompare (.ref x) name b) Q E s := by
  unfold tryCompare
  refine wpAny_bind (PySem.W.ifBound_K X J hs hf (wpAny_mono h (fun v s' hv => ?_) fun _ _ z => z))
  cases v <;> first | exact hv.elim | exact wpAny_pure hv
theorem tc_ne {x C f : Addr} {ox : Obj} {od : Option Obj} {b : Value} {Q : Option Value → Shared → Prop} (hu : A.units + 1 < cLine) (X : K.In s.heap) (J : PySem.W.InstAt s.heap x ox C od) (hs : PySem.W.findIn K (.ref C) "__ne__" = some (some (.builtin "object.__ne__")))
    (hm : PySem.W.mroIn K C (.type "object") = some true) (he : PySem.W.findIn K (.ref C) "__eq__" = some (some (.ref f))) (hf : PySem.W.isFn K (.ref f) = true)
    (h : wpAny (model prog w) A.in1 (call (.ref f) [.ref x, b]) (fun v s' => ∃ t, v = .bool t ∧ Q (some (.bool (!t))) s') E s) : wpAny (model prog w) A (tryCompare (.ref x) "__ne__" b) Q E s := by
  have iv : PySem.W.Looks (model prog w) s.heap (isInstance (.ref x) (.type "object")) true := J.type.andThen (PySem.W.looks_mroIn X hm)
  unfold tryCompare
  refine wpAny_bind (NtL.csib (J.type.andThen (PySem.W.looks_findIn X hs)) (F.cmp_object.ne.bind _) ?_)
  refine wpAny_call (codeAny_call_builtin F.cmp_object.ne.plain F.cmpEntry_ne (@PySem.W.check_slot (model prog w) _ _ s "object.__ne__" "object" "__ne__" (.ref x) [b] [] _ F.cmpKind_ne F.cmpSplit_ne iv (F.cmpArgs_ne _ _) ?_))
  unfold Builtin.«object.__ne__»
  have hu' : A.in1.units < cLine := hu
  repeat (first
    | with_reducible refine wpAny_cRoomFor hu' ?_
    | (refine wpAny_bind (m := callSpecialIfBound? (.ref x) (Str.ofString "__eq__") [b]) (PySem.W.ifBound_K X J he hf (wpAny_mono h (fun r s' hr => by
        obtain ⟨t, rfl, hq⟩ := hr
        repeat (first | exact hq | exact wpAny_pure hq | (refine wpAny_bind (m := truthy (.bool _)) (wpAny_truthy_bool ?_)) | wp_step)) fun _ _ z => z)))
    | wp_step)
theorem rc_obj {op : CmpOp} {x C : Addr} {ox : Obj} {od : Option Obj} {b tb : Value} {rf : Bool} {Q : Value → Shared → Prop} (hu : A.units < cLine) (X : K.In s.heap) (J : PySem.W.InstAt s.heap x ox C od) (hb : PySem.W.Looks (model prog w) s.heap (typeOf b) tb)
    (hrf : (tb = .ref C ∧ rf = false) ∨ (tb ≠ .ref C ∧ PySem.W.subIn K tb (.ref C) = some rf))
    (h : if rf = true then wpAny (model prog w) A (tryCompare b (cmpInfo op).2.2 (.ref x)) (fun o s1 => match o with | some v => Q v s1 | none => wpAny (model prog w) A (tryCompare (.ref x) (cmpInfo op).2.1 b) (fun o s2 => ∃ v, o = some v ∧ Q v s2) E s1) E s
      else wpAny (model prog w) A (tryCompare (.ref x) (cmpInfo op).2.1 b) (fun o s1 => match o with | some v => Q v s1 | none => wpAny (model prog w) A (tryCompare b (cmpInfo op).2.2 (.ref x)) (fun o s2 => ∃ v, o = some v ∧ Q v s2) E s1) E s) :
    wpAny (model prog w) A (richCompare op (.ref x) b) Q E s := by
  unfold richCompare
  simp only [oneThing_ref]
  refine wpAny_holding (wpAny_bind (wpAny_cRoomFor hu ?_))
  refine wpAny_bind (J.type.here (wpAny_bind (hb.here ?_)))
  rcases hrf with ⟨rfl, rfl⟩ | ⟨hne, hs⟩
  · rw [if_neg (by simp)]
    refine wpAny_bind (wpAny_pure ?_)
    simp only [Bool.false_eq_true, if_false] at h ⊢
    refine wpAny_bind (wpAny_mono h (fun o s1 z => ?_) fun _ _ z => z)
    cases o with
    | some v => exact wpAny_pure z
    | none =>
      simp only [Bool.not_false, if_true]
      refine wpAny_bind (wpAny_mono z (fun o s2 z => ?_) fun _ _ z => z)
      obtain ⟨v, rfl, q⟩ := z
      exact wpAny_pure q
  · rw [if_pos (by simpa using fun z => hne z.symm)]
    refine wpAny_bind ((PySem.W.looks_subIn X hs).here ?_)
    cases rf with
    | true =>
      simp only [if_true] at h ⊢
      refine wpAny_bind (wpAny_mono h (fun o s1 z => ?_) fun _ _ z => z)
      cases o with
      | some v => exact wpAny_bind (wpAny_rule (wpAny_pure z))
      | none =>
        refine wpAny_bind (wpAny_mono z (fun o s2 z => ?_) fun _ _ z => z)
        obtain ⟨v, rfl, q⟩ := z
        exact wpAny_pure q
    | false =>
      simp only [Bool.false_eq_true, if_false] at h ⊢
      refine wpAny_bind (wpAny_mono h (fun o s1 z => ?_) fun _ _ z => z)
      cases o with
      | some v => exact wpAny_pure z
      | none =>
        simp only [Bool.not_false, if_true]
        refine wpAny_bind (wpAny_mono z (fun o s2 z => ?_) fun _ _ z => z)
        obtain ⟨v, rfl, q⟩ := z
        exact wpAny_pure q
end
end G57
set_option Elab.async false
set_option linter.all false
set_option maxRecDepth 100000
set_option maxHeartbeats 1000000
namespace G57
open PySem L2 PySem.Spec PyProof.Rows
theorem sl_gt : splitId "object.__gt__" = some ("object", "__gt__") := by decide +kernel
theorem sl_ge : splitId "object.__ge__" = some ("object", "__ge__") := by decide +kernel
theorem bk_gt : builtinKind "object.__gt__" = some .slot := by decide +kernel
theorem bk_ge : builtinKind "object.__ge__" = some .slot := by decide +kernel
theorem plain_gt : plainId "object.__gt__" = true := by decide +kernel
theorem plain_ge : plainId "object.__ge__" = true := by decide +kernel
theorem bind_gt (self : Value) : bindSpecial (.builtin "object.__gt__") self = pure (.builtin "object.__gt__", [self]) := by
  unfold bindSpecial
  first | rfl | kernel_rfl
theorem bind_ge (self : Value) : bindSpecial (.builtin "object.__ge__") self = pure (.builtin "object.__ge__", [self]) := by
  unfold bindSpecial
  first | rfl | kernel_rfl
section
variable {X : Cx}
theorem rf_of {CL CP C : Addr} (L : LongK X.K CL CP) (lc : LC X.K CL C) (hC : C = CL ∨ C = CP) {H : Hp} {b : D} {y : V} (r : Rep X.K H b y) (h : isoK b = true) :
    ∃ t rf, TyX X.K H y t ∧ ((t = .ref C ∧ rf = false) ∨ (t ≠ .ref C ∧ PySem.W.subIn X.K t (.ref C) = some rf)) ∧ (rf = true → isObj b = true) := by
  have hne : CL ≠ CP := fun e => by
    have h1 := L.s10
    have h2 := L.s01
    rw [e] at h1 h2
    rw [h1] at h2
    cases h2
  cases b with
  | non => simp only [Rep] at r; subst r; exact ⟨_, false, .base .non, .inr ⟨(fun z => by cases z), lc.sn⟩, fun z => by cases z⟩
  | bl b => simp only [Rep] at r; subst r; exact ⟨_, false, .base (.bl b), .inr ⟨(fun z => by cases z), lc.sb⟩, fun z => by cases z⟩
  | int i => simp only [Rep] at r; subst r; exact ⟨_, false, .base (.int i), .inr ⟨(fun z => by cases z), lc.si⟩, fun z => by cases z⟩
  | str x => simp only [Rep] at r; subst r; exact ⟨_, false, .base (.str _), .inr ⟨(fun z => by cases z), lc.ss⟩, fun z => by cases z⟩
  | tup ds =>
    obtain ⟨a, vs, rfl, q, _⟩ := r.tup_inv
    refine ⟨.type "tuple", false, ?_, .inr ⟨(fun z => by cases z), lc.st⟩, fun z => by cases z⟩
    rcases q with (q | ⟨o, q⟩) | ⟨o, _, _, q, c, _⟩
    · exact .base (.tup q)
    · exact .fTuple q
    · exact .kTuple q c
  | rol ds => cases h
  | ref a => cases h
  | obj c d =>
    obtain ⟨a, C', dx, u, rfl, hc, ea, ru⟩ := r.obj_inv
    obtain ⟨lc', hC'⟩ := L.lc hc
    have ty : TyX X.K H (.ref a) (.ref C') := .base (.ins ea lc'.cl lc'.ca L.cn L.ct lc'.cm)
    rcases hC with rfl | rfl <;> rcases hC' with rfl | rfl
    · exact ⟨_, false, ty, .inl ⟨rfl, rfl⟩, fun z => by cases z⟩
    · exact ⟨_, true, ty, .inr ⟨(fun z => by injection z with z; exact hne z.symm), L.s10⟩, fun _ => rfl⟩
    · exact ⟨_, false, ty, .inr ⟨(fun z => by injection z with z; exact hne z), L.s01⟩, fun z => by cases z⟩
    · exact ⟨_, false, ty, .inl ⟨rfl, rfl⟩, fun z => by cases z⟩
theorem inst_of {pins : List (Addr × Obj)} {σ : L2.St} {H : Hp} {s : Shared} (I : Inv X pins σ H s) {a C dx : Addr} {fs : List (Str × V)} (e : H a = some (.ins C dx fs)) : ∃ ox od, PySem.W.InstAt s.heap a ox C od := by
  obtain ⟨mA, O, _, _, _, _⟩ := ins_get I.hok e
  obtain ⟨od, J, _⟩ := O.look
  exact ⟨_, _, J⟩
def cmpM : CmpOp → Str
  | .Eq | .NotEq => "__eq__"
  | .Lt | .Gt => "__lt__"
  | _ => "__le__"
theorem ocmD_ok {op : CmpOp} {CL CP f : Addr} {k : Nat} {fd : FuncData} {ps : List Str} {sp : Spec} (L : LongK X.K CL CP) (m0 : Meth X.K CL (cmpM op) f) (m1 : Meth X.K CP (cmpM op) f) (F : FnG X.prog X.w X.K X.mg X.base k f fd ps (liftSp X.K ps.length sp))
    (hr : Room (k + 1) X.A) (hgd : X.A.guards = some []) (hb : Binds X.K fd ps []) (hlen : ∀ ds S Q, sp ds S Q → ds.length = ps.length) : OpR X (compareOp op) (liftR2 X.K (ocmD op sp)) := by
  intro pins s σ H x y v u Q I rx ry ⟨a, b, S, Qd, ra, rb, so, ⟨hx, h⟩, l⟩
  have hr0 : Room k X.A := hr.mono (Nat.le_succ k)
  obtain ⟨c, d, rfl⟩ := isObj_inv hx
  have ra0 := ra
  obtain ⟨p, C, dx, w, rfl, hc, ea, rw_⟩ := ra.obj_inv
  obtain rfl : v = Value.ref p := rx
  obtain ⟨lc, hC⟩ := L.lc hc
  have hm : Meth X.K C (cmpM op) f := by rcases hC with rfl | rfl <;> assumption
  obtain ⟨ox, od, J⟩ := inst_of I ea
  have ownA : ∀ {Qd' : DK} {Q' : VK}, sp [.obj c d, b] S Qd' → Lv X.K H Qd' Q' → wpAny (model X.prog X.w) X.A (tryCompare (.ref p) (cmpM op) u) (fun o s1 => ∃ v, o = some v ∧ EP X pins σ Q' v s1) X.xe s := fun {Qd' Q'} h' l' => by
    refine tc_own I.kIn J hm.at_ hm.fn (wpAny_mono (call_g (us := [.ref p, u]) (vs := [.ref p, y]) (Q := Q') F hr0 hgd hb I (.cons rfl (.cons ry .nil)) (liftSp_of (hlen _ _ _ h') (.cons ra0 (.cons rb .nil)) so h' l')) (fun v s1 z => ?_) fun _ _ z => z)
    obtain ⟨z', H', I', rz, qz⟩ := z
    exact SlX.cmpback rz ⟨_, rfl, z', H', I', rz, qz⟩
  have neA : op = .NotEq → ∀ {Qd' : DK} {Q' : Bool → Hp → Prop}, sp [.obj c d, b] S Qd' → Lv X.K H Qd' (fun v H' => ∃ t, v = .bl t ∧ Q' t H') → wpAny (model X.prog X.w) X.A (tryCompare (.ref p) "__ne__" u) (fun o s1 => ∃ v, o = some v ∧ EP X pins σ (fun v H' => ∃ t, v = .bl (!t) ∧ Q' t H') v s1) X.xe s := fun eo {Qd' Q'} h' l' => by
    subst eo
    have hu : X.A.units + 1 < cLine := by have := hr.units; omega
    refine tc_ne hu I.kIn J lc.ne lc.cm hm.at_ hm.fn (wpAny_mono (wpAny_call (codeAny_mono (run_g (us := [.ref p, u]) (vs := [.ref p, y]) (A := X.A.in1) F hr.in1 (show X.A.in1.guards = some [] from hgd) I.env0.in1 hb I (.cons rfl (.cons ry .nil)) (liftSp_of (hlen _ _ _ h') (.cons ra0 (.cons rb .nil)) so h' l')) fun r s' hq => ?_)) (fun v s1 z => z) fun _ _ z => z)
    match r, hq with
    | .ok (.ret v), hq =>
      obtain ⟨z', H', I', rz, t, rfl, qz⟩ := hq
      obtain rfl : v = Value.bool t := rz
      exact ⟨t, rfl, _, rfl, .bl (!t), H', I', rfl, t, rfl, qz⟩
  have ownB : isObj b = true → ∃ q, u = .ref q ∧ (∀ {Qd' : DK} {Q' : VK} {name : Str}, sp [b, .obj c d] S Qd' → Lv X.K H Qd' Q' → wpAny (model X.prog X.w) X.A (tryCompare (.ref q) (cmpM op) (.ref p)) (fun o s1 => ∃ v, o = some v ∧ EP X pins σ Q' v s1) X.xe s) ∧
      (op = .NotEq → ∀ {Qd' : DK} {Q' : Bool → Hp → Prop}, sp [b, .obj c d] S Qd' → Lv X.K H Qd' (fun v H' => ∃ t, v = .bl t ∧ Q' t H') → wpAny (model X.prog X.w) X.A (tryCompare (.ref q) "__ne__" (.ref p)) (fun o s1 => ∃ v, o = some v ∧ EP X pins σ (fun v H' => ∃ t, v = .bl (!t) ∧ Q' t H') v s1) X.xe s) ∧
      (∀ {Q' : Option Value → Shared → Prop}, Q' none s → wpAny (model X.prog X.w) X.A (tryCompare (.ref q) "__gt__" (.ref p)) Q' X.xe s) ∧ ∀ {Q' : Option Value → Shared → Prop}, Q' none s → wpAny (model X.prog X.w) X.A (tryCompare (.ref q) "__ge__" (.ref p)) Q' X.xe s := fun hob => by
    obtain ⟨c', d', rfl⟩ := isObj_inv hob
    have rb0 := rb
    obtain ⟨q, C', dx', w', rfl, hc', eb, rw'⟩ := rb.obj_inv
    obtain rfl : u = Value.ref q := ry
    obtain ⟨lc', hC'⟩ := L.lc hc'
    have hm' : Meth X.K C' (cmpM op) f := by rcases hC' with rfl | rfl <;> assumption
    obtain ⟨ox', od', J'⟩ := inst_of I eb
    refine ⟨q, rfl, fun {Qd' Q' name} h' l' => ?_, fun eo {Qd' Q'} h' l' => ?_, fun {Q'} h' => ?_, fun {Q'} h' => ?_⟩
    · refine tc_own I.kIn J' hm'.at_ hm'.fn (wpAny_mono (call_g (us := [.ref q, .ref p]) (vs := [.ref q, .ref p]) (Q := Q') F hr0 hgd hb I (.cons rfl (.cons rfl .nil)) (liftSp_of (hlen _ _ _ h') (.cons rb0 (.cons ra0 .nil)) so h' l')) (fun v s1 z => ?_) fun _ _ z => z)
      obtain ⟨z', H', I', rz, qz⟩ := z
      exact SlX.cmpback rz ⟨_, rfl, z', H', I', rz, qz⟩
    · subst eo
      have hu : X.A.units + 1 < cLine := by have := hr.units; omega
      refine tc_ne hu I.kIn J' lc'.ne lc'.cm hm'.at_ hm'.fn (wpAny_mono (wpAny_call (codeAny_mono (run_g (us := [.ref q, .ref p]) (vs := [.ref q, .ref p]) (A := X.A.in1) F hr.in1 (show X.A.in1.guards = some [] from hgd) I.env0.in1 hb I (.cons rfl (.cons rfl .nil)) (liftSp_of (hlen _ _ _ h') (.cons rb0 (.cons ra0 .nil)) so h' l')) fun r s' hq => ?_)) (fun v s1 z => z) fun _ _ z => z)
      match r, hq with
      | .ok (.ret v), hq =>
        obtain ⟨z', H', I', rz, t, rfl, qz⟩ := hq
        obtain rfl : v = Value.bool t := rz
        exact ⟨t, rfl, _, rfl, .bl (!t), H', I', rfl, t, rfl, qz⟩
    · exact tc_none I.kIn J' lc'.gt lc'.cm (bind_gt _) plain_gt en_gt bk_gt sl_gt (ar_gt _ _) (fun A' E' R hR => gt_body hR) h'
    · exact tc_none I.kIn J' lc'.ge lc'.cm (bind_ge _) plain_ge en_ge bk_ge sl_ge (ar_ge _ _) (fun A' E' R hR => ge_body hR) h'
  have noA1 : ∀ {Q' : Option Value → Shared → Prop}, Q' none s → wpAny (model X.prog X.w) X.A (tryCompare (.ref p) "__gt__" u) Q' X.xe s := fun {Q'} h' =>
    tc_none I.kIn J lc.gt lc.cm (bind_gt _) plain_gt en_gt bk_gt sl_gt (ar_gt _ _) (fun A' E' R hR => gt_body hR) h'
  have noA2 : ∀ {Q' : Option Value → Shared → Prop}, Q' none s → wpAny (model X.prog X.w) X.A (tryCompare (.ref p) "__ge__" u) Q' X.xe s := fun {Q'} h' =>
    tc_none I.kIn J lc.ge lc.cm (bind_ge _) plain_ge en_ge bk_ge sl_ge (ar_ge _ _) (fun A' E' R hR => ge_body hR) h'
  have some_of : ∀ {o : Option Value} {s1 : Shared} {s0 : Shared → Prop}, (∃ v, o = some v ∧ EP X pins σ Q v s1) → (match o with | some v => EP X pins σ Q v s1 | none => s0 s1) := fun {o s1 s0} z => by
    obtain ⟨v, rfl, z⟩ := z; exact z
  have lneg : ∀ {Q0 : VK}, Lv X.K H Qd Q0 → Lv X.K H (fun d' S' => ∃ t, d' = .bl t ∧ Qd (.bl (!t)) S') (fun v H' => ∃ t, v = .bl t ∧ Q0 (.bl (!t)) H') := fun {Q0} l0 d' S' v' H' ⟨t, e, q⟩ k r s' => by
    subst e
    simp only [Rep] at r
    exact ⟨t, r, l0 _ S' _ H' q k .bl s'⟩
  have neg_of : ∀ {o : Option Value} {s1 : Shared}, (∃ v, o = some v ∧ EP X pins σ (fun v H' => ∃ t, v = .bl (!t) ∧ Q (.bl (!t)) H') v s1) → ∃ v, o = some v ∧ EP X pins σ Q v s1 := fun {o s1} ⟨v, e, z, H', I', rz, t, ez, qz⟩ => by
    subst ez
    exact ⟨v, e, _, H', I', rz, qz⟩
  have hu : X.A.units < cLine := hr.units0
  have start : ∀ {o : CmpOp}, isoK b = true → (∀ rf, (rf = true → isObj b = true) → if rf = true then wpAny (model X.prog X.w) X.A (tryCompare u (cmpInfo o).2.2 (.ref p)) (fun o' s1 => match o' with | some v => EP X pins σ Q v s1 | none => wpAny (model X.prog X.w) X.A (tryCompare (.ref p) (cmpInfo o).2.1 u) (fun o s2 => ∃ v, o = some v ∧ EP X pins σ Q v s2) X.xe s1) X.xe s
      else wpAny (model X.prog X.w) X.A (tryCompare (.ref p) (cmpInfo o).2.1 u) (fun o' s1 => match o' with | some v => EP X pins σ Q v s1 | none => wpAny (model X.prog X.w) X.A (tryCompare u (cmpInfo o).2.2 (.ref p)) (fun o s2 => ∃ v, o = some v ∧ EP X pins σ Q v s2) X.xe s1) X.xe s) →
      wpAny (model X.prog X.w) X.A (richCompare o (.ref p) u) (EP X pins σ Q) X.xe s := fun {o} hiso hall => by
    obtain ⟨t, rf, ty, hrf, hob⟩ := rf_of L lc hC rb hiso
    obtain ⟨P, Z, pz, _⟩ := kit_of I ry ty
    exact rc_obj hu I.kIn J (Z.ty _ _ I.kIn pz) hrf (hall rf hob)
  have isoB : isObj b = true → isoK b = true := fun hob => by obtain ⟨c', d', rfl⟩ := isObj_inv hob; rfl
  cases op <;> try exact h.elim
  case Eq =>
    obtain ⟨hiso, h1, h2⟩ := h
    refine start (o := .Eq) hiso fun rf hrf => ?_
    cases rf with
    | true =>
      obtain ⟨q, rfl, o1, _⟩ := ownB (hrf rfl)
      rw [if_pos rfl]
      exact wpAny_mono (o1 (name := "") (h2 (hrf rfl)) l) (fun o s1 z => some_of z) fun _ _ z => z
    | false =>
      rw [if_neg (by decide)]
      exact wpAny_mono (ownA h1 l) (fun o s1 z => some_of z) fun _ _ z => z
  case NotEq =>
    obtain ⟨hiso, h1, h2⟩ := h
    refine start (o := .NotEq) hiso fun rf hrf => ?_
    cases rf with
    | true =>
      obtain ⟨q, rfl, _, o2, _⟩ := ownB (hrf rfl)
      rw [if_pos rfl]
      exact wpAny_mono (o2 rfl (Q' := fun t H' => Q (.bl (!t)) H') (h2 (hrf rfl)) (lneg l)) (fun o s1 z => some_of (neg_of z)) fun _ _ z => z
    | false =>
      rw [if_neg (by decide)]
      exact wpAny_mono (neA rfl (Q' := fun t H' => Q (.bl (!t)) H') h1 (lneg l)) (fun o s1 z => some_of (neg_of z)) fun _ _ z => z
  case Lt =>
    obtain ⟨hob, h1⟩ := h
    obtain ⟨q, rfl, o1, o2, o3, o4⟩ := ownB hob
    refine start (o := .Lt) (isoB hob) fun rf hrf => ?_
    cases rf with
    | true => rw [if_pos rfl]; exact o3 (ownA h1 l)
    | false => rw [if_neg (by decide)]; exact wpAny_mono (ownA h1 l) (fun o s1 z => some_of z) fun _ _ z => z
  case LtE =>
    obtain ⟨hob, h1⟩ := h
    obtain ⟨q, rfl, o1, o2, o3, o4⟩ := ownB hob
    refine start (o := .LtE) (isoB hob) fun rf hrf => ?_
    cases rf with
    | true => rw [if_pos rfl]; exact o4 (ownA h1 l)
    | false => rw [if_neg (by decide)]; exact wpAny_mono (ownA h1 l) (fun o s1 z => some_of z) fun _ _ z => z
  case Gt =>
    obtain ⟨hob, h1⟩ := h
    obtain ⟨q, rfl, o1, o2, o3, o4⟩ := ownB hob
    refine start (o := .Gt) (isoB hob) fun rf hrf => ?_
    cases rf with
    | true => rw [if_pos rfl]; exact wpAny_mono (o1 (name := "") h1 l) (fun o s1 z => some_of z) fun _ _ z => z
    | false => rw [if_neg (by decide)]; exact noA1 (o1 (name := "") h1 l)
  case GtE =>
    obtain ⟨hob, h1⟩ := h
    obtain ⟨q, rfl, o1, o2, o3, o4⟩ := ownB hob
    refine start (o := .GtE) (isoB hob) fun rf hrf => ?_
    cases rf with
    | true => rw [if_pos rfl]; exact wpAny_mono (o1 (name := "") h1 l) (fun o s1 z => some_of z) fun _ _ z => z
    | false => rw [if_neg (by decide)]; exact noA2 (o1 (name := "") h1 l)
end
end G57
set_option Elab.async false
set_option linter.all false
set_option maxRecDepth 100000
set_option maxHeartbeats 1000000
namespace G57
open PySem PySem.Calls L2 PySem.Spec PyProof.Rows
section
variable {M : Model} {h : Heap} {K : PySem.W.Frag} {C f : Addr}
theorem dn_add : dunder "add" = ("__add__" : Str) := by decide +kernel
theorem dn_radd : dunderR "add" = ("__radd__" : Str) := by decide +kernel
theorem mro_hd (X : K.In h) (hm : (PySem.W.clsIn K C).any (fun cd => cd.mro.head? == some (.ref C)) = true) : ∃ r, PySem.W.Looks M h (mroOf (.ref C)) (.ref C :: r) := by
  obtain ⟨cd, e, q⟩ := PySem.W.any_some hm
  have q' : cd.mro.head? = some (.ref C) := by simpa using q
  cases hc : cd.mro with
  | nil => rw [hc] at q'; cases q'
  | cons c r =>
    rw [hc] at q'
    cases q'
    have L : PySem.W.Looks M h (mroOf (.ref C)) cd.mro := (PySem.W.looks_clsIn X e).andThen .now
    rw [hc] at L
    exact ⟨r, L⟩
theorem fills (X : K.In h) (hm : (PySem.W.clsIn K C).any (fun cd => cd.mro.head? == some (.ref C)) = true) (ha : PySem.W.findIn K (.ref C) "__add__" = some (some (.ref f))) : PySem.W.Looks M h (fillsNumberSlot (.ref C) "add") true := by
  obtain ⟨r, L⟩ := mro_hd (M := M) X hm
  unfold fillsNumberSlot
  refine L.andThen ?_
  intro A Q E s k q
  rw [List.anyM_cons]
  refine wpAny_bind ?_
  show wpAny M A ([dunder "add", dunderR "add"].anyM _) _ E s
  rw [List.anyM_cons, dn_add]
  refine wpAny_bind (wpAny_bind (PySem.W.looks_findIn X ha A _ E s k ?_))
  exact wpAny_pure (wpAny_pure (wpAny_pure q))
theorem inPy (X : K.In h) (ha : PySem.W.findIn K (.ref C) "__add__" = some (some (.ref f))) (hr : PySem.W.findIn K (.ref C) "__radd__" = some none) : PySem.W.Looks M h (numberSlotInPython (.ref C) "add") true := by
  unfold numberSlotInPython
  rw [dn_add, dn_radd]
  refine (PySem.W.looks_findIn X ha).andThen ?_
  intro A Q E s k q
  refine wpAny_bind (wpAny_pure ?_)
  refine wpAny_bind (PySem.W.looks_findIn X hr A _ E s k ?_)
  exact wpAny_bind (wpAny_pure (wpAny_pure q))
end
section
variable {prog : Program} {w : World} {A : Around} {E : Value → Shared → Prop} {s : Shared} {K : PySem.W.Frag} {C C' f : Addr}
theorem ra_type_none : typeLookup (.type "type") "__radd__" = pure none := by rw [typeLookup_type, builtinLookup_eq_fast]; kernel_rfl
theorem ra_hook : typeLookup (.type "type") "__getattr__" = pure none := by rw [typeLookup_type, builtinLookup_eq_fast]; kernel_rfl
theorem cls_data {cd : ClassData} (X : K.In s.heap) (e : PySem.W.clsIn K C' = some cd) {Q : ClassData → Shared → Prop} (h : Q cd s) : wpAny (model prog w) A (classData C') Q E s := (PySem.W.looks_clsIn X e).here h
theorem raise_str {α : Type} {msg : Str} {Q : α → Shared → Prop} (hh : A.handled = none) (hm : msg.length ≤ sizeLine)
    (h : ∀ h' tk e, Heap.NewExcOf s.heap h' e "AttributeError" → E (.ref e) { s with heap := h', toks := tk }) : wpAny (model prog w) A (raiseErrorStr "AttributeError" msg : Sem α) Q E s := by
  unfold raiseErrorStr
  refine wpAny_bind (wpAny_mkStr (wpAny_bind ?_) hm)
  unfold newExc newTuple
  refine wpAny_bind (wpAny_newObj_type ?_ (by size_fits))
  refine wpAny_bind (m := firstArgMember _ _) (wpAny_of_eq (a := Value.none) (by simp only [firstArgMember, attrError_no_first]; rfl) ?_)
  rw [ownMembersOf_AttributeError]
  refine wpAny_newObj_type ?_ (by size_fits)
  unfold raiseNew
  refine wpAny_bind (wpAny_handled ?_)
  rw [hh]
  first
    | refine wpAny_throw ?_
    | refine wpAny_bind (wpAny_pure (wpAny_throw ?_))
  refine h _ _ _ ⟨fun b ob hb => Heap.get?_push_of_some _ (Heap.get?_push_of_some _ hb), Heap.get?_none_of_le (by simp), ?_⟩
  exact ⟨_, _, Heap.get?_push_size _ rfl, rfl, rfl, rfl⟩
theorem tga_miss {tk : Tok} {cd : ClassData} {Q : Fin → Shared → Prop} (X : K.In s.heap) (hh : A.handled = none) (ht : PySem.W.typeIn K (.ref C') = some (.type "type")) (ho : PySem.W.nsIn K cStatics "thirdparty.any" = some none) (hc : PySem.W.clsIn K C' = some cd) (hn : cd.name = "Piece")
    (hr : PySem.W.findIn K (.ref C') "__radd__" = some none)
    (h : ∀ h' tk e, Heap.NewExcOf s.heap h' e "AttributeError" → E (.ref e) { s with heap := h', toks := tk }) : wpAny (model prog w) A (Builtin.«type.__getattribute__» ⟨[.ref C', .str "__radd__" tk], []⟩) Q E s := by
  have L1 : PySem.W.Looks (model prog w) s.heap (typeLookup (.type "type") "__radd__") none := by rw [ra_type_none]; exact .now
  unfold Builtin.«type.__getattribute__»
  refine wpAny_bind (wpAny_pure (wpAny_bind ((PySem.W.looks_opaque X ho).here (wpAny_bind ((PySem.W.looks_typeIn X ht).here (wpAny_bind (L1.here ?_)))))))
  refine wpAny_bind (wpAny_pure ?_)
  refine wpAny_bind ((PySem.W.looks_findIn X hr).here ?_)
  refine wpAny_bind (wpAny_rule ?_)
  refine wpAny_bind ?_
  unfold typeNameCut
  refine wpAny_bind (cls_data X hc ?_)
  rw [hn]
  show wpAny _ _ (if _ then _ else _) _ _ _
  rw [if_pos (by decide +kernel)]
  refine wpAny_pure ?_
  exact raise_str hh (by decide +kernel) h
theorem refl_no {Q : Bool → Shared → Prop} (X : K.In s.heap) (hh : A.handled = none) (ha : PySem.W.findIn K (.ref C) "__add__" = some (some (.ref f))) (hr : PySem.W.findIn K (.ref C) "__radd__" = some none)
    (ha' : PySem.W.findIn K (.ref C') "__add__" = some (some (.ref f))) (hr' : PySem.W.findIn K (.ref C') "__radd__" = some none)
    (ht : PySem.W.typeIn K (.ref C') = some (.type "type")) (ho : PySem.W.nsIn K cStatics "thirdparty.any" = some none) (hc : (PySem.W.clsIn K C').any (fun cd => cd.name == ("Piece" : Str)) = true)
    (h : ∀ h' tk, (∀ b o, s.heap.get? b = some o → h'.get? b = some o) → Q false { s with heap := h', toks := tk }) : wpAny (model prog w) A (reflectedDiffers (.ref C) (.ref C') "add") Q E s := by
  obtain ⟨cd, hc, hn⟩ := PySem.W.any_some hc
  have hn : cd.name = ("Piece" : Str) := by simpa using hn
  unfold reflectedDiffers
  rw [dn_radd]
  refine wpAny_bind ((inPy X ha hr).here ?_)
  simp only [Bool.not_true, Bool.false_eq_true, if_false]
  refine wpAny_bind ((inPy X ha' hr').here ?_)
  simp only [Bool.not_true, Bool.false_eq_true, if_false]
  refine wpAny_bind (wpAny_mkStr ?_ (by decide +kernel))
  refine wpAny_bind ?_
  unfold getAttrBy?
  refine wpAny_bind (wpAny_attempt ?_)
  unfold getAttrBy
  refine wpAny_holding ?_
  obtain ⟨hp, g, d, t, os⟩ := s
  dsimp only at X h ⊢
  refine wpAny_bind ((PySem.W.looks_typeIn X ht).at ?_)
  refine wpAny_bind ?_
  rw [PySem.W.KF.slot_tga.lookup]
  refine wpAny_pure ?_
  dsimp only
  rw [show (onTheHeap (.type "type") && Value.builtin "type.__getattribute__" == Value.builtin "object.__getattribute__") = false from rfl, if_neg (by decide)]
  unfold getAttrByItsOwn
  refine wpAny_bind ?_
  rw [show hookBefore (.type "type") = pure none from rfl]
  refine wpAny_pure (wpAny_bind (wpAny_attempt (wpAny_holding ?_)))
  unfold callGetattribute
  rw [show (false && onTheHeap (Value.builtin "type.__getattribute__")) = false from rfl, if_neg (by decide)]
  unfold boundAndCalled
  rw [PySem.W.KF.slot_tga.bind]
  refine wpAny_bind (wpAny_pure ?_)
  have hi : PySem.W.Looks (model prog w) hp (isSubtype (.type "type") (.type "type")) true := by rw [show isSubtype (.type "type") (.type "type") = pure true from by rw [isSubtype_type]; kernel_rfl]; exact .now
  show wpAny _ _ (call (.builtin "type.__getattribute__") [.ref C', .str "__radd__" t]) _ _ _
  refine wpAny_call ?_
  refine codeAny_call_builtin PySem.W.KF.slot_tga.plain PySem.W.KF.entry_tga ?_
  refine @PySem.W.check_slot (model prog w) _ _ ⟨hp, g, d, t + 1, os⟩ "type.__getattribute__" "type" "__getattribute__" (.ref C') [.str "__radd__" t] [] _ (by decide +kernel) (by decide +kernel) ((PySem.W.looks_typeIn X ht).andThen hi) (PySem.W.KF.args_tga (.ref C') (.str "__radd__" t)) ?_
  refine tga_miss (s := ⟨hp, g, d, t + 1, os⟩) X hh ht ho hc hn hr' fun h' tk e hx => ?_
  obtain ⟨ob, vs, he, hcls, _, _⟩ := hx.there
  show wpAny _ _ (getattributeRaised _ _ _ _ _ _ _) _ _ _
  unfold getattributeRaised
  refine wpAny_bind (wpAny_isInstance (T := "AttributeError") (b := true) ⟨_, he, hcls⟩ sub_AttributeError ?_)
  rw [if_pos rfl]
  refine wpAny_bind ?_
  rw [show hookBehind (.type "type") none = typeLookup (.type "type") "__getattr__" from rfl, ra_hook]
  refine wpAny_pure ?_
  show wpAny _ _ (attributeErrorLeaves _ _ _ false false) _ _ _
  unfold attributeErrorLeaves
  simp only [Bool.not_false, if_true]
  first
    | refine wpAny_throw ?_
    | refine wpAny_bind (wpAny_throw ?_)
  refine wpAny_bind (wpAny_isInstance (T := "AttributeError") (b := true) ⟨_, he, hcls⟩ sub_AttributeError ?_)
  rw [if_pos rfl]
  refine wpAny_pure ?_
  exact wpAny_pure (h _ _ hx.keeps)
end
end G57
set_option Elab.async false
set_option linter.all false
set_option maxRecDepth 100000
set_option maxHeartbeats 1000000
namespace G57
open PySem L2 PySem.Spec PyProof.Rows
section
variable {prog : Program} {w : World} {A : Around} {E : Value → Shared → Prop} {s : Shared} {K : PySem.W.Frag} {C C' x y f : Addr} {ox oy : Obj} {od od' : Option Obj}
theorem add_own {Q : Value → Shared → Prop} (X : K.In s.heap) (J : PySem.W.InstAt s.heap x ox C od) (J' : PySem.W.InstAt s.heap y oy C' od') (hm : (PySem.W.clsIn K C).any (fun cd => cd.mro.head? == some (.ref C)) = true) (hm' : (PySem.W.clsIn K C').any (fun cd => cd.mro.head? == some (.ref C')) = true)
    (ha : PySem.W.findIn K (.ref C) "__add__" = some (some (.ref f))) (hf : PySem.W.isFn K (.ref f) = true) (ha' : PySem.W.findIn K (.ref C') "__add__" = some (some (.ref f))) (hr : PySem.W.findIn K (.ref C) "__radd__" = some none) (hr' : PySem.W.findIn K (.ref C') "__radd__" = some none)
    (hh : A.handled = none) (hs : C = C' ∨ (C ≠ C' ∧ ∃ b, PySem.W.subIn K (.ref C') (.ref C) = some b ∧ (b = true → PySem.W.typeIn K (.ref C') = some (.type "type") ∧ PySem.W.nsIn K cStatics "thirdparty.any" = some none ∧ (PySem.W.clsIn K C').any (fun cd => cd.name == ("Piece" : Str)) = true)))
    (h : ∀ h' tk, (∀ b o, s.heap.get? b = some o → h'.get? b = some o) → wpAny (model prog w) A (call (.ref f) [.ref x, .ref y]) (PySem.W.CmpBack Q) E { s with heap := h', toks := tk }) : wpAny (model prog w) A (binaryOp .Add (.ref x) (.ref y)) Q E s := by
  have tm : ∀ h' tk, (∀ b o, s.heap.get? b = some o → h'.get? b = some o) → wpAny (model prog w) A (tryMethod (.ref x) "__add__" (.ref y)) (fun o s1 => ∃ v, o = some v ∧ Q v s1) E { s with heap := h', toks := tk } := fun h' tk kp => by
    unfold tryMethod
    unfold callSpecial?
    refine wpAny_bind (wpAny_bind ((J.type.andThen (PySem.W.looks_findIn X ha)) _ _ _ _ kp ?_))
    refine wpAny_holding (wpAny_bind ((PySem.W.bind_fn X _ (beq_iff_eq.mp hf)) _ _ _ _ kp ?_))
    refine wpAny_bind (wpAny_mono (h h' tk kp) (fun v s' hv => ?_) fun _ _ z => z)
    refine wpAny_pure ?_
    cases v <;> first | exact hv.elim | exact wpAny_pure ⟨_, rfl, hv⟩
  have one : wpAny (model prog w) A (binaryOp1 "add" (.ref x) (.ref y)) (fun o s1 => ∃ v, o = some v ∧ Q v s1) E s := by
    unfold binaryOp1
    rw [dn_add, dn_radd]
    refine wpAny_bind (J.type.here (wpAny_bind (J'.type.here (wpAny_bind ((fills X hm ha).here ?_)))))
    rcases hs with rfl | ⟨hne, hs⟩
    · have e : (Value.ref C == Value.ref C) = true := by simp
      simp only [e, if_true, Bool.true_and, Bool.false_eq_true, if_false]
      refine wpAny_bind (wpAny_pure ?_)
      simp only [Bool.false_eq_true, if_false, Bool.and_true, Bool.not_false]
      refine wpAny_bind (wpAny_pure ?_)
      simp only [Bool.false_eq_true, if_false]
      refine wpAny_bind (wpAny_mono (tm s.heap s.toks fun _ _ e => e) (fun o s1 z => ?_) fun _ _ z => z)
      obtain ⟨v, rfl, q⟩ := z
      exact wpAny_pure ⟨v, rfl, q⟩
    · obtain ⟨b, hs, hb⟩ := hs
      have e : (Value.ref C == Value.ref C') = false := by simpa using hne
      simp only [e, Bool.false_eq_true, if_false]
      refine wpAny_bind ((fills X hm' ha').here ?_)
      simp only [Bool.and_self, if_true]
      refine wpAny_bind ((PySem.W.looks_subIn X hs).here ?_)
      cases b with
      | false =>
        simp only [Bool.false_eq_true, if_false, Bool.not_false, Bool.and_self, if_true]
        refine wpAny_bind ((inPy X ha hr).here ?_)
        simp only [if_true]
        refine wpAny_bind ((inPy X ha' hr').here ?_)
        simp only [Bool.not_true, Bool.false_eq_true, if_false]
        refine wpAny_bind (wpAny_mono (tm s.heap s.toks fun _ _ e => e) (fun o s1 z => ?_) fun _ _ z => z)
        obtain ⟨v, rfl, q⟩ := z
        exact wpAny_pure ⟨v, rfl, q⟩
      | true =>
        obtain ⟨b1, b2, b3⟩ := hb rfl
        simp only [if_true]
        refine wpAny_bind (refl_no X hh ha hr ha' hr' b1 b2 b3 fun h' tk kp => ?_)
        simp only [Bool.false_eq_true, if_false, Bool.not_false, Bool.and_self, if_true]
        refine wpAny_bind ((inPy X ha hr) _ _ _ _ kp ?_)
        simp only [if_true]
        refine wpAny_bind ((inPy X ha' hr') _ _ _ _ kp ?_)
        simp only [Bool.not_true, Bool.false_eq_true, if_false]
        refine wpAny_bind (wpAny_mono (tm h' tk kp) (fun o s1 z => ?_) fun _ _ z => z)
        obtain ⟨v, rfl, q⟩ := z
        exact wpAny_pure ⟨v, rfl, q⟩
  unfold binaryOp
  refine wpAny_holding ?_
  show wpAny (model prog w) A (binaryOp1 "add" (.ref x) (.ref y) >>= _) Q E s
  refine wpAny_bind (wpAny_mono one (fun o s1 z => ?_) fun _ _ z => z)
  obtain ⟨v, rfl, q⟩ := z
  exact wpAny_pure q
end
section
variable {X : Cx}
theorem oopD_ok {CL CP f : Addr} {k : Nat} {fd : FuncData} {ps : List Str} {sp : Spec} (L : LongK X.K CL CP) (m0 : Meth X.K CL "__add__" f) (m1 : Meth X.K CP "__add__" f) (F : FnG X.prog X.w X.K X.mg X.base k f fd ps (liftSp X.K ps.length sp))
    (hcm : X.calm = true) (hr : Room k X.A) (hgd : X.A.guards = some []) (hb : Binds X.K fd ps []) (hlen : ∀ ds S Q, sp ds S Q → ds.length = ps.length) : OpR X (binaryOp .Add) (liftR2 X.K (oopD sp)) := by
  intro pins s σ H x y v u Q I rx ry ⟨a, b, S, Qd, ra, rb, so, ⟨hx, h⟩, l⟩
  have hxy : ∃ c d c' d', a = .obj c d ∧ b = .obj c' d' := by
    cases a <;> cases b <;> first | exact ⟨_, _, _, _, rfl, rfl⟩ | cases hx
  obtain ⟨c, d, c', d', rfl, rfl⟩ := hxy
  have ra0 := ra
  have rb0 := rb
  obtain ⟨p, C, dx, w, rfl, hc, ea, rw_⟩ := ra.obj_inv
  obtain ⟨q, C', dx', w', rfl, hc', eb, rw'⟩ := rb.obj_inv
  obtain rfl : v = Value.ref p := rx
  obtain rfl : u = Value.ref q := ry
  obtain ⟨lc, hC⟩ := L.lc hc
  obtain ⟨lc', hC'⟩ := L.lc hc'
  have hm : Meth X.K C "__add__" f := by rcases hC with rfl | rfl <;> assumption
  have hm' : Meth X.K C' "__add__" f := by rcases hC' with rfl | rfl <;> assumption
  obtain ⟨ox, od, J⟩ := inst_of I ea
  obtain ⟨oy, od', J'⟩ := inst_of I eb
  have hne : CL ≠ CP := fun e => by
    have h1 := L.s10
    have h2 := L.s01
    rw [e] at h1 h2
    rw [h1] at h2
    cases h2
  have hs : C = C' ∨ (C ≠ C' ∧ ∃ b, PySem.W.subIn X.K (.ref C') (.ref C) = some b ∧ (b = true → PySem.W.typeIn X.K (.ref C') = some (.type "type") ∧ PySem.W.nsIn X.K cStatics "thirdparty.any" = some none ∧ (PySem.W.clsIn X.K C').any (fun cd => cd.name == ("Piece" : Str)) = true)) := by
    cases c with
    | zero =>
      have e1 := clsAt_uni hc L.a0
      cases c' with
      | zero => exact .inl (e1.trans (clsAt_uni hc' L.a0).symm)
      | succ n =>
        obtain rfl : n = 0 := by have := hc'.1; omega
        have e2 := clsAt_uni (c := 1) hc' L.a1
        subst e1 e2
        exact .inr ⟨hne, true, L.s10, fun _ => ⟨L.tp, L.op, L.np⟩⟩
    | succ n =>
      obtain rfl : n = 0 := by have := hc.1; omega
      have e1 := clsAt_uni (c := 1) hc L.a1
      cases c' with
      | zero =>
        have e2 := clsAt_uni hc' L.a0
        subst e1 e2
        exact .inr ⟨Ne.symm hne, false, L.s01, fun z => by cases z⟩
      | succ m =>
        obtain rfl : m = 0 := by have := hc'.1; omega
        exact .inl (e1.trans (clsAt_uni (c := 1) hc' L.a1).symm)
  refine add_own I.kIn J J' lc.mr lc'.mr hm.at_ hm.fn hm'.at_ lc.ra lc'.ra (I.ok.hd hcm) hs (fun h' tk kp => wpAny_mono (call_g (us := [.ref p, .ref q]) (vs := [.ref p, .ref q]) (Q := Q) F hr hgd hb (I.kept (t' := tk) kp) (.cons rfl (.cons rfl .nil)) (liftSp_of (hlen _ _ _ h) (.cons ra0 (.cons rb0 .nil)) so h l)) (fun v s1 z => by
    obtain ⟨z', H', I', rz, qz⟩ := z
    exact SlX.cmpback rz ⟨z', H', I', rz, qz⟩) fun _ _ z => z)
end
end G57
set_option Elab.async false
set_option linter.all false
set_option maxRecDepth 100000
set_option maxHeartbeats 1000000
namespace G57
open PySem L2 PySem.Spec PyProof.Rows
structure Good (X : Cx) (Γ : Gam) (Φ : Tab) (k : Nat) : Prop where
  hN : X.N = Γ.N
  sc : X.env.scope = Γ.sc
  nd : Γ.N.Nodup
  kd : Γ.sc.kind = .function
  calm : X.calm = true
  room : Room k X.A
  gd : X.A.guards = some []
  own : PassesOwn (model X.prog X.w) X.A X.env X.xe
  st : ∀ x ∈ Γ.st, Loc Γ.sc x ∧ (X.fn x = true ∨ Γ.sc.names.lookup x = some .local)
  bs : ∀ x ∈ Γ.bs, X.mg x = none
  fs : ∀ f i sp, vix Γ.fs f = some i → Φ i = some sp → Cal X.prog X.w X.K X.mg X.base k f sp
  cs : ∀ x d, Γ.cs.lookup x = some d → ∃ v u, X.mg x = some u ∧ RelV v u ∧ ∀ H, Rep X.K H d v
  dg : PySem.W.nsIn X.K cStatics "sys.int_max_str_digits" = some none
theorem two {α β γ : Type} {a : Option α} {b : Option β} {f : α → β → γ} {c : γ} (h : opt2 a b f = some c) : ∃ x y, a = some x ∧ b = some y ∧ c = f x y := by
  cases a with
  | none => cases h
  | some x => cases b with
    | none => cases h
    | some y => cases h; exact ⟨x, y, rfl, rfl, rfl⟩
theorem three {α β δ γ : Type} {a : Option α} {b : Option β} {d : Option δ} {f : α → β → δ → γ} {c : γ} (h : opt3 a b d f = some c) : ∃ x y z, a = some x ∧ b = some y ∧ d = some z ∧ c = f x y z := by
  cases a with
  | none => cases h
  | some x => cases b with
    | none => cases h
    | some y => cases d with
      | none => cases h
      | some z => cases h; exact ⟨x, y, z, rfl, rfl, rfl, rfl⟩
theorem lc_inv {Γ : Gam} {scope : Scope} {own : Option (List (Str × Nat))} {p : Option Pt} {i c x : Option Ex} {ir : Ex} (h : optLc Γ scope own p i c x = some ir) :
    ∃ o p' i' c' x', own = some o ∧ p = some p' ∧ i = some i' ∧ c = some c' ∧ x = some x' ∧ blkC Γ.N Γ.sc scope o = true ∧ ir = .lc (o.map (·.2)) p' i' c' x' := by
  unfold optLc at h
  split at h
  · split at h
    · cases h; exact ⟨_, _, _, _, _, rfl, rfl, rfl, rfl, rfl, by assumption, rfl⟩
    · cases h
  · cases h
theorem vix_get : ∀ {N : List Str} {x : Str} {i : Nat}, vix N x = some i → N[i]? = some x
  | [], _, _, h => by simp [vix] at h
  | y :: ys, x, i, h => by
    unfold vix at h
    by_cases e : y = x
    · rw [if_pos e] at h; cases h; simp [e]
    · rw [if_neg e] at h
      obtain ⟨j, e2, rfl⟩ := Option.map_eq_some_iff.mp h
      rw [List.getElem?_cons_succ]
      exact vix_get e2
theorem vis_of {sc : Scope} {x : Str} (h : visB sc x = true) : Vis sc x := by
  unfold visB at h
  split at h
  · exact .inl (by assumption)
  · exact .inr (.inl (by assumption))
  · exact .inr (.inr (by assumption))
  · cases h
theorem gl_of {sc : Scope} {x : Str} (h : glB sc x = true) : sc.names.lookup x = some .globalImplicit := by
  unfold glB at h
  split at h
  · assumption
  · cases h
theorem plain_of {x : Str} (h : plainName x = true) : (x == ("__debug__" : Str)) = false ∧ (x == ("__classdict__" : Str)) = false ∧ x ≠ ("__name__" : Str) := by
  unfold plainName at h
  simp only [Bool.and_eq_true, Bool.not_eq_true'] at h
  exact ⟨h.1.1.2, h.1.2, by have := h.2; exact fun e => by rw [e] at this; simp at this⟩
theorem plain_bang {x : Str} (h : plainName x = true) : banged x = false := by
  unfold plainName at h
  simp only [Bool.and_eq_true, Bool.not_eq_true'] at h
  exact h.1.1.1.1
theorem bang_bangN (m : Str) : banged (bangN m) = true := by
  unfold banged bangN
  simp [Array.getElem?_append]
theorem bang_dotN (m : Str) : banged (dotN m) = false := by
  unfold banged dotN
  simp [Array.getElem?_append]
theorem bangN_inj {m m' : Str} (h : bangN m = bangN m') : m = m' := by
  unfold bangN at h
  injection h with h
  cases m; cases m'
  have := congrArg Array.toList h
  simp only [Array.toList_append, List.append_cancel_left_eq] at this
  rw [Array.toList_inj.mp this]
theorem no_bang {x y : Str} {P : Prop} (h : x = bangN y) (hb : banged x = false) : P := by
  rw [h, bang_bangN] at hb
  cases hb
theorem plain_dot {x : Str} (h : plainName x = true) : dotted x = false := by
  unfold plainName at h
  simp only [Bool.and_eq_true, Bool.not_eq_true'] at h
  exact h.1.1.1.2
theorem star_cons {e : Expr} {es : List Expr} {env : Env} (h : starry e = false) : starEach (e :: es) env = (false, eval e env) :: starEach es env := by
  cases e <;> first | rfl | (simp [starry] at h)
theorem trA_star {n : Nat} {Γ : Gam} {e : Expr} {es : List Expr} {ir : Ex} (h : trA n Γ (e :: es) = some ir) : starry e = false := by
  cases n with
  | zero => simp [trA] at h
  | succ n =>
    simp only [trA] at h
    cases z : starry e with
    | false => rfl
    | true => rw [z] at h; simp at h
theorem trA_any : ∀ {es : List Expr} {n : Nat} {Γ : Gam} {ir : Ex} {env : Env} {pos : Pos}, trA n Γ es = some ir → (backTo pos (starEach es env)).any (·.1) = false
  | [], _, _, _, _, _, _ => rfl
  | e :: es, 0, _, _, _, _, h => by simp [trA] at h
  | e :: es, n + 1, Γ, ir, env, pos, h => by
    have hs := trA_star h
    simp only [trA, hs, Bool.false_eq_true, if_false] at h
    rw [star_cons hs]
    obtain ⟨x, y, h1, h2, _⟩ := two h
    show ((backTo pos [(false, eval e env)]).any (·.1) || (backTo pos (starEach es env)).any (·.1)) = false
    rw [trA_any h2]
    rfl
theorem trA_all {es : List Expr} {n : Nat} {Γ : Gam} {ir : Ex} {env : Env} {pos : Pos} (h : trA n Γ es = some ir) : (backTo pos (starEach es env)).all (fun x => !x.1) = true := by
  have := trA_any (env := env) (pos := pos) h
  rw [List.all_eq_not_any_not]
  simp only [Bool.not_not]
  rw [this]; rfl
theorem trA_tail {e : Expr} {es : List Expr} {n : Nat} {Γ : Gam} {ir : Ex} {env : Env} {pos : Pos} (h : trA n Γ (e :: es) = some ir) : (backTo pos (starEach es env)).any (·.1) = false := by
  have := trA_any (env := env) (pos := pos) h
  rw [star_cons (trA_star h)] at this
  have z : (false || (backTo pos (starEach es env)).any (·.1)) = false := this
  simpa using z
theorem plainIx_of {n : Nat} {Γ : Gam} {b : Expr} {ir : Ex} (h : trE n Γ b = some ir) : PlainIx b := by
  intro o i
  cases b <;> first | rfl | (cases n <;> simp [trE] at h)
theorem folded_of {e : Expr} {env : Env} (h : setish e = false) : ∀ x, foldedSetIterable e env x = pure x := by
  intro x
  cases e <;> first | rfl | (simp [setish] at h)
theorem marks_of {op : CmpOp} {b : Expr} (h : setish b = false) : behindInMarks op b = false := by
  cases b <;> first | rfl | (simp [setish] at h)
theorem lmarks_of {o1 o2 : CmpOp} {b c : Expr} (h : setish c = false) : lastMarks [o1, o2] [b, c] = false := by
  show behindInMarks o2 c = false
  exact marks_of h
theorem base_of {o : Expr} {attr : Str} {env : Env} {whole : Sem Value} (h : superish o = false) : attributeBase o attr env whole = whole := by
  cases o <;> try rfl
  rename_i f as ks pos
  cases f <;> try rfl
  cases as <;> try rfl
  cases ks <;> first | rfl | (simp [superish] at h)
def ptLen : Pt → Nat
  | .cons _ r => ptLen r + 1
  | _ => 0
theorem wpPs_length : ∀ (p : Pt) (ds : List D) (S : Sto) (env : En) (Q : En → Prop), wpPs p ds S env Q → ds.length = ptLen p
  | .nil, [], _, _, _, _ => rfl
  | .nil, _ :: _, _, _, _, h => by simp [wpPs] at h
  | .cons a r, [], _, _, _, h => by simp [wpPs] at h
  | .v _, ds, _, _, _, h => by cases ds <;> simp [wpPs] at h
  | .t _, ds, _, _, _, h => by cases ds <;> simp [wpPs] at h
  | .cons a r, d :: ds, S, env, Q, h => by
    simp only [wpPs] at h
    have key : ∀ (q : Pt) (d : D) (S : Sto) (env : En) (R : En → Prop), wpP q d S env R → ∃ env', R env' := by
      intro q
      have both : (∀ (d : D) (S : Sto) (env : En) (R : En → Prop), wpP q d S env R → ∃ env', R env') ∧ ∀ (ds : List D) (S : Sto) (env : En) (R : En → Prop), wpPs q ds S env R → ∃ env', R env' := by
        induction q with
        | v i => exact ⟨fun d S env R h => ⟨_, h⟩, fun ds S env R h => by cases ds <;> simp [wpPs] at h⟩
        | t p ih => exact ⟨fun d S env R h => by simp only [wpP] at h; obtain ⟨ds, _, h⟩ := h; exact ih.2 ds S env R h, fun ds S env R h => by cases ds <;> simp [wpPs] at h⟩
        | nil => exact ⟨fun d S env R h => by simp [wpP] at h, fun ds S env R h => by
            cases ds with
            | nil => exact ⟨env, by simpa [wpPs] using h⟩
            | cons _ _ => simp [wpPs] at h⟩
        | cons a r ih1 ih2 => exact ⟨fun d S env R h => by simp [wpP] at h, fun ds S env R h => by
            cases ds with
            | nil => simp [wpPs] at h
            | cons d ds =>
              simp only [wpPs] at h
              obtain ⟨env', h'⟩ := ih1.1 d S env _ h
              exact ih2.2 ds S env' R h'⟩
      exact both.1
    obtain ⟨env', h'⟩ := key a d S env _ h
    rw [List.length_cons, wpPs_length r ds S env' Q h']
    rfl
end G57
set_option Elab.async false
set_option linter.all false
set_option maxRecDepth 100000
set_option maxHeartbeats 1000000
namespace G57
open PySem L2 PySem.Spec PyProof.Rows
theorem pt_plain {n : Nat} {Γ : Gam} {e : Expr} {p : Pt} (h : ptOf n Γ e = some p) : starry e = false := by
  cases n with
  | zero => simp [ptOf] at h
  | succ n => cases e <;> first | rfl | simp [ptOf] at h
theorem each_cons {e : Expr} {es : List Expr} {env : Env} (h : starry e = false) : assignEach (e :: es) env = (false, assign e env) :: assignEach es env := by
  cases e <;> first | rfl | (simp [starry] at h)
theorem pt_snd : ∀ (n : Nat) {X : Cx} {Γ : Gam} {Φ : Tab} {k : Nat} {tg : Expr} {p : Pt}, Good X Γ Φ k → ptOf n Γ tg = some p → PG X tg (liftG X.K p)
  | 0, _, _, _, _, _, _, _, h => by simp [ptOf] at h
  | n + 1, X, Γ, Φ, k, tg, p, g, h => by
    have lists : ∀ (es : List Expr) (q : Pt), es.foldr (fun e r => match ptOf n Γ e, r with | some a, some b => some (.cons a b) | _, _ => none) (some .nil) = some q →
        PGs X es (liftGs X.K q) ∧ (assignEach es X.env).length = es.length ∧ (assignEach es X.env).findIdx? (·.1) = none ∧ ptLen q = es.length := by
      intro es
      induction es with
      | nil => intro q h; cases h; exact ⟨qgs_nil, rfl, rfl, rfl⟩
      | cons e es ih =>
        intro q h
        rw [List.foldr_cons] at h
        cases h1 : ptOf n Γ e with
        | none => rw [h1] at h; cases h
        | some a =>
          rw [h1] at h
          cases h2 : es.foldr (fun e r => match ptOf n Γ e, r with | some a, some b => some (Pt.cons a b) | _, _ => none) (some .nil) with
          | none => rw [h2] at h; cases h
          | some b =>
            rw [h2] at h; cases h
            obtain ⟨i1, i2, i3, i4⟩ := ih b h2
            have hs := pt_plain h1
            refine ⟨qgs_cons (pt_snd n g h1) i1 (by rw [each_cons hs]; rfl), by rw [each_cons hs, List.length_cons, i2, List.length_cons], ?_, by rw [List.length_cons, ← i4]; rfl⟩
            rw [each_cons hs, List.findIdx?_cons, i3]
            rfl
    cases tg with
    | Name x pos =>
      simp only [ptOf] at h
      split at h
      · rename_i hc
        rw [Bool.and_eq_true] at hc
        obtain ⟨i, e1, rfl⟩ := Option.map_eq_some_iff.mp h
        obtain ⟨s1, s2⟩ := g.st x (by simpa using hc.1)
        exact qg_name (by rw [g.hN]; exact g.nd) (by rw [g.hN]; exact vix_get e1) (by rw [g.sc]; exact s1) (by rw [g.sc]; exact s2)
      · cases h
    | Tuple es kk pos =>
      simp only [ptOf] at h
      obtain ⟨q, e1, rfl⟩ := Option.map_eq_some_iff.mp h
      obtain ⟨i1, i2, i3, i4⟩ := lists es q e1
      exact qg_tup (n := es.length) g.calm i1 i2 i3 fun ds S env Qe hw => (wpPs_length q ds S env Qe hw).trans i4
    | _ => simp [ptOf] at h
theorem own_places : ∀ (n : Nat) {Γ Δ : Gam} {tg : Expr} {p : Pt} {own : List (Str × Nat)}, Γ.N = Δ.N → ptOf n Δ tg = some p → ownOf n Γ tg = some own → ∀ i ∈ places p, i ∈ own.map (·.2)
  | 0, _, _, _, _, _, _, h, _ => by simp [ptOf] at h
  | n + 1, Γ, Δ, tg, p, own, eN, h, ho => by
    have lists : ∀ (es : List Expr) (q : Pt) (ow : List (Str × Nat)), es.foldr (fun e r => match ptOf n Δ e, r with | some a, some b => some (.cons a b) | _, _ => none) (some .nil) = some q →
        es.foldr (fun e r => match ownOf n Γ e, r with | some a, some b => some (a ++ b) | _, _ => none) (some []) = some ow → ∀ i ∈ places q, i ∈ ow.map (·.2) := by
      intro es
      induction es with
      | nil => intro q ow h _ i hi; cases h; simp [places] at hi
      | cons e es ih =>
        intro q ow h ho i hi
        rw [List.foldr_cons] at h ho
        cases h1 : ptOf n Δ e with
        | none => rw [h1] at h; cases h
        | some a =>
          rw [h1] at h
          cases h2 : es.foldr (fun e r => match ptOf n Δ e, r with | some a, some b => some (Pt.cons a b) | _, _ => none) (some .nil) with
          | none => rw [h2] at h; cases h
          | some b =>
            rw [h2] at h; cases h
            cases o1 : ownOf n Γ e with
            | none => rw [o1] at ho; cases ho
            | some a' =>
              rw [o1] at ho
              cases o2 : es.foldr (fun e r => match ownOf n Γ e, r with | some a, some b => some (a ++ b) | _, _ => none) (some []) with
              | none => rw [o2] at ho; cases ho
              | some b' =>
                rw [o2] at ho; cases ho
                simp only [places, List.mem_append] at hi
                rw [List.map_append, List.mem_append]
                rcases hi with hi | hi
                · exact .inl (own_places n eN h1 o1 i hi)
                · exact .inr (ih b b' h2 o2 i hi)
    cases tg with
    | Name x pos =>
      simp only [ptOf] at h
      simp only [ownOf] at ho
      split at h
      · obtain ⟨i, e1, rfl⟩ := Option.map_eq_some_iff.mp h
        obtain ⟨j, e2, rfl⟩ := Option.map_eq_some_iff.mp ho
        rw [eN, e1] at e2; cases e2
        intro z hz
        simpa [places] using hz
      · cases h
    | Tuple es kk pos =>
      simp only [ptOf] at h
      simp only [ownOf] at ho
      obtain ⟨q, e1, rfl⟩ := Option.map_eq_some_iff.mp h
      exact lists es q own e1 ho
    | _ => simp [ptOf] at h
theorem good_blk {X : Cx} {Γ : Gam} {Φ : Tab} {k : Nat} (g : Good X Γ Φ k) {scope : Scope} {own : List (Str × Nat)} (ok : BlkOk X.N X.env.scope scope own) (s : Shared) (H : Hp) (C : Addr) (cl : List (Str × Addr)) (fp : List Addr) :
    Good (X.blk s H scope (compEnvC scope cl C X.env) fp) (blk Γ scope) Φ k where
  hN := g.hN
  sc := by
    show relS scope X.env.scope = relS scope Γ.sc
    rw [g.sc]
  nd := g.nd
  kd := ok.kind
  calm := g.calm
  room := g.room
  gd := g.gd
  own := PassesOwn.never
  st := fun x hx => by
    obtain ⟨y, hy, rfl⟩ := List.mem_map.mp hx
    obtain ⟨hm, hk⟩ := List.mem_filter.mp hy
    have hu := ok.uniq y hm
    have hk' : y.2 = .local ∨ y.2 = .cell := by
      rcases Bool.or_eq_true_iff.mp hk with z | z
      · exact .inl (by revert z; cases y.2 <;> decide)
      · exact .inr (by revert z; cases y.2 <;> decide)
    have nf : y.2 ≠ .free := by rcases hk' with z | z <;> (rw [z]; decide)
    have lk : (relS scope Γ.sc).names.lookup y.1 = some y.2 := lookup_relS_keep nf hu
    rcases hk' with z | z
    · rw [z] at lk; exact ⟨.inl lk, .inr lk⟩
    · rw [z] at lk hu
      exact ⟨.inr lk, .inl (by show (scope.names.lookup y.1 == some .cell) = true; rw [hu]; decide)⟩
  bs := g.bs
  fs := g.fs
  cs := g.cs
  dg := g.dg
end G57
set_option Elab.async false
set_option linter.all false
set_option maxRecDepth 100000
set_option maxHeartbeats 2000000
namespace G57
open PySem L2 PySem.Spec PyProof.Rows
structure Snd (n : Nat) : Prop where
  e : ∀ {X : Cx} {Γ : Gam} {Φ : Tab} {k : Nat} {e : Expr} {ir : Ex}, Good X Γ Φ k → trE n Γ e = some ir → QE X e (wpE Φ ir)
  t : ∀ {X : Cx} {Γ : Gam} {Φ : Tab} {k : Nat} {e : Expr} {ir : Ex}, Good X Γ Φ k → trE n Γ e = some ir → QT X e (wpT Φ ir)
  w : ∀ {X : Cx} {Γ : Gam} {Φ : Tab} {k : Nat} {op : BoolOp} {es : List Expr} {p : Pos} {ir : Ex}, Good X Γ Φ k → trE n Γ (.BoolOp op es p) = some ir → QW X (.BoolOp op es p) (wpT Φ ir)
  a : ∀ {X : Cx} {Γ : Gam} {Φ : Tab} {k : Nat} {es : List Expr} {ir : Ex}, Good X Γ Φ k → trA n Γ es = some ir → QA X es (wpA Φ ir)
  o : ∀ {X : Cx} {Γ : Gam} {Φ : Tab} {k : Nat} {e : Option Expr} {ir : Ex}, Good X Γ Φ k → trO n Γ e = some ir → PO X e (liftO X.K (wpO Φ ir))
  c : ∀ {X : Cx} {Γ : Gam} {Φ : Tab} {k : Nat} {es : List Expr} {ir : Ex}, Good X Γ Φ k → trC n Γ es = some ir → PTs X es (liftT X.K (wpC Φ ir))
  i : ∀ {X : Cx} {Γ : Gam} {Φ : Tab} {k : Nat} {tg e : Expr} {ir : Ex}, Good X Γ Φ k → trI n Γ (tupleT tg) e = some ir → QI X tg e (wpI Φ ir)
  j : ∀ {X : Cx} {Γ : Gam} {Φ : Tab} {k : Nat} {es : List Expr} {ir : Ex}, Good X Γ Φ k → trJ n Γ es = some ir → QJ X es (wpJ Φ ir)
theorem no_t {X : Cx} {e : Expr} : QT X e (fun _ _ _ => False) := ⟨fun _ _ _ _ _ _ ⟨_, _, _, _, _, h, _⟩ => h.elim⟩
section
variable {X : Cx} {Γ : Gam} {Φ : Tab} {k : Nat}
theorem Good.units (g : Good X Γ Φ k) : X.A.units + 64 < cLine := g.room.units
theorem Good.gl (g : Good X Γ Φ k) {x : Str} (h : glB Γ.sc x = true) : Gl X x := by
  show X.env.scope.names.lookup x = some .globalImplicit
  rw [g.sc]; exact gl_of h
theorem opD_ok (op : Operator) : OpR X (binaryOp op) (liftR2 X.K (opD op)) := by
  cases op with
  | Add => exact addD_ok
  | Sub => exact subD_ok
  | Mult => exact mulD_ok
  | FloorDiv => exact fdivD_ok
  | Mod => exact modD_ok
  | Pow => exact powD_ok
  | _ => exact fun pins s σ H x y v u Q I rx ry ⟨_, _, _, _, _, _, _, h, _⟩ => h.elim
theorem snd_name (g : Good X Γ Φ k) {n : Nat} {x : Str} {p : Pos} {ir : Ex} (h : trE (n + 1) Γ (.Name x p) = some ir) : QE X (.Name x p) (wpE Φ ir) := by
  simp only [trE] at h
  split at h
  · cases h
  · rename_i hp
    obtain ⟨p1, p2, p3⟩ := plain_of (by simpa using hp)
    split at h
    · rename_i hv
      obtain ⟨i, e1, rfl⟩ := Option.map_eq_some_iff.mp h
      simp only [wpE]
      exact q_var (by rw [g.hN]; exact vix_get e1) (by rw [g.sc]; exact vis_of hv) p1 p2
    · split at h
      · rename_i hg
        obtain ⟨d, e1, rfl⟩ := Option.map_eq_some_iff.mp h
        obtain ⟨v, u, e2, r, rd⟩ := g.cs x d e1
        simp only [wpE]
        exact q_con (pe_glob (g.gl hg) e2 r p1) rd
      · cases h
theorem kitB_of {k T : String} (hk : k ∈ ["NoneType", "bool", "int", "str", "tuple", "list"]) (hT : T ∈ ["int", "bool", "str", "tuple", "list"]) : kitB k T = some (isK k T) := by
  have : ∀ k ∈ ["NoneType", "bool", "int", "str", "tuple", "list"], ∀ T ∈ ["int", "bool", "str", "tuple", "list"], kitB k T = some (isK k T) := by decide +kernel
  exact this k hk T hT
theorem kind_mem {S : Sto} {d : D} {k : String} (h : kindD S d = some k) : k ∈ ["NoneType", "bool", "int", "str", "tuple", "list"] := by
  cases d with
  | ref p =>
    simp only [kindD] at h
    split at h
    · cases h; simp
    · cases h
  | obj _ _ => simp [kindD] at h
  | _ => simp only [kindD] at h; cases h; simp
theorem ty_rep {K : PySem.W.Frag} {H : Hp} {S : Sto} (so : StoOk K H S) {d : D} {v : V} {k : String} (r : Rep K H d v) (h : kindD S d = some k) : TyX K H v (.type k) := by
  cases d with
  | non => simp only [Rep] at r; simp only [kindD] at h; cases h; subst r; exact .base .non
  | bl b => simp only [Rep] at r; simp only [kindD] at h; cases h; subst r; exact .base (.bl b)
  | int i => simp only [Rep] at r; simp only [kindD] at h; cases h; subst r; exact .base (.int i)
  | str x => simp only [Rep] at r; simp only [kindD] at h; cases h; subst r; exact .base (.str _)
  | tup ds =>
    simp only [kindD] at h; cases h
    obtain ⟨a, vs, rfl, q, _⟩ := r.tup_inv
    rcases q with (q | ⟨o, q⟩) | ⟨o, _, _, q, c, _⟩
    · exact .base (.tup q)
    · exact .fTuple q
    · exact .kTuple q c
  | rol ds =>
    simp only [kindD] at h; cases h
    obtain ⟨a, vs, rfl, q, _⟩ := r.rol_inv
    rcases q.sq with (q | ⟨o, q⟩) | ⟨o, _, _, q, c, _⟩
    · exact .base (.lst q)
    · exact .base (.frz q)
    · exact .kList q c
  | ref p =>
    simp only [Rep] at r
    subst r
    simp only [kindD] at h
    split at h
    · rename_i es e
      cases h
      obtain ⟨vs, q, _⟩ := so p _ e
      exact .base (.lst q)
    · cases h
  | obj c d => simp [kindD] at h
theorem isi_inv {Γ : Gam} {as : List Expr} {b : Bi} (h : isiOf Γ as = some b) : ∃ T p, as = [.Name T p] ∧ T ∈ tyNames ∧ glB Γ.sc T = true ∧ T ∈ Γ.bs ∧ b = .isi (tyStr T) := by
  unfold isiOf at h
  split at h
  · split at h
    · rename_i T p hc
      cases h
      simp only [Bool.and_eq_true, List.contains_iff_mem] at hc
      exact ⟨T, p, rfl, hc.1.1, hc.1.2, hc.2, rfl⟩
    · cases h
  · cases h
theorem bt_isi : bootBuiltins "isinstance" = some (.builtin "isinstance") := by decide +kernel
theorem bt_ty {T : Str} (h : T ∈ tyNames) : bootBuiltins T = some (.type (tyStr T)) ∧ T ≠ "__name__" ∧ (T == ("__debug__" : Str)) = false ∧ tyStr T ∈ ["int", "bool", "str", "tuple", "list"] := by
  have : ∀ T ∈ tyNames, bootBuiltins T = some (.type (tyStr T)) ∧ T ≠ "__name__" ∧ (T == ("__debug__" : Str)) = false ∧ tyStr T ∈ ["int", "bool", "str", "tuple", "list"] := by decide +kernel
  exact this T h
theorem q_isi (g : Good X Γ Φ k) {a : Expr} {ta : TD} {T : Str} {p p2 pos : Pos} (hT : T ∈ tyNames) (hg : Gl X "isinstance") (hm : X.mg "isinstance" = none) (hgT : Gl X T) (hmT : X.mg T = none) (ha : QE X a ta)
    (he : starEach [a, .Name T p2] X.env = (false, eval a X.env) :: starEach [.Name T p2] X.env) :
    QE X (.Call (.Name "isinstance" p) [a, .Name T p2] [] pos) (fun env S Q => ta env S fun x S1 => isiD (tyStr T) [x] S1 Q) := by
  obtain ⟨b1, b2, b3, b4⟩ := bt_ty hT
  have hty : PE X (.Name T p2) (tC (.ty (tyStr T))) := pe_bltn hgT hmT b1 rfl b2 b3
  refine (pe_callB call_isi hg hm bt_isi (pa_cons ha (pa_cons hty pa_nil rfl) he) (by decide) (by decide) he rfl).weak fun σ H Q ⟨env, S, Qd, re, so, h, l⟩ => ?_
  refine ⟨env, S, _, re, so, h, fun x S1 v H1 h1 k1 r1 s1 => ?_⟩
  obtain ⟨kk, e1, h1⟩ := h1
  exact ⟨v, .ty (tyStr T), .type kk, .type (tyStr T), isK kk (tyStr T), rfl, .ty _, ty_rep s1 r1 e1, kit_ty (kitB_of (kind_mem e1) b4), l _ S1 _ H1 h1 k1 .bl s1⟩
theorem dot_dotN (m : Str) : dotted (dotN m) = true := by
  unfold dotted dotN
  simp [Array.getElem?_append]
theorem dotN_inj {m m' : Str} (h : dotN m = dotN m') : m = m' := by
  unfold dotN at h
  injection h with h
  cases m; cases m'
  have := congrArg Array.toList h
  simp only [Array.toList_append, List.append_cancel_left_eq] at this
  rw [Array.toList_inj.mp this]
theorem Good.long (g : Good X Γ Φ k) {i : Nat} {sp : Spec} (h : vix Γ.fs "Long" = some i) (hs : Φ i = some sp) : ∃ CL CP, LongK X.K CL CP ∧ X.mg "Long" = some (.ref CL) := by
  cases g.fs _ i sp h hs with
  | fn hx ex => exact absurd hx.2.1 (fun z => z rfl)
  | mk hx ex =>
    obtain ⟨CL, CP, C, c, ff, fd, ps, j, hj, L, hC, m1, _⟩ := ex
    exact ⟨CL, CP, L, by rw [m1, hC rfl]⟩
  | me m hx _ _ => have := congrArg dotted hx; rw [dot_dotN] at this; cases this
  | pr hx _ => have := congrArg dotted hx; rw [dot_dotN] at this; cases this
  | fx y hx hy _ => exact no_bang hx (by decide)
  | mx m hx _ _ => exact no_bang hx (by decide)
  | ek c hx _ _ => exact no_bang hx (by decide)
theorem rng_inv {f : Str} {a : Expr} {as : List Expr} (h : rngB Γ f a as = true) : (f = "tuple" ∨ f = "list") ∧ f ∈ Γ.bs ∧ as = [] ∧ ∃ g' gp b gpos, a = .Call (.Name g' gp) [b] [] gpos ∧ g' = "range" ∧ glB Γ.sc g' = true ∧ g' ∈ Γ.bs ∧ starry b = false := by
  unfold rngB at h
  simp only [Bool.and_eq_true, Bool.or_eq_true, decide_eq_true_eq, List.contains_iff_mem, List.isEmpty_iff] at h
  obtain ⟨⟨⟨h1, h2⟩, h3⟩, h4⟩ := h
  refine ⟨h1, h2, h3, ?_⟩
  split at h4
  · simp only [Bool.and_eq_true, decide_eq_true_eq, List.contains_iff_mem, Bool.not_eq_true'] at h4
    exact ⟨_, _, _, _, rfl, h4.1.1.1, h4.1.1.2, h4.1.2, h4.2⟩
  · cases h4
theorem set_inv {f : Str} {a : Expr} {as : List Expr} (h : setB Γ f a as = true) : f = "sorted" ∧ f ∈ Γ.bs ∧ as = [] ∧ ∃ g' gp b gpos, a = .Call (.Name g' gp) [b] [] gpos ∧ g' = "set" ∧ glB Γ.sc g' = true ∧ g' ∈ Γ.bs ∧ starry b = false := by
  unfold setB at h
  simp only [Bool.and_eq_true, decide_eq_true_eq, List.contains_iff_mem, List.isEmpty_iff] at h
  obtain ⟨⟨⟨h1, h2⟩, h3⟩, h4⟩ := h
  refine ⟨h1, h2, h3, ?_⟩
  split at h4
  · simp only [Bool.and_eq_true, decide_eq_true_eq, List.contains_iff_mem, Bool.not_eq_true'] at h4
    exact ⟨_, _, _, _, rfl, h4.1.1.1, h4.1.1.2, h4.1.2, h4.2⟩
  · cases h4
theorem long_inv {as : List Expr} (h : longB Γ as = true) : ∃ p, as = [.Name "Long" p] ∧ glB Γ.sc "Long" = true := by
  unfold longB at h
  split at h
  · simp only [Bool.and_eq_true, decide_eq_true_eq] at h
    obtain ⟨rfl, h⟩ := h
    exact ⟨_, rfl, h⟩
  · cases h
theorem mxd_inv {f : Str} {a : Expr} {kw : Keyword} (h : mxdB Γ f a kw = true) : glB Γ.sc f = true ∧ f = "max" ∧ f ∈ Γ.bs ∧ starry a = false ∧ ∃ (d : Str) (c : Int) (j : Nat) (cp kp : Pos), d = "default" ∧ kw = ⟨some d, .Constant (.int c) j cp, kp⟩ := by
  unfold mxdB at h
  simp only [Bool.and_eq_true, decide_eq_true_eq, List.contains_iff_mem, Bool.not_eq_true'] at h
  obtain ⟨⟨⟨⟨⟨_, h1⟩, h2⟩, h3⟩, h4⟩, h5⟩ := h
  refine ⟨h1, h2, h3, h4, ?_⟩
  split at h5
  · exact ⟨_, _, _, _, _, of_decide_eq_true h5, rfl⟩
  · cases h5
theorem rgV_reps {K : PySem.W.Frag} {H : Hp} {n : Int} : Reps K H (rngD 0 n) (rgV 0 n) := by
  unfold rngD rgV
  generalize List.range (n - 0).toNat = l
  induction l with
  | nil => exact .nil
  | cons i l ih => exact .cons .int ih
theorem snd_rng (g : Good X Γ Φ k) {f : Str} {fp gp pos gpos : Pos} {b : Expr} {tb : TD} (hf : f = "tuple" ∨ f = "list") (hb : f ∈ Γ.bs) (hg : Gl X f) (hgr : Gl X "range") (hmr : X.mg "range" = none) (hx : QE X b tb) (hs : starEach [b] X.env = [(false, eval b X.env)]) :
    QE X (.Call (.Name f fp) [.Call (.Name "range" gp) [b] [] gpos] [] pos) (fun env S Q => tb env S fun x S1 => biD (if f = "tuple" then .trange else .lrange) [x] S1 Q) := by
  have rg := prg_1 (p := gp) (pos := gpos) hgr hmr hx hs
  have ok : ∀ {n : Int}, 0 ≤ n → n ≤ 16777216 → RgOk 0 n := fun h0 h1 => RgOk.of_le (by omega) h1 (by omega) h0
  rcases hf with rfl | rfl
  · refine (pe_tupRg g.calm hg (g.bs _ hb) rg rfl).weak fun σ H Q ⟨env, S, Qd, re, so, h, l⟩ => ⟨env, S, _, re, so, h, fun x S1 v H1 h1 k1 r1 s1 => ?_⟩
    rw [if_pos rfl] at h1
    cases x <;> try exact h1.elim
    rename_i n
    simp only [Rep] at r1
    obtain ⟨h0, h2, h1⟩ := h1
    exact ⟨n, r1, ok h0 h2, fun q hq => (l.keep k1).tup s1 h1 rgV_reps q hq⟩
  · refine (pe_listRg g.calm hg (g.bs _ hb) rg rfl).weak fun σ H Q ⟨env, S, Qd, re, so, h, l⟩ => ⟨env, S, _, re, so, h, fun x S1 v H1 h1 k1 r1 s1 => ?_⟩
    rw [if_neg (by decide)] at h1
    cases x <;> try exact h1.elim
    rename_i n
    simp only [Rep] at r1
    obtain ⟨h0, h2, h1⟩ := h1
    exact ⟨n, r1, ok h0 h2, fun q hq => (l.keep k1).lst s1 h1 rgV_reps q hq⟩
theorem snd_call {n : Nat} (S : Snd n) (g : Good X Γ Φ k) {f : Str} {fp pos : Pos} {a : Expr} {as : List Expr} {ir : Ex} (h : trE (n + 1) Γ (.Call (.Name f fp) (a :: as) [] pos) = some ir) : QE X (.Call (.Name f fp) (a :: as) [] pos) (wpE Φ ir) := by
  simp only [trE] at h
  split at h
  · cases h
  · rename_i hp
    simp only [Bool.or_eq_true, Bool.not_eq_true', not_or, Bool.not_eq_false] at hp
    obtain ⟨p1, p2, p3⟩ := plain_of hp.1
    have hd := plain_dot hp.1
    split at h
    · rename_i hrg
      obtain ⟨x, e1, rfl⟩ := Option.map_eq_some_iff.mp h
      obtain ⟨q0, q1, rfl, g', gp, b, gpos, rfl, q2, q3, q4, q5⟩ := rng_inv hrg
      subst q2
      simp only [wpE, wpA, rngArg] at e1 ⊢
      exact snd_rng g q0 q1 (g.gl hp.2) (g.gl q3) (g.bs _ q4) (S.e g e1) (star_cons q5)
    split at h
    · rename_i hrg
      obtain ⟨x, e1, rfl⟩ := Option.map_eq_some_iff.mp h
      obtain ⟨q0, q1, rfl, g', gp, b, gpos, rfl, q2, q3, q4, q5⟩ := set_inv hrg
      subst q0
      subst q2
      simp only [wpE, wpA, rngArg, biD] at e1 ⊢
      exact q_sortedSet g.calm (g.gl hp.2) (g.bs _ q1) (g.gl q3) (g.bs _ q4) (S.e g e1) (star_cons q5)
    split at h
    · rename_i hf
      subst hf
      split at h
      · rename_i hb
        simp only [Bool.and_eq_true, Bool.not_eq_true', List.contains_iff_mem] at hb
        split at h
        · rename_i hlb
          obtain ⟨i, x, e1, e2, rfl⟩ := two h
          obtain ⟨pT, rfl, t2⟩ := long_inv hlb
          simp only [wpE]
          cases hsp : Φ i with
          | none => exact ⟨fun pins s σ H Q I ⟨_, _, _, _, _, ⟨sp, z, _⟩, _⟩ => by cases z⟩
          | some sp =>
            obtain ⟨CL, CP, L, hm⟩ := g.long e1 hsp
            exact (q_iso L hm (g.gl hp.2) (g.bs _ hb.1) bt_isi (g.gl t2) (S.e g e2) (star_cons hb.2)).weak fun σ H Q ⟨env, S, Qd, re, so, ⟨sp', z, h⟩, l⟩ => ⟨env, S, Qd, re, so, h, l⟩
        obtain ⟨b, x, e1, e2, rfl⟩ := two h
        obtain ⟨T, pT, rfl, t1, t2, t3, rfl⟩ := isi_inv e1
        simp only [wpE, wpA, biD]
        exact q_isi g t1 (g.gl hp.2) (g.bs _ hb.1) (g.gl t2) (g.bs T t3) (S.e g e2) (star_cons hb.2)
      · cases h
    split at h
    · rename_i hb
      obtain ⟨b, xs, e1, e2, rfl⟩ := two h
      simp only [wpE]
      exact q_bi g.dg g.calm g.gd g.units e1 (g.gl hp.2) (g.bs f (by simpa using hb)) (S.a g e2) p3 p1 (star_cons (trA_star e2)) (trA_tail e2)
    · obtain ⟨fi, xs, hf, e2, rfl⟩ := two h
      simp only [wpE]
      cases hsp : Φ fi with
      | none => exact ⟨fun pins s σ H Q I ⟨_, _, _, _, _, ⟨sp, z, _⟩, _⟩ => by cases z⟩
      | some sp =>
        cases g.fs f fi sp hf hsp with
        | fn hx ex =>
          obtain ⟨ad, fd, ps, m1, m2, m3, m4, m5⟩ := ex
          exact (q_call m4 g.room g.gd m5 (g.gl hp.2) m1 m2 m3 (S.a g e2) p1 (star_cons (trA_star e2)) (trA_tail e2)).weak fun σ H Q ⟨env, S, Qd, re, so, ⟨sp', z, h⟩, l⟩ => by
            cases z
            exact ⟨env, S, Qd, re, so, h, l⟩
        | mk hx ex =>
          obtain ⟨CL, CP, C, c, ff, fd, ps, j, hj, L, _, m1, hc, M, hb, F, hlen⟩ := ex
          exact (q_make hc M F (g.room.mono hj) g.gd hlen (g.gl hp.2) m1 hb (S.a g e2) p1 (star_cons (trA_star e2)) (trA_tail e2)).weak fun σ H Q ⟨env, S, Qd, re, so, ⟨sp', z, h⟩, l⟩ => by
            cases z
            exact ⟨env, S, Qd, re, so, h, l⟩
        | me m hx _ _ => rw [hx, dot_dotN] at hd; cases hd
        | pr hx _ => rw [hx, dot_dotN] at hd; cases hd
        | fx y hx hy _ => exact no_bang hx (plain_bang hp.1)
        | mx m hx _ _ => exact no_bang hx (plain_bang hp.1)
        | ek c hx _ _ => exact no_bang hx (plain_bang hp.1)
theorem snd_kw {n : Nat} (S : Snd n) (g : Good X Γ Φ k) {f : Expr} {pos : Pos} {as : List Expr} {kw : Keyword} {ks : List Keyword} {ir : Ex} (h : trE (n + 1) Γ (.Call f as (kw :: ks) pos) = some ir) :
    QE X (.Call f as (kw :: ks) pos) (wpE Φ ir) ∧ wpT Φ ir = (fun env S Q => wpE Φ ir env S fun d S1 => truthD d S1 fun b => Q b S1) := by
  cases f with
  | Name f fp =>
    cases as with
    | nil => simp [trE] at h
    | cons a as =>
      cases as with
      | cons _ _ => simp [trE] at h
      | nil =>
        cases ks with
        | cons _ _ => simp [trE] at h
        | nil =>
          simp only [trE] at h
          split at h
          · rename_i hb
            obtain ⟨x, e1, rfl⟩ := Option.map_eq_some_iff.mp h
            obtain ⟨q1, q2, q3, q4, d, c, j, cp, kp, rfl, rfl⟩ := mxd_inv hb
            subst q2
            refine ⟨?_, rfl⟩
            simp only [wpE, wpA, kwInt, biD]
            exact q_maxd g.calm (g.gl q1) (g.bs _ q3) (S.e g e1) (star_cons q4)
          · cases h
  | _ => simp [trE] at h
theorem mtOf_inv {x : Str} {f : Mt} (h : mtOf x = some f) : (x = "append" ∧ f = .append) ∨ (x = "extend" ∧ f = .extend) ∨ (x = "pop" ∧ f = .pop) ∨ (x = "join" ∧ f = .join) ∨ (x = "count" ∧ f = .count) ∨ (x = "find" ∧ f = .find) ∨ (x = "endswith" ∧ f = .endswith) ∨ (x = "startswith" ∧ f = .startswith) ∨ (x = "index" ∧ f = .index) := by
  unfold mtOf at h
  by_cases e0 : x = "append"
  · rw [if_pos e0] at h; cases h; exact Or.inl (⟨e0, rfl⟩)
  rw [if_neg e0] at h
  by_cases e1 : x = "extend"
  · rw [if_pos e1] at h; cases h; exact Or.inr (Or.inl (⟨e1, rfl⟩))
  rw [if_neg e1] at h
  by_cases e2 : x = "pop"
  · rw [if_pos e2] at h; cases h; exact Or.inr (Or.inr (Or.inl (⟨e2, rfl⟩)))
  rw [if_neg e2] at h
  by_cases e3 : x = "join"
  · rw [if_pos e3] at h; cases h; exact Or.inr (Or.inr (Or.inr (Or.inl (⟨e3, rfl⟩))))
  rw [if_neg e3] at h
  by_cases e4 : x = "count"
  · rw [if_pos e4] at h; cases h; exact Or.inr (Or.inr (Or.inr (Or.inr (Or.inl (⟨e4, rfl⟩)))))
  rw [if_neg e4] at h
  by_cases e5 : x = "find"
  · rw [if_pos e5] at h; cases h; exact Or.inr (Or.inr (Or.inr (Or.inr (Or.inr (Or.inl (⟨e5, rfl⟩))))))
  rw [if_neg e5] at h
  by_cases e6 : x = "endswith"
  · rw [if_pos e6] at h; cases h; exact Or.inr (Or.inr (Or.inr (Or.inr (Or.inr (Or.inr (Or.inl (⟨e6, rfl⟩)))))))
  rw [if_neg e6] at h
  by_cases e7 : x = "startswith"
  · rw [if_pos e7] at h; cases h; exact Or.inr (Or.inr (Or.inr (Or.inr (Or.inr (Or.inr (Or.inr (Or.inl (⟨e7, rfl⟩))))))))
  rw [if_neg e7] at h
  by_cases e8 : x = "index"
  · rw [if_pos e8] at h; cases h; exact Or.inr (Or.inr (Or.inr (Or.inr (Or.inr (Or.inr (Or.inr (Or.inr (⟨e8, rfl⟩))))))))
  rw [if_neg e8] at h
  cases h
theorem meth_eval {o : Expr} {m : Str} {ap pos : Pos} {as : List Expr} {env : Env} (hb : attributeBase o m env (eval o env) = eval o env) (h2 : (ap.endLine == pos.line) = true)
    (few : ((backTo pos (starEach as env)).all (fun x => !x.1) && (backToKw pos (keywordEach [] env)).all (fun x => x.1.isSome) && decide (as.length + ([] : List Keyword).length + (if ([] : List Keyword).isEmpty then 0 else 1) < 30)) = true) :
    ∃ pl : Sem Bool, eval (.Call (.Attribute o m ap) as [] pos) env = (do
      let ov ← eval o env
      standAt ap.atName
      let (f, first) ← holding [ov] (getMethod ov m pl)
      callWith pos f first (backTo pos (starEach as env)) (backToKw pos (keywordEach [] env))) := by
  have hform : methodCallForm (as.length + ([] : List Keyword).length) (backTo pos (starEach as env)) (backToKw pos (keywordEach [] env)) = true := few
  refine ⟨(do return (← importBound o env).getD true), ?_⟩
  rw [arm_eval_Call, hb]
  unfold methodCall calleeOf methodCallPos
  simp only [hform, h2, if_true, Bool.not_true, Bool.or_true]
  rfl
theorem snd_ometh {n : Nat} (S : Snd n) (g : Good X Γ Φ k) {fi : Nat} {o : Expr} {m : Str} {ap pos : Pos} {as : List Expr} {x xs : Ex} (e1 : vix Γ.fs (dotN m) = some fi) (hsz : m ≠ "size") (e2 : trE n Γ o = some x) (e3 : trA n Γ as = some xs) (hb : attributeBase o m X.env (eval o X.env) = eval o X.env)
    (h2 : (ap.endLine == pos.line) = true) (h3 : as.length < 20) : QE X (.Call (.Attribute o m ap) as [] pos) (fun env S Q => ∃ sp, Φ fi = some sp ∧ wpE Φ x env S fun x S1 => isObj x = true ∧ wpA Φ xs env S1 fun ds S2 => sp (x :: ds) S2 Q) := by
  have few : ((backTo pos (starEach as X.env)).all (fun x => !x.1) && (backToKw pos (keywordEach [] X.env)).all (fun x => x.1.isSome) && decide (as.length + ([] : List Keyword).length + (if ([] : List Keyword).isEmpty then 0 else 1) < 30)) = true := by
    rw [trA_all e3]
    show (true && true && decide _) = true
    rw [decide_eq_true (by show as.length + 0 + 0 < 30; omega)]
    rfl
  obtain ⟨pl, ht⟩ := meth_eval hb h2 few
  cases hsp : Φ fi with
  | none => exact ⟨fun pins s σ H Q I ⟨_, _, _, _, _, ⟨sp, z, _⟩, _⟩ => by cases z⟩
  | some sp =>
    cases g.fs _ fi sp e1 hsp with
    | fn hx ex => have hx := hx.1; rw [dot_dotN] at hx; cases hx
    | mk hx ex => have hx := hx.1; rw [dot_dotN] at hx; cases hx
    | fx y hx hy _ => exact no_bang hx (bang_dotN _)
    | mx m hx _ _ => exact no_bang hx (bang_dotN _)
    | ek c hx _ _ => exact no_bang hx (bang_dotN _)
    | pr hx _ => exact absurd (dotN_inj hx) hsz
    | me m' hx hm ex =>
      have := dotN_inj hx
      subst this
      obtain ⟨CL, CP, f, fd, ps, j, hj, L, m0, m1, hbd, F, hlen⟩ := ex
      cases as with
      | nil =>
        have ex : xs = .nil := by
          cases n with
          | zero => simp [trA] at e3
          | succ n => simp only [trA] at e3; cases e3; rfl
        subst ex
        simp only [wpA]
        exact (q_meth0 L m0 m1 hm.2 F (g.room.mono (by omega)) g.gd hbd hlen (S.e g e2) ht).weak fun σ H Q ⟨env, S, Qd, re, so, ⟨sp', z, h⟩, l⟩ => by
          cases z
          exact ⟨env, S, Qd, re, so, h, l⟩
      | cons a as =>
        exact (q_meth L m0 m1 hm.2 F (g.room.mono (by omega)) g.gd hbd hlen (S.e g e2) (S.a g e3) (star_cons (trA_star e3)) (trA_tail e3) ht).weak fun σ H Q ⟨env, S, Qd, re, so, ⟨sp', z, h⟩, l⟩ => by
          cases z
          exact ⟨env, S, Qd, re, so, h, l⟩
theorem snd_mt {n : Nat} (S : Snd n) (g : Good X Γ Φ k) {o : Expr} {m : Str} {ap pos : Pos} {as : List Expr} {ir : Ex} (h : trE (n + 1) Γ (.Call (.Attribute o m ap) as [] pos) = some ir) : QE X (.Call (.Attribute o m ap) as [] pos) (wpE Φ ir) := by
  simp only [trE] at h
  split at h
  · cases h
  · rename_i hp
    simp only [Bool.or_eq_true, Bool.not_eq_true', not_or, Bool.not_eq_false, Bool.not_eq_true, decide_eq_false_iff_not, Classical.not_not] at hp
    obtain ⟨⟨h1, h2⟩, h3⟩ := hp
    have hb := base_of (attr := m) (env := X.env) (whole := eval o X.env) h1
    split at h
    · split at h
      · cases h
      · rename_i hsz
        obtain ⟨fi, x, xs, e1, e2, e3, rfl⟩ := three h
        simp only [wpE]
        exact snd_ometh S g e1 hsz e2 e3 hb h2 h3
    obtain ⟨mm, x, xs, e1, e2, e3, rfl⟩ := three h
    simp only [wpE]
    cases as with
    | nil =>
      have ex : xs = .nil := by
        cases n with
        | zero => simp [trA] at e3
        | succ n => simp only [trA] at e3; cases e3; rfl
      subst ex
      simp only [wpA]
      rcases mtOf_inv e1 with ⟨rfl, rfl⟩ | ⟨rfl, rfl⟩ | ⟨rfl, rfl⟩ | ⟨rfl, rfl⟩ | ⟨rfl, rfl⟩ | ⟨rfl, rfl⟩ | ⟨rfl, rfl⟩ | ⟨rfl, rfl⟩ | ⟨rfl, rfl⟩
      · exact q_m0 PySem.F.plainAttrs_list PySem.F.slot_list_append PySem.F.type_list_append appD_ok rfl (S.e g e2) hb h2
      · exact q_m0 PySem.F.plainAttrs_list PySem.F.slot_list_extend PySem.F.type_list_extend extD_ok rfl (S.e g e2) hb h2
      · exact q_m0 PySem.F.plainAttrs_list PySem.F.slot_list_pop PySem.F.type_list_pop popD_ok rfl (S.e g e2) hb h2
      · exact q_m0 PySem.F.plainAttrs_str PySem.F.slot_str_join PySem.F.type_str_join joinD_ok rfl (S.e g e2) hb h2
      · exact q_m0 PySem.F.plainAttrs_str PySem.F.slot_str_count PySem.F.type_str_count countD_ok rfl (S.e g e2) hb h2
      · exact q_m0 PySem.F.plainAttrs_str PySem.F.slot_str_find PySem.F.type_str_find findD_ok rfl (S.e g e2) hb h2
      · exact q_m0 PySem.F.plainAttrs_str PySem.F.slot_str_endswith PySem.F.type_str_endswith endsD_ok rfl (S.e g e2) hb h2
      · exact q_m0 PySem.F.plainAttrs_str PySem.F.slot_str_startswith PySem.F.type_str_startswith startsD_ok rfl (S.e g e2) hb h2
      · exact q_m0 PySem.F.plainAttrs_list PySem.F.slot_list_index PySem.F.type_list_index indexD_ok rfl (S.e g e2) hb h2
    | cons a as =>
      have few : ((backTo pos (starEach (a :: as) X.env)).all (fun x => !x.1) && (backToKw pos (keywordEach [] X.env)).all (fun x => x.1.isSome) && decide ((a :: as).length + ([] : List Keyword).length + (if ([] : List Keyword).isEmpty then 0 else 1) < 30)) = true := by
        rw [trA_all e3]
        show (true && true && decide _) = true
        rw [decide_eq_true (by show (a :: as).length + 0 + 0 < 30; omega)]
        rfl
      have s1 := star_cons (es := as) (env := X.env) (trA_star e3)
      have s2 := trA_tail (env := X.env) (pos := pos) e3
      rcases mtOf_inv e1 with ⟨rfl, rfl⟩ | ⟨rfl, rfl⟩ | ⟨rfl, rfl⟩ | ⟨rfl, rfl⟩ | ⟨rfl, rfl⟩ | ⟨rfl, rfl⟩ | ⟨rfl, rfl⟩ | ⟨rfl, rfl⟩ | ⟨rfl, rfl⟩
      · exact q_m1 PySem.F.plainAttrs_list PySem.F.slot_list_append PySem.F.type_list_append appD_ok rfl (S.e g e2) (S.a g e3) hb few h2 s1 s2
      · exact q_m1 PySem.F.plainAttrs_list PySem.F.slot_list_extend PySem.F.type_list_extend extD_ok rfl (S.e g e2) (S.a g e3) hb few h2 s1 s2
      · exact q_m1 PySem.F.plainAttrs_list PySem.F.slot_list_pop PySem.F.type_list_pop popD_ok rfl (S.e g e2) (S.a g e3) hb few h2 s1 s2
      · exact q_m1 PySem.F.plainAttrs_str PySem.F.slot_str_join PySem.F.type_str_join joinD_ok rfl (S.e g e2) (S.a g e3) hb few h2 s1 s2
      · exact q_m1 PySem.F.plainAttrs_str PySem.F.slot_str_count PySem.F.type_str_count countD_ok rfl (S.e g e2) (S.a g e3) hb few h2 s1 s2
      · exact q_m1 PySem.F.plainAttrs_str PySem.F.slot_str_find PySem.F.type_str_find findD_ok rfl (S.e g e2) (S.a g e3) hb few h2 s1 s2
      · exact q_m1 PySem.F.plainAttrs_str PySem.F.slot_str_endswith PySem.F.type_str_endswith endsD_ok rfl (S.e g e2) (S.a g e3) hb few h2 s1 s2
      · exact q_m1 PySem.F.plainAttrs_str PySem.F.slot_str_startswith PySem.F.type_str_startswith startsD_ok rfl (S.e g e2) (S.a g e3) hb few h2 s1 s2
      · exact q_m1 PySem.F.plainAttrs_list PySem.F.slot_list_index PySem.F.type_list_index indexD_ok rfl (S.e g e2) (S.a g e3) hb few h2 s1 s2
end
end G57
set_option Elab.async false
set_option linter.all false
set_option maxRecDepth 100000
set_option maxHeartbeats 2000000
namespace G57
open PySem L2 PySem.Spec PyProof.Rows
section
variable {prog : Program} {w : World} {A : Around} {E : Value → Shared → Prop} {s : Shared}
theorem places_back (n : Nat) : Builtin.Slice.slicePlaces ((n : Int) - 1) (-1) (-1) = n := by
  unfold Builtin.Slice.slicePlaces
  rw [if_neg (by decide)]
  split
  · rw [show (- -1 : Int) = 1 by decide, Int.ediv_one]; omega
  · omega
theorem applied_back {sl : Addr} {v : Value} {n : Nat} {Q : Int × Int × Nat → Shared → Prop} (hs : s.heap.IsSliceOf sl .none .none v) (pv : IsPart v (some (-1)))
    (h : Q ((n : Int) - 1, -1, n) s) : wpAny (model prog w) A (Builtin.Slice.sliceApplied (.ref sl) (pure (n : Int))) Q E s := by
  obtain ⟨os, o1, o2, o3⟩ := id hs
  unfold Builtin.Slice.sliceApplied Builtin.Slice.sliceFields
  refine wpAny_bind (wpAny_bind (wpAny_field o1 o3 (x := .none) rfl (wpAny_bind (wpAny_field o1 o3 (x := .none) rfl (wpAny_bind (wpAny_field o1 o3 (x := v) rfl (wpAny_pure ?_)))))))
  refine wpAny_bind (HT.slicePart_ pv ?_)
  show wpAny _ _ (if ((-1 : Int) == 0) = true then _ else _) _ _ s
  rw [if_neg (by decide)]
  refine wpAny_bind (HT.slicePart_ .none (wpAny_bind (HT.slicePart_ .none (wpAny_bind (wpAny_pure ?_)))))
  show wpAny _ _ (pure ((n : Int) - 1, (-1 : Int), Builtin.Slice.slicePlaces ((n : Int) - 1) (-1) (-1))) _ _ s
  rw [places_back]
  exact wpAny_pure h
theorem pick_back (xs : Array Value) : ((List.range xs.size).filterMap fun (m : Nat) => xs[((xs.size : Int) - 1 + (m : Int) * (-1)).toNat]?).toArray = xs.toList.reverse.toArray := by
  have e : (List.range xs.size).filterMap (fun (m : Nat) => xs[((xs.size : Int) - 1 + (m : Int) * (-1)).toNat]?) = ((List.range xs.size).map fun k => xs.size - 1 - k).filterMap (xs[·]?) := by
    rw [List.filterMap_map]
    congr 1
    funext m
    show xs[_]? = xs[xs.size - 1 - m]?
    congr 1
    omega
  rw [e, PySem.W.krv_range, List.filterMap_reverse, PySem.W.krv_all]
theorem get_tuple_back {t sl : Addr} {items : Array Value} {v : Value} {Q : Value → Shared → Prop} (ht : IsTup s.heap t items) (hs : s.heap.IsSliceOf sl .none .none v) (pv : IsPart v (some (-1)))
    (h : Q (.ref s.heap.objs.size) { s with heap := s.heap.push { cls := .type "tuple", data := .seq items.toList.reverse.toArray } })
    (hsz : items.size ≤ sizeLine) : wpAny (model prog w) A (getItem (.ref t) (.ref sl)) Q E s := by
  have hz : sizeOk (.seq items.toList.reverse.toArray) := by
    show items.toList.reverse.toArray.size ≤ sizeLine
    rw [List.size_toArray, List.length_reverse, Array.length_toList]; exact hsz
  obtain ⟨os, o1, o2, o3⟩ := id hs
  have hT : s.TypeIs (.ref sl) "slice" := ⟨os, o1, o2⟩
  unfold getItem
  try with_reducible refine wpAny_holding ?_
  first | refine wpAny_bind (wpAny_pure ?_) | skip
  refine wpAny_bind (wpAny_sequenceKey ht.typeIs (by decide) ?_)
  refine wpAny_bind (wpAny_callSpecial?_slot (name := Str.ofString "__getitem__") ht.typeIs PyProof.Rows.slot_tuple_getitem
    (wpAny_call_entry PyProof.Rows.slot_tuple_getitem ht.typeIs PyProof.Rows.entry_tuple_getitem ?_ (PyProof.Rows.args_tuple_getitem _ _)))
  show wpAny _ _ (Builtin.Tuple.tupleItemsOf (.ref t) >>= _) _ _ s
  refine wpAny_bind (tupleItemsOf_ ht ?_)
  refine wpAny_bind (wpAny_typeOf hT ?_)
  rw [if_pos (by decide)]
  refine wpAny_bind (applied_back hs pv ?_)
  show wpAny _ _ (if (((items.size : Int) - 1 == 0) && ((-1 : Int) == 1) && _) = true then _ else _) _ _ s
  rw [if_neg (by rw [show ((-1 : Int) == 1) = false from rfl, Bool.and_false, Bool.false_and]; decide), pick_back]
  first
    | exact wpAny_bind (m := Builtin.Tuple.tupleExact _) (wpAny_newObj_type (wpAny_pure ⟨_, rfl, wpAny_pure h⟩) hz)
    | exact wpAny_bind (m := Builtin.Tuple.tupleExact _) (wpAny_newObj_type (wpAny_bind (wpAny_pure (wpAny_pure ⟨_, rfl, wpAny_pure h⟩))) hz)
    | exact wpAny_bind (wpAny_bind (m := Builtin.Tuple.tupleExact _) (wpAny_newObj_type (wpAny_pure (wpAny_pure ⟨_, rfl, wpAny_pure h⟩)) hz))
    | exact wpAny_bind (wpAny_bind (m := Builtin.Tuple.tupleExact _) (wpAny_newObj_type (wpAny_pure ⟨_, rfl, wpAny_pure h⟩) hz))
end
section
variable {X : Cx} {e : Expr} {te : TD}
theorem rev_str (z : List Nat) : (Builtin.Str.strSliceIndices none none (-1) z.length).filterMap (z.toArray[·]?) = z.reverse := by
  show (sliceRange ((z.length : Int) - 1) (-1) (-1)).filterMap _ = _
  rw [PySem.W.krv_sliceRange, PySem.W.krv_range, List.filterMap_reverse]
  have := PySem.W.krv_all z.toArray
  rw [List.size_toArray] at this
  rw [this]
theorem q_rev {k : Nat} {p1 p2 p3 pos : Pos} (he : QE X e te) : QE X (.Subscript e (.Slice none none (some (.UnaryOp .USub (.Constant (.int 1) k p1) p2)) p3) pos) (fun env S Q => te env S fun x S1 => revD [x] S1 Q) := by
  refine ⟨fun pins s σ H Q I ⟨env, S, Qd, re, so, h, l⟩ => ?_⟩
  refine Subscript_ (thn (he.run pins s σ H (fun v H1 => ∃ d S1, te env S (fun x S1 => revD [x] S1 Qd) ∧ Keep H H1 ∧ Rep X.K H1 d v ∧ StoOk X.K H1 S1 ∧ revD [d] S1 Qd) I ⟨env, S, _, re, so, h, fun d S1 v H1 h1 k1 r1 s1 => ⟨d, S1, h, k1, r1, s1, h1⟩⟩) fun v s1 ⟨x, H1, I1, r1, d, S1, _, k1, rd, so1, h1⟩ => ?_)
  have hst : PO X (some (.UnaryOp .USub (.Constant (.int 1) k p1) p2)) (tPart (tUn (rU fun i => .int (-i)) (tC (.int 1)))) := po_some (pe_un un_neg pe_int)
  refine wpAny_Slice (thn (po_none.run pins s1 σ H1 (fun o H2 => o = none ∧ H2 = H1) I1 ⟨rfl, rfl⟩) fun vl s2 ⟨o1, H2, I2, pl, el, e2⟩ => ?_)
  subst el e2
  refine thn (po_none.run pins s2 σ H2 (fun o H3 => o = none ∧ H3 = H2) I2 ⟨rfl, rfl⟩) fun vu s3 ⟨o2, H3, I3, pu, eu, e3⟩ => ?_
  subst eu e3
  refine thn (hst.run pins s3 σ H3 (fun o H4 => o = some (-1) ∧ H4 = H3) I3 ⟨1, rfl, -1, rfl, rfl, rfl⟩) fun vs s4 ⟨o, H4, I4, ps, eo, e4⟩ => ?_
  subst eo e4
  have I5 : Inv X pins σ H4 { s4 with heap := s4.heap.push { cls := .type "slice", data := .fields #[vl, vu, vs] } } := I4.kept (t' := s4.toks) fun b ob q => Heap.get?_push_of_some _ q
  have hsl := Heap.IsSliceOf.new s4.heap vl vu vs
  have evl : vl = .none := by cases pl; rfl
  have evu : vu = .none := by cases pu; rfl
  subst evl evu
  show wpAny (model X.prog X.w) X.A (subscriptTail e (.Slice none none (some (.UnaryOp .USub (.Constant (.int 1) k p1) p2)) p3) v (.ref s4.heap.objs.size)) (EP X pins σ Q) X.xe { s4 with heap := s4.heap.push { cls := .type "slice", data := .fields #[.none, .none, vs] } }
  have l1 := l.keep k1
  cases d <;> try exact h1.elim
  case str xs =>
    simp only [Rep] at rd
    subst rd
    obtain ⟨t, rfl⟩ := r1
    obtain ⟨hz, h1⟩ := h1
    refine tail_any (ops := [.str ⟨xs.toArray⟩ t, .ref s4.heap.objs.size]) (typeIs_str _ _ _) (F.slot_str_getitem.lookup) ?_ (by with_unfolding_all rfl)
    obtain ⟨os, o1, o2, o3⟩ := hsl
    obtain ⟨st, hst1, hst2⟩ := IsPart.raw ps
    subst hst1
    refine wpAny_getItem_str_slice (l := none) (u := none) (st := st) ⟨os, o1, o2, o3⟩ (by rw [hst2]; decide) ?_
    unfold sliceMade slicePicked
    rw [hst2]
    rw [if_neg (by simp)]
    show Made.post (Made.str ⟨((Builtin.Str.strSliceIndices none none (-1) (Str.length ⟨xs.toArray⟩)).filterMap (xs.toArray[·]?)).toArray⟩) _ _
    rw [str_len, rev_str]
    refine ⟨by rw [str_len, List.length_reverse, szl]; exact hz, .str _, H4, I5.tok _, ⟨_, rfl⟩, l1 _ S1 _ H4 h1 .refl .str so1⟩
  case tup ds =>
    obtain ⟨a, us, rfl, q, r⟩ := rd.tup_inv
    cases r1
    obtain ⟨its, rv, ht, hz⟩ := I5.tuple q
    have hlen := rv.length
    refine tail_any (ops := [.ref a, .ref s4.heap.objs.size]) ht.typeIs (PyProof.Rows.slot_tuple_getitem.lookup) ?_ (by with_unfolding_all rfl)
    refine get_tuple_back ht hsl ps ?_ (by rw [List.size_toArray]; omega)
    refine ⟨.ref _, _, I5.laid (t' := s4.toks) (o := .tup us.reverse) (fun b ob q => Heap.get?_push_of_some _ q) (Nat.le_refl _) ?_, rfl, l1.tup so1 h1 r.reverse _ (I5.hok.fresh (Nat.le_refl _))⟩
    exact ⟨by rw [List.length_reverse]; exact hz, _, rv.reverse, IsTup.new _ _⟩
  case ref p =>
    simp only [Rep] at rd
    subst rd
    obtain ⟨ds, e1, h1⟩ := h1
    obtain ⟨us, q, r⟩ := so1 p _ e1
    cases r1
    obtain ⟨its, rv, ht, hz⟩ := I5.list (.inl (.inl q))
    have hlen := rv.length
    refine tail_any (ops := [.ref p, .ref s4.heap.objs.size]) ht.isList.typeIs (PySem.slot_list_getitem.lookup) ?_ (by with_unfolding_all rfl)
    refine wpAny_getItem_list_slice ht.isList hsl .none .none ps (by decide) ?_ (by rw [List.size_toArray]; omega)
    rw [PySem.W.krv_pick]
    refine ⟨.ref _, _, I5.laid (t' := s4.toks) (o := .lst us.reverse) (fun b ob q => Heap.get?_push_of_some _ q) (Nat.le_refl _) ?_, rfl, l1.lst so1 h1 r.reverse _ (I5.hok.fresh (Nat.le_refl _))⟩
    exact ⟨by rw [List.length_reverse]; exact hz, _, 0, rv.reverse, Heap.get?_push_size _ rfl⟩
theorem back_inv {b : Expr} (h : backB b = true) : ∃ k p1 p2 p3, b = .Slice none none (some (.UnaryOp .USub (.Constant (.int 1) k p1) p2)) p3 := by
  unfold backB at h
  split at h
  · exact ⟨_, _, _, _, rfl⟩
  · cases h
end
end G57
set_option Elab.async false
set_option linter.all false
set_option maxRecDepth 100000
set_option maxHeartbeats 2000000
namespace G57
open PySem L2 PySem.Spec PyProof.Rows
section
variable {X : Cx} {Γ : Gam} {Φ : Tab} {k : Nat}
theorem snd_bool {n : Nat} (S : Snd n) (g : Good X Γ Φ k) {op : BoolOp} {es : List Expr} {p : Pos} {ir : Ex} (h : trE (n + 1) Γ (.BoolOp op es p) = some ir) : QE X (.BoolOp op es p) (wpE Φ ir) := by
  cases op with
  | And =>
    match es, h with
    | [a, b], h =>
      simp only [trE] at h
      obtain ⟨x, y, e1, e2, rfl⟩ := two h
      simp only [wpE]
      exact q_and (S.e g e1) (pe_one (S.e g e2))
    | a :: b :: c :: r, h =>
      simp only [trE] at h
      obtain ⟨x, y, e1, e2, rfl⟩ := two h
      simp only [wpE]
      exact q_and (S.e g e1) (S.e g e2)
    | [], h => simp [trE] at h
    | [a], h => simp [trE] at h
  | Or =>
    match es, h with
    | [a, b], h =>
      simp only [trE] at h
      obtain ⟨x, y, e1, e2, rfl⟩ := two h
      simp only [wpE]
      exact q_or (S.e g e1) (pe_one (S.e g e2))
    | a :: b :: c :: r, h =>
      simp only [trE] at h
      obtain ⟨x, y, e1, e2, rfl⟩ := two h
      simp only [wpE]
      exact q_or (S.e g e1) (S.e g e2)
    | [], h => simp [trE] at h
    | [a], h => simp [trE] at h
theorem snd_boolw {n : Nat} (S : Snd n) (g : Good X Γ Φ k) {op : BoolOp} {es : List Expr} {p : Pos} {ir : Ex} (h : trE (n + 1) Γ (.BoolOp op es p) = some ir) : QW X (.BoolOp op es p) (wpT Φ ir) := by
  cases op with
  | And =>
    match es, h with
    | [a, b], h =>
      simp only [trE] at h
      obtain ⟨x, y, e1, e2, rfl⟩ := two h
      simp only [wpT]
      exact qw_and (S.t g e1) (qw_and1 (S.t g e2))
    | a :: b :: c :: r, h =>
      simp only [trE] at h
      obtain ⟨x, y, e1, e2, rfl⟩ := two h
      simp only [wpT]
      exact qw_and (S.t g e1) (S.w g e2)
    | [], h => simp [trE] at h
    | [a], h => simp [trE] at h
  | Or =>
    match es, h with
    | [a, b], h =>
      simp only [trE] at h
      obtain ⟨x, y, e1, e2, rfl⟩ := two h
      simp only [wpT]
      exact qw_or (S.t g e1) (qw_or1 (S.t g e2))
    | a :: b :: c :: r, h =>
      simp only [trE] at h
      obtain ⟨x, y, e1, e2, rfl⟩ := two h
      simp only [wpT]
      exact qw_or (S.t g e1) (S.w g e2)
    | [], h => simp [trE] at h
    | [a], h => simp [trE] at h
theorem cmpI_inv {op : CmpOp} {i : Nat} (h : cmpI Γ op = some i) : vix Γ.fs (dotN (cmpM op)) = some i := by
  unfold cmpI at h
  cases op <;> first | exact h | cases h
theorem Good.ocm (g : Good X Γ Φ k) {op : CmpOp} {i : Nat} {sp : Spec} (h : cmpI Γ op = some i) (hs : Φ i = some sp) : OpR X (compareOp op) (liftR2 X.K (ocmD op sp)) := by
  cases g.fs _ i sp (cmpI_inv h) hs with
  | fn hx ex => have hx := hx.1; rw [dot_dotN] at hx; cases hx
  | mk hx ex => have hx := hx.1; rw [dot_dotN] at hx; cases hx
  | pr hx _ => exact absurd (dotN_inj hx) (by cases op <;> decide)
  | fx y hx hy _ => exact no_bang hx (bang_dotN _)
  | mx m hx _ _ => exact no_bang hx (bang_dotN _)
  | ek c hx _ _ => exact no_bang hx (bang_dotN _)
  | me m' hx hm ex =>
    have := dotN_inj hx
    subst this
    obtain ⟨CL, CP, f, fd, ps, j, hj, L, m0, m1, hbd, F, hlen⟩ := ex
    exact ocmD_ok L m0 m1 F (g.room.mono hj) g.gd hbd hlen
theorem Good.oop (g : Good X Γ Φ k) {i : Nat} {sp : Spec} (h : vix Γ.fs (dotN "__add__") = some i) (hs : Φ i = some sp) : OpR X (binaryOp .Add) (liftR2 X.K (oopD sp)) := by
  cases g.fs _ i sp h hs with
  | fn hx ex => have hx := hx.1; rw [dot_dotN] at hx; cases hx
  | mk hx ex => have hx := hx.1; rw [dot_dotN] at hx; cases hx
  | pr hx _ => exact absurd (dotN_inj hx) (by decide)
  | fx y hx hy _ => exact no_bang hx (bang_dotN _)
  | mx m hx _ _ => exact no_bang hx (bang_dotN _)
  | ek c hx _ _ => exact no_bang hx (bang_dotN _)
  | me m' hx hm ex =>
    have := dotN_inj hx
    subst this
    obtain ⟨CL, CP, f, fd, ps, j, hj, L, m0, m1, hbd, F, hlen⟩ := ex
    exact oopD_ok L m0 m1 F g.calm (g.room.mono (by omega)) g.gd hbd hlen
theorem qt_cmpO {a b : Expr} {ta tb : TD} {op : CmpOp} {r : R2D} {pos : Pos} (ho : OpR X (compareOp op) (liftR2 X.K r)) (ha : QE X a ta) (hb : QE X b tb) (hm : behindInMarks op b = false) :
    QT X (.Compare a [op] [b] pos) (fun env S Q => ta env S fun x S1 => tb env S1 fun y S2 => r x y S2 fun z S3 => ∃ k, z = .bl k ∧ Q k S3) :=
  (pt_cmpR ho ha hb hm).weak fun σ H Q ⟨env, S, Qd, re, so, h, l⟩ =>
    ⟨env, S, _, re, so, h, fun x S1 v H1 h1 k1 r1 s1 => ⟨env, S1, _, re.mono k1, s1, h1, fun y S2 u H2 h2 k2 r2 s2 =>
      ⟨x, y, S2, _, r1.mono k2, r2, s2, h2, fun z S3 w H3 h3 k3 r3 s3 => by
        obtain ⟨k, rfl, h3⟩ := h3
        simp only [Rep] at r3
        exact ⟨k, r3, l _ S3 H3 h3 (k1.trans (k2.trans k3)) s3⟩⟩⟩⟩
theorem cmp_inv {n : Nat} {a : Expr} {ops : List CmpOp} {cs : List Expr} {p : Pos} {ir : Ex} (h : trE (n + 1) Γ (.Compare a ops cs p) = some ir) :
    (∃ op b x y, ops = [op] ∧ cs = [b] ∧ setish b = false ∧ trE n Γ a = some x ∧ trE n Γ b = some y ∧ ir = .cmp op x y) ∨
    (∃ o1 o2 b c x y z, ops = [o1, o2] ∧ cs = [b, c] ∧ setish c = false ∧ trE n Γ a = some x ∧ trE n Γ b = some y ∧ trE n Γ c = some z ∧ ir = .chain o1 o2 x y z) ∨
    (∃ op b i x y, ops = [op] ∧ cs = [b] ∧ setish b = false ∧ cmpI Γ op = some i ∧ trE n Γ a = some x ∧ trE n Γ b = some y ∧ ir = .ocm op i x y) := by
  match ops, cs, h with
  | [op], [b], h =>
    simp only [trE] at h
    split at h
    · cases h
    · rename_i hz
      split at h
      · obtain ⟨i, x, y, e0, e1, e2, rfl⟩ := three h
        exact .inr (.inr ⟨op, b, i, x, y, rfl, rfl, by simpa using hz, e0, e1, e2, rfl⟩)
      obtain ⟨x, y, e1, e2, rfl⟩ := two h
      exact .inl ⟨op, b, x, y, rfl, rfl, by simpa using hz, e1, e2, rfl⟩
  | [o1, o2], [b, c], h =>
    simp only [trE] at h
    split at h
    · cases h
    · rename_i hz
      simp only [Bool.or_eq_true, not_or, Bool.not_eq_true] at hz
      obtain ⟨x, y, z, e1, e2, e3, rfl⟩ := three h
      exact .inr (.inl ⟨o1, o2, b, c, x, y, z, rfl, rfl, hz.2, e1, e2, e3, rfl⟩)
  | [], _, h => simp [trE] at h
  | [_], [], h => simp [trE] at h
  | [_], _ :: _ :: _, h => simp [trE] at h
  | [_, _], [], h => simp [trE] at h
  | [_, _], [_], h => simp [trE] at h
  | [_, _], _ :: _ :: _ :: _, h => simp [trE] at h
  | _ :: _ :: _ :: _, _, h => simp [trE] at h
theorem sub_inv {n : Nat} {a b : Expr} {p : Pos} {ir : Ex} (h : trE (n + 1) Γ (.Subscript a b p) = some ir) :
    (∃ lo hi p2 x y z, b = .Slice lo hi none p2 ∧ trE n Γ a = some x ∧ trO n Γ lo = some y ∧ trO n Γ hi = some z ∧ ir = .sl x y z) ∨
    (∃ x y, trE n Γ a = some x ∧ trE n Γ b = some y ∧ ir = .idx x y) ∨ (∃ x, backB b = true ∧ trE n Γ a = some x ∧ ir = .bi .rev (.cons x .nil)) := by
  cases b with
  | Slice lo hi st p2 =>
    cases st with
    | none =>
      simp only [trE] at h
      obtain ⟨x, y, z, e1, e2, e3, rfl⟩ := three h
      exact .inl ⟨lo, hi, p2, x, y, z, rfl, e1, e2, e3, rfl⟩
    | some s =>
      simp only [trE] at h
      split at h
      · rename_i hb
        obtain ⟨x, e1, rfl⟩ := Option.map_eq_some_iff.mp h
        exact .inr (.inr ⟨x, hb, e1, rfl⟩)
      · obtain ⟨x, y, e1, e2, rfl⟩ := two h
        exact .inr (.inl ⟨x, y, e1, e2, rfl⟩)
  | _ =>
    simp only [trE] at h
    split at h
    · rename_i hb
      obtain ⟨x, e1, rfl⟩ := Option.map_eq_some_iff.mp h
      exact .inr (.inr ⟨x, hb, e1, rfl⟩)
    · obtain ⟨x, y, e1, e2, rfl⟩ := two h
      exact .inr (.inl ⟨x, y, e1, e2, rfl⟩)
theorem snd_lc {n : Nat} (S : Snd n) (g : Good X Γ Φ k) {e : Expr} {gs : List Comprehension} {scope : Scope} {p : Pos} {ir : Ex} (h : trE (n + 1) Γ (.ListComp e gs scope p) = some ir) : QE X (.ListComp e gs scope p) (wpE Φ ir) := by
  match gs, h with
  | [], h => simp [trE] at h
  | _ :: _ :: _, h => simp [trE] at h
  | [⟨tg, it, ifs, as⟩], h =>
    by_cases ha : as = 0
    · subst ha
      simp only [trE] at h
      split at h
      · cases h
      · rename_i hs
        obtain ⟨o, p', i', c', x', e1, e2, e3, e4, e5, hb, rfl⟩ := lc_inv h
        have ok : BlkOk X.N X.env.scope scope o := by rw [g.hN, g.sc]; exact blkOk_by hb
        simp only [wpE]
        exact q_lc g.calm (by rw [g.hN]; exact g.nd) (S.i g e3) ok (own_places n (Γ := Γ) (Δ := blk Γ scope) rfl e2 e1) (fun s H C cl fp => pt_snd n (good_blk g ok s H C cl fp) e2) (fun s H C cl fp => S.c (good_blk g ok s H C cl fp) e4)
          (fun s H C cl fp => S.e (good_blk g ok s H C cl fp) e5) (folded_of (by simpa using hs))
    · exfalso
      unfold trE at h
      split at h <;> simp_all
theorem snd_e {n : Nat} (S : Snd n) (g : Good X Γ Φ k) {e : Expr} {ir : Ex} (h : trE (n + 1) Γ e = some ir) : QE X e (wpE Φ ir) := by
  cases e with
  | Name x p => exact snd_name g h
  | BoolOp op es p => exact snd_bool S g h
  | BinOp a op b p =>
    simp only [trE] at h
    split at h
    · rename_i hc
      simp only [Bool.and_eq_true] at hc
      obtain ⟨i, x, y, e0, e1, e2, rfl⟩ := three h
      have ho : op = .Add := by
        have := hc.2
        cases op <;> first | rfl | cases this
      subst ho
      simp only [wpE]
      cases hsp : Φ i with
      | none => exact ⟨fun pins s σ H Q I ⟨_, _, _, _, _, ⟨sp, z, _⟩, _⟩ => by cases z⟩
      | some sp =>
        exact (q_bin (g.oop e0 hsp) (S.e g e1) (S.e g e2)).weak fun σ H Q ⟨env, S, Qd, re, so, ⟨sp', z, h⟩, l⟩ => by
          cases z
          exact ⟨env, S, Qd, re, so, h, l⟩
    obtain ⟨x, y, e1, e2, rfl⟩ := two h
    simp only [wpE]
    exact q_bin (opD_ok op) (S.e g e1) (S.e g e2)
  | Attribute e f p =>
    simp only [trE] at h
    split at h
    · cases h
    · rename_i hsu
      have hb := fun nm => base_of (attr := nm) (env := X.env) (whole := eval e X.env) (by simpa using hsu)
      split at h
      · rename_i hf
        subst hf
        obtain ⟨i, x, e0, e1, rfl⟩ := two h
        simp only [wpE]
        cases hsp : Φ i with
        | none => exact ⟨fun pins s σ H Q I ⟨_, _, _, _, _, ⟨sp, z, _⟩, _⟩ => by cases z⟩
        | some sp =>
          obtain ⟨CL, CP, L, _⟩ := g.long e0 hsp
          exact (q_att L (S.e g e1) (hb _)).weak fun σ H Q ⟨env, S, Qd, re, so, ⟨sp', z, h⟩, l⟩ => ⟨env, S, Qd, re, so, h, l⟩
      · split at h
        · rename_i hf
          subst hf
          obtain ⟨i, x, e0, e1, rfl⟩ := two h
          simp only [wpE]
          cases hsp : Φ i with
          | none => exact ⟨fun pins s σ H Q I ⟨_, _, _, _, _, ⟨sp, z, _⟩, _⟩ => by cases z⟩
          | some sp =>
            cases g.fs _ i sp e0 hsp with
            | fn hx ex => have hx := hx.1; rw [dot_dotN] at hx; cases hx
            | mk hx ex => have hx := hx.1; rw [dot_dotN] at hx; cases hx
            | me m' hx hm ex => exact absurd (dotN_inj hx).symm hm.1
            | fx y hx hy _ => exact no_bang hx (bang_dotN _)
            | mx m hx _ _ => exact no_bang hx (bang_dotN _)
            | ek c hx _ _ => exact no_bang hx (bang_dotN _)
            | pr hx ex =>
              obtain ⟨CL, CP, pp, gg, fd, ps, j, hj, L, p0, p1, hbd, F, hlen⟩ := ex
              exact (q_prp L p0 p1 F (g.room.mono hj) g.gd hbd hlen (S.e g e1) (hb _)).weak fun σ H Q ⟨env, S, Qd, re, so, ⟨sp', z, h⟩, l⟩ => by
                cases z
                exact ⟨env, S, Qd, re, so, h, l⟩
        · cases h
  | UnaryOp op a p =>
    cases op with
    | USub =>
      simp only [trE] at h
      obtain ⟨x, e1, rfl⟩ := Option.map_eq_some_iff.mp h
      simp only [wpE]
      exact q_neg (S.e g e1)
    | Not =>
      simp only [trE] at h
      obtain ⟨x, e1, rfl⟩ := Option.map_eq_some_iff.mp h
      simp only [wpE]
      exact q_not (S.e g e1)
    | _ => simp [trE] at h
  | Constant c j p =>
    cases c with
    | int i => simp only [trE] at h; cases h; simp only [wpE]; exact q_con pe_int fun H => .int
    | bool i => simp only [trE] at h; cases h; simp only [wpE]; exact q_con pe_bl fun H => .bl
    | none => simp only [trE] at h; cases h; simp only [wpE]; exact q_con pe_non fun H => .non
    | str i => simp only [trE] at h; cases h; simp only [wpE]; exact q_con pe_str fun H => by simp only [Rep]
    | _ => simp [trE] at h
  | Compare a ops cs p =>
    rcases cmp_inv h with ⟨op, b, x, y, rfl, rfl, hs, e1, e2, rfl⟩ | ⟨o1, o2, b, c, x, y, z, rfl, rfl, hs, e1, e2, e3, rfl⟩ | ⟨op, b, i, x, y, rfl, rfl, hs, e0, e1, e2, rfl⟩
    · simp only [wpE]
      exact q_cmp (cmpD_ok g.units op) (S.e g e1) (S.e g e2) (marks_of hs)
    · simp only [wpE]
      exact q_chain g.units (S.e g e1) (S.e g e2) (S.e g e3) (lmarks_of hs)
    · simp only [wpE]
      cases hsp : Φ i with
      | none => exact ⟨fun pins s σ H Q I ⟨_, _, _, _, _, ⟨sp, z, _⟩, _⟩ => by cases z⟩
      | some sp =>
        exact (q_cmp (g.ocm e0 hsp) (S.e g e1) (S.e g e2) (marks_of hs)).weak fun σ H Q ⟨env, S, Qd, re, so, ⟨sp', z, h⟩, l⟩ => by
          cases z
          exact ⟨env, S, Qd, re, so, h, l⟩
  | IfExp c a b p =>
    simp only [trE] at h
    obtain ⟨x, y, z, e1, e2, e3, rfl⟩ := three h
    simp only [wpE]
    exact q_ite (S.t g e1) (S.e g e2) (S.e g e3)
  | Call f as ks p =>
    cases ks with
    | cons _ _ => exact (snd_kw S g h).1
    | nil =>
      cases f with
      | Name f fp =>
        cases as with
        | nil => simp [trE] at h
        | cons a as => exact snd_call S g h
      | Attribute o m ap => exact snd_mt S g h
      | _ => simp [trE] at h
  | Tuple es kk p =>
    simp only [trE] at h
    obtain ⟨x, e1, rfl⟩ := Option.map_eq_some_iff.mp h
    simp only [wpE]
    exact q_tup (S.a g e1)
  | List es p =>
    simp only [trE] at h
    obtain ⟨x, e1, rfl⟩ := Option.map_eq_some_iff.mp h
    simp only [wpE]
    exact q_lst (S.a g e1)
  | Subscript a b p =>
    rcases sub_inv h with ⟨lo, hi, p2, x, y, z, rfl, e1, e2, e3, rfl⟩ | ⟨x, y, e1, e2, rfl⟩ | ⟨x, hb, e1, rfl⟩
    · simp only [wpE]
      exact q_sl (S.e g e1) (S.o g e2) (S.o g e3)
    · simp only [wpE]
      exact q_idx (S.e g e1) (S.e g e2) (plainIx_of e2)
    · obtain ⟨k, p1, p2, p3, rfl⟩ := back_inv hb
      simp only [wpE, wpA]
      exact q_rev (S.e g e1)
  | ListComp e gs scope p => exact snd_lc S g h
  | JoinedStr es p =>
    match es, h with
    | [], h => simp [trE] at h
    | [_], h => simp [trE] at h
    | a :: b :: r, h =>
      simp only [trE] at h
      obtain ⟨x, e1, rfl⟩ := Option.map_eq_some_iff.mp h
      simp only [wpE]
      exact q_fs (S.j g e1)
  | _ => simp [trE] at h
theorem snd_t {n : Nat} (S : Snd n) (g : Good X Γ Φ k) {e : Expr} {ir : Ex} (h : trE (n + 1) Γ e = some ir) : QT X e (wpT Φ ir) := by
  cases e with
  | Name x p =>
    have q := snd_name g h
    simp only [trE] at h
    split at h
    · cases h
    · split at h
      · obtain ⟨i, e1, rfl⟩ := Option.map_eq_some_iff.mp h
        simp only [wpE] at q
        simp only [wpT]
        refine (qt_truth q fun _ => rfl).weak fun σ H Q ⟨env, S, Qd, re, so, ⟨d, e, h⟩, l⟩ => ⟨env, S, Qd, re, so, ⟨d, e, h⟩, l⟩
      · split at h
        · obtain ⟨i, e1, rfl⟩ := Option.map_eq_some_iff.mp h
          simp only [wpT]
          exact no_t
        · cases h
  | BoolOp op es p => exact (snd_boolw S g h).pt
  | UnaryOp op a p =>
    cases op with
    | USub =>
      simp only [trE] at h
      obtain ⟨x, e1, rfl⟩ := Option.map_eq_some_iff.mp h
      simp only [wpT]
      exact no_t
    | Not =>
      simp only [trE] at h
      obtain ⟨x, e1, rfl⟩ := Option.map_eq_some_iff.mp h
      simp only [wpT]
      exact qt_not (S.t g e1)
    | _ => simp [trE] at h
  | Compare a ops cs p =>
    rcases cmp_inv h with ⟨op, b, x, y, rfl, rfl, hs, e1, e2, rfl⟩ | ⟨o1, o2, b, c, x, y, z, rfl, rfl, hs, e1, e2, e3, rfl⟩ | ⟨op, b, i, x, y, rfl, rfl, hs, e0, e1, e2, rfl⟩
    · simp only [wpT]
      exact qt_cmp g.units (S.e g e1) (S.e g e2) (marks_of hs)
    · simp only [wpT]
      exact qt_chain g.units (S.e g e1) (S.e g e2) (S.e g e3) (lmarks_of hs)
    · simp only [wpT]
      cases hsp : Φ i with
      | none => exact ⟨fun pins s σ H Q I ⟨_, _, _, _, _, ⟨sp, z, _⟩, _⟩ => by cases z⟩
      | some sp =>
        exact (qt_cmpO (g.ocm e0 hsp) (S.e g e1) (S.e g e2) (marks_of hs)).weak fun σ H Q ⟨env, S, Qd, re, so, ⟨sp', z, h⟩, l⟩ => by
          cases z
          exact ⟨env, S, Qd, re, so, h, l⟩
  | Call f as ks p =>
    cases ks with
    | cons _ _ =>
      obtain ⟨q1, q2⟩ := snd_kw S g h
      rw [q2]
      exact qt_truth q1 fun _ => rfl
    | nil =>
      cases f with
      | Name f fp =>
        cases as with
        | nil => simp [trE] at h
        | cons a as =>
          have q := snd_call S g h
          simp only [trE] at h
          split at h
          · cases h
          · split at h
            · obtain ⟨x, e1, rfl⟩ := Option.map_eq_some_iff.mp h
              simp only [wpE] at q
              simp only [wpT]
              exact qt_truth q fun _ => rfl
            split at h
            · obtain ⟨x, e1, rfl⟩ := Option.map_eq_some_iff.mp h
              simp only [wpE] at q
              simp only [wpT]
              exact qt_truth q fun _ => rfl
            split at h
            · split at h
              · split at h
                · obtain ⟨i, x, e1, e2, rfl⟩ := two h
                  simp only [wpE] at q
                  simp only [wpT]
                  exact (qt_truth q fun _ => rfl).weak fun σ H Q ⟨env, S, Qd, re, so, ⟨sp, e, h⟩, l⟩ => ⟨env, S, Qd, re, so, ⟨sp, e, h⟩, l⟩
                obtain ⟨b, x, e1, e2, rfl⟩ := two h
                simp only [wpE] at q
                simp only [wpT]
                exact qt_truth q fun _ => rfl
              · cases h
            split at h
            · obtain ⟨b, xs, e1, e2, rfl⟩ := two h
              simp only [wpE] at q
              simp only [wpT]
              exact qt_truth q fun _ => rfl
            · obtain ⟨fi, xs, hf, e2, rfl⟩ := two h
              simp only [wpE] at q
              simp only [wpT]
              exact (qt_truth q fun _ => rfl).weak fun σ H Q ⟨env, S, Qd, re, so, ⟨sp, e, h⟩, l⟩ => ⟨env, S, Qd, re, so, ⟨sp, e, h⟩, l⟩
      | Attribute o m ap =>
        simp only [trE] at h
        split at h
        · cases h
        · split at h
          · split at h
            · cases h
            · obtain ⟨fi, x, xs, e1, e2, e3, rfl⟩ := three h
              simp only [wpT]
              exact no_t
          obtain ⟨mm, x, xs, e1, e2, e3, rfl⟩ := three h
          simp only [wpT]
          exact no_t
      | _ => simp [trE] at h
  | Subscript a b p =>
    have q := snd_e S g h
    rcases sub_inv h with ⟨lo, hi, p2, x, y, z, rfl, e1, e2, e3, rfl⟩ | ⟨x, y, e1, e2, rfl⟩ | ⟨x, hb, e1, rfl⟩
    · simp only [wpT]
      exact no_t
    · simp only [wpE] at q
      simp only [wpT]
      exact qt_truth q fun _ => rfl
    · simp only [wpE] at q
      simp only [wpT]
      exact qt_truth q fun _ => rfl
  | Constant c j p => cases c <;> simp only [trE] at h <;> first | (cases h; simp only [wpT]; exact no_t) | cases h
  | BinOp a op b p =>
    simp only [trE] at h
    split at h
    · obtain ⟨i, x, y, e0, e1, e2, rfl⟩ := three h
      simp only [wpT]
      exact no_t
    obtain ⟨x, y, e1, e2, rfl⟩ := two h
    simp only [wpT]
    exact no_t
  | Attribute e f p =>
    simp only [trE] at h
    split at h
    · cases h
    · split at h
      · obtain ⟨i, x, e0, e1, rfl⟩ := two h
        simp only [wpT]
        exact no_t
      · split at h
        · obtain ⟨i, x, e0, e1, rfl⟩ := two h
          simp only [wpT]
          exact no_t
        · cases h
  | IfExp c a b p =>
    simp only [trE] at h
    obtain ⟨x, y, z, e1, e2, e3, rfl⟩ := three h
    simp only [wpT]
    exact no_t
  | Tuple es kk p =>
    simp only [trE] at h
    obtain ⟨x, e1, rfl⟩ := Option.map_eq_some_iff.mp h
    simp only [wpT]
    exact no_t
  | List es p =>
    simp only [trE] at h
    obtain ⟨x, e1, rfl⟩ := Option.map_eq_some_iff.mp h
    simp only [wpT]
    exact no_t
  | ListComp e gs scope p =>
    unfold trE at h
    split at h <;> try (cases h)
    all_goals (try split at h) <;> try cases h
    all_goals (first | (obtain ⟨o, p', i', c', x', e1, e2, e3, e4, e5, hb, rfl⟩ := lc_inv h; simp only [wpT]; exact no_t) | simp_all)
  | JoinedStr es p =>
    match es, h with
    | [], h => simp [trE] at h
    | [_], h => simp [trE] at h
    | a :: b :: r, h =>
      simp only [trE] at h
      obtain ⟨x, e1, rfl⟩ := Option.map_eq_some_iff.mp h
      simp only [wpT]
      exact no_t
  | _ => simp [trE] at h
end
end G57
set_option Elab.async false
set_option linter.all false
set_option maxRecDepth 100000
set_option maxHeartbeats 2000000
namespace G57
open PySem L2 PySem.Spec PyProof.Rows
section
variable {X : Cx} {Γ : Gam} {Φ : Tab} {k : Nat}
theorem drv_rngd {K : PySem.W.Frag} {H0 : Hp} {G : Sto → Prop} {lo : Int} {n : Nat} : Drv K H0 (Itc lo (-1) n) ((List.range n).map fun i => .int (lo - (i : Nat))) G := fun H S i k so g => by
  refine ⟨fun d e => ?_, fun e => ?_⟩
  · rw [List.getElem?_map] at e
    obtain ⟨c, e1, rfl⟩ := Option.map_eq_some_iff.mp e
    obtain ⟨hlt, e1⟩ := List.getElem?_eq_some_iff.mp e1
    rw [List.length_range] at hlt
    rw [List.getElem_range] at e1
    subst e1
    refine ⟨hlt, fun w H' y => ?_⟩
    obtain ⟨rfl, rfl⟩ := y
    refine ⟨.refl, so, ?_⟩
    rw [show lo + (i : Int) * (-1) = lo - (i : Int) by omega]
    exact .int
  · show n ≤ i
    rw [e]; simp
theorem qi_R3 {tg a b c : Expr} {ta tb tc : TD} {p pos : Pos} (hg : Gl X "range") (hm : X.mg "range" = none) (ha : QE X a ta) (hb : QE X b tb) (hc : QE X c tc) (hs : starEach [a, b, c] X.env = (false, eval a X.env) :: starEach [b, c] X.env) (hs2 : starEach [b, c] X.env = (false, eval b X.env) :: starEach [c] X.env) (hs3 : starEach [c] X.env = [(false, eval c X.env)]) :
    QI X tg (.Call (.Name "range" p) [a, b, c] [] pos) (fun env S K => ta env S fun x S1 => tb env S1 fun y S2 => tc env S2 fun z S3 => range3D x y z S3 K) :=
  (pi_range3 hg hm (q_cons ha (args2 hb hc hs2 hs3) hs) hs (by rw [hs2]; show ((backTo pos [(false, eval b X.env)]).any (·.1) || (backTo pos (starEach [c] X.env)).any (·.1)) = false; rw [hs3]; rfl)).weak fun σ H R ⟨env, S, Kd, re, so, h, l⟩ => ⟨env, S, on3 fun x y z S1 => range3D x y z S1 Kd, re, so, h, fun ds S1 vs H1 h1 k1 r1 s1 => by
    obtain ⟨x, y, z, rfl, z1⟩ := on3_inv h1
    clear h1
    cases x <;> cases y <;> cases z <;> try exact z1.elim
    rename_i m n c
    simp only [Reps, Rep] at r1
    obtain ⟨_, _, rfl, rfl, _, _, rfl, rfl, _, _, rfl, rfl, rfl⟩ := r1
    obtain ⟨rfl, q1, q2, h1⟩ := z1
    refine ⟨m, n, -1, (m - n).toNat, rfl, RgC.neg q1.1 q1.2 q2.1 q2.2, ?_⟩
    exact l _ _ S1 _ H1 h1 k1 s1 trivial drv_rngd⟩
theorem snd_i {n : Nat} (S : Snd n) (g : Good X Γ Φ k) {tg e : Expr} {ir : Ex} (h : trI (n + 1) Γ (tupleT tg) e = some ir) : QI X tg e (wpI Φ ir) := by
  have gen : ∀ {x}, trE n Γ e = some x → QI X tg e (wpI Φ (.iE x)) := fun {x} e1 => by
    simp only [wpI]
    exact qi_E (S.e g e1)
  have isT : ∀ {b : Bool}, (tupleT tg && b) = true → ∃ es kk p, tg = .Tuple es kk p := fun {b} hb => by
    cases tg <;> first | exact ⟨_, _, _, rfl⟩ | (simp [tupleT] at hb)
  simp only [trI] at h
  split at h
  · rename_i f fp a pos
    split at h
    · rename_i ef
      subst ef
      split at h
      · rename_i hc
        simp only [Bool.and_eq_true, Bool.not_eq_true'] at hc
        obtain ⟨x, e1, rfl⟩ := Option.map_eq_some_iff.mp h
        simp only [wpI]
        exact qi_R1 (g.gl hc.1.1) (g.bs _ (by simpa using hc.1.2)) (S.e g e1) (star_cons hc.2)
      · cases h
    · split at h
      · rename_i ef
        subst ef
        split at h
        · rename_i hc
          simp only [Bool.and_eq_true, Bool.not_eq_true'] at hc
          obtain ⟨es, kk, p, rfl⟩ := isT (b := true) (by rw [hc.1.1.1]; rfl)
          obtain ⟨x, e1, rfl⟩ := Option.map_eq_some_iff.mp h
          simp only [wpI]
          exact qi_N2 (g.gl hc.1.1.2) (g.bs _ (by simpa using hc.1.2)) (S.e g e1) (star_cons hc.2)
        · cases h
      · obtain ⟨x, e1, rfl⟩ := Option.map_eq_some_iff.mp h
        exact gen e1
  · rename_i f fp a b pos
    split at h
    · rename_i ef
      subst ef
      split at h
      · rename_i hc
        simp only [Bool.and_eq_true, Bool.not_eq_true'] at hc
        obtain ⟨x, y, e1, e2, rfl⟩ := two h
        simp only [wpI]
        exact qi_R2 (g.gl hc.1.1.1) (g.bs _ (by simpa using hc.1.1.2)) (S.e g e1) (S.e g e2) (star_cons hc.1.2) (star_cons hc.2)
      · cases h
    · split at h
      · rename_i ef
        subst ef
        split at h
        · rename_i hc
          simp only [Bool.and_eq_true, Bool.not_eq_true'] at hc
          obtain ⟨es, kk, p, rfl⟩ := isT (b := true) (by rw [hc.1.1.1.1]; rfl)
          obtain ⟨x, y, e1, e2, rfl⟩ := two h
          simp only [wpI]
          exact qi_Z2 (g.gl hc.1.1.1.2) (g.bs _ (by simpa using hc.1.1.2)) (S.e g e1) (S.e g e2) (star_cons hc.1.2) (star_cons hc.2)
        · cases h
      · obtain ⟨x, e1, rfl⟩ := Option.map_eq_some_iff.mp h
        exact gen e1
  · rename_i f fp a b c pos
    split at h
    · rename_i ef
      subst ef
      split at h
      · rename_i hc
        simp only [Bool.and_eq_true, Bool.not_eq_true'] at hc
        obtain ⟨x, y, z, e1, e2, e3, rfl⟩ := three h
        simp only [wpI]
        exact qi_R3 (g.gl hc.1.1.1.1) (g.bs _ (by simpa using hc.1.1.1.2)) (S.e g e1) (S.e g e2) (S.e g e3) (star_cons hc.1.1.2) (star_cons hc.1.2) (star_cons hc.2)
      · cases h
    · obtain ⟨x, e1, rfl⟩ := Option.map_eq_some_iff.mp h
      exact gen e1
  · obtain ⟨x, e1, rfl⟩ := Option.map_eq_some_iff.mp h
    exact gen e1
theorem snd_j {n : Nat} (S : Snd n) (g : Good X Γ Φ k) {es : List Expr} {ir : Ex} (h : trJ (n + 1) Γ es = some ir) : QJ X es (wpJ Φ ir) := by
  cases es with
  | nil => simp only [trJ] at h; cases h; simp only [wpJ]; exact qj_nil
  | cons e es =>
    cases e with
    | FormattedValue e cv sp p =>
      by_cases hc : cv = -1
      · subst hc
        cases sp with
        | none =>
          simp only [trJ] at h
          obtain ⟨x, y, e1, e2, rfl⟩ := two h
          simp only [wpJ]
          exact qj_cons (q_fmt (S.e g e1)) (S.j g e2)
        | some s => simp [trJ] at h
      · exfalso
        unfold trJ at h
        split at h <;> simp_all
    | Constant c j p =>
      cases c with
      | str x =>
        simp only [trJ] at h
        obtain ⟨y, e1, rfl⟩ := Option.map_eq_some_iff.mp h
        simp only [wpJ, wpE]
        refine qj_cons (te := fun env S Q => Q (.str x.cps.toList) S) ?_ (S.j g e1)
        exact (q_con (d := .str x.cps.toList) pe_str fun H => by simp only [Rep]).weak fun σ H Q ⟨env, S, Qd, re, so, h, l⟩ => ⟨env, S, Qd, re, so, h.2, l⟩
      | _ => simp [trJ] at h
    | _ => simp [trJ] at h
end
theorem snd : ∀ n, Snd n
  | 0 => ⟨fun _ h => by simp [trE] at h, fun _ h => by simp [trE] at h, fun _ h => by simp [trE] at h, fun _ h => by simp [trA] at h, fun _ h => by simp [trO] at h, fun _ h => by simp [trC] at h, fun _ h => by simp [trI] at h, fun _ h => by simp [trJ] at h⟩
  | n + 1 => by
    have S := snd n
    refine ⟨fun g h => snd_e S g h, fun g h => snd_t S g h, fun g h => snd_boolw S g h, fun {X Γ Φ k es ir} g h => ?_, fun {X Γ Φ k e ir} g h => ?_, fun {X Γ Φ k es ir} g h => ?_, fun g h => snd_i S g h, fun g h => snd_j S g h⟩
    · cases es with
      | nil => simp only [trA] at h; cases h; simp only [wpA]; exact q_nil
      | cons e es =>
        have hs := trA_star h
        simp only [trA, hs, Bool.false_eq_true, if_false] at h
        obtain ⟨x, y, e1, e2, rfl⟩ := two h
        simp only [wpA]
        exact q_cons (S.e g e1) (S.a g e2) (star_cons hs)
    · cases e with
      | none => simp only [trO] at h; cases h; simp only [wpO]; exact q_on
      | some e =>
        simp only [trO] at h
        obtain ⟨x, e1, rfl⟩ := Option.map_eq_some_iff.mp h
        simp only [wpO]
        exact q_os (S.e g e1)
    · match es, h with
      | [], h => simp only [trC] at h; cases h; simp only [wpC]; exact q_yes
      | [c], h =>
        simp only [trC] at h
        obtain ⟨x, e1, rfl⟩ := Option.map_eq_some_iff.mp h
        simp only [wpC]
        exact pts_one (S.t g e1)
      | _ :: _ :: _, h => simp [trC] at h
def raisOf (Γ : Gam) : Option Expr → Option Expr → Option (Nat × Nat × Expr)
  | some (.Call (.Name x _) [e] [] _), none => match excIx x, vix Γ.fs (bangN x) with
    | some c, some i => if glB Γ.sc x && !starry e then some (i, c, e) else none
    | _, _ => none
  | _, _ => none
def compish : Expr → Bool
  | .ListComp _ _ _ _ | .SetComp _ _ _ _ | .DictComp _ _ _ _ _ => true
  | _ => false
def nameLc : Expr → Expr → Bool
  | .Name _ _, .ListComp _ _ _ _ => true
  | _, _ => false
def lc2Of (Γ : Gam) : Expr → Expr → Option (Str × Expr × Expr × Expr × Expr × Expr × Scope)
  | .Name y py, .ListComp e [⟨tg, it, [], 0⟩, ⟨tg1, it1, [], 0⟩] scope lp =>
    if Γ.sc.names.lookup y == some .local && py.line == lp.line && !(scope.names.any fun (n, k) => n == y && (k == .local || k == .cell)) && !setish it && !setish it1 then some (y, tg, it, tg1, it1, e, scope) else none
  | _, _ => none
def optLc2 (Γ : Gam) (scope : Scope) (j : Option Nat) (o o1 : Option (List (Str × Nat))) (p p1 : Option Pt) (i i1 x : Option Ex) : Option Sx := match j, o, o1, p, p1, i, i1, x with
  | some j, some o, some o1, some p, some p1, some i, some i1, some x => if blkC Γ.N Γ.sc scope (o ++ o1) then some (.lc2 j ((o ++ o1).map (·.2)) p i (o1.map (·.2)) p1 i1 x) else none
  | _, _, _, _, _, _, _, _ => none
def sliceish : Expr → Bool
  | .Slice _ _ _ _ => true
  | _ => false
def nameAt (sc : Scope) (line : Nat) : Expr → Option Str
  | .Name id pos => if sc.names.lookup id == some .local && pos.line == line then some id else none
  | _ => none
def swapN (sc : Scope) (ts vs : List Expr) : Option (List Str) :=
  if !(ts.length == 2 || ts.length == 3) || vs.length != ts.length then none
  else if vs.any starry then none
  else
    let names := ts.filterMap (nameAt sc ((ts.head?.map (·.pos.line)).getD 0))
    if names.length != ts.length || names.eraseDups.length != names.length then none
    else if vs.all (foldedForSure 8) then none
    else some names
def callOf : Stmt → Option (Bool × Expr)
  | .Return (some e) _ => some (true, e)
  | .Expr e _ => if compish e then none else some (false, e)
  | _ => none
def guardN : Expr → Option Str
  | .IfExp (.BoolOp .And [.Call _ [_, .Name x _] _ _, _] _) _ _ _ => some x
  | _ => none
def suiteE : List Stmt → Option Expr
  | [.Return (some e) _] => some e
  | [.Assign [_] e _] => some e
  | _ => none
def suiteOf (Γ : Gam) (en : Str) (c ei : Nat) : List Stmt → Option Sx
  | [.Return (some e) _] => (hxE en (excN c) (excF c) e).map fun wr => .cons (.ret (if wr = true then .lst (.cons (.var ei) .nil) else .var ei)) .nil
  | [.Assign [.Name y _] e _] => match hxE en (excN c) (excF c) e, vix Γ.N y with
    | some false, some j => if Γ.st.contains y && plainName y && decide (j ≠ ei) && !compish e then some (.cons (.asg (.v j) (.var ei)) .nil) else none
    | _, _ => none
  | _ => none
def tryB (Γ : Gam) (hn en x : Str) (e : Expr) : Bool :=
  glB Γ.sc hn && (decide (hn = "CountError") || decide (hn = x)) && decide (Γ.sc.names.lookup en = some .local) && plainName en && plainName hn && ((guardN e).isNone || (glB Γ.sc "isinstance" && Γ.bs.contains "isinstance" && glB Γ.sc "ValueError" && Γ.bs.contains "ValueError" && glB Γ.sc x))
def tryOf (Γ : Gam) (b : Stmt) (hn en : Str) (su : List Stmt) : Option (Nat × Nat × Nat × Bool × Expr × Sx) := match suiteE su with
  | none => none
  | some e => match excIx ((guardN e).getD hn), vix Γ.fs (bangN ((guardN e).getD hn)), vix Γ.N en, callOf b with
    | some c, some fx, some ei, some (r, ce) => if tryB Γ hn en ((guardN e).getD hn) e then (suiteOf Γ en c ei su).map fun h => (c, fx, ei, r, ce, h) else none
    | _, _, _, _ => none
def tryShape (Γ : Gam) : List Stmt → List ExceptHandler → List Stmt → List Stmt → Option (Nat × Nat × Nat × Bool × Expr × Sx)
  | [b], [.ExceptHandler (some (.Name hn _)) (some en) (s0 :: su) _], [], [] => tryOf Γ b hn en (s0 :: su)
  | _, _, _, _ => none
mutual
def trS : Nat → Gam → Stmt → Option Sx
  | 0, _, _ => none
  | n + 1, Γ, .Assign [.Subscript o i _] e _ => if compish e || sliceish i then none else opt3 (trE n Γ o) (trE n Γ i) (trE n Γ e) fun o i e => .set o i e
  | n + 1, Γ, .Assign [.Tuple ts _ _] (.Tuple vs k p) _ => match swapN Γ.sc ts vs with
    | none => opt2 (ptOf n Γ (.Tuple ts 0 p)) (trE n Γ (.Tuple vs k p)) fun p e => .asg p e
    | some _ => if vs.all (constantsAlone 8) then none else opt2 (ptOf n Γ (.Tuple ts 0 p)) (trE n Γ (.Tuple vs k p)) fun p e => .asg p e
  | n + 1, Γ, .Assign [tg] e _ => match lc2Of Γ tg e with
    | some (y, t0, it, t1, it1, x, scope) => optLc2 Γ scope (vix Γ.N y) (ownOf n Γ t0) (ownOf n Γ t1) (ptOf n (blk Γ scope) t0) (ptOf n (blk Γ scope) t1) (trI n Γ (tupleT t0) it) (trI n (blk Γ scope) (tupleT t1) it1) (trE n (blk Γ scope) x)
    | none => if compish e && !tupleT tg && !nameLc tg e then none else opt2 (ptOf n Γ tg) (trE n Γ e) fun p e => .asg p e
  | n + 1, Γ, .Expr e _ => if compish e then none else (trE n Γ e).map .ex
  | n + 1, Γ, .Return (some e) _ => (trE n Γ e).map .ret
  | n + 1, Γ, .If c a b _ => opt3 (trE n Γ c) (trB n Γ a) (trB n Γ b) fun c a b => .iff c a b
  | n + 1, Γ, .For tg it b [] _ => if setish it then none else opt3 (ptOf n Γ tg) (trI n Γ (tupleT tg) it) (trB n Γ b) fun p i b => .loop p i b
  | n + 1, Γ, .While c b [] _ => opt2 (trE n Γ c) (trB n Γ b) fun c b => .wh c b
  | n + 1, _, .Break _ => some .brk
  | n + 1, _, .Continue _ => some .cnt
  | n + 1, _, .Pass _ => some .pass
  | n + 1, Γ, .Raise a b _ => match raisOf Γ a b with
    | some (i, c, e) => (trE n Γ e).map fun x => .rais i c x
    | none => some .rai
  | n + 1, Γ, .Try b hs els fin _ => match tryShape Γ b hs els fin with
    | some (c, fx, ei, r, ce, h) => match ce with
      | .Call (.Name f _) (a :: as) [] _ => if plainName f && glB Γ.sc f && (excIx f).isNone then opt2 (vix Γ.fs (bangN f)) (trA n Γ (a :: as)) fun fi xs => .tryx fi fx false xs r ei c h else none
      | .Call (.Attribute o m apos) as [] cpos => if superish o || !(apos.endLine == cpos.line) || !decide (as.length < 20) || starry o || !objB 8 Γ.os o then none else opt3 (vix Γ.fs (bangN (dotN m))) (trE n Γ o) (trA n Γ as) fun fi x xs => .tryx fi fx true (.cons x xs) r ei c h
      | _ => none
    | none => none
  | _, _, _ => none
def trB : Nat → Gam → List Stmt → Option Sx
  | 0, _, _ => none
  | n + 1, _, [] => some .nil
  | n + 1, Γ, s :: r => opt2 (trS n Γ s) (trB n Γ r) fun a b => .cons a b
end
end G57
set_option Elab.async false
set_option linter.all false
set_option maxRecDepth 100000
set_option maxHeartbeats 2000000
namespace G57
open PySem L2 PySem.Spec PyProof.Rows
theorem ptOf_tup {n : Nat} {Γ : Gam} {es : List Expr} {a c : Nat} {b d : Pos} : ptOf n Γ (.Tuple es a b) = ptOf n Γ (.Tuple es c d) := by cases n <;> rfl
theorem sole_plain {tg e : Expr} {l : Nat} {env : Env} (h : compish e = false) : swapsWithSole [tg] e l env = pure false := by
  cases e <;> first | rfl | (simp [compish] at h)
theorem none_plain {e : Expr} {l : Nat} {env : Env} (h : compish e = false) : swapsWith e none l env = pure false := by
  cases e <;> first | rfl | (simp [compish] at h)
theorem sole_tup {es : List Expr} {k : Nat} {p : Pos} {e : Expr} {l : Nat} {env : Env} : swapsWithSole [.Tuple es k p] e l env = pure false := by
  cases e <;> rfl
theorem stores_name {x : Str} {p : Pos} {e : Expr} {env : Env} : swappedStores [.Name x p] e env = pure none := by cases e <;> rfl
theorem stores_sub {o i : Expr} {p : Pos} {e : Expr} {env : Env} : swappedStores [.Subscript o i p] e env = pure none := by cases e <;> rfl
theorem stores_tup {es : List Expr} {k : Nat} {p : Pos} {e : Expr} {env : Env} (h : tupleT e = false) : swappedStores [.Tuple es k p] e env = pure none := by
  cases e <;> first | rfl | (simp [tupleT] at h)
theorem stores_eq {ts vs : List Expr} {k k2 : Nat} {p p2 : Pos} {env : Env} (hk : env.scope.kind = .function) :
    (swapN env.scope ts vs = none → swappedStores [.Tuple ts k p] (.Tuple vs k2 p2) env = pure none) ∧
    (∀ names, swapN env.scope ts vs = some names → vs.all (constantsAlone 8) = false → swappedStores [.Tuple ts k p] (.Tuple vs k2 p2) env = pure (some names)) := by
  have hb : (env.blockKind != .function) = false := by unfold Env.blockKind; rw [hk]; rfl
  generalize hm : swappedStores [.Tuple ts k p] (.Tuple vs k2 p2) env = m
  unfold swappedStores at hm
  simp only [hb, Bool.or_false] at hm
  generalize hF : List.any vs _ = b2 at hm
  generalize hG : List.filterMap _ ts = nm at hm
  have hF' : vs.any starry = b2 := by
    rw [← hF]; congr 1
  have hG' : ts.filterMap (nameAt env.scope ((ts.head?.map (·.pos.line)).getD 0)) = nm := by
    rw [← hG]; congr 1
  unfold swapN
  simp only [hF', hG']
  subst hm
  refine ⟨fun h => ?_, fun names h hc => ?_⟩
  · split
    · rfl
    · rename_i c1
      rw [if_neg c1] at h
      split
      · rfl
      · rename_i c2
        rw [if_neg c2] at h
        split
        · rfl
        · rename_i c3
          rw [if_neg c3] at h
          split
          · rfl
          · rename_i c4
            rw [if_neg c4] at h
            cases h
  · split
    · rename_i c1; rw [if_pos c1] at h; cases h
    · rename_i c1
      rw [if_neg c1] at h
      split
      · rename_i c2; rw [if_pos c2] at h; cases h
      · rename_i c2
        rw [if_neg c2] at h
        split
        · rename_i c3; rw [if_pos c3] at h; cases h
        · rename_i c3
          rw [if_neg c3] at h
          split
          · rename_i c4; rw [if_pos c4] at h; cases h
          · rename_i c4
            rw [if_neg c4] at h
            cases h
            rw [hc]
            rfl
end G57
set_option Elab.async false
set_option linter.all false
set_option maxRecDepth 100000
set_option maxHeartbeats 2000000
namespace G57
open PySem L2 PySem.Spec PyProof.Rows
section
variable {X : Cx} {W : WX} {Γ : Gam} {Φ : Tab} {k : Nat}
theorem Good.nds (g : Good X Γ Φ k) : X.N.Nodup := by rw [g.hN]; exact g.nd
theorem one_each {tg : Expr} {env : Env} (h : starry tg = false) : (assignEach [tg] env).map (·.2) = [assign tg env] := by rw [each_cons h]; rfl
theorem nameAt_inv {sc : Scope} {l : Nat} {e : Expr} {x : Str} (h : nameAt sc l e = some x) : ∃ p, e = .Name x p ∧ sc.names.lookup x = some .local := by
  cases e <;> simp only [nameAt] at h <;> try (cases h)
  rename_i y p
  split at h
  · rename_i hc
    cases h
    rw [Bool.and_eq_true] at hc
    refine ⟨p, rfl, ?_⟩
    have := hc.1
    generalize sc.names.lookup x = z at this
    revert this
    cases z with
    | none => intro h; cases h
    | some k => cases k <;> first | (intro _; rfl) | (intro h; cases h)
  · cases h
theorem fm_two {sc : Scope} {l : Nat} {t1 t2 : Expr} {names : List Str} (h : [t1, t2].filterMap (nameAt sc l) = names) (hl : names.length = 2) : ∃ x y p q, t1 = .Name x p ∧ t2 = .Name y q ∧ names = [x, y] ∧ sc.names.lookup x = some .local ∧ sc.names.lookup y = some .local := by
  cases h1 : nameAt sc l t1 with
  | none =>
    rw [List.filterMap_cons_none h1] at h
    have := List.length_filterMap_le (nameAt sc l) [t2]
    rw [h, hl] at this
    simp at this
  | some x =>
    rw [List.filterMap_cons_some h1] at h
    cases h2 : nameAt sc l t2 with
    | none => rw [List.filterMap_cons_none h2] at h; subst h; simp at hl
    | some y =>
      rw [List.filterMap_cons_some h2] at h
      obtain ⟨p, e1, l1⟩ := nameAt_inv h1
      obtain ⟨q, e2, l2⟩ := nameAt_inv h2
      exact ⟨x, y, p, q, e1, e2, h.symm, l1, l2⟩
theorem fm_three {sc : Scope} {l : Nat} {t1 t2 t3 : Expr} {names : List Str} (h : [t1, t2, t3].filterMap (nameAt sc l) = names) (hl : names.length = 3) : ∃ x y z p q r, t1 = .Name x p ∧ t2 = .Name y q ∧ t3 = .Name z r ∧ names = [x, y, z] ∧ sc.names.lookup x = some .local ∧ sc.names.lookup y = some .local ∧ sc.names.lookup z = some .local := by
  cases h1 : nameAt sc l t1 with
  | none =>
    rw [List.filterMap_cons_none h1] at h
    have := List.length_filterMap_le (nameAt sc l) [t2, t3]
    rw [h, hl] at this
    simp at this
  | some x =>
    rw [List.filterMap_cons_some h1] at h
    obtain ⟨p, e1, l1⟩ := nameAt_inv h1
    subst h
    obtain ⟨y, z, q, r, e2, e3, e4, l2, l3⟩ := fm_two rfl (by simpa using hl)
    exact ⟨x, y, z, p, q, r, e1, e2, e3, by rw [e4], l1, l2, l3⟩
theorem swapN_inv {sc : Scope} {ts vs : List Expr} {names : List Str} (h : swapN sc ts vs = some names) :
    (ts.length = 2 ∨ ts.length = 3) ∧ vs.length = ts.length ∧ ts.filterMap (nameAt sc ((ts.head?.map (·.pos.line)).getD 0)) = names ∧ names.length = ts.length ∧ names.eraseDups.length = names.length := by
  unfold swapN at h
  split at h
  · cases h
  · rename_i c1
    split at h
    · cases h
    · simp only at h
      split at h
      · cases h
      · rename_i c3
        split at h
        · cases h
        · cases h
          simp only [Bool.or_eq_true, Bool.not_eq_true', bne_iff_ne, ne_eq, not_or, Classical.not_not] at c1 c3
          refine ⟨?_, c1.2, rfl, c3.1, c3.2⟩
          have := c1.1
          simp only [Bool.not_eq_false, Bool.or_eq_true, beq_iff_eq] at this
          exact this
theorem dups_two {x y : Str} (h : [x, y].eraseDups.length = 2) : x ≠ y := by
  intro e
  subst e
  simp [List.eraseDups_cons] at h
theorem dups_three {x y z : Str} (h : [x, y, z].eraseDups.length = 3) : x ≠ y ∧ x ≠ z ∧ y ≠ z := by
  refine ⟨fun e => ?_, fun e => ?_, fun e => ?_⟩
  · subst e
    rw [List.eraseDups_cons] at h
    simp only [List.filter_cons, List.filter_nil, beq_self_eq_true, Bool.not_true, Bool.false_eq_true, if_false] at h
    split at h <;> simp [List.eraseDups_cons] at h
  · subst e
    rw [List.eraseDups_cons] at h
    simp [List.filter_cons] at h
    split at h <;> simp [List.eraseDups_cons] at h
  · subst e
    rw [List.eraseDups_cons] at h
    simp [List.filter_cons] at h
    split at h <;> simp [List.eraseDups_cons] at h
theorem ptOf_name {n : Nat} {x : Str} {p : Pos} {q : Pt} (h : ptOf n Γ (.Name x p) = some q) : ∃ i, vix Γ.N x = some i ∧ q = .v i := by
  cases n with
  | zero => simp [ptOf] at h
  | succ n =>
    simp only [ptOf] at h
    split at h
    · obtain ⟨i, e, rfl⟩ := Option.map_eq_some_iff.mp h
      exact ⟨i, e, rfl⟩
    · cases h
theorem ptOf_two {n : Nat} {x y : Str} {p q r : Pos} {kk : Nat} {w : Pt} (h : ptOf n Γ (.Tuple [.Name x p, .Name y q] kk r) = some w) : ∃ i j, vix Γ.N x = some i ∧ vix Γ.N y = some j ∧ w = .t (.cons (.v i) (.cons (.v j) .nil)) := by
  cases n with
  | zero => simp [ptOf] at h
  | succ n =>
    simp only [ptOf, List.foldr_cons, List.foldr_nil] at h
    cases h1 : ptOf n Γ (.Name x p) with
    | none => rw [h1] at h; simp at h
    | some a =>
      cases h2 : ptOf n Γ (.Name y q) with
      | none => rw [h1, h2] at h; simp at h
      | some b =>
        rw [h1, h2] at h
        obtain ⟨i, e1, rfl⟩ := ptOf_name h1
        obtain ⟨j, e2, rfl⟩ := ptOf_name h2
        simp at h
        exact ⟨i, j, e1, e2, h.symm⟩
theorem ptOf_three {n : Nat} {x y z : Str} {p q r s : Pos} {kk : Nat} {w : Pt} (h : ptOf n Γ (.Tuple [.Name x p, .Name y q, .Name z r] kk s) = some w) : ∃ i j l, vix Γ.N x = some i ∧ vix Γ.N y = some j ∧ vix Γ.N z = some l ∧ w = .t (.cons (.v i) (.cons (.v j) (.cons (.v l) .nil))) := by
  cases n with
  | zero => simp [ptOf] at h
  | succ n =>
    simp only [ptOf, List.foldr_cons, List.foldr_nil] at h
    cases h1 : ptOf n Γ (.Name x p) with
    | none => rw [h1] at h; simp at h
    | some a =>
      cases h2 : ptOf n Γ (.Name y q) with
      | none => rw [h1, h2] at h; simp at h
      | some b =>
        cases h3 : ptOf n Γ (.Name z r) with
        | none => rw [h1, h2, h3] at h; simp at h
        | some c =>
          rw [h1, h2, h3] at h
          obtain ⟨i, e1, rfl⟩ := ptOf_name h1
          obtain ⟨j, e2, rfl⟩ := ptOf_name h2
          obtain ⟨l, e3, rfl⟩ := ptOf_name h3
          simp at h
          exact ⟨i, j, l, e1, e2, e3, h.symm⟩
theorem trA_inv {n : Nat} {e : Expr} {es : List Expr} {ir : Ex} (h : trA n Γ (e :: es) = some ir) : ∃ m x y, trE m Γ e = some x ∧ trA m Γ es = some y ∧ ir = .cons x y := by
  have hs := trA_star h
  cases n with
  | zero => simp [trA] at h
  | succ n =>
    simp only [trA, hs, Bool.false_eq_true, if_false] at h
    obtain ⟨x, y, e1, e2, rfl⟩ := two h
    exact ⟨n, x, y, e1, e2, rfl⟩
theorem trA_nil {n : Nat} {ir : Ex} (h : trA n Γ [] = some ir) : ir = .nil := by
  cases n with
  | zero => simp [trA] at h
  | succ n => simp only [trA] at h; cases h; rfl
theorem vix_ne {N : List Str} {x y : Str} {i j : Nat} (h1 : vix N x = some i) (h2 : vix N y = some j) (hn : x ≠ y) : i ≠ j := fun e => by
  subst e
  have := (vix_get h1).symm.trans (vix_get h2)
  cases this
  exact hn rfl
theorem snd_par {n : Nat} (g : Good X Γ Φ k) {ts vs : List Expr} {kt k2 : Nat} {pt pt2 pos : Pos} {p : Pt} {e : Ex} {names : List Str} (hw : swapN Γ.sc ts vs = some names) (hc : vs.all (constantsAlone 8) = false)
    (h1 : ptOf n Γ (.Tuple ts kt pt) = some p) (h2 : trE n Γ (.Tuple vs k2 pt2) = some e) : QS X W (.Assign [.Tuple ts kt pt] (.Tuple vs k2 pt2) pos) (wpS Φ (.asg p e)) := by
  obtain ⟨hl, hv, hf, hn, hd⟩ := swapN_inv hw
  have sw := (stores_eq (ts := ts) (vs := vs) (k := kt) (k2 := k2) (p := pt) (p2 := pt2) (env := X.env) (by rw [g.sc]; exact g.kd)).2 names (by rw [g.sc]; exact hw) hc
  have h2' : ∃ m as, trA m Γ vs = some as ∧ e = .tup as := by
    cases n with
    | zero => simp [trE] at h2
    | succ n =>
      simp only [trE] at h2
      obtain ⟨x, e1, rfl⟩ := Option.map_eq_some_iff.mp h2
      exact ⟨n, x, e1, rfl⟩
  obtain ⟨m, as, ea, rfl⟩ := h2'
  have lk : ∀ {x : Str}, Γ.sc.names.lookup x = some .local → X.env.scope.names.lookup x = some .local := fun h => by rw [g.sc]; exact h
  have nx : ∀ {x : Str} {i : Nat}, vix Γ.N x = some i → X.N[i]? = some x := fun h => by rw [g.hN]; exact vix_get h
  rcases hl with hl | hl
  · match ts, vs, hl, hv, hf, h1, sw, ea with
    | [t1, t2], [va, vb], _, _, hf, h1, sw, ea =>
      obtain ⟨x, y, px, py, rfl, rfl, rfl, lx, ly⟩ := fm_two hf hn
      obtain ⟨i, j, vi, vj, rfl⟩ := ptOf_two h1
      obtain ⟨m1, x1, r1, f1, f2, rfl⟩ := trA_inv ea
      obtain ⟨m2, x2, r2, f3, f4, rfl⟩ := trA_inv f2
      obtain rfl := trA_nil f4
      refine (qs_par (ta := wpE Φ x1) (tb := wpE Φ x2) g.calm g.nds (nx vi) (nx vj) (vix_ne vi vj (dups_two hd)) (lk lx) (lk ly) (args2 ((snd m1).e g f1) ((snd m2).e g f3) (star_cons (trA_star ea)) (star_cons (trA_star f2))) sw sole_tup).weak fun D' σ H ⟨env, S, E, re, so, h, l⟩ => ⟨env, S, E, re, so, ?_, l⟩
      simp only [wpS, wpE, wpA] at h
      have eq : (fun (v : D) (S1 : Sto) => wpE Φ x2 env S1 fun w S2 => ([v, w] : List D).length ≤ 16777216 ∧ wpP (.t (.cons (.v i) (.cons (.v j) .nil))) (.tup [v, w]) S2 env fun env' => E.nx env' S2) = fun v S1 => wpE Φ x2 env S1 fun w S2 => E.nx ((env.set i (some v)).set j (some w)) S2 := by
        funext v S1
        congr 1
        funext w S2
        simp [wpP, wpPs, seqD]
      rw [eq] at h
      exact h
  · match ts, vs, hl, hv, hf, h1, sw, ea with
    | [t1, t2, t3], [va, vb, vc], _, _, hf, h1, sw, ea =>
      obtain ⟨x, y, z, px, py, pz, rfl, rfl, rfl, rfl, lx, ly, lz⟩ := fm_three hf hn
      obtain ⟨i, j, o, vi, vj, vl, rfl⟩ := ptOf_three h1
      obtain ⟨m1, x1, r1, f1, f2, rfl⟩ := trA_inv ea
      obtain ⟨m2, x2, r2, f3, f4, rfl⟩ := trA_inv f2
      obtain ⟨m3, x3, r3, f5, f6, rfl⟩ := trA_inv f4
      obtain rfl := trA_nil f6
      obtain ⟨d1, d2, d3⟩ := dups_three hd
      refine (qs_par3 (ta := wpE Φ x1) (tb := wpE Φ x2) (tc := wpE Φ x3) g.calm g.nds (nx vi) (nx vj) (nx vl) (vix_ne vi vj d1) (vix_ne vi vl d2) (vix_ne vj vl d3) (lk lx) (lk ly) (lk lz)
        (q_cons ((snd m1).e g f1) (args2 ((snd m2).e g f3) ((snd m3).e g f5) (star_cons (trA_star f2)) (star_cons (trA_star f4))) (star_cons (trA_star ea))) sw sole_tup).weak fun D' σ H ⟨env, S, E, re, so, h, l⟩ => ⟨env, S, E, re, so, ?_, l⟩
      simp only [wpS, wpE, wpA] at h
      have eq : (fun (v : D) (S1 : Sto) => wpE Φ x2 env S1 fun w S2 => wpE Φ x3 env S2 fun w' S3 => ([v, w, w'] : List D).length ≤ 16777216 ∧ wpP (.t (.cons (.v i) (.cons (.v j) (.cons (.v o) .nil)))) (.tup [v, w, w']) S3 env fun env' => E.nx env' S3) = fun v S1 => wpE Φ x2 env S1 fun w S2 => wpE Φ x3 env S2 fun w' S3 => E.nx (((env.set i (some v)).set j (some w)).set o (some w')) S3 := by
        funext v S1
        congr 1
        funext w S2
        congr 1
        funext w' S3
        simp [wpP, wpPs, seqD]
      rw [eq] at h
      exact h
end
end G57
set_option Elab.async false
set_option linter.all false
set_option maxRecDepth 100000
set_option maxHeartbeats 2000000
namespace G57
open PySem L2 PySem.Spec PyProof.Rows
section
variable {X : Cx} {W : WX} {Γ : Gam} {Φ : Tab} {k : Nat}
theorem sw_lc {e : Expr} {gs : List Comprehension} {scope : Scope} {lp py : Pos} {y : Str} {l : Nat} {env : Env} (hk : env.scope.kind = .function) :
    swapsWith (.ListComp e gs scope lp) (some (.Name y py)) l env = pure (env.scope.names.lookup y == some .local && py.line == lp.line && !(scope.names.any fun (n, k) => n == y && (k == .local || k == .cell))) := by
  have hb : env.blockKind = .function := by unfold Env.blockKind; rw [hk]; rfl
  unfold swapsWith
  simp only [hb, Expr.pos]
  rfl
theorem loc_eq {z : Option NameKind} (h : (z == some NameKind.local) = true) : z = some .local := by
  cases z with
  | none => cases h
  | some k => cases k <;> first | rfl | cases h
theorem snd_nlc {n : Nat} (g : Good X Γ Φ k) {y : Str} {py lp pos : Pos} {e : Expr} {gs : List Comprehension} {scope : Scope} {p : Pt} {ir : Ex} (h1 : ptOf n Γ (.Name y py) = some p) (h2 : trE n Γ (.ListComp e gs scope lp) = some ir) :
    QS X W (.Assign [.Name y py] (.ListComp e gs scope lp) pos) (wpS Φ (.asg p ir)) := by
  have hk : X.env.scope.kind = .function := by rw [g.sc]; exact g.kd
  have sw := sw_lc (e := e) (gs := gs) (scope := scope) (lp := lp) (py := py) (y := y) (l := pos.line) (env := X.env) hk
  cases hb : (X.env.scope.names.lookup y == some .local && py.line == lp.line && !(scope.names.any fun (n, k) => n == y && (k == .local || k == .cell))) with
  | false =>
    rw [hb] at sw
    simp only [wpS]
    exact qs_asg ((snd n).e g h2) (pt_snd n g h1) sw stores_name (one_each (pt_plain h1))
  | true =>
    rw [hb] at sw
    rw [Bool.and_eq_true, Bool.and_eq_true] at hb
    have lk := loc_eq hb.1.1
    obtain ⟨j, vj, rfl⟩ := ptOf_name h1
    cases n with
    | zero => simp [trE] at h2
    | succ n =>
      match gs, h2, sw with
      | [], h, _ => simp [trE] at h
      | _ :: _ :: _, h, _ => simp [trE] at h
      | [⟨tg, it, ifs, as⟩], h, sw =>
        by_cases ha : as = 0
        · subst ha
          simp only [trE] at h
          split at h
          · cases h
          · rename_i hs
            obtain ⟨o, p', i', c', x', e1, e2, e3, e4, e5, hb, rfl⟩ := lc_inv h
            have ok : BlkOk X.N X.env.scope scope o := by rw [g.hN, g.sc]; exact blkOk_by hb
            have S := snd n
            simp only [wpS, wpE]
            exact qs_setLc g.calm g.nds (by rw [g.hN]; exact vix_get vj) lk sw (S.i g e3) ok (own_places n (Γ := Γ) (Δ := blk Γ scope) rfl e2 e1) (fun s H C cl fp => pt_snd n (good_blk g ok s H C cl fp) e2) (fun s H C cl fp => S.c (good_blk g ok s H C cl fp) e4)
              (fun s H C cl fp => S.e (good_blk g ok s H C cl fp) e5) (folded_of (by simpa using hs))
        · exfalso
          unfold trE at h
          split at h <;> simp_all
theorem lc2_inv {Γ : Gam} {tg e : Expr} {y : Str} {t0 it t1 it1 x : Expr} {scope : Scope} (h : lc2Of Γ tg e = some (y, t0, it, t1, it1, x, scope)) :
    ∃ py lp, tg = .Name y py ∧ e = .ListComp x [⟨t0, it, [], 0⟩, ⟨t1, it1, [], 0⟩] scope lp ∧ (Γ.sc.names.lookup y == some .local && py.line == lp.line && !(scope.names.any fun (n, k) => n == y && (k == .local || k == .cell))) = true ∧ setish it = false ∧ setish it1 = false := by
  unfold lc2Of at h
  split at h
  · split at h
    · rename_i hc
      simp only [Option.some.injEq, Prod.mk.injEq] at h
      obtain ⟨rfl, rfl, rfl, rfl, rfl, rfl, rfl⟩ := h
      rw [Bool.and_eq_true, Bool.and_eq_true] at hc
      exact ⟨_, _, rfl, rfl, hc.1.1, by simpa using hc.1.2, by simpa using hc.2⟩
    · cases h
  · cases h
theorem optLc2_inv {Γ : Gam} {scope : Scope} {j : Option Nat} {o o1 : Option (List (Str × Nat))} {p p1 : Option Pt} {i i1 x : Option Ex} {ir : Sx} (h : optLc2 Γ scope j o o1 p p1 i i1 x = some ir) :
    ∃ j' o' o1' p' p1' i' i1' x', j = some j' ∧ o = some o' ∧ o1 = some o1' ∧ p = some p' ∧ p1 = some p1' ∧ i = some i' ∧ i1 = some i1' ∧ x = some x' ∧ blkC Γ.N Γ.sc scope (o' ++ o1') = true ∧ ir = .lc2 j' ((o' ++ o1').map (·.2)) p' i' (o1'.map (·.2)) p1' i1' x' := by
  unfold optLc2 at h
  split at h
  · split at h
    · cases h; exact ⟨_, _, _, _, _, _, _, _, rfl, rfl, rfl, rfl, rfl, rfl, rfl, rfl, by assumption, rfl⟩
    · cases h
  · cases h
theorem snd_lc2 {n : Nat} (g : Good X Γ Φ k) {tg e : Expr} {pos : Pos} {y : Str} {t0 it t1 it1 x : Expr} {scope : Scope} {ir : Sx} (h1 : lc2Of Γ tg e = some (y, t0, it, t1, it1, x, scope))
    (h2 : optLc2 Γ scope (vix Γ.N y) (ownOf n Γ t0) (ownOf n Γ t1) (ptOf n (blk Γ scope) t0) (ptOf n (blk Γ scope) t1) (trI n Γ (tupleT t0) it) (trI n (blk Γ scope) (tupleT t1) it1) (trE n (blk Γ scope) x) = some ir) : QS X W (.Assign [tg] e pos) (wpS Φ ir) := by
  obtain ⟨py, lp, rfl, rfl, hb, hs, hs1⟩ := lc2_inv h1
  obtain ⟨j, o, o1, p, p1, i, i1, x', vj, e0, e1, e2, e3, e4, e5, e6, hbk, rfl⟩ := optLc2_inv h2
  have hk : X.env.scope.kind = .function := by rw [g.sc]; exact g.kd
  have sw := sw_lc (e := x) (gs := [⟨t0, it, [], 0⟩, ⟨t1, it1, [], 0⟩]) (scope := scope) (lp := lp) (py := py) (y := y) (l := pos.line) (env := X.env) hk
  rw [g.sc, hb] at sw
  rw [Bool.and_eq_true, Bool.and_eq_true] at hb
  have lk : X.env.scope.names.lookup y = some .local := by rw [g.sc]; exact loc_eq hb.1.1
  have ok : BlkOk X.N X.env.scope scope (o ++ o1) := by rw [g.hN, g.sc]; exact blkOk_by hbk
  have S := snd n
  simp only [wpS]
  exact qs_setLc2 g.calm g.nds (by rw [g.hN]; exact vix_get vj) lk sw (S.i g e4) ok
    (fun i hi => by rw [List.map_append]; exact List.mem_append_left _ (own_places n (Γ := Γ) (Δ := blk Γ scope) rfl e2 e0 i hi))
    (own_places n (Γ := Γ) (Δ := blk Γ scope) rfl e3 e1) (fun i hi => by rw [List.map_append]; exact List.mem_append_right _ hi)
    (fun s H C cl fp => pt_snd n (good_blk g ok s H C cl fp) e2) (fun s H C cl fp => S.i (good_blk g ok s H C cl fp) e5) (fun s H C cl fp => pt_snd n (good_blk g ok s H C cl fp) e3)
    (fun s H C cl fp => S.e (good_blk g ok s H C cl fp) e6) (folded_of hs) (fun env => folded_of hs1)
theorem set_arm {o i : Expr} {p : Pos} {env : Env} (h : sliceish i = false) : ∀ v, assign (.Subscript o i p) env v = (do
      let ov ← holding [v] (eval o env)
      let iv ← holding [v, ov] (eval i env)
      standAt p
      holding [v, ov, iv] (setItem ov iv v)
      release [v, ov, iv] []) := by
  intro v
  cases i <;> first | rfl | (simp [sliceish] at h)
structure GoodS (X : Cx) (Γ : Gam) (Φ : Tab) (k : Nat) (W : WX) : Prop extends Good X Γ Φ k where
  stk : X.stack = X.env :: X.outer
  fr : X.env.frame = some X.env.locals
  tk : Takes X W
structure SndS (n : Nat) : Prop where
  s : ∀ {X : Cx} {W : WX} {Γ : Gam} {Φ : Tab} {k : Nat} {st : Stmt} {ir : Sx}, GoodS X Γ Φ k W → trS n Γ st = some ir → QS X W st (wpS Φ ir)
  b : ∀ {X : Cx} {W : WX} {Γ : Gam} {Φ : Tab} {k : Nat} {st : List Stmt} {ir : Sx}, GoodS X Γ Φ k W → trB n Γ st = some ir → QSs X W st (wpS Φ ir)
theorem snd_asg {n : Nat} (g : Good X Γ Φ k) {tg e : Expr} {pos : Pos} {ir : Sx} (h : trS (n + 1) Γ (.Assign [tg] e pos) = some ir) : QS X W (.Assign [tg] e pos) (wpS Φ ir) := by
  have S := snd n
  by_cases hsub : ∃ o i p, tg = .Subscript o i p
  · obtain ⟨o, i, p, rfl⟩ := hsub
    have h' : (if compish e || sliceish i then none else opt3 (trE n Γ o) (trE n Γ i) (trE n Γ e) fun o i e => Sx.set o i e) = some ir := by
      rw [← h]; rfl
    split at h'
    · cases h'
    · rename_i hc
      simp only [Bool.or_eq_true, not_or, Bool.not_eq_true] at hc
      obtain ⟨x, y, z, e1, e2, e3, rfl⟩ := three h'
      simp only [wpS]
      exact qs_set (S.e g e3) (S.e g e1) (S.e g e2) (sole_plain hc.1) stores_sub (set_arm hc.2)
  · by_cases htt : ∃ ts k1 p1 vs k2 p2, tg = .Tuple ts k1 p1 ∧ e = .Tuple vs k2 p2
    · obtain ⟨ts, k1, p1, vs, k2, p2, rfl, rfl⟩ := htt
      simp only [trS] at h
      have kf : X.env.scope.kind = .function := by rw [g.sc]; exact g.kd
      split at h
      · rename_i hw
        obtain ⟨p, x, e1, e2, rfl⟩ := two h
        rw [ptOf_tup (c := k1) (d := p1)] at e1
        simp only [wpS]
        exact qs_asg (S.e g e2) (pt_snd n g e1) sole_tup ((stores_eq kf).1 (by rw [g.sc]; exact hw)) (one_each rfl)
      · rename_i names hw
        split at h
        · cases h
        · rename_i hc
          obtain ⟨p, x, e1, e2, rfl⟩ := two h
          rw [ptOf_tup (c := k1) (d := p1)] at e1
          exact snd_par g hw (by simpa using hc) e1 e2
    · have h0 : (match lc2Of Γ tg e with
          | some (y, t0, it, t1, it1, x, scope) => optLc2 Γ scope (vix Γ.N y) (ownOf n Γ t0) (ownOf n Γ t1) (ptOf n (blk Γ scope) t0) (ptOf n (blk Γ scope) t1) (trI n Γ (tupleT t0) it) (trI n (blk Γ scope) (tupleT t1) it1) (trE n (blk Γ scope) x)
          | none => if compish e && !tupleT tg && !nameLc tg e then none else opt2 (ptOf n Γ tg) (trE n Γ e) fun p e => Sx.asg p e) = some ir := by
        rw [← h]
        cases tg with
        | Subscript o i p => exact absurd ⟨o, i, p, rfl⟩ hsub
        | Tuple ts k1 p1 => cases e <;> first | rfl | exact absurd ⟨ts, k1, p1, _, _, _, rfl, rfl⟩ htt
        | _ => rfl
      cases hl2 : lc2Of Γ tg e with
      | some q =>
        obtain ⟨y, t0, it, t1, it1, x, scope⟩ := q
        rw [hl2] at h0
        exact snd_lc2 g hl2 h0
      | none =>
      rw [hl2] at h0
      have h' : (if compish e && !tupleT tg && !nameLc tg e then none else opt2 (ptOf n Γ tg) (trE n Γ e) fun p e => Sx.asg p e) = some ir := h0
      split at h'
      · cases h'
      · rename_i hc
        obtain ⟨p, x, e1, e2, rfl⟩ := two h'
        have hs := pt_plain e1
        cases hnl : nameLc tg e with
        | true =>
          cases tg <;> try (cases hnl)
          cases e <;> try (cases hnl)
          exact snd_nlc g e1 e2
        | false =>
          simp only [wpS]
          refine qs_asg (S.e g e2) (pt_snd n g e1) ?_ ?_ (one_each hs)
          · cases hce : compish e with
            | false => exact sole_plain hce
            | true =>
              rw [hce, hnl] at hc
              cases tg with
              | Tuple ts k1 p1 => exact sole_tup
              | _ => simp [tupleT] at hc
          · cases tg with
            | Name x p => exact stores_name
            | Tuple ts k1 p1 =>
              refine stores_tup ?_
              cases e <;> first | rfl | exact absurd ⟨ts, k1, p1, _, _, _, rfl, rfl⟩ htt
            | _ => cases n <;> simp [ptOf] at e1
theorem asg_inv {n : Nat} {tgs : List Expr} {e : Expr} {p : Pos} {ir : Sx} (h : trS (n + 1) Γ (.Assign tgs e p) = some ir) : ∃ tg, tgs = [tg] := by
  cases tgs with
  | nil => have z : trS (n + 1) Γ (.Assign [] e p) = none := rfl; rw [z] at h; cases h
  | cons a r =>
    cases r with
    | nil => exact ⟨a, rfl⟩
    | cons b r => have z : trS (n + 1) Γ (.Assign (a :: b :: r) e p) = none := by cases a <;> rfl
                  rw [z] at h; cases h
end
theorem excIx_inv {x : Str} {c : Nat} (h : excIx x = some c) : x = excN c := by
  unfold excIx at h
  repeat' split at h
  all_goals (try (cases h))
  all_goals (subst_vars; rfl)
theorem exc_ix (c : Nat) : ∃ c', excIx (excN c) = some c' := by
  unfold excN
  split <;> exact ⟨_, rfl⟩
def fldOf (x : Str) : Str := if x = "TooLong" then "length" else if x = "NoPlace" then "word" else if x = "Unused" then "number" else if x = "NoMove" then "number" else "place"
theorem excF_of (c : Nat) : excF c = fldOf (excN c) := by
  match c with
  | 0 => rfl
  | 1 => rfl
  | 2 => rfl
  | 3 => rfl
  | 4 => rfl
  | n + 5 => rfl
theorem excF_eq {c c' : Nat} (h : excN c = excN c') : excF c = excF c' := by rw [excF_of, excF_of, h]
theorem plain_exc (c : Nat) : (excN c == ("__debug__" : Str)) = false := by
  unfold excN
  split <;> decide
theorem ban_exc (c : Nat) : banged (excN c) = false ∧ dotted (excN c) = false := by
  unfold excN
  split <;> decide
section
variable {X : Cx} {W : WX} {Γ : Gam} {Φ : Tab} {k : Nat}
theorem bang_dot {x : Str} : dotted (bangN x) = false := by
  unfold dotted bangN
  simp [Array.getElem?_append]
theorem Good.exk (g : Good X Γ Φ k) {c i : Nat} {sp : Spec} (h : vix Γ.fs (bangN (excN c)) = some i) (hs : Φ i = some sp) : 1 ≤ k ∧ ∃ C CE, ExK X.prog X.K X.mg c C CE := by
  cases g.fs _ i sp h hs with
  | fn hx ex => have z := hx.2.2; rw [bang_bangN] at z; cases z
  | mk hx ex => have z := hx.2; rw [bang_bangN] at z; cases z
  | me m hx _ _ => have := congrArg dotted hx; rw [dot_dotN, bang_dot] at this; cases this
  | pr hx _ => have := congrArg dotted hx; rw [dot_dotN, bang_dot] at this; cases this
  | fx y hx hy ex => have := bangN_inj hx; have z := hy.2; obtain ⟨c', e⟩ := exc_ix c; rw [← this, e] at z; cases z
  | mx m hx hm ex => have := bangN_inj hx; have z := (ban_exc c).2; rw [this, dot_dotN] at z; cases z
  | ek c' hx hk ex =>
    obtain ⟨C, CE, K1⟩ := ex
    have e := bangN_inj hx
    have e2 := excF_eq e
    have at' := K1.at_
    refine ⟨hk, C, CE, ⟨by rw [e2]; exact K1.i, ?_, by rw [e]; exact K1.mg_, K1.top, K1.kit, K1.exm0, K1.ce, K1.exm⟩⟩
    unfold ExcAt at at' ⊢
    rw [e]; exact at'
theorem snd_raise {n : Nat} (g : GoodS X Γ Φ k W) {a b : Option Expr} {p : Pos} {ir : Sx} (h : trS (n + 1) Γ (.Raise a b p) = some ir) : QS X W (.Raise a b p) (wpS Φ ir) := by
  simp only [trS] at h
  split at h
  · rename_i i c e hr
    obtain ⟨x, e1, rfl⟩ := Option.map_eq_some_iff.mp h
    unfold raisOf at hr
    split at hr
    · rename_i y yp e' cp
      split at hr
      · rename_i c' i' hx hi
        split at hr
        · rename_i hg
          cases hr
          simp only [Bool.and_eq_true, Bool.not_eq_true'] at hg
          obtain rfl := excIx_inv hx
          simp only [wpS]
          cases hsp : Φ i with
          | none => exact ⟨fun pins s σ H D' I ⟨_, _, _, _, _, ⟨sp, z, _⟩, _⟩ => by cases z⟩
          | some sp =>
            obtain ⟨hk, C, CE, K1⟩ := g.toGood.exk hi hsp
            refine (ps_raise g.calm g.tk (pmk_exc K1.i K1.top (k := 0) (g.room.mono hk) (g.toGood.gl hg.1) K1.mg_ (plain_exc c) (star_cons hg.2) ((snd n).e g.toGood e1))).weak fun D' σ H ⟨env, S, E, re, so, ⟨sp', z, hw⟩, l⟩ => ?_
            refine ⟨env, S, _, re, so, hw, fun d S1 v H1 h1 k1 r1 s1 => ⟨v, rfl, fun dx hd => ?_⟩⟩
            have kn : Keep H1 (upd H1 dx (.xd [(excF c, v)])) := .new hd
            exact l.xc c d S1 C dx v _ σ h1 (k1.trans kn) K1.at_ upd_same (r1.mono kn) (s1.new hd)
        · cases hr
      · cases hr
    · cases hr
  · cases h
    simp only [wpS]
    exact ⟨fun pins s σ H D' I ⟨_, _, _, _, _, z, _⟩ => z.elim⟩
theorem Good.tr (g : Good X Γ Φ k) {pn : List (Addr × Obj)} {xe : Value → Shared → Prop} (hp : PassesOwn (model X.prog X.w) X.A X.env xe) : Good (X.tr pn xe) Γ Φ k :=
  ⟨g.hN, g.sc, g.nd, g.kd, g.calm, g.room, g.gd, hp, g.st, g.bs, g.fs, g.cs, g.dg⟩
theorem pe_callX {W' : WX} {f : Addr} {fd : FuncData} {ps : List Str} {sp : Spec} {x : Str} {p pos : Pos} {e : Expr} {es : List Expr} {t : TAD} (tk : Takes X W') (F : FnX X.prog X.w X.K X.mg X.base k f fd ps (liftSpX X.K ps.length sp)) (hr : Room k X.A) (hgd : X.A.guards = some [])
    (hlen : ∀ ds S Q, sp ds S Q → ds.length = ps.length) (hg : Gl X x) (hm : X.mg x = some (.ref f)) (hk : PySem.W.keepIn X.K (.ref f) = true) (hb : Binds X.K fd ps []) (ha : QA X (e :: es) t) (hdb : (x == ("__debug__" : Str)) = false)
    (he : starEach (e :: es) X.env = (false, eval e X.env) :: starEach es X.env) (hpl : (backTo pos (starEach es X.env)).any (·.1) = false) :
    PE X (.Call (.Name x p) (e :: es) [] pos) (liftX X.K W' (fun env S Q => t env S fun ds S1 => sp ds S1 Q)) := by
  refine ⟨fun pins s σ H Q I ⟨env, S, Qd, re, so, h, l, lw⟩ => ?_⟩
  refine wpAny_Call_Name_kw (ld_glob I hg hm ?_ hdb)
  refine PySem.W.callWith_K (h₀ := X.base) I.ok.mod.kin hk (thn (ha.run pos pins s σ H (fun vs H1 => ∃ ds S1, sp ds S1 Qd ∧ Keep H H1 ∧ Reps X.K H1 ds vs ∧ StoOk X.K H1 S1) I ⟨env, S, _, re, so, h, fun ds S1 vs H1 h1 k1 r1 s1 => ⟨ds, S1, h1, k1, r1, s1⟩⟩) fun us s1 ⟨vs, H1, I1, r, ds, S1, h1, k1, r1, so1⟩ => ⟨I1.kIn, ?_⟩) he hpl
  exact run_x F hr hgd hb I1 tk r (E := fun cls d H' => W' cls d σ H') ⟨by rw [← r1.length]; exact hlen _ _ _ h1, ds, S1, Qd, r1, so1, h1, l.keep k1, fun c d S' C dd v H' q k' x xd rr ss => lw c d S' C dd v H' q (k1.trans k') x xd rr ss⟩ fun _ _ _ z => z
theorem pe_methX {W' : WX} {CL CP f : Addr} {fd : FuncData} {ps : List Str} {sp : Spec} {m : Str} {apos pos : Pos} {pl : Sem Bool} {o : Expr} {es : List Expr} {to : TD} {t : TAD} (tk : Takes X W') (L : LongK X.K CL CP) (m0 : Meth X.K CL m f) (m1 : Meth X.K CP m f) (hmr : m ≠ "runs") (F : FnX X.prog X.w X.K X.mg X.base k f fd ps (liftSpX X.K ps.length sp))
    (hr : Room k X.A) (hgd : X.A.guards = some []) (hb : Binds X.K fd ps []) (hlen : ∀ ds S Q, sp ds S Q → ds.length = ps.length) (ho : QE X o to) (ha : QA X es t)
    (hes : (es = [] ∧ ∀ env S Q, t env S Q → Q [] S) ∨ ∃ e r, es = e :: r ∧ starEach (e :: r) X.env = (false, eval e X.env) :: starEach r X.env ∧ (backTo pos (starEach r X.env)).any (·.1) = false)
    (ht : eval (.Call (.Attribute o m apos) es [] pos) X.env = (do
      let ov ← eval o X.env
      standAt apos.atName
      let (f, first) ← holding [ov] (getMethod ov m pl)
      callWith pos f first (backTo pos (starEach es X.env)) (backToKw pos (keywordEach [] X.env)))) :
    PE X (.Call (.Attribute o m apos) es [] pos) (liftX X.K W' (fun env S Q => to env S fun x S1 => isObj x = true ∧ t env S1 fun ds S2 => sp (x :: ds) S2 Q)) := by
  refine ⟨fun pins s σ H Q I ⟨env, S, Qd, re, so, h, l, lw⟩ => ?_⟩
  refine PySem.W.methodCall_KW (pl := pl) (thn (ho.run pins s σ H (fun v H1 => ∃ x S1, isObj x = true ∧ (t env S1 fun ds S2 => sp (x :: ds) S2 Qd) ∧ Keep H H1 ∧ Rep X.K H1 x v ∧ StoOk X.K H1 S1) I ⟨env, S, _, re, so, h, fun x S1 v H1 h1 k1 r1 s1 => ⟨x, S1, h1.1, h1.2, k1, r1, s1⟩⟩) fun u s1 ⟨v, H1, I1, rv, x, S1, hx, h1, k1, r1, so1⟩ => ?_) ht
  obtain ⟨c, d, rfl⟩ := isObj_inv hx
  obtain ⟨p, C, dx, w, rfl, hc, ea, rw_⟩ := r1.obj_inv
  obtain rfl : u = Value.ref p := rv
  obtain ⟨lc, hC⟩ := L.lc hc
  have hm : Meth X.K C m f := by rcases hC with rfl | rfl <;> assumption
  refine getmeth_ok I1 ea lc.cl hm (by rw [List.lookup_cons, beq_eq_false_iff_ne.mpr hmr]; rfl) ?_
  have fin : ∀ {us : List Value} {vs : List V} {s2 : Shared} {H2 : Hp} {ds : List D} {S2 : Sto}, Inv X pins σ H2 s2 → Vals vs us → Reps X.K H2 ds vs → StoOk X.K H2 S2 → sp (.obj c d :: ds) S2 Qd → Keep H1 H2 → wpAny (model X.prog X.w) X.A (call (.ref f) (.ref p :: us)) (EP X pins σ Q) X.xe s2 := fun {us vs s2 H2 ds S2} I2 r r2 so2 h2 k2 =>
    run_x F hr hgd hb I2 tk (us := .ref p :: us) (vs := .ref p :: vs) (.cons rfl r) (E := fun cls d H' => W' cls d σ H') ⟨by show (vs.length + 1) = _; rw [← r2.length]; exact hlen _ _ _ h2, .obj c d :: ds, S2, Qd, .cons (r1.mono k2) r2, so2, h2, l.keep (k1.trans k2), fun c' d' S' C' dd v H' q k' x xd rr ss => lw c' d' S' C' dd v H' q ((k1.trans k2).trans k') x xd rr ss⟩ fun _ _ _ z => z
  rcases hes with ⟨rfl, h0⟩ | ⟨e, es', rfl, hst, hpl⟩
  · refine PySem.W.callWith_K0 (first := [.ref p]) I1.kIn hm.kp ?_
    exact fin I1 .nil .nil so1 (h0 _ _ _ h1) .refl
  · refine PySem.W.callWith_K (first := [.ref p]) (h₀ := X.base) I.ok.mod.kin hm.kp (thn (ha.run pos pins s1 σ H1 (fun vs H2 => ∃ ds S2, sp (.obj c d :: ds) S2 Qd ∧ Keep H1 H2 ∧ Reps X.K H2 ds vs ∧ StoOk X.K H2 S2) I1 ⟨env, S1, _, re.mono k1, so1, h1, fun ds S2 vs H2 h2 k2 r2 s2 => ⟨ds, S2, h2, k2, r2, s2⟩⟩) fun us s2 ⟨vs, H2, I2, r, ds, S2, h2, k2, r2, so2⟩ => ⟨I2.kIn, ?_⟩) hst hpl
    exact fin I2 r r2 so2 h2 k2
theorem callOf_inv {b : Stmt} {r : Bool} {ce : Expr} (h : callOf b = some (r, ce)) : BodyOk ce r b := by
  unfold callOf at h
  split at h
  · cases h; exact .ret
  · split at h
    · cases h
    · rename_i hc
      cases h
      exact .ex fun env => none_plain (by simpa using hc)
  · cases h
theorem hxE_guard {en x f : Str} {e : Expr} {wr : Bool} (h : hxE en x f e = some wr) (hi : ∃ t b o p, e = .IfExp t b o p) : guardN e = some x := by
  obtain ⟨t, b, o, p, rfl⟩ := hi
  have h' : (if hxT en x t then hxA en f b else none) = some wr := h
  split at h'
  · rename_i ht
    unfold hxT at ht
    split at ht
    · simp only [Bool.and_eq_true, decide_eq_true_eq] at ht
      obtain ⟨⟨⟨⟨⟨rfl, rfl⟩, rfl⟩, rfl⟩, rfl⟩, rfl⟩ := ht
      rfl
    · cases ht
  · cases h'
theorem snd_try {n : Nat} (g : GoodS X Γ Φ k W) {b fin els : List Stmt} {hs : List ExceptHandler} {p : Pos} {ir : Sx} (h : trS (n + 1) Γ (.Try b hs els fin p) = some ir) : QS X W (.Try b hs els fin p) (wpS Φ ir) := by
  simp only [trS] at h
  split at h
  · rename_i c fx ei r ce su hsh
    unfold tryShape at hsh
    split at hsh
    · rename_i b0 hn np en s0 sus pos'
      unfold tryOf at hsh
      split at hsh
      · cases hsh
      · rename_i e hse
        split at hsh
        · rename_i c' fx' ei' r' ce' q1 q2 q3 q4
          split at hsh
          · rename_i ht
            obtain ⟨su', hsu, hq⟩ := Option.map_eq_some_iff.mp hsh
            cases hq
            have hb := callOf_inv q4
            obtain ⟨gx, hgx⟩ : ∃ gx, gx = (guardN e).getD hn := ⟨_, rfl⟩
            rw [← hgx] at q1 q2 ht
            have exx := excIx_inv q1
            unfold tryB at ht
            simp only [Bool.and_eq_true, Bool.or_eq_true, decide_eq_true_eq] at ht
            obtain ⟨⟨⟨⟨⟨t1, t2⟩, t3⟩, t4⟩, t5⟩, t6⟩ := ht
            rw [exx] at q2 t2 t6
            obtain ⟨p1, p2, p3⟩ := plain_of t4
            have hi : X.N[ei]? = some en := by rw [g.hN]; exact vix_get q3
            have hln : X.env.kindOf en = some .local := by
              show X.env.scope.names.lookup en = _
              rw [g.sc]; exact t3
            have hv : Vis X.env.scope en := .inl hln
            have hG : (∃ t b o p, e = .IfExp t b o p) → guardN e = some (excN c) → Gl X "isinstance" ∧ X.mg "isinstance" = none ∧ Gl X (excN c) ∧ Gl X "ValueError" ∧ X.mg "ValueError" = none := fun _ hg => by
              rw [hg] at t6
              simp only [Option.isNone_some, Bool.false_eq_true, false_or] at t6
              obtain ⟨⟨⟨⟨u1, u2⟩, u3⟩, u4⟩, u5⟩ := t6
              exact ⟨g.toGood.gl u1, g.bs _ (by simpa using u2), g.toGood.gl u5, g.toGood.gl u3, g.bs _ (by simpa using u4)⟩
            have main : ∀ (fi : Nat) (m : Bool) (as : Ex), (∀ sp, Φ fi = some sp → ∀ (W' : WX) (pn : List (Addr × Obj)) (xe : Value → Shared → Prop), Takes (X.tr pn xe) W' → PassesOwn (model X.prog X.w) X.A X.env xe → PE (X.tr pn xe) ce (liftX X.K W' (fun env S Q => wpArgs Φ m as env S fun ds S1 => sp ds S1 Q))) →
                QS X W (.Try [b0] [.ExceptHandler (some (.Name hn np)) (some en) (s0 :: sus) pos'] [] [] p) (wpS Φ (.tryx fi fx m as r ei c su)) := by
              intro fi m as hc
              have no : (Φ fi = none ∨ Φ fx = none) → QS X W (.Try [b0] [.ExceptHandler (some (.Name hn np)) (some en) (s0 :: sus) pos'] [] [] p) (wpS Φ (.tryx fi fx m as r ei c su)) := fun hno => ⟨fun pins s σ H D' I ⟨_, _, _, _, _, hw, _⟩ => by
                simp only [wpS] at hw
                obtain ⟨_, _, e1, e2, _⟩ := hw
                rcases hno with z | z
                · rw [z] at e1; cases e1
                · rw [z] at e2; cases e2⟩
              cases hsp : Φ fi with
              | none => exact no (.inl hsp)
              | some sp =>
                cases hsx : Φ fx with
                | none => exact no (.inr hsx)
                | some sx =>
                  obtain ⟨hk, C, CE, K1⟩ := g.toGood.exk q2 hsx
                  have hsuite : SuiteOk X C c ei (s0 :: sus) su := by
                    unfold suiteOf at hsu
                    split at hsu
                    · rename_i heq
                      obtain ⟨wr, hx, rfl⟩ := Option.map_eq_some_iff.mp hsu
                      cases heq
                      cases hse
                      exact .ret fun a oe dd pn hz hf => pe_hxE K1 hz hf hi hv p1 p2 hx fun z => hG z (hxE_guard hx z)
                    · rename_i heq
                      split at hsu
                      · rename_i j hx hj
                        split at hsu
                        · rename_i hcnd
                          cases hsu
                          cases heq
                          cases hse
                          simp only [Bool.and_eq_true, decide_eq_true_eq, Bool.not_eq_true'] at hcnd
                          obtain ⟨⟨⟨w1, w2⟩, w3⟩, w4⟩ := hcnd
                          obtain ⟨l1, l2⟩ := g.st _ (by simpa using w1)
                          exact .asg (fun a oe dd pn hz hf => pe_hxE K1 hz hf hi hv p1 p2 hx fun z => hG z (hxE_guard hx z)) (by rw [g.hN]; exact vix_get hj) g.toGood.nds (by rw [g.sc]; exact l1) (by rw [g.sc]; exact l2) w3 (sole_plain w4) stores_name
                        · cases hsu
                      · cases hsu
                    · cases hsu
                  have hcv : ∃ cv, Names X hn cv ∧ PySem.W.exmOne X.K (.ref C) cv = some true := by
                    rcases t2 with rfl | rfl
                    · exact ⟨_, ⟨g.toGood.gl t1, (plain_of t5).1, .inl K1.ce⟩, K1.exm⟩
                    · exact ⟨_, ⟨g.toGood.gl t1, (plain_of t5).1, .inl K1.mg_⟩, K1.exm0⟩
                  obtain ⟨cv, hcv, hex⟩ := hcv
                  exact qs_tryx g.stk g.fr g.toGood.nds hi hln hcv g.tk K1 hex (hc sp hsp) hb hsuite hsp hsx
            split at h
            · rename_i f fp a as cp
              split at h
              · rename_i hc
                rw [Bool.and_eq_true, Bool.and_eq_true] at hc
                obtain ⟨hc, hcx⟩ := hc
                obtain ⟨fi, xs, e1, e2, rfl⟩ := two h
                refine main fi false xs fun sp hsp W' pn xe tk' hp => ?_
                have g' := g.toGood.tr (pn := pn) (xe := xe) hp
                cases g'.fs _ fi sp e1 hsp with
                | fn hx ex => have z := hx.2.2; rw [bang_bangN] at z; cases z
                | mk hx ex => have z := hx.2; rw [bang_bangN] at z; cases z
                | me m hx _ _ => have := congrArg dotted hx; rw [dot_dotN, bang_dot] at this; cases this
                | pr hx _ => have := congrArg dotted hx; rw [dot_dotN, bang_dot] at this; cases this
                | mx m hx hm ex => have := bangN_inj hx; have z := plain_dot hc.1; rw [this, dot_dotN] at z; cases z
                | ek c' hx hk ex => have := bangN_inj hx; obtain ⟨c2, z⟩ := exc_ix c'; rw [this, z] at hcx; cases hcx
                | fx y hx hy ex =>
                  have := bangN_inj hx
                  subst this
                  obtain ⟨ad, fd, ps, m1, m2, m3, m4, m5⟩ := ex
                  exact pe_callX tk' m4 g'.room g'.gd m5 (g'.gl hc.2) m1 m2 m3 ((snd n).a g' e2) (plain_of hc.1).1 (star_cons (trA_star e2)) (trA_tail e2)
              · cases h
            · rename_i o m ap as cp
              split at h
              · cases h
              · rename_i hc
                simp only [Bool.or_eq_true, Bool.not_eq_true', not_or, Bool.not_eq_false, Bool.not_eq_true, decide_eq_false_iff_not, Classical.not_not] at hc
                obtain ⟨⟨⟨⟨h1, h2⟩, h3⟩, h4⟩, h5⟩ := hc
                obtain ⟨fi, x, xs, e1, e2, e3, rfl⟩ := three h
                refine main fi true (.cons x xs) fun sp hsp W' pn xe tk' hp => ?_
                have g' := g.toGood.tr (pn := pn) (xe := xe) hp
                have hb' := base_of (attr := m) (env := X.env) (whole := eval o X.env) h1
                cases g'.fs _ fi sp e1 hsp with
                | fn hx ex => have z := hx.2.2; rw [bang_bangN] at z; cases z
                | mk hx ex => have z := hx.2; rw [bang_bangN] at z; cases z
                | me m hx _ _ => have := congrArg dotted hx; rw [dot_dotN, bang_dot] at this; cases this
                | pr hx _ => have := congrArg dotted hx; rw [dot_dotN, bang_dot] at this; cases this
                | ek c' hx hk ex => have := bangN_inj hx; have z := (ban_exc c').2; rw [← this, dot_dotN] at z; cases z
                | fx y hx hy ex => have := bangN_inj hx; have z := hy.1; rw [← this, dot_dotN] at z; cases z
                | mx m' hx hm ex =>
                  have := dotN_inj (bangN_inj hx)
                  subst this
                  obtain ⟨CL, CP, f, fd, ps, j, hj, L, m0, m1, hbd, F, hlen⟩ := ex
                  have few : ((backTo cp (starEach as X.env)).all (fun x => !x.1) && (backToKw cp (keywordEach [] X.env)).all (fun x => x.1.isSome) && decide (as.length + ([] : List Keyword).length + (if ([] : List Keyword).isEmpty then 0 else 1) < 30)) = true := by
                    rw [trA_all e3]
                    show (true && true && decide _) = true
                    rw [decide_eq_true (by show as.length + 0 + 0 < 30; omega)]
                    rfl
                  obtain ⟨pl, ht⟩ := meth_eval hb' h2 few
                  refine pe_methX (X := X.tr pn xe) tk' L m0 m1 hm F (g'.room.mono (by omega)) g'.gd hbd hlen ((snd n).e g' e2) ((snd n).a g' e3) ?_ ht
                  cases as with
                  | nil =>
                    left
                    refine ⟨rfl, fun env S Q hq => ?_⟩
                    have ex : xs = .nil := trA_nil e3
                    subst ex
                    simpa only [wpA] using hq
                  | cons a as => exact .inr ⟨a, as, rfl, star_cons (trA_star e3), trA_tail e3⟩
            · cases h
          · cases hsh
        · cases hsh
    · cases hsh
  · cases h
end
theorem sndS : ∀ n, SndS n
  | 0 => ⟨fun _ h => by simp [trS] at h, fun _ h => by simp [trB] at h⟩
  | n + 1 => by
    have S := snd n
    have I := sndS n
    refine ⟨fun {X W Γ Φ k st ir} g h => ?_, fun {X W Γ Φ k st ir} g h => ?_⟩
    · cases st with
      | Assign tgs e p =>
        obtain ⟨tg, rfl⟩ := asg_inv h
        exact snd_asg g.toGood h
      | Expr e p =>
        simp only [trS] at h
        split at h
        · cases h
        · rename_i hc
          obtain ⟨x, e1, rfl⟩ := Option.map_eq_some_iff.mp h
          simp only [wpS]
          exact qs_expr (S.e g.toGood e1) (none_plain (by simpa using hc))
      | Return e p =>
        cases e with
        | none => simp [trS] at h
        | some e =>
          simp only [trS] at h
          obtain ⟨x, e1, rfl⟩ := Option.map_eq_some_iff.mp h
          simp only [wpS]
          exact qs_ret (S.e g.toGood e1)
      | If c a b p =>
        simp only [trS] at h
        obtain ⟨x, y, z, e1, e2, e3, rfl⟩ := three h
        simp only [wpS]
        exact qs_if (S.t g.toGood e1) (I.b g e2) (I.b g e3)
      | For tg it b els p =>
        cases els with
        | cons _ _ => simp [trS] at h
        | nil =>
          simp only [trS] at h
          split at h
          · cases h
          · rename_i hc
            obtain ⟨x, y, z, e1, e2, e3, rfl⟩ := three h
            simp only [wpS]
            exact qs_for g.own g.calm (S.i g.toGood e2) (pt_snd n g.toGood e1) (I.b g e3) (folded_of (by simpa using hc))
      | While c b els p =>
        cases els with
        | cons _ _ => simp [trS] at h
        | nil =>
          simp only [trS] at h
          obtain ⟨x, y, e1, e2, rfl⟩ := two h
          simp only [wpS]
          exact qs_while g.own (S.t g.toGood e1) (I.b g e2)
      | Break p => simp only [trS] at h; cases h; simp only [wpS]; exact qs_break
      | Continue p => simp only [trS] at h; cases h; simp only [wpS]; exact qs_cont
      | Pass p => simp only [trS] at h; cases h; simp only [wpS]; exact qs_pass
      | Raise a b p => exact snd_raise g h
      | Try b hs els fin p => exact snd_try g h
      | _ => simp [trS] at h
    · cases st with
      | nil => simp only [trB] at h; cases h; simp only [wpS]; exact qss_nil
      | cons s r =>
        simp only [trB] at h
        obtain ⟨x, y, e1, e2, rfl⟩ := two h
        simp only [wpS]
        exact qss_cons (I.s g e1) (I.b g e2)
end G57
set_option Elab.async false
set_option linter.all false
set_option maxRecDepth 100000
set_option maxHeartbeats 2000000
namespace G57
open PySem L2 PySem.Spec PyProof.Rows
def startD (N : List Str) (ds : List D) : En := ds.map some ++ List.replicate (N.length - ds.length) none
def storable (sc : Scope) : List Str := (sc.names.filter fun y => y.2 == .local || y.2 == .cell).map (·.1)
def gamOf (N : List Str) (sc : Scope) (bs fs : List Str) (cs : List (Str × D)) (os : List Str := []) : Gam := ⟨N, sc, storable sc, bs, fs, cs, os⟩
def fnN (x : Str) : Bool := !dotted x && !(x == ("Long" : Str)) && !banged x
theorem fnN_of {x : Str} (h : fnN x = true) : dotted x = false ∧ x ≠ "Long" ∧ banged x = false := by
  unfold fnN at h
  simp only [Bool.and_eq_true, Bool.not_eq_true'] at h
  exact ⟨h.1.1, fun e => by rw [e] at h; simp at h, h.2⟩
def scopeOk (sc : Scope) : Bool := (sc.names.all fun y => decide (sc.names.lookup y.1 = some y.2)) && (sc.names.all fun y => decide (y.2 ≠ .free)) && decide (sc.kind = .function) && !sc.isCoroutine && !sc.isGenerator
def fnOkB (N ps : List Str) (sc : Scope) : Bool := scopeOk sc && decide N.Nodup && decide (N.take ps.length = ps) && (ps.all fun x => decide (sc.names.lookup x = some .local) || decide (sc.names.lookup x = some .cell))
theorem fnScope_of {N ps : List Str} {sc : Scope} (h : fnOkB N ps sc = true) : FnScope N ps sc ∧ ∀ y ∈ sc.names, sc.names.lookup y.1 = some y.2 := by
  unfold fnOkB scopeOk at h
  simp only [Bool.and_eq_true, List.all_eq_true, decide_eq_true_eq, Bool.not_eq_true', Bool.or_eq_true] at h
  obtain ⟨⟨⟨⟨⟨⟨⟨h1, h2⟩, h3⟩, h4⟩, h5⟩, h6⟩, h7⟩, h8⟩ := h
  exact ⟨⟨h3, h4, h5, h6, h7, h8, h2⟩, h1⟩
structure FT (K : PySem.W.Frag) (mg : Str → Option Value) (x : Str) (st : Stmt) (ps : List Str) : Prop where
  ex : ∃ f fd, Fun K x x st f fd ∧ mg x = some (.ref f) ∧ Binds K fd ps []
  nm : fnN x = true
structure Does (P : Program) (w : World) (K : PySem.W.Frag) (mg : Str → Option Value) (base : Heap) (k : Nat) (x : Str) (sp : Spec) : Prop where
  ex : Cal P w K mg base k x sp
theorem Does.mono {P : Program} {w : World} {K : PySem.W.Frag} {mg : Str → Option Value} {base : Heap} {j k : Nat} {x : Str} {sp : Spec} (d : Does P w K mg base j x sp) (h : j ≤ k) : Does P w K mg base k x sp := by
  refine ⟨?_⟩
  cases d.ex with
  | fn hx ex => obtain ⟨f, fd, ps, a, b, c, e, g⟩ := ex; exact .fn hx ⟨f, fd, ps, a, b, c, e.mono h, g⟩
  | mk hx ex => obtain ⟨CL, CP, C, c, f, fd, ps, i, hi, r⟩ := ex; exact .mk hx ⟨CL, CP, C, c, f, fd, ps, i, by omega, r⟩
  | me m hx hm ex => obtain ⟨CL, CP, f, fd, ps, i, hi, r⟩ := ex; exact .me m hx hm ⟨CL, CP, f, fd, ps, i, by omega, r⟩
  | pr hx ex => obtain ⟨CL, CP, p, g, fd, ps, i, hi, r⟩ := ex; exact .pr hx ⟨CL, CP, p, g, fd, ps, i, by omega, r⟩
  | fx y hx hy ex => obtain ⟨f, fd, ps, a, b, c, e, g⟩ := ex; exact .fx y hx hy ⟨f, fd, ps, a, b, c, e.mono h, g⟩
  | mx m hx hm ex => obtain ⟨CL, CP, f, fd, ps, i, hi, r⟩ := ex; exact .mx m hx hm ⟨CL, CP, f, fd, ps, i, by omega, r⟩
  | ek c hx hk ex => exact .ek c hx (by omega) ex
structure Md (K : PySem.W.Frag) (mg : Str → Option Value) (bs : List Str) (cs : List (Str × D)) : Prop where
  bs : ∀ x ∈ bs, mg x = none
  cs : ∀ x d, cs.lookup x = some d → ∃ v u, mg x = some u ∧ RelV v u ∧ ∀ H, Rep K H d v
  dg : PySem.W.nsIn K cStatics "sys.int_max_str_digits" = some none
theorem fn_does {P : Program} {w : World} {K : PySem.W.Frag} {mg : Str → Option Value} {base : Heap} {k : Nat} {x qual : Str} {st : Stmt} {f : Addr} {fd : FuncData} {N ps bs os : List Str} {cs : List (Str × D)} {Φ : List (Str × Spec)} {ir : Sx} {sp : Spec}
    (F : Fun K x qual st f fd) (hsc : fnOkB N ps (defScope st) = true) (tr : trB 300 (gamOf N (defScope st) bs (Φ.map (·.1)) cs os) (defBody st) = some ir) (md : Md K mg bs cs) (tab : ∀ p ∈ Φ, Does P w K mg base k p.1 p.2)
    (body : ∀ ds S Q, sp ds S Q → wpS (fun i => (Φ[i]?).map (·.2)) ir { nx := fun _ S' => Q .non S', rt := Q } (startD N ds) S) : FnG P w K mg base (k + 1) f fd ps (liftSp K ps.length sp) := by
  obtain ⟨sc, un⟩ := fnScope_of hsc
  refine fnG_of F sc (fun vs H Q E h => h.1) (fun cdv A outer s H vs Q E hr hg h => ?_)
  obtain ⟨hl, ds, S, Qd, r, so, h, l⟩ := h
  have g : Good (cxOf CX0 P w K mg base N qual (defScope st) f cdv A outer s H E).nox (gamOf N (defScope st) bs (Φ.map (·.1)) cs os) (fun i => (Φ[i]?).map (·.2)) k := by
    refine ⟨rfl, rfl, sc.nd, sc.kind, rfl, hr, hg, PassesOwn.never, fun y hy => ?_, md.bs, fun y i sp' hv e => ?_, md.cs, md.dg⟩
    · obtain ⟨z, hz, rfl⟩ := List.mem_map.mp hy
      obtain ⟨hm, hk⟩ := List.mem_filter.mp hz
      have hu := un z hm
      refine ⟨?_, .inl rfl⟩
      rcases Bool.or_eq_true_iff.mp hk with q | q
      · exact .inl (by show (defScope st).names.lookup z.1 = _; rw [hu]; revert q; cases z.2 <;> decide)
      · exact .inr (by show (defScope st).names.lookup z.1 = _; rw [hu]; revert q; cases z.2 <;> decide)
    · obtain ⟨p, e1, rfl⟩ := Option.map_eq_some_iff.mp e
      have e2 := vix_get hv
      have e3 : (Φ.map (·.1))[i]? = some p.1 := by rw [List.getElem?_map, e1]; rfl
      have e4 : y = p.1 := Option.some.inj (e2.symm.trans e3)
      subst e4
      exact (tab p (List.mem_of_getElem? e1)).ex
  refine ⟨_, (sndS 300).b (W := fun _ _ _ _ => False) ⟨g, rfl, rfl, takes0⟩ tr, startD N ds, S, _, ?_, so, body ds S Qd h, ⟨fun env S' σ H' q k re s' => l _ S' _ H' q k .non s', fun env S' σ H' q => q.elim, fun env S' σ H' q => q.elim, l, fun c d S' C dd v H' σ q => q.elim⟩⟩
  have hN : ds.length = vs.length := r.length
  refine ⟨by unfold startD L2.start; simp [hN], fun i d e => ?_⟩
  unfold startD at e
  unfold L2.start
  by_cases hi : i < ds.length
  · rw [List.getElem?_append_left (by simpa using hi), List.getElem?_map] at e
    obtain ⟨d', e1, e2⟩ := Option.map_eq_some_iff.mp e
    cases e2
    obtain ⟨v, e3, rv⟩ := r.get e1
    exact ⟨v, by rw [List.getElem?_append_left (by simp; omega), List.getElem?_map, e3]; rfl, rv⟩
  · rw [List.getElem?_append_right (by simpa using hi), List.getElem?_replicate] at e
    split at e <;> cases e
theorem does_of {P : Program} {w : World} {K : PySem.W.Frag} {mg : Str → Option Value} {base : Heap} {k : Nat} {x : Str} {st : Stmt} {N ps bs os : List Str} {cs : List (Str × D)} {Φ : List (Str × Spec)} {ir : Sx} {sp : Spec}
    (F : FT K mg x st ps) (hsc : fnOkB N ps (defScope st) = true) (tr : trB 300 (gamOf N (defScope st) bs (Φ.map (·.1)) cs os) (defBody st) = some ir) (md : Md K mg bs cs) (tab : ∀ p ∈ Φ, Does P w K mg base k p.1 p.2)
    (len : ∀ ds S Q, sp ds S Q → ds.length = ps.length)
    (body : ∀ ds S Q, sp ds S Q → wpS (fun i => (Φ[i]?).map (·.2)) ir { nx := fun _ S' => Q .non S', rt := Q } (startD N ds) S) : Does P w K mg base (k + 1) x sp := by
  have nm := fnN_of F.nm
  obtain ⟨f, fd, F, m1, m2⟩ := F.ex
  exact ⟨.fn nm ⟨f, fd, ps, m1, F.kp, m2, fn_does F hsc tr md tab body, len⟩⟩
def lawSp (n : Nat) : Spec := fun ds _ Q => ∃ ns : List Int, ns.length ≤ n ∧ ds = [.rol (ns.map D.int)] ∧ ∀ S', Q (.bl true) S'
theorem ints_rep {K : PySem.W.Frag} {H : Hp} : ∀ ns : List Int, Reps K H (ns.map D.int) (ns.map V.int)
  | [] => .nil
  | n :: ns => .cons .int (ints_rep ns)
theorem law_end {P : Program} {w : World} {K : PySem.W.Frag} {mg mb : Str → Option Value} {k n : Nat} {fa a : Addr} {fd : FuncData} {x : Str} {s₁ : Shared} {vs : List Value} {ns : List Int}
    (KX : K.In s₁.heap) (hns : s₁.heap.Ns mainGlobals mg) (hb : s₁.heap.Ns builtinsNs mb) (hbb : ∀ x : Str, x ≠ "__name__" → mb x = bootBuiltins x) (hlim : s₁.heap.NoLimit) (hg : s₁.gens = #[])
    (ha : s₁.heap.get? a = some { cls := .type "list", data := .seq vs.toArray }) (hi : IntsAre vs ns) (hl : ns.length ≤ n) (hz : n ≤ sizeLine) (hr : Room k callerA)
    (F : ∀ base : Heap, K.In base → base.Ns mainGlobals mg → FnG P w K mg base k fa fd [x] (liftSp K 1 (lawSp n))) (hbind : ∀ (s : Shared) (u : Value), BindsTo s fd ⟨[u], []⟩ [(x, u)]) :
    codeAny (model P w) callerA (.call (.ref fa) ⟨[.ref a], []⟩) (fun r s' => r = .ok (.ret (.bool true)) ∧ OldK s₁.heap s'.heap ∧ s'.os = s₁.os ∧ AllBare s'.gens) s₁ := by
  have rv := vals_ints hi
  have lenV := hi.length
  have core : ∀ H : Hp, Only H → SqF K H a (ns.map V.int) → HOk P w H s₁.heap → (∀ b, H b ≠ none → b = a) → (H a ≠ none → K.lookup a = none) →
      codeAny (model P w) callerA (.call (.ref fa) ⟨[.ref a], []⟩) (fun r s' => r = .ok (.ret (.bool true)) ∧ OldK s₁.heap s'.heap ∧ s'.os = s₁.os ∧ AllBare s'.gens) s₁ := by
    intro H hO hS hok hA hK
    have free : ∀ {b : Addr} {o : Obj}, s₁.heap.get? b = some o → (∀ es ep, o.data ≠ .dict es ep → b = a → False) → H b = none := fun {b o} e q => by
      cases z : H b with
      | none => rfl
      | some u =>
        have eb : b = a := hA b (by rw [z]; simp)
        subst eb
        rw [ha] at e; cases e
        exact (q #[] 0 (by intro z; cases z) rfl).elim
    have noD : ∀ {b : Addr} {o : Obj} {es : Array DictEntry} {ep : Nat}, s₁.heap.get? b = some o → o.data = .dict es ep → H b = none := fun {b o es ep} e d => by
      cases z : H b with
      | none => rfl
      | some u =>
        have eb : b = a := hA b (by rw [z]; simp)
        subst eb
        rw [ha] at e; cases e
        cases (show Data.seq vs.toArray _ = Data.dict es ep from d)
    have nsK : ∀ {b : Addr} {m : Str → Option Value}, s₁.heap.Ns b m → (hidT s₁.heap H).Ns b m :=
      fun {b m} ⟨o, es, ep, e, d, r⟩ => ⟨o, es, ep, hidT_get e (noD e d), d, r⟩
    have hKb : K.In (hidT s₁.heap H) := fun b o e => hidT_get (KX b o e) (by
      cases z : H b with
      | none => rfl
      | some u =>
        have eb : b = a := hA b (by rw [z]; simp)
        subst eb
        rw [hK (by rw [z]; simp)] at e; cases e)
    have hM : Mod K mg (hidT s₁.heap H) := by
      obtain ⟨mc, c1, c2⟩ := hlim
      exact ⟨hKb, nsK hns, ⟨mb, nsK hb, hbb⟩, ⟨mc, nsK c1, c2⟩⟩
    have nil0 : ∀ b : Addr, b ∉ frs [] := fun b hb => absurd (show b ∈ ([] : List Addr) from hb) (by simp)
    have e0 : Env0 P w K mg (hidT s₁.heap H) callerA [] s₁ H := ⟨rfl, hM, fun b o e => of_hidT e, Nat.le_of_eq (hidT_size _ _), trivial, fun b hb => (nil0 b hb).elim, hok, .of_eq hg⟩
    have sp : liftSp K 1 (lawSp n) [.ref a] H (fun v _ => v = .bl true) E0 :=
      ⟨rfl, [.rol (ns.map D.int)], fun _ => none, fun d _ => d = .bl true, .cons (by simp only [Rep]; exact ⟨a, _, rfl, hS, ints_rep ns⟩) .nil, (fun b o e => by cases e), ⟨ns, hl, rfl, fun _ => rfl⟩,
        fun d S' v H' q _ r _ => by subst q; simpa only [Rep] using r⟩
    refine codeAny_mono ((F _ hKb (nsK hns)).run callerA [] s₁ H ⟨[.ref a], []⟩ [.ref a] [.ref a] _ E0 hr rfl e0 (hbind s₁ (.ref a)) (.cons rfl .nil) sp) fun r s' h => ?_
    match r, h with
    | .error e, h => exact h.elim
    | .ok .next, h => exact h.elim
    | .ok .brk, h => exact h.elim
    | .ok .cont, h => exact h.elim
    | .ok (.ret u), h =>
      obtain ⟨v, H', os, bare, unt, hok', r', q⟩ := h
      have q' : v = .bl true := q
      subst q'
      obtain rfl : u = Value.bool true := r'
      refine ⟨rfl, OldK.of_keep fun b o e => ?_, os, bare⟩
      cases q : H b with
      | none => exact unt.keep b o e q (nil0 b) (by simp)
      | some u =>
        rcases hO b with z | ⟨ob, xs, z⟩
        · rw [q] at z; cases z
        · obtain ⟨e1, _⟩ := hok b _ z
          obtain ⟨e2, _⟩ := hok' b _ (unt.frzs b ob _ z)
          rw [e] at e1; cases e1
          exact e2
  have hlz : ns.length ≤ sizeLine := Nat.le_trans hl hz
  cases hk : K.lookup a with
  | some o =>
    have e := KX a o hk
    rw [ha] at e
    cases e
    refine core (fun _ => none) (fun _ => .inl rfl) (.inr fun H' => .inr ⟨_, vs.toArray, _, hk, rfl, rfl, rfl, by rw [List.size_toArray, lenV]; exact hlz, by simpa using rv⟩) (fun b u z => by cases z) (fun b z => (z rfl).elim) fun z => (z rfl).elim
  | none =>
    let ob : Obj := { cls := .type "list", data := .seq vs.toArray }
    have hup : upd (fun _ => none) a (.frz ob (.lst (ns.map V.int))) a = some (.frz ob (.lst (ns.map V.int))) := upd_same
    refine core (upd (fun _ => none) a (.frz ob (.lst (ns.map V.int)))) (fun b => ?_) (.inl ⟨ob, hup⟩) (fun b u z => ?_) (fun b z => ?_) fun _ => hk
    · by_cases hb : b = a
      · subst hb; exact .inr ⟨_, _, hup⟩
      · exact .inl (upd_ne hb)
    · by_cases hb : b = a
      · subst hb
        rw [hup] at z; cases z
        exact ⟨ha, by rw [List.length_map]; exact hlz, vs, _, rv, ha⟩
      · rw [upd_ne hb] at z; cases z
    · by_cases hb : b = a
      · exact hb
      · exact (z (upd_ne hb)).elim
theorem walk_end {l : PySem.W.OpenLaw} {n k : Nat} {q : Program} {loose : List Str} {XP : (Str → Option Value) → Heap → Prop} {YP : World → Heap → Prop} {d : DefRec} {K : Params → PySem.W.Frag} {x : Str}
    (hn : l.most = some n) (hn2 : n ≤ sizeLine) (hdf : d.params.defaults = []) (hr : Room k callerA) (hY : ∀ (w : World) (h : Heap), YP w h → (K w.params).In h)
    (F : ∀ (w : World) (mg : Str → Option Value) (fa : Addr) (h : Heap), (K w.params).In h → h.Ns mainGlobals mg → mg d.name = some (.ref fa) →
      ∃ fd : FuncData, (∀ (s : Shared) (u : Value), BindsTo s fd ⟨[u], []⟩ [(x, u)]) ∧
        ∀ base : Heap, (K w.params).In base → base.Ns mainGlobals mg → FnG l.prog w (K w.params) mg base k fa fd [x] (liftSp (K w.params) 1 (lawSp n))) :
    PySem.W.WalkO q loose XP YP l.row.toRowW d [] (fun f vs => PySem.call f vs) := by
  refine Att.attach_call hn hdf fun w s₀ s₁ mg mb fa o pm cd doc a vs ns G Y ho hd hcd hmg hobj hints hlen hg => ?_
  obtain ⟨fd, hbd, hF⟩ := F w mg fa _ (hY w _ Y) G.T.g hmg
  exact law_end (hY w _ Y) G.T.g G.T.b G.T.builtins G.T.nolimit hg hobj hints hlen hn2 hr hF hbd
end G57
set_option Elab.async false
set_option linter.all false
set_option maxRecDepth 100000
set_option maxHeartbeats 400000
namespace G57
open PySem L2
section
variable {Φ : Tab} {E : EndsD} {env : En} {S : Sto} {p : Pt} {e o i c it : Ex} {a b r : Sx}
theorem st_cons (h : wpS Φ a { E with nx := fun env' S' => wpS Φ r E env' S' } env S) : wpS Φ (.cons a r) E env S := h
theorem st_nil (h : E.nx env S) : wpS Φ .nil E env S := h
theorem st_asg (h : wpE Φ e env S fun d S1 => wpP p d S1 env fun env' => E.nx env' S1) : wpS Φ (.asg p e) E env S := h
theorem st_set (h : wpE Φ e env S fun d S1 => wpE Φ o env S1 fun x S2 => wpE Φ i env S2 fun y S3 => setD x y d S3 fun S4 => E.nx env S4) : wpS Φ (.set o i e) E env S := h
theorem st_ret (h : wpE Φ e env S E.rt) : wpS Φ (.ret e) E env S := h
theorem st_iff (h : wpT Φ c env S fun t S1 => if t = true then wpS Φ a E env S1 else wpS Φ b E env S1) : wpS Φ (.iff c a b) E env S := h
end
section
variable {S : Sto} {Q : DK} {i j : Int} {x y : List Nat} {b c : Bool} {ds es : List D} {p q : Addr} {d : D} {lo hi : Option Int} {K : IK}
theorem addD_ii : addD (.int i) (.int j) S Q = Q (.int (i + j)) S := rfl
theorem mulD_ii : mulD (.int i) (.int j) S Q = (CMulW i j ∧ Q (.int (i * j)) S) := rfl
theorem fdivD_ii : fdivD (.int i) (.int j) S Q = (0 < j ∧ j < 2 ^ 8000 ∧ Q (.int (i / j)) S) := rfl
theorem modD_ii : modD (.int i) (.int j) S Q = (0 < j ∧ Q (.int (i % j)) S) := rfl
theorem powD_ii : powD (.int i) (.int j) S Q = (CPow i j ∧ Q (.int (i ^ j.toNat)) S) := rfl
theorem ordD_ii {f : Int → Int → Bool} {g : List Nat → List Nat → Bool} : ordD f g (.int i) (.int j) S Q = Q (.bl (f i j)) S := rfl
theorem isD_n : isD b d .non S Q = Q (.bl (b ^^ isNon d)) S := by cases d <;> rfl
theorem idxD_r : idxD (.ref p) (.int i) S Q = ∃ ds, S p = some (.lst ds) ∧ ∃ d, atI ds i = some d ∧ Q d S := by
  simp only [idxD, exists_and_left]
theorem slD_l : slD (.rol ds) lo hi S Q = ∀ p, S p = none → Q (.ref p) (put S p (.lst (cutD ds lo hi))) := rfl
theorem seqD_r : (seqD S (.ref p) = some ds) = (S p = some (.lst ds)) := by
  simp only [seqD]
  cases h : S p with
  | none => simp
  | some o => cases o; simp
theorem lenD_r : lenD [.ref p] S Q = ∃ ds, S p = some (.lst ds) ∧ Q (.int ds.length) S := by simp only [lenD, seqD_r]
theorem absD_i : absD [.int i] S Q = Q (.int i.natAbs) S := rfl
theorem intD_i : intD [.int i] S Q = Q (.int i) S := rfl
theorem listD_r : listD [.ref p] S Q = ∃ ds, S p = some (.lst ds) ∧ ∀ p, S p = none → Q (.ref p) (put S p (.lst ds)) := by simp only [listD, seqD_r]
theorem setD_of {k : Int} {n : Nat} {R : Sto → Prop} (h : S p = some (.lst ds)) (hn : ixN ds.length k = some n) (r : R (put S p (.lst (ds.set n d)))) : setD (.ref p) (.int k) d S R := ⟨ds, n, h, hn, r⟩
end
section
variable {α : Type} {x y z w : α} {r : List α}
theorem atI_n {i : Int} {n : Nat} (h : i = n) : atI r i = r[n]? := by
  subst h
  unfold atI ixN
  by_cases hn : n < r.length
  · rw [if_pos (by omega), if_pos (by omega)]; simp
  · rw [if_pos (by omega), if_neg (by omega), List.getElem?_eq_none (by omega)]; rfl
theorem atI_0 : atI (x :: r) 0 = some x := atI_n (n := 0) rfl
theorem atI_1 : atI (x :: y :: r) 1 = some y := atI_n (n := 1) rfl
theorem atI_2 : atI (x :: y :: z :: r) 2 = some z := atI_n (n := 2) rfl
theorem atI_3 : atI (x :: y :: z :: w :: r) 3 = some w := atI_n (n := 3) rfl
theorem ne_fresh {S : Sto} {p r : Addr} {o : Ob} (h : S p = some o) (hr : S r = none) : p ≠ r := fun e => by rw [e, hr] at h; cases h
end
end G57
set_option Elab.async false
set_option linter.all false
set_option maxRecDepth 100000
set_option maxHeartbeats 400000
namespace G57
open PySem L2
def Ext (S S' : Sto) : Prop := ∀ a o, S a = some o → S' a = some o
theorem Ext.refl {S : Sto} : Ext S S := fun _ _ e => e
theorem Ext.trans {S S1 S2 : Sto} (a : Ext S S1) (b : Ext S1 S2) : Ext S S2 := fun c o e => b c o (a c o e)
theorem Ext.put {S : Sto} {p : Addr} {o : Ob} (h : S p = none) : Ext S (G57.put S p o) := fun a u e => by
  rw [put_ne (fun z => by rw [z, h] at e; cases e)]; exact e
def ExtB (p : Addr) (S S' : Sto) : Prop := ∀ a o, a ≠ p → S a = some o → S' a = some o
theorem ExtB.refl {p : Addr} {S : Sto} : ExtB p S S := fun _ _ _ e => e
theorem ExtB.trans {p : Addr} {S S1 S2 : Sto} (a : ExtB p S S1) (b : ExtB p S1 S2) : ExtB p S S2 := fun c o n e => b c o n (a c o n e)
theorem Ext.but {p : Addr} {S S' : Sto} (a : Ext S S') : ExtB p S S' := fun c o _ e => a c o e
theorem ExtB.write {p : Addr} {S : Sto} {o : Ob} : ExtB p S (G57.put S p o) := fun a u n e => by rw [put_ne n]; exact e
def Deck (S : Sto) (p q : Addr) (b : Nat) : Prop := ∃ (ns : List Int) (a c d : Int), S p = some (.lst [.ref q, .int a, .int c, .int d]) ∧ S q = some (.lst (ns.map .int)) ∧ q ≠ p ∧ 0 ≤ a ∧ 0 ≤ c ∧ 0 ≤ d ∧ d + b ≤ 2147483648 ∧ ns.length ≤ 63
theorem Deck.less {S : Sto} {p q : Addr} {b c : Nat} (h : Deck S p q b) (hc : c ≤ b) : Deck S p q c := by
  obtain ⟨ns, a, e, d, h1, h2, h3, h4, h5, h6, h7, h8⟩ := h
  exact ⟨ns, a, e, d, h1, h2, h3, h4, h5, h6, by omega, h8⟩
theorem Deck.ext {S S' : Sto} {p q : Addr} {b : Nat} (h : Deck S p q b) (e : Ext S S') : Deck S' p q b := by
  obtain ⟨ns, a, c, d, h1, h2, h3⟩ := h
  exact ⟨ns, a, c, d, e _ _ h1, e _ _ h2, h3⟩
theorem Deck.put {S : Sto} {p q r : Addr} {b : Nat} {o : Ob} (h : Deck S p q b) (h1 : p ≠ r) (h2 : q ≠ r) : Deck (G57.put S r o) p q b := by
  obtain ⟨ns, a, c, d, e1, e2, h3⟩ := h
  exact ⟨ns, a, c, d, by rw [put_ne h1]; exact e1, by rw [put_ne h2]; exact e2, h3⟩
theorem Deck.fresh {S : Sto} {p q r : Addr} {b : Nat} (h : Deck S p q b) (hr : S r = none) : p ≠ r ∧ q ≠ r := by
  obtain ⟨ns, a, c, d, e1, e2, h3⟩ := h
  exact ⟨ne_fresh e1 hr, ne_fresh e2 hr⟩
def spDraw : Spec := fun ds S Q => ∃ p q n b, ds = [.ref p, .int n] ∧ 0 < n ∧ n < 2 ^ 8000 ∧ Deck S p q (b + 1) ∧ ∀ S' r, 0 ≤ r → r < n → Deck S' p q b → ExtB p S S' → Q (.int r) S'
theorem cmul_of {i j : Int} (hi : i.natAbs < 2 ^ 64) (hj : j.natAbs < 2 ^ 64) : CMulW i j := wide_mul hi hj (by decide) (by decide) (by decide)
theorem ints_ok : ∀ (k : Nat) (ns : List Int), oksD k (ns.map .int) = true
  | _, [] => by simp [oksD]
  | k, n :: ns => by
    rw [List.map_cons, oksD, ints_ok k ns]
    cases k <;> simp [okD]
def ir_l_draw_b1_2 : Sx := .cons (.ret (.var 4)) .nil
def ir_l_draw_b1_1 : Sx := .cons (.set (.var 0) (.con (.int 2)) (.bin .FloorDiv (.idx (.var 0) (.con (.int 2))) (.var 1))) ir_l_draw_b1_2
def ir_l_draw_b1 : Sx := .cons (.asg (.v 4) (.bin .Mod (.bi .int (.cons (.idx (.var 0) (.con (.int 2))) (.nil))) (.var 1))) ir_l_draw_b1_1
def ir_l_draw_b2 : Sx := .cons (.asg (.v 2) (.idx (.idx (.var 0) (.con (.int 0))) (.bin .Mod (.bi .int (.cons (.idx (.var 0) (.con (.int 1))) (.nil))) (.bi .len (.cons (.idx (.var 0) (.con (.int 0))) (.nil)))))) .nil
def ir_l_draw_b3_1 : Sx := .cons (.ret (.bin .Mod (.bi .int (.cons (.bi .abs (.cons (.var 2) (.nil))) (.nil))) (.var 1))) .nil
def ir_l_draw_b3 : Sx := .cons (.set (.var 0) (.con (.int 2)) (.bin .FloorDiv (.bi .abs (.cons (.var 2) (.nil))) (.var 1))) ir_l_draw_b3_1
def ir_l_draw_8 : Sx := .cons (.ret (.bin .Mod (.bin .FloorDiv (.var 3) (.con (.int 64))) (.var 1))) .nil
def ir_l_draw_7 : Sx := .cons (.asg (.v 3) (.bin .Mod (.bin .Pow (.bi .int (.cons (.bin .Add (.bin .Mult (.var 3) (.bin .Add (.bin .Mult (.con (.int 2)) (.idx (.var 0) (.con (.int 3)))) (.con (.int 3)))) (.con (.int 7907))) (.nil))) (.con (.int 3))) (.con (.int 2147483587)))) ir_l_draw_8
def ir_l_draw_6 : Sx := .cons (.asg (.v 3) (.bin .Mod (.bin .Pow (.bi .int (.cons (.bin .Add (.bin .Mod (.bi .int (.cons (.var 2) (.nil))) (.con (.int 2147483629))) (.bin .Mult (.con (.int 104723)) (.idx (.var 0) (.con (.int 3))))) (.nil))) (.con (.int 5))) (.con (.int 2147483647)))) ir_l_draw_7
def ir_l_draw_5 : Sx := .cons (.iff (.and (.cmp .GtE (.bi .abs (.cons (.var 2) (.nil))) (.bin .Pow (.con (.int 10)) (.con (.int 18)))) (.cmp .LtE (.idx (.var 0) (.con (.int 1))) (.bi .len (.cons (.idx (.var 0) (.con (.int 0))) (.nil))))) (ir_l_draw_b3) (.nil)) ir_l_draw_6
def ir_l_draw_4 : Sx := .cons (.set (.var 0) (.con (.int 1)) (.bin .Add (.idx (.var 0) (.con (.int 1))) (.con (.int 1)))) ir_l_draw_5
def ir_l_draw_3 : Sx := .cons (.iff (.cmp .NotEq (.idx (.var 0) (.con (.int 0))) (.lst (.nil))) (ir_l_draw_b2) (.nil)) ir_l_draw_4
def ir_l_draw_2 : Sx := .cons (.asg (.v 2) (.con (.int 31))) ir_l_draw_3
def ir_l_draw_1 : Sx := .cons (.iff (.cmp .Gt (.idx (.var 0) (.con (.int 2))) (.con (.int 0))) (ir_l_draw_b1) (.nil)) ir_l_draw_2
def ir_l_draw : Sx := .cons (.set (.var 0) (.con (.int 3)) (.bin .Add (.idx (.var 0) (.con (.int 3))) (.con (.int 1)))) ir_l_draw_1
theorem deck_upd {S : Sto} {p q : Addr} {ns : List Int} {a c d : Int} {b : Nat} (e2 : S q = some (.lst (ns.map .int))) (ne : q ≠ p) (ha : 0 ≤ a) (hc : 0 ≤ c) (hd : 0 ≤ d) (hb : d + b ≤ 2147483648) (hl : ns.length ≤ 63) :
    Deck (put S p (.lst [.ref q, .int a, .int c, .int d])) p q b := ⟨ns, a, c, d, put_same, by rw [put_ne ne]; exact e2, ne, ha, hc, hd, hb, hl⟩
abbrev phi0 : Tab := fun i => (([] : List (Str × Spec))[i]?).map (·.2)
section
variable {S : Sto} {Q : DK} {p q : Addr} {n cell : Int} {ns : List Int} {a c d : Int}
theorem draw_6 (f1 : S p = some (.lst [.ref q, .int a, .int c, .int d])) (hn : 0 < n) (hd : 0 ≤ d) (hd2 : d ≤ 2147483648) (k : ∀ r, 0 ≤ r → r < n → Q (.int r) S) :
    wpS phi0 ir_l_draw_6 { nx := fun _ S' => Q .non S', rt := Q } [some (.ref p), some (.int n), some (.int cell), none, none] S := by
  have c1 := Int.emod_nonneg cell (show (2147483629 : Int) ≠ 0 by decide)
  have c2 := Int.emod_lt_of_pos cell (show (0 : Int) < 2147483629 by decide)
  unfold ir_l_draw_6
  refine st_cons (st_asg ?_)
  simp only [wpE, wpA, wpP, opD, biD, addD_ii, mulD_ii, modD_ii, powD_ii, idxD_r, intD_i, List.getElem?_cons_zero, List.getElem?_cons_succ, List.set_cons_zero, List.set_cons_succ, Option.some.injEq, exists_eq_left', Ob.lst.injEq, atI_3, f1]
  refine ⟨by decide, cmul_of (by decide) (by omega), ⟨by decide, by decide, by omega⟩, by decide, ?_⟩
  generalize hm : (cell % 2147483629 + 104723 * d) ^ Int.toNat 5 % 2147483647 = m
  have m1 : 0 ≤ m := by rw [← hm]; exact Int.emod_nonneg _ (by decide)
  have m2 : m < 2147483647 := by rw [← hm]; exact Int.emod_lt_of_pos _ (by decide)
  unfold ir_l_draw_7
  refine st_cons (st_asg ?_)
  simp only [wpE, wpA, wpP, opD, biD, addD_ii, mulD_ii, modD_ii, powD_ii, idxD_r, intD_i, List.getElem?_cons_zero, List.getElem?_cons_succ, List.set_cons_zero, List.set_cons_succ, Option.some.injEq, exists_eq_left', Ob.lst.injEq, atI_3, f1]
  have m3 : m * (2 * d + 3) ≤ 2147483647 * (2 * d + 3) := Int.mul_le_mul_of_nonneg_right (by omega) (by omega)
  have m4 : 0 ≤ m * (2 * d + 3) := Int.mul_nonneg m1 (by omega)
  refine ⟨cmul_of (by decide) (by omega), cmul_of (by omega) (by omega), ⟨by decide, by decide, by omega⟩, by decide, ?_⟩
  unfold ir_l_draw_8
  refine st_cons (st_ret ?_)
  simp only [wpE, opD, fdivD_ii, modD_ii, List.getElem?_cons_zero, List.getElem?_cons_succ, Option.some.injEq, exists_eq_left']
  exact ⟨by decide, by decide, hn, k _ (Int.emod_nonneg _ (by omega)) (Int.emod_lt_of_pos _ hn)⟩
theorem draw_4 (f1 : S p = some (.lst [.ref q, .int a, .int c, .int d])) (f2 : S q = some (.lst (ns.map .int))) (ne : q ≠ p) (hn : 0 < n) (hn2 : n < 2 ^ 8000) (hd : 0 ≤ d) (hd2 : d ≤ 2147483648)
    (k : ∀ c' r, (0 ≤ c' ∨ c' = c) → 0 ≤ r → r < n → Q (.int r) (put S p (.lst [.ref q, .int (a + 1), .int c', .int d]))) :
    wpS phi0 ir_l_draw_4 { nx := fun _ S' => Q .non S', rt := Q } [some (.ref p), some (.int n), some (.int cell), none, none] S := by
  unfold ir_l_draw_4
  refine st_cons (st_set ?_)
  simp only [wpE, opD, addD_ii, idxD_r, List.getElem?_cons_zero, Option.some.injEq, exists_eq_left', Ob.lst.injEq, atI_1, f1]
  refine setD_of (n := 1) f1 rfl ?_
  unfold ir_l_draw_5
  refine st_cons (st_iff ?_)
  simp only [wpE, wpT, wpA, opD, cmpD, biD, powD_ii, ordD_ii, idxD_r, lenD_r, absD_i, List.getElem?_cons_zero, List.getElem?_cons_succ, List.set_cons_zero, List.set_cons_succ, Option.some.injEq, exists_eq_left', put_same, Ob.lst.injEq, D.bl.injEq, atI_0, atI_1, decide_eq_true_eq, put_ne ne, f2]
  refine ⟨⟨by decide, by decide, by decide⟩, ?_⟩
  have tail := draw_6 (S := put S p (.lst [.ref q, .int (a + 1), .int c, .int d])) (Q := Q) (n := n) (cell := cell) put_same hn hd hd2 fun r h0 h1 => k c r (.inr rfl) h0 h1
  have big : ∀ m : Int, 0 ≤ m → wpS phi0 ir_l_draw_b3 { nx := fun env' S' => wpS phi0 ir_l_draw_6 { nx := fun _ S' => Q .non S', rt := Q } env' S', rt := Q } [some (.ref p), some (.int n), some (.int cell), none, none] (put S p (.lst [.ref q, .int (a + 1), .int c, .int d])) := by
    intro m _
    unfold ir_l_draw_b3
    refine st_cons (st_set ?_)
    simp only [wpE, wpA, opD, biD, fdivD_ii, absD_i, List.getElem?_cons_zero, List.getElem?_cons_succ, Option.some.injEq, exists_eq_left']
    refine ⟨hn, hn2, setD_of (n := 2) put_same rfl ?_⟩
    unfold ir_l_draw_b3_1
    refine st_cons (st_ret ?_)
    simp only [wpE, wpA, opD, biD, modD_ii, absD_i, intD_i, List.getElem?_cons_zero, List.getElem?_cons_succ, List.set_cons_zero, List.set_cons_succ, Option.some.injEq, exists_eq_left', put_put]
    refine ⟨hn, ?_⟩
    exact k _ _ (.inl (Int.ediv_nonneg (by omega) (by omega))) (Int.emod_nonneg _ (by omega)) (Int.emod_lt_of_pos _ hn)
  split
  · split
    · exact big 0 (by omega)
    · exact tail
  · exact tail
end
theorem w_draw : ∀ ds S Q, spDraw ds S Q → wpS phi0 ir_l_draw { nx := fun _ S' => Q .non S', rt := Q } (startD ["_law_deck_here", "_law_many", "_law_cell", "_law_mixed", "_law_found"] ds) S := by
  rintro ds S Q ⟨p, q, n, b, rfl, hn, hn2, ⟨ns, a, c, d, e1, e2, ne, ha, hc, hd, hb, hl⟩, k⟩
  have env0 : startD ["_law_deck_here", "_law_many", "_law_cell", "_law_mixed", "_law_found"] [.ref p, .int n] = [some (.ref p), some (.int n), none, none, none] := rfl
  rw [env0]
  unfold ir_l_draw
  refine st_cons (st_set ?_)
  simp only [wpE, opD, addD_ii, idxD_r, List.getElem?_cons_zero, Option.some.injEq, exists_eq_left', Ob.lst.injEq, atI_3, e1]
  refine setD_of (n := 3) e1 rfl ?_
  unfold ir_l_draw_1
  refine st_cons (st_iff ?_)
  simp only [wpE, wpT, cmpD, ordD_ii, idxD_r, List.getElem?_cons_zero, List.set_cons_zero, List.set_cons_succ, Option.some.injEq, exists_eq_left', put_same, Ob.lst.injEq, D.bl.injEq, atI_2, decide_eq_true_eq]
  by_cases hc0 : 0 < c
  · rw [if_pos hc0]
    unfold ir_l_draw_b1
    refine st_cons (st_asg ?_)
    simp only [wpE, wpA, wpP, opD, biD, modD_ii, idxD_r, intD_i, List.getElem?_cons_zero, List.getElem?_cons_succ, List.set_cons_zero, List.set_cons_succ, Option.some.injEq, exists_eq_left', put_same, Ob.lst.injEq, atI_2]
    refine ⟨hn, ?_⟩
    unfold ir_l_draw_b1_1
    refine st_cons (st_set ?_)
    simp only [wpE, opD, fdivD_ii, idxD_r, List.getElem?_cons_zero, List.getElem?_cons_succ, Option.some.injEq, exists_eq_left', put_same, Ob.lst.injEq, atI_2]
    refine ⟨hn, hn2, setD_of (n := 2) put_same rfl ?_⟩
    unfold ir_l_draw_b1_2
    refine st_cons (st_ret ?_)
    simp only [wpE, List.getElem?_cons_zero, List.getElem?_cons_succ, List.set_cons_zero, List.set_cons_succ, Option.some.injEq, exists_eq_left', put_put]
    exact k _ _ (Int.emod_nonneg _ (by omega)) (Int.emod_lt_of_pos _ hn) (deck_upd e2 ne ha (Int.ediv_nonneg hc (by omega)) (by omega) (by omega) hl) ExtB.write
  · rw [if_neg hc0]
    unfold ir_l_draw_2
    refine st_nil (st_cons (st_asg ?_))
    simp only [wpE, wpP, List.set_cons_zero, List.set_cons_succ]
    unfold ir_l_draw_3
    refine st_cons (st_iff ?_)
    simp only [wpE, wpT, wpA, cmpD, idxD_r, List.getElem?_cons_zero, Option.some.injEq, exists_eq_left', put_same, Ob.lst.injEq, atI_0]
    refine ⟨by decide, fun r hr => ?_⟩
    have hrp : r ≠ p := fun z => by rw [z, put_same] at hr; cases hr
    have hrq : q ≠ r := fun z => by rw [← z, put_ne ne, e2] at hr; cases hr
    have hpr : p ≠ r := fun z => hrp z.symm
    have ok1 : okS (put (put S p (.lst [.ref q, .int a, .int c, .int (d + 1)])) r (.lst [])) (.ref q) = true := by
      simp only [okS, dn, put_ne hrq, put_ne ne, e2, okD, dns_ok _ 40 40 (ints_ok 40 ns), ints_ok]
    have ok2 : okS (put (put S p (.lst [.ref q, .int a, .int c, .int (d + 1)])) r (.lst [])) (.ref r) = true := by
      simp only [okS, dn, put_same, List.map_nil, okD, oksD]
    refine ⟨ok1, ok2, ?_⟩
    have fin : ∀ cell, wpS phi0 ir_l_draw_4 { nx := fun _ S' => Q .non S', rt := Q } [some (.ref p), some (.int n), some (.int cell), none, none] (put (put S p (.lst [.ref q, .int a, .int c, .int (d + 1)])) r (.lst [])) := by
      intro cell
      refine draw_4 (q := q) (ns := ns) (a := a) (c := c) (d := d + 1) (by rw [put_ne hpr, put_same]) (by rw [put_ne hrq, put_ne ne]; exact e2) ne hn hn2 (by omega) (by omega) fun c' s hc' h0 h1 => ?_
      refine k _ _ h0 h1 (deck_upd (by rw [put_ne hrq, put_ne ne]; exact e2) ne (by omega) (by omega) (by omega) (by omega) hl) fun x o hx e => ?_
      rw [put_ne hx, put_ne (fun z => ?_), put_ne hx]
      · exact e
      · rw [z] at e
        rw [put_ne hrp] at hr
        rw [hr] at e; cases e
    have pq : pyS (put (put S p (.lst [.ref q, .int a, .int c, .int (d + 1)])) r (.lst [])) (.ref q) = .list (pys (ns.map .int)) := by
      simp only [pyS, dn, put_ne hrq, put_ne ne, e2, py, dns_ok _ 40 40 (ints_ok 40 ns)]
    have pr : pyS (put (put S p (.lst [.ref q, .int a, .int c, .int (d + 1)])) r (.lst [])) (.ref r) = .list [] := by
      simp only [pyS, dn, put_same, List.map_nil, py, pys]
    rw [pq, pr]
    cases ns with
    | nil =>
      refine ⟨_, rfl, ?_⟩
      simp only [List.map_nil, pys, PyData.eqv, PyData.eqvAll, Bool.true_xor, Bool.not_true, Bool.false_eq_true, if_false]
      exact st_nil (fin 31)
    | cons m ms =>
      refine ⟨_, rfl, ?_⟩
      simp only [List.map_cons, pys, PyData.eqv, PyData.eqvAll, Bool.true_xor, Bool.not_false, if_true]
      unfold ir_l_draw_b2
      refine st_cons (st_asg ?_)
      simp only [wpE, wpA, wpP, opD, biD, modD_ii, idxD_r, lenD_r, intD_i, List.getElem?_cons_zero, List.set_cons_zero, List.set_cons_succ, Option.some.injEq, exists_eq_left', put_same, Ob.lst.injEq, atI_0, atI_1, put_ne hpr, put_ne hrq, put_ne ne, e2]
      refine ⟨by simp, ?_⟩
      have hlen : (((.int m :: ms.map D.int : List D).length : Nat) : Int) = (ms.length : Int) + 1 := by simp
      have h0 := Int.emod_nonneg a (show ((ms.length : Int) + 1) ≠ 0 by omega)
      have h1 := Int.emod_lt_of_pos a (show (0 : Int) < (ms.length : Int) + 1 by omega)
      obtain ⟨j, hj⟩ := Int.eq_ofNat_of_zero_le h0
      have hjl : j < (m :: ms).length := by rw [List.length_cons]; omega
      refine ⟨.int (m :: ms)[j], ?_, st_nil (fin _)⟩
      rw [show (m :: ms).map D.int = (.int m :: ms.map D.int : List D) from rfl, hlen, atI_n hj, ← List.map_cons (f := D.int), List.getElem?_map, List.getElem?_eq_getElem hjl]
      rfl
end G57
set_option Elab.async false
set_option linter.all false
set_option maxRecDepth 100000
set_option maxHeartbeats 400000
namespace G57
open PySem L2
theorem small_of {n : Int} (h0 : -4611686018427387904 ≤ n) (h1 : n < 4611686018427387904) : smallI n := trivial
theorem ft_mk {K : PySem.W.Frag} {h : Heap} {mg : Str → Option Value} (X : K.In h) (G : h.Ns mainGlobals mg) {x : Str} {st : Stmt} {f : Addr} {oc : Value} {od an : Option Addr} {osl : Array (Option Value)} {kV doc pm cdv ct : Value} {ps : List Str}
    (a : PySem.W.nsIn K mainGlobals x = some (some (.ref f))) (l : K.lookup f = some ⟨oc, od, .func (PySem.W.fnOf x x (defArgs st) (defBody st) (defScope st) .none kV doc pm an cdv ct), osl⟩) (c : PySem.W.codeIn K cdv x = true) (k : PySem.W.keepIn K (.ref f) = true)
    (b : ∀ (kV doc pm : Value) (an : Option Addr) (cdv ct : Value) (us : List Value), us.length = ps.length → bindArgs (PySem.W.fnOf x x (defArgs st) (defBody st) (defScope st) .none kV doc pm an cdv ct) ⟨us, []⟩ = pure (ps.zip us)) (nm : fnN x = true := by decide +kernel) : FT K mg x st ps :=
  ⟨⟨f, _, fun_mk l c k, PySem.W.mg_of X G a, (fun_mk l c k).binds b⟩, nm⟩
end G57
set_option Elab.async false
set_option linter.all false
set_option maxRecDepth 100000
set_option maxHeartbeats 400000
namespace G57
open PySem L2
abbrev tabOf (Φ : List (Str × Spec)) : Tab := fun i => (Φ[i]?).map (·.2)
def ir_l_one : Sx := .cons (.ret (.idx (.var 1) (.call 0 (.cons (.var 0) (.cons (.bi .len (.cons (.var 1) (.nil))) (.nil)))))) .nil
theorem pick {α : Type} {xs : List α} {r : Int} (h0 : 0 ≤ r) (h1 : r < xs.length) : ∃ x, atI xs r = some x ∧ x ∈ xs := by
  obtain ⟨n, rfl⟩ := Int.eq_ofNat_of_zero_le h0
  have hn : n < xs.length := by omega
  exact ⟨xs[n], by rw [atI_n (n := n) rfl, List.getElem?_eq_getElem hn], List.getElem_mem hn⟩
def lowW (w : List Nat) : Prop := ∀ c ∈ w, 97 ≤ c ∧ c ≤ 122
end G57
set_option Elab.async false
set_option linter.all false
set_option maxRecDepth 100000
set_option maxHeartbeats 400000
namespace G57
open PySem L2
theorem cut_1 {α : Type} (xs : List α) : cutD xs (some 1) none = xs.tail := by
  unfold cutD
  rw [show HT.sIx xs.length 0 (some 1) = min 1 xs.length from HT.sIx_nat xs.length 0 1, HT.sIx_none]
  cases xs with
  | nil => rfl
  | cons x r =>
    rw [show min 1 (x :: r).length = 1 by rw [List.length_cons]; omega]
    simp
theorem cut_h {α : Type} (xs : List α) (n : Nat) : cutD xs none (some (n : Int)) = xs.take n := by
  unfold cutD
  rw [HT.sIx_none, HT.sIx_nat]
  simp only [Nat.sub_zero, List.drop_zero]
  rcases Nat.le_total n xs.length with h | h
  · rw [Nat.min_eq_left h]
  · rw [Nat.min_eq_right h, List.take_of_length_le h, List.take_of_length_le (Nat.le_refl _)]
def isOpen (f : List Int) : Bool := f.tail.any (· != 0)
def okF (m : Nat) (f : List Int) : Prop := f.length = m + 1 ∧ ∀ i ∈ f, 0 ≤ i ∧ i ≤ 99
end G57
set_option Elab.async false
set_option linter.all false
set_option maxRecDepth 100000
set_option maxHeartbeats 400000
namespace G57
open PySem L2
inductive Pg where
  | text (w : List Nat) | loop (f : List Int) (ps : List Pg)
mutual
def okP (m : Nat) : Pg → Nat → Bool → Prop
  | .text w, _, _ => w.length ≤ 4 ∧ lowW w
  | .loop f ps, d, b => 0 < d ∧ okF m f ∧ (isOpen f = true → b = true) ∧ (isOpen f = false → ∀ i ∈ f, i ≤ 3) ∧ ps.length ≤ 2 ∧ okPs m ps (d - 1) (b && !isOpen f)
def okPs (m : Nat) : List Pg → Nat → Bool → Prop
  | [], _, _ => True
  | p :: ps, d, b => okP m p d b ∧ okPs m ps d b
end
end G57
set_option Elab.async false
set_option linter.all false
set_option maxRecDepth 100000
set_option maxHeartbeats 400000
namespace G57
open PySem L2
abbrev Pc := List Nat × Option (List Int)
mutual
def pcsP : Pg → List Pc
  | .text w => [(w, none)]
  | .loop f ps => if isOpen f = true then [(((pcsPs ps).map (·.1)).flatten, some f)] else (List.replicate (f.headD 0).toNat (pcsPs ps)).flatten
def pcsPs : List Pg → List Pc
  | [] => []
  | p :: ps => pcsP p ++ pcsPs ps
end
theorem Ext.fresh {S S' : Sto} {a : Addr} (e : Ext S S') (h : S' a = none) : S a = none := by
  cases q : S a with
  | none => rfl
  | some o => rw [e _ _ q] at h; cases h
theorem Ext.write {S S' : Sto} {a : Addr} {o : Ob} (e : Ext S S') (h : S a = none) : Ext S (G57.put S' a o) := fun c u q => by
  rw [put_ne (fun z => by rw [z, h] at q; cases q)]; exact e _ _ q
end G57
set_option Elab.async false
set_option linter.all false
set_option maxRecDepth 100000
set_option maxHeartbeats 400000
namespace G57
open PySem L2
theorem fm_some {α β : Type} (h : α → β) (xs : List α) : xs.filterMap (fun x => some (h x)) = xs.map h := by
  induction xs with
  | nil => rfl
  | cons x xs ih => simp [ih]
theorem intsF_map : ∀ is : List Int, intsF (is.map .int) = some is
  | [] => rfl
  | i :: is => by simp [intsF, intsF_map is]
def szPc : Pc → Int
  | (w, none) => w.length
  | (w, some f) => w.length * (1 + f.headD 0)
def opPc : Pc → Bool
  | (_, none) => false
  | (_, some _) => true
def sizeP (ps : List Pg) : Int := ((pcsPs ps).map szPc).sum
def opensP (ps : List Pg) : Nat := ((pcsPs ps).filter opPc).length
def smallP (ps : List Pg) : Bool := decide (sizeP ps ≤ 290) && decide (opensP ps ≤ 12)
structure OkPg (m : Nat) (ps : List Pg) : Prop where
  m3 : m ≤ 3
  ok : okPs m ps 3 true
  small : smallP ps = true
  len : ps.length ≤ 5
end G57
set_option Elab.async false
set_option linter.all false
set_option maxRecDepth 100000
set_option maxHeartbeats 400000
namespace G57
open PySem L2
theorem itxt_len {i : Int} {k : Nat} (hk : 0 < k) (h : i.natAbs < 10 ^ k) : (itxt i).length ≤ k + 1 := by
  have e := int_text_length_le10 hk h
  have e2 : (itxt i).length = (Str.ofString (toString i)).length := by unfold itxt; rw [Array.length_toList]; rfl
  rw [e2, ofString_length]; exact e
mutual
def rsz (B : Nat) : D → Nat
  | .int _ => B + 1
  | .str x => 10 * x.length + 2
  | .tup ds | .rol ds => rszs B ds + 3
  | _ => 5
def rszs (B : Nat) : List D → Nat
  | [] => 0
  | d :: ds => rsz B d + 2 + rszs B ds
end
mutual
def inB (B : Nat) : D → Prop
  | .int i => i.natAbs < 10 ^ B
  | .tup ds | .rol ds => insB B ds
  | _ => True
def insB (B : Nat) : List D → Prop
  | [] => True
  | d :: ds => inB B d ∧ insB B ds
end
mutual
theorem shown_rsz (B : Nat) (hB : 0 < B) : ∀ (d : D) (n : Nat), okD n d = true → inB B d → (py d).shown.length ≤ rsz B d
  | .non, _, _, _ => by simp only [py, rsz]; decide
  | .bl b, _, _, _ => by simp only [py, rsz]; cases b <;> decide
  | .int i, _, _, h => by
    simp only [py, rsz, inB] at h ⊢
    have e := itxt_len hB h
    have e2 : (itxt i).length = (PyData.shown (.int i)).length := by unfold itxt; rw [Array.length_toList]; rfl
    omega
  | .str x, n, hk, _ => by
    simp only [py, rsz, PyData.shown]
    have hx : ∀ c ∈ (⟨x.toArray⟩ : Str).cps.toList, c < 16 ^ 8 := by
      have : x.all (fun c => decide (c < 0x110000)) = true := by cases n <;> simpa [okD] using hk
      intro c hc
      have := List.all_eq_true.mp this c (by simpa using hc)
      simp only [decide_eq_true_eq] at this
      omega
    have := StrLaws.reprText_len ⟨x.toArray⟩ hx
    simpa [Str.length] using this
  | .tup ds, n, hk, h => by
    cases n with
    | zero => simp [okD] at hk
    | succ n =>
      simp only [okD] at hk
      simp only [inB] at h
      have h1 := showns_rsz B hB ds n hk h
      have h2 := tupleText_len_le (PyData.shownAll (pys ds))
      have h3 := PyData.shownAll_length (pys ds)
      simp only [py, rsz, PyData.shown]
      omega
  | .rol ds, n, hk, h => by
    cases n with
    | zero => simp [okD] at hk
    | succ n =>
      simp only [okD] at hk
      simp only [inB] at h
      have h1 := showns_rsz B hB ds n hk h
      have h2 := listText_len_le (PyData.shownAll (pys ds))
      have h3 := PyData.shownAll_length (pys ds)
      simp only [py, rsz, PyData.shown]
      omega
  | .ref _, n, hk, _ => by cases n <;> simp [okD] at hk
  | .obj _ _, n, hk, _ => by cases n <;> simp [okD] at hk
theorem showns_rsz (B : Nat) (hB : 0 < B) : ∀ (ds : List D) (n : Nat), oksD n ds = true → insB B ds → ((PyData.shownAll (pys ds)).map (·.length)).sum + 2 * (pys ds).length ≤ rszs B ds
  | [], _, _, _ => by simp [pys, PyData.shownAll, rszs]
  | d :: ds, n, hk, h => by
    simp only [oksD, Bool.and_eq_true] at hk
    simp only [insB] at h
    have h1 := shown_rsz B hB d n hk.1 h.1
    have h2 := showns_rsz B hB ds n hk.2 h.2
    simp only [pys, PyData.shownAll, rszs, List.map_cons, List.sum_cons, List.length_cons]
    omega
end
theorem ten_lim {B : Nat} (h : B ≤ 3850) {n : Nat} (hn : n < 10 ^ B) : n < 2 ^ 12800 :=
  Nat.lt_of_lt_of_le hn (Nat.le_trans (Nat.pow_le_pow_right (by decide) h) (by decide +kernel))
mutual
theorem sh_of (B : Nat) (h : B ≤ 3850) : ∀ d : D, inB B d → shD d = true
  | .non, _ => by simp [shD]
  | .bl b, _ => by simp [shD]
  | .int i, hi => by
    simp only [inB] at hi
    simp only [shD, decide_eq_true_eq]
    exact ten_lim h hi
  | .str x, _ => by simp [shD]
  | .tup ds, hi => by simp only [inB] at hi; simp only [shD]; exact shs_of B h ds hi
  | .rol ds, hi => by simp only [inB] at hi; simp only [shD]; exact shs_of B h ds hi
  | .ref _, _ | .obj _ _, _ => by simp [shD]
theorem shs_of (B : Nat) (h : B ≤ 3850) : ∀ ds : List D, insB B ds → shsD ds = true
  | [], _ => by simp [shsD]
  | d :: ds, hi => by
    simp only [insB] at hi
    simp only [shsD, Bool.and_eq_true]
    exact ⟨sh_of B h d hi.1, shs_of B h ds hi.2⟩
end
structure Shw (B : Nat) (d : D) : Prop where
  ok : okD 41 d = true
  ins : inB B d
  sz : rsz B d ≤ 16777216
  nr : ∀ p, d ≠ .ref p
end G57
set_option Elab.async false
set_option linter.all false
set_option maxRecDepth 100000
set_option maxHeartbeats 400000
namespace G57
open PySem L2
def ir_l_deck : Sx := .cons (.ret (.lst (.cons (.bi .list (.cons (.sl (.var 0) (.nil) (.cons (.con (.int 63)) .nil)) (.nil))) (.cons (.con (.int 0)) (.cons (.con (.int 0)) (.cons (.con (.int 0)) (.nil))))))) .nil
def spDeck : Spec := fun ds S Q => ∃ ns : List Int, ds = [.rol (ns.map .int)] ∧ ns.length ≤ 63 ∧ ∀ S' p q, Deck S' p q 2147483648 → Ext S S' → Q (.ref p) S'
theorem w_deck : ∀ ds S Q, spDeck ds S Q → wpS (tabOf []) ir_l_deck { nx := fun _ S' => Q .non S', rt := Q } (startD ["_law_script"] ds) S := by
  rintro ds S Q ⟨ns, rfl, hn, k⟩
  rw [show startD ["_law_script"] [.rol (ns.map .int)] = [some (.rol (ns.map .int))] from rfl]
  unfold ir_l_deck
  refine st_cons (st_ret ?_)
  simp only [wpE, wpA, wpO, biD, slD_l, listD_r, List.getElem?_cons_zero, Option.some.injEq, exists_eq_left', put_same, Ob.lst.injEq, D.int.injEq]
  intro r1 f1 r2 f2
  refine ⟨by simp, fun p fp => ?_⟩
  have n2p : r2 ≠ p := ne_fresh put_same fp
  refine k _ p r2 ⟨ns, 0, 0, 0, put_same, ?_, n2p, by decide, by decide, by decide, by decide, hn⟩ (((Ext.put f1).trans (Ext.put f2)).trans (Ext.put fp))
  rw [put_ne n2p, put_same, show (63 : Int) = ((63 : Nat) : Int) from rfl, cut_h, List.take_of_length_le (by simpa using hn)]
end G57
set_option Elab.async false
set_option linter.all false
set_option maxRecDepth 100000
set_option maxHeartbeats 400000
namespace G57
open PySem L2
mutual
theorem shut_pcs {m : Nat} : ∀ (p : Pg) (d : Nat), okP m p d false → ∀ x ∈ pcsP p, x.2 = none
  | .text w, d, h, x, hx => by
    rw [pcsP] at hx
    rw [List.mem_singleton.mp hx]
  | .loop f ps, d, h, x, hx => by
    rw [okP] at h
    rw [pcsP] at hx
    split at hx
    · rename_i ho; have := h.2.2.1 ho; cases this
    · obtain ⟨ys, h1, h2⟩ := List.mem_flatten.mp hx
      rw [(List.mem_replicate.mp h1).2] at h2
      exact shut_pcss ps _ (by simpa using h.2.2.2.2.2) x h2
theorem shut_pcss {m : Nat} : ∀ (ps : List Pg) (d : Nat), okPs m ps d false → ∀ x ∈ pcsPs ps, x.2 = none
  | [], d, h, x, hx => by simp [pcsPs] at hx
  | p :: ps, d, h, x, hx => by
    rw [okPs] at h
    rw [pcsPs] at hx
    rcases List.mem_append.mp hx with hx | hx
    · exact shut_pcs p d h.1 x hx
    · exact shut_pcss ps d h.2 x hx
end
def dot : List Int → List Int → Int
  | a :: as, b :: bs => a * b + dot as bs
  | _, _ => 0
def valF (f ns : List Int) : Int := f.headD 0 + dot f.tail ns
def valC (ns : List Int) : Option (List Int) → Int
  | none => 1
  | some f => valF f ns
theorem dot_zero : ∀ (as ns : List Int), (∀ a ∈ as, a = 0) → dot as ns = 0
  | [], ns, _ => by simp [dot]
  | a :: as, [], _ => by simp [dot]
  | a :: as, n :: ns, h => by rw [dot, h a (by simp), dot_zero as ns fun b hb => h b (by simp [hb])]; simp
mutual
def wrt (ns : List Int) : Pg → List Nat
  | .text w => w
  | .loop f ps => (List.replicate (valF f ns).toNat (wrts ns ps)).flatten
def wrts (ns : List Int) : List Pg → List Nat
  | [] => []
  | p :: ps => wrt ns p ++ wrts ns ps
end
theorem val_shut {f ns : List Int} (h : isOpen f = false) : valF f ns = f.headD 0 := by
  unfold valF
  rw [dot_zero _ _ (fun a ha => by
    unfold isOpen at h
    have := List.any_eq_false.mp h a ha
    simpa using this)]
  omega
end G57
set_option Elab.async false
set_option linter.all false
set_option maxRecDepth 100000
set_option maxHeartbeats 400000
namespace G57
open PySem L2
def ir_value_of : Sx := .cons (.ret (.bin .Add (.idx (.var 0) (.con (.int 0))) (.bi .sum (.cons (.lc [2, 3] (.t (.cons (.v 2) (.cons (.v 3) (.nil)))) (.iZ (.sl (.var 0) (.cons (.con (.int 1)) .nil) (.nil)) (.var 1)) (.nil) (.bin .Mult (.var 2) (.var 3))) (.nil))))) .nil
def encII (y : Int × Int) : D := .tup [.int y.1, .int y.2]
theorem zip_ii : ∀ (as bs : List Int), zipD (as.map .int) (bs.map .int) = (as.zip bs).map encII
  | [], _ => by simp [zipD]
  | i :: is, [] => by simp [zipD]
  | i :: is, n :: ns => by simp [zipD, zip_ii is ns, encII]
theorem dot_zip : ∀ as bs : List Int, dot as bs = ((as.zip bs).map fun y => y.1 * y.2).sum
  | [], _ => by simp [dot]
  | a :: as, [] => by simp [dot]
  | a :: as, b :: bs => by simp [dot, dot_zip as bs]
end G57
set_option Elab.async false
set_option linter.all false
set_option maxRecDepth 100000
set_option maxHeartbeats 400000
namespace G57
open PySem L2
end G57
set_option Elab.async false
set_option linter.all false
set_option maxRecDepth 100000
set_option maxHeartbeats 400000
namespace G57
open PySem L2
def mid (g t : Nat → Int) (j k : Nat) : Int := if k < j then g k + t k else g k
end G57
set_option Elab.async false
set_option linter.all false
set_option maxRecDepth 100000
set_option maxHeartbeats 400000
namespace G57
open PySem L2
end G57
set_option Elab.async false
set_option linter.all false
set_option maxRecDepth 100000
set_option maxHeartbeats 400000
namespace G57
open PySem L2
abbrev Own := Addr → Prop
mutual
def VF (p : Addr) (O : Own) (S : Sto) : D → D → Prop
  | .non, d => d = .non
  | .bl b, d => d = .bl b
  | .int i, d => d = .int i
  | .str x, d => d = .str x
  | .ref _, d => d = .ref p
  | .obj c x, d => ∃ e, d = .obj c e ∧ VF p O S x e
  | .tup ds, d => ∃ es, d = .tup es ∧ VFs p O S ds es
  | .rol ds, d => ∃ a es, d = .ref a ∧ ¬ O a ∧ a ≠ p ∧ S a = some (.lst es) ∧ VFs p O S ds es
def VFs (p : Addr) (O : Own) (S : Sto) : List D → List D → Prop
  | [], es => es = []
  | d :: ds, es => ∃ e r, es = e :: r ∧ VF p O S d e ∧ VFs p O S ds r
end
def VT (p : Addr) (O : Own) (S : Sto) : D → D → Prop
  | .rol ds, d => ∃ a es, d = .ref a ∧ a ≠ p ∧ S a = some (.lst es) ∧ VFs p O S ds es
  | x, d => VF p O S x d
def VB (b : Bool) (p : Addr) (O : Own) (S : Sto) (x d : D) : Prop := if b = true then VT p O S x d else VF p O S x d
section
variable {p q : Addr} {O O' : Own} {S S' : Sto}
theorem VF.vt {x d : D} (h : VF p O S x d) : VT p O S x d := by
  cases x <;> try exact h
  simp only [VF] at h
  obtain ⟨a, es, e, _, n, s, v⟩ := h
  exact ⟨a, es, e, n, s, v⟩
theorem VF.vb {x d : D} (b : Bool) (h : VF p O S x d) : VB b p O S x d := by
  unfold VB; split
  · exact h.vt
  · exact h
theorem VB.vt {x d : D} {b : Bool} (h : VB b p O S x d) : VT p O S x d := by
  unfold VB at h; split at h
  · exact h
  · exact h.vt
mutual
theorem VF.to (ho : ∀ a es, ¬ O a → a ≠ p → S a = some (.lst es) → ¬ O' a ∧ S' a = some (.lst es)) : ∀ {x d : D}, VF p O S x d → VF p O' S' x d
  | .non, _, h | .bl _, _, h | .int _, _, h | .str _, _, h | .ref _, _, h => by simpa only [VF] using h
  | .tup ds, d, h => by
    simp only [VF] at h ⊢
    obtain ⟨es, e, v⟩ := h
    exact ⟨es, e, VFs.to ho v⟩
  | .rol ds, d, h => by
    simp only [VF] at h ⊢
    obtain ⟨a, es, e, n, np, s, v⟩ := h
    obtain ⟨n', s'⟩ := ho a es n np s
    exact ⟨a, es, e, n', np, s', VFs.to ho v⟩
  | .obj c x, d, h => by
    simp only [VF] at h ⊢
    obtain ⟨e, q, v⟩ := h
    exact ⟨e, q, VF.to ho v⟩
theorem VFs.to (ho : ∀ a es, ¬ O a → a ≠ p → S a = some (.lst es) → ¬ O' a ∧ S' a = some (.lst es)) : ∀ {xs ds : List D}, VFs p O S xs ds → VFs p O' S' xs ds
  | [], _, h => by simpa only [VFs] using h
  | x :: xs, ds, h => by
    simp only [VFs] at h ⊢
    obtain ⟨e, r, q, v, w⟩ := h
    exact ⟨e, r, q, VF.to ho v, VFs.to ho w⟩
end
theorem VF.ext {x d : D} (h : VF p O S x d) (e : ExtB p S S') : VF p O S' x d := h.to fun a es n np s => ⟨n, e a _ np s⟩
theorem VFs.ext {x d : List D} (h : VFs p O S x d) (e : ExtB p S S') : VFs p O S' x d := h.to fun a es n np s => ⟨n, e a _ np s⟩
theorem VT.ext {x d : D} (h : VT p O S x d) (e : ExtB p S S') : VT p O S' x d := by
  cases x <;> try exact VF.ext h e
  obtain ⟨a, es, q, n, s, v⟩ := h
  exact ⟨a, es, q, n, e a _ n s, v.ext e⟩
theorem VB.ext {x d : D} {b : Bool} (h : VB b p O S x d) (e : ExtB p S S') : VB b p O S' x d := by
  unfold VB at h ⊢
  cases b
  · simp only [Bool.false_eq_true, if_false] at h ⊢; exact h.ext e
  · simp only [if_true] at h ⊢; exact h.ext e
theorem VF.own {x d : D} {a : Addr} (h : VF p O S x d) (f : S a = none) : VF p (fun b => O b ∨ b = a) S x d :=
  h.to fun b es n np s => ⟨fun z => z.elim n (fun e => by rw [e, f] at s; cases s), s⟩
theorem VFs.own {x d : List D} {a : Addr} (h : VFs p O S x d) (f : S a = none) : VFs p (fun b => O b ∨ b = a) S x d :=
  h.to fun b es n np s => ⟨fun z => z.elim n (fun e => by rw [e, f] at s; cases s), s⟩
theorem VF.less {x d : D} (h : VF p O S x d) (o : ∀ a, O' a → O a) : VF p O' S x d := h.to fun b es n np s => ⟨fun z => n (o b z), s⟩
theorem VFs.less {x d : List D} (h : VFs p O S x d) (o : ∀ a, O' a → O a) : VFs p O' S x d := h.to fun b es n np s => ⟨fun z => n (o b z), s⟩
theorem VT.less {x d : D} (h : VT p O S x d) (o : ∀ a, O' a → O a) : VT p O' S x d := by
  cases x <;> try exact VF.less h o
  obtain ⟨a, es, q, n, s, v⟩ := h
  exact ⟨a, es, q, n, s, v.less o⟩
theorem VT.own {x d : D} {a : Addr} (h : VT p O S x d) (f : S a = none) : VT p (fun b => O b ∨ b = a) S x d := by
  cases x <;> try exact VF.own h f
  obtain ⟨b, es, q, n, s, v⟩ := h
  exact ⟨b, es, q, n, s, v.own f⟩
theorem VF.write {x d : D} {a : Addr} {o : Ob} (h : VF p O S x d) (ha : O a) : VF p O (put S a o) x d :=
  h.to fun b es n np s => ⟨n, by rw [put_ne (fun e => n (by rw [e]; exact ha))]; exact s⟩
theorem VFs.write {x d : List D} {a : Addr} {o : Ob} (h : VFs p O S x d) (ha : O a) : VFs p O (put S a o) x d :=
  h.to fun b es n np s => ⟨n, by rw [put_ne (fun e => n (by rw [e]; exact ha))]; exact s⟩
theorem VFs.nil : VFs p O S [] [] := by simp only [VFs]
theorem VFs.cons {x d : D} {xs ds : List D} (a : VF p O S x d) (b : VFs p O S xs ds) : VFs p O S (x :: xs) (d :: ds) := by simp only [VFs]; exact ⟨d, ds, rfl, a, b⟩
theorem VFs.inv {x d : D} {xs ds : List D} (h : VFs p O S (x :: xs) (d :: ds)) : VF p O S x d ∧ VFs p O S xs ds := by
  simp only [VFs] at h
  obtain ⟨_, _, e, a, b⟩ := h
  cases e
  exact ⟨a, b⟩
theorem VFs.length : ∀ {xs ds : List D}, VFs p O S xs ds → xs.length = ds.length
  | [], _, h => by simp only [VFs] at h; rw [h]
  | x :: xs, ds, h => by
    simp only [VFs] at h
    obtain ⟨e, r, rfl, _, w⟩ := h
    rw [List.length_cons, List.length_cons, w.length]
theorem VFs.get : ∀ {xs ds : List D} {i : Nat} {x : D}, VFs p O S xs ds → xs[i]? = some x → ∃ d, ds[i]? = some d ∧ VF p O S x d
  | [], _, _, _, _, e => by simp at e
  | x :: xs, d :: ds, 0, _, h, e => by simp at e; subst e; exact ⟨d, rfl, h.inv.1⟩
  | x :: xs, d :: ds, i + 1, _, h, e => by
    simp at e
    obtain ⟨y, q, r⟩ := VFs.get h.inv.2 e
    exact ⟨y, by simpa using q, r⟩
  | x :: xs, [], _, _, h, _ => by simp only [VFs] at h; obtain ⟨_, _, e, _⟩ := h; cases e
theorem VFs.append : ∀ {xs ys ds es : List D}, VFs p O S xs ds → VFs p O S ys es → VFs p O S (xs ++ ys) (ds ++ es)
  | [], _, _, _, h, g => by simp only [VFs] at h; subst h; exact g
  | x :: xs, _, d :: ds, _, h, g => .cons h.inv.1 (h.inv.2.append g)
  | x :: xs, _, [], _, h, _ => by simp only [VFs] at h; obtain ⟨_, _, e, _⟩ := h; cases e
theorem VFs.take : ∀ {xs ds : List D} (n : Nat), VFs p O S xs ds → VFs p O S (xs.take n) (ds.take n)
  | _, _, 0, _ => by simp only [List.take_zero]; exact .nil
  | [], _, n + 1, h => by simp only [VFs] at h; subst h; exact .nil
  | x :: xs, d :: ds, n + 1, h => .cons h.inv.1 (h.inv.2.take n)
  | x :: xs, [], _, h => by simp only [VFs] at h; obtain ⟨_, _, e, _⟩ := h; cases e
theorem VFs.drop : ∀ {xs ds : List D} (n : Nat), VFs p O S xs ds → VFs p O S (xs.drop n) (ds.drop n)
  | _, _, 0, h => h
  | [], _, n + 1, h => by simp only [VFs] at h; subst h; exact .nil
  | x :: xs, d :: ds, n + 1, h => h.inv.2.drop n
  | x :: xs, [], _, h => by simp only [VFs] at h; obtain ⟨_, _, e, _⟩ := h; cases e
theorem VFs.set : ∀ {xs ds : List D} {x d : D} (n : Nat), VFs p O S xs ds → VF p O S x d → VFs p O S (xs.set n x) (ds.set n d)
  | [], _, _, _, _, h, _ => by simp only [VFs] at h; subst h; exact .nil
  | x :: xs, d :: ds, _, _, 0, h, r => .cons r h.inv.2
  | x :: xs, d :: ds, _, _, n + 1, h, r => .cons h.inv.1 (h.inv.2.set n r)
  | x :: xs, [], _, _, _, h, _ => by simp only [VFs] at h; obtain ⟨_, _, e, _⟩ := h; cases e
theorem VFs.rep {xs ds : List D} (h : VFs p O S xs ds) : ∀ n : Nat, VFs p O S (List.replicate n xs).flatten (List.replicate n ds).flatten
  | 0 => .nil
  | n + 1 => by rw [List.replicate_succ, List.replicate_succ, List.flatten_cons, List.flatten_cons]; exact h.append (h.rep n)
theorem VFs.reverse : ∀ {xs ds : List D}, VFs p O S xs ds → VFs p O S xs.reverse ds.reverse
  | [], _, h => by simp only [VFs] at h; subst h; exact .nil
  | x :: xs, d :: ds, h => by rw [List.reverse_cons, List.reverse_cons]; exact h.inv.2.reverse.append (.cons h.inv.1 .nil)
  | x :: xs, [], h => by simp only [VFs] at h; obtain ⟨_, _, e, _⟩ := h; cases e
theorem VFs.cut {xs ds : List D} (h : VFs p O S xs ds) (lo hi : Option Int) : VFs p O S (cutD xs lo hi) (cutD ds lo hi) := by
  unfold cutD
  rw [h.length]
  exact (h.drop _).take _
theorem VFs.at {xs ds : List D} {i : Int} {x : D} (h : VFs p O S xs ds) (e : atI xs i = some x) : ∃ d, atI ds i = some d ∧ VF p O S x d := by
  unfold atI at e ⊢
  rw [← h.length]
  cases k : ixN xs.length i with
  | none => rw [k] at e; cases e
  | some n => rw [k] at e; exact h.get e
theorem VFs.strs : ∀ {xs ds : List D} {ws : List (List Nat)}, VFs p O S xs ds → strsF xs = some ws → strsF ds = some ws
  | [], _, _, h, e => by simp only [VFs] at h; subst h; exact e
  | x :: xs, [], _, h, _ => by simp only [VFs] at h; obtain ⟨_, _, e, _⟩ := h; cases e
  | x :: xs, d :: ds, ws, h, e => by
    obtain ⟨h1, h2⟩ := h.inv
    cases x <;> try (simp [strsF] at e; done)
    simp only [VF] at h1
    subst h1
    simp only [strsF] at e ⊢
    cases z : strsF xs with
    | none => rw [z] at e; cases e
    | some zs => rw [z] at e; rw [h2.strs z]; exact e
theorem VFs.ints : ∀ {xs ds : List D} {ws : List Int}, VFs p O S xs ds → intsF xs = some ws → intsF ds = some ws
  | [], _, _, h, e => by simp only [VFs] at h; subst h; exact e
  | x :: xs, [], _, h, _ => by simp only [VFs] at h; obtain ⟨_, _, e, _⟩ := h; cases e
  | x :: xs, d :: ds, ws, h, e => by
    obtain ⟨h1, h2⟩ := h.inv
    cases x <;> try (simp [intsF] at e; done)
    simp only [VF] at h1
    subst h1
    simp only [intsF] at e ⊢
    cases z : intsF xs with
    | none => rw [z] at e; cases e
    | some zs => rw [z] at e; rw [h2.ints z]; exact e
theorem VFs.trus : ∀ {xs ds : List D} {ws : List Bool}, VFs p O S xs ds → trusF xs = some ws → trusF ds = some ws
  | [], _, _, h, e => by simp only [VFs] at h; subst h; exact e
  | x :: xs, [], _, h, _ => by simp only [VFs] at h; obtain ⟨_, _, e, _⟩ := h; cases e
  | x :: xs, d :: ds, ws, h, e => by
    obtain ⟨h1, h2⟩ := h.inv
    cases x <;> try (simp [trusF, truF] at e; done)
    all_goals
      simp only [VF] at h1
      subst h1
      simp only [trusF, truF] at e ⊢
      cases z : trusF xs with
      | none => rw [z] at e; cases e
      | some zs => rw [z] at e; rw [h2.trus z]; exact e
mutual
def pureD : D → Bool
  | .rol _ | .ref _ => false
  | .tup ds => puresD ds
  | .obj _ d => pureD d
  | _ => true
def puresD : List D → Bool
  | [] => true
  | d :: ds => pureD d && puresD ds
end
mutual
theorem VF.eq : ∀ {x d : D}, pureD x = true → VF p O S x d → d = x
  | .non, _, _, h | .bl _, _, _, h | .int _, _, _, h | .str _, _, _, h => by simpa only [VF] using h
  | .rol _, _, h, _ | .ref _, _, h, _ => by simp [pureD] at h
  | .tup ds, d, hp, h => by
    simp only [VF] at h
    obtain ⟨es, rfl, v⟩ := h
    simp only [pureD] at hp
    rw [VFs.eq hp v]
  | .obj c x, d, hp, h => by
    simp only [VF] at h
    obtain ⟨e, rfl, v⟩ := h
    simp only [pureD] at hp
    rw [VF.eq hp v]
theorem VFs.eq : ∀ {xs ds : List D}, puresD xs = true → VFs p O S xs ds → ds = xs
  | [], _, _, h => by simpa only [VFs] using h
  | x :: xs, ds, hp, h => by
    simp only [VFs] at h
    obtain ⟨e, r, rfl, v, w⟩ := h
    simp only [puresD, Bool.and_eq_true] at hp
    rw [VF.eq hp.1 v, VFs.eq hp.2 w]
end
mutual
theorem VF.pure : ∀ {x : D}, pureD x = true → VF p O S x x
  | .non, _ | .bl _, _ | .int _, _ | .str _, _ => by simp only [VF]
  | .rol _, h | .ref _, h => by simp [pureD] at h
  | .tup ds, hp => by
    simp only [pureD] at hp
    simp only [VF]
    exact ⟨ds, rfl, VFs.pure hp⟩
  | .obj c x, hp => by
    simp only [pureD] at hp
    simp only [VF]
    exact ⟨x, rfl, VF.pure hp⟩
theorem VFs.pure : ∀ {xs : List D}, puresD xs = true → VFs p O S xs xs
  | [], _ => .nil
  | x :: xs, hp => by
    simp only [puresD, Bool.and_eq_true] at hp
    exact .cons (VF.pure hp.1) (VFs.pure hp.2)
end
end
end G57
set_option Elab.async false
set_option linter.all false
set_option maxRecDepth 100000
set_option maxHeartbeats 400000
namespace G57
open PySem L2
abbrev RK := D → Prop
def addV : D → D → RK → Prop
  | .int i, .int j, R => R (.int (i + j))
  | .str x, .str y, R => x.length + y.length ≤ 16777216 ∧ R (.str (x ++ y))
  | .tup x, .tup y, R => x.length + y.length ≤ 16777216 ∧ R (.tup (x ++ y))
  | .rol x, .rol y, R => x.length + y.length ≤ 16777216 ∧ R (.rol (x ++ y))
  | _, _, _ => False
def subV : D → D → RK → Prop
  | .int i, .int j, R => R (.int (i - j))
  | _, _, _ => False
def mulV : D → D → RK → Prop
  | .int i, .int j, R => CMulW i j ∧ R (.int (i * j))
  | .str x, .int j, R => j < 2 ^ 40 ∧ -(2 ^ 40) < j ∧ x.length * j.toNat ≤ 16777216 ∧ R (.str (List.replicate j.toNat x).flatten)
  | .tup x, .int j, R => j ≤ 1000 ∧ -1000 ≤ j ∧ x.length ≤ 1000 ∧ R (.tup (List.replicate j.toNat x).flatten)
  | .rol x, .int j, R => j < 2 ^ 40 ∧ -(2 ^ 40) < j ∧ x.length * j.toNat ≤ 16777216 ∧ R (.rol (List.replicate j.toNat x).flatten)
  | _, _, _ => False
def fdivV : D → D → RK → Prop
  | .int i, .int j, R => 0 < j ∧ j < 2 ^ 8000 ∧ R (.int (i / j))
  | _, _, _ => False
def modV : D → D → RK → Prop
  | .int i, .int j, R => 0 < j ∧ R (.int (i % j))
  | _, _, _ => False
def powV : D → D → RK → Prop
  | .int i, .int j, R => CPow i j ∧ R (.int (i ^ j.toNat))
  | _, _, _ => False
def opV : Operator → D → D → RK → Prop
  | .Add => addV | .Sub => subV | .Mult => mulV | .FloorDiv => fdivV | .Mod => modV | .Pow => powV
  | _ => fun _ _ _ => False
def negV : D → RK → Prop
  | .int i, R => R (.int (-i))
  | _, _ => False
def truthV : D → (Bool → Prop) → Prop
  | .str x, R => x.length ≤ 16777216 ∧ R (!x.isEmpty)
  | .non, R => R false
  | .bl b, R => R b
  | .int i, R => R (i != 0)
  | .tup ds, R => R (!ds.isEmpty)
  | .rol ds, R => R (!ds.isEmpty)
  | .ref _, _ => False
  | .obj _ _, _ => False
def okV (d : D) : Bool := okD 41 d
def okW (d : D) : Bool := okD 41 d
def shV (d : D) : Bool := shD d
def eqV' (neg : Bool) : D → D → RK → Prop
  | .int i, .int j, R => R (.bl (neg ^^ decide (i = j)))
  | .str x, .str y, R => R (.bl (neg ^^ decide (x = y)))
  | .bl x, .bl y, R => R (.bl (neg ^^ decide (x = y)))
  | a, b, R => okV a = true ∧ okV b = true ∧ R (.bl (neg ^^ PyData.eqv (py a) (py b)))
def ordV (f : Int → Int → Bool) (h : List Nat → List Nat → Bool) : D → D → RK → Prop
  | .int i, .int j, R => R (.bl (f i j))
  | .str x, .str y, R => R (.bl (h x y))
  | _, _, _ => False
def isV (neg : Bool) : D → D → RK → Prop
  | a, .non, R => R (.bl (neg ^^ isNon a))
  | .bl a, .bl b, R => R (.bl (neg ^^ decide (a = b)))
  | .non, .bl _, R => R (.bl neg)
  | _, _, _ => False
def inV' (neg : Bool) : D → D → RK → Prop
  | .str [c], .str y, R => R (.bl (neg ^^ decide (c ∈ y)))
  | .str z, .str y, R => ∀ t : Bool, (t = true ↔ ∃ i, AtL y z i) → R (.bl (neg ^^ t))
  | .tup as, .rol ds, R => okV (.tup as) = true ∧ ds.all okV = true ∧ R (.bl (neg ^^ ds.any fun z => PyData.eqv (py z) (py (.tup as))))
  | a, .tup ds, R => flatD a = true ∧ ds.all flatD = true ∧ R (.bl (neg ^^ ds.any fun z => eqF z a))
  | a, .rol ds, R => flatD a = true ∧ ds.all flatD = true ∧ R (.bl (neg ^^ ds.any fun z => eqF z a))
  | _, _, _ => False
def cmpV : CmpOp → D → D → RK → Prop
  | .Eq => eqV' false
  | .NotEq => eqV' true
  | .Lt => ordV (fun i j => decide (i < j)) (fun x y => decide (x < y))
  | .LtE => ordV (fun i j => decide (i ≤ j)) (fun x y => decide (x ≤ y))
  | .Gt => ordV (fun i j => decide (j < i)) (fun x y => decide (y < x))
  | .GtE => ordV (fun i j => decide (j ≤ i)) (fun x y => decide (y ≤ x))
  | .Is => isV false
  | .IsNot => isV true
  | .In => inV' false
  | .NotIn => inV' true
def seqV : D → Option (List D)
  | .tup ds | .rol ds => some ds
  | _ => none
def kindV : D → Option String
  | .non => some "NoneType"
  | .bl _ => some "bool"
  | .int _ => some "int"
  | .str _ => some "str"
  | .tup _ => some "tuple"
  | .rol _ => some "list"
  | .ref _ => none
  | .obj _ _ => none
def biLenV : List D → RK → Prop
  | [.str x], R => x.length ≤ 16777216 ∧ R (.int x.length)
  | [.tup x], R => R (.int x.length)
  | [.rol x], R => R (.int x.length)
  | _, _ => False
def biSumV : List D → RK → Prop
  | [.tup ds], R => ∃ is, intsF ds = some is ∧ R (.int is.sum)
  | [.rol ds], R => ∃ is, intsF ds = some is ∧ R (.int is.sum)
  | _, _ => False
def biAnyV : List D → RK → Prop
  | [.tup ds], R => ∃ bs, trusF ds = some bs ∧ R (.bl (bs.any id))
  | [.rol ds], R => ∃ bs, trusF ds = some bs ∧ R (.bl (bs.any id))
  | _, _ => False
def biAllV : List D → RK → Prop
  | [.tup ds], R => ∃ bs, trusF ds = some bs ∧ R (.bl (bs.all id))
  | [.rol ds], R => ∃ bs, trusF ds = some bs ∧ R (.bl (bs.all id))
  | _, _ => False
def biAbsV : List D → RK → Prop
  | [.int i], R => R (.int i.natAbs)
  | _, _ => False
def biMinV : List D → RK → Prop
  | [.int i, .int j], R => R (.int (min i j))
  | [.rol ds], R => ∃ is, intsF ds = some is ∧ is ≠ [] ∧ ∀ m, m ∈ is → (∀ y ∈ is, m ≤ y) → R (.int m)
  | _, _ => False
def biMaxV : List D → RK → Prop
  | [.int i, .int j], R => R (.int (max i j))
  | [.rol ds], R => ∃ is, intsF ds = some is ∧ is ≠ [] ∧ ∀ m, m ∈ is → (∀ y ∈ is, y ≤ m) → R (.int m)
  | _, _ => False
def biIntV : List D → RK → Prop
  | [.int i], R => R (.int i)
  | [.bl b], R => R (.int (if b then 1 else 0))
  | [.str x], R => ∃ n, PySem.intText? ⟨x.toArray⟩ = some n ∧ x.length ≤ 640 ∧ R (.int n)
  | _, _ => False
def biStrV : List D → RK → Prop
  | [.int i], R => i.natAbs < 2 ^ 1900 ∧ R (.str (itxt i))
  | [.bl b], R => R (.str (if b = true then [84, 114, 117, 101] else [70, 97, 108, 115, 101]))
  | _, _ => False
def biTupleV : List D → RK → Prop
  | [.tup ds], R => R (.tup ds)
  | [.rol ds], R => R (.tup ds)
  | _, _ => False
def biListV : List D → RK → Prop
  | [.tup ds], R => R (.rol ds)
  | [.rol ds], R => R (.rol ds)
  | _, _ => False
def biReprV : List D → RK → Prop
  | [d], R => okW d = true ∧ shV d = true ∧ (py d).shown.length ≤ 16777216 ∧ R (.str (rtxt (py d)))
  | _, _ => False
def biIsiV (T : String) : List D → RK → Prop
  | [d], R => ∃ k, kindV d = some k ∧ R (.bl (isK k T))
  | _, _ => False
def biRevV : List D → RK → Prop
  | [.str x], R => x.length ≤ 16777216 ∧ R (.str x.reverse)
  | [.tup ds], R => R (.tup ds.reverse)
  | [.rol ds], R => R (.rol ds.reverse)
  | _, _ => False
def biSortedV : List D → RK → Prop
  | [.rol ds], R => (∃ is, intsF ds = some is ∧ ∀ js : List Int, js.Perm is → js.Pairwise (· ≤ ·) → R (.rol (js.map .int))) ∨
      ∃ xs, strsF ds = some xs ∧ xs.length < 64 ∧ ∀ ys : List (List Nat), ys.Perm xs → PyProof.Rows.sortedS (ys.map fun y => ⟨y.toArray⟩) = true → R (.rol (ys.map .str))
  | _, _ => False
def biTrangeV : List D → RK → Prop
  | [.int n], R => 0 ≤ n ∧ n ≤ 16777216 ∧ R (.tup (rngD 0 n))
  | _, _ => False
def biLrangeV : List D → RK → Prop
  | [.int n], R => 0 ≤ n ∧ n ≤ 16777216 ∧ R (.rol (rngD 0 n))
  | _, _ => False
def biSsortV : List D → RK → Prop
  | [.rol ds], R => ∃ is, intsF ds = some is ∧ is.length < 60 ∧ ∀ js : List Int, js.Pairwise (· < ·) → (∀ k, k ∈ js ↔ k ∈ is) → R (.rol (js.map .int))
  | _, _ => False
def biMaxdV : List D → RK → Prop
  | [.rol ds, .int c], R => ∃ is, intsF ds = some is ∧ (is = [] → R (.int c)) ∧ (is ≠ [] → ∀ m, m ∈ is → (∀ y ∈ is, y ≤ m) → R (.int m))
  | _, _ => False
def biV : Bi → List D → RK → Prop
  | .len => biLenV
  | .sum => biSumV
  | .any => biAnyV
  | .all => biAllV
  | .abs => biAbsV
  | .min => biMinV
  | .max => biMaxV
  | .int => biIntV
  | .str => biStrV
  | .tuple => biTupleV
  | .list => biListV
  | .repr => biReprV
  | .isi T => biIsiV T
  | .rev => biRevV
  | .sorted => biSortedV
  | .trange => biTrangeV
  | .lrange => biLrangeV
  | .ssort => biSsortV
  | .maxd => biMaxdV
def mtV : Mt → D → List D → RK → Prop
  | .join, .str a, [.tup ds], R => ∃ xs, strsF ds = some xs ∧ lenL xs + xs.length * a.length ≤ 16777216 ∧ R (.str (joinL a xs))
  | .join, .str a, [.rol ds], R => ∃ xs, strsF ds = some xs ∧ lenL xs + xs.length * a.length ≤ 16777216 ∧ R (.str (joinL a xs))
  | .count, .str a, [.str [c]], R => R (.int (a.count c))
  | .find, .str a, [.str b], R => ∀ r, FindS a b 0 r → R (.int r)
  | .find, .str a, [.str b, .int i], R => 0 ≤ i ∧ ∀ r, FindS a b i.toNat r → R (.int r)
  | .endswith, .str a, [.str b], R => ∀ t : Bool, (t = true ↔ b <:+ a) → R (.bl t)
  | .startswith, .str a, [.str b], R => ∀ t : Bool, (t = true ↔ b <+: a) → R (.bl t)
  | .index, .rol ds, [d], R => kndD d ≠ 0 ∧ (∀ e ∈ ds, kndD e = kndD d) ∧ ∃ j : Nat, ds[j]? = some d ∧ (∀ m, m < j → ds[m]? ≠ some d) ∧ R (.int j)
  | _, _, _, _ => False
def idxV : D → D → RK → Prop
  | .tup ds, .int i, R => ∃ d, atI ds i = some d ∧ R d
  | .rol ds, .int i, R => ∃ d, atI ds i = some d ∧ R d
  | .str x, .int i, R => x.length ≤ 16777216 ∧ ∃ c, atI x i = some c ∧ R (.str [c])
  | _, _, _ => False
def slV : D → Option Int → Option Int → RK → Prop
  | .tup ds, lo, hi, R => R (.tup (cutD ds lo hi))
  | .rol ds, lo, hi, R => R (.rol (cutD ds lo hi))
  | .str x, lo, hi, R => x.length ≤ 16777216 ∧ R (.str (cutD x lo hi))
  | _, _, _, _ => False
def itV : D → Option (List D)
  | .tup ds | .rol ds => some ds
  | .str x => some (x.map fun c => .str [c])
  | _ => none
def rng1V : D → (List D → Prop) → Prop
  | .int n, R => smallI n ∧ R (rngD 0 n)
  | _, _ => False
def rng2V : D → D → (List D → Prop) → Prop
  | .int m, .int n, R => smallI m ∧ smallI n ∧ R (rngD m n)
  | _, _, _ => False
def rng3V : D → D → D → (List D → Prop) → Prop
  | .int m, .int n, .int c, R => c = -1 ∧ smallJ m ∧ smallJ n ∧ R (rngdD m n)
  | _, _, _, _ => False
structure OkO (p q : Addr) (O : Own) (S : Sto) (g : Nat) : Prop where
  dk : Deck S p q g
  dom : ∀ a, O a → S a ≠ none
  np : ¬ O p
  nq : ¬ O q
section
variable {p q : Addr} {O : Own} {S S' : Sto} {g : Nat} {Q : DK} {R : RK} {x y x1 y1 : D}
theorem OkO.fresh (h : OkO p q O S g) {r : Addr} (f : S r = none) : p ≠ r ∧ q ≠ r ∧ ¬ O r :=
  ⟨(h.dk.fresh f).1, (h.dk.fresh f).2, fun z => h.dom r z f⟩
theorem OkO.ext (h : OkO p q O S g) {g' : Nat} (e : ExtB p S S') (d : Deck S' p q g') : OkO p q O S' g' :=
  ⟨d, (fun a ha z => by
    cases s : S a with
    | none => exact h.dom a ha s
    | some o => rw [e a o (fun w => h.np (by rw [← w]; exact ha)) s] at z; cases z), h.np, h.nq⟩
def Post (p q : Addr) (O : Own) (S : Sto) (g : Nat) (R : RK) (Q : DK) : Prop := ∀ d2 d1 S', R d2 → ExtB p S S' → Deck S' p q g → VF p O S' d2 d1 → Q d1 S'
theorem Post.now (h : Post p q O S g R Q) (k : OkO p q O S g) {d2 d1 : D} (r : R d2) (v : VF p O S d2 d1) : Q d1 S := h d2 d1 S r ExtB.refl k.dk v
theorem newL (k : OkO p q O S g) {ds es : List D} (v : VFs p O S ds es) {r : Addr} (f : S r = none) : ExtB p S (put S r (.lst es)) ∧ Deck (put S r (.lst es)) p q g ∧ VF p O (put S r (.lst es)) (.rol ds) (.ref r) := by
  obtain ⟨n1, n2, n3⟩ := k.fresh f
  refine ⟨(Ext.put f).but, k.dk.put n1 n2, ?_⟩
  simp only [VF]
  exact ⟨r, es, rfl, n3, fun e => n1 e.symm, put_same, v.ext (Ext.put f).but⟩
theorem Post.new (h : Post p q O S g R Q) (k : OkO p q O S g) {ds es : List D} (r : R (.rol ds)) (v : VFs p O S ds es) (a : Addr) (f : S a = none) : Q (.ref a) (put S a (.lst es)) := by
  obtain ⟨e1, e2, e3⟩ := newL k v f
  exact h _ _ _ r e1 e2 e3
theorem VT.tup_inv {ds : List D} (h : VT p O S (.tup ds) x1) : ∃ es, x1 = .tup es ∧ VFs p O S ds es := by
  have z : VF p O S (.tup ds) x1 := h
  simpa only [VF] using z
theorem VT.rol_inv {ds : List D} (h : VT p O S (.rol ds) x1) : ∃ a es, x1 = .ref a ∧ a ≠ p ∧ S a = some (.lst es) ∧ VFs p O S ds es := h
theorem VT.int_inv {i : Int} (h : VT p O S (.int i) x1) : x1 = .int i := by have z : VF p O S (.int i) x1 := h; simpa only [VF] using z
theorem VT.str_inv {i : List Nat} (h : VT p O S (.str i) x1) : x1 = .str i := by have z : VF p O S (.str i) x1 := h; simpa only [VF] using z
theorem VT.bl_inv {i : Bool} (h : VT p O S (.bl i) x1) : x1 = .bl i := by have z : VF p O S (.bl i) x1 := h; simpa only [VF] using z
theorem VT.non_inv (h : VT p O S .non x1) : x1 = .non := by have z : VF p O S .non x1 := h; simpa only [VF] using z
theorem VT.ref_inv {a : Addr} (h : VT p O S (.ref a) x1) : x1 = .ref p := by have z : VF p O S (.ref a) x1 := h; simpa only [VF] using z
theorem VT.obj_inv {c : Nat} {d : D} (h : VT p O S (.obj c d) x1) : ∃ e, x1 = .obj c e ∧ VF p O S d e := by have z : VF p O S (.obj c d) x1 := h; simpa only [VF] using z
theorem VF.obj {c : Nat} {d e : D} (h : VF p O S d e) : VF p O S (.obj c d) (.obj c e) := by simp only [VF]; exact ⟨e, rfl, h⟩
theorem VF.tup {ds es : List D} (h : VFs p O S ds es) : VF p O S (.tup ds) (.tup es) := by simp only [VF]; exact ⟨es, rfl, h⟩
theorem VF.i {i : Int} : VF p O S (.int i) (.int i) := by simp only [VF]
theorem VF.s {i : List Nat} : VF p O S (.str i) (.str i) := by simp only [VF]
theorem VF.b {i : Bool} : VF p O S (.bl i) (.bl i) := by simp only [VF]
theorem VF.n : VF p O S .non .non := by simp only [VF]
theorem addV_ok (k : OkO p q O S g) (hx : VT p O S x x1) (hy : VT p O S y y1) (h : addV x y R) (P : Post p q O S g R Q) : addD x1 y1 S Q := by
  cases x <;> cases y <;> try exact h.elim
  · cases hx.int_inv; cases hy.int_inv; exact P.now k h .i
  · cases hx.str_inv; cases hy.str_inv; exact ⟨h.1, P.now k h.2 .s⟩
  · obtain ⟨es, rfl, v⟩ := hx.tup_inv
    obtain ⟨fs, rfl, w⟩ := hy.tup_inv
    exact ⟨by rw [← v.length, ← w.length]; exact h.1, P.now k h.2 (.tup (v.append w))⟩
  · obtain ⟨a, es, rfl, _, s, v⟩ := hx.rol_inv
    obtain ⟨b, fs, rfl, _, t, w⟩ := hy.rol_inv
    exact ⟨es, fs, s, t, by rw [← v.length, ← w.length]; exact h.1, fun r f => P.new k h.2 (v.append w) r f⟩
theorem mulV_ok (k : OkO p q O S g) (hx : VT p O S x x1) (hy : VT p O S y y1) (h : mulV x y R) (P : Post p q O S g R Q) : mulD x1 y1 S Q := by
  cases x <;> cases y <;> try exact h.elim
  · cases hx.int_inv; cases hy.int_inv; exact ⟨h.1, P.now k h.2 .i⟩
  · cases hx.str_inv; cases hy.int_inv; exact ⟨h.1, h.2.1, h.2.2.1, P.now k h.2.2.2 .s⟩
  · obtain ⟨es, rfl, v⟩ := hx.tup_inv
    cases hy.int_inv
    exact ⟨h.1, h.2.1, by rw [← v.length]; exact h.2.2.1, P.now k h.2.2.2 (.tup (v.rep _))⟩
  · obtain ⟨a, es, rfl, _, s, v⟩ := hx.rol_inv
    cases hy.int_inv
    exact ⟨es, s, h.1, h.2.1, by rw [← v.length]; exact h.2.2.1, fun r f => P.new k h.2.2.2 (v.rep _) r f⟩
theorem opV_ok (op : Operator) (k : OkO p q O S g) (hx : VT p O S x x1) (hy : VT p O S y y1) (h : opV op x y R) (P : Post p q O S g R Q) : opD op x1 y1 S Q := by
  cases op <;> try exact h.elim
  case Add => exact addV_ok k hx hy h P
  case Mult => exact mulV_ok k hx hy h P
  case Sub => cases x <;> cases y <;> first | exact h.elim | (cases hx.int_inv; cases hy.int_inv; exact P.now k h .i)
  case FloorDiv => cases x <;> cases y <;> first | exact h.elim | (cases hx.int_inv; cases hy.int_inv; exact ⟨h.1, h.2.1, P.now k h.2.2 .i⟩)
  case Mod => cases x <;> cases y <;> first | exact h.elim | (cases hx.int_inv; cases hy.int_inv; exact ⟨h.1, P.now k h.2 .i⟩)
  case Pow => cases x <;> cases y <;> first | exact h.elim | (cases hx.int_inv; cases hy.int_inv; exact ⟨h.1, P.now k h.2 .i⟩)
theorem negV_ok (k : OkO p q O S g) (hx : VT p O S x x1) (h : negV x R) (P : Post p q O S g R Q) : negD x1 S Q := by
  cases x <;> first | exact h.elim | (cases hx.int_inv; exact P.now k h .i)
theorem truthV_ok {B : Bool → Prop} (hx : VT p O S x x1) (h : truthV x B) : truthD x1 S B := by
  cases x with
  | non => cases hx.non_inv; exact ⟨_, rfl, h⟩
  | bl b => cases hx.bl_inv; exact ⟨_, rfl, h⟩
  | int b => cases hx.int_inv; exact ⟨_, rfl, h⟩
  | str b => cases hx.str_inv; exact h
  | tup ds =>
    obtain ⟨es, rfl, v⟩ := hx.tup_inv
    have l := v.length
    refine ⟨_, rfl, ?_⟩
    cases ds <;> cases es <;> first | exact h | simp at l
  | rol ds =>
    obtain ⟨a, es, rfl, _, s, v⟩ := hx.rol_inv
    have l := v.length
    refine ⟨!es.isEmpty, by simp only [truD, s], ?_⟩
    cases ds <;> cases es <;> first | exact h | simp at l
  | ref a => exact h.elim
  | obj c d => exact h.elim
mutual
theorem VF.dn : ∀ {x x1 : D} {n k : Nat}, VF p O S x x1 → okD n x = true → n ≤ k → G57.dn S k x1 = x
  | .non, _, _, k, v, _, _ | .bl _, _, _, k, v, _, _ | .int _, _, _, k, v, _, _ | .str _, _, _, k, v, _, _ => by simp only [VF] at v; subst v; cases k <;> rfl
  | .ref _, _, n, _, _, h, _ | .obj _ _, _, n, _, _, h, _ => by cases n <;> simp [okD] at h
  | .tup ds, _, 0, _, _, h, _ | .rol ds, _, 0, _, _, h, _ => by simp [okD] at h
  | .tup ds, _, n + 1, 0, _, _, l | .rol ds, _, n + 1, 0, _, _, l => absurd l (by omega)
  | .tup ds, _, n + 1, k + 1, v, h, l => by
    simp only [VF] at v
    obtain ⟨es, rfl, w⟩ := v
    simp only [okD] at h
    simp only [G57.dn, VFs.dn w h (Nat.le_of_succ_le_succ l)]
  | .rol ds, _, n + 1, k + 1, v, h, l => by
    simp only [VF] at v
    obtain ⟨a, es, rfl, _, _, s, w⟩ := v
    simp only [okD] at h
    simp only [G57.dn, s, VFs.dn w h (Nat.le_of_succ_le_succ l)]
theorem VFs.dn : ∀ {xs es : List D} {n k : Nat}, VFs p O S xs es → oksD n xs = true → n ≤ k → es.map (G57.dn S k) = xs
  | [], _, _, _, v, _, _ => by simp only [VFs] at v; subst v; rfl
  | x :: xs, _, n, k, v, h, l => by
    simp only [VFs] at v
    obtain ⟨e, r, rfl, v1, v2⟩ := v
    simp only [oksD, Bool.and_eq_true] at h
    rw [List.map_cons, VF.dn v1 h.1 l, VFs.dn v2 h.2 l]
end
theorem okV_ok (hx : VT p O S x x1) (h : okV x = true) : okS S x1 = true ∧ pyS S x1 = py x ∧ shS S x1 = shV x := by
  have e : G57.dn S 41 x1 = x := by
    cases x with
    | rol ds =>
      obtain ⟨a, es, rfl, _, s, v⟩ := hx.rol_inv
      have h : oksD 40 ds = true := by simpa only [okV, okD] using h
      simp only [G57.dn, s, VFs.dn v h (Nat.le_refl _)]
    | _ => exact VF.dn (p := p) (O := O) (n := 41) (show VF p O S _ x1 from hx) h (Nat.le_refl _)
  exact ⟨by rw [okS, e]; exact h, by rw [pyS, e], by rw [shS, e]; rfl⟩
theorem eqV_ok (neg : Bool) (k : OkO p q O S g) (hx : VT p O S x x1) (hy : VT p O S y y1) (h : eqV' neg x y R) (P : Post p q O S g R Q) : eqD neg x1 y1 S Q := by
  have gen : okV x = true ∧ okV y = true ∧ R (.bl (neg ^^ PyData.eqv (py x) (py y))) → okS S x1 = true ∧ okS S y1 = true ∧ Q (.bl (neg ^^ PyData.eqv (pyS S x1) (pyS S y1))) S := fun ⟨a, b, r⟩ => by
    obtain ⟨a1, a2, _⟩ := okV_ok hx a
    obtain ⟨b1, b2, _⟩ := okV_ok hy b
    exact ⟨a1, b1, by rw [a2, b2]; exact P.now k r .b⟩
  cases x with
  | int i =>
    cases hx.int_inv
    cases y with
    | int j => cases hy.int_inv; exact P.now k h .b
    | non => cases hy.non_inv; exact gen h
    | bl j => cases hy.bl_inv; exact gen h
    | str j => cases hy.str_inv; exact gen h
    | tup j => obtain ⟨es, rfl, _⟩ := hy.tup_inv; exact gen h
    | rol j => obtain ⟨a, es, rfl, _⟩ := hy.rol_inv; exact gen h
    | ref a => cases hy.ref_inv; exact gen h
    | obj c d => obtain ⟨e, rfl, _⟩ := hy.obj_inv; exact gen h
  | str i =>
    cases hx.str_inv
    cases y with
    | str j => cases hy.str_inv; exact P.now k h .b
    | non => cases hy.non_inv; exact gen h
    | bl j => cases hy.bl_inv; exact gen h
    | int j => cases hy.int_inv; exact gen h
    | tup j => obtain ⟨es, rfl, _⟩ := hy.tup_inv; exact gen h
    | rol j => obtain ⟨a, es, rfl, _⟩ := hy.rol_inv; exact gen h
    | ref a => cases hy.ref_inv; exact gen h
    | obj c d => obtain ⟨e, rfl, _⟩ := hy.obj_inv; exact gen h
  | bl i =>
    cases hx.bl_inv
    cases y with
    | bl j => cases hy.bl_inv; exact P.now k h .b
    | non => cases hy.non_inv; exact gen h
    | str j => cases hy.str_inv; exact gen h
    | int j => cases hy.int_inv; exact gen h
    | tup j => obtain ⟨es, rfl, _⟩ := hy.tup_inv; exact gen h
    | rol j => obtain ⟨a, es, rfl, _⟩ := hy.rol_inv; exact gen h
    | ref a => cases hy.ref_inv; exact gen h
    | obj c d => obtain ⟨e, rfl, _⟩ := hy.obj_inv; exact gen h
  | non => cases hx.non_inv; cases y1 <;> exact gen h
  | tup i => obtain ⟨es, rfl, _⟩ := hx.tup_inv; cases y1 <;> exact gen h
  | rol i => obtain ⟨a, es, rfl, _⟩ := hx.rol_inv; cases y1 <;> exact gen h
  | ref a => cases hx.ref_inv; cases y1 <;> exact gen h
  | obj c d => obtain ⟨e, rfl, _⟩ := hx.obj_inv; cases y1 <;> exact gen h
theorem ordV_ok {f : Int → Int → Bool} {hh : List Nat → List Nat → Bool} (k : OkO p q O S g) (hx : VT p O S x x1) (hy : VT p O S y y1) (h : ordV f hh x y R) (P : Post p q O S g R Q) : ordD f hh x1 y1 S Q := by
  cases x <;> cases y <;> try exact h.elim
  · cases hx.int_inv; cases hy.int_inv; exact P.now k h .b
  · cases hx.str_inv; cases hy.str_inv; exact P.now k h .b
theorem isNon_ok (hx : VT p O S x x1) : isNon x1 = isNon x := by
  cases x with
  | non => cases hx.non_inv; rfl
  | bl j => cases hx.bl_inv; rfl
  | str j => cases hx.str_inv; rfl
  | int j => cases hx.int_inv; rfl
  | tup j => obtain ⟨es, rfl, _⟩ := hx.tup_inv; rfl
  | rol j => obtain ⟨a, es, rfl, _⟩ := hx.rol_inv; rfl
  | ref a => cases hx.ref_inv; rfl
  | obj c d => obtain ⟨e, rfl, _⟩ := hx.obj_inv; rfl
theorem isV_ok (neg : Bool) (k : OkO p q O S g) (hx : VT p O S x x1) (hy : VT p O S y y1) (h : isV neg x y R) (P : Post p q O S g R Q) : isD neg x1 y1 S Q := by
  cases y with
  | non =>
    cases hy.non_inv
    rw [isD_n, isNon_ok hx]
    have e : isV neg x .non R = R (.bl (neg ^^ isNon x)) := by cases x <;> rfl
    rw [e] at h
    exact P.now k h .b
  | bl b =>
    cases hy.bl_inv
    cases x <;> try exact h.elim
    · cases hx.non_inv; exact P.now k h .b
    · cases hx.bl_inv; exact P.now k h .b
  | _ => cases x <;> exact h.elim
theorem flat_eq (hx : VT p O S x x1) (h : flatD x = true) : x1 = x := by
  cases x with
  | non => exact hx.non_inv
  | bl j => exact hx.bl_inv
  | str j => exact hx.str_inv
  | int j => exact hx.int_inv
  | tup j => cases h
  | rol j => cases h
  | ref a => cases h
  | obj c d => cases h
theorem flats_eq : ∀ {xs ds : List D}, VFs p O S xs ds → xs.all flatD = true → ds = xs
  | [], _, h, _ => by simpa only [VFs] using h
  | x :: xs, ds, h, a => by
    simp only [VFs] at h
    obtain ⟨e, r, rfl, v, w⟩ := h
    simp only [List.all_cons, Bool.and_eq_true] at a
    rw [flat_eq v.vt a.1, flats_eq w a.2]
theorem okVs_any (da : PyData) : ∀ {ds es : List D}, VFs p O S ds es → ds.all okV = true → es.all (okS S) = true ∧ (es.any fun z => PyData.eqv (pyS S z) da) = ds.any fun z => PyData.eqv (py z) da
  | [], _, h, _ => by simp only [VFs] at h; subst h; exact ⟨rfl, rfl⟩
  | d :: ds, _, h, a => by
    simp only [VFs] at h
    obtain ⟨e, r, rfl, v, w⟩ := h
    simp only [List.all_cons, Bool.and_eq_true] at a
    obtain ⟨i1, i2⟩ := okVs_any da w a.2
    obtain ⟨b1, b2, _⟩ := okV_ok v.vt a.1
    exact ⟨by rw [List.all_cons, b1, i1]; rfl, by rw [List.any_cons, List.any_cons, i2, b2]⟩
theorem inV_ok (neg : Bool) (k : OkO p q O S g) (hx : VT p O S x x1) (hy : VT p O S y y1) (h : inV' neg x y R) (P : Post p q O S g R Q) : inD neg x1 y1 S Q := by
  cases y with
  | tup ds =>
    obtain ⟨es, rfl, v⟩ := hy.tup_inv
    have h' : flatD x = true ∧ ds.all flatD = true ∧ R (.bl (neg ^^ ds.any fun z => eqF z x)) := by
      unfold inV' at h; split at h <;> first | exact h | simp_all
    obtain ⟨a, b, r⟩ := h'
    cases flat_eq hx a
    cases flats_eq v b
    have : flatD x = true ∧ ds.all flatD = true ∧ Q (.bl (neg ^^ ds.any fun z => eqF z x)) S := ⟨a, b, P.now k r .b⟩
    unfold inD; split <;> first | exact this | simp_all
  | rol ds =>
    obtain ⟨l, es, rfl, _, s, v⟩ := hy.rol_inv
    by_cases ht : ∃ as, x = .tup as
    · obtain ⟨as, rfl⟩ := ht
      have h' : okV (.tup as) = true ∧ ds.all okV = true ∧ R (.bl (neg ^^ ds.any fun z => PyData.eqv (py z) (py (.tup as)))) := h
      obtain ⟨a, b, r⟩ := h'
      obtain ⟨a1, a2, _⟩ := okV_ok hx a
      obtain ⟨b1, b2⟩ := okVs_any (py (.tup as)) v b
      obtain ⟨as1, rfl, _⟩ := hx.tup_inv
      exact ⟨es, s, a1, b1, by rw [a2, b2]; exact P.now k r .b⟩
    have h' : flatD x = true ∧ ds.all flatD = true ∧ R (.bl (neg ^^ ds.any fun z => eqF z x)) := by
      unfold inV' at h; split at h <;> first | exact h | (exact absurd ⟨_, rfl⟩ ht) | simp_all
    obtain ⟨a, b, r⟩ := h'
    cases flat_eq hx a
    cases flats_eq v b
    have : ∃ ds, S l = some (.lst ds) ∧ flatD x = true ∧ ds.all flatD = true ∧ Q (.bl (neg ^^ ds.any fun z => eqF z x)) S := ⟨_, s, a, b, P.now k r .b⟩
    unfold inD; split <;> first | exact this | simp_all
  | str z =>
    cases hy.str_inv
    cases x with
    | str c =>
      cases hx.str_inv
      cases c with
      | nil => exact fun t ht => P.now k (h t ht) .b
      | cons c r => cases r with
        | nil => exact P.now k h .b
        | cons _ _ => exact fun t ht => P.now k (h t ht) .b
    | _ => exact h.elim
  | _ => unfold inV' at h; split at h <;> first | exact h.elim | simp_all
theorem cmpV_ok (op : CmpOp) (k : OkO p q O S g) (hx : VT p O S x x1) (hy : VT p O S y y1) (h : cmpV op x y R) (P : Post p q O S g R Q) : cmpD op x1 y1 S Q := by
  cases op with
  | Eq => exact eqV_ok false k hx hy h P
  | NotEq => exact eqV_ok true k hx hy h P
  | Is => exact isV_ok false k hx hy h P
  | IsNot => exact isV_ok true k hx hy h P
  | In => exact inV_ok false k hx hy h P
  | NotIn => exact inV_ok true k hx hy h P
  | _ => exact ordV_ok k hx hy h P
theorem idxV_ok (k : OkO p q O S g) (hx : VT p O S x x1) (hy : VT p O S y y1) (h : idxV x y R) (P : Post p q O S g R Q) : idxD x1 y1 S Q := by
  cases x <;> cases y <;> try exact h.elim
  · cases hx.str_inv; cases hy.int_inv
    obtain ⟨a, c, e, r⟩ := h
    exact ⟨a, c, e, P.now k r .s⟩
  · obtain ⟨es, rfl, v⟩ := hx.tup_inv
    cases hy.int_inv
    obtain ⟨d, e, r⟩ := h
    obtain ⟨d', e', w⟩ := v.at e
    exact ⟨d', e', P.now k r w⟩
  · obtain ⟨a, es, rfl, _, s, v⟩ := hx.rol_inv
    cases hy.int_inv
    obtain ⟨d, e, r⟩ := h
    obtain ⟨d', e', w⟩ := v.at e
    exact ⟨es, d', s, e', P.now k r w⟩
theorem slV_ok {lo hi : Option Int} (k : OkO p q O S g) (hx : VT p O S x x1) (h : slV x lo hi R) (P : Post p q O S g R Q) : slD x1 lo hi S Q := by
  cases x <;> try exact h.elim
  · cases hx.str_inv; exact ⟨h.1, P.now k h.2 .s⟩
  · obtain ⟨es, rfl, v⟩ := hx.tup_inv
    exact P.now k h (.tup (v.cut lo hi))
  · obtain ⟨a, es, rfl, _, s, v⟩ := hx.rol_inv
    exact ⟨es, s, fun r f => P.new k h (v.cut lo hi) r f⟩
end
end G57
set_option Elab.async false
set_option linter.all false
set_option maxRecDepth 100000
set_option maxHeartbeats 400000
namespace G57
open PySem L2
section
variable {p q : Addr} {O : Own} {S S' : Sto} {g : Nat} {Q : DK} {R : RK} {x y x1 y1 : D}
def VTs (p : Addr) (O : Own) (S : Sto) : List D → List D → Prop
  | [], es => es = []
  | d :: ds, es => ∃ e r, es = e :: r ∧ VT p O S d e ∧ VTs p O S ds r
theorem VTs.cons {xs ds : List D} (a : VT p O S x x1) (b : VTs p O S xs ds) : VTs p O S (x :: xs) (x1 :: ds) := ⟨_, _, rfl, a, b⟩
theorem VTs.ext : ∀ {xs ds : List D}, VTs p O S xs ds → ExtB p S S' → VTs p O S' xs ds
  | [], _, h, _ => h
  | x :: xs, ds, ⟨e, r, q, v, w⟩, h => ⟨e, r, q, v.ext h, w.ext h⟩
theorem one_inv {d : D} {es : List D} (h : VTs p O S [d] es) : ∃ e, es = [e] ∧ VT p O S d e := by
  obtain ⟨e, r, rfl, v, rfl⟩ := h
  exact ⟨e, rfl, v⟩
theorem two_inv {d f : D} {es : List D} (h : VTs p O S [d, f] es) : ∃ e h, es = [e, h] ∧ VT p O S d e ∧ VT p O S f h := by
  obtain ⟨e, r, rfl, v, e2, r2, rfl, v2, rfl⟩ := h
  exact ⟨e, e2, rfl, v, v2⟩
theorem seq_ok {ds : List D} (h : VT p O S x x1) (e : seqV x = some ds) : ∃ es, seqD S x1 = some es ∧ VFs p O S ds es := by
  cases x <;> try (simp [seqV] at e; done)
  · cases e
    obtain ⟨es, rfl, v⟩ := h.tup_inv
    exact ⟨es, rfl, v⟩
  · cases e
    obtain ⟨a, es, rfl, _, s, v⟩ := h.rol_inv
    exact ⟨es, by rw [seqD_r]; exact s, v⟩
theorem kind_ok {k : String} (v : VT p O S x x1) (h : kindV x = some k) : kindD S x1 = some k := by
  cases x with
  | non => cases v.non_inv; exact h
  | bl b => cases v.bl_inv; exact h
  | int b => cases v.int_inv; exact h
  | str b => cases v.str_inv; exact h
  | tup ds => obtain ⟨es, rfl, _⟩ := v.tup_inv; exact h
  | rol ds =>
    obtain ⟨a, es, rfl, _, s, w⟩ := v.rol_inv
    simp only [kindD, s]; exact h
  | ref a => cases h
  | obj c d => cases h
theorem vints : ∀ js : List Int, VFs p O S (js.map .int) (js.map .int)
  | [] => .nil
  | j :: js => .cons .i (vints js)
theorem vstrs : ∀ js : List (List Nat), VFs p O S (js.map .str) (js.map .str)
  | [] => .nil
  | j :: js => .cons .s (vstrs js)
theorem vrng {a b : Int} : VFs p O S (rngD a b) (rngD a b) := by
  unfold rngD
  generalize List.range (b - a).toNat = l
  induction l with
  | nil => exact .nil
  | cons i l ih => exact .cons .i ih
theorem biV_ok (f : Bi) {ds es : List D} (k : OkO p q O S g) (hx : VTs p O S ds es) (h : biV f ds R) (P : Post p q O S g R Q) : biD f es S Q := by
  cases f with
  | len =>
    have h : biLenV ds R := h
    unfold biLenV at h
    split at h <;> try exact h.elim
    · obtain ⟨e, rfl, v⟩ := one_inv hx
      cases v.str_inv; exact ⟨h.1, P.now k h.2 .i⟩
    · obtain ⟨e, rfl, v⟩ := one_inv hx
      obtain ⟨zs, rfl, w⟩ := v.tup_inv
      exact ⟨_, rfl, by rw [← w.length]; exact P.now k h .i⟩
    · obtain ⟨e, rfl, v⟩ := one_inv hx
      obtain ⟨a, zs, rfl, _, s, w⟩ := v.rol_inv
      show lenD [.ref a] S Q
      rw [lenD_r]
      exact ⟨_, s, by rw [← w.length]; exact P.now k h .i⟩
  | sum =>
    have h : biSumV ds R := h
    unfold biSumV at h
    split at h <;> try exact h.elim
    · obtain ⟨e, rfl, v⟩ := one_inv hx
      obtain ⟨zs, z, w⟩ := seq_ok v rfl
      obtain ⟨is, a, r⟩ := h
      exact ⟨_, _, z, w.ints a, P.now k r .i⟩
    · obtain ⟨e, rfl, v⟩ := one_inv hx
      obtain ⟨zs, z, w⟩ := seq_ok v rfl
      obtain ⟨is, a, r⟩ := h
      exact ⟨_, _, z, w.ints a, P.now k r .i⟩
  | any =>
    have h : biAnyV ds R := h
    unfold biAnyV at h
    split at h <;> try exact h.elim
    · obtain ⟨e, rfl, v⟩ := one_inv hx
      obtain ⟨zs, z, w⟩ := seq_ok v rfl
      obtain ⟨is, a, r⟩ := h
      exact ⟨_, _, z, w.trus a, P.now k r .b⟩
    · obtain ⟨e, rfl, v⟩ := one_inv hx
      obtain ⟨zs, z, w⟩ := seq_ok v rfl
      obtain ⟨is, a, r⟩ := h
      exact ⟨_, _, z, w.trus a, P.now k r .b⟩
  | all =>
    have h : biAllV ds R := h
    unfold biAllV at h
    split at h <;> try exact h.elim
    · obtain ⟨e, rfl, v⟩ := one_inv hx
      obtain ⟨zs, z, w⟩ := seq_ok v rfl
      obtain ⟨is, a, r⟩ := h
      exact ⟨_, _, z, w.trus a, P.now k r .b⟩
    · obtain ⟨e, rfl, v⟩ := one_inv hx
      obtain ⟨zs, z, w⟩ := seq_ok v rfl
      obtain ⟨is, a, r⟩ := h
      exact ⟨_, _, z, w.trus a, P.now k r .b⟩
  | abs =>
    have h : biAbsV ds R := h
    unfold biAbsV at h
    split at h <;> try exact h.elim
    · obtain ⟨e, rfl, v⟩ := one_inv hx
      cases v.int_inv; exact P.now k h .i
  | min =>
    have h : biMinV ds R := h
    unfold biMinV at h
    split at h <;> try exact h.elim
    · obtain ⟨e, e2, rfl, v, v2⟩ := two_inv hx
      cases v.int_inv; cases v2.int_inv; exact P.now k h .i
    · obtain ⟨e, rfl, v⟩ := one_inv hx
      obtain ⟨a, es, rfl, _, s, w⟩ := v.rol_inv
      obtain ⟨is, a1, a2, r⟩ := h
      exact ⟨es, is, s, w.ints a1, a2, fun m h1 h2 => P.now k (r m h1 h2) .i⟩
  | max =>
    have h : biMaxV ds R := h
    unfold biMaxV at h
    split at h <;> try exact h.elim
    · obtain ⟨e, e2, rfl, v, v2⟩ := two_inv hx
      cases v.int_inv; cases v2.int_inv; exact P.now k h .i
    · obtain ⟨e, rfl, v⟩ := one_inv hx
      obtain ⟨a, es, rfl, _, s, w⟩ := v.rol_inv
      obtain ⟨is, a1, a2, r⟩ := h
      exact ⟨es, is, s, w.ints a1, a2, fun m h1 h2 => P.now k (r m h1 h2) .i⟩
  | int =>
    have h : biIntV ds R := h
    unfold biIntV at h
    split at h <;> try exact h.elim
    · obtain ⟨e, rfl, v⟩ := one_inv hx
      cases v.int_inv; exact P.now k h .i
    · obtain ⟨e, rfl, v⟩ := one_inv hx
      cases v.bl_inv; exact P.now k h .i
    · obtain ⟨e, rfl, v⟩ := one_inv hx
      cases v.str_inv
      obtain ⟨n, a, b, r⟩ := h
      exact ⟨n, a, b, P.now k r .i⟩
  | str =>
    have h : biStrV ds R := h
    unfold biStrV at h
    split at h <;> try exact h.elim
    · obtain ⟨e, rfl, v⟩ := one_inv hx
      cases v.int_inv; exact ⟨h.1, P.now k h.2 .s⟩
    · obtain ⟨e, rfl, v⟩ := one_inv hx
      cases v.bl_inv; exact P.now k h .s
  | tuple =>
    have h : biTupleV ds R := h
    unfold biTupleV at h
    split at h <;> try exact h.elim
    · obtain ⟨e, rfl, v⟩ := one_inv hx
      obtain ⟨zs, z, w⟩ := seq_ok v rfl
      exact ⟨_, z, P.now k h (.tup w)⟩
    · obtain ⟨e, rfl, v⟩ := one_inv hx
      obtain ⟨zs, z, w⟩ := seq_ok v rfl
      exact ⟨_, z, P.now k h (.tup w)⟩
  | list =>
    have h : biListV ds R := h
    unfold biListV at h
    split at h <;> try exact h.elim
    · obtain ⟨e, rfl, v⟩ := one_inv hx
      obtain ⟨zs, z, w⟩ := seq_ok v rfl
      exact ⟨_, z, fun r f => P.new k h w r f⟩
    · obtain ⟨e, rfl, v⟩ := one_inv hx
      obtain ⟨zs, z, w⟩ := seq_ok v rfl
      exact ⟨_, z, fun r f => P.new k h w r f⟩
  | repr =>
    have h : biReprV ds R := h
    unfold biReprV at h
    split at h <;> try exact h.elim
    · obtain ⟨e, rfl, v⟩ := one_inv hx
      obtain ⟨a, b, c, r⟩ := h
      obtain ⟨a1, a2, a3⟩ := okV_ok v a
      exact ⟨a1, by rw [a3]; exact b, by rw [a2]; exact c, by rw [a2]; exact P.now k r .s⟩
  | isi T =>
    have h : biIsiV T ds R := h
    unfold biIsiV at h
    split at h <;> try exact h.elim
    · obtain ⟨e, rfl, v⟩ := one_inv hx
      obtain ⟨kk, a, r⟩ := h
      exact ⟨kk, kind_ok v a, P.now k r .b⟩
  | rev =>
    have h : biRevV ds R := h
    unfold biRevV at h
    split at h <;> try exact h.elim
    · obtain ⟨e, rfl, v⟩ := one_inv hx
      cases v.str_inv; exact ⟨h.1, P.now k h.2 .s⟩
    · obtain ⟨e, rfl, v⟩ := one_inv hx
      obtain ⟨zs, rfl, w⟩ := v.tup_inv
      exact P.now k h (.tup w.reverse)
    · obtain ⟨e, rfl, v⟩ := one_inv hx
      obtain ⟨a, zs, rfl, _, s, w⟩ := v.rol_inv
      exact ⟨zs, s, fun r f => P.new k h w.reverse r f⟩
  | sorted =>
    have h : biSortedV ds R := h
    unfold biSortedV at h
    split at h <;> try exact h.elim
    · obtain ⟨e, rfl, v⟩ := one_inv hx
      obtain ⟨a, es, rfl, _, s, w⟩ := v.rol_inv
      rcases h with ⟨is, a1, r⟩ | ⟨xs, a1, hl, r⟩
      · exact ⟨es, s, .inl ⟨is, w.ints a1, fun js h1 h2 b f => P.new k (r js h1 h2) (vints js) b f⟩⟩
      · exact ⟨es, s, .inr ⟨xs, w.strs a1, hl, fun ys h1 h2 b f => P.new k (r ys h1 h2) (vstrs ys) b f⟩⟩
  | trange =>
    have h : biTrangeV ds R := h
    unfold biTrangeV at h
    split at h <;> try exact h.elim
    · obtain ⟨e, rfl, v⟩ := one_inv hx
      cases v.int_inv
      exact ⟨h.1, h.2.1, P.now k h.2.2 (.tup vrng)⟩
  | lrange =>
    have h : biLrangeV ds R := h
    unfold biLrangeV at h
    split at h <;> try exact h.elim
    · obtain ⟨e, rfl, v⟩ := one_inv hx
      cases v.int_inv
      exact ⟨h.1, h.2.1, fun b f => P.new k h.2.2 vrng b f⟩
  | ssort =>
    have h : biSsortV ds R := h
    unfold biSsortV at h
    split at h <;> try exact h.elim
    · obtain ⟨e, rfl, v⟩ := one_inv hx
      obtain ⟨a, es, rfl, _, s, w⟩ := v.rol_inv
      obtain ⟨is, a1, hl, r⟩ := h
      exact ⟨es, is, s, w.ints a1, hl, fun js h1 h2 b f => P.new k (r js h1 h2) (vints js) b f⟩
  | maxd =>
    have h : biMaxdV ds R := h
    unfold biMaxdV at h
    split at h <;> try exact h.elim
    · obtain ⟨e, e2, rfl, v, v2⟩ := two_inv hx
      obtain ⟨a, es, rfl, _, s, w⟩ := v.rol_inv
      cases v2.int_inv
      obtain ⟨is, a1, r0, r⟩ := h
      exact ⟨es, is, s, w.ints a1, fun e => P.now k (r0 e) .i, fun e m h1 h2 => P.now k (r e m h1 h2) .i⟩
theorem vf_knd {d e : D} (h : VF p O S d e) (h0 : kndD d ≠ 0) : e = d := by
  cases d <;> first | exact absurd rfl h0 | (simp only [VF] at h; exact h)
theorem vt_knd {d e : D} (h : VT p O S d e) (h0 : kndD d ≠ 0) : e = d := by
  cases d <;> first | exact absurd rfl h0 | exact h.int_inv | exact h.bl_inv | exact h.str_inv
theorem vfs_knd : ∀ {ds es : List D}, VFs p O S ds es → (∀ e ∈ ds, kndD e ≠ 0) → es = ds ∧ True
  | [], _, h, _ => by simp only [VFs] at h; exact ⟨h, trivial⟩
  | d :: ds, [], h, _ => by simp only [VFs] at h; obtain ⟨_, _, e, _⟩ := h; cases e
  | d :: ds, e :: es, h, g => by
    obtain ⟨h1, h2⟩ := h.inv
    exact ⟨by rw [vf_knd h1 (g d List.mem_cons_self), (vfs_knd h2 fun x hx => g x (List.mem_cons_of_mem _ hx)).1], trivial⟩
theorem mtV_ok (m : Mt) {ds es : List D} (k : OkO p q O S g) (hx : VT p O S x x1) (hs : VTs p O S ds es) (h : mtV m x ds R) (P : Post p q O S g R Q) : mtTy m x1 S ∧ mtD m x1 es S Q := by
  unfold mtV at h
  split at h <;> try exact h.elim
  · cases hx.str_inv
    obtain ⟨e, rfl, v⟩ := one_inv hs
    obtain ⟨zs, z, w⟩ := seq_ok v rfl
    obtain ⟨xs, a, b, r⟩ := h
    exact ⟨trivial, _, _, z, w.strs a, b, P.now k r .s⟩
  · cases hx.str_inv
    obtain ⟨e, rfl, v⟩ := one_inv hs
    obtain ⟨zs, z, w⟩ := seq_ok v rfl
    obtain ⟨xs, a, b, r⟩ := h
    exact ⟨trivial, _, _, z, w.strs a, b, P.now k r .s⟩
  · cases hx.str_inv
    obtain ⟨e, rfl, v⟩ := one_inv hs
    cases v.str_inv
    exact ⟨trivial, P.now k h .i⟩
  · cases hx.str_inv
    obtain ⟨e, rfl, v⟩ := one_inv hs
    cases v.str_inv
    exact ⟨trivial, fun r hr => P.now k (h r hr) .i⟩
  · cases hx.str_inv
    obtain ⟨e, e2, rfl, v, v2⟩ := two_inv hs
    cases v.str_inv; cases v2.int_inv
    exact ⟨trivial, h.1, fun r hr => P.now k (h.2 r hr) .i⟩
  · cases hx.str_inv
    obtain ⟨e, rfl, v⟩ := one_inv hs
    cases v.str_inv
    exact ⟨trivial, fun t ht => P.now k (h t ht) .b⟩
  · cases hx.str_inv
    obtain ⟨e, rfl, v⟩ := one_inv hs
    cases v.str_inv
    exact ⟨trivial, fun t ht => P.now k (h t ht) .b⟩
  · obtain ⟨a, fs, rfl, _, s, w⟩ := hx.rol_inv
    obtain ⟨e, rfl, v⟩ := one_inv hs
    obtain ⟨h0, hall, j, hj, hno, h⟩ := h
    obtain ⟨e1, w1⟩ := vfs_knd w (fun e he => by rw [hall e he]; exact h0)
    obtain rfl := e1
    have e2 := vt_knd v h0
    subst e2
    exact ⟨⟨_, s⟩, _, s, h0, hall, j, hj, hno, P.now k h .i⟩
end
end G57
set_option Elab.async false
set_option linter.all false
set_option maxRecDepth 100000
set_option maxHeartbeats 400000
namespace G57
open PySem L2
abbrev QK := D → Nat → Prop
abbrev Spec2 := List D → Nat → QK → Prop
structure Tab2 where
  q : Nat → Option Spec2
  w : Nat → Option Spec := fun _ => none
def ownB : List Nat → Nat → Bool
  | [], _ => false
  | j :: r, i => i == j || ownB r i
def lcV (body : D → Nat → (Option D → Nat → Prop) → Prop) (Q : List D → Nat → Prop) : List D → List D → Nat → Prop
  | [], acc, g => Q acc g
  | x :: xs, acc, g => body x g fun y g1 => match y with
    | none => lcV body Q xs acc g1
    | some y => acc.length < 16777216 ∧ lcV body Q xs (acc ++ [y]) g1
mutual
def wqP : Pt → D → En → (En → Prop) → Prop
  | .v i, d, env, Q => Q (env.set i (some d))
  | .t p, .tup ds, env, Q => wqPs p ds env Q
  | .t p, .rol ds, env, Q => wqPs p ds env Q
  | _, _, _, _ => False
def wqPs : Pt → List D → En → (En → Prop) → Prop
  | .nil, [], env, Q => Q env
  | .cons a r, d :: ds, env, Q => wqP a d env fun env' => wqPs r ds env' Q
  | _, _, _, _ => False
end
def mtO : Mt → D → Prop
  | .join, .str _ => True
  | .count, .str _ => True
  | .find, .str _ => True
  | .endswith, .str _ => True
  | .startswith, .str _ => True
  | .index, .rol _ => True
  | _, _ => False
def ocmV (op : CmpOp) (sp : Spec2) (x y : D) (g : Nat) (Q : QK) : Prop := isObj x = true ∧ match op with
  | .Eq => isoK y = true ∧ sp [x, y] g Q ∧ (isObj y = true → sp [y, x] g Q)
  | .NotEq => isoK y = true ∧ sp [x, y] g (fun d g' => ∃ b, d = .bl b ∧ Q (.bl (!b)) g') ∧ (isObj y = true → sp [y, x] g (fun d g' => ∃ b, d = .bl b ∧ Q (.bl (!b)) g'))
  | .Lt | .LtE => isObj y = true ∧ sp [x, y] g Q
  | .Gt | .GtE => isObj y = true ∧ sp [y, x] g Q
  | _ => False
def fmtV : D → (List Nat → Prop) → Prop
  | .str x, R => x.length ≤ 16777216 ∧ R x
  | .int i, R => i.natAbs < 2 ^ 1900 ∧ R (itxt i)
  | _, _ => False
section
variable (M : List Nat) (Φ : Tab2)
mutual
def wqE : Ex → Bool → En → Nat → QK → Prop
  | .var i, b, env, g, Q => (b || !ownB M i) = true ∧ ∃ d, env[i]? = some (some d) ∧ Q d g
  | .con d, _, _, g, Q => flatD d = true ∧ Q d g
  | .bin op a c, _, env, g, Q => wqE a true env g fun x g1 => wqE c true env g1 fun y g2 => opV op x y fun d => Q d g2
  | .neg a, _, env, g, Q => wqE a true env g fun x g1 => negV x fun d => Q d g1
  | .not a, _, env, g, Q => wqE a true env g fun x g1 => truthV x fun t => Q (.bl (!t)) g1
  | .cmp op a c, _, env, g, Q => wqE a true env g fun x g1 => wqE c true env g1 fun y g2 => cmpV op x y fun d => Q d g2
  | .chain o1 o2 a b c, _, env, g, Q => wqE a true env g fun x g1 => wqE b true env g1 fun y g2 => cmpV o1 x y fun z => ∃ k, z = .bl k ∧
      (if k = true then wqE c true env g2 fun w g3 => cmpV o2 y w fun d => Q d g3 else Q (.bl false) g2)
  | .and a c, b, env, g, Q => wqE a b env g fun x g1 => truthV x fun t => if t = true then wqE c b env g1 Q else Q x g1
  | .or a c, b, env, g, Q => wqE a b env g fun x g1 => truthV x fun t => if t = true then Q x g1 else wqE c b env g1 Q
  | .ite c a d, b, env, g, Q => wqT c env g fun t g1 => if t = true then wqE a b env g1 Q else wqE d b env g1 Q
  | .call f as, _, env, g, Q => ∃ sp, Φ.q f = some sp ∧ wqA as false env g fun ds g1 => sp ds g1 Q
  | .bi f as, _, env, g, Q => wqA as true env g fun ds g1 => biV f ds fun d => Q d g1
  | .mt m o as, _, env, g, Q => wqE o true env g fun x g1 => mtO m x ∧ wqA as true env g1 fun ds g2 => mtV m x ds fun d => Q d g2
  | .tup as, _, env, g, Q => wqA as false env g fun ds g1 => ds.length ≤ 16777216 ∧ Q (.tup ds) g1
  | .lst as, _, env, g, Q => wqA as false env g fun ds g1 => ds.length ≤ 16777216 ∧ Q (.rol ds) g1
  | .idx a c, _, env, g, Q => wqE a true env g fun x g1 => wqE c true env g1 fun y g2 => idxV x y fun d => Q d g2
  | .sl a lo hi, _, env, g, Q => wqE a true env g fun x g1 => wqO lo env g1 fun l g2 => wqO hi env g2 fun h g3 => slV x l h fun d => Q d g3
  | .lc vs p it c e, _, env, g, Q => wqI it true env g fun xs g1 => lcV (fun x g2 k => wqP p x (wipeD env vs) fun env2 => wqC c env2 g2 fun t g3 =>
      if t = true then wqE e false env2 g3 fun y g4 => k (some y) g4 else k none g3) (fun ys g' => Q (.rol ys) g') xs [] g1
  | .fs as, _, env, g, Q => wqJ as env g [] fun x g1 => Q (.str x) g1
  | .att f a, _, env, g, Q => ∃ sp, Φ.q f = some sp ∧ wqE a true env g fun x g1 => ∃ c d, x = .obj c d ∧ Q d g1
  | .prp f a, _, env, g, Q => ∃ sp, Φ.q f = some sp ∧ wqE a false env g fun x g1 => isObj x = true ∧ sp [x] g1 Q
  | .meth f o as, _, env, g, Q => ∃ sp, Φ.q f = some sp ∧ wqE o false env g fun x g1 => isObj x = true ∧ wqA as false env g1 fun ds g2 => sp (x :: ds) g2 Q
  | .oop f a c, _, env, g, Q => ∃ sp, Φ.q f = some sp ∧ wqE a false env g fun x g1 => wqE c false env g1 fun y g2 => addOk x y = true ∧ sp [x, y] g2 Q
  | .ocm op f a c, _, env, g, Q => ∃ sp, Φ.q f = some sp ∧ wqE a false env g fun x g1 => wqE c false env g1 fun y g2 => ocmV op sp x y g2 Q
  | .iso f a, _, env, g, Q => ∃ sp, Φ.q f = some sp ∧ wqE a true env g fun x g1 => isoK x = true ∧ Q (.bl (isObj x)) g1
  | .nil, _, _, _, _ | .cons _ _, _, _, _, _ | .iE _, _, _, _, _ | .iR1 _, _, _, _, _ | .iR2 _ _, _, _, _, _ | .iR3 _ _ _, _, _, _, _ | .iZ _ _, _, _, _, _ | .iN _, _, _, _, _ => False
def wqT : Ex → En → Nat → (Bool → Nat → Prop) → Prop
  | .not a, env, g, Q => wqT a env g fun b g1 => Q (!b) g1
  | .and a c, env, g, Q => wqT a env g fun t g1 => if t = true then wqT c env g1 Q else Q false g1
  | .or a c, env, g, Q => wqT a env g fun t g1 => if t = true then Q true g1 else wqT c env g1 Q
  | .cmp op a c, env, g, Q => wqE a true env g fun x g1 => wqE c true env g1 fun y g2 => cmpV op x y fun z => ∃ k, z = .bl k ∧ Q k g2
  | .chain o1 o2 a b c, env, g, Q => wqE a true env g fun x g1 => wqE b true env g1 fun y g2 => cmpV o1 x y fun z => ∃ k, z = .bl k ∧
      (if k = true then wqE c true env g2 fun w g3 => cmpV o2 y w fun z => ∃ k, z = .bl k ∧ Q k g3 else Q false g2)
  | .var i, env, g, Q => ∃ d, env[i]? = some (some d) ∧ truthV d fun b => Q b g
  | .call f as, env, g, Q => ∃ sp, Φ.q f = some sp ∧ wqA as false env g fun ds g1 => sp ds g1 fun d g2 => truthV d fun b => Q b g2
  | .bi f as, env, g, Q => wqA as true env g fun ds g1 => biV f ds fun d => truthV d fun b => Q b g1
  | .idx a c, env, g, Q => wqE a true env g fun x g1 => wqE c true env g1 fun y g2 => idxV x y fun d => truthV d fun b => Q b g2
  | .ocm op f a c, env, g, Q => ∃ sp, Φ.q f = some sp ∧ wqE a false env g fun x g1 => wqE c false env g1 fun y g2 => ocmV op sp x y g2 fun z g3 => ∃ k, z = .bl k ∧ Q k g3
  | .iso f a, env, g, Q => ∃ sp, Φ.q f = some sp ∧ wqE a true env g fun x g1 => isoK x = true ∧ Q (isObj x) g1
  | _, _, _, _ => False
def wqC : Ex → En → Nat → (Bool → Nat → Prop) → Prop
  | .nil, _, g, Q => Q true g
  | .cons c _, env, g, Q => wqT c env g Q
  | _, _, _, _ => False
def wqA : Ex → Bool → En → Nat → (List D → Nat → Prop) → Prop
  | .nil, _, _, g, Q => Q [] g
  | .cons a r, b, env, g, Q => wqE a b env g fun x g1 => wqA r b env g1 fun xs g2 => Q (x :: xs) g2
  | _, _, _, _, _ => False
def wqO : Ex → En → Nat → (Option Int → Nat → Prop) → Prop
  | .nil, _, g, Q => Q none g
  | .cons a _, env, g, Q => wqE a true env g fun x g1 => ∃ i, x = .int i ∧ Q (some i) g1
  | _, _, _, _ => False
def wqI : Ex → Bool → En → Nat → (List D → Nat → Prop) → Prop
  | .iE a, b, env, g, K => wqE a b env g fun x g1 => ∃ xs, itV x = some xs ∧ K xs g1
  | .iR1 a, _, env, g, K => wqE a true env g fun x g1 => rng1V x fun xs => K xs g1
  | .iR2 a c, _, env, g, K => wqE a true env g fun x g1 => wqE c true env g1 fun y g2 => rng2V x y fun xs => K xs g2
  | .iR3 a c e, _, env, g, K => wqE a true env g fun x g1 => wqE c true env g1 fun y g2 => wqE e true env g2 fun z g3 => rng3V x y z fun xs => K xs g3
  | .iZ a c, b, env, g, K => wqE a b env g fun x g1 => wqE c b env g1 fun y g2 => ∃ xs ys, itV x = some xs ∧ itV y = some ys ∧ K (zipD xs ys) g2
  | .iN a, b, env, g, K => wqE a b env g fun x g1 => ∃ xs, itV x = some xs ∧ K (enumD 0 xs) g1
  | _, _, _, _, _ => False
def wqJ : Ex → En → Nat → List Nat → (List Nat → Nat → Prop) → Prop
  | .nil, _, g, acc, Q => Q acc g
  | .cons a r, env, g, acc, Q => wqE a true env g fun x g1 => fmtV x fun z => acc.length + z.length ≤ 16777216 ∧ wqJ r env g1 (acc ++ z) Q
  | _, _, _, _, _ => False
end
end
def lift2 (sp : Spec2) : Spec := fun es S Q => ∃ p q O g ds R, OkO p q O S g ∧ VFs p O S ds es ∧ sp ds g R ∧ ∀ d2 d1 S' g', R d2 g' → ExtB p S S' → Deck S' p q g' → VF p O S' d2 d1 → Q d1 S'
def tab1 (Φ : Tab2) : Tab := fun i => match Φ.q i with
  | some sp => some (lift2 sp)
  | none => Φ.w i
structure RelV2 (p : Addr) (O : Own) (M : List Nat) (S : Sto) (env env1 : En) : Prop where
  len : env.length = env1.length
  var : ∀ i d, env[i]? = some (some d) → ∃ e, env1[i]? = some (some e) ∧ VB (ownB M i) p O S d e
section
variable {p q : Addr} {O : Own} {M : List Nat} {S S' : Sto} {g : Nat} {env env1 : En}
theorem VB.own {b : Bool} {x d : D} {a : Addr} (h : VB b p O S x d) (f : S a = none) : VB b p (fun c => O c ∨ c = a) S x d := by
  unfold VB at h ⊢
  cases b
  · simp only [Bool.false_eq_true, if_false] at h ⊢; exact h.own f
  · simp only [if_true] at h ⊢; exact h.own f
theorem RelV2.ext (h : RelV2 p O M S env env1) (e : ExtB p S S') : RelV2 p O M S' env env1 :=
  ⟨h.len, fun i d q => let ⟨x, a, b⟩ := h.var i d q; ⟨x, a, b.ext e⟩⟩
theorem RelV2.own (h : RelV2 p O M S env env1) {a : Addr} (f : S a = none) : RelV2 p (fun b => O b ∨ b = a) M S env env1 :=
  ⟨h.len, fun i d q => let ⟨x, a, b⟩ := h.var i d q; ⟨x, a, b.own f⟩⟩
theorem RelV2.set (h : RelV2 p O M S env env1) (i : Nat) {d e : D} (v : VF p O S d e) : RelV2 p O M S (env.set i (some d)) (env1.set i (some e)) := by
  refine ⟨by simp [h.len], fun j x q => ?_⟩
  by_cases hj : i = j
  · subst hj
    by_cases hi : i < env.length
    · rw [List.getElem?_set_self hi] at q
      cases q
      exact ⟨e, List.getElem?_set_self (by rw [← h.len]; exact hi), v.vb _⟩
    · rw [List.getElem?_eq_none (by simpa using hi)] at q; cases q
  · rw [List.getElem?_set_ne hj] at q ⊢
    exact h.var j x q
theorem RelV2.wipe1 (h : RelV2 p O M S env env1) (i : Nat) : RelV2 p O M S (env.set i none) (env1.set i none) := by
  refine ⟨by simp [h.len], fun j x q => ?_⟩
  by_cases hj : i = j
  · subst hj
    by_cases hi : i < env.length
    · rw [List.getElem?_set_self hi] at q
      cases q
    · rw [List.getElem?_eq_none (by simpa using hi)] at q; cases q
  · rw [List.getElem?_set_ne hj] at q ⊢
    exact h.var j x q
theorem RelV2.wipe (h : RelV2 p O M S env env1) : ∀ vs : List Nat, RelV2 p O M S (wipeD env vs) (wipeD env1 vs)
  | [] => h
  | v :: vs => (h.wipe vs).wipe1 v
mutual
theorem wqP_ok : ∀ (t : Pt) {d e : D} {env env1 : En} {Q Q1 : En → Prop}, RelV2 p O M S env env1 → VF p O S d e → wqP t d env Q → (∀ env' env1', Q env' → RelV2 p O M S env' env1' → Q1 env1') → wpP t e S env1 Q1
  | .v i, d, e, env, env1, Q, Q1, r, v, h, k => by
    simp only [wqP] at h
    simp only [wpP]
    exact k _ _ h (r.set i v)
  | .t t, d, e, env, env1, Q, Q1, r, v, h, k => by
    simp only [wpP]
    cases d with
    | tup ds =>
      simp only [wqP] at h
      simp only [VF] at v
      obtain ⟨es, rfl, w⟩ := v
      exact ⟨es, rfl, wqPs_ok t r w h k⟩
    | rol ds =>
      simp only [wqP] at h
      simp only [VF] at v
      obtain ⟨a, es, rfl, _, _, s, w⟩ := v
      exact ⟨es, by rw [seqD_r]; exact s, wqPs_ok t r w h k⟩
    | _ => simp only [wqP] at h
  | .nil, d, e, env, env1, Q, Q1, r, v, h, k => by simp only [wqP] at h
  | .cons _ _, d, e, env, env1, Q, Q1, r, v, h, k => by simp only [wqP] at h
theorem wqPs_ok : ∀ (t : Pt) {ds es : List D} {env env1 : En} {Q Q1 : En → Prop}, RelV2 p O M S env env1 → VFs p O S ds es → wqPs t ds env Q → (∀ env' env1', Q env' → RelV2 p O M S env' env1' → Q1 env1') → wpPs t es S env1 Q1
  | .nil, ds, es, env, env1, Q, Q1, r, v, h, k => by
    cases ds with
    | nil =>
      simp only [VFs] at v
      subst v
      simp only [wqPs] at h
      simp only [wpPs]
      exact k _ _ h r
    | cons _ _ => simp only [wqPs] at h
  | .cons a t, ds, es, env, env1, Q, Q1, r, v, h, k => by
    cases ds with
    | nil => simp only [wqPs] at h
    | cons d ds =>
      simp only [VFs] at v
      obtain ⟨e, es, rfl, v, w⟩ := v
      simp only [wqPs] at h
      simp only [wpPs]
      exact wqP_ok a r v h fun env' env1' h' r' => wqPs_ok t r' w h' k
  | .v _, ds, es, env, env1, Q, Q1, r, v, h, k => by cases ds <;> simp only [wqPs] at h
  | .t _, ds, es, env, env1, Q, Q1, r, v, h, k => by cases ds <;> simp only [wqPs] at h
end
end
end G57
set_option Elab.async false
set_option linter.all false
set_option maxRecDepth 100000
set_option maxHeartbeats 800000
namespace G57
open PySem L2
def PE2 (b : Bool) (p q : Addr) (O : Own) (S : Sto) (Q : QK) (Q1 : DK) : Prop := ∀ d2 d1 S' g', Q d2 g' → ExtB p S S' → Deck S' p q g' → VB b p O S' d2 d1 → Q1 d1 S'
def PT2 (p q : Addr) (S : Sto) (Q : Bool → Nat → Prop) (Q1 : Bool → Sto → Prop) : Prop := ∀ b S' g', Q b g' → ExtB p S S' → Deck S' p q g' → Q1 b S'
def PA2 (b : Bool) (p q : Addr) (O : Own) (S : Sto) (Q : List D → Nat → Prop) (Q1 : List D → Sto → Prop) : Prop := ∀ ds es S' g', Q ds g' → ExtB p S S' → Deck S' p q g' → (if b = true then VTs p O S' ds es else VFs p O S' ds es) → Q1 es S'
def PO2 (p q : Addr) (S : Sto) (Q : Option Int → Nat → Prop) (Q1 : Option Int → Sto → Prop) : Prop := ∀ o S' g', Q o g' → ExtB p S S' → Deck S' p q g' → Q1 o S'
def PJ2 (p q : Addr) (S : Sto) (Q : List Nat → Nat → Prop) (Q1 : List Nat → Sto → Prop) : Prop := ∀ o S' g', Q o g' → ExtB p S S' → Deck S' p q g' → Q1 o S'
def ExtO (b : Bool) (p : Addr) (O : Own) (S S' : Sto) : Prop := ∀ a o, (b = true ∨ ¬ O a) → a ≠ p → S a = some o → S' a = some o
def PI2 (b : Bool) (p q : Addr) (O : Own) (S : Sto) (Q : List D → Nat → Prop) (K : IK) : Prop := ∀ ds es (G : Sto → Prop) S' g', Q ds g' → ExtB p S S' → Deck S' p q g' → VFs p O S' ds es → (∀ S'', ExtO b p O S' S'' → G S'') → K es G S'
section
variable {p q : Addr} {M : List Nat} {Φ : Tab2}
theorem truthV_mono {x : D} {A B : Bool → Prop} (h : truthV x A) (m : ∀ b, A b → B b) : truthV x B := by
  cases x <;> simp only [truthV] at h ⊢ <;> first | exact m _ h | exact ⟨h.1, m _ h.2⟩
theorem post_of {O : Own} {S S1 : Sto} {b : Bool} {Q : QK} {Q1 : DK} {g : Nat} (P : PE2 b p q O S Q Q1) (e : ExtB p S S1) : Post p q O S1 g (fun d => Q d g) Q1 :=
  fun d2 d1 S' r e' dk v => P d2 d1 S' g r (e.trans e') dk (v.vb b)
theorem vmap_str {O : Own} {S : Sto} : ∀ x : List Nat, VFs p O S (x.map fun c => .str [c]) (x.map fun c => .str [c])
  | [] => .nil
  | c :: x => .cons .s (vmap_str x)
theorem vmap_int {O : Own} {S : Sto} {f : Nat → Int} : ∀ x : List Nat, VFs p O S (x.map fun c => .int (f c)) (x.map fun c => .int (f c))
  | [] => .nil
  | c :: x => .cons .i (vmap_int x)
theorem vmap_rng {O : Own} {S : Sto} {m n : Int} : VFs p O S (rngD m n) (rngD m n) := vmap_int _
theorem zip_ok {O : Own} {S : Sto} : ∀ {xs ys es fs : List D}, VFs p O S xs es → VFs p O S ys fs → VFs p O S (zipD xs ys) (zipD es fs)
  | [], ys, es, fs, h, g => by simp only [VFs] at h; subst h; simp only [zipD]; exact .nil
  | x :: xs, [], es, fs, h, g => by
    simp only [VFs] at g; subst g
    cases es <;> (simp only [zipD]; exact .nil)
  | x :: xs, y :: ys, es, fs, h, g => by
    simp only [VFs] at h g
    obtain ⟨e, r, rfl, v, w⟩ := h
    obtain ⟨e', r', rfl, v', w'⟩ := g
    simp only [zipD]
    exact .cons (.tup (.cons v (.cons v' .nil))) (zip_ok w w')
theorem enum_ok {O : Own} {S : Sto} : ∀ {xs es : List D} (n : Nat), VFs p O S xs es → VFs p O S (enumD n xs) (enumD n es)
  | [], es, n, h => by simp only [VFs] at h; subst h; simp only [enumD]; exact .nil
  | x :: xs, es, n, h => by
    simp only [VFs] at h
    obtain ⟨e, r, rfl, v, w⟩ := h
    simp only [enumD]
    exact .cons (.tup (.cons .i (.cons v .nil))) (enum_ok (n + 1) w)
theorem isObj_vt {O : Own} {S : Sto} {x x1 : D} (v : VT p O S x x1) : isObj x1 = isObj x := by
  cases x with
  | non => cases v.non_inv; rfl
  | bl _ => cases v.bl_inv; rfl
  | int _ => cases v.int_inv; rfl
  | str _ => cases v.str_inv; rfl
  | tup _ => obtain ⟨_, rfl, _⟩ := v.tup_inv; rfl
  | rol _ => obtain ⟨_, _, rfl, _⟩ := v.rol_inv; rfl
  | ref _ => cases v.ref_inv; rfl
  | obj _ _ => obtain ⟨_, rfl, _⟩ := v.obj_inv; rfl
theorem isObj_vf {O : Own} {S : Sto} {x x1 : D} (v : VF p O S x x1) : isObj x1 = isObj x := isObj_vt v.vt
theorem isoK_vt {O : Own} {S : Sto} {x x1 : D} (v : VT p O S x x1) (h : isoK x = true) : isoK x1 = true := by
  cases x with
  | non => cases v.non_inv; rfl
  | bl _ => cases v.bl_inv; rfl
  | int _ => cases v.int_inv; rfl
  | str _ => cases v.str_inv; rfl
  | tup _ => obtain ⟨_, rfl, _⟩ := v.tup_inv; rfl
  | rol _ => cases h
  | ref _ => cases h
  | obj _ _ => obtain ⟨_, rfl, _⟩ := v.obj_inv; rfl
theorem addOk_l {x y : D} (h : isObj x = false) : addOk x y = false := by cases x <;> first | rfl | cases h
theorem addOk_r {x y : D} (h : isObj y = false) : addOk x y = false := by cases x <;> cases y <;> first | rfl | cases h
theorem addOk_vf {O O' : Own} {S S' : Sto} {x x1 y y1 : D} (v : VF p O S x x1) (w : VF p O' S' y y1) : addOk x1 y1 = addOk x y := by
  have h1 := isObj_vf v
  have h2 := isObj_vf w
  cases hx : isObj x with
  | false => rw [hx] at h1; rw [addOk_l h1, addOk_l hx]
  | true =>
    cases hy : isObj y with
    | false => rw [hy] at h2; rw [addOk_r h2, addOk_r hy]
    | true =>
      obtain ⟨c, d, rfl⟩ := isObj_inv hx
      obtain ⟨c', d', rfl⟩ := isObj_inv hy
      obtain ⟨_, rfl, _⟩ := v.vt.obj_inv
      obtain ⟨_, rfl, _⟩ := w.vt.obj_inv
      rfl
theorem ocmV_ok {O : Own} {S : Sto} {g : Nat} (op : CmpOp) {sp : Spec2} {x y x1 y1 : D} {Q : QK} {Q1 : DK} (k : OkO p q O S g) (v : VF p O S x x1) (w : VF p O S y y1) (h : ocmV op sp x y g Q) (P : ∀ d2 d1 S' g', Q d2 g' → ExtB p S S' → Deck S' p q g' → VF p O S' d2 d1 → Q1 d1 S') : ocmD op (lift2 sp) x1 y1 S Q1 := by
  obtain ⟨hx, h⟩ := h
  refine ⟨by rw [isObj_vf v]; exact hx, ?_⟩
  have xy : ∀ {R : QK} {R1 : DK}, sp [x, y] g R → (∀ d2 d1 S' g', R d2 g' → ExtB p S S' → Deck S' p q g' → VF p O S' d2 d1 → R1 d1 S') → lift2 sp [x1, y1] S R1 := fun hs PP => ⟨p, q, O, g, [x, y], _, k, .cons v (.cons w .nil), hs, PP⟩
  have yx : ∀ {R : QK} {R1 : DK}, sp [y, x] g R → (∀ d2 d1 S' g', R d2 g' → ExtB p S S' → Deck S' p q g' → VF p O S' d2 d1 → R1 d1 S') → lift2 sp [y1, x1] S R1 := fun hs PP => ⟨p, q, O, g, [y, x], _, k, .cons w (.cons v .nil), hs, PP⟩
  have neg : ∀ d2 d1 S' g', (∃ b, d2 = .bl b ∧ Q (.bl (!b)) g') → ExtB p S S' → Deck S' p q g' → VF p O S' d2 d1 → ∃ b, d1 = .bl b ∧ Q1 (.bl (!b)) S' := fun d2 d1 S' g' ⟨b, e, hq⟩ e' dk' v' => by
    subst e
    cases v'.vt.bl_inv
    exact ⟨b, rfl, P _ _ _ _ hq e' dk' .b⟩
  cases op <;> try exact h.elim
  case Eq => exact ⟨isoK_vt w.vt h.1, xy h.2.1 P, fun ho => yx (h.2.2 (by rw [← isObj_vf w]; exact ho)) P⟩
  case NotEq => exact ⟨isoK_vt w.vt h.1, xy h.2.1 neg, fun ho => yx (h.2.2 (by rw [← isObj_vf w]; exact ho)) neg⟩
  case Lt => exact ⟨by rw [isObj_vf w]; exact h.1, xy h.2 P⟩
  case LtE => exact ⟨by rw [isObj_vf w]; exact h.1, xy h.2 P⟩
  case Gt => exact ⟨by rw [isObj_vf w]; exact h.1, yx h.2 P⟩
  case GtE => exact ⟨by rw [isObj_vf w]; exact h.1, yx h.2 P⟩
theorem src_ok {O : Own} {S : Sto} {b : Bool} {x x1 : D} {xs : List D} (v : VB b p O S x x1) (h : itV x = some xs) : ∃ es G, srcD S x1 = some (es, G) ∧ VFs p O S xs es ∧ ∀ S'', ExtO b p O S S'' → G S'' := by
  cases x with
  | tup ds =>
    cases h
    obtain ⟨es, rfl, w⟩ := v.vt.tup_inv
    exact ⟨es, _, rfl, w, fun _ _ => trivial⟩
  | str z =>
    cases h
    cases v.vt.str_inv
    exact ⟨_, _, rfl, vmap_str z, fun _ _ => trivial⟩
  | rol ds =>
    cases h
    unfold VB at v
    cases b
    · simp only [Bool.false_eq_true, if_false, VF] at v
      obtain ⟨a, es, rfl, n, np, s, w⟩ := v
      exact ⟨es, _, by simp only [srcD, s], w, fun S'' e => e a _ (.inr n) np s⟩
    · simp only [if_true] at v
      obtain ⟨a, es, rfl, np, s, w⟩ := v.rol_inv
      exact ⟨es, _, by simp only [srcD, s], w, fun S'' e => e a _ (.inl rfl) np s⟩
  | _ => cases h
theorem iter_ok {O : Own} {S : Sto} {b : Bool} {x x1 : D} {xs : List D} (v : VB b p O S x x1) (h : itV x = some xs) {K : IK} (k : ∀ es G, VFs p O S xs es → (∀ S'', ExtO b p O S S'' → G S'') → K es G S) : iterD x1 S K := by
  cases x with
  | tup ds =>
    cases h
    obtain ⟨es, rfl, w⟩ := v.vt.tup_inv
    exact k _ _ w fun _ _ => trivial
  | str z =>
    cases h
    cases v.vt.str_inv
    exact k _ _ (vmap_str z) fun _ _ => trivial
  | rol ds =>
    cases h
    unfold VB at v
    cases b
    · simp only [Bool.false_eq_true, if_false, VF] at v
      obtain ⟨a, es, rfl, n, np, s, w⟩ := v
      exact ⟨es, s, k _ _ w fun S'' e => e a _ (.inr n) np s⟩
    · simp only [if_true] at v
      obtain ⟨a, es, rfl, np, s, w⟩ := v.rol_inv
      exact ⟨es, s, k _ _ w fun S'' e => e a _ (.inl rfl) np s⟩
  | _ => cases h
theorem lc_ok {O : Own} {S1 : Sto} {a : Addr} {G : Sto → Prop} {b2 : D → Nat → (Option D → Nat → Prop) → Prop} {b1 : D → Sto → (Option D → Sto → Prop) → Prop} {Q : List D → Nat → Prop} {Q1 : Sto → Prop} (fa : S1 a = none)
    (hG : ∀ S, ExtB p S1 S → G S)
    (hb : ∀ x x1 S g k2 k1, OkO p q (fun c => O c ∨ c = a) S g → ExtB p S1 S → VF p (fun c => O c ∨ c = a) S x x1 → b2 x g k2 →
      (∀ y y1 S' g', k2 y g' → ExtB p S S' → Deck S' p q g' → (match y, y1 with | none, none => True | some y, some y1 => VF p (fun c => O c ∨ c = a) S' y y1 | _, _ => False) → k1 y1 S') → b1 x1 S k1) :
    ∀ (xs xs1 acc acc1 : List D) (S : Sto) (g : Nat), OkO p q (fun c => O c ∨ c = a) S g → ExtB p S1 S → S a = some (.lst acc1) → VFs p (fun c => O c ∨ c = a) S acc acc1 → VFs p (fun c => O c ∨ c = a) S xs xs1 →
      lcV b2 Q xs acc g → (∀ acc acc1 S g, Q acc g → OkO p q (fun c => O c ∨ c = a) S g → ExtB p S1 S → S a = some (.lst acc1) → VFs p (fun c => O c ∨ c = a) S acc acc1 → Q1 S) → lcRun a G b1 Q1 xs1 acc1 S
  | [], xs1, acc, acc1, S, g, k, e, sa, va, vx, h, hq => by
    simp only [VFs] at vx
    subst vx
    simp only [lcV] at h
    simp only [lcRun]
    exact hq _ _ _ _ h k e sa va
  | x :: xs, xs1, acc, acc1, S, g, k, e, sa, va, vx, h, hq => by
    simp only [VFs] at vx
    obtain ⟨x1, r, rfl, v, w⟩ := vx
    simp only [lcV] at h
    simp only [lcRun]
    have hap : a ≠ p := fun z => k.np (.inr z.symm)
    refine hb x x1 S g _ _ k e v h fun y y1 S' g' h' e' dk' vy => ?_
    have k' := k.ext e' dk'
    have sa' := e' a _ hap sa
    refine ⟨sa', ?_⟩
    cases y with
    | none =>
      cases y1 with
      | some _ => exact vy.elim
      | none =>
        simp only at h' ⊢
        exact ⟨hG _ (e.trans e'), lc_ok fa hG hb xs r acc acc1 S' g' k' (e.trans e') sa' (va.ext e') (w.ext e') h' hq⟩
    | some y =>
      cases y1 with
      | none => exact vy.elim
      | some y1 =>
        simp only at h' vy ⊢
        have hl : acc1.length < 16777216 := by rw [← va.length]; exact h'.1
        have e'' : ExtB p S1 (put S' a (.lst (acc1 ++ [y1]))) := fun c o nc s => by
          rw [put_ne (fun z => by rw [z, fa] at s; cases s)]
          exact e' c o nc (e c o nc s)
        have k'' : OkO p q (fun c => O c ∨ c = a) (put S' a (.lst (acc1 ++ [y1]))) g' := by
          refine ⟨k'.dk.put (fun z => hap z.symm) (fun z => k.nq (.inr z)), fun c hc z => ?_, k.np, k.nq⟩
          by_cases hca : c = a
          · rw [hca, put_same] at z; cases z
          · rw [put_ne hca] at z; exact k'.dom c hc z
        exact ⟨hl, hG _ e'', lc_ok fa hG hb xs r (acc ++ [y]) (acc1 ++ [y1]) _ g' k'' e'' put_same (((va.ext e').append (.cons vy .nil)).write (.inr rfl)) ((w.ext e').write (.inr rfl)) h'.2 hq⟩
mutual
theorem sndE : ∀ (e : Ex) {b : Bool} {O : Own} {env env1 : En} {S : Sto} {g : Nat} {Q : QK} {Q1 : DK}, OkO p q O S g → RelV2 p O M S env env1 → wqE M Φ e b env g Q → PE2 b p q O S Q Q1 → wpE (tab1 Φ) e env1 S Q1
  | .var i, b, O, env, env1, S, g, Q, Q1, k, r, h, P => by
    simp only [wqE] at h
    obtain ⟨hb, d, e, h⟩ := h
    obtain ⟨d1, e1, v⟩ := r.var i d e
    simp only [wpE]
    refine ⟨d1, e1, P d d1 S g h ExtB.refl k.dk ?_⟩
    cases b with
    | true => exact v.vt
    | false =>
      have ho : ownB M i = false := by simpa using hb
      rw [ho] at v
      exact v
  | .con d, b, O, env, env1, S, g, Q, Q1, k, r, h, P => by
    simp only [wqE] at h
    simp only [wpE]
    refine P d d S g h.2 ExtB.refl k.dk (VF.vb _ ?_)
    cases d <;> first | exact .n | exact .b | exact .i | exact .s | cases h.1
  | .bin op a c, b, O, env, env1, S, g, Q, Q1, k, r, h, P => by
    simp only [wqE] at h
    simp only [wpE]
    refine sndE a k r h fun x x1 S1 g1 h1 e1 dk1 v1 => sndE c (k.ext e1 dk1) (r.ext e1) h1 fun y y1 S2 g2 h2 e2 dk2 v2 => ?_
    exact opV_ok op (k.ext (e1.trans e2) dk2) (v1.vt.ext e2) v2.vt h2 (post_of P (e1.trans e2))
  | .neg a, b, O, env, env1, S, g, Q, Q1, k, r, h, P => by
    simp only [wqE] at h
    simp only [wpE]
    exact sndE a k r h fun x x1 S1 g1 h1 e1 dk1 v1 => negV_ok (k.ext e1 dk1) v1.vt h1 (post_of P e1)
  | .not a, b, O, env, env1, S, g, Q, Q1, k, r, h, P => by
    simp only [wqE] at h
    simp only [wpE]
    refine sndE a k r h fun x x1 S1 g1 h1 e1 dk1 v1 => truthV_ok v1.vt ?_
    revert h1
    cases x <;> simp only [truthV] <;> first | exact fun h => h.elim | exact fun h => P _ _ _ _ h e1 dk1 (VF.vb _ .b) | exact fun h => ⟨h.1, P _ _ _ _ h.2 e1 dk1 (VF.vb _ .b)⟩
  | .cmp op a c, b, O, env, env1, S, g, Q, Q1, k, r, h, P => by
    simp only [wqE] at h
    simp only [wpE]
    refine sndE a k r h fun x x1 S1 g1 h1 e1 dk1 v1 => sndE c (k.ext e1 dk1) (r.ext e1) h1 fun y y1 S2 g2 h2 e2 dk2 v2 => ?_
    exact cmpV_ok op (k.ext (e1.trans e2) dk2) (v1.vt.ext e2) v2.vt h2 (post_of P (e1.trans e2))
  | .chain o1 o2 a c d, b, O, env, env1, S, g, Q, Q1, k, r, h, P => by
    simp only [wqE] at h
    simp only [wpE]
    refine sndE a k r h fun x x1 S1 g1 h1 e1 dk1 v1 => sndE c (k.ext e1 dk1) (r.ext e1) h1 fun y y1 S2 g2 h2 e2 dk2 v2 => ?_
    have e12 := e1.trans e2
    refine cmpV_ok o1 (k.ext e12 dk2) (v1.vt.ext e2) v2.vt h2 fun z z1 S3 h3 e3 dk3 v3 => ?_
    obtain ⟨t, rfl, h3⟩ := h3
    have e13 := e12.trans e3
    refine ⟨t, v3.vt.bl_inv, ?_⟩
    cases t with
    | false => simp only [Bool.false_eq_true, if_false] at h3 ⊢; exact P _ _ _ _ h3 e13 dk3 (VF.vb _ .b)
    | true =>
      simp only [if_true] at h3 ⊢
      refine sndE d (k.ext e13 dk3) (r.ext e13) h3 fun w w1 S4 g4 h4 e4 dk4 v4 => ?_
      exact cmpV_ok o2 (k.ext (e13.trans e4) dk4) (v2.vt.ext (e3.trans e4)) v4.vt h4 (post_of P (e13.trans e4))
  | .and a c, b, O, env, env1, S, g, Q, Q1, k, r, h, P => by
    simp only [wqE] at h
    simp only [wpE]
    refine sndE a k r h fun x x1 S1 g1 h1 e1 dk1 v1 => truthV_ok v1.vt ?_
    have fin : ∀ t : Bool, (if t = true then wqE M Φ c b env g1 Q else Q x g1) → (if t = true then wpE (tab1 Φ) c env1 S1 Q1 else Q1 x1 S1) := fun t ht => by
      cases t with
      | false => simp only [Bool.false_eq_true, if_false] at ht ⊢; exact P _ _ _ _ ht e1 dk1 v1
      | true =>
        simp only [if_true] at ht ⊢
        exact sndE c (k.ext e1 dk1) (r.ext e1) ht fun y y1 S2 g2 h2 e2 dk2 v2 => P _ _ _ _ h2 (e1.trans e2) dk2 v2
    revert h1
    cases x <;> simp only [truthV] <;> first | exact fun h => h.elim | exact fun h => ⟨h.1, fin _ h.2⟩ | exact fun h => fin _ h
  | .or a c, b, O, env, env1, S, g, Q, Q1, k, r, h, P => by
    simp only [wqE] at h
    simp only [wpE]
    refine sndE a k r h fun x x1 S1 g1 h1 e1 dk1 v1 => truthV_ok v1.vt ?_
    have fin : ∀ t : Bool, (if t = true then Q x g1 else wqE M Φ c b env g1 Q) → (if t = true then Q1 x1 S1 else wpE (tab1 Φ) c env1 S1 Q1) := fun t ht => by
      cases t with
      | true => simp only [if_true] at ht ⊢; exact P _ _ _ _ ht e1 dk1 v1
      | false =>
        simp only [Bool.false_eq_true, if_false] at ht ⊢
        exact sndE c (k.ext e1 dk1) (r.ext e1) ht fun y y1 S2 g2 h2 e2 dk2 v2 => P _ _ _ _ h2 (e1.trans e2) dk2 v2
    revert h1
    cases x <;> simp only [truthV] <;> first | exact fun h => h.elim | exact fun h => ⟨h.1, fin _ h.2⟩ | exact fun h => fin _ h
  | .ite c a d, b, O, env, env1, S, g, Q, Q1, k, r, h, P => by
    simp only [wqE] at h
    simp only [wpE]
    refine sndT c k r h fun t S1 g1 h1 e1 dk1 => ?_
    cases t with
    | true => simp only [if_true] at h1 ⊢; exact sndE a (k.ext e1 dk1) (r.ext e1) h1 fun y y1 S2 g2 h2 e2 dk2 v2 => P _ _ _ _ h2 (e1.trans e2) dk2 v2
    | false => simp only [Bool.false_eq_true, if_false] at h1 ⊢; exact sndE d (k.ext e1 dk1) (r.ext e1) h1 fun y y1 S2 g2 h2 e2 dk2 v2 => P _ _ _ _ h2 (e1.trans e2) dk2 v2
  | .call f as, b, O, env, env1, S, g, Q, Q1, k, r, h, P => by
    simp only [wqE] at h
    simp only [wpE]
    obtain ⟨sp, hf, h⟩ := h
    refine ⟨lift2 sp, by simp only [tab1, hf], sndA as k r h fun ds es S1 g1 h1 e1 dk1 v1 => ?_⟩
    simp only [Bool.false_eq_true, if_false] at v1
    exact ⟨p, q, O, g1, ds, Q, k.ext e1 dk1, v1, h1, fun d2 d1 S' g' hQ e' dk' v' => P _ _ _ _ hQ (e1.trans e') dk' (v'.vb _)⟩
  | .bi f as, b, O, env, env1, S, g, Q, Q1, k, r, h, P => by
    simp only [wqE] at h
    simp only [wpE]
    refine sndA as k r h fun ds es S1 g1 h1 e1 dk1 v1 => ?_
    simp only [if_true] at v1
    exact biV_ok f (k.ext e1 dk1) v1 h1 (post_of P e1)
  | .mt m o as, b, O, env, env1, S, g, Q, Q1, k, r, h, P => by
    simp only [wqE] at h
    simp only [wpE]
    refine sndE o k r h fun x x1 S1 g1 h1 e1 dk1 v1 => ⟨?_, sndA as (k.ext e1 dk1) (r.ext e1) h1.2 fun ds es S2 g2 h2 e2 dk2 v2 => ?_⟩
    · have := h1.1
      cases m <;> cases x <;> first | exact this.elim | (cases v1.vt.str_inv; trivial) | (obtain ⟨a, fs, rfl, _, s, _⟩ := v1.vt.rol_inv; exact ⟨_, s⟩)
    · simp only [if_true] at v2
      exact (mtV_ok m (k.ext (e1.trans e2) dk2) (v1.vt.ext e2) v2 h2 (post_of P (e1.trans e2))).2
  | .tup as, b, O, env, env1, S, g, Q, Q1, k, r, h, P => by
    simp only [wqE] at h
    simp only [wpE]
    refine sndA as k r h fun ds es S1 g1 h1 e1 dk1 v1 => ?_
    simp only [Bool.false_eq_true, if_false] at v1
    exact ⟨by rw [← v1.length]; exact h1.1, P _ _ _ _ h1.2 e1 dk1 (VF.vb _ (.tup v1))⟩
  | .lst as, b, O, env, env1, S, g, Q, Q1, k, r, h, P => by
    simp only [wqE] at h
    simp only [wpE]
    refine sndA as k r h fun ds es S1 g1 h1 e1 dk1 v1 => ?_
    simp only [Bool.false_eq_true, if_false] at v1
    exact ⟨by rw [← v1.length]; exact h1.1, fun a f => (post_of P e1).new (R := fun d => Q d g1) (k.ext e1 dk1) h1.2 v1 a f⟩
  | .idx a c, b, O, env, env1, S, g, Q, Q1, k, r, h, P => by
    simp only [wqE] at h
    simp only [wpE]
    refine sndE a k r h fun x x1 S1 g1 h1 e1 dk1 v1 => sndE c (k.ext e1 dk1) (r.ext e1) h1 fun y y1 S2 g2 h2 e2 dk2 v2 => ?_
    exact idxV_ok (k.ext (e1.trans e2) dk2) (v1.vt.ext e2) v2.vt h2 (post_of P (e1.trans e2))
  | .sl a lo hi, b, O, env, env1, S, g, Q, Q1, k, r, h, P => by
    simp only [wqE] at h
    simp only [wpE]
    refine sndE a k r h fun x x1 S1 g1 h1 e1 dk1 v1 => sndO lo (k.ext e1 dk1) (r.ext e1) h1 fun l S2 g2 h2 e2 dk2 => ?_
    refine sndO hi (k.ext (e1.trans e2) dk2) (r.ext (e1.trans e2)) h2 fun l' S3 g3 h3 e3 dk3 => ?_
    exact slV_ok (k.ext (e1.trans (e2.trans e3)) dk3) (v1.vt.ext (e2.trans e3)) h3 (post_of P (e1.trans (e2.trans e3)))
  | .lc vs t it c e, b, O, env, env1, S, g, Q, Q1, k, r, h, P => by
    simp only [wqE] at h
    simp only [wpE]
    refine sndI it k r h fun xs xs1 G S1 g1 h1 e1 dk1 v1 hG a fa => ?_
    have k1 := k.ext e1 dk1
    obtain ⟨n1, n2, n3⟩ := k1.fresh fa
    have hG' : ∀ S', ExtB p S1 S' → G S' := fun S' e' => hG S' fun c o _ nc s => e' c o nc s
    have eA : ExtB p S1 (put S1 a (.lst [])) := (Ext.put fa).but
    have kA : OkO p q (fun c => O c ∨ c = a) (put S1 a (.lst [])) g1 := by
      refine ⟨dk1.put n1 n2, fun c hc z => ?_, fun z => z.elim k.np n1, fun z => z.elim k.nq n2⟩
      by_cases hca : c = a
      · rw [hca, put_same] at z; cases z
      · rw [put_ne hca] at z
        exact k1.dom c (hc.resolve_right hca) z
    refine ⟨hG' _ eA, ?_⟩
    refine lc_ok (q := q) (O := O) fa hG' (fun x x1 S2 g2 k2 k1' kk e2 v2 h2 hk => ?_) xs xs1 [] [] _ g1 kA eA put_same .nil ((v1.own fa).ext eA) h1 fun acc acc1 S2 g2 h2 kk e2 s2 v2 => ?_
    · have r2 : RelV2 p (fun c => O c ∨ c = a) M S2 (wipeD env vs) (wipeD env1 vs) := (((r.ext e1).own fa).ext e2).wipe vs
      refine wqP_ok t r2 v2 h2 fun env' env1' h3 r3 => ?_
      refine sndC c kk r3 h3 fun tt S3 g3 h4 e4 dk4 => ?_
      cases tt with
      | false =>
        simp only [Bool.false_eq_true, if_false] at h4 ⊢
        exact hk none none S3 g3 h4 e4 dk4 trivial
      | true =>
        simp only [if_true] at h4 ⊢
        refine sndE e (kk.ext e4 dk4) (r3.ext e4) h4 fun y y1 S4 g4 h5 e5 dk5 v5 => ?_
        exact hk (some y) (some y1) S4 g4 h5 (e4.trans e5) dk5 v5
    · refine P _ _ S2 g2 h2 (e1.trans e2) kk.dk (VF.vb _ ?_)
      simp only [VF]
      exact ⟨a, acc1, rfl, n3, fun z => n1 z.symm, s2, v2.less fun c hc => .inl hc⟩
  | .fs as, b, O, env, env1, S, g, Q, Q1, k, r, h, P => by
    simp only [wqE] at h
    simp only [wpE]
    exact sndJ as k r h fun x S1 g1 h1 e1 dk1 => P _ _ _ _ h1 e1 dk1 (VF.vb _ .s)
  | .att f a, b, O, env, env1, S, g, Q, Q1, k, r, h, P => by
    simp only [wqE] at h
    simp only [wpE]
    obtain ⟨sp, hf, h⟩ := h
    refine ⟨lift2 sp, by simp only [tab1, hf], sndE a k r h fun x x1 S1 g1 h1 e1 dk1 v1 => ?_⟩
    obtain ⟨c, d, rfl, h1⟩ := h1
    obtain ⟨e, rfl, v⟩ := v1.vt.obj_inv
    exact ⟨c, e, rfl, P _ _ _ _ h1 e1 dk1 (v.vb _)⟩
  | .prp f a, b, O, env, env1, S, g, Q, Q1, k, r, h, P => by
    simp only [wqE] at h
    simp only [wpE]
    obtain ⟨sp, hf, h⟩ := h
    refine ⟨lift2 sp, by simp only [tab1, hf], sndE a k r h fun x x1 S1 g1 h1 e1 dk1 v1 => ⟨by rw [isObj_vf v1]; exact h1.1, ?_⟩⟩
    exact ⟨p, q, O, g1, [x], Q, k.ext e1 dk1, .cons v1 .nil, h1.2, fun d2 d1 S' g' hQ e' dk' v' => P _ _ _ _ hQ (e1.trans e') dk' (v'.vb _)⟩
  | .meth f o as, b, O, env, env1, S, g, Q, Q1, k, r, h, P => by
    simp only [wqE] at h
    simp only [wpE]
    obtain ⟨sp, hf, h⟩ := h
    refine ⟨lift2 sp, by simp only [tab1, hf], sndE o k r h fun x x1 S1 g1 h1 e1 dk1 v1 => ⟨by rw [isObj_vf v1]; exact h1.1, sndA as (k.ext e1 dk1) (r.ext e1) h1.2 fun ds es S2 g2 h2 e2 dk2 v2 => ?_⟩⟩
    simp only [Bool.false_eq_true, if_false] at v2
    exact ⟨p, q, O, g2, x :: ds, Q, k.ext (e1.trans e2) dk2, .cons (VF.ext v1 e2) v2, h2, fun d2 d1 S' g' hQ e' dk' v' => P _ _ _ _ hQ ((e1.trans e2).trans e') dk' (v'.vb _)⟩
  | .oop f a c, b, O, env, env1, S, g, Q, Q1, k, r, h, P => by
    simp only [wqE] at h
    simp only [wpE]
    obtain ⟨sp, hf, h⟩ := h
    refine ⟨lift2 sp, by simp only [tab1, hf], sndE a k r h fun x x1 S1 g1 h1 e1 dk1 v1 => sndE c (k.ext e1 dk1) (r.ext e1) h1 fun y y1 S2 g2 h2 e2 dk2 v2 => ?_⟩
    exact ⟨by rw [addOk_vf v1 v2]; exact h2.1, p, q, O, g2, [x, y], Q, k.ext (e1.trans e2) dk2, .cons (VF.ext v1 e2) (.cons v2 .nil), h2.2, fun d2 d1 S' g' hQ e' dk' v' => P _ _ _ _ hQ ((e1.trans e2).trans e') dk' (v'.vb _)⟩
  | .ocm op f a c, b, O, env, env1, S, g, Q, Q1, k, r, h, P => by
    simp only [wqE] at h
    simp only [wpE]
    obtain ⟨sp, hf, h⟩ := h
    refine ⟨lift2 sp, by simp only [tab1, hf], sndE a k r h fun x x1 S1 g1 h1 e1 dk1 v1 => sndE c (k.ext e1 dk1) (r.ext e1) h1 fun y y1 S2 g2 h2 e2 dk2 v2 => ?_⟩
    exact ocmV_ok op (k.ext (e1.trans e2) dk2) (VF.ext v1 e2) v2 h2 fun d2 d1 S' g' hQ e' dk' v' => P _ _ _ _ hQ ((e1.trans e2).trans e') dk' (v'.vb _)
  | .iso f a, b, O, env, env1, S, g, Q, Q1, k, r, h, P => by
    simp only [wqE] at h
    simp only [wpE]
    obtain ⟨sp, hf, h⟩ := h
    refine ⟨lift2 sp, by simp only [tab1, hf], sndE a k r h fun x x1 S1 g1 h1 e1 dk1 v1 => ?_⟩
    exact ⟨isoK_vt v1.vt h1.1, by rw [isObj_vt v1.vt]; exact P _ _ _ _ h1.2 e1 dk1 (VF.vb _ .b)⟩
  | .nil, b, O, env, env1, S, g, Q, Q1, k, r, h, P => by simp only [wqE] at h
  | .cons _ _, b, O, env, env1, S, g, Q, Q1, k, r, h, P => by simp only [wqE] at h
  | .iE _, b, O, env, env1, S, g, Q, Q1, k, r, h, P => by simp only [wqE] at h
  | .iR1 _, b, O, env, env1, S, g, Q, Q1, k, r, h, P => by simp only [wqE] at h
  | .iR2 _ _, b, O, env, env1, S, g, Q, Q1, k, r, h, P => by simp only [wqE] at h
  | .iR3 _ _ _, b, O, env, env1, S, g, Q, Q1, k, r, h, P => by simp only [wqE] at h
  | .iZ _ _, b, O, env, env1, S, g, Q, Q1, k, r, h, P => by simp only [wqE] at h
  | .iN _, b, O, env, env1, S, g, Q, Q1, k, r, h, P => by simp only [wqE] at h
theorem sndT : ∀ (e : Ex) {O : Own} {env env1 : En} {S : Sto} {g : Nat} {Q : Bool → Nat → Prop} {Q1 : Bool → Sto → Prop}, OkO p q O S g → RelV2 p O M S env env1 → wqT M Φ e env g Q → PT2 p q S Q Q1 → wpT (tab1 Φ) e env1 S Q1
  | .not a, O, env, env1, S, g, Q, Q1, k, r, h, P => by
    simp only [wqT] at h
    simp only [wpT]
    exact sndT a k r h fun t S1 g1 h1 e1 dk1 => P _ _ _ h1 e1 dk1
  | .and a c, O, env, env1, S, g, Q, Q1, k, r, h, P => by
    simp only [wqT] at h
    simp only [wpT]
    refine sndT a k r h fun t S1 g1 h1 e1 dk1 => ?_
    cases t with
    | false => simp only [Bool.false_eq_true, if_false] at h1 ⊢; exact P _ _ _ h1 e1 dk1
    | true =>
      simp only [if_true] at h1 ⊢
      exact sndT c (k.ext e1 dk1) (r.ext e1) h1 fun t S2 g2 h2 e2 dk2 => P _ _ _ h2 (e1.trans e2) dk2
  | .or a c, O, env, env1, S, g, Q, Q1, k, r, h, P => by
    simp only [wqT] at h
    simp only [wpT]
    refine sndT a k r h fun t S1 g1 h1 e1 dk1 => ?_
    cases t with
    | true => simp only [if_true] at h1 ⊢; exact P _ _ _ h1 e1 dk1
    | false =>
      simp only [Bool.false_eq_true, if_false] at h1 ⊢
      exact sndT c (k.ext e1 dk1) (r.ext e1) h1 fun t S2 g2 h2 e2 dk2 => P _ _ _ h2 (e1.trans e2) dk2
  | .cmp op a c, O, env, env1, S, g, Q, Q1, k, r, h, P => by
    simp only [wqT] at h
    simp only [wpT]
    refine sndE a k r h fun x x1 S1 g1 h1 e1 dk1 v1 => sndE c (k.ext e1 dk1) (r.ext e1) h1 fun y y1 S2 g2 h2 e2 dk2 v2 => ?_
    refine cmpV_ok op (k.ext (e1.trans e2) dk2) (v1.vt.ext e2) v2.vt h2 fun z z1 S3 h3 e3 dk3 v3 => ?_
    obtain ⟨t, rfl, h3⟩ := h3
    exact ⟨t, v3.vt.bl_inv, P _ _ _ h3 (e1.trans (e2.trans e3)) dk3⟩
  | .chain o1 o2 a c d, O, env, env1, S, g, Q, Q1, k, r, h, P => by
    simp only [wqT] at h
    simp only [wpT]
    refine sndE a k r h fun x x1 S1 g1 h1 e1 dk1 v1 => sndE c (k.ext e1 dk1) (r.ext e1) h1 fun y y1 S2 g2 h2 e2 dk2 v2 => ?_
    have e12 := e1.trans e2
    refine cmpV_ok o1 (k.ext e12 dk2) (v1.vt.ext e2) v2.vt h2 fun z z1 S3 h3 e3 dk3 v3 => ?_
    obtain ⟨t, rfl, h3⟩ := h3
    have e13 := e12.trans e3
    refine ⟨t, v3.vt.bl_inv, ?_⟩
    cases t with
    | false => simp only [Bool.false_eq_true, if_false] at h3 ⊢; exact P _ _ _ h3 e13 dk3
    | true =>
      simp only [if_true] at h3 ⊢
      refine sndE d (k.ext e13 dk3) (r.ext e13) h3 fun w w1 S4 g4 h4 e4 dk4 v4 => ?_
      refine cmpV_ok o2 (k.ext (e13.trans e4) dk4) (v2.vt.ext (e3.trans e4)) v4.vt h4 fun z z1 S5 h5 e5 dk5 v5 => ?_
      obtain ⟨t, rfl, h5⟩ := h5
      exact ⟨t, v5.vt.bl_inv, P _ _ _ h5 (e13.trans (e4.trans e5)) dk5⟩
  | .var i, O, env, env1, S, g, Q, Q1, k, r, h, P => by
    simp only [wqT] at h
    obtain ⟨d, e, h⟩ := h
    obtain ⟨d1, e1, v⟩ := r.var i d e
    simp only [wpT]
    refine ⟨d1, e1, truthV_ok v.vt (truthV_mono h fun b hb => P _ _ _ hb ExtB.refl k.dk)⟩
  | .call f as, O, env, env1, S, g, Q, Q1, k, r, h, P => by
    simp only [wqT] at h
    simp only [wpT]
    obtain ⟨sp, hf, h⟩ := h
    refine ⟨lift2 sp, by simp only [tab1, hf], sndA as k r h fun ds es S1 g1 h1 e1 dk1 v1 => ?_⟩
    simp only [Bool.false_eq_true, if_false] at v1
    exact ⟨p, q, O, g1, ds, _, k.ext e1 dk1, v1, h1, fun d2 d1 S' g' hQ e' dk' v' => truthV_ok v'.vt (truthV_mono hQ fun b hb => P _ _ _ hb (e1.trans e') dk')⟩
  | .bi f as, O, env, env1, S, g, Q, Q1, k, r, h, P => by
    simp only [wqT] at h
    simp only [wpT]
    refine sndA as k r h fun ds es S1 g1 h1 e1 dk1 v1 => ?_
    simp only [if_true] at v1
    exact biV_ok f (k.ext e1 dk1) v1 h1 fun d2 d1 S' hQ e' dk' v' => truthV_ok v'.vt (truthV_mono hQ fun b hb => P _ _ _ hb (e1.trans e') dk')
  | .idx a c, O, env, env1, S, g, Q, Q1, k, r, h, P => by
    simp only [wqT] at h
    simp only [wpT]
    refine sndE a k r h fun x x1 S1 g1 h1 e1 dk1 v1 => sndE c (k.ext e1 dk1) (r.ext e1) h1 fun y y1 S2 g2 h2 e2 dk2 v2 => ?_
    exact idxV_ok (k.ext (e1.trans e2) dk2) (v1.vt.ext e2) v2.vt h2 fun d2 d1 S' hQ e' dk' v' => truthV_ok v'.vt (truthV_mono hQ fun b hb => P _ _ _ hb (e1.trans (e2.trans e')) dk')
  | .ocm op f a c, O, env, env1, S, g, Q, Q1, k, r, h, P => by
    simp only [wqT] at h
    simp only [wpT]
    obtain ⟨sp, hf, h⟩ := h
    refine ⟨lift2 sp, by simp only [tab1, hf], sndE a k r h fun x x1 S1 g1 h1 e1 dk1 v1 => sndE c (k.ext e1 dk1) (r.ext e1) h1 fun y y1 S2 g2 h2 e2 dk2 v2 => ?_⟩
    refine ocmV_ok op (k.ext (e1.trans e2) dk2) (VF.ext v1 e2) v2 h2 fun d2 d1 S' g' hQ e' dk' v' => ?_
    obtain ⟨t, rfl, hQ⟩ := hQ
    exact ⟨t, v'.vt.bl_inv, P _ _ _ hQ ((e1.trans e2).trans e') dk'⟩
  | .iso f a, O, env, env1, S, g, Q, Q1, k, r, h, P => by
    simp only [wqT] at h
    simp only [wpT]
    obtain ⟨sp, hf, h⟩ := h
    refine ⟨lift2 sp, by simp only [tab1, hf], sndE a k r h fun x x1 S1 g1 h1 e1 dk1 v1 => ?_⟩
    exact ⟨isoK_vt v1.vt h1.1, _, rfl, by rw [isObj_vt v1.vt]; exact P _ _ _ h1.2 e1 dk1⟩
  | .con _, O, env, env1, S, g, Q, Q1, k, r, h, P => by simp only [wqT] at h
  | .bin _ _ _, O, env, env1, S, g, Q, Q1, k, r, h, P => by simp only [wqT] at h
  | .neg _, O, env, env1, S, g, Q, Q1, k, r, h, P => by simp only [wqT] at h
  | .ite _ _ _, O, env, env1, S, g, Q, Q1, k, r, h, P => by simp only [wqT] at h
  | .mt _ _ _, O, env, env1, S, g, Q, Q1, k, r, h, P => by simp only [wqT] at h
  | .tup _, O, env, env1, S, g, Q, Q1, k, r, h, P => by simp only [wqT] at h
  | .lst _, O, env, env1, S, g, Q, Q1, k, r, h, P => by simp only [wqT] at h
  | .sl _ _ _, O, env, env1, S, g, Q, Q1, k, r, h, P => by simp only [wqT] at h
  | .lc _ _ _ _ _, O, env, env1, S, g, Q, Q1, k, r, h, P => by simp only [wqT] at h
  | .fs _, O, env, env1, S, g, Q, Q1, k, r, h, P => by simp only [wqT] at h
  | .nil, O, env, env1, S, g, Q, Q1, k, r, h, P => by simp only [wqT] at h
  | .cons _ _, O, env, env1, S, g, Q, Q1, k, r, h, P => by simp only [wqT] at h
  | .iE _, O, env, env1, S, g, Q, Q1, k, r, h, P => by simp only [wqT] at h
  | .iR1 _, O, env, env1, S, g, Q, Q1, k, r, h, P => by simp only [wqT] at h
  | .iR2 _ _, O, env, env1, S, g, Q, Q1, k, r, h, P => by simp only [wqT] at h
  | .iR3 _ _ _, O, env, env1, S, g, Q, Q1, k, r, h, P => by simp only [wqT] at h
  | .att _ _, O, env, env1, S, g, Q, Q1, k, r, h, P => by simp only [wqT] at h
  | .prp _ _, O, env, env1, S, g, Q, Q1, k, r, h, P => by simp only [wqT] at h
  | .meth _ _ _, O, env, env1, S, g, Q, Q1, k, r, h, P => by simp only [wqT] at h
  | .oop _ _ _, O, env, env1, S, g, Q, Q1, k, r, h, P => by simp only [wqT] at h
  | .iZ _ _, O, env, env1, S, g, Q, Q1, k, r, h, P => by simp only [wqT] at h
  | .iN _, O, env, env1, S, g, Q, Q1, k, r, h, P => by simp only [wqT] at h
theorem sndC (e : Ex) {O : Own} {env env1 : En} {S : Sto} {g : Nat} {Q : Bool → Nat → Prop} {Q1 : Bool → Sto → Prop} (k : OkO p q O S g) (r : RelV2 p O M S env env1) (h : wqC M Φ e env g Q) (P : PT2 p q S Q Q1) : wpC (tab1 Φ) e env1 S Q1 := by
  cases e with
  | nil => simp only [wqC] at h; simp only [wpC]; exact P _ _ _ h ExtB.refl k.dk
  | cons c t => simp only [wqC] at h; simp only [wpC]; exact sndT c k r h P
  | _ => simp only [wqC] at h
theorem sndA : ∀ (e : Ex) {b : Bool} {O : Own} {env env1 : En} {S : Sto} {g : Nat} {Q : List D → Nat → Prop} {Q1 : List D → Sto → Prop}, OkO p q O S g → RelV2 p O M S env env1 → wqA M Φ e b env g Q → PA2 b p q O S Q Q1 → wpA (tab1 Φ) e env1 S Q1
  | .nil, b, O, env, env1, S, g, Q, Q1, k, r, h, P => by
    simp only [wqA] at h; simp only [wpA]
    refine P _ _ _ _ h ExtB.refl k.dk ?_
    split
    · exact rfl
    · exact .nil
  | .cons a t, b, O, env, env1, S, g, Q, Q1, k, r, h, P => by
    simp only [wqA] at h; simp only [wpA]
    refine sndE a k r h fun x x1 S1 g1 h1 e1 dk1 v1 => sndA t (k.ext e1 dk1) (r.ext e1) h1 fun ds es S2 g2 h2 e2 dk2 v2 => P _ _ _ _ h2 (e1.trans e2) dk2 ?_
    cases b with
    | true => simp only [if_true] at v2 ⊢; exact VTs.cons (v1.vt.ext e2) v2
    | false => simp only [Bool.false_eq_true, if_false] at v2 ⊢; exact VFs.cons (VF.ext v1 e2) v2
  | .var _, b, O, env, env1, S, g, Q, Q1, k, r, h, P => by simp only [wqA] at h
  | .con _, b, O, env, env1, S, g, Q, Q1, k, r, h, P => by simp only [wqA] at h
  | .bin _ _ _, b, O, env, env1, S, g, Q, Q1, k, r, h, P => by simp only [wqA] at h
  | .neg _, b, O, env, env1, S, g, Q, Q1, k, r, h, P => by simp only [wqA] at h
  | .not _, b, O, env, env1, S, g, Q, Q1, k, r, h, P => by simp only [wqA] at h
  | .cmp _ _ _, b, O, env, env1, S, g, Q, Q1, k, r, h, P => by simp only [wqA] at h
  | .chain _ _ _ _ _, b, O, env, env1, S, g, Q, Q1, k, r, h, P => by simp only [wqA] at h
  | .and _ _, b, O, env, env1, S, g, Q, Q1, k, r, h, P => by simp only [wqA] at h
  | .or _ _, b, O, env, env1, S, g, Q, Q1, k, r, h, P => by simp only [wqA] at h
  | .ite _ _ _, b, O, env, env1, S, g, Q, Q1, k, r, h, P => by simp only [wqA] at h
  | .call _ _, b, O, env, env1, S, g, Q, Q1, k, r, h, P => by simp only [wqA] at h
  | .bi _ _, b, O, env, env1, S, g, Q, Q1, k, r, h, P => by simp only [wqA] at h
  | .mt _ _ _, b, O, env, env1, S, g, Q, Q1, k, r, h, P => by simp only [wqA] at h
  | .tup _, b, O, env, env1, S, g, Q, Q1, k, r, h, P => by simp only [wqA] at h
  | .lst _, b, O, env, env1, S, g, Q, Q1, k, r, h, P => by simp only [wqA] at h
  | .idx _ _, b, O, env, env1, S, g, Q, Q1, k, r, h, P => by simp only [wqA] at h
  | .sl _ _ _, b, O, env, env1, S, g, Q, Q1, k, r, h, P => by simp only [wqA] at h
  | .lc _ _ _ _ _, b, O, env, env1, S, g, Q, Q1, k, r, h, P => by simp only [wqA] at h
  | .fs _, b, O, env, env1, S, g, Q, Q1, k, r, h, P => by simp only [wqA] at h
  | .iE _, b, O, env, env1, S, g, Q, Q1, k, r, h, P => by simp only [wqA] at h
  | .iR1 _, b, O, env, env1, S, g, Q, Q1, k, r, h, P => by simp only [wqA] at h
  | .iR2 _ _, b, O, env, env1, S, g, Q, Q1, k, r, h, P => by simp only [wqA] at h
  | .iR3 _ _ _, b, O, env, env1, S, g, Q, Q1, k, r, h, P => by simp only [wqA] at h
  | .att _ _, b, O, env, env1, S, g, Q, Q1, k, r, h, P => by simp only [wqA] at h
  | .prp _ _, b, O, env, env1, S, g, Q, Q1, k, r, h, P => by simp only [wqA] at h
  | .meth _ _ _, b, O, env, env1, S, g, Q, Q1, k, r, h, P => by simp only [wqA] at h
  | .oop _ _ _, b, O, env, env1, S, g, Q, Q1, k, r, h, P => by simp only [wqA] at h
  | .ocm _ _ _ _, b, O, env, env1, S, g, Q, Q1, k, r, h, P => by simp only [wqA] at h
  | .iso _ _, b, O, env, env1, S, g, Q, Q1, k, r, h, P => by simp only [wqA] at h
  | .iZ _ _, b, O, env, env1, S, g, Q, Q1, k, r, h, P => by simp only [wqA] at h
  | .iN _, b, O, env, env1, S, g, Q, Q1, k, r, h, P => by simp only [wqA] at h
theorem sndO (e : Ex) {O : Own} {env env1 : En} {S : Sto} {g : Nat} {Q : Option Int → Nat → Prop} {Q1 : Option Int → Sto → Prop} (k : OkO p q O S g) (r : RelV2 p O M S env env1) (h : wqO M Φ e env g Q) (P : PO2 p q S Q Q1) : wpO (tab1 Φ) e env1 S Q1 := by
  cases e with
  | nil => simp only [wqO] at h; simp only [wpO]; exact P _ _ _ h ExtB.refl k.dk
  | cons c t =>
    simp only [wqO] at h; simp only [wpO]
    refine sndE c k r h fun x x1 S1 g1 h1 e1 dk1 v1 => ?_
    obtain ⟨i, rfl, h1⟩ := h1
    exact ⟨i, v1.vt.int_inv, P _ _ _ h1 e1 dk1⟩
  | _ => simp only [wqO] at h
theorem sndI (e : Ex) {b : Bool} {O : Own} {env env1 : En} {S : Sto} {g : Nat} {Q : List D → Nat → Prop} {K : IK} (k : OkO p q O S g) (r : RelV2 p O M S env env1) (h : wqI M Φ e b env g Q) (P : PI2 b p q O S Q K) : wpI (tab1 Φ) e env1 S K := by
  cases e with
  | iE a =>
    simp only [wqI] at h; simp only [wpI]
    refine sndE a k r h fun x x1 S1 g1 h1 e1 dk1 v1 => ?_
    obtain ⟨xs, hx, h1⟩ := h1
    exact iter_ok v1 hx fun es G w hG => P _ _ _ _ _ h1 e1 dk1 w hG
  | iR1 a =>
    simp only [wqI] at h; simp only [wpI]
    refine sndE a k r h fun x x1 S1 g1 h1 e1 dk1 v1 => ?_
    cases x <;> try exact h1.elim
    cases v1.vt.int_inv
    exact ⟨h1.1, P _ _ _ _ _ h1.2 e1 dk1 vmap_rng fun _ _ => trivial⟩
  | iR2 a c =>
    simp only [wqI] at h; simp only [wpI]
    refine sndE a k r h fun x x1 S1 g1 h1 e1 dk1 v1 => sndE c (k.ext e1 dk1) (r.ext e1) h1 fun y y1 S2 g2 h2 e2 dk2 v2 => ?_
    cases x <;> cases y <;> try exact h2.elim
    cases v1.vt.int_inv; cases v2.vt.int_inv
    exact ⟨h2.1, h2.2.1, P _ _ _ _ _ h2.2.2 (e1.trans e2) dk2 vmap_rng fun _ _ => trivial⟩
  | iR3 a c d =>
    simp only [wqI] at h; simp only [wpI]
    refine sndE a k r h fun x x1 S1 g1 h1 e1 dk1 v1 => sndE c (k.ext e1 dk1) (r.ext e1) h1 fun y y1 S2 g2 h2 e2 dk2 v2 => sndE d (k.ext (e1.trans e2) dk2) (r.ext (e1.trans e2)) h2 fun z z1 S3 g3 h3 e3 dk3 v3 => ?_
    cases x <;> cases y <;> cases z <;> try exact h3.elim
    cases v1.vt.int_inv; cases v2.vt.int_inv; cases v3.vt.int_inv
    exact ⟨h3.1, h3.2.1, h3.2.2.1, P _ _ _ _ _ h3.2.2.2 ((e1.trans e2).trans e3) dk3 (vmap_int _) fun _ _ => trivial⟩
  | iZ a c =>
    simp only [wqI] at h; simp only [wpI]
    refine sndE a k r h fun x x1 S1 g1 h1 e1 dk1 v1 => sndE c (k.ext e1 dk1) (r.ext e1) h1 fun y y1 S2 g2 h2 e2 dk2 v2 => ?_
    obtain ⟨xs, ys, hx, hy, h2⟩ := h2
    obtain ⟨es, G, s1, w1, hG1⟩ := src_ok (v1.ext e2) hx
    obtain ⟨fs, G', s2, w2, hG2⟩ := src_ok v2 hy
    exact ⟨es, G, fs, G', s1, s2, P _ _ _ _ _ h2 (e1.trans e2) dk2 (zip_ok w1 w2) fun S' e' => ⟨hG1 S' e', hG2 S' e'⟩⟩
  | iN a =>
    simp only [wqI] at h; simp only [wpI]
    refine sndE a k r h fun x x1 S1 g1 h1 e1 dk1 v1 => ?_
    obtain ⟨xs, hx, h1⟩ := h1
    obtain ⟨es, G, s1, w1, hG1⟩ := src_ok v1 hx
    exact ⟨es, G, s1, P _ _ _ _ _ h1 e1 dk1 (enum_ok 0 w1) hG1⟩
  | _ => simp only [wqI] at h
theorem sndJ : ∀ (e : Ex) {O : Own} {env env1 : En} {S : Sto} {g : Nat} {acc : List Nat} {Q : List Nat → Nat → Prop} {Q1 : List Nat → Sto → Prop}, OkO p q O S g → RelV2 p O M S env env1 → wqJ M Φ e env g acc Q → PJ2 p q S Q Q1 → wpJ (tab1 Φ) e env1 S acc Q1
  | .nil, O, env, env1, S, g, acc, Q, Q1, k, r, h, P => by simp only [wqJ] at h; simp only [wpJ]; exact P _ _ _ h ExtB.refl k.dk
  | .cons a t, O, env, env1, S, g, acc, Q, Q1, k, r, h, P => by
    simp only [wqJ] at h; simp only [wpJ]
    refine sndE a k r h fun x x1 S1 g1 h1 e1 dk1 v1 => ?_
    have fin : ∀ z : List Nat, (acc.length + z.length ≤ 16777216 ∧ wqJ M Φ t env g1 (acc ++ z) Q) → (acc.length + z.length ≤ 16777216 ∧ wpJ (tab1 Φ) t env1 S1 (acc ++ z) Q1) := fun z hz =>
      ⟨hz.1, sndJ t (k.ext e1 dk1) (r.ext e1) hz.2 fun o S2 g2 h2 e2 dk2 => P _ _ _ h2 (e1.trans e2) dk2⟩
    cases x <;> try exact h1.elim
    · cases v1.vt.int_inv; exact ⟨h1.1, fin _ h1.2⟩
    · cases v1.vt.str_inv; exact ⟨h1.1, fin _ h1.2⟩
  | .var _, O, env, env1, S, g, acc, Q, Q1, k, r, h, P => by simp only [wqJ] at h
  | .con _, O, env, env1, S, g, acc, Q, Q1, k, r, h, P => by simp only [wqJ] at h
  | .bin _ _ _, O, env, env1, S, g, acc, Q, Q1, k, r, h, P => by simp only [wqJ] at h
  | .neg _, O, env, env1, S, g, acc, Q, Q1, k, r, h, P => by simp only [wqJ] at h
  | .not _, O, env, env1, S, g, acc, Q, Q1, k, r, h, P => by simp only [wqJ] at h
  | .cmp _ _ _, O, env, env1, S, g, acc, Q, Q1, k, r, h, P => by simp only [wqJ] at h
  | .chain _ _ _ _ _, O, env, env1, S, g, acc, Q, Q1, k, r, h, P => by simp only [wqJ] at h
  | .and _ _, O, env, env1, S, g, acc, Q, Q1, k, r, h, P => by simp only [wqJ] at h
  | .or _ _, O, env, env1, S, g, acc, Q, Q1, k, r, h, P => by simp only [wqJ] at h
  | .ite _ _ _, O, env, env1, S, g, acc, Q, Q1, k, r, h, P => by simp only [wqJ] at h
  | .call _ _, O, env, env1, S, g, acc, Q, Q1, k, r, h, P => by simp only [wqJ] at h
  | .bi _ _, O, env, env1, S, g, acc, Q, Q1, k, r, h, P => by simp only [wqJ] at h
  | .mt _ _ _, O, env, env1, S, g, acc, Q, Q1, k, r, h, P => by simp only [wqJ] at h
  | .tup _, O, env, env1, S, g, acc, Q, Q1, k, r, h, P => by simp only [wqJ] at h
  | .lst _, O, env, env1, S, g, acc, Q, Q1, k, r, h, P => by simp only [wqJ] at h
  | .idx _ _, O, env, env1, S, g, acc, Q, Q1, k, r, h, P => by simp only [wqJ] at h
  | .sl _ _ _, O, env, env1, S, g, acc, Q, Q1, k, r, h, P => by simp only [wqJ] at h
  | .lc _ _ _ _ _, O, env, env1, S, g, acc, Q, Q1, k, r, h, P => by simp only [wqJ] at h
  | .fs _, O, env, env1, S, g, acc, Q, Q1, k, r, h, P => by simp only [wqJ] at h
  | .iE _, O, env, env1, S, g, acc, Q, Q1, k, r, h, P => by simp only [wqJ] at h
  | .iR1 _, O, env, env1, S, g, acc, Q, Q1, k, r, h, P => by simp only [wqJ] at h
  | .iR2 _ _, O, env, env1, S, g, acc, Q, Q1, k, r, h, P => by simp only [wqJ] at h
  | .iR3 _ _ _, O, env, env1, S, g, acc, Q, Q1, k, r, h, P => by simp only [wqJ] at h
  | .att _ _, O, env, env1, S, g, acc, Q, Q1, k, r, h, P => by simp only [wqJ] at h
  | .prp _ _, O, env, env1, S, g, acc, Q, Q1, k, r, h, P => by simp only [wqJ] at h
  | .meth _ _ _, O, env, env1, S, g, acc, Q, Q1, k, r, h, P => by simp only [wqJ] at h
  | .oop _ _ _, O, env, env1, S, g, acc, Q, Q1, k, r, h, P => by simp only [wqJ] at h
  | .ocm _ _ _ _, O, env, env1, S, g, acc, Q, Q1, k, r, h, P => by simp only [wqJ] at h
  | .iso _ _, O, env, env1, S, g, acc, Q, Q1, k, r, h, P => by simp only [wqJ] at h
  | .iZ _ _, O, env, env1, S, g, acc, Q, Q1, k, r, h, P => by simp only [wqJ] at h
  | .iN _, O, env, env1, S, g, acc, Q, Q1, k, r, h, P => by simp only [wqJ] at h
end
end
end G57
set_option Elab.async false
set_option linter.all false
set_option maxRecDepth 100000
set_option maxHeartbeats 800000
namespace G57
open PySem L2
structure Ends2 where
  nx : En → Nat → Prop
  rt : QK
  bk : En → Nat → Prop := fun _ _ => False
  ct : En → Nat → Prop := fun _ _ => False
  xc : Nat → D → Nat → Prop := fun _ _ _ => False
def OwAt (M : List Nat) (env env1 : En) (i : Nat) (a : Addr) : Prop := ownB M i = true ∧ (∃ ds, env[i]? = some (some (.rol ds))) ∧ env1[i]? = some (some (.ref a))
def Ow (M : List Nat) (env env1 : En) : Own := fun a => ∃ i, OwAt M env env1 i a
abbrev OO (O0 : Own) (M : List Nat) (env env1 : En) : Own := fun a => O0 a ∨ Ow M env env1 a
structure RelS (p q : Addr) (O0 : Own) (S0 : Sto) (M : List Nat) (S : Sto) (env env1 : En) (g : Nat) : Prop where
  ok : OkO p q (OO O0 M env env1) S g
  rel : RelV2 p (OO O0 M env env1) M S env env1
  ext : ExtB p S0 S
  new : ∀ a, Ow M env env1 a → S0 a = none
  dom : ∀ a, O0 a → S0 a ≠ none
  inj : ∀ i j a, OwAt M env env1 i a → OwAt M env env1 j a → i = j
structure ER (p q : Addr) (O0 : Own) (S0 : Sto) (M : List Nat) (E : Ends2) (E1 : EndsD) : Prop where
  nx : ∀ env env1 S g, E.nx env g → RelS p q O0 S0 M S env env1 g → E1.nx env1 S
  rt : ∀ d2 d1 S g, E.rt d2 g → ExtB p S0 S → Deck S p q g → VF p O0 S d2 d1 → E1.rt d1 S
  bk : ∀ env env1 S g, E.bk env g → RelS p q O0 S0 M S env env1 g → E1.bk env1 S
  ct : ∀ env env1 S g, E.ct env g → RelS p q O0 S0 M S env env1 g → E1.ct env1 S
  xc : ∀ c d2 d1 S g, E.xc c d2 g → ExtB p S0 S → Deck S p q g → VF p O0 S d2 d1 → E1.xc c d1 S
def OkS (Φ : Tab2) (M : List Nat) (s : Sx) (E : Ends2) (env : En) (g : Nat) : Prop :=
  ∀ p q O0 S0 S env1 E1, RelS p q O0 S0 M S env env1 g → ER p q O0 S0 M E E1 → wpS (tab1 Φ) s E1 env1 S
section
variable {Φ : Tab2} {M : List Nat} {E : Ends2} {env : En} {g : Nat} {p q : Addr} {O0 : Own} {S0 S S' : Sto} {env1 : En}
theorem RelS.go (r : RelS p q O0 S0 M S env env1 g) {g' : Nat} (e : ExtB p S S') (d : Deck S' p q g') : RelS p q O0 S0 M S' env env1 g' :=
  ⟨r.ok.ext e d, r.rel.ext e, r.ext.trans e, r.new, r.dom, r.inj⟩
theorem RelS.same (r : RelS p q O0 S0 M S env env1 g) {env' env1' : En} (v : RelV2 p (OO O0 M env env1) M S env' env1') (hs : ∀ i, ownB M i = true → env1'[i]? = env1[i]? ∧ env'[i]? = env[i]?) : RelS p q O0 S0 M S env' env1' g := by
  have at' : ∀ i a, OwAt M env' env1' i a ↔ OwAt M env env1 i a := fun i a => by
    constructor
    · rintro ⟨hi, d, z⟩; obtain ⟨h1, h2⟩ := hs i hi; exact ⟨hi, by rw [← h2]; exact d, by rw [← h1]; exact z⟩
    · rintro ⟨hi, d, z⟩; obtain ⟨h1, h2⟩ := hs i hi; exact ⟨hi, by rw [h2]; exact d, by rw [h1]; exact z⟩
  have e : OO O0 M env' env1' = OO O0 M env env1 := by
    funext a
    apply propext
    constructor
    · rintro (z | ⟨i, z⟩)
      · exact .inl z
      · exact .inr ⟨i, (at' i a).mp z⟩
    · rintro (z | ⟨i, z⟩)
      · exact .inl z
      · exact .inr ⟨i, (at' i a).mpr z⟩
  refine ⟨by rw [e]; exact r.ok, by rw [e]; exact v, r.ext, fun a ⟨i, z⟩ => r.new a ⟨i, (at' i a).mp z⟩, r.dom, fun i j a z1 z2 => r.inj i j a ((at' i a).mp z1) ((at' j a).mp z2)⟩
def ptB (M : List Nat) : Pt → Bool
  | .v i => !ownB M i
  | .t p => ptB M p
  | .nil => true
  | .cons a r => ptB M a && ptB M r
mutual
theorem wqP_ok2 {O : Own} : ∀ (t : Pt) {d e : D} {env env1 : En} {Q Q1 : En → Prop}, ptB M t = true → RelV2 p O M S env env1 → VF p O S d e → wqP t d env Q → (∀ env' env1', Q env' → RelV2 p O M S env' env1' → (∀ i, ownB M i = true → env1'[i]? = env1[i]? ∧ env'[i]? = env[i]?) → Q1 env1') → wpP t e S env1 Q1
  | .v i, d, e, env, env1, Q, Q1, hb, r, v, h, k => by
    simp only [wqP] at h
    simp only [wpP]
    refine k _ _ h (r.set i v) fun j hj => ?_
    simp only [ptB, Bool.not_eq_true'] at hb
    have hne : i ≠ j := fun z => by rw [z, hj] at hb; cases hb
    exact ⟨List.getElem?_set_ne hne, List.getElem?_set_ne hne⟩
  | .t t, d, e, env, env1, Q, Q1, hb, r, v, h, k => by
    simp only [wpP]
    simp only [ptB] at hb
    cases d with
    | tup ds =>
      simp only [wqP] at h
      simp only [VF] at v
      obtain ⟨es, rfl, w⟩ := v
      exact ⟨es, rfl, wqPs_ok2 t hb r w h k⟩
    | rol ds =>
      simp only [wqP] at h
      simp only [VF] at v
      obtain ⟨a, es, rfl, _, _, s, w⟩ := v
      exact ⟨es, by rw [seqD_r]; exact s, wqPs_ok2 t hb r w h k⟩
    | _ => simp only [wqP] at h
  | .nil, d, e, env, env1, Q, Q1, hb, r, v, h, k => by simp only [wqP] at h
  | .cons _ _, d, e, env, env1, Q, Q1, hb, r, v, h, k => by simp only [wqP] at h
theorem wqPs_ok2 {O : Own} : ∀ (t : Pt) {ds es : List D} {env env1 : En} {Q Q1 : En → Prop}, ptB M t = true → RelV2 p O M S env env1 → VFs p O S ds es → wqPs t ds env Q → (∀ env' env1', Q env' → RelV2 p O M S env' env1' → (∀ i, ownB M i = true → env1'[i]? = env1[i]? ∧ env'[i]? = env[i]?) → Q1 env1') → wpPs t es S env1 Q1
  | .nil, ds, es, env, env1, Q, Q1, hb, r, v, h, k => by
    cases ds with
    | nil =>
      simp only [VFs] at v
      subst v
      simp only [wqPs] at h
      simp only [wpPs]
      exact k _ _ h r fun _ _ => ⟨rfl, rfl⟩
    | cons _ _ => simp only [wqPs] at h
  | .cons a t, ds, es, env, env1, Q, Q1, hb, r, v, h, k => by
    simp only [ptB, Bool.and_eq_true] at hb
    cases ds with
    | nil => simp only [wqPs] at h
    | cons d ds =>
      simp only [VFs] at v
      obtain ⟨e, es, rfl, v, w⟩ := v
      simp only [wqPs] at h
      simp only [wpPs]
      exact wqP_ok2 a hb.1 r v h fun env' env1' h' r' s1 => wqPs_ok2 t hb.2 r' w h' fun env2 env12 h2 r2 s2 => k _ _ h2 r2 fun i hi => ⟨(s2 i hi).1.trans (s1 i hi).1, (s2 i hi).2.trans (s1 i hi).2⟩
  | .v _, ds, es, env, env1, Q, Q1, hb, r, v, h, k => by cases ds <;> simp only [wqPs] at h
  | .t _, ds, es, env, env1, Q, Q1, hb, r, v, h, k => by cases ds <;> simp only [wqPs] at h
end
theorem ok_cons {a r : Sx} (h : OkS Φ M a { E with nx := fun env' g' => OkS Φ M r E env' g' } env g) : OkS Φ M (.cons a r) E env g := fun p q O0 S0 S env1 E1 rs er => by
  simp only [wpS]
  exact h p q O0 S0 S env1 _ rs ⟨fun env' env1' S' g' h' r' => h' p q O0 S0 S' env1' E1 r' er, er.rt, er.bk, er.ct, er.xc⟩
theorem ok_nil (h : E.nx env g) : OkS Φ M .nil E env g := fun p q O0 S0 S env1 E1 rs er => by
  simp only [wpS]
  exact er.nx _ _ _ _ h rs
theorem ok_asg {t : Pt} {e : Ex} (hb : ptB M t = true) (h : wqE M Φ e false env g fun d g' => wqP t d env fun env' => E.nx env' g') : OkS Φ M (.asg t e) E env g := fun p q O0 S0 S env1 E1 rs er => by
  simp only [wpS]
  refine sndE e rs.ok rs.rel h fun d2 d1 S' g' h' e' dk' v' => ?_
  have rs' := rs.go e' dk'
  exact wqP_ok2 t hb rs'.rel v' h' fun env' env1' h2 r2 s2 => er.nx _ _ _ _ h2 (rs'.same r2 s2)
theorem RelS.out (r : RelS p q O0 S0 M S env env1 g) : OkO p q O0 S g ∧ RelV2 p O0 [] S env env1 := by
  refine ⟨⟨r.ok.dk, fun a ha => r.ok.dom a (.inl ha), fun z => r.ok.np (.inl z), fun z => r.ok.nq (.inl z)⟩, r.rel.len, fun i d e => ?_⟩
  obtain ⟨x, h1, v⟩ := r.rel.var i d e
  have sub : ∀ a, O0 a → OO O0 M env env1 a := fun a ha => .inl ha
  refine ⟨x, h1, ?_⟩
  show VF p O0 S d x
  unfold VB at v
  cases hi : ownB M i with
  | false =>
    rw [hi] at v
    exact VF.less v sub
  | true =>
    rw [hi] at v
    have v' : VT p (OO O0 M env env1) S d x := v
    cases d <;> try exact VF.less v' sub
    obtain ⟨a, es, rfl, np, s, w⟩ := v'.rol_inv
    simp only [VF]
    refine ⟨a, es, rfl, fun z => r.dom a z (r.new a ⟨i, hi, ⟨_, e⟩, h1⟩), np, s, w.less sub⟩
theorem ok_ret {e : Ex} (h : wqE [] Φ e false env g E.rt) : OkS Φ M (.ret e) E env g := fun p q O0 S0 S env1 E1 rs er => by
  simp only [wpS]
  exact sndE e rs.out.1 rs.out.2 h fun d2 d1 S' g' h' e' dk' v' => er.rt _ _ _ _ h' (rs.ext.trans e') dk' v'
theorem ok_iff {c : Ex} {a b : Sx} (h : wqT M Φ c env g fun t g' => if t = true then OkS Φ M a E env g' else OkS Φ M b E env g') : OkS Φ M (.iff c a b) E env g := fun p q O0 S0 S env1 E1 rs er => by
  simp only [wpS]
  refine sndT c rs.ok rs.rel h fun t S' g' h' e' dk' => ?_
  cases t with
  | true => simp only [if_true] at h' ⊢; exact h' _ _ _ _ _ _ _ (rs.go e' dk') er
  | false => simp only [Bool.false_eq_true, if_false] at h' ⊢; exact h' _ _ _ _ _ _ _ (rs.go e' dk') er
theorem RelS.forget (r : RelS p q O0 S0 M S env env1 g) (i : Nat) : RelS p q O0 S0 M S (env.set i none) env1 g := by
  have get : ∀ j d, (env.set i none)[j]? = some (some d) → env[j]? = some (some d) ∧ i ≠ j := fun j d e => by
    by_cases hij : i = j
    · subst hij
      by_cases hl : i < env.length
      · rw [List.getElem?_set_self hl] at e; cases e
      · rw [List.getElem?_eq_none (by simpa using hl)] at e; cases e
    · rw [List.getElem?_set_ne hij] at e; exact ⟨e, hij⟩
  have at' : ∀ j a, OwAt M (env.set i none) env1 j a → OwAt M env env1 j a := fun j a ⟨h1, ⟨ds, h2⟩, h3⟩ => ⟨h1, ⟨ds, (get j _ h2).1⟩, h3⟩
  have sub : ∀ a, OO O0 M (env.set i none) env1 a → OO O0 M env env1 a := fun a ha => ha.elim .inl fun ⟨i, z⟩ => .inr ⟨i, at' i a z⟩
  refine ⟨⟨r.ok.dk, fun a ha => r.ok.dom a (sub a ha), fun z => r.ok.np (sub _ z), fun z => r.ok.nq (sub _ z)⟩, ⟨by simp [r.rel.len], fun j d e => ?_⟩, r.ext, fun a ⟨j, z⟩ => r.new a ⟨j, at' j a z⟩, r.dom, fun j l a z1 z2 => r.inj j l a (at' j a z1) (at' l a z2)⟩
  obtain ⟨x, h1, v⟩ := r.rel.var j d (get j d e).1
  refine ⟨x, h1, ?_⟩
  unfold VB at v ⊢
  cases hj : ownB M j with
  | false => rw [hj] at v; exact VF.less v sub
  | true => rw [hj] at v; exact VT.less v sub
theorem RelS.non (r : RelS p q O0 S0 M S env env1 g) (i : Nat) : RelS p q O0 S0 M S (env.set i none) (env1.set i none) g := by
  have r1 := r.forget i
  have get : ∀ j d, (env.set i none)[j]? = some (some d) → i ≠ j := fun j d e z => by
    subst z
    by_cases hl : i < env.length
    · rw [List.getElem?_set_self hl] at e; cases e
    · rw [List.getElem?_eq_none (by simpa using hl)] at e; cases e
  have at' : ∀ j a, OwAt M (env.set i none) (env1.set i none) j a ↔ OwAt M (env.set i none) env1 j a := fun j a => by
    constructor
    · rintro ⟨h1, ⟨ds, h2⟩, h3⟩
      refine ⟨h1, ⟨ds, h2⟩, ?_⟩
      rwa [List.getElem?_set_ne (get j _ h2)] at h3
    · rintro ⟨h1, ⟨ds, h2⟩, h3⟩
      refine ⟨h1, ⟨ds, h2⟩, ?_⟩
      rwa [List.getElem?_set_ne (get j _ h2)]
  have e : OO O0 M (env.set i none) (env1.set i none) = OO O0 M (env.set i none) env1 := by
    funext a
    apply propext
    constructor
    · rintro (z | ⟨j, z⟩)
      · exact .inl z
      · exact .inr ⟨j, (at' j a).mp z⟩
    · rintro (z | ⟨j, z⟩)
      · exact .inl z
      · exact .inr ⟨j, (at' j a).mpr z⟩
  refine ⟨by rw [e]; exact r1.ok, ⟨by have := r1.rel.len; simpa using this, fun j d q => ?_⟩, r1.ext, fun a ⟨j, z⟩ => r1.new a ⟨j, (at' j a).mp z⟩, r1.dom, fun j l a z1 z2 => r1.inj j l a ((at' j a).mp z1) ((at' l a).mp z2)⟩
  obtain ⟨x, h1, v⟩ := r1.rel.var j d q
  exact ⟨x, by rw [List.getElem?_set_ne (get j _ q)]; exact h1, by rw [e]; exact v⟩
end
end G57
set_option Elab.async false
set_option linter.all false
set_option maxRecDepth 100000
set_option maxHeartbeats 800000
namespace G57
open PySem L2
inductive All2 (W : D → D → Prop) : List D → List D → Prop where
  | nil : All2 W [] []
  | cons {x y : D} {xs ys : List D} : W x y → All2 W xs ys → All2 W (x :: xs) (y :: ys)
section
variable {Φ : Tab2} {M : List Nat} {E : Ends2} {env : En} {g : Nat} {p q : Addr} {O0 : Own} {S0 S S' : Sto} {env1 : En}
theorem RelS.newL (r : RelS p q O0 S0 M S env env1 g) {i : Nat} {a : Addr} {ds es : List D} (hi : ownB M i = true) (f : S a = none) (v : VFs p (OO O0 M env env1) S ds es) :
    RelS p q O0 S0 M (put S a (.lst es)) (env.set i (some (.rol ds))) (env1.set i (some (.ref a))) g := by
  obtain ⟨n1, n2, n3⟩ := r.ok.fresh f
  have at' : ∀ j c, OwAt M (env.set i (some (.rol ds))) (env1.set i (some (.ref a))) j c → (j = i ∧ c = a) ∨ (j ≠ i ∧ OwAt M env env1 j c) := by
    rintro j c ⟨hj, hd, z⟩
    by_cases hji : i = j
    · subst hji
      by_cases hl : i < env1.length
      · rw [List.getElem?_set_self hl] at z; cases z; exact .inl ⟨rfl, rfl⟩
      · rw [List.getElem?_eq_none (by simpa using hl)] at z; cases z
    · rw [List.getElem?_set_ne hji] at z hd; exact .inr ⟨fun w => hji w.symm, hj, hd, z⟩
  have sub : ∀ c, OO O0 M (env.set i (some (.rol ds))) (env1.set i (some (.ref a))) c → OO O0 M env env1 c ∨ c = a := by
    rintro c (z | ⟨j, z⟩)
    · exact .inl (.inl z)
    · rcases at' j c z with ⟨_, h⟩ | ⟨_, h⟩
      · exact .inr h
      · exact .inl (.inr ⟨j, h⟩)
  have vto : ∀ c es', ¬ OO O0 M env env1 c → c ≠ p → S c = some (.lst es') → ¬ OO O0 M (env.set i (some (.rol ds))) (env1.set i (some (.ref a))) c ∧ put S a (.lst es) c = some (.lst es') := fun c es' nc np s => by
    have hca : c ≠ a := fun z => by rw [z, f] at s; cases s
    exact ⟨fun z => (sub c z).elim nc hca, by rw [put_ne hca]; exact s⟩
  have S0a : S0 a = none := by
    cases z : S0 a with
    | none => rfl
    | some o => rw [r.ext a o (fun w => n1 w.symm) z] at f; cases f
  refine ⟨⟨r.ok.dk.put n1 n2, fun c hc z => ?_, fun z => (sub p z).elim r.ok.np n1, fun z => (sub q z).elim r.ok.nq n2⟩, ⟨by simp [r.rel.len], fun j d e => ?_⟩, r.ext.trans (Ext.put f).but, fun c ⟨j, z⟩ => ?_, r.dom, fun j l c z1 z2 => ?_⟩
  · by_cases hca : c = a
    · rw [hca, put_same] at z; cases z
    · rw [put_ne hca] at z
      exact r.ok.dom c ((sub c hc).resolve_right hca) z
  · by_cases hji : i = j
    · subst hji
      by_cases hl : i < env.length
      · rw [List.getElem?_set_self hl] at e
        cases e
        refine ⟨.ref a, List.getElem?_set_self (by rw [← r.rel.len]; exact hl), ?_⟩
        rw [hi]
        exact ⟨a, es, rfl, fun z => n1 z.symm, put_same, v.to vto⟩
      · rw [List.getElem?_eq_none (by simpa using hl)] at e; cases e
    · rw [List.getElem?_set_ne hji] at e
      obtain ⟨x, h1, w⟩ := r.rel.var j d e
      refine ⟨x, by rw [List.getElem?_set_ne hji]; exact h1, ?_⟩
      cases hj : ownB M j with
      | false =>
        rw [hj] at w
        exact VF.to vto w
      | true =>
        rw [hj] at w
        have w' : VT p (OO O0 M env env1) S d x := w
        show VT p _ _ d x
        cases d <;> try exact VF.to vto w'
        obtain ⟨b, fs, rfl, np, s, u⟩ := w'.rol_inv
        exact ⟨b, fs, rfl, np, by rw [put_ne (fun z => by rw [z, f] at s; cases s)]; exact s, u.to vto⟩
  · rcases at' j c z with ⟨_, h⟩ | ⟨_, h⟩
    · rw [h]; exact S0a
    · exact r.new c ⟨j, h⟩
  · have key : ∀ l', OwAt M env env1 l' a → False := fun l' z => r.ok.dom a (.inr ⟨l', z⟩) f
    rcases at' j c z1 with ⟨e1, h1⟩ | ⟨e1, h1⟩
    · rcases at' l c z2 with ⟨e2, h2⟩ | ⟨e2, h2⟩
      · rw [e1, e2]
      · rw [h1] at h2; exact (key l h2).elim
    · rcases at' l c z2 with ⟨e2, h2⟩ | ⟨e2, h2⟩
      · rw [h2] at h1; exact (key j h1).elim
      · exact r.inj j l c h1 h2
theorem RelS.write (r : RelS p q O0 S0 M S env env1 g) {i : Nat} {a : Addr} {ds0 ds es : List D} (hi : ownB M i = true) (h0 : env[i]? = some (some (.rol ds0))) (h1 : env1[i]? = some (some (.ref a))) (hap : a ≠ p) (v : VFs p (OO O0 M env env1) S ds es) :
    RelS p q O0 S0 M (put S a (.lst es)) (env.set i (some (.rol ds))) env1 g := by
  have hat : OwAt M env env1 i a := ⟨hi, ⟨_, h0⟩, h1⟩
  have oa : OO O0 M env env1 a := .inr ⟨i, hat⟩
  have nq : q ≠ a := fun z => r.ok.nq (by rw [z]; exact oa)
  have at' : ∀ j c, OwAt M (env.set i (some (.rol ds))) env1 j c ↔ OwAt M env env1 j c := fun j c => by
    have : (∃ ds', (env.set i (some (.rol ds)))[j]? = some (some (.rol ds'))) ↔ ∃ ds', env[j]? = some (some (.rol ds')) := by
      by_cases hji : i = j
      · subst hji
        have hl : i < env.length := by
          rcases Nat.lt_or_ge i env.length with h | h
          · exact h
          · rw [List.getElem?_eq_none h] at h0; cases h0
        rw [List.getElem?_set_self hl, h0]
        exact ⟨fun _ => ⟨_, rfl⟩, fun _ => ⟨_, rfl⟩⟩
      · rw [List.getElem?_set_ne hji]
    unfold OwAt
    rw [this]
  have eO : OO O0 M (env.set i (some (.rol ds))) env1 = OO O0 M env env1 := by
    funext c; apply propext
    constructor
    · rintro (z | ⟨j, z⟩)
      · exact .inl z
      · exact .inr ⟨j, (at' j c).mp z⟩
    · rintro (z | ⟨j, z⟩)
      · exact .inl z
      · exact .inr ⟨j, (at' j c).mpr z⟩
  refine ⟨by rw [eO]; exact ⟨r.ok.dk.put (fun z => hap z.symm) nq, (fun c hc z => by
    by_cases hca : c = a
    · rw [hca, put_same] at z; cases z
    · rw [put_ne hca] at z; exact r.ok.dom c hc z), r.ok.np, r.ok.nq⟩, ⟨by simp [r.rel.len], fun j d e => ?_⟩, fun c o nc s => ?_, fun c ⟨j, z⟩ => r.new c ⟨j, (at' j c).mp z⟩, r.dom, fun j l c z1 z2 => r.inj j l c ((at' j c).mp z1) ((at' l c).mp z2)⟩
  · rw [eO]
    by_cases hji : i = j
    · subst hji
      by_cases hl : i < env.length
      · rw [List.getElem?_set_self hl] at e
        cases e
        refine ⟨.ref a, h1, ?_⟩
        rw [hi]
        exact ⟨a, es, rfl, hap, put_same, v.write oa⟩
      · rw [List.getElem?_eq_none (by simpa using hl)] at e; cases e
    · rw [List.getElem?_set_ne hji] at e
      obtain ⟨x, h2, w⟩ := r.rel.var j d e
      refine ⟨x, h2, ?_⟩
      cases hj : ownB M j with
      | false =>
        rw [hj] at w
        exact VF.write w oa
      | true =>
        rw [hj] at w
        have w' : VT p (OO O0 M env env1) S d x := w
        show VT p _ _ d x
        cases d <;> try exact VF.write w' oa
        obtain ⟨b, fs, rfl, np, s, u⟩ := w'.rol_inv
        exact ⟨b, fs, rfl, np, by rw [put_ne (fun z => hji (r.inj i j a hat ⟨hj, ⟨_, e⟩, by rw [← z]; exact h2⟩))]; exact s, u.write oa⟩
  · rw [put_ne (fun z => by rw [z] at s; rw [r.new a ⟨i, hat⟩] at s; cases s)]
    exact r.ext c o nc s
theorem RelS.slot (r : RelS p q O0 S0 M S env env1 g) {i : Nat} {ds : List D} (hi : ownB M i = true) (e : env[i]? = some (some (.rol ds))) : ∃ a es, env1[i]? = some (some (.ref a)) ∧ a ≠ p ∧ S a = some (.lst es) ∧ VFs p (OO O0 M env env1) S ds es := by
  obtain ⟨x, h1, v⟩ := r.rel.var i _ e
  rw [hi] at v
  obtain ⟨a, es, rfl, np, s, w⟩ := VT.rol_inv (show VT p (OO O0 M env env1) S (.rol ds) x from v)
  exact ⟨a, es, h1, np, s, w⟩
theorem RelS.base (r : RelS p q O0 S0 M S env env1 g) : ∃ S0', RelS p q O0 S0' M S env env1 g ∧ (∀ a o, ¬ OO O0 M env env1 a → a ≠ p → S a = some o → S0' a = some o) ∧
    (∀ S' env' env1' g', RelS p q O0 S0' M S' env' env1' g' → RelS p q O0 S0 M S' env' env1' g') ∧ ∀ S', ExtB p S0' S' → ExtB p S0 S' := by
  classical
  have hx : ∀ a o, a ≠ p → S0 a = some o → (if Ow M env env1 a then none else S a) = some o := fun a o np s => by
    rw [if_neg (fun z => by rw [r.new a z] at s; cases s)]
    exact r.ext a o np s
  refine ⟨fun a => if Ow M env env1 a then none else S a, ⟨r.ok, r.rel, fun a o np s => ?_, fun a ha => if_pos ha, fun a ha z => ?_, r.inj⟩, fun a o na np s => ?_, fun S' env' env1' g' r' => ⟨r'.ok, r'.rel, fun a o np s => r'.ext a o np (hx a o np s), fun a ha => ?_, r.dom, r'.inj⟩, fun S' e a o np s => e a o np (hx a o np s)⟩
  · have s' : (if Ow M env env1 a then none else S a) = some o := s
    split at s'
    · cases s'
    · exact s'
  · have z' : (if Ow M env env1 a then none else S a) = none := z
    rw [if_neg (fun w => r.dom a ha (r.new a w))] at z'
    exact r.ok.dom a (.inl ha) z'
  · show (if Ow M env env1 a then none else S a) = some o
    rw [if_neg (fun w => na (.inr w))]; exact s
  · have z := r'.new a ha
    cases s : S0 a with
    | none => rfl
    | some o =>
      have : a ≠ p := fun w => r'.ok.np (.inr (by rw [← w]; exact ha))
      rw [hx a o this s] at z; cases z
theorem ER.base {E1 : EndsD} {S0' : Sto} (er : ER p q O0 S0 M E E1) (h : ∀ S' env' env1' g', RelS p q O0 S0' M S' env' env1' g' → RelS p q O0 S0 M S' env' env1' g') (h2 : ∀ S', ExtB p S0' S' → ExtB p S0 S') : ER p q O0 S0' M E E1 :=
  ⟨fun env env1 S g a r => er.nx _ _ _ _ a (h _ _ _ _ r), fun d2 d1 S g a e => er.rt _ _ _ _ a (h2 _ e), fun env env1 S g a r => er.bk _ _ _ _ a (h _ _ _ _ r), fun env env1 S g a r => er.ct _ _ _ _ a (h _ _ _ _ r), fun c d2 d1 S g a e => er.xc _ _ _ _ _ a (h2 _ e)⟩
def forV (body : D → En → Nat → (En → Nat → Prop) → Prop) (Q : En → Nat → Prop) : List D → En → Nat → Prop
  | [], env, g => Q env g
  | x :: xs, env, g => body x env g fun env' g' => forV body Q xs env' g'
theorem forV_ok {t : Pt} {b : Sx} {E1 : EndsD} {G : Sto → Prop} {W : D → D → Prop} (hb : ptB M t = true) (er : ER p q O0 S0 M E E1) (hG : ∀ S', ExtB p S0 S' → G S')
    (tr : ∀ S env env1 g d e, RelS p q O0 S0 M S env env1 g → W d e → VF p (OO O0 M env env1) S d e) :
    ∀ (xs xs1 : List D), (All2 W xs xs1) → ∀ (env env1 : En) (S : Sto) (g : Nat), RelS p q O0 S0 M S env env1 g →
      forV (fun x env g N => wqP t x env fun env2 => OkS Φ M b { nx := N, ct := N, bk := E.nx, rt := E.rt, xc := E.xc } env2 g) E.nx xs env g →
      forRun G (fun x env1 S2 N => wpP t x S2 env1 fun env2 => wpS (tab1 Φ) b { nx := N, ct := N, bk := E1.nx, rt := E1.rt, xc := E1.xc } env2 S2) E1.nx xs1 env1 S
  | _, _, .nil, env, env1, S, g, r, h => er.nx _ _ _ _ h r
  | _, _, .cons (x := x) (y := x1) (xs := xs) (ys := xs1) hw ht, env, env1, S, g, r, h => by
    simp only [forV] at h
    simp only [forRun]
    refine wqP_ok2 t hb r.rel (tr S env env1 g _ _ r hw) h fun env' env1' h' r' s' => ?_
    refine h' p q O0 S0 S env1' _ (r.same r' s') ⟨fun env2 env12 S2 g2 h2 r2 => ?_, er.rt, er.nx, fun env2 env12 S2 g2 h2 r2 => ?_, er.xc⟩
    · exact ⟨hG _ r2.ext, forV_ok hb er hG tr xs xs1 ht env2 env12 S2 g2 r2 h2⟩
    · exact ⟨hG _ r2.ext, forV_ok hb er hG tr xs xs1 ht env2 env12 S2 g2 r2 h2⟩
theorem VFs.all2 {O : Own} : ∀ {xs es : List D}, VFs p O S xs es → All2 (VF p O S) xs es
  | [], _, h => by simp only [VFs] at h; subst h; exact .nil
  | x :: xs, es, h => by
    simp only [VFs] at h
    obtain ⟨e, r, rfl, v, w⟩ := h
    exact .cons v w.all2
theorem ok_loop {t : Pt} {it : Ex} {b : Sx} (hb : ptB M t = true)
    (h : wqI M Φ it false env g fun xs g' => forV (fun x env g N => wqP t x env fun env2 => OkS Φ M b { nx := N, ct := N, bk := E.nx, rt := E.rt, xc := E.xc } env2 g) E.nx xs env g') : OkS Φ M (.loop t it b) E env g := fun p q O0 S0 S env1 E1 rs er => by
  simp only [wpS]
  refine sndI it rs.ok rs.rel h fun xs xs1 G S1 g1 h1 e1 dk1 v1 hG => ?_
  have r1 := rs.go e1 dk1
  obtain ⟨S0', rb, keep, back, back2⟩ := r1.base
  refine forV_ok (S0 := S0') (W := VF p (OO O0 M env env1) S1) hb (er.base back back2) (fun S' e' => hG S' fun a o ha np s => ?_) (fun S' env' env1' g' d e r' w => w.to fun a es na np s => ⟨fun z => ?_, ?_⟩) xs xs1 v1.all2 env env1 S1 g1 rb h1
  · exact e' a o np (keep a o (ha.resolve_left (by decide)) np s)
  · rcases z with z | z
    · exact na (.inl z)
    · have := r'.new a z
      rw [keep a _ na np s] at this; cases this
  · exact r'.ext a _ np (keep a _ na np s)
end
end G57
set_option Elab.async false
set_option linter.all false
set_option maxRecDepth 100000
set_option maxHeartbeats 800000
namespace G57
open PySem L2 PySem.Spec PyProof.Rows
def tab2 (L : List (Str × Spec2)) : Tab2 := { q := fun i => (L[i]?).map (·.2) }
theorem tab2_q {L : List (Str × Spec2)} {i : Nat} : (tab2 L).q i = (L[i]?).map (·.2) := rfl
theorem tab2_eq (L : List (Str × Spec2)) : (fun i => ((L.map fun p => (p.1, lift2 p.2))[i]?).map (·.2)) = tab1 (tab2 L) := by
  funext i
  simp only [tab1, tab2, List.getElem?_map]
  cases L[i]? <;> rfl
theorem startD_rel {p : Addr} {S : Sto} {O : Own} {M : List Nat} {N : List Str} {ds es : List D} {n : Nat} (v : VFs p O S ds es) : RelV2 p O M S (startD N ds) (startD N es) := by
  have hl := v.length
  refine ⟨by simp [startD, hl], fun i d e => ?_⟩
  unfold startD at e ⊢
  by_cases hi : i < ds.length
  · rw [List.getElem?_append_left (by simpa using hi), List.getElem?_map] at e
    obtain ⟨d', e1, e2⟩ := Option.map_eq_some_iff.mp e
    cases e2
    obtain ⟨u, e3, rv⟩ := v.get e1
    exact ⟨u, by rw [List.getElem?_append_left (by simp; omega), List.getElem?_map, e3]; rfl, rv.vb _⟩
  · rw [List.getElem?_append_right (by simpa using hi), List.getElem?_replicate] at e
    split at e <;> cases e
theorem startD_none {N : List Str} {es : List D} {i : Nat} {a : Addr} (h : es.length ≤ i) : (startD N es)[i]? ≠ some (some (.ref a)) := fun e => by
  unfold startD at e
  rw [List.getElem?_append_right (by simpa using h), List.getElem?_replicate] at e
  split at e <;> cases e
theorem lift_body {L : Tab2} {M : List Nat} {N : List Str} {n : Nat} {ir : Sx} {sp : Spec2} (len : ∀ ds g Q, sp ds g Q → ds.length = n) (hM : ∀ i, ownB M i = true → n ≤ i)
    (body : ∀ ds g Q, sp ds g Q → OkS L M ir { nx := fun _ g' => Q .non g', rt := Q } (startD N ds) g) (es : List D) (S : Sto) (Q : DK) (h : lift2 sp es S Q) : wpS (tab1 L) ir { nx := fun _ S' => Q .non S', rt := Q } (startD N es) S := by
  obtain ⟨p, q, O, g, ds, R, k, v, h, P⟩ := h
  have hn := len _ _ _ h
  have hes : es.length = n := by rw [← v.length, hn]
  have no : ∀ a, ¬ Ow M (startD N ds) (startD N es) a := fun a ⟨i, hi, _, e⟩ => startD_none (by rw [hes]; exact hM i hi) e
  have eO : OO O M (startD N ds) (startD N es) = O := by
    funext a; apply propext
    exact ⟨fun z => z.elim id fun w => (no a w).elim, .inl⟩
  refine body ds g R h p q O S S (startD N es) _ ⟨by rw [eO]; exact k, by rw [eO]; exact startD_rel (n := n) v, ExtB.refl, fun a ha => (no a ha).elim, k.dom, fun i j a z _ => (no a ⟨i, z⟩).elim⟩ ⟨fun env env1 S' g' hR r => ?_, fun d2 d1 S' g' hR e dk v' => P _ _ _ _ hR e dk v', fun _ _ _ _ z => z.elim, fun _ _ _ _ z => z.elim, fun _ _ _ _ _ z => z.elim⟩
  exact P _ _ _ _ hR r.ext r.ok.dk .n
theorem lift_len {sp : Spec2} {n : Nat} (len : ∀ ds g Q, sp ds g Q → ds.length = n) : ∀ es S Q, lift2 sp es S Q → es.length = n := fun es S Q ⟨p, q, O, g, ds, R, k, v, h, P⟩ => by rw [← v.length]; exact len _ _ _ h
theorem does2 {P : Program} {w : World} {K : PySem.W.Frag} {mg : Str → Option Value} {base : Heap} {k : Nat} {x : Str} {st : Stmt} {N ps bs os : List Str} {cs : List (Str × D)} {L : List (Str × Spec2)} {M : List Nat} {ir : Sx} {sp : Spec2}
    (F : FT K mg x st ps) (hsc : fnOkB N ps (defScope st) = true) (tr : trB 300 (gamOf N (defScope st) bs (L.map (·.1)) cs os) (defBody st) = some ir) (md : Md K mg bs cs) (tab : ∀ p ∈ L, Does P w K mg base k p.1 (lift2 p.2))
    (len : ∀ ds g Q, sp ds g Q → ds.length = ps.length) (hM : ∀ i, ownB M i = true → ps.length ≤ i)
    (body : ∀ ds g Q, sp ds g Q → OkS (tab2 L) M ir { nx := fun _ g' => Q .non g', rt := Q } (startD N ds) g) : Does P w K mg base (k + 1) x (lift2 sp) := by
  refine does_of (Φ := L.map fun p => (p.1, lift2 p.2)) F hsc (by rw [List.map_map]; exact tr) md (fun p hp => ?_) (lift_len len) ?_
  · obtain ⟨p', hp', rfl⟩ := List.mem_map.mp hp
    exact tab p' hp'
  · rw [tab2_eq]
    exact lift_body len hM body
theorem Does.weak {P : Program} {w : World} {K : PySem.W.Frag} {mg : Str → Option Value} {base : Heap} {k : Nat} {x : Str} {sp sp' : Spec} (d : Does P w K mg base k x sp) (h : ∀ ds S Q, sp' ds S Q → sp ds S Q) : Does P w K mg base k x sp' := by
  have wk : ∀ {j : Nat} {f : Addr} {fd : FuncData} {ps : List Str}, FnG P w K mg base j f fd ps (liftSp K ps.length sp) → FnG P w K mg base j f fd ps (liftSp K ps.length sp') := fun {j f fd ps} e => ⟨fun vs H Q E z => z.1, fun A outer s H args us vs Q E r g e0 hb rv z => by
    obtain ⟨z1, ds, S, Qd, z2, z3, z4, z5⟩ := z
    exact e.run A outer s H args us vs Q E r g e0 hb rv ⟨z1, ds, S, Qd, z2, z3, h _ _ _ z4, z5⟩⟩
  have wi : ∀ {j : Nat} {f C : Addr} {c : Nat} {fd : FuncData} {ps : List Str}, FnG P w K mg base j f fd ps (initSp K C c ps.length sp) → FnG P w K mg base j f fd ps (initSp K C c ps.length sp') := fun {j f C c fd ps} e => ⟨fun vs H Q E z => z.1, fun A outer s H args us vs Q E r g e0 hb rv z => by
    obtain ⟨z1, a, dx, us', ds, S, Qd, z2, z3, z4, z5, z6, z7⟩ := z
    exact e.run A outer s H args us vs Q E r g e0 hb rv ⟨z1, a, dx, us', ds, S, Qd, z2, z3, z4, z5, h _ _ _ z6, z7⟩⟩
  have wx : ∀ {j : Nat} {f : Addr} {fd : FuncData} {ps : List Str}, FnX P w K mg base j f fd ps (liftSpX K ps.length sp) → FnX P w K mg base j f fd ps (liftSpX K ps.length sp') := fun {j f fd ps} e => ⟨fun vs H Q E z => z.1, fun A outer s H args us vs Q E r g e0 hb rv z => by
    obtain ⟨z1, ds, S, Qd, z2, z3, z4, z5⟩ := z
    exact e.run A outer s H args us vs Q E r g e0 hb rv ⟨z1, ds, S, Qd, z2, z3, h _ _ _ z4, z5⟩⟩
  refine ⟨?_⟩
  cases d.ex with
  | fx y hx hy ex => obtain ⟨f, fd, ps, a, b, c, e, l⟩ := ex; exact .fx y hx hy ⟨f, fd, ps, a, b, c, wx e, fun ds S Q z => l ds S Q (h _ _ _ z)⟩
  | mx m hx hm ex => obtain ⟨CL, CP, f, fd, ps, i, r1, r2, r3, r4, r5, e, l⟩ := ex; exact .mx m hx hm ⟨CL, CP, f, fd, ps, i, r1, r2, r3, r4, r5, wx e, fun ds S Q z => l ds S Q (h _ _ _ z)⟩
  | ek c hx hk ex => exact .ek c hx hk ex
  | fn hx ex => obtain ⟨f, fd, ps, a, b, c, e, l⟩ := ex; exact .fn hx ⟨f, fd, ps, a, b, c, wk e, fun ds S Q z => l ds S Q (h _ _ _ z)⟩
  | mk hx ex => obtain ⟨CL, CP, C, c, f, fd, ps, i, r1, r2, r3, r4, r5, r6, r7, e, l⟩ := ex; exact .mk hx ⟨CL, CP, C, c, f, fd, ps, i, r1, r2, r3, r4, r5, r6, r7, wi e, fun ds S Q z => l ds S Q (h _ _ _ z)⟩
  | me m hx hm ex => obtain ⟨CL, CP, f, fd, ps, i, r1, r2, r3, r4, r5, e, l⟩ := ex; exact .me m hx hm ⟨CL, CP, f, fd, ps, i, r1, r2, r3, r4, r5, wk e, fun ds S Q z => l ds S Q (h _ _ _ z)⟩
  | pr hx ex => obtain ⟨CL, CP, p, g, fd, ps, i, r1, r2, r3, r4, r5, e, l⟩ := ex; exact .pr hx ⟨CL, CP, p, g, fd, ps, i, r1, r2, r3, r4, r5, wk e, fun ds S Q z => l ds S Q (h _ _ _ z)⟩
def dck : D := .ref 0
def sDraw : Spec2 := fun ds g Q => ∃ n : Int, ds = [dck, .int n] ∧ 0 < n ∧ n < 2 ^ 8000 ∧ 1 ≤ g ∧ ∀ r : Int, 0 ≤ r → r < n → Q (.int r) (g - 1)
theorem does_draw2 {P : Program} {w : World} {K : PySem.W.Frag} {mg : Str → Option Value} {base : Heap} {k : Nat} (d : Does P w K mg base k "_law_draw" spDraw) : Does P w K mg base k "_law_draw" (lift2 sDraw) :=
  d.weak fun es S Q ⟨p, q, O, g, ds, R, k, v, ⟨n, e, h1, h2, h3, h4⟩, P⟩ => by
    subst e
    simp only [VFs] at v
    obtain ⟨_, _, rfl, v1, _, _, rfl, v2, rfl⟩ := v
    simp only [dck, VF] at v1 v2
    subst v1 v2
    exact ⟨p, q, n, g - 1, rfl, h1, h2, k.dk.less (by omega), fun S' r r0 r1 dk e => P _ _ _ _ (h4 r r0 r1) e dk .i⟩
def tabL (L : List (Str × (Spec ⊕ Spec2))) : Tab2 where
  q := fun i => match L[i]? with
    | some (_, .inr s) => some s
    | _ => none
  w := fun i => match L[i]? with
    | some (_, .inl s) => some s
    | _ => none
theorem tabL_q {L : List (Str × (Spec ⊕ Spec2))} {i : Nat} : (tabL L).q i = match L[i]? with | some (_, .inr s) => some s | _ => none := rfl
def sp12 : Spec ⊕ Spec2 → Spec
  | .inl s => s
  | .inr s => lift2 s
theorem tabL_eq (L : List (Str × (Spec ⊕ Spec2))) : (fun i => ((L.map fun p => (p.1, sp12 p.2))[i]?).map (·.2)) = tab1 (tabL L) := by
  funext i
  simp only [tab1, tabL, List.getElem?_map]
  rcases L[i]? with _ | ⟨n, s | s⟩ <;> rfl
theorem law_body {L : List (Str × (Spec ⊕ Spec2))} {M : List Nat} {N : List Str} {r : Sx} {j : Nat} {nm : Str} (hj : L[j]? = some (nm, .inl spDeck)) (hN : 2 ≤ N.length) (h0 : ownB M 0 = false) (h1 : ownB M 1 = false)
    (body : OkS (tabL L) M r { nx := fun _ _ => False, rt := fun d _ => d = .bl true } (none :: some dck :: List.replicate (N.length - 2) none) 2147483648) :
    ∀ ds S Q, lawSp 63 ds S Q → wpS (tab1 (tabL L)) (.cons (.asg (.v 1) (.call j (.cons (.var 0) .nil))) r) { nx := fun _ S' => Q .non S', rt := Q } (startD N ds) S := by
  rintro ds S Q ⟨ns, hl, rfl, k⟩
  have e0 : startD N [.rol (ns.map D.int)] = some (.rol (ns.map D.int)) :: none :: List.replicate (N.length - 2) none := by
    unfold startD
    obtain ⟨m, hm⟩ : ∃ m, N.length = m + 2 := ⟨N.length - 2, by omega⟩
    rw [hm]
    rfl
  rw [e0]
  refine st_cons (st_asg ?_)
  simp only [wpE, wpA, wpP]
  refine ⟨spDeck, by simp only [tab1, tabL, hj], _, rfl, ns, rfl, hl, fun S' p q dk e => ?_⟩
  have eset : (some (D.rol (ns.map D.int)) :: none :: List.replicate (N.length - 2) none : En).set 1 (some (.ref p)) = some (D.rol (ns.map D.int)) :: some (.ref p) :: List.replicate (N.length - 2) none := rfl
  show wpS (tab1 (tabL L)) r _ ((some (D.rol (ns.map D.int)) :: none :: List.replicate (N.length - 2) none : En).set 1 (some (.ref p))) S'
  rw [eset]
  have no : ∀ a, ¬ Ow M (none :: some dck :: List.replicate (N.length - 2) none) (some (D.rol (ns.map D.int)) :: some (.ref p) :: List.replicate (N.length - 2) none) a := fun a ⟨i, hi, _, z⟩ => by
    match i, hi, z with
    | 0, hi, _ => rw [h0] at hi; cases hi
    | 1, hi, _ => rw [h1] at hi; cases hi
    | i + 2, _, z =>
      simp only [List.getElem?_cons_succ, List.getElem?_replicate] at z
      split at z <;> cases z
  have eO : OO (fun _ => False) M (none :: some dck :: List.replicate (N.length - 2) none) (some (D.rol (ns.map D.int)) :: some (.ref p) :: List.replicate (N.length - 2) none) = fun _ => False := by
    funext a; apply propext
    exact ⟨fun z => z.elim id fun w => no a w, False.elim⟩
  have rel : RelV2 p (fun _ => False) M S' (none :: some dck :: List.replicate (N.length - 2) none) (some (D.rol (ns.map D.int)) :: some (.ref p) :: List.replicate (N.length - 2) none) := by
    refine ⟨by simp, fun i d z => ?_⟩
    match i, z with
    | 0, z => cases z
    | 1, z =>
      simp only [List.getElem?_cons_succ, List.getElem?_cons_zero, Option.some.injEq] at z
      subst z
      refine ⟨.ref p, rfl, VF.vb _ ?_⟩
      simp only [dck, VF]
    | i + 2, z =>
      simp only [List.getElem?_cons_succ, List.getElem?_replicate] at z
      split at z <;> cases z
  refine body p q (fun _ => False) (fun _ => none) S' _ _ ⟨by rw [eO]; exact ⟨dk, fun a ha => ha.elim, id, id⟩, by rw [eO]; exact rel, (fun a o _ z => by cases z), fun a _ => rfl, fun a ha => ha.elim, fun i j a z _ => (no a ⟨i, z⟩).elim⟩ ⟨fun _ _ _ _ z _ => z.elim, fun d2 d1 S2 g z _ _ v => ?_, fun _ _ _ _ z _ => z.elim, fun _ _ _ _ z _ => z.elim, fun _ _ _ _ _ z => z.elim⟩
  subst z
  cases v.vt.bl_inv
  exact k S2
theorem law_does {P : Program} {w : World} {K : PySem.W.Frag} {mg : Str → Option Value} {base : Heap} {k : Nat} {x : Str} {st : Stmt} {f : Addr} {fd : FuncData} {N ps bs os : List Str} {cs : List (Str × D)} {L : List (Str × (Spec ⊕ Spec2))} {ir : Sx} {sp : Spec}
    (F : Fun K x x st f fd) (hsc : fnOkB N ps (defScope st) = true) (tr : trB 300 (gamOf N (defScope st) bs (L.map (·.1)) cs os) (defBody st) = some ir) (md : Md K mg bs cs) (tab : ∀ p ∈ L, Does P w K mg base k p.1 (sp12 p.2))
    (body : ∀ ds S Q, sp ds S Q → wpS (tab1 (tabL L)) ir { nx := fun _ S' => Q .non S', rt := Q } (startD N ds) S) : FnG P w K mg base (k + 1) f fd ps (liftSp K ps.length sp) := by
  refine fn_does (Φ := L.map fun p => (p.1, sp12 p.2)) F hsc (by rw [List.map_map]; exact tr) md (fun p hp => ?_) ?_
  · obtain ⟨p', hp', rfl⟩ := List.mem_map.mp hp
    exact tab p' hp'
  · rw [tabL_eq]
    exact body
theorem lcV_fm {α : Type} (enc : α → D) (f : α → Option D) {body : D → Nat → (Option D → Nat → Prop) → Prop} {Q : List D → Nat → Prop} : ∀ (xs : List α) (acc : List D) (g : Nat), acc.length + xs.length ≤ 16777216 →
    (∀ x ∈ xs, ∀ k, k (f x) g → body (enc x) g k) → Q (acc ++ xs.filterMap f) g → lcV body Q (xs.map enc) acc g
  | [], acc, g, _, _, h => by simp only [List.map_nil, lcV]; simpa using h
  | x :: xs, acc, g, hl, hb, h => by
    simp only [List.map_cons, lcV]
    rw [List.length_cons] at hl
    refine hb x (by simp) _ ?_
    cases hf : f x with
    | none =>
      simp only
      exact lcV_fm enc f xs acc g (by omega) (fun y hy => hb y (by simp [hy])) (by rw [List.filterMap_cons_none hf] at h; exact h)
    | some y =>
      simp only
      exact ⟨by omega, lcV_fm enc f xs _ g (by rw [List.length_append]; simp; omega) (fun y hy => hb y (by simp [hy])) (by rw [List.filterMap_cons_some hf] at h; simpa using h)⟩
theorem lcV_map {α : Type} (enc : α → D) (f : α → D) {body : D → Nat → (Option D → Nat → Prop) → Prop} {Q : List D → Nat → Prop} {g : Nat} (xs : List α) (hl : xs.length ≤ 16777216)
    (hb : ∀ x ∈ xs, ∀ k, k (some (f x)) g → body (enc x) g k) (h : Q (xs.map f) g) : lcV body Q (xs.map enc) [] g :=
  lcV_fm enc (fun x => some (f x)) xs [] g (by simpa using hl) hb (by rw [fm_some]; simpa using h)
theorem lcV_draw (c : Nat) (P : D → Prop) {body : D → Nat → (Option D → Nat → Prop) → Prop} {Q : List D → Nat → Prop} : ∀ (xs acc : List D) (g : Nat), acc.length + xs.length ≤ 16777216 → c * xs.length ≤ g → (∀ y ∈ acc, P y) →
    (∀ x ∈ xs, ∀ g k, c ≤ g → (∀ y, P y → k (some y) (g - c)) → body x g k) → (∀ ys, ys.length = acc.length + xs.length → (∀ y ∈ ys, P y) → Q ys (g - c * xs.length)) → lcV body Q xs acc g
  | [], acc, g, _, _, hP, _, hQ => by
    simp only [lcV]
    exact hQ acc (by simp) hP
  | x :: xs, acc, g, hl, hg, hP, hb, hQ => by
    simp only [lcV]
    rw [List.length_cons] at hl
    rw [List.length_cons, Nat.mul_succ] at hg
    refine hb x (by simp) g _ (by omega) fun y hy => ?_
    simp only
    refine ⟨by omega, lcV_draw c P xs (acc ++ [y]) (g - c) (by rw [List.length_append]; simp; omega) (by omega) (fun z hz => ?_) (fun z hz => hb z (by simp [hz])) fun ys hl2 hP2 => ?_⟩
    · rcases List.mem_append.mp hz with h | h
      · exact hP z h
      · rw [List.mem_singleton.mp h]; exact hy
    · have := hQ ys (by rw [hl2, List.length_append, List.length_cons, List.length_cons, List.length_nil]; omega) hP2
      rw [List.length_cons, Nat.mul_succ] at this
      rw [show g - c - c * xs.length = g - (c * xs.length + c) by omega]
      exact this
theorem forV_inv {body : D → En → Nat → (En → Nat → Prop) → Prop} {Q : En → Nat → Prop} (I : List D → En → Nat → Prop) : ∀ (xs : List D) (env : En) (g : Nat), I xs env g →
    (∀ x r env g N, I (x :: r) env g → (∀ env' g', I r env' g' → N env' g') → body x env g N) → (∀ env g, I [] env g → Q env g) → forV body Q xs env g
  | [], env, g, h, _, hd => hd env g h
  | x :: xs, env, g, h, hs, hd => by
    simp only [forV]
    exact hs x xs env g _ h fun env' g' h' => forV_inv I xs env' g' h' hs hd
section
variable {R : RK} {B : Bool → Prop} {P : List D → Prop} {W : List Nat → Prop} {U : En → Prop} {env : En} {p1 pt : Pt} {i j : Int} {x y : List Nat} {ds es : List D} {b : Bool} {d : D} {n : Nat} {lo hi : Option Int} {f : Int → Int → Bool} {h : List Nat → List Nat → Bool}
theorem addV_ii : addV (.int i) (.int j) R = R (.int (i + j)) := rfl
theorem addV_ss : addV (.str x) (.str y) R = (x.length + y.length ≤ 16777216 ∧ R (.str (x ++ y))) := rfl
theorem mulV_ii : mulV (.int i) (.int j) R = (CMulW i j ∧ R (.int (i * j))) := rfl
theorem mulV_si : mulV (.str x) (.int j) R = (j < 2 ^ 40 ∧ -(2 ^ 40) < j ∧ x.length * j.toNat ≤ 16777216 ∧ R (.str (List.replicate j.toNat x).flatten)) := rfl
theorem idxV_t : idxV (.tup ds) (.int i) R = (∃ d, atI ds i = some d ∧ R d) := rfl
theorem idxV_r : idxV (.rol ds) (.int i) R = (∃ d, atI ds i = some d ∧ R d) := rfl
theorem idxV_s : idxV (.str x) (.int i) R = (x.length ≤ 16777216 ∧ ∃ c, atI x i = some c ∧ R (.str [c])) := rfl
theorem slV_t : slV (.tup ds) lo hi R = R (.tup (cutD ds lo hi)) := rfl
theorem biV_len_s : biV .len [.str x] R = (x.length ≤ 16777216 ∧ R (.int x.length)) := rfl
theorem biV_len_t : biV .len [.tup ds] R = R (.int ds.length) := rfl
theorem biV_len_r : biV .len [.rol ds] R = R (.int ds.length) := rfl
theorem biV_sum_r : biV .sum [.rol ds] R = (∃ is, intsF ds = some is ∧ R (.int is.sum)) := rfl
theorem biV_int_s : biV .int [.str x] R = (∃ n, PySem.intText? ⟨x.toArray⟩ = some n ∧ x.length ≤ 640 ∧ R (.int n)) := rfl
theorem biV_tuple_r : biV .tuple [.rol ds] R = R (.tup ds) := rfl
theorem itV_t : itV (.tup ds) = some ds := rfl
theorem rng1V_i : rng1V (.int i) P = (smallI i ∧ P (rngD 0 i)) := rfl
theorem flatD_b : flatD (.bl b) = true := rfl
theorem flatD_i : flatD (.int i) = true := rfl
theorem flatD_s : flatD (.str x) = true := rfl
theorem opV_Add : opV .Add = addV := rfl
theorem opV_Mult : opV .Mult = mulV := rfl
theorem cmpV_NotEq : cmpV .NotEq = eqV' true := rfl
theorem wqP_v : wqP (.v n) d env U = U (env.set n (some d)) := by simp only [wqP]
theorem wqP_t : wqP (.t pt) (.tup ds) env U = wqPs pt ds env U := by simp only [wqP]
theorem wqPs_n : wqPs .nil [] env U = U env := by simp only [wqPs]
theorem wqPs_c : wqPs (.cons p1 pt) (d :: ds) env U = (wqP p1 d env fun env' => wqPs pt ds env' U) := by simp only [wqPs]
end
section
variable {R : RK} {b : Bool}
theorem eqV_ss {i j : List Nat} : eqV' b (.str i) (.str j) R = R (.bl (b ^^ decide (i = j))) := rfl
end
theorem own_all {M : List Nat} {n : Nat} (h : M.all (fun i => decide (n ≤ i)) = true) : ∀ i, ownB M i = true → n ≤ i := by
  induction M with
  | nil => intro i hi; simp [ownB] at hi
  | cons j M ih =>
    simp only [List.all_cons, Bool.and_eq_true, decide_eq_true_eq] at h
    intro i hi
    simp only [ownB, Bool.or_eq_true, beq_iff_eq] at hi
    rcases hi with rfl | hi
    · exact h.1
    · exact ih h.2 i hi
end G57
set_option Elab.async false
set_option linter.all false
set_option maxRecDepth 100000
set_option maxHeartbeats 800000
namespace G57
open PySem L2
mutual
def noB : D → Bool
  | .bl _ | .ref _ | .obj _ _ => false
  | .tup ds | .rol ds => noBs ds
  | _ => true
def noBs : List D → Bool
  | [] => true
  | d :: ds => noB d && noBs ds
end
theorem beq_str (x y : List Nat) : ((⟨x.toArray⟩ : Str) == ⟨y.toArray⟩) = decide (x = y) := by
  by_cases h : x = y
  · subst h; simp
  · rw [decide_eq_false h]
    apply Bool.eq_false_iff.mpr
    intro e
    have := eq_of_beq e
    exact h (by simpa using congrArg (fun z : Str => z.cps.toList) this)
mutual
theorem eqv_iff : ∀ d e : D, noB d = true → noB e = true → (PyData.eqv (py d) (py e) = true ↔ d = e)
  | .bl _, _, h, _ | .ref _, _, h, _ | .obj _ _, _, h, _ => by simp [noB] at h
  | .non, e, _, h => by cases e <;> simp [py, PyData.eqv, noB] at h ⊢
  | .int i, e, _, h => by cases e <;> simp [py, PyData.eqv, noB] at h ⊢
  | .str x, e, _, h => by cases e <;> simp [py, PyData.eqv, noB, beq_str] at h ⊢
  | .tup ds, e, h', h => by
    cases e with
    | tup es =>
      simp only [noB] at h h'
      simp only [py, PyData.eqv, D.tup.injEq]
      exact eqvs_iff ds es h' h
    | _ => simp [py, PyData.eqv, noB] at h ⊢
  | .rol ds, e, h', h => by
    cases e with
    | rol es =>
      simp only [noB] at h h'
      simp only [py, PyData.eqv, D.rol.injEq]
      exact eqvs_iff ds es h' h
    | _ => simp [py, PyData.eqv, noB] at h ⊢
theorem eqvs_iff : ∀ ds es : List D, noBs ds = true → noBs es = true → (PyData.eqvAll (pys ds) (pys es) = true ↔ ds = es)
  | [], [], _, _ => by simp [pys, PyData.eqvAll]
  | [], _ :: _, _, _ => by simp [pys, PyData.eqvAll]
  | _ :: _, [], _, _ => by simp [pys, PyData.eqvAll]
  | d :: ds, e :: es, h, g => by
    simp only [noBs, Bool.and_eq_true] at h g
    simp only [pys, PyData.eqvAll, Bool.and_eq_true, List.cons.injEq]
    rw [eqv_iff d e h.1 g.1, eqvs_iff ds es h.2 g.2]
end
structure Cmp (d : D) : Prop where
  pr : pureD d = true
  ok : okD 40 d = true
  nb : noB d = true
mutual
theorem ok_more : ∀ (d : D) (n : Nat), okD n d = true → okD (n + 1) d = true
  | .non, n, _ | .bl _, n, _ | .int _, n, _ => by simp [okD]
  | .str x, n, h => by cases n <;> simpa [okD] using h
  | .tup ds, 0, h | .rol ds, 0, h => by simp [okD] at h
  | .tup ds, n + 1, h | .rol ds, n + 1, h => by simp only [okD] at h ⊢; exact oks_more ds n h
  | .ref _, n, h => by cases n <;> simp [okD] at h
  | .obj _ _, n, h => by cases n <;> simp [okD] at h
theorem oks_more : ∀ (ds : List D) (n : Nat), oksD n ds = true → oksD (n + 1) ds = true
  | [], _, _ => by simp [oksD]
  | d :: ds, n, h => by
    simp only [oksD, Bool.and_eq_true] at h ⊢
    exact ⟨ok_more d n h.1, oks_more ds n h.2⟩
end
theorem ok_le {d : D} {n m : Nat} (h : n ≤ m) (hd : okD n d = true) : okD m d = true := by
  obtain ⟨k, rfl⟩ := Nat.exists_eq_add_of_le h
  induction k with
  | zero => exact hd
  | succ k ih => exact ok_more d _ (ih (by omega))
theorem oks_of {n : Nat} : ∀ {ds : List D}, (∀ d ∈ ds, okD n d = true) → oksD n ds = true
  | [], _ => by simp [oksD]
  | d :: ds, h => by simp only [oksD, Bool.and_eq_true]; exact ⟨h d (by simp), oks_of fun e he => h e (by simp [he])⟩
theorem pures_of : ∀ {ds : List D}, (∀ d ∈ ds, pureD d = true) → puresD ds = true
  | [], _ => by simp [puresD]
  | d :: ds, h => by simp only [puresD, Bool.and_eq_true]; exact ⟨h d (by simp), pures_of fun e he => h e (by simp [he])⟩
theorem noBs_of : ∀ {ds : List D}, (∀ d ∈ ds, noB d = true) → noBs ds = true
  | [], _ => by simp [noBs]
  | d :: ds, h => by simp only [noBs, Bool.and_eq_true]; exact ⟨h d (by simp), noBs_of fun e he => h e (by simp [he])⟩
structure CmpN (n : Nat) (d : D) : Prop where
  pr : pureD d = true
  ok : okD n d = true
  nb : noB d = true
theorem CmpN.tup {n : Nat} {ds : List D} (h : ∀ d ∈ ds, CmpN n d) : CmpN (n + 1) (.tup ds) :=
  ⟨by simp only [pureD]; exact pures_of fun d hd => (h d hd).pr, by simp only [okD]; exact oks_of fun d hd => (h d hd).ok, by simp only [noB]; exact noBs_of fun d hd => (h d hd).nb⟩
theorem CmpN.int {n : Nat} {i : Int} : CmpN n (.int i) := ⟨by simp [pureD], by cases n <;> simp [okD], by simp [noB]⟩
theorem CmpN.non {n : Nat} : CmpN n .non := ⟨by simp [pureD], by cases n <;> simp [okD], by simp [noB]⟩
theorem CmpN.str {n : Nat} {x : List Nat} (h : ∀ c ∈ x, c < 0x110000) : CmpN n (.str x) := ⟨by simp [pureD], by cases n <;> simpa [okD] using h, by simp [noB]⟩
theorem CmpN.okV {n : Nat} {d : D} (h : CmpN n d) (hn : n ≤ 40) : okV d = true := ok_le (by omega) h.ok
theorem CmpN.eqv {n m : Nat} {d e : D} (h : CmpN n d) (g : CmpN m e) : PyData.eqv (py d) (py e) = true ↔ d = e := eqv_iff d e h.nb g.nb
abbrev Lp := List Nat × List Int
abbrev It := Nat ⊕ Lp
def txs : List It → List Nat × List (List Nat)
  | [] => ([], [])
  | .inl c :: r => (c :: (txs r).1, (txs r).2)
  | .inr _ :: r => ([], (txs r).1 :: (txs r).2)
def lps : List It → List Lp
  | [] => []
  | .inl _ :: r => lps r
  | .inr l :: r => l :: lps r
theorem txs_map (w : List Nat) : txs (w.map .inl) = (w, []) ∧ lps (w.map .inl) = [] := by
  induction w with
  | nil => exact ⟨rfl, rfl⟩
  | cons c w ih => simp [txs, lps, ih.1, ih.2]
theorem cut_1m {α : Type} (x : α) (r : List α) : cutD (x :: r) (some 1) none = r := by rw [cut_1]; rfl
end G57
set_option Elab.async false
set_option linter.all false
set_option maxRecDepth 100000
set_option maxHeartbeats 800000
namespace G57
open PySem L2
mutual
def rowP : Pg → List It
  | .text w => w.map .inl
  | .loop f ps => if f.any (· != 0) = false then [] else if isOpen f = true then (if rowPs ps = [] then [] else [.inr ((txs (rowPs ps)).1, f)]) else (List.replicate (f.headD 0).toNat (rowPs ps)).flatten
def rowPs : List Pg → List It
  | [] => []
  | p :: ps => rowP p ++ rowPs ps
end
def rsize : List It → Nat
  | [] => 0
  | .inl _ :: r => rsize r + 1
  | .inr l :: r => rsize r + l.1.length + 1
def lowR (r : List It) : Prop := ∀ x ∈ r, match x with
  | .inl c => c < 0x110000
  | .inr l => ∀ c ∈ l.1, c < 0x110000
end G57
set_option Elab.async false
set_option linter.all false
set_option maxRecDepth 100000
set_option maxHeartbeats 800000
namespace G57
open PySem L2
def wB (xs : List Int) : Prop := ∀ x ∈ xs, x.natAbs < 2 ^ 4000
theorem cmul_B {i j : Int} (hi : i.natAbs < 2 ^ 10000) (hj : j.natAbs < 2 ^ 10000) : CMulW i j := wide_mul hi hj (by decide) (by decide) (by decide)
theorem lt_B {i : Nat} {n m : Nat} (h : i < 2 ^ n) (hn : n ≤ m) : i < 2 ^ m := Nat.lt_of_lt_of_le h (Nat.pow_le_pow_right (by decide) hn)
def sVal : Spec2 := fun ds g Q => ∃ f ns : List Int, ds = [.tup (f.map .int), .tup (ns.map .int)] ∧ f ≠ [] ∧ wB f ∧ wB ns ∧ ns.length ≤ 16777216 ∧ Q (.int (valF f ns)) g
theorem q_val (N : List Str) (h4 : N.length = 4) : ∀ ds g Q, sVal ds g Q → OkS (tab2 []) [] ir_value_of { nx := fun _ g' => Q .non g', rt := Q } (startD N ds) g := by
  rintro ds g Q ⟨f, ns, rfl, hne, hf, hn, hl, k⟩
  obtain ⟨c, r, rfl⟩ : ∃ c r, f = c :: r := by
    cases f with
    | nil => exact absurd rfl hne
    | cons c r => exact ⟨c, r, rfl⟩
  rw [show startD N [.tup ((c :: r).map .int), .tup (ns.map .int)] = [some (.tup ((c :: r).map .int)), some (.tup (ns.map .int)), none, none] from by unfold startD; rw [h4]; rfl]
  unfold ir_value_of
  refine ok_cons (ok_ret ?_)
  simp only [List.map_cons, wqE, wqA, wqC, wqO, wqI, addV_ii, idxV_t, slV_t, biV_sum_r, itV_t, flatD_i, opV_Add, opV_Mult, ownB, Bool.not_false, Bool.or_self, List.getElem?_cons_zero, List.getElem?_cons_succ, Option.some.injEq, exists_eq_left', D.int.injEq, atI_0, exists_and_left, true_and, cut_1m]
  rw [zip_ii]
  refine lcV_map encII (fun y => .int (y.1 * y.2)) _ (by simp; omega) (fun y hy kk hk => ?_) ?_
  · obtain ⟨u, v⟩ := y
    have h1 := List.of_mem_zip hy
    simp only [encII, wipeD, mulV_ii, wqP_v, wqP_t, wqPs_n, wqPs_c, List.getElem?_cons_zero, List.getElem?_cons_succ, List.set_cons_zero, List.set_cons_succ, Option.some.injEq, exists_eq_left', if_true]
    exact ⟨cmul_B (lt_B (hf u (by simp [h1.1])) (by decide)) (lt_B (hn v h1.2) (by decide)), hk⟩
  · refine ⟨_, by rw [show (fun y : Int × Int => D.int (y.1 * y.2)) = D.int ∘ (fun y => y.1 * y.2) from rfl, ← List.map_map]; exact intsF_map _, ?_⟩
    unfold valF at k
    rw [List.headD_cons, List.tail_cons, dot_zip] at k
    exact k
theorem q_value_of : ∀ ds g Q, sVal ds g Q → OkS (tab2 []) [] ir_value_of { nx := fun _ g' => Q .non g', rt := Q } (startD ["form", "counts", "factor", "count"] ds) g := q_val _ rfl
abbrev Run := List Nat × Int
def runT (x : Run) : List Nat := (List.replicate x.2.toNat x.1).flatten
def itTx (ns : List Int) : It → List Nat
  | .inl c => [c]
  | .inr l => runT (l.1, valF l.2 ns)
def rowT (ns : List Int) : List It → List Nat
  | [] => []
  | x :: r => itTx ns x ++ rowT ns r
theorem runT_1 (w : List Nat) : runT (w, 1) = w := by simp [runT]
structure OkR (m : Nat) (r : List It) : Prop where
  sz : rsize r ≤ 5000000
  fm : ∀ l ∈ lps r, l.2.length = m + 1 ∧ wB l.2
  ne : ∀ l ∈ lps r, l.1 ≠ []
  low : lowR r
end G57
set_option Elab.async false
set_option linter.all false
set_option maxRecDepth 100000
set_option maxHeartbeats 800000
namespace G57
open PySem L2
structure Sh (n k : Nat) (d : D) : Prop where
  pr : pureD d = true
  ok : okD n d = true
  ins : inB 40 d
  sz : rsz 40 d ≤ k
theorem Sh.int {n : Nat} {i : Int} (h : i.natAbs < 10 ^ 40) : Sh n 41 (.int i) := ⟨by simp [pureD], by cases n <;> simp [okD], by simpa only [inB] using h, by simp only [rsz]; omega⟩
theorem Sh.non {n : Nat} : Sh n 5 .non := ⟨by simp [pureD], by cases n <;> simp [okD], by simp only [inB], by simp only [rsz]; omega⟩
theorem Sh.bl {n : Nat} {b : Bool} : Sh n 5 (.bl b) := ⟨by simp [pureD], by cases n <;> simp [okD], by simp only [inB], by simp only [rsz]; omega⟩
theorem Sh.str {n k : Nat} {x : List Nat} (h : ∀ c ∈ x, c < 0x110000) (hk : x.length ≤ k) : Sh n (10 * k + 2) (.str x) := ⟨by simp [pureD], by cases n <;> simpa [okD] using h, by simp only [inB], by simp only [rsz]; omega⟩
theorem insB_of {B : Nat} : ∀ {ds : List D}, (∀ d ∈ ds, inB B d) → insB B ds
  | [], _ => by simp [insB]
  | d :: ds, h => by simp only [insB]; exact ⟨h d (by simp), insB_of fun e he => h e (by simp [he])⟩
theorem rszs_of {B k : Nat} : ∀ {ds : List D}, (∀ d ∈ ds, rsz B d ≤ k) → rszs B ds ≤ ds.length * (k + 2)
  | [], _ => by simp [rszs]
  | d :: ds, h => by
    have a := h d (by simp)
    have b := rszs_of (ds := ds) fun e he => h e (by simp [he])
    simp only [rszs, List.length_cons, Nat.succ_mul]; omega
theorem Sh.tup {n k m : Nat} {ds : List D} (h : ∀ d ∈ ds, Sh n k d) (hm : ds.length ≤ m) : Sh (n + 1) (m * (k + 2) + 3) (.tup ds) :=
  ⟨by simp only [pureD]; exact pures_of fun d hd => (h d hd).pr, by simp only [okD]; exact oks_of fun d hd => (h d hd).ok, by simp only [inB]; exact insB_of fun d hd => (h d hd).ins, by
    have a := rszs_of (B := 40) (k := k) fun d hd => (h d hd).sz
    have b : ds.length * (k + 2) ≤ m * (k + 2) := Nat.mul_le_mul_right _ hm
    simp only [rsz]; omega⟩
theorem Sh.two {n k l : Nat} {a b : D} (ha : Sh n k a) (hb : Sh n l b) : Sh (n + 1) (k + l + 7) (.tup [a, b]) :=
  ⟨by simp only [pureD, puresD, ha.pr, hb.pr]; rfl, by simp only [okD, oksD, ha.ok, hb.ok]; rfl, by simp only [inB, insB]; exact ⟨ha.ins, hb.ins, trivial⟩, by have a := ha.sz; have b := hb.sz; simp only [rsz, rszs]; omega⟩
theorem Sh.ints {n k : Nat} {f : List Int} (h : ∀ i ∈ f, i.natAbs < 10 ^ 40) (hk : f.length ≤ k) : Sh (n + 1) (k * 43 + 3) (.tup (f.map .int)) :=
  .tup (fun d hd => by obtain ⟨i, hi, rfl⟩ := List.mem_map.mp hd; exact .int (h i hi)) (by simpa using hk)
section
variable {P : Program} {w : World} {K : PySem.W.Frag} {mg : Str → Option Value} {base : Heap} {k : Nat}
end
def sOne : Spec2 := fun ds g Q => ∃ (d : D) (xs : List D), ds = [dck, d] ∧ itV d = some xs ∧ xs ≠ [] ∧ xs.length ≤ 16777216 ∧ 1 ≤ g ∧ ∀ x ∈ xs, Q x (g - 1)
theorem q_one : ∀ ds g Q, sOne ds g Q → OkS (tab2 [("_law_draw", sDraw)]) [] ir_l_one { nx := fun _ g' => Q .non g', rt := Q } (startD ["_law_deck_here", "_law_items"] ds) g := by
  rintro ds g Q ⟨d, xs, rfl, hi, hne, hl, hg, k⟩
  rw [show startD ["_law_deck_here", "_law_items"] [dck, d] = [some dck, some d] from rfl]
  have hz : 0 < xs.length := List.length_pos_iff.mpr hne
  unfold ir_l_one
  refine ok_cons (ok_ret ?_)
  cases d with
  | str x =>
    cases hi
    rw [List.length_map] at hl hz
    simp only [wqE, wqA, biV_len_s, ownB, Bool.not_false, Bool.or_self, Bool.or_true, tab2_q, List.getElem?_cons_zero, List.getElem?_cons_succ, Option.some.injEq, exists_eq_left', Option.map_some, true_and]
    refine ⟨hl, _, rfl, by omega, by omega, hg, fun r h0 h1 => ?_⟩
    obtain ⟨c, e1, e2⟩ := pick h0 h1
    simp only [idxV_s]
    exact ⟨hl, c, e1, k _ (List.mem_map.mpr ⟨c, e2, rfl⟩)⟩
  | tup es =>
    cases hi
    simp only [wqE, wqA, biV_len_t, ownB, Bool.not_false, Bool.or_self, Bool.or_true, tab2_q, List.getElem?_cons_zero, List.getElem?_cons_succ, Option.some.injEq, exists_eq_left', Option.map_some, true_and]
    refine ⟨_, rfl, by omega, by omega, hg, fun r h0 h1 => ?_⟩
    obtain ⟨c, e1, e2⟩ := pick h0 h1
    simp only [idxV_t]
    exact ⟨c, e1, k _ e2⟩
  | rol es =>
    cases hi
    simp only [wqE, wqA, biV_len_r, ownB, Bool.not_false, Bool.or_self, Bool.or_true, tab2_q, List.getElem?_cons_zero, List.getElem?_cons_succ, Option.some.injEq, exists_eq_left', Option.map_some, true_and]
    refine ⟨_, rfl, by omega, by omega, hg, fun r h0 h1 => ?_⟩
    obtain ⟨c, e1, e2⟩ := pick h0 h1
    simp only [idxV_r]
    exact ⟨c, e1, k _ e2⟩
  | _ => cases hi
end G57
set_option Elab.async false
set_option linter.all false
set_option maxRecDepth 100000
set_option maxHeartbeats 800000
namespace G57
open PySem L2
def pcRow : Pc → List It
  | (w, none) => w.map .inl
  | (w, some f) => if w = [] then [] else [.inr (w, f)]
def rowOf (xs : List Pc) : List It := (xs.map pcRow).flatten
theorem rowOf_app (xs ys : List Pc) : rowOf (xs ++ ys) = rowOf xs ++ rowOf ys := by simp [rowOf]
theorem rowOf_rep (n : Nat) (xs : List Pc) : rowOf (List.replicate n xs).flatten = (List.replicate n (rowOf xs)).flatten := by
  induction n with
  | zero => rfl
  | succ n ih => rw [List.replicate_succ, List.flatten_cons, rowOf_app, ih, List.replicate_succ, List.flatten_cons]
theorem rowOf_shut : ∀ xs : List Pc, (∀ x ∈ xs, x.2 = none) → rowOf xs = ((xs.map (·.1)).flatten).map .inl
  | [], _ => rfl
  | (w, g) :: xs, h => by
    have hg : g = none := h (w, g) (by simp)
    subst hg
    have ih := rowOf_shut xs fun y hy => h y (by simp [hy])
    unfold rowOf at ih ⊢
    rw [List.map_cons, List.flatten_cons, ih]
    simp [pcRow]
theorem all0 {f : List Int} (h : f.any (· != 0) = false) : isOpen f = false ∧ f.headD 0 = 0 := by
  cases f with
  | nil => exact ⟨rfl, rfl⟩
  | cons c r =>
    rw [List.any_cons, Bool.or_eq_false_iff] at h
    exact ⟨h.2, by simpa using h.1⟩
mutual
theorem row_pcs {m : Nat} : ∀ (p : Pg) (d : Nat) (b : Bool), okP m p d b → rowP p = rowOf (pcsP p)
  | .text w, d, b, h => by rw [rowP, pcsP]; simp [rowOf, pcRow]
  | .loop f ps, d, b, h => by
    rw [okP] at h
    obtain ⟨h0, hf, h1, h3, h4, h5⟩ := h
    have ih := row_pcss ps _ _ h5
    rw [rowP, pcsP, ih]
    split
    · rename_i ha
      obtain ⟨e1, e2⟩ := all0 ha
      rw [e1, if_neg (by decide), e2]
      rfl
    · split
      · rename_i ho
        rw [ho] at h5
        simp only [Bool.not_true, Bool.and_false] at h5
        rw [rowOf_shut _ (shut_pcss ps _ h5)]
        simp only [List.map_eq_nil_iff, txs_map]
        simp [rowOf, pcRow]
      · rw [rowOf_rep]
theorem row_pcss {m : Nat} : ∀ (ps : List Pg) (d : Nat) (b : Bool), okPs m ps d b → rowPs ps = rowOf (pcsPs ps)
  | [], d, b, h => rfl
  | p :: ps, d, b, h => by
    rw [okPs] at h
    rw [rowPs, pcsPs, rowOf_app, row_pcs p d b h.1, row_pcss ps d b h.2]
end
def pcT (ns : List Int) (xs : List Pc) : List Nat := (xs.map fun x => runT (x.1, valC ns x.2)).flatten
theorem pcT_app (ns : List Int) (xs ys : List Pc) : pcT ns (xs ++ ys) = pcT ns xs ++ pcT ns ys := by simp [pcT]
theorem pcT_cons (ns : List Int) (x : Pc) (xs : List Pc) : pcT ns (x :: xs) = runT (x.1, valC ns x.2) ++ pcT ns xs := by simp [pcT]
theorem pcT_rep (ns : List Int) (n : Nat) (xs : List Pc) : pcT ns (List.replicate n xs).flatten = (List.replicate n (pcT ns xs)).flatten := by
  induction n with
  | zero => rfl
  | succ n ih => rw [List.replicate_succ, List.flatten_cons, pcT_app, ih, List.replicate_succ, List.flatten_cons]
theorem pcT_shut (ns : List Int) : ∀ xs : List Pc, (∀ x ∈ xs, x.2 = none) → pcT ns xs = (xs.map (·.1)).flatten
  | [], _ => rfl
  | (w, g) :: xs, h => by
    have hg : g = none := h (w, g) (by simp)
    subst hg
    rw [pcT_cons, pcT_shut ns xs fun y hy => h y (by simp [hy])]
    simp [valC, runT_1]
theorem rowT_app (ns : List Int) : ∀ a b : List It, rowT ns (a ++ b) = rowT ns a ++ rowT ns b
  | [], b => rfl
  | x :: a, b => by rw [List.cons_append, rowT, rowT, rowT_app ns a b, List.append_assoc]
theorem rowT_map (ns : List Int) (w : List Nat) : rowT ns (w.map .inl) = w := by
  induction w with
  | nil => rfl
  | cons c w ih => simp [rowT, itTx, ih]
theorem rowT_rowOf (ns : List Int) : ∀ xs : List Pc, rowT ns (rowOf xs) = pcT ns xs
  | [] => rfl
  | (w, g) :: xs => by
    rw [show rowOf ((w, g) :: xs) = pcRow (w, g) ++ rowOf xs by simp [rowOf], rowT_app, rowT_rowOf ns xs, pcT_cons]
    congr 1
    cases g with
    | none => simp only [pcRow, valC, runT_1, rowT_map]
    | some f =>
      simp only [pcRow, valC]
      split
      · rename_i hw; subst hw; simp [rowT, runT]
      · simp [rowT, itTx]
mutual
theorem wrt_pcs {m : Nat} (ns : List Int) : ∀ (p : Pg) (d : Nat) (b : Bool), okP m p d b → wrt ns p = pcT ns (pcsP p)
  | .text w, d, b, h => by rw [wrt, pcsP]; simp [pcT, valC, runT_1]
  | .loop f ps, d, b, h => by
    rw [okP] at h
    obtain ⟨h0, hf, h1, h3, h4, h5⟩ := h
    have ih := wrts_pcs ns ps _ _ h5
    rw [wrt, pcsP, ih]
    split
    · rename_i ho
      rw [ho] at h5
      simp only [Bool.not_true, Bool.and_false] at h5
      rw [pcT_shut ns _ (shut_pcss ps _ h5)]
      simp [pcT, valC, runT]
    · rename_i ho
      rw [pcT_rep, val_shut (by simpa using ho)]
theorem wrts_pcs {m : Nat} (ns : List Int) : ∀ (ps : List Pg) (d : Nat) (b : Bool), okPs m ps d b → wrts ns ps = pcT ns (pcsPs ps)
  | [], d, b, h => rfl
  | p :: ps, d, b, h => by
    rw [okPs] at h
    rw [wrts, pcsPs, pcT_app, wrt_pcs ns p d b h.1, wrts_pcs ns ps d b h.2]
end
section
variable {m : Nat} {ps : List Pg} (h : OkPg m ps)
include h
theorem OkPg.row : rowPs ps = rowOf (pcsPs ps) := row_pcss ps 3 true h.ok
theorem OkPg.text (ns : List Int) : rowT ns (rowPs ps) = wrts ns ps := by rw [h.row, rowT_rowOf, wrts_pcs ns ps 3 true h.ok]
end
end G57
set_option Elab.async false
set_option linter.all false
set_option maxRecDepth 100000
set_option maxHeartbeats 1000000
namespace G57
open PySem L2
theorem dv_ten : ∀ k a : Nat, (List.replicate k 48).foldl (fun acc c => acc * 10 + (c - 48)) a = a * 10 ^ k
  | 0, a => by simp
  | k + 1, a => by
    rw [List.replicate_succ, List.foldl_cons, dv_ten k]
    rw [Nat.pow_succ, Nat.sub_self, Nat.add_zero, Nat.mul_assoc, Nat.mul_comm 10]
theorem ten_text (k : Nat) (hk : k ≤ 600) : PySem.intText? ⟨(49 :: List.replicate k 48).toArray⟩ = some (((10 ^ k : Nat)) : Int) := by
  have := intText_digits (x := ⟨(49 :: List.replicate k 48).toArray⟩) (fun c hc => by
    have hc : c ∈ 49 :: List.replicate k 48 := by simpa using hc
    rcases List.mem_cons.mp hc with rfl | hc
    · omega
    · rw [List.eq_of_mem_replicate hc]; omega) (by simp) (by show (49 :: List.replicate k 48).toArray.size ≤ 4300; simp; omega)
  rw [this]
  have e : NumText.digitsVal (49 :: List.replicate k 48) = 10 ^ k := by
    unfold NumText.digitsVal
    rw [List.foldl_cons, dv_ten]
    simp
  show some ((NumText.digitsVal ((49 :: List.replicate k 48).toArray.toList) : Nat) : Int) = _
  rw [List.toList_toArray, e]
structure ShB (d : D) : Prop where
  ok : okD 41 d = true
  ins : inB 1210 d
  sz : rsz 1210 d ≤ 16777216
theorem biV_reprB {d : D} {R : RK} (h : ShB d) (r : R (.str (rtxt (py d)))) : biV .repr [d] R :=
  ⟨h.ok, sh_of 1210 (by decide) d h.ins, Nat.le_trans (shown_rsz 1210 (by decide) d 41 h.ok h.ins) h.sz, r⟩
theorem ShB.int {i : Int} (h : i.natAbs < 10 ^ 1210) : ShB (.int i) := ⟨by simp [okD], by simpa only [inB] using h, by simp only [rsz]; omega⟩
end G57
set_option Elab.async false
set_option linter.all false
set_option maxRecDepth 100000
set_option maxHeartbeats 2000000
namespace G57
open PySem L2 PySem.Spec PyProof.Rows
def irz_l_far : Sx := .cons (.ret (.call 0 (.cons (.var 0) (.cons (.lst (.cons (.con (.int 0)) (.cons (.con (.int 1)) (.cons (.call 1 (.cons (.var 0) (.cons (.con (.int 41)) (.nil)))) (.cons (.bin .Add (.bi .int (.cons (.bin .Add (.con (.str [49])) (.bin .Mult (.con (.str [48])) (.call 1 (.cons (.var 0) (.cons (.con (.int 599)) (.nil)))))) (.nil))) (.call 1 (.cons (.var 0) (.cons (.con (.int 9)) (.nil))))) (.nil)))))) (.nil))))) .nil
def irz_law_b2 : Sx := .cons (.asg (.v 6) (.bin .Add (.var 6) (.bin .Mult (.idx (.var 4) (.bin .Add (.var 7) (.con (.int 1)))) (.idx (.var 5) (.var 7))))) .nil
def irz_law_b3 : Sx := .cons (.ret (.con (.bl false))) .nil
def irz_law_b1_5 : Sx := .cons (.iff (.or (.cmp .NotEq (.bi .repr (.cons (.call 3 (.cons (.var 4) (.cons (.var 5) (.nil)))) (.nil))) (.bi .repr (.cons (.var 6) (.nil)))) (.cmp .NotEq (.bi .repr (.cons (.tup (.cons (.var 4) (.cons (.var 5) (.nil)))) (.nil))) (.var 8))) (irz_law_b3) (.nil)) .nil
def irz_law_b1_4 : Sx := .cons (.asg (.v 8) (.bi .repr (.cons (.tup (.cons (.var 4) (.cons (.var 5) (.nil)))) (.nil)))) irz_law_b1_5
def irz_law_b1_3 : Sx := .cons (.loop (.v 7) (.iR1 (.var 3)) (irz_law_b2)) irz_law_b1_4
def irz_law_b1_2 : Sx := .cons (.asg (.v 6) (.idx (.var 4) (.con (.int 0)))) irz_law_b1_3
def irz_law_b1_1 : Sx := .cons (.asg (.t (.cons (.v 4) (.cons (.v 5) (.nil)))) (.tup (.cons (.bi .tuple (.cons (.lc [7] (.v 7) (.iR1 (.bin .Add (.var 3) (.con (.int 1)))) (.nil) (.call 2 (.cons (.var 1) (.nil)))) (.nil))) (.cons (.bi .tuple (.cons (.lc [7] (.v 7) (.iR1 (.var 3)) (.nil) (.call 2 (.cons (.var 1) (.nil)))) (.nil))) (.nil))))) irz_law_b1_2
def irz_law_b1 : Sx := .cons (.asg (.v 3) (.call 1 (.cons (.var 1) (.cons (.con (.int 6)) (.nil))))) irz_law_b1_1
def irz_law_2 : Sx := .cons (.ret (.con (.bl true))) .nil
def irz_law_1 : Sx := .cons (.loop (.v 2) (.iR1 (.con (.int 20))) (irz_law_b1)) irz_law_2
def irz_law : Sx := .cons (.asg (.v 1) (.call 0 (.cons (.var 0) (.nil)))) irz_law_1
def tb (i : Nat) : Stmt := PySem.Challenge.pw_everycount_k01_values_of_forms.main.body.getD i (.Pass ⟨0, 0, 0, 0⟩)
def bs0 : List Str := ["range", "repr", "tuple", "sum", "zip", "int", "len", "abs", "list"]
def cs0 : List (Str × D) := []
theorem ok_value_of : fnOkB ["form", "counts", "factor", "count"] ["form", "counts"] (defScope (tb 1)) = true := by decide +kernel
theorem tr_value_of : trB 300 (gamOf ["form", "counts", "factor", "count"] (defScope (tb 1)) bs0 [] cs0) (defBody (tb 1)) = some ir_value_of := by kernel_rfl
theorem ok_l_deck : fnOkB ["_law_script"] ["_law_script"] (defScope (tb 3)) = true := by decide +kernel
theorem tr_l_deck : trB 300 (gamOf ["_law_script"] (defScope (tb 3)) bs0 [] cs0) (defBody (tb 3)) = some ir_l_deck := by kernel_rfl
theorem ok_l_draw : fnOkB ["_law_deck_here", "_law_many", "_law_cell", "_law_mixed", "_law_found"] ["_law_deck_here", "_law_many"] (defScope (tb 4)) = true := by decide +kernel
theorem tr_l_draw : trB 300 (gamOf ["_law_deck_here", "_law_many", "_law_cell", "_law_mixed", "_law_found"] (defScope (tb 4)) bs0 [] cs0) (defBody (tb 4)) = some ir_l_draw := by kernel_rfl
theorem ok_l_one : fnOkB ["_law_deck_here", "_law_items"] ["_law_deck_here", "_law_items"] (defScope (tb 5)) = true := by decide +kernel
theorem tr_l_one : trB 300 (gamOf ["_law_deck_here", "_law_items"] (defScope (tb 5)) bs0 ["_law_draw"] cs0) (defBody (tb 5)) = some ir_l_one := by kernel_rfl
theorem ok_l_far : fnOkB ["_law_deck_here"] ["_law_deck_here"] (defScope (tb 6)) = true := by decide +kernel
theorem tr_l_far : trB 300 (gamOf ["_law_deck_here"] (defScope (tb 6)) bs0 ["_law_one", "_law_draw"] cs0) (defBody (tb 6)) = some irz_l_far := by kernel_rfl
theorem ok_law : fnOkB ["_law_script", "_law_deck_here", "_law_turn", "_law_many", "_law_shape", "_law_numbers", "_law_due", "_law_k", "_law_held"] ["_law_script"] (defScope (tb 7)) = true := by decide +kernel
theorem tr_law : trB 300 (gamOf ["_law_script", "_law_deck_here", "_law_turn", "_law_many", "_law_shape", "_law_numbers", "_law_due", "_law_k", "_law_held"] (defScope (tb 7)) bs0 ["_law_deck", "_law_draw", "_law_far", "value_of"] cs0) (defBody (tb 7)) = some irz_law := by kernel_rfl
structure Tops (K : PySem.W.Frag) (mg : Str → Option Value) : Prop where
  f_value_of : FT K mg "value_of" (tb 1) ["form", "counts"]
  f_l_deck : FT K mg "_law_deck" (tb 3) ["_law_script"]
  f_l_draw : FT K mg "_law_draw" (tb 4) ["_law_deck_here", "_law_many"]
  f_l_one : FT K mg "_law_one" (tb 5) ["_law_deck_here", "_law_items"]
  f_l_far : FT K mg "_law_far" (tb 6) ["_law_deck_here"]
  md : Md K mg bs0 cs0
end G57
set_option Elab.async false
set_option linter.all false
set_option maxRecDepth 100000
set_option maxHeartbeats 1000000
namespace G57
open PySem L2 PySem.Spec PyProof.Rows
def farB (n : Int) : Prop := 0 ≤ n ∧ n < 10 ^ 601
def farL (d : D) : Prop := ∃ n, d = .int n ∧ farB n
theorem fars_of : ∀ ys : List D, (∀ y ∈ ys, farL y) → ∃ ns : List Int, ys = ns.map .int ∧ ∀ n ∈ ns, farB n
  | [], _ => ⟨[], rfl, fun n h => by cases h⟩
  | y :: ys, h => by
    obtain ⟨n, rfl, hn⟩ := h y (by simp)
    obtain ⟨ns, rfl, hns⟩ := fars_of ys fun y hy => h y (by simp [hy])
    exact ⟨n :: ns, rfl, fun i hi => by
      rcases List.mem_cons.mp hi with rfl | hi
      · exact hn
      · exact hns i hi⟩
theorem far_abs {n : Int} (h : farB n) : n.natAbs < 10 ^ 601 := by
  obtain ⟨h0, h1⟩ := h
  have : (n.natAbs : Int) < ((10 ^ 601 : Nat) : Int) := by
    rw [Int.natAbs_of_nonneg h0]
    exact_mod_cast h1
  exact_mod_cast this
def sFarG : Spec2 := fun ds g Q => ds = [dck] ∧ 4 ≤ g ∧ ∀ n, farB n → Q (.int n) (g - 4)
theorem q_farG : ∀ ds g Q, sFarG ds g Q → OkS (tab2 [("_law_one", sOne), ("_law_draw", sDraw)]) [] irz_l_far { nx := fun _ g' => Q .non g', rt := Q } (startD ["_law_deck_here"] ds) g := by
  rintro ds g Q ⟨rfl, hg, k⟩
  rw [show startD ["_law_deck_here"] [dck] = [some dck] from rfl]
  unfold irz_l_far
  refine ok_cons (ok_ret ?_)
  simp only [wqE, wqA, flatD_i, flatD_s, opV_Add, opV_Mult, ownB, Bool.not_false, Bool.or_true, tab2_q, List.getElem?_cons_zero, List.getElem?_cons_succ, Option.some.injEq, exists_eq_left', Option.map_some, true_and, Bool.not_false]
  refine ⟨41, rfl, by decide, by decide, by omega, fun a a0 a1 => ?_⟩
  refine ⟨599, rfl, by decide, by decide, by omega, fun b b0 b1 => ?_⟩
  obtain ⟨b, rfl⟩ := Int.eq_ofNat_of_zero_le b0
  have eb : ((b : Int)).toNat = b := by omega
  simp only [addV_ss, mulV_si, biV_int_s]
  simp only [eb, List.flatten_replicate_singleton]
  refine ⟨by omega, by omega, by simp; omega, by simp; omega, ((10 ^ b : Nat) : Int), ten_text b (by omega), by simp; omega, 9, rfl, by decide, by decide, by omega, fun c c0 c1 => ?_⟩
  simp only [addV_ii]
  refine ⟨by simp, _, _, rfl, rfl, by simp, by simp, by omega, fun od hod => ?_⟩
  rw [show g - 1 - 1 - 1 - 1 = g - 4 by omega]
  have hp : ((10 ^ b : Nat) : Int) ≤ 10 ^ 598 := by
    have : 10 ^ b ≤ 10 ^ 598 := Nat.pow_le_pow_right (by decide) (by omega)
    exact_mod_cast this
  have hp0 : 0 ≤ ((10 ^ b : Nat) : Int) := Int.natCast_nonneg _
  have h9 : (10 : Int) ^ 598 + 9 < 10 ^ 601 := by decide +kernel
  have h41 : (41 : Int) < 10 ^ 601 := by decide +kernel
  simp only [List.mem_cons, List.not_mem_nil, or_false] at hod
  rcases hod with rfl | rfl | rfl | rfl
  · exact k _ ⟨by omega, by omega⟩
  · exact k _ ⟨by omega, by omega⟩
  · exact k _ ⟨a0, by omega⟩
  · exact k _ ⟨by omega, by omega⟩
abbrev Nlaw : List Str := ["_law_script", "_law_deck_here", "_law_turn", "_law_many", "_law_shape", "_law_numbers", "_law_due", "_law_k", "_law_held"]
abbrev Llaw : List (Str × (Spec ⊕ Spec2)) := [("_law_deck", .inl spDeck), ("_law_draw", .inr sDraw), ("_law_far", .inr sFarG), ("value_of", .inr sVal)]
def partS (r ns : List Int) (i : Nat) : Int := (((r.zip ns).take i).map fun y => y.1 * y.2).sum
theorem partS_succ {r ns : List Int} {i : Nat} (h1 : i < r.length) (h2 : i < ns.length) : partS r ns (i + 1) = partS r ns i + r[i] * ns[i] := by
  have hz : i < (r.zip ns).length := by simp; omega
  unfold partS
  rw [List.take_add_one, List.getElem?_eq_getElem hz, Option.toList_some, List.map_append, List.sum_append]
  simp
theorem partS_all (r ns : List Int) (i : Nat) (h : (r.zip ns).length ≤ i) : partS r ns i = dot r ns := by
  unfold partS
  rw [List.take_of_length_le h, dot_zip]
theorem dot_bd : ∀ (r ns : List Int), (∀ n ∈ r, farB n) → (∀ n ∈ ns, farB n) → 0 ≤ dot r ns ∧ dot r ns ≤ (r.length : Int) * (10 ^ 1202)
  | [], _, _, _ => by simp [dot]
  | a :: r, [], _, _ => by simp only [dot, List.length_cons]; exact ⟨Int.le_refl _, Int.mul_nonneg (by omega) (by decide)⟩
  | a :: r, b :: ns, h1, h2 => by
    have ih := dot_bd r ns (fun n hn => h1 n (by simp [hn])) (fun n hn => h2 n (by simp [hn]))
    have ha := h1 a (by simp)
    have hb := h2 b (by simp)
    have e : a * b ≤ 10 ^ 1202 := by
      have := Int.mul_le_mul (Int.le_of_lt ha.2) (Int.le_of_lt hb.2) hb.1 (by decide)
      rwa [← Int.pow_add] at this
    have e0 : 0 ≤ a * b := Int.mul_nonneg ha.1 hb.1
    simp only [dot, List.length_cons]
    rw [show ((r.length + 1 : Nat) : Int) = (r.length : Int) + 1 by simp, Int.add_mul, Int.one_mul]
    omega
theorem far_wB {f : List Int} (h : ∀ n ∈ f, farB n) : wB f := fun n hn => Nat.lt_of_lt_of_le (far_abs (h n hn)) (by decide +kernel)
theorem shB_pair {f ns : List Int} (h1 : ∀ n ∈ f, farB n) (h2 : ∀ n ∈ ns, farB n) (l1 : f.length ≤ 7) (l2 : ns.length ≤ 7) : ShB (.tup [.tup (f.map .int), .tup (ns.map .int)]) := by
  have ok : ∀ l : List Int, okD 40 (.tup (l.map .int)) = true := fun l => by
    simp only [okD]
    exact oks_of fun d hd => by obtain ⟨i, _, rfl⟩ := List.mem_map.mp hd; simp [okD]
  have ins : ∀ l : List Int, (∀ n ∈ l, farB n) → inB 1210 (.tup (l.map .int)) := fun l h => by
    simp only [inB]
    exact insB_of fun d hd => by
      obtain ⟨i, hi, rfl⟩ := List.mem_map.mp hd
      simp only [inB]
      exact Nat.lt_of_lt_of_le (far_abs (h i hi)) (Nat.pow_le_pow_right (by decide) (by decide))
  have sz : ∀ l : List Int, rszs 1210 (l.map .int) = l.length * 1213 := fun l => by
    induction l with
    | nil => simp [rszs]
    | cons a l ih => simp only [List.map_cons, rszs, rsz, ih, List.length_cons]; omega
  refine ⟨?_, ?_, ?_⟩
  · simp only [okD]
    exact oks_of fun d hd => by
      simp only [List.mem_cons, List.not_mem_nil, or_false] at hd
      rcases hd with rfl | rfl <;> exact ok _
  · simp only [inB]
    exact insB_of fun d hd => by
      simp only [List.mem_cons, List.not_mem_nil, or_false] at hd
      rcases hd with rfl | rfl
      · exact ins f h1
      · exact ins ns h2
  · simp only [rsz, rszs, sz]; omega
theorem w_law : ∀ ds S Q, lawSp 63 ds S Q → wpS (tab1 (tabL Llaw)) irz_law { nx := fun _ S' => Q .non S', rt := Q } (startD Nlaw ds) S := by
  unfold irz_law
  refine law_body (M := []) rfl (by decide) rfl rfl ?_
  show OkS (tabL Llaw) [] irz_law_1 _ [none, some dck, none, none, none, none, none, none, none] 2147483648
  unfold irz_law_1
  refine ok_cons (ok_loop rfl ?_)
  simp only [wqE, wqI, rng1V_i, flatD_i, wqP_v, true_and]
  refine ⟨small_of (by decide) (by decide), ?_⟩
  refine forV_inv (fun xs env g => 200 * xs.length ≤ g ∧ ∃ o2 o3 o4 o5 o6 o7 o8, env = [none, some dck, o2, o3, o4, o5, o6, o7, o8]) _ _ _ ⟨by decide, _, _, _, _, _, _, _, rfl⟩ ?_ ?_
  · rintro x r env g N ⟨hg, o2, o3, o4, o5, o6, o7, o8, rfl⟩ hN
    rw [List.length_cons, Nat.mul_succ] at hg
    unfold irz_law_b1
    refine ok_cons (ok_asg rfl ?_)
    simp only [wqE, wqA, flatD_i, wqP_v, ownB, Bool.not_false, Bool.or_true, List.getElem?_cons_zero, List.getElem?_cons_succ, List.set_cons_zero, List.set_cons_succ, Option.some.injEq, exists_eq_left', true_and, Bool.not_false, tabL_q]
    refine ⟨6, rfl, by decide, by decide, by omega, fun mi hm0 hm6 => ?_⟩
    obtain ⟨m, rfl⟩ := Int.eq_ofNat_of_zero_le hm0
    have hl1 : (rngD 0 ((m : Int) + 1)).length = m + 1 := by simp [rngD]
    have hl2 : (rngD 0 (m : Int)).length = m := by simp [rngD]
    unfold irz_law_b1_1
    refine ok_cons (ok_asg rfl ?_)
    simp only [wqE, wqA, wqC, wqI, addV_ii, biV_tuple_r, rng1V_i, flatD_i, opV_Add, wqP_v, wqP_t, wqPs_n, wqPs_c, ownB, Bool.not_false, Bool.or_self, Bool.or_true, List.getElem?_cons_zero, List.getElem?_cons_succ, List.set_cons_zero, List.set_cons_succ, Option.some.injEq, exists_eq_left', true_and, if_true, Bool.not_false, tabL_q]
    refine ⟨trivial, lcV_draw 4 farL _ [] _ (by rw [hl1]; simp; omega) (by rw [hl1]; omega) (fun y hy => by cases hy) (fun x hx g2 k2 hg2 hk => ?_) (fun ys hyl hyP => ?_)⟩
    · simp only [wipeD, List.getElem?_cons_zero, List.getElem?_cons_succ, List.set_cons_zero, List.set_cons_succ, Option.some.injEq, exists_eq_left']
      exact ⟨rfl, by omega, fun n hn => hk _ ⟨n, rfl, hn⟩⟩
    refine ⟨trivial, lcV_draw 4 farL _ [] _ (by rw [hl2]; simp; omega) (by rw [hl1, hl2]; omega) (fun y hy => by cases hy) (fun x hx g2 k2 hg2 hk => ?_) (fun zs hzl hzP => ?_)⟩
    · simp only [wipeD, List.getElem?_cons_zero, List.getElem?_cons_succ, List.set_cons_zero, List.set_cons_succ, Option.some.injEq, exists_eq_left']
      exact ⟨rfl, by omega, fun n hn => hk _ ⟨n, rfl, hn⟩⟩
    rw [hl1] at hyl
    rw [hl2] at hzl
    simp only [List.length_nil, Nat.zero_add] at hyl hzl
    obtain ⟨f, rfl, hf⟩ := fars_of ys hyP
    obtain ⟨ns, rfl, hn⟩ := fars_of zs hzP
    rw [List.length_map] at hyl hzl
    rw [hl1, hl2]
    obtain ⟨c, f, rfl⟩ : ∃ c f', f = c :: f' := by
      cases f with
      | nil => simp at hyl
      | cons c f => exact ⟨c, f, rfl⟩
    rw [List.length_cons] at hyl
    have hft : ∀ n ∈ f, farB n := fun n h => hf n (by simp [h])
    refine ⟨by simp, ?_⟩
    unfold irz_law_b1_2
    refine ok_cons (ok_asg rfl ?_)
    simp only [List.map_cons, wqE, idxV_t, flatD_i, wqP_v, ownB, Bool.not_false, Bool.or_self, List.getElem?_cons_zero, List.getElem?_cons_succ, List.set_cons_zero, List.set_cons_succ, Option.some.injEq, exists_eq_left', atI_0, true_and, Bool.not_false]
    unfold irz_law_b1_3
    refine ok_cons (ok_loop rfl ?_)
    simp only [wqE, wqI, rng1V_i, wqP_v, ownB, Bool.not_false, Bool.or_self, List.getElem?_cons_zero, List.getElem?_cons_succ, Option.some.injEq, exists_eq_left', true_and, Bool.not_false]
    refine ⟨trivial, ?_⟩
    have hrng : rngD 0 (m : Int) = (List.range m).map fun i => .int (i : Nat) := by simp [rngD]
    refine forV_inv (fun ys env g' => g' = g - 1 - 4 * (m + 1) - 4 * m ∧ ∃ (i : Nat) (o7 o8 : Option D), ys = ((List.range m).drop i).map (fun i => D.int (i : Nat)) ∧ i ≤ m ∧ env = [none, some dck, some x, some (.int m), some (.tup (.int c :: f.map .int)), some (.tup (ns.map .int)), some (.int (c + partS f ns i)), o7, o8]) _ _ _ ⟨rfl, 0, o7, o8, by rw [hrng]; rfl, by omega, by simp [partS]⟩ ?_ ?_
    · rintro z ys env g' N' ⟨rfl, i, o7, o8, hi, him, rfl⟩ hN'
      have hi' : i < m := by
        rcases Nat.lt_or_ge i m with h | h
        · exact h
        · rw [List.drop_eq_nil_of_le (by simpa using h)] at hi
          cases hi
      rw [List.drop_eq_getElem_cons (by simpa using hi'), List.map_cons, List.getElem_range] at hi
      obtain ⟨rfl, rfl⟩ := List.cons.inj hi
      have h1 : i < f.length := by omega
      have h2 : i < ns.length := by omega
      simp only [List.set_cons_zero, List.set_cons_succ]
      unfold irz_law_b2
      refine ok_cons (ok_asg rfl ?_)
      simp only [wqE, addV_ii, idxV_t, flatD_i, opV_Add, opV_Mult, wqP_v, ownB, Bool.not_false, Bool.or_self, List.getElem?_cons_zero, List.getElem?_cons_succ, List.set_cons_zero, List.set_cons_succ, Option.some.injEq, exists_eq_left', true_and, Bool.not_false]
      refine ⟨.int f[i], by rw [atI_n (n := i + 1) (by simp)]; simp [h1], ?_⟩
      refine ⟨.int ns[i], by rw [atI_n (n := i) rfl]; simp [h2], ?_⟩
      simp only [addV_ii, mulV_ii]
      have a1 := far_abs (hft _ (List.getElem_mem h1))
      have a2 := far_abs (hn _ (List.getElem_mem h2))
      refine ⟨cmul_B (Nat.lt_of_lt_of_le a1 (by decide +kernel)) (Nat.lt_of_lt_of_le a2 (by decide +kernel)), ?_⟩
      exact ok_nil (hN' _ _ ⟨rfl, i + 1, _, _, rfl, by omega, by rw [partS_succ h1 h2, Int.add_assoc]⟩)
    · rintro env g' ⟨rfl, i, o7, o8, hi, him, rfl⟩
      have hi' : i = m := by
        rcases Nat.lt_or_ge i m with h | h
        · rw [List.drop_eq_getElem_cons (by simpa using h)] at hi
          cases hi
        · omega
      subst hi'
      rw [partS_all f ns i (by simp; omega)]
      have hv : valF (c :: f) ns = c + dot f ns := rfl
      have hd := dot_bd f ns hft hn
      have hc := hf c (by simp)
      have hsm : ShB (.int (c + dot f ns)) := ShB.int (by
        have e0 : 0 ≤ c + dot f ns := by have := hc.1; omega
        have e1 : c + dot f ns < 10 ^ 1210 := by
          have l6 : (f.length : Int) ≤ 5 := by omega
          have q1 : (f.length : Int) * 10 ^ 1202 ≤ 5 * 10 ^ 1202 := Int.mul_le_mul_of_nonneg_right l6 (by decide +kernel)
          have q2 : (10 : Int) ^ 601 + 5 * 10 ^ 1202 < 10 ^ 1210 := by decide +kernel
          have := hc.2
          omega
        have : ((c + dot f ns).natAbs : Int) < ((10 ^ 1210 : Nat) : Int) := by
          rw [Int.natAbs_of_nonneg e0]
          exact_mod_cast e1
        exact_mod_cast this)
      have hpair := shB_pair hf hn (by simp; omega) (by omega)
      rw [List.map_cons] at hpair
      unfold irz_law_b1_4
      refine ok_cons (ok_asg rfl ?_)
      simp only [wqE, wqA, wqP_v, ownB, Bool.not_false, Bool.or_true, List.getElem?_cons_zero, List.getElem?_cons_succ, List.set_cons_zero, List.set_cons_succ, Option.some.injEq, exists_eq_left', true_and, Bool.not_false]
      refine ⟨by simp, biV_reprB hpair ?_⟩
      unfold irz_law_b1_5
      refine ok_cons (ok_iff ?_)
      simp only [wqE, wqT, wqA, cmpV_NotEq, ownB, Bool.not_false, Bool.or_self, Bool.or_true, List.getElem?_cons_zero, List.getElem?_cons_succ, Option.some.injEq, exists_eq_left', true_and, if_true, Bool.not_false, tabL_q]
      refine ⟨c :: f, ns, rfl, by simp, far_wB hf, far_wB hn, by omega, ?_⟩
      rw [hv]
      refine biV_reprB hsm (biV_reprB hsm ?_)
      simp only [eqV_ss, Bool.not_true, exists_eq_left', Bool.true_xor, D.bl.injEq, if_false, Bool.false_eq_true, decide_true, Bool.not_true]
      refine ⟨by simp, biV_reprB hpair ?_⟩
      simp only [eqV_ss, Bool.not_true, exists_eq_left', Bool.true_xor, D.bl.injEq, if_false, Bool.false_eq_true, decide_true, Bool.not_true]
      exact ok_nil (ok_nil (hN _ _ ⟨by omega, _, _, _, _, _, _, _, rfl⟩))
  · rintro env g ⟨_, o2, o3, o4, o5, o6, o7, o8, rfl⟩
    unfold irz_law_2
    refine ok_cons (ok_ret ?_)
    simp only [wqE, flatD_b, and_true]
end G57
set_option Elab.async false
set_option linter.all false
set_option maxRecDepth 100000
set_option maxHeartbeats 2000000
namespace G57
open PySem L2 PySem.Spec PyProof.Rows
section
variable {P : Program} {w : World} {K : PySem.W.Frag} {mg : Str → Option Value} {base : Heap}
theorem fn_law {f : Addr} {fd : FuncData} (T : Tops K mg) (F : Fun K "law" "law" (tb 7) f fd) : FnG P w K mg base 60 f fd ["_law_script"] (liftSp K 1 (lawSp 63)) := by
  have draw1 : Does P w K mg base 1 "_law_draw" spDraw := does_of (Φ := []) T.f_l_draw ok_l_draw tr_l_draw T.md (fun p hp => by simp at hp) (fun ds S Q h => by obtain ⟨_, _, _, _, rfl, _⟩ := h; rfl) w_draw
  have h_l_draw : Does P w K mg base 1 "_law_draw" (lift2 sDraw) := does_draw2 draw1
  have h_l_one : Does P w K mg base 2 "_law_one" (lift2 sOne) := does2 (k := 1) (L := [("_law_draw", sDraw)]) (M := []) T.f_l_one ok_l_one tr_l_one T.md (fun p hp => by rw [List.mem_singleton.mp hp]; exact h_l_draw) (fun ds g Q h => by obtain ⟨_, _, rfl, _⟩ := h; rfl) (own_all (by decide)) q_one
  have h_l_far : Does P w K mg base 3 "_law_far" (lift2 sFarG) := does2 (k := 2) (L := [("_law_one", sOne), ("_law_draw", sDraw)]) (M := []) T.f_l_far ok_l_far tr_l_far T.md (fun p hp => by
    simp only [List.mem_cons, List.not_mem_nil, or_false] at hp
    rcases hp with rfl | rfl
    · exact h_l_one.mono (by omega)
    · exact h_l_draw.mono (by omega)) (fun ds g Q h => by obtain ⟨rfl, _⟩ := h; rfl) (own_all (by decide)) q_farG
  have h_value_of : Does P w K mg base 1 "value_of" (lift2 sVal) := does2 (k := 0) (L := []) (M := []) T.f_value_of ok_value_of tr_value_of T.md (fun p hp => by simp at hp) (fun ds g Q h => by obtain ⟨_, _, rfl, _⟩ := h; rfl) (own_all (by decide)) q_value_of
  have h_deck : Does P w K mg base 1 "_law_deck" spDeck := does_of (Φ := []) T.f_l_deck ok_l_deck tr_l_deck T.md (fun p hp => by simp at hp) (fun ds S Q h => by obtain ⟨_, rfl, _⟩ := h; rfl) w_deck
  refine law_does (k := 59) (L := Llaw) F ok_law tr_law T.md (fun p hp => ?_) w_law
  simp only [Llaw, List.mem_cons, List.not_mem_nil, or_false] at hp
  rcases hp with rfl | rfl | rfl | rfl
  · exact h_deck.mono (by omega)
  · exact h_l_draw.mono (by omega)
  · exact h_l_far.mono (by omega)
  · exact h_value_of.mono (by omega)
end
end G57
namespace G57
open PySem L2 PySem.Spec PyProof.Rows
theorem all_mk {l : PySem.W.OpenLaw} {w : World} {K : PySem.W.Frag} {h : Heap} {mg : Str → Option Value} {fa : Addr} (X : K.In h) (G : h.Ns mainGlobals mg) (hfa : mg "law" = some (.ref fa))
    {f0 f1 f2 f3 f4 f5 : Addr} {od0 an0 od1 an1 od2 an2 od3 an3 od4 an4 od5 an5 : Option Addr} {sl0 sl1 sl2 sl3 sl4 sl5 : Array (Option Value)} {oc0 kV0 dc0 pm0 cd0 ct0 oc1 kV1 dc1 pm1 cd1 ct1 oc2 kV2 dc2 pm2 cd2 ct2 oc3 kV3 dc3 pm3 cd3 ct3 oc4 kV4 dc4 pm4 cd4 ct4 oc5 kV5 dc5 pm5 cd5 ct5 : Value}
    (a0 : PySem.W.nsIn K mainGlobals "value_of" = some (some (.ref f0)))
    (l0 : K.lookup f0 = some ⟨oc0, od0, .func (PySem.W.fnOf "value_of" "value_of" (defArgs (tb 1)) (defBody (tb 1)) (defScope (tb 1)) .none kV0 dc0 pm0 an0 cd0 ct0), sl0⟩) (c0 : PySem.W.codeIn K cd0 "value_of" = true) (k0 : PySem.W.keepIn K (.ref f0) = true)
    (a1 : PySem.W.nsIn K mainGlobals "_law_deck" = some (some (.ref f1)))
    (l1 : K.lookup f1 = some ⟨oc1, od1, .func (PySem.W.fnOf "_law_deck" "_law_deck" (defArgs (tb 3)) (defBody (tb 3)) (defScope (tb 3)) .none kV1 dc1 pm1 an1 cd1 ct1), sl1⟩) (c1 : PySem.W.codeIn K cd1 "_law_deck" = true) (k1 : PySem.W.keepIn K (.ref f1) = true)
    (a2 : PySem.W.nsIn K mainGlobals "_law_draw" = some (some (.ref f2)))
    (l2 : K.lookup f2 = some ⟨oc2, od2, .func (PySem.W.fnOf "_law_draw" "_law_draw" (defArgs (tb 4)) (defBody (tb 4)) (defScope (tb 4)) .none kV2 dc2 pm2 an2 cd2 ct2), sl2⟩) (c2 : PySem.W.codeIn K cd2 "_law_draw" = true) (k2 : PySem.W.keepIn K (.ref f2) = true)
    (a3 : PySem.W.nsIn K mainGlobals "_law_one" = some (some (.ref f3)))
    (l3 : K.lookup f3 = some ⟨oc3, od3, .func (PySem.W.fnOf "_law_one" "_law_one" (defArgs (tb 5)) (defBody (tb 5)) (defScope (tb 5)) .none kV3 dc3 pm3 an3 cd3 ct3), sl3⟩) (c3 : PySem.W.codeIn K cd3 "_law_one" = true) (k3 : PySem.W.keepIn K (.ref f3) = true)
    (a4 : PySem.W.nsIn K mainGlobals "_law_far" = some (some (.ref f4)))
    (l4 : K.lookup f4 = some ⟨oc4, od4, .func (PySem.W.fnOf "_law_far" "_law_far" (defArgs (tb 6)) (defBody (tb 6)) (defScope (tb 6)) .none kV4 dc4 pm4 an4 cd4 ct4), sl4⟩) (c4 : PySem.W.codeIn K cd4 "_law_far" = true) (k4 : PySem.W.keepIn K (.ref f4) = true)
    (a5 : PySem.W.nsIn K mainGlobals "law" = some (some (.ref f5)))
    (l5 : K.lookup f5 = some ⟨oc5, od5, .func (PySem.W.fnOf "law" "law" (defArgs (tb 7)) (defBody (tb 7)) (defScope (tb 7)) .none kV5 dc5 pm5 an5 cd5 ct5), sl5⟩) (c5 : PySem.W.codeIn K cd5 "law" = true) (k5 : PySem.W.keepIn K (.ref f5) = true)
    (z0 : PySem.W.nsIn K mainGlobals "range" = some none)
    (z1 : PySem.W.nsIn K mainGlobals "repr" = some none)
    (z2 : PySem.W.nsIn K mainGlobals "tuple" = some none)
    (z3 : PySem.W.nsIn K mainGlobals "sum" = some none)
    (z4 : PySem.W.nsIn K mainGlobals "zip" = some none)
    (z5 : PySem.W.nsIn K mainGlobals "int" = some none)
    (z6 : PySem.W.nsIn K mainGlobals "len" = some none)
    (z7 : PySem.W.nsIn K mainGlobals "abs" = some none)
    (z8 : PySem.W.nsIn K mainGlobals "list" = some none)
    (dg : PySem.W.nsIn K cStatics "sys.int_max_str_digits" = some none)
    : ∃ fd : FuncData, (∀ (s : Shared) (v : Value), BindsTo s fd ⟨[v], []⟩ [("_law_script", v)]) ∧ ∀ base : Heap, K.In base → base.Ns mainGlobals mg → FnG l.prog w K mg base 60 fa fd ["_law_script"] (liftSp K 1 (lawSp 63)) := by
  have e := hfa.symm.trans (PySem.W.mg_of X G a5)
  cases e
  have T : Tops K mg := {
    f_value_of := ft_mk X G a0 l0 c0 k0 fun _ _ _ _ _ _ us hl => match us, hl with | [_, _], _ => rfl
    f_l_deck := ft_mk X G a1 l1 c1 k1 fun _ _ _ _ _ _ us hl => match us, hl with | [_], _ => rfl
    f_l_draw := ft_mk X G a2 l2 c2 k2 fun _ _ _ _ _ _ us hl => match us, hl with | [_, _], _ => rfl
    f_l_one := ft_mk X G a3 l3 c3 k3 fun _ _ _ _ _ _ us hl => match us, hl with | [_, _], _ => rfl
    f_l_far := ft_mk X G a4 l4 c4 k4 fun _ _ _ _ _ _ us hl => match us, hl with | [_], _ => rfl
    md := ⟨fun x hx => by
        simp only [bs0, List.mem_cons, List.not_mem_nil, or_false] at hx
        rcases hx with rfl | rfl | rfl | rfl | rfl | rfl | rfl | rfl | rfl
        · exact PySem.W.mg_none_of X G z0
        · exact PySem.W.mg_none_of X G z1
        · exact PySem.W.mg_none_of X G z2
        · exact PySem.W.mg_none_of X G z3
        · exact PySem.W.mg_none_of X G z4
        · exact PySem.W.mg_none_of X G z5
        · exact PySem.W.mg_none_of X G z6
        · exact PySem.W.mg_none_of X G z7
        · exact PySem.W.mg_none_of X G z8,
      (fun x d e => by simp [cs0] at e), dg⟩ }
  exact ⟨PySem.W.fnOf "law" "law" (defArgs (tb 7)) (defBody (tb 7)) (defScope (tb 7)) .none kV5 dc5 pm5 an5 cd5 ct5, fun s v => .of_eq rfl, fun base _ _ => fn_law T (fun_mk l5 c5 k5)⟩
end G57
open PySem PySem.W PyProof.Rows
set_option maxHeartbeats 0 in
theorem PySem.Challenge.cw_everycount_k01_values_of_forms_holds : PySem.Challenge.rw_everycount_k01_values_of_forms.Holds := by
  w_on; o_law; k_head; (case hw => w_witness2)
  k_fill
  refine G57.walk_end (l := PySem.Challenge.rw_everycount_k01_values_of_forms) (n := 63) (k := 60) (x := "_law_script") rfl (by decide) rfl ⟨rfl, by decide, by decide⟩ (fun w h Y => PySem.W.kIn_of Y) ?F
  case F =>
    intro w mg fa h KX G hmg
    refine' G57.all_mk KX G hmg ?a0 ?l0 ?c0 ?k0 ?a1 ?l1 ?c1 ?k1 ?a2 ?l2 ?c2 ?k2 ?a3 ?l3 ?c3 ?k3 ?a4 ?l4 ?c4 ?k4 ?a5 ?l5 ?c5 ?k5 ?z0 ?z1 ?z2 ?z3 ?z4 ?z5 ?z6 ?z7 ?z8 ?dg
    (case a0 => k_is)
    (case l0 => k_is)
    (case c0 => k_is)
    (case k0 => k_is)
    (case a1 => k_is)
    (case l1 => k_is)
    (case c1 => k_is)
    (case k1 => k_is)
    (case a2 => k_is)
    (case l2 => k_is)
    (case c2 => k_is)
    (case k2 => k_is)
    (case a3 => k_is)
    (case l3 => k_is)
    (case c3 => k_is)
    (case k3 => k_is)
    (case a4 => k_is)
    (case l4 => k_is)
    (case c4 => k_is)
    (case k4 => k_is)
    (case a5 => k_is)
    (case l5 => k_is)
    (case c5 => k_is)
    (case k5 => k_is)
    (case z0 => k_is)
    (case z1 => k_is)
    (case z2 => k_is)
    (case z3 => k_is)
    (case z4 => k_is)
    (case z5 => k_is)
    (case z6 => k_is)
    (case z7 => k_is)
    (case z8 => k_is)
    (case dg => k_is)
