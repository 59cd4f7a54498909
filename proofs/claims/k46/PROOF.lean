import PyProof.Rows.All
import HandS.ForMost
import HandS.Wide
import HandS.Gcd
import HandS.IsInst
import HandS.TupAny
import HandS.WideBits
import HandS.WordsDict
import KE.DataEq
import KE.SortData
import HandS.Conv
import HandS.NoneIn
import HandS.More
import HandS.Iter
import HandS.Zip0
import HandS.Zip
import KE.GoesEnumKw
import PySem.Challenge.RW_pairsave_k46_whole_plans_of_buying_ahead
set_option Elab.async false
set_option linter.all false
set_option maxRecDepth 100000
set_option maxHeartbeats 4000000
/-! DL: a heap-free reading over the hand layer: values as trees (D), what holds of slots (Sl), the base heap of what never changes -/
namespace DL
open PySem PySem.Spec PyProof.Rows L2

inductive D where
  | non | bl (b : Bool) | int (i : Int) | str (x : Str)
  | tup (xs : List D) | lst (xs : List D) | dic (ks : List Key) (xs : List D) | dct (ks : List (List Key)) (xs : List D) | pool | ty (n : String)

abbrev FK := PySem.W.Frag
mutual
/-- v stands for the tree d -/
def Rep (pp : Addr) (K : FK) (H : Hp) : D → V → Prop
  | .non, v => v = .non
  | .bl b, v => v = .bl b
  | .int i, v => v = .int i
  | .str x, v => v = .str x
  | .tup ds, v => ∃ a xs, v = .ref a ∧ SqT K H a xs ∧ RepL pp K H ds xs
  | .lst ds, v => ∃ a xs, v = .ref a ∧ H a = some (.lst xs) ∧ RepL pp K H ds xs
  | .dic ks ds, v => ∃ a ws, v = .ref a ∧ Rd H a (.dK ws) ∧ ws.map (·.1) = ks ∧ RepL pp K H ds (ws.map (·.2))
  | .dct ks ds, v => ∃ a ws, v = .ref a ∧ Rd H a (.dT ws) ∧ ws.map (·.1) = ks ∧ RepL pp K H ds (ws.map (·.2))
  | .pool, v => v = .ref pp
  | .ty n, v => v = .ty n
def RepL (pp : Addr) (K : FK) (H : Hp) : List D → List V → Prop
  | [], vs => vs = []
  | d :: ds, vs => ∃ v r, vs = v :: r ∧ Rep pp K H d v ∧ RepL pp K H ds r
end

/-- no lock -/
def Pln : HO → Prop
  | .frz _ _ => False
  | _ => True
structure Le (H H' : Hp) : Prop where
  rd : ∀ b u, Pln u → Rd H b u → Rd H' b u
  ls : ∀ b xs, H b = some (.lst xs) → H' b = some (.lst xs)
theorem Le.of_same {H H' : Hp} (h : Same H H') : Le H H' := ⟨fun b u _ r => by
  rcases r with r | ⟨o, r⟩
  · exact .inl (h _ _ r)
  · exact .inr ⟨o, h _ _ r⟩, fun b xs e => h b _ e⟩
theorem Le.sqT {K : FK} {H H' : Hp} {a : Addr} {xs : List V} (h : Le H H') (s : SqT K H a xs) : SqT K H' a xs := by
  rcases s with s | s
  · exact .inl (h.rd _ _ trivial s)
  · exact .inr s
theorem Le.sqL {K : FK} {H H' : Hp} {a : Addr} {xs : List V} (h : Le H H') (s : SqL K H a xs) : SqL K H' a xs := by
  rcases s with s | s
  · exact .inl (h.rd _ _ trivial s)
  · exact .inr s
section
variable {pp : Addr} {K : FK} {H H' : Hp}
mutual
theorem Rep.le (h : Le H H') : ∀ {d : D} {v : V}, Rep pp K H d v → Rep pp K H' d v
  | .non, _, r => by unfold Rep at r ⊢; exact r
  | .bl _, _, r => by unfold Rep at r ⊢; exact r
  | .int _, _, r => by unfold Rep at r ⊢; exact r
  | .str _, _, r => by unfold Rep at r ⊢; exact r
  | .tup ds, _, r => by
    unfold Rep at r ⊢
    obtain ⟨a, xs, e, s, q⟩ := r
    exact ⟨a, xs, e, h.sqT s, RepL.le h q⟩
  | .lst ds, _, r => by
    unfold Rep at r ⊢
    obtain ⟨a, xs, e, s, q⟩ := r
    exact ⟨a, xs, e, h.ls _ _ s, RepL.le h q⟩
  | .dic ks ds, _, r => by
    unfold Rep at r ⊢
    obtain ⟨a, ws, e, s, k, q⟩ := r
    exact ⟨a, ws, e, h.rd _ _ trivial s, k, RepL.le h q⟩
  | .dct ks ds, _, r => by
    unfold Rep at r ⊢
    obtain ⟨a, ws, e, s, k, q⟩ := r
    exact ⟨a, ws, e, h.rd _ _ trivial s, k, RepL.le h q⟩
  | .pool, _, r => by unfold Rep at r ⊢; exact r
  | .ty _, _, r => by unfold Rep at r ⊢; exact r
theorem RepL.le (h : Le H H') : ∀ {ds : List D} {vs : List V}, RepL pp K H ds vs → RepL pp K H' ds vs
  | [], _, r => by unfold RepL at r ⊢; exact r
  | d :: ds, _, r => by
    unfold RepL at r ⊢
    obtain ⟨v, w, e, q, s⟩ := r
    exact ⟨v, w, e, Rep.le h q, RepL.le h s⟩
end
theorem RepL.nil : RepL pp K H [] [] := by unfold RepL; rfl
theorem RepL.cons {d : D} {ds : List D} {v : V} {vs : List V} (h : Rep pp K H d v) (r : RepL pp K H ds vs) : RepL pp K H (d :: ds) (v :: vs) := by
  unfold RepL
  exact ⟨v, vs, rfl, h, r⟩
theorem RepL.uncons {d : D} {ds : List D} {vs : List V} (r : RepL pp K H (d :: ds) vs) : ∃ v w, vs = v :: w ∧ Rep pp K H d v ∧ RepL pp K H ds w := by
  unfold RepL at r
  exact r
theorem RepL.unnil {vs : List V} (r : RepL pp K H [] vs) : vs = [] := by
  unfold RepL at r
  exact r
theorem RepL.length : ∀ {ds : List D} {vs : List V}, RepL pp K H ds vs → vs.length = ds.length
  | [], _, r => by rw [r.unnil]; rfl
  | d :: ds, _, r => by
    obtain ⟨v, w, rfl, _, q⟩ := r.uncons
    simp [q.length]
theorem RepL.get : ∀ {ds : List D} {vs : List V} {i : Nat} {d : D}, RepL pp K H ds vs → ds[i]? = some d → ∃ v, vs[i]? = some v ∧ Rep pp K H d v
  | [], _, _, _, _, e => by simp at e
  | d :: ds, _, 0, _, r, e => by
    obtain ⟨v, w, rfl, h, q⟩ := r.uncons
    simp at e; subst e
    exact ⟨v, rfl, h⟩
  | d :: ds, _, i + 1, _, r, e => by
    obtain ⟨v, w, rfl, h, q⟩ := r.uncons
    exact q.get (i := i) (by simpa using e)
theorem RepL.get' : ∀ {ds : List D} {vs : List V} {i : Nat} {v : V}, RepL pp K H ds vs → vs[i]? = some v → ∃ d, ds[i]? = some d ∧ Rep pp K H d v
  | [], _, _, _, r, e => by rw [r.unnil] at e; simp at e
  | d :: ds, _, 0, _, r, e => by
    obtain ⟨v, w, rfl, h, q⟩ := r.uncons
    simp at e; subst e
    exact ⟨d, rfl, h⟩
  | d :: ds, _, i + 1, _, r, e => by
    obtain ⟨v, w, rfl, h, q⟩ := r.uncons
    exact q.get' (i := i) (by simpa using e)
theorem RepL.app : ∀ {ds es : List D} {vs ws : List V}, RepL pp K H ds vs → RepL pp K H es ws → RepL pp K H (ds ++ es) (vs ++ ws)
  | [], _, _, _, r, s => by rw [r.unnil]; exact s
  | d :: ds, _, _, _, r, s => by
    obtain ⟨v, w, rfl, h, q⟩ := r.uncons
    exact .cons h (q.app s)
theorem RepL.take : ∀ {ds : List D} {vs : List V} (n : Nat), RepL pp K H ds vs → RepL pp K H (ds.take n) (vs.take n)
  | _, _, 0, _ => by rw [List.take_zero, List.take_zero]; exact .nil
  | [], _, n + 1, r => by rw [r.unnil]; exact .nil
  | d :: ds, _, n + 1, r => by
    obtain ⟨v, w, rfl, h, q⟩ := r.uncons
    exact .cons h (q.take n)
theorem RepL.drop : ∀ {ds : List D} {vs : List V} (n : Nat), RepL pp K H ds vs → RepL pp K H (ds.drop n) (vs.drop n)
  | _, _, 0, r => r
  | [], _, n + 1, r => by rw [r.unnil]; exact .nil
  | d :: ds, _, n + 1, r => by
    obtain ⟨v, w, rfl, h, q⟩ := r.uncons
    exact q.drop n
theorem RepL.set : ∀ {ds : List D} {vs : List V} (n : Nat) {d : D} {v : V}, RepL pp K H ds vs → Rep pp K H d v → RepL pp K H (ds.set n d) (vs.set n v)
  | [], _, n, _, _, r, _ => by rw [r.unnil]; exact .nil
  | d :: ds, _, 0, _, _, r, h => by
    obtain ⟨v, w, rfl, _, q⟩ := r.uncons
    exact .cons h q
  | d :: ds, _, n + 1, _, _, r, h => by
    obtain ⟨v, w, rfl, h', q⟩ := r.uncons
    exact .cons h' (q.set n h)
end

/-! ### the state: Hb is the base (what never changes), H all -/
def PoolOk (pp : Addr) (K : FK) (Hb H : Hp) : Prop := ∃ (a : Addr) (ns : List Int) (i n k : Int), H pp = some (.lst [.ref a, .int i, .int n, .int k]) ∧ SqL K Hb a (ns.map V.int)
structure SOk (pp : Addr) (K : FK) (Hb H : Hp) : Prop where
  le : Same Hb H
  np : Hb pp = none
  pool : PoolOk pp K Hb H
structure Step (pp : Addr) (Hb H Hb' H' : Hp) : Prop where
  sb : Same Hb Hb'
  ex : ∀ b o, b ≠ pp → H b = some o → H' b = some o
  st : ∀ b, H b ≠ none → H' b ≠ none
  nw : ∀ b, Hb b = none → H b ≠ none → Hb' b = none
section
variable {pp : Addr} {K : FK} {Hb H Hb' H' Hb'' H'' : Hp}
theorem Step.refl : Step pp Hb H Hb H := ⟨Same.refl _, fun _ _ _ h => h, fun _ h => h, fun _ h _ => h⟩
theorem Step.trans (a : Step pp Hb H Hb' H') (b : Step pp Hb' H' Hb'' H'') : Step pp Hb H Hb'' H'' :=
  ⟨a.sb.trans b.sb, fun c o n h => b.ex c o n (a.ex c o n h), fun c h => b.st c (a.st c h), fun c h n => b.nw c (a.nw c h n) (a.st c n)⟩
theorem Step.le (a : Step pp Hb H Hb' H') : Le Hb Hb' := .of_same a.sb
theorem SOk.hle (a : SOk pp K Hb H) : Le Hb H := .of_same a.le

/-! ### what a slot holds -/
inductive Sl where
  | no | sh (d : D) | ow (d : D)
def Top (pp : Addr) (K : FK) (Hb H : Hp) (p : Addr) : D → Prop
  | .lst ds => ∃ xs, H p = some (.lst xs) ∧ RepL pp K Hb ds xs
  | .dic ks ds => ∃ ws, H p = some (.dK ws) ∧ ws.map (·.1) = ks ∧ RepL pp K Hb ds (ws.map (·.2))
  | .dct ks ds => ∃ ws, H p = some (.dT ws) ∧ ws.map (·.1) = ks ∧ RepL pp K Hb ds (ws.map (·.2))
  | _ => False
structure Owns (pp : Addr) (K : FK) (Hb H : Hp) (p : Addr) (d : D) : Prop where
  nb : Hb p = none
  ne : p ≠ pp
  top : Top pp K Hb H p d
theorem Top.isSm {p : Addr} {d : D} (t : Top pp K Hb H p d) : H p ≠ none := by
  cases d <;> first | exact t.elim | (obtain ⟨xs, e, _⟩ := t; rw [e]; exact fun z => nomatch z)
theorem Top.step {p : Addr} {d : D} (hle : Le Hb Hb') (hex : ∀ o, H p = some o → H' p = some o) (t : Top pp K Hb H p d) : Top pp K Hb' H' p d := by
  cases d <;> first | exact t.elim | skip
  · obtain ⟨xs, e, r⟩ := t
    exact ⟨xs, hex _ e, r.le hle⟩
  · obtain ⟨xs, e, k, r⟩ := t
    exact ⟨xs, hex _ e, k, r.le hle⟩
  · obtain ⟨xs, e, k, r⟩ := t
    exact ⟨xs, hex _ e, k, r.le hle⟩
theorem Owns.step {p : Addr} {d : D} (o : Owns pp K Hb H p d) (a : Step pp Hb H Hb' H') : Owns pp K Hb' H' p d :=
  ⟨a.nw p o.nb (Top.isSm o.top), o.ne, Top.step a.le (fun u => a.ex p u o.ne) o.top⟩
/-- an operand: a base value, or a new object whose items are base values -/
def RepT (pp : Addr) (K : FK) (Hb H : Hp) (d : D) (v : V) : Prop := Rep pp K Hb d v ∨ ∃ p, v = .ref p ∧ Owns pp K Hb H p d
theorem RepT.step {d : D} {v : V} (r : RepT pp K Hb H d v) (a : Step pp Hb H Hb' H') : RepT pp K Hb' H' d v := by
  rcases r with r | ⟨p, e, o⟩
  · exact .inl (r.le a.le)
  · exact .inr ⟨p, e, o.step a⟩

/-- the slots: HE is the heap at the def's entry -/
structure ER (pp : Addr) (K : FK) (HE Hb H : Hp) (σ : L2.St) (E : List Sl) : Prop where
  len : σ.length = E.length
  sh : ∀ (i : Nat) (d : D), E[i]? = some (.sh d) → ∃ v, σ[i]? = some (some v) ∧ Rep pp K Hb d v
  ow : ∀ (i : Nat) (d : D), E[i]? = some (.ow d) → ∃ p, σ[i]? = some (some (.ref p)) ∧ HE p = none ∧ Owns pp K Hb H p d
  ds : ∀ (i j : Nat) (p : Addr) (d d' : D), i ≠ j → E[i]? = some (.ow d) → E[j]? = some (.ow d') → σ[i]? = some (some (.ref p)) → σ[j]? ≠ some (some (.ref p))
variable {HE : Hp} {σ : L2.St} {E : List Sl}
theorem ER.step (r : ER pp K HE Hb H σ E) (a : Step pp Hb H Hb' H') : ER pp K HE Hb' H' σ E :=
  ⟨r.len, fun i d e => let ⟨v, h, q⟩ := r.sh i d e; ⟨v, h, q.le a.le⟩, fun i d e => let ⟨p, h, n, o⟩ := r.ow i d e; ⟨p, h, n, o.step a⟩, r.ds⟩
theorem get_set {α : Type} {l : List α} {i j : Nat} {x y : α} (h : (l.set i x)[j]? = some y) : (j = i ∧ i < l.length ∧ y = x) ∨ (j ≠ i ∧ l[j]? = some y) := by
  by_cases e : j = i
  · subst e
    by_cases hl : j < l.length
    · rw [List.getElem?_set_self hl] at h
      exact .inl ⟨rfl, hl, (Option.some.inj h).symm⟩
    · rw [List.getElem?_eq_none (by simpa using hl)] at h; cases h
  · rw [List.getElem?_set_ne (Ne.symm e)] at h
    exact .inr ⟨e, h⟩
theorem ER.set_sh (r : ER pp K HE Hb H σ E) (i : Nat) {d : D} {v : V} (q : Rep pp K Hb d v) : ER pp K HE Hb H (σ.set i (some v)) (E.set i (.sh d)) := by
  refine ⟨by rw [List.length_set, List.length_set, r.len], fun j d' e => ?_, fun j d' e => ?_, fun j k p d1 d2 hne e1 e2 h1 => ?_⟩
  · rcases get_set e with ⟨rfl, hl, e'⟩ | ⟨hj, e'⟩
    · cases e'
      exact ⟨v, by rw [List.getElem?_set_self (by rw [r.len]; exact hl)], q⟩
    · rw [List.getElem?_set_ne (Ne.symm hj)]
      exact r.sh j d' e'
  · rcases get_set e with ⟨rfl, hl, e'⟩ | ⟨hj, e'⟩
    · cases e'
    · rw [List.getElem?_set_ne (Ne.symm hj)]
      exact r.ow j d' e'
  · rcases get_set e1 with ⟨_, _, z⟩ | ⟨hj, e1⟩
    · cases z
    rcases get_set e2 with ⟨_, _, z⟩ | ⟨hk, e2⟩
    · cases z
    rw [List.getElem?_set_ne (Ne.symm hj)] at h1
    rw [List.getElem?_set_ne (Ne.symm hk)]
    exact r.ds j k p d1 d2 hne e1 e2 h1
theorem ER.set_no (r : ER pp K HE Hb H σ E) (i : Nat) : ER pp K HE Hb H (σ.set i none) (E.set i .no) := by
  refine ⟨by rw [List.length_set, List.length_set, r.len], fun j d' e => ?_, fun j d' e => ?_, fun j k p d1 d2 hne e1 e2 h1 => ?_⟩
  · rcases get_set e with ⟨rfl, hl, e'⟩ | ⟨hj, e'⟩
    · cases e'
    · rw [List.getElem?_set_ne (Ne.symm hj)]
      exact r.sh j d' e'
  · rcases get_set e with ⟨rfl, hl, e'⟩ | ⟨hj, e'⟩
    · cases e'
    · rw [List.getElem?_set_ne (Ne.symm hj)]
      exact r.ow j d' e'
  · rcases get_set e1 with ⟨_, _, z⟩ | ⟨hj, e1⟩
    · cases z
    rcases get_set e2 with ⟨_, _, z⟩ | ⟨hk, e2⟩
    · cases z
    rw [List.getElem?_set_ne (Ne.symm hj)] at h1
    rw [List.getElem?_set_ne (Ne.symm hk)]
    exact r.ds j k p d1 d2 hne e1 e2 h1
theorem ER.set_ow (r : ER pp K HE Hb H σ E) (i : Nat) {d : D} {p : Addr} (hn : HE p = none) (q : Owns pp K Hb H p d) (fr : ∀ (j : Nat) (d' : D), E[j]? = some (.ow d') → σ[j]? ≠ some (some (.ref p))) :
    ER pp K HE Hb H (σ.set i (some (.ref p))) (E.set i (.ow d)) := by
  refine ⟨by rw [List.length_set, List.length_set, r.len], fun j d' e => ?_, fun j d' e => ?_, fun j k p' d1 d2 hne e1 e2 h1 => ?_⟩
  · rcases get_set e with ⟨rfl, hl, e'⟩ | ⟨hj, e'⟩
    · cases e'
    · rw [List.getElem?_set_ne (Ne.symm hj)]
      exact r.sh j d' e'
  · rcases get_set e with ⟨rfl, hl, e'⟩ | ⟨hj, e'⟩
    · cases e'
      exact ⟨p, by rw [List.getElem?_set_self (by rw [r.len]; exact hl)], hn, q⟩
    · rw [List.getElem?_set_ne (Ne.symm hj)]
      exact r.ow j d' e'
  · rcases get_set e1 with ⟨rfl, hl, z⟩ | ⟨hj, f1⟩
    · rw [List.getElem?_set_self (by rw [r.len]; exact hl)] at h1
      cases h1
      rcases get_set e2 with ⟨z, _, _⟩ | ⟨hk, e2⟩
      · exact absurd z.symm hne
      rw [List.getElem?_set_ne (Ne.symm hk)]
      exact fr k _ e2
    · rw [List.getElem?_set_ne (Ne.symm hj)] at h1
      rcases get_set e2 with ⟨rfl, hl, z⟩ | ⟨hk, e2⟩
      · rw [List.getElem?_set_self (by rw [r.len]; exact hl)]
        intro z
        cases z
        exact fr j _ f1 h1
      · rw [List.getElem?_set_ne (Ne.symm hk)]
        exact r.ds j k p' d1 d2 hne f1 e2 h1
end

/-! ### the judgements -/
abbrev DX := List Sl → (D → Prop) → Prop
abbrev DT := List Sl → (Bool → Prop) → Prop
abbrev DAs := List Sl → (List D → Prop) → Prop
structure DEnds where
  nx : List Sl → Prop
  rt : D → Prop
  bk : List Sl → Prop := fun _ => False
  ct : List Sl → Prop := fun _ => False
abbrev DS := DEnds → List Sl → Prop

/-- an expression with a base value -/
def QE (X : Cx) (e : Expr) (p : DX) : Prop := ∃ t, PE X e t ∧ ∀ (pp : Addr) (HE Hb H : Hp) (σ : L2.St) (E : List Sl) (Q : VK) (QD : D → Prop), SOk pp X.K Hb H → ER pp X.K HE Hb H σ E → p E QD →
  (∀ v d Hb' H', Step pp Hb H Hb' H' → SOk pp X.K Hb' H' → Rep pp X.K Hb' d v → QD d → Q v H') → t σ H Q
/-- an operand -/
def QO (X : Cx) (e : Expr) (p : DX) : Prop := ∃ t, PE X e t ∧ ∀ (pp : Addr) (HE Hb H : Hp) (σ : L2.St) (E : List Sl) (Q : VK) (QD : D → Prop), SOk pp X.K Hb H → ER pp X.K HE Hb H σ E → p E QD →
  (∀ v d Hb' H', Step pp Hb H Hb' H' → SOk pp X.K Hb' H' → RepT pp X.K Hb' H' d v → QD d → Q v H') → t σ H Q
/-- a new object -/
def QF (X : Cx) (e : Expr) (p : DX) : Prop := ∃ t, PE X e t ∧ ∀ (pp : Addr) (HE Hb H : Hp) (σ : L2.St) (E : List Sl) (Q : VK) (QD : D → Prop), SOk pp X.K Hb H → ER pp X.K HE Hb H σ E → p E QD →
  (∀ a d Hb' H', Step pp Hb H Hb' H' → SOk pp X.K Hb' H' → H a = none → Owns pp X.K Hb' H' a d → QD d → Q (.ref a) H') → t σ H Q
def QT (X : Cx) (e : Expr) (p : DT) : Prop := ∃ t, PT X e t ∧ ∀ (pp : Addr) (HE Hb H : Hp) (σ : L2.St) (E : List Sl) (Q : Bool → Hp → Prop) (QD : Bool → Prop), SOk pp X.K Hb H → ER pp X.K HE Hb H σ E → p E QD →
  (∀ b Hb' H', Step pp Hb H Hb' H' → SOk pp X.K Hb' H' → QD b → Q b H') → t σ H Q
def QA (X : Cx) (es : List Expr) (p : DAs) : Prop := ∃ t, PA X es t ∧ ∀ (pp : Addr) (HE Hb H : Hp) (σ : L2.St) (E : List Sl) (Q : List V → Hp → Prop) (QD : List D → Prop), SOk pp X.K Hb H → ER pp X.K HE Hb H σ E → p E QD →
  (∀ vs ds Hb' H', Step pp Hb H Hb' H' → SOk pp X.K Hb' H' → RepL pp X.K Hb' ds vs → ds.length = es.length → QD ds → Q vs H') → t σ H Q

structure EndsOk (pp : Addr) (K : FK) (HbE HE : Hp) (Dn : Ends) (DD : DEnds) : Prop where
  nx : ∀ Hb H σ E, Step pp HbE HE Hb H → SOk pp K Hb H → ER pp K HE Hb H σ E → DD.nx E → Dn.nx σ H
  rt : ∀ Hb H v d, Step pp HbE HE Hb H → SOk pp K Hb H → Rep pp K Hb d v → DD.rt d → Dn.rt v H
  bk : ∀ Hb H σ E, Step pp HbE HE Hb H → SOk pp K Hb H → ER pp K HE Hb H σ E → DD.bk E → Dn.bk σ H
  ct : ∀ Hb H σ E, Step pp HbE HE Hb H → SOk pp K Hb H → ER pp K HE Hb H σ E → DD.ct E → Dn.ct σ H
def RS (K : FK) (t : TS) (p : DS) : Prop := ∀ (pp : Addr) (HbE HE Hb H : Hp) (σ : L2.St) (E : List Sl) (Dn : Ends) (DD : DEnds), Step pp HbE HE Hb H → SOk pp K Hb H → ER pp K HE Hb H σ E → p DD E → EndsOk pp K HbE HE Dn DD → t Dn σ H
def QS (X : Cx) (st : Stmt) (p : DS) : Prop := ∃ t, PS X st t ∧ RS X.K t p
def QSs (X : Cx) (st : List Stmt) (p : DS) : Prop := ∃ t, PSs X st t ∧ RS X.K t p

section
variable {X : Cx} {e : Expr} {p : DX}
theorem QE.toO (h : QE X e p) : QO X e p := by
  obtain ⟨t, ht, r⟩ := h
  exact ⟨t, ht, fun pp HE Hb H σ E Q QD so er hp k => r pp HE Hb H σ E Q QD so er hp fun v d Hb' H' s so' q => k v d Hb' H' s so' (.inl q)⟩
theorem QF.toO (h : QF X e p) : QO X e p := by
  obtain ⟨t, ht, r⟩ := h
  exact ⟨t, ht, fun pp HE Hb H σ E Q QD so er hp k => r pp HE Hb H σ E Q QD so er hp fun a d Hb' H' s so' _ q => k _ d Hb' H' s so' (.inr ⟨a, rfl, q⟩)⟩
/-- a new object joins the base -/
theorem share {pp : Addr} {K : FK} {Hb H : Hp} {a : Addr} {d : D} (so : SOk pp K Hb H) (o : Owns pp K Hb H a d) : ∃ Hb', Same Hb Hb' ∧ (∀ b, b ≠ a → Hb' b = Hb b) ∧ SOk pp K Hb' H ∧ Rep pp K Hb' d (.ref a) := by
  obtain ⟨u, hu⟩ : ∃ u, H a = some u := by
    cases q : H a with
    | none => exact absurd q (Top.isSm o.top)
    | some u => exact ⟨u, rfl⟩
  have sm : Same Hb (upd Hb a u) := fun b w h => by rw [upd_ne (ne_of_none h o.nb)]; exact h
  refine ⟨upd Hb a u, sm, fun b h => upd_ne h, ⟨fun b w h => ?_, ?_, ?_⟩, ?_⟩
  · by_cases e : b = a
    · subst e; rw [upd_same] at h; cases h; exact hu
    · rw [upd_ne e] at h; exact so.le b w h
  · rw [upd_ne (Ne.symm o.ne)]; exact so.np
  · obtain ⟨b, ns, i, n, k, h1, h2⟩ := so.pool
    exact ⟨b, ns, i, n, k, h1, (Le.of_same sm).sqL h2⟩
  · have hl := Le.of_same sm
    have t := o.top
    cases d <;> first | exact t.elim | skip
    · obtain ⟨xs, e, r⟩ := t
      rw [hu] at e; cases e
      unfold Rep
      exact ⟨a, xs, rfl, upd_same, r.le hl⟩
    · obtain ⟨xs, e, k, r⟩ := t
      rw [hu] at e; cases e
      unfold Rep
      exact ⟨a, xs, rfl, .inl upd_same, k, r.le hl⟩
    · obtain ⟨xs, e, k, r⟩ := t
      rw [hu] at e; cases e
      unfold Rep
      exact ⟨a, xs, rfl, .inl upd_same, k, r.le hl⟩
theorem share_new {pp : Addr} {K : FK} {Hb H Hb' H' : Hp} {a : Addr} {d : D} (s : Step pp Hb H Hb' H') (so : SOk pp K Hb' H') (hn : H a = none) (o : Owns pp K Hb' H' a d) : ∃ Hb2, Step pp Hb H Hb2 H' ∧ SOk pp K Hb2 H' ∧ Rep pp K Hb2 d (.ref a) := by
  obtain ⟨Hb2, h1, h2, h3, h4⟩ := share so o
  refine ⟨Hb2, ⟨s.sb.trans h1, s.ex, s.st, fun b hb hh => ?_⟩, h3, h4⟩
  by_cases e : b = a
  · subst e; exact absurd hn hh
  · rw [h2 b e]; exact s.nw b hb hh
theorem QF.toE (h : QF X e p) : QE X e p := by
  obtain ⟨t, ht, r⟩ := h
  refine ⟨t, ht, fun pp HE Hb H σ E Q QD so er hp k => r pp HE Hb H σ E Q QD so er hp fun a d Hb' H' s so' hn o q => ?_⟩
  obtain ⟨Hb2, h1, h2, h3⟩ := share_new s so' hn o
  exact k _ d Hb2 H' h1 h2 h3 q
end
end DL

namespace DL
open PySem PySem.Spec PyProof.Rows L2

/-! ### names, constants -/
def dVar (i : Nat) : DX := fun E Q => match E[i]? with
  | some (.sh d) => Q d
  | _ => False
def dVarO (i : Nat) : DX := fun E Q => match E[i]? with
  | some (.sh d) => Q d
  | some (.ow d) => Q d
  | _ => False
def dC (d : D) : DX := fun _ Q => Q d
/-- a bool's value as a test -/
def dTst (p : DX) : DT := fun E Q => p E fun d => match d with
  | .bl b => Q b
  | _ => False
def dAnd (p q : DT) : DT := fun E Q => p E fun c => if c = true then q E Q else Q false
def dOr (p q : DT) : DT := fun E Q => p E fun c => if c = true then Q true else q E Q
def dNot (p : DT) : DT := fun E Q => p E fun c => Q (!c)
def dIf (c : DT) (p q : DX) : DX := fun E Q => c E fun b => if b = true then p E Q else q E Q
abbrev RD := D → D → (D → Prop) → Prop
def dOp (r : RD) (pa pb : DX) : DX := fun E Q => pa E fun x => pb E fun y => r x y Q
def dUn (r : D → (D → Prop) → Prop) (pa : DX) : DX := fun E Q => pa E fun x => r x Q
def dNilA : DAs := fun _ Q => Q []
def dConsA (p : DX) (r : DAs) : DAs := fun E Q => p E fun d => r E fun ds => Q (d :: ds)
def dTup (p : DAs) : DX := fun E Q => p E fun ds => Q (.tup ds)
def dLst (p : DAs) : DX := fun E Q => p E fun ds => Q (.lst ds)

section
variable {pp : Addr} {K : FK} {Hb H Hb' H' : Hp} {p : Addr} {u : HO}
theorem SOk.ne (so : SOk pp K Hb H) (hp : H p = none) : p ≠ pp := fun e => by
  obtain ⟨a, ns, i, n, k, h1, _⟩ := so.pool
  rw [← e, hp] at h1; cases h1
theorem SOk.nb (so : SOk pp K Hb H) (hp : H p = none) : Hb p = none := by
  cases q : Hb p with
  | none => rfl
  | some o => rw [so.le p o q] at hp; cases hp
theorem lay_own (so : SOk pp K Hb H) (hp : H p = none) : Step pp Hb H Hb (upd H p u) ∧ SOk pp K Hb (upd H p u) := by
  have hne := so.ne hp
  refine ⟨⟨Same.refl _, fun b o _ h => by rw [upd_ne (ne_of_none h hp)]; exact h, fun b h => ?_, fun b h _ => h⟩, ⟨fun b o h => ?_, so.np, ?_⟩⟩
  · by_cases e : b = p
    · subst e; exact absurd hp h
    · rw [upd_ne e]; exact h
  · have h2 := so.le b o h
    rw [upd_ne (ne_of_none h2 hp)]; exact h2
  · obtain ⟨a, ns, i, n, k, h1, h2⟩ := so.pool
    exact ⟨a, ns, i, n, k, by rw [upd_ne (Ne.symm hne)]; exact h1, h2⟩
theorem lay_sh (so : SOk pp K Hb H) (hp : H p = none) : Step pp Hb H (upd Hb p u) (upd H p u) ∧ SOk pp K (upd Hb p u) (upd H p u) := by
  have hne := so.ne hp
  have hb := so.nb hp
  obtain ⟨s1, s2⟩ := lay_own (u := u) so hp
  have sm : Same Hb (upd Hb p u) := fun b o h => by rw [upd_ne (ne_of_none h hb)]; exact h
  refine ⟨⟨sm, s1.ex, s1.st, fun b h hh => ?_⟩, ⟨fun b o h => ?_, by rw [upd_ne (Ne.symm hne)]; exact so.np, ?_⟩⟩
  · rw [upd_ne (fun e => by subst e; exact hh hp)]; exact h
  · by_cases e : b = p
    · subst e; rw [upd_same] at h ⊢; exact h
    · rw [upd_ne e] at h ⊢; exact so.le b o h
  · obtain ⟨a, ns, i, n, k, h1, h2⟩ := s2.pool
    exact ⟨a, ns, i, n, k, h1, (Le.of_same sm).sqL h2⟩
end

section
variable {X : Cx} {a b e : Expr} {es : List Expr} {pa pb p q : DX} {pt qt : DT} {pas : DAs} {pos : Pos}
theorem q_var (i : Nat) {x : Str} {pos : Pos} (hN : X.N[i]? = some x := by rfl) (hv : Vis X.env.scope x := by first | exact Or.inl rfl | exact Or.inr (Or.inl rfl) | exact Or.inr (Or.inr rfl)) (hd : (x == ("__debug__" : Str)) = false := by decide)
    (hcd : (x == ("__classdict__" : Str)) = false := by decide) : QE X (.Name x pos) (dVar i) := by
  refine ⟨tVar i, pv i hN hv hd hcd, fun pp HE Hb H σ E Q QD so er hp k => ?_⟩
  unfold dVar at hp
  split at hp
  · rename_i d e
    obtain ⟨v, h1, h2⟩ := er.sh i d e
    exact ⟨v, h1, k v d Hb H .refl so h2 hp⟩
  · exact hp.elim
theorem q_varO (i : Nat) {x : Str} {pos : Pos} (hN : X.N[i]? = some x := by rfl) (hv : Vis X.env.scope x := by first | exact Or.inl rfl | exact Or.inr (Or.inl rfl) | exact Or.inr (Or.inr rfl)) (hd : (x == ("__debug__" : Str)) = false := by decide)
    (hcd : (x == ("__classdict__" : Str)) = false := by decide) : QO X (.Name x pos) (dVarO i) := by
  refine ⟨tVar i, pv i hN hv hd hcd, fun pp HE Hb H σ E Q QD so er hp k => ?_⟩
  unfold dVarO at hp
  split at hp
  · rename_i d e
    obtain ⟨v, h1, h2⟩ := er.sh i d e
    exact ⟨v, h1, k v d Hb H .refl so (.inl h2) hp⟩
  · rename_i d e
    obtain ⟨a, h1, h2, h3⟩ := er.ow i d e
    exact ⟨_, h1, k _ d Hb H .refl so (.inr ⟨a, rfl, h3⟩) hp⟩
  · exact hp.elim
theorem q_int {i : Int} {j pos} : QE X (.Constant (.int i) j pos) (dC (.int i)) := ⟨_, pe_int, fun pp HE Hb H σ E Q QD so er hp k => k _ _ Hb H .refl so (by unfold Rep; rfl) hp⟩
theorem q_bl {c : Bool} {j pos} : QE X (.Constant (.bool c) j pos) (dC (.bl c)) := ⟨_, pe_bl, fun pp HE Hb H σ E Q QD so er hp k => k _ _ Hb H .refl so (by unfold Rep; rfl) hp⟩
theorem q_non {j pos} : QE X (.Constant .none j pos) (dC .non) := ⟨_, pe_non, fun pp HE Hb H σ E Q QD so er hp k => k _ _ Hb H .refl so (by unfold Rep; rfl) hp⟩
theorem q_str {x : Str} {j pos} : QE X (.Constant (.str x) j pos) (dC (.str x)) := ⟨_, pe_str, fun pp HE Hb H σ E Q QD so er hp k => k _ _ Hb H .refl so (by unfold Rep; rfl) hp⟩
/-- a built-in type as a value -/
theorem q_ty {x : Str} {n : String} {pos} (hg : Gl X x) (hm : X.mg x = none) (hv : bootBuiltins x = some (.type n)) (hn : x ≠ "__name__" := by decide) (hd : (x == ("__debug__" : Str)) = false := by decide) : QE X (.Name x pos) (dC (.ty n)) :=
  ⟨tC (.ty n), pe_bltn hg hm hv rfl hn hd, fun pp HE Hb H σ E Q QD so er hp k => k _ _ Hb H .refl so (by unfold Rep; rfl) hp⟩
/-- a module's constant of the written part -/
theorem q_glob {x : Str} {v : V} {u : Value} {d : D} {pos} (hg : Gl X x) (hm : X.mg x = some u) (r : RelV v u) (hr : ∀ pp H, Rep pp X.K H d v) (hd : (x == ("__debug__" : Str)) = false := by decide) : QE X (.Name x pos) (dC d) :=
  ⟨tC v, pe_glob hg hm r hd, fun pp HE Hb H σ E Q QD so er hp k => k _ _ Hb H .refl so (hr _ _) hp⟩

/-! ### arguments, displays -/
theorem qa_nil : QA X [] dNilA := ⟨_, pa_nil, fun pp HE Hb H σ E Q QD so er hp k => k _ _ Hb H .refl so .nil rfl hp⟩
theorem qa_cons (ha : QE X e p) (hr : QA X es pas) (hs : starEach (e :: es) X.env = (false, eval e X.env) :: starEach es X.env := by rfl) : QA X (e :: es) (dConsA p pas) := by
  obtain ⟨t, h1, h2⟩ := ha
  obtain ⟨u, g1, g2⟩ := hr
  refine ⟨_, pa_cons h1 g1 hs, fun pp HE Hb H σ E Q QD so er hp k => ?_⟩
  refine h2 pp HE Hb H σ E _ _ so er hp fun v d Hb1 H1 s1 so1 r1 q1 => ?_
  refine g2 pp HE Hb1 H1 σ E _ _ so1 (er.step s1) q1 fun vs ds Hb2 H2 s2 so2 r2 l2 q2 => ?_
  exact k _ _ Hb2 H2 (s1.trans s2) so2 (.cons (r1.le s2.le) r2) (by simp [l2]) q2
theorem q_tup {x1} (h : QA X es pas) (hl : es.length ≤ 1000 := by decide) : QE X (.Tuple es x1 pos) (dTup pas) := by
  obtain ⟨t, h1, h2⟩ := h
  refine ⟨_, pe_tup h1, fun pp HE Hb H σ E Q QD so er hp k => ?_⟩
  refine h2 pp HE Hb H σ E _ _ so er hp fun vs ds Hb1 H1 s1 so1 r1 l1 q1 => ?_
  refine ⟨by rw [r1.length, l1]; exact Nat.le_of_lt (small1000 hl), fun a ha => ?_⟩
  obtain ⟨s2, so2⟩ := lay_sh (u := .tup vs) so1 ha
  refine k _ _ _ _ (s1.trans s2) so2 ?_ q1
  unfold Rep
  exact ⟨a, vs, rfl, .of upd_same, r1.le s2.le⟩
theorem f_lst (h : QA X es pas) (hl : es.length ≤ 1000 := by decide) : QF X (.List es pos) (dLst pas) := by
  obtain ⟨t, h1, h2⟩ := h
  refine ⟨_, pe_lst h1, fun pp HE Hb H σ E Q QD so er hp k => ?_⟩
  refine h2 pp HE Hb H σ E _ _ so er hp fun vs ds Hb1 H1 s1 so1 r1 l1 q1 => ?_
  refine ⟨by rw [r1.length, l1]; exact Nat.le_of_lt (small1000 hl), fun a ha => ?_⟩
  obtain ⟨s2, so2⟩ := lay_own (u := .lst vs) so1 ha
  have hna : H a = none := by
    cases z : H a with
    | none => rfl
    | some o => exact absurd ha (s1.st a (by rw [z]; exact fun y => nomatch y))
  exact k _ (.lst ds) _ _ (s1.trans s2) so2 hna ⟨so1.nb ha, so1.ne ha, ⟨vs, upd_same, r1⟩⟩ q1

/-! ### tests -/
theorem t_val (h : QE X e p) (he : ∀ whole, isTrue e X.env whole = (do let v ← whole; standAt e.pos; holding [v] (truthy v)) := by intro _; rfl) : QT X e (dTst p) := by
  obtain ⟨t, h1, h2⟩ := h
  refine ⟨_, pt_val h1 he, fun pp HE Hb H σ E Q QD so er hp k => ?_⟩
  refine h2 pp HE Hb H σ E _ _ so er hp fun v d Hb1 H1 s1 so1 r1 q1 => ?_
  split at q1
  · unfold Rep at r1
    exact ⟨_, r1, k _ Hb1 H1 s1 so1 q1⟩
  · exact q1.elim
theorem t_not (h : QT X e pt) : QT X (.UnaryOp .Not e pos) (dNot pt) := by
  obtain ⟨t, h1, h2⟩ := h
  refine ⟨_, pt_not h1, fun pp HE Hb H σ E Q QD so er hp k => ?_⟩
  exact h2 pp HE Hb H σ E _ _ so er hp fun c Hb1 H1 s1 so1 q1 => k _ Hb1 H1 s1 so1 q1
/-- tests joined by and, or: the last -/
def QW (X : Cx) (e : Expr) (p : DT) : Prop := ∃ t, PW X e t ∧ ∀ (pp : Addr) (HE Hb H : Hp) (σ : L2.St) (E : List Sl) (Q : Bool → Hp → Prop) (QD : Bool → Prop), SOk pp X.K Hb H → ER pp X.K HE Hb H σ E → p E QD →
  (∀ b Hb' H', Step pp Hb H Hb' H' → SOk pp X.K Hb' H' → QD b → Q b H') → t σ H Q
theorem QW.t (h : QW X e pt) : QT X e pt := by
  obtain ⟨t, h1, h2⟩ := h
  exact ⟨t, h1.pt, h2⟩
theorem w_and1 (h : QT X a pt) : QW X (.BoolOp .And [a] pos) pt := by
  obtain ⟨t, h1, h2⟩ := h
  exact ⟨t, pw_and1 h1, h2⟩
theorem w_or1 (h : QT X a pt) : QW X (.BoolOp .Or [a] pos) pt := by
  obtain ⟨t, h1, h2⟩ := h
  exact ⟨t, pw_or1 h1, h2⟩
theorem w_and (h : QT X a pt) (g : QW X (.BoolOp .And (b :: es) pos) qt) : QW X (.BoolOp .And (a :: b :: es) pos) (dAnd pt qt) := by
  obtain ⟨t, h1, h2⟩ := h
  obtain ⟨u, g1, g2⟩ := g
  refine ⟨_, pw_and h1 g1, fun pp HE Hb H σ E Q QD so er hp k => ?_⟩
  refine h2 pp HE Hb H σ E _ _ so er hp fun c Hb1 H1 s1 so1 q1 => ?_
  cases c with
  | true =>
    rw [if_pos rfl] at q1 ⊢
    exact g2 pp HE Hb1 H1 σ E _ _ so1 (er.step s1) q1 fun c Hb2 H2 s2 so2 q2 => k _ Hb2 H2 (s1.trans s2) so2 q2
  | false =>
    rw [if_neg Bool.false_ne_true] at q1 ⊢
    exact k _ Hb1 H1 s1 so1 q1
theorem w_or (h : QT X a pt) (g : QW X (.BoolOp .Or (b :: es) pos) qt) : QW X (.BoolOp .Or (a :: b :: es) pos) (dOr pt qt) := by
  obtain ⟨t, h1, h2⟩ := h
  obtain ⟨u, g1, g2⟩ := g
  refine ⟨_, pw_or h1 g1, fun pp HE Hb H σ E Q QD so er hp k => ?_⟩
  refine h2 pp HE Hb H σ E _ _ so er hp fun c Hb1 H1 s1 so1 q1 => ?_
  cases c with
  | false =>
    rw [if_neg Bool.false_ne_true] at q1 ⊢
    exact g2 pp HE Hb1 H1 σ E _ _ so1 (er.step s1) q1 fun c Hb2 H2 s2 so2 q2 => k _ Hb2 H2 (s1.trans s2) so2 q2
  | true =>
    rw [if_pos rfl] at q1 ⊢
    exact k _ Hb1 H1 s1 so1 q1
theorem t_and (h : QT X a pt) (g : QW X (.BoolOp .And (b :: es) pos) qt) : QT X (.BoolOp .And (a :: b :: es) pos) (dAnd pt qt) := (w_and h g).t
theorem t_or (h : QT X a pt) (g : QW X (.BoolOp .Or (b :: es) pos) qt) : QT X (.BoolOp .Or (a :: b :: es) pos) (dOr pt qt) := (w_or h g).t

/-! ### and, or, not as values; a if t else b -/
def dAndV (p q : DX) : DX := fun E Q => p E fun d => match d with
  | .bl c => if c = true then q E Q else Q (.bl false)
  | _ => False
def dOrV (p q : DX) : DX := fun E Q => p E fun d => match d with
  | .bl c => if c = true then Q (.bl true) else q E Q
  | _ => False
def dNotV (p : DX) : DX := fun E Q => p E fun d => match d with
  | .bl c => Q (.bl (!c))
  | _ => False
theorem q_one {op} (h : QE X a p) : QE X (.BoolOp op [a] pos) p := by
  obtain ⟨t, h1, h2⟩ := h
  exact ⟨t, pe_one h1, h2⟩
theorem q_and (h : QE X a p) (g : QE X (.BoolOp .And (b :: es) pos) q) : QE X (.BoolOp .And (a :: b :: es) pos) (dAndV p q) := by
  obtain ⟨t, h1, h2⟩ := h
  obtain ⟨u, g1, g2⟩ := g
  refine ⟨_, pe_and h1 g1, fun pp HE Hb H σ E Q QD so er hp k => ?_⟩
  refine h2 pp HE Hb H σ E _ _ so er hp fun v d Hb1 H1 s1 so1 r1 q1 => ?_
  split at q1
  · rename_i c
    unfold Rep at r1
    refine ⟨_, r1, ?_⟩
    cases c with
    | true =>
      rw [if_pos rfl] at q1 ⊢
      exact g2 pp HE Hb1 H1 σ E _ _ so1 (er.step s1) q1 fun v d Hb2 H2 s2 so2 r2 q2 => k _ _ Hb2 H2 (s1.trans s2) so2 r2 q2
    | false =>
      rw [if_neg Bool.false_ne_true] at q1 ⊢
      exact k _ _ Hb1 H1 s1 so1 (by unfold Rep; rfl) q1
  · exact q1.elim
theorem q_or (h : QE X a p) (g : QE X (.BoolOp .Or (b :: es) pos) q) : QE X (.BoolOp .Or (a :: b :: es) pos) (dOrV p q) := by
  obtain ⟨t, h1, h2⟩ := h
  obtain ⟨u, g1, g2⟩ := g
  refine ⟨_, pe_or h1 g1, fun pp HE Hb H σ E Q QD so er hp k => ?_⟩
  refine h2 pp HE Hb H σ E _ _ so er hp fun v d Hb1 H1 s1 so1 r1 q1 => ?_
  split at q1
  · rename_i c
    unfold Rep at r1
    refine ⟨_, r1, ?_⟩
    cases c with
    | false =>
      rw [if_neg Bool.false_ne_true] at q1 ⊢
      exact g2 pp HE Hb1 H1 σ E _ _ so1 (er.step s1) q1 fun v d Hb2 H2 s2 so2 r2 q2 => k _ _ Hb2 H2 (s1.trans s2) so2 r2 q2
    | true =>
      rw [if_pos rfl] at q1 ⊢
      exact k _ _ Hb1 H1 s1 so1 (by unfold Rep; rfl) q1
  · exact q1.elim
theorem q_not (h : QE X a p) : QE X (.UnaryOp .Not a pos) (dNotV p) := by
  obtain ⟨t, h1, h2⟩ := h
  refine ⟨_, pe_not h1, fun pp HE Hb H σ E Q QD so er hp k => ?_⟩
  refine h2 pp HE Hb H σ E _ _ so er hp fun v d Hb1 H1 s1 so1 r1 q1 => ?_
  split at q1
  · unfold Rep at r1
    exact ⟨_, r1, k _ _ Hb1 H1 s1 so1 (by unfold Rep; rfl) q1⟩
  · exact q1.elim
theorem q_if (hc : QT X e pt) (h : QE X a p) (g : QE X b q) : QE X (.IfExp e a b pos) (dIf pt p q) := by
  obtain ⟨tc, c1, c2⟩ := hc
  obtain ⟨t, h1, h2⟩ := h
  obtain ⟨u, g1, g2⟩ := g
  refine ⟨_, pe_ifExp c1 h1 g1, fun pp HE Hb H σ E Q QD so er hp k => ?_⟩
  refine c2 pp HE Hb H σ E _ _ so er hp fun c Hb1 H1 s1 so1 q1 => ?_
  cases c with
  | true =>
    rw [if_pos rfl] at q1 ⊢
    exact h2 pp HE Hb1 H1 σ E _ _ so1 (er.step s1) q1 fun v d Hb2 H2 s2 so2 r2 q2 => k _ _ Hb2 H2 (s1.trans s2) so2 r2 q2
  | false =>
    rw [if_neg Bool.false_ne_true] at q1 ⊢
    exact g2 pp HE Hb1 H1 σ E _ _ so1 (er.step s1) q1 fun v d Hb2 H2 s2 so2 r2 q2 => k _ _ Hb2 H2 (s1.trans s2) so2 r2 q2

/-! ### operations by values -/
def OD (X : Cx) (f : Value → Value → Sem Value) (rd : RD) : Prop := ∃ r : R2, OpR X f r ∧ ∀ (pp : Addr) (Hb H : Hp) (x y : V) (dx dy : D) (Q : VK) (QD : D → Prop), SOk pp X.K Hb H → RepT pp X.K Hb H dx x → RepT pp X.K Hb H dy y → rd dx dy QD →
  (∀ v d Hb' H', Step pp Hb H Hb' H' → SOk pp X.K Hb' H' → Rep pp X.K Hb' d v → QD d → Q v H') → r x y H Q
theorem q_op {op : Operator} {r : RD} (ho : OD X (binaryOp op) r) (ha : QO X a pa) (hb : QO X b pb) : QE X (.BinOp a op b pos) (dOp r pa pb) := by
  obtain ⟨t, h1, h2⟩ := ha
  obtain ⟨u, g1, g2⟩ := hb
  obtain ⟨o, o1, o2⟩ := ho
  refine ⟨_, pe_op o1 h1 g1, fun pp HE Hb H σ E Q QD so er hp k => ?_⟩
  refine h2 pp HE Hb H σ E _ _ so er hp fun v d Hb1 H1 s1 so1 r1 q1 => ?_
  refine g2 pp HE Hb1 H1 σ E _ _ so1 (er.step s1) q1 fun v2 d2 Hb2 H2 s2 so2 r2 q2 => ?_
  exact o2 pp Hb2 H2 _ _ _ _ _ _ so2 (r1.step s2) r2 q2 fun v3 d3 Hb3 H3 s3 so3 r3 q3 => k _ _ Hb3 H3 ((s1.trans s2).trans s3) so3 r3 q3
theorem q_cmp {op : CmpOp} {r : RD} (ho : OD X (compareOp op) r) (ha : QO X a pa) (hb : QO X b pb) (hm : behindInMarks op b = false) : QE X (.Compare a [op] [b] pos) (dOp r pa pb) := by
  obtain ⟨t, h1, h2⟩ := ha
  obtain ⟨u, g1, g2⟩ := hb
  obtain ⟨o, o1, o2⟩ := ho
  refine ⟨_, pe_cmpR o1 h1 g1 hm, fun pp HE Hb H σ E Q QD so er hp k => ?_⟩
  refine h2 pp HE Hb H σ E _ _ so er hp fun v d Hb1 H1 s1 so1 r1 q1 => ?_
  refine g2 pp HE Hb1 H1 σ E _ _ so1 (er.step s1) q1 fun v2 d2 Hb2 H2 s2 so2 r2 q2 => ?_
  exact o2 pp Hb2 H2 _ _ _ _ _ _ so2 (r1.step s2) r2 q2 fun v3 d3 Hb3 H3 s3 so3 r3 q3 => k _ _ Hb3 H3 ((s1.trans s2).trans s3) so3 r3 q3
theorem t_cmp {op : CmpOp} {r : RD} (ho : OD X (compareOp op) r) (ha : QO X a pa) (hb : QO X b pb) (hm : behindInMarks op b = false) : QT X (.Compare a [op] [b] pos) (dTst (dOp r pa pb)) := by
  obtain ⟨t, h1, h2⟩ := ha
  obtain ⟨u, g1, g2⟩ := hb
  obtain ⟨o, o1, o2⟩ := ho
  refine ⟨_, pt_cmpR o1 h1 g1 hm, fun pp HE Hb H σ E Q QD so er hp k => ?_⟩
  refine h2 pp HE Hb H σ E _ _ so er hp fun v d Hb1 H1 s1 so1 r1 q1 => ?_
  refine g2 pp HE Hb1 H1 σ E _ _ so1 (er.step s1) q1 fun v2 d2 Hb2 H2 s2 so2 r2 q2 => ?_
  refine o2 pp Hb2 H2 _ _ _ _ _ _ so2 (r1.step s2) r2 q2 fun v3 d3 Hb3 H3 s3 so3 r3 q3 => ?_
  split at q3
  · unfold Rep at r3
    exact ⟨_, r3, k _ Hb3 H3 ((s1.trans s2).trans s3) so3 q3⟩
  · exact q3.elim
/-- a chain of two comparisons -/
def dChain (r r' : RD) (pa pb pc : DX) : DX := fun E Q => pa E fun x => pb E fun y => r x y fun z => match z with
  | .bl k => if k = true then pc E fun w => r' y w Q else Q (.bl false)
  | _ => False
end

/-! ### subscripts -/
def IXD (X : Cx) (rd : RD) : Prop := ∃ r : R2, IxR X r ∧ ∀ (pp : Addr) (Hb H : Hp) (x y : V) (dx dy : D) (Q : VK) (QD : D → Prop), SOk pp X.K Hb H → RepT pp X.K Hb H dx x → RepT pp X.K Hb H dy y → rd dx dy QD →
  (∀ v d Hb' H', Step pp Hb H Hb' H' → SOk pp X.K Hb' H' → Rep pp X.K Hb' d v → QD d → Q v H') → r x y H Q
section
variable {X : Cx} {a b e : Expr} {es : List Expr} {pa pb p q : DX} {pt qt : DT} {pas : DAs} {pos : Pos}
theorem q_ix {r : RD} (ho : IXD X r) (ha : QO X a pa) (hb : QO X b pb) (hs : PlainIx b := by intro _ _; rfl) : QE X (.Subscript a b pos) (dOp r pa pb) := by
  obtain ⟨t, h1, h2⟩ := ha
  obtain ⟨u, g1, g2⟩ := hb
  obtain ⟨o, o1, o2⟩ := ho
  refine ⟨_, pe_ix o1 h1 g1 hs, fun pp HE Hb H σ E Q QD so er hp k => ?_⟩
  refine h2 pp HE Hb H σ E _ _ so er hp fun v d Hb1 H1 s1 so1 r1 q1 => ?_
  refine g2 pp HE Hb1 H1 σ E _ _ so1 (er.step s1) q1 fun v2 d2 Hb2 H2 s2 so2 r2 q2 => ?_
  exact o2 pp Hb2 H2 _ _ _ _ _ _ so2 (r1.step s2) r2 q2 fun v3 d3 Hb3 H3 s3 so3 r3 q3 => k _ _ Hb3 H3 ((s1.trans s2).trans s3) so3 r3 q3

/-! ### one-place operations, built-in calls of one operand -/
def UD (X : Cx) (f : Value → Sem Value) (rd : D → (D → Prop) → Prop) : Prop := ∃ r, UnR X f r ∧ ∀ (pp : Addr) (Hb H : Hp) (x : V) (dx : D) (Q : VK) (QD : D → Prop), SOk pp X.K Hb H → RepT pp X.K Hb H dx x → rd dx QD →
  (∀ v d Hb' H', Step pp Hb H Hb' H' → SOk pp X.K Hb' H' → Rep pp X.K Hb' d v → QD d → Q v H') → r x H Q
theorem q_un {op : UnaryOp} {r : D → (D → Prop) → Prop} (ho : UD X (unaryOp op) r) (ha : QO X a pa) : QE X (.UnaryOp op a pos) (dUn r pa) := by
  obtain ⟨t, h1, h2⟩ := ha
  obtain ⟨o, o1, o2⟩ := ho
  refine ⟨_, pe_un o1 h1, fun pp HE Hb H σ E Q QD so er hp k => ?_⟩
  refine h2 pp HE Hb H σ E _ _ so er hp fun v d Hb1 H1 s1 so1 r1 q1 => ?_
  exact o2 pp Hb1 H1 _ _ _ _ so1 r1 q1 fun v3 d3 Hb3 H3 s3 so3 r3 q3 => k _ _ Hb3 H3 (s1.trans s3) so3 r3 q3
/-- operands of a call -/
def RepTL (pp : Addr) (K : FK) (Hb H : Hp) : List D → List V → Prop
  | [], vs => vs = []
  | d :: ds, vs => ∃ v r, vs = v :: r ∧ RepT pp K Hb H d v ∧ RepTL pp K Hb H ds r
theorem RepTL.step {pp : Addr} {K : FK} {Hb H Hb' H' : Hp} (s : Step pp Hb H Hb' H') : ∀ {ds : List D} {vs : List V}, RepTL pp K Hb H ds vs → RepTL pp K Hb' H' ds vs
  | [], _, r => r
  | d :: ds, _, ⟨v, r, e, h, t⟩ => ⟨v, r, e, h.step s, t.step s⟩
def QAo (X : Cx) (es : List Expr) (p : DAs) : Prop := ∃ t, PA X es t ∧ ∀ (pp : Addr) (HE Hb H : Hp) (σ : L2.St) (E : List Sl) (Q : List V → Hp → Prop) (QD : List D → Prop), SOk pp X.K Hb H → ER pp X.K HE Hb H σ E → p E QD →
  (∀ vs ds Hb' H', Step pp Hb H Hb' H' → SOk pp X.K Hb' H' → RepTL pp X.K Hb' H' ds vs → QD ds → Q vs H') → t σ H Q
theorem o_nil : QAo X [] dNilA := ⟨_, pa_nil, fun pp HE Hb H σ E Q QD so er hp k => k [] [] Hb H .refl so rfl hp⟩
theorem o_cons (ha : QO X e p) (hr : QAo X es pas) (hs : starEach (e :: es) X.env = (false, eval e X.env) :: starEach es X.env := by rfl) : QAo X (e :: es) (dConsA p pas) := by
  obtain ⟨t, h1, h2⟩ := ha
  obtain ⟨u, g1, g2⟩ := hr
  refine ⟨_, pa_cons h1 g1 hs, fun pp HE Hb H σ E Q QD so er hp k => ?_⟩
  refine h2 pp HE Hb H σ E _ _ so er hp fun v d Hb1 H1 s1 so1 r1 q1 => ?_
  refine g2 pp HE Hb1 H1 σ E _ _ so1 (er.step s1) q1 fun vs ds Hb2 H2 s2 so2 r2 q2 => ?_
  exact k _ (d :: ds) Hb2 H2 (s1.trans s2) so2 ⟨_, _, rfl, r1.step s2, r2⟩ q2
def CD (X : Cx) (f : Value) (rd : List D → (D → Prop) → Prop) : Prop := ∃ r, CallR X f r ∧ ∀ (pp : Addr) (Hb H : Hp) (xs : List V) (ds : List D) (Q : VK) (QD : D → Prop), SOk pp X.K Hb H → RepTL pp X.K Hb H ds xs → rd ds QD →
  (∀ v d Hb' H', Step pp Hb H Hb' H' → SOk pp X.K Hb' H' → Rep pp X.K Hb' d v → QD d → Q v H') → r xs H Q
/-- .. that hands back a new object -/
def CDF (X : Cx) (f : Value) (rd : List D → (D → Prop) → Prop) : Prop := ∃ r, CallR X f r ∧ ∀ (pp : Addr) (Hb H : Hp) (xs : List V) (ds : List D) (Q : VK) (QD : D → Prop), SOk pp X.K Hb H → RepTL pp X.K Hb H ds xs → rd ds QD →
  (∀ a d Hb' H', Step pp Hb H Hb' H' → SOk pp X.K Hb' H' → H a = none → Owns pp X.K Hb' H' a d → QD d → Q (.ref a) H') → r xs H Q
def dCB (rd : List D → (D → Prop) → Prop) (p : DAs) : DX := fun E Q => p E fun ds => rd ds Q
theorem CDF.run {f : Value} {rd : List D → (D → Prop) → Prop} {t : TA} {pas : DAs} (hc : CDF X f rd)
    (ha : ∀ (pp : Addr) (HE Hb H : Hp) (σ : L2.St) (E : List Sl) (Q : List V → Hp → Prop) (QD : List D → Prop), SOk pp X.K Hb H → ER pp X.K HE Hb H σ E → pas E QD →
      (∀ vs ds Hb' H', Step pp Hb H Hb' H' → SOk pp X.K Hb' H' → RepTL pp X.K Hb' H' ds vs → QD ds → Q vs H') → t σ H Q) :
    ∃ r, CallR X f r ∧ ∀ (pp : Addr) (HE Hb H : Hp) (σ : L2.St) (E : List Sl) (Q : VK) (QD : D → Prop), SOk pp X.K Hb H → ER pp X.K HE Hb H σ E → dCB rd pas E QD →
      (∀ a d Hb' H', Step pp Hb H Hb' H' → SOk pp X.K Hb' H' → H a = none → Owns pp X.K Hb' H' a d → QD d → Q (.ref a) H') → tCB r t σ H Q := by
  obtain ⟨r, c1, c2⟩ := hc
  refine ⟨r, c1, fun pp HE Hb H σ E Q QD so er hp k => ?_⟩
  refine ha pp HE Hb H σ E _ _ so er hp fun vs ds Hb1 H1 s1 so1 r1 q1 => ?_
  refine c2 pp Hb1 H1 _ _ _ _ so1 r1 q1 fun a d Hb2 H2 s2 so2 hn o q => ?_
  refine k a d Hb2 H2 (s1.trans s2) so2 ?_ o q
  cases z : H a with
  | none => rfl
  | some u => exact absurd hn (s1.st a (by rw [z]; exact fun y => nomatch y))
theorem CD.run {f : Value} {rd : List D → (D → Prop) → Prop} {t : TA} {pas : DAs} (hc : CD X f rd)
    (ha : ∀ (pp : Addr) (HE Hb H : Hp) (σ : L2.St) (E : List Sl) (Q : List V → Hp → Prop) (QD : List D → Prop), SOk pp X.K Hb H → ER pp X.K HE Hb H σ E → pas E QD →
      (∀ vs ds Hb' H', Step pp Hb H Hb' H' → SOk pp X.K Hb' H' → RepTL pp X.K Hb' H' ds vs → QD ds → Q vs H') → t σ H Q) :
    ∃ r, CallR X f r ∧ ∀ (pp : Addr) (HE Hb H : Hp) (σ : L2.St) (E : List Sl) (Q : VK) (QD : D → Prop), SOk pp X.K Hb H → ER pp X.K HE Hb H σ E → dCB rd pas E QD →
      (∀ v d Hb' H', Step pp Hb H Hb' H' → SOk pp X.K Hb' H' → Rep pp X.K Hb' d v → QD d → Q v H') → tCB r t σ H Q := by
  obtain ⟨r, c1, c2⟩ := hc
  refine ⟨r, c1, fun pp HE Hb H σ E Q QD so er hp k => ?_⟩
  refine ha pp HE Hb H σ E _ _ so er hp fun vs ds Hb1 H1 s1 so1 r1 q1 => ?_
  exact c2 pp Hb1 H1 _ _ _ _ so1 r1 q1 fun v d Hb2 H2 s2 so2 o q => k v d Hb2 H2 (s1.trans s2) so2 o q
section
variable {x : Str} {id T : String} {pp' : Pos} {rd : List D → (D → Prop) → Prop}
theorem q_callB (hc : CD X (.builtin id) rd) (hg : Gl X x) (hm : X.mg x = none) (hv : bootBuiltins x = some (.builtin id)) (ha : QAo X (e :: es) pas) (hn : x ≠ "__name__" := by decide) (hdb : (x == ("__debug__" : Str)) = false := by decide)
    (he : starEach (e :: es) X.env = (false, eval e X.env) :: starEach es X.env := by rfl) (hpl : (backTo pos (starEach es X.env)).any (·.1) = false := by rfl) : QE X (.Call (.Name x pp') (e :: es) [] pos) (dCB rd pas) := by
  obtain ⟨t, h1, h2⟩ := ha
  obtain ⟨r, c1, c2⟩ := hc.run h2
  exact ⟨_, pe_callB c1 hg hm hv h1 hn hdb he hpl, c2⟩
theorem f_callB (hc : CDF X (.builtin id) rd) (hg : Gl X x) (hm : X.mg x = none) (hv : bootBuiltins x = some (.builtin id)) (ha : QAo X (e :: es) pas) (hn : x ≠ "__name__" := by decide) (hdb : (x == ("__debug__" : Str)) = false := by decide)
    (he : starEach (e :: es) X.env = (false, eval e X.env) :: starEach es X.env := by rfl) (hpl : (backTo pos (starEach es X.env)).any (·.1) = false := by rfl) : QF X (.Call (.Name x pp') (e :: es) [] pos) (dCB rd pas) := by
  obtain ⟨t, h1, h2⟩ := ha
  obtain ⟨r, c1, c2⟩ := hc.run h2
  exact ⟨_, pe_callB c1 hg hm hv h1 hn hdb he hpl, c2⟩
theorem q_callTy (hc : CD X (.type T) rd) (hg : Gl X x) (hm : X.mg x = none) (hv : bootBuiltins x = some (.type T)) (ha : QAo X (e :: es) pas) (hn : x ≠ "__name__" := by decide) (hdb : (x == ("__debug__" : Str)) = false := by decide)
    (he : starEach (e :: es) X.env = (false, eval e X.env) :: starEach es X.env := by rfl) (hpl : (backTo pos (starEach es X.env)).any (·.1) = false := by rfl) : QE X (.Call (.Name x pp') (e :: es) [] pos) (dCB rd pas) := by
  obtain ⟨t, h1, h2⟩ := ha
  obtain ⟨r, c1, c2⟩ := hc.run h2
  exact ⟨_, pe_callTy c1 hg hm hv h1 hn hdb he hpl, c2⟩
theorem f_callTy (hc : CDF X (.type T) rd) (hg : Gl X x) (hm : X.mg x = none) (hv : bootBuiltins x = some (.type T)) (ha : QAo X (e :: es) pas) (hn : x ≠ "__name__" := by decide) (hdb : (x == ("__debug__" : Str)) = false := by decide)
    (he : starEach (e :: es) X.env = (false, eval e X.env) :: starEach es X.env := by rfl) (hpl : (backTo pos (starEach es X.env)).any (·.1) = false := by rfl) : QF X (.Call (.Name x pp') (e :: es) [] pos) (dCB rd pas) := by
  obtain ⟨t, h1, h2⟩ := ha
  obtain ⟨r, c1, c2⟩ := hc.run h2
  exact ⟨_, pe_callTy c1 hg hm hv h1 hn hdb he hpl, c2⟩
/-- a module's name for a built-in function -/
theorem q_callF (hc : CD X (.builtin id) rd) (hg : Gl X x) (hm : X.mg x = some (.builtin id)) (ha : QAo X (e :: es) pas) (hdb : (x == ("__debug__" : Str)) = false := by decide)
    (he : starEach (e :: es) X.env = (false, eval e X.env) :: starEach es X.env := by rfl) (hpl : (backTo pos (starEach es X.env)).any (·.1) = false := by rfl) : QE X (.Call (.Name x pp') (e :: es) [] pos) (dCB rd pas) := by
  obtain ⟨t, h1, h2⟩ := ha
  obtain ⟨r, c1, c2⟩ := hc.run h2
  exact ⟨_, pe_callBfun c1 hg hm h1 hdb he hpl, c2⟩
end
end

/-! ### defs -/
abbrev SpecD := List D → (D → Prop) → Prop
def spD (K : FK) (S : SpecD) : Sp := fun vs H Q _ => ∃ (pp : Addr) (Hb : Hp) (ds : List D) (QD : D → Prop), SOk pp K Hb H ∧ RepL pp K Hb ds vs ∧ S ds QD ∧ ∀ d v Hb' H', QD d → Step pp Hb H Hb' H' → SOk pp K Hb' H' → Rep pp K Hb' d v → Q v H'
def dCall (S : SpecD) (p : DAs) : DX := fun E Q => p E fun ds => S ds Q
section
variable {X : Cx} {a b e : Expr} {es : List Expr} {pa pb p q : DX} {pas : DAs} {pos pp' : Pos} {x : Str} {f : Addr} {fd : FuncData} {ps : List Str} {k : Nat} {S : SpecD}
theorem q_call (F : FnOk X.prog X.w X.K X.mg X.base CX0 k f fd ps (spD X.K S)) (hr : Room k X.A) (hg : Gl X x) (hm : X.mg x = some (.ref f)) (hk : PySem.W.keepIn X.K (.ref f) = true) (hb : Binds X.K fd ps []) (ha : QA X (e :: es) pas)
    (hdb : (x == ("__debug__" : Str)) = false := by decide) (he : starEach (e :: es) X.env = (false, eval e X.env) :: starEach es X.env := by rfl) (hpl : (backTo pos (starEach es X.env)).any (·.1) = false := by rfl) :
    QE X (.Call (.Name x pp') (e :: es) [] pos) (dCall S pas) := by
  obtain ⟨t, h1, h2⟩ := ha
  refine ⟨_, pe_call F hr hg hm hk hb .nil pass0 h1 hdb he hpl, fun pp HE Hb H σ E Q QD so er hp k => ?_⟩
  refine h2 pp HE Hb H σ E _ _ so er hp fun vs ds Hb1 H1 s1 so1 r1 l1 q1 => ?_
  rw [List.append_nil]
  exact ⟨pp, Hb1, ds, QD, so1, r1, q1, fun d v Hb2 H2 qd s2 so2 r2 => k v d Hb2 H2 (s1.trans s2) so2 r2 qd⟩
end
end DL

namespace DL
open PySem PySem.Spec PyProof.Rows L2

/-! ### operands seen -/
section
variable {pp : Addr} {K : FK} {Hb H : Hp} {v : V}
theorem RepT.int {i : Int} (so : SOk pp K Hb H) (r : RepT pp K Hb H (.int i) v) : v = .int i := by
  rcases r with r | ⟨p, _, o⟩
  · unfold Rep at r; exact r
  · exact o.top.elim
theorem RepT.str {i : Str} (so : SOk pp K Hb H) (r : RepT pp K Hb H (.str i) v) : v = .str i := by
  rcases r with r | ⟨p, _, o⟩
  · unfold Rep at r; exact r
  · exact o.top.elim
theorem RepT.bl {i : Bool} (so : SOk pp K Hb H) (r : RepT pp K Hb H (.bl i) v) : v = .bl i := by
  rcases r with r | ⟨p, _, o⟩
  · unfold Rep at r; exact r
  · exact o.top.elim
theorem RepT.non (so : SOk pp K Hb H) (r : RepT pp K Hb H .non v) : v = .non := by
  rcases r with r | ⟨p, _, o⟩
  · unfold Rep at r; exact r
  · exact o.top.elim
theorem RepT.ty {n : String} (so : SOk pp K Hb H) (r : RepT pp K Hb H (.ty n) v) : v = .ty n := by
  rcases r with r | ⟨p, _, o⟩
  · unfold Rep at r; exact r
  · exact o.top.elim
theorem RepT.lst {ds : List D} (so : SOk pp K Hb H) (r : RepT pp K Hb H (.lst ds) v) : ∃ a xs, v = .ref a ∧ H a = some (.lst xs) ∧ RepL pp K Hb ds xs := by
  rcases r with r | ⟨p, e, o⟩
  · unfold Rep at r
    obtain ⟨a, xs, e, h, q⟩ := r
    exact ⟨a, xs, e, so.le _ _ h, q⟩
  · obtain ⟨xs, h, q⟩ := o.top
    exact ⟨p, xs, e, h, q⟩
theorem RepT.tup {ds : List D} (so : SOk pp K Hb H) (r : RepT pp K Hb H (.tup ds) v) : ∃ a xs, v = .ref a ∧ SqT K Hb a xs ∧ SqT K H a xs ∧ RepL pp K Hb ds xs := by
  rcases r with r | ⟨p, e, o⟩
  · unfold Rep at r
    obtain ⟨a, xs, e, h, q⟩ := r
    exact ⟨a, xs, e, h, so.hle.sqT h, q⟩
  · exact o.top.elim
theorem RepT.dic {ks : List Key} {ds : List D} (so : SOk pp K Hb H) (r : RepT pp K Hb H (.dic ks ds) v) : ∃ a ws, v = .ref a ∧ Rd H a (.dK ws) ∧ ws.map (·.1) = ks ∧ RepL pp K Hb ds (ws.map (·.2)) := by
  rcases r with r | ⟨p, e, o⟩
  · unfold Rep at r
    obtain ⟨a, ws, e, h, k, q⟩ := r
    exact ⟨a, ws, e, so.hle.rd _ _ trivial h, k, q⟩
  · obtain ⟨ws, h, k, q⟩ := o.top
    exact ⟨p, ws, e, .inl h, k, q⟩
theorem RepT.dct {ks : List (List Key)} {ds : List D} (so : SOk pp K Hb H) (r : RepT pp K Hb H (.dct ks ds) v) : ∃ a ws, v = .ref a ∧ Rd H a (.dT ws) ∧ ws.map (·.1) = ks ∧ RepL pp K Hb ds (ws.map (·.2)) := by
  rcases r with r | ⟨p, e, o⟩
  · unfold Rep at r
    obtain ⟨a, ws, e, h, k, q⟩ := r
    exact ⟨a, ws, e, so.hle.rd _ _ trivial h, k, q⟩
  · obtain ⟨ws, h, k, q⟩ := o.top
    exact ⟨p, ws, e, .inl h, k, q⟩
theorem rep_int {i : Int} : Rep pp K Hb (.int i) (.int i) := by unfold Rep; rfl
theorem rep_bl {i : Bool} : Rep pp K Hb (.bl i) (.bl i) := by unfold Rep; rfl
theorem rep_str {i : Str} : Rep pp K Hb (.str i) (.str i) := by unfold Rep; rfl
theorem rep_non : Rep pp K Hb .non .non := by unfold Rep; rfl
theorem rep_lst {a : Addr} {xs : List V} {ds : List D} (h : Hb a = some (.lst xs)) (r : RepL pp K Hb ds xs) : Rep pp K Hb (.lst ds) (.ref a) := by unfold Rep; exact ⟨a, xs, rfl, h, r⟩
theorem rep_tup {a : Addr} {xs : List V} {ds : List D} (h : SqT K Hb a xs) (r : RepL pp K Hb ds xs) : Rep pp K Hb (.tup ds) (.ref a) := by unfold Rep; exact ⟨a, xs, rfl, h, r⟩
end

/-! ### == -/
mutual
def deq : D → D → Bool
  | .non, .non => true
  | .bl a, .bl b => a == b
  | .bl a, .int j => (if a then 1 else 0) == j
  | .int i, .bl b => i == (if b then 1 else 0)
  | .int i, .int j => i == j
  | .str x, .str y => x == y
  | .lst xs, .lst ys => deqL xs ys
  | .tup xs, .tup ys => deqL xs ys
  | _, _ => false
def deqL : List D → List D → Bool
  | [], [] => true
  | x :: xs, y :: ys => deq x y && deqL xs ys
  | _, _ => false
end
mutual
def pd : D → PyData
  | .non => .none
  | .bl b => .bool b
  | .int i => .int i
  | .str x => .str x
  | .tup xs => .tuple (pdL xs)
  | .lst xs => .list (pdL xs)
  | _ => .dict []
def pdL : List D → List PyData
  | [] => []
  | x :: xs => pd x :: pdL xs
end
/-- data without dicts, at most n deep -/
def okD : Nat → D → Bool
  | _, .non => true
  | _, .bl _ => true
  | _, .int _ => true
  | _, .str _ => true
  | n + 1, .tup xs => xs.all (okD n)
  | n + 1, .lst xs => xs.all (okD n)
  | _, _ => false
mutual
theorem pd_eqv : ∀ (n m : Nat) (x y : D), okD n x = true → okD m y = true → PyData.eqv (pd x) (pd y) = deq x y
  | n, m, x, y, hx, hy => by
    cases x <;> cases y <;> (first | (simp [pd, PyData.eqv, deq]; done) | (simp [okD] at hx; done) | (simp [okD] at hy; done) | skip)
    · cases n <;> cases m <;> simp [okD] at hx hy
      rename_i xs ys n m
      simp only [pd, PyData.eqv, deq]
      exact pdL_eqv n m xs ys hx hy
    · cases n <;> cases m <;> simp [okD] at hx hy
      rename_i xs ys n m
      simp only [pd, PyData.eqv, deq]
      exact pdL_eqv n m xs ys hx hy
theorem pdL_eqv : ∀ (n m : Nat) (xs ys : List D), (∀ x ∈ xs, okD n x = true) → (∀ x ∈ ys, okD m x = true) → PyData.eqvAll (pdL xs) (pdL ys) = deqL xs ys
  | n, m, [], [], _, _ => by simp [pdL, PyData.eqvAll, deqL]
  | n, m, [], y :: ys, _, _ => by simp [pdL, PyData.eqvAll, deqL]
  | n, m, x :: xs, [], _, _ => by simp [pdL, PyData.eqvAll, deqL]
  | n, m, x :: xs, y :: ys, hx, hy => by
    simp only [pdL, PyData.eqvAll, deqL]
    rw [pd_eqv n m x y (hx x (by simp)) (hy y (by simp)), pdL_eqv n m xs ys (fun z hz => hx z (by simp [hz])) (fun z hz => hy z (by simp [hz]))]
end
theorem okD_up : ∀ (n : Nat) (x : D), okD n x = true → okD (n + 1) x = true
  | 0, x, h => by cases x <;> simp [okD] at h ⊢
  | n + 1, x, h => by
    cases x <;> (first | (simp [okD] at h ⊢; done) | skip)
    · simp only [okD, List.all_eq_true] at h ⊢
      exact fun y hy => okD_up n y (h y hy)
    · simp only [okD, List.all_eq_true] at h ⊢
      exact fun y hy => okD_up n y (h y hy)
theorem okD_le {n m : Nat} {x : D} (h : okD n x = true) (l : n ≤ m) : okD m x = true := by
  induction l with
  | refl => exact h
  | step _ ih => exact okD_up _ x ih
mutual
theorem pd_plain : ∀ (n : Nat) (x : D), okD n x = true → (pd x).plain = true ∧ (pd x).depth ≤ n
  | n, x, h => by
    cases x <;> (first | (simp [pd, PyData.plain, PyData.depth]; done) | (simp [okD] at h; done) | skip)
    · cases n <;> simp [okD] at h
      rename_i xs n
      simp only [pd, PyData.plain, PyData.depth]
      have q := pdL_plain n xs h
      exact ⟨q.1, by omega⟩
    · cases n <;> simp [okD] at h
      rename_i xs n
      simp only [pd, PyData.plain, PyData.depth]
      have q := pdL_plain n xs h
      exact ⟨q.1, by omega⟩
theorem pdL_plain : ∀ (n : Nat) (xs : List D), (∀ x ∈ xs, okD n x = true) → PyData.plainAll (pdL xs) = true ∧ PyData.depthAll (pdL xs) ≤ n
  | n, [], _ => by simp [pdL, PyData.plainAll, PyData.depthAll]
  | n, x :: xs, h => by
    have q1 := pd_plain n x (h x (by simp))
    have q2 := pdL_plain n xs fun z hz => h z (by simp [hz])
    simp only [pdL, PyData.plainAll, PyData.depthAll, Bool.and_eq_true]
    exact ⟨⟨q1.1, q2.1⟩, by omega⟩
end
section
variable {pp : Addr} {K : FK} {Hb H : Hp}
mutual
theorem rep_dp : ∀ (n : Nat) (x : D) (v : V), okD n x = true → Rep pp K H x v → Dp K H v (pd x)
  | n, x, v, h, r => by
    cases x <;> (first | (simp [okD] at h; done) | skip)
    · unfold Rep at r; subst r; exact .non
    · unfold Rep at r; subst r; exact .bl _
    · unfold Rep at r; subst r; exact .int _
    · unfold Rep at r; subst r; exact .str _
    · cases n <;> simp [okD] at h
      rename_i xs n
      unfold Rep at r
      obtain ⟨a, ws, rfl, h1, h2⟩ := r
      exact .tup h1 (repL_dp n xs ws h h2)
    · cases n <;> simp [okD] at h
      rename_i xs n
      unfold Rep at r
      obtain ⟨a, ws, rfl, h1, h2⟩ := r
      exact .lst (.of h1) (repL_dp n xs ws h h2)
theorem repL_dp : ∀ (n : Nat) (xs : List D) (vs : List V), (∀ x ∈ xs, okD n x = true) → RepL pp K H xs vs → DpAll K H vs (pdL xs)
  | n, [], vs, _, r => by rw [r.unnil]; exact .nil
  | n, x :: xs, vs, h, r => by
    obtain ⟨v, w, rfl, h1, h2⟩ := r.uncons
    exact .cons (rep_dp n x v (h x (by simp)) h1) (repL_dp n xs w (fun z hz => h z (by simp [hz])) h2)
end
theorem repT_dp {n : Nat} {x : D} {v : V} (so : SOk pp K Hb H) (h : okD n x = true) (r : RepT pp K Hb H x v) : Dp K H v (pd x) := by
  rcases r with r | ⟨p, e, o⟩
  · exact rep_dp n x v h (r.le so.hle)
  · have t := o.top
    subst e
    cases x <;> first | exact t.elim | (simp [okD] at h; done) | skip
    obtain ⟨xs, h1, h2⟩ := t
    cases n <;> simp [okD] at h
    exact .lst (.of h1) (repL_dp _ _ _ h (h2.le so.hle))
end
/-- == of data -/
def rdEq : RD := fun x y Q => okD 60 x = true ∧ okD 60 y = true ∧ Q (.bl (deq x y))
def rdNe : RD := fun x y Q => okD 60 x = true ∧ okD 60 y = true ∧ Q (.bl (!deq x y))
section
variable {X : Cx}
theorem op_eqP (hu : X.A.units + 64 < cLine) : OpR X (compareOp .Eq) (fun x y H Q => ∃ d e, Dp X.K H x d ∧ Dp X.K H y e ∧ d.plain = true ∧ e.plain = true ∧ d.depth ≤ 60 ∧ Q (.bl (PyData.eqv d e)) H) := by
  intro pins s σ H x y v u Q I rx ry h
  obtain ⟨d, e, hd, he, sd, se, dd, q⟩ := h
  obtain ⟨as, r1⟩ := Dp.reads I d x v hd rx
  obtain ⟨bs, r2⟩ := Dp.reads I e y u he ry
  exact SeqAt.eq_plain r1 r2 sd se (by omega) ⟨.bl _, H, I, rfl, q⟩
theorem op_neP (hu : X.A.units + 64 < cLine) : OpR X (compareOp .NotEq) (fun x y H Q => ∃ d e, Dp X.K H x d ∧ Dp X.K H y e ∧ d.plain = true ∧ e.plain = true ∧ d.depth ≤ 60 ∧ Q (.bl (!PyData.eqv d e)) H) := by
  intro pins s σ H x y v u Q I rx ry h
  obtain ⟨d, e, hd, he, sd, se, dd, q⟩ := h
  obtain ⟨as, r1⟩ := Dp.reads I d x v hd rx
  obtain ⟨bs, r2⟩ := Dp.reads I e y u he ry
  exact SeqAt.ne_plain r1 r2 sd se (by omega) ⟨.bl _, H, I, rfl, q⟩
theorem od_eq (hu : X.A.units + 64 < cLine) : OD X (compareOp .Eq) rdEq := by
  refine ⟨_, op_eqP hu, fun pp Hb H x y dx dy Q QD so rx ry h k => ?_⟩
  obtain ⟨h1, h2, h3⟩ := h
  have p1 := pd_plain _ _ h1
  have p2 := pd_plain _ _ h2
  refine ⟨pd dx, pd dy, repT_dp so h1 rx, repT_dp so h2 ry, p1.1, p2.1, p1.2, ?_⟩
  rw [pd_eqv _ _ _ _ h1 h2]
  exact k _ _ Hb H .refl so rep_bl h3
theorem od_ne (hu : X.A.units + 64 < cLine) : OD X (compareOp .NotEq) rdNe := by
  refine ⟨_, op_neP hu, fun pp Hb H x y dx dy Q QD so rx ry h k => ?_⟩
  obtain ⟨h1, h2, h3⟩ := h
  have p1 := pd_plain _ _ h1
  have p2 := pd_plain _ _ h2
  refine ⟨pd dx, pd dy, repT_dp so h1 rx, repT_dp so h2 ry, p1.1, p2.1, p1.2, ?_⟩
  rw [pd_eqv _ _ _ _ h1 h2]
  exact k _ _ Hb H .refl so rep_bl h3

/-! ### ints -/
def i2 (g : Int → Int → (D → Prop) → Prop) : RD := fun x y Q => match x, y with
  | .int i, .int j => g i j Q
  | _, _ => False
theorem od_i0 {f : Value → Value → Sem Value} {g : Int → Int → V} {gd : Int → Int → D} (ho : OpR X f (rI0 g)) (hg : ∀ i j pp H, Rep pp X.K H (gd i j) (g i j)) : OD X f (i2 fun i j Q => Q (gd i j)) := by
  refine ⟨_, ho, fun pp Hb H x y dx dy Q QD so rx ry h k => ?_⟩
  cases dx <;> first | exact h.elim | skip
  cases dy <;> first | exact h.elim | skip
  exact ⟨_, _, rx.int so, ry.int so, k _ _ Hb H .refl so (hg _ _ _ _) h⟩
theorem od_i {f : Value → Value → Sem Value} {C : Int → Int → Prop} {g : Int → Int → V} {gd : Int → Int → D} (ho : OpR X f (rI C g)) (hg : ∀ i j pp H, Rep pp X.K H (gd i j) (g i j)) : OD X f (i2 fun i j Q => C i j ∧ Q (gd i j)) := by
  refine ⟨_, ho, fun pp Hb H x y dx dy Q QD so rx ry h k => ?_⟩
  cases dx <;> first | exact h.elim | skip
  cases dy <;> first | exact h.elim | skip
  exact ⟨_, _, rx.int so, ry.int so, h.1, k _ _ Hb H .refl so (hg _ _ _ _) h.2⟩
def rdSub : RD := i2 fun i j Q => Q (.int (i - j))
def rdMul : RD := i2 fun i j Q => CMulX i j ∧ Q (.int (i * j))
def CDivA (_ j : Int) : Prop := j ≠ 0 ∧ j.natAbs.log2 < 9000
def rdDiv : RD := i2 fun i j Q => CDivA i j ∧ Q (.int (i.fdiv j))
def rdMod : RD := i2 fun i j Q => j ≠ 0 ∧ Q (.int (i.fmod j))
def rdPow : RD := i2 fun i j Q => CPow i j ∧ Q (.int (i ^ j.toNat))
def rdLt : RD := fun x y Q => match x, y with
  | .int i, .int j => Q (.bl (decide (i < j)))
  | .str i, .str j => Q (.bl (decide (i.cps.toList < j.cps.toList)))
  | _, _ => False
def rdLe : RD := i2 fun i j Q => Q (.bl (decide (i ≤ j)))
def rdGt : RD := i2 fun i j Q => Q (.bl (decide (j < i)))
def rdGe : RD := i2 fun i j Q => Q (.bl (decide (j ≤ i)))
theorem op_fdivA : OpR X (binaryOp .FloorDiv) (rI CDivA fun i j => .int (i.fdiv j)) := opI fun _ _ _ _ _ _ _ hc q => floordiv_int hc.1 q (.inl (PyProof.noPylong_of_log2 hc.2))
theorem od_sub : OD X (binaryOp .Sub) rdSub := od_i0 op_sub fun _ _ _ _ => rep_int
theorem od_mul : OD X (binaryOp .Mult) rdMul := od_i op_mulX fun _ _ _ _ => rep_int
theorem od_div : OD X (binaryOp .FloorDiv) rdDiv := od_i op_fdivA fun _ _ _ _ => rep_int
theorem od_mod : OD X (binaryOp .Mod) rdMod := od_i op_modN fun _ _ _ _ => rep_int
theorem od_pow : OD X (binaryOp .Pow) rdPow := od_i op_pow fun _ _ _ _ => rep_int
theorem od_le : OD X (compareOp .LtE) rdLe := od_i0 op_le fun _ _ _ _ => rep_bl
theorem od_gt : OD X (compareOp .Gt) rdGt := od_i0 op_gt fun _ _ _ _ => rep_bl
theorem od_ge : OD X (compareOp .GtE) rdGe := od_i0 op_ge fun _ _ _ _ => rep_bl
theorem od_lt : OD X (compareOp .Lt) rdLt := by
  refine ⟨_, op_lt.or op_lt_str, fun pp Hb H x y dx dy Q QD so rx ry h k => ?_⟩
  cases dx <;> first | exact h.elim | skip
  · cases dy <;> first | exact h.elim | skip
    exact .inl ⟨_, _, rx.int so, ry.int so, k _ _ Hb H .refl so rep_bl h⟩
  · cases dy <;> first | exact h.elim | skip
    exact .inr ⟨_, _, rx.str so, ry.str so, k _ _ Hb H .refl so rep_bl h⟩
/-- + : ints, texts, lists, tuples -/
def rdAdd : RD := fun x y Q => match x, y with
  | .int i, .int j => Q (.int (i + j))
  | .str i, .str j => i.length + j.length ≤ sizeLine ∧ Q (.str (i ++ j))
  | .lst a, .lst b => a.length + b.length ≤ sizeLine ∧ Q (.lst (a ++ b))
  | .tup a, .tup b => a.length + b.length ≤ sizeLine ∧ Q (.tup (a ++ b))
  | _, _ => False
theorem od_add : OD X (binaryOp .Add) rdAdd := by
  refine ⟨_, op_add.or (op_add_str.or (op_cat.or op_catA)), fun pp Hb H x y dx dy Q QD so rx ry h k => ?_⟩
  cases dx <;> first | exact h.elim | skip
  · cases dy <;> first | exact h.elim | skip
    exact .inl ⟨_, _, rx.int so, ry.int so, k _ _ Hb H .refl so rep_int h⟩
  · cases dy <;> first | exact h.elim | skip
    exact .inr (.inl ⟨_, _, rx.str so, ry.str so, h.1, k _ _ Hb H .refl so rep_str h.2⟩)
  · cases dy <;> first | exact h.elim | skip
    obtain ⟨a, xs, rfl, hb1, h1, r1⟩ := rx.tup so
    obtain ⟨b, ys, rfl, hb2, h2, r2⟩ := ry.tup so
    refine .inr (.inr (.inr ⟨a, b, xs, ys, rfl, rfl, h1, h2, by rw [r1.length, r2.length]; exact h.1, fun e => ?_, fun _ e => ?_, fun _ _ p hp => ?_⟩))
    · subst e
      have z := r1.length
      rename_i ds es
      cases ds with
      | nil => exact k _ (.tup es) Hb H .refl so (rep_tup hb2 r2) h.2
      | cons _ _ => simp at z
    · subst e
      have z := r2.length
      rename_i ds es _
      cases es with
      | nil => exact k _ (.tup ds) Hb H .refl so (rep_tup hb1 r1) (by simpa using h.2)
      | cons _ _ => simp at z
    · obtain ⟨s2, so2⟩ := lay_sh (u := .tup (xs ++ ys)) so hp
      exact k _ _ _ _ s2 so2 (rep_tup (.of upd_same) ((r1.app r2).le s2.le)) h.2
  · cases dy <;> first | exact h.elim | skip
    obtain ⟨a, xs, rfl, h1, r1⟩ := rx.lst so
    obtain ⟨b, ys, rfl, h2, r2⟩ := ry.lst so
    refine .inr (.inr (.inl ⟨a, b, xs, ys, rfl, rfl, h1, h2, by rw [r1.length, r2.length]; exact h.1, fun p hp => ?_⟩))
    obtain ⟨s2, so2⟩ := lay_sh (u := .lst (xs ++ ys)) so hp
    exact k _ _ _ _ s2 so2 (rep_lst upd_same ((r1.app r2).le s2.le)) h.2
def rdNeg : D → (D → Prop) → Prop := fun x Q => match x with
  | .int i => Q (.int (-i))
  | _ => False
theorem ud_neg : UD X (unaryOp .USub) rdNeg := by
  refine ⟨_, un_neg, fun pp Hb H x dx Q QD so rx h k => ?_⟩
  cases dx <;> first | exact h.elim | skip
  exact ⟨_, rx.int so, k _ _ Hb H .refl so rep_int h⟩
/-- x is y, y None, True or False -/
def isB (x y : D) : Option Bool := match x, y with
  | .non, .non => some true
  | _, .non => some false
  | .bl a, .bl b => some (a == b)
  | _, .bl _ => some false
  | _, _ => none
def rdIsN : RD := fun x y Q => match y with
  | .non => match x with
    | .non => Q (.bl true)
    | _ => Q (.bl false)
  | _ => False
def rdNotN : RD := fun x y Q => match y with
  | .non => match x with
    | .non => Q (.bl false)
    | _ => Q (.bl true)
  | _ => False
def isNonD : D → Bool
  | .non => true
  | _ => false
theorem repT_non {pp : Addr} {K : FK} {Hb H : Hp} {d : D} {v : V} (so : SOk pp K Hb H) (r : RepT pp K Hb H d v) : decide (v = V.non) = isNonD d := by
  cases d
  · rw [r.non so]; rfl
  · rw [r.bl so]; rfl
  · rw [r.int so]; rfl
  · rw [r.str so]; rfl
  · obtain ⟨a, xs, e, _⟩ := r.tup so; rw [e]; rfl
  · obtain ⟨a, xs, e, _⟩ := r.lst so; rw [e]; rfl
  · obtain ⟨a, xs, e, _⟩ := r.dic so; rw [e]; rfl
  · obtain ⟨a, xs, e, _⟩ := r.dct so; rw [e]; rfl
  · rcases r with r | ⟨p, e, o⟩
    · unfold Rep at r; rw [r]; rfl
    · exact o.top.elim
  · rw [r.ty so]; rfl
theorem od_isN : OD X (compareOp .Is) rdIsN := by
  refine ⟨_, op_isN, fun pp Hb H x y dx dy Q QD so rx ry h k => ?_⟩
  cases dy <;> first | exact h.elim | skip
  refine ⟨ry.non so, ?_⟩
  rw [repT_non so rx]
  cases dx <;> exact k _ _ Hb H .refl so rep_bl h
theorem od_notN : OD X (compareOp .IsNot) rdNotN := by
  refine ⟨_, op_notN, fun pp Hb H x y dx dy Q QD so rx ry h k => ?_⟩
  cases dy <;> first | exact h.elim | skip
  refine ⟨ry.non so, ?_⟩
  rw [repT_non so rx]
  cases dx <;> exact k _ _ Hb H .refl so rep_bl h
end
end DL

namespace DL
open PySem PySem.Spec PyProof.Rows L2

/-! ### dicts as two lists -/
section
variable {κ : Type} [DecidableEq κ]
def lk : List κ → List D → κ → Option D
  | k' :: ks, d :: ds, k => if k' = k then some d else lk ks ds k
  | _, _, _ => none
def hasK (ks : List κ) (k : κ) : Bool := ks.any fun k' => decide (k' = k)
theorem hasK_iff {ks : List κ} {k : κ} : hasK ks k = true ↔ k ∈ ks := by simp [hasK, List.any_eq_true]
theorem hasK_not {ks : List κ} {k : κ} : hasK ks k = false ↔ k ∉ ks := by rw [← hasK_iff]; simp
def ptK (ks : List κ) (k : κ) : List κ := if hasK ks k = true then ks else ks ++ [k]
def ptD (ks : List κ) (ds : List D) (k : κ) (d : D) : List D := if hasK ks k = true then List.zipWith (fun k' d' => if k' = k then d else d') ks ds else ds ++ [d]
def drK (ks : List κ) (k : κ) : List κ := ks.filter fun k' => decide (k' ≠ k)
def drD : List κ → List D → κ → List D
  | k' :: ks, d :: ds, k => if k' = k then drD ks ds k else d :: drD ks ds k
  | _, _, _ => []
variable {pp : Addr} {K : FK} {H : Hp}
theorem lk_val {k : κ} : ∀ {ws : List (κ × V)} {ds : List D}, RepL pp K H ds (ws.map (·.2)) → (∀ d, lk (ws.map (·.1)) ds k = some d → ∃ v, valV ws k = some v ∧ Rep pp K H d v) ∧ (lk (ws.map (·.1)) ds k = none → valV ws k = none)
  | [], ds, r => by
    refine ⟨fun d h => ?_, fun _ => rfl⟩
    cases ds <;> simp [lk] at h
  | (k', v) :: ws, [], r => by
    have := r.unnil
    simp at this
  | (k', v) :: ws, d :: ds, r => by
    obtain ⟨v', w, e, h, q⟩ := r.uncons
    simp only [List.map_cons, List.cons.injEq] at e
    obtain ⟨rfl, rfl⟩ := e
    have ih := lk_val (k := k) q
    by_cases hk : k' = k
    · subst hk
      refine ⟨fun d' h' => ?_, fun h' => ?_⟩
      · simp only [List.map_cons, lk, if_pos] at h'
        cases h'
        exact ⟨v, valV_pos rfl, h⟩
      · simp [lk] at h'
    · simp only [List.map_cons, lk, if_neg hk]
      rw [valV_neg (p := (k', v)) hk]
      exact ih
theorem pt_keys (k : κ) (v : V) (ws : List (κ × V)) : (putK ws k v).map (·.1) = ptK (ws.map (·.1)) k := by
  unfold putK ptK
  have e : ((ws.any fun kv => decide (kv.1 = k)) = true) ↔ hasK (ws.map (·.1)) k = true := by
    rw [hasK_iff]; simp [List.any_eq_true]
  by_cases h : hasK (ws.map (·.1)) k = true
  · rw [if_pos (e.mpr h), if_pos h, List.map_map]
    refine List.map_congr_left fun p _ => ?_
    simp only [Function.comp]
    split <;> rfl
  · rw [if_neg (fun z => h (e.mp z)), if_neg h, List.map_append]
    rfl
theorem zip_rep {k : κ} {v : V} {d : D} (hv : Rep pp K H d v) : ∀ {ws : List (κ × V)} {ds : List D}, RepL pp K H ds (ws.map (·.2)) → RepL pp K H (List.zipWith (fun k' d' => if k' = k then d else d') (ws.map (·.1)) ds) ((ws.map fun kv => if kv.1 = k then (kv.1, v) else kv).map (·.2))
  | [], ds, r => by simp; exact .nil
  | (k', v') :: ws, [], r => by
    have := r.unnil
    simp at this
  | (k', v') :: ws, d' :: ds, r => by
    obtain ⟨v'', w, e, h, q⟩ := r.uncons
    simp only [List.map_cons, List.cons.injEq] at e
    obtain ⟨rfl, rfl⟩ := e
    have ih := zip_rep (k := k) hv q
    simp only [List.map_cons, List.zipWith_cons_cons]
    refine .cons ?_ ih
    split
    · exact hv
    · exact h
theorem pt_rep {k : κ} {v : V} {d : D} {ws : List (κ × V)} {ds : List D} (hv : Rep pp K H d v) (r : RepL pp K H ds (ws.map (·.2))) : RepL pp K H (ptD (ws.map (·.1)) ds k d) ((putK ws k v).map (·.2)) := by
  unfold putK ptD
  have e : ((ws.any fun kv => decide (kv.1 = k)) = true) ↔ hasK (ws.map (·.1)) k = true := by
    rw [hasK_iff]; simp [List.any_eq_true]
  by_cases h : hasK (ws.map (·.1)) k = true
  · rw [if_pos (e.mpr h), if_pos h]
    exact zip_rep hv r
  · rw [if_neg (fun z => h (e.mp z)), if_neg h, List.map_append]
    exact r.app (.cons hv .nil)
theorem dr_keys (k : κ) : ∀ (ws : List (κ × V)), (dropK ws k).map (·.1) = drK (ws.map (·.1)) k
  | [] => rfl
  | (k', v) :: ws => by
    have ih := dr_keys k ws
    unfold dropK drK at *
    by_cases h : k' = k
    · simp only [List.map_cons, List.filter_cons, h, ne_eq, not_true_eq_false, decide_false, Bool.false_eq_true, if_false]
      exact ih
    · simp only [List.map_cons, List.filter_cons, h, ne_eq, not_false_eq_true, decide_true, if_true]
      simp only [ne_eq] at ih
      rw [← ih]
theorem dr_rep {k : κ} : ∀ {ws : List (κ × V)} {ds : List D}, RepL pp K H ds (ws.map (·.2)) → RepL pp K H (drD (ws.map (·.1)) ds k) ((dropK ws k).map (·.2))
  | [], ds, r => by cases ds <;> exact .nil
  | (k', v') :: ws, [], r => by
    have := r.unnil
    simp at this
  | (k', v') :: ws, d' :: ds, r => by
    obtain ⟨v'', w, e, h, q⟩ := r.uncons
    simp only [List.map_cons, List.cons.injEq] at e
    obtain ⟨rfl, rfl⟩ := e
    have ih := dr_rep (k := k) q
    by_cases hk : k' = k
    · rw [dropK_pos (p := (k', v')) hk]
      simp only [List.map_cons, drD, if_pos hk]
      exact ih
    · rw [dropK_neg (p := (k', v')) hk]
      simp only [List.map_cons, drD, if_neg hk]
      exact .cons h ih
end
/-- an int or text as a key -/
def keyOf : D → Option Key
  | .int i => some (.inl i)
  | .str x => some (.inr x)
  | _ => none
theorem keyOf_rep {pp : Addr} {K : FK} {Hb H : Hp} {d : D} {v : V} {k : Key} (so : SOk pp K Hb H) (e : keyOf d = some k) (r : RepT pp K Hb H d v) : v = kV k := by
  cases d <;> simp [keyOf] at e
  · subst e; exact r.int so
  · subst e; exact r.str so

/-! ### subscripts -/
def atD (ds : List D) (i : Int) : Option D := match i with
  | .ofNat n => ds[n]?
  | .negSucc n => if n + 1 ≤ ds.length then ds[ds.length - (n + 1)]? else none
def rdIx : RD := fun x y Q => match x with
  | .lst ds => match y with
    | .int i => match atD ds i with
      | some d => Q d
      | none => False
    | _ => False
  | .tup ds => match y with
    | .int i => match atD ds i with
      | some d => Q d
      | none => False
    | _ => False
  | .dic ks ds => match keyOf y with
    | some k => match lk ks ds k with
      | some d => Q d
      | none => False
    | none => False
  | _ => False
section
variable {X : Cx} {pp : Addr} {K : FK} {Hb H : Hp}
theorem atD_rep {ds : List D} {xs : List V} {i : Int} {d : D} (r : RepL pp K Hb ds xs) (e : atD ds i = some d) : ∃ v, atI xs i = some v ∧ Rep pp K Hb d v := by
  unfold atD at e
  split at e
  · rename_i n
    obtain ⟨v, h1, h2⟩ := r.get e
    exact ⟨v, atI_nat h1, h2⟩
  · rename_i n
    split at e
    · rename_i hle
      obtain ⟨v, h1, h2⟩ := r.get e
      refine ⟨v, ?_, h2⟩
      have hl := r.length
      unfold atI ixN
      rw [if_neg (by omega), if_pos (by omega)]
      have ez : ((Int.negSucc n + (xs.length : Int)).toNat) = ds.length - (n + 1) := by omega
      simp only [Option.bind_some, ez]
      exact h1
    · cases e
theorem ix_dict (hu : X.A.units + 1 < cLine) : IxR X (fun x y H Q => ∃ a v, x = .ref a ∧ DGet H a y (some v) ∧ Q v H) := by
  intro value slice pins s σ H x y v u Q I rx ry h hs
  obtain ⟨a, z, rfl, g, q⟩ := h
  cases rx
  exact tail_any (dict_typeIs I g) PySem.F.slot_dict_getitem.lookup (d_getItem hu I g ry fun w' s' I' rw' => ⟨z, H, I', rw', q⟩) hs
theorem ixd (hu : X.A.units + 1 < cLine) : IXD X rdIx := by
  refine ⟨_, ix_list.or (ix_tup.or (ix_dict hu)), fun pp Hb H x y dx dy Q QD so rx ry h k => ?_⟩
  cases dx <;> first | exact h.elim | skip
  · obtain ⟨a, xs, rfl, hb1, h1, r1⟩ := rx.tup so
    cases dy <;> first | exact h.elim | skip
    have ey := ry.int so
    simp only [rdIx] at h
    split at h
    · rename_i d e
      obtain ⟨v, h2, h3⟩ := atD_rep r1 e
      exact .inr (.inl ⟨a, xs, _, v, rfl, ey, h1, h2, k _ _ Hb H .refl so h3 h⟩)
    · exact h.elim
  · obtain ⟨a, xs, rfl, h1, r1⟩ := rx.lst so
    cases dy <;> first | exact h.elim | skip
    have ey := ry.int so
    simp only [rdIx] at h
    split at h
    · rename_i d e
      obtain ⟨v, h2, h3⟩ := atD_rep r1 e
      exact .inl ⟨a, xs, _, v, rfl, ey, .of h1, h2, k _ _ Hb H .refl so h3 h⟩
    · exact h.elim
  · obtain ⟨a, ws, rfl, h1, hk, r1⟩ := rx.dic so
    simp only [rdIx] at h
    split at h
    · rename_i kk ek
      have ey := keyOf_rep so ek ry
      split at h
      · rename_i d e
        subst hk
        obtain ⟨v, h2, h3⟩ := (lk_val r1).1 d e
        exact .inr (.inr ⟨a, v, rfl, .inl ⟨ws, kk, h1, ey, h2.symm⟩, k _ _ Hb H .refl so h3 h⟩)
      · exact h.elim
    · exact h.elim

/-! ### in, not in -/
theorem depthL_ok {xs : List D} (h : ∀ x ∈ xs, okD 59 x = true) : PyData.depthAll (pdL xs) ≤ 59 := (pdL_plain 59 xs h).2
theorem anyL (d : D) (hd : okD 59 d = true) : ∀ xs : List D, (∀ x ∈ xs, okD 59 x = true) → ((pdL xs).any fun y => PyData.eqv y (pd d)) = xs.any fun y => deq y d
  | [], _ => rfl
  | x :: xs, h => by
    simp only [pdL, List.any_cons]
    rw [pd_eqv _ _ _ _ (h x (by simp)) hd, anyL d hd xs fun z hz => h z (by simp [hz])]
theorem op_inD (hu : X.A.units + 64 < cLine) : OpR X (compareOp .In) (fun x y H Q => ∃ (d : PyData) (xs : List PyData), Dp X.K H x d ∧ (Dp X.K H y (.list xs) ∨ Dp X.K H y (.tuple xs)) ∧ d.plain = true ∧ PyData.plainAll xs = true ∧ d.depth ≤ 59 ∧ Q (.bl (xs.any fun z => PyData.eqv z d)) H) := by
  intro pins s σ H x y v u Q I rx ry h
  obtain ⟨d, xs, hd, he, sd, se, dd, q⟩ := h
  obtain ⟨as, r1⟩ := Dp.reads I d x v hd rx
  rcases he with he | he
  · obtain ⟨bs, r2⟩ := Dp.reads I _ y u he ry
    exact SeqAt.in_list_data r2 r1 se sd (by omega) ⟨.bl _, H, I, rfl, q⟩
  · obtain ⟨bs, r2⟩ := Dp.reads I _ y u he ry
    exact SeqAt.in_tuple_data r2 r1 se sd (by omega) ⟨.bl _, H, I, rfl, q⟩
theorem op_ninD (hu : X.A.units + 64 < cLine) : OpR X (compareOp .NotIn) (fun x y H Q => ∃ (d : PyData) (xs : List PyData), Dp X.K H x d ∧ (Dp X.K H y (.list xs) ∨ Dp X.K H y (.tuple xs)) ∧ d.plain = true ∧ PyData.plainAll xs = true ∧ d.depth ≤ 59 ∧ Q (.bl (!xs.any fun z => PyData.eqv z d)) H) := by
  intro pins s σ H x y v u Q I rx ry h
  obtain ⟨d, xs, hd, he, sd, se, dd, q⟩ := h
  obtain ⟨as, r1⟩ := Dp.reads I d x v hd rx
  rcases he with he | he
  · obtain ⟨bs, r2⟩ := Dp.reads I _ y u he ry
    exact SeqAt.notIn_list_data r2 r1 se sd (by omega) ⟨.bl _, H, I, rfl, q⟩
  · obtain ⟨bs, r2⟩ := Dp.reads I _ y u he ry
    exact SeqAt.notIn_tuple_data r2 r1 se sd (by omega) ⟨.bl _, H, I, rfl, q⟩
theorem op_dinR (hu : X.A.units + 1 < cLine) : OpR X (compareOp .In) (fun y x H Q => ∃ a o, x = .ref a ∧ DGet H a y o ∧ Q (.bl o.isSome) H) := by
  intro pins s σ H y x u v Q I ry rx h
  obtain ⟨a, o, rfl, g, q⟩ := h
  cases rx
  exact d_in hu I g ry fun s3 I3 => ⟨.bl o.isSome, H, I3, rfl, q⟩
theorem op_dninR (hu : X.A.units + 1 < cLine) : OpR X (compareOp .NotIn) (fun y x H Q => ∃ a o, x = .ref a ∧ DGet H a y o ∧ Q (.bl (!o.isSome)) H) := by
  intro pins s σ H y x u v Q I ry rx h
  obtain ⟨a, o, rfl, g, q⟩ := h
  cases rx
  exact d_notIn hu I g ry fun s3 I3 => ⟨.bl (!o.isSome), H, I3, rfl, q⟩
def rdIn : RD := fun x y Q => match y with
  | .lst ys => okD 59 x = true ∧ (∀ z ∈ ys, okD 59 z = true) ∧ Q (.bl (ys.any fun z => deq z x))
  | .tup ys => okD 59 x = true ∧ (∀ z ∈ ys, okD 59 z = true) ∧ Q (.bl (ys.any fun z => deq z x))
  | .dic ks ds => match keyOf x with
    | some k => Q (.bl (hasK ks k))
    | none => False
  | _ => False
def rdNotIn : RD := fun x y Q => match y with
  | .lst ys => okD 59 x = true ∧ (∀ z ∈ ys, okD 59 z = true) ∧ Q (.bl (!ys.any fun z => deq z x))
  | .tup ys => okD 59 x = true ∧ (∀ z ∈ ys, okD 59 z = true) ∧ Q (.bl (!ys.any fun z => deq z x))
  | .dic ks ds => match keyOf x with
    | some k => Q (.bl (!hasK ks k))
    | none => False
  | _ => False
theorem val_mem {κ : Type} [DecidableEq κ] (ws : List (κ × V)) (k : κ) : (valV ws k).isSome = hasK (ws.map (·.1)) k := by
  rw [← valV_any k ws, Bool.eq_iff_iff, hasK_iff]
  simp [List.any_eq_true]
theorem od_in (hu : X.A.units + 64 < cLine) : OD X (compareOp .In) rdIn := by
  refine ⟨_, (op_inD hu).or (op_dinR (by omega)), fun pp Hb H x y dx dy Q QD so rx ry h k => ?_⟩
  cases dy <;> first | exact h.elim | skip
  · obtain ⟨h1, h2, h3⟩ := h
    have p1 := pd_plain _ _ h1
    have p2 := pdL_plain _ _ h2
    refine .inl ⟨pd dx, _, repT_dp so h1 rx, .inr (repT_dp (n := 60) (x := .tup _) so (by simpa [okD] using h2) ry), p1.1, p2.1, p1.2, ?_⟩
    rw [anyL _ h1 _ h2]
    exact k _ _ Hb H .refl so rep_bl h3
  · obtain ⟨h1, h2, h3⟩ := h
    have p1 := pd_plain _ _ h1
    have p2 := pdL_plain _ _ h2
    refine .inl ⟨pd dx, _, repT_dp so h1 rx, .inl (repT_dp (n := 60) (x := .lst _) so (by simpa [okD] using h2) ry), p1.1, p2.1, p1.2, ?_⟩
    rw [anyL _ h1 _ h2]
    exact k _ _ Hb H .refl so rep_bl h3
  · obtain ⟨a, ws, rfl, h1, hk, r1⟩ := ry.dic so
    simp only [rdIn] at h
    split at h
    · rename_i kk ek
      have ex := keyOf_rep so ek rx
      refine .inr ⟨a, _, rfl, .inl ⟨ws, kk, h1, ex, rfl⟩, ?_⟩
      rw [val_mem, hk]
      exact k _ _ Hb H .refl so rep_bl h
    · exact h.elim
theorem od_notIn (hu : X.A.units + 64 < cLine) : OD X (compareOp .NotIn) rdNotIn := by
  refine ⟨_, (op_ninD hu).or (op_dninR (by omega)), fun pp Hb H x y dx dy Q QD so rx ry h k => ?_⟩
  cases dy <;> first | exact h.elim | skip
  · obtain ⟨h1, h2, h3⟩ := h
    have p1 := pd_plain _ _ h1
    have p2 := pdL_plain _ _ h2
    refine .inl ⟨pd dx, _, repT_dp so h1 rx, .inr (repT_dp (n := 60) (x := .tup _) so (by simpa [okD] using h2) ry), p1.1, p2.1, p1.2, ?_⟩
    rw [anyL _ h1 _ h2]
    exact k _ _ Hb H .refl so rep_bl h3
  · obtain ⟨h1, h2, h3⟩ := h
    have p1 := pd_plain _ _ h1
    have p2 := pdL_plain _ _ h2
    refine .inl ⟨pd dx, _, repT_dp so h1 rx, .inl (repT_dp (n := 60) (x := .lst _) so (by simpa [okD] using h2) ry), p1.1, p2.1, p1.2, ?_⟩
    rw [anyL _ h1 _ h2]
    exact k _ _ Hb H .refl so rep_bl h3
  · obtain ⟨a, ws, rfl, h1, hk, r1⟩ := ry.dic so
    simp only [rdNotIn] at h
    split at h
    · rename_i kk ek
      have ex := keyOf_rep so ek rx
      refine .inr ⟨a, _, rfl, .inl ⟨ws, kk, h1, ex, rfl⟩, ?_⟩
      rw [val_mem, hk]
      exact k _ _ Hb H .refl so rep_bl h
    · exact h.elim

/-! ### is True, is False -/
def rdIs : RD := fun x y Q => match y with
  | .non => match x with
    | .non => Q (.bl true)
    | _ => Q (.bl false)
  | .bl b => match x with
    | .bl a => Q (.bl (a == b))
    | _ => Q (.bl false)
  | _ => False
def rdIsNot : RD := fun x y Q => match y with
  | .non => match x with
    | .non => Q (.bl false)
    | _ => Q (.bl true)
  | .bl b => match x with
    | .bl a => Q (.bl (!(a == b)))
    | _ => Q (.bl true)
  | _ => False
def boolD : D → Option Bool
  | .bl b => some b
  | _ => none
theorem repT_bool {d : D} {v : V} (so : SOk pp K Hb H) (r : RepT pp K Hb H d v) (b : Bool) : decide (v = V.bl b) = (boolD d == some b) := by
  cases d
  · rw [r.non so]; rfl
  · rename_i c; rw [r.bl so]; cases c <;> cases b <;> rfl
  · rw [r.int so]; rfl
  · rw [r.str so]; rfl
  · obtain ⟨a, xs, e, _⟩ := r.tup so; rw [e]; rfl
  · obtain ⟨a, xs, e, _⟩ := r.lst so; rw [e]; rfl
  · obtain ⟨a, xs, e, _⟩ := r.dic so; rw [e]; rfl
  · obtain ⟨a, xs, e, _⟩ := r.dct so; rw [e]; rfl
  · rcases r with r | ⟨p, e, o⟩
    · unfold Rep at r; rw [r]; rfl
    · exact o.top.elim
  · rw [r.ty so]; rfl
theorem bool_iff {x : V} {v : Value} (b : Bool) (r : RelV x v) : (v == Value.bool b) = decide (x = .bl b) ∧ plainIs v (.bool b) = true := by
  cases x with
  | non => cases r; exact ⟨rfl, rfl⟩
  | bl c => cases r; cases c <;> cases b <;> exact ⟨rfl, rfl⟩
  | int _ => obtain ⟨t, rfl⟩ := r; exact ⟨rfl, rfl⟩
  | str _ => obtain ⟨t, rfl⟩ := r; exact ⟨rfl, rfl⟩
  | byt _ => obtain ⟨t, rfl⟩ := r; exact ⟨rfl, rfl⟩
  | flt _ => obtain ⟨t, rfl⟩ := r; exact ⟨rfl, rfl⟩
  | ref _ => cases r; exact ⟨rfl, rfl⟩
  | ty _ => cases r; exact ⟨rfl, rfl⟩
theorem op_isB : OpR X (compareOp .Is) (fun x y H Q => ∃ b, y = .bl b ∧ Q (.bl (decide (x = .bl b))) H) := by
  intro pins s σ H x y v u Q I rx ry h
  obtain ⟨b, rfl, q⟩ := h
  cases ry
  obtain ⟨h1, h2⟩ := bool_iff b rx
  exact wpAny_is_plain h2 ⟨.bl _, H, I, by rw [h1]; rfl, q⟩
theorem op_isNotB : OpR X (compareOp .IsNot) (fun x y H Q => ∃ b, y = .bl b ∧ Q (.bl (!decide (x = .bl b))) H) := by
  intro pins s σ H x y v u Q I rx ry h
  obtain ⟨b, rfl, q⟩ := h
  cases ry
  obtain ⟨h1, h2⟩ := bool_iff b rx
  exact wpAny_isNot_plain h2 ⟨.bl _, H, I, by rw [h1]; rfl, q⟩
theorem od_is : OD X (compareOp .Is) rdIs := by
  refine ⟨_, op_isN.or op_isB, fun pp Hb H x y dx dy Q QD so rx ry h k => ?_⟩
  cases dy <;> first | exact h.elim | skip
  · refine .inl ⟨ry.non so, ?_⟩
    rw [repT_non so rx]
    cases dx <;> exact k _ _ Hb H .refl so rep_bl h
  · refine .inr ⟨_, ry.bl so, ?_⟩
    rw [repT_bool so rx]
    cases dx <;> exact k _ _ Hb H .refl so rep_bl h
theorem od_isNot : OD X (compareOp .IsNot) rdIsNot := by
  refine ⟨_, op_notN.or op_isNotB, fun pp Hb H x y dx dy Q QD so rx ry h k => ?_⟩
  cases dy <;> first | exact h.elim | skip
  · refine .inl ⟨ry.non so, ?_⟩
    rw [repT_non so rx]
    cases dx <;> exact k _ _ Hb H .refl so rep_bl h
  · refine .inr ⟨_, ry.bl so, ?_⟩
    rw [repT_bool so rx]
    cases dx <;> exact k _ _ Hb H .refl so rep_bl h
end
end DL

namespace DL
open PySem PySem.Spec PyProof.Rows L2

/-! ### calls of built-ins -/
section
variable {X : Cx} {pp : Addr} {K : FK} {Hb H : Hp}
theorem RepTL.one {d : D} {vs : List V} (r : RepTL pp K Hb H [d] vs) : ∃ v, vs = [v] ∧ RepT pp K Hb H d v := by
  obtain ⟨v, w, rfl, h, rfl⟩ := r
  exact ⟨v, rfl, h⟩
theorem RepTL.two {d e : D} {vs : List V} (r : RepTL pp K Hb H [d, e] vs) : ∃ v w, vs = [v, w] ∧ RepT pp K Hb H d v ∧ RepT pp K Hb H e w := by
  obtain ⟨v, w, rfl, h, v2, w2, rfl, h2, rfl⟩ := r
  exact ⟨v, v2, rfl, h, h2⟩
def rdLen : List D → (D → Prop) → Prop := fun ds Q => match ds with
  | [.lst xs] => Q (.int xs.length)
  | [.tup xs] => Q (.int xs.length)
  | [.str x] => x.length ≤ sizeLine ∧ Q (.int x.length)
  | [.dic ks _] => Q (.int ks.length)
  | _ => False
theorem call_lenR : CallR X (.builtin "len") (fun xs H Q => ∃ a kvs, xs = [V.ref a] ∧ Rd H a (.dK kvs) ∧ Q (.int kvs.length) H) := by
  intro pins s σ H xs us Q I r h
  obtain ⟨a, kvs, rfl, ha, q⟩ := h
  obtain ⟨u, rfl, ru⟩ := vals1 r
  cases ru
  exact d_len I ha fun t s' I' => ⟨.int kvs.length, H, I', ⟨t, rfl⟩, q⟩
theorem cd_len : CD X (.builtin "len") rdLen := by
  refine ⟨_, call_len.or call_lenR, fun pp Hb H xs ds Q QD so r h k => ?_⟩
  unfold rdLen at h
  split at h
  · obtain ⟨v, rfl, y⟩ := r.one
    obtain ⟨a, ws, rfl, h1, r1⟩ := y.lst so
    exact .inl ⟨_, ws.length, rfl, .inl ⟨ws, .of h1, rfl⟩, k _ _ Hb H .refl so (by rw [r1.length]; exact rep_int) h⟩
  · obtain ⟨v, rfl, y⟩ := r.one
    obtain ⟨a, ws, rfl, _, h1, r1⟩ := y.tup so
    exact .inl ⟨_, ws.length, rfl, .inr ⟨ws, h1, rfl⟩, k _ _ Hb H .refl so (by rw [r1.length]; exact rep_int) h⟩
  · obtain ⟨v, rfl, y⟩ := r.one
    rw [y.str so]
    exact .inl ⟨_, _, rfl, ⟨h.1, rfl⟩, k _ _ Hb H .refl so rep_int h.2⟩
  · obtain ⟨v, rfl, y⟩ := r.one
    obtain ⟨a, ws, rfl, h1, hk, r1⟩ := y.dic so
    exact .inr ⟨a, ws, rfl, h1, k _ _ Hb H .refl so (by rw [← hk, List.length_map]; exact rep_int) h⟩
  · exact h.elim
def rdAbs : List D → (D → Prop) → Prop := fun ds Q => match ds with
  | [.int i] => Q (.int (if i < 0 then -i else i))
  | _ => False
theorem cd_abs : CD X (.builtin "abs") rdAbs := by
  refine ⟨_, call_abs, fun pp Hb H xs ds Q QD so r h k => ?_⟩
  unfold rdAbs at h
  split at h
  · obtain ⟨v, rfl, y⟩ := r.one
    exact ⟨_, by rw [y.int so], k _ _ Hb H .refl so rep_int h⟩
  · exact h.elim
def rdInt : List D → (D → Prop) → Prop := fun ds Q => match ds with
  | [.int i] => Q (.int i)
  | [.bl b] => Q (.int (if b then 1 else 0))
  | _ => False
theorem cd_int : CD X (.type "int") rdInt := by
  refine ⟨_, call_int1, fun pp Hb H xs ds Q QD so r h k => ?_⟩
  unfold rdInt at h
  split at h
  · obtain ⟨v, rfl, y⟩ := r.one
    exact .inl ⟨_, by rw [y.int so], k _ _ Hb H .refl so rep_int h⟩
  · obtain ⟨v, rfl, y⟩ := r.one
    exact .inr ⟨_, by rw [y.bl so], k _ _ Hb H .refl so rep_int h⟩
  · exact h.elim
def strOfInt (i : Int) : Str := Str.ofString (toString i)
def rdStr : List D → (D → Prop) → Prop := fun ds Q => match ds with
  | [.int i] => i.natAbs.log2 < 1920 ∧ Q (.str (strOfInt i))
  | _ => False
theorem cd_str : CD X (.type "str") rdStr := by
  refine ⟨_, call_str_int, fun pp Hb H xs ds Q QD so r h k => ?_⟩
  unfold rdStr at h
  split at h
  · obtain ⟨v, rfl, y⟩ := r.one
    exact ⟨_, by rw [y.int so], h.1, k _ _ Hb H .refl so rep_str h.2⟩
  · exact h.elim
def rdGcd : List D → (D → Prop) → Prop := fun ds Q => match ds with
  | [.int a, .int b] => Q (.int ((Nat.gcd a.natAbs b.natAbs : Nat) : Int))
  | _ => False
theorem cd_gcd : CD X (.builtin "math.gcd") rdGcd := by
  refine ⟨_, cr_gcd, fun pp Hb H xs ds Q QD so r h k => ?_⟩
  unfold rdGcd at h
  split at h
  · obtain ⟨v, w, rfl, r1, r2⟩ := r.two
    exact ⟨_, _, by rw [r1.int so, r2.int so], k _ _ Hb H .refl so rep_int h⟩
  · exact h.elim
def rdMax2 : List D → (D → Prop) → Prop := fun ds Q => match ds with
  | [.int a, .int b] => Q (.int (if b > a then b else a))
  | _ => False
def rdMin2 : List D → (D → Prop) → Prop := fun ds Q => match ds with
  | [.int a, .int b] => Q (.int (if b < a then b else a))
  | _ => False
theorem cd_max2 (hc : X.calm = true) : CD X (.builtin "max") rdMax2 := by
  refine ⟨_, call_max2 hc, fun pp Hb H xs ds Q QD so r h k => ?_⟩
  unfold rdMax2 at h
  split at h
  · obtain ⟨v, w, rfl, r1, r2⟩ := r.two
    exact ⟨_, _, by rw [r1.int so, r2.int so], k _ _ Hb H .refl so rep_int h⟩
  · exact h.elim
theorem cd_min2 (hc : X.calm = true) : CD X (.builtin "min") rdMin2 := by
  refine ⟨_, call_min2 hc, fun pp Hb H xs ds Q QD so r h k => ?_⟩
  unfold rdMin2 at h
  split at h
  · obtain ⟨v, w, rfl, r1, r2⟩ := r.two
    exact ⟨_, _, by rw [r1.int so, r2.int so], k _ _ Hb H .refl so rep_int h⟩
  · exact h.elim
/-- a list of bools -/
def bls : List D → Option (List Bool)
  | [] => some []
  | .bl b :: r => (bls r).map (b :: ·)
  | _ => none
theorem bls_rep : ∀ {ds : List D} {bs : List Bool} {xs : List V}, bls ds = some bs → RepL pp K Hb ds xs → xs = bs.map V.bl
  | [], bs, xs, e, r => by
    simp [bls] at e; subst e; exact r.unnil
  | d :: ds, bs, xs, e, r => by
    cases d <;> simp [bls] at e
    obtain ⟨b', h1, rfl⟩ := e
    obtain ⟨v, w, rfl, h2, h3⟩ := r.uncons
    unfold Rep at h2
    rw [h2, bls_rep h1 h3]
    rfl
theorem bls_map (bs : List Bool) : bls (bs.map D.bl) = some bs := by
  induction bs with
  | nil => rfl
  | cons b bs ih => simp [bls, ih]
def rdAll : List D → (D → Prop) → Prop := fun ds Q => match ds with
  | [.lst xs] => match bls xs with
    | some bs => Q (.bl (bs.all id))
    | none => False
  | _ => False
def rdAny : List D → (D → Prop) → Prop := fun ds Q => match ds with
  | [.lst xs] => match bls xs with
    | some bs => Q (.bl (bs.any id))
    | none => False
  | _ => False
theorem cd_all (hc : X.calm = true) : CD X (.builtin "all") rdAll := by
  refine ⟨_, cr_all hc, fun pp Hb H xs ds Q QD so r h k => ?_⟩
  unfold rdAll at h
  split at h
  · split at h
    · rename_i bs e
      obtain ⟨v, rfl, y⟩ := r.one
      obtain ⟨a, ws, rfl, h1, r1⟩ := y.lst so
      rw [bls_rep e r1] at h1
      exact ⟨a, bs, rfl, .of h1, k _ _ Hb H .refl so rep_bl h⟩
    · exact h.elim
  · exact h.elim
theorem cd_any (hc : X.calm = true) : CD X (.builtin "any") rdAny := by
  refine ⟨_, cr_any hc, fun pp Hb H xs ds Q QD so r h k => ?_⟩
  unfold rdAny at h
  split at h
  · split at h
    · rename_i bs e
      obtain ⟨v, rfl, y⟩ := r.one
      obtain ⟨a, ws, rfl, h1, r1⟩ := y.lst so
      rw [bls_rep e r1] at h1
      exact ⟨a, bs, rfl, .of h1, k _ _ Hb H .refl so rep_bl h⟩
    · exact h.elim
  · exact h.elim
/-- a list of intsD -/
def intsD : List D → Option (List Int)
  | [] => some []
  | .int b :: r => (intsD r).map (b :: ·)
  | _ => none
theorem intsD_rep : ∀ {ds : List D} {bs : List Int} {xs : List V}, intsD ds = some bs → RepL pp K Hb ds xs → xs = bs.map V.int
  | [], bs, xs, e, r => by
    simp [intsD] at e; subst e; exact r.unnil
  | d :: ds, bs, xs, e, r => by
    cases d <;> simp [intsD] at e
    obtain ⟨b', h1, rfl⟩ := e
    obtain ⟨v, w, rfl, h2, h3⟩ := r.uncons
    unfold Rep at h2
    rw [h2, intsD_rep h1 h3]
    rfl
theorem intsD_map (bs : List Int) : intsD (bs.map D.int) = some bs := by
  induction bs with
  | nil => rfl
  | cons b bs ih => simp [intsD, ih]
theorem rep_ints : ∀ (bs : List Int), RepL pp K Hb (bs.map D.int) (bs.map V.int)
  | [] => .nil
  | b :: bs => .cons rep_int (rep_ints bs)
theorem rep_strs : ∀ (bs : List Str), RepL pp K Hb (bs.map D.str) (bs.map V.str)
  | [] => .nil
  | b :: bs => .cons rep_str (rep_strs bs)
def rdSum : List D → (D → Prop) → Prop := fun ds Q => match ds with
  | [.lst xs] => match intsD xs with
    | some bs => Q (.int bs.sum)
    | none => False
  | _ => False
theorem cd_sum (hc : X.calm = true) : CD X (.builtin "sum") rdSum := by
  refine ⟨_, cr_sum hc, fun pp Hb H xs ds Q QD so r h k => ?_⟩
  unfold rdSum at h
  split at h
  · split at h
    · rename_i bs e
      obtain ⟨v, rfl, y⟩ := r.one
      obtain ⟨a, ws, rfl, h1, r1⟩ := y.lst so
      rw [intsD_rep e r1] at h1
      exact ⟨a, bs, rfl, .of h1, k _ _ Hb H .refl so rep_int h⟩
    · exact h.elim
  · exact h.elim
/-- isinstance -/
def isD (d : D) (n : String) : Option Bool := match d with
  | .non => if n = "int" ∨ n = "bool" ∨ n = "str" ∨ n = "tuple" ∨ n = "list" ∨ n = "dict" then some false else none
  | .bl _ => if n = "int" ∨ n = "bool" then some true else if n = "str" ∨ n = "tuple" ∨ n = "list" ∨ n = "dict" then some false else none
  | .int _ => if n = "int" then some true else if n = "bool" ∨ n = "str" ∨ n = "tuple" ∨ n = "list" ∨ n = "dict" then some false else none
  | .str _ => if n = "str" then some true else if n = "int" ∨ n = "bool" ∨ n = "tuple" ∨ n = "list" ∨ n = "dict" then some false else none
  | .tup _ => if n = "tuple" then some true else if n = "int" ∨ n = "bool" ∨ n = "str" ∨ n = "list" ∨ n = "dict" then some false else none
  | .lst _ => if n = "list" then some true else if n = "int" ∨ n = "bool" ∨ n = "str" ∨ n = "tuple" ∨ n = "dict" then some false else none
  | .dic _ _ => if n = "dict" then some true else if n = "int" ∨ n = "bool" ∨ n = "str" ∨ n = "tuple" ∨ n = "list" then some false else none
  | _ => none
def tyD : D → String
  | .non => "NoneType"
  | .bl _ => "bool"
  | .int _ => "int"
  | .str _ => "str"
  | .tup _ => "tuple"
  | .lst _ => "list"
  | .dic _ _ => "dict"
  | .dct _ _ => "dict"
  | _ => "?"
theorem isD_kit (d : D) (n : String) (b : Bool) (h : isD d n = some b) : kitB (tyD d) n = some b := by
  cases d <;> simp only [isD] at h <;> (try (cases h; done)) <;> simp only [tyD] <;>
  · repeat' (split at h)
    all_goals first
      | (cases h; done)
      | (cases h; rename_i q; rcases q with rfl | rfl | rfl | rfl | rfl | rfl <;> decide +kernel)
      | (cases h; rename_i q; rcases q with rfl | rfl | rfl | rfl | rfl <;> decide +kernel)
      | (cases h; rename_i q; rcases q with rfl | rfl | rfl | rfl <;> decide +kernel)
      | (cases h; rename_i q; rcases q with rfl | rfl <;> decide +kernel)
      | (cases h; rename_i q; subst q; decide +kernel)
theorem tyX_of {d : D} {v : V} {n : String} {b : Bool} (so : SOk pp K Hb H) (r : RepT pp K Hb H d v) (h : isD d n = some b) : TyX K H v (.type (tyD d)) := by
  cases d
  · rw [r.non so]; exact .base .non
  · rw [r.bl so]; exact .base (.bl _)
  · rw [r.int so]; exact .base (.int _)
  · rw [r.str so]; exact .base (.str _)
  · obtain ⟨a, xs, e, _, h1, _⟩ := r.tup so
    rw [e]
    rcases h1 with (h1 | ⟨o, h1⟩) | ⟨o, its, m, h1, h2, _⟩
    · exact .base (.tup h1)
    · exact .fTuple h1
    · exact .kTuple h1 h2
  · obtain ⟨a, xs, e, h1, _⟩ := r.lst so
    rw [e]; exact .base (.lst h1)
  · obtain ⟨a, xs, e, h1, _⟩ := r.dic so
    rw [e]
    rcases h1 with h1 | ⟨o, h1⟩
    · exact .base (.dK h1)
    · exact .fDict h1
  · simp [isD] at h
  · simp [isD] at h
  · simp [isD] at h
def rdIsi : List D → (D → Prop) → Prop := fun ds Q => match ds with
  | [d, .ty n] => match isD d n with
    | some b => Q (.bl b)
    | none => False
  | _ => False
theorem cd_isi : CD X (.builtin "isinstance") rdIsi := by
  refine ⟨_, call_isi, fun pp Hb H xs ds Q QD so r h k => ?_⟩
  unfold rdIsi at h
  split at h
  · split at h
    · rename_i b e
      obtain ⟨v, w, rfl, r1, r2⟩ := r.two
      rw [r2.ty so]
      exact ⟨v, _, _, _, b, rfl, .ty _, tyX_of so r1 e, kit_ty (isD_kit _ _ _ e), k _ _ Hb H .refl so rep_bl h⟩
    · exact h.elim
  · exact h.elim
/-- list(x) -/
def rdList : List D → (D → Prop) → Prop := fun ds Q => match ds with
  | [.lst xs] => Q (.lst xs)
  | [.tup xs] => Q (.lst xs)
  | _ => False
theorem cdf_list : CDF X (.type "list") rdList := by
  refine ⟨_, call_list_of, fun pp Hb H xs ds Q QD so r h k => ?_⟩
  unfold rdList at h
  split at h
  · obtain ⟨v, rfl, y⟩ := r.one
    obtain ⟨a, ws, rfl, h1, r1⟩ := y.lst so
    refine ⟨a, ws, rfl, .inl (.of h1), fun l hl => ?_⟩
    obtain ⟨s2, so2⟩ := lay_own (u := .lst ws) so hl
    exact k _ (.lst _) _ _ s2 so2 hl ⟨so.nb hl, so.ne hl, ⟨ws, upd_same, r1⟩⟩ h
  · obtain ⟨v, rfl, y⟩ := r.one
    obtain ⟨a, ws, rfl, _, h1, r1⟩ := y.tup so
    refine ⟨a, ws, rfl, .inr h1, fun l hl => ?_⟩
    obtain ⟨s2, so2⟩ := lay_own (u := .lst ws) so hl
    exact k _ (.lst _) _ _ s2 so2 hl ⟨so.nb hl, so.ne hl, ⟨ws, upd_same, r1⟩⟩ h
  · exact h.elim
def rdTuple : List D → (D → Prop) → Prop := fun ds Q => match ds with
  | [.lst xs] => Q (.tup xs)
  | [.tup xs] => Q (.tup xs)
  | _ => False
theorem cd_tuple : CD X (.type "tuple") rdTuple := by
  refine ⟨_, call_tuple_of, fun pp Hb H xs ds Q QD so r h k => ?_⟩
  unfold rdTuple at h
  split at h
  · obtain ⟨v, rfl, y⟩ := r.one
    obtain ⟨a, ws, rfl, h1, r1⟩ := y.lst so
    refine ⟨a, ws, rfl, .inl ⟨.of h1, fun l hl => ?_⟩⟩
    obtain ⟨s2, so2⟩ := lay_sh (u := .tup ws) so hl
    exact k _ _ _ _ s2 so2 (rep_tup (.of upd_same) (r1.le s2.le)) h
  · obtain ⟨v, rfl, y⟩ := r.one
    obtain ⟨a, ws, rfl, h0, h1, r1⟩ := y.tup so
    exact ⟨a, ws, rfl, .inr ⟨h1, k _ _ Hb H .refl so (rep_tup h0 r1) h⟩⟩
  · exact h.elim
/-- dict(d) -/
def rdDict : List D → (D → Prop) → Prop := fun ds Q => match ds with
  | [.dic ks xs] => Q (.dic ks xs)
  | _ => False
theorem call_dictC : CallR X (.type "dict") (fun xs H Q => ∃ a kvs, xs = [V.ref a] ∧ Rd H a (.dK kvs) ∧ ∀ p, H p = none → Q (.ref p) (upd H p (.dK kvs))) := by
  intro pins s σ H xs us Q I r h
  obtain ⟨a, kvs, rfl, ha, q⟩ := h
  obtain ⟨u, rfl, ru⟩ := vals1 r
  cases ru
  exact d_copyOf I ha fun p s' hp I' => ⟨.ref p, _, I', rfl, q p hp⟩
theorem cdf_dict : CDF X (.type "dict") rdDict := by
  refine ⟨_, call_dictC, fun pp Hb H xs ds Q QD so r h k => ?_⟩
  unfold rdDict at h
  split at h
  · obtain ⟨v, rfl, y⟩ := r.one
    obtain ⟨a, ws, rfl, h1, hk, r1⟩ := y.dic so
    refine ⟨a, ws, rfl, h1, fun l hl => ?_⟩
    obtain ⟨s2, so2⟩ := lay_own (u := .dK ws) so hl
    exact k _ (.dic _ _) _ _ s2 so2 hl ⟨so.nb hl, so.ne hl, ⟨ws, upd_same, hk, r1⟩⟩ h
  · exact h.elim
end
end DL

namespace DL
open PySem PySem.Spec PyProof.Rows L2

/-! ### statements -/
def dNext : DS := fun DD E => DD.nx E
def dSeq (p q : DS) : DS := fun DD E => p { DD with nx := q DD } E
def dBreak : DS := fun DD E => DD.bk E
def dCont : DS := fun DD E => DD.ct E
def dRet (p : DX) : DS := fun DD E => p E DD.rt
def dRetN : DS := fun DD _ => DD.rt .non
def dIfS (c : DT) (p q : DS) : DS := fun DD E => c E fun b => if b = true then p DD E else q DD E
def dAsg (i : Nat) (p : DX) : DS := fun DD E => p E fun d => DD.nx (E.set i (.sh d))
def dOwn (i : Nat) (p : DX) : DS := fun DD E => p E fun d => DD.nx (E.set i (.ow d))
def dDrop (p : DX) : DS := fun DD E => p E fun _ => DD.nx E
/-- the slot's object joins the base -/
def dFz (i : Nat) (p : DS) : DS := fun DD E => match E[i]? with
  | some (.ow d) => p DD (E.set i (.sh d))
  | _ => p DD E
abbrev DG := D → List Sl → (List Sl → Prop) → Prop
def QG (X : Cx) (tg : Expr) (g : DG) : Prop := ∃ t, PG X tg t ∧ ∀ (pp : Addr) (HE Hb H : Hp) (σ : L2.St) (E : List Sl) (v : V) (d : D) (Q : L2.St → Hp → Prop) (QD : List Sl → Prop), SOk pp X.K Hb H → ER pp X.K HE Hb H σ E → Rep pp X.K Hb d v → g d E QD →
  (∀ σ' E', ER pp X.K HE Hb H σ' E' → QD E' → Q σ' H) → t v σ H Q
def QGs (X : Cx) (tgs : List Expr) (g : List D → List Sl → (List Sl → Prop) → Prop) : Prop := ∃ t, PGs X tgs t ∧ ∀ (pp : Addr) (HE Hb H : Hp) (σ : L2.St) (E : List Sl) (vs : List V) (ds : List D) (Q : L2.St → Hp → Prop) (QD : List Sl → Prop), SOk pp X.K Hb H → ER pp X.K HE Hb H σ E → RepL pp X.K Hb ds vs → g ds E QD →
  (∀ σ' E', ER pp X.K HE Hb H σ' E' → QD E' → Q σ' H) → t vs σ H Q
def gN (i : Nat) : DG := fun d E Q => Q (E.set i (.sh d))
def gsNil : List D → List Sl → (List Sl → Prop) → Prop := fun ds E Q => match ds with
  | [] => Q E
  | _ => False
def gsCons (g : DG) (r : List D → List Sl → (List Sl → Prop) → Prop) : List D → List Sl → (List Sl → Prop) → Prop := fun ds E Q => match ds with
  | d :: ds => g d E fun E' => r ds E' Q
  | [] => False
def gT (n : Nat) (g : List D → List Sl → (List Sl → Prop) → Prop) : DG := fun d E Q => match d with
  | .tup ds => ds.length = n ∧ g ds E Q
  | .lst ds => ds.length = n ∧ g ds E Q
  | _ => False
def dAsgT (p : DX) (g : DG) : DS := fun DD E => p E fun d => g d E DD.nx
/-- a, b = x, y -/
def dPar (i j : Nat) (p : DAs) : DS := fun DD E => p E fun ds => match ds with
  | [a, b] => DD.nx ((E.set i (.sh a)).set j (.sh b))
  | _ => False
abbrev DI := List Sl → (List D → Prop) → Prop
def forL (g : DG) (b : DS) (DD : DEnds) : List D → List Sl → Prop
  | [], E => DD.nx E
  | d :: r, E => g d E fun E' => b { DD with nx := forL g b DD r, ct := forL g b DD r, bk := DD.nx } E'
def dFor (p : DI) (g : DG) (b : DS) : DS := fun DD E => p E fun items => forL g b DD items E
def dWhile (c : DT) (b : DS) : DS := fun DD E => ∃ W : Nat → List Sl → Prop, (∃ m, W m E) ∧ ∀ m E, W m E → c E fun k => if k = true then b { DD with nx := fun E' => ∃ m', m' < m ∧ W m' E', ct := fun E' => ∃ m', m' < m ∧ W m' E', bk := DD.nx } E else DD.nx E

section
variable {pp : Addr} {K : FK} {HbE HE Hb H Hb' H' Hb0 H0 : Hp}
theorem Step.cut (a : Step pp HbE HE Hb0 H0) (b : Step pp Hb0 HE Hb H) : Step pp HbE HE Hb H :=
  ⟨a.sb.trans b.sb, b.ex, b.st, fun c h n => b.nw c (a.nw c h n) n⟩
theorem Step.here (a : Step pp HbE HE Hb H) : Step pp Hb HE Hb H := ⟨Same.refl _, a.ex, a.st, fun _ h _ => h⟩
theorem EndsOk.cut {Dn : Ends} {DD : DEnds} (a : Step pp HbE HE Hb0 H0) (o : EndsOk pp K HbE HE Dn DD) : EndsOk pp K Hb0 HE Dn DD :=
  ⟨fun Hb H σ E s => o.nx Hb H σ E (a.cut s), fun Hb H v d s => o.rt Hb H v d (a.cut s), fun Hb H σ E s => o.bk Hb H σ E (a.cut s), fun Hb H σ E s => o.ct Hb H σ E (a.cut s)⟩
end

section
variable {X : Cx} {st : Stmt} {sts : List Stmt} {a b e tg : Expr} {es tgs : List Expr} {p q : DS} {pe pf : DX} {c : DT} {pas : DAs} {g : DG} {gs : List D → List Sl → (List Sl → Prop) → Prop} {pos : Pos}
theorem ss_nil : QSs X [] dNext := ⟨_, pss_nil, fun pp HbE HE Hb H σ E Dn DD s so er h o => o.nx Hb H σ E s so er h⟩
theorem ss_cons (h : QS X st p) (g : QSs X sts q) : QSs X (st :: sts) (dSeq p q) := by
  obtain ⟨t, h1, h2⟩ := h
  obtain ⟨u, g1, g2⟩ := g
  refine ⟨_, pss_cons h1 g1, fun pp HbE HE Hb H σ E Dn DD s so er h o => ?_⟩
  exact h2 pp HbE HE Hb H σ E _ _ s so er h ⟨fun Hb H σ E s so er h => g2 pp HbE HE Hb H σ E _ _ s so er h o, o.rt, o.bk, o.ct⟩
theorem ss_one (h : QS X st p) : QSs X [st] p := by
  obtain ⟨t, h1, h2⟩ := h
  exact ⟨t, pss_one h1, h2⟩
theorem s_pass : QS X (.Pass pos) dNext := ⟨_, ps_pass, fun pp HbE HE Hb H σ E Dn DD s so er h o => o.nx Hb H σ E s so er h⟩
theorem s_break : QS X (.Break pos) dBreak := ⟨_, ps_break, fun pp HbE HE Hb H σ E Dn DD s so er h o => o.bk Hb H σ E s so er h⟩
theorem s_continue : QS X (.Continue pos) dCont := ⟨_, ps_continue, fun pp HbE HE Hb H σ E Dn DD s so er h o => o.ct Hb H σ E s so er h⟩
theorem s_ret (h : QE X e pe) : QS X (.Return (some e) pos) (dRet pe) := by
  obtain ⟨t, h1, h2⟩ := h
  refine ⟨_, ps_ret h1, fun pp HbE HE Hb H σ E Dn DD s so er h o => ?_⟩
  exact h2 pp HE Hb H σ E _ _ so er h fun v d Hb1 H1 s1 so1 r1 q1 => o.rt Hb1 H1 v d (s.trans s1) so1 r1 q1
theorem s_retN : QS X (.Return none pos) dRetN := ⟨_, ps_retN, fun pp HbE HE Hb H σ E Dn DD s so er h o => o.rt Hb H _ _ s so rep_non h⟩
theorem s_if (hc : QT X e c) (h : QSs X sts p) {sts' : List Stmt} (g : QSs X sts' q) : QS X (.If e sts sts' pos) (dIfS c p q) := by
  obtain ⟨tc, c1, c2⟩ := hc
  obtain ⟨t, h1, h2⟩ := h
  obtain ⟨u, g1, g2⟩ := g
  refine ⟨_, ps_if c1 h1 g1, fun pp HbE HE Hb H σ E Dn DD s so er h o => ?_⟩
  refine c2 pp HE Hb H σ E _ _ so er h fun k Hb1 H1 s1 so1 q1 => ?_
  cases k with
  | true =>
    rw [if_pos rfl] at q1 ⊢
    exact h2 pp HbE HE Hb1 H1 σ E _ _ (s.trans s1) so1 (er.step s1) q1 o
  | false =>
    rw [if_neg Bool.false_ne_true] at q1 ⊢
    exact g2 pp HbE HE Hb1 H1 σ E _ _ (s.trans s1) so1 (er.step s1) q1 o
theorem s_expr (h : QE X e pe) (hs : swapsWith e none pos.line X.env = pure false := by rfl) : QS X (.Expr e pos) (dDrop pe) := by
  obtain ⟨t, h1, h2⟩ := h
  refine ⟨_, ps_expr h1 hs, fun pp HbE HE Hb H σ E Dn DD s so er h o => ?_⟩
  exact h2 pp HE Hb H σ E _ _ so er h fun v d Hb1 H1 s1 so1 r1 q1 => o.nx Hb1 H1 σ E (s.trans s1) so1 (er.step s1) q1
theorem s_set {i : Nat} {x : Str} {pos' : Pos} (hN : X.N.Nodup) (h : QE X e pe) (hi : X.N[i]? = some x := by rfl) (hx : Loc X.env.scope x := by first | exact Or.inl rfl | exact Or.inr rfl) (hs : swapsWith e (some (.Name x pos')) pos.line X.env = pure false := by rfl)
    (hf : X.fn x = true ∨ X.env.scope.names.lookup x = some .local := by first | exact .inl rfl | exact .inr rfl | assumption) : QS X (.Assign [.Name x pos'] e pos) (dAsg i pe) := by
  obtain ⟨t, h1, h2⟩ := h
  refine ⟨_, ps_set hN hi hx h1 hs hf, fun pp HbE HE Hb H σ E Dn DD s so er h o => ?_⟩
  refine h2 pp HE Hb H σ E _ _ so er h fun v d Hb1 H1 s1 so1 r1 q1 => ?_
  exact o.nx Hb1 H1 _ _ (s.trans s1) so1 ((er.step s1).set_sh i r1) q1
theorem s_own {i : Nat} {x : Str} {pos' : Pos} (hN : X.N.Nodup) (h : QF X e pe) (hi : X.N[i]? = some x := by rfl) (hx : Loc X.env.scope x := by first | exact Or.inl rfl | exact Or.inr rfl) (hs : swapsWith e (some (.Name x pos')) pos.line X.env = pure false := by rfl)
    (hf : X.fn x = true ∨ X.env.scope.names.lookup x = some .local := by first | exact .inl rfl | exact .inr rfl | assumption) : QS X (.Assign [.Name x pos'] e pos) (dOwn i pe) := by
  obtain ⟨t, h1, h2⟩ := h
  refine ⟨_, ps_set hN hi hx h1 hs hf, fun pp HbE HE Hb H σ E Dn DD s so er h o => ?_⟩
  refine h2 pp HE Hb H σ E _ _ so er h fun p d Hb1 H1 s1 so1 hn o1 q1 => ?_
  have hE : HE p = none := by
    cases z : HE p with
    | none => rfl
    | some u => exact absurd hn (s.st p (by rw [z]; exact fun y => nomatch y))
  refine o.nx Hb1 H1 _ _ (s.trans s1) so1 ((er.step s1).set_ow i hE o1 fun j d' e1 e2 => ?_) q1
  obtain ⟨p', h3, h4, h5⟩ := er.ow j d' e1
  rw [h3] at e2
  cases e2
  exact Top.isSm h5.top hn
theorem fz_ok {pp : Addr} {K : FK} {HbE HE Hb H : Hp} {σ : L2.St} {E : List Sl} {i : Nat} {d : D} (s : Step pp HbE HE Hb H) (so : SOk pp K Hb H) (er : ER pp K HE Hb H σ E) (e : E[i]? = some (.ow d)) :
    ∃ Hb', Step pp HbE HE Hb' H ∧ SOk pp K Hb' H ∧ ER pp K HE Hb' H σ (E.set i (.sh d)) := by
  obtain ⟨p, h1, h2, h3⟩ := er.ow i d e
  obtain ⟨Hb', g1, g2, g3, g4⟩ := share so h3
  have hl : i < E.length := (List.getElem?_eq_some_iff.mp e).1
  refine ⟨Hb', ⟨s.sb.trans g1, s.ex, s.st, fun b hb hh => ?_⟩, g3, ⟨by rw [List.length_set]; exact er.len, fun j d' ej => ?_, fun j d' ej => ?_, fun j k p' d1 d2 hne e1 e2 => ?_⟩⟩
  · by_cases z : b = p
    · subst z; exact absurd h2 hh
    · rw [g2 b z]; exact s.nw b hb hh
  · rcases get_set ej with ⟨rfl, _, z⟩ | ⟨hj, ej⟩
    · cases z
      exact ⟨_, h1, g4⟩
    · obtain ⟨v, k1, k2⟩ := er.sh j d' ej
      exact ⟨v, k1, k2.le (.of_same g1)⟩
  · rcases get_set ej with ⟨rfl, _, z⟩ | ⟨hj, ej⟩
    · cases z
    · obtain ⟨p', k1, k2, k3⟩ := er.ow j d' ej
      have hne : p' ≠ p := fun z => by
        subst z
        exact er.ds i j p' d d' (Ne.symm hj) e ej h1 k1
      exact ⟨p', k1, k2, ⟨by rw [g2 p' hne]; exact k3.nb, k3.ne, Top.step (.of_same g1) (fun o h => h) k3.top⟩⟩
  · rcases get_set e1 with ⟨_, _, z⟩ | ⟨hj, e1⟩
    · cases z
    rcases get_set e2 with ⟨_, _, z⟩ | ⟨hk, e2⟩
    · cases z
    exact er.ds j k p' d1 d2 hne e1 e2
theorem s_fz (i : Nat) (h : QS X st p) : QS X st (dFz i p) := by
  obtain ⟨t, h1, h2⟩ := h
  refine ⟨t, h1, fun pp HbE HE Hb H σ E Dn DD s so er h o => ?_⟩
  unfold dFz at h
  split at h
  · rename_i d e
    obtain ⟨Hb', g1, g2, g3⟩ := fz_ok s so er e
    exact h2 pp HbE HE Hb' H σ _ _ _ g1 g2 g3 h o
  · exact h2 pp HbE HE Hb H σ _ _ _ s so er h o
theorem ss_fz (i : Nat) (h : QSs X sts p) : QSs X sts (dFz i p) := by
  obtain ⟨t, h1, h2⟩ := h
  refine ⟨t, h1, fun pp HbE HE Hb H σ E Dn DD s so er h o => ?_⟩
  unfold dFz at h
  split at h
  · rename_i d e
    obtain ⟨Hb', g1, g2, g3⟩ := fz_ok s so er e
    exact h2 pp HbE HE Hb' H σ _ _ _ g1 g2 g3 h o
  · exact h2 pp HbE HE Hb H σ _ _ _ s so er h o

/-! ### targets -/
theorem g_name {i : Nat} {x : Str} {pos : Pos} (hN : X.N.Nodup) (hi : X.N[i]? = some x := by rfl) (hx : Loc X.env.scope x := by first | exact Or.inl rfl | exact Or.inr rfl) (hf : X.fn x = true ∨ X.env.scope.names.lookup x = some .local := by first | exact .inl rfl | exact .inr rfl | assumption) : QG X (.Name x pos) (gN i) :=
  ⟨_, pg_name hN hi hx hf, fun pp HE Hb H σ E v d Q QD so er r h k => k _ _ (er.set_sh i r) h⟩
theorem gs_nil : QGs X [] gsNil := by
  refine ⟨_, pgs_nil, fun pp HE Hb H σ E vs ds Q QD so er r h k => ?_⟩
  unfold gsNil at h
  split at h
  · exact ⟨r.unnil, k _ _ er h⟩
  · exact h.elim
theorem gs_cons (h : QG X tg g) (r : QGs X tgs gs) (hs : (assignEach (tg :: tgs) X.env).map (·.2) = assign tg X.env :: (assignEach tgs X.env).map (·.2) := by rfl) : QGs X (tg :: tgs) (gsCons g gs) := by
  obtain ⟨t, h1, h2⟩ := h
  obtain ⟨u, g1, g2⟩ := r
  refine ⟨_, pgs_cons h1 g1 hs, fun pp HE Hb H σ E vs ds Q QD so er r h k => ?_⟩
  unfold gsCons at h
  split at h
  · obtain ⟨v, w, rfl, r1, r2⟩ := r.uncons
    refine ⟨v, w, rfl, h2 pp HE Hb H σ E _ _ _ _ so er r1 h fun σ' E' er' h' => ?_⟩
    exact g2 pp HE Hb H σ' E' _ _ _ _ so er' r2 h' k
  · exact h.elim
theorem PG.or {t u : TG} (h : PG X tg t) (h' : PG X tg u) : PG X tg (fun v σ H Q => t v σ H Q ∨ u v σ H Q) := by
  refine ⟨fun pins s σ H v u Q I r h => ?_⟩
  rcases h with h | h
  · exact PG.run ‹PG X tg t› pins s σ H v u Q I r h
  · exact h'.run pins s σ H v u Q I r h
theorem g_tup {n k : Nat} (hc : X.calm = true) (h : QGs X tgs gs) (hn : (assignEach tgs X.env).length = n := by rfl) (hst : (assignEach tgs X.env).findIdx? (·.1) = none := by rfl) : QG X (.Tuple tgs k pos) (gT n gs) := by
  obtain ⟨t, h1, h2⟩ := h
  refine ⟨_, PG.or (pg_tup hc h1 hn hst) (pg_unl hc h1 hn hst), fun pp HE Hb H σ E v d Q QD so er r h k => ?_⟩
  unfold gT at h
  split at h
  · unfold Rep at r
    obtain ⟨a, xs, rfl, s, q⟩ := r
    exact .inl ⟨a, xs, rfl, so.hle.sqT s, by rw [q.length]; exact h.1, h2 pp HE Hb H σ E _ _ _ _ so er q h.2 k⟩
  · unfold Rep at r
    obtain ⟨a, xs, rfl, s, q⟩ := r
    exact .inr ⟨a, xs, rfl, .of (so.le _ _ s), by rw [q.length]; exact h.1, h2 pp HE Hb H σ E _ _ _ _ so er q h.2 k⟩
  · exact h.elim
theorem s_asgT (he : QE X e pe) (hg : QG X tg g) (hs : swapsWithSole [tg] e pos.line X.env = pure false := by rfl) (hw : swappedStores [tg] e X.env = pure none := by rfl)
    (h1 : (assignEach [tg] X.env).map (·.2) = [assign tg X.env] := by rfl) : QS X (.Assign [tg] e pos) (dAsgT pe g) := by
  obtain ⟨t, t1, t2⟩ := he
  obtain ⟨u, u1, u2⟩ := hg
  refine ⟨_, ps_asg t1 u1 hs hw h1, fun pp HbE HE Hb H σ E Dn DD s so er h o => ?_⟩
  refine t2 pp HE Hb H σ E _ _ so er h fun v d Hb1 H1 s1 so1 r1 q1 => ?_
  exact u2 pp HE Hb1 H1 σ E _ _ _ _ so1 (er.step s1) r1 q1 fun σ' E' er' q' => o.nx Hb1 H1 σ' E' (s.trans s1) so1 er' q'
theorem s_par {i j : Nat} {x y : Str} {px py pt : Pos} {kt k2 pt2} (hc : X.calm = true) (hN : X.N.Nodup) (ha : QA X [a, b] pas) (hi : X.N[i]? = some x := by rfl) (hj : X.N[j]? = some y := by rfl) (hij : i ≠ j := by decide)
    (hx : X.env.scope.names.lookup x = some .local := by rfl) (hy : X.env.scope.names.lookup y = some .local := by rfl)
    (hw : swappedStores [.Tuple [.Name x px, .Name y py] kt pt] (.Tuple [a, b] k2 pt2) X.env = pure (some [x, y]) := by rfl)
    (hs : swapsWithSole [.Tuple [.Name x px, .Name y py] kt pt] (.Tuple [a, b] k2 pt2) pos.line X.env = pure false := by rfl) :
    QS X (.Assign [.Tuple [.Name x px, .Name y py] kt pt] (.Tuple [a, b] k2 pt2) pos) (dPar i j pas) := by
  obtain ⟨t, t1, t2⟩ := ha
  refine ⟨_, ps_par hc hN hi hj hij hx hy t1 hw hs, fun pp HbE HE Hb H σ E Dn DD s so er h o => ?_⟩
  refine t2 pp HE Hb H σ E _ _ so er h fun vs ds Hb1 H1 s1 so1 r1 l1 q1 => ?_
  split at q1
  · obtain ⟨v, w, rfl, r2, r3⟩ := r1.uncons
    obtain ⟨v', w', rfl, r4, r5⟩ := r3.uncons
    rw [r5.unnil]
    exact ⟨v, v', rfl, o.nx Hb1 H1 _ _ (s.trans s1) so1 (((er.step s1).set_sh i r2).set_sh j r4) q1⟩
  · exact q1.elim

/-! ### loops -/
def WalkJ (pp : Addr) (K : FK) (Hb0 : Hp) (J : It) (items : List D) : Prop := ∀ Hb1 H1, Same Hb0 Hb1 → SOk pp K Hb1 H1 → ∀ i, (∀ d, items[i]? = some d → J.go i H1 ∧ ∀ x H2, J.yld i H1 x H2 → ∃ Hb2, Step pp Hb1 H1 Hb2 H2 ∧ SOk pp K Hb2 H2 ∧ Rep pp K Hb2 d x) ∧ (i = items.length → J.stop i H1)
def QI (X : Cx) (tg e : Expr) (p : DI) : Prop := ∃ wi, PI X tg e wi ∧ ∀ (pp : Addr) (HE Hb H : Hp) (σ : L2.St) (E : List Sl) (R : It → Hp → Prop) (QD : List D → Prop), SOk pp X.K Hb H → ER pp X.K HE Hb H σ E → p E QD →
  (∀ J items Hb' H', Step pp Hb H Hb' H' → SOk pp X.K Hb' H' → WalkJ pp X.K Hb' J items → QD items → R J H') → wi σ H R
theorem s_for {pi : DI} {iter : Expr} (hp : PassesOwn (model X.prog X.w) X.A X.env X.xe) (hc : X.calm = true) (hi : QI X tg iter pi) (hg : QG X tg g) (hb : QSs X sts p)
    (hs : ∀ x, foldedSetIterable iter X.env x = pure x := by intro _; rfl) : QS X (.For tg iter sts [] pos) (dFor pi g p) := by
  obtain ⟨wi, i1, i2⟩ := hi
  obtain ⟨tg', g1, g2⟩ := hg
  obtain ⟨tb, b1, b2⟩ := hb
  refine ⟨_, ps_for hp hc i1 g1 b1 hs, fun pp HbE HE Hb H σ E Dn DD s so er h o => ?_⟩
  refine i2 pp HE Hb H σ E _ _ so er h fun J items Hb0 H0 s0 so0 wk q0 => ?_
  have sE := s.trans s0
  have oc := o.cut sE
  refine ⟨fun i m σ H => m = items.length - i ∧ i ≤ items.length ∧ ∃ Hb E, Step pp Hb0 HE Hb H ∧ SOk pp X.K Hb H ∧ ER pp X.K HE Hb H σ E ∧ forL g p DD (items.drop i) E, ⟨items.length, rfl, Nat.zero_le _, Hb0, E, sE.here, so0, er.step s0, by simpa using q0⟩, ?_⟩
  rintro i m σ1 H1 ⟨rfl, hi, Hb1, E1, s1, so1, er1, f1⟩
  have w1 := wk Hb1 H1 s1.sb so1 i
  by_cases hlt : i < items.length
  · have ed : items[i]? = some items[i] := by simp [hlt]
    obtain ⟨go, yl⟩ := w1.1 _ ed
    rw [List.drop_eq_getElem_cons hlt] at f1
    refine .inr ⟨go, fun σ' H' => (items.length - (i + 1)) = items.length - (i + 1) ∧ i + 1 ≤ items.length ∧ ∃ Hb E, Step pp Hb0 HE Hb H' ∧ SOk pp X.K Hb H' ∧ ER pp X.K HE Hb H' σ' E ∧ forL g p DD (items.drop (i + 1)) E, fun σ' H' w => ⟨items.length - (i + 1), by omega, w⟩, fun x H2 y => ?_⟩
    obtain ⟨Hb2, s2, so2, r2⟩ := yl x H2 y
    refine g2 pp HE Hb2 H2 σ1 E1 _ _ _ _ so2 (er1.step s2) r2 f1 fun σ' E' er' q' => ?_
    exact b2 pp Hb0 HE Hb2 H2 σ' E' _ _ (s1.trans s2) so2 er' q' ⟨fun Hb H σ E s so er h => ⟨rfl, hlt, Hb, E, s, so, er, h⟩, oc.rt, oc.nx, fun Hb H σ E s so er h => ⟨rfl, hlt, Hb, E, s, so, er, h⟩⟩
  · have e : i = items.length := by omega
    subst e
    refine .inl ⟨w1.2 rfl, ?_⟩
    rw [List.drop_length] at f1
    exact oc.nx Hb1 H1 σ1 E1 s1 so1 er1 f1
theorem s_while (hp : PassesOwn (model X.prog X.w) X.A X.env X.xe) (hc : QT X e c) (hb : QSs X sts p) : QS X (.While e sts [] pos) (dWhile c p) := by
  obtain ⟨tc, c1, c2⟩ := hc
  obtain ⟨tb, b1, b2⟩ := hb
  refine ⟨_, ps_while hp c1 b1, fun pp HbE HE Hb H σ E Dn DD s so er h o => ?_⟩
  obtain ⟨W, ⟨m0, w0⟩, turn⟩ := h
  have oc := o.cut s
  refine ⟨fun m σ H' => ∃ Hb' E, Step pp Hb HE Hb' H' ∧ SOk pp X.K Hb' H' ∧ ER pp X.K HE Hb' H' σ E ∧ W m E, ⟨m0, Hb, E, s.here, so, er, w0⟩, ?_⟩
  rintro m σ1 H1 ⟨Hb1, E1, s1, so1, er1, w1⟩
  refine c2 pp HE Hb1 H1 σ1 E1 _ _ so1 er1 (turn m E1 w1) fun k Hb2 H2 s2 so2 q2 => ?_
  cases k with
  | true =>
    rw [if_pos rfl] at q2 ⊢
    refine ⟨fun σ' H' => ∃ m', m' < m ∧ ∃ Hb' E, Step pp Hb HE Hb' H' ∧ SOk pp X.K Hb' H' ∧ ER pp X.K HE Hb' H' σ' E ∧ W m' E, fun σ' H' h => h, ?_⟩
    exact b2 pp Hb HE Hb2 H2 σ1 E1 _ _ (s1.trans s2) so2 (er1.step s2) q2 ⟨fun Hb H σ E s so er ⟨m', l, h⟩ => ⟨m', l, Hb, E, s, so, er, h⟩, oc.rt, oc.nx, fun Hb H σ E s so er ⟨m', l, h⟩ => ⟨m', l, Hb, E, s, so, er, h⟩⟩
  | false =>
    rw [if_neg Bool.false_ne_true] at q2 ⊢
    exact oc.nx Hb2 H2 σ1 E1 (s1.trans s2) so2 (er1.step s2) q2

/-! ### what is walked -/
def dIter (pe : DX) : DI := fun E Q => pe E fun d => match d with
  | .lst ds => Q ds
  | .tup ds => Q ds
  | _ => False
theorem walk_list {pp : Addr} {K : FK} {Hb : Hp} {a : Addr} {xs : List V} {ds : List D} (h : Hb a = some (.lst xs)) (r : RepL pp K Hb ds xs) : WalkJ pp K Hb (Itl K a) ds := by
  intro Hb1 H1 sm so i
  have h1 : SqL K H1 a xs := .of (so.le _ _ (sm _ _ h))
  refine ⟨fun d ed => ?_, fun e => ⟨xs, h1, by rw [e, r.length]; exact Nat.le_refl _⟩⟩
  obtain ⟨v, ev, rv⟩ := r.get ed
  refine ⟨⟨xs, v, h1, ev⟩, fun x H2 y => ?_⟩
  obtain ⟨e2, y⟩ := y
  subst e2
  have ex := y xs h1
  rw [ev] at ex
  cases ex
  exact ⟨Hb1, .refl, so, rv.le (.of_same sm)⟩
theorem walk_tup {pp : Addr} {K : FK} {Hb : Hp} {a : Addr} {xs : List V} {ds : List D} (h : SqT K Hb a xs) (r : RepL pp K Hb ds xs) : WalkJ pp K Hb (Itt K a) ds := by
  intro Hb1 H1 sm so i
  have h1 : SqT K H1 a xs := so.hle.sqT ((Le.of_same sm).sqT h)
  refine ⟨fun d ed => ?_, fun e => ⟨xs, h1, by rw [e, r.length]; exact Nat.le_refl _⟩⟩
  obtain ⟨v, ev, rv⟩ := r.get ed
  refine ⟨⟨xs, v, h1, ev⟩, fun x H2 y => ?_⟩
  obtain ⟨e2, y⟩ := y
  subst e2
  have ex := y xs h1
  rw [ev] at ex
  cases ex
  exact ⟨Hb1, .refl, so, rv.le (.of_same sm)⟩
def iSeq (K : FK) (tl : TE) : TI := fun σ H R => tl σ H fun x H1 => ∃ a, x = .ref a ∧ (((∃ xs, SqL K H1 a xs) ∧ R (Itl K a) H1) ∨ ((∃ xs, SqT K H1 a xs) ∧ R (Itt K a) H1))
theorem pi_seq {l : Expr} {tl : TE} (hl : PE X l tl) : PI X tg l (iSeq X.K tl) := by
  refine ⟨fun pins s σ H R I h => ?_⟩
  refine thn (hl.run pins s σ H _ I h) fun v s1 ⟨x, H1, I1, r1, q1⟩ => ?_
  obtain ⟨a, e, q⟩ := q1
  subst e
  cases r1
  rcases q with ⟨⟨xs, hq⟩, q⟩ | ⟨⟨xs, hq⟩, q⟩
  · obtain ⟨its, rv, p, hz⟩ := I1.list hq
    refine wpAny_pyIter_list p.isList ?_
    refine ⟨s1.heap.objs.size, [s1.heap.objs.size], _, _, H1, rfl, I1.kept (t' := s1.toks) fun b o e => Heap.get?_push_of_some _ e, turn_list a _, ⟨_, Heap.get?_push_size _ rfl, rfl, rfl⟩, fun b hb => ?_, q⟩
    obtain rfl : b = s1.heap.objs.size := by simpa using hb
    exact I1.fpOk (Nat.le_refl _) (I1.hok.fresh (Nat.le_refl _))
  · obtain ⟨its, rv, p, hz⟩ := I1.tuple hq
    refine wpAny_pyIter_tuple (show s1.heap.IsTuple a its.toArray from p) ?_
    refine ⟨s1.heap.objs.size, [s1.heap.objs.size], _, _, H1, rfl, I1.kept (t' := s1.toks) fun b o e => Heap.get?_push_of_some _ e, turn_tuple a _, ⟨_, Heap.get?_push_size _ rfl, rfl, rfl⟩, fun b hb => ?_, q⟩
    obtain rfl : b = s1.heap.objs.size := by simpa using hb
    exact I1.fpOk (Nat.le_refl _) (I1.hok.fresh (Nat.le_refl _))
theorem i_seq (h : QE X e pe) : QI X tg e (dIter pe) := by
  obtain ⟨t, h1, h2⟩ := h
  refine ⟨_, pi_seq h1, fun pp HE Hb H σ E R QD so er hp k => ?_⟩
  refine h2 pp HE Hb H σ E _ _ so er hp fun v d Hb1 H1 s1 so1 r1 q1 => ?_
  split at q1
  · unfold Rep at r1
    obtain ⟨a, xs, rfl, s, q⟩ := r1
    exact ⟨a, rfl, .inl ⟨⟨xs, .of (so1.le _ _ s)⟩, k _ _ Hb1 H1 s1 so1 (walk_list s q) q1⟩⟩
  · unfold Rep at r1
    obtain ⟨a, xs, rfl, s, q⟩ := r1
    exact ⟨a, rfl, .inr ⟨⟨xs, so1.hle.sqT s⟩, k _ _ Hb1 H1 s1 so1 (walk_tup s q) q1⟩⟩
  · exact q1.elim
/-- lo, lo + 1, .. (n of them) -/
def rangeD (lo : Int) (n : Nat) : List D := (List.range n).map fun i => .int (lo + (i : Nat))
theorem walk_range {pp : Addr} {K : FK} {Hb : Hp} (lo : Int) (n : Nat) : WalkJ pp K Hb (Itr lo n) (rangeD lo n) := by
  intro Hb1 H1 sm so i
  have hl : (rangeD lo n).length = n := by simp [rangeD]
  refine ⟨fun d ed => ?_, fun e => by rw [e, hl]; exact Nat.le_refl _⟩
  have hi : i < n := by rw [← hl]; exact (List.getElem?_eq_some_iff.mp ed).1
  refine ⟨hi, fun x H2 y => ?_⟩
  obtain ⟨e2, rfl⟩ := y
  subst e2
  have e3 : d = .int (lo + (i : Nat)) := by
    simp [rangeD, hi] at ed
    exact ed.symm
  subst e3
  exact ⟨Hb1, .refl, so, rep_int⟩
def RngB (i : Int) : Prop := -(2 ^ 62) ≤ i ∧ i < 2 ^ 62
def dRng (p : DAs) : DI := fun E Q => p E fun ds => match ds with
  | [.int j] => RngB j ∧ Q (rangeD 0 j.toNat)
  | [.int i, .int j] => RngB i ∧ RngB j ∧ Q (rangeD i (j - i).toNat)
  | _ => False
theorem i_range1 {p pos : Pos} (hg : Gl X "range") (hm : X.mg "range" = none) (ha : QA X [a] pas) (hs : starEach [a] X.env = [(false, eval a X.env)] := by rfl) : QI X tg (.Call (.Name "range" p) [a] [] pos) (dRng pas) := by
  obtain ⟨t, h1, h2⟩ := ha
  refine ⟨_, pi_range1 hg hm h1 hs, fun pp HE Hb H σ E R QD so er hp k => ?_⟩
  refine h2 pp HE Hb H σ E _ _ so er hp fun vs ds Hb1 H1 s1 so1 r1 l1 q1 => ?_
  split at q1
  · obtain ⟨v, w, rfl, r2, r3⟩ := r1.uncons
    rw [r3.unnil]
    unfold Rep at r2
    exact ⟨_, by rw [r2], q1.1.1, q1.1.2, k _ _ Hb1 H1 s1 so1 (walk_range 0 _) q1.2⟩
  · simp at l1
  · exact q1.elim
theorem i_range2 {p pos : Pos} (hg : Gl X "range") (hm : X.mg "range" = none) (ha : QA X [a, b] pas) (hs : starEach [a, b] X.env = [(false, eval a X.env), (false, eval b X.env)] := by rfl) (hs2 : starEach [b] X.env = [(false, eval b X.env)] := by rfl) : QI X tg (.Call (.Name "range" p) [a, b] [] pos) (dRng pas) := by
  obtain ⟨t, h1, h2⟩ := ha
  refine ⟨_, pi_range2 hg hm h1 hs hs2, fun pp HE Hb H σ E R QD so er hp k => ?_⟩
  refine h2 pp HE Hb H σ E _ _ so er hp fun vs ds Hb1 H1 s1 so1 r1 l1 q1 => ?_
  split at q1
  · simp at l1
  · obtain ⟨v, w, rfl, r2, r3⟩ := r1.uncons
    obtain ⟨v', w', rfl, r4, r5⟩ := r3.uncons
    rw [r5.unnil]
    unfold Rep at r2 r4
    exact ⟨_, _, by rw [r2, r4], ⟨q1.1.1, q1.1.2, q1.2.1.1, q1.2.1.2⟩, k _ _ Hb1 H1 s1 so1 (walk_range _ _) q1.2.2⟩
  · exact q1.elim
end

/-! ### a def's promise from its body -/
def startD (N : List Str) (ds : List D) : List Sl := ds.map .sh ++ List.replicate (N.length - ds.length) .no
theorem er_start {pp : Addr} {K : FK} {HE Hb H : Hp} {N : List Str} {ds : List D} {vs : List V} (r : RepL pp K Hb ds vs) : ER pp K HE Hb H (L2.start N vs) (startD N ds) := by
  have hl := r.length
  have notOw : ∀ (i : Nat) d, (startD N ds)[i]? = some (.ow d) → False := fun i d e => by
    unfold startD at e
    by_cases h : i < (ds.map Sl.sh).length
    · rw [List.getElem?_append_left h, List.getElem?_map] at e
      cases q : ds[i]? <;> rw [q] at e <;> simp at e
    · rw [List.getElem?_append_right (by omega), List.getElem?_replicate] at e
      split at e <;> simp at e
  refine ⟨by simp [L2.start, startD, hl], fun i d e => ?_, fun i d e => (notOw i d e).elim, fun i j p d d' _ e _ _ => (notOw i d e).elim⟩
  unfold startD at e
  by_cases h : i < (ds.map Sl.sh).length
  · rw [List.getElem?_append_left h, List.getElem?_map] at e
    cases q : ds[i]? with
    | none => rw [q] at e; simp at e
    | some d' =>
      rw [q] at e
      simp at e
      subst e
      obtain ⟨v, h1, h2⟩ := r.get q
      refine ⟨v, ?_, h2⟩
      unfold L2.start
      rw [List.getElem?_append_left (by simp at h ⊢; omega), List.getElem?_map, h1]
      rfl
  · rw [List.getElem?_append_right (by omega), List.getElem?_replicate] at e
    split at e <;> simp at e
abbrev fnEnds (Q : D → Prop) : DEnds := ⟨fun _ => Q .non, Q, fun _ => False, fun _ => False⟩
section
variable {P : Program} {w : World} {K : FK} {mg : Str → Option Value} {base : Heap}
theorem fnD {x qual : Str} {st : Stmt} {f : Addr} {fd : FuncData} {N ps : List Str} {k : Nat} {S : SpecD} {p : DS} (F : Fun K x qual st f fd) (sc : FnScope N ps (defScope st)) (len : ∀ ds Q, S ds Q → ds.length = ps.length)
    (body : ∀ (cdv : Value) (A : Around) (outer : List Env) (s : Shared) (H : Hp) (E : XK), Room k (A.deeper (envOfC qual (defScope st) s.heap.objs.size f cdv)) →
      QSs (cxOf CX0 P w K mg base N qual (defScope st) f cdv A outer s H E).nox (defBody st) p)
    (pure : ∀ ds Q, S ds Q → p (fnEnds Q) (startD N ds)) : FnOk P w K mg base CX0 (k + 1) f fd ps (spD K S) := by
  refine F.ok sc (fun vs H Q E h => ?_) (fun cdv A outer s H vs Q E hr h => ?_)
  · obtain ⟨pp, Hb, ds, QD, _, r, hs, _⟩ := h
    rw [r.length]
    exact len ds QD hs
  · obtain ⟨pp, Hb, ds, QD, so, r, hs, fin⟩ := h
    obtain ⟨t, h1, h2⟩ := body cdv A outer s H E hr
    refine ⟨t, h1, h2 pp Hb H Hb H _ _ _ _ .refl so (er_start r) (pure ds QD hs) ⟨fun Hb' H' σ E s so _ q => ?_, fun Hb' H' v d s so r q => ?_, fun _ _ _ _ _ _ _ q => q.elim, fun _ _ _ _ _ _ _ q => q.elim⟩⟩
    · exact fin .non .non Hb' H' q s so rep_non
    · exact fin d v Hb' H' q s so r
end
end DL

namespace DL
open PySem PySem.Spec PyProof.Rows L2

/-! ### one reading for all contexts -/
def TEof (K : FK) (p : DX) : TE := fun σ H Q => ∃ (pp : Addr) (HE Hb : Hp) (E : List Sl) (QD : D → Prop), SOk pp K Hb H ∧ ER pp K HE Hb H σ E ∧ p E QD ∧ ∀ v d Hb' H', Step pp Hb H Hb' H' → SOk pp K Hb' H' → Rep pp K Hb' d v → QD d → Q v H'
def TTof (K : FK) (p : DT) : TT := fun σ H Q => ∃ (pp : Addr) (HE Hb : Hp) (E : List Sl) (QD : Bool → Prop), SOk pp K Hb H ∧ ER pp K HE Hb H σ E ∧ p E QD ∧ ∀ b Hb' H', Step pp Hb H Hb' H' → SOk pp K Hb' H' → QD b → Q b H'
def TGof (K : FK) (g : DG) : TG := fun v σ H Q => ∃ (pp : Addr) (HE Hb : Hp) (E : List Sl) (d : D) (QD : List Sl → Prop), SOk pp K Hb H ∧ ER pp K HE Hb H σ E ∧ Rep pp K Hb d v ∧ g d E QD ∧ ∀ σ' E', ER pp K HE Hb H σ' E' → QD E' → Q σ' H
section
variable {X : Cx} {e tg : Expr} {p : DX} {c : DT} {g : DG}
theorem QE.pe (h : QE X e p) : PE X e (TEof X.K p) := by
  obtain ⟨t, h1, h2⟩ := h
  refine ⟨fun pins s σ H Q I h => ?_⟩
  obtain ⟨pp, HE, Hb, E, QD, so, er, hp, k⟩ := h
  exact h1.run pins s σ H Q I (h2 pp HE Hb H σ E Q QD so er hp k)
theorem QT.pt (h : QT X e c) : PT X e (TTof X.K c) := by
  obtain ⟨t, h1, h2⟩ := h
  refine ⟨fun pins s σ H Q I h => ?_⟩
  obtain ⟨pp, HE, Hb, E, QD, so, er, hp, k⟩ := h
  exact h1.run pins s σ H Q I (h2 pp HE Hb H σ E Q QD so er hp k)
/-- the tests of a comprehension -/
def QTs (X : Cx) (ifs : List Expr) (p : DT) : Prop := ∃ t, PTs X ifs t ∧ ∀ (pp : Addr) (HE Hb H : Hp) (σ : L2.St) (E : List Sl) (Q : Bool → Hp → Prop) (QD : Bool → Prop), SOk pp X.K Hb H → ER pp X.K HE Hb H σ E → p E QD →
  (∀ b Hb' H', Step pp Hb H Hb' H' → SOk pp X.K Hb' H' → QD b → Q b H') → t σ H Q
def dYes : DT := fun _ Q => Q true
theorem ts_nil : QTs X [] dYes := ⟨_, pts_nil, fun pp HE Hb H σ E Q QD so er hp k => k _ Hb H .refl so hp⟩
theorem ts_one (h : QT X e c) : QTs X [e] c := by
  obtain ⟨t, h1, h2⟩ := h
  exact ⟨t, pts_one h1, h2⟩
theorem QTs.pts {ifs : List Expr} (h : QTs X ifs c) : PTs X ifs (TTof X.K c) := by
  obtain ⟨t, h1, h2⟩ := h
  refine ⟨fun pins s σ H Q I h => ?_⟩
  obtain ⟨pp, HE, Hb, E, QD, so, er, hp, k⟩ := h
  exact h1.run pins s σ H Q I (h2 pp HE Hb H σ E Q QD so er hp k)
end

/-! ### slots of a comprehension's own names -/
def Off (vs : List Nat) (σ σ' : L2.St) : Prop := σ'.length = σ.length ∧ ∀ j, j ∉ vs → σ'[j]? = σ[j]?
theorem Off.refl {vs : List Nat} {σ : L2.St} : Off vs σ σ := ⟨rfl, fun _ _ => rfl⟩
theorem Off.trans {vs : List Nat} {a b c : L2.St} (h : Off vs a b) (g : Off vs b c) : Off vs a c := ⟨g.1.trans h.1, fun j hj => (g.2 j hj).trans (h.2 j hj)⟩
theorem wipe_get {σ : L2.St} (j : Nat) : ∀ vs : List Nat, (wipe σ vs)[j]? = if j ∈ vs then (if j < σ.length then some none else none) else σ[j]?
  | [] => by simp [wipe]
  | v :: vs => by
    unfold wipe
    by_cases hv : j = v
    · subst hv
      by_cases hl : j < σ.length
      · rw [List.getElem?_set_self (by rw [wipe_length]; exact hl)]; simp [hl]
      · rw [List.getElem?_eq_none (by rw [List.length_set, wipe_length]; omega)]; simp [hl]
    · rw [List.getElem?_set_ne (Ne.symm hv), wipe_get j vs]
      simp [hv]
theorem Off.wipe {vs : List Nat} {σ σ' : L2.St} (h : Off vs σ σ') : L2.wipe σ' vs = L2.wipe σ vs := by
  refine List.ext_getElem? fun j => ?_
  rw [wipe_get, wipe_get, h.1]
  split
  · rfl
  · rename_i hj; exact h.2 j hj
theorem off_wipe {vs : List Nat} {σ : L2.St} : Off vs σ (wipe σ vs) := ⟨wipe_length _ _, fun j hj => by rw [wipe_get, if_neg hj]⟩
def wipeD (E : List Sl) : List Nat → List Sl
  | [] => E
  | v :: vs => (wipeD E vs).set v .no
theorem ER.wipe {pp : Addr} {K : FK} {HE Hb H : Hp} {σ : L2.St} {E : List Sl} (r : ER pp K HE Hb H σ E) : ∀ vs, ER pp K HE Hb H (wipe σ vs) (wipeD E vs)
  | [] => r
  | v :: vs => (r.wipe vs).set_no v
/-- a comprehension's target: it stores the slots vs alone -/
def QGv (X : Cx) (tg : Expr) (vs : List Nat) (g : DG) : Prop := ∃ t, PG X tg t ∧ ∀ (pp : Addr) (HE Hb H : Hp) (σ : L2.St) (E : List Sl) (v : V) (d : D) (Q : L2.St → Hp → Prop) (QD : List Sl → Prop), SOk pp X.K Hb H → ER pp X.K HE Hb H σ E → Rep pp X.K Hb d v → g d E QD →
  (∀ σ' E', ER pp X.K HE Hb H σ' E' → Off vs σ σ' → QD E' → Q σ' H) → t v σ H Q
def QGvs (X : Cx) (tgs : List Expr) (vs : List Nat) (g : List D → List Sl → (List Sl → Prop) → Prop) : Prop := ∃ t, PGs X tgs t ∧ ∀ (pp : Addr) (HE Hb H : Hp) (σ : L2.St) (E : List Sl) (vs' : List V) (ds : List D) (Q : L2.St → Hp → Prop) (QD : List Sl → Prop), SOk pp X.K Hb H → ER pp X.K HE Hb H σ E → RepL pp X.K Hb ds vs' → g ds E QD →
  (∀ σ' E', ER pp X.K HE Hb H σ' E' → Off vs σ σ' → QD E' → Q σ' H) → t vs' σ H Q
section
variable {X : Cx} {e tg : Expr} {tgs : List Expr} {p : DX} {c : DT} {g : DG} {gs : List D → List Sl → (List Sl → Prop) → Prop} {vs : List Nat} {pos : Pos}
theorem v_name {i : Nat} {x : Str} {pos : Pos} (hN : X.N.Nodup) (hv : i ∈ vs) (hi : X.N[i]? = some x := by rfl) (hx : Loc X.env.scope x := by first | exact Or.inl rfl | exact Or.inr rfl) (hf : X.fn x = true ∨ X.env.scope.names.lookup x = some .local := by first | exact .inl rfl | exact .inr rfl | assumption) : QGv X (.Name x pos) vs (gN i) := by
  refine ⟨_, pg_name hN hi hx hf, fun pp HE Hb H σ E v d Q QD so er r h k => k _ _ (er.set_sh i r) ⟨List.length_set, fun j hj => ?_⟩ h⟩
  rw [List.getElem?_set_ne]
  intro z
  subst z
  exact hj hv
theorem vs_nil : QGvs X [] vs gsNil := by
  refine ⟨_, pgs_nil, fun pp HE Hb H σ E vs ds Q QD so er r h k => ?_⟩
  unfold gsNil at h
  split at h
  · exact ⟨r.unnil, k _ _ er .refl h⟩
  · exact h.elim
theorem vs_cons (h : QGv X tg vs g) (r : QGvs X tgs vs gs) (hs : (assignEach (tg :: tgs) X.env).map (·.2) = assign tg X.env :: (assignEach tgs X.env).map (·.2) := by rfl) : QGvs X (tg :: tgs) vs (gsCons g gs) := by
  obtain ⟨t, h1, h2⟩ := h
  obtain ⟨u, g1, g2⟩ := r
  refine ⟨_, pgs_cons h1 g1 hs, fun pp HE Hb H σ E vs ds Q QD so er r h k => ?_⟩
  unfold gsCons at h
  split at h
  · obtain ⟨v, w, rfl, r1, r2⟩ := r.uncons
    refine ⟨v, w, rfl, h2 pp HE Hb H σ E _ _ _ _ so er r1 h fun σ' E' er' o1 h' => ?_⟩
    exact g2 pp HE Hb H σ' E' _ _ _ _ so er' r2 h' fun σ2 E2 er2 o2 q => k σ2 E2 er2 (o1.trans o2) q
  · exact h.elim
theorem v_tup {n k : Nat} (hc : X.calm = true) (h : QGvs X tgs vs gs) (hn : (assignEach tgs X.env).length = n := by rfl) (hst : (assignEach tgs X.env).findIdx? (·.1) = none := by rfl) : QGv X (.Tuple tgs k pos) vs (gT n gs) := by
  obtain ⟨t, h1, h2⟩ := h
  refine ⟨_, PG.or (pg_tup hc h1 hn hst) (pg_unl hc h1 hn hst), fun pp HE Hb H σ E v d Q QD so er r h k => ?_⟩
  unfold gT at h
  split at h
  · unfold Rep at r
    obtain ⟨a, xs, rfl, s, q⟩ := r
    exact .inl ⟨a, xs, rfl, so.hle.sqT s, by rw [q.length]; exact h.1, h2 pp HE Hb H σ E _ _ _ _ so er q h.2 k⟩
  · unfold Rep at r
    obtain ⟨a, xs, rfl, s, q⟩ := r
    exact .inr ⟨a, xs, rfl, .of (so.le _ _ s), by rw [q.length]; exact h.1, h2 pp HE Hb H σ E _ _ _ _ so er q h.2 k⟩
  · exact h.elim
def TGvof (K : FK) (vs : List Nat) (g : DG) : TG := fun v σ H Q => ∃ (pp : Addr) (HE Hb : Hp) (E : List Sl) (d : D) (QD : List Sl → Prop), SOk pp K Hb H ∧ ER pp K HE Hb H σ E ∧ Rep pp K Hb d v ∧ g d E QD ∧ ∀ σ' E', ER pp K HE Hb H σ' E' → Off vs σ σ' → QD E' → Q σ' H
theorem QGv.pg (h : QGv X tg vs g) : PG X tg (TGvof X.K vs g) := by
  obtain ⟨t, h1, h2⟩ := h
  refine ⟨fun pins s σ H v u Q I r h => ?_⟩
  obtain ⟨pp, HE, Hb, E, d, QD, so, er, rp, hp, k⟩ := h
  exact h1.run pins s σ H v u Q I r (h2 pp HE Hb H σ E v d Q QD so er rp hp k)
end

/-! ### list comprehensions -/
def lcL (g : DG) (vs : List Nat) (c : DT) (p : DX) : List D → List Sl → (List D → Prop) → Prop
  | [], _, Q => Q []
  | d :: r, E, Q => g d (wipeD E vs) fun E' => c E' fun b => if b = true then p E' fun y => lcL g vs c p r E fun ys => Q (y :: ys) else lcL g vs c p r E Q
def dLc (pi : DI) (g : DG) (vs : List Nat) (c : DT) (p : DX) : DX := fun E Q => pi E fun items => items.length ≤ sizeLine ∧ lcL g vs c p items E fun ys => Q (.lst ys)
section
variable {X : Cx} {elt tg iter : Expr} {ifs : List Expr} {scope : Scope} {own : List (Str × Nat)} {pos : Pos} {pi : DI} {g : DG} {c : DT} {p : DX}
theorem lc_read {wi : TI} {K : FK} {vs : List Nat} {pp : Addr} {HE Hb H : Hp} {σ : L2.St} {E : List Sl} {Q : VK} {QD : D → Prop}
    (i2 : ∀ (R : It → Hp → Prop) (QD : List D → Prop), pi E QD → (∀ J items Hb' H', Step pp Hb H Hb' H' → SOk pp K Hb' H' → WalkJ pp K Hb' J items → QD items → R J H') → wi σ H R)
    (so : SOk pp K Hb H) (er : ER pp K HE Hb H σ E) (hp : dLc pi g vs c p E QD)
    (k : ∀ a d Hb' H', Step pp Hb H Hb' H' → SOk pp K Hb' H' → H a = none → Owns pp K Hb' H' a d → QD d → Q (.ref a) H') : tLc wi (TGvof K vs g) (TTof K c) (TEof K p) vs σ H Q := by
  refine i2 _ _ hp fun J items Hb0 H0 s0 so0 wk q0 => ?_
  intro L hL
  have hLH : H L = none := by
    cases z : H L with
    | none => rfl
    | some u => exact absurd hL (s0.st L (by rw [z]; exact fun y => nomatch y))
  obtain ⟨sL, soL⟩ := lay_own (u := .lst []) so0 hL
  refine ⟨fun i m H1 => m = items.length - i ∧ i ≤ items.length ∧ ∃ (Hb1 : Hp) (acc : List V) (accD : List D), Step pp Hb0 H0 Hb1 H1 ∧ SOk pp K Hb1 H1 ∧ H1 L = some (.lst acc) ∧ Hb1 L = none ∧ RepL pp K Hb1 accD acc ∧ accD.length ≤ i ∧ lcL g vs c p (items.drop i) E fun ys => QD (.lst (accD ++ ys)),
    ⟨items.length, rfl, Nat.zero_le _, Hb0, [], [], sL, soL, upd_same, so0.nb hL, .nil, Nat.le_refl _, by simpa using q0.2⟩, ?_⟩
  rintro i m H1 ⟨rfl, hi, Hb1, acc, accD, s1, so1, hl1, hb1, r1, n1, f1⟩
  have w1 := wk Hb1 H1 s1.sb so1 i
  have hpp : L ≠ pp := so0.ne hL
  by_cases hlt : i < items.length
  · have ed : items[i]? = some items[i] := by simp [hlt]
    obtain ⟨go, yl⟩ := w1.1 _ ed
    rw [List.drop_eq_getElem_cons hlt] at f1
    refine .inr ⟨go, fun H1 => (items.length - (i + 1)) = items.length - (i + 1) ∧ i + 1 ≤ items.length ∧ ∃ (Hb1 : Hp) (acc : List V) (accD : List D), Step pp Hb0 H0 Hb1 H1 ∧ SOk pp K Hb1 H1 ∧ H1 L = some (.lst acc) ∧ Hb1 L = none ∧ RepL pp K Hb1 accD acc ∧ accD.length ≤ i + 1 ∧ lcL g vs c p (items.drop (i + 1)) E fun ys => QD (.lst (accD ++ ys)), fun H' w => ⟨items.length - (i + 1), by omega, w⟩, fun x H2 y => ?_⟩
    obtain ⟨Hb2, s2, so2, r2⟩ := yl x H2 y
    have sA := s1.trans s2
    refine ⟨pp, HE, Hb2, wipeD E vs, items[i], _, so2, ((er.step s0).step sA).wipe vs, r2, f1, fun σ' E' er' of q' => ?_⟩
    refine ⟨(off_wipe.trans of).wipe, pp, HE, Hb2, E', _, so2, er', q', fun b Hb3 H3 s3 so3 q3 => ?_⟩
    cases b with
    | true =>
      rw [if_pos rfl] at q3 ⊢
      refine ⟨pp, HE, Hb3, E', _, so3, er'.step s3, q3, fun y' d' Hb4 H4 s4 so4 r4 q4 => ?_⟩
      have sB := (s2.trans s3).trans s4
      have hL4 : H4 L = some (.lst acc) := sB.ex L _ hpp hl1
      have hb4 : Hb4 L = none := sB.nw L hb1 (by rw [hl1]; exact fun z => nomatch z)
      have sC := s1.trans sB
      have rN : RepL pp K Hb4 (accD ++ [d']) (acc ++ [y']) := (r1.le sB.le).app (.cons r4 .nil)
      refine ⟨acc, hL4, by rw [r1.length]; have := q0.1; omega, rfl, hlt, Hb4, acc ++ [y'], accD ++ [d'], ⟨sC.sb, fun b o hb h => ?_, fun b h => ?_, sC.nw⟩, ⟨fun b o h => ?_, so4.np, ?_⟩, upd_same, hb4, rN, by simp; exact n1, ?_⟩
      · rw [upd_ne (ne_of_none h hL)]; exact sC.ex b o hb h
      · by_cases z : b = L
        · subst z; rw [upd_same]; exact fun y => nomatch y
        · rw [upd_ne z]; exact sC.st b h
      · have z : b ≠ L := fun z => by subst z; rw [hb4] at h; cases h
        rw [upd_ne z]; exact so4.le b o h
      · obtain ⟨a, ns, i, n, k, h1, h2⟩ := so4.pool
        exact ⟨a, ns, i, n, k, by rw [upd_ne (Ne.symm hpp)]; exact h1, h2⟩
      · simpa using q4
    | false =>
      rw [if_neg Bool.false_ne_true] at q3 ⊢
      have sB := s2.trans s3
      exact ⟨rfl, hlt, Hb3, acc, accD, s1.trans sB, so3, sB.ex L _ hpp hl1, sB.nw L hb1 (by rw [hl1]; exact fun z => nomatch z), r1.le sB.le, by omega, q3⟩
  · have e : i = items.length := by omega
    subst e
    refine .inl ⟨w1.2 rfl, ?_⟩
    rw [List.drop_length] at f1
    refine k L (.lst accD) Hb1 H1 (s0.trans s1) so1 hLH ⟨hb1, hpp, ⟨acc, hl1, r1⟩⟩ ?_
    simpa [lcL] using f1
theorem f_lc {vs : List Nat} (own : List (Str × Nat)) (hc : X.calm = true) (hN : X.N.Nodup) (hi : QI X tg iter pi) {N0 : List Str} {sc0 : Scope} (ok : blkC N0 sc0 scope own = true) (hv : own.map (·.2) = vs)
    (hg : ∀ (s : Shared) (H : Hp) (C : Addr) (cl : List (Str × Addr)) (fp : List Addr), QGv (X.blk s H scope (compEnvC scope cl C X.env) fp) tg vs g) (ht : ∀ (s : Shared) (H : Hp) (C : Addr) (cl : List (Str × Addr)) (fp : List Addr), QTs (X.blk s H scope (compEnvC scope cl C X.env) fp) ifs c)
    (he : ∀ (s : Shared) (H : Hp) (C : Addr) (cl : List (Str × Addr)) (fp : List Addr), QE (X.blk s H scope (compEnvC scope cl C X.env) fp) elt p) (hs : ∀ x, foldedSetIterable iter X.env x = pure x := by intro _; rfl) (eN : X.N = N0 := by rfl) (eS : X.env.scope = sc0 := by rfl) :
    QF X (.ListComp elt [⟨tg, iter, ifs, 0⟩] scope pos) (dLc pi g vs c p) := by
  subst hv eN eS
  obtain ⟨wi, i1, i2⟩ := hi
  exact ⟨_, pe_lc (g := TGvof X.K (own.map (·.2)) g) (tt := TTof X.K c) (te := TEof X.K p) hc hN i1 (blkOk_by ok) (fun s H C cl fp => (hg s H C cl fp).pg) (fun s H C cl fp => (ht s H C cl fp).pts) (fun s H C cl fp => (he s H C cl fp).pe) hs,
    fun pp HE Hb H σ E Q QD so er hp k => lc_read (fun R QD' h1 h2 => i2 pp HE Hb H σ E R QD' so er h1 h2) so er hp k⟩
/-- y = [..]: y a base value, or its own -/
theorem s_setLc {vs : List Nat} {i : Nat} {y : Str} {py spos : Pos} (own : List (Str × Nat)) (hc : X.calm = true) (hN : X.N.Nodup) (hi : QI X tg iter pi) {N0 : List Str} {sc0 : Scope} (ok : blkC N0 sc0 scope own = true) (hv : own.map (·.2) = vs)
    (hg : ∀ (s : Shared) (H : Hp) (C : Addr) (cl : List (Str × Addr)) (fp : List Addr), QGv (X.blk s H scope (compEnvC scope cl C X.env) fp) tg vs g) (ht : ∀ (s : Shared) (H : Hp) (C : Addr) (cl : List (Str × Addr)) (fp : List Addr), QTs (X.blk s H scope (compEnvC scope cl C X.env) fp) ifs c)
    (he : ∀ (s : Shared) (H : Hp) (C : Addr) (cl : List (Str × Addr)) (fp : List Addr), QE (X.blk s H scope (compEnvC scope cl C X.env) fp) elt p)
    (hsw : swapsWith (.ListComp elt [⟨tg, iter, ifs, 0⟩] scope pos) (some (.Name y py)) spos.line X.env = pure true) (hy : X.N[i]? = some y := by rfl) (hyl : X.env.scope.names.lookup y = some .local := by rfl) (hs : ∀ x, foldedSetIterable iter X.env x = pure x := by intro _; rfl) (eN : X.N = N0 := by rfl) (eS : X.env.scope = sc0 := by rfl) :
    QS X (.Assign [.Name y py] (.ListComp elt [⟨tg, iter, ifs, 0⟩] scope pos) spos) (dAsg i (dLc pi g vs c p)) := by
  subst hv eN eS
  obtain ⟨wi, i1, i2⟩ := hi
  refine ⟨_, ps_setLc (g := TGvof X.K (own.map (·.2)) g) (tt := TTof X.K c) (te := TEof X.K p) hc hN hy hyl hsw i1 (blkOk_by ok) (fun s H C cl fp => (hg s H C cl fp).pg) (fun s H C cl fp => (ht s H C cl fp).pts) (fun s H C cl fp => (he s H C cl fp).pe) hs, fun pp HbE HE Hb H σ E Dn DD s so er h o => ?_⟩
  refine lc_read (QD := fun d => DD.nx (E.set i (.sh d))) (fun R QD' h1 h2 => i2 pp HE Hb H σ E R QD' so er h1 h2) so er h fun a d Hb1 H1 s1 so1 hn o1 q1 => ?_
  obtain ⟨Hb2, s2, so2, r2⟩ := share_new s1 so1 hn o1
  exact o.nx Hb2 H1 _ _ (s.trans s2) so2 ((er.step s2).set_sh i r2) q1
theorem s_ownLc {vs : List Nat} {i : Nat} {y : Str} {py spos : Pos} (own : List (Str × Nat)) (hc : X.calm = true) (hN : X.N.Nodup) (hi : QI X tg iter pi) {N0 : List Str} {sc0 : Scope} (ok : blkC N0 sc0 scope own = true) (hv : own.map (·.2) = vs)
    (hg : ∀ (s : Shared) (H : Hp) (C : Addr) (cl : List (Str × Addr)) (fp : List Addr), QGv (X.blk s H scope (compEnvC scope cl C X.env) fp) tg vs g) (ht : ∀ (s : Shared) (H : Hp) (C : Addr) (cl : List (Str × Addr)) (fp : List Addr), QTs (X.blk s H scope (compEnvC scope cl C X.env) fp) ifs c)
    (he : ∀ (s : Shared) (H : Hp) (C : Addr) (cl : List (Str × Addr)) (fp : List Addr), QE (X.blk s H scope (compEnvC scope cl C X.env) fp) elt p)
    (hsw : swapsWith (.ListComp elt [⟨tg, iter, ifs, 0⟩] scope pos) (some (.Name y py)) spos.line X.env = pure true) (hy : X.N[i]? = some y := by rfl) (hyl : X.env.scope.names.lookup y = some .local := by rfl) (hs : ∀ x, foldedSetIterable iter X.env x = pure x := by intro _; rfl) (eN : X.N = N0 := by rfl) (eS : X.env.scope = sc0 := by rfl) :
    QS X (.Assign [.Name y py] (.ListComp elt [⟨tg, iter, ifs, 0⟩] scope pos) spos) (dOwn i (dLc pi g vs c p)) := by
  subst hv eN eS
  obtain ⟨wi, i1, i2⟩ := hi
  refine ⟨_, ps_setLc (g := TGvof X.K (own.map (·.2)) g) (tt := TTof X.K c) (te := TEof X.K p) hc hN hy hyl hsw i1 (blkOk_by ok) (fun s H C cl fp => (hg s H C cl fp).pg) (fun s H C cl fp => (ht s H C cl fp).pts) (fun s H C cl fp => (he s H C cl fp).pe) hs, fun pp HbE HE Hb H σ E Dn DD s so er h o => ?_⟩
  refine lc_read (QD := fun d => DD.nx (E.set i (.ow d))) (fun R QD' h1 h2 => i2 pp HE Hb H σ E R QD' so er h1 h2) so er h fun p d Hb1 H1 s1 so1 hn o1 q1 => ?_
  have hE : HE p = none := by
    cases z : HE p with
    | none => rfl
    | some u => exact absurd hn (s.st p (by rw [z]; exact fun y => nomatch y))
  refine o.nx Hb1 H1 _ _ (s.trans s1) so1 ((er.step s1).set_ow i hE o1 fun j d' e1 e2 => ?_) q1
  obtain ⟨p', h3, h4, h5⟩ := er.ow j d' e1
  rw [h3] at e2
  cases e2
  exact Top.isSm h5.top hn
end
end DL

namespace DL
open PySem PySem.Spec PyProof.Rows L2

/-! ### an own object changes -/
section
variable {pp : Addr} {K : FK} {HbE HE Hb H : Hp} {σ : L2.St} {E : List Sl}
theorem mut_ok {i : Nat} {p : Addr} {d d' : D} {u : HO} (s : Step pp HbE HE Hb H) (so : SOk pp K Hb H) (er : ER pp K HE Hb H σ E) (e : E[i]? = some (.ow d)) (hσ : σ[i]? = some (some (.ref p)))
    (ht : Top pp K Hb (upd H p u) p d') : Step pp HbE HE Hb (upd H p u) ∧ SOk pp K Hb (upd H p u) ∧ ER pp K HE Hb (upd H p u) σ (E.set i (.ow d')) := by
  obtain ⟨p', h1, h2, h3⟩ := er.ow i d e
  rw [hσ] at h1
  cases h1
  have hl : i < E.length := (List.getElem?_eq_some_iff.mp e).1
  refine ⟨⟨s.sb, fun b o hb h => ?_, fun b h => ?_, s.nw⟩, ⟨fun b o h => ?_, so.np, ?_⟩, ⟨by rw [List.length_set]; exact er.len, fun j d1 ej => ?_, fun j d1 ej => ?_, fun j k p1 d1 d2 hne e1 e2 g1 => ?_⟩⟩
  · rw [upd_ne (fun z => by subst z; rw [h2] at h; cases h)]; exact s.ex b o hb h
  · by_cases z : b = p
    · subst z; rw [upd_same]; exact fun y => nomatch y
    · rw [upd_ne z]; exact s.st b h
  · rw [upd_ne (fun z => by subst z; rw [h3.nb] at h; cases h)]; exact so.le b o h
  · obtain ⟨a, ns, i, n, k, g1, g2⟩ := so.pool
    exact ⟨a, ns, i, n, k, by rw [upd_ne (Ne.symm h3.ne)]; exact g1, g2⟩
  · rcases get_set ej with ⟨rfl, _, z⟩ | ⟨hj, ej⟩
    · cases z
    · exact er.sh j d1 ej
  · rcases get_set ej with ⟨rfl, _, z⟩ | ⟨hj, ej⟩
    · cases z
      exact ⟨p, hσ, h2, ⟨h3.nb, h3.ne, ht⟩⟩
    · obtain ⟨p', k1, k2, k3⟩ := er.ow j d1 ej
      have hne : p' ≠ p := fun z => by
        subst z
        exact er.ds i j p' d d1 (Ne.symm hj) e ej hσ k1
      exact ⟨p', k1, k2, ⟨k3.nb, k3.ne, Top.step (.of_same (Same.refl _)) (fun o h => by rw [upd_ne hne]; exact h) k3.top⟩⟩
  · rcases get_set e1 with ⟨rfl, _, _⟩ | ⟨hj, f1⟩
    · rcases get_set e2 with ⟨z, _, _⟩ | ⟨hk, f2⟩
      · exact absurd z.symm hne
      · exact er.ds _ k p1 _ d2 hne e f2 g1
    · rcases get_set e2 with ⟨rfl, _, _⟩ | ⟨hk, f2⟩
      · exact er.ds j _ p1 d1 _ hne f1 e g1
      · exact er.ds j k p1 d1 d2 hne f1 f2 g1
end
section
variable {X : Cx} {e k : Expr} {es : List Expr} {pe pk : DX} {pos : Pos}
/-- xs.append(e), xs in slot i -/
def dApp (i : Nat) (pe : DX) : DS := fun DD E => match E[i]? with
  | some (.ow (.lst ds)) => pe E fun d => ds.length < sizeLine ∧ DD.nx (E.set i (.ow (.lst (ds ++ [d]))))
  | _ => False
theorem s_append (i : Nat) {x : Str} {xp apos cpos : Pos} (he : QE X e pe) (hN : X.N[i]? = some x := by rfl) (hv : Vis X.env.scope x := by first | exact Or.inl rfl | exact Or.inr (Or.inl rfl) | exact Or.inr (Or.inr rfl)) (hd : (x == ("__debug__" : Str)) = false := by decide)
    (hcd : (x == ("__classdict__" : Str)) = false := by decide)
    (h1 : attributeBase (.Name x xp) "append" X.env (eval (.Name x xp) X.env) = eval (.Name x xp) X.env := by rfl)
    (h2 : ((backTo cpos (starEach [e] X.env)).all (fun x => !x.1) && (backToKw cpos (keywordEach [] X.env)).all (fun x => x.1.isSome) && decide (([e] : List Expr).length + ([] : List Keyword).length + (if ([] : List Keyword).isEmpty then 0 else 1) < 30)) = true := by rfl)
    (h3 : (apos.endLine == cpos.line) = true := by rfl) (h4 : starEach [e] X.env = (false, eval e X.env) :: starEach [] X.env := by rfl) (h5 : (backTo cpos (starEach [] X.env)).any (·.1) = false := by rfl)
    (hs : swapsWith (.Call (.Attribute (.Name x xp) "append" apos) [e] [] cpos) none pos.line X.env = pure false := by rfl) :
    QS X (.Expr (.Call (.Attribute (.Name x xp) "append" apos) [e] [] cpos) pos) (dApp i pe) := by
  obtain ⟨t, t1, t2⟩ := he
  refine ⟨_, ps_expr (pe_bm PySem.F.plainAttrs_list PySem.F.slot_list_append PySem.F.type_list_append mt_append (pv i hN hv hd hcd) (pa_cons t1 pa_nil h4) h1 h2 h3 h4 h5) hs, fun pp HbE HE Hb H σ E Dn DD s so er h o => ?_⟩
  unfold dApp at h
  split at h
  · rename_i ds ei
    obtain ⟨p, q1, q2, q3⟩ := er.ow i _ ei
    obtain ⟨xs, hx, hr⟩ := q3.top
    refine ⟨_, q1, .inl ⟨rfl, xs, .of hx⟩, ?_⟩
    refine t2 pp HE Hb H σ E _ _ so er h fun v d Hb1 H1 s1 so1 r1 z1 => ?_
    have er1 := er.step s1
    have hx1 : H1 p = some (.lst xs) := s1.ex p _ q3.ne hx
    refine ⟨p, xs, v, rfl, rfl, hx1, by rw [hr.length]; exact z1.1, ?_⟩
    obtain ⟨g1, g2, g3⟩ := mut_ok (u := .lst (xs ++ [v])) (d' := .lst (ds ++ [d])) (s.trans s1) so1 er1 ei q1 ⟨_, upd_same, (hr.le s1.le).app (.cons r1 .nil)⟩
    exact o.nx Hb1 _ σ _ g1 g2 g3 z1.2
  · exact h.elim
/-- {} (its keys ints and texts) -/
def dNew : DX := fun _ Q => Q (.dic [] [])
theorem f_new : QF X (.Dict [] [] pos) dNew := by
  refine ⟨_, pe_dnewK, fun pp HE Hb H σ E Q QD so er hp k => ?_⟩
  intro p hp'
  obtain ⟨s2, so2⟩ := lay_own (u := .dK []) so hp'
  exact k p (.dic [] []) _ _ s2 so2 hp' ⟨so.nb hp', so.ne hp', ⟨[], upd_same, rfl, .nil⟩⟩ hp
theorem PS.or {st : Stmt} {t u : TS} (h : PS X st t) (h' : PS X st u) : PS X st (fun Dn σ H => t Dn σ H ∨ u Dn σ H) := by
  refine ⟨fun pins s σ H Dn I q => ?_⟩
  rcases q with q | q
  · exact h.run pins s σ H Dn I q
  · exact h'.run pins s σ H Dn I q
/-- xs[k] = v, d[k] = v, the list or dict in slot i -/
def dPut (i : Nat) (pk pv : DX) : DS := fun DD E => match E[i]? with
  | some (.ow (.dic ks ds)) => pv E fun d => pk E fun kd => match keyOf kd with
    | some k => ks.length < sizeLine ∧ DD.nx (E.set i (.ow (.dic (ptK ks k) (ptD ks ds k d))))
    | none => False
  | some (.ow (.lst ds)) => pv E fun d => pk E fun kd => match kd with
    | .int j => match ixN ds.length j with
      | some n => DD.nx (E.set i (.ow (.lst (ds.set n d))))
      | none => False
    | _ => False
  | _ => False
theorem s_put (i : Nat) {x : Str} {v : Expr} {xp pos' : Pos} {pv : DX} (hu : X.A.units + 1 < cLine) (hk : QE X k pk) (hv : QE X v pv) (hN : X.N[i]? = some x := by rfl) (hvis : Vis X.env.scope x := by first | exact Or.inl rfl | exact Or.inr (Or.inl rfl) | exact Or.inr (Or.inr rfl)) (hd : (x == ("__debug__" : Str)) = false := by decide)
    (hcd : (x == ("__classdict__" : Str)) = false := by decide) (hs : swapsWith v (some (.Subscript (.Name x xp) k pos')) pos.line X.env = pure false := by rfl)
    (hs' : swapsWithSole [.Subscript (.Name x xp) k pos'] v pos.line X.env = pure false := by rfl) (hw : swappedStores [.Subscript (.Name x xp) k pos'] v X.env = pure none := by rfl) (h1 : (assignEach [.Subscript (.Name x xp) k pos'] X.env).map (·.2) = [assign (.Subscript (.Name x xp) k pos') X.env] := by rfl)
    (ha : ∀ v, assign (.Subscript (.Name x xp) k pos') X.env v = (do
      let ov ← holding [v] (eval (.Name x xp) X.env)
      let iv ← holding [v, ov] (eval k X.env)
      standAt pos'
      holding [v, ov, iv] (setItem ov iv v)
      release [v, ov, iv] []) := by intro _; rfl) : QS X (.Assign [.Subscript (.Name x xp) k pos'] v pos) (dPut i pk pv) := by
  obtain ⟨t, t1, t2⟩ := hk
  obtain ⟨u, u1, u2⟩ := hv
  refine ⟨_, PS.or (ps_dput hu (L2.pv i hN hvis hd hcd) t1 u1 hs) (ps_asg u1 (pg_sub (L2.pv i hN hvis hd hcd) t1 set_list ha) hs' hw h1), fun pp HbE HE Hb H σ E Dn DD s so er h o => ?_⟩
  unfold dPut at h
  split at h
  · rename_i ks ds ei
    obtain ⟨p, q1, q2, q3⟩ := er.ow i _ ei
    obtain ⟨ws, hx, hks, hr⟩ := q3.top
    refine .inl (u2 pp HE Hb H σ E _ _ so er h fun v d Hb1 H1 s1 so1 r1 z1 => ?_)
    refine ⟨_, q1, t2 pp HE Hb1 H1 σ E _ _ so1 (er.step s1) z1 fun kv kd Hb2 H2 s2 so2 r2 z2 => ?_⟩
    have s12 := s1.trans s2
    split at z2
    · rename_i k ek
      have hx2 : H2 p = some (.dK ws) := s12.ex p _ q3.ne hx
      have hl : ws.length < sizeLine := by rw [← List.length_map (·.1), hks]; exact z2.1
      refine ⟨p, _, rfl, .inl ⟨ws, k, hx2, keyOf_rep so2 ek (.inl r2), hl, rfl⟩, ?_⟩
      obtain ⟨g1, g2, g3⟩ := mut_ok (u := .dK (putK ws k v)) (d' := .dic (ptK ks k) (ptD ks ds k d)) (s.trans s12) so2 (er.step s12) ei q1 ⟨_, upd_same, by rw [pt_keys, hks], by
        have e := pt_rep (k := k) (r1.le s2.le) (hr.le s12.le)
        rw [hks] at e; exact e⟩
      exact o.nx Hb2 _ σ _ g1 g2 g3 z2.2
    · exact z2.elim
  · rename_i ds ei
    obtain ⟨p, q1, q2, q3⟩ := er.ow i _ ei
    obtain ⟨xs, hx, hr⟩ := q3.top
    refine .inr (u2 pp HE Hb H σ E _ _ so er h fun v d Hb1 H1 s1 so1 r1 z1 => ?_)
    refine ⟨_, q1, t2 pp HE Hb1 H1 σ E _ _ so1 (er.step s1) z1 fun kv kd Hb2 H2 s2 so2 r2 z2 => ?_⟩
    have s12 := s1.trans s2
    split at z2
    · rename_i j
      split at z2
      · rename_i n en
        have hx2 : H2 p = some (.lst xs) := s12.ex p _ q3.ne hx
        unfold Rep at r2
        refine ⟨p, xs, j, n, rfl, r2, hx2, by rw [hr.length]; exact en, ?_⟩
        obtain ⟨g1, g2, g3⟩ := mut_ok (u := .lst (xs.set n v)) (d' := .lst (ds.set n d)) (s.trans s12) so2 (er.step s12) ei q1 ⟨_, upd_same, (hr.le s12.le).set n (r1.le s2.le)⟩
        exact o.nx Hb2 _ σ _ g1 g2 g3 z2
      · exact z2.elim
    · exact z2.elim
  · exact h.elim
/-- d.pop(k) of what is there, its value dropped; d in slot i -/
def dPopK (i : Nat) (pk : DX) : DS := fun DD E => match E[i]? with
  | some (.ow (.dic ks ds)) => pk E fun kd => match keyOf kd with
    | some k => (lk ks ds k).isSome = true ∧ DD.nx (E.set i (.ow (.dic (drK ks k) (drD ks ds k))))
    | none => False
  | _ => False
theorem s_popK (i : Nat) {x : Str} {xp apos cpos : Pos} (hk : QE X k pk) (hN : X.N[i]? = some x := by rfl) (hvis : Vis X.env.scope x := by first | exact Or.inl rfl | exact Or.inr (Or.inl rfl) | exact Or.inr (Or.inr rfl)) (hd : (x == ("__debug__" : Str)) = false := by decide)
    (hcd : (x == ("__classdict__" : Str)) = false := by decide) (m : M1 X (.Name x xp) "pop" apos k cpos := by exact ⟨rfl, rfl, rfl, rfl⟩) (hs : swapsWith (.Call (.Attribute (.Name x xp) "pop" apos) [k] [] cpos) none pos.line X.env = pure false := by rfl) :
    QS X (.Expr (.Call (.Attribute (.Name x xp) "pop" apos) [k] [] cpos) pos) (dPopK i pk) := by
  obtain ⟨t, t1, t2⟩ := hk
  refine ⟨_, ps_expr (pe_dpop1 (L2.pv i hN hvis hd hcd) t1 m) hs, fun pp HbE HE Hb H σ E Dn DD s so er h o => ?_⟩
  unfold dPopK at h
  split at h
  · rename_i ks ds ei
    obtain ⟨p, q1, q2, q3⟩ := er.ow i _ ei
    obtain ⟨ws, hx, hks, hr⟩ := q3.top
    refine ⟨_, q1, p, rfl, .inl ⟨ws, .inl hx⟩, t2 pp HE Hb H σ E _ _ so er h fun kv kd Hb2 H2 s2 so2 r2 z2 => ?_⟩
    split at z2
    · rename_i k ek
      have hx2 : H2 p = some (.dK ws) := s2.ex p _ q3.ne hx
      cases el : lk ks ds k with
      | none => rw [el] at z2; simp at z2
      | some d =>
        subst hks
        obtain ⟨v, hv, _⟩ := (lk_val hr).1 d el
        refine ⟨ws, k, v, hx2, keyOf_rep so2 ek (.inl r2), hv, ?_⟩
        obtain ⟨g1, g2, g3⟩ := mut_ok (u := .dK (dropK ws k)) (d' := .dic (drK (ws.map (·.1)) k) (drD (ws.map (·.1)) ds k)) (s.trans s2) so2 (er.step s2) ei q1 ⟨_, upd_same, dr_keys _ _, dr_rep (hr.le s2.le)⟩
        exact o.nx Hb2 _ σ _ g1 g2 g3 z2.2
    · exact z2.elim
  · exact h.elim
end

/-! ### a dict is locked -/
def lkF (a : Addr) (o u : HO) : Hp → Hp := fun G b => if b = a then (match G a with | none => none | some _ => some o) else G b
section
variable {pp a : Addr} {K : FK} {HbE HE Hb H Hb2 H2 : Hp} {od : Obj} {u : HO} {σ : L2.St} {E : List Sl}
theorem lkF_ne {o : HO} {G : Hp} {b : Addr} (h : b ≠ a) : lkF a o u G b = G b := by unfold lkF; rw [if_neg h]
theorem lkF_at {o w : HO} {G : Hp} (h : G a = some w) : lkF a o u G a = some o := by unfold lkF; rw [if_pos rfl, h]
theorem lkF_none {o : HO} {G : Hp} {b : Addr} : lkF a o u G b = none ↔ G b = none := by
  by_cases e : b = a
  · subst e
    unfold lkF
    rw [if_pos rfl]
    cases G b <;> simp
  · rw [lkF_ne e]
theorem lkF_upd {o w : HO} {G : Hp} (h : G a = some w) : lkF a o u G = upd G a o := by
  funext b
  by_cases e : b = a
  · subst e; rw [lkF_at h, upd_same]
  · rw [lkF_ne e, upd_ne e]
/-- what may be locked -/
structure CanLock (pp : Addr) (a : Addr) (u : HO) (Hb H : Hp) : Prop where
  hb : Hb a = some u
  hh : H a = some u
  ne : a ≠ pp
  pl : Pln u
  nl : ∀ xs, u ≠ .lst xs
theorem le_lock (c : CanLock pp a u Hb H) : Le Hb (upd Hb a (.frz od u)) := ⟨fun b w pl r => by
  by_cases e : b = a
  · subst e
    rcases r with r | ⟨o, r⟩
    · rw [c.hb] at r; cases r; exact .inr ⟨od, upd_same⟩
    · rw [c.hb] at r; cases r; exact (c.pl).elim
  · rcases r with r | ⟨o, r⟩
    · exact .inl (by rw [upd_ne e]; exact r)
    · exact .inr ⟨o, by rw [upd_ne e]; exact r⟩, fun b xs r => by
  by_cases e : b = a
  · subst e; rw [c.hb] at r; cases r; exact (c.nl _ rfl).elim
  · rw [upd_ne e]; exact r⟩
theorem le_unlock (h : Hb2 a = some (.frz od u)) : Le Hb2 (upd Hb2 a u) := ⟨fun b w pl r => by
  by_cases e : b = a
  · subst e
    rcases r with r | ⟨o, r⟩
    · rw [h] at r; cases r; exact pl.elim
    · rw [h] at r; cases r; exact .inl upd_same
  · rcases r with r | ⟨o, r⟩
    · exact .inl (by rw [upd_ne e]; exact r)
    · exact .inr ⟨o, by rw [upd_ne e]; exact r⟩, fun b xs r => by
  by_cases e : b = a
  · subst e; rw [h] at r; cases r
  · rw [upd_ne e]; exact r⟩
theorem lock_ok (c : CanLock pp a u Hb H) (s : Step pp HbE HE Hb H) (so : SOk pp K Hb H) (er : ER pp K HE Hb H σ E) :
    Step pp (lkF a (.frz od u) u HbE) (lkF a (.frz od u) u HE) (upd Hb a (.frz od u)) (upd H a (.frz od u)) ∧ SOk pp K (upd Hb a (.frz od u)) (upd H a (.frz od u)) ∧ ER pp K (lkF a (.frz od u) u HE) (upd Hb a (.frz od u)) (upd H a (.frz od u)) σ E := by
  have same : ∀ {G G' : Hp}, (∀ b o, b ≠ pp → G b = some o → G' b = some o) → G' a = some u → ∀ b o, b ≠ pp → lkF a (.frz od u) u G b = some o → upd G' a (.frz od u) b = some o := fun h hg b o hb q => by
    by_cases e : b = a
    · subst e
      unfold lkF at q
      rw [if_pos rfl] at q
      rw [upd_same]
      split at q
      · cases q
      · exact q
    · rw [lkF_ne e] at q
      rw [upd_ne e]; exact h b o hb q
  refine ⟨⟨fun b o q => ?_, same s.ex c.hh, fun b q => ?_, fun b q1 q2 => ?_⟩, ⟨fun b o q => ?_, by rw [upd_ne (Ne.symm c.ne)]; exact so.np, ?_⟩, ⟨er.len, fun i d e => ?_, fun i d e => ?_, er.ds⟩⟩
  · by_cases e : b = a
    · subst e
      unfold lkF at q
      rw [if_pos rfl] at q
      rw [upd_same]
      split at q
      · cases q
      · exact q
    · rw [lkF_ne e] at q
      rw [upd_ne e]; exact s.sb b o q
  · by_cases e : b = a
    · subst e; rw [upd_same]; exact fun z => nomatch z
    · rw [upd_ne e]; exact s.st b fun z => q (lkF_none.mpr z)
  · have h1 := lkF_none.mp q1
    have h3 := s.nw b h1 fun z => q2 (lkF_none.mpr z)
    by_cases e : b = a
    · subst e; rw [c.hb] at h3; cases h3
    · rw [upd_ne e]; exact h3
  · by_cases e : b = a
    · subst e; rw [upd_same] at q ⊢; exact q
    · rw [upd_ne e] at q ⊢; exact so.le b o q
  · obtain ⟨a', ns, i, n, k, h1, h2⟩ := so.pool
    exact ⟨a', ns, i, n, k, by rw [upd_ne (Ne.symm c.ne)]; exact h1, (le_lock c).sqL h2⟩
  · obtain ⟨v, h1, h2⟩ := er.sh i d e
    exact ⟨v, h1, h2.le (le_lock c)⟩
  · obtain ⟨p, h1, h2, h3⟩ := er.ow i d e
    have hne : p ≠ a := fun z => by subst z; have q := c.hb; rw [h3.nb] at q; cases q
    exact ⟨p, h1, lkF_none.mpr h2, ⟨by rw [upd_ne hne]; exact h3.nb, h3.ne, Top.step (le_lock c) (fun o h => by rw [upd_ne hne]; exact h) h3.top⟩⟩
theorem unlock_ok (c : CanLock pp a u Hb H) (s : Step pp HbE HE Hb H) (s2 : Step pp (lkF a (.frz od u) u HbE) (lkF a (.frz od u) u HE) Hb2 H2) (hb2 : Hb2 a = some (.frz od u)) (so2 : SOk pp K Hb2 H2) :
    Step pp HbE HE (upd Hb2 a u) (upd H2 a u) ∧ SOk pp K (upd Hb2 a u) (upd H2 a u) := by
  refine ⟨⟨fun b o q => ?_, fun b o hb q => ?_, fun b q => ?_, fun b q1 q2 => ?_⟩, ⟨fun b o q => ?_, by rw [upd_ne (Ne.symm c.ne)]; exact so2.np, ?_⟩⟩
  · by_cases e : b = a
    · subst e
      have z := s.sb b o q
      rw [c.hb] at z; cases z
      exact upd_same
    · rw [upd_ne e]; exact s2.sb b o (by rw [lkF_ne e]; exact q)
  · by_cases e : b = a
    · subst e
      have z := s.ex b o hb q
      rw [c.hh] at z; cases z
      exact upd_same
    · rw [upd_ne e]; exact s2.ex b o hb (by rw [lkF_ne e]; exact q)
  · by_cases e : b = a
    · subst e; rw [upd_same]; exact fun z => nomatch z
    · rw [upd_ne e]; exact s2.st b fun z => q (lkF_none.mp z)
  · have h3 := s2.nw b (lkF_none.mpr q1) fun z => q2 (lkF_none.mp z)
    by_cases e : b = a
    · subst e; rw [hb2] at h3; cases h3
    · rw [upd_ne e]; exact h3
  · by_cases e : b = a
    · subst e; rw [upd_same] at q ⊢; exact q
    · rw [upd_ne e] at q ⊢; exact so2.le b o q
  · obtain ⟨a', ns, i, n, k, h1, h2⟩ := so2.pool
    exact ⟨a', ns, i, n, k, by rw [upd_ne (Ne.symm c.ne)]; exact h1, (le_unlock hb2).sqL h2⟩
theorem unlock_er (hb2 : Hb2 a = some (.frz od u)) (er : ER pp K (lkF a (.frz od u) u HE) Hb2 H2 σ E) : ER pp K HE (upd Hb2 a u) (upd H2 a u) σ E := by
  refine ⟨er.len, fun i d e => ?_, fun i d e => ?_, er.ds⟩
  · obtain ⟨v, h1, h2⟩ := er.sh i d e
    exact ⟨v, h1, h2.le (le_unlock hb2)⟩
  · obtain ⟨p, h1, h2, h3⟩ := er.ow i d e
    have hne : p ≠ a := fun z => by subst z; have := h3.nb; rw [hb2] at this; cases this
    exact ⟨p, h1, lkF_none.mp h2, ⟨by rw [upd_ne hne]; exact h3.nb, h3.ne, Top.step (le_unlock hb2) (fun o h => by rw [upd_ne hne]; exact h) h3.top⟩⟩
end

/-! ### for k in d -/
theorem for_read {K : FK} {wi : TI} {tg' : TG} {tb : TS} {pi : DI} {g : DG} {p : DS} {pp : Addr} {HbE HE Hb H : Hp} {σ : L2.St} {E : List Sl} {Dn : Ends} {DD : DEnds}
    (i2 : ∀ (R : It → Hp → Prop) (QD : List D → Prop), pi E QD → (∀ J items Hb' H', Step pp Hb H Hb' H' → SOk pp K Hb' H' → WalkJ pp K Hb' J items → QD items → R J H') → wi σ H R)
    (g2 : ∀ (pp : Addr) (HE Hb H : Hp) (σ : L2.St) (E : List Sl) (v : V) (d : D) (Q : L2.St → Hp → Prop) (QD : List Sl → Prop), SOk pp K Hb H → ER pp K HE Hb H σ E → Rep pp K Hb d v → g d E QD → (∀ σ' E', ER pp K HE Hb H σ' E' → QD E' → Q σ' H) → tg' v σ H Q)
    (b2 : RS K tb p) (s : Step pp HbE HE Hb H) (so : SOk pp K Hb H) (er : ER pp K HE Hb H σ E) (h : dFor pi g p DD E) (oc : EndsOk pp K Hb HE Dn DD) : tFor wi tg' tb Dn σ H := by
  refine i2 _ _ h fun J items Hb0 H0 s0 so0 wk q0 => ?_
  have sE := s.trans s0
  have oc := oc.cut (s.here.trans s0)
  refine ⟨fun i m σ H => m = items.length - i ∧ i ≤ items.length ∧ ∃ Hb E, Step pp Hb0 HE Hb H ∧ SOk pp K Hb H ∧ ER pp K HE Hb H σ E ∧ forL g p DD (items.drop i) E, ⟨items.length, rfl, Nat.zero_le _, Hb0, E, sE.here, so0, er.step s0, by simpa using q0⟩, ?_⟩
  rintro i m σ1 H1 ⟨rfl, hi, Hb1, E1, s1, so1, er1, f1⟩
  have w1 := wk Hb1 H1 s1.sb so1 i
  by_cases hlt : i < items.length
  · have ed : items[i]? = some items[i] := by simp [hlt]
    obtain ⟨go, yl⟩ := w1.1 _ ed
    rw [List.drop_eq_getElem_cons hlt] at f1
    refine .inr ⟨go, fun σ' H' => (items.length - (i + 1)) = items.length - (i + 1) ∧ i + 1 ≤ items.length ∧ ∃ Hb E, Step pp Hb0 HE Hb H' ∧ SOk pp K Hb H' ∧ ER pp K HE Hb H' σ' E ∧ forL g p DD (items.drop (i + 1)) E, fun σ' H' w => ⟨items.length - (i + 1), by omega, w⟩, fun x H2 y => ?_⟩
    obtain ⟨Hb2, s2, so2, r2⟩ := yl x H2 y
    refine g2 pp HE Hb2 H2 σ1 E1 _ _ _ _ so2 (er1.step s2) r2 f1 fun σ' E' er' q' => ?_
    exact b2 pp Hb0 HE Hb2 H2 σ' E' _ _ (s1.trans s2) so2 er' q' ⟨fun Hb H σ E s so er h => ⟨rfl, hlt, Hb, E, s, so, er, h⟩, oc.rt, oc.nx, fun Hb H σ E s so er h => ⟨rfl, hlt, Hb, E, s, so, er, h⟩⟩
  · have e : i = items.length := by omega
    subst e
    refine .inl ⟨w1.2 rfl, ?_⟩
    rw [List.drop_length] at f1
    exact oc.nx Hb1 H1 σ1 E1 s1 so1 er1 f1
def keyD : Key → D
  | .inl i => .int i
  | .inr x => .str x
theorem keyD_rep {pp : Addr} {K : FK} {H : Hp} (k : Key) : Rep pp K H (keyD k) (kV k) := by
  cases k
  · exact rep_int
  · exact rep_str
theorem walk_keys {pp : Addr} {K : FK} {Hb : Hp} {a : Addr} {o : Obj} {ws : List (Key × V)} (h : Hb a = some (.frz o (.dK ws))) : WalkJ pp K Hb (Itk a o ws) ((ws.map (·.1)).map keyD) := by
  intro Hb1 H1 sm so i
  have h1 : H1 a = some (.frz o (.dK ws)) := so.le _ _ (sm _ _ h)
  refine ⟨fun d ed => ?_, fun e => ⟨h1, by rw [e]; simp⟩⟩
  have hi : i < ws.length := by
    have := (List.getElem?_eq_some_iff.mp ed).1
    simpa using this
  refine ⟨⟨h1, hi⟩, fun x H2 y => ?_⟩
  obtain ⟨e2, k, v, ek, rfl⟩ := y
  subst e2
  have e3 : d = keyD k := by
    rw [List.getElem?_map, List.getElem?_map, ek] at ed
    exact (Option.some.inj ed).symm
  subst e3
  exact ⟨Hb1, .refl, so, keyD_rep k⟩
/-- the keys of the dict in slot i -/
def dKeys (i : Nat) : DI := fun E Q => match E[i]? with
  | some (.sh (.dic ks _)) => Q (ks.map keyD)
  | _ => False
section
variable {X : Cx} {tg : Expr} {sts : List Stmt} {p : DS} {g : DG} {pos : Pos}
theorem keys_run {pp : Addr} {Hb H : Hp} {σ : L2.St} {E : List Sl} {i : Nat} {a : Addr} {o : Obj} {ws : List (Key × V)} {ds : List D} {ks : List Key} (so : SOk pp X.K Hb H) (ei : E[i]? = some (.sh (.dic ks ds))) (hσ : σ[i]? = some (some (.ref a))) (hb : Hb a = some (.frz o (.dK ws))) (hk : ws.map (·.1) = ks)
    (R : It → Hp → Prop) (QD : List D → Prop) (h : dKeys i E QD) (k : ∀ J items Hb' H', Step pp Hb H Hb' H' → SOk pp X.K Hb' H' → WalkJ pp X.K Hb' J items → QD items → R J H') : iKeys (tVar i) σ H R := by
  unfold dKeys at h
  rw [ei] at h
  exact ⟨_, hσ, a, o, rfl, .inl ⟨ws, so.le _ _ hb, k _ _ Hb H .refl so (walk_keys hb) (by rw [hk]; exact h)⟩⟩
theorem s_forK (i : Nat) {x : Str} {xp : Pos} (hp : PassesOwn (model X.prog X.w) X.A X.env X.xe) (hc : X.calm = true) (hg : QG X tg g) (hb : QSs X sts p) (hN : X.N[i]? = some x := by rfl) (hvis : Vis X.env.scope x := by first | exact Or.inl rfl | exact Or.inr (Or.inl rfl) | exact Or.inr (Or.inr rfl)) (hd : (x == ("__debug__" : Str)) = false := by decide)
    (hcd : (x == ("__classdict__" : Str)) = false := by decide) (hs : ∀ y, foldedSetIterable (.Name x xp) X.env y = pure y := by intro _; rfl) : QS X (.For tg (.Name x xp) sts [] pos) (dFor (dKeys i) g p) := by
  obtain ⟨tg', g1, g2⟩ := hg
  obtain ⟨tb, b1, b2⟩ := hb
  have base := ps_for (pos := pos) hp hc (pi_keys (L2.pv i hN hvis hd hcd)) g1 b1 hs
  refine ⟨_, PS.or (ps_lock base) base, fun pp HbE HE Hb H σ E Dn DD s so er h o => ?_⟩
  have ei : ∃ ks ds, E[i]? = some (.sh (.dic ks ds)) := by
    have h' := h
    unfold dFor dKeys at h'
    split at h'
    · exact ⟨_, _, by assumption⟩
    · exact h'.elim
  obtain ⟨ks, ds, ei⟩ := ei
  obtain ⟨v, h1, h2⟩ := er.sh i _ ei
  unfold Rep at h2
  obtain ⟨a, ws, rfl, h3, h4, h5⟩ := h2
  rcases h3 with h3 | ⟨oo, h3⟩
  · have c : CanLock pp a (.dK ws) Hb H := ⟨h3, so.le _ _ h3, (fun z => by subst z; rw [so.np] at h3; cases h3), trivial, (fun xs z => nomatch z)⟩
    refine .inl ⟨a, .dK ws, c.hh, trivial, fun od => ?_⟩
    obtain ⟨s1, so1, er1⟩ := lock_ok (od := od) c s so er
    have fz : ∀ {Hb2 H2 : Hp}, Step pp (upd Hb a (.frz od (.dK ws))) (lkF a (.frz od (.dK ws)) (.dK ws) HE) Hb2 H2 → Hb2 a = some (.frz od (.dK ws)) := fun s2 => s2.sb a _ upd_same
    refine for_read (pi := dKeys i) (g := g) (p := p) (DD := DD) (fun R QD q k => keys_run so1 ei h1 upd_same h4 R QD q k) g2 b2 s1 so1 er1 h ⟨fun Hb2 H2 σ2 E2 s2 so2 er2 q => ?_, fun Hb2 H2 v2 d2 s2 so2 r2 q => ?_, fun Hb2 H2 σ2 E2 s2 so2 er2 q => ?_, fun Hb2 H2 σ2 E2 s2 so2 er2 q => ?_⟩
    · obtain ⟨u1, u2⟩ := unlock_ok (u := .dK ws) c s (s1.cut s2) (fz s2) so2
      exact ⟨so2.le _ _ (fz s2), o.nx _ _ σ2 E2 u1 u2 (unlock_er (fz s2) er2) q⟩
    · obtain ⟨u1, u2⟩ := unlock_ok (u := .dK ws) c s (s1.cut s2) (fz s2) so2
      exact ⟨so2.le _ _ (fz s2), o.rt _ _ v2 d2 u1 u2 (r2.le (le_unlock (fz s2))) q⟩
    · obtain ⟨u1, u2⟩ := unlock_ok (u := .dK ws) c s (s1.cut s2) (fz s2) so2
      exact ⟨so2.le _ _ (fz s2), o.bk _ _ σ2 E2 u1 u2 (unlock_er (fz s2) er2) q⟩
    · obtain ⟨u1, u2⟩ := unlock_ok (u := .dK ws) c s (s1.cut s2) (fz s2) so2
      exact ⟨so2.le _ _ (fz s2), o.ct _ _ σ2 E2 u1 u2 (unlock_er (fz s2) er2) q⟩
  · exact .inr (for_read (pi := dKeys i) (g := g) (p := p) (DD := DD) (fun R QD q k => keys_run so ei h1 h3 h4 R QD q k) g2 b2 s so er h (o.cut s))
end
end DL

namespace DL
open PySem PySem.Spec PyProof.Rows L2

section
variable {pp a : Addr} {K : FK} {HE Hb H : Hp} {od : Obj} {u : HO} {σ : L2.St} {E : List Sl}
theorem lock_so (c : CanLock pp a u Hb H) (so : SOk pp K Hb H) : Step pp (upd Hb a (.frz od u)) (upd H a (.frz od u)) (upd Hb a (.frz od u)) (upd H a (.frz od u)) ∧ SOk pp K (upd Hb a (.frz od u)) (upd H a (.frz od u)) := by
  refine ⟨.refl, ⟨fun b o q => ?_, by rw [upd_ne (Ne.symm c.ne)]; exact so.np, ?_⟩⟩
  · by_cases e : b = a
    · subst e; rw [upd_same] at q ⊢; exact q
    · rw [upd_ne e] at q ⊢; exact so.le b o q
  · obtain ⟨a', ns, i, n, k, h1, h2⟩ := so.pool
    exact ⟨a', ns, i, n, k, by rw [upd_ne (Ne.symm c.ne)]; exact h1, (le_lock c).sqL h2⟩
theorem lock_er (c : CanLock pp a u Hb H) (er : ER pp K HE Hb H σ E) : ER pp K HE (upd Hb a (.frz od u)) (upd H a (.frz od u)) σ E := by
  refine ⟨er.len, fun i d e => ?_, fun i d e => ?_, er.ds⟩
  · obtain ⟨v, h1, h2⟩ := er.sh i d e
    exact ⟨v, h1, h2.le (le_lock c)⟩
  · obtain ⟨p, h1, h2, h3⟩ := er.ow i d e
    have hne : p ≠ a := fun z => by subst z; have q := c.hb; rw [h3.nb] at q; cases q
    exact ⟨p, h1, h2, ⟨by rw [upd_ne hne]; exact h3.nb, h3.ne, Top.step (le_lock c) (fun o h => by rw [upd_ne hne]; exact h) h3.top⟩⟩
end
section
variable {X : Cx} {elt tg : Expr} {ifs : List Expr} {scope : Scope} {pos : Pos} {g : DG} {c : DT} {p : DX}
theorem PE.or {e : Expr} {t u : TE} (h : PE X e t) (h' : PE X e u) : PE X e (fun σ H Q => t σ H Q ∨ u σ H Q) := by
  refine ⟨fun pins s σ H Q I q => ?_⟩
  rcases q with q | q
  · exact h.run pins s σ H Q I q
  · exact h'.run pins s σ H Q I q
/-- [e for k in d], d in slot i -/
theorem f_lcK {vs : List Nat} (i : Nat) {x : Str} {xp : Pos} (own : List (Str × Nat)) (hc : X.calm = true) (hN : X.N.Nodup) {N0 : List Str} {sc0 : Scope} (ok : blkC N0 sc0 scope own = true) (hv : own.map (·.2) = vs)
    (hg : ∀ (s : Shared) (H : Hp) (C : Addr) (cl : List (Str × Addr)) (fp : List Addr), QGv (X.blk s H scope (compEnvC scope cl C X.env) fp) tg vs g) (ht : ∀ (s : Shared) (H : Hp) (C : Addr) (cl : List (Str × Addr)) (fp : List Addr), QTs (X.blk s H scope (compEnvC scope cl C X.env) fp) ifs c)
    (he : ∀ (s : Shared) (H : Hp) (C : Addr) (cl : List (Str × Addr)) (fp : List Addr), QE (X.blk s H scope (compEnvC scope cl C X.env) fp) elt p)
    (hNi : X.N[i]? = some x := by rfl) (hvis : Vis X.env.scope x := by first | exact Or.inl rfl | exact Or.inr (Or.inl rfl) | exact Or.inr (Or.inr rfl)) (hd : (x == ("__debug__" : Str)) = false := by decide)
    (hcd : (x == ("__classdict__" : Str)) = false := by decide) (hs : ∀ y, foldedSetIterable (.Name x xp) X.env y = pure y := by intro _; rfl) (eN : X.N = N0 := by rfl) (eS : X.env.scope = sc0 := by rfl) :
    QF X (.ListComp elt [⟨tg, .Name x xp, ifs, 0⟩] scope pos) (dLc (dKeys i) g vs c p) := by
  subst hv eN eS
  have base := pe_lc (pos := pos) (g := TGvof X.K (own.map (·.2)) g) (tt := TTof X.K c) (te := TEof X.K p) hc hN (pi_keys (L2.pv i hNi hvis hd hcd)) (blkOk_by ok) (fun s H C cl fp => (hg s H C cl fp).pg) (fun s H C cl fp => (ht s H C cl fp).pts) (fun s H C cl fp => (he s H C cl fp).pe) hs
  refine ⟨_, PE.or (pe_lock base) base, fun pp HE Hb H σ E Q QD so er hp k => ?_⟩
  have ei : ∃ ks ds, E[i]? = some (.sh (.dic ks ds)) := by
    have h' := hp
    unfold dLc dKeys at h'
    split at h'
    · exact ⟨_, _, by assumption⟩
    · exact h'.elim
  obtain ⟨ks, ds, ei⟩ := ei
  obtain ⟨v, h1, h2⟩ := er.sh i _ ei
  unfold Rep at h2
  obtain ⟨a, ws, rfl, h3, h4, h5⟩ := h2
  rcases h3 with h3 | ⟨oo, h3⟩
  · have cl : CanLock pp a (.dK ws) Hb H := ⟨h3, so.le _ _ h3, (fun z => by subst z; rw [so.np] at h3; cases h3), trivial, (fun xs z => nomatch z)⟩
    refine .inl ⟨a, .dK ws, cl.hh, trivial, fun od => ?_⟩
    obtain ⟨s1, so1⟩ := lock_so (od := od) cl so
    have er1 := lock_er (od := od) cl er
    refine lc_read (pi := dKeys i) (g := g) (c := c) (p := p) (QD := QD) (fun R QD q k => keys_run so1 ei h1 upd_same h4 R QD q k) so1 er1 hp fun L d Hb2 H2 s2 so2 hn o2 q2 => ?_
    have hb2 : Hb2 a = some (.frz od (.dK ws)) := s2.sb a _ upd_same
    have hne : L ≠ a := fun z => by subst z; rw [upd_same] at hn; cases hn
    rw [← lkF_upd (u := .dK ws) cl.hb, ← lkF_upd (u := .dK ws) cl.hh] at s2
    obtain ⟨u1, u2⟩ := unlock_ok (u := .dK ws) cl .refl s2 hb2 so2
    exact ⟨so2.le _ _ hb2, k L d _ _ u1 u2 (by rw [upd_ne hne] at hn; exact hn) ⟨by rw [upd_ne hne]; exact o2.nb, o2.ne, Top.step (le_unlock hb2) (fun o h => by rw [upd_ne hne]; exact h) o2.top⟩ q2⟩
  · exact .inr (lc_read (fun R QD q k => keys_run so ei h1 h3 h4 R QD q k) so er hp k)
end

/-! ### sorted, list(range(..)) -/
section
variable {X : Cx} {a b c e : Expr} {es : List Expr} {pa pb pc pe : DX} {pos : Pos}
def isInl : Key → Option Int
  | .inl i => some i
  | .inr _ => none
def isInr : Key → Option Str
  | .inl _ => none
  | .inr i => some i
def inls : List Key → Option (List Int)
  | [] => some []
  | .inl i :: r => (inls r).map (i :: ·)
  | _ => none
def inrs : List Key → Option (List Str)
  | [] => some []
  | .inr i :: r => (inrs r).map (i :: ·)
  | _ => none
theorem inls_eq : ∀ {ks : List Key} {ns : List Int}, inls ks = some ns → ks = ns.map Sum.inl
  | [], ns, h => by simp [inls] at h; subst h; rfl
  | .inl i :: r, ns, h => by
    simp [inls] at h
    obtain ⟨m, h1, rfl⟩ := h
    rw [inls_eq h1]; rfl
  | .inr i :: r, ns, h => by simp [inls] at h
theorem inls_map (ns : List Int) : inls (ns.map Sum.inl) = some ns := by
  induction ns with
  | nil => rfl
  | cons b bs ih => simp [inls, ih]
theorem inrs_eq : ∀ {ks : List Key} {ns : List Str}, inrs ks = some ns → ks = ns.map Sum.inr
  | [], ns, h => by simp [inrs] at h; subst h; rfl
  | .inr i :: r, ns, h => by
    simp [inrs] at h
    obtain ⟨m, h1, rfl⟩ := h
    rw [inrs_eq h1]; rfl
  | .inl i :: r, ns, h => by simp [inrs] at h
theorem inrs_map (ns : List Str) : inrs (ns.map Sum.inr) = some ns := by
  induction ns with
  | nil => rfl
  | cons b bs ih => simp [inrs, ih]
/-- sorted of a dict with int keys: any sorted list of the keys -/
def rdSortedI : List D → (D → Prop) → Prop := fun ds Q => match ds with
  | [.dic ks _] => match inls ks with
    | some ns => ns.length < 64 ∧ ∀ ys : List Int, ys.Perm ns → ys.Pairwise (· ≤ ·) → Q (.lst (ys.map D.int))
    | none => False
  | _ => False
theorem cdf_sortedI (hc : X.calm = true) : CDF X (.builtin "sorted") rdSortedI := by
  refine ⟨_, call_sortedDI hc, fun pp Hb H xs ds Q QD so r h k => ?_⟩
  unfold rdSortedI at h
  split at h
  · split at h
    · rename_i ns e
      obtain ⟨v, rfl, y⟩ := r.one
      obtain ⟨a, ws, rfl, h1, hk, r1⟩ := y.dic so
      refine ⟨a, ws, ns, rfl, h1, by rw [hk]; exact inls_eq e, h.1, fun ys p pm sr hp => ?_⟩
      obtain ⟨s2, so2⟩ := lay_own (u := .lst (ys.map V.int)) so hp
      exact k p (.lst _) _ _ s2 so2 hp ⟨so.nb hp, so.ne hp, ⟨_, upd_same, rep_ints ys⟩⟩ (h.2 ys pm sr)
    · exact h.elim
  · exact h.elim
def rdSortedS : List D → (D → Prop) → Prop := fun ds Q => match ds with
  | [.dic ks _] => match inrs ks with
    | some ns => ns.length < 64 ∧ ∀ ys : List Str, ys.Perm ns → sortedS ys = true → Q (.lst (ys.map D.str))
    | none => False
  | _ => False
theorem cdf_sortedS (hc : X.calm = true) : CDF X (.builtin "sorted") rdSortedS := by
  refine ⟨_, call_sortedD hc, fun pp Hb H xs ds Q QD so r h k => ?_⟩
  unfold rdSortedS at h
  split at h
  · split at h
    · rename_i ns e
      obtain ⟨v, rfl, y⟩ := r.one
      obtain ⟨a, ws, rfl, h1, hk, r1⟩ := y.dic so
      refine ⟨a, ws, ns, rfl, h1, by rw [hk]; exact inrs_eq e, h.1, fun ys p pm sr hp => ?_⟩
      obtain ⟨s2, so2⟩ := lay_own (u := .lst (ys.map V.str)) so hp
      exact k p (.lst _) _ _ s2 so2 hp ⟨so.nb hp, so.ne hp, ⟨_, upd_same, rep_strs ys⟩⟩ (h.2 ys pm sr)
    · exact h.elim
  · exact h.elim
theorem rgV_eq (a b : Int) : rgV a b = (rangeD a (b - a).toNat).map fun d => match d with | .int i => V.int i | _ => .non := by
  unfold rgV rangeD
  rw [List.map_map]
  rfl
theorem rep_range {pp : Addr} {K : FK} {H : Hp} (a b : Int) : RepL pp K H (rangeD a (b - a).toNat) (rgV a b) := by
  have e1 : rangeD a (b - a).toNat = ((List.range (b - a).toNat).map fun i => a + (i : Nat)).map D.int := by
    unfold rangeD; rw [List.map_map]; rfl
  have e2 : rgV a b = ((List.range (b - a).toNat).map fun i => a + (i : Nat)).map V.int := by
    unfold rgV; rw [List.map_map]; rfl
  rw [e1, e2]
  exact rep_ints _
def dLstRg (pa pb : DX) : DX := fun E Q => pa E fun x => pb E fun y => match x, y with
  | .int i, .int j => RgOk i j ∧ Q (.lst (rangeD i (j - i).toNat))
  | _, _ => False
theorem f_listRg2 {p p2 pos2 : Pos} (hc : X.calm = true) (hg : Gl X "list") (hm : X.mg "list" = none) (hg2 : Gl X "range") (hm2 : X.mg "range" = none) (ha : QE X a pa) (hb : QE X b pb)
    (n1 : starEach [a, b] X.env = (false, eval a X.env) :: starEach [b] X.env := by rfl) (n2 : starEach [b] X.env = (false, eval b X.env) :: starEach [] X.env := by rfl) (hp : (backTo pos2 (starEach [b] X.env)).any (·.1) = false := by rfl)
    (na : starEach [Expr.Call (.Name "range" p2) [a, b] [] pos2] X.env = (false, eval (.Call (.Name "range" p2) [a, b] [] pos2) X.env) :: starEach [] X.env := by rfl) :
    QF X (.Call (.Name "list" p) [.Call (.Name "range" p2) [a, b] [] pos2] [] pos) (dLstRg pa pb) := by
  obtain ⟨t, t1, t2⟩ := ha
  obtain ⟨u, u1, u2⟩ := hb
  refine ⟨_, pe_listRg hc hg hm (prg_2 hg2 hm2 t1 u1 n1 n2 hp) na, fun pp HE Hb H σ E Q QD so er hp k => ?_⟩
  refine t2 pp HE Hb H σ E _ _ so er hp fun v d Hb1 H1 s1 so1 r1 q1 => ?_
  refine u2 pp HE Hb1 H1 σ E _ _ so1 (er.step s1) q1 fun v2 d2 Hb2 H2 s2 so2 r2 q2 => ?_
  split at q2
  · unfold Rep at r1 r2
    refine ⟨_, _, r1, r2, q2.1, fun l hl => ?_⟩
    obtain ⟨s3, so3⟩ := lay_own (u := .lst (rgV _ _)) so2 hl
    have s12 := s1.trans s2
    refine k l (.lst _) _ _ (s12.trans s3) so3 ?_ ⟨so2.nb hl, so2.ne hl, ⟨_, upd_same, rep_range _ _⟩⟩ q2.2
    cases z : H l with
    | none => rfl
    | some w => exact absurd hl (s12.st l (by rw [z]; exact fun y => nomatch y))
  · exact q2.elim

/-! ### chains of two comparisons -/
theorem chain_read {K : FK} {t u w : TE} {o o' : R2} {r r' : RD} {pp : Addr} {HE Hb H : Hp} {σ : L2.St} {E : List Sl} {Q : VK} {QD : D → Prop}
    (t2 : ∀ (pp : Addr) (HE Hb H : Hp) (σ : L2.St) (E : List Sl) (Q : VK) (QD : D → Prop), SOk pp K Hb H → ER pp K HE Hb H σ E → pa E QD → (∀ v d Hb' H', Step pp Hb H Hb' H' → SOk pp K Hb' H' → Rep pp K Hb' d v → QD d → Q v H') → t σ H Q)
    (u2 : ∀ (pp : Addr) (HE Hb H : Hp) (σ : L2.St) (E : List Sl) (Q : VK) (QD : D → Prop), SOk pp K Hb H → ER pp K HE Hb H σ E → pb E QD → (∀ v d Hb' H', Step pp Hb H Hb' H' → SOk pp K Hb' H' → Rep pp K Hb' d v → QD d → Q v H') → u σ H Q)
    (w2 : ∀ (pp : Addr) (HE Hb H : Hp) (σ : L2.St) (E : List Sl) (Q : VK) (QD : D → Prop), SOk pp K Hb H → ER pp K HE Hb H σ E → pc E QD → (∀ v d Hb' H', Step pp Hb H Hb' H' → SOk pp K Hb' H' → Rep pp K Hb' d v → QD d → Q v H') → w σ H Q)
    (o2 : ∀ (pp : Addr) (Hb H : Hp) (x y : V) (dx dy : D) (Q : VK) (QD : D → Prop), SOk pp K Hb H → RepT pp K Hb H dx x → RepT pp K Hb H dy y → r dx dy QD → (∀ v d Hb' H', Step pp Hb H Hb' H' → SOk pp K Hb' H' → Rep pp K Hb' d v → QD d → Q v H') → o x y H Q)
    (o2' : ∀ (pp : Addr) (Hb H : Hp) (x y : V) (dx dy : D) (Q : VK) (QD : D → Prop), SOk pp K Hb H → RepT pp K Hb H dx x → RepT pp K Hb H dy y → r' dx dy QD → (∀ v d Hb' H', Step pp Hb H Hb' H' → SOk pp K Hb' H' → Rep pp K Hb' d v → QD d → Q v H') → o' x y H Q)
    (so : SOk pp K Hb H) (er : ER pp K HE Hb H σ E) (hp : dChain r r' pa pb pc E QD) (k : ∀ v d Hb' H', Step pp Hb H Hb' H' → SOk pp K Hb' H' → Rep pp K Hb' d v → QD d → Q v H') : tChain o o' t u w σ H Q := by
  refine t2 pp HE Hb H σ E _ _ so er hp fun v d Hb1 H1 s1 so1 r1 q1 => ?_
  refine u2 pp HE Hb1 H1 σ E _ _ so1 (er.step s1) q1 fun v2 d2 Hb2 H2 s2 so2 r2 q2 => ?_
  refine o2 pp Hb2 H2 _ _ _ _ _ _ so2 (.inl (r1.le s2.le)) (.inl r2) q2 fun v3 d3 Hb3 H3 s3 so3 r3 q3 => ?_
  have s12 := s1.trans s2
  have s123 := s12.trans s3
  split at q3
  · rename_i kb
    unfold Rep at r3
    refine ⟨_, r3, ?_⟩
    cases kb with
    | true =>
      rw [if_pos rfl] at q3 ⊢
      refine w2 pp HE Hb3 H3 σ E _ _ so3 (er.step s123) q3 fun v4 d4 Hb4 H4 s4 so4 r4 q4 => ?_
      exact o2' pp Hb4 H4 _ _ _ _ _ _ so4 (.inl (r2.le (s3.trans s4).le)) (.inl r4) q4 fun v5 d5 Hb5 H5 s5 so5 r5 q5 => k v5 d5 Hb5 H5 ((s123.trans s4).trans s5) so5 r5 q5
    | false =>
      rw [if_neg Bool.false_ne_true] at q3 ⊢
      exact k _ _ Hb3 H3 s123 so3 rep_bl q3
  · exact q3.elim
theorem t_chain {op op' : CmpOp} {r r' : RD} (ho : OD X (compareOp op) r) (ho' : OD X (compareOp op') r') (ha : QE X a pa) (hb : QE X b pb) (hc : QE X c pc) (hm : lastMarks [op, op'] [b, c] = false := by with_unfolding_all rfl) :
    QT X (.Compare a [op, op'] [b, c] pos) (dTst (dChain r r' pa pb pc)) := by
  obtain ⟨t, t1, t2⟩ := ha
  obtain ⟨u, u1, u2⟩ := hb
  obtain ⟨w, w1, w2⟩ := hc
  obtain ⟨o, o1, o2⟩ := ho
  obtain ⟨o', o1', o2'⟩ := ho'
  refine ⟨_, pt_chain o1 o1' t1 u1 w1 hm, fun pp HE Hb H σ E Q QD so er hp k => ?_⟩
  refine chain_read t2 u2 w2 o2 o2' so er hp fun v d Hb1 H1 s1 so1 r1 q1 => ?_
  split at q1
  · unfold Rep at r1
    exact ⟨_, r1, k _ Hb1 H1 s1 so1 q1⟩
  · exact q1.elim
theorem q_chain {op op' : CmpOp} {r r' : RD} (ho : OD X (compareOp op) r) (ho' : OD X (compareOp op') r') (ha : QE X a pa) (hb : QE X b pb) (hc : QE X c pc) (hm : lastMarks [op, op'] [b, c] = false := by with_unfolding_all rfl) :
    QE X (.Compare a [op, op'] [b, c] pos) (dChain r r' pa pb pc) := by
  obtain ⟨t, t1, t2⟩ := ha
  obtain ⟨u, u1, u2⟩ := hb
  obtain ⟨w, w1, w2⟩ := hc
  obtain ⟨o, o1, o2⟩ := ho
  obtain ⟨o', o1', o2'⟩ := ho'
  exact ⟨_, pe_chain o1 o1' t1 u1 w1 hm, fun pp HE Hb H σ E Q QD so er hp k => chain_read t2 u2 w2 o2 o2' so er hp k⟩

/-! ### slices -/
abbrev DO := List Sl → (Option Int → Prop) → Prop
def QP (X : Cx) (e : Option Expr) (p : DO) : Prop := ∃ t, PO X e t ∧ ∀ (pp : Addr) (HE Hb H : Hp) (σ : L2.St) (E : List Sl) (Q : Option Int → Hp → Prop) (QD : Option Int → Prop), SOk pp X.K Hb H → ER pp X.K HE Hb H σ E → p E QD →
  (∀ o Hb' H', Step pp Hb H Hb' H' → SOk pp X.K Hb' H' → QD o → Q o H') → t σ H Q
def dNoP : DO := fun _ Q => Q none
def dSmP (p : DX) : DO := fun E Q => p E fun d => match d with
  | .int i => Q (some i)
  | _ => False
theorem p_none : QP X none dNoP := ⟨_, po_none, fun pp HE Hb H σ E Q QD so er hp k => k _ Hb H .refl so hp⟩
theorem p_some (h : QE X e pe) : QP X (some e) (dSmP pe) := by
  obtain ⟨t, t1, t2⟩ := h
  refine ⟨_, po_some t1, fun pp HE Hb H σ E Q QD so er hp k => ?_⟩
  refine t2 pp HE Hb H σ E _ _ so er hp fun v d Hb1 H1 s1 so1 r1 q1 => ?_
  split at q1
  · unfold Rep at r1
    exact ⟨_, r1, k _ Hb1 H1 s1 so1 q1⟩
  · exact q1.elim
/-- the place that a slice's end names -/
def cutI (n d : Nat) : Option Int → Nat
  | none => d
  | some i => HT.sIx n d (some i)
def cutD (ds : List D) (lo hi : Option Int) : List D := (ds.drop (HT.sIx ds.length 0 lo)).take (HT.sIx ds.length ds.length hi - HT.sIx ds.length 0 lo)
def dSl (pe : DX) (pl ph : DO) : DX := fun E Q => pe E fun d => pl E fun lo => ph E fun hi => match d with
  | .lst ds => Q (.lst (cutD ds lo hi))
  | .tup ds => Q (.tup (cutD ds lo hi))
  | _ => False
theorem cut_rep {pp : Addr} {K : FK} {H : Hp} {ds : List D} {xs : List V} (lo hi : Option Int) (r : RepL pp K H ds xs) : RepL pp K H (cutD ds lo hi) (cutV xs lo hi) := by
  unfold cutV cutD
  rw [r.length]
  exact (r.drop _).take _
theorem q_slice {lo hi : Option Expr} {pl ph : DO} {p2 : Pos} (he : QO X e pe) (hl : QP X lo pl) (hh : QP X hi ph) : QE X (.Subscript e (.Slice lo hi none p2) pos) (dSl pe pl ph) := by
  obtain ⟨t, t1, t2⟩ := he
  obtain ⟨u, u1, u2⟩ := hl
  obtain ⟨w, w1, w2⟩ := hh
  refine ⟨_, pe_slice (sl_list.or sl_tupA) t1 u1 w1, fun pp HE Hb H σ E Q QD so er hp k => ?_⟩
  refine t2 pp HE Hb H σ E _ _ so er hp fun v d Hb1 H1 s1 so1 r1 q1 => ?_
  refine u2 pp HE Hb1 H1 σ E _ _ so1 (er.step s1) q1 fun o1 Hb2 H2 s2 so2 q2 => ?_
  refine w2 pp HE Hb2 H2 σ E _ _ so2 (er.step (s1.trans s2)) q2 fun o2 Hb3 H3 s3 so3 q3 => ?_
  have r3 := r1.step (s2.trans s3)
  have s123 := (s1.trans s2).trans s3
  split at q3
  · rename_i ds
    obtain ⟨a, xs, rfl, h1, r⟩ := r3.lst so3
    refine .inl ⟨a, xs, rfl, .of h1, fun p hp => ?_⟩
    obtain ⟨s4, so4⟩ := lay_sh (u := .lst (cutV xs o1 o2)) so3 hp
    refine k _ _ _ _ (s123.trans s4) so4 (rep_lst upd_same (cut_rep _ _ (r.le s4.le))) q3
  · rename_i ds
    obtain ⟨a, xs, rfl, h0, h1, r⟩ := r3.tup so3
    refine .inr ⟨a, xs, rfl, h1, fun e => ?_, fun e p hp => ?_⟩
    · have ec : cutD ds o1 o2 = ds := by
        unfold cutD
        rw [← r.length, e.1, e.2, List.drop_zero, Nat.sub_zero, r.length, List.take_length]
      rw [ec] at q3
      exact k _ _ Hb3 H3 s123 so3 (rep_tup h0 r) q3
    · obtain ⟨s4, so4⟩ := lay_sh (u := .tup (cutV xs o1 o2)) so3 hp
      refine k _ _ _ _ (s123.trans s4) so4 (rep_tup (.of upd_same) (cut_rep _ _ (r.le s4.le))) q3
  · exact q3.elim

/-! ### d.get -/
def dGet1 (pe pk : DX) : DX := fun E Q => pe E fun d => match d with
  | .dic ks ds => pk E fun kd => match keyOf kd with
    | some k => match lk ks ds k with
      | some x => Q x
      | none => Q .non
    | none => False
  | _ => False
def dGet2 (pe pk px : DX) : DX := fun E Q => pe E fun d => match d with
  | .dic ks ds => pk E fun kd => px E fun z => match keyOf kd with
    | some k => match lk ks ds k with
      | some x => Q x
      | none => Q z
    | none => False
  | _ => False
theorem q_get1 {k : Expr} {pk : DX} {apos : Pos} (hu : X.A.units + 1 < cLine) (he : QO X e pe) (hk : QE X k pk) (m : M1 X e "get" apos k pos := by exact ⟨rfl, rfl, rfl, rfl⟩) : QE X (.Call (.Attribute e "get" apos) [k] [] pos) (dGet1 pe pk) := by
  obtain ⟨t, t1, t2⟩ := he
  obtain ⟨u, u1, u2⟩ := hk
  refine ⟨_, pe_dget1 hu t1 u1 m, fun pp HE Hb H σ E Q QD so er hp kk => ?_⟩
  refine t2 pp HE Hb H σ E _ _ so er hp fun v d Hb1 H1 s1 so1 r1 q1 => ?_
  split at q1
  · obtain ⟨a, ws, rfl, h1, hks, r⟩ := r1.dic so1
    refine ⟨a, rfl, .inl ⟨ws, h1⟩, u2 pp HE Hb1 H1 σ E _ _ so1 (er.step s1) q1 fun v2 d2 Hb2 H2 s2 so2 r2 q2 => ?_⟩
    obtain ⟨a', ws', ea, h1', hks', r'⟩ := (r1.step s2).dic so2
    cases ea
    split at q2
    · rename_i k ek
      subst hks'
      refine ⟨_, .inl ⟨ws', k, h1', keyOf_rep so2 ek (.inl r2), rfl⟩, ?_⟩
      split at q2
      · rename_i x ex
        obtain ⟨v', hv, rv⟩ := (lk_val r').1 x ex
        rw [hv]
        exact kk _ _ Hb2 H2 (s1.trans s2) so2 rv q2
      · rename_i ex
        rw [(lk_val r').2 ex]
        exact kk _ _ Hb2 H2 (s1.trans s2) so2 rep_non q2
    · exact q2.elim
  · exact q1.elim
theorem q_get2 {k x : Expr} {pk px : DX} {apos : Pos} (hu : X.A.units + 1 < cLine) (he : QO X e pe) (hk : QE X k pk) (hx : QE X x px) (m : M2 X e "get" apos k x pos := by exact ⟨rfl, rfl, rfl, rfl⟩) : QE X (.Call (.Attribute e "get" apos) [k, x] [] pos) (dGet2 pe pk px) := by
  obtain ⟨t, t1, t2⟩ := he
  obtain ⟨u, u1, u2⟩ := hk
  obtain ⟨w, w1, w2⟩ := hx
  refine ⟨_, pe_dget2 hu t1 u1 w1 m, fun pp HE Hb H σ E Q QD so er hp kk => ?_⟩
  refine t2 pp HE Hb H σ E _ _ so er hp fun v d Hb1 H1 s1 so1 r1 q1 => ?_
  split at q1
  · obtain ⟨a, ws, rfl, h1, hks, r⟩ := r1.dic so1
    refine ⟨a, rfl, .inl ⟨ws, h1⟩, u2 pp HE Hb1 H1 σ E _ _ so1 (er.step s1) q1 fun v2 d2 Hb2 H2 s2 so2 r2 q2 => ?_⟩
    refine w2 pp HE Hb2 H2 σ E _ _ so2 (er.step (s1.trans s2)) q2 fun v3 d3 Hb3 H3 s3 so3 r3 q3 => ?_
    obtain ⟨a', ws', ea, h1', hks', r'⟩ := (r1.step (s2.trans s3)).dic so3
    cases ea
    have s123 := (s1.trans s2).trans s3
    split at q3
    · rename_i k ek
      subst hks'
      refine ⟨_, .inl ⟨ws', k, h1', keyOf_rep so3 ek (.inl (r2.le s3.le)), rfl⟩, ?_⟩
      split at q3
      · rename_i x ex
        obtain ⟨v', hv, rv⟩ := (lk_val r').1 x ex
        rw [hv]
        exact kk _ _ Hb3 H3 s123 so3 rv q3
      · rename_i ex
        rw [(lk_val r').2 ex]
        exact kk _ _ Hb3 H3 s123 so3 r3 q3
    · exact q3.elim
  · exact q1.elim
end
end DL

namespace DL
open PySem PySem.Spec PyProof.Rows L2

/-! ### defs and constants as they stand behind the top -/
structure FunAt (K : FK) (mg : Str → Option Value) (x : Str) (st : Stmt) : Prop where
  ex : ∃ f fd, Fun K x x st f fd ∧ mg x = some (.ref f)
structure GlobD (K : FK) (mg : Str → Option Value) (x : Str) (d : D) : Prop where
  ex : ∃ v u, mg x = some u ∧ RelV v u ∧ ∀ pp H, Rep pp K H d v
structure DefV (P : Program) (w : World) (K : FK) (mg : Str → Option Value) (x : Str) (ps : List Str) (k : Nat) (S : Sp) : Prop where
  ex : ∃ f fd, mg x = some (.ref f) ∧ PySem.W.keepIn K (.ref f) = true ∧ Binds K fd ps [] ∧ ∀ base, FnOk P w K mg base CX0 k f fd ps S
abbrev Def (P : Program) (w : World) (K : FK) (mg : Str → Option Value) (x : Str) (ps : List Str) (k : Nat) (S : SpecD) : Prop := DefV P w K mg x ps k (spD K S)
def startN (n : Nat) (ds : List D) : List Sl := ds.map .sh ++ List.replicate (n - ds.length) .no
def PureD (p : DS) (S : SpecD) (n k : Nat) : Prop := ∀ ds Q, S ds Q → ds.length = k ∧ p (fnEnds Q) (startN n ds)
section
variable {P : Program} {w : World} {K : FK} {mg : Str → Option Value}
theorem fnDef {x : Str} {st : Stmt} {N ps : List Str} {k : Nat} {S : SpecD} {p : DS} (F : FunAt K mg x st)
    (hb : ∀ (kV doc pm : Value) (an : Option Addr) (cdv ct : Value) (us : List Value), us.length = ps.length → bindArgs (PySem.W.fnOf x x (defArgs st) (defBody st) (defScope st) .none kV doc pm an cdv ct) ⟨us, []⟩ = pure (ps.zip us))
    (sc : FnScope N ps (defScope st)) (hp : PureD p S N.length ps.length)
    (body : ∀ (base : Heap) (f : Addr) (cdv : Value) (A : Around) (outer : List Env) (s : Shared) (H : Hp) (E : XK), Room k (A.deeper (envOfC x (defScope st) s.heap.objs.size f cdv)) →
      QSs (cxOf CX0 P w K mg base N x (defScope st) f cdv A outer s H E).nox (defBody st) p) : Def P w K mg x ps (k + 1) S := by
  obtain ⟨f, fd, F, hm⟩ := F.ex
  exact ⟨f, fd, hm, F.kp, F.binds hb, fun base => fnD F sc (fun ds Q h => (hp ds Q h).1) (fun cdv A outer s H E hr => body base f cdv A outer s H E hr) fun ds Q h => (hp ds Q h).2⟩
/-- a def by the hand layer's own reading -/
theorem fnDefV {x : Str} {st : Stmt} {N ps : List Str} {k : Nat} {S : Sp} (F : FunAt K mg x st)
    (hb : ∀ (kV doc pm : Value) (an : Option Addr) (cdv ct : Value) (us : List Value), us.length = ps.length → bindArgs (PySem.W.fnOf x x (defArgs st) (defBody st) (defScope st) .none kV doc pm an cdv ct) ⟨us, []⟩ = pure (ps.zip us))
    (sc : FnScope N ps (defScope st)) (len : ∀ vs H Q E, S vs H Q E → vs.length = ps.length)
    (body : ∀ (base : Heap) (f : Addr) (cdv : Value) (A : Around) (outer : List Env) (s : Shared) (H : Hp) (vs : List V) (Q : VK) (E : XK), Room k (A.deeper (envOfC x (defScope st) s.heap.objs.size f cdv)) → S vs H Q E →
      ∃ t, PSs (cxOf CX0 P w K mg base N x (defScope st) f cdv A outer s H E).nox (defBody st) t ∧ t { nx := fun _ H' => Q .non H', rt := Q } (L2.start N vs) H) : DefV P w K mg x ps (k + 1) S := by
  obtain ⟨f, fd, F, hm⟩ := F.ex
  exact ⟨f, fd, hm, F.kp, F.binds hb, fun base => F.ok sc len fun cdv A outer s H vs Q E hr h => body base f cdv A outer s H vs Q E hr h⟩
theorem DefV.mono {x : Str} {ps : List Str} {j k : Nat} {S : Sp} (G : DefV P w K mg x ps j S) (h : j ≤ k) : DefV P w K mg x ps k S := by
  obtain ⟨f, fd, h1, h2, h3, h4⟩ := G.ex
  exact ⟨f, fd, h1, h2, h3, fun base => (h4 base).mono h⟩
end
section
variable {X : Cx} {e : Expr} {es : List Expr} {pas : DAs} {pos pp' : Pos} {x : Str} {ps : List Str} {k : Nat} {S : SpecD}
theorem q_callD (G : Def X.prog X.w X.K X.mg x ps k S) (hr : Room k X.A) (hg : Gl X x) (ha : QA X (e :: es) pas)
    (hdb : (x == ("__debug__" : Str)) = false := by decide) (he : starEach (e :: es) X.env = (false, eval e X.env) :: starEach es X.env := by rfl) (hpl : (backTo pos (starEach es X.env)).any (·.1) = false := by rfl) :
    QE X (.Call (.Name x pp') (e :: es) [] pos) (dCall S pas) := by
  obtain ⟨f, fd, h1, h2, h3, h4⟩ := G.ex
  exact q_call (h4 X.base) hr hg h1 h2 h3 ha hdb he hpl
theorem q_globD {d : D} (G : GlobD X.K X.mg x d) (hg : Gl X x) (hd : (x == ("__debug__" : Str)) = false := by decide) : QE X (.Name x pos) (dC d) := by
  obtain ⟨v, u, h1, h2, h3⟩ := G.ex
  exact q_glob hg h1 h2 h3 hd
/-- a call of a def that the hand layer read -/
theorem pe_callV {t : TA} {S : Sp} (G : DefV X.prog X.w X.K X.mg x ps k S) (hr : Room k X.A) (hg : Gl X x) (ha : PA X (e :: es) t)
    (hdb : (x == ("__debug__" : Str)) = false := by decide) (he : starEach (e :: es) X.env = (false, eval e X.env) :: starEach es X.env := by rfl) (hpl : (backTo pos (starEach es X.env)).any (·.1) = false := by rfl) :
    PE X (.Call (.Name x pp') (e :: es) [] pos) (tCall S [] E0 t) := by
  obtain ⟨f, fd, h1, h2, h3, h4⟩ := G.ex
  exact pe_call (h4 X.base) hr hg h1 h2 h3 .nil pass0 ha hdb he hpl
end

/-! ### the pool -/
def spMixed : Sp := fun vs H Q _ => ∃ i j : Int, vs = [.int i, .int j] ∧ ∀ r : Int, Q (.int r) H
def spRest (K : FK) : Sp := fun vs H Q _ => ∃ (a : Addr) (ns : List Int) (i j : Int), vs = [.ref a, .int i, .int j] ∧ SqL K H a (ns.map V.int) ∧ ∀ r : Int, Q (.int r) H
def spPool (K : FK) : Sp := fun vs H Q _ => ∃ (a : Addr) (ns : List Int), vs = [.ref a] ∧ SqL K H a (ns.map V.int) ∧ ∀ (l : Addr) (r : Int), H l = none → Q (.ref l) (upd H l (.lst [.ref a, .int 0, .int r, .int 0]))
def S_law_next : SpecD := fun ds Q => ds = [.pool] ∧ Q .non
def S_law_draw : SpecD := fun ds Q => ∃ l : Int, ds = [.pool, .int l] ∧ 0 < l ∧ l < 1073741824 ∧ ∀ v : Int, 0 ≤ v → v < l → Q (.int v)
/-- the pool's list is changed -/
theorem pool_ok {pp : Addr} {K : FK} {Hb H : Hp} {a : Addr} {ns : List Int} {i n k i' n' k' : Int} (so : SOk pp K Hb H) (h1 : H pp = some (.lst [.ref a, .int i, .int n, .int k])) (h2 : SqL K Hb a (ns.map V.int)) :
    Step pp Hb H Hb (upd H pp (.lst [.ref a, .int i', .int n', .int k'])) ∧ SOk pp K Hb (upd H pp (.lst [.ref a, .int i', .int n', .int k'])) := by
  refine ⟨⟨Same.refl _, fun b o hb h => by rw [upd_ne hb]; exact h, fun b h => ?_, fun b h _ => h⟩, ⟨fun b o h => ?_, so.np, a, ns, i', n', k', upd_same, h2⟩⟩
  · by_cases e : b = pp
    · subst e; rw [upd_same]; exact fun z => nomatch z
    · rw [upd_ne e]; exact h
  · rw [upd_ne (fun z => by subst z; rw [so.np] at h; cases h)]; exact so.le b o h
theorem sq_upd {K : FK} {H : Hp} {pp a : Addr} {xs ys : List V} {u : HO} (hp : H pp = some (.lst ys)) (h : SqL K H a xs) (hne : a ≠ pp) : SqL K (upd H pp u) a xs := by
  rcases h with (h | ⟨o, h⟩) | h
  · exact .inl (.inl (by rw [upd_ne hne]; exact h))
  · exact .inl (.inr ⟨o, by rw [upd_ne hne]; exact h⟩)
  · exact .inr h

/-! ### sorted of anything -/
def alikeD (xs : List D) : Prop := PySem.W.AllAlike (pdL xs) ∧ PySem.W.Sortable (pdL xs)
def sortD (xs : List D) : List D := xs.mergeSort (PySem.W.dataLe false pd)
theorem pdL_map : ∀ xs : List D, pdL xs = xs.map pd
  | [] => rfl
  | x :: xs => by simp [pdL, pdL_map xs]
theorem repL_each {pp : Addr} {K : FK} {H : Hp} : ∀ {ds : List D} {vs : List V} {us : List Value}, RepL pp K H ds vs → Vals vs us → PySem.W.EachIs (fun u d => ∃ v, RelV v u ∧ Rep pp K H d v) us ds
  | [], _, _, r, h => by
    rw [r.unnil] at h
    cases h
    exact .nil
  | d :: ds, _, _, r, h => by
    obtain ⟨v, w, rfl, h1, h2⟩ := r.uncons
    cases h with
    | cons h3 h4 => exact .cons ⟨v, h3, h1⟩ (repL_each h2 h4)
theorem each_repL {pp : Addr} {K : FK} {H : Hp} : ∀ {ds : List D} {us : List Value}, PySem.W.EachIs (fun u d => ∃ v, RelV v u ∧ Rep pp K H d v) us ds → ∃ vs, Vals vs us ∧ RepL pp K H ds vs
  | _, _, .nil => ⟨[], .nil, .nil⟩
  | _, _, .cons ⟨v, h1, h2⟩ t => by
    obtain ⟨vs, h3, h4⟩ := each_repL t
    exact ⟨v :: vs, .cons h1 h3, .cons h2 h4⟩
section
variable {X : Cx}
theorem cr_sortedAny (hu : X.A.units + 64 < cLine) : CallR X (.builtin "sorted") (fun xs H Q => ∃ (pp : Addr) (Hb : Hp) (a : Addr) (ws : List V) (ds : List D), xs = [V.ref a] ∧ SqL X.K H a ws ∧ Le Hb H ∧ RepL pp X.K Hb ds ws ∧ (∀ d ∈ ds, okD 50 d = true) ∧ alikeD ds ∧
    ∀ p zs, H p = none → RepL pp X.K Hb (sortD ds) zs → Q (.ref p) (upd H p (.lst zs))) := by
  intro pins s σ H xs us Q I r h
  obtain ⟨pp, Hb, a, ws, ds, rfl, hs, hle, hr, hok, ⟨al, st⟩, q⟩ := h
  obtain ⟨u, rfl, ru⟩ := vals1 r
  cases ru
  obtain ⟨its, rv, pl, hz⟩ := I.list hs
  rw [pdL_map] at al st
  have hl : ds.length = its.length := by rw [← hr.length, rv.length]
  refine PySem.W.sorted_data (enc := pd) (bs := ds) (R := fun u d => ∃ v, RelV v u ∧ Rep pp X.K Hb d v) pl.isList (repL_each hr rv) ?_ al st (by rw [← hr.length]; exact hz) (fun d hd => ?_) fun out ho eo => ?_
  · obtain ⟨as, ra⟩ := Dp.readsAll I (pdL ds) ws its (repL_dp 50 ds ws hok (hr.le hle)) rv
    rw [pdL_map] at ra
    exact PySem.W.readsAll_each pd ra
  · have := (pd_plain 50 d (hok d hd)).2
    omega
  · obtain ⟨zs, h1, h2⟩ := each_repL eo
    obtain ⟨ep, he'⟩ := PyProof.Rows.sortedAll_at s.heap its out.toArray
    have hlen : zs.length ≤ sizeLine := by rw [h1.length, ho, ← hr.length]; exact hz
    exact ⟨.ref _, upd H (s.heap.objs.size + 1) (.lst zs), I.laid (t' := s.toks) (fun _ _ => PyProof.Rows.sortedAll_old) (Nat.le_succ _) ⟨hlen, out, ep, h1, he'⟩, rfl, q _ zs (I.hok.fresh (Nat.le_succ _)) h2⟩
/-- sorted: a list of data of one kind; a dict's keys, all ints or all texts (fewer than 64) -/
def rdSorted : List D → (D → Prop) → Prop := fun ds Q => match ds with
  | [.dic ks _] => match inls ks with
    | some ns => ns.length < 64 ∧ ∀ ys : List Int, ys.Perm ns → ys.Pairwise (· ≤ ·) → Q (.lst (ys.map D.int))
    | none => match inrs ks with
      | some ns => ns.length < 64 ∧ ∀ ys : List Str, ys.Perm ns → sortedS ys = true → Q (.lst (ys.map D.str))
      | none => False
  | [.lst xs] => (∀ d ∈ xs, okD 50 d = true) ∧ alikeD xs ∧ Q (.lst (sortD xs))
  | _ => False
theorem CallR.or3 {f : Value} {r r' r'' : List V → Hp → VK → Prop} (h : CallR X f r) (h' : CallR X f r') (h'' : CallR X f r'') : CallR X f (fun xs H Q => r xs H Q ∨ r' xs H Q ∨ r'' xs H Q) := h.or (h'.or h'')
theorem cdf_sorted (hc : X.calm = true) (hu : X.A.units + 64 < cLine) : CDF X (.builtin "sorted") rdSorted := by
  obtain ⟨r1, a1, b1⟩ := cdf_sortedI (X := X) hc
  obtain ⟨r2, a2, b2⟩ := cdf_sortedS (X := X) hc
  refine ⟨_, CallR.or3 a1 a2 (cr_sortedAny hu), fun pp Hb H xs ds Q QD so r h k => ?_⟩
  unfold rdSorted at h
  split at h
  · split at h
    · rename_i e
      exact .inl (b1 pp Hb H xs _ Q QD so r (by simp only [rdSortedI, e]; exact h) k)
    · split at h
      · rename_i e
        exact .inr (.inl (b2 pp Hb H xs _ Q QD so r (by simp only [rdSortedS, e]; exact h) k))
      · exact h.elim
  · obtain ⟨v, rfl, y⟩ := r.one
    obtain ⟨a, ws, rfl, h1, r1⟩ := y.lst so
    refine .inr (.inr ⟨pp, Hb, a, ws, _, rfl, .of h1, so.hle, r1, h.1, h.2.1, fun p zs hp hz => ?_⟩)
    obtain ⟨s2, so2⟩ := lay_own (u := .lst zs) so hp
    exact k p (.lst _) _ _ s2 so2 hp ⟨so.nb hp, so.ne hp, ⟨_, upd_same, hz⟩⟩ h.2.2
  · exact h.elim
end
end DL

/-! DR: fractions: a pair in lowest terms is a rational number -/
namespace DL
open PySem PySem.Spec PyProof.Rows L2

def qD (r : Rat) : D := .tup [.int r.num, .int r.den]
/-- the bits of a fraction -/
def bz (r : Rat) : Nat := (r.num.natAbs + r.den).log2 + 1
theorem bz_pos (r : Rat) : 0 < bz r := Nat.succ_pos _
theorem bz_lt (r : Rat) : r.num.natAbs + r.den < 2 ^ bz r := Nat.lt_log2_self
theorem bz_num (r : Rat) : r.num.natAbs < 2 ^ bz r := Nat.lt_of_le_of_lt (Nat.le_add_right _ _) (bz_lt r)
theorem bz_den (r : Rat) : r.den < 2 ^ bz r := Nat.lt_of_le_of_lt (Nat.le_add_left _ _) (bz_lt r)
theorem bz_of_lt {r : Rat} {n : Nat} (h : r.num.natAbs + r.den < 2 ^ n) : bz r ≤ n := by
  have h0 : r.num.natAbs + r.den ≠ 0 := by have := r.den_pos; omega
  exact Nat.succ_le_of_lt ((Nat.log2_lt h0).mpr h)
theorem dv_num_le (p q : Int) : (Rat.divInt p q).num.natAbs ≤ p.natAbs := by
  rw [Rat.num_divInt]
  refine Nat.le_trans (Int.natAbs_ediv_le_natAbs _ _) ?_
  rw [Int.natAbs_mul]
  have : q.sign.natAbs ≤ 1 := by
    rcases Int.lt_trichotomy q 0 with h | h | h
    · rw [Int.sign_eq_neg_one_of_neg h]; decide
    · subst h; decide
    · rw [Int.sign_eq_one_of_pos h]; decide
  calc q.sign.natAbs * p.natAbs ≤ 1 * p.natAbs := Nat.mul_le_mul_right _ this
    _ = p.natAbs := Nat.one_mul _
theorem dv_den_le (p : Int) {q : Int} (hq : q ≠ 0) : (Rat.divInt p q).den ≤ q.natAbs := by
  rw [Rat.den_divInt, if_neg hq]
  exact Nat.div_le_self _ _
theorem bz_dv {p q : Int} {n : Nat} (hq : q ≠ 0) (h : p.natAbs + q.natAbs < 2 ^ n) : bz (Rat.divInt p q) ≤ n :=
  bz_of_lt (Nat.lt_of_le_of_lt (Nat.add_le_add (dv_num_le p q) (dv_den_le p hq)) h)
theorem add_dv (a b : Rat) : a + b = Rat.divInt (a.num * b.den + b.num * a.den) (a.den * b.den) := by
  conv => lhs; rw [← Rat.num_divInt_den a, ← Rat.num_divInt_den b]
  rw [Rat.divInt_add_divInt _ _ (by have := a.den_pos; omega) (by have := b.den_pos; omega)]
theorem sub_dv (a b : Rat) : a - b = Rat.divInt (a.num * b.den - b.num * a.den) (a.den * b.den) := by
  conv => lhs; rw [← Rat.num_divInt_den a, ← Rat.num_divInt_den b]
  rw [Rat.divInt_sub_divInt _ _ (by have := a.den_pos; omega) (by have := b.den_pos; omega)]
theorem mul_dv (a b : Rat) : a * b = Rat.divInt (a.num * b.num) (a.den * b.den) := by
  conv => lhs; rw [← Rat.num_divInt_den a, ← Rat.num_divInt_den b]
  rw [Rat.divInt_mul_divInt]
theorem div_dv (a b : Rat) : a / b = Rat.divInt (a.num * b.den) (a.den * b.num) := by
  rw [Rat.div_def, Rat.inv_def]
  conv => lhs; rw [← Rat.num_divInt_den a]
  rw [Rat.divInt_mul_divInt]
theorem den_ne (a : Rat) : (a.den : Int) ≠ 0 := by have := a.den_pos; omega
theorem mul_bits {a b c d n m : Nat} (h1 : a + b < 2 ^ n) (h2 : c + d < 2 ^ m) : (a + b) * (c + d) < 2 ^ (n + m) := by
  rw [Nat.pow_add]
  exact Nat.mul_lt_mul'' h1 h2
theorem bz_add (a b : Rat) : bz (a + b) ≤ bz a + bz b := by
  rw [add_dv]
  refine bz_dv (by have := a.den_pos; have := b.den_pos; exact Int.mul_ne_zero (den_ne a) (den_ne b)) ?_
  refine Nat.lt_of_le_of_lt ?_ (mul_bits (bz_lt a) (bz_lt b))
  have h1 := Int.natAbs_add_le (a.num * b.den) (b.num * a.den)
  rw [Int.natAbs_mul, Int.natAbs_mul, Int.natAbs_natCast, Int.natAbs_natCast] at h1
  rw [Int.natAbs_mul, Int.natAbs_natCast, Int.natAbs_natCast]
  have e : (a.num.natAbs + a.den) * (b.num.natAbs + b.den) = a.num.natAbs * b.num.natAbs + a.num.natAbs * b.den + (b.num.natAbs * a.den + a.den * b.den) := by grind
  omega
theorem bz_sub (a b : Rat) : bz (a - b) ≤ bz a + bz b := by
  rw [sub_dv]
  refine bz_dv (Int.mul_ne_zero (den_ne a) (den_ne b)) ?_
  refine Nat.lt_of_le_of_lt ?_ (mul_bits (bz_lt a) (bz_lt b))
  have h1 := Int.natAbs_sub_le (a.num * b.den) (b.num * a.den)
  rw [Int.natAbs_mul, Int.natAbs_mul, Int.natAbs_natCast, Int.natAbs_natCast] at h1
  rw [Int.natAbs_mul, Int.natAbs_natCast, Int.natAbs_natCast]
  have e : (a.num.natAbs + a.den) * (b.num.natAbs + b.den) = a.num.natAbs * b.num.natAbs + a.num.natAbs * b.den + (b.num.natAbs * a.den + a.den * b.den) := by grind
  omega
theorem bz_mul (a b : Rat) : bz (a * b) ≤ bz a + bz b := by
  rw [mul_dv]
  refine bz_dv (Int.mul_ne_zero (den_ne a) (den_ne b)) ?_
  refine Nat.lt_of_le_of_lt ?_ (mul_bits (bz_lt a) (bz_lt b))
  rw [Int.natAbs_mul, Int.natAbs_mul, Int.natAbs_natCast, Int.natAbs_natCast]
  have e : (a.num.natAbs + a.den) * (b.num.natAbs + b.den) = a.num.natAbs * b.num.natAbs + a.num.natAbs * b.den + (b.num.natAbs * a.den + a.den * b.den) := by grind
  omega
theorem num_ne {b : Rat} (hb : b ≠ 0) : b.num ≠ 0 := fun h => hb (Rat.num_eq_zero.mp h)
theorem bz_div (a : Rat) {b : Rat} (hb : b ≠ 0) : bz (a / b) ≤ bz a + bz b := by
  rw [div_dv]
  refine bz_dv (Int.mul_ne_zero (den_ne a) (num_ne hb)) ?_
  refine Nat.lt_of_le_of_lt ?_ (mul_bits (bz_lt a) (bz_lt b))
  rw [Int.natAbs_mul, Int.natAbs_mul, Int.natAbs_natCast, Int.natAbs_natCast]
  have e : (a.num.natAbs + a.den) * (b.num.natAbs + b.den) = a.num.natAbs * b.num.natAbs + a.num.natAbs * b.den + (b.num.natAbs * a.den + a.den * b.den) := by grind
  have e2 : a.den * b.num.natAbs = b.num.natAbs * a.den := Nat.mul_comm _ _
  omega
/-- products of parts of fractions -/
theorem mulx_nn {a b : Rat} (h : bz a + bz b ≤ 1000000) : CMulX a.num b.num := mulx_ok (bz_num a) (bz_num b) (by omega)
theorem mulx_nd {a b : Rat} (h : bz a + bz b ≤ 1000000) : CMulX a.num b.den := mulx_ok (bz_num a) (by rw [Int.natAbs_natCast]; exact bz_den b) (by omega)
theorem mulx_dn {a b : Rat} (h : bz a + bz b ≤ 1000000) : CMulX a.den b.num := mulx_ok (by rw [Int.natAbs_natCast]; exact bz_den a) (bz_num b) (by omega)
theorem mulx_dd {a b : Rat} (h : bz a + bz b ≤ 1000000) : CMulX a.den b.den := mulx_ok (by rw [Int.natAbs_natCast]; exact bz_den a) (by rw [Int.natAbs_natCast]; exact bz_den b) (by omega)
/-- p // g, q // g are the parts of p / q -/
theorem qD_pos {p q g : Int} (hq : 0 < q) (hg : g = ((Nat.gcd p.natAbs q.natAbs : Nat) : Int)) : D.tup [.int (p.fdiv g), .int (q.fdiv g)] = qD (Rat.divInt p q) := by
  have e1 : (Int.gcd q p : Int) = g := by rw [hg, Int.gcd_eq_natAbs_gcd_natAbs, Nat.gcd_comm]
  have hg0 : 0 < g := by
    rw [hg]
    exact Int.natCast_pos.mpr (Nat.gcd_pos_of_pos_right _ (by omega))
  unfold qD
  rw [Rat.num_divInt, Rat.den_divInt, if_neg (by omega), e1, Int.sign_eq_one_of_pos hq, Int.one_mul, Int.fdiv_eq_ediv_of_nonneg _ (by omega), Int.fdiv_eq_ediv_of_nonneg _ (by omega)]
  have e2 : ((q.natAbs / q.gcd p : Nat) : Int) = q / g := by
    rw [Int.natCast_ediv, e1, Int.natAbs_of_nonneg (by omega)]
  rw [e2]
theorem gcd_bits {p q : Int} {n : Nat} (hq : q ≠ 0) (h : q.natAbs < 2 ^ n) : (Nat.gcd p.natAbs q.natAbs) < 2 ^ n :=
  Nat.lt_of_le_of_lt (Nat.le_of_dvd (by omega) (Nat.gcd_dvd_right _ _)) h
theorem log2_lt9 {k n : Nat} (h : k < 2 ^ n) (h0 : 0 < k) (hn : n ≤ 9000) : k.log2 < 9000 := Nat.lt_of_lt_of_le ((Nat.log2_lt (by omega)).mpr h) hn
theorem qD_neg {p q g : Int} (hq : q < 0) (hg : g = ((Nat.gcd p.natAbs q.natAbs : Nat) : Int)) : D.tup [.int (p.fdiv (-g)), .int (q.fdiv (-g))] = qD (Rat.divInt p q) := by
  have e := qD_pos (p := -p) (q := -q) (g := g) (by omega) (by rw [hg, Int.natAbs_neg, Int.natAbs_neg])
  rw [Rat.neg_divInt_neg] at e
  rw [← e]
  have k : ∀ x : Int, x.fdiv (-g) = (-x).fdiv g := fun x => by
    rw [← Int.neg_fdiv_neg, Int.neg_neg]
  rw [k, k]
end DL

/-! DR2: the defs of fractions that many laws share: what they tell, and that their readings tell it -/
namespace DL
open PySem PySem.Spec PyProof.Rows L2

theorem ite_ct {b : Bool} {p q : Prop} (h1 : b = true → p) (h2 : b = false → q) : if b = true then p else q := by
  cases b with
  | true => rw [if_pos rfl]; exact h1 rfl
  | false => rw [if_neg Bool.false_ne_true]; exact h2 rfl
theorem ite_t {b : Bool} {p q : Prop} (h : b = true) (k : p) : if b = true then p else q := by rw [if_pos h]; exact k
theorem ite_f {b : Bool} {p q : Prop} (h : b = false) (k : q) : if b = true then p else q := by subst h; rw [if_neg Bool.false_ne_true]; exact k

def S_frac : SpecD := fun ds Q => ∃ p q : Int, ds = [.int p, .int q] ∧ q ≠ 0 ∧ q.natAbs < 2 ^ 9000 ∧ Q (qD (Rat.divInt p q))
def S_plus : SpecD := fun ds Q => ∃ a b : Rat, ds = [qD a, qD b] ∧ bz a + bz b ≤ 9000 ∧ Q (qD (a + b))
def S_minus : SpecD := fun ds Q => ∃ a b : Rat, ds = [qD a, qD b] ∧ bz a + bz b ≤ 9000 ∧ Q (qD (a - b))
def S_times : SpecD := fun ds Q => ∃ a b : Rat, ds = [qD a, qD b] ∧ bz a + bz b ≤ 9000 ∧ Q (qD (a * b))
def S_over : SpecD := fun ds Q => ∃ a b : Rat, ds = [qD a, qD b] ∧ b ≠ 0 ∧ bz a + bz b ≤ 9000 ∧ Q (qD (a / b))
def S_less : SpecD := fun ds Q => ∃ a b : Rat, ds = [qD a, qD b] ∧ bz a + bz b ≤ 1000000 ∧ Q (.bl (decide (a < b)))
def S_least : SpecD := fun ds Q => ∃ a b : Rat, ds = [qD a, qD b] ∧ bz a + bz b ≤ 1000000 ∧ Q (qD (if b < a then b else a))
def S_most : SpecD := fun ds Q => ∃ a b : Rat, ds = [qD a, qD b] ∧ bz a + bz b ≤ 1000000 ∧ Q (qD (if a < b then b else a))
def bzs (l : List Rat) : Nat := (l.map bz).sum
def S_sum_of : SpecD := fun ds Q => ∃ l : List Rat, ds = [.lst (l.map qD)] ∧ bzs l ≤ 8990 ∧ Q (qD l.sum)
def c_NOUGHT : D := .tup [.int 0, .int 1]
def S_law_gcd : SpecD := fun ds Q => ∃ a b : Nat, ds = [.int a, .int b] ∧ b < 2 ^ 9000 ∧ Q (.int (Nat.gcd a b : Nat))
def S_law_ratio : SpecD := fun ds Q => ∃ p q : Int, ds = [.int p, .int q] ∧ q ≠ 0 ∧ q.natAbs < 2 ^ 9000 ∧ Q (qD (Rat.divInt p q))
def S_law_add : SpecD := S_plus
def S_law_sub : SpecD := S_minus
def S_law_mul : SpecD := S_times
def S_law_over : SpecD := S_over
def S_law_div : SpecD := S_over
def S_law_less : SpecD := S_less
def S_law_low : SpecD := S_least
def S_law_pick : SpecD := fun ds Q => ∃ l : List D, ds = [.pool, .lst l] ∧ 0 < l.length ∧ l.length < 1000000 ∧ ∀ d ∈ l, Q d

def p_frac : DS := (dSeq (dAsg 2 (dCB rdGcd (dConsA (dVarO 0) (dConsA (dVarO 1) dNilA)))) (dSeq (dIfS (dTst (dOp rdLt (dVarO 1) (dC (.int 0)))) (dAsg 2 (dUn rdNeg (dVarO 2))) dNext) (dRet (dTup (dConsA (dOp rdDiv (dVarO 0) (dVarO 2)) (dConsA (dOp rdDiv (dVarO 1) (dVarO 2)) dNilA))))))
def p_plus : DS := (dRet (dCall S_frac (dConsA (dOp rdAdd (dOp rdMul (dOp rdIx (dVarO 0) (dC (.int 0))) (dOp rdIx (dVarO 1) (dC (.int 1)))) (dOp rdMul (dOp rdIx (dVarO 1) (dC (.int 0))) (dOp rdIx (dVarO 0) (dC (.int 1))))) (dConsA (dOp rdMul (dOp rdIx (dVarO 0) (dC (.int 1))) (dOp rdIx (dVarO 1) (dC (.int 1)))) dNilA))))

theorem natAbs_ne {q : Int} (h : q ≠ 0) : 0 < q.natAbs := by omega
theorem gcd_pos {p q : Int} (h : q ≠ 0) : 0 < Nat.gcd p.natAbs q.natAbs := Nat.gcd_pos_of_pos_right _ (natAbs_ne h)
theorem cdiv_gcd {x p q : Int} (hq : q ≠ 0) (hb : q.natAbs < 2 ^ 9000) : CDivA x ((Nat.gcd p.natAbs q.natAbs : Nat) : Int) := by
  have h1 := gcd_pos (p := p) hq
  have h2 := gcd_bits (p := p) hq hb
  exact ⟨by omega, by rw [Int.natAbs_natCast]; exact log2_lt9 h2 h1 (Nat.le_refl _)⟩
theorem cdiv_gcdn {x p q : Int} (hq : q ≠ 0) (hb : q.natAbs < 2 ^ 9000) : CDivA x (-((Nat.gcd p.natAbs q.natAbs : Nat) : Int)) := by
  have h := cdiv_gcd (x := x) (p := p) hq hb
  exact ⟨by have := h.1; omega, by rw [Int.natAbs_neg]; exact h.2⟩
theorem pure_frac : PureD p_frac S_frac 3 2 := by
  rintro ds Q ⟨p, q, rfl, hq, hb, k⟩
  refine ⟨rfl, ?_⟩
  show (if decide (q < 0) = true then _ else _)
  by_cases h : q < 0
  · rw [decide_eq_true h, if_pos rfl]
    refine ⟨cdiv_gcdn hq hb, cdiv_gcdn hq hb, ?_⟩
    show Q (D.tup [.int (p.fdiv _), .int (q.fdiv _)])
    rw [qD_neg h rfl]
    exact k
  · rw [decide_eq_false h, if_neg Bool.false_ne_true]
    refine ⟨cdiv_gcd hq hb, cdiv_gcd hq hb, ?_⟩
    show Q (D.tup [.int (p.fdiv _), .int (q.fdiv _)])
    rw [qD_pos (by omega) rfl]
    exact k
theorem den_bits {a b : Rat} (h : bz a + bz b ≤ 9000) : ((a.den : Int) * (b.den : Int)).natAbs < 2 ^ 9000 := by
  rw [Int.natAbs_mul, Int.natAbs_natCast, Int.natAbs_natCast]
  have h1 := bz_den a
  have h2 := bz_den b
  refine Nat.lt_of_lt_of_le (Nat.mul_lt_mul'' h1 h2) ?_
  rw [← Nat.pow_add]
  exact Nat.pow_le_pow_right (by decide) h
theorem pure_plus : PureD p_plus S_plus 2 2 := by
  rintro ds Q ⟨a, b, rfl, hb, k⟩
  refine ⟨rfl, ?_⟩
  have hb' : bz a + bz b ≤ 1000000 := by omega
  have hb2 : bz b + bz a ≤ 1000000 := by omega
  refine ⟨mulx_nd hb', mulx_nd hb2, mulx_dd hb', _, _, rfl, Int.mul_ne_zero (den_ne a) (den_ne b), den_bits hb, ?_⟩
  rw [← add_dv]
  exact k

def p_minus : DS := (dRet (dCall S_frac (dConsA (dOp rdSub (dOp rdMul (dOp rdIx (dVarO 0) (dC (.int 0))) (dOp rdIx (dVarO 1) (dC (.int 1)))) (dOp rdMul (dOp rdIx (dVarO 1) (dC (.int 0))) (dOp rdIx (dVarO 0) (dC (.int 1))))) (dConsA (dOp rdMul (dOp rdIx (dVarO 0) (dC (.int 1))) (dOp rdIx (dVarO 1) (dC (.int 1)))) dNilA))))
def p_times : DS := (dRet (dCall S_frac (dConsA (dOp rdMul (dOp rdIx (dVarO 0) (dC (.int 0))) (dOp rdIx (dVarO 1) (dC (.int 0)))) (dConsA (dOp rdMul (dOp rdIx (dVarO 0) (dC (.int 1))) (dOp rdIx (dVarO 1) (dC (.int 1)))) dNilA))))
def p_over : DS := (dRet (dCall S_frac (dConsA (dOp rdMul (dOp rdIx (dVarO 0) (dC (.int 0))) (dOp rdIx (dVarO 1) (dC (.int 1)))) (dConsA (dOp rdMul (dOp rdIx (dVarO 0) (dC (.int 1))) (dOp rdIx (dVarO 1) (dC (.int 0)))) dNilA))))
def p_sum_of : DS := (dSeq (dAsg 1 (dC c_NOUGHT)) (dSeq (dFor (dIter (dVar 0)) (gN 2) (dAsg 1 (dCall S_plus (dConsA (dVar 1) (dConsA (dVar 2) dNilA))))) (dRet (dVar 1))))
def p_less : DS := (dRet (dOp rdLt (dOp rdMul (dOp rdIx (dVarO 0) (dC (.int 0))) (dOp rdIx (dVarO 1) (dC (.int 1)))) (dOp rdMul (dOp rdIx (dVarO 1) (dC (.int 0))) (dOp rdIx (dVarO 0) (dC (.int 1))))))
def p_least : DS := (dRet (dIf (dTst (dCall S_less (dConsA (dVar 1) (dConsA (dVar 0) dNilA)))) (dVar 1) (dVar 0)))
def p_most : DS := (dRet (dIf (dTst (dCall S_less (dConsA (dVar 0) (dConsA (dVar 1) dNilA)))) (dVar 1) (dVar 0)))
def p_law_gcd : DS := (dSeq (dFor (dRng (dConsA (dC (.int 20000)) dNilA)) (gN 2) (dSeq (dIfS (dTst (dOp rdEq (dVarO 1) (dC (.int 0)))) dBreak dNext) (dPar 0 1 (dConsA (dVar 1) (dConsA (dOp rdMod (dCB rdInt (dConsA (dVarO 0) dNilA)) (dVarO 1)) dNilA))))) (dRet (dVar 0)))
def p_law_ratio : DS := (dSeq (dIfS (dTst (dOp rdLt (dVarO 1) (dC (.int 0)))) (dPar 0 1 (dConsA (dUn rdNeg (dVarO 0)) (dConsA (dUn rdNeg (dVarO 1)) dNilA))) dNext) (dSeq (dAsg 2 (dCall S_law_gcd (dConsA (dCB rdAbs (dConsA (dVarO 0) dNilA)) (dConsA (dVar 1) dNilA)))) (dRet (dTup (dConsA (dOp rdDiv (dVarO 0) (dVarO 2)) (dConsA (dOp rdDiv (dVarO 1) (dVarO 2)) dNilA))))))
def p_law_add : DS := (dRet (dCall S_law_ratio (dConsA (dOp rdAdd (dOp rdMul (dOp rdIx (dVarO 0) (dC (.int 0))) (dOp rdIx (dVarO 1) (dC (.int 1)))) (dOp rdMul (dOp rdIx (dVarO 1) (dC (.int 0))) (dOp rdIx (dVarO 0) (dC (.int 1))))) (dConsA (dOp rdMul (dOp rdIx (dVarO 0) (dC (.int 1))) (dOp rdIx (dVarO 1) (dC (.int 1)))) dNilA))))
def p_law_sub : DS := (dRet (dCall S_law_ratio (dConsA (dOp rdSub (dOp rdMul (dOp rdIx (dVarO 0) (dC (.int 0))) (dOp rdIx (dVarO 1) (dC (.int 1)))) (dOp rdMul (dOp rdIx (dVarO 1) (dC (.int 0))) (dOp rdIx (dVarO 0) (dC (.int 1))))) (dConsA (dOp rdMul (dOp rdIx (dVarO 0) (dC (.int 1))) (dOp rdIx (dVarO 1) (dC (.int 1)))) dNilA))))
def p_law_mul : DS := (dRet (dCall S_law_ratio (dConsA (dOp rdMul (dOp rdIx (dVarO 0) (dC (.int 0))) (dOp rdIx (dVarO 1) (dC (.int 0)))) (dConsA (dOp rdMul (dOp rdIx (dVarO 0) (dC (.int 1))) (dOp rdIx (dVarO 1) (dC (.int 1)))) dNilA))))
def p_law_over : DS := (dRet (dCall S_law_ratio (dConsA (dOp rdMul (dOp rdIx (dVarO 0) (dC (.int 0))) (dOp rdIx (dVarO 1) (dC (.int 1)))) (dConsA (dOp rdMul (dOp rdIx (dVarO 0) (dC (.int 1))) (dOp rdIx (dVarO 1) (dC (.int 0)))) dNilA))))
def p_law_div : DS := p_law_over
def p_law_less : DS := p_less
def p_law_low : DS := (dRet (dIf (dTst (dCall S_law_less (dConsA (dVar 1) (dConsA (dVar 0) dNilA)))) (dVar 1) (dVar 0)))
def p_law_pick : DS := (dRet (dOp rdIx (dVarO 1) (dCall S_law_draw (dConsA (dVar 0) (dConsA (dCB rdLen (dConsA (dVarO 1) dNilA)) dNilA)))))

theorem pure_minus : PureD p_minus S_minus 2 2 := by
  rintro ds Q ⟨a, b, rfl, hb, k⟩
  refine ⟨rfl, ?_⟩
  have hb' : bz a + bz b ≤ 1000000 := by omega
  have hb2 : bz b + bz a ≤ 1000000 := by omega
  refine ⟨mulx_nd hb', mulx_nd hb2, mulx_dd hb', _, _, rfl, Int.mul_ne_zero (den_ne a) (den_ne b), den_bits hb, ?_⟩
  rw [← sub_dv]
  exact k
theorem pure_times : PureD p_times S_times 2 2 := by
  rintro ds Q ⟨a, b, rfl, hb, k⟩
  refine ⟨rfl, ?_⟩
  have hb' : bz a + bz b ≤ 1000000 := by omega
  refine ⟨mulx_nn hb', mulx_dd hb', _, _, rfl, Int.mul_ne_zero (den_ne a) (den_ne b), den_bits hb, ?_⟩
  rw [← mul_dv]
  exact k
theorem dnum_bits {a b : Rat} (h : bz a + bz b ≤ 9000) : ((a.den : Int) * b.num).natAbs < 2 ^ 9000 := by
  rw [Int.natAbs_mul, Int.natAbs_natCast]
  refine Nat.lt_of_lt_of_le (Nat.mul_lt_mul'' (bz_den a) (bz_num b)) ?_
  rw [← Nat.pow_add]
  exact Nat.pow_le_pow_right (by decide) h
theorem pure_over : PureD p_over S_over 2 2 := by
  rintro ds Q ⟨a, b, rfl, h0, hb, k⟩
  refine ⟨rfl, ?_⟩
  have hb' : bz a + bz b ≤ 1000000 := by omega
  refine ⟨mulx_nd hb', mulx_dn hb', _, _, rfl, Int.mul_ne_zero (den_ne a) (num_ne h0), dnum_bits hb, ?_⟩
  rw [← div_dv]
  exact k
theorem pure_less : PureD p_less S_less 2 2 := by
  rintro ds Q ⟨a, b, rfl, hb, k⟩
  refine ⟨rfl, ?_⟩
  have hb2 : bz b + bz a ≤ 1000000 := by omega
  refine ⟨mulx_nd hb, mulx_nd hb2, ?_⟩
  have e : decide (a.num * b.den < b.num * a.den) = decide (a < b) := decide_eq_decide.mpr (Rat.lt_iff a b).symm
  show Q (.bl (decide _))
  rw [e]
  exact k
theorem pure_least : PureD p_least S_least 2 2 := by
  rintro ds Q ⟨a, b, rfl, hb, k⟩
  refine ⟨rfl, b, a, rfl, by omega, ?_⟩
  show (if decide (b < a) = true then Q (qD b) else Q (qD a))
  by_cases h : b < a
  · rw [if_pos h] at k; rw [if_pos (decide_eq_true h)]; exact k
  · rw [if_neg h] at k; rw [if_neg (by simpa using h)]; exact k
theorem pure_most : PureD p_most S_most 2 2 := by
  rintro ds Q ⟨a, b, rfl, hb, k⟩
  refine ⟨rfl, a, b, rfl, hb, ?_⟩
  show (if decide (a < b) = true then Q (qD b) else Q (qD a))
  by_cases h : a < b
  · rw [if_pos h] at k; rw [if_pos (decide_eq_true h)]; exact k
  · rw [if_neg h] at k; rw [if_neg (by simpa using h)]; exact k
theorem bzs_cons (x : Rat) (l : List Rat) : bzs (x :: l) = bz x + bzs l := by simp [bzs]
theorem sum_loop {Q : D → Prop} (d0 : Sl) : ∀ (l : List Rat) (acc : Rat) (z : Sl), bz acc + bzs l ≤ 9000 → Q (qD (acc + l.sum)) →
    forL (gN 2) (dAsg 1 (dCall S_plus (dConsA (dVar 1) (dConsA (dVar 2) dNilA)))) { fnEnds Q with nx := dRet (dVar 1) (fnEnds Q) } (l.map qD) [d0, .sh (qD acc), z]
  | [], acc, z, _, k => by
    rw [List.sum_nil, Rat.add_zero] at k
    exact k
  | x :: l, acc, z, h, k => by
    rw [bzs_cons] at h
    refine ⟨acc, x, rfl, by omega, ?_⟩
    refine sum_loop d0 l (acc + x) _ ?_ (by rw [List.sum_cons] at k; rw [Rat.add_assoc]; exact k)
    have := bz_add acc x
    omega
theorem pure_sum_of : PureD p_sum_of S_sum_of 3 1 := by
  rintro ds Q ⟨l, rfl, hb, k⟩
  refine ⟨rfl, ?_⟩
  refine sum_loop _ l 0 .no ?_ (by rw [Rat.zero_add]; exact k)
  have : bz 0 ≤ 1 := by decide
  omega
theorem gcd_loop {Q : D → Prop} : ∀ (n : Nat) (a b : Nat) (items : List D) (z : Sl), b < 2 ^ n → 2 * n ≤ items.length → Q (.int (Nat.gcd a b : Nat)) →
    forL (gN 2) (dSeq (dIfS (dTst (dOp rdEq (dVarO 1) (dC (.int 0)))) dBreak dNext) (dPar 0 1 (dConsA (dVar 1) (dConsA (dOp rdMod (dCB rdInt (dConsA (dVarO 0) dNilA)) (dVarO 1)) dNilA)))) { fnEnds Q with nx := dRet (dVar 0) (fnEnds Q) } items [.sh (.int a), .sh (.int b), z] := by
  have stop : ∀ (a : Nat) (items : List D) (z : Sl), Q (.int a) →
      forL (gN 2) (dSeq (dIfS (dTst (dOp rdEq (dVarO 1) (dC (.int 0)))) dBreak dNext) (dPar 0 1 (dConsA (dVar 1) (dConsA (dOp rdMod (dCB rdInt (dConsA (dVarO 0) dNilA)) (dVarO 1)) dNilA)))) { fnEnds Q with nx := dRet (dVar 0) (fnEnds Q) } items [.sh (.int a), .sh (.int (0 : Nat)), z] := by
    intro a items z k
    cases items with
    | nil => exact k
    | cons d r => exact ⟨rfl, rfl, k⟩
  have step : ∀ (a b : Nat) (d : D) (items : List D) (z : Sl), b ≠ 0 →
      forL (gN 2) (dSeq (dIfS (dTst (dOp rdEq (dVarO 1) (dC (.int 0)))) dBreak dNext) (dPar 0 1 (dConsA (dVar 1) (dConsA (dOp rdMod (dCB rdInt (dConsA (dVarO 0) dNilA)) (dVarO 1)) dNilA)))) { fnEnds Q with nx := dRet (dVar 0) (fnEnds Q) } items [.sh (.int b), .sh (.int (a % b : Nat)), .sh d] →
      forL (gN 2) (dSeq (dIfS (dTst (dOp rdEq (dVarO 1) (dC (.int 0)))) dBreak dNext) (dPar 0 1 (dConsA (dVar 1) (dConsA (dOp rdMod (dCB rdInt (dConsA (dVarO 0) dNilA)) (dVarO 1)) dNilA)))) { fnEnds Q with nx := dRet (dVar 0) (fnEnds Q) } (d :: items) [.sh (.int a), .sh (.int b), z] := by
    intro a b d items z hb k
    refine ⟨rfl, rfl, ?_⟩
    have e : deq (.int (b : Int)) (.int 0) = false := by
      show decide ((b : Int) = 0) = false
      exact decide_eq_false (by omega)
    refine ite_f e ⟨by omega, ?_⟩
    have e2 : Int.fmod (a : Int) (b : Int) = ((a % b : Nat) : Int) := by rw [Int.fmod_eq_emod_of_nonneg _ (by omega)]; rfl
    show forL _ _ _ _ [.sh (.int b), .sh (.int (Int.fmod a b)), .sh d]
    rw [e2]
    exact k
  intro n
  induction n with
  | zero =>
    intro a b items z h _ k
    have : b = 0 := by simpa using h
    subst this
    rw [Nat.gcd_zero_right] at k
    exact stop a items z k
  | succ n ih =>
    intro a b items z h hl k
    by_cases hb : b = 0
    · subst hb
      rw [Nat.gcd_zero_right] at k
      exact stop a items z k
    match items, hl with
    | d :: e :: r, hl =>
      refine step a b d (e :: r) z hb ?_
      by_cases hm : a % b = 0
      · rw [hm]
        refine stop b _ _ ?_
        rw [Nat.gcd_comm, Nat.gcd_rec, hm, Nat.gcd_zero_left] at k
        exact k
      refine step b (a % b) e r _ hm (ih _ _ _ _ ?_ (by simp only [List.length_cons] at hl; omega) ?_)
      · have h1 : a % b < b := Nat.mod_lt _ (by omega)
        have h2 : b % (a % b) < a % b := Nat.mod_lt _ (by omega)
        have h3 : (a % b) * (b / (a % b)) + b % (a % b) = b := Nat.div_add_mod _ _
        have h4 : 1 ≤ b / (a % b) := (Nat.one_le_div_iff (by omega)).mpr (by omega)
        have h5 : a % b ≤ (a % b) * (b / (a % b)) := Nat.le_mul_of_pos_right _ h4
        rw [Nat.pow_succ] at h
        omega
      · have e1 : Nat.gcd a b = Nat.gcd (a % b) (b % (a % b)) := by
          rw [Nat.gcd_comm a b, Nat.gcd_rec b a, Nat.gcd_rec (a % b) b, Nat.gcd_comm]
        rw [e1] at k
        exact k
theorem pure_law_gcd : PureD p_law_gcd S_law_gcd 3 2 := by
  rintro ds Q ⟨a, b, rfl, hb, k⟩
  refine ⟨rfl, ⟨by decide, by decide⟩, ?_⟩
  refine gcd_loop 9000 a b (rangeD 0 20000) .no hb ?_ k
  simp [rangeD]
theorem pure_law_ratio : PureD p_law_ratio S_law_ratio 3 2 := by
  rintro ds Q ⟨p, q, rfl, hq, hb, k⟩
  refine ⟨rfl, ?_⟩
  show (if decide (q < 0) = true then _ else _)
  have absE : ∀ x : Int, (if x < 0 then -x else x) = ((x.natAbs : Nat) : Int) := fun x => by split <;> omega
  by_cases h : q < 0
  · rw [decide_eq_true h, if_pos rfl]
    have hb2 : (-q).natAbs < 2 ^ 9000 := by rw [Int.natAbs_neg]; exact hb
    refine ⟨(-p).natAbs, (-q).natAbs, ?_, hb2, ?_⟩
    · show [D.int (if -p < 0 then - -p else -p), D.int (-q)] = _
      rw [absE, Int.natAbs_of_nonneg (by omega : 0 ≤ -q)]
    refine ⟨cdiv_gcd (by omega) hb2, cdiv_gcd (by omega) hb2, ?_⟩
    show Q (D.tup [.int ((-p).fdiv _), .int ((-q).fdiv _)])
    rw [qD_pos (by omega) rfl, Rat.neg_divInt_neg]
    exact k
  · rw [decide_eq_false h, if_neg Bool.false_ne_true]
    refine ⟨p.natAbs, q.natAbs, ?_, hb, ?_⟩
    · show [D.int (if p < 0 then -p else p), D.int q] = _
      rw [absE, Int.natAbs_of_nonneg (by omega : 0 ≤ q)]
    refine ⟨cdiv_gcd hq hb, cdiv_gcd hq hb, ?_⟩
    show Q (D.tup [.int (p.fdiv _), .int (q.fdiv _)])
    rw [qD_pos (by omega) rfl]
    exact k
theorem pure_law_add : PureD p_law_add S_law_add 2 2 := pure_plus
theorem pure_law_sub : PureD p_law_sub S_law_sub 2 2 := pure_minus
theorem pure_law_mul : PureD p_law_mul S_law_mul 2 2 := pure_times
theorem pure_law_over : PureD p_law_over S_law_over 2 2 := pure_over
theorem pure_law_div : PureD p_law_div S_law_div 2 2 := pure_over
theorem pure_law_less : PureD p_law_less S_law_less 2 2 := pure_less
theorem pure_law_low : PureD p_law_low S_law_low 2 2 := pure_least
theorem atD_lt {l : List D} {v : Int} (h0 : 0 ≤ v) (h1 : v < l.length) : ∃ d, atD l v = some d ∧ d ∈ l := by
  obtain ⟨n, rfl⟩ := Int.eq_ofNat_of_zero_le h0
  have hn : n < l.length := by omega
  exact ⟨l[n], by show l[n]? = _; rw [List.getElem?_eq_getElem hn], List.getElem_mem hn⟩
theorem pure_law_pick : PureD p_law_pick S_law_pick 2 2 := by
  rintro ds Q ⟨l, rfl, h0, hl, k⟩
  refine ⟨rfl, (l.length : Int), rfl, by omega, by omega, fun v hv h1 => ?_⟩
  obtain ⟨d, e, hd⟩ := atD_lt hv h1
  show match atD l v with | some d => Q d | none => False
  rw [e]
  exact k d hd
end DL

/-! DR3: the laws' own sameness of values -/
namespace DL
open PySem PySem.Spec PyProof.Rows L2

/-- the same data (a dict's keys may stand in another order), at most n deep -/
def smR : Nat → D → D → Prop
  | _ + 1, .non, .non => True
  | _ + 1, .bl a, .bl b => a = b
  | _ + 1, .int a, .int b => a = b
  | _ + 1, .str a, .str b => a = b
  | n + 1, .tup xs, .tup ys => xs.length = ys.length ∧ ys.length ≤ 100000 ∧ ∀ (i : Nat) a b, xs[i]? = some a → ys[i]? = some b → smR n a b
  | n + 1, .lst xs, .lst ys => xs.length = ys.length ∧ ys.length ≤ 100000 ∧ ∀ (i : Nat) a b, xs[i]? = some a → ys[i]? = some b → smR n a b
  | n + 1, .dic ks xs, .dic js ys => ks.length = js.length ∧ js.length ≤ 100000 ∧ ∀ k ∈ js, ∃ a b, lk ks xs k = some a ∧ lk js ys k = some b ∧ smR n a b
  | _, _, _ => False
def S_same (n : Nat) : SpecD := fun ds Q => ∃ x y, ds = [x, y] ∧ smR n x y ∧ Q (.bl true)
abbrev S_law_same : SpecD := S_same 6
theorem lk_has {κ : Type} [DecidableEq κ] {k : κ} : ∀ {ks : List κ} {ds : List D} {d : D}, lk ks ds k = some d → hasK ks k = true
  | k' :: ks, x :: ds, d, h => by
    unfold lk at h
    split at h
    · rename_i e; subst e; simp [hasK]
    · have := lk_has h
      rw [hasK_iff] at this ⊢
      exact List.mem_cons_of_mem _ this
  | [], _, _, h => by simp [lk] at h
  | _ :: _, [], _, h => by simp [lk] at h
theorem keyOf_keyD : ∀ k : Key, keyOf (keyD k) = some k
  | .inl _ => rfl
  | .inr _ => rfl
theorem atD_nat (l : List D) (i : Nat) : atD l (i : Nat) = l[i]? := rfl

def p_same1 (S : SpecD) : DS := (dSeq (dIfS (dTst (dOp rdIs (dVarO 1) (dC .non))) (dRet (dOp rdIs (dVarO 0) (dC .non))) dNext) (dSeq (dIfS (dTst (dOp rdIs (dVarO 1) (dC (.bl true)))) (dRet (dOp rdIs (dVarO 0) (dC (.bl true)))) dNext) (dSeq (dIfS (dTst (dOp rdIs (dVarO 1) (dC (.bl false)))) (dRet (dOp rdIs (dVarO 0) (dC (.bl false)))) dNext) (dSeq (dIfS (dTst (dCB rdIsi (dConsA (dVarO 1) (dConsA (dC (.ty "int")) dNilA)))) (dRet (dAndV (dCB rdIsi (dConsA (dVarO 0) (dConsA (dC (.ty "int")) dNilA))) (dAndV (dNotV (dCB rdIsi (dConsA (dVarO 0) (dConsA (dC (.ty "bool")) dNilA)))) (dOp rdEq (dVarO 0) (dVarO 1))))) dNext) (dSeq (dIfS (dTst (dCB rdIsi (dConsA (dVarO 1) (dConsA (dC (.ty "str")) dNilA)))) (dRet (dAndV (dCB rdIsi (dConsA (dVarO 0) (dConsA (dC (.ty "str")) dNilA))) (dOp rdEq (dVarO 0) (dVarO 1)))) dNext) (dSeq (dIfS (dTst (dCB rdIsi (dConsA (dVarO 1) (dConsA (dC (.ty "dict")) dNilA)))) (dSeq (dIfS (dOr (dNot (dTst (dCB rdIsi (dConsA (dVarO 0) (dConsA (dC (.ty "dict")) dNilA))))) (dTst (dOp rdNe (dCB rdLen (dConsA (dVarO 0) dNilA)) (dCB rdLen (dConsA (dVarO 1) dNilA))))) (dRet (dC (.bl false))) dNext) (dSeq (dFor (dKeys 1) (gN 3) (dIfS (dOr (dTst (dOp rdNotIn (dVarO 3) (dVarO 0))) (dNot (dTst (dCall S (dConsA (dOp rdIx (dVarO 0) (dVarO 3)) (dConsA (dOp rdIx (dVarO 1) (dVarO 3)) dNilA)))))) (dRet (dC (.bl false))) dNext)) (dRet (dC (.bl true))))) dNext) (dSeq (dIfS (dOr (dTst (dOp rdNe (dCB rdIsi (dConsA (dVarO 0) (dConsA (dC (.ty "tuple")) dNilA))) (dCB rdIsi (dConsA (dVarO 1) (dConsA (dC (.ty "tuple")) dNilA))))) (dTst (dOp rdNe (dCB rdIsi (dConsA (dVarO 0) (dConsA (dC (.ty "list")) dNilA))) (dCB rdIsi (dConsA (dVarO 1) (dConsA (dC (.ty "list")) dNilA)))))) (dRet (dC (.bl false))) dNext) (dSeq (dIfS (dTst (dOp rdNe (dCB rdLen (dConsA (dVarO 0) dNilA)) (dCB rdLen (dConsA (dVarO 1) dNilA)))) (dRet (dC (.bl false))) dNext) (dSeq (dFor (dRng (dConsA (dCB rdLen (dConsA (dVarO 1) dNilA)) dNilA)) (gN 2) (dIfS (dNot (dTst (dCall S (dConsA (dOp rdIx (dVarO 0) (dVarO 2)) (dConsA (dOp rdIx (dVarO 1) (dVarO 2)) dNilA))))) (dRet (dC (.bl false))) dNext)) (dRet (dC (.bl true))))))))))))
def p_same2 (S : SpecD) : DS := (dSeq (dIfS (dOr (dTst (dOp rdIs (dVarO 1) (dC .non))) (dOr (dTst (dOp rdIs (dVarO 1) (dC (.bl true)))) (dTst (dOp rdIs (dVarO 1) (dC (.bl false)))))) (dRet (dOrV (dAndV (dOp rdIs (dVarO 1) (dC .non)) (dOp rdIs (dVarO 0) (dC .non))) (dOrV (dAndV (dOp rdIs (dVarO 1) (dC (.bl true))) (dOp rdIs (dVarO 0) (dC (.bl true)))) (dAndV (dOp rdIs (dVarO 1) (dC (.bl false))) (dOp rdIs (dVarO 0) (dC (.bl false))))))) dNext) (dSeq (dIfS (dTst (dCB rdIsi (dConsA (dVarO 1) (dConsA (dC (.ty "int")) dNilA)))) (dRet (dAndV (dCB rdIsi (dConsA (dVarO 0) (dConsA (dC (.ty "int")) dNilA))) (dAndV (dNotV (dCB rdIsi (dConsA (dVarO 0) (dConsA (dC (.ty "bool")) dNilA)))) (dOp rdEq (dVarO 0) (dVarO 1))))) dNext) (dSeq (dIfS (dTst (dCB rdIsi (dConsA (dVarO 1) (dConsA (dC (.ty "str")) dNilA)))) (dRet (dAndV (dCB rdIsi (dConsA (dVarO 0) (dConsA (dC (.ty "str")) dNilA))) (dOp rdEq (dVarO 0) (dVarO 1)))) dNext) (dSeq (dIfS (dTst (dCB rdIsi (dConsA (dVarO 1) (dConsA (dC (.ty "dict")) dNilA)))) (dSeq (dIfS (dOr (dNot (dTst (dCB rdIsi (dConsA (dVarO 0) (dConsA (dC (.ty "dict")) dNilA))))) (dTst (dOp rdNe (dCB rdLen (dConsA (dVarO 0) dNilA)) (dCB rdLen (dConsA (dVarO 1) dNilA))))) (dRet (dC (.bl false))) dNext) (dSeq (dFor (dKeys 1) (gN 3) (dIfS (dOr (dTst (dOp rdNotIn (dVarO 3) (dVarO 0))) (dNot (dTst (dCall S (dConsA (dOp rdIx (dVarO 0) (dVarO 3)) (dConsA (dOp rdIx (dVarO 1) (dVarO 3)) dNilA)))))) (dRet (dC (.bl false))) dNext)) (dRet (dC (.bl true))))) dNext) (dSeq (dIfS (dAnd (dTst (dCB rdIsi (dConsA (dVarO 1) (dConsA (dC (.ty "tuple")) dNilA)))) (dNot (dTst (dCB rdIsi (dConsA (dVarO 0) (dConsA (dC (.ty "tuple")) dNilA)))))) (dRet (dC (.bl false))) dNext) (dSeq (dIfS (dAnd (dTst (dCB rdIsi (dConsA (dVarO 1) (dConsA (dC (.ty "list")) dNilA)))) (dNot (dTst (dCB rdIsi (dConsA (dVarO 0) (dConsA (dC (.ty "list")) dNilA)))))) (dRet (dC (.bl false))) dNext) (dSeq (dIfS (dTst (dOp rdNe (dCB rdLen (dConsA (dVarO 0) dNilA)) (dCB rdLen (dConsA (dVarO 1) dNilA)))) (dRet (dC (.bl false))) dNext) (dSeq (dFor (dRng (dConsA (dCB rdLen (dConsA (dVarO 1) dNilA)) dNilA)) (gN 2) (dIfS (dNot (dTst (dCall S (dConsA (dOp rdIx (dVarO 0) (dVarO 2)) (dConsA (dOp rdIx (dVarO 1) (dVarO 2)) dNilA))))) (dRet (dC (.bl false))) dNext)) (dRet (dC (.bl true)))))))))))
def p_same3 (S : SpecD) : DS := (dSeq (dIfS (dTst (dCB rdIsi (dConsA (dVarO 1) (dConsA (dC (.ty "dict")) dNilA)))) (dSeq (dIfS (dOr (dNot (dTst (dCB rdIsi (dConsA (dVarO 0) (dConsA (dC (.ty "dict")) dNilA))))) (dTst (dOp rdNe (dCB rdLen (dConsA (dVarO 0) dNilA)) (dCB rdLen (dConsA (dVarO 1) dNilA))))) (dRet (dC (.bl false))) dNext) (dRet (dCB rdAll (dConsA (dLc (dKeys 1) (gN 2) [2] dYes (dAndV (dOp rdIn (dVarO 2) (dVarO 0)) (dCall S (dConsA (dOp rdIx (dVarO 0) (dVarO 2)) (dConsA (dOp rdIx (dVarO 1) (dVarO 2)) dNilA))))) dNilA)))) dNext) (dSeq (dIfS (dOr (dTst (dCB rdIsi (dConsA (dVarO 1) (dConsA (dC (.ty "list")) dNilA)))) (dTst (dCB rdIsi (dConsA (dVarO 1) (dConsA (dC (.ty "tuple")) dNilA))))) (dSeq (dIfS (dOr (dTst (dOp rdNe (dCB rdIsi (dConsA (dVarO 1) (dConsA (dC (.ty "list")) dNilA))) (dCB rdIsi (dConsA (dVarO 0) (dConsA (dC (.ty "list")) dNilA))))) (dTst (dOp rdNe (dCB rdIsi (dConsA (dVarO 1) (dConsA (dC (.ty "tuple")) dNilA))) (dCB rdIsi (dConsA (dVarO 0) (dConsA (dC (.ty "tuple")) dNilA)))))) (dRet (dC (.bl false))) dNext) (dRet (dAndV (dOp rdEq (dCB rdLen (dConsA (dVarO 0) dNilA)) (dCB rdLen (dConsA (dVarO 1) dNilA))) (dCB rdAll (dConsA (dLc (dRng (dConsA (dCB rdLen (dConsA (dVarO 1) dNilA)) dNilA)) (gN 3) [3] dYes (dCall S (dConsA (dOp rdIx (dVarO 0) (dVarO 3)) (dConsA (dOp rdIx (dVarO 1) (dVarO 3)) dNilA)))) dNilA))))) dNext) (dSeq (dIfS (dTst (dCB rdIsi (dConsA (dVarO 1) (dConsA (dC (.ty "str")) dNilA)))) (dRet (dAndV (dCB rdIsi (dConsA (dVarO 0) (dConsA (dC (.ty "str")) dNilA))) (dOp rdEq (dVarO 0) (dVarO 1)))) dNext) (dSeq (dIfS (dOr (dTst (dOp rdIs (dVarO 1) (dC .non))) (dOr (dTst (dOp rdIs (dVarO 1) (dC (.bl true)))) (dTst (dOp rdIs (dVarO 1) (dC (.bl false)))))) (dRet (dOrV (dAndV (dOp rdIs (dVarO 1) (dC .non)) (dOp rdIs (dVarO 0) (dC .non))) (dOrV (dAndV (dOp rdIs (dVarO 1) (dC (.bl true))) (dOp rdIs (dVarO 0) (dC (.bl true)))) (dAndV (dOp rdIs (dVarO 1) (dC (.bl false))) (dOp rdIs (dVarO 0) (dC (.bl false))))))) dNext) (dRet (dAndV (dCB rdIsi (dConsA (dVarO 0) (dConsA (dC (.ty "int")) dNilA))) (dAndV (dNotV (dCB rdIsi (dConsA (dVarO 0) (dConsA (dC (.ty "bool")) dNilA)))) (dOp rdEq (dVarO 0) (dVarO 1)))))))))

/-- a loop whose every turn goes on, whatever the item's slot holds -/
theorem forL_all {g : DG} {b : DS} {DD : DEnds} {E0 : List Sl → Prop} : ∀ (items : List D) (E : List Sl), E0 E → (∀ d ∈ items, ∀ E (N : List Sl → Prop), E0 E → (∀ E', E0 E' → N E') → g d E fun E' => b { DD with nx := N, ct := N, bk := DD.nx } E') → (∀ E, E0 E → DD.nx E) → forL g b DD items E
  | [], E, h, _, k => k E h
  | d :: r, E, h, hb, k => hb d (List.mem_cons_self ..) E _ h fun E' h' => forL_all r E' h' (fun d hd => hb d (List.mem_cons_of_mem _ hd)) k
theorem lcL_all {g : DG} {vs : List Nat} {c : DT} {p : DX} {y : D} {E : List Sl} : ∀ (items : List D), (∀ d ∈ items, ∀ (N : D → Prop) (M : Prop), N y → g d (wipeD E vs) fun E' => c E' fun b => if b = true then p E' N else M) → ∀ (Q : List D → Prop), Q (List.replicate items.length y) → lcL g vs c p items E Q
  | [], _, Q, k => k
  | d :: r, hb, Q, k => by
    refine hb d (List.mem_cons_self ..) _ _ ?_
    exact lcL_all r (fun d hd => hb d (List.mem_cons_of_mem _ hd)) _ k
theorem bls_true : ∀ n, bls (List.replicate n (D.bl true)) = some (List.replicate n true)
  | 0 => rfl
  | n + 1 => by simp [List.replicate_succ, bls, bls_true n]
theorem all_true (n : Nat) : (List.replicate n true).all id = true := by simp
theorem mem_rangeD {d : D} {n : Nat} (h : d ∈ rangeD 0 n) : ∃ i : Nat, i < n ∧ d = .int i := by
  simp only [rangeD, List.mem_map, List.mem_range] at h
  obtain ⟨i, h1, rfl⟩ := h
  exact ⟨i, h1, by simp⟩
theorem rngB_len {n : Nat} (h : n ≤ 100000) : RngB (n : Int) := ⟨by omega, by omega⟩
theorem get_both {xs ys : List D} {i : Nat} (hl : xs.length = ys.length) (h : i < ys.length) : ∃ a b, xs[i]? = some a ∧ ys[i]? = some b :=
  ⟨xs[i], ys[i], by rw [List.getElem?_eq_getElem], by rw [List.getElem?_eq_getElem]⟩

theorem lens {xs ys : List D} (h : xs.length = ys.length) : deq (.int (xs.length : Int)) (.int (ys.length : Int)) = true := by rw [h]; simp [deq]
theorem sm_at {S : SpecD} {n : Nat} (hS : ∀ ds Q, S_same n ds Q → S ds Q) {E : List Sl} {a b : Nat} {j : Nat} {x y : D} {d : D} {Q : D → Prop} (h0 : E[a]? = some (.sh x)) (h1 : E[b]? = some (.sh y)) (h2 : E[j]? = some (.sh d))
    (h : ∃ u v, (∀ Q, Q u → rdIx x d Q) ∧ (∀ Q, Q v → rdIx y d Q) ∧ smR n u v) (k : Q (.bl true)) : dCall S (dConsA (dOp rdIx (dVarO a) (dVarO j)) (dConsA (dOp rdIx (dVarO b) (dVarO j)) dNilA)) E Q := by
  obtain ⟨u, v, h3, h4, h5⟩ := h
  simp only [dCall, dConsA, dOp, dVarO, h0, h1, h2, dNilA]
  exact h3 _ (h4 _ (hS _ _ ⟨u, v, rfl, h5, k⟩))
theorem ix_lst {n : Nat} {xs ys : List D} (hl : xs.length = ys.length) (h : ∀ (i : Nat) a b, xs[i]? = some a → ys[i]? = some b → smR n a b) {i : Nat} (hi : i < ys.length) :
    ∃ u v, (∀ Q, Q u → rdIx (.lst xs) (.int (i : Int)) Q) ∧ (∀ Q, Q v → rdIx (.lst ys) (.int (i : Int)) Q) ∧ smR n u v := by
  obtain ⟨a, b, ha, hb⟩ := get_both hl hi
  exact ⟨a, b, fun Q k => by simp only [rdIx, atD_nat, ha]; exact k, fun Q k => by simp only [rdIx, atD_nat, hb]; exact k, h i a b ha hb⟩
theorem ix_tup {n : Nat} {xs ys : List D} (hl : xs.length = ys.length) (h : ∀ (i : Nat) a b, xs[i]? = some a → ys[i]? = some b → smR n a b) {i : Nat} (hi : i < ys.length) :
    ∃ u v, (∀ Q, Q u → rdIx (.tup xs) (.int (i : Int)) Q) ∧ (∀ Q, Q v → rdIx (.tup ys) (.int (i : Int)) Q) ∧ smR n u v := by
  obtain ⟨a, b, ha, hb⟩ := get_both hl hi
  exact ⟨a, b, fun Q k => by simp only [rdIx, atD_nat, ha]; exact k, fun Q k => by simp only [rdIx, atD_nat, hb]; exact k, h i a b ha hb⟩
theorem ix_dic {n : Nat} {ks js : List Key} {xs ys : List D} {k : Key} (h : ∃ a b, lk ks xs k = some a ∧ lk js ys k = some b ∧ smR n a b) :
    ∃ u v, (∀ Q, Q u → rdIx (.dic ks xs) (keyD k) Q) ∧ (∀ Q, Q v → rdIx (.dic js ys) (keyD k) Q) ∧ smR n u v := by
  obtain ⟨a, b, ha, hb, hs⟩ := h
  exact ⟨a, b, fun Q k => by simp only [rdIx, keyOf_keyD, ha]; exact k, fun Q k => by simp only [rdIx, keyOf_keyD, hb]; exact k, hs⟩


theorem pure_same1 {S : SpecD} (n : Nat) (hS : ∀ ds Q, S_same n ds Q → S ds Q) : PureD (p_same1 S) (S_same (n + 1)) 4 2 := by
  rintro ds Q ⟨x, y, rfl, h, k⟩
  refine ⟨rfl, ?_⟩
  cases x <;> cases y <;> (first | exact h.elim | skip)
  · simpa [p_same1, dSeq, dIfS, dTst, dOp, dVarO, dC, rdIs, dRet, startN] using k
  · rename_i a b
    cases (h : a = b)
    cases a <;> simpa [p_same1, dSeq, dIfS, dTst, dOp, dVarO, dC, rdIs, dRet, startN, dNext] using k
  · rename_i a b
    cases (h : a = b)
    simpa [p_same1, dSeq, dIfS, dTst, dOp, dVarO, dC, rdIs, dRet, startN, dNext, dCB, dConsA, dNilA, rdIsi, isD, dAndV, dNotV, rdEq, okD, deq] using k
  · rename_i a b
    cases (h : a = b)
    simpa [p_same1, dSeq, dIfS, dTst, dOp, dVarO, dC, rdIs, dRet, startN, dNext, dCB, dConsA, dNilA, rdIsi, isD, dAndV, dNotV, rdEq, okD, deq] using k
  · rename_i xs ys
    obtain ⟨hl, hb, hs⟩ := h
    simp only [p_same1, dSeq, dIfS, dTst, dOp, dVarO, dC, rdIs, dRet, startN, dNext, dCB, dConsA, dNilA, rdIsi, isD, dOr, rdNe, okD, deq, dFor, rdLen, hl]
    simp [hl]
    refine ⟨rngB_len hb, forL_all (E0 := fun E => ∃ z w, E = [.sh (.tup xs), .sh (.tup ys), z, w]) _ _ ⟨_, _, rfl⟩ (fun d hd E N hE kN => ?_) (fun E _ => k)⟩
    obtain ⟨i, hi, rfl⟩ := mem_rangeD hd
    obtain ⟨z, w, rfl⟩ := hE
    simp only [gN, dIfS, dNot, dTst]
    refine sm_at hS (x := .tup xs) (y := .tup ys) (d := .int i) rfl rfl rfl (ix_tup hl hs (by omega)) ?_
    exact kN _ ⟨_, _, rfl⟩
  · rename_i xs ys
    obtain ⟨hl, hb, hs⟩ := h
    simp only [p_same1, dSeq, dIfS, dTst, dOp, dVarO, dC, rdIs, dRet, startN, dNext, dCB, dConsA, dNilA, rdIsi, isD, dOr, rdNe, okD, deq, dFor, rdLen, hl]
    simp [hl]
    refine ⟨rngB_len hb, forL_all (E0 := fun E => ∃ z w, E = [.sh (.lst xs), .sh (.lst ys), z, w]) _ _ ⟨_, _, rfl⟩ (fun d hd E N hE kN => ?_) (fun E _ => k)⟩
    obtain ⟨i, hi, rfl⟩ := mem_rangeD hd
    obtain ⟨z, w, rfl⟩ := hE
    simp only [gN, dIfS, dNot, dTst]
    refine sm_at hS (x := .lst xs) (y := .lst ys) (d := .int i) rfl rfl rfl (ix_lst hl hs (by omega)) ?_
    exact kN _ ⟨_, _, rfl⟩
  · rename_i ks xs js ys
    obtain ⟨hl, hb, hs⟩ := h
    simp only [p_same1, dSeq, dIfS, dTst, dOp, dVarO, dC, rdIs, dRet, startN, dNext, dCB, dConsA, dNilA, rdIsi, isD, dOr, rdNe, okD, deq, dFor, rdLen, hl, dNot, dKeys]
    simp [hl]
    refine forL_all (E0 := fun E => ∃ z w, E = [.sh (.dic ks xs), .sh (.dic js ys), z, w]) _ _ ⟨_, _, rfl⟩ (fun d hd E N hE kN => ?_) (fun E _ => k)
    obtain ⟨kk, hk, rfl⟩ := List.mem_map.mp hd
    obtain ⟨z, w, rfl⟩ := hE
    obtain ⟨a, b, ha, _⟩ := hs kk hk
    simp only [gN, dIfS, dOr, dTst, dOp, dVarO, List.set, List.getElem?_cons_succ, List.getElem?_cons_zero, rdNotIn, keyOf_keyD, lk_has ha, Bool.not_true, Bool.false_eq_true, if_false, dNot]
    exact sm_at hS (x := .dic ks xs) (y := .dic js ys) (d := keyD kk) rfl rfl rfl (ix_dic (hs kk hk)) (kN _ ⟨_, _, rfl⟩)

theorem pure_same2 {S : SpecD} (n : Nat) (hS : ∀ ds Q, S_same n ds Q → S ds Q) : PureD (p_same2 S) (S_same (n + 1)) 4 2 := by
  rintro ds Q ⟨x, y, rfl, h, k⟩
  refine ⟨rfl, ?_⟩
  cases x <;> cases y <;> (first | exact h.elim | skip)
  · simpa [p_same2, dSeq, dIfS, dTst, dOp, dVarO, dC, rdIs, dRet, startN, dOr, dOrV, dAndV] using k
  · rename_i a b
    cases (h : a = b)
    cases a <;> simpa [p_same2, dSeq, dIfS, dTst, dOp, dVarO, dC, rdIs, dRet, startN, dNext, dOr, dAnd, dOrV, dAndV] using k
  · rename_i a b
    cases (h : a = b)
    simpa [p_same2, dSeq, dIfS, dTst, dOp, dVarO, dC, rdIs, dRet, startN, dNext, dCB, dConsA, dNilA, rdIsi, isD, dAndV, dNotV, dOr, rdEq, okD, deq] using k
  · rename_i a b
    cases (h : a = b)
    simpa [p_same2, dSeq, dIfS, dTst, dOp, dVarO, dC, rdIs, dRet, startN, dNext, dCB, dConsA, dNilA, rdIsi, isD, dAndV, dNotV, dOr, rdEq, okD, deq] using k
  · rename_i xs ys
    obtain ⟨hl, hb, hs⟩ := h
    simp only [p_same2, dSeq, dIfS, dTst, dOp, dVarO, dC, rdIs, dRet, startN, dNext, dCB, dConsA, dNilA, rdIsi, isD, dOr, dAnd, dNot, rdNe, okD, deq, dFor, rdLen, hl]
    simp [hl]
    refine ⟨rngB_len hb, forL_all (E0 := fun E => ∃ z w, E = [.sh (.tup xs), .sh (.tup ys), z, w]) _ _ ⟨_, _, rfl⟩ (fun d hd E N hE kN => ?_) (fun E _ => k)⟩
    obtain ⟨i, hi, rfl⟩ := mem_rangeD hd
    obtain ⟨z, w, rfl⟩ := hE
    simp only [gN, dIfS, dNot, dTst]
    refine sm_at hS (x := .tup xs) (y := .tup ys) (d := .int i) rfl rfl rfl (ix_tup hl hs (by omega)) ?_
    exact kN _ ⟨_, _, rfl⟩
  · rename_i xs ys
    obtain ⟨hl, hb, hs⟩ := h
    simp only [p_same2, dSeq, dIfS, dTst, dOp, dVarO, dC, rdIs, dRet, startN, dNext, dCB, dConsA, dNilA, rdIsi, isD, dOr, dAnd, dNot, rdNe, okD, deq, dFor, rdLen, hl]
    simp [hl]
    refine ⟨rngB_len hb, forL_all (E0 := fun E => ∃ z w, E = [.sh (.lst xs), .sh (.lst ys), z, w]) _ _ ⟨_, _, rfl⟩ (fun d hd E N hE kN => ?_) (fun E _ => k)⟩
    obtain ⟨i, hi, rfl⟩ := mem_rangeD hd
    obtain ⟨z, w, rfl⟩ := hE
    simp only [gN, dIfS, dNot, dTst]
    refine sm_at hS (x := .lst xs) (y := .lst ys) (d := .int i) rfl rfl rfl (ix_lst hl hs (by omega)) ?_
    exact kN _ ⟨_, _, rfl⟩
  · rename_i ks xs js ys
    obtain ⟨hl, hb, hs⟩ := h
    simp only [p_same2, dSeq, dIfS, dTst, dOp, dVarO, dC, rdIs, dRet, startN, dNext, dCB, dConsA, dNilA, rdIsi, isD, dOr, dAnd, dNot, rdNe, okD, deq, dFor, rdLen, hl, dKeys]
    simp [hl]
    refine forL_all (E0 := fun E => ∃ z w, E = [.sh (.dic ks xs), .sh (.dic js ys), z, w]) _ _ ⟨_, _, rfl⟩ (fun d hd E N hE kN => ?_) (fun E _ => k)
    obtain ⟨kk, hk, rfl⟩ := List.mem_map.mp hd
    obtain ⟨z, w, rfl⟩ := hE
    obtain ⟨a, b, ha, _⟩ := hs kk hk
    simp only [gN, dIfS, dOr, dTst, dOp, dVarO, List.set, List.getElem?_cons_succ, List.getElem?_cons_zero, rdNotIn, keyOf_keyD, lk_has ha, Bool.not_true, Bool.false_eq_true, if_false, dNot]
    exact sm_at hS (x := .dic ks xs) (y := .dic js ys) (d := keyD kk) rfl rfl rfl (ix_dic (hs kk hk)) (kN _ ⟨_, _, rfl⟩)

theorem pure_same3 {S : SpecD} (n : Nat) (hS : ∀ ds Q, S_same n ds Q → S ds Q) : PureD (p_same3 S) (S_same (n + 1)) 4 2 := by
  rintro ds Q ⟨x, y, rfl, h, k⟩
  refine ⟨rfl, ?_⟩
  cases x <;> cases y <;> (first | exact h.elim | skip)
  · simpa [p_same3, dSeq, dIfS, dTst, dOp, dVarO, dC, rdIs, dRet, startN, dNext, dCB, dConsA, dNilA, rdIsi, isD, dOr, dOrV, dAndV] using k
  · rename_i a b
    cases (h : a = b)
    cases a <;> simpa [p_same3, dSeq, dIfS, dTst, dOp, dVarO, dC, rdIs, dRet, startN, dNext, dCB, dConsA, dNilA, rdIsi, isD, dOr, dOrV, dAndV] using k
  · rename_i a b
    cases (h : a = b)
    simpa [p_same3, dSeq, dIfS, dTst, dOp, dVarO, dC, rdIs, dRet, startN, dNext, dCB, dConsA, dNilA, rdIsi, isD, dOr, dAndV, dNotV, rdEq, okD, deq] using k
  · rename_i a b
    cases (h : a = b)
    simpa [p_same3, dSeq, dIfS, dTst, dOp, dVarO, dC, rdIs, dRet, startN, dNext, dCB, dConsA, dNilA, rdIsi, isD, dOr, dAndV, dNotV, rdEq, okD, deq] using k
  · rename_i xs ys
    obtain ⟨hl, hb, hs⟩ := h
    simp only [p_same3, dSeq, dIfS, dTst, dOp, dVarO, dC, dRet, startN, dNext, dCB, dConsA, dNilA, rdIsi, isD, dOr, rdNe, okD, deq, rdLen, hl, dAndV, rdEq]
    simp [hl, okD]
    refine ⟨rngB_len hb, by simp only [rangeD, List.length_map, List.length_range, sizeLine]; omega, lcL_all (y := .bl true) _ (fun d hd N M kN => ?_) _ ?_⟩
    · obtain ⟨i, hi, rfl⟩ := mem_rangeD hd
      have e : wipeD [Sl.sh (.tup xs), Sl.sh (.tup ys), Sl.no, Sl.no] [3] = [Sl.sh (.tup xs), Sl.sh (.tup ys), Sl.no, Sl.no] := rfl
      rw [e]
      simp only [gN, dYes, if_true]
      exact sm_at hS (x := .tup xs) (y := .tup ys) (d := .int i) rfl rfl rfl (ix_tup hl hs (by omega)) kN
    · show rdAll [.lst (List.replicate _ _)] Q
      simp only [rdAll, bls_true, all_true]
      exact k
  · rename_i xs ys
    obtain ⟨hl, hb, hs⟩ := h
    simp only [p_same3, dSeq, dIfS, dTst, dOp, dVarO, dC, dRet, startN, dNext, dCB, dConsA, dNilA, rdIsi, isD, dOr, rdNe, okD, deq, rdLen, hl, dAndV, rdEq]
    simp [hl, okD]
    refine ⟨rngB_len hb, by simp only [rangeD, List.length_map, List.length_range, sizeLine]; omega, lcL_all (y := .bl true) _ (fun d hd N M kN => ?_) _ ?_⟩
    · obtain ⟨i, hi, rfl⟩ := mem_rangeD hd
      have e : wipeD [Sl.sh (.lst xs), Sl.sh (.lst ys), Sl.no, Sl.no] [3] = [Sl.sh (.lst xs), Sl.sh (.lst ys), Sl.no, Sl.no] := rfl
      rw [e]
      simp only [gN, dYes, if_true]
      exact sm_at hS (x := .lst xs) (y := .lst ys) (d := .int i) rfl rfl rfl (ix_lst hl hs (by omega)) kN
    · show rdAll [.lst (List.replicate _ _)] Q
      simp only [rdAll, bls_true, all_true]
      exact k
  · rename_i ks xs js ys
    obtain ⟨hl, hb, hs⟩ := h
    simp only [p_same3, dSeq, dIfS, dTst, dOp, dVarO, dC, dRet, startN, dNext, dCB, dConsA, dNilA, rdIsi, isD, dOr, rdNe, okD, deq, rdLen, hl, dNot]
    simp [hl, okD]
    refine ⟨by simp only [List.length_map, sizeLine]; omega, lcL_all (y := .bl true) _ (fun d hd N M kN => ?_) _ ?_⟩
    · obtain ⟨kk, hk, rfl⟩ := List.mem_map.mp hd
      obtain ⟨a, b, ha, _⟩ := hs kk hk
      have e : wipeD [Sl.sh (.dic ks xs), Sl.sh (.dic js ys), Sl.no, Sl.no] [2] = [Sl.sh (.dic ks xs), Sl.sh (.dic js ys), Sl.no, Sl.no] := rfl
      rw [e]
      simp only [gN, dAndV, dTst, dOp, dVarO, List.set, List.getElem?_cons_succ, List.getElem?_cons_zero, rdIn, keyOf_keyD, lk_has ha, if_true, dYes]
      exact sm_at hS (x := .dic ks xs) (y := .dic js ys) (d := keyD kk) rfl rfl rfl (ix_dic (hs kk hk)) kN
    · show rdAll [.lst (List.replicate _ _)] Q
      simp only [rdAll, bls_true, all_true]
      exact k

theorem sm_non (n : Nat) : smR (n + 1) .non .non := trivial
theorem sm_bl (n : Nat) (b : Bool) : smR (n + 1) (.bl b) (.bl b) := rfl
theorem sm_int (n : Nat) (i : Int) : smR (n + 1) (.int i) (.int i) := rfl
theorem sm_str (n : Nat) (x : Str) : smR (n + 1) (.str x) (.str x) := rfl
theorem sm_each {n : Nat} {xs : List D} (h : ∀ d ∈ xs, smR n d d) (i : Nat) (a b : D) (h1 : xs[i]? = some a) (h2 : xs[i]? = some b) : smR n a b := by
  rw [h1] at h2
  cases h2
  exact h a (List.mem_of_getElem? h1)
theorem sm_lst {n : Nat} {xs : List D} (hl : xs.length ≤ 100000) (h : ∀ d ∈ xs, smR n d d) : smR (n + 1) (.lst xs) (.lst xs) := ⟨rfl, hl, sm_each h⟩
theorem sm_tup {n : Nat} {xs : List D} (hl : xs.length ≤ 100000) (h : ∀ d ∈ xs, smR n d d) : smR (n + 1) (.tup xs) (.tup xs) := ⟨rfl, hl, sm_each h⟩
theorem lk_ex {κ : Type} [DecidableEq κ] {k : κ} : ∀ {ks : List κ} {ds : List D}, ks.length = ds.length → k ∈ ks → ∃ d, lk ks ds k = some d ∧ d ∈ ds
  | [], _, _, h => by cases h
  | k' :: ks, [], e, _ => by simp at e
  | k' :: ks, d :: ds, e, h => by
    unfold lk
    by_cases c : k' = k
    · exact ⟨d, if_pos c, List.mem_cons_self ..⟩
    · rcases List.mem_cons.mp h with h | h
      · exact absurd h.symm c
      · obtain ⟨d', h1, h2⟩ := lk_ex (ds := ds) (by simpa using e) h
        exact ⟨d', by rw [if_neg c, h1], List.mem_cons_of_mem _ h2⟩
theorem sm_dic {n : Nat} {ks : List Key} {ds : List D} (e : ks.length = ds.length) (hl : ks.length ≤ 100000) (h : ∀ d ∈ ds, smR n d d) : smR (n + 1) (.dic ks ds) (.dic ks ds) :=
  ⟨rfl, hl, fun k hk => by
    obtain ⟨d, h1, h2⟩ := lk_ex e hk
    exact ⟨d, d, h1, h1, h d h2⟩⟩
theorem sm_qD (n : Nat) (r : Rat) : smR (n + 2) (qD r) (qD r) := sm_tup (by simp) fun d hd => by
  simp only [List.mem_cons, List.not_mem_nil, or_false] at hd
  rcases hd with rfl | rfl <;> exact sm_int _ _
/-- a def that tells nothing yet -/
theorem Def.none {P : Program} {w : World} {K : FK} {mg : Str → Option Value} {x : Str} {st : Stmt} {ps : List Str} (F : FunAt K mg x st)
    (hb : ∀ (kV doc pm : Value) (an : Option Addr) (cdv ct : Value) (us : List Value), us.length = ps.length → bindArgs (PySem.W.fnOf x x (defArgs st) (defBody st) (defScope st) .none kV doc pm an cdv ct) ⟨us, []⟩ = pure (ps.zip us)) : Def P w K mg x ps 0 (S_same 0) := by
  obtain ⟨f, fd, F, hm⟩ := F.ex
  have no : ∀ {vs H Q E}, ¬ spD K (S_same 0) vs H Q E := fun h => by
    obtain ⟨pp, Hb, ds, QD, _, _, ⟨x, y, _, h, _⟩, _⟩ := h
    cases x <;> cases y <;> exact h
  exact ⟨f, fd, hm, F.kp, F.binds hb, fun base => ⟨fun vs H Q E h => (no h).elim, fun A outer s H args us vs Q E _ _ _ _ h => (no h).elim⟩⟩
end DL

/-! DR4: the law's own head -/
namespace DL
open PySem PySem.Spec PyProof.Rows L2

def spLaw (K : FK) : Sp := fun vs H Q _ => ∃ (a : Addr) (ns : List Int), vs = [.ref a] ∧ SqL K H a (ns.map V.int) ∧ ns.length ≤ 63 ∧ ∀ H', Q (.bl true) H'
section
variable {P : Program} {w : World} {K : FK} {mg : Str → Option Value}
theorem fun_at {h : Heap} {x : Str} {st : Stmt} {f : Addr} {oc : Value} {od an : Option Addr} {osl : Array (Option Value)} {kV doc pm cdv ct : Value} (X : K.In h) (G : h.Ns mainGlobals mg)
    (a : PySem.W.nsIn K mainGlobals x = some (some (.ref f)))
    (l : List.lookup f K = some ⟨oc, od, .func (PySem.W.fnOf x x (defArgs st) (defBody st) (defScope st) .none kV doc pm an cdv ct), osl⟩)
    (c : PySem.W.codeIn K cdv x = true) (k : PySem.W.keepIn K (.ref f) = true) : FunAt K mg x st := ⟨f, _, fun_mk l c k, PySem.W.mg_of X G a⟩
theorem fnLaw {x x' : Str} {st : Stmt} {N : List Str} {k : Nat} {S : Sp} (F : FunAt K mg x st)
    (hb : ∀ (kV doc pm : Value) (an : Option Addr) (cdv ct : Value) (s : Shared) (u : Value), BindsTo s (PySem.W.fnOf x x (defArgs st) (defBody st) (defScope st) .none kV doc pm an cdv ct) ⟨[u], []⟩ [(x', u)])
    (sc : FnScope N [x'] (defScope st)) (len : ∀ vs H Q E, S vs H Q E → vs.length = 1)
    (body : ∀ (base : Heap) (f : Addr) (cdv : Value) (A : Around) (outer : List Env) (s : Shared) (H : Hp) (vs : List V) (Q : VK) (E : XK), Room k (A.deeper (envOfC x (defScope st) s.heap.objs.size f cdv)) → S vs H Q E →
      ∃ t, PSs (cxOf CX0 P w K mg base N x (defScope st) f cdv A outer s H E).nox (defBody st) t ∧ t { nx := fun _ H' => Q .non H', rt := Q } (L2.start N vs) H) {fa : Addr} (hmg : mg x = some (.ref fa)) :
    ∃ fd, (∀ (s : Shared) (u : Value), BindsTo s fd ⟨[u], []⟩ [(x', u)]) ∧ ∀ base : Heap, K.In base → base.Ns mainGlobals mg → FnOk P w K mg base CX0 (k + 1) fa fd [x'] S := by
  obtain ⟨f, fd, F, hm⟩ := F.ex
  cases hm.symm.trans hmg
  have F' := F
  obtain ⟨⟨oc, od, kV, doc, pm, an, cdv, ct, osl, rfl, _, _⟩, _⟩ := F'
  exact ⟨_, hb _ _ _ _ _ _, fun base _ _ => F.ok sc len fun cdv A outer s H vs Q E hr h => body base _ cdv A outer s H vs Q E hr h⟩
theorem rep_no {n i : Nat} {d : Sl} (hd : d ≠ .no) (h : (List.replicate n Sl.no)[i]? = some d) : False := by
  rw [List.getElem?_replicate] at h
  split at h
  · cases h; exact hd rfl
  · cases h
theorem law_run {X : Cx} {st0 : Stmt} {tail : List Stmt} {p : DS} {Q : VK} {a : Addr} {ns : List Int} {H : Hp} {n : Nat} (h0 : PS X st0 (tAsg (tCall (spPool X.K) [] E0 (tCons (tVar 0) tNil)) (gName 1))) (R : QSs X tail p)
    (hs : SqL X.K H a (ns.map V.int)) (q : ∀ H', Q (.bl true) H') (hp : ∀ QD : D → Prop, QD (.bl true) → p (fnEnds QD) (.no :: .sh .pool :: List.replicate n .no)) :
    ∃ t, PSs X (st0 :: tail) t ∧ t { nx := fun _ H' => Q .non H', rt := Q } (some (.ref a) :: none :: List.replicate n none) H := by
  obtain ⟨t, h1, h2⟩ := R
  refine ⟨_, pss_cons h0 h1, ?_⟩
  refine ⟨_, rfl, a, ns, rfl, hs, fun l r hl => ?_⟩
  have so : SOk l X.K H (upd H l (.lst [.ref a, .int 0, .int r, .int 0])) := by
    refine ⟨fun b o h => ?_, hl, a, ns, 0, r, 0, upd_same, hs⟩
    rw [upd_ne (fun z => by subst z; rw [hl] at h; cases h)]
    exact h
  refine h2 l H H H _ _ _ _ (fnEnds fun d => d = .bl true) ?_ so ?_ (hp _ rfl) ?_
  · refine ⟨Same.refl _, fun b o hb h => by rw [upd_ne hb]; exact h, fun b h => ?_, fun b h _ => h⟩
    by_cases e : b = l
    · subst e; exact absurd hl h
    · rw [upd_ne e]; exact h
  · refine ⟨?_, fun i d h => ?_, fun i d h => ?_, fun i j p d d' hij h => ?_⟩
    · simp [gName]
    · match i, h with
      | 0, h => cases h
      | 1, h =>
        cases h
        exact ⟨.ref l, rfl, rfl⟩
      | i + 2, h => exact (rep_no (by simp) h).elim
    · match i, h with
      | 0, h => cases h
      | 1, h => cases h
      | i + 2, h => exact (rep_no (by simp) h).elim
    · match i, h with
      | 0, h => cases h
      | 1, h => cases h
      | i + 2, h => exact (rep_no (by simp) h).elim
  · refine ⟨fun Hb H σ E s so er h => (nomatch (h : D.non = .bl true)), fun Hb H v d s so r h => ?_, fun Hb H σ E s so er h => h.elim, fun Hb H σ E s so er h => h.elim⟩
    have h : d = .bl true := h
    subst h
    have : v = .bl true := r
    subst this
    exact q _
theorem glob_pair {h : Heap} {x : Str} {a : Addr} {od : Option Addr} {sl : Array (Option Value)} {p q : Int} {t1 t2 : Tok} {n : Nat} (X : K.In h) (G : h.Ns mainGlobals mg)
    (e : PySem.W.nsIn K mainGlobals x = some (some (.ref a))) (l : List.lookup a K = some ⟨.type "tuple", od, .seq #[.int p t1, .int q t2] n, sl⟩) : GlobD K mg x (.tup [.int p, .int q]) := by
  refine ⟨.ref a, .ref a, PySem.W.mg_of X G e, rfl, fun pp H => ?_⟩
  unfold Rep
  refine ⟨a, [.int p, .int q], rfl, .inr ⟨_, _, _, l, rfl, rfl, by show 2 ≤ sizeLine; decide, .cons ⟨_, rfl⟩ (.cons ⟨_, rfl⟩ .nil)⟩, .cons rep_int (.cons rep_int .nil)⟩
end
end DL

/-! DZ: zip(a, b, strict=..) of lists and tuples of one length -/
namespace DZ
open PySem PySem.Spec PyProof.Rows L2
open PySem.Sem (wp)
/-- an iterator of a list (t) or a tuple, k items on -/
def ItAt (t : Bool) (h : Heap) (c l : Addr) (k : Nat) : Prop := match t with
  | true => h.IsListIter c l k
  | false => h.IsTupleIter c l k
def SqAt (t : Bool) (h : Heap) (l : Addr) (xs : Array Value) : Prop := match t with
  | true => h.IsList l xs
  | false => h.IsTuple l xs
theorem ItAt.at {t : Bool} {h g : Heap} {c l : Addr} {k : Nat} (x : ItAt t h c l k) (e : ∀ o, h.get? c = some o → g.get? c = some o) : ItAt t g c l k := by
  cases t
  · obtain ⟨o, h1, h2⟩ := x
    exact ⟨o, e _ h1, h2⟩
  · obtain ⟨o, h1, h2⟩ := x
    exact ⟨o, e _ h1, h2⟩
theorem SqAt.at {t : Bool} {h g : Heap} {l : Addr} {xs : Array Value} (x : SqAt t h l xs) (e : ∀ o, h.get? l = some o → g.get? l = some o) : SqAt t g l xs := by
  cases t
  · obtain ⟨o, h1, h2⟩ := x
    exact ⟨o, e _ h1, h2⟩
  · obtain ⟨o, h1, h2⟩ := x
    exact ⟨o, e _ h1, h2⟩
theorem ItAt.is {t : Bool} {h : Heap} {c l : Addr} {k : Nat} (x : ItAt t h c l k) : ∃ o, h.get? c = some o ∧ ∀ v, o.data ≠ .cell v := by
  cases t
  · obtain ⟨o, h1, h2, h3⟩ := x
    exact ⟨o, h1, fun v q => by rw [h3] at q; cases q⟩
  · obtain ⟨o, h1, h2, h3⟩ := x
    exact ⟨o, h1, fun v q => by rw [h3] at q; cases q⟩
section
variable {prog : Program} {w : World} {A : Around} {E : Value → Shared → Prop} {s : Shared} {t t' : Bool}
theorem nx_item {c l : Addr} {k : Nat} {xs : Array Value} {x : Value} {Q : Value → Shared → Prop} (h1 : ItAt t s.heap c l k) (h2 : SqAt t s.heap l xs) (hx : xs[k]? = some x)
    (q : ∀ g, ItAt t g c l (k + 1) → Heap.SameBut c s.heap g → Q x { s with heap := g }) : wpAny (model prog w) A (Builtin.SmallTypes.nextOf (.ref c)) Q E s := by
  cases t
  · exact RZ.nextOf_tuple_item h1 h2 hx q
  · exact wpAny_nextOf_list_item h1 h2 hx q
theorem nx_end {c l : Addr} {k : Nat} {xs : Array Value} {Q : Value → Shared → Prop} (hh : A.handled = none) (h1 : ItAt t s.heap c l k) (h2 : SqAt t s.heap l xs) (hx : xs[k]? = none)
    (q : ∀ g e, Heap.ExtBut c s.heap g → (∃ o, g.get? e = some o ∧ o.cls = .type "StopIteration") → E (.ref e) { s with heap := g }) : wpAny (model prog w) A (Builtin.SmallTypes.nextOf (.ref c)) Q E s := by
  cases t
  · exact RZ.nextOf_tuple_end hh h1 h2 hx q
  · exact wpAny_nextOf_list_end hh h1 h2 hx q
theorem ne_item {c l : Addr} {k : Nat} {xs : Array Value} {x : Value} {Q : Option Value → Shared → Prop} (h1 : ItAt t s.heap c l k) (h2 : SqAt t s.heap l xs) (hx : xs[k]? = some x)
    (q : ∀ g, ItAt t g c l (k + 1) → Heap.SameBut c s.heap g → Q (some x) { s with heap := g }) : wpAny (model prog w) A (Builtin.SmallTypes.nextOrEnd (.ref c)) Q E s := by
  unfold Builtin.SmallTypes.nextOrEnd
  exact wpAny_bind (wpAny_attempt (nx_item h1 h2 hx fun g a b => wpAny_pure (q g a b)))
theorem ne_end {c l : Addr} {k : Nat} {xs : Array Value} {Q : Option Value → Shared → Prop} (hh : A.handled = none) (h1 : ItAt t s.heap c l k) (h2 : SqAt t s.heap l xs) (hx : xs[k]? = none)
    (q : ∀ g, Heap.ExtBut c s.heap g → Q none { s with heap := g }) : wpAny (model prog w) A (Builtin.SmallTypes.nextOrEnd (.ref c)) Q E s := by
  unfold Builtin.SmallTypes.nextOrEnd
  refine wpAny_bind (wpAny_attempt (nx_end hh h1 h2 hx fun g e a b => ?_))
  obtain ⟨o, ho, hc⟩ := b
  exact wpAny_bind (wpAny_isInstance (T := "StopIteration") (b := true) ⟨o, ho, hc⟩ isSubtype_stop (wpAny_pure (q g a)))
/-- the record of a strict zip -/
abbrev IsZipS (h : Heap) (z cI cO : Addr) (f0 : Value) : Prop :=
  h.get? z = some { cls := .type "zip", dict := none, data := .fields #[f0, .bool false, .bool true, .ref cI, .ref cO], slots := #[] }
theorem zs_item {z cI cO a1 a2 b1 b2 : Addr} {k1 k2 : Nat} {xs ys : Array Value} {x y u v : Value} {Q : Value → Shared → Prop} (D : ZipApart z cI cO a1 a2 b1 b2)
    (hz : IsZipS s.heap z cI cO .none) (hI : IsPair s.heap cI (.ref a1) (.ref a2)) (hO : IsPair s.heap cO u v)
    (h1 : ItAt t s.heap a1 b1 k1) (h2 : ItAt t' s.heap a2 b2 k2) (g1 : SqAt t s.heap b1 xs) (g2 : SqAt t' s.heap b2 ys) (hx : xs[k1]? = some x) (hy : ys[k2]? = some y)
    (q : ∀ h', IsZipS h' z cI cO (rawInt s.heap.objs.size) → IsPair h' cO x y → ItAt t h' a1 b1 (k1 + 1) → ItAt t' h' a2 b2 (k2 + 1) → IsPair h' s.heap.objs.size x y → h'.objs.size = s.heap.objs.size + 1 →
      (∀ c o, c ≠ z → c ≠ cO → c ≠ a1 → c ≠ a2 → s.heap.get? c = some o → h'.get? c = some o) → Q (.ref s.heap.objs.size) { s with heap := h' }) :
    wpAny (model prog w) A (Builtin.«zip.__next__» ⟨[.ref z], []⟩) (fun fin s' => ∃ v, fin = .done (.ret v) ∧ Q v s') E s := by
  show wpAny _ _ (field (.ref z) 2 >>= _) _ E s
  refine wpAny_bind (wpAny_field hz rfl (x := .bool true) rfl ?_)
  show wpAny _ _ (field (.ref z) 3 >>= _) _ E s
  refine wpAny_bind (wpAny_field hz rfl (x := .ref cI) rfl ?_)
  refine wpAny_bind (wpAny_seqItems hI rfl ?_)
  show wpAny _ _ (Builtin.SmallTypes.ownedTupleIsFree (.ref z) >>= _) _ E s
  refine wpAny_bind ?_
  unfold Builtin.SmallTypes.ownedTupleIsFree
  refine wpAny_bind (wpAny_field hz rfl (x := .none) rfl (wpAny_pure ?_))
  simp only [if_true]
  refine wpAny_bind (wpAny_rule ?_)
  refine wpAny_bind (wpAny_field hz rfl (x := .ref cO) rfl ?_)
  refine wpAny_bind (wpAny_setField_rec hz (by simp) fun m1 z1 s1 => ?_)
  replace z1 : IsZipS m1 z cI cO .ellipsis := z1
  refine wpAny_bind ?_
  simp only [List.zipIdx_cons, List.zipIdx_nil, List.forIn_cons, List.forIn_nil] <;> skip
  refine wpAny_bind (wpAny_bind (wpAny_onRaise ?_)) <;> skip
  show wpAny _ _ (Builtin.SmallTypes.nextOrEnd (.ref a1)) _ _ _
  refine ne_item (h1.at fun o e => s1.extBut _ _ D.i1z e) (g1.at fun o e => s1.extBut _ _ D.l1z e) hx fun m2 j1 s2 => ?_
  have O2 : IsPair m2 cO u v := s2.extBut _ _ D.TOi1 (s1.extBut _ _ D.TOz hO)
  refine wpAny_bind (wpAny_seqItems O2 rfl ?_)
  refine wpAny_bind (wpAny_updateSeq_pair O2 fun m3 O3 s3 => ?_)
  replace O3 : IsPair m3 cO x v := O3
  refine wpAny_bind (wpAny_letGo (wpAny_pure ?_)) <;> skip
  refine wpAny_bind (wpAny_bind (wpAny_onRaise ?_)) <;> skip
  show wpAny _ _ (Builtin.SmallTypes.nextOrEnd (.ref a2)) _ _ _
  refine ne_item (h2.at fun o e => s3.extBut _ _ D.TOi2.symm (s2.extBut _ _ D.i12.symm (s1.extBut _ _ D.i2z e))) (g2.at fun o e => s3.extBut _ _ D.l2TO (s2.extBut _ _ D.l2i1 (s1.extBut _ _ D.l2z e))) hy fun m4 j2 s4 => ?_
  have O4 : IsPair m4 cO x v := s4.extBut _ _ D.TOi2 O3
  refine wpAny_bind (wpAny_seqItems O4 rfl ?_)
  refine wpAny_bind (wpAny_updateSeq_pair O4 fun m5 O5 s5 => ?_)
  replace O5 : IsPair m5 cO x y := O5
  refine wpAny_bind (wpAny_letGo (wpAny_pure (wpAny_pure ?_))) <;> skip
  refine wpAny_bind (wpAny_seqItems O5 rfl ?_)
  refine wpAny_bind (wpAny_newTuple ?_) <;> skip
  have sz : m5.objs.size = s.heap.objs.size := by rw [s5.1, s4.1, s3.1, s2.1, s1.1]
  have z5 : IsZipS m5 z cI cO .ellipsis := s5.extBut _ _ D.TOz.symm (s4.extBut _ _ D.i2z.symm (s3.extBut _ _ D.TOz.symm (s2.extBut _ _ D.i1z.symm z1)))
  have kk : ∀ c o, c ≠ z → c ≠ cO → c ≠ a1 → c ≠ a2 → s.heap.get? c = some o → m5.get? c = some o := fun c o n1 n2 n3 n4 e =>
    s5.extBut _ _ n2 (s4.extBut _ _ n4 (s3.extBut _ _ n2 (s2.extBut _ _ n3 (s1.extBut _ _ n1 e))))
  have e1 : ItAt t m5 a1 b1 (k1 + 1) := j1.at fun o e => s5.extBut _ _ D.TOi1.symm (s4.extBut _ _ D.i12 (s3.extBut _ _ D.TOi1.symm e))
  have e2 : ItAt t' m5 a2 b2 (k2 + 1) := j2.at fun o e => s5.extBut _ _ D.TOi2.symm e
  have zl : z < m5.objs.size := Heap.lt_size z5
  show wpAny _ _ (Builtin.SmallTypes.ownedTupleHandOut (.ref z) (.ref m5.objs.size) >>= _) _ _ _
  refine wpAny_bind ?_
  unfold Builtin.SmallTypes.ownedTupleHandOut
  have z6 : IsZipS (m5.push { cls := .type "tuple", data := .seq #[x, y] }) z cI cO .ellipsis := Heap.get?_push_of_some _ z5
  refine wpAny_bind (wpAny_setField_rec z6 (by simp) fun m7 z7 s7 => ?_)
  replace z7 : IsZipS m7 z cI cO (rawInt m5.objs.size) := z7
  refine wpAny_setField_rec z7 (by simp) fun m8 z8 s8 => ?_
  replace z8 : IsZipS m8 z cI cO (rawInt m5.objs.size) := z8
  have up : ∀ c o, c ≠ z → m5.get? c = some o → m8.get? c = some o := fun c o n e => s8.extBut _ _ n (s7.extBut _ _ n (Heap.get?_push_of_some _ e))
  have T8 : IsPair m8 m5.objs.size x y := s8.extBut _ _ (Nat.ne_of_gt zl) (s7.extBut _ _ (Nat.ne_of_gt zl) (Heap.get?_push_size _ rfl))
  have n8 : m8.objs.size = m5.objs.size + 1 := by rw [s8.1, s7.1, Heap.size_push]
  rw [sz] at z8 T8 n8
  refine wpAny_pure ⟨_, rfl, ?_⟩
  show Q (.ref m5.objs.size) _
  rw [sz]
  exact q m8 z8 (up _ _ D.TOz O5) (e1.at fun o e => up _ o D.i1z e) (e2.at fun o e => up _ o D.i2z e) T8 n8 fun c o n1 n2 n3 n4 e => up c o n1 (kk c o n1 n2 n3 n4 e)
theorem zs_end {z cI cO a1 a2 b1 b2 : Addr} {k1 k2 : Nat} {xs ys : Array Value} {u v : Value} {Q : Fin → Shared → Prop} (hh : A.handled = none) (D : ZipApart z cI cO a1 a2 b1 b2)
    (hz : IsZipS s.heap z cI cO .none) (hI : IsPair s.heap cI (.ref a1) (.ref a2)) (hO : IsPair s.heap cO u v)
    (h1 : ItAt t s.heap a1 b1 k1) (h2 : ItAt t' s.heap a2 b2 k2) (g1 : SqAt t s.heap b1 xs) (g2 : SqAt t' s.heap b2 ys) (hx : xs[k1]? = none) (hy : ys[k2]? = none)
    (q : ∀ h' e, (∀ c o, c ≠ z → c ≠ cO → c ≠ a1 → c ≠ a2 → s.heap.get? c = some o → h'.get? c = some o) → (∃ o, h'.get? e = some o ∧ o.cls = .type "StopIteration") → E (.ref e) { s with heap := h' }) :
    wpAny (model prog w) A (Builtin.«zip.__next__» ⟨[.ref z], []⟩) Q E s := by
  show wpAny _ _ (field (.ref z) 2 >>= _) Q E s
  refine wpAny_bind (wpAny_field hz rfl (x := .bool true) rfl ?_)
  show wpAny _ _ (field (.ref z) 3 >>= _) Q E s
  refine wpAny_bind (wpAny_field hz rfl (x := .ref cI) rfl ?_)
  refine wpAny_bind (wpAny_seqItems hI rfl ?_)
  show wpAny _ _ (Builtin.SmallTypes.ownedTupleIsFree (.ref z) >>= _) Q E s
  refine wpAny_bind ?_
  unfold Builtin.SmallTypes.ownedTupleIsFree
  refine wpAny_bind (wpAny_field hz rfl (x := .none) rfl (wpAny_pure ?_))
  simp only [if_true]
  refine wpAny_bind (wpAny_rule ?_)
  refine wpAny_bind (wpAny_field hz rfl (x := .ref cO) rfl ?_)
  refine wpAny_bind (wpAny_setField_rec hz (by simp) fun m1 z1 s1 => ?_)
  replace z1 : IsZipS m1 z cI cO .ellipsis := z1
  refine wpAny_bind ?_
  simp only [List.zipIdx_cons, List.zipIdx_nil, List.forIn_cons, List.forIn_nil] <;> skip
  refine wpAny_bind (wpAny_bind (wpAny_onRaise ?_)) <;> skip
  show wpAny _ _ (Builtin.SmallTypes.nextOrEnd (.ref a1)) _ _ _
  refine ne_end hh (h1.at fun o e => s1.extBut _ _ D.i1z e) (g1.at fun o e => s1.extBut _ _ D.l1z e) hx fun m2 s2 => ?_
  have z2 : IsZipS m2 z cI cO .ellipsis := s2 _ _ D.i1z.symm z1
  refine wpAny_bind (wpAny_setField_rec z2 (by simp) fun m3 z3 s3 => ?_)
  refine wpAny_bind ?_
  show wpAny (model prog w) A ((forIn [(Value.ref a2, 1)] PUnit.unit _ : Sem PUnit) >>= fun _ => PySem.rule "zip.__next__.all-ended" >>= fun _ => Builtin.SmallTypes.stopIteration) _ _ _
  simp only [List.forIn_cons, List.forIn_nil] <;> skip
  refine wpAny_bind (wpAny_bind (wpAny_bind (ne_end hh (h2.at fun o e => s3.extBut _ _ D.i2z (s2 _ _ D.i12.symm (s1.extBut _ _ D.i2z e))) (g2.at fun o e => s3.extBut _ _ D.l2z (s2 _ _ D.l2i1 (s1.extBut _ _ D.l2z e))) hy fun m4 s4 => ?_)))
  refine wpAny_pure (wpAny_pure (wpAny_bind (wpAny_rule ?_)))
  have z4 : IsZipS m4 z cI cO .none := s4 _ _ D.i2z.symm z3
  have kk : ∀ c o, c ≠ z → c ≠ a1 → c ≠ a2 → s.heap.get? c = some o → m4.get? c = some o := fun c o n1 n2 n3 e =>
    s4 _ _ n3 (s3.extBut _ _ n1 (s2 _ _ n2 (s1.extBut _ _ n1 e)))
  unfold Builtin.SmallTypes.stopIteration
  refine wpAny_bind ?_
  simp only [newExc, newTuple] <;> skip
  refine wpAny_bind (wpAny_newObj_type ?_ (by size_fits)) <;> skip
  refine wpAny_bind (m := firstArgMember _ _) (wpAny_of_eq (a := Value.none) (by first | rfl | (simp only [firstArgMember]; rfl)) ?_) <;> skip
  refine wpAny_newObj_type ?_ (by size_fits) <;> skip
  simp only [raiseNew] <;> skip
  refine wpAny_bind (wpAny_handled ?_) <;> skip
  rw [hh]
  refine wpAny_bind (wpAny_pure (wpAny_throw ?_)) <;> skip
  exact q _ _ (fun c o n1 n2 n3 n4 e => Heap.get?_push_of_some _ (Heap.get?_push_of_some _ (kk c o n1 n3 n4 e))) ⟨_, Heap.get?_push_size _ rfl, rfl⟩
theorem pn_item {z cI cO a1 a2 b1 b2 : Addr} {k1 k2 : Nat} {xs ys : Array Value} {x y u v : Value} {Q : Option Value → Shared → Prop} (D : ZipApart z cI cO a1 a2 b1 b2)
    (hz : IsZipS s.heap z cI cO .none) (hI : IsPair s.heap cI (.ref a1) (.ref a2)) (hO : IsPair s.heap cO u v)
    (h1 : ItAt t s.heap a1 b1 k1) (h2 : ItAt t' s.heap a2 b2 k2) (g1 : SqAt t s.heap b1 xs) (g2 : SqAt t' s.heap b2 ys) (hx : xs[k1]? = some x) (hy : ys[k2]? = some y)
    (q : ∀ h', IsZipS h' z cI cO (rawInt s.heap.objs.size) → IsPair h' cO x y → ItAt t h' a1 b1 (k1 + 1) → ItAt t' h' a2 b2 (k2 + 1) → IsPair h' s.heap.objs.size x y → h'.objs.size = s.heap.objs.size + 1 →
      (∀ c o, c ≠ z → c ≠ cO → c ≠ a1 → c ≠ a2 → s.heap.get? c = some o → h'.get? c = some o) → Q (some (.ref s.heap.objs.size)) { s with heap := h' }) :
    wpAny (model prog w) A (pyNext (.ref z)) Q E s := by
  have hT : s.TypeIs (.ref z) "zip" := ⟨_, hz, rfl⟩
  unfold pyNext
  exact wpAny_bind (wpAny_attempt (wpAny_callSpecial?_slot (name := (Str.ofString "__next__")) hT F.slot_zip_next
    (wpAny_call_entry F.slot_zip_next hT F.entry_zip_next (zs_item D hz hI hO h1 h2 g1 g2 hx hy fun g a1 a2 a3 a4 a5 a6 a7 => wpAny_pure (q g a1 a2 a3 a4 a5 a6 a7)) (F.args_zip_next_1 _))))
theorem pn_end {z cI cO a1 a2 b1 b2 : Addr} {k1 k2 : Nat} {xs ys : Array Value} {u v : Value} {Q : Option Value → Shared → Prop} (hh : A.handled = none) (D : ZipApart z cI cO a1 a2 b1 b2)
    (hz : IsZipS s.heap z cI cO .none) (hI : IsPair s.heap cI (.ref a1) (.ref a2)) (hO : IsPair s.heap cO u v)
    (h1 : ItAt t s.heap a1 b1 k1) (h2 : ItAt t' s.heap a2 b2 k2) (g1 : SqAt t s.heap b1 xs) (g2 : SqAt t' s.heap b2 ys) (hx : xs[k1]? = none) (hy : ys[k2]? = none)
    (q : ∀ h', (∀ c o, c ≠ z → c ≠ cO → c ≠ a1 → c ≠ a2 → s.heap.get? c = some o → h'.get? c = some o) → Q none { s with heap := h' }) :
    wpAny (model prog w) A (pyNext (.ref z)) Q E s := by
  have hT : s.TypeIs (.ref z) "zip" := ⟨_, hz, rfl⟩
  unfold pyNext
  refine wpAny_bind (wpAny_attempt (wpAny_callSpecial?_slot (name := (Str.ofString "__next__")) hT F.slot_zip_next
    (wpAny_call_entry F.slot_zip_next hT F.entry_zip_next (zs_end hh D hz hI hO h1 h2 g1 g2 hx hy fun g e kk he => ?_) (F.args_zip_next_1 _))))
  obtain ⟨o, ho, hc⟩ := he
  exact wpAny_bind (wpAny_isInstance (T := "StopIteration") (b := true) ⟨o, ho, hc⟩ isSubtype_stop (wpAny_pure (q _ kk)))
theorem go_zs {elts : List Expr} {x1} {pos : Pos} {z cI cO T : Addr} {Q : Unit → Shared → Prop} (hz : IsZipS s.heap z cI cO (rawInt T))
    (q : ∀ h', IsZipS h' z cI cO .none → Heap.SameBut z s.heap h' → Q () { s with heap := h' }) : wpAny (model prog w) A (letOwnedTupleGo (.Tuple elts x1 pos) (.ref z) (.ref T)) Q E s := by
  unfold letOwnedTupleGo
  refine wpAny_bind (wpAny_load hz ?_) <;> skip
  show wpAny _ _ (if (["enumerate", "zip", "dict_itemiterator", "dict_reverseitemiterator", "odict_iterator", "itertools.zip_longest", "itertools.pairwise"].contains "zip" && (#[rawInt T, .bool false, .bool true, .ref cI, .ref cO] : Array Value)[0]? == some (rawInt T)) = true then _ else _) Q E s
  rw [if_pos (by simp)]
  refine wpAny_bind (wpAny_rule ?_)
  show wpAny _ _ (setField (.ref z) 0 .none) Q E s
  exact wpAny_setField_rec hz (by simp) fun g a b => q g a b
theorem self_zs {z cI cO : Addr} {f0 : Value} {Q : Value → Shared → Prop} (hz : IsZipS s.heap z cI cO f0) (q : Q (.ref z) s) : wpAny (model prog w) A (pyIter (.ref z)) Q E s := by
  have hT : s.TypeIs (.ref z) "zip" := ⟨_, hz, rfl⟩
  refine wpAny_pyIter_slot hT F.slot_zip_iter (wpAny_call_entry F.slot_zip_iter hT F.entry_zip_iter ?_ (F.args_zip_iter_1 _))
  exact wpAny_pure ⟨_, rfl, "zip", _, hT, F.slot_zip_next.lookup, q⟩
end

def itO (t : Bool) (l : Addr) : Obj := match t with
  | true => { cls := .type "list_iterator", data := .fields #[.ref l, .int 0 0] }
  | false => { cls := .type "tuple_iterator", data := .fields #[.ref l, .int 0 0] }
theorem itO_at {t : Bool} {h : Heap} {c l : Addr} (e : h.get? c = some (itO t l)) : ItAt t h c l 0 := by
  cases t
  · exact ⟨_, e, rfl, rfl⟩
  · exact ⟨_, e, rfl, rfl⟩
theorem itO_fr (t : Bool) (l : Addr) : (itO t l).isFreed = false := by cases t <;> rfl
section
variable {prog : Program} {w : World} {A : Around} {E : Value → Shared → Prop} {s : Shared} {t t' : Bool}
theorem pi_at {l : Addr} {xs : Array Value} {Q : Value → Shared → Prop} (hl : SqAt t s.heap l xs) (q : Q (.ref s.heap.objs.size) { s with heap := s.heap.push (itO t l) }) : wpAny (model prog w) A (pyIter (.ref l)) Q E s := by
  cases t
  · exact wpAny_pyIter_tuple hl q
  · exact wpAny_pyIter_list hl q
abbrev zn1 (t : Bool) (h : Heap) (l1 : Addr) : Heap := h.push (itO t l1)
abbrev zn2 (t t' : Bool) (h : Heap) (l1 l2 : Addr) : Heap := (zn1 t h l1).push (itO t' l2)
abbrev zn3 (t t' : Bool) (h : Heap) (l1 l2 : Addr) : Heap := (zn2 t t' h l1 l2).push { cls := .type "tuple", data := .seq #[.ref h.objs.size, .ref (zn1 t h l1).objs.size] }
abbrev zn4 (t t' : Bool) (h : Heap) (l1 l2 : Addr) : Heap := (zn3 t t' h l1 l2).push { cls := .type "tuple", data := .seq #[.none, .none] }
abbrev zn5 (t t' : Bool) (h : Heap) (l1 l2 : Addr) : Heap := (zn4 t t' h l1 l2).push { cls := .type "zip", data := .fields #[.none, .bool false, .bool true, .ref (zn2 t t' h l1 l2).objs.size, .ref (zn3 t t' h l1 l2).objs.size] }
theorem zs_new (t t' : Bool) (l1 l2 : Addr) (xs ys : Array Value) :
    Meets (Builtin.«zip.__new__» ⟨[.type "zip", .ref l1, .ref l2], [(Str.ofString "strict", .bool true)]⟩) (fun _ R s => SqAt t s.heap l1 xs ∧ SqAt t' s.heap l2 ys ∧
      R (.ok (.ret (.ref (zn4 t t' s.heap l1 l2).objs.size))) { s with heap := zn5 t t' s.heap l1 l2 }) :=
  .of_wp fun prog w A R s h => by
    obtain ⟨hp, g, d, tk, os⟩ := s
    obtain ⟨hl1, hl2, h⟩ := h
    have hsub := sub_zip
    have e1 : (Str.ofString "strict" != ("strict" : Str)) = false := by decide +kernel
    have q1 : ∀ {A' : Around} {E : Value → Shared → Prop} {Q : Value → Shared → Prop}, Q (.ref hp.objs.size) ⟨hp.push (itO t l1), g, d, tk, os⟩ → wpAny (model prog w) A' (pyIter (.ref l1)) Q E ⟨hp, g, d, tk, os⟩ :=
      fun {A' E Q} q => pi_at (s := ⟨hp, g, d, tk, os⟩) hl1 q
    have hl2' : SqAt t' (hp.push (itO t l1)) l2 ys := hl2.at fun o e => Heap.get?_push_of_some _ e
    have q2 : ∀ {A' : Around} {E : Value → Shared → Prop} {Q : Value → Shared → Prop}, Q (.ref (hp.push (itO t l1)).objs.size) ⟨(hp.push (itO t l1)).push (itO t' l2), g, d, tk, os⟩ → wpAny (model prog w) A' (pyIter (.ref l2)) Q E ⟨hp.push (itO t l1), g, d, tk, os⟩ :=
      fun {A' E Q} q => pi_at (s := ⟨hp.push (itO t l1), g, d, tk, os⟩) hl2' q
    wp_walk using q1, q2
    exact ⟨_, rfl, h⟩
theorem tc_zs (a b c : Value) : checkTypeCall "zip" ⟨[a, b], [(Str.ofString "strict", c)]⟩ = pure () := by kernel_rfl
theorem nc_zs (a b c : Value) : checkBuiltinCall "zip.__new__" ⟨[.type "zip", a, b], [(Str.ofString "strict", c)]⟩ = pure () := by kernel_rfl
theorem oi_zs (obj a b c : Value) : argsOk "object.__init__" ⟨[obj, a, b], [(Str.ofString "strict", c)]⟩ := by
  unfold argsOk
  kernel_rfl
theorem call_zs {l1 l2 : Addr} {xs ys : Array Value} {Q : Value → Shared → Prop} (hl1 : SqAt t s.heap l1 xs) (hl2 : SqAt t' s.heap l2 ys)
    (q : ∀ h', IsZipS h' (s.heap.objs.size + 4) (s.heap.objs.size + 2) (s.heap.objs.size + 3) .none → IsPair h' (s.heap.objs.size + 2) (.ref s.heap.objs.size) (.ref (s.heap.objs.size + 1)) →
      IsPair h' (s.heap.objs.size + 3) .none .none → ItAt t h' s.heap.objs.size l1 0 → ItAt t' h' (s.heap.objs.size + 1) l2 0 →
      (∀ c o, s.heap.get? c = some o → h'.get? c = some o) → Q (.ref (s.heap.objs.size + 4)) { s with heap := h' }) :
    wpAny (model prog w) A (call (.type "zip") [.ref l1, .ref l2] [(Str.ofString "strict", .bool true)]) Q E s := by
  refine callType_newKw F.called_zip (by decide) (tc_zs _ _ _) (nc_zs _ _ _) (fun obj => oi_zs obj _ _ _) F.entry_zip_new (zs_new t t' l1 l2 xs ys) ⟨hl1, hl2, ?_⟩
  have z1 : (zn1 t s.heap l1).objs.size = s.heap.objs.size + 1 := Heap.size_push ..
  have z2 : (zn2 t t' s.heap l1 l2).objs.size = s.heap.objs.size + 2 := by rw [Heap.size_push, z1]
  have z3 : (zn3 t t' s.heap l1 l2).objs.size = s.heap.objs.size + 3 := by rw [Heap.size_push, z2]
  have z4 : (zn4 t t' s.heap l1 l2).objs.size = s.heap.objs.size + 4 := by rw [Heap.size_push, z3]
  have y5 : (zn5 t t' s.heap l1 l2).get? (zn4 t t' s.heap l1 l2).objs.size = some _ := Heap.get?_push_size _ rfl
  have y4 : (zn5 t t' s.heap l1 l2).get? (zn3 t t' s.heap l1 l2).objs.size = some _ := Heap.get?_push_of_some _ (Heap.get?_push_size _ rfl)
  have y3 : (zn5 t t' s.heap l1 l2).get? (zn2 t t' s.heap l1 l2).objs.size = some _ := Heap.get?_push_of_some _ (Heap.get?_push_of_some _ (Heap.get?_push_size _ rfl))
  have y2 : (zn5 t t' s.heap l1 l2).get? (zn1 t s.heap l1).objs.size = some (itO t' l2) := Heap.get?_push_of_some _ (Heap.get?_push_of_some _ (Heap.get?_push_of_some _ (Heap.get?_push_size _ (itO_fr _ _))))
  have y1 : (zn5 t t' s.heap l1 l2).get? s.heap.objs.size = some (itO t l1) := Heap.get?_push_of_some _ (Heap.get?_push_of_some _ (Heap.get?_push_of_some _ (Heap.get?_push_of_some _ (Heap.get?_push_size _ (itO_fr _ _)))))
  show _ ∧ _
  rw [z2, z3, z4] at y5
  rw [z1, z2] at y3
  rw [z3] at y4
  rw [z1] at y2
  rw [z4]
  exact ⟨⟨_, y5, rfl⟩, q _ y5 y3 y4 (itO_at y1) (itO_at y2) fun c o x => Heap.get?_push_of_some _ (Heap.get?_push_of_some _ (Heap.get?_push_of_some _ (Heap.get?_push_of_some _ (Heap.get?_push_of_some _ x))))⟩
end
/-- the call of a class with keywords -/
theorem cw_typeKw {M : Model} {A : Around} {E : Value → Shared → Prop} {s : Shared} {env : Env} {pos : Pos} {T : String} {e : Expr} {rest : List Expr} {kws : List Keyword} {Q : Value → Shared → Prop}
    (h : wpAny M A (spliced (backTo pos (starEach (e :: rest) env))) (fun vs s1 => wpAny M A (evalAll ((backToKw pos (keywordEach kws env)).map (·.2))) (fun ks s2 => wpAny M A (call (.type T) vs (((backToKw pos (keywordEach kws env)).filterMap (·.1)).zip ks)) Q E s2) E s1) E s)
    (he : backTo pos (starEach (e :: rest) env) = (false, eval e env) :: backTo pos (starEach rest env)) (hplain : (backTo pos (starEach (e :: rest) env)).any (·.1) = false)
    (hall : (backToKw pos (keywordEach kws env)).all (·.1.isSome) = true) (hkw : (backToKw pos (keywordEach kws env)).any (·.1.isNone) = false) :
    wpAny M A (callWith pos (.type T) [] (backTo pos (starEach (e :: rest) env)) (backToKw pos (keywordEach kws env))) Q E s := by
  have h' : wpAny M A (evalArgs (.type T) true (backTo pos (starEach (e :: rest) env)) (backToKw pos (keywordEach kws env))) (fun a s1 => wpAny M A (call (.type T) ([] ++ a.pos) a.kw) Q E s1) E s := by
    rw [he] at h ⊢
    exact PyProof.Rows.evalArgs_kwB hall h
  unfold callWith
  refine wpAny_bind (wpAny_holding (wpAny_mono h' (fun a s1 h1 => wpAny_bind (wpAny_standAt ?_)) fun _ _ x => x))
  simp only [hplain, hkw, Bool.or_false] <;> skip
  refine wpAny_bind (wpAny_pure ?_)
  exact wpAny_bind (wpAny_mono h1 (fun r s2 hr => wpAny_bind (wpAny_holding (wpAny_point (wpAny_pure hr)))) fun _ _ x => x) <;> skip
end DZ

namespace DZ
open PySem PySem.Spec PyProof.Rows L2
def SqV (t : Bool) (K : PySem.W.Frag) (H : Hp) (a : Addr) (xs : List V) : Prop := match t with
  | true => SqL K H a xs
  | false => SqT K H a xs
theorem sq_at {X : Cx} {pins : List (Addr × Obj)} {σ : L2.St} {H : Hp} {s : Shared} {t : Bool} {a : Addr} {xs : List V} (I : Inv X pins σ H s) (h : SqV t X.K H a xs) : ∃ its : List Value, Vals xs its ∧ SqAt t s.heap a its.toArray := by
  cases t
  · obtain ⟨its, h1, h2, _⟩ := I.tuple h
    exact ⟨its, h1, h2⟩
  · obtain ⟨its, h1, h2, _⟩ := I.list h
    exact ⟨its, h1, h2.isList⟩
theorem sq_inj {X : Cx} {pins : List (Addr × Obj)} {σ : L2.St} {H : Hp} {s : Shared} {t : Bool} {a : Addr} {xs ys : List V} (I : Inv X pins σ H s) (h : SqV t X.K H a xs) (h' : SqV t X.K H a ys) : xs = ys := by
  cases t
  · exact I.tuple_inj h h'
  · exact I.list_inj h h'
def Its (t t' : Bool) (K : PySem.W.Frag) (a b : Addr) : It :=
  ⟨fun i H => ∃ (xs ys : List V) (x y : V), SqV t K H a xs ∧ SqV t' K H b ys ∧ xs[i]? = some x ∧ ys[i]? = some y,
    fun i H v H' => ∃ T x y, v = .ref T ∧ H T = none ∧ H' = upd H T (.tup [x, y]) ∧ (∀ l, SqV t K H a l → l[i]? = some x) ∧ ∀ l, SqV t' K H b l → l[i]? = some y,
    fun i H => ∃ xs ys : List V, SqV t K H a xs ∧ SqV t' K H b ys ∧ xs.length ≤ i ∧ ys.length ≤ i⟩
theorem turn_zs {t t' : Bool} {P : Program} {w : World} {K : PySem.W.Frag} {elts : List Expr} {kk : Nat} {tpos : Pos} {a b z cI cO a1 a2 : Addr} (D : ZipApart z cI cO a1 a2 a b) :
    Turn P w K (.Tuple elts kk tpos) (Its t t' K a b) [z, cI, cO, a1, a2] z (fun i h => IsZipS h z cI cO .none ∧ IsPair h cI (.ref a1) (.ref a2) ∧ (∃ x y, IsPair h cO x y) ∧ ItAt t h a1 a i ∧ ItAt t' h a2 b i) where
  mem := by simp
  obj := fun i h st c hc => by
    obtain ⟨hz, hI, ⟨x, y, hO⟩, h1, h2⟩ := st
    have e' : c = z ∨ c = cI ∨ c = cO ∨ c = a1 ∨ c = a2 := by simpa using hc
    rcases e' with rfl | rfl | rfl | rfl | rfl
    · exact ⟨_, hz, fun v q => nomatch q⟩
    · exact ⟨_, hI, fun v q => nomatch q⟩
    · exact ⟨_, hO, fun v q => nomatch q⟩
    · exact h1.is
    · exact h2.is
  keep := fun i h h' st k => by
    obtain ⟨hz, hI, ⟨x, y, hO⟩, h1, h2⟩ := st
    exact ⟨k z (by simp) _ hz, k cI (by simp) _ hI, ⟨x, y, k cO (by simp) _ hO⟩, h1.at fun o q => k a1 (by simp) o q, h2.at fun o q => k a2 (by simp) o q⟩
  item := by
    intro X hP hw hK hc i pins s σ H E I hf st hg
    subst hP hw hK
    obtain ⟨hz, hI, ⟨x0, y0, hO⟩, h1, h2⟩ := st
    obtain ⟨xs, ys, x, y, sx, sy, hx, hy⟩ := hg
    obtain ⟨its, rv, p⟩ := sq_at I sx
    obtain ⟨its2, rv2, p2⟩ := sq_at I sy
    obtain ⟨u, hu, ru⟩ := rv.get hx
    obtain ⟨u2, hu2, ru2⟩ := rv2.get hy
    have zl : z < s.heap.objs.size := Heap.lt_size hz
    refine pn_item D hz hI hO h1 h2 p p2 (x := u) (y := u2) (by simpa using hu) (by simpa using hu2) fun m zm Om h1m h2m hT hsz hk => ?_
    refine ⟨_, rfl, go_zs (s := { s with heap := m }) zm fun m' zm' sb => ?_⟩
    have hT2 : m'.get? s.heap.objs.size = some { cls := .type "tuple", data := .seq #[u, u2] } := (sb.2 _ (Nat.ne_of_gt zl)).trans hT
    have new : ObjOk X.prog X.w (upd H s.heap.objs.size (.tup [x, y])) m' s.heap.objs.size (.tup [x, y]) := ⟨by show 2 ≤ sizeLine; decide, [u, u2], .cons ru (.cons ru2 .nil), ⟨_, hT2, rfl, _, rfl⟩⟩
    have I1 : Inv X pins σ (upd H s.heap.objs.size (.tup [x, y])) { s with heap := m' } :=
      I.turnedNew (t' := s.toks) (ch := [z, cI, cO, a1, a2]) (fun c o hb q => by
        have hb' : c ≠ z ∧ c ≠ cI ∧ c ≠ cO ∧ c ≠ a1 ∧ c ≠ a2 := by simpa using hb
        exact (sb.2 c hb'.1).trans (hk c o hb'.1 hb'.2.2.1 hb'.2.2.2.1 hb'.2.2.2.2 q)) hf (Nat.le_refl _) new
    refine ⟨.ref s.heap.objs.size, _, I1, rfl, ⟨_, x, y, rfl, I.hok.fresh (Nat.le_refl _), rfl, fun l hl => by rw [sq_inj I hl sx]; exact hx, fun l hl => by rw [sq_inj I hl sy]; exact hy⟩, ⟨zm', ?_, ⟨u, u2, ?_⟩, ?_, ?_⟩, fun c hcm => ?_⟩
    · exact (sb.2 _ D.TIz).trans (hk _ _ D.TIz D.TITO D.TIi1 D.TIi2 hI)
    · exact (sb.2 _ D.TOz).trans Om
    · exact h1m.at fun o q => (sb.2 _ D.i1z).trans q
    · exact h2m.at fun o q => (sb.2 _ D.i2z).trans q
    · have hlt : c < s.heap.objs.size := by
        have e' : c = z ∨ c = cI ∨ c = cO ∨ c = a1 ∨ c = a2 := by simpa using hcm
        rcases e' with rfl | rfl | rfl | rfl | rfl
        · exact zl
        · exact Heap.lt_size hI
        · exact Heap.lt_size hO
        · obtain ⟨_, e1, _⟩ := h1.is; exact Heap.lt_size e1
        · obtain ⟨_, e1, _⟩ := h2.is; exact Heap.lt_size e1
      rw [upd_ne (Nat.ne_of_lt hlt)]
      exact (hf c hcm).1
  done := by
    intro X hP hw hK hc i pins s σ H E I hf st hg
    subst hP hw hK
    obtain ⟨hz, hI, ⟨x0, y0, hO⟩, h1, h2⟩ := st
    obtain ⟨xs, ys, sx, sy, e1, e2⟩ := hg
    obtain ⟨its, rv, p⟩ := sq_at I sx
    obtain ⟨its2, rv2, p2⟩ := sq_at I sy
    have l1 := rv.length
    have l2 := rv2.length
    exact pn_end (I.ok.hd hc) D hz hI hO h1 h2 p p2 (by simp; omega) (by simp; omega) fun m hk => ⟨rfl, I.turnedL (t' := s.toks) (ch := [z, cI, cO, a1, a2]) (fun c o hb q => by
      have hb' : c ≠ z ∧ c ≠ cI ∧ c ≠ cO ∧ c ≠ a1 ∧ c ≠ a2 := by simpa using hb
      exact hk c o hb'.1 hb'.2.2.1 hb'.2.2.2.1 hb'.2.2.2.2 q) hf⟩
  self := fun A i s Q E st h => self_zs st.1 h
def iZs (K : PySem.W.Frag) (ta tk : TA) : TI := fun σ H R => ta σ H fun vs H1 => tk σ H1 fun zs H2 => zs = [.bl true] ∧ ∃ t t' a b xs ys, vs = [.ref a, .ref b] ∧ SqV t K H2 a xs ∧ SqV t' K H2 b ys ∧ R (Its t t' K a b) H2
theorem pi_zs {X : Cx} {e e2 : Expr} {kws : List Keyword} {ta tk : TA} {p pos tpos : Pos} {elts : List Expr} {kk : Nat} (hg : Gl X "zip") (hm : X.mg "zip" = none) (ha : PA X [e, e2] ta) (hk : PK X kws tk)
    (he : backTo pos (starEach [e, e2] X.env) = (false, eval e X.env) :: backTo pos (starEach [e2] X.env) := by rfl) (hpl : (backTo pos (starEach [e, e2] X.env)).any (·.1) = false := by rfl)
    (hall : (backToKw pos (keywordEach kws X.env)).all (·.1.isSome) = true := by rfl) (hnone : (backToKw pos (keywordEach kws X.env)).any (·.1.isNone) = false := by rfl) (hks : (backToKw pos (keywordEach kws X.env)).filterMap (·.1) = [Str.ofString "strict"] := by rfl) :
    PI X (.Tuple elts kk tpos) (.Call (.Name "zip" p) [e, e2] kws pos) (iZs X.K ta tk) := by
  refine ⟨fun pins s σ H R I h => ?_⟩
  refine wpAny_Call_Name_kw (ld_blt I hg hm PyProof.Rows.boot_zip ?_)
  refine cw_typeKw (thn (ha.run pos pins s σ H _ I h) fun us s0 ⟨vs, H0, I0, r0, q0⟩ => thn (hk.run pos pins s0 σ H0 _ I0 q0) fun ws s1 ⟨zs, H1, I1, r1, q1⟩ => ?_) he hpl hall hnone
  rw [hks]
  obtain ⟨ez, t, t', a, b, xs, ys, ex, hqx, hqy, q⟩ := q1
  subst ez ex
  obtain ⟨w1, rfl, e1⟩ := vals1 r1
  obtain rfl : w1 = Value.bool true := e1
  cases r0 with
  | cons r rr =>
    cases rr with
    | cons r' rr =>
      cases rr
      cases r
      cases r'
      obtain ⟨its, rv, p1⟩ := sq_at I1 hqx
      obtain ⟨its2, rv2, p2⟩ := sq_at I1 hqy
      have lt : ∀ {t : Bool} {l : Addr} {its : Array Value}, SqAt t s1.heap l its → l < s1.heap.objs.size := fun {t l its} p => by
        cases t
        · obtain ⟨o, ho, _⟩ := p; exact Heap.lt_size ho
        · obtain ⟨o, ho, _⟩ := p; exact Heap.lt_size ho
      have fresh5 : ∀ c, c ∈ [s1.heap.objs.size + 4, s1.heap.objs.size + 2, s1.heap.objs.size + 3, s1.heap.objs.size, s1.heap.objs.size + 1] → FpOk X pins H1 c := fun c hcm => by
        have hle : s1.heap.objs.size ≤ c := by
          simp only [List.mem_cons, List.not_mem_nil, or_false] at hcm
          omega
        exact I1.fpOk hle (I1.hok.fresh hle)
      refine call_zs p1 p2 fun m hz hI hO h1 h2 hk' => self_zs hz ?_
      have I2 : Inv X pins σ H1 { s1 with heap := m } := I1.kept (t' := s1.toks) hk'
      exact ⟨s1.heap.objs.size + 4, [s1.heap.objs.size + 4, s1.heap.objs.size + 2, s1.heap.objs.size + 3, s1.heap.objs.size, s1.heap.objs.size + 1], _, _, H1, rfl, I2, turn_zs (PySem.W.ktu_apart s1.heap.objs.size a b (lt p1) (lt p2)), ⟨hz, hI, ⟨_, _, hO⟩, h1, h2⟩, fresh5, q⟩
end DZ

/-! DL11: zip(.., strict=True), enumerate -/
namespace DL
open PySem PySem.Spec PyProof.Rows L2
def seqD : D → Option (List D)
  | .lst ds => some ds
  | .tup ds => some ds
  | _ => none
def zipD (xs ys : List D) : List D := List.zipWith (fun a b => .tup [a, b]) xs ys
def dZip (p : DAs) : DI := fun E Q => p E fun ds => match ds with
  | [x, y] => match seqD x, seqD y with
    | some xs, some ys => xs.length = ys.length ∧ Q (zipD xs ys)
    | _, _ => False
  | _ => False
def enumD : Nat → List D → List D
  | _, [] => []
  | i, x :: xs => .tup [.int (i : Nat), x] :: enumD (i + 1) xs
def dEnum (p : DAs) : DI := fun E Q => p E fun ds => match ds with
  | [.lst xs] => Q (enumD 0 xs)
  | _ => False
theorem enumD_get : ∀ (xs : List D) (k i : Nat), (enumD k xs)[i]? = xs[i]?.map fun x => D.tup [.int ((k + i : Nat) : Int), x]
  | [], k, i => by simp [enumD]
  | x :: xs, k, 0 => by simp [enumD]
  | x :: xs, k, i + 1 => by
    simp only [enumD, List.getElem?_cons_succ, enumD_get xs (k + 1) i]
    rw [show k + 1 + i = k + (i + 1) by omega]
theorem enumD_length (xs : List D) : ∀ k, (enumD k xs).length = xs.length := by
  induction xs with
  | nil => intro k; rfl
  | cons x xs ih => intro k; simp [enumD, ih]
section
variable {X : Cx} {e e2 : Expr} {kws : List Keyword} {pas : DAs} {p pos tpos kpos cpos : Pos} {elts : List Expr} {kk ck : Nat}
theorem seq_sq {pp : Addr} {K : FK} {Hb H : Hp} {d : D} {v : V} {ds : List D} (so : SOk pp K Hb H) (e : seqD d = some ds) (r : Rep pp K Hb d v) : ∃ (t : Bool) (a : Addr) (xs : List V), v = .ref a ∧ RepL pp K Hb ds xs ∧ ∀ Hb1 H1, Same Hb Hb1 → SOk pp K Hb1 H1 → DZ.SqV t K H1 a xs := by
  cases d <;> simp only [seqD] at e <;> cases e
  · unfold Rep at r
    obtain ⟨a, xs, rfl, s, q⟩ := r
    exact ⟨false, a, xs, rfl, q, fun Hb1 H1 sm so1 => so1.hle.sqT ((Le.of_same sm).sqT s)⟩
  · unfold Rep at r
    obtain ⟨a, xs, rfl, s, q⟩ := r
    exact ⟨true, a, xs, rfl, q, fun Hb1 H1 sm so1 => .of (so1.le _ _ (sm _ _ s))⟩
theorem i_zip (hg : Gl X "zip") (hm : X.mg "zip" = none) (ha : QA X [e, e2] pas)
    (he : backTo pos (starEach [e, e2] X.env) = (false, eval e X.env) :: backTo pos (starEach [e2] X.env) := by rfl) (hpl : (backTo pos (starEach [e, e2] X.env)).any (·.1) = false := by rfl)
    (hall : (backToKw pos (keywordEach [⟨some (Str.ofString "strict"), .Constant (.bool true) ck cpos, kpos⟩] X.env)).all (·.1.isSome) = true := by rfl) (hnone : (backToKw pos (keywordEach [⟨some (Str.ofString "strict"), .Constant (.bool true) ck cpos, kpos⟩] X.env)).any (·.1.isNone) = false := by rfl) (hks : (backToKw pos (keywordEach [⟨some (Str.ofString "strict"), .Constant (.bool true) ck cpos, kpos⟩] X.env)).filterMap (·.1) = [Str.ofString "strict"] := by rfl) :
    QI X (.Tuple elts kk tpos) (.Call (.Name "zip" p) [e, e2] [⟨some (Str.ofString "strict"), .Constant (.bool true) ck cpos, kpos⟩] pos) (dZip pas) := by
  obtain ⟨t, h1, h2⟩ := ha
  refine ⟨_, DZ.pi_zs hg hm h1 (pk_cons pe_bl pk_nil) he hpl hall hnone hks, fun pp HE Hb H σ E R QD so er hp k => ?_⟩
  refine h2 pp HE Hb H σ E _ _ so er hp fun vs ds Hb1 H1 s1 so1 r1 l1 q1 => ?_
  split at q1
  · rename_i x y
    split at q1
    · rename_i xs ys ex ey
      obtain ⟨hl, q1⟩ := q1
      obtain ⟨v, w, rfl, rx, r2⟩ := r1.uncons
      obtain ⟨v2, w2, rfl, ry, r3⟩ := r2.uncons
      obtain rfl := r3.unnil
      obtain ⟨t1, a, us, rfl, ru, su⟩ := seq_sq so1 ex rx
      obtain ⟨t2, b, us2, rfl, ru2, su2⟩ := seq_sq so1 ey ry
      refine ⟨rfl, t1, t2, a, b, us, us2, rfl, su _ _ (Same.refl _) so1, su2 _ _ (Same.refl _) so1, k _ (zipD xs ys) Hb1 H1 s1 so1 (fun Hb2 H2 sm so2 i => ?_) q1⟩
      have g1 := su _ _ sm so2
      have g2 := su2 _ _ sm so2
      refine ⟨fun d ed => ?_, fun e => ⟨us, us2, g1, g2, ?_, ?_⟩⟩
      · have ed' : ∃ dx dy, xs[i]? = some dx ∧ ys[i]? = some dy ∧ d = .tup [dx, dy] := by
          unfold zipD at ed
          rw [List.getElem?_zipWith] at ed
          cases ex : xs[i]? with
          | none => rw [ex] at ed; simp at ed
          | some dx =>
            cases ey : ys[i]? with
            | none => rw [ex, ey] at ed; simp at ed
            | some dy =>
              rw [ex, ey] at ed
              simp at ed
              exact ⟨dx, dy, rfl, rfl, ed.symm⟩
        obtain ⟨dx, dy, gx, gy, rfl⟩ := ed'
        obtain ⟨vx, ev, rv⟩ := ru.get gx
        obtain ⟨vy, ev2, rv2⟩ := ru2.get gy
        refine ⟨⟨us, us2, vx, vy, g1, g2, ev, ev2⟩, fun x H3 y => ?_⟩
        obtain ⟨T, u1, u2, rfl, hT, rfl, y1, y2⟩ := y
        have e1 := y1 us g1
        rw [ev] at e1
        cases e1
        have e2 := y2 us2 g2
        rw [ev2] at e2
        cases e2
        obtain ⟨s3, so3⟩ := lay_sh (u := .tup [vx, vy]) so2 hT
        refine ⟨_, s3, so3, ?_⟩
        unfold Rep
        exact ⟨T, _, rfl, .of upd_same, .cons ((rv.le (.of_same sm)).le s3.le) (.cons ((rv2.le (.of_same sm)).le s3.le) .nil)⟩
      · rw [e, ru.length]; simp [zipD, hl]
      · rw [e, ru2.length]; simp [zipD, hl]
    · exact q1.elim
  · exact q1.elim
theorem i_enum (hg : Gl X "enumerate") (hm : X.mg "enumerate" = none) (ha : QA X [e] pas) (hs : starEach [e] X.env = [(false, eval e X.env)] := by rfl) : QI X (.Tuple elts kk tpos) (.Call (.Name "enumerate" p) [e] [] pos) (dEnum pas) := by
  obtain ⟨t, h1, h2⟩ := ha
  refine ⟨_, pi_enum hg hm h1 hs, fun pp HE Hb H σ E R QD so er hp k => ?_⟩
  refine h2 pp HE Hb H σ E _ _ so er hp fun vs ds Hb1 H1 s1 so1 r1 l1 q1 => ?_
  split at q1
  · rename_i xs
    obtain ⟨v, w, rfl, rx, r2⟩ := r1.uncons
    obtain rfl := r2.unnil
    unfold Rep at rx
    obtain ⟨a, us, rfl, s, ru⟩ := rx
    refine ⟨a, us, rfl, .of (so1.le _ _ s), k _ (enumD 0 xs) Hb1 H1 s1 so1 (fun Hb2 H2 sm so2 i => ?_) q1⟩
    have g1 : SqL X.K H2 a us := .of (so2.le _ _ (sm _ _ s))
    refine ⟨fun d ed => ?_, fun e => ⟨us, g1, ?_⟩⟩
    · rw [enumD_get] at ed
      cases ex : xs[i]? with
      | none => rw [ex] at ed; cases ed
      | some dx =>
        rw [ex] at ed
        cases ed
        obtain ⟨vx, ev, rv⟩ := ru.get ex
        refine ⟨⟨us, vx, g1, ev⟩, fun x H3 y => ?_⟩
        obtain ⟨T, u1, rfl, hT, rfl, y1⟩ := y
        have e1 := y1 us g1
        rw [ev] at e1
        cases e1
        obtain ⟨s3, so3⟩ := lay_sh (u := .tup [.int (i : Nat), vx]) so2 hT
        refine ⟨_, s3, so3, ?_⟩
        unfold Rep
        refine ⟨T, _, rfl, .of upd_same, .cons ?_ (.cons ((rv.le (.of_same sm)).le s3.le) .nil)⟩
        rw [Nat.zero_add]
        exact rep_int
    · rw [e, ru.length, enumD_length]; exact Nat.le_refl _
  · exact q1.elim
end
end DL

/-! DR5: comprehensions and lists of fractions -/
namespace DL
open PySem PySem.Spec PyProof.Rows L2
theorem rangeD_r (lo : Int) (n : Nat) : rangeD lo n = (List.range' 0 n).map fun i => .int (lo + (i : Nat)) := by rw [rangeD, List.range_eq_range']
theorem lcL_of {α : Type} {h f : α → D} {g : DG} {vs : List Nat} {c : DT} {p : DX} {E : List Sl} : ∀ (l : List α), (∀ x ∈ l, ∀ (N : D → Prop) (M : Prop), N (f x) → g (h x) (wipeD E vs) fun E' => c E' fun b => if b = true then p E' N else M) → ∀ (Q : List D → Prop), Q (l.map f) → lcL g vs c p (l.map h) E Q
  | [], _, Q, k => k
  | x :: l, hb, Q, k => by
    refine hb x (List.mem_cons_self ..) _ _ ?_
    exact lcL_of l (fun y hy => hb y (List.mem_cons_of_mem _ hy)) (fun ys => Q (f x :: ys)) k
/-- the results are such and such, whatever is drawn -/
theorem lcL_any {P : D → Prop} {g : DG} {vs : List Nat} {c : DT} {p : DX} {E : List Sl} : ∀ (l : List D), (∀ x ∈ l, ∀ (N : D → Prop) (M : Prop), (∀ y, P y → N y) → g x (wipeD E vs) fun E' => c E' fun b => if b = true then p E' N else M) → ∀ (Q : List D → Prop), (∀ ys, ys.length = l.length → (∀ y ∈ ys, P y) → Q ys) → lcL g vs c p l E Q
  | [], _, Q, k => k [] rfl (fun _ h => nomatch h)
  | x :: l, hb, Q, k => by
    refine hb x (List.mem_cons_self ..) _ _ fun y hy => ?_
    exact lcL_any l (fun y hy => hb y (List.mem_cons_of_mem _ hy)) (fun ys => Q (y :: ys)) fun ys h1 h2 => k (y :: ys) (by simp [h1]) fun z hz => by
      rcases List.mem_cons.mp hz with rfl | hz
      · exact hy
      · exact h2 z hz
def qL (l : List Rat) : D := .lst (l.map qD)
def qM (m : List (List Rat)) : D := .lst (m.map qL)
theorem c0 : D.tup [.int 0, .int 1] = qD 0 := rfl
theorem c1 : D.tup [.int 1, .int 1] = qD 1 := rfl
theorem qI_D (m : Int) : D.tup [.int m, .int 1] = qD (m : Rat) := by simp [qD]
theorem bz_I {m : Int} {n : Nat} (h : m.natAbs + 1 < 2 ^ n) : bz (m : Rat) ≤ n := bz_of_lt (by simpa using h)
theorem okD_qd (n : Nat) (a : Rat) : okD (n + 1) (qD a) = true := by cases n <;> simp [qD, okD]
theorem deq_qd (a b : Rat) : deq (qD a) (qD b) = decide (a = b) := by
  simp only [qD, deq, deqL, Bool.and_true]
  rw [Bool.eq_iff_iff, decide_eq_true_iff, Bool.and_eq_true, beq_iff_eq, beq_iff_eq]
  constructor
  · rintro ⟨h1, h2⟩
    exact Rat.ext h1 (by omega)
  · rintro rfl; exact ⟨rfl, rfl⟩
theorem num_0 (a : Rat) : deq (.int a.num) (.int 0) = decide (a = 0) := by
  show decide (a.num = 0) = _
  exact decide_eq_decide.mpr Rat.num_eq_zero
theorem num_ge (a : Rat) : decide (0 ≤ a.num) = decide (0 ≤ a) := decide_eq_decide.mpr Rat.num_nonneg
theorem num_gt (a : Rat) : decide (0 < a.num) = decide (0 < a) := decide_eq_decide.mpr (by rw [Rat.lt_iff]; simp)
theorem atD_map {α : Type} {f : α → D} {l : List α} {i : Nat} {x : α} (h : l[i]? = some x) : atD (l.map f) (i : Nat) = some (f x) := by
  rw [atD_nat, List.getElem?_map, h]; rfl
theorem rdIx_map {α : Type} {f : α → D} {l : List α} {i : Nat} {x : α} {Q : D → Prop} (h : l[i]? = some x) (k : Q (f x)) : rdIx (.lst (l.map f)) (.int (i : Nat)) Q := by
  simp only [rdIx, atD_map h]
  exact k
theorem bzs_mem {x : Rat} : ∀ {l : List Rat}, x ∈ l → bz x ≤ bzs l
  | y :: l, h => by
    rw [bzs_cons]
    rcases List.mem_cons.mp h with rfl | h
    · omega
    · have := bzs_mem h; omega
theorem bzs_le {n : Nat} : ∀ {l : List Rat}, (∀ x ∈ l, bz x ≤ n) → bzs l ≤ n * l.length
  | [], _ => by simp [bzs]
  | y :: l, h => by
    rw [bzs_cons, List.length_cons, Nat.mul_succ]
    have := bzs_le (l := l) fun x hx => h x (List.mem_cons_of_mem _ hx)
    have := h y (List.mem_cons_self ..)
    omega
theorem bzs_len : ∀ l : List Rat, l.length ≤ bzs l
  | [] => by simp
  | x :: l => by
    rw [bzs_cons, List.length_cons]
    have := bzs_len l
    have := bz_pos x
    omega
theorem small_9 {q : Int} (h : q.natAbs < 2 ^ 30) : q.natAbs < 2 ^ 9000 := Nat.lt_of_lt_of_le h (Nat.pow_le_pow_right (by decide) (by decide))
theorem bls_of {α : Type} (f : α → Bool) : ∀ l : List α, bls (l.map fun x => D.bl (f x)) = some (l.map f)
  | [] => rfl
  | x :: l => by simp [bls, bls_of f l]
theorem rdAny_of {α : Type} {f : α → Bool} {l : List α} {Q : D → Prop} (k : Q (.bl (l.any f))) : rdAny [.lst (l.map fun x => .bl (f x))] Q := by
  simp only [rdAny, bls_of, List.any_map, Function.id_comp]
  exact k
theorem rdAll_of {α : Type} {f : α → Bool} {l : List α} {Q : D → Prop} (k : Q (.bl (l.all f))) : rdAll [.lst (l.map fun x => .bl (f x))] Q := by
  simp only [rdAll, bls_of, List.all_map, Function.id_comp]
  exact k
theorem size_le {n : Nat} (h : n ≤ 100000) : n ≤ sizeLine := by simp only [sizeLine]; omega
theorem zip_qD {α : Type} {f : α → D} {g : β → D} : ∀ (a : List α) (b : List β), zipD (a.map f) (b.map g) = (a.zip b).map fun z => .tup [f z.1, g z.2]
  | [], _ => rfl
  | _ :: _, [] => rfl
  | x :: a, y :: b => by
    simp only [List.map_cons, List.zip_cons_cons]
    rw [← zip_qD a b]; rfl
theorem cut_take {α : Type} (f : α → D) (l : List α) (k : Nat) : cutD (l.map f) none (some (k : Nat)) = (l.take k).map f := by
  unfold cutD
  rw [HT.sIx_none, HT.sIx_nat, List.drop_zero, Nat.sub_zero, List.length_map, List.map_take]
  rcases Nat.le_total k l.length with h | h
  · rw [Nat.min_eq_left h]
  · rw [Nat.min_eq_right h, List.take_of_length_le (by simp), List.take_of_length_le (by simpa using h)]
theorem cut_drop {α : Type} (f : α → D) (l : List α) (k : Nat) : cutD (l.map f) (some (k : Nat)) none = (l.drop k).map f := by
  unfold cutD
  rw [HT.sIx_none, HT.sIx_nat, List.length_map, List.map_drop]
  rcases Nat.le_total k l.length with h | h
  · rw [Nat.min_eq_left h, List.take_of_length_le (by simp)]
  · rw [Nat.min_eq_right h, List.drop_eq_nil_of_le (by simp), List.drop_eq_nil_of_le (by simpa using h)]; simp
theorem cut_init {α : Type} (f : α → D) (l : List α) : cutD (l.map f) none (some (-1)) = (l.take (l.length - 1)).map f := by
  unfold cutD
  rw [HT.sIx_none, List.drop_zero, Nat.sub_zero, List.length_map, List.map_take]
  have : HT.sIx l.length l.length (some (-1)) = l.length - 1 := by
    unfold HT.sIx
    simp only []
    rw [if_pos (by decide)]
    omega
  rw [this]
theorem each_map {α : Type} {f : α → D} {P : α → Prop} : ∀ {ys : List D}, (∀ y ∈ ys, ∃ x, y = f x ∧ P x) → ∃ l : List α, ys = l.map f ∧ ∀ x ∈ l, P x
  | [], _ => ⟨[], rfl, fun _ h => nomatch h⟩
  | y :: ys, h => by
    obtain ⟨x, rfl, hx⟩ := h y (List.mem_cons_self ..)
    obtain ⟨l, rfl, hl⟩ := each_map (f := f) fun y hy => h y (List.mem_cons_of_mem _ hy)
    exact ⟨x :: l, rfl, fun z hz => by
      rcases List.mem_cons.mp hz with rfl | hz
      · exact hx
      · exact hl z hz⟩
/-! sums -/
def sumN : Nat → (Nat → Rat) → Rat
  | 0, _ => 0
  | n + 1, f => sumN n f + f n
theorem sumN_succ (n : Nat) (f : Nat → Rat) : sumN (n + 1) f = sumN n f + f n := rfl
theorem sumN_congr {f g : Nat → Rat} : ∀ {n : Nat}, (∀ i, i < n → f i = g i) → sumN n f = sumN n g
  | 0, _ => rfl
  | n + 1, h => by rw [sumN_succ, sumN_succ, sumN_congr fun i hi => h i (Nat.lt_succ_of_lt hi), h n (Nat.lt_succ_self n)]
theorem sumN_zero : ∀ n, sumN n (fun _ => 0) = 0
  | 0 => rfl
  | n + 1 => by rw [sumN_succ, sumN_zero n, Rat.add_zero]
theorem sumN_add (f g : Nat → Rat) : ∀ n, sumN n (fun i => f i + g i) = sumN n f + sumN n g
  | 0 => (Rat.add_zero 0).symm
  | n + 1 => by rw [sumN_succ, sumN_succ, sumN_succ, sumN_add f g n]; grind
theorem sumN_mul (c : Rat) (f : Nat → Rat) : ∀ n, sumN n (fun i => c * f i) = c * sumN n f
  | 0 => (Rat.mul_zero c).symm
  | n + 1 => by rw [sumN_succ, sumN_succ, sumN_mul c f n]; grind
theorem sumN_comm (f : Nat → Nat → Rat) (m : Nat) : ∀ n, sumN n (fun i => sumN m (fun j => f i j)) = sumN m (fun j => sumN n (fun i => f i j))
  | 0 => (sumN_zero m).symm
  | n + 1 => by rw [sumN_succ, sumN_comm f m n, ← sumN_add]; rfl
theorem sumN_shift (f : Nat → Rat) : ∀ n, sumN (n + 1) f = f 0 + sumN n (fun i => f (i + 1))
  | 0 => by rw [sumN_succ]; show 0 + f 0 = f 0 + 0; rw [Rat.zero_add, Rat.add_zero]
  | n + 1 => by rw [sumN_succ, sumN_shift f n, sumN_succ, Rat.add_assoc]
end DL

/-! DR6: a list times an int; laws of two parts -/
namespace DL
open PySem PySem.Spec PyProof.Rows L2
section
variable {X : Cx} {a b : Expr} {pa pb : DX} {pos : Pos}
theorem repL_rep {pp : Addr} {K : FK} {H : Hp} {ds : List D} {vs : List V} (r : RepL pp K H ds vs) : ∀ n, RepL pp K H (List.replicate n ds).flatten (List.replicate n vs).flatten
  | 0 => .nil
  | n + 1 => by
    rw [List.replicate_succ, List.replicate_succ, List.flatten_cons, List.flatten_cons]
    exact r.app (repL_rep r n)
/-- a list times an int -/
def dRep (pa pb : DX) : DX := fun E Q => pa E fun x => pb E fun y => match x, y with
  | .lst ds, .int k => -(2 ^ 62) ≤ k ∧ k < 2 ^ 62 ∧ ds.length * k.toNat ≤ 1000000 ∧ Q (.lst (List.replicate k.toNat ds).flatten)
  | _, _ => False
theorem f_rep (ha : QO X a pa) (hb : QO X b pb) : QF X (.BinOp a .Mult b pos) (dRep pa pb) := by
  obtain ⟨t, h1, h2⟩ := ha
  obtain ⟨u, g1, g2⟩ := hb
  refine ⟨_, pe_op op_rep h1 g1, fun pp HE Hb H σ E Q QD so er hp k => ?_⟩
  refine h2 pp HE Hb H σ E _ _ so er hp fun v d Hb1 H1 s1 so1 r1 q1 => ?_
  refine g2 pp HE Hb1 H1 σ E _ _ so1 (er.step s1) q1 fun v2 d2 Hb2 H2 s2 so2 r2 q2 => ?_
  split at q2
  · rename_i ds n
    obtain ⟨k1, k2, k3, k4⟩ := q2
    obtain ⟨l, xs, rfl, hl, rl⟩ := (r1.step s2).lst so2
    have e2 := r2.int so2
    subst e2
    refine ⟨l, n, xs, rfl, rfl, hl, by omega, by omega, by rw [rl.length]; simp only [sizeLine]; omega, fun p hp => ?_⟩
    obtain ⟨s3, so3⟩ := lay_own (u := .lst (List.replicate n.toNat xs).flatten) so2 hp
    have hna : H p = none := by
      cases z : H p with
      | none => rfl
      | some o => exact absurd hp ((s1.trans s2).st p (by rw [z]; exact fun y => nomatch y))
    exact k p (.lst _) _ _ ((s1.trans s2).trans s3) so3 hna ⟨so2.nb hp, so2.ne hp, ⟨_, upd_same, repL_rep rl _⟩⟩ k4
  · exact q2.elim
end
/-- a part of a law: it says True, and leaves what is there -/
def spPart (K : FK) : Sp := fun vs H Q _ => ∃ (a : Addr) (ns : List Int), vs = [.ref a] ∧ SqL K H a (ns.map V.int) ∧ ∀ H', Same H H' → Q (.bl true) H'
theorem part_go {X : Cx} {t : TS} {p : DS} {Dn : Ends} {a : Addr} {ns : List Int} {H : Hp} {n : Nat} (h2 : RS X.K t p)
    (hs : SqL X.K H a (ns.map V.int)) (q : ∀ H', Same H H' → Dn.rt (.bl true) H') (hp : ∀ QD : D → Prop, QD (.bl true) → p ⟨fun _ => False, QD, fun _ => False, fun _ => False⟩ (.no :: .sh .pool :: List.replicate n .no)) :
    tSeq (tAsg (tCall (spPool X.K) [] E0 (tCons (tVar 0) tNil)) (gName 1)) t Dn (some (.ref a) :: none :: List.replicate n none) H := by
  refine ⟨_, rfl, a, ns, rfl, hs, fun l r hl => ?_⟩
  have so : SOk l X.K H (upd H l (.lst [.ref a, .int 0, .int r, .int 0])) := by
    refine ⟨fun b o h => ?_, hl, a, ns, 0, r, 0, upd_same, hs⟩
    rw [upd_ne (fun z => by subst z; rw [hl] at h; cases h)]
    exact h
  refine h2 l H H H _ _ _ _ ⟨fun _ => False, fun d => d = .bl true, fun _ => False, fun _ => False⟩ ?_ so ?_ (hp _ rfl) ?_
  · refine ⟨Same.refl _, fun b o hb h => by rw [upd_ne hb]; exact h, fun b h => ?_, fun b h _ => h⟩
    by_cases e : b = l
    · subst e; exact absurd hl h
    · rw [upd_ne e]; exact h
  · refine ⟨?_, fun i d h => ?_, fun i d h => ?_, fun i j p d d' hij h => ?_⟩
    · simp [gName]
    · match i, h with
      | 0, h => cases h
      | 1, h =>
        cases h
        exact ⟨.ref l, rfl, rfl⟩
      | i + 2, h => exact (rep_no (by simp) h).elim
    · match i, h with
      | 0, h => cases h
      | 1, h => cases h
      | i + 2, h => exact (rep_no (by simp) h).elim
    · match i, h with
      | 0, h => cases h
      | 1, h => cases h
      | i + 2, h => exact (rep_no (by simp) h).elim
  · refine ⟨fun Hb H σ E s so er h => h.elim, fun Hb H' v d s so r h => ?_, fun Hb H σ E s so er h => h.elim, fun Hb H σ E s so er h => h.elim⟩
    have h : d = .bl true := h
    subst h
    have : v = .bl true := r
    subst this
    refine q _ fun b o e => s.ex b o (fun z => ?_) e
    subst z
    rw [hl] at e
    cases e
theorem part_run {X : Cx} {st0 : Stmt} {tail : List Stmt} {p : DS} {Dn : Ends} {a : Addr} {ns : List Int} {H : Hp} {n : Nat} (h0 : PS X st0 (tAsg (tCall (spPool X.K) [] E0 (tCons (tVar 0) tNil)) (gName 1))) (R : QSs X tail p)
    (hs : SqL X.K H a (ns.map V.int)) (q : ∀ H', Same H H' → Dn.rt (.bl true) H') (hp : ∀ QD : D → Prop, QD (.bl true) → p ⟨fun _ => False, QD, fun _ => False, fun _ => False⟩ (.no :: .sh .pool :: List.replicate n .no)) :
    ∃ t, PSs X (st0 :: tail) t ∧ t Dn (some (.ref a) :: none :: List.replicate n none) H := by
  obtain ⟨t, h1, h2⟩ := R
  exact ⟨_, pss_cons h0 h1, part_go h2 hs q hp⟩
/-- a law whose first statement asks its first part -/
theorem law_run2 {X : Cx} {st st0 : Stmt} {tail : List Stmt} {p : DS} {Dn : Ends} {a : Addr} {ns : List Int} {H : Hp} {n : Nat}
    (hf : PS X st (tIfS (tNot (tB (tCall (spPart X.K) [] E0 (tCons (tVar 0) tNil)))) (tRet (tC (.bl false))) tNext))
    (h0 : PS X st0 (tAsg (tCall (spPool X.K) [] E0 (tCons (tVar 0) tNil)) (gName 1))) (R : QSs X tail p)
    (hs : SqL X.K H a (ns.map V.int)) (q : ∀ H', Dn.rt (.bl true) H') (hp : ∀ QD : D → Prop, QD (.bl true) → p ⟨fun _ => False, QD, fun _ => False, fun _ => False⟩ (.no :: .sh .pool :: List.replicate n .no)) :
    ∃ t, PSs X (st :: st0 :: tail) t ∧ t Dn (some (.ref a) :: none :: List.replicate n none) H := by
  obtain ⟨t, h1, h2⟩ := R
  refine ⟨_, pss_cons hf (pss_cons h0 h1), ?_⟩
  refine ⟨_, rfl, a, ns, rfl, hs, fun H1 e => ⟨true, rfl, ?_⟩⟩
  exact part_go h2 ((Le.of_same e).sqL hs) (fun H' _ => q H') hp
end DL

namespace K46
open PySem PySem.Spec PyProof.Rows L2 DL
structure Day where
  am : Rat
  go : Rat
  pr : Rat
  ke : Rat
def dayD (d : Day) : D := .tup [qD d.am, qD d.go, qD d.pr, qD d.ke]
def scD (s : List Day) : D := .lst (s.map dayD)
structure DayOk (d : Day) : Prop where
  a0 : 0 ≤ d.am
  g0 : 0 ≤ d.go
  p0 : 0 ≤ d.pr
  k0 : 0 ≤ d.ke
  ab : bz d.am ≤ 6
  gb : bz d.go ≤ 6
  pb : bz d.pr ≤ 6
  kb : bz d.ke ≤ 6
def ScOk (s : List Day) : Prop := s.length ≤ 6 ∧ ∀ d ∈ s, DayOk d
def day0 : Day := ⟨0, 0, 0, 0⟩
def dy (s : List Day) (k : Nat) : Day := s.getD k day0
/-- price of b and keeping for n days on -/
def unitN (s : List Day) (b : Nat) : Nat → Rat
  | 0 => (dy s b).pr
  | n + 1 => unitN s b n + (dy s (b + n)).ke
def blkN (s : List Day) (b : Nat) : Nat → Rat
  | 0 => 0
  | n + 1 => blkN s b n + (dy s (b + n)).am * unitN s b n
def noneN (s : List Day) (b n : Nat) : Bool := (List.range' b n).all fun k => decide ((dy s k).am = 0)
def blockQ (s : List Day) (b n : Nat) : Rat := if noneN s b n = true then 0 else blkN s b n + (dy s b).go
def optQ : Option Rat → D
  | none => .non
  | some x => qD x
/-- what a plan costs -/
def planQ : List Day → List Rat → Rat → Rat → Option Rat
  | [], _, _, c => some c
  | _, [], _, c => some c
  | d :: s, x :: p, l, c => if x < 0 then none else if l + x - d.am < 0 then none else planQ s p (l + x - d.am) (c + (if 0 < x then d.go + d.pr * x else 0) + d.ke * (l + x - d.am))
def S_unit_cost : SpecD := fun ds Q => ∃ (s : List Day) (b n : Nat), ds = [scD s, .int (b : Nat), .int ((b + n : Nat) : Int)] ∧ ScOk s ∧ b < s.length ∧ b + n ≤ s.length ∧ Q (qD (unitN s b n))
def S_law_unit : SpecD := S_unit_cost
def PlOk (p : List Rat) : Prop := p.length ≤ 8 ∧ ∀ x ∈ p, bz x ≤ 40
def planC (s : List Day) (p : List Rat) : Option Rat := if p.length = s.length then planQ s p 0 0 else none
def S_plan_cost : SpecD := fun ds Q => ∃ (s : List Day) (p : List Rat), ds = [scD s, qL p] ∧ ScOk s ∧ PlOk p ∧ Q (optQ (planC s p))
def S_law_plan_cost : SpecD := S_plan_cost
def S_block_cost : SpecD := fun ds Q => ∃ (s : List Day) (b n : Nat), ds = [scD s, .int (b : Nat), .int ((b + n : Nat) : Int)] ∧ ScOk s ∧ b + n ≤ s.length ∧ 1 ≤ n ∧ Q (qD (blockQ s b n))
/-- the least over i < n (i from the left), the first that has it -/
def minF (f : Nat → Rat) : Nat → Option (Rat × Nat)
  | 0 => none
  | n + 1 => match minF f n with
    | none => some (f n, n)
    | some (x, i) => if f n < x then some (f n, n) else some (x, i)
def tabL (s : List Day) : Nat → List (Rat × Nat)
  | 0 => [(0, 0)]
  | j + 1 => tabL s j ++ [(minF (fun i => ((tabL s j).getD i (0, 0)).1 + blockQ s i (j + 1 - i)) (j + 1)).getD (0, 0)]
def tabQ (s : List Day) (j : Nat) : Rat := ((tabL s s.length).getD j (0, 0)).1
def fstN (s : List Day) (j : Nat) : Nat := ((tabL s s.length).getD j (0, 0)).2
/-- the least unit cost on a day, of the chosen days till then -/
def bestU (s : List Day) (d : Nat) (best : Option (Rat × Nat)) : List Nat → Option (Rat × Nat)
  | [] => best
  | b :: r => if b ≤ d then (match best with
      | none => bestU s d (some (unitN s b (d - b), b)) r
      | some (x, k) => if unitN s b (d - b) < x then bestU s d (some (unitN s b (d - b), b)) r else bestU s d (some (x, k)) r)
    else bestU s d best r
/-- the law's cost of the first n days: the total and the days used -/
def costN (s : List Day) (C : List Nat) : Nat → Option (Rat × List Nat)
  | 0 => some (0, [])
  | d + 1 => match costN s C d with
    | none => none
    | some (t, u) => if 0 < (dy s d).am then (match bestU s d none C with
        | none => none
        | some (x, b) => if b ∈ u then some (t + x * (dy s d).am, u) else some (t + x * (dy s d).am + (dy s b).go, u ++ [b]))
      else some (t, u)
def costW (s : List Day) (C : List Nat) : Option Rat := (costN s C s.length).map (·.1)
def subs : Nat → List (List Nat)
  | 0 => [[]]
  | n + 1 => subs n ++ (subs n).map fun c => c ++ [n]
def leastO (best : Option Rat) : List (Option Rat) → Option Rat
  | [] => best
  | none :: r => leastO best r
  | some x :: r => match best with
    | none => leastO (some x) r
    | some y => if x < y then leastO (some x) r else leastO (some y) r
def cheapQ (s : List Day) : Option Rat := leastO none ((subs s.length).map (costW s))
/-- the plan that the blocks' begins tell, from day j down -/
def planB (s : List Day) : Nat → Nat → List Rat → List Rat
  | 0, _, p => p
  | fuel + 1, j, p => if j = 0 then p else planB s fuel (fstN s j) (p.set (fstN s j) (p.getD (fstN s j) 0 + ((List.range' (fstN s j) (j - fstN s j)).map fun k => (dy s k).am).sum))
def plnQ (s : List Day) : List Rat := planB s s.length s.length (List.replicate s.length 0)
def intL (c : List Nat) : D := .lst (c.map fun k => D.int (k : Nat))
def S_best_plan : SpecD := fun ds Q => ∃ s : List Day, ds = [scD s] ∧ ScOk s ∧ Q (.tup [qD (tabQ s s.length), qL (plnQ s), .lst ((tabL s s.length).map fun x => qD x.1)])
def S_law_fraction : SpecD := fun ds Q => ∃ m p : Nat, ds = [.pool, .int (m : Nat), .int (p : Nat)] ∧ m ≤ 40 ∧ 1 ≤ p ∧ p ≤ 5 ∧ ∀ x : Rat, 0 ≤ x → bz x ≤ 6 → Q (qD x)
def S_law_scene_of : SpecD := fun ds Q => ∃ a b : Nat, ds = [.pool, .int (a : Nat), .int (b : Nat)] ∧ a ≤ b ∧ b ≤ 6 ∧ ∀ s, ScOk s → s.length ≤ b → Q (scD s)
def Asc (n : Nat) (c : List Nat) : Prop := c.Pairwise (· < ·) ∧ ∀ k ∈ c, k < n
def S_law_cost_with : SpecD := fun ds Q => ∃ (s : List Day) (c : List Nat), ds = [scD s, intL c] ∧ ScOk s ∧ Q (optQ (costW s c))
def S_law_cheapest : SpecD := fun ds Q => ∃ s : List Day, ds = [scD s] ∧ ScOk s ∧ Q (optQ (cheapQ s))
/-- the law's look at blocks -/
def inBl (s : List Day) (p : List Rat) (days : List Nat) : Bool := (List.range days.length).all fun k =>
  decide (((List.range' (days.getD k 0) ((if k + 1 < days.length then days.getD (k + 1) 0 else s.length) - days.getD k 0)).map fun d => (dy s d).am).sum = p.getD (days.getD k 0) 0)
def posD (p : List Rat) : List Nat := (List.range p.length).filter fun k => decide (0 < p.getD k 0)
def S_law_in_blocks : SpecD := fun ds Q => ∃ (s : List Day) (p : List Rat), ds = [scD s, qL p] ∧ ScOk s ∧ p.length = s.length ∧ PlOk p ∧ Q (.bl (inBl s p (posD p)))
end K46

namespace K46
open PySem PySem.Spec PyProof.Rows L2 DL
def c_NOUGHT : D := .tup [.int 0, .int 1]
/-- unit_cost: scene 0, bought 1, needed 2, found 3, day 4 -/
def r_unit_cost_4 : DS := (dRet (dVar 3))
def b_unit_cost_2 : DS := (dAsg 3 (dCall S_plus (dConsA (dVar 3) (dConsA (dOp rdIx (dVarO 4) (dC (.int 3))) dNilA))))
def r_unit_cost_2 : DS := (dSeq (dFor (dIter (dSl (dVarO 0) (dSmP (dVar 1)) (dSmP (dVar 2)))) (gN 4) b_unit_cost_2) r_unit_cost_4)
def p_unit_cost : DS := (dSeq (dAsg 3 (dOp rdIx (dOp rdIx (dVarO 0) (dVarO 1)) (dC (.int 2)))) r_unit_cost_2)
/-- plan_cost: scene 0, plan 1, found 2, left 3, bought 4, amount 5, going 6, price 7, keeping 8 -/
def r_plan_cost_12 : DS := (dRet (dVar 2))
def r_plan_cost_11 : DS := (dAsg 2 (dCall S_plus (dConsA (dVar 2) (dConsA (dCall S_times (dConsA (dVar 8) (dConsA (dVar 3) dNilA))) dNilA))))
def r_plan_cost_9 : DS := (dSeq (dIfS (dTst (dCall S_less (dConsA (dC c_NOUGHT) (dConsA (dVar 4) dNilA)))) (dAsg 2 (dCall S_plus (dConsA (dVar 2) (dConsA (dCall S_plus (dConsA (dVar 6) (dConsA (dCall S_times (dConsA (dVar 7) (dConsA (dVar 4) dNilA))) dNilA))) dNilA)))) dNext) r_plan_cost_11)
def r_plan_cost_7 : DS := (dSeq (dIfS (dOr (dTst (dCall S_less (dConsA (dVar 4) (dConsA (dC c_NOUGHT) dNilA)))) (dTst (dCall S_less (dConsA (dVar 3) (dConsA (dC c_NOUGHT) dNilA))))) (dRet (dC .non)) dNext) r_plan_cost_9)
def b_plan_cost_5 : DS := (dSeq (dAsg 3 (dCall S_minus (dConsA (dCall S_plus (dConsA (dVar 3) (dConsA (dVar 4) dNilA))) (dConsA (dVar 5) dNilA)))) r_plan_cost_7)
def r_plan_cost_5 : DS := (dSeq (dFor (dZip (dConsA (dVar 0) (dConsA (dVar 1) dNilA))) (gT 2 (gsCons (gT 4 (gsCons (gN 5) (gsCons (gN 6) (gsCons (gN 7) (gsCons (gN 8) gsNil))))) (gsCons (gN 4) gsNil))) b_plan_cost_5) r_plan_cost_12)
def r_plan_cost_4 : DS := (dSeq (dAsg 3 (dC c_NOUGHT)) r_plan_cost_5)
def r_plan_cost_3 : DS := (dSeq (dAsg 2 (dC c_NOUGHT)) r_plan_cost_4)
def p_plan_cost : DS := (dSeq (dIfS (dTst (dOp rdNe (dCB rdLen (dConsA (dVarO 1) dNilA)) (dCB rdLen (dConsA (dVarO 0) dNilA)))) (dRet (dC .non)) dNext) r_plan_cost_3)
/-- block_cost: scene 0, first 1, last 2, found 3, day 4 -/
def r_block_cost_6 : DS := (dRet (dCall S_plus (dConsA (dVar 3) (dConsA (dOp rdIx (dOp rdIx (dVarO 0) (dVarO 1)) (dC (.int 1))) dNilA))))
def r_block_cost_4 : DS := (dSeq (dIfS (dTst (dCB rdAll (dConsA (dLc (dRng (dConsA (dVar 1) (dConsA (dVar 2) dNilA))) (gN 4) [4] dYes (dOp rdEq (dOp rdIx (dOp rdIx (dVarO 0) (dVarO 4)) (dC (.int 0))) (dC c_NOUGHT))) dNilA))) (dRet (dC c_NOUGHT)) dNext) r_block_cost_6)
def b_block_cost_2 : DS := (dAsg 3 (dCall S_plus (dConsA (dVar 3) (dConsA (dCall S_times (dConsA (dOp rdIx (dOp rdIx (dVarO 0) (dVarO 4)) (dC (.int 0))) (dConsA (dCall S_unit_cost (dConsA (dVar 0) (dConsA (dVar 1) (dConsA (dVar 4) dNilA)))) dNilA))) dNilA))))
def r_block_cost_2 : DS := (dSeq (dFor (dRng (dConsA (dVar 1) (dConsA (dVar 2) dNilA))) (gN 4) b_block_cost_2) r_block_cost_4)
def p_block_cost : DS := (dSeq (dAsg 3 (dC c_NOUGHT)) r_block_cost_2)
/-- best_plan: scene 0, table 1, first 2, j 3, plan 4, best 5, i 6, day 7, number 8 -/
def r_best_plan_17 : DS := (dFz 1 (dFz 4 (dRet (dTup (dConsA (dOp rdIx (dVarO 1) (dUn rdNeg (dC (.int 1)))) (dConsA (dVar 4) (dConsA (dVar 1) dNilA)))))))
def r_best_plan_16 : DS := (dAsg 3 (dOp rdIx (dVarO 2) (dVarO 3)))
def b_best_plan_14 : DS := (dPut 4 (dOp rdIx (dVarO 2) (dVarO 3)) (dCall S_plus (dConsA (dOp rdIx (dVarO 4) (dOp rdIx (dVarO 2) (dVarO 3))) (dConsA (dOp rdIx (dOp rdIx (dVarO 0) (dVarO 7)) (dC (.int 0))) dNilA))))
def b_best_plan_13 : DS := (dSeq (dFor (dRng (dConsA (dOp rdIx (dVarO 2) (dVarO 3)) (dConsA (dVar 3) dNilA))) (gN 7) b_best_plan_14) r_best_plan_16)
def r_best_plan_13 : DS := (dSeq (dWhile (dTst (dOp rdGt (dVarO 3) (dC (.int 0)))) b_best_plan_13) r_best_plan_17)
def r_best_plan_12 : DS := (dSeq (dAsg 3 (dCB rdLen (dConsA (dVarO 0) dNilA))) r_best_plan_13)
def r_best_plan_11 : DS := (dSeq (dOwn 4 (dRep (dLst (dConsA (dC c_NOUGHT) dNilA)) (dCB rdLen (dConsA (dVarO 0) dNilA)))) r_best_plan_12)
def r_best_plan_10 : DS := (dApp 2 (dOp rdIx (dVarO 5) (dC (.int 1))))
def r_best_plan_9 : DS := (dSeq (dApp 1 (dOp rdIx (dVarO 5) (dC (.int 0)))) r_best_plan_10)
def r_best_plan_7 : DS := (dIfS (dOr (dTst (dOp rdIs (dVarO 5) (dC .non))) (dTst (dCall S_less (dConsA (dVar 8) (dConsA (dOp rdIx (dVarO 5) (dC (.int 0))) dNilA))))) (dAsg 5 (dTup (dConsA (dVar 8) (dConsA (dVar 6) dNilA)))) dNext)
def b_best_plan_5 : DS := (dSeq (dAsg 8 (dCall S_plus (dConsA (dOp rdIx (dVarO 1) (dVarO 6)) (dConsA (dCall S_block_cost (dConsA (dVar 0) (dConsA (dVar 6) (dConsA (dVar 3) dNilA)))) dNilA)))) r_best_plan_7)
def r_best_plan_5 : DS := (dSeq (dFor (dRng (dConsA (dVar 3) dNilA)) (gN 6) b_best_plan_5) r_best_plan_9)
def b_best_plan_3 : DS := (dSeq (dAsg 5 (dC .non)) r_best_plan_5)
def r_best_plan_3 : DS := (dSeq (dFor (dRng (dConsA (dC (.int 1)) (dConsA (dOp rdAdd (dCB rdLen (dConsA (dVarO 0) dNilA)) (dC (.int 1))) dNilA))) (gN 3) b_best_plan_3) r_best_plan_11)
def r_best_plan_2 : DS := (dSeq (dOwn 2 (dLst (dConsA (dC (.int 0)) dNilA))) r_best_plan_3)
def p_best_plan : DS := (dSeq (dOwn 1 (dLst (dConsA (dC c_NOUGHT) dNilA))) r_best_plan_2)
/-- law_fraction: pool 0, most 1, parts 2 -/
def p_law_fraction : DS := (dRet (dCall S_law_ratio (dConsA (dCall S_law_draw (dConsA (dVar 0) (dConsA (dOp rdAdd (dVarO 1) (dC (.int 1))) dNilA))) (dConsA (dOp rdAdd (dC (.int 1)) (dCall S_law_draw (dConsA (dVar 0) (dConsA (dVar 2) dNilA)))) dNilA))))
/-- law_scene_of: pool 0, least_count 1, most_count 2, found 3, k 4, amount 5, going 6, price 7, keeping 8 -/
def r_law_scene_of_10 : DS := (dFz 3 (dRet (dVar 3)))
def r_law_scene_of_9 : DS := (dApp 3 (dTup (dConsA (dVar 5) (dConsA (dVar 6) (dConsA (dVar 7) (dConsA (dVar 8) dNilA))))))
def r_law_scene_of_8 : DS := (dSeq (dAsg 8 (dCall S_law_pick (dConsA (dVar 0) (dConsA (dLst (dConsA (dTup (dConsA (dC (.int 0)) (dConsA (dC (.int 1)) dNilA))) (dConsA (dTup (dConsA (dC (.int 1)) (dConsA (dC (.int 2)) dNilA))) (dConsA (dTup (dConsA (dC (.int 1)) (dConsA (dC (.int 1)) dNilA))) (dConsA (dCall S_law_fraction (dConsA (dVar 0) (dConsA (dC (.int 3)) (dConsA (dC (.int 4)) dNilA)))) dNilA))))) dNilA)))) r_law_scene_of_9)
def r_law_scene_of_7 : DS := (dSeq (dAsg 7 (dCall S_law_pick (dConsA (dVar 0) (dConsA (dLst (dConsA (dTup (dConsA (dC (.int 1)) (dConsA (dC (.int 1)) dNilA))) (dConsA (dTup (dConsA (dC (.int 2)) (dConsA (dC (.int 1)) dNilA))) (dConsA (dCall S_law_fraction (dConsA (dVar 0) (dConsA (dC (.int 9)) (dConsA (dC (.int 3)) dNilA)))) dNilA)))) dNilA)))) r_law_scene_of_8)
def r_law_scene_of_6 : DS := (dSeq (dAsg 6 (dCall S_law_pick (dConsA (dVar 0) (dConsA (dLst (dConsA (dTup (dConsA (dC (.int 0)) (dConsA (dC (.int 1)) dNilA))) (dConsA (dTup (dConsA (dC (.int 5)) (dConsA (dC (.int 1)) dNilA))) (dConsA (dTup (dConsA (dC (.int 2)) (dConsA (dC (.int 1)) dNilA))) (dConsA (dCall S_law_fraction (dConsA (dVar 0) (dConsA (dC (.int 20)) (dConsA (dC (.int 3)) dNilA)))) dNilA))))) dNilA)))) r_law_scene_of_7)
def r_law_scene_of_5 : DS := (dSeq (dAsg 5 (dCall S_law_pick (dConsA (dVar 0) (dConsA (dLst (dConsA (dTup (dConsA (dC (.int 0)) (dConsA (dC (.int 1)) dNilA))) (dConsA (dTup (dConsA (dC (.int 1)) (dConsA (dC (.int 1)) dNilA))) (dConsA (dTup (dConsA (dC (.int 3)) (dConsA (dC (.int 1)) dNilA))) (dConsA (dCall S_law_fraction (dConsA (dVar 0) (dConsA (dC (.int 12)) (dConsA (dC (.int 2)) dNilA)))) dNilA))))) dNilA)))) r_law_scene_of_6)
def b_law_scene_of_2 : DS := (dSeq (dIfS (dTst (dOp rdEq (dOp rdMod (dCB rdInt (dConsA (dVarO 4) dNilA)) (dC (.int 6))) (dC (.int 5)))) (dDrop (dCall S_law_next (dConsA (dVar 0) dNilA))) dNext) r_law_scene_of_5)
def r_law_scene_of_2 : DS := (dSeq (dFor (dRng (dConsA (dOp rdAdd (dVarO 1) (dCall S_law_draw (dConsA (dVar 0) (dConsA (dOp rdAdd (dOp rdSub (dVarO 2) (dVarO 1)) (dC (.int 1))) dNilA)))) dNilA)) (gN 4) b_law_scene_of_2) r_law_scene_of_10)
def p_law_scene_of : DS := (dSeq (dOwn 3 (dLst dNilA)) r_law_scene_of_2)
/-- law_plan_cost: scene 0, plan 1, left 2, total 3, k 4 -/
def r_law_plan_cost_14 : DS := (dRet (dVar 3))
def r_law_plan_cost_13 : DS := (dAsg 3 (dCall S_law_add (dConsA (dVar 3) (dConsA (dCall S_law_mul (dConsA (dVar 2) (dConsA (dOp rdIx (dOp rdIx (dVarO 0) (dVarO 4)) (dC (.int 3))) dNilA))) dNilA))))
def r_law_plan_cost_11 : DS := (dSeq (dIfS (dTst (dOp rdLt (dOp rdIx (dVarO 2) (dC (.int 0))) (dC (.int 0)))) (dRet (dC .non)) dNext) r_law_plan_cost_13)
def r_law_plan_cost_10 : DS := (dSeq (dAsg 2 (dCall S_law_sub (dConsA (dCall S_law_add (dConsA (dVar 2) (dConsA (dOp rdIx (dVarO 1) (dVarO 4)) dNilA))) (dConsA (dOp rdIx (dOp rdIx (dVarO 0) (dVarO 4)) (dC (.int 0))) dNilA)))) r_law_plan_cost_11)
def r_law_plan_cost_8 : DS := (dSeq (dIfS (dTst (dOp rdGt (dOp rdIx (dOp rdIx (dVarO 1) (dVarO 4)) (dC (.int 0))) (dC (.int 0)))) (dAsg 3 (dCall S_law_add (dConsA (dVar 3) (dConsA (dCall S_law_add (dConsA (dOp rdIx (dOp rdIx (dVarO 0) (dVarO 4)) (dC (.int 1))) (dConsA (dCall S_law_mul (dConsA (dOp rdIx (dOp rdIx (dVarO 0) (dVarO 4)) (dC (.int 2))) (dConsA (dOp rdIx (dVarO 1) (dVarO 4)) dNilA))) dNilA))) dNilA)))) dNext) r_law_plan_cost_10)
def b_law_plan_cost_5 : DS := (dSeq (dIfS (dTst (dOp rdLt (dOp rdIx (dOp rdIx (dVarO 1) (dVarO 4)) (dC (.int 0))) (dC (.int 0)))) (dRet (dC .non)) dNext) r_law_plan_cost_8)
def r_law_plan_cost_5 : DS := (dSeq (dFor (dRng (dConsA (dCB rdLen (dConsA (dVarO 1) dNilA)) dNilA)) (gN 4) b_law_plan_cost_5) r_law_plan_cost_14)
def r_law_plan_cost_4 : DS := (dSeq (dAsg 3 (dTup (dConsA (dC (.int 0)) (dConsA (dC (.int 1)) dNilA)))) r_law_plan_cost_5)
def r_law_plan_cost_3 : DS := (dSeq (dAsg 2 (dTup (dConsA (dC (.int 0)) (dConsA (dC (.int 1)) dNilA)))) r_law_plan_cost_4)
def p_law_plan_cost : DS := (dSeq (dIfS (dOr (dNot (dTst (dCB rdIsi (dConsA (dVarO 1) (dConsA (dC (.ty "list")) dNilA))))) (dTst (dOp rdNe (dCB rdLen (dConsA (dVarO 1) dNilA)) (dCB rdLen (dConsA (dVarO 0) dNilA))))) (dRet (dC .non)) dNext) r_law_plan_cost_3)
/-- law_unit: scene 0, bought 1, needed 2, found 3, k 4 -/
def r_law_unit_4 : DS := (dRet (dVar 3))
def b_law_unit_2 : DS := (dAsg 3 (dCall S_law_add (dConsA (dVar 3) (dConsA (dOp rdIx (dOp rdIx (dVarO 0) (dVarO 4)) (dC (.int 3))) dNilA))))
def r_law_unit_2 : DS := (dSeq (dFor (dRng (dConsA (dVar 1) (dConsA (dVar 2) dNilA))) (gN 4) b_law_unit_2) r_law_unit_4)
def p_law_unit : DS := (dSeq (dAsg 3 (dOp rdIx (dOp rdIx (dVarO 0) (dVarO 1)) (dC (.int 2)))) r_law_unit_2)
/-- law_cost_with: scene 0, chosen 1, total 2, used_days 3, day 4, best 5, bought 6, number 7 -/
def r_law_cost_with_17 : DS := (dRet (dVar 2))
def r_law_cost_with_16 : DS := (dAsg 2 (dCall S_law_add (dConsA (dVar 2) (dConsA (dOp rdIx (dOp rdIx (dVarO 0) (dOp rdIx (dVarO 5) (dC (.int 1)))) (dC (.int 1))) dNilA))))
def r_law_cost_with_14 : DS := (dIfS (dTst (dOp rdNotIn (dOp rdIx (dVarO 5) (dC (.int 1))) (dVarO 3))) (dSeq (dApp 3 (dOp rdIx (dVarO 5) (dC (.int 1)))) r_law_cost_with_16) dNext)
def r_law_cost_with_13 : DS := (dSeq (dAsg 2 (dCall S_law_add (dConsA (dVar 2) (dConsA (dCall S_law_mul (dConsA (dOp rdIx (dVarO 5) (dC (.int 0))) (dConsA (dOp rdIx (dOp rdIx (dVarO 0) (dVarO 4)) (dC (.int 0))) dNilA))) dNilA)))) r_law_cost_with_14)
def r_law_cost_with_11 : DS := (dSeq (dIfS (dTst (dOp rdIs (dVarO 5) (dC .non))) (dRet (dC .non)) dNext) r_law_cost_with_13)
def r_law_cost_with_9 : DS := (dIfS (dOr (dTst (dOp rdIs (dVarO 5) (dC .non))) (dTst (dCall S_law_less (dConsA (dVar 7) (dConsA (dOp rdIx (dVarO 5) (dC (.int 0))) dNilA))))) (dAsg 5 (dTup (dConsA (dVar 7) (dConsA (dVar 6) dNilA)))) dNext)
def b_law_cost_with_6 : DS := (dIfS (dTst (dOp rdLe (dVarO 6) (dVarO 4))) (dSeq (dAsg 7 (dCall S_law_unit (dConsA (dVar 0) (dConsA (dVar 6) (dConsA (dVar 4) dNilA))))) r_law_cost_with_9) dNext)
def r_law_cost_with_6 : DS := (dSeq (dFor (dIter (dVar 1)) (gN 6) b_law_cost_with_6) r_law_cost_with_11)
def b_law_cost_with_3 : DS := (dIfS (dTst (dOp rdGt (dOp rdIx (dOp rdIx (dOp rdIx (dVarO 0) (dVarO 4)) (dC (.int 0))) (dC (.int 0))) (dC (.int 0)))) (dSeq (dAsg 5 (dC .non)) r_law_cost_with_6) dNext)
def r_law_cost_with_3 : DS := (dSeq (dFor (dRng (dConsA (dCB rdLen (dConsA (dVarO 0) dNilA)) dNilA)) (gN 4) b_law_cost_with_3) r_law_cost_with_17)
def r_law_cost_with_2 : DS := (dSeq (dOwn 3 (dLst dNilA)) r_law_cost_with_3)
def p_law_cost_with : DS := (dSeq (dAsg 2 (dTup (dConsA (dC (.int 0)) (dConsA (dC (.int 1)) dNilA)))) r_law_cost_with_2)
/-- law_cheapest: scene 0, chosen 1, day 2, best 3, one 4, number 5 -/
def r_law_cheapest_9 : DS := (dRet (dVar 3))
def r_law_cheapest_7 : DS := (dIfS (dAnd (dTst (dOp rdIsNot (dVarO 5) (dC .non))) (dOr (dTst (dOp rdIs (dVarO 3) (dC .non))) (dTst (dCall S_law_less (dConsA (dVar 5) (dConsA (dVar 3) dNilA)))))) (dAsg 3 (dVar 5)) dNext)
def b_law_cheapest_5 : DS := (dSeq (dAsg 5 (dCall S_law_cost_with (dConsA (dVar 0) (dConsA (dVar 4) dNilA)))) r_law_cheapest_7)
def r_law_cheapest_5 : DS := (dSeq (dFor (dIter (dVar 1)) (gN 4) b_law_cheapest_5) r_law_cheapest_9)
def r_law_cheapest_4 : DS := (dSeq (dAsg 3 (dC .non)) r_law_cheapest_5)
def b_law_cheapest_2 : DS := (dAsg 1 (dOp rdAdd (dVarO 1) (dLc (dIter (dVar 1)) (gN 4) [4] dYes (dOp rdAdd (dVarO 4) (dLst (dConsA (dVar 2) dNilA))))))
def r_law_cheapest_2 : DS := (dSeq (dFor (dRng (dConsA (dCB rdLen (dConsA (dVarO 0) dNilA)) dNilA)) (gN 2) b_law_cheapest_2) r_law_cheapest_4)
def p_law_cheapest : DS := (dSeq (dAsg 1 (dLst (dConsA (dLst dNilA) dNilA))) r_law_cheapest_2)
/-- law_in_blocks: scene 0, plan 1, days 2, k 3, last 4, total 5, day 6 -/
def r_law_in_blocks_9 : DS := (dRet (dC (.bl true)))
def r_law_in_blocks_7 : DS := (dIfS (dTst (dOp rdNe (dVarO 5) (dOp rdIx (dVarO 1) (dOp rdIx (dVarO 2) (dVarO 3))))) (dRet (dC (.bl false))) dNext)
def b_law_in_blocks_5 : DS := (dAsg 5 (dCall S_law_add (dConsA (dVar 5) (dConsA (dOp rdIx (dOp rdIx (dVarO 0) (dVarO 6)) (dC (.int 0))) dNilA))))
def r_law_in_blocks_5 : DS := (dSeq (dFor (dRng (dConsA (dOp rdIx (dVarO 2) (dVarO 3)) (dConsA (dVar 4) dNilA))) (gN 6) b_law_in_blocks_5) r_law_in_blocks_7)
def r_law_in_blocks_4 : DS := (dSeq (dAsg 5 (dTup (dConsA (dC (.int 0)) (dConsA (dC (.int 1)) dNilA)))) r_law_in_blocks_5)
def b_law_in_blocks_2 : DS := (dSeq (dAsg 4 (dIf (dTst (dOp rdLt (dOp rdAdd (dVarO 3) (dC (.int 1))) (dCB rdLen (dConsA (dVarO 2) dNilA)))) (dOp rdIx (dVarO 2) (dOp rdAdd (dVarO 3) (dC (.int 1)))) (dCB rdLen (dConsA (dVarO 0) dNilA)))) r_law_in_blocks_4)
def r_law_in_blocks_2 : DS := (dSeq (dFor (dRng (dConsA (dCB rdLen (dConsA (dVarO 2) dNilA)) dNilA)) (gN 3) b_law_in_blocks_2) r_law_in_blocks_9)
def p_law_in_blocks : DS := (dSeq (dAsg 2 (dLc (dRng (dConsA (dCB rdLen (dConsA (dVarO 1) dNilA)) dNilA)) (gN 3) [3] (dTst (dOp rdGt (dOp rdIx (dOp rdIx (dVarO 1) (dVarO 3)) (dC (.int 0))) (dC (.int 0)))) (dVar 3))) r_law_in_blocks_2)
/-- law_first_part: script 0, pool 1, turn 2, scene 3, more 4, bought 5, plan 6, day 7, form 8, handed 9, needed_on 10 -/
def r_law_first_part_23 : DS := (dRet (dC (.bl true)))
def b_law_first_part_20 : DS := (dIfS (dNot (dTst (dCall S_law_same (dConsA (dCall S_unit_cost (dConsA (dVar 3) (dConsA (dVar 5) (dConsA (dVar 10) dNilA)))) (dConsA (dCall S_law_unit (dConsA (dVar 3) (dConsA (dVar 5) (dConsA (dVar 10) dNilA)))) dNilA))))) (dRet (dC (.bl false))) dNext)
def b_law_first_part_19 : DS := (dFor (dRng (dConsA (dVar 5) (dConsA (dCB rdLen (dConsA (dVarO 3) dNilA)) dNilA))) (gN 10) b_law_first_part_20)
def r_law_first_part_19 : DS := (dFor (dRng (dConsA (dCB rdLen (dConsA (dVarO 3) dNilA)) dNilA)) (gN 5) b_law_first_part_19)
def r_law_first_part_17 : DS := (dFz 6 (dIfS (dOr (dNot (dTst (dCall S_law_same (dConsA (dCall S_plan_cost (dConsA (dCB rdList (dConsA (dVarO 3) dNilA)) (dConsA (dVar 9) dNilA))) (dConsA (dCall S_law_plan_cost (dConsA (dVar 3) (dConsA (dVar 6) dNilA))) dNilA))))) (dTst (dOp rdNe (dVarO 9) (dVarO 6)))) (dRet (dC (.bl false))) dNext))
def r_law_first_part_16 : DS := (dSeq (dAsg 9 (dCB rdList (dConsA (dVarO 6) dNilA))) r_law_first_part_17)
def r_law_first_part_12 : DS := (dSeq (dIfS (dTst (dOp rdEq (dVarO 8) (dC (.int 0)))) (dApp 6 (dTup (dConsA (dC (.int 0)) (dConsA (dC (.int 1)) dNilA)))) (dIfS (dAnd (dTst (dOp rdEq (dVarO 8) (dC (.int 1)))) (dTst (dOp rdGt (dCB rdLen (dConsA (dVarO 6) dNilA)) (dC (.int 0))))) (dPut 6 (dCall S_law_draw (dConsA (dVar 1) (dConsA (dCB rdLen (dConsA (dVarO 6) dNilA)) dNilA))) (dTup (dConsA (dUn rdNeg (dC (.int 1))) (dConsA (dC (.int 2)) dNilA)))) dNext)) r_law_first_part_16)
def r_law_first_part_11 : DS := (dSeq (dAsg 8 (dCall S_law_draw (dConsA (dVar 1) (dConsA (dC (.int 8)) dNilA)))) r_law_first_part_12)
def r_law_first_part_9 : DS := (dSeq (dIfS (dAnd (dTst (dOp rdGt (dCB rdLen (dConsA (dVarO 6) dNilA)) (dC (.int 0)))) (dTst (dOp rdEq (dCall S_law_draw (dConsA (dVar 1) (dConsA (dC (.int 3)) dNilA))) (dC (.int 0))))) (dPut 6 (dC (.int 0)) (dTup (dConsA (dC (.int 100)) (dConsA (dC (.int 1)) dNilA)))) dNext) r_law_first_part_11)
def b_law_first_part_7 : DS := (dApp 6 (dCall S_law_pick (dConsA (dVar 1) (dConsA (dLst (dConsA (dOp rdIx (dVarO 7) (dC (.int 0))) (dConsA (dOp rdIx (dVarO 7) (dC (.int 0))) (dConsA (dTup (dConsA (dC (.int 0)) (dConsA (dC (.int 1)) dNilA))) (dConsA (dCall S_law_mul (dConsA (dOp rdIx (dVarO 7) (dC (.int 0))) (dConsA (dTup (dConsA (dC (.int 2)) (dConsA (dC (.int 1)) dNilA))) dNilA))) (dConsA (dCall S_law_fraction (dConsA (dVar 1) (dConsA (dC (.int 20)) (dConsA (dC (.int 2)) dNilA)))) dNilA)))))) dNilA))))
def r_law_first_part_7 : DS := (dSeq (dFor (dIter (dVar 3)) (gN 7) b_law_first_part_7) r_law_first_part_9)
def b_law_first_part_5 : DS := (dSeq (dOwn 6 (dLst dNilA)) r_law_first_part_7)
def r_law_first_part_5 : DS := (dSeq (dFor (dRng (dConsA (dC (.int 4)) dNilA)) (gN 4) b_law_first_part_5) r_law_first_part_19)
def r_law_first_part_4 : DS := (dSeq (dAsg 3 (dCall S_law_scene_of (dConsA (dVar 1) (dConsA (dC (.int 0)) (dConsA (dC (.int 6)) dNilA))))) r_law_first_part_5)
def b_law_first_part_2 : DS := (dSeq (dDrop (dCall S_law_next (dConsA (dVar 1) dNilA))) r_law_first_part_4)
def p_law_first_part : DS := (dSeq (dFor (dRng (dConsA (dC (.int 4)) dNilA)) (gN 2) b_law_first_part_2) r_law_first_part_23)
/-- law: script 0, pool 1, turn 2, scene 3, told 4, due 5, more 6, plan 7, number 8, j 9, day 10 -/
def r_law_22 : DS := (dRet (dC (.bl true)))
def r_law_20 : DS := (dIfS (dAnd (dTst (dOp rdIsNot (dVarO 8) (dC .non))) (dTst (dCall S_law_less (dConsA (dVar 8) (dConsA (dOp rdIx (dVarO 4) (dC (.int 0))) dNilA))))) (dRet (dC (.bl false))) dNext)
def r_law_19 : DS := (dFz 7 (dSeq (dAsg 8 (dCall S_law_plan_cost (dConsA (dVar 3) (dConsA (dVar 7) dNilA)))) r_law_20))
def r_law_17 : DS := (dSeq (dIfS (dAnd (dTst (dOp rdGt (dCB rdLen (dConsA (dVarO 7) dNilA)) (dC (.int 0)))) (dTst (dOp rdEq (dCall S_law_draw (dConsA (dVar 1) (dConsA (dC (.int 2)) dNilA))) (dC (.int 0))))) (dPut 7 (dC (.int 0)) (dTup (dConsA (dC (.int 60)) (dConsA (dC (.int 1)) dNilA)))) dNext) r_law_19)
def b_law_15 : DS := (dSeq (dOwn 7 (dLc (dIter (dVar 3)) (gN 10) [10] dYes (dCall S_law_pick (dConsA (dVar 1) (dConsA (dLst (dConsA (dOp rdIx (dVarO 10) (dC (.int 0))) (dConsA (dCall S_law_mul (dConsA (dOp rdIx (dVarO 10) (dC (.int 0))) (dConsA (dTup (dConsA (dC (.int 3)) (dConsA (dC (.int 1)) dNilA))) dNilA))) (dConsA (dTup (dConsA (dC (.int 0)) (dConsA (dC (.int 1)) dNilA))) dNilA)))) dNilA))))) r_law_17)
def r_law_15 : DS := (dFor (dRng (dConsA (dC (.int 4)) dNilA)) (gN 6) b_law_15)
def r_law_13 : DS := (dSeq (dIfS (dOr (dTst (dOp rdNe (dCall S_law_plan_cost (dConsA (dVar 3) (dConsA (dOp rdIx (dVarO 4) (dC (.int 1))) dNilA))) (dOp rdIx (dVarO 4) (dC (.int 0))))) (dNot (dTst (dCall S_law_in_blocks (dConsA (dVar 3) (dConsA (dOp rdIx (dVarO 4) (dC (.int 1))) dNilA)))))) (dRet (dC (.bl false))) dNext) r_law_15)
def r_law_11 : DS := (dSeq (dIfS (dOr (dNot (dTst (dCall S_law_same (dConsA (dOp rdIx (dVarO 4) (dC (.int 2))) (dConsA (dVar 5) dNilA))))) (dNot (dTst (dCall S_law_same (dConsA (dOp rdIx (dVarO 4) (dC (.int 0))) (dConsA (dOp rdIx (dVarO 5) (dUn rdNeg (dC (.int 1)))) dNilA)))))) (dRet (dC (.bl false))) dNext) r_law_13)
def r_law_10 : DS := (dSeq (dAsg 5 (dLc (dRng (dConsA (dOp rdAdd (dCB rdLen (dConsA (dVarO 3) dNilA)) (dC (.int 1))) dNilA)) (gN 9) [9] dYes (dCall S_law_cheapest (dConsA (dSl (dVarO 3) dNoP (dSmP (dVar 9))) dNilA)))) r_law_11)
def r_law_8 : DS := (dSeq (dIfS (dOr (dNot (dTst (dCB rdIsi (dConsA (dVarO 4) (dConsA (dC (.ty "tuple")) dNilA))))) (dOr (dTst (dOp rdNe (dCB rdLen (dConsA (dVarO 4) dNilA)) (dC (.int 3)))) (dNot (dTst (dCB rdIsi (dConsA (dOp rdIx (dVarO 4) (dC (.int 2))) (dConsA (dC (.ty "list")) dNilA))))))) (dRet (dC (.bl false))) dNext) r_law_10)
def r_law_7 : DS := (dSeq (dAsg 4 (dCall S_best_plan (dConsA (dCB rdList (dConsA (dVarO 3) dNilA)) dNilA))) r_law_8)
def r_law_6 : DS := (dSeq (dAsg 3 (dCall S_law_scene_of (dConsA (dVar 1) (dConsA (dC (.int 0)) (dConsA (dC (.int 5)) dNilA))))) r_law_7)
def b_law_4 : DS := (dSeq (dDrop (dCall S_law_next (dConsA (dVar 1) dNilA))) r_law_6)
def p_law : DS := (dSeq (dFor (dRng (dConsA (dC (.int 2)) dNilA)) (gN 2) b_law_4) r_law_22)
end K46

namespace K46
open PySem PySem.Spec PyProof.Rows L2 DL
theorem bz0 : bz 0 ≤ 1 := by decide
theorem dy_at {s : List Day} {k : Nat} (h : k < s.length) : s[k]? = some (dy s k) := by
  unfold dy
  rw [List.getD_eq_getElem?_getD, List.getElem?_eq_getElem h]
  rfl
theorem dy_ok {s : List Day} {k : Nat} (O : ScOk s) (h : k < s.length) : DayOk (dy s k) := O.2 _ (List.mem_of_getElem? (dy_at h))
theorem rdIx_day {s : List Day} {k : Nat} {Q : D → Prop} (h : k < s.length) (q : Q (dayD (dy s k))) : rdIx (scD s) (.int (k : Nat)) Q := rdIx_map (f := dayD) (dy_at h) q
theorem bz_unit {s : List Day} (O : ScOk s) {b : Nat} : ∀ n, b < s.length → b + n ≤ s.length → bz (unitN s b n) ≤ 6 + 6 * n
  | 0, hb, _ => (dy_ok O hb).pb
  | n + 1, hb, h => by
    have h1 := bz_unit O (b := b) n hb (by omega)
    have h2 := (dy_ok O (k := b + n) (by omega)).kb
    have := bz_add (unitN s b n) (dy s (b + n)).ke
    unfold unitN
    omega
theorem bz_blk {s : List Day} (O : ScOk s) {b : Nat} : ∀ n, b + n ≤ s.length → bz (blkN s b n) ≤ 1 + 54 * n
  | 0, _ => bz0
  | n + 1, h => by
    have h1 := bz_blk O (b := b) n (by omega)
    have h2 := (dy_ok O (k := b + n) (by omega)).ab
    have h3 := bz_unit O (b := b) n (by omega) (by omega)
    have h4 := O.1
    have h5 := bz_mul (dy s (b + n)).am (unitN s b n)
    have h6 := bz_add (blkN s b n) ((dy s (b + n)).am * unitN s b n)
    have h7 : 6 * n ≤ 36 := by omega
    unfold blkN
    omega
theorem lunit_loop {Q : D → Prop} {s : List Day} {b n : Nat} {c2 : Sl} (O : ScOk s) (hb : b < s.length) (hn : b + n ≤ s.length) (q : Q (qD (unitN s b n))) : ∀ (j i : Nat) (z : Sl), i + j = n →
    forL (gN 4) b_law_unit_2 { fnEnds Q with nx := r_law_unit_4 (fnEnds Q) } ((List.range' i j).map fun k => .int (((b : Nat) : Int) + (k : Nat))) [.sh (scD s), .sh (.int (b : Nat)), c2, .sh (qD (unitN s b i)), z]
  | 0, i, z, h => by
    have : i = n := by omega
    subst this
    exact q
  | j + 1, i, z, h => by
    rw [List.range'_succ, List.map_cons]
    have b1 := bz_unit O (b := b) i hb (by omega)
    have b2 := (dy_ok O (k := b + i) (by omega)).kb
    have h4 := O.1
    have e : ((b : Nat) : Int) + (i : Nat) = ((b + i : Nat) : Int) := by omega
    rw [e]
    simp only [forL, gN]
    unfold b_law_unit_2 dAsg dCall dConsA dVar
    refine rdIx_day (k := b + i) (by omega) ?_
    refine ⟨unitN s b i, (dy s (b + i)).ke, rfl, by omega, ?_⟩
    exact lunit_loop O hb hn q j (i + 1) _ (by omega)
theorem pure_law_unit : PureD p_law_unit S_law_unit 5 3 := by
  rintro ds Q ⟨s, b, n, rfl, O, hb, hn, q⟩
  have h4 := O.1
  refine ⟨rfl, ?_⟩
  unfold p_law_unit r_law_unit_2
  refine rdIx_day hb ?_
  refine ⟨⟨by omega, by omega⟩, ⟨by omega, by omega⟩, ?_⟩
  rw [show (((b + n : Nat) : Int) - ((b : Nat) : Int)).toNat = n by omega, rangeD_r]
  exact lunit_loop O hb hn q n 0 .no (by omega)
theorem cut_mid {α : Type} (f : α → D) (l : List α) {a b : Nat} (h : a ≤ b) (h2 : b ≤ l.length) : DL.cutD (l.map f) (some (a : Nat)) (some (b : Nat)) = ((l.drop a).take (b - a)).map f := by
  unfold DL.cutD
  rw [HT.sIx_nat, HT.sIx_nat, List.length_map, Nat.min_eq_left h2, Nat.min_eq_left (show a ≤ l.length by omega), List.map_take, List.map_drop]
theorem unit_loop {Q : D → Prop} {s : List Day} {b n : Nat} {c1 c2 : Sl} (O : ScOk s) (hb : b < s.length) (hn : b + n ≤ s.length) (q : Q (qD (unitN s b n))) : ∀ (j i : Nat) (z : Sl), i + j = n →
    forL (gN 4) b_unit_cost_2 { fnEnds Q with nx := r_unit_cost_4 (fnEnds Q) } (((s.drop (b + i)).take j).map dayD) [.sh (scD s), c1, c2, .sh (qD (unitN s b i)), z]
  | 0, i, z, h => by
    have : i = n := by omega
    subst this
    rw [List.take_zero]
    exact q
  | j + 1, i, z, h => by
    have hi : b + i < s.length := by omega
    have ed : s.drop (b + i) = dy s (b + i) :: s.drop (b + (i + 1)) := by
      rw [List.drop_eq_getElem_cons hi]
      have := dy_at hi
      rw [List.getElem?_eq_getElem hi] at this
      rw [Option.some.inj this]
      rfl
    rw [ed, List.take_succ_cons, List.map_cons]
    have b1 := bz_unit O (b := b) i hb (by omega)
    have b2 := (dy_ok O (k := b + i) (by omega)).kb
    have h4 := O.1
    refine ⟨unitN s b i, (dy s (b + i)).ke, rfl, by omega, ?_⟩
    exact unit_loop O hb hn q j (i + 1) _ (by omega)
theorem pure_unit_cost : PureD p_unit_cost S_unit_cost 5 3 := by
  rintro ds Q ⟨s, b, n, rfl, O, hb, hn, q⟩
  refine ⟨rfl, ?_⟩
  unfold p_unit_cost r_unit_cost_2
  refine rdIx_day hb ?_
  have e : DL.cutD (s.map dayD) (some ((b : Nat) : Int)) (some ((b + n : Nat) : Int)) = ((s.drop b).take n).map dayD := by
    rw [cut_mid dayD s (by omega) hn, show b + n - b = n by omega]
  show forL (gN 4) b_unit_cost_2 _ (DL.cutD (s.map dayD) (some ((b : Nat) : Int)) (some ((b + n : Nat) : Int))) _
  rw [e]
  exact unit_loop O hb hn q n 0 .no (by omega)
theorem num_lt (a : Rat) : decide (a.num < 0) = decide (a < 0) := decide_eq_decide.mpr (by rw [Rat.lt_iff]; simp)
theorem blk_loop {Q : D → Prop} {s : List Day} {b n : Nat} {c2 : Sl} (O : ScOk s) (hn : b + n ≤ s.length)
    (q : ∀ z, r_block_cost_4 (fnEnds Q) [.sh (scD s), .sh (.int (b : Nat)), c2, .sh (qD (blkN s b n)), z]) : ∀ (j i : Nat) (z : Sl), i + j = n →
    forL (gN 4) b_block_cost_2 { fnEnds Q with nx := r_block_cost_4 (fnEnds Q) } ((List.range' i j).map fun k => .int (((b : Nat) : Int) + (k : Nat))) [.sh (scD s), .sh (.int (b : Nat)), c2, .sh (qD (blkN s b i)), z]
  | 0, i, z, h => by
    have : i = n := by omega
    subst this
    exact q z
  | j + 1, i, z, h => by
    rw [List.range'_succ, List.map_cons]
    have hi : b + i < s.length := by omega
    have b1 := bz_unit O (b := b) i (by omega) (by omega)
    have b2 := (dy_ok O hi).ab
    have b3 := bz_blk O (b := b) i (by omega)
    have b4 := bz_mul (dy s (b + i)).am (unitN s b i)
    have h4 := O.1
    have e : ((b : Nat) : Int) + (i : Nat) = ((b + i : Nat) : Int) := by omega
    rw [e]
    have ih := blk_loop O hn q j (i + 1) (.sh (.int ((b + i : Nat) : Int))) (by omega)
    simp only [forL, gN]
    generalize forL (gN 4) b_block_cost_2 { fnEnds Q with nx := r_block_cost_4 (fnEnds Q) } ((List.range' (i + 1) j).map fun k => .int (((b : Nat) : Int) + (k : Nat))) = F at ih ⊢
    unfold b_block_cost_2 dAsg dCall dConsA dVar
    refine rdIx_day (k := b + i) hi ?_
    refine ⟨s, b, i, rfl, O, by omega, by omega, ?_⟩
    refine ⟨(dy s (b + i)).am, unitN s b i, rfl, by omega, ?_⟩
    exact ⟨blkN s b i, _, rfl, by omega, ih⟩
theorem pure_block_cost : PureD p_block_cost S_block_cost 5 3 := by
  rintro ds Q ⟨s, b, n, rfl, O, hn, n1, q⟩
  have h4 := O.1
  have hb : b < s.length := by omega
  have rest : ∀ z, r_block_cost_4 (fnEnds Q) [.sh (scD s), .sh (.int (b : Nat)), .sh (.int ((b + n : Nat) : Int)), .sh (qD (blkN s b n)), z] := fun z => by
    unfold r_block_cost_4 r_block_cost_6
    refine ⟨⟨by omega, by omega⟩, ⟨by omega, by omega⟩, ?_⟩
    rw [show (((b + n : Nat) : Int) - ((b : Nat) : Int)).toNat = n by omega]
    have er : rangeD ((b : Nat) : Int) n = (List.range' b n).map fun k => D.int (k : Nat) := by
      rw [rangeD, List.range'_eq_map_range, List.map_map]
      refine List.map_congr_left fun i _ => ?_
      show D.int _ = D.int _
      congr 1
    rw [er]
    refine ⟨size_le (by simp; omega), lcL_of (h := fun k : Nat => .int (k : Nat)) (f := fun k => .bl (decide ((dy s k).am = 0))) (List.range' b n) (fun k hk N M kk => ?_) _ ?_⟩
    · have hk' : k < s.length := by have := List.mem_range'_1.mp hk; omega
      simp only [gN, dYes, if_true]
      refine rdIx_day (k := k) hk' ?_
      refine ⟨okD_qd _ _, rfl, ?_⟩
      rw [show c_NOUGHT = qD 0 from rfl, deq_qd]
      exact kk
    unfold dNilA
    refine rdAll_of ?_
    refine ite_ct (fun g => ?_) (fun g => ?_)
    · have e : blockQ s b n = 0 := if_pos g
      rw [e] at q
      exact q
    · have e : blockQ s b n = blkN s b n + (dy s b).go := if_neg (by unfold noneN; rw [g]; exact Bool.false_ne_true)
      rw [e] at q
      have b3 := bz_blk O (b := b) n hn
      have b4 := (dy_ok O hb).gb
      unfold dRet dCall dConsA dVar
      refine rdIx_day hb ?_
      exact ⟨_, _, rfl, by omega, q⟩
  refine ⟨rfl, ⟨by omega, by omega⟩, ⟨by omega, by omega⟩, ?_⟩
  rw [show (((b + n : Nat) : Int) - ((b : Nat) : Int)).toNat = n by omega, rangeD_r]
  exact blk_loop O hn rest n 0 .no (by omega)
theorem plan_loop {Q : D → Prop} {c0 c1 : Sl} : ∀ (s : List Day) (p : List Rat) (l c : Rat) (x4 x5 x6 x7 x8 : Sl), s.length = p.length → (∀ d ∈ s, DayOk d) → (∀ x ∈ p, bz x ≤ 40) → bz l + 46 * s.length ≤ 300 → bz c + 400 * s.length ≤ 2600 → Q (optQ (planQ s p l c)) →
    forL (gT 2 (gsCons (gT 4 (gsCons (gN 5) (gsCons (gN 6) (gsCons (gN 7) (gsCons (gN 8) gsNil))))) (gsCons (gN 4) gsNil))) b_plan_cost_5 { fnEnds Q with nx := r_plan_cost_12 (fnEnds Q) } (zipD (s.map dayD) (p.map qD)) [c0, c1, .sh (qD c), .sh (qD l), x4, x5, x6, x7, x8]
  | [], [], l, c, x4, x5, x6, x7, x8, _, _, _, _, _, q => q
  | d :: s, x :: p, l, c, x4, x5, x6, x7, x8, hl, hs, hp, h1, h2, q => by
    rw [List.length_cons] at h1 h2
    have O := hs d (List.mem_cons_self ..)
    have bx := hp x (List.mem_cons_self ..)
    have o1 := O.ab
    have o2 := O.gb
    have o3 := O.pb
    have o4 := O.kb
    have a1 := bz_add l x
    have a2 := bz_sub (l + x) d.am
    have a3 := bz_mul d.pr x
    have a4 := bz_add d.go (d.pr * x)
    have a5 := bz_add c (d.go + d.pr * x)
    have a6 := bz_mul d.ke (l + x - d.am)
    have a7 := bz_add (c + (d.go + d.pr * x)) (d.ke * (l + x - d.am))
    have a8 := bz_add c (d.ke * (l + x - d.am))
    have z := bz0
    have hl' : s.length = p.length := by simpa using hl
    have ih := fun c' h2' q' => plan_loop (Q := Q) (c0 := c0) (c1 := c1) s p (l + x - d.am) c' (.sh (qD x)) (.sh (qD d.am)) (.sh (qD d.go)) (.sh (qD d.pr)) (.sh (qD d.ke)) hl' (fun e he => hs e (List.mem_cons_of_mem _ he)) (fun e he => hp e (List.mem_cons_of_mem _ he)) (by omega) h2' q'
    have ez : zipD ((d :: s).map dayD) ((x :: p).map qD) = .tup [dayD d, qD x] :: zipD (s.map dayD) (p.map qD) := rfl
    rw [ez]
    simp only [forL]
    generalize forL (gT 2 (gsCons (gT 4 (gsCons (gN 5) (gsCons (gN 6) (gsCons (gN 7) (gsCons (gN 8) gsNil))))) (gsCons (gN 4) gsNil))) b_plan_cost_5 { fnEnds Q with nx := r_plan_cost_12 (fnEnds Q) } (zipD (s.map dayD) (p.map qD)) = F at ih ⊢
    unfold planQ at q
    refine ⟨rfl, rfl, ?_⟩
    refine ⟨l, x, rfl, by omega, l + x, d.am, rfl, by omega, ?_⟩
    refine ⟨x, 0, rfl, by omega, ite_ct (fun g => ?_) (fun g => ⟨l + x - d.am, 0, rfl, by omega, ite_ct (fun g2 => ?_) (fun g2 => ?_)⟩)⟩
    · rw [if_pos (of_decide_eq_true g)] at q
      exact q
    · rw [if_neg (of_decide_eq_false g), if_pos (of_decide_eq_true g2)] at q
      exact q
    · rw [if_neg (of_decide_eq_false g), if_neg (of_decide_eq_false g2)] at q
      refine ⟨0, x, rfl, by omega, ite_ct (fun g3 => ?_) (fun g3 => ?_)⟩
      · rw [if_pos (of_decide_eq_true g3)] at q
        exact ⟨d.pr, x, rfl, by omega, d.go, _, rfl, by omega, c, _, rfl, by omega, d.ke, _, rfl, by omega, _, _, rfl, by omega, ih _ (by omega) q⟩
      · rw [if_neg (of_decide_eq_false g3), Rat.add_zero] at q
        exact ⟨d.ke, _, rfl, by omega, c, _, rfl, by omega, ih _ (by omega) q⟩
theorem neL (m n : Nat) : (!deq (.int (m : Nat)) (.int (n : Nat))) = !decide (m = n) := by
  congr 1
  show decide (((m : Nat) : Int) = (n : Nat)) = _
  exact decide_eq_decide.mpr (by omega)
theorem pure_plan_cost : PureD p_plan_cost S_plan_cost 9 2 := by
  rintro ds Q ⟨s, p, rfl, O, hp, q⟩
  refine ⟨rfl, rfl, rfl, ?_⟩
  show (if (!deq (.int ((p.map qD).length : Nat)) (.int ((s.map dayD).length : Nat))) = true then _ else _)
  rw [neL, List.length_map, List.length_map]
  refine ite_ct (fun h => ?_) (fun h => ?_)
  · have e : planC s p = none := if_neg (by simpa using h)
    rw [e] at q
    exact q
  · have hl : p.length = s.length := by simpa using h
    have e : planC s p = planQ s p 0 0 := if_pos hl
    rw [e] at q
    have h4 := O.1
    have z := bz0
    refine ⟨by simp [hl], ?_⟩
    exact plan_loop s p 0 0 .no .no .no .no .no hl.symm O.2 hp.2 (by omega) (by omega) q
theorem rdIsi_of {d : D} {n : String} {b : Bool} {Q : D → Prop} (e : isD d n = some b) (k : Q (.bl b)) : rdIsi [d, .ty n] Q := by
  simp only [rdIsi, e]
  exact k
theorem lplan_loop {Q : D → Prop} {s : List Day} {p : List Rat} (O : ScOk s) (hp : PlOk p) (hl : p.length = s.length) : ∀ (j i : Nat) (l c : Rat) (z : Sl), i + j = s.length → bz l + 46 * j ≤ 300 → bz c + 400 * j ≤ 2600 → Q (optQ (planQ (s.drop i) (p.drop i) l c)) →
    forL (gN 4) b_law_plan_cost_5 { fnEnds Q with nx := r_law_plan_cost_14 (fnEnds Q) } ((List.range' i j).map fun k => .int (0 + (k : Nat))) [.sh (scD s), .sh (qL p), .sh (qD l), .sh (qD c), z]
  | 0, i, l, c, z, hi, _, _, q => by
    have : s.drop i = [] := List.drop_eq_nil_of_le (by omega)
    rw [this] at q
    exact q
  | j + 1, i, l, c, z, hi, h1, h2, q => by
    rw [List.range'_succ, List.map_cons, Int.zero_add]
    have hi' : i < s.length := by omega
    have ed : s.drop i = dy s i :: s.drop (i + 1) := by
      rw [List.drop_eq_getElem_cons hi']
      have := dy_at hi'
      rw [List.getElem?_eq_getElem hi'] at this
      rw [Option.some.inj this]
    have gp : p[i]? = some p[i] := List.getElem?_eq_getElem (by omega)
    have ep : p.drop i = p[i] :: p.drop (i + 1) := List.drop_eq_getElem_cons (by omega)
    rw [ed, ep] at q
    unfold planQ at q
    have OK := dy_ok O hi'
    have bx := hp.2 _ (List.getElem_mem (l := p) (n := i) (by omega))
    generalize hx : p[i] = x at q gp bx
    generalize hd : dy s i = d at q OK
    have rd : ∀ {R : D → Prop}, R (dayD d) → rdIx (scD s) (.int (i : Nat)) R := fun h => rdIx_day hi' (by rw [hd]; exact h)
    have rp : ∀ {R : D → Prop}, R (qD x) → rdIx (qL p) (.int (i : Nat)) R := fun h => rdIx_map gp h
    have o1 := OK.ab
    have o2 := OK.gb
    have o3 := OK.pb
    have o4 := OK.kb
    have a1 := bz_add l x
    have a2 := bz_sub (l + x) d.am
    have a3 := bz_mul d.pr x
    have a4 := bz_add d.go (d.pr * x)
    have a5 := bz_add c (d.go + d.pr * x)
    have a6 := bz_mul (l + x - d.am) d.ke
    have a7 := bz_add (c + (d.go + d.pr * x)) ((l + x - d.am) * d.ke)
    have a8 := bz_add c ((l + x - d.am) * d.ke)
    rw [Rat.mul_comm d.ke] at q
    have ih := fun c' h2' q' => lplan_loop (Q := Q) O hp hl j (i + 1) (l + x - d.am) c' (.sh (.int (i : Nat))) (by omega) (by omega) h2' q'
    simp only [forL, gN]
    generalize forL (gN 4) b_law_plan_cost_5 { fnEnds Q with nx := r_law_plan_cost_14 (fnEnds Q) } ((List.range' (i + 1) j).map fun k => .int (0 + (k : Nat))) = F at ih ⊢
    have rest : ∀ c', bz c' + 400 * j ≤ 2600 - 330 → ((0 < x → c' = c + (d.go + d.pr * x)) ∧ (¬ 0 < x → c' = c)) → ¬ x < 0 → r_law_plan_cost_10 { fnEnds Q with nx := F, ct := F, bk := r_law_plan_cost_14 (fnEnds Q) } [.sh (scD s), .sh (qL p), .sh (qD l), .sh (qD c'), .sh (.int (i : Nat))] := fun c' hc hc2 hx0 => by
      rw [if_neg hx0] at q
      have a9 := bz_add c' ((l + x - d.am) * d.ke)
      unfold r_law_plan_cost_10
      unfold dSeq dAsg dCall dConsA dVar dOp dVarO
      refine rp ?_
      refine ⟨l, x, rfl, by omega, rd ⟨l + x, d.am, rfl, by omega, ?_⟩⟩
      unfold r_law_plan_cost_11
      show (if decide ((l + x - d.am).num < 0) = true then _ else _)
      rw [num_lt]
      refine ite_ct (fun g2 => ?_) (fun g2 => ?_)
      · rw [if_pos (of_decide_eq_true g2)] at q
        exact q
      · rw [if_neg (of_decide_eq_false g2)] at q
        unfold dNext
        unfold r_law_plan_cost_13 dAsg dCall dConsA dVar dOp dVarO
        refine rd ⟨_, d.ke, rfl, by omega, c', _, rfl, by omega, ih _ (by omega) ?_⟩
        by_cases g3 : 0 < x
        · rw [if_pos g3] at q
          rw [hc2.1 g3]
          exact q
        · rw [if_neg g3, Rat.add_zero] at q
          rw [hc2.2 g3]
          exact q
    unfold b_law_plan_cost_5 r_law_plan_cost_8
    generalize r_law_plan_cost_10 = R at rest ⊢
    unfold dSeq dIfS dTst dOp dVarO
    refine rp ?_
    show (if decide (x.num < 0) = true then _ else _)
    rw [num_lt]
    refine ite_ct (fun g => ?_) (fun g => ?_)
    · rw [if_pos (of_decide_eq_true g)] at q
      exact q
    · have g' := of_decide_eq_false g
      unfold dNext
      refine rp ?_
      show (if decide (0 < x.num) = true then _ else _)
      rw [num_gt]
      refine ite_ct (fun g3 => ?_) (fun g3 => ?_)
      · have g3' := of_decide_eq_true g3
        refine rd (rd (rp ⟨d.pr, x, rfl, by omega, d.go, _, rfl, by omega, c, _, rfl, by omega, rest _ (by omega) ⟨fun _ => rfl, fun h => absurd g3' h⟩ g'⟩))
      · exact rest c (by omega) ⟨fun h => absurd h (of_decide_eq_false g3), fun _ => rfl⟩ g'
end K46

namespace K46
open PySem PySem.Spec PyProof.Rows L2 DL
theorem pure_law_plan_cost : PureD p_law_plan_cost S_law_plan_cost 5 2 := by
  rintro ds Q ⟨s, p, rfl, O, hp, q⟩
  refine ⟨rfl, ?_⟩
  unfold p_law_plan_cost dSeq dIfS dOr dNot dTst dCB dConsA dVarO dC dNilA
  refine rdIsi_of (d := qL p) (n := "list") (b := true) (by simp [isD, qL]) ?_
  refine ⟨rfl, rfl, ?_⟩
  show (if (!deq (.int ((p.map qD).length : Nat)) (.int ((s.map dayD).length : Nat))) = true then _ else _)
  rw [neL, List.length_map, List.length_map]
  refine ite_ct (fun h => ?_) (fun h => ?_)
  · have e : planC s p = none := if_neg (by simpa using h)
    rw [e] at q
    exact q
  · have hl : p.length = s.length := by simpa using h
    have e : planC s p = planQ s p 0 0 := if_pos hl
    rw [e] at q
    have h4 := O.1
    have z := bz0
    refine ⟨rngB_len (n := (p.map qD).length) (by rw [List.length_map]; omega), ?_⟩
    rw [show (((p.map qD).length : Int)).toNat = s.length by simp [hl], rangeD_r]
    exact lplan_loop O hp hl s.length 0 0 0 .no (by omega) (by omega) (by omega) q
end K46

namespace K46
open PySem PySem.Spec PyProof.Rows L2 DL
theorem dv_nn {a b : Int} (ha : 0 ≤ a) (hb : 0 < b) : 0 ≤ Rat.divInt a b := by
  rw [Rat.divInt_eq_div, Rat.div_def]
  exact Rat.mul_nonneg (Rat.intCast_nonneg.mpr ha) (Rat.le_of_lt (Rat.inv_pos.mpr (by have := Rat.intCast_lt_intCast.mpr hb; simpa using this)))
theorem pure_law_fraction : PureD p_law_fraction S_law_fraction 3 3 := by
  rintro ds Q ⟨m, p, rfl, hm, p1, p5, q⟩
  refine ⟨rfl, ((m : Nat) : Int) + 1, rfl, by omega, by omega, fun v v0 v1 => ⟨((p : Nat) : Int), rfl, by omega, by omega, fun u u0 u1 => ⟨v, 1 + u, rfl, by omega, small_9 (by omega), ?_⟩⟩⟩
  exact q _ (dv_nn v0 (by omega)) (bz_dv (by omega) (by omega))
/-- a pick among fractions -/
theorem pick_ok {l : List D} {P : Rat → Prop} {Q : D → Prop} (h0 : 0 < l.length) (h1 : l.length < 1000) (h : ∀ d ∈ l, ∃ x, d = qD x ∧ P x) (k : ∀ x, P x → Q (qD x)) : S_law_pick [.pool, .lst l] Q :=
  ⟨l, rfl, h0, by omega, fun d hd => by
    obtain ⟨x, rfl, hx⟩ := h d hd
    exact k x hx⟩
def Sml (x : Rat) : Prop := 0 ≤ x ∧ bz x ≤ 6
theorem scene_loop {Q : D → Prop} {b : Nat} {c1 c2 : Sl} (hb : b ≤ 6) (q : ∀ s, ScOk s → s.length ≤ b → Q (scD s)) : ∀ (n : Nat) (items : List D) (s : List Day) (x4 x5 x6 x7 x8 : Sl), items.length = n → (∀ d ∈ items, ∃ k : Nat, d = .int (k : Nat)) → s.length + n ≤ b → (∀ d ∈ s, DayOk d) →
    forL (gN 4) b_law_scene_of_2 { fnEnds Q with nx := r_law_scene_of_10 (fnEnds Q) } items [.sh .pool, c1, c2, .ow (scD s), x4, x5, x6, x7, x8]
  | 0, items, s, x4, x5, x6, x7, x8, hi, _, hn, hs => by
    have : items = [] := List.length_eq_zero_iff.mp hi
    subst this
    exact q s ⟨by omega, hs⟩ (by omega)
  | n + 1, [], _, _, _, _, _, _, hi, _, _, _ => by simp at hi
  | n + 1, d :: items, s, x4, x5, x6, x7, x8, hi, hk, hn, hs => by
    have ih := fun s' x4 x5 x6 x7 x8 => scene_loop (c1 := c1) (c2 := c2) hb q n items s' x4 x5 x6 x7 x8 (by simpa using hi) (fun e he => hk e (List.mem_cons_of_mem _ he))
    obtain ⟨k, rfl⟩ := hk d (List.mem_cons_self ..)
    simp only [forL, gN]
    generalize forL (gN 4) b_law_scene_of_2 { fnEnds Q with nx := r_law_scene_of_10 (fnEnds Q) } items = F at ih ⊢
    have fr : ∀ {m p : Nat} {R : D → Prop}, m ≤ 40 → 1 ≤ p → p ≤ 5 → (∀ x, Sml x → R (qD x)) → S_law_fraction [.pool, .int (m : Nat), .int (p : Nat)] R := fun h1 h2 h3 h => ⟨_, _, rfl, h1, h2, h3, fun x a b => h x ⟨a, b⟩⟩
    have rest : ∀ x4 : Sl, r_law_scene_of_5 { fnEnds Q with nx := F, ct := F, bk := r_law_scene_of_10 (fnEnds Q) } [.sh .pool, c1, c2, .ow (scD s), x4, x5, x6, x7, x8] := fun x4 => by
      unfold r_law_scene_of_5 r_law_scene_of_6 r_law_scene_of_7 r_law_scene_of_8 r_law_scene_of_9
      refine ⟨12, 2, rfl, by omega, by omega, by omega, fun f1 hf1 hf1b => ?_⟩
      refine ⟨_, rfl, by simp, by simp, fun d hd => ?_⟩
      have ta : ∃ x, d = qD x ∧ Sml x := by
        simp only [List.mem_cons, List.not_mem_nil, or_false] at hd
        rcases hd with rfl | rfl | rfl | rfl
        · exact ⟨0, rfl, by decide, by decide⟩
        · exact ⟨1, rfl, by decide, by decide⟩
        · exact ⟨3, rfl, by decide, by decide⟩
        · exact ⟨f1, rfl, hf1, hf1b⟩
      clear hd
      obtain ⟨a, rfl, ha⟩ := ta
      refine ⟨20, 3, rfl, by omega, by omega, by omega, fun f2 hf2 hf2b => ?_⟩
      refine ⟨_, rfl, by simp, by simp, fun d hd => ?_⟩
      have tg : ∃ x, d = qD x ∧ Sml x := by
        simp only [List.mem_cons, List.not_mem_nil, or_false] at hd
        rcases hd with rfl | rfl | rfl | rfl
        · exact ⟨0, rfl, by decide, by decide⟩
        · exact ⟨5, rfl, by decide, by decide⟩
        · exact ⟨2, rfl, by decide, by decide⟩
        · exact ⟨f2, rfl, hf2, hf2b⟩
      clear hd
      obtain ⟨g, rfl, hg⟩ := tg
      refine ⟨9, 3, rfl, by omega, by omega, by omega, fun f3 hf3 hf3b => ?_⟩
      refine ⟨_, rfl, by simp, by simp, fun d hd => ?_⟩
      have tp : ∃ x, d = qD x ∧ Sml x := by
        simp only [List.mem_cons, List.not_mem_nil, or_false] at hd
        rcases hd with rfl | rfl | rfl
        · exact ⟨1, rfl, by decide, by decide⟩
        · exact ⟨2, rfl, by decide, by decide⟩
        · exact ⟨f3, rfl, hf3, hf3b⟩
      clear hd
      obtain ⟨p, rfl, hp⟩ := tp
      refine ⟨3, 4, rfl, by omega, by omega, by omega, fun f4 hf4 hf4b => ?_⟩
      refine ⟨_, rfl, by simp, by simp, fun d hd => ?_⟩
      have te : ∃ x, d = qD x ∧ Sml x := by
        simp only [List.mem_cons, List.not_mem_nil, or_false] at hd
        rcases hd with rfl | rfl | rfl | rfl
        · exact ⟨0, rfl, by decide, by decide⟩
        · exact ⟨⟨1, 2, by decide, by decide⟩, rfl, by decide, by decide⟩
        · exact ⟨1, rfl, by decide, by decide⟩
        · exact ⟨f4, rfl, hf4, hf4b⟩
      clear hd
      obtain ⟨e, rfl, he⟩ := te
      refine ⟨by rw [List.length_map]; simp only [sizeLine]; omega, ?_⟩
      have h1 := ih (s ++ [⟨a, g, p, e⟩]) x4 (.sh (qD a)) (.sh (qD g)) (.sh (qD p)) (.sh (qD e)) (by simp; omega) (fun d hd => by
        rcases List.mem_append.mp hd with hd | hd
        · exact hs d hd
        · rw [List.mem_singleton.mp hd]
          exact ⟨ha.1, hg.1, hp.1, he.1, ha.2, hg.2, hp.2, he.2⟩)
      simp only [scD, List.map_append, List.map_cons, List.map_nil] at h1
      exact h1
    unfold b_law_scene_of_2
    generalize r_law_scene_of_5 = R at rest ⊢
    refine ⟨by decide, rfl, rfl, ite_ct (fun _ => ?_) (fun _ => rest _)⟩
    exact ⟨rfl, rest _⟩
theorem pure_law_scene_of : PureD p_law_scene_of S_law_scene_of 9 3 := by
  rintro ds Q ⟨a, b, rfl, hab, hb, q⟩
  refine ⟨rfl, ((b : Nat) : Int) - ((a : Nat) : Int) + 1, rfl, by omega, by omega, fun v v0 v1 => ⟨⟨by omega, by omega⟩, ?_⟩⟩
  refine scene_loop hb q (((a : Nat) : Int) + v).toNat _ [] _ _ _ _ _ (by simp [rangeD]) (fun d hd => ?_) (by simp; omega) (fun _ h => nomatch h)
  obtain ⟨i, _, e⟩ := mem_rangeD hd
  exact ⟨i, e⟩
end K46

namespace K46
open PySem PySem.Spec PyProof.Rows L2 DL
def optBN : Option (Rat × Nat) → D
  | none => .non
  | some (x, b) => .tup [qD x, .int (b : Nat)]
theorem best_loop {DD : DEnds} {s : List Day} {d : Nat} {c1 c2 c3 : Sl} (O : ScOk s) (hd : d < s.length) : ∀ (r : List Nat) (best : Option (Rat × Nat)) (z6 z7 : Sl), (∀ x b, best = some (x, b) → bz x ≤ 42) →
    (∀ z6 z7, DD.nx [.sh (scD s), c1, c2, c3, .sh (.int (d : Nat)), .sh (optBN (bestU s d best r)), z6, z7]) →
    forL (gN 6) b_law_cost_with_6 DD (r.map fun k => D.int (k : Nat)) [.sh (scD s), c1, c2, c3, .sh (.int (d : Nat)), .sh (optBN best), z6, z7]
  | [], best, z6, z7, _, q => q z6 z7
  | b :: r, best, z6, z7, hb, q => by
    have h6 := O.1
    have ih := fun best z6 z7 => best_loop (DD := DD) (c1 := c1) (c2 := c2) (c3 := c3) O hd r best z6 z7
    simp only [List.map_cons, forL, gN]
    generalize forL (gN 6) b_law_cost_with_6 DD (r.map fun k => D.int (k : Nat)) = F at ih ⊢
    unfold bestU at q
    unfold b_law_cost_with_6 r_law_cost_with_9
    refine ite_ct (fun g => ?_) (fun g => ?_)
    · have g' : b ≤ d := by
        have : (b : Int) ≤ (d : Int) := of_decide_eq_true g
        omega
      rw [if_pos g'] at q
      have b1 := bz_unit O (b := b) (d - b) (by omega) (by omega)
      refine ⟨s, b, d - b, ?_, O, by omega, by omega, ?_⟩
      · rw [show b + (d - b) = d by omega]
      cases best with
      | none => exact ih (some (unitN s b (d - b), b)) _ _ (fun x c e => by cases e; omega) q
      | some v =>
        obtain ⟨x, c⟩ := v
        have hx := hb x c rfl
        refine ⟨unitN s b (d - b), x, rfl, by omega, ite_ct (fun g2 => ?_) (fun g2 => ?_)⟩
        · simp only [] at q
          rw [if_pos (of_decide_eq_true g2)] at q
          exact ih (some (unitN s b (d - b), b)) _ _ (fun x c e => by cases e; omega) q
        · simp only [] at q
          rw [if_neg (of_decide_eq_false g2)] at q
          exact ih (some (x, c)) _ _ (fun y e h => by cases h; exact hx) q
    · have g' : ¬ b ≤ d := by
        have : ¬ (b : Int) ≤ (d : Int) := of_decide_eq_false g
        omega
      rw [if_neg g'] at q
      exact ih best _ _ hb q
theorem costN_none {s : List Day} {C : List Nat} {i : Nat} (h : costN s C i = none) : ∀ j, costN s C (i + j) = none
  | 0 => h
  | j + 1 => by
    show costN s C (i + j + 1) = none
    unfold costN
    rw [costN_none h j]
theorem bestU_of {s : List Day} {d : Nat} {P : Rat → Nat → Prop} : ∀ (r : List Nat) (best : Option (Rat × Nat)), (∀ x b, best = some (x, b) → P x b) → (∀ b ∈ r, b ≤ d → P (unitN s b (d - b)) b) → ∀ x b, bestU s d best r = some (x, b) → P x b
  | [], best, h, _ => h
  | k :: r, best, h, hr => by
    intro x b e
    unfold bestU at e
    have hr' := fun b hb => hr b (List.mem_cons_of_mem _ hb)
    have hk := hr k (List.mem_cons_self ..)
    by_cases g : k ≤ d
    · rw [if_pos g] at e
      cases best with
      | none => exact bestU_of r _ (fun x b e => by cases e; exact hk g) hr' x b e
      | some v =>
        obtain ⟨y, c⟩ := v
        simp only [] at e
        split at e
        · exact bestU_of r _ (fun x b e => by cases e; exact hk g) hr' x b e
        · exact bestU_of r _ h hr' x b e
    · rw [if_neg g] at e
      exact bestU_of r best h hr' x b e
theorem bestU_ok {s : List Day} (O : ScOk s) {d : Nat} (hd : d < s.length) {r : List Nat} {x : Rat} {b : Nat} (e : bestU s d none r = some (x, b)) : b ≤ d ∧ bz x ≤ 42 := by
  have h6 := O.1
  refine bestU_of (P := fun x b => b ≤ d ∧ bz x ≤ 42) r none (fun x b e => by cases e) (fun b _ h => ⟨h, ?_⟩) x b e
  have := bz_unit O (b := b) (d - b) (by omega) (by omega)
  omega
theorem notin_int (u : List Nat) (b : Nat) : ((u.map fun k => D.int (k : Nat)).any fun z => deq z (.int (b : Nat))) = decide (b ∈ u) := by
  rw [Bool.eq_iff_iff, List.any_eq_true, decide_eq_true_iff]
  constructor
  · rintro ⟨z, hz, e⟩
    obtain ⟨k, hk, rfl⟩ := List.mem_map.mp hz
    have : ((k : Nat) : Int) = (b : Nat) := by simpa [deq] using e
    have : k = b := by omega
    rw [← this]; exact hk
  · intro h
    exact ⟨_, List.mem_map_of_mem h, by simp [deq]⟩
end K46

namespace K46
open PySem PySem.Spec PyProof.Rows L2 DL
theorem cost_loop {Q : D → Prop} {s : List Day} {c : List Nat} (O : ScOk s) (q : Q (optQ ((costN s c s.length).map (·.1)))) : ∀ (j i : Nat) (t : Rat) (u : List Nat) (z4 z5 z6 z7 : Sl), i + j = s.length → costN s c i = some (t, u) → bz t ≤ 1 + 60 * i → u.length ≤ i → (∀ k ∈ u, k < s.length) →
    forL (gN 4) b_law_cost_with_3 { fnEnds Q with nx := r_law_cost_with_17 (fnEnds Q) } ((List.range' i j).map fun k => .int (0 + (k : Nat))) [.sh (scD s), .sh (intL c), .sh (qD t), .ow (intL u), z4, z5, z6, z7]
  | 0, i, t, u, z4, z5, z6, z7, hi, hc, _, _, _ => by
    have : i = s.length := by omega
    subst this
    rw [hc] at q
    exact q
  | j + 1, i, t, u, z4, z5, z6, z7, hi, hc, hb, hu, hk => by
    have h6 := O.1
    have hi' : i < s.length := by omega
    have ok := dy_ok O hi'
    have ab := ok.ab
    rw [List.range'_succ, List.map_cons, Int.zero_add]
    have ih := fun t u z4 z5 z6 z7 h1 h2 h3 h4 => cost_loop (Q := Q) O q j (i + 1) t u z4 z5 z6 z7 (by omega) h1 h2 h3 h4
    simp only [forL, gN]
    generalize forL (gN 4) b_law_cost_with_3 { fnEnds Q with nx := r_law_cost_with_17 (fnEnds Q) } ((List.range' (i + 1) j).map fun k => .int (0 + (k : Nat))) = F at ih ⊢
    have step : costN s c (i + 1) = if 0 < (dy s i).am then (match bestU s i none c with
        | none => none
        | some (x, b) => if b ∈ u then some (t + x * (dy s i).am, u) else some (t + x * (dy s i).am + (dy s b).go, u ++ [b]))
      else some (t, u) := by
      conv => lhs; unfold costN
      rw [hc]
      try rfl
    have rest : ∀ z6 z7, 0 < (dy s i).am → r_law_cost_with_11 { fnEnds Q with nx := F, ct := F, bk := r_law_cost_with_17 (fnEnds Q) } [.sh (scD s), .sh (intL c), .sh (qD t), .ow (intL u), .sh (.int (i : Nat)), .sh (optBN (bestU s i none c)), z6, z7] := fun z6 z7 ha => by
      rw [if_pos ha] at step
      unfold r_law_cost_with_11 r_law_cost_with_13 r_law_cost_with_14 r_law_cost_with_16
      cases eb : bestU s i none c with
      | none =>
        rw [eb] at step
        have := costN_none (s := s) (C := c) step (s.length - (i + 1))
        rw [show i + 1 + (s.length - (i + 1)) = s.length by omega] at this
        rw [this] at q
        exact q
      | some v =>
        obtain ⟨x, b⟩ := v
        rw [eb] at step
        simp only [] at step
        obtain ⟨b1, b2⟩ := bestU_ok O hi' eb
        have hb' : b < s.length := by omega
        have gb := (dy_ok O hb').gb
        have a1 := bz_mul x (dy s i).am
        have a2 := bz_add t (x * (dy s i).am)
        have a3 := bz_add (t + x * (dy s i).am) (dy s b).go
        unfold dSeq dIfS dTst dAsg dCall dConsA dOp dVarO dVar
        refine rdIx_day hi' ?_
        refine ⟨x, (dy s i).am, rfl, by omega, t, _, rfl, by omega, ?_⟩
        refine ⟨rfl, fun z hz => ?_, ?_⟩
        · obtain ⟨k, _, rfl⟩ := List.mem_map.mp hz
          rfl
        show (if (!((u.map fun k => D.int (k : Nat)).any fun z => deq z (.int (b : Nat)))) = true then _ else _)
        rw [notin_int]
        refine ite_ct (fun g => ?_) (fun g => ?_)
        · have g' : b ∉ u := by simpa using g
          rw [if_neg g'] at step
          refine ⟨by rw [List.length_map]; simp only [sizeLine]; omega, ?_⟩
          refine rdIx_day hb' ?_
          refine ⟨_, (dy s b).go, rfl, by omega, ?_⟩
          have h1 := ih _ _ (.sh (.int (i : Nat))) (.sh (optBN (some (x, b)))) z6 z7 step (by omega) (by simp; omega) (fun k hk' => by
            rcases List.mem_append.mp hk' with h | h
            · exact hk k h
            · rw [List.mem_singleton.mp h]; exact hb')
          simp only [intL, List.map_append, List.map_cons, List.map_nil] at h1
          exact h1
        · have g' : b ∈ u := by simpa using g
          rw [if_pos g'] at step
          exact ih _ _ _ _ _ _ step (by omega) (by omega) hk
    unfold b_law_cost_with_3 r_law_cost_with_6
    generalize r_law_cost_with_11 = R at rest ⊢
    unfold dIfS dTst dOp dVarO
    refine rdIx_day hi' ?_
    show (if decide (0 < (dy s i).am.num) = true then _ else _)
    rw [num_gt]
    refine ite_ct (fun g => ?_) (fun g => ?_)
    · have g' := of_decide_eq_true g
      exact best_loop (s := s) (d := i) O hi' c none _ _ (fun x b e => by cases e) (fun z6 z7 => rest z6 z7 g')
    · rw [if_neg (of_decide_eq_false g)] at step
      exact ih _ _ _ _ _ _ step (by omega) (by omega) hk
theorem pure_law_cost_with : PureD p_law_cost_with S_law_cost_with 8 2 := by
  rintro ds Q ⟨s, c, rfl, O, q⟩
  have h6 := O.1
  refine ⟨rfl, rngB_len (n := (s.map dayD).length) (by rw [List.length_map]; omega), ?_⟩
  rw [show (((s.map dayD).length : Int)).toNat = s.length by simp, rangeD_r]
  refine cost_loop O ?_ s.length 0 0 [] _ _ _ _ (by omega) rfl (by decide) (by simp) (fun k h => nomatch h)
  exact q
end K46

namespace K46
open PySem PySem.Spec PyProof.Rows L2 DL
theorem subs_len : ∀ n, (subs n).length = 2 ^ n
  | 0 => rfl
  | n + 1 => by
    unfold subs
    rw [List.length_append, List.length_map, subs_len n, Nat.pow_succ]
    omega
theorem bz_cost {s : List Day} (O : ScOk s) (c : List Nat) : ∀ (i : Nat) (t : Rat) (u : List Nat), i ≤ s.length → costN s c i = some (t, u) → bz t ≤ 1 + 60 * i
  | 0, t, u, _, e => by
    cases e
    exact bz0
  | i + 1, t, u, hi, e => by
    have h6 := O.1
    unfold costN at e
    cases ec : costN s c i with
    | none => rw [ec] at e; cases e
    | some v =>
      obtain ⟨t0, u0⟩ := v
      have ih := bz_cost O c i t0 u0 (by omega) ec
      rw [ec] at e
      simp only [] at e
      have ok := (dy_ok O (k := i) (by omega)).ab
      split at e
      · cases eb : bestU s i none c with
        | none => rw [eb] at e; cases e
        | some v =>
          obtain ⟨x, b⟩ := v
          obtain ⟨b1, b2⟩ := bestU_ok O (by omega) eb
          have gb := (dy_ok O (k := b) (by omega)).gb
          have a1 := bz_mul x (dy s i).am
          have a2 := bz_add t0 (x * (dy s i).am)
          have a3 := bz_add (t0 + x * (dy s i).am) (dy s b).go
          rw [eb] at e
          simp only [] at e
          split at e
          · cases e; omega
          · cases e; omega
      · cases e; omega
theorem bz_costW {s : List Day} (O : ScOk s) {c : List Nat} {x : Rat} (e : costW s c = some x) : bz x ≤ 400 := by
  have h6 := O.1
  unfold costW at e
  cases ec : costN s c s.length with
  | none => rw [ec] at e; cases e
  | some v =>
    obtain ⟨t, u⟩ := v
    rw [ec] at e
    cases e
    have := bz_cost O c s.length t u (Nat.le_refl _) ec
    show bz t ≤ 400
    omega
theorem least_loop {Q : D → Prop} {s : List Day} {c1 c2 : Sl} (O : ScOk s) : ∀ (l : List (List Nat)) (best : Option Rat) (z4 z5 : Sl), (∀ x, best = some x → bz x ≤ 400) → Q (optQ (leastO best (l.map (costW s)))) →
    forL (gN 4) b_law_cheapest_5 { fnEnds Q with nx := r_law_cheapest_9 (fnEnds Q) } (l.map intL) [.sh (scD s), c1, c2, .sh (optQ best), z4, z5]
  | [], best, z4, z5, _, q => q
  | c :: l, best, z4, z5, hb, q => by
    have ih := fun best z4 z5 => least_loop (Q := Q) (c1 := c1) (c2 := c2) O l best z4 z5
    simp only [List.map_cons, forL, gN]
    generalize forL (gN 4) b_law_cheapest_5 { fnEnds Q with nx := r_law_cheapest_9 (fnEnds Q) } (l.map intL) = F at ih ⊢
    rw [List.map_cons] at q
    unfold b_law_cheapest_5 r_law_cheapest_7
    refine ⟨s, c, rfl, O, ?_⟩
    cases ec : costW s c with
    | none =>
      rw [ec] at q
      exact ih best _ _ hb q
    | some x =>
      have bx := bz_costW O ec
      rw [ec] at q
      unfold leastO at q
      cases best with
      | none => exact ih (some x) _ _ (fun y e => by cases e; exact bx) q
      | some y =>
        have by' := hb y rfl
        refine ⟨x, y, rfl, by omega, ite_ct (fun g => ?_) (fun g => ?_)⟩
        · simp only [] at q
          rw [if_pos (of_decide_eq_true g)] at q
          exact ih (some x) _ _ (fun y e => by cases e; exact bx) q
        · simp only [] at q
          rw [if_neg (of_decide_eq_false g)] at q
          exact ih (some y) _ _ (fun z e => by cases e; exact by') q
theorem subs_el : ∀ (n : Nat) (c : List Nat), c ∈ subs n → c.length ≤ n
  | 0, c, h => by
    rw [List.mem_singleton.mp h]; simp
  | n + 1, c, h => by
    unfold subs at h
    rcases List.mem_append.mp h with h | h
    · have := subs_el n c h; omega
    · obtain ⟨e, he, rfl⟩ := List.mem_map.mp h
      have := subs_el n e he
      simp; omega
theorem subs_loop {Q : D → Prop} {s : List Day} {c3 c5 : Sl} (O : ScOk s) (q : ∀ z2 z4, r_law_cheapest_4 (fnEnds Q) [.sh (scD s), .sh (.lst ((subs s.length).map intL)), z2, c3, z4, c5]) : ∀ (j i : Nat) (z2 z4 : Sl), i + j = s.length →
    forL (gN 2) b_law_cheapest_2 { fnEnds Q with nx := r_law_cheapest_4 (fnEnds Q) } ((List.range' i j).map fun k => .int (0 + (k : Nat))) [.sh (scD s), .sh (.lst ((subs i).map intL)), z2, c3, z4, c5]
  | 0, i, z2, z4, hi => by
    have : i = s.length := by omega
    subst this
    exact q z2 z4
  | j + 1, i, z2, z4, hi => by
    have h6 := O.1
    have hp : 2 ^ i ≤ 64 := Nat.le_trans (Nat.pow_le_pow_right (i := i) (j := 6) (by decide) (by omega)) (by decide)
    rw [List.range'_succ, List.map_cons, Int.zero_add]
    have ih := fun z2 z4 => subs_loop (Q := Q) O q j (i + 1) z2 z4 (by omega)
    simp only [forL, gN]
    generalize forL (gN 2) b_law_cheapest_2 { fnEnds Q with nx := r_law_cheapest_4 (fnEnds Q) } ((List.range' (i + 1) j).map fun k => .int (0 + (k : Nat))) = F at ih ⊢
    unfold b_law_cheapest_2
    refine ⟨size_le (by rw [List.length_map, subs_len]; omega), ?_⟩
    refine lcL_of (h := intL) (f := fun c => intL (c ++ [i])) (subs i) (fun c hc N M k => ?_) _ ?_
    · have := subs_el i c hc
      refine ⟨size_le (by rw [List.length_map]; simp only [List.length_singleton]; omega), ?_⟩
      simp only [intL, List.map_append, List.map_cons, List.map_nil] at k
      exact k
    · refine ⟨size_le (by rw [List.length_map, List.length_map, subs_len]; omega), ?_⟩
      have e : (subs i).map intL ++ (subs i).map (fun c => intL (c ++ [i])) = (subs (i + 1)).map intL := by
        show _ = ((subs i) ++ (subs i).map fun c => c ++ [i]).map intL
        rw [List.map_append, List.map_map]
        rfl
      rw [e]
      exact ih _ _
theorem pure_law_cheapest : PureD p_law_cheapest S_law_cheapest 6 1 := by
  rintro ds Q ⟨s, rfl, O, q⟩
  have h6 := O.1
  refine ⟨rfl, rngB_len (n := (s.map dayD).length) (by rw [List.length_map]; omega), ?_⟩
  rw [show (((s.map dayD).length : Int)).toNat = s.length by simp, rangeD_r]
  refine subs_loop O (fun z2 z4 => ?_) s.length 0 .no .no (by omega)
  exact least_loop O (subs s.length) none z4 .no (fun x e => by cases e) q
end K46

namespace K46
open PySem PySem.Spec PyProof.Rows L2 DL
theorem lcL_filter {α : Type} {h f : α → D} {t : α → Bool} {g : DG} {vs : List Nat} {c : DT} {p : DX} {E : List Sl} : ∀ (l : List α), (∀ x ∈ l, ∀ (N : D → Prop) (M : Prop), (t x = true → N (f x)) → (t x = false → M) → g (h x) (wipeD E vs) fun E' => c E' fun b => if b = true then p E' N else M) → ∀ (Q : List D → Prop), Q ((l.filter t).map f) → lcL g vs c p (l.map h) E Q
  | [], _, Q, k => k
  | x :: l, hb, Q, k => by
    have hb' := fun y hy => hb y (List.mem_cons_of_mem x hy)
    refine hb x (List.mem_cons_self ..) _ _ (fun e => ?_) (fun e => ?_)
    · rw [List.filter_cons_of_pos e] at k
      exact lcL_filter l hb' (fun ys => Q (f x :: ys)) k
    · rw [List.filter_cons_of_neg (by rw [e]; exact Bool.false_ne_true)] at k
      exact lcL_filter l hb' Q k
def sumA (s : List Day) (l : List Nat) : Rat := (l.map fun d => (dy s d).am).sum
theorem tot_loop {DD : DEnds} {s : List Day} {c1 c2 c3 c4 : Sl} (O : ScOk s) : ∀ (l : List Nat) (t : Rat) (z : Sl), (∀ k ∈ l, k < s.length) → bz t + 6 * l.length ≤ 400 → (∀ z, DD.nx [.sh (scD s), c1, c2, c3, c4, .sh (qD (t + sumA s l)), z]) →
    forL (gN 6) b_law_in_blocks_5 DD (l.map fun k => D.int (k : Nat)) [.sh (scD s), c1, c2, c3, c4, .sh (qD t), z]
  | [], t, z, _, _, q => by
    have := q z
    rw [show sumA s [] = 0 from rfl, Rat.add_zero] at this
    exact this
  | k :: l, t, z, hk, hb, q => by
    have hk' := hk k (List.mem_cons_self ..)
    have ab := (dy_ok O hk').ab
    have a1 := bz_add t (dy s k).am
    rw [List.length_cons] at hb
    have ih := fun t z => tot_loop (DD := DD) (c1 := c1) (c2 := c2) (c3 := c3) (c4 := c4) O l t z (fun e he => hk e (List.mem_cons_of_mem _ he))
    simp only [List.map_cons, forL, gN]
    generalize forL (gN 6) b_law_in_blocks_5 DD (l.map fun k => D.int (k : Nat)) = F at ih ⊢
    unfold b_law_in_blocks_5 dAsg dCall dConsA dOp dVarO dVar
    refine rdIx_day hk' ?_
    refine ⟨t, (dy s k).am, rfl, by omega, ?_⟩
    refine ih _ _ (by omega) fun z => ?_
    have := q z
    rw [show sumA s (k :: l) = (dy s k).am + sumA s l by unfold sumA; rw [List.map_cons, List.sum_cons], ← Rat.add_assoc] at this
    exact this
def lastN (s : List Day) (days : List Nat) (k : Nat) : Nat := if k + 1 < days.length then days.getD (k + 1) 0 else s.length
def blkB (s : List Day) (p : List Rat) (days : List Nat) (k : Nat) : Bool := decide (sumA s (List.range' (days.getD k 0) (lastN s days k - days.getD k 0)) = p.getD (days.getD k 0) 0)
theorem rdIx_int {c : List Nat} {k : Nat} {R : D → Prop} (h : k < c.length) (q : R (.int ((c.getD k 0 : Nat) : Int))) : rdIx (intL c) (.int (k : Nat)) R := by
  have e : c[k]? = some (c.getD k 0) := by rw [List.getD_eq_getElem?_getD, List.getElem?_eq_getElem h]; rfl
  exact rdIx_map e q
theorem rng_nat (a n : Nat) : rangeD ((a : Nat) : Int) n = (List.range' a n).map fun k => D.int (k : Nat) := by
  rw [rangeD, List.range'_eq_map_range, List.map_map]
  refine List.map_congr_left fun i _ => ?_
  show D.int _ = D.int _
  congr 1
theorem blocks_loop {Q : D → Prop} {s : List Day} {p : List Rat} {days : List Nat} (O : ScOk s) (hp : p.length = s.length) (hpl : PlOk p) (hd : ∀ k ∈ days, k < s.length) (hl : days.length ≤ s.length) : ∀ (j i : Nat) (z3 z4 z5 z6 : Sl), i + j = days.length → Q (.bl ((List.range' i j).all (blkB s p days))) →
    forL (gN 3) b_law_in_blocks_2 { fnEnds Q with nx := r_law_in_blocks_9 (fnEnds Q) } ((List.range' i j).map fun k => .int (0 + (k : Nat))) [.sh (scD s), .sh (qL p), .sh (intL days), z3, z4, z5, z6]
  | 0, i, z3, z4, z5, z6, hi, q => q
  | j + 1, i, z3, z4, z5, z6, hi, q => by
    have h6 := O.1
    have hi' : i < days.length := by omega
    have hday : days.getD i 0 < s.length := by
      rw [List.getD_eq_getElem?_getD, List.getElem?_eq_getElem hi']
      exact hd _ (List.getElem_mem hi')
    rw [List.range'_succ, List.all_cons] at q
    rw [List.range'_succ, List.map_cons, Int.zero_add]
    have ih := fun z3 z4 z5 z6 => blocks_loop (Q := Q) O hp hpl hd hl j (i + 1) z3 z4 z5 z6 (by omega)
    simp only [forL, gN]
    generalize forL (gN 3) b_law_in_blocks_2 { fnEnds Q with nx := r_law_in_blocks_9 (fnEnds Q) } ((List.range' (i + 1) j).map fun k => .int (0 + (k : Nat))) = F at ih ⊢
    have hlast : lastN s days i ≤ s.length := by
      unfold lastN
      split
      · rename_i h
        rw [List.getD_eq_getElem?_getD, List.getElem?_eq_getElem h]
        exact Nat.le_of_lt (hd _ (List.getElem_mem h))
      · exact Nat.le_refl _
    have gp : p[days.getD i 0]? = some (p.getD (days.getD i 0) 0) := by
      rw [List.getD_eq_getElem?_getD (l := p), List.getElem?_eq_getElem (by omega)]; rfl
    have rest : ∀ z5 z6, r_law_in_blocks_4 { fnEnds Q with nx := F, ct := F, bk := r_law_in_blocks_9 (fnEnds Q) } [.sh (scD s), .sh (qL p), .sh (intL days), .sh (.int (i : Nat)), .sh (.int ((lastN s days i : Nat) : Int)), z5, z6] := fun z5 z6 => by
      unfold r_law_in_blocks_4 r_law_in_blocks_5 dSeq dAsg dFor dRng dConsA dOp dVarO dVar
      refine rdIx_int hi' ?_
      refine ⟨⟨by omega, by omega⟩, ⟨by omega, by omega⟩, ?_⟩
      rw [show (((lastN s days i : Nat) : Int) - ((days.getD i 0 : Nat) : Int)).toNat = lastN s days i - days.getD i 0 by omega, rng_nat]
      refine tot_loop (c4 := .sh (.int ((lastN s days i : Nat) : Int))) O _ 0 _ (fun k hk => ?_) (by have := bz0; simp; omega) fun z => ?_
      · have := List.mem_range'_1.mp hk
        omega
      unfold r_law_in_blocks_7 dIfS dTst dOp dVarO
      rw [Rat.zero_add]
      refine rdIx_int hi' ?_
      refine rdIx_map (f := qD) gp ?_
      refine ⟨okD_qd _ _, okD_qd _ _, ?_⟩
      rw [deq_qd]
      refine ite_ct (fun g => ?_) (fun g => ?_)
      · have g' : blkB s p days i = false := by unfold blkB; simpa using g
        rw [g', Bool.false_and] at q
        exact q
      · have g' : blkB s p days i = true := by unfold blkB; simpa using g
        rw [g', Bool.true_and] at q
        exact ih _ _ _ _ q
    unfold b_law_in_blocks_2
    generalize r_law_in_blocks_4 = R at rest ⊢
    have el : (intL days) = .lst (days.map fun k => D.int (k : Nat)) := rfl
    refine ite_ct (fun g => ?_) (fun g => ?_)
    · have g' : i + 1 < days.length := by
        have h : ((i : Nat) : Int) + 1 < (((days.map fun k => D.int (k : Nat)).length : Nat) : Int) := of_decide_eq_true g
        rw [List.length_map] at h
        omega
      have e1 : lastN s days i = days.getD (i + 1) 0 := if_pos g'
      rw [e1] at rest
      exact rdIx_int (k := i + 1) g' (rest _ _)
    · have g' : ¬ i + 1 < days.length := fun h' => by
        have h : ¬ ((i : Nat) : Int) + 1 < (((days.map fun k => D.int (k : Nat)).length : Nat) : Int) := of_decide_eq_false g
        rw [List.length_map] at h
        omega
      have e1 : lastN s days i = s.length := if_neg g'
      have e2 : (s.map dayD).length = s.length := List.length_map ..
      rw [e1, ← e2] at rest
      exact rest _ _
theorem pure_law_in_blocks : PureD p_law_in_blocks S_law_in_blocks 7 2 := by
  rintro ds Q ⟨s, p, rfl, O, hp, hpl, q⟩
  have h6 := O.1
  refine ⟨rfl, rngB_len (n := (p.map qD).length) (by rw [List.length_map]; omega), ?_⟩
  rw [show (((p.map qD).length : Int)).toNat = p.length by simp]
  refine ⟨size_le (by simp [rangeD]; omega), ?_⟩
  refine lcL_filter (h := fun k : Nat => .int (0 + (k : Nat))) (f := fun k => .int (k : Nat)) (t := fun k => decide (0 < p.getD k 0)) (List.range p.length) (fun k hk N M k1 k2 => ?_) _ ?_
  · have hk' : k < p.length := List.mem_range.mp hk
    have gp : p[k]? = some (p.getD k 0) := by rw [List.getD_eq_getElem?_getD, List.getElem?_eq_getElem hk']; rfl
    rw [Int.zero_add]
    unfold gN dTst dOp dVarO dVar
    refine rdIx_map (f := qD) gp ?_
    show (if decide (0 < (p.getD k 0).num) = true then _ else _)
    rw [num_gt]
    exact ite_ct (fun g => k1 g) (fun g => k2 g)
  have hl : (posD p).length ≤ s.length := by
    have := List.length_filter_le (fun k => decide (0 < p.getD k 0)) (List.range p.length)
    unfold posD
    rw [List.length_range] at this
    omega
  have hd : ∀ k ∈ posD p, k < s.length := fun k hk => by
    have := List.mem_range.mp (List.mem_filter.mp hk).1
    omega
  refine ⟨rngB_len (n := ((posD p).map fun k => D.int (k : Nat)).length) (by rw [List.length_map]; omega), ?_⟩
  have e : ((((posD p).map fun k => D.int (k : Nat)).length : Int)).toNat = (posD p).length := by simp
  show forL (gN 3) b_law_in_blocks_2 _ (rangeD 0 ((((posD p).map fun k => D.int (k : Nat)).length : Int)).toNat) _
  rw [e, rangeD_r]
  refine blocks_loop O hp hpl hd hl (posD p).length 0 _ _ _ _ (by omega) ?_
  rw [← List.range_eq_range']
  exact q
end K46

namespace K46
open PySem PySem.Spec PyProof.Rows L2 DL
def fJ (s : List Day) (j : Nat) (i : Nat) : Rat := ((tabL s j).getD i (0, 0)).1 + blockQ s i (j + 1 - i)
theorem tabL_len (s : List Day) : ∀ j, (tabL s j).length = j + 1
  | 0 => rfl
  | j + 1 => by unfold tabL; rw [List.length_append, tabL_len s j]; rfl
theorem minF_at {f : Nat → Rat} : ∀ n, n ≠ 0 → ∃ x i, minF f n = some (x, i) ∧ i < n ∧ x = f i
  | 0, h => absurd rfl h
  | n + 1, _ => by
    unfold minF
    by_cases h : n = 0
    · subst h
      exact ⟨_, _, rfl, by omega, rfl⟩
    · obtain ⟨x, i, e, h1, h2⟩ := minF_at (f := f) n h
      rw [e]
      simp only []
      by_cases g : f n < x
      · exact ⟨_, _, if_pos g, by omega, rfl⟩
      · exact ⟨_, _, if_neg g, by omega, h2⟩
theorem bz_block {s : List Day} (O : ScOk s) {b n : Nat} (h : b + n ≤ s.length) (hn : 1 ≤ n) : bz (blockQ s b n) ≤ 331 := by
  have h6 := O.1
  unfold blockQ
  split
  · have := bz0; omega
  · have h1 := bz_blk O (b := b) n h
    have h2 := (dy_ok O (k := b) (by omega)).gb
    have := bz_add (blkN s b n) (dy s b).go
    omega
theorem bz_tab {s : List Day} (O : ScOk s) : ∀ j, j ≤ s.length → ∀ i, i ≤ j → bz ((tabL s j).getD i (0, 0)).1 ≤ 1 + 340 * i
  | 0, _, i, hi => by
    have : i = 0 := by omega
    subst this
    exact bz0
  | j + 1, hj, i, hi => by
    have ih := bz_tab O j (by omega)
    unfold tabL
    rcases Nat.lt_or_ge i (j + 1) with c | c
    · rw [List.getD_eq_getElem?_getD, List.getElem?_append_left (by rw [tabL_len]; exact c), ← List.getD_eq_getElem?_getD]
      exact ih i (by omega)
    · have e : i = j + 1 := by omega
      subst e
      rw [List.getD_eq_getElem?_getD, List.getElem?_append_right (by rw [tabL_len]; exact Nat.le_refl _), tabL_len, Nat.sub_self]
      obtain ⟨x, k, e, h1, h2⟩ := minF_at (f := fJ s j) (j + 1) (by omega)
      have e' : minF (fun i => ((tabL s j).getD i (0, 0)).1 + blockQ s i (j + 1 - i)) (j + 1) = some (x, k) := e
      rw [e']
      show bz x ≤ _
      rw [h2]
      unfold fJ
      have a1 := ih k (by omega)
      have a2 := bz_block O (b := k) (n := j + 1 - k) (by omega) (by omega)
      have := bz_add ((tabL s j).getD k (0, 0)).1 (blockQ s k (j + 1 - k))
      omega
def tabD (s : List Day) (j : Nat) : D := .lst ((tabL s j).map fun x => qD x.1)
def fstD (s : List Day) (j : Nat) : D := .lst ((tabL s j).map fun x => D.int (x.2 : Nat))
theorem inner_loop {DD : DEnds} {s : List Day} {j : Nat} {c2 c4 : Sl} (O : ScOk s) (hj : j < s.length) (q : ∀ z6 z8, DD.nx [.sh (scD s), .ow (tabD s j), c2, .sh (.int ((j + 1 : Nat) : Int)), c4, .sh (optBN (minF (fJ s j) (j + 1))), z6, .no, z8]) : ∀ (m i : Nat) (z6 z8 : Sl), i + m = j + 1 →
    forL (gN 6) b_best_plan_5 DD ((List.range' i m).map fun k => .int (0 + (k : Nat))) [.sh (scD s), .ow (tabD s j), c2, .sh (.int ((j + 1 : Nat) : Int)), c4, .sh (optBN (minF (fJ s j) i)), z6, .no, z8]
  | 0, i, z6, z8, hi => by
    have : i = j + 1 := by omega
    subst this
    exact q z6 z8
  | m + 1, i, z6, z8, hi => by
    have h6 := O.1
    rw [List.range'_succ, List.map_cons, Int.zero_add]
    have ih := fun z6 z8 => inner_loop (DD := DD) (c2 := c2) (c4 := c4) O hj q m (i + 1) z6 z8 (by omega)
    simp only [forL, gN]
    generalize forL (gN 6) b_best_plan_5 DD ((List.range' (i + 1) m).map fun k => .int (0 + (k : Nat))) = F at ih ⊢
    have gi : (tabL s j)[i]? = some ((tabL s j).getD i (0, 0)) := by
      rw [List.getD_eq_getElem?_getD, List.getElem?_eq_getElem (by rw [tabL_len]; omega)]; rfl
    have a1 := bz_tab O j (by omega) i (by omega)
    have a2 := bz_block O (b := i) (n := j + 1 - i) (by omega) (by omega)
    have a3 := bz_add ((tabL s j).getD i (0, 0)).1 (blockQ s i (j + 1 - i))
    unfold b_best_plan_5 r_best_plan_7 dSeq dAsg dCall dConsA dOp dVarO dVar
    refine rdIx_map (f := fun x : Rat × Nat => qD x.1) gi ?_
    refine ⟨s, i, j + 1 - i, by rw [show i + (j + 1 - i) = j + 1 by omega], O, by omega, by omega, ?_⟩
    refine ⟨_, blockQ s i (j + 1 - i), rfl, by omega, ?_⟩
    have em : minF (fJ s j) (i + 1) = match minF (fJ s j) i with
        | none => some (fJ s j i, i)
        | some (x, k) => if fJ s j i < x then some (fJ s j i, i) else some (x, k) := rfl
    have fi : fJ s j i = ((tabL s j).getD i (0, 0)).1 + blockQ s i (j + 1 - i) := rfl
    rw [← fi] at a3 ⊢
    have ih' := ih (.sh (.int (i : Nat))) (.sh (qD (fJ s j i)))
    rw [em] at ih'
    cases eb : minF (fJ s j) i with
    | none =>
      rw [eb] at ih'
      exact ih'
    | some v =>
      obtain ⟨x, k⟩ := v
      have bx : bz x ≤ 2400 := by
        have i0 : i ≠ 0 := fun e => by subst e; cases eb
        obtain ⟨x', k', e, h1, h2⟩ := minF_at (f := fJ s j) i i0
        rw [eb] at e
        cases e
        rw [h2]
        unfold fJ
        have b1 := bz_tab O j (by omega) k (by omega)
        have b2 := bz_block O (b := k) (n := j + 1 - k) (by omega) (by omega)
        have := bz_add ((tabL s j).getD k (0, 0)).1 (blockQ s k (j + 1 - k))
        omega
      rw [eb] at ih'
      simp only [] at ih'
      refine ⟨fJ s j i, x, rfl, by omega, ite_ct (fun g => ?_) (fun g => ?_)⟩
      · rw [if_pos (of_decide_eq_true g)] at ih'
        exact ih'
      · rw [if_neg (of_decide_eq_false g)] at ih'
        exact ih'
end K46

namespace K46
open PySem PySem.Spec PyProof.Rows L2 DL
theorem outer_loop {DD : DEnds} {s : List Day} {c4 : Sl} (O : ScOk s) (q : ∀ z3 z5 z6 z8, DD.nx [.sh (scD s), .ow (tabD s s.length), .ow (fstD s s.length), z3, c4, z5, z6, .no, z8]) : ∀ (m j : Nat) (z3 z5 z6 z8 : Sl), j + m = s.length →
    forL (gN 3) b_best_plan_3 DD ((List.range' j m).map fun k => .int (1 + (k : Nat))) [.sh (scD s), .ow (tabD s j), .ow (fstD s j), z3, c4, z5, z6, .no, z8]
  | 0, j, z3, z5, z6, z8, hj => by
    have : j = s.length := by omega
    subst this
    exact q z3 z5 z6 z8
  | m + 1, j, z3, z5, z6, z8, hj => by
    have h6 := O.1
    rw [List.range'_succ, List.map_cons]
    have e1 : (1 + (j : Nat) : Int) = ((j + 1 : Nat) : Int) := by omega
    rw [e1]
    have ih := fun z3 z5 z6 z8 => outer_loop (DD := DD) (c4 := c4) O q m (j + 1) z3 z5 z6 z8 (by omega)
    simp only [forL, gN]
    generalize forL (gN 3) b_best_plan_3 DD ((List.range' (j + 1) m).map fun k => .int (1 + (k : Nat))) = F at ih ⊢
    unfold b_best_plan_3 r_best_plan_5
    refine ⟨⟨by omega, by omega⟩, ?_⟩
    rw [show (((j + 1 : Nat) : Int)).toNat = j + 1 by omega, rangeD_r]
    refine inner_loop (c4 := c4) O (by omega) (fun z6 z8 => ?_) (j + 1) 0 z6 z8 (by omega)
    obtain ⟨x, k, e, h1, h2⟩ := minF_at (f := fJ s j) (j + 1) (by omega)
    rw [e]
    have hn : ((tabL s j).map fun x => qD x.1).length < sizeLine := by rw [List.length_map, tabL_len]; simp only [sizeLine]; omega
    have hn2 : ((tabL s j).map fun x => D.int (x.2 : Nat)).length < sizeLine := by rw [List.length_map, tabL_len]; simp only [sizeLine]; omega
    unfold r_best_plan_9 r_best_plan_10
    refine ⟨hn, hn2, ?_⟩
    have et : tabL s (j + 1) = tabL s j ++ [(x, k)] := by
      conv => lhs; unfold tabL
      have e' : minF (fun i => ((tabL s j).getD i (0, 0)).1 + blockQ s i (j + 1 - i)) (j + 1) = some (x, k) := e
      rw [e']
      rfl
    have h := ih (.sh (.int ((j + 1 : Nat) : Int))) (.sh (.tup [qD x, .int (k : Nat)])) z6 z8
    simp only [tabD, fstD, et, List.map_append, List.map_cons, List.map_nil] at h
    exact h
end K46

namespace K46
open PySem PySem.Spec PyProof.Rows L2 DL
theorem tab_pre (s : List Day) (m i : Nat) (h : i ≤ m) : ∀ n, (tabL s (m + n)).getD i (0, 0) = (tabL s m).getD i (0, 0)
  | 0 => rfl
  | n + 1 => by
    show (tabL s (m + n + 1)).getD i (0, 0) = _
    conv => lhs; unfold tabL
    rw [List.getD_eq_getElem?_getD, List.getElem?_append_left (by rw [tabL_len]; omega), ← List.getD_eq_getElem?_getD]
    exact tab_pre s m i h n
theorem tab_last (s : List Day) (j : Nat) : ∃ x k, (tabL s (j + 1)).getD (j + 1) (0, 0) = (x, k) ∧ minF (fJ s j) (j + 1) = some (x, k) ∧ k < j + 1 ∧ x = fJ s j k := by
  obtain ⟨x, k, e, h1, h2⟩ := minF_at (f := fJ s j) (j + 1) (by omega)
  refine ⟨x, k, ?_, e, h1, h2⟩
  unfold tabL
  rw [List.getD_eq_getElem?_getD, List.getElem?_append_right (by rw [tabL_len]; exact Nat.le_refl _), tabL_len, Nat.sub_self]
  have e' : minF (fun i => ((tabL s j).getD i (0, 0)).1 + blockQ s i (j + 1 - i)) (j + 1) = some (x, k) := e
  rw [e']
  rfl
theorem fst_lt {s : List Day} {j : Nat} (h1 : 1 ≤ j) (h2 : j ≤ s.length) : fstN s j < j := by
  unfold fstN
  obtain ⟨i, rfl⟩ : ∃ i, j = i + 1 := ⟨j - 1, by omega⟩
  have e := tab_pre s (i + 1) (i + 1) (Nat.le_refl _) (s.length - (i + 1))
  rw [show i + 1 + (s.length - (i + 1)) = s.length by omega] at e
  rw [e]
  obtain ⟨x, k, e2, _, h, _⟩ := tab_last s i
  rw [e2]
  exact h
theorem rdIx_fst {s : List Day} {j : Nat} {R : D → Prop} (h : j ≤ s.length) (q : R (.int ((fstN s j : Nat) : Int))) : rdIx (fstD s s.length) (.int (j : Nat)) R := by
  have e : (tabL s s.length)[j]? = some ((tabL s s.length).getD j (0, 0)) := by
    rw [List.getD_eq_getElem?_getD, List.getElem?_eq_getElem (by rw [tabL_len]; omega)]; rfl
  exact rdIx_map (f := fun x : Rat × Nat => D.int (x.2 : Nat)) e q
theorem ixN_nat {n k : Nat} (h : k < n) : ixN n ((k : Nat) : Int) = some k := by
  simp [ixN, h]
end K46

namespace K46
open PySem PySem.Spec PyProof.Rows L2 DL
theorem setD_eq (p : List Rat) (k : Nat) (x : Rat) (h : k < p.length) : (p.set k x).getD k 0 = x := by
  rw [List.getD_eq_getElem?_getD, List.getElem?_set_self h]; rfl
theorem add_loop {DD : DEnds} {s : List Day} {j : Nat} {c1 c5 c6 c8 : Sl} (O : ScOk s) (h1 : 1 ≤ j) (hj : j ≤ s.length) : ∀ (l : List Nat) (p : List Rat) (z7 : Sl), p.length = s.length → (∀ k ∈ l, k < s.length) → bz (p.getD (fstN s j) 0) + 6 * l.length ≤ 4000 →
    (∀ z7, DD.nx [.sh (scD s), c1, .ow (fstD s s.length), .sh (.int (j : Nat)), .ow (qL (p.set (fstN s j) (p.getD (fstN s j) 0 + sumA s l))), c5, c6, z7, c8]) →
    forL (gN 7) b_best_plan_14 DD (l.map fun k => D.int (k : Nat)) [.sh (scD s), c1, .ow (fstD s s.length), .sh (.int (j : Nat)), .ow (qL p), c5, c6, z7, c8]
  | [], p, z7, hp, _, _, q => by
    have hf := fst_lt h1 hj
    have e : p.set (fstN s j) (p.getD (fstN s j) 0 + sumA s []) = p := by
      rw [show sumA s [] = 0 from rfl, Rat.add_zero, List.getD_eq_getElem?_getD, List.getElem?_eq_getElem (by omega)]
      exact List.set_getElem_self _
    have := q z7
    rw [e] at this
    exact this
  | k :: l, p, z7, hp, hk, hb, q => by
    have h6 := O.1
    have hf := fst_lt h1 hj
    have hk' := hk k (List.mem_cons_self ..)
    have ab := (dy_ok O hk').ab
    rw [List.length_cons] at hb
    have a1 := bz_add (p.getD (fstN s j) 0) (dy s k).am
    have hfp : fstN s j < p.length := by omega
    have gp : p[fstN s j]? = some (p.getD (fstN s j) 0) := by rw [List.getD_eq_getElem?_getD, List.getElem?_eq_getElem hfp]; rfl
    have ih := add_loop (DD := DD) (c1 := c1) (c5 := c5) (c6 := c6) (c8 := c8) O h1 hj l (p.set (fstN s j) (p.getD (fstN s j) 0 + (dy s k).am)) (.sh (.int (k : Nat))) (by rw [List.length_set]; exact hp) (fun e he => hk e (List.mem_cons_of_mem _ he)) (by rw [setD_eq _ _ _ hfp]; omega) (fun z => by
      rw [setD_eq _ _ _ hfp, List.set_set, Rat.add_assoc]
      have := q z
      rw [show sumA s (k :: l) = (dy s k).am + sumA s l by unfold sumA; rw [List.map_cons, List.sum_cons]] at this
      exact this)
    simp only [List.map_cons, forL, gN]
    generalize forL (gN 7) b_best_plan_14 DD (l.map fun k => D.int (k : Nat)) = F at ih ⊢
    have e2 : ((p.map qD).set (fstN s j) (qD (p.getD (fstN s j) 0 + (dy s k).am))) = (p.set (fstN s j) (p.getD (fstN s j) 0 + (dy s k).am)).map qD := (List.map_set ..).symm
    unfold b_best_plan_14 dPut dCall dConsA dOp dVarO
    refine rdIx_fst hj ?_
    refine rdIx_map (f := qD) gp ?_
    refine rdIx_day hk' ?_
    refine ⟨_, (dy s k).am, rfl, by omega, ?_⟩
    refine rdIx_fst hj ?_
    show (match ixN (p.map qD).length ((fstN s j : Nat) : Int) with | some n => F _ | none => False)
    rw [ixN_nat (by rw [List.length_map]; exact hfp)]
    unfold qL at ih
    rw [← e2] at ih
    exact ih
end K46

namespace K46
open PySem PySem.Spec PyProof.Rows L2 DL
/-- what has to be paid for a unit bought on b and needed on d -/
def U (s : List Day) (b d : Nat) : Rat := unitN s b (d - b)
theorem U_self (s : List Day) (b : Nat) : U s b b = (dy s b).pr := by
  unfold U; rw [Nat.sub_self]; rfl
theorem U_next (s : List Day) {b d : Nat} (h : b ≤ d) : U s b (d + 1) = U s b d + (dy s d).ke := by
  unfold U
  rw [show d + 1 - b = (d - b) + 1 by omega]
  show unitN s b (d - b) + (dy s (b + (d - b))).ke = _
  rw [show b + (d - b) = d by omega]
theorem U_shift (s : List Day) {b b' k : Nat} (h : b ≤ k) (h' : b' ≤ k) : ∀ n, U s b (k + n) - U s b' (k + n) = U s b k - U s b' k
  | 0 => rfl
  | n + 1 => by
    have ih := U_shift s h h' n
    rw [← Nat.add_assoc, U_next s (by omega : b ≤ k + n), U_next s (by omega : b' ≤ k + n)]
    grind
theorem blk_next (s : List Day) (b m : Nat) : blkN s b (m + 1) = blkN s b m + (dy s (b + m)).am * U s b (b + m) := by
  show blkN s b m + (dy s (b + m)).am * unitN s b m = _
  unfold U
  rw [show b + m - b = m by omega]
theorem none_next (s : List Day) (b m : Nat) : noneN s b (m + 1) = (noneN s b m && decide ((dy s (b + m)).am = 0)) := by
  unfold noneN
  rw [List.range'_concat, List.all_append]
  simp
/-- b is the first of the least on day d -/
def FL (s : List Day) (C : List Nat) (d b : Nat) : Prop := b ∈ C ∧ b ≤ d ∧ ∀ b' ∈ C, b' ≤ d → (b' < b → U s b d < U s b' d) ∧ U s b d ≤ U s b' d
theorem FL_uni {s : List Day} {C : List Nat} {d b b' : Nat} (h : FL s C d b) (h' : FL s C d b') : b = b' := by
  rcases Nat.lt_trichotomy b b' with c | c | c
  · have a1 := (h'.2.2 b h.1 h.2.1).1 c
    have a2 := (h.2.2 b' h'.1 h'.2.1).2
    exact absurd a1 (Rat.not_lt.mpr a2)
  · exact c
  · have a1 := (h.2.2 b' h'.1 h'.2.1).1 c
    have a2 := (h'.2.2 b h.1 h.2.1).2
    exact absurd a1 (Rat.not_lt.mpr a2)
theorem FL_back {s : List Day} {C : List Nat} {d b k : Nat} (h : FL s C d b) (h1 : b ≤ k) (h2 : k ≤ d) : FL s C k b := by
  refine ⟨h.1, h1, fun b' hb hk => ?_⟩
  have e := U_shift s h1 hk (d - k)
  rw [show k + (d - k) = d by omega] at e
  have := h.2.2 b' hb (by omega)
  refine ⟨fun g => ?_, ?_⟩
  · have := this.1 g; grind
  · have := this.2; grind
def bestOk (s : List Day) (d : Nat) (C : List Nat) (best : Option (Rat × Nat)) : Prop :=
  match best with
  | none => ∀ b ∈ C, d < b
  | some (x, b) => x = U s b d ∧ FL s C d b
theorem FL_app {s : List Day} {C : List Nat} {d b c : Nat} (h : FL s C d b) (hc : c ≤ d → b < c ∧ U s b d ≤ U s c d) : FL s (C ++ [c]) d b := by
  refine ⟨List.mem_append_left _ h.1, h.2.1, fun b' hb hd => ?_⟩
  rcases List.mem_append.mp hb with g | g
  · exact h.2.2 b' g hd
  · rw [List.mem_singleton] at g
    subst g
    have := hc hd
    exact ⟨fun q => by omega, this.2⟩
theorem bestU_spec (s : List Day) (d : Nat) : ∀ (r C : List Nat) (best : Option (Rat × Nat)), (C ++ r).Pairwise (· < ·) → bestOk s d C best → bestOk s d (C ++ r) (bestU s d best r)
  | [], C, best, _, h => by rw [List.append_nil]; exact h
  | c :: r, C, best, hp, h => by
    have ih := fun bst => bestU_spec s d r (C ++ [c]) bst (by rw [List.append_assoc]; exact hp)
    have hlt : ∀ x ∈ C, x < c := fun x hx => by
      rw [List.pairwise_append] at hp
      exact hp.2.2 x hx c (List.mem_cons_self ..)
    have key : ∀ bst, bestOk s d (C ++ [c]) bst → bestOk s d (C ++ c :: r) (bestU s d bst r) := fun bst hb => by
      have := ih bst hb
      rw [List.append_assoc] at this
      exact this
    unfold bestU
    by_cases hd : c ≤ d
    · rw [if_pos hd]
      cases best with
      | none =>
        refine key _ ⟨rfl, List.mem_append_right _ (List.mem_cons_self ..), hd, fun b' hb hb' => ?_⟩
        rcases List.mem_append.mp hb with g | g
        · have := h b' g; omega
        · rw [List.mem_singleton] at g
          subst g
          exact ⟨fun q => absurd q (Nat.lt_irrefl _), Rat.le_refl⟩
      | some v =>
        obtain ⟨x, b⟩ := v
        obtain ⟨hx, hf⟩ := h
        subst hx
        simp only []
        by_cases g : unitN s c (d - c) < U s b d
        · rw [if_pos g]
          refine key _ ⟨rfl, List.mem_append_right _ (List.mem_cons_self ..), hd, fun b' hb hb' => ?_⟩
          rcases List.mem_append.mp hb with e | e
          · have a1 := (hf.2.2 b' e hb').2
            have : U s c d < U s b d := g
            exact ⟨fun _ => by grind, by grind⟩
          · rw [List.mem_singleton] at e
            subst e
            exact ⟨fun q => absurd q (Nat.lt_irrefl _), Rat.le_refl⟩
        · rw [if_neg g]
          refine key _ ⟨rfl, FL_app hf fun _ => ⟨hlt _ hf.1, Rat.not_lt.mp g⟩⟩
    · rw [if_neg hd]
      refine key _ ?_
      cases best with
      | none =>
        intro b hb
        rcases List.mem_append.mp hb with g | g
        · exact h b g
        · rw [List.mem_singleton] at g; omega
      | some v =>
        obtain ⟨x, b⟩ := v
        exact ⟨h.1, FL_app h.2 fun q => absurd q hd⟩
theorem bestU_some {s : List Day} {d b : Nat} {x : Rat} {C : List Nat} (hp : C.Pairwise (· < ·)) (e : bestU s d none C = some (x, b)) : x = U s b d ∧ FL s C d b := by
  have := bestU_spec s d C [] none hp (fun b hb => absurd hb List.not_mem_nil)
  rw [List.nil_append, e] at this
  exact this
theorem bestU_ex {s : List Day} {d b : Nat} {C : List Nat} (hp : C.Pairwise (· < ·)) (hb : b ∈ C) (hd : b ≤ d) : ∃ x k, bestU s d none C = some (x, k) ∧ x = U s k d ∧ FL s C d k := by
  have h := bestU_spec s d C [] none hp (fun b hb => absurd hb List.not_mem_nil)
  rw [List.nil_append] at h
  cases e : bestU s d none C with
  | none => rw [e] at h; have := h b hb; omega
  | some v => obtain ⟨x, k⟩ := v; rw [e] at h; exact ⟨x, k, rfl, h⟩
theorem bestU_FL {s : List Day} {d b : Nat} {C : List Nat} (hp : C.Pairwise (· < ·)) (h : FL s C d b) : bestU s d none C = some (U s b d, b) := by
  obtain ⟨x, k, e, hx, hf⟩ := bestU_ex (s := s) hp h.1 h.2.1
  have := FL_uni hf h
  subst this
  rw [e, hx]
theorem costN_next (s : List Day) (C : List Nat) (d : Nat) : costN s C (d + 1) = match costN s C d with
    | none => none
    | some (t, u) => if 0 < (dy s d).am then (match bestU s d none C with
        | none => none
        | some (x, b) => if b ∈ u then some (t + x * (dy s d).am, u) else some (t + x * (dy s d).am + (dy s b).go, u ++ [b]))
      else some (t, u) := rfl
theorem costN_inv {s : List Day} {C : List Nat} (hp : C.Pairwise (· < ·)) : ∀ d t u, costN s C d = some (t, u) → (∀ b ∈ u, b < d ∧ b ∈ C) ∧ u.Nodup
  | 0, t, u, e => by
    cases e
    exact ⟨fun b hb => absurd hb List.not_mem_nil, List.nodup_nil⟩
  | d + 1, t, u, e => by
    rw [costN_next] at e
    cases e1 : costN s C d with
    | none => rw [e1] at e; cases e
    | some v =>
      obtain ⟨t1, u1⟩ := v
      rw [e1] at e
      simp only [] at e
      have ih := costN_inv hp d t1 u1 e1
      have ih1 : ∀ b ∈ u1, b < d + 1 ∧ b ∈ C := fun b hb => ⟨by have := (ih.1 b hb).1; omega, (ih.1 b hb).2⟩
      by_cases ha : 0 < (dy s d).am
      · rw [if_pos ha] at e
        cases e2 : bestU s d none C with
        | none => rw [e2] at e; cases e
        | some w =>
          obtain ⟨x, b⟩ := w
          rw [e2] at e
          simp only [] at e
          have hb := bestU_some hp e2
          by_cases hm : b ∈ u1
          · rw [if_pos hm] at e; cases e
            exact ⟨ih1, ih.2⟩
          · rw [if_neg hm] at e; cases e
            refine ⟨fun k hk => ?_, ?_⟩
            · rcases List.mem_append.mp hk with g | g
              · exact ih1 k g
              · rw [List.mem_singleton] at g; subst g
                exact ⟨by have := hb.2.2.1; omega, hb.2.1⟩
            · rw [List.nodup_append]
              refine ⟨ih.2, by simp, fun a h1 c h2 => ?_⟩
              rw [List.mem_singleton] at h2
              subst h2
              exact fun e => hm (e ▸ h1)
      · rw [if_neg ha] at e; cases e
        exact ⟨ih1, ih.2⟩
theorem minF_le {f : Nat → Rat} : ∀ n x i, minF f n = some (x, i) → ∀ k < n, x ≤ f k
  | 0, x, i, e, k, hk => by omega
  | n + 1, x, i, e, k, hk => by
    unfold minF at e
    cases e1 : minF f n with
    | none =>
      rw [e1] at e; cases e
      have : n = 0 := by
        rcases Nat.eq_zero_or_pos n with g | g
        · exact g
        · obtain ⟨a, b, h, _⟩ := minF_at (f := f) n (by omega)
          rw [e1] at h; cases h
      have : k = n := by omega
      subst this
      exact Rat.le_refl
    | some v =>
      obtain ⟨y, m⟩ := v
      rw [e1] at e
      simp only [] at e
      have ih := minF_le n y m e1
      by_cases g : f n < y
      · rw [if_pos g] at e; cases e
        rcases Nat.lt_or_ge k n with c | c
        · exact Rat.le_trans (Rat.le_of_lt g) (ih k c)
        · have : k = n := by omega
          subst this; exact Rat.le_refl
      · rw [if_neg g] at e; cases e
        rcases Nat.lt_or_ge k n with c | c
        · exact ih k c
        · have : k = n := by omega
          subst this; exact Rat.not_lt.mp g
theorem tab_at (s : List Day) {i j : Nat} (h : i ≤ j) (h2 : j ≤ s.length) : (tabL s j).getD i (0, 0) = (tabL s s.length).getD i (0, 0) := by
  have := tab_pre s j i h (s.length - j)
  rw [show j + (s.length - j) = s.length by omega] at this
  exact this.symm
theorem tab_0 (s : List Day) : tabQ s 0 = 0 := by
  unfold tabQ
  rw [← tab_at s (Nat.le_refl 0) (Nat.zero_le _)]
  rfl
theorem tab_le (s : List Day) {i j : Nat} (h : i ≤ j) (hj : j < s.length) : tabQ s (j + 1) ≤ tabQ s i + blockQ s i (j + 1 - i) := by
  obtain ⟨x, k, e, e2, h1, h2⟩ := tab_last s j
  unfold tabQ
  rw [← tab_at s (Nat.le_refl (j + 1)) hj, e, ← tab_at s h (by omega)]
  exact minF_le (j + 1) x k e2 i (by omega)
theorem tab_eq (s : List Day) {j : Nat} (h1 : 1 ≤ j) (h2 : j ≤ s.length) : tabQ s j = tabQ s (fstN s j) + blockQ s (fstN s j) (j - fstN s j) := by
  obtain ⟨i, rfl⟩ : ∃ i, j = i + 1 := ⟨j - 1, by omega⟩
  obtain ⟨x, k, e, e2, h3, h4⟩ := tab_last s i
  have e5 : fstN s (i + 1) = k := by
    unfold fstN
    rw [← tab_at s (Nat.le_refl (i + 1)) h2, e]
  rw [e5]
  unfold tabQ
  rw [← tab_at s (Nat.le_refl (i + 1)) h2, e, ← tab_at s (by omega : k ≤ i) (by omega)]
  exact h4
theorem blk_zero (s : List Day) (b : Nat) : ∀ m, noneN s b m = true → blkN s b m = 0
  | 0, _ => rfl
  | n + 1, hn => by
    rw [none_next, Bool.and_eq_true] at hn
    rw [blk_next, blk_zero s b n hn.1, of_decide_eq_true hn.2]
    grind
/-- over a block whose days all take b, the law's cost is the block's -/
theorem cost_block {s : List Day} {C : List Nat} (O : ScOk s) (hp : C.Pairwise (· < ·)) {b : Nat} {t : Rat} {u : List Nat} (e : costN s C b = some (t, u)) : ∀ m, b + m ≤ s.length → (∀ k, b ≤ k → k < b + m → FL s C k b) →
    costN s C (b + m) = some (t + blockQ s b m, if noneN s b m = true then u else u ++ [b])
  | 0, _, _ => by
    have : noneN s b 0 = true := rfl
    unfold blockQ
    rw [this, if_pos rfl, if_pos rfl, Rat.add_zero]
    exact e
  | m + 1, hm, hf => by
    have ih := cost_block O hp e m (by omega) (fun k h1 h2 => hf k h1 (by omega))
    have hu : b ∉ u := fun g => by have := ((costN_inv hp b t u e).1 b g).1; omega
    have hF := bestU_FL hp (hf (b + m) (by omega) (by omega))
    have a0 := (dy_ok O (k := b + m) (by omega)).a0
    have en := none_next s b m
    have eb := blk_next s b m
    rw [← Nat.add_assoc, costN_next, ih]
    simp only []
    rw [hF]
    simp only []
    unfold blockQ
    rw [en, eb]
    by_cases ha : 0 < (dy s (b + m)).am
    · have hne : ¬ (dy s (b + m)).am = 0 := fun g => by rw [g] at ha; exact absurd ha (by decide)
      rw [if_pos ha, decide_eq_false hne, Bool.and_false]
      simp only [Bool.false_eq_true, if_false]
      by_cases hn : noneN s b m = true
      · rw [if_pos hn, if_neg hu, if_pos hn]
        have z := blk_zero s b m hn
        rw [z]
        congr 2
        grind
      · have hn' : noneN s b m = false := by cases h : noneN s b m <;> simp_all
        rw [hn']
        simp only [Bool.false_eq_true, if_false]
        rw [if_pos (List.mem_append_right _ (List.mem_singleton.mpr rfl))]
        congr 2
        grind
    · have h0 : (dy s (b + m)).am = 0 := Rat.le_antisymm (Rat.not_lt.mp ha) a0
      rw [if_neg ha, h0]
      simp only [decide_true, Bool.and_true]
      congr 3
      split <;> grind
theorem tab_cost {s : List Day} {C : List Nat} (O : ScOk s) (hp : C.Pairwise (· < ·)) : ∀ n d t u, d ≤ n → d ≤ s.length → costN s C d = some (t, u) → tabQ s d ≤ t
  | _, 0, t, u, _, _, e => by
    cases e
    rw [tab_0]
    exact Rat.le_refl
  | 0, d + 1, _, _, h, _, _ => by omega
  | n + 1, d + 1, t, u, hn, hd, e => by
    have e' := e
    rw [costN_next] at e
    cases e1 : costN s C d with
    | none => rw [e1] at e; cases e
    | some v =>
      obtain ⟨t1, u1⟩ := v
      rw [e1] at e
      simp only [] at e
      by_cases ha : 0 < (dy s d).am
      · rw [if_pos ha] at e
        cases e2 : bestU s d none C with
        | none => rw [e2] at e; cases e
        | some w =>
          obtain ⟨x, b⟩ := w
          have hb := bestU_some hp e2
          have hbd := hb.2.2.1
          obtain ⟨t0, u0, e3⟩ : ∃ t0 u0, costN s C b = some (t0, u0) := by
            cases e4 : costN s C b with
            | none =>
              exfalso
              have : ∀ k, costN s C (b + k) = none := fun k => by
                induction k with
                | zero => exact e4
                | succ k ih => rw [← Nat.add_assoc, costN_next, ih]
              have := this (d - b)
              rw [show b + (d - b) = d by omega, e1] at this
              cases this
            | some v => exact ⟨v.1, v.2, rfl⟩
          have ih := tab_cost O hp n b t0 u0 (by omega) (by omega) e3
          have h := cost_block O hp e3 (d + 1 - b) (by omega) (fun k h1 h2 => FL_back hb.2 h1 (by omega))
          rw [show b + (d + 1 - b) = d + 1 by omega, e'] at h
          have h1 : t = t0 + blockQ s b (d + 1 - b) := by injection h with h; injection h
          rw [h1]
          have := tab_le s hbd (by omega : d < s.length)
          grind
      · rw [if_neg ha] at e; cases e
        have ih := tab_cost O hp n d t u (by omega) (by omega) e1
        have := tab_le s (Nat.le_refl d) (by omega : d < s.length)
        have h0 : (dy s d).am = 0 := Rat.le_antisymm (Rat.not_lt.mp ha) (dy_ok O (k := d) (by omega)).a0
        have z : blockQ s d (d + 1 - d) = 0 := by
          rw [show d + 1 - d = 0 + 1 by omega]
          unfold blockQ
          rw [none_next, if_pos]
          have : noneN s d 0 = true := rfl
          rw [this, Nat.add_zero, h0]; rfl
        rw [z] at this
        grind
def sumG (s : List Day) (l : List Nat) : Rat := (l.map fun d => (dy s d).go).sum
theorem sumG_app (s : List Day) (a b : List Nat) : sumG s (a ++ b) = sumG s a + sumG s b := by
  unfold sumG
  rw [List.map_append, List.sum_append]
theorem sumG_one (s : List Day) (a : Nat) : sumG s [a] = (dy s a).go := by
  unfold sumG
  simp [Rat.add_zero]
theorem sumG_cons (s : List Day) (a : Nat) (l : List Nat) : sumG s (a :: l) = (dy s a).go + sumG s l := by
  unfold sumG
  rw [List.map_cons, List.sum_cons]
theorem sumG_perm (s : List Day) {a b : List Nat} (h : a.Perm b) : sumG s a = sumG s b := by
  induction h with
  | nil => rfl
  | cons x _ ih => rw [sumG_cons, sumG_cons, ih]
  | swap x y l => rw [sumG_cons, sumG_cons, sumG_cons, sumG_cons]; grind
  | trans _ _ h1 h2 => rw [h1, h2]
theorem sumG_nn {s : List Day} (O : ScOk s) : ∀ l : List Nat, (∀ k ∈ l, k < s.length) → 0 ≤ sumG s l
  | [], _ => Rat.le_refl
  | a :: l, h => by
    rw [sumG_cons]
    have := (dy_ok O (h a (List.mem_cons_self ..))).g0
    have := sumG_nn O l fun k hk => h k (List.mem_cons_of_mem _ hk)
    grind
theorem sumG_sub {s : List Day} (O : ScOk s) : ∀ (u C : List Nat), u.Nodup → (∀ b ∈ u, b ∈ C) → (∀ k ∈ C, k < s.length) → sumG s u ≤ sumG s C
  | [], C, _, _, h => sumG_nn O C h
  | a :: u, C, hn, hs, h => by
    have ha := hs a (List.mem_cons_self ..)
    have hp := List.perm_cons_erase ha
    rw [sumG_perm s hp, sumG_cons, sumG_cons]
    rw [List.nodup_cons] at hn
    have := sumG_sub O u (C.erase a) hn.2 (fun b hb => by
      have hne : b ≠ a := fun e => hn.1 (e ▸ hb)
      exact (List.mem_erase_of_ne hne).mpr (hs b (List.mem_cons_of_mem _ hb))) (fun k hk => h k (List.mem_of_mem_erase hk))
    grind
theorem sub_mono {c : List Nat} {i : Nat} (h : c ∈ subs i) : ∀ n, c ∈ subs (i + n)
  | 0 => h
  | n + 1 => by
    show c ∈ subs (i + n) ++ _
    exact List.mem_append_left _ (sub_mono h n)
theorem subs_asc : ∀ n, ∀ c ∈ subs n, c.Pairwise (· < ·) ∧ ∀ k ∈ c, k < n
  | 0, c, h => by
    have : c = [] := List.mem_singleton.mp h
    subst this
    exact ⟨List.Pairwise.nil, fun k hk => absurd hk List.not_mem_nil⟩
  | n + 1, c, h => by
    rcases List.mem_append.mp (show c ∈ subs n ++ (subs n).map fun c => c ++ [n] from h) with g | g
    · have := subs_asc n c g
      exact ⟨this.1, fun k hk => by have := this.2 k hk; omega⟩
    · obtain ⟨d, hd, rfl⟩ := List.mem_map.mp g
      have := subs_asc n d hd
      refine ⟨List.pairwise_append.mpr ⟨this.1, List.pairwise_singleton .., fun a ha b hb => ?_⟩, fun k hk => ?_⟩
      · rw [List.mem_singleton] at hb; subst hb; exact this.2 a ha
      · rcases List.mem_append.mp hk with q | q
        · have := this.2 k q; omega
        · rw [List.mem_singleton] at q; omega
/-- there are days to choose that cost no more than the table says -/
theorem chain {s : List Day} (O : ScOk s) : ∀ n j, j ≤ n → j ≤ s.length → ∃ B, B ∈ subs j ∧ ∀ C : List Nat, C.Pairwise (· < ·) → (∀ b ∈ B, b ∈ C) →
    ∃ t u, costN s C j = some (t, u) ∧ t - sumG s u ≤ tabQ s j - sumG s B
  | _, 0, _, _ => ⟨[], List.mem_singleton.mpr rfl, fun C _ _ => ⟨0, [], rfl, by rw [tab_0]; exact Rat.le_refl⟩⟩
  | 0, j + 1, h, _ => by omega
  | n + 1, j + 1, h, hj => by
    have hf := fst_lt (by omega : 1 ≤ j + 1) hj
    have ht := tab_eq s (by omega : 1 ≤ j + 1) hj
    generalize fstN s (j + 1) = i at hf ht
    obtain ⟨B, hB, hC⟩ := chain O n i (by omega) (by omega)
    by_cases hn : noneN s i (j + 1 - i) = true
    · refine ⟨B, ?_, fun C hp hs => ?_⟩
      · have := sub_mono hB (j + 1 - i)
        rw [show i + (j + 1 - i) = j + 1 by omega] at this
        exact this
      obtain ⟨t, u, e, hle⟩ := hC C hp hs
      refine ⟨t, u, ?_, ?_⟩
      · have : ∀ m, noneN s i m = true → costN s C (i + m) = some (t, u) := fun m => by
          induction m with
          | zero => exact fun _ => e
          | succ m ih =>
            intro h
            rw [none_next, Bool.and_eq_true] at h
            rw [← Nat.add_assoc, costN_next, ih h.1]
            simp only []
            rw [of_decide_eq_true h.2, if_neg (by decide)]
        have := this _ hn
        rw [show i + (j + 1 - i) = j + 1 by omega] at this
        exact this
      · rw [ht]
        unfold blockQ
        rw [if_pos hn]
        grind
    · refine ⟨B ++ [i], ?_, fun C hp hs => ?_⟩
      · have : B ++ [i] ∈ subs (i + 1) := List.mem_append_right _ (List.mem_map.mpr ⟨B, hB, rfl⟩)
        have := sub_mono this (j - i)
        rw [show i + 1 + (j - i) = j + 1 by omega] at this
        exact this
      obtain ⟨t, u, e, hle⟩ := hC C hp (fun b hb => hs b (List.mem_append_left _ hb))
      have hi : i ∈ C := hs i (List.mem_append_right _ (List.mem_singleton.mpr rfl))
      have key : ∀ m, i + m ≤ s.length → ∃ t' u', costN s C (i + m) = some (t', u') ∧ t' - sumG s u' ≤ t - sumG s u + blkN s i m := fun m => by
        induction m with
        | zero => exact fun _ => ⟨t, u, e, by show _ ≤ _ + (0 : Rat); rw [Rat.add_zero]; exact Rat.le_refl⟩
        | succ m ih =>
          intro hm
          obtain ⟨t', u', e1, h1⟩ := ih (by omega)
          rw [← Nat.add_assoc, costN_next, e1, blk_next]
          simp only []
          have a0 := (dy_ok O (k := i + m) (by omega)).a0
          by_cases ha : 0 < (dy s (i + m)).am
          · rw [if_pos ha]
            obtain ⟨x, k, e2, hx, hF⟩ := bestU_ex (s := s) hp hi (Nat.le_add_right i m)
            rw [e2]
            simp only []
            have hle := (hF.2.2 i hi (Nat.le_add_right i m)).2
            rw [← hx] at hle
            have := Rat.mul_le_mul_of_nonneg_right hle a0
            by_cases hm : k ∈ u'
            · rw [if_pos hm]
              refine ⟨_, _, rfl, ?_⟩
              grind
            · rw [if_neg hm]
              refine ⟨_, _, rfl, ?_⟩
              rw [sumG_app, sumG_one]
              grind
          · rw [if_neg ha]
            have h0 : (dy s (i + m)).am = 0 := Rat.le_antisymm (Rat.not_lt.mp ha) a0
            refine ⟨_, _, rfl, ?_⟩
            rw [h0]
            grind
      obtain ⟨t', u', e1, h1⟩ := key (j + 1 - i) (by omega)
      rw [show i + (j + 1 - i) = j + 1 by omega] at e1
      refine ⟨t', u', e1, ?_⟩
      rw [ht, sumG_app, sumG_one]
      unfold blockQ
      rw [if_neg hn]
      grind
theorem cost_tab {s : List Day} (O : ScOk s) : ∃ C ∈ subs s.length, ∃ c, costW s C = some c ∧ c ≤ tabQ s s.length := by
  obtain ⟨B, hB, hC⟩ := chain O s.length s.length (Nat.le_refl _) (Nat.le_refl _)
  have ha := subs_asc _ B hB
  obtain ⟨t, u, e, hle⟩ := hC B ha.1 (fun _ h => h)
  have hu := costN_inv ha.1 _ t u e
  have := sumG_sub O u B hu.2 (fun b hb => (hu.1 b hb).2) ha.2
  refine ⟨B, hB, t, ?_, by grind⟩
  unfold costW
  rw [e]
  rfl
theorem least_of : ∀ (l : List (Option Rat)) (best : Option Rat) (m : Rat), (∀ x, some x ∈ l → m ≤ x) → (∀ x, best = some x → m ≤ x) → (best = some m ∨ some m ∈ l) → leastO best l = some m
  | [], best, m, _, _, h => by
    rcases h with h | h
    · exact h
    · exact absurd h List.not_mem_nil
  | none :: r, best, m, h1, h2, h => by
    show leastO best r = _
    refine least_of r best m (fun x hx => h1 x (List.mem_cons_of_mem _ hx)) h2 ?_
    rcases h with h | h
    · exact .inl h
    · rcases List.mem_cons.mp h with g | g
      · cases g
      · exact .inr g
  | some x :: r, best, m, h1, h2, h => by
    have hx := h1 x (List.mem_cons_self ..)
    have h1' : ∀ x, some x ∈ r → m ≤ x := fun x hx => h1 x (List.mem_cons_of_mem _ hx)
    cases best with
    | none =>
      show leastO (some x) r = _
      refine least_of r (some x) m h1' (fun y e => by cases e; exact hx) ?_
      rcases h with h | h
      · cases h
      · rcases List.mem_cons.mp h with g | g
        · exact .inl g.symm
        · exact .inr g
    | some y =>
      show (if x < y then leastO (some x) r else leastO (some y) r) = _
      have hy := h2 y rfl
      by_cases g : x < y
      · rw [if_pos g]
        refine least_of r (some x) m h1' (fun y e => by cases e; exact hx) ?_
        rcases h with h | h
        · cases h
          exact absurd g (Rat.not_lt.mpr hx)
        · rcases List.mem_cons.mp h with g | g
          · exact .inl g.symm
          · exact .inr g
      · rw [if_neg g]
        refine least_of r (some y) m h1' (fun z e => by cases e; exact hy) ?_
        rcases h with h | h
        · exact .inl h
        · rcases List.mem_cons.mp h with q | q
          · cases q
            exact .inl (by rw [Rat.le_antisymm (Rat.not_lt.mp g) hy])
          · exact .inr q
theorem cheap_tab {s : List Day} (O : ScOk s) : cheapQ s = some (tabQ s s.length) := by
  have low : ∀ C ∈ subs s.length, ∀ c, costW s C = some c → tabQ s s.length ≤ c := fun C hC c e => by
    unfold costW at e
    cases e1 : costN s C s.length with
    | none => rw [e1] at e; cases e
    | some v =>
      obtain ⟨t, u⟩ := v
      rw [e1] at e; cases e
      exact tab_cost O (subs_asc _ C hC).1 s.length s.length t u (Nat.le_refl _) (Nat.le_refl _) e1
  unfold cheapQ
  refine least_of _ _ _ (fun x hx => ?_) (fun x e => by cases e) (.inr ?_)
  · obtain ⟨C, hC, e⟩ := List.mem_map.mp hx
    exact low C hC x e
  · obtain ⟨C, hC, c, e, hle⟩ := cost_tab O
    have := low C hC c e
    rw [Rat.le_antisymm this hle, ← e]
    exact List.mem_map.mpr ⟨C, hC, rfl⟩
theorem dy_take (s : List Day) {m k : Nat} (h : k < m) : dy (s.take m) k = dy s k := by
  unfold dy
  rw [List.getD_eq_getElem?_getD, List.getD_eq_getElem?_getD, List.getElem?_take_of_lt h]
theorem unit_take (s : List Day) {m b : Nat} (hb : b < m) : ∀ n, b + n ≤ m → unitN (s.take m) b n = unitN s b n
  | 0, _ => by show (dy _ _).pr = (dy _ _).pr; rw [dy_take s hb]
  | n + 1, h => by
    show unitN _ b n + (dy _ (b + n)).ke = unitN _ b n + (dy _ (b + n)).ke
    rw [unit_take s hb n (by omega), dy_take s (by omega)]
theorem blk_take (s : List Day) {m b : Nat} : ∀ n, b + n ≤ m → blkN (s.take m) b n = blkN s b n
  | 0, _ => rfl
  | n + 1, h => by
    show blkN _ b n + (dy _ (b + n)).am * unitN _ b n = blkN _ b n + (dy _ (b + n)).am * unitN _ b n
    rw [blk_take s n (by omega), dy_take s (by omega), unit_take s (by omega) n (by omega)]
theorem none_take (s : List Day) {m b : Nat} : ∀ n, b + n ≤ m → noneN (s.take m) b n = noneN s b n
  | 0, _ => rfl
  | n + 1, h => by rw [none_next, none_next, none_take s n (by omega), dy_take s (by omega)]
theorem block_take (s : List Day) {m b n : Nat} (h : b + n ≤ m) (hn : 1 ≤ n) : blockQ (s.take m) b n = blockQ s b n := by
  unfold blockQ
  rw [none_take s n h, blk_take s n h, dy_take s (by omega)]
theorem minF_eq {f g : Nat → Rat} : ∀ n, (∀ k < n, f k = g k) → minF f n = minF g n
  | 0, _ => rfl
  | n + 1, h => by
    unfold minF
    rw [minF_eq n fun k hk => h k (by omega), h n (by omega)]
theorem tab_take (s : List Day) {m : Nat} : ∀ j, j ≤ m → tabL (s.take m) j = tabL s j
  | 0, _ => rfl
  | j + 1, h => by
    unfold tabL
    rw [tab_take s j (by omega)]
    rw [minF_eq (g := fun i => ((tabL s j).getD i (0, 0)).1 + blockQ s i (j + 1 - i)) (j + 1) fun k hk => by
      show _ + _ = _ + _
      rw [block_take s (by omega) (by omega)]]
theorem tabQ_take (s : List Day) {j : Nat} (h : j ≤ s.length) : tabQ (s.take j) (s.take j).length = tabQ s j := by
  have e : (s.take j).length = j := by rw [List.length_take]; omega
  rw [e]
  unfold tabQ
  rw [e, tab_take s j (Nat.le_refl _), tab_at s (Nat.le_refl j) h]
theorem ok_take {s : List Day} (O : ScOk s) (j : Nat) : ScOk (s.take j) :=
  ⟨by have := O.1; rw [List.length_take]; omega, fun d hd => O.2 d (List.mem_of_mem_take hd)⟩
theorem cheap_take {s : List Day} (O : ScOk s) {j : Nat} (h : j ≤ s.length) : cheapQ (s.take j) = some (tabQ s j) := by
  rw [cheap_tab (ok_take O j), tabQ_take s h]
theorem tab_map (s : List Day) : (tabL s s.length).map (·.1) = (List.range (s.length + 1)).map (tabQ s) := by
  apply List.ext_getElem
  · rw [List.length_map, tabL_len, List.length_map, List.length_range]
  · intro i h1 h2
    rw [List.getElem_map, List.getElem_map, List.getElem_range]
    unfold tabQ
    rw [List.getD_eq_getElem?_getD, List.getElem?_eq_getElem (by rw [List.length_map] at h1; exact h1)]
    rfl
/-- left and cost after the first k days -/
def stP (s : List Day) (p : List Rat) : Nat → Option (Rat × Rat)
  | 0 => some (0, 0)
  | k + 1 => match stP s p k with
    | none => none
    | some (l, c) => if p.getD k 0 < 0 then none else if l + p.getD k 0 - (dy s k).am < 0 then none else
      some (l + p.getD k 0 - (dy s k).am, c + (if 0 < p.getD k 0 then (dy s k).go + (dy s k).pr * p.getD k 0 else 0) + (dy s k).ke * (l + p.getD k 0 - (dy s k).am))
theorem stP_next (s : List Day) (p : List Rat) (k : Nat) : stP s p (k + 1) = match stP s p k with
    | none => none
    | some (l, c) => if p.getD k 0 < 0 then none else if l + p.getD k 0 - (dy s k).am < 0 then none else
      some (l + p.getD k 0 - (dy s k).am, c + (if 0 < p.getD k 0 then (dy s k).go + (dy s k).pr * p.getD k 0 else 0) + (dy s k).ke * (l + p.getD k 0 - (dy s k).am)) := rfl
theorem stP_pl {s : List Day} {p : List Rat} (h : p.length = s.length) : ∀ k, k ≤ s.length → (match stP s p k with | none => planQ s p 0 0 = none | some (l, c) => planQ s p 0 0 = planQ (s.drop k) (p.drop k) l c)
  | 0, _ => rfl
  | k + 1, hk => by
    have ih := stP_pl h k (by omega)
    rw [stP_next]
    cases e : stP s p k with
    | none => rw [e] at ih; exact ih
    | some v =>
      obtain ⟨l, c⟩ := v
      rw [e] at ih
      simp only [] at ih ⊢
      have es : s.drop k = dy s k :: s.drop (k + 1) := by
        rw [List.drop_eq_getElem_cons (by omega : k < s.length)]
        congr 1
        have := dy_at (s := s) (k := k) (by omega)
        rw [List.getElem?_eq_getElem (by omega)] at this
        injection this
      have ep : p.drop k = p.getD k 0 :: p.drop (k + 1) := by
        rw [List.drop_eq_getElem_cons (by omega : k < p.length)]
        congr 1
        rw [List.getD_eq_getElem?_getD, List.getElem?_eq_getElem (by omega)]
        rfl
      rw [es, ep] at ih
      rw [show ∀ (d : Day) (s : List Day) (x : Rat) (p : List Rat) (l c : Rat), planQ (d :: s) (x :: p) l c = if x < 0 then none else if l + x - d.am < 0 then none else planQ s p (l + x - d.am) (c + (if 0 < x then d.go + d.pr * x else 0) + d.ke * (l + x - d.am)) from fun _ _ _ _ _ _ => rfl] at ih
      rw [ih]
      by_cases g : p.getD k 0 < 0
      · rw [if_pos g, if_pos g]
      · rw [if_neg g, if_neg g]
        by_cases g2 : l + p.getD k 0 - (dy s k).am < 0
        · rw [if_pos g2, if_pos g2]
        · rw [if_neg g2, if_neg g2]
theorem planC_st {s : List Day} {p : List Rat} (h : p.length = s.length) : planC s p = (stP s p s.length).map (·.2) := by
  have := stP_pl h s.length (Nat.le_refl _)
  unfold planC
  rw [if_pos h]
  cases e : stP s p s.length with
  | none => rw [e] at this; exact this
  | some v =>
    obtain ⟨l, c⟩ := v
    rw [e] at this
    simp only [] at this
    rw [this, List.drop_eq_nil_of_le (Nat.le_refl _)]
    rfl
/-- goings of the days before k on which the plan buys -/
def gS (s : List Day) (p : List Rat) : Nat → Rat
  | 0 => 0
  | k + 1 => gS s p k + (if 0 < p.getD k 0 then (dy s k).go else 0)
theorem posD_mem {p : List Rat} {k : Nat} : k ∈ posD p ↔ k < p.length ∧ 0 < p.getD k 0 := by
  unfold posD
  rw [List.mem_filter, List.mem_range, decide_eq_true_iff]
theorem posD_asc (p : List Rat) : (posD p).Pairwise (· < ·) := by
  unfold posD
  exact List.Pairwise.filter _ List.pairwise_lt_range
theorem gS_eq (s : List Day) (p : List Rat) : ∀ n, sumG s ((List.range n).filter fun k => decide (0 < p.getD k 0)) = gS s p n
  | 0 => rfl
  | n + 1 => by
    rw [List.range_succ, List.filter_append, sumG_app, gS_eq s p n]
    show _ = gS s p n + _
    congr 1
    by_cases h : 0 < p.getD n 0
    · rw [List.filter_cons_of_pos (by rw [decide_eq_true_iff]; exact h), if_pos h]
      exact sumG_one s n
    · rw [List.filter_cons_of_neg (by rw [decide_eq_true_iff]; exact h), if_neg h]
      rfl
theorem U_nn {s : List Day} (O : ScOk s) {b : Nat} (hb : b < s.length) : ∀ d, b ≤ d → d ≤ s.length → 0 ≤ U s b d
  | 0, h, _ => by
    have : b = 0 := by omega
    subst this
    rw [U_self]; exact (dy_ok O hb).p0
  | d + 1, h, h2 => by
    rcases Nat.lt_or_ge d b with c | c
    · have : b = d + 1 := by omega
      subst this
      rw [U_self]; exact (dy_ok O hb).p0
    · rw [U_next s c]
      have := U_nn O hb d c (by omega)
      have := (dy_ok O (k := d) (by omega)).k0
      grind
theorem plan_low {s : List Day} {p : List Rat} (O : ScOk s) (hp : p.length = s.length) : ∀ k l c, k ≤ s.length → stP s p k = some (l, c) →
    ∃ t u, costN s (posD p) k = some (t, u) ∧ 0 ≤ l ∧ ((∀ b ∈ posD p, ¬ b < k) → l = 0) ∧ ∀ v : Rat, (∀ b ∈ posD p, b < k → v ≤ U s b k) → t - sumG s u + v * l ≤ c - gS s p k
  | 0, l, c, _, e => by
    cases e
    refine ⟨0, [], rfl, Rat.le_refl, fun _ => rfl, fun v _ => ?_⟩
    rw [Rat.mul_zero]
    show (0 : Rat) - 0 + 0 ≤ 0 - 0
    grind
  | k + 1, l', c', hk, e => by
    rw [stP_next] at e
    cases e1 : stP s p k with
    | none => rw [e1] at e; cases e
    | some w =>
      obtain ⟨l, c⟩ := w
      rw [e1] at e
      simp only [] at e
      obtain ⟨t, u, ec, hl, hz, hv⟩ := plan_low O hp k l c (by omega) e1
      have ok := dy_ok O (k := k) (by omega)
      generalize hx : p.getD k 0 = x at e
      by_cases g1 : x < 0
      · rw [if_pos g1] at e; cases e
      rw [if_neg g1] at e
      by_cases g2 : l + x - (dy s k).am < 0
      · rw [if_pos g2] at e; cases e
      rw [if_neg g2] at e
      have hx0 : 0 ≤ x := Rat.not_lt.mp g1
      have hl0 : 0 ≤ l + x - (dy s k).am := Rat.not_lt.mp g2
      injection e with e
      injection e with e2 e3
      subst e2
      have hin : 0 < x → k ∈ posD p := fun h => posD_mem.mpr ⟨by omega, by rw [hx]; exact h⟩
      have hg : gS s p (k + 1) = gS s p k + (if 0 < x then (dy s k).go else 0) := by
        show gS s p k + (if 0 < p.getD k 0 then _ else _) = _
        rw [hx]
      have hU : ∀ b ∈ posD p, b < k + 1 → U s b (k + 1) = U s b k + (dy s k).ke := fun b _ h => U_next s (by omega)
      have hc : c' - gS s p (k + 1) = c - gS s p k + (dy s k).pr * x + (dy s k).ke * (l + x - (dy s k).am) := by
        rw [← e3, hg]
        by_cases g : 0 < x
        · rw [if_pos g, if_pos g]; grind
        · have : x = 0 := Rat.le_antisymm (Rat.not_lt.mp g) hx0
          rw [if_neg g, if_neg g, this]; grind
      have hzero : (∀ b ∈ posD p, ¬ b < k + 1) → l + x - (dy s k).am = 0 := fun h => by
        have : x = 0 := by
          rcases Classical.em (0 < x) with g | g
          · exact absurd (Nat.lt_succ_self k) (h k (hin g))
          · exact Rat.le_antisymm (Rat.not_lt.mp g) hx0
        have h2 := hz fun b hb hb' => h b hb (by omega)
        have := ok.a0
        grind
      rw [costN_next, ec]
      simp only []
      by_cases ha : 0 < (dy s k).am
      · rw [if_pos ha]
        have hex : ∃ b ∈ posD p, b ≤ k := by
          rcases Classical.em (∃ b ∈ posD p, b ≤ k) with g | g
          · exact g
          · exfalso
            have hn : ∀ b ∈ posD p, ¬ b < k + 1 := fun b hb hb' => g ⟨b, hb, by omega⟩
            have h2 := hz fun b hb hb' => hn b hb (by omega)
            have : x = 0 := by
              rcases Classical.em (0 < x) with g | g
              · exact absurd (Nat.lt_succ_self k) (hn k (hin g))
              · exact Rat.le_antisymm (Rat.not_lt.mp g) hx0
            grind
        obtain ⟨b0, hb0, hb0'⟩ := hex
        obtain ⟨w, b, e4, hw, hF⟩ := bestU_ex (s := s) (posD_asc p) hb0 hb0'
        rw [e4]
        simp only []
        have key : ∀ v : Rat, (∀ b ∈ posD p, b < k + 1 → v ≤ U s b (k + 1)) → t + w * (dy s k).am - sumG s u + v * (l + x - (dy s k).am) ≤ c' - gS s p (k + 1) := fun v h => by
          have h1 := hv w fun b' hb' hk' => by rw [hw]; exact (hF.2.2 b' hb' (by omega)).2
          have h2 := h b hF.1 (by have := hF.2.1; omega)
          rw [hU b hF.1 (by have := hF.2.1; omega), ← hw] at h2
          have h3 := Rat.mul_le_mul_of_nonneg_right h2 hl0
          have h4 : w * x ≤ (dy s k).pr * x := by
            rcases Classical.em (0 < x) with g | g
            · have := (hF.2.2 k (hin g) (Nat.le_refl _)).2
              rw [← hw, U_self] at this
              exact Rat.mul_le_mul_of_nonneg_right this hx0
            · have : x = 0 := Rat.le_antisymm (Rat.not_lt.mp g) hx0
              rw [this, Rat.mul_zero, Rat.mul_zero]; exact Rat.le_refl
          rw [hc]
          grind
        by_cases hm : b ∈ u
        · rw [if_pos hm]
          exact ⟨_, _, rfl, hl0, hzero, fun v h => key v h⟩
        · rw [if_neg hm]
          refine ⟨_, _, rfl, hl0, hzero, fun v h => ?_⟩
          have := key v h
          rw [sumG_app, sumG_one]
          grind
      · rw [if_neg ha]
        have h0 : (dy s k).am = 0 := Rat.le_antisymm (Rat.not_lt.mp ha) ok.a0
        refine ⟨_, _, rfl, hl0, hzero, fun v h => ?_⟩
        have h1 := hv (v - (dy s k).ke) fun b hb hk' => by
          have := h b hb (by omega)
          rw [hU b hb (by omega)] at this
          grind
        have h4 : (v - (dy s k).ke) * x ≤ (dy s k).pr * x := by
          rcases Classical.em (0 < x) with g | g
          · have := h k (hin g) (by omega)
            rw [hU k (hin g) (by omega), U_self] at this
            exact Rat.mul_le_mul_of_nonneg_right (by grind) hx0
          · have : x = 0 := Rat.le_antisymm (Rat.not_lt.mp g) hx0
            rw [this, Rat.mul_zero, Rat.mul_zero]; exact Rat.le_refl
        rw [hc, h0]
        grind
theorem plan_tab {s : List Day} {p : List Rat} {c : Rat} (O : ScOk s) (h : planC s p = some c) : tabQ s s.length ≤ c := by
  have hp : p.length = s.length := by
    rcases Classical.em (p.length = s.length) with g | g
    · exact g
    · unfold planC at h; rw [if_neg g] at h; cases h
  rw [planC_st hp] at h
  cases e : stP s p s.length with
  | none => rw [e] at h; cases h
  | some v =>
    obtain ⟨l, c'⟩ := v
    rw [e] at h
    injection h with h
    simp only [] at h
    subst h
    obtain ⟨t, u, ec, hl, _, hv⟩ := plan_low O hp s.length l c' (Nat.le_refl _) e
    have h1 := hv 0 fun b hb hk => U_nn O hk _ (Nat.le_of_lt hk) (Nat.le_refl _)
    rw [Rat.zero_mul, ← gS_eq, ← hp] at h1
    have hu := costN_inv (posD_asc p) _ t u ec
    have h2 := sumG_sub O u (posD p) hu.2 (fun b hb => (hu.1 b hb).2) (fun k hk => by have := (posD_mem.mp hk).1; omega)
    have h3 := tab_cost O (posD_asc p) s.length s.length t u (Nat.le_refl _) (Nat.le_refl _) ec
    have h4 : sumG s (posD p) = sumG s ((List.range p.length).filter fun k => decide (0 < p.getD k 0)) := rfl
    grind
theorem sumA_cons (s : List Day) (a : Nat) (l : List Nat) : sumA s (a :: l) = (dy s a).am + sumA s l := by
  unfold sumA
  rw [List.map_cons, List.sum_cons]
theorem sumA_nn {s : List Day} (O : ScOk s) (b : Nat) : ∀ m, b + m ≤ s.length → 0 ≤ sumA s (List.range' b m)
  | 0, _ => Rat.le_refl
  | m + 1, h => by
    rw [List.range'_succ, sumA_cons]
    have ih := sumA_nn O (b + 1) m (by omega)
    have := (dy_ok O (k := b) (by omega)).a0
    grind
theorem none_iff {s : List Day} (O : ScOk s) : ∀ m b, b + m ≤ s.length → (noneN s b m = true ↔ ¬ 0 < sumA s (List.range' b m))
  | 0, b, _ => ⟨fun _ h => absurd h (by show ¬ (0:Rat) < 0; decide), fun _ => rfl⟩
  | m + 1, b, h => by
    have ih := none_iff O m (b + 1) (by omega)
    have nn := sumA_nn O (b + 1) m (by omega)
    have a0 := (dy_ok O (k := b) (by omega)).a0
    have e : noneN s b (m + 1) = (decide ((dy s b).am = 0) && noneN s (b + 1) m) := by
      unfold noneN
      rw [List.range'_succ, List.all_cons]
    rw [e, Bool.and_eq_true, ih, List.range'_succ, sumA_cons, decide_eq_true_iff]
    constructor
    · rintro ⟨h1, h2⟩ h3
      rw [h1] at h3
      grind
    · intro h1
      exact ⟨by grind, by grind⟩
/-- a plan that buys on b for b .. b+m-1 and nothing else there -/
theorem block_st {s : List Day} {p : List Rat} (O : ScOk s) {b m : Nat} {c : Rat} (hm : 1 ≤ m) (h : b + m ≤ s.length) (e : stP s p b = some (0, c)) (h1 : p.getD b 0 = sumA s (List.range' b m)) (h2 : ∀ k, b < k → k < b + m → p.getD k 0 = 0) :
    ∀ r, 1 ≤ r → r ≤ m → stP s p (b + r) = some (sumA s (List.range' (b + r) (m - r)), c + (if 0 < sumA s (List.range' b m) then (dy s b).go else 0) + blkN s b r + U s b (b + r) * sumA s (List.range' (b + r) (m - r)))
  | 0, h, _ => by omega
  | 1, _, _ => by
    have nn := sumA_nn O b m h
    have n1 := sumA_nn O (b + 1) (m - 1) (by omega)
    have es : sumA s (List.range' b m) = (dy s b).am + sumA s (List.range' (b + 1) (m - 1)) := by
      rw [← sumA_cons, ← List.range'_succ, show m - 1 + 1 = m by omega]
    rw [stP_next, e]
    simp only []
    rw [h1, if_neg (Rat.not_lt.mpr nn), if_neg (by rw [Rat.not_lt, es]; grind)]
    have hb1 : blkN s b 1 = (dy s b).am * (dy s b).pr := by
      rw [blk_next, Nat.add_zero, U_self]
      show 0 + _ = _
      rw [Rat.zero_add]
    rw [hb1, U_next s (Nat.le_refl b), U_self]
    rw [Option.some.injEq, Prod.mk.injEq]
    refine ⟨by grind, ?_⟩
    by_cases g : 0 < sumA s (List.range' b m)
    · rw [if_pos g, if_pos g, es]; grind
    · rw [if_neg g, if_neg g]
      have z : sumA s (List.range' b m) = 0 := Rat.le_antisymm (Rat.not_lt.mp g) nn
      have a0 := (dy_ok O (k := b) (by omega)).a0
      have z1 : (dy s b).am = 0 := by grind
      have z2 : sumA s (List.range' (b + 1) (m - 1)) = 0 := by grind
      rw [z, z1, z2]
      grind
  | r + 2, _, hr => by
    have ih := block_st O hm h e h1 h2 (r + 1) (by omega) (by omega)
    have n1 := sumA_nn O (b + (r + 2)) (m - (r + 2)) (by omega)
    have es : sumA s (List.range' (b + (r + 1)) (m - (r + 1))) = (dy s (b + (r + 1))).am + sumA s (List.range' (b + (r + 2)) (m - (r + 2))) := by
      rw [show b + (r + 2) = b + (r + 1) + 1 by omega, ← sumA_cons, ← List.range'_succ, show m - (r + 2) + 1 = m - (r + 1) by omega]
    rw [show b + (r + 2) = b + (r + 1) + 1 by omega, stP_next, ih, show b + (r + 1) + 1 = b + (r + 2) by omega]
    simp only []
    rw [h2 (b + (r + 1)) (by omega) (by omega), if_neg (show ¬ (0 : Rat) < 0 by decide), if_neg (by rw [Rat.not_lt, es]; grind), if_neg (show ¬ (0 : Rat) < 0 by decide)]
    have hb : blkN s b (r + 2) = blkN s b (r + 1) + (dy s (b + (r + 1))).am * U s b (b + (r + 1)) := blk_next s b (r + 1)
    have hu : U s b (b + (r + 2)) = U s b (b + (r + 1)) + (dy s (b + (r + 1))).ke := U_next s (by omega : b ≤ b + (r + 1))
    rw [hb, hu, Option.some.injEq, Prod.mk.injEq, es]
    exact ⟨by grind, by grind⟩
theorem block_end {s : List Day} {p : List Rat} (O : ScOk s) {b m : Nat} {c : Rat} (hm : 1 ≤ m) (h : b + m ≤ s.length) (e : stP s p b = some (0, c)) (h1 : p.getD b 0 = sumA s (List.range' b m)) (h2 : ∀ k, b < k → k < b + m → p.getD k 0 = 0) :
    stP s p (b + m) = some (0, c + blockQ s b m) := by
  have := block_st O hm h e h1 h2 m hm (Nat.le_refl _)
  rw [this, Nat.sub_self]
  rw [Option.some.injEq, Prod.mk.injEq]
  refine ⟨rfl, ?_⟩
  rw [show sumA s (List.range' (b + m) 0) = 0 from rfl, Rat.mul_zero]
  unfold blockQ
  by_cases g : noneN s b m = true
  · rw [if_pos g, if_neg ((none_iff O m b h).mp g), blk_zero s b m g]
    grind
  · rw [if_neg g]
    have : 0 < sumA s (List.range' b m) := by
      rcases Classical.em (0 < sumA s (List.range' b m)) with q | q
      · exact q
      · exact absurd ((none_iff O m b h).mpr q) g
    rw [if_pos this]
    grind
theorem setD_at (p : List Rat) (k : Nat) (x : Rat) (h : k < p.length) : (p.set k x).getD k 0 = x := by
  rw [List.getD_eq_getElem?_getD, List.getElem?_set_self h]; rfl
theorem setD_off (p : List Rat) {k i : Nat} (x : Rat) (h : k ≠ i) : (p.set k x).getD i 0 = p.getD i 0 := by
  rw [List.getD_eq_getElem?_getD, List.getElem?_set_ne h, ← List.getD_eq_getElem?_getD]
theorem planB_ok {s : List Day} (O : ScOk s) : ∀ fuel j (p : List Rat), j ≤ fuel → j ≤ s.length → p.length = s.length → (∀ k, k < j → p.getD k 0 = 0) →
    (planB s fuel j p).length = s.length ∧ (∀ k, j ≤ k → (planB s fuel j p).getD k 0 = p.getD k 0) ∧ stP s (planB s fuel j p) j = some (0, tabQ s j) ∧ ∀ k, k < j → (planB s fuel j p).getD k 0 ≠ 0 → ∃ c, stP s (planB s fuel j p) k = some (0, c)
  | fuel, 0, p, _, _, hp, _ => by
    have e : planB s fuel 0 p = p := by cases fuel <;> rfl
    rw [e]
    refine ⟨hp, fun _ _ => rfl, ?_, fun k h => by omega⟩
    rw [tab_0]; rfl
  | 0, j + 1, _, h, _, _, _ => by omega
  | fuel + 1, j + 1, p, hf, hj, hp, hz => by
    have hlt := fst_lt (by omega : 1 ≤ j + 1) hj
    have ht := tab_eq s (by omega : 1 ≤ j + 1) hj
    have e : planB s (fuel + 1) (j + 1) p = planB s fuel (fstN s (j + 1)) (p.set (fstN s (j + 1)) (p.getD (fstN s (j + 1)) 0 + sumA s (List.range' (fstN s (j + 1)) (j + 1 - fstN s (j + 1))))) := by
      conv => lhs; unfold planB
      rw [if_neg (by omega)]
      rfl
    rw [e]
    generalize fstN s (j + 1) = i at hlt ht
    rw [hz i hlt, Rat.zero_add]
    have hil : i < p.length := by omega
    obtain ⟨i1, i2, i3, i4⟩ := planB_ok O fuel i (p.set i (sumA s (List.range' i (j + 1 - i)))) (by omega) (by omega) (by rw [List.length_set]; exact hp) (fun k hk => by
      rw [setD_off _ _ (by omega)]; exact hz k (by omega))
    generalize planB s fuel i (p.set i (sumA s (List.range' i (j + 1 - i)))) = F at i1 i2 i3 i4
    have hi : F.getD i 0 = sumA s (List.range' i (j + 1 - i)) := by rw [i2 i (Nat.le_refl _), setD_at _ _ _ hil]
    have hmid : ∀ k, i < k → k < j + 1 → F.getD k 0 = 0 := fun k h1 h2 => by rw [i2 k (by omega), setD_off _ _ (by omega), hz k h2]
    refine ⟨i1, fun k hk => ?_, ?_, fun k hk hne => ?_⟩
    · rw [i2 k (by omega), setD_off _ _ (by omega)]
    · have := block_end (p := F) O (by omega : 1 ≤ j + 1 - i) (by omega) i3 hi (fun k h1 h2 => hmid k h1 (by omega))
      rw [show i + (j + 1 - i) = j + 1 by omega] at this
      rw [this, ht]
    · rcases Nat.lt_trichotomy k i with c | c | c
      · exact i4 k c hne
      · subst c; exact ⟨_, i3⟩
      · exact absurd (hmid k c hk) hne
theorem pln_ok {s : List Day} (O : ScOk s) : (plnQ s).length = s.length ∧ stP s (plnQ s) s.length = some (0, tabQ s s.length) ∧ ∀ k, k < s.length → (plnQ s).getD k 0 ≠ 0 → ∃ c, stP s (plnQ s) k = some (0, c) := by
  have := planB_ok O s.length s.length (List.replicate s.length 0) (Nat.le_refl _) (Nat.le_refl _) (by rw [List.length_replicate]) (fun k hk => by
    rw [List.getD_eq_getElem?_getD, List.getElem?_replicate, if_pos hk]; rfl)
  exact ⟨this.1, this.2.2.1, this.2.2.2⟩
theorem pln_cost {s : List Day} (O : ScOk s) : planC s (plnQ s) = some (tabQ s s.length) := by
  have := pln_ok O
  rw [planC_st this.1, this.2.1]
  rfl
/-- left is bought less needed -/
theorem st_left {s : List Day} {p : List Rat} : ∀ k n l c l' c', stP s p k = some (l, c) → stP s p (k + n) = some (l', c') → (∀ x, k < x → x < k + n → p.getD x 0 = 0) → 1 ≤ n → l' + sumA s (List.range' k n) = l + p.getD k 0
  | k, 0, l, c, l', c', _, _, _, h => by omega
  | k, 1, l, c, l', c', e, e2, hz, _ => by
    rw [stP_next, e] at e2
    simp only [] at e2
    split at e2
    · cases e2
    · split at e2
      · cases e2
      · injection e2 with e2
        injection e2 with e3 e4
        rw [← e3, List.range'_succ, sumA_cons, show sumA s (List.range' (k + 1) 0) = 0 from rfl]
        grind
  | k, n + 2, l, c, l', c', e, e2, hz, _ => by
    rw [show k + (n + 2) = k + (n + 1) + 1 by omega, stP_next] at e2
    cases e5 : stP s p (k + (n + 1)) with
    | none => rw [e5] at e2; cases e2
    | some v =>
      obtain ⟨l1, c1⟩ := v
      have ih := st_left k (n + 1) l c l1 c1 e e5 (fun x h1 h2 => hz x h1 (by omega)) (by omega)
      rw [e5] at e2
      simp only [] at e2
      rw [hz (k + (n + 1)) (by omega) (by omega)] at e2
      split at e2
      · cases e2
      · split at e2
        · cases e2
        · injection e2 with e2
          injection e2 with e3 e4
          have : sumA s (List.range' k (n + 2)) = sumA s (List.range' k (n + 1)) + (dy s (k + (n + 1))).am := by
            unfold sumA
            rw [show n + 2 = (n + 1) + 1 by omega, List.range'_concat, List.map_append, List.sum_append]
            simp [Rat.add_zero]
          rw [this, ← e3]
          grind
theorem asc_gap {l : List Nat} (h : l.Pairwise (· < ·)) {k x : Nat} (hk : k < l.length) (hx : x ∈ l) (hlt : l.getD k 0 < x) : k + 1 < l.length ∧ l.getD (k + 1) 0 ≤ x := by
  obtain ⟨m, hm, rfl⟩ := List.getElem_of_mem hx
  rw [List.getD_eq_getElem?_getD, List.getElem?_eq_getElem hk] at hlt
  rw [List.pairwise_iff_getElem] at h
  have hkm : k < m := by
    rcases Nat.lt_trichotomy k m with c | c | c
    · exact c
    · subst c; exact absurd hlt (Nat.lt_irrefl _)
    · have := h m k hm hk c
      have h3 : l[k] < l[m] := hlt
      omega
  refine ⟨by omega, ?_⟩
  rw [List.getD_eq_getElem?_getD, List.getElem?_eq_getElem (by omega)]
  show l[k + 1] ≤ l[m]
  rcases Nat.lt_or_ge (k + 1) m with c | c
  · exact Nat.le_of_lt (h (k + 1) m (by omega) hm c)
  · have : m = k + 1 := by omega
    subst this
    exact Nat.le_refl _
theorem st_nn {s : List Day} {p : List Rat} {v : Rat × Rat} : ∀ n, stP s p n = some v → ∀ k, k < n → 0 ≤ p.getD k 0
  | 0, _, k, h => by omega
  | n + 1, e, k, hk => by
    rw [stP_next] at e
    cases e1 : stP s p n with
    | none => rw [e1] at e; cases e
    | some w =>
      rcases Nat.lt_or_ge k n with c | c
      · exact st_nn n e1 k c
      · have : k = n := by omega
        subst this
        rw [e1] at e
        obtain ⟨l, c⟩ := w
        simp only [] at e
        split at e
        · cases e
        · rename_i g; exact Rat.not_lt.mp g
theorem st_pre {s : List Day} {p : List Rat} {v : Rat × Rat} : ∀ n k, stP s p (k + n) = some v → ∃ w, stP s p k = some w
  | 0, k, e => ⟨v, e⟩
  | n + 1, k, e => by
    rw [← Nat.add_assoc, stP_next] at e
    cases e1 : stP s p (k + n) with
    | none => rw [e1] at e; cases e
    | some w => exact st_pre n k e1
theorem pln_blocks {s : List Day} (O : ScOk s) : inBl s (plnQ s) (posD (plnQ s)) = true := by
  obtain ⟨hl, he, hc⟩ := pln_ok O
  generalize plnQ s = p at hl he hc ⊢
  have hnn := st_nn _ he
  have hasc := posD_asc p
  unfold inBl
  rw [List.all_eq_true]
  intro k hk
  rw [List.mem_range] at hk
  rw [decide_eq_true_iff]
  have hd : (posD p).getD k 0 ∈ posD p := by
    rw [List.getD_eq_getElem?_getD, List.getElem?_eq_getElem hk]
    exact List.getElem_mem hk
  have hd2 := posD_mem.mp hd
  have hne : p.getD ((posD p).getD k 0) 0 ≠ 0 := fun e => by rw [e] at hd2; exact absurd hd2.2 (by decide)
  obtain ⟨c, hs⟩ := hc _ (by omega) hne
  have gap : ∀ x, (posD p).getD k 0 < x → x < s.length → p.getD x 0 ≠ 0 → k + 1 < (posD p).length ∧ (posD p).getD (k + 1) 0 ≤ x := fun x h1 h2 h3 =>
    asc_gap hasc hk (posD_mem.mpr ⟨by omega, by
      have := hnn x h2
      rcases Classical.em (0 < p.getD x 0) with g | g
      · exact g
      · exact absurd (Rat.le_antisymm (Rat.not_lt.mp g) this) h3⟩) h1
  by_cases g : k + 1 < (posD p).length
  · rw [if_pos g]
    have hd' : (posD p).getD (k + 1) 0 ∈ posD p := by
      rw [List.getD_eq_getElem?_getD, List.getElem?_eq_getElem g]
      exact List.getElem_mem g
    have hd3 := posD_mem.mp hd'
    have hlt : (posD p).getD k 0 < (posD p).getD (k + 1) 0 := by
      rw [List.pairwise_iff_getElem] at hasc
      have := hasc k (k + 1) hk g (by omega)
      rw [List.getD_eq_getElem?_getD, List.getElem?_eq_getElem hk, List.getD_eq_getElem?_getD, List.getElem?_eq_getElem g]
      exact this
    have hne' : p.getD ((posD p).getD (k + 1) 0) 0 ≠ 0 := fun e => by rw [e] at hd3; exact absurd hd3.2 (by decide)
    obtain ⟨c', hs'⟩ := hc _ (by omega) hne'
    generalize (posD p).getD k 0 = d at *
    generalize (posD p).getD (k + 1) 0 = e at *
    have := st_left d (e - d) 0 c 0 c' hs (by rw [show d + (e - d) = e by omega]; exact hs') (fun x h1 h2 => by
      rcases Classical.em (p.getD x 0 = 0) with q | q
      · exact q
      · have := (gap x h1 (by omega) q).2; omega) (by omega)
    rw [Rat.zero_add, Rat.zero_add] at this
    exact this
  · rw [if_neg g]
    generalize (posD p).getD k 0 = d at *
    have := st_left d (s.length - d) 0 c 0 _ hs (by rw [show d + (s.length - d) = s.length by omega]; exact he) (fun x h1 h2 => by
      rcases Classical.em (p.getD x 0 = 0) with q | q
      · exact q
      · exact absurd (gap x h1 (by omega) q).1 g) (by omega)
    rw [Rat.zero_add, Rat.zero_add] at this
    exact this
end K46

namespace K46
open PySem PySem.Spec PyProof.Rows L2 DL
theorem bz_sumA {s : List Day} (O : ScOk s) : ∀ (l : List Nat) (t : Rat), (∀ k ∈ l, k < s.length) → bz (t + sumA s l) ≤ bz t + 6 * l.length
  | [], t, _ => by
    rw [show sumA s [] = 0 from rfl, Rat.add_zero]
    exact Nat.le_add_right ..
  | k :: l, t, h => by
    have ab := (dy_ok O (h k (List.mem_cons_self ..))).ab
    have a1 := bz_add t (dy s k).am
    have ih := bz_sumA O l (t + (dy s k).am) fun e he => h e (List.mem_cons_of_mem _ he)
    rw [sumA_cons, ← Rat.add_assoc, List.length_cons]
    omega
def Wh (s : List Day) (m : Nat) (E : List Sl) : Prop := ∃ (p : List Rat) (fuel : Nat) (z5 z6 z7 z8 : Sl), E = [.sh (scD s), .ow (tabD s s.length), .ow (fstD s s.length), .sh (.int (m : Nat)), .ow (qL p), z5, z6, z7, z8] ∧ m ≤ s.length ∧ p.length = s.length ∧ m ≤ fuel ∧ planB s fuel m p = plnQ s ∧ ∀ k, bz (p.getD k 0) ≤ 1 + 6 * (s.length - m)
theorem while_ok {DD : DEnds} {s : List Day} (O : ScOk s) (m : Nat) (E : List Sl) (h : Wh s m E)
    (q : ∀ z5 z6 z7 z8, DD.nx [.sh (scD s), .ow (tabD s s.length), .ow (fstD s s.length), .sh (.int 0), .ow (qL (plnQ s)), z5, z6, z7, z8]) :
    dTst (dOp rdGt (dVarO 3) (dC (.int 0))) E fun k => if k = true then b_best_plan_13 { DD with nx := fun E' => ∃ m', m' < m ∧ Wh s m' E', ct := fun E' => ∃ m', m' < m ∧ Wh s m' E', bk := DD.nx } E else DD.nx E := by
  obtain ⟨p, fuel, z5, z6, z7, z8, rfl, hm, hp, hf, hB, hb⟩ := h
  have h6 := O.1
  show (if decide ((0 : Int) < ((m : Nat) : Int)) = true then _ else _)
  rcases Nat.eq_zero_or_pos m with g | g
  · subst g
    rw [if_neg (by simp)]
    have e : planB s fuel 0 p = p := by cases fuel <;> rfl
    rw [e] at hB
    rw [hB]
    exact q z5 z6 z7 z8
  · rw [if_pos (by rw [decide_eq_true_iff]; omega)]
    obtain ⟨fu, rfl⟩ : ∃ fu, fuel = fu + 1 := ⟨fuel - 1, by omega⟩
    have hlt := fst_lt g hm
    unfold b_best_plan_13
    unfold dSeq dFor dRng dConsA dOp dVarO
    refine rdIx_fst hm ?_
    have e1 : (((m : Nat) : Int) - ((fstN s m : Nat) : Int)).toNat = m - fstN s m := by omega
    refine ⟨⟨by omega, by omega⟩, ⟨by omega, by omega⟩, ?_⟩
    rw [e1, rng_nat]
    have hbm := hb (fstN s m)
    have hk : ∀ k ∈ List.range' (fstN s m) (m - fstN s m), k < s.length := fun k hk => by
      rw [List.mem_range'_1] at hk; omega
    refine add_loop O g hm _ p z7 hp hk (by rw [List.length_range']; omega) fun z7 => ?_
    unfold r_best_plan_16 dAsg dOp dVarO
    refine rdIx_fst hm ?_
    refine ⟨fstN s m, hlt, _, fu, z5, z6, z7, z8, rfl, by omega, by rw [List.length_set]; exact hp, by omega, ?_, fun k => ?_⟩
    · rw [← hB]
      conv => rhs; unfold planB
      rw [if_neg (by omega)]
      rfl
    · have hs := bz_sumA O (List.range' (fstN s m) (m - fstN s m)) (p.getD (fstN s m) 0) hk
      rw [List.length_range'] at hs
      have hkk := hb k
      rcases Classical.em (fstN s m = k) with c | c
      · subst c
        rw [setD_at _ _ _ (by omega)]
        omega
      · rw [setD_off _ _ c]
        omega
end K46

namespace K46
open PySem PySem.Spec PyProof.Rows L2 DL
theorem flat_one (x : D) : ∀ n, (List.replicate n [x]).flatten = List.replicate n x
  | 0 => rfl
  | n + 1 => by rw [List.replicate_succ, List.flatten_cons, flat_one x n]; rfl
theorem at_last {ds : List D} {x : D} : atD (ds ++ [x]) (-1) = some x := by
  show (if 0 + 1 ≤ (ds ++ [x]).length then (ds ++ [x])[(ds ++ [x]).length - (0 + 1)]? else none) = some x
  simp
theorem tab_init (s : List Day) : ∃ l, (tabL s s.length).map (fun x => qD x.1) = l ++ [qD (tabQ s s.length)] := by
  have h := congrArg (List.map qD) (tab_map s)
  rw [List.map_map] at h
  refine ⟨(List.range s.length).map fun j => qD (tabQ s j), ?_⟩
  rw [show ((tabL s s.length).map fun x => qD x.1) = (tabL s s.length).map (qD ∘ fun x => x.1) from rfl, h, List.range_succ, List.map_append, List.map_append, List.map_map]
  rfl
theorem pure_best_plan : PureD p_best_plan S_best_plan 9 1 := by
  rintro ds Q ⟨s, rfl, O, q⟩
  have h6 := O.1
  have hn : (s.map dayD).length = s.length := List.length_map ..
  have while0 : ∀ z3 z5 z6 z7 z8, r_best_plan_12 (fnEnds Q) [.sh (scD s), .ow (tabD s s.length), .ow (fstD s s.length), z3, .ow (qL (List.replicate s.length 0)), z5, z6, z7, z8] := fun z3 z5 z6 z7 z8 => by
    show r_best_plan_13 (fnEnds Q) [.sh (scD s), .ow (tabD s s.length), .ow (fstD s s.length), .sh (.int (((s.map dayD).length : Nat) : Int)), .ow (qL (List.replicate s.length 0)), z5, z6, z7, z8]
    rw [hn]
    refine ⟨Wh s, ⟨s.length, _, s.length, z5, z6, z7, z8, rfl, Nat.le_refl _, by rw [List.length_replicate], Nat.le_refl _, rfl, fun k => ?_⟩, fun m E h => while_ok (DD := { fnEnds Q with nx := r_best_plan_17 (fnEnds Q) }) O m E h fun z5 z6 z7 z8 => ?_⟩
    · have := bz0
      rw [List.getD_eq_getElem?_getD, List.getElem?_replicate]
      split <;> (simp only [Option.getD_some, Option.getD_none]; omega)
    · obtain ⟨l, hl⟩ := tab_init s
      show rdIx (tabD s s.length) (.int (-1)) fun d => Q (.tup [d, qL (plnQ s), tabD s s.length])
      unfold tabD
      show (match atD ((tabL s s.length).map fun x => qD x.1) (-1) with | some d => Q (.tup [d, qL (plnQ s), .lst ((tabL s s.length).map fun x => qD x.1)]) | none => False)
      have e : atD ((tabL s s.length).map fun x => qD x.1) (-1) = some (qD (tabQ s s.length)) := by
        rw [hl]; exact at_last
      rw [e]
      exact q
  unfold p_best_plan r_best_plan_2 r_best_plan_3
  refine ⟨rfl, ⟨by decide, by decide⟩, ⟨by omega, by rw [hn]; omega⟩, ?_⟩
  have e1 : ((((s.map dayD).length : Nat) : Int) + 1 - 1).toNat = s.length := by rw [hn]; omega
  rw [e1, rangeD_r]
  refine outer_loop (DD := { fnEnds Q with nx := r_best_plan_11 (fnEnds Q) }) (s := s) (c4 := .no) O (fun z3 z5 z6 z8 => ?_) s.length 0 .no .no .no .no (by omega)
  unfold r_best_plan_11
  refine ⟨by omega, by rw [hn]; omega, by rw [hn]; simp; omega, ?_⟩
  have e2 : (((s.map dayD).length : Nat) : Int).toNat = s.length := by rw [hn]; omega
  rw [e2, flat_one]
  have := while0 z3 z5 z6 .no z8
  rw [show qL (List.replicate s.length 0) = .lst (List.replicate s.length c_NOUGHT) by unfold qL; rw [List.map_replicate]; rfl] at this
  exact this
end K46

namespace K46
open PySem PySem.Spec PyProof.Rows L2 DL
def Am (x : Rat) : Prop := bz x ≤ 40
theorem fill_loop {DD : DEnds} {c0 c2 c3 c4 c5 c8 c9 c10 : Sl} : ∀ (l : List Day) (p : List Rat) (z7 : Sl), (∀ d ∈ l, DayOk d) → p.length + l.length ≤ 6 → (∀ x ∈ p, Am x) → (∀ p z7, p.length ≤ 6 → (∀ x ∈ p, Am x) → DD.nx [c0, .sh .pool, c2, c3, c4, c5, .ow (qL p), z7, c8, c9, c10]) →
    forL (gN 7) b_law_first_part_7 DD (l.map dayD) [c0, .sh .pool, c2, c3, c4, c5, .ow (qL p), z7, c8, c9, c10]
  | [], p, z7, _, hn, hp, q => q p z7 (by simpa using hn) hp
  | d :: l, p, z7, hd, hn, hp, q => by
    rw [List.length_cons] at hn
    have ih := fun x (hx : Am x) => fill_loop (DD := DD) (c0 := c0) (c2 := c2) (c3 := c3) (c4 := c4) (c5 := c5) (c8 := c8) (c9 := c9) (c10 := c10) l (p ++ [x]) (.sh (dayD d)) (fun e he => hd e (List.mem_cons_of_mem _ he)) (by simp; omega) (fun y hy => by
      rcases List.mem_append.mp hy with g | g
      · exact hp y g
      · rw [List.mem_singleton] at g; subst g; exact hx) q
    have O := hd d (List.mem_cons_self ..)
    simp only [List.map_cons, forL, gN]
    generalize forL (gN 7) b_law_first_part_7 DD (l.map dayD) = F at ih ⊢
    have b2 : bz (2 : Rat) ≤ 3 := by decide
    have o1 := O.ab
    have a1 := bz_mul d.am 2
    unfold b_law_first_part_7
    refine ⟨d.am, 2, rfl, by omega, 20, 2, rfl, by omega, by omega, by omega, fun f hf hfb => ?_⟩
    refine ⟨_, rfl, by simp, by simp, fun e he => ?_⟩
    have ta : ∃ x, e = qD x ∧ Am x := by
      simp only [List.mem_cons, List.not_mem_nil, or_false] at he
      rcases he with rfl | rfl | rfl | rfl | rfl
      · exact ⟨d.am, rfl, by unfold Am; omega⟩
      · exact ⟨d.am, rfl, by unfold Am; omega⟩
      · exact ⟨0, rfl, by unfold Am; decide⟩
      · exact ⟨d.am * 2, rfl, by unfold Am; omega⟩
      · exact ⟨f, rfl, by unfold Am; omega⟩
    clear he
    obtain ⟨x, rfl, hx⟩ := ta
    refine ⟨by rw [List.length_map]; simp only [sizeLine]; omega, ?_⟩
    have h := ih x hx
    simp only [qL, List.map_append, List.map_cons, List.map_nil] at h
    exact h
theorem mem_set {p : List Rat} {n : Nat} {x : Rat} (hp : ∀ y ∈ p, Am y) (hx : Am x) : ∀ y ∈ p.set n x, Am y := fun y hy => by
  rcases List.mem_or_eq_of_mem_set hy with g | g
  · exact hp y g
  · exact g ▸ hx
theorem okD_qL (p : List Rat) (n : Nat) : okD (n + 2) (qL p) = true := by
  show (p.map qD).all (okD (n + 1)) = true
  rw [List.all_eq_true]
  intro d hd
  obtain ⟨x, _, rfl⟩ := List.mem_map.mp hd
  exact okD_qd n x
theorem deqL_q : ∀ p : List Rat, deqL (p.map qD) (p.map qD) = true
  | [] => rfl
  | x :: p => by
    show (deq (qD x) (qD x) && deqL (p.map qD) (p.map qD)) = true
    rw [deq_qd, deqL_q p, decide_eq_true rfl]; rfl
theorem deq_qL (p : List Rat) : deq (qL p) (qL p) = true := deqL_q p
theorem sm_optQ (x : Option Rat) : smR 6 (optQ x) (optQ x) := by
  cases x with
  | none => exact sm_non 5
  | some r => exact sm_qD 4 r
/-- a plan is tried -/
theorem try_plan {DD : DEnds} {s : List Day} {p : List Rat} {c0 c2 c4 c5 z7 z8 z9 z10 : Sl} (O : ScOk s) (hp : PlOk p) (k : ∀ z6 z9, DD.nx [c0, .sh .pool, c2, .sh (scD s), c4, c5, z6, z7, z8, z9, z10]) :
    r_law_first_part_16 DD [c0, .sh .pool, c2, .sh (scD s), c4, c5, .ow (qL p), z7, z8, z9, z10] := by
  unfold r_law_first_part_16 r_law_first_part_17
  refine ⟨s, p, rfl, O, hp, s, p, rfl, O, hp, _, _, rfl, sm_optQ _, ?_⟩
  refine ⟨okD_qL p 58, okD_qL p 58, ?_⟩
  rw [show deq (D.lst (List.map qD p)) (qL p) = true from deq_qL p]
  exact k _ _
theorem draw_plan {DD : DEnds} {s : List Day} {p : List Rat} {c0 c2 c4 c5 z7 z8 z9 z10 : Sl} (O : ScOk s) (hp : ∀ x ∈ p, Am x) (hl : p.length ≤ 6) (k : ∀ z6 z7 z8 z9 z10, DD.nx [c0, .sh .pool, c2, .sh (scD s), c4, c5, z6, z7, z8, z9, z10]) :
    r_law_first_part_9 DD [c0, .sh .pool, c2, .sh (scD s), c4, c5, .ow (qL p), z7, z8, z9, z10] := by
  have hn : (p.map qD).length = p.length := List.length_map ..
  have go := fun {p : List Rat} {z8 : Sl} (hp : PlOk p) => try_plan (DD := DD) (c0 := c0) (c2 := c2) (c4 := c4) (c5 := c5) (z7 := z7) (z8 := z8) (z9 := z9) (z10 := z10) O hp (fun z6 z9 => k z6 z7 z8 z9 z10)
  have m11 : ∀ p : List Rat, (∀ x ∈ p, Am x) → p.length ≤ 6 → r_law_first_part_11 DD [c0, .sh .pool, c2, .sh (scD s), c4, c5, .ow (qL p), z7, z8, z9, z10] := fun p hp hl => by
    have hn : (p.map qD).length = p.length := List.length_map ..
    unfold r_law_first_part_11 r_law_first_part_12
    generalize r_law_first_part_16 = R at go ⊢
    refine ⟨8, rfl, by decide, by decide, fun v v0 v8 => ?_⟩
    refine ⟨rfl, rfl, ite_ct (fun _ => ?_) (fun _ => ⟨rfl, rfl, ite_ct (fun _ => ?_) (fun _ => ?_)⟩)⟩
    · refine ⟨by rw [hn]; simp only [sizeLine]; omega, ?_⟩
      have h := go (p := p ++ [0]) (z8 := .sh (.int v)) ⟨by simp; omega, fun x hx => by
        rcases List.mem_append.mp hx with g | g
        · exact hp x g
        · rw [List.mem_singleton] at g; subst g; decide⟩
      simp only [qL, List.map_append, List.map_cons, List.map_nil] at h
      exact h
    · refine ite_ct (fun g => ?_) (fun _ => go ⟨by omega, hp⟩)
      have g1 : (0 : Int) < (((p.map qD).length : Nat) : Int) := of_decide_eq_true g
      refine ⟨_, rfl, g1, by rw [hn]; omega, fun w w0 w1 => ?_⟩
      obtain ⟨j, rfl⟩ : ∃ j : Nat, w = j := ⟨w.toNat, by omega⟩
      show (match ixN (p.map qD).length ((j : Nat) : Int) with | some n => _ | none => False)
      rw [ixN_nat (by omega)]
      have h := go (p := p.set j (mkRat (-1) 2)) (z8 := .sh (.int v)) ⟨by rw [List.length_set]; omega, mem_set hp (by unfold Am; decide)⟩
      simp only [qL, List.map_set] at h
      exact h
    · exact go ⟨by omega, hp⟩
  unfold r_law_first_part_9
  generalize r_law_first_part_11 = R at m11 ⊢
  refine ite_ct (fun g => ?_) (fun _ => m11 p hp hl)
  have g1 : (0 : Int) < (((p.map qD).length : Nat) : Int) := of_decide_eq_true g
  refine ⟨3, rfl, by decide, by decide, fun v v0 v8 => ?_⟩
  refine ⟨rfl, rfl, ite_ct (fun _ => ?_) (fun _ => m11 p hp hl)⟩
  show (match ixN (p.map qD).length ((0 : Nat) : Int) with | some n => _ | none => False)
  rw [ixN_nat (by omega)]
  have h := m11 (p.set 0 100) (mem_set hp (by unfold Am; decide)) (by rw [List.length_set]; exact hl)
  simp only [qL, List.map_set] at h
  exact h
theorem pure_law_first_part (Q : D → Prop) (q : Q (.bl true)) : p_law_first_part ⟨fun _ => False, Q, fun _ => False, fun _ => False⟩ (.no :: .sh .pool :: List.replicate 9 .no) := by
  refine ⟨⟨by decide, by decide⟩, forL_all (E0 := fun E => ∃ z2 z3 z4 z5 z6 z7 z8 z9 z10, E = [.no, .sh .pool, z2, z3, z4, z5, z6, z7, z8, z9, z10]) _ _ ⟨_, _, _, _, _, _, _, _, _, rfl⟩ (fun d hd E N hE kN => ?_) (fun E _ => q)⟩
  obtain ⟨z2, z3, z4, z5, z6, z7, z8, z9, z10, rfl⟩ := hE
  unfold b_law_first_part_2 r_law_first_part_4 r_law_first_part_5 r_law_first_part_19
  refine ⟨rfl, 0, 6, rfl, by omega, by omega, fun s O hs => ?_⟩
  have h6 := O.1
  have hn : (s.map dayD).length = s.length := List.length_map ..
  refine ⟨⟨by decide, by decide⟩, forL_all (E0 := fun E => ∃ z4 z5 z6 z7 z8 z9 z10, E = [.no, .sh .pool, .sh d, .sh (scD s), z4, z5, z6, z7, z8, z9, z10]) _ _ ⟨_, _, _, _, _, _, _, rfl⟩ (fun d' hd' E N' hE kN' => ?_) (fun E hE => ?_)⟩
  · obtain ⟨z4, z5, z6, z7, z8, z9, z10, rfl⟩ := hE
    unfold b_law_first_part_5 r_law_first_part_7
    refine fill_loop s [] _ O.2 (by simpa using h6) (fun _ h => nomatch h) fun p z7 hl hp => ?_
    exact draw_plan O hp hl fun _ _ _ _ _ => kN' _ ⟨_, _, _, _, _, _, _, rfl⟩
  · obtain ⟨z4, z5, z6, z7, z8, z9, z10, rfl⟩ := hE
    refine ⟨rngB_len (n := (s.map dayD).length) (by omega), ?_⟩
    have e1 : ((((s.map dayD).length : Nat) : Int)).toNat = s.length := by rw [hn]; omega
    rw [e1]
    refine forL_all (E0 := fun E => ∃ z5 z10, E = [.no, .sh .pool, .sh d, .sh (scD s), z4, z5, z6, z7, z8, z9, z10]) _ _ ⟨_, _, rfl⟩ (fun d' hd' E N' hE kN' => ?_) (fun E hE => ?_)
    · obtain ⟨z5, z10, rfl⟩ := hE
      obtain ⟨b, hb, rfl⟩ := mem_rangeD hd'
      unfold b_law_first_part_19
      refine ⟨rngB_len (n := b) (by omega), rngB_len (n := (s.map dayD).length) (by omega), ?_⟩
      refine forL_all (E0 := fun E => ∃ z10, E = [.no, .sh .pool, .sh d, .sh (scD s), z4, .sh (.int (b : Nat)), z6, z7, z8, z9, z10]) _ _ ⟨_, rfl⟩ (fun d' hd' E N2 hE kN2 => ?_) (fun E hE => ?_)
      · obtain ⟨z10, rfl⟩ := hE
        simp only [rangeD, List.mem_map, List.mem_range] at hd'
        obtain ⟨i, hi, rfl⟩ := hd'
        rw [hn] at hi
        unfold b_law_first_part_20
        have e2 : ((b : Nat) : Int) + ((i : Nat) : Int) = ((b + i : Nat) : Int) := by omega
        rw [e2]
        refine ⟨s, b, i, rfl, O, hb, by omega, s, b, i, rfl, O, hb, by omega, _, _, rfl, sm_qD 4 _, ?_⟩
        exact kN2 _ ⟨_, rfl⟩
      · obtain ⟨z10, rfl⟩ := hE
        exact kN' _ ⟨_, _, rfl⟩
    · obtain ⟨z5, z10, rfl⟩ := hE
      exact kN _ ⟨_, _, _, _, _, _, _, _, _, rfl⟩
end K46

namespace K46
open PySem PySem.Spec PyProof.Rows L2 DL
theorem bz_planQ : ∀ (s : List Day) (p : List Rat) (l c x : Rat), (∀ d ∈ s, DayOk d) → (∀ y ∈ p, bz y ≤ 40) → bz l + 46 * s.length ≤ 300 → planQ s p l c = some x → bz x ≤ bz c + 400 * s.length
  | [], _, _, c, x, _, _, _, e => by cases e; simp
  | _ :: _, [], _, c, x, _, _, _, e => by cases e; exact Nat.le_add_right ..
  | d :: s, y :: p, l, c, x, hs, hp, hl, e => by
    rw [List.length_cons] at hl ⊢
    have O := hs d (List.mem_cons_self ..)
    have bx := hp y (List.mem_cons_self ..)
    have o1 := O.ab
    have o2 := O.gb
    have o3 := O.pb
    have o4 := O.kb
    have a1 := bz_add l y
    have a2 := bz_sub (l + y) d.am
    have a3 := bz_mul d.pr y
    have a4 := bz_add d.go (d.pr * y)
    have a5 := bz_add c (d.go + d.pr * y)
    have a6 := bz_mul d.ke (l + y - d.am)
    have a7 := bz_add (c + (d.go + d.pr * y)) (d.ke * (l + y - d.am))
    have a8 := bz_add c (d.ke * (l + y - d.am))
    unfold planQ at e
    split at e
    · cases e
    · split at e
      · cases e
      · have ih := bz_planQ s p _ _ x (fun e he => hs e (List.mem_cons_of_mem _ he)) (fun e he => hp e (List.mem_cons_of_mem _ he)) (by omega) e
        by_cases g : 0 < y
        · rw [if_pos g] at ih; omega
        · rw [if_neg g, Rat.add_zero] at ih; omega
theorem bz_planC {s : List Day} {p : List Rat} {x : Rat} (O : ScOk s) (hp : PlOk p) (e : planC s p = some x) : bz x ≤ 2500 := by
  unfold planC at e
  split at e
  · have := bz_planQ s p 0 0 x O.2 hp.2 (by have := O.1; have := bz0; omega) e
    have := O.1
    have := bz0
    omega
  · cases e
theorem bz_planB {s : List Day} (O : ScOk s) : ∀ fuel m p, m ≤ s.length → p.length = s.length → (∀ k, bz (p.getD k 0) ≤ 1 + 6 * (s.length - m)) → ∀ k, bz ((planB s fuel m p).getD k 0) ≤ 1 + 6 * s.length
  | 0, m, p, hm, hp, hb, k => by
    have := hb k
    show bz (p.getD k 0) ≤ _
    omega
  | fuel + 1, m, p, hm, hp, hb, k => by
    unfold planB
    rcases Nat.eq_zero_or_pos m with g | g
    · rw [if_pos g]
      have := hb k
      omega
    · rw [if_neg (by omega)]
      have hlt := fst_lt g hm
      refine bz_planB O fuel _ _ (by omega) (by rw [List.length_set]; exact hp) (fun k => ?_) k
      have hk : ∀ k ∈ List.range' (fstN s m) (m - fstN s m), k < s.length := fun k hk => by
        rw [List.mem_range'_1] at hk; omega
      have hs := bz_sumA O (List.range' (fstN s m) (m - fstN s m)) (p.getD (fstN s m) 0) hk
      unfold sumA at hs
      rw [List.length_range'] at hs
      have hbm := hb (fstN s m)
      have hkk := hb k
      rcases Classical.em (fstN s m = k) with c | c
      · subst c
        rw [setD_at _ _ _ (by omega)]
        omega
      · rw [setD_off _ _ c]
        omega
theorem pln_pl {s : List Day} (O : ScOk s) : PlOk (plnQ s) := by
  have h6 := O.1
  refine ⟨by rw [(pln_ok O).1]; omega, fun x hx => ?_⟩
  obtain ⟨k, hk, rfl⟩ := List.getElem_of_mem hx
  have := bz_planB O s.length s.length (List.replicate s.length 0) (Nat.le_refl _) (by rw [List.length_replicate]) (fun k => by
    have := bz0
    rw [List.getD_eq_getElem?_getD, List.getElem?_replicate]
    split <;> (simp only [Option.getD_some, Option.getD_none]; omega)) k
  have e : (planB s s.length s.length (List.replicate s.length 0)).getD k 0 = (plnQ s)[k] := by
    rw [List.getD_eq_getElem?_getD]
    show ((plnQ s)[k]?).getD 0 = _
    rw [List.getElem?_eq_getElem hk]; rfl
  rw [e] at this
  omega
theorem bz_tabQ {s : List Day} (O : ScOk s) : bz (tabQ s s.length) ≤ 2100 := by
  have := bz_tab O s.length (Nat.le_refl _) s.length (Nat.le_refl _)
  have := O.1
  unfold tabQ
  omega
/-- a drawn plan costs no less -/
theorem other_plan {DD : DEnds} {s : List Day} {p : List Rat} {a b : D} {c2 c5 c6 z8 z9 z10 : Sl} (O : ScOk s) (hp : PlOk p) (k : ∀ z7 z8, DD.nx [.no, .sh .pool, c2, .sh (scD s), .sh (.tup [qD (tabQ s s.length), a, b]), c5, c6, z7, z8, z9, z10]) :
    r_law_19 DD [.no, .sh .pool, c2, .sh (scD s), .sh (.tup [qD (tabQ s s.length), a, b]), c5, c6, .ow (qL p), z8, z9, z10] := by
  unfold r_law_19 r_law_20
  refine ⟨s, p, rfl, O, hp, ?_⟩
  have key : dIfS (dAnd (dTst (dOp rdIsNot (dVarO 8) (dC .non))) (dTst (dCall S_law_less (dConsA (dVar 8) (dConsA (dOp rdIx (dVarO 4) (dC (.int 0))) dNilA))))) (dRet (dC (.bl false))) dNext DD
      [.no, .sh .pool, c2, .sh (scD s), .sh (.tup [qD (tabQ s s.length), a, b]), c5, c6, .sh (qL p), .sh (optQ (planC s p)), z9, z10] := by
    cases e : planC s p with
    | none => exact k _ _
    | some x =>
      have h1 := plan_tab O e
      have h2 := bz_planC O hp e
      have h3 := bz_tabQ O
      refine ⟨x, tabQ s s.length, rfl, by omega, ?_⟩
      exact ite_f (decide_eq_false (Rat.not_lt.mpr h1)) (k _ _)
  exact key
theorem pure_law (Q : D → Prop) (q : Q (.bl true)) : p_law ⟨fun _ => False, Q, fun _ => False, fun _ => False⟩ (.no :: .sh .pool :: List.replicate 9 .no) := by
  refine ⟨⟨by decide, by decide⟩, forL_all (E0 := fun E => ∃ z2 z3 z4 z5 z6 z7 z8 z9 z10, E = [.no, .sh .pool, z2, z3, z4, z5, z6, z7, z8, z9, z10]) _ _ ⟨_, _, _, _, _, _, _, _, _, rfl⟩ (fun d hd E N hE kN => ?_) (fun E _ => q)⟩
  obtain ⟨z2, z3, z4, z5, z6, z7, z8, z9, z10, rfl⟩ := hE
  unfold b_law_4 r_law_6 r_law_7
  refine ⟨rfl, 0, 5, rfl, by omega, by omega, fun s O hs => ?_⟩
  have h6 := O.1
  have hn : (s.map dayD).length = s.length := List.length_map ..
  refine ⟨s, rfl, O, ?_⟩
  have e0 : (tabL s s.length).map (fun x => qD x.1) = (List.range (s.length + 1)).map fun j => qD (tabQ s j) := by
    have h := congrArg (List.map qD) (tab_map s)
    rw [List.map_map, List.map_map] at h
    exact h
  rw [e0]
  have r15 : ∀ z5 z9, r_law_15 { fnEnds Q with nx := N, ct := N, bk := r_law_22 (fnEnds Q) } [.no, .sh .pool, .sh d, .sh (scD s), .sh (.tup [qD (tabQ s s.length), qL (plnQ s), .lst ((List.range (s.length + 1)).map fun j => qD (tabQ s j))]), z5, z6, z7, z8, z9, z10] := fun z5 z9 => by
    unfold r_law_15
    refine ⟨⟨by decide, by decide⟩, forL_all (E0 := fun E => ∃ z6 z7 z8 z9 z10, E = [.no, .sh .pool, .sh d, .sh (scD s), .sh (.tup [qD (tabQ s s.length), qL (plnQ s), .lst ((List.range (s.length + 1)).map fun j => qD (tabQ s j))]), z5, z6, z7, z8, z9, z10]) _ _ ⟨_, _, _, _, _, rfl⟩ (fun d' hd' E N' hE kN' => ?_) (fun E hE => ?_)⟩
    · obtain ⟨z6, z7, z8, z9, z10, rfl⟩ := hE
      unfold b_law_15 r_law_17
      have go := fun (p : List Rat) (hp : PlOk p) (z9 z10 : Sl) => other_plan (DD := { fnEnds Q with nx := N', ct := N', bk := fun E => N E }) (a := qL (plnQ s)) (b := .lst ((List.range (s.length + 1)).map fun j => qD (tabQ s j))) (c2 := .sh d) (c5 := z5) (c6 := .sh d') (z8 := z8) (z9 := z9) (z10 := z10) O hp fun _ _ => kN' _ ⟨_, _, _, _, _, rfl⟩
      generalize r_law_19 = R at go ⊢
      refine ⟨size_le (by rw [hn]; omega), ?_⟩
      refine lcL_any (P := fun y => ∃ x, y = qD x ∧ Am x) _ (fun x hx N M kk => ?_) _ (fun ys hy1 hy2 => ?_)
      · obtain ⟨d, hd, rfl⟩ := List.mem_map.mp hx
        have OK := O.2 d hd
        have o1 := OK.ab
        have a1 := bz_mul d.am 3
        have b3 : bz (3 : Rat) ≤ 3 := by decide
        refine ⟨d.am, 3, rfl, by omega, ?_⟩
        refine ⟨_, rfl, by simp, by simp, fun e he => kk _ ?_⟩
        simp only [List.mem_cons, List.not_mem_nil, or_false] at he
        rcases he with rfl | rfl | rfl
        · exact ⟨d.am, rfl, by unfold Am; omega⟩
        · exact ⟨d.am * 3, rfl, by unfold Am; omega⟩
        · exact ⟨0, rfl, by unfold Am; decide⟩
      obtain ⟨p, rfl, hp⟩ := each_map hy2
      rw [hn, List.length_map] at hy1
      have hnp : (p.map qD).length = p.length := List.length_map ..
      refine ite_ct (fun g => ?_) (fun _ => go p ⟨by omega, hp⟩ _ _)
      refine ⟨2, rfl, by decide, by decide, fun v v0 v8 => ?_⟩
      refine ⟨rfl, rfl, ite_ct (fun _ => ?_) (fun _ => go p ⟨by omega, hp⟩ _ _)⟩
      have g1 : (0 : Int) < (((p.map qD).length : Nat) : Int) := of_decide_eq_true g
      show (match ixN (p.map qD).length ((0 : Nat) : Int) with | some n => _ | none => False)
      rw [ixN_nat (by omega)]
      have h := go (p.set 0 60) ⟨by rw [List.length_set]; omega, mem_set hp (by unfold Am; decide)⟩ z9 z10
      simp only [qL, List.map_set] at h
      exact h
    · obtain ⟨z6, z7, z8, z9, z10, rfl⟩ := hE
      exact kN _ ⟨_, _, _, _, _, _, _, _, _, rfl⟩
  have hlen : ((List.range (s.length + 1)).map fun j => qD (tabQ s j)).length = s.length + 1 := by rw [List.length_map, List.length_range]
  have r13 : ∀ z5 z9, r_law_13 { fnEnds Q with nx := N, ct := N, bk := r_law_22 (fnEnds Q) } [.no, .sh .pool, .sh d, .sh (scD s), .sh (.tup [qD (tabQ s s.length), qL (plnQ s), .lst ((List.range (s.length + 1)).map fun j => qD (tabQ s j))]), z5, z6, z7, z8, z9, z10] := fun z5 z9 => by
    unfold r_law_13
    have r := r15 z5 z9
    generalize r_law_15 = R at r ⊢
    refine ⟨s, plnQ s, rfl, O, pln_pl O, ?_⟩
    rw [pln_cost O]
    refine ⟨okD_qd _ _, okD_qd _ _, ?_⟩
    show (if (!deq (qD (tabQ s s.length)) (qD (tabQ s s.length))) = true then _ else _)
    rw [deq_qd, decide_eq_true rfl]
    refine ite_f rfl ⟨s, plnQ s, rfl, O, (pln_ok O).1, pln_pl O, ?_⟩
    rw [pln_blocks O]
    exact r
  have r11 : ∀ z9, r_law_11 { fnEnds Q with nx := N, ct := N, bk := r_law_22 (fnEnds Q) } [.no, .sh .pool, .sh d, .sh (scD s), .sh (.tup [qD (tabQ s s.length), qL (plnQ s), .lst ((List.range (s.length + 1)).map fun j => qD (tabQ s j))]), .sh (.lst ((List.range (s.length + 1)).map fun j => qD (tabQ s j))), z6, z7, z8, z9, z10] := fun z9 => by
    unfold r_law_11
    have r := r13 (.sh (.lst ((List.range (s.length + 1)).map fun j => qD (tabQ s j)))) z9
    generalize r_law_13 = R at r ⊢
    refine ⟨_, _, rfl, sm_lst (by rw [hlen]; omega) (fun x hx => ?_), ?_⟩
    · obtain ⟨j, _, rfl⟩ := List.mem_map.mp hx
      exact sm_qD 3 _
    have el : atD ((List.range (s.length + 1)).map fun j => qD (tabQ s j)) (-1) = some (qD (tabQ s s.length)) := by
      rw [List.range_succ, List.map_append]
      exact at_last
    show (match atD ((List.range (s.length + 1)).map fun j => qD (tabQ s j)) (-1) with | some d => _ | none => False)
    rw [el]
    exact ⟨_, _, rfl, sm_qD 4 _, r⟩
  unfold r_law_8 r_law_10
  generalize r_law_11 = R at r11 ⊢
  refine ⟨rfl, rfl, ?_⟩
  refine ⟨⟨by omega, by rw [hn]; omega⟩, ?_⟩
  have e1 : ((((s.map dayD).length : Nat) : Int) + 1).toNat = s.length + 1 := by rw [hn]; omega
  rw [e1]
  refine ⟨size_le (by simp only [rangeD, List.length_map, List.length_range]; omega), ?_⟩
  refine lcL_of (h := fun k : Nat => .int (0 + (k : Nat))) (f := fun j => qD (tabQ s j)) (List.range (s.length + 1)) (fun j hj N M kk => ?_) _ ?_
  · rw [List.mem_range] at hj
    rw [Int.zero_add]
    have h : S_law_cheapest [.lst (DL.cutD (s.map dayD) none (some ((j : Nat) : Int)))] N := by
      rw [cut_take]
      refine ⟨s.take j, rfl, ok_take O j, ?_⟩
      rw [cheap_take O (by omega)]
      exact kk
    exact h
  exact r11 _
end K46

namespace K46
open PySem PySem.Spec PyProof.Rows L2 DL
def top (i : Nat) : Stmt := PySem.Challenge.pw_pairsave_k46_whole_plans_of_buying_ahead.main.body.getD i (.Pass ⟨0, 0, 0, 0⟩)
abbrev s_frac : Stmt := top 3
abbrev s_plus : Stmt := top 4
abbrev s_minus : Stmt := top 5
abbrev s_times : Stmt := top 6
abbrev s_less : Stmt := top 7
abbrev s_unit_cost : Stmt := top 9
abbrev s_plan_cost : Stmt := top 10
abbrev s_block_cost : Stmt := top 11
abbrev s_best_plan : Stmt := top 12
abbrev s_law_mixed : Stmt := top 14
abbrev s_law_rest : Stmt := top 15
abbrev s_law_pool : Stmt := top 16
abbrev s_law_next : Stmt := top 17
abbrev s_law_draw : Stmt := top 18
abbrev s_law_pick : Stmt := top 19
abbrev s_law_gcd : Stmt := top 20
abbrev s_law_ratio : Stmt := top 21
abbrev s_law_fraction : Stmt := top 22
abbrev s_law_scene_of : Stmt := top 23
abbrev s_law_mul : Stmt := top 24
abbrev s_law_same : Stmt := top 25
abbrev s_law_add : Stmt := top 26
abbrev s_law_sub : Stmt := top 27
abbrev s_law_plan_cost : Stmt := top 28
abbrev s_law_unit : Stmt := top 29
abbrev s_law_less : Stmt := top 30
abbrev s_law_cost_with : Stmt := top 31
abbrev s_law_cheapest : Stmt := top 32
abbrev s_law_in_blocks : Stmt := top 33
abbrev s_law_first_part : Stmt := top 34
abbrev s_law : Stmt := top 35
structure Txt (K : FK) (mg : Str → Option Value) : Prop where
  d_frac : FunAt K mg (Str.ofString "frac") s_frac
  d_plus : FunAt K mg (Str.ofString "plus") s_plus
  d_minus : FunAt K mg (Str.ofString "minus") s_minus
  d_times : FunAt K mg (Str.ofString "times") s_times
  d_less : FunAt K mg (Str.ofString "less") s_less
  d_unit_cost : FunAt K mg (Str.ofString "unit_cost") s_unit_cost
  d_plan_cost : FunAt K mg (Str.ofString "plan_cost") s_plan_cost
  d_block_cost : FunAt K mg (Str.ofString "block_cost") s_block_cost
  d_best_plan : FunAt K mg (Str.ofString "best_plan") s_best_plan
  d_law_mixed : FunAt K mg (Str.ofString "_law_mixed") s_law_mixed
  d_law_rest : FunAt K mg (Str.ofString "_law_rest") s_law_rest
  d_law_pool : FunAt K mg (Str.ofString "_law_pool") s_law_pool
  d_law_next : FunAt K mg (Str.ofString "_law_next") s_law_next
  d_law_draw : FunAt K mg (Str.ofString "_law_draw") s_law_draw
  d_law_pick : FunAt K mg (Str.ofString "_law_pick") s_law_pick
  d_law_gcd : FunAt K mg (Str.ofString "_law_gcd") s_law_gcd
  d_law_ratio : FunAt K mg (Str.ofString "_law_ratio") s_law_ratio
  d_law_fraction : FunAt K mg (Str.ofString "_law_fraction") s_law_fraction
  d_law_scene_of : FunAt K mg (Str.ofString "_law_scene_of") s_law_scene_of
  d_law_mul : FunAt K mg (Str.ofString "_law_mul") s_law_mul
  d_law_same : FunAt K mg (Str.ofString "_law_same") s_law_same
  d_law_add : FunAt K mg (Str.ofString "_law_add") s_law_add
  d_law_sub : FunAt K mg (Str.ofString "_law_sub") s_law_sub
  d_law_plan_cost : FunAt K mg (Str.ofString "_law_plan_cost") s_law_plan_cost
  d_law_unit : FunAt K mg (Str.ofString "_law_unit") s_law_unit
  d_law_less : FunAt K mg (Str.ofString "_law_less") s_law_less
  d_law_cost_with : FunAt K mg (Str.ofString "_law_cost_with") s_law_cost_with
  d_law_cheapest : FunAt K mg (Str.ofString "_law_cheapest") s_law_cheapest
  d_law_in_blocks : FunAt K mg (Str.ofString "_law_in_blocks") s_law_in_blocks
  d_law_first_part : FunAt K mg (Str.ofString "_law_first_part") s_law_first_part
  d_law : FunAt K mg (Str.ofString "law") s_law
  b_abs : mg (Str.ofString "abs") = none
  b_all : mg (Str.ofString "all") = none
  b_bool : mg (Str.ofString "bool") = none
  b_dict : mg (Str.ofString "dict") = none
  b_gcd : mg (Str.ofString "gcd") = some (.builtin "math.gcd")
  b_int : mg (Str.ofString "int") = none
  b_isinstance : mg (Str.ofString "isinstance") = none
  b_len : mg (Str.ofString "len") = none
  b_list : mg (Str.ofString "list") = none
  b_range : mg (Str.ofString "range") = none
  b_str : mg (Str.ofString "str") = none
  b_tuple : mg (Str.ofString "tuple") = none
  b_zip : mg (Str.ofString "zip") = none
  c_NOUGHT : GlobD K mg (Str.ofString "NOUGHT") c_NOUGHT
section
variable {P : Program} {w : World} {K : FK} {mg : Str → Option Value}
theorem sc_law_mixed : FnScope [(Str.ofString "number"), (Str.ofString "place"), (Str.ofString "first"), (Str.ofString "second"), (Str.ofString "third")] [(Str.ofString "number"), (Str.ofString "place")] (defScope s_law_mixed) := ⟨rfl, rfl, rfl, by decide +kernel, rfl, by decide +kernel, by decide +kernel⟩
theorem cmul_l {i j : Int} (h : i.natAbs < 2 ^ 60) : CMulX i j ∨ CMul i j := by
  refine .inr (.inl ?_)
  have h2 : (2 : Nat) ^ 60 = 1152921504606846976 := by decide
  have h3 : (2 : Int) ^ 64 = 18446744073709551616 := by decide
  rw [h2] at h; rw [h3]; omega
theorem ok_law_mixed (T : Txt K mg) : DefV P w K mg (Str.ofString "_law_mixed") [(Str.ofString "number"), (Str.ofString "place")] 1 spMixed := by
  have sc := sc_law_mixed
  refine fnDefV T.d_law_mixed (fun _ _ _ _ _ _ us hl => match us, hl with | [_, _], _ => rfl) sc (fun vs H Q E h => ?_) (fun base f cdv A outer s H vs Q E hr h => ⟨_, (pss_cons
    (ps_set (i := 2) sc.nd rfl (Or.inl rfl) (pe_op op_modN (pe_callTy call_int1 (by rfl) T.b_int (by decide +kernel) (pa_cons (pe_op op_add (pe_op op_add (pe_op op_mul (L2.pv 0) pe_int) (pe_op op_mul (L2.pv 1) pe_int)) pe_int) pa_nil)) pe_int))
    (pss_cons (ps_set (i := 3) sc.nd rfl (Or.inl rfl) (pe_op op_modN (pe_callTy call_int1 (by rfl) T.b_int (by decide +kernel) (pa_cons (pe_op op_add (pe_op op_add (pe_op op_mulX (L2.pv 2) (L2.pv 2)) (pe_op op_mul pe_int (L2.pv 2))) (L2.pv 1)) pa_nil)) pe_int))
    (pss_cons (ps_set (i := 4) sc.nd rfl (Or.inl rfl) (pe_op op_modN (pe_callTy call_int1 (by rfl) T.b_int (by decide +kernel) (pa_cons (pe_op op_add (pe_op op_mulX (L2.pv 3) (L2.pv 3)) (L2.pv 2)) pa_nil)) pe_int))
    (pss_one (ps_ret (pe_op op_add (pe_op op_mulX (L2.pv 3) pe_int) (L2.pv 4))))))), ?_⟩)
  · obtain ⟨i, j, rfl, _⟩ := h
    rfl
  · obtain ⟨i, j, rfl, q⟩ := h
    have small : ∀ (x m : Int), 0 < m → m.natAbs < 2 ^ 200 → (x.fmod m).natAbs < 2 ^ 200 := fun x m h1 h2 => by
      have e := Int.fmod_nonneg_of_pos x h1
      have e2 := Int.fmod_lt_of_pos x h1
      omega
    have p1 : (0 : Int) < 618970019642690137449562111 := by decide
    have p2 : (0 : Int) < 162259276829213363391578010288127 := by decide
    have b1 : (618970019642690137449562111 : Int).natAbs < 2 ^ 200 := by decide +kernel
    have b2 : (162259276829213363391578010288127 : Int).natAbs < 2 ^ 200 := by decide +kernel
    have n1 := Int.ne_of_gt p1
    have n2 := Int.ne_of_gt p2
    refine ⟨_, rfl, _, _, rfl, rfl, .inr ⟨by decide, by decide⟩, _, rfl, _, _, rfl, rfl, .inr ⟨by decide, by decide⟩, _, _, rfl, rfl, _, _, rfl, rfl, .inl ⟨_, rfl, _, _, rfl, rfl, n1, ?_⟩⟩
    refine ⟨_, rfl, _, rfl, _, _, rfl, rfl, mulx_ok (small _ _ p1 b1) (small _ _ p1 b1) (by decide), _, rfl, _, _, rfl, rfl, .inl ⟨by decide, by decide⟩, _, _, rfl, rfl, _, rfl, _, _, rfl, rfl, .inl ⟨_, rfl, _, _, rfl, rfl, n2, ?_⟩⟩
    refine ⟨_, rfl, _, rfl, _, _, rfl, rfl, mulx_ok (small _ _ p2 b2) (small _ _ p2 b2) (by decide), _, rfl, _, _, rfl, rfl, .inl ⟨_, rfl, _, _, rfl, rfl, n1, ?_⟩⟩
    exact ⟨_, rfl, _, _, rfl, rfl, mulx_ok (small _ _ p2 b2) b1 (by decide), _, rfl, _, _, rfl, rfl, q _⟩
theorem sc_law_rest : FnScope [(Str.ofString "script"), (Str.ofString "place"), (Str.ofString "fills"), (Str.ofString "number")] [(Str.ofString "script"), (Str.ofString "place"), (Str.ofString "fills")] (defScope s_law_rest) := ⟨rfl, rfl, rfl, by decide +kernel, rfl, by decide +kernel, by decide +kernel⟩
theorem ok_law_rest (T : Txt K mg) (G : DefV P w K mg (Str.ofString "_law_mixed") [(Str.ofString "number"), (Str.ofString "place")] 1 spMixed) : DefV P w K mg (Str.ofString "_law_rest") [(Str.ofString "script"), (Str.ofString "place"), (Str.ofString "fills")] 2 (spRest K) := by
  have sc := sc_law_rest
  refine fnDefV T.d_law_rest (fun _ _ _ _ _ _ us hl => match us, hl with | [_, _, _], _ => rfl) sc (fun vs H Q E h => ?_) (fun base f cdv A outer s H vs Q E hr h => ⟨_, (pss_cons
    (ps_set (i := 3) sc.nd rfl (Or.inl rfl) pe_int)
    (pss_cons (ps_if (pt_cmpR op_gt (pe_callB call_len_seq (by rfl) T.b_len (by decide +kernel) (pa_cons (L2.pv 0) pa_nil)) pe_int (nomark _))
      (pss_one (ps_set (i := 3) sc.nd rfl (Or.inl rfl) (pe_callTy call_int1 (by rfl) T.b_int (by decide +kernel) (pa_cons (pe_ix ix_list (L2.pv 0) (pe_op op_modN (pe_callTy call_int1 (by rfl) T.b_int (by decide +kernel) (pa_cons (L2.pv 1) pa_nil)) (pe_callB call_len_seq (by rfl) T.b_len (by decide +kernel) (pa_cons (L2.pv 0) pa_nil))) (fun _ _ => rfl)) pa_nil)))) pss_nil)
    (pss_cons (ps_if (pt_cmpR op_lt (L2.pv 3) pe_int (nomark _)) (pss_one (ps_set (i := 3) sc.nd rfl (Or.inl rfl) (pe_op op_sub pe_int (pe_op op_mul pe_int (L2.pv 3))))) pss_nil)
    (pss_cons (ps_if (PW.pt (pw_and (pt_cmpR op_eq (L2.pv 2) pe_int (nomark _)) (pw_and (pt_cmpR op_lt (L2.pv 1) (pe_callB call_len_seq (by rfl) T.b_len (by decide +kernel) (pa_cons (L2.pv 0) pa_nil)) (nomark _)) (pw_and1 (pt_cmpR op_ge (L2.pv 3) (pe_op op_pow pe_int pe_int) (nomark _))))))
      (pss_one (ps_ret (pe_op op_sub (L2.pv 3) (pe_op op_pow pe_int pe_int)))) pss_nil)
    (pss_one (ps_ret (pe_callV G (hr.mono (by decide)) (by rfl) (pa_cons (pe_op op_add (L2.pv 3) (pe_op op_mul (L2.pv 2) pe_int)) (pa_cons (L2.pv 1) pa_nil)))))))))
    , ?_⟩)
  · obtain ⟨a, ns, i, j, rfl, _⟩ := h
    rfl
  · obtain ⟨a, ns, i, j, rfl, hs, q⟩ := h
    have h3 : ∀ n : Int, tSeq (tIfS (tTest (tOp (rI0 fun i j => .bl (decide (i < j))) (tVar 3) (tC (.int 0)))) (tAsg (tOp (rI0 fun i j => .int (i - j)) (tC (.int 1)) (tOp (rI CMul fun i j => .int (i * j)) (tC (.int 2)) (tVar 3))) (gName 3)) tNext)
      (tSeq (tIfS (tAnd (tTest (tOp rEq (tVar 2) (tC (.int 0)))) (tAnd (tTest (tOp (rI0 fun i j => .bl (decide (i < j))) (tVar 1) (tCB (fun xs H Q => ∃ p ys, xs = [.ref p] ∧ (SqL K H p ys ∨ SqT K H p ys) ∧ Q (.int ys.length) H) (tCons (tVar 0) tNil)))) (tTest (tOp (rI0 fun i j => .bl (decide (j ≤ i))) (tVar 3) (tOp (rI CPow fun i j => .int (i ^ j.toNat)) (tC (.int 10)) (tC (.int 18)))))))
          (tRet (tOp (rI0 fun i j => .int (i - j)) (tVar 3) (tOp (rI CPow fun i j => .int (i ^ j.toNat)) (tC (.int 10)) (tC (.int 18))))) tNext)
        (tRet (tCall spMixed [] E0 (tCons (tOp (rI0 fun i j => .int (i + j)) (tVar 3) (tOp (rI CMul fun i j => .int (i * j)) (tVar 2) (tC (.int 1000003)))) (tCons (tVar 1) tNil))))) { nx := fun _ H' => Q .non H', rt := Q } [some (.ref a), some (.int i), some (.int j), some (.int n)] H := fun n => by
      have fin : ∀ n : Int, tSeq (tIfS (tAnd (tTest (tOp rEq (tVar 2) (tC (.int 0)))) (tAnd (tTest (tOp (rI0 fun i j => .bl (decide (i < j))) (tVar 1) (tCB (fun xs H Q => ∃ p ys, xs = [.ref p] ∧ (SqL K H p ys ∨ SqT K H p ys) ∧ Q (.int ys.length) H) (tCons (tVar 0) tNil)))) (tTest (tOp (rI0 fun i j => .bl (decide (j ≤ i))) (tVar 3) (tOp (rI CPow fun i j => .int (i ^ j.toNat)) (tC (.int 10)) (tC (.int 18)))))))
          (tRet (tOp (rI0 fun i j => .int (i - j)) (tVar 3) (tOp (rI CPow fun i j => .int (i ^ j.toNat)) (tC (.int 10)) (tC (.int 18))))) tNext)
        (tRet (tCall spMixed [] E0 (tCons (tOp (rI0 fun i j => .int (i + j)) (tVar 3) (tOp (rI CMul fun i j => .int (i * j)) (tVar 2) (tC (.int 1000003)))) (tCons (tVar 1) tNil)))) { nx := fun _ H' => Q .non H', rt := Q } [some (.ref a), some (.int i), some (.int j), some (.int n)] H := fun n => by
        have last : tRet (tCall spMixed [] E0 (tCons (tOp (rI0 fun i j => .int (i + j)) (tVar 3) (tOp (rI CMul fun i j => .int (i * j)) (tVar 2) (tC (.int 1000003)))) (tCons (tVar 1) tNil))) { nx := fun _ H' => Q .non H', rt := Q } [some (.ref a), some (.int i), some (.int j), some (.int n)] H :=
          ⟨_, rfl, _, rfl, _, _, rfl, rfl, .inr ⟨by decide, by decide⟩, _, _, rfl, rfl, _, rfl, _, _, rfl, q⟩
        refine ⟨_, rfl, rfl, _, rfl, ?_⟩
        refine ite2 (fun _ => ⟨_, rfl, _, rfl, a, _, rfl, .inl hs, _, _, rfl, rfl, _, rfl, ?_⟩) (fun _ => iteF last)
        refine ite2 (fun _ => ⟨_, rfl, _, _, rfl, rfl, ⟨by decide, by decide, by decide⟩, _, _, rfl, rfl, _, rfl, ?_⟩) (fun _ => iteF last)
        refine ite2 (fun _ => ⟨_, rfl, _, _, rfl, rfl, ⟨by decide, by decide, by decide⟩, _, _, rfl, rfl, q _⟩) (fun _ => last)
      refine ⟨_, rfl, _, _, rfl, rfl, _, rfl, ite2 (fun _ => ?_) (fun _ => fin n)⟩
      exact ⟨_, rfl, _, _, rfl, rfl, .inl ⟨by decide, by decide⟩, _, _, rfl, rfl, fin _⟩
    refine ⟨_, rfl, a, _, rfl, .inl hs, _, _, rfl, rfl, _, rfl, ite2 (fun hp => ?_) (fun _ => h3 0)⟩
    have hl : (0 : Int) < ((ns.map V.int).length : Nat) := of_decide_eq_true hp
    refine ⟨_, rfl, _, rfl, .inl ⟨_, rfl, _, rfl, a, _, rfl, .inl hs, _, _, rfl, rfl, Int.ne_of_gt hl, ?_⟩⟩
    have m1 := Int.fmod_nonneg_of_pos i hl
    have m2 := Int.fmod_lt_of_pos i hl
    have hk : (i.fmod ((ns.map V.int).length : Nat)).toNat < (ns.map V.int).length := by omega
    have hk' : (i.fmod ((ns.map V.int).length : Nat)).toNat < ns.length := by simpa using hk
    refine ⟨a, _, _, .int ns[(i.fmod ((ns.map V.int).length : Nat)).toNat], rfl, rfl, hs, ?_, .inl ⟨_, rfl, h3 _⟩⟩
    have e := atI_nat (xs := ns.map V.int) (j := (i.fmod ((ns.map V.int).length : Nat)).toNat) (v := .int ns[(i.fmod ((ns.map V.int).length : Nat)).toNat]) (by rw [List.getElem?_map, List.getElem?_eq_getElem hk']; rfl)
    rw [Int.toNat_of_nonneg m1] at e
    exact e
theorem sc_law_pool : FnScope [(Str.ofString "script")] [(Str.ofString "script")] (defScope s_law_pool) := ⟨rfl, rfl, rfl, by decide +kernel, rfl, by decide +kernel, by decide +kernel⟩
theorem ok_law_pool (T : Txt K mg) (G : DefV P w K mg (Str.ofString "_law_rest") [(Str.ofString "script"), (Str.ofString "place"), (Str.ofString "fills")] 2 (spRest K)) : DefV P w K mg (Str.ofString "_law_pool") [(Str.ofString "script")] 3 (spPool K) := by
  have sc := sc_law_pool
  refine fnDefV T.d_law_pool (fun _ _ _ _ _ _ us hl => match us, hl with | [_], _ => rfl) sc (fun vs H Q E h => ?_) (fun base f cdv A outer s H vs Q E hr h => ⟨_, (pss_one
    (ps_ret (pe_lst (pa_cons (L2.pv 0) (pa_cons pe_int (pa_cons (pe_callV G (hr.mono (by decide)) (by rfl) (pa_cons (L2.pv 0) (pa_cons pe_int (pa_cons pe_int pa_nil)))) (pa_cons pe_int pa_nil))))))), ?_⟩)
  · obtain ⟨a, ns, rfl, _⟩ := h
    rfl
  · obtain ⟨a, ns, rfl, hs, q⟩ := h
    exact ⟨_, rfl, _, rfl, a, ns, 0, 0, rfl, hs, fun r => ⟨by show 4 ≤ sizeLine; decide, fun p hp => q p r hp⟩⟩
theorem sc_law_next : FnScope [(Str.ofString "pool")] [(Str.ofString "pool")] (defScope s_law_next) := ⟨rfl, rfl, rfl, by decide +kernel, rfl, by decide +kernel, by decide +kernel⟩
theorem ok_law_next (T : Txt K mg) (G : DefV P w K mg (Str.ofString "_law_rest") [(Str.ofString "script"), (Str.ofString "place"), (Str.ofString "fills")] 2 (spRest K)) : Def P w K mg (Str.ofString "_law_next") [(Str.ofString "pool")] 3 S_law_next := by
  have sc := sc_law_next
  refine fnDefV T.d_law_next (fun _ _ _ _ _ _ us hl => match us, hl with | [_], _ => rfl) sc (fun vs H Q E h => ?_) (fun base f cdv A outer s H vs Q E hr h => ⟨_, (pss_cons
    (ps_asg (pe_op op_add (pe_ix ix_list (L2.pv 0) pe_int (fun _ _ => rfl)) pe_int) (pg_sub (L2.pv 0) pe_int set_list (fun _ => rfl)))
    (pss_cons (ps_asg (pe_callV G (hr.mono (by decide)) (by rfl) (pa_cons (pe_ix ix_list (L2.pv 0) pe_int (fun _ _ => rfl)) (pa_cons (pe_ix ix_list (L2.pv 0) pe_int (fun _ _ => rfl)) (pa_cons pe_int pa_nil)))) (pg_sub (L2.pv 0) pe_int set_list (fun _ => rfl)))
    (pss_one (ps_asg pe_int (pg_sub (L2.pv 0) pe_int set_list (fun _ => rfl)))))), ?_⟩)
  · obtain ⟨pp, Hb, ds, QD, so, r, ⟨rfl, _⟩, _⟩ := h
    obtain ⟨v, w, rfl, r1, r2⟩ := r.uncons
    rw [r2.unnil]
    rfl
  · obtain ⟨pp, Hb, ds, QD, so, r, ⟨rfl, hq⟩, k⟩ := h
    obtain ⟨v, w, rfl, r1, r2⟩ := r.uncons
    rw [r2.unnil]
    unfold Rep at r1
    subst r1
    obtain ⟨a, ns, i, n, c, h1, h2⟩ := so.pool
    obtain ⟨s1, so1⟩ := pool_ok (i' := i + 1) (n' := n) (k' := c) so h1 h2
    refine ⟨_, rfl, pp, _, 0 + 1, _, rfl, rfl, .of h1, atI_nat (j := 1) rfl, _, _, rfl, rfl, _, rfl, pp, _, 1, 1, rfl, rfl, h1, rfl, ?_⟩
    refine ⟨_, rfl, pp, _, 0, _, rfl, rfl, .of upd_same, atI_nat (j := 0) rfl, _, rfl, pp, _, 1, _, rfl, rfl, .of upd_same, atI_nat (j := 1) rfl, a, ns, _, _, rfl, so1.hle.sqL h2, fun r => ?_⟩
    refine ⟨_, rfl, pp, _, 2, 2, rfl, rfl, upd_same, rfl, ?_⟩
    refine ⟨_, rfl, pp, _, 3, 3, rfl, rfl, upd_same, rfl, ?_⟩
    rw [upd_upd, upd_upd]
    obtain ⟨s2, so2⟩ := pool_ok (i' := i + 1) (n' := r) (k' := 0) so h1 h2
    exact k .non .non Hb _ hq s2 so2 rep_non
theorem sc_law_draw : FnScope [(Str.ofString "pool"), (Str.ofString "limit"), (Str.ofString "value")] [(Str.ofString "pool"), (Str.ofString "limit")] (defScope s_law_draw) := ⟨rfl, rfl, rfl, by decide +kernel, rfl, by decide +kernel, by decide +kernel⟩
theorem ok_law_draw (T : Txt K mg) (G : DefV P w K mg (Str.ofString "_law_rest") [(Str.ofString "script"), (Str.ofString "place"), (Str.ofString "fills")] 2 (spRest K)) : Def P w K mg (Str.ofString "_law_draw") [(Str.ofString "pool"), (Str.ofString "limit")] 3 S_law_draw := by
  have sc := sc_law_draw
  refine fnDefV T.d_law_draw (fun _ _ _ _ _ _ us hl => match us, hl with | [_, _], _ => rfl) sc (fun vs H Q E h => ?_) (fun base f cdv A outer s H vs Q E hr h => ⟨_, (pss_cons
    (ps_if (pt_cmpR op_le (pe_ix ix_list (L2.pv 0) pe_int (fun _ _ => rfl)) pe_int (nomark _))
      (pss_cons (ps_asg (pe_op op_add (pe_ix ix_list (L2.pv 0) pe_int (fun _ _ => rfl)) pe_int) (pg_sub (L2.pv 0) pe_int set_list (fun _ => rfl)))
      (pss_one (ps_asg (pe_callV G (hr.mono (by decide)) (by rfl) (pa_cons (pe_ix ix_list (L2.pv 0) pe_int (fun _ _ => rfl)) (pa_cons (pe_ix ix_list (L2.pv 0) pe_int (fun _ _ => rfl)) (pa_cons (pe_ix ix_list (L2.pv 0) pe_int (fun _ _ => rfl)) pa_nil)))) (pg_sub (L2.pv 0) pe_int set_list (fun _ => rfl))))) pss_nil)
    (pss_cons (ps_set (i := 2) sc.nd rfl (Or.inl rfl) (pe_op op_modN (pe_callTy call_int1 (by rfl) T.b_int (by decide +kernel) (pa_cons (pe_ix ix_list (L2.pv 0) pe_int (fun _ _ => rfl)) pa_nil)) (L2.pv 1)))
    (pss_cons (ps_asg (pe_op op_fdivN (pe_callTy call_int1 (by rfl) T.b_int (by decide +kernel) (pa_cons (pe_ix ix_list (L2.pv 0) pe_int (fun _ _ => rfl)) pa_nil)) (L2.pv 1)) (pg_sub (L2.pv 0) pe_int set_list (fun _ => rfl)))
    (pss_one (ps_ret (L2.pv 2)))))), ?_⟩)
  · obtain ⟨pp, Hb, ds, QD, so, r, ⟨l, rfl, _⟩, _⟩ := h
    obtain ⟨v, w, rfl, r1, r2⟩ := r.uncons
    obtain ⟨v', w', rfl, r3, r4⟩ := r2.uncons
    rw [r4.unnil]
    rfl
  · obtain ⟨pp, Hb, ds, QD, so, r, ⟨l, rfl, l0, l1, hq⟩, k⟩ := h
    obtain ⟨v, w, rfl, r1, r2⟩ := r.uncons
    obtain ⟨v', w', rfl, r3, r4⟩ := r2.uncons
    rw [r4.unnil]
    unfold Rep at r1 r3
    subst r1 r3
    obtain ⟨a, ns, i, n, c, h1, h2⟩ := so.pool
    have tail : ∀ (n' c' : Int) (H1 : Hp), H1 = upd H pp (.lst [.ref a, .int i, .int n', .int c']) ∨ (H1 = H ∧ n' = n ∧ c' = c) → tSeq (tAsg (tOp (rI (fun _ j => j ≠ 0) fun i j => .int (i.fmod j)) (tCB (fun xs H Q => (∃ i, xs = [.int i] ∧ Q (.int i) H) ∨ ∃ k, xs = [.bl k] ∧ Q (.int (if k then 1 else 0)) H) (tCons (tOp (rIxL K) (tVar 0) (tC (.int 2))) tNil)) (tVar 1)) (gName 2))
      (tSeq (tAsg (tOp (rI CDivN fun i j => .int (i.fdiv j)) (tCB (fun xs H Q => (∃ i, xs = [.int i] ∧ Q (.int i) H) ∨ ∃ k, xs = [.bl k] ∧ Q (.int (if k then 1 else 0)) H) (tCons (tOp (rIxL K) (tVar 0) (tC (.int 2))) tNil)) (tVar 1)) (gSub (tVar 0) (tC (.int 2)) rSetL)) (tRet (tVar 2))) { nx := fun _ H' => Q .non H', rt := Q } [some (.ref pp), some (.int l), none] H1 := fun n' c' H1 e => by
      have hH : H1 pp = some (.lst [.ref a, .int i, .int n', .int c']) := by
        rcases e with rfl | ⟨rfl, rfl, rfl⟩
        · exact upd_same
        · exact h1
      have e2 : ∀ u, upd H1 pp u = upd H pp u := fun u => by
        rcases e with rfl | ⟨rfl, _, _⟩
        · rw [upd_upd]
        · rfl
      refine ⟨_, rfl, pp, _, 2, _, rfl, rfl, .of hH, atI_nat (j := 2) rfl, .inl ⟨_, rfl, _, rfl, _, _, rfl, rfl, Int.ne_of_gt l0, ?_⟩⟩
      refine ⟨_, rfl, pp, _, 2, _, rfl, rfl, .of hH, atI_nat (j := 2) rfl, .inl ⟨_, rfl, _, rfl, _, _, rfl, rfl, ⟨Int.ne_of_gt l0, by omega⟩, _, rfl, pp, _, 2, 2, rfl, rfl, hH, rfl, ?_⟩⟩
      refine ⟨_, rfl, ?_⟩
      rw [e2]
      obtain ⟨s2, so2⟩ := pool_ok (i' := i) (n' := n'.fdiv l) (k' := c') so h1 h2
      exact k (.int (n'.fmod l)) _ Hb _ (hq _ (Int.fmod_nonneg_of_pos _ l0) (Int.fmod_lt_of_pos _ l0)) s2 so2 rep_int
    refine ⟨_, rfl, pp, _, 2, _, rfl, rfl, .of h1, atI_nat (j := 2) rfl, _, _, rfl, rfl, _, rfl, ite2 (fun _ => ?_) (fun _ => tail n c H (.inr ⟨rfl, rfl, rfl⟩))⟩
    obtain ⟨s1, so1⟩ := pool_ok (i' := i) (n' := n) (k' := c + 1) so h1 h2
    refine ⟨_, rfl, pp, _, 3, _, rfl, rfl, .of h1, atI_nat (j := 3) rfl, _, _, rfl, rfl, _, rfl, pp, _, 3, 3, rfl, rfl, h1, rfl, ?_⟩
    refine ⟨_, rfl, pp, _, 0, _, rfl, rfl, .of upd_same, atI_nat (j := 0) rfl, _, rfl, pp, _, 1, _, rfl, rfl, .of upd_same, atI_nat (j := 1) rfl, _, rfl, pp, _, 3, _, rfl, rfl, .of upd_same, atI_nat (j := 3) rfl, a, ns, _, _, rfl, so1.hle.sqL h2, fun r => ?_⟩
    refine ⟨_, rfl, pp, _, 2, 2, rfl, rfl, upd_same, rfl, ?_⟩
    rw [upd_upd]
    exact tail r (c + 1) _ (.inl rfl)

theorem sc_frac : FnScope [(Str.ofString "p"), (Str.ofString "q"), (Str.ofString "shared")] [(Str.ofString "p"), (Str.ofString "q")] (defScope s_frac) := ⟨rfl, rfl, rfl, by decide +kernel, rfl, by decide +kernel, by decide +kernel⟩
theorem ok_frac (T : Txt K mg)  (hp : PureD p_frac S_frac 3 2) : Def P w K mg (Str.ofString "frac") [(Str.ofString "p"), (Str.ofString "q")] 1 S_frac :=
  have sc := sc_frac
  fnDef T.d_frac (fun _ _ _ _ _ _ us hl => match us, hl with | [_, _], _ => rfl) sc hp (p := p_frac) (fun base f cdv A outer s H E hr => (ss_cons (s_set (i := 2) sc.nd (q_callF cd_gcd (by rfl) T.b_gcd (o_cons (q_varO 0) (o_cons (q_varO 1) o_nil)))) (ss_cons (s_if (t_cmp od_lt (q_varO 1) (QE.toO q_int) (nomark _)) (ss_one (s_set (i := 2) sc.nd (q_un ud_neg (q_varO 2)))) ss_nil) (ss_one (s_ret (q_tup (qa_cons (q_op od_div (q_varO 0) (q_varO 2)) (qa_cons (q_op od_div (q_varO 1) (q_varO 2)) qa_nil))))))))
theorem sc_plus : FnScope [(Str.ofString "a"), (Str.ofString "b")] [(Str.ofString "a"), (Str.ofString "b")] (defScope s_plus) := ⟨rfl, rfl, rfl, by decide +kernel, rfl, by decide +kernel, by decide +kernel⟩
theorem ok_plus (T : Txt K mg) (g_frac : Def P w K mg (Str.ofString "frac") [(Str.ofString "p"), (Str.ofString "q")] 1 S_frac) (hp : PureD p_plus S_plus 2 2) : Def P w K mg (Str.ofString "plus") [(Str.ofString "a"), (Str.ofString "b")] 2 S_plus :=
  have sc := sc_plus
  fnDef T.d_plus (fun _ _ _ _ _ _ us hl => match us, hl with | [_, _], _ => rfl) sc hp (p := p_plus) (fun base f cdv A outer s H E hr => (ss_one (s_ret (q_callD g_frac (hr.mono (by decide)) (by rfl) (qa_cons (q_op od_add (QE.toO (q_op od_mul (QE.toO (q_ix (ixd (hu_of hr)) (q_varO 0) (QE.toO q_int))) (QE.toO (q_ix (ixd (hu_of hr)) (q_varO 1) (QE.toO q_int))))) (QE.toO (q_op od_mul (QE.toO (q_ix (ixd (hu_of hr)) (q_varO 1) (QE.toO q_int))) (QE.toO (q_ix (ixd (hu_of hr)) (q_varO 0) (QE.toO q_int)))))) (qa_cons (q_op od_mul (QE.toO (q_ix (ixd (hu_of hr)) (q_varO 0) (QE.toO q_int))) (QE.toO (q_ix (ixd (hu_of hr)) (q_varO 1) (QE.toO q_int)))) qa_nil))))))
theorem sc_minus : FnScope [(Str.ofString "a"), (Str.ofString "b")] [(Str.ofString "a"), (Str.ofString "b")] (defScope s_minus) := ⟨rfl, rfl, rfl, by decide +kernel, rfl, by decide +kernel, by decide +kernel⟩
theorem ok_minus (T : Txt K mg) (g_frac : Def P w K mg (Str.ofString "frac") [(Str.ofString "p"), (Str.ofString "q")] 1 S_frac) (hp : PureD p_minus S_minus 2 2) : Def P w K mg (Str.ofString "minus") [(Str.ofString "a"), (Str.ofString "b")] 2 S_minus :=
  have sc := sc_minus
  fnDef T.d_minus (fun _ _ _ _ _ _ us hl => match us, hl with | [_, _], _ => rfl) sc hp (p := p_minus) (fun base f cdv A outer s H E hr => (ss_one (s_ret (q_callD g_frac (hr.mono (by decide)) (by rfl) (qa_cons (q_op od_sub (QE.toO (q_op od_mul (QE.toO (q_ix (ixd (hu_of hr)) (q_varO 0) (QE.toO q_int))) (QE.toO (q_ix (ixd (hu_of hr)) (q_varO 1) (QE.toO q_int))))) (QE.toO (q_op od_mul (QE.toO (q_ix (ixd (hu_of hr)) (q_varO 1) (QE.toO q_int))) (QE.toO (q_ix (ixd (hu_of hr)) (q_varO 0) (QE.toO q_int)))))) (qa_cons (q_op od_mul (QE.toO (q_ix (ixd (hu_of hr)) (q_varO 0) (QE.toO q_int))) (QE.toO (q_ix (ixd (hu_of hr)) (q_varO 1) (QE.toO q_int)))) qa_nil))))))
theorem sc_times : FnScope [(Str.ofString "a"), (Str.ofString "b")] [(Str.ofString "a"), (Str.ofString "b")] (defScope s_times) := ⟨rfl, rfl, rfl, by decide +kernel, rfl, by decide +kernel, by decide +kernel⟩
theorem ok_times (T : Txt K mg) (g_frac : Def P w K mg (Str.ofString "frac") [(Str.ofString "p"), (Str.ofString "q")] 1 S_frac) (hp : PureD p_times S_times 2 2) : Def P w K mg (Str.ofString "times") [(Str.ofString "a"), (Str.ofString "b")] 2 S_times :=
  have sc := sc_times
  fnDef T.d_times (fun _ _ _ _ _ _ us hl => match us, hl with | [_, _], _ => rfl) sc hp (p := p_times) (fun base f cdv A outer s H E hr => (ss_one (s_ret (q_callD g_frac (hr.mono (by decide)) (by rfl) (qa_cons (q_op od_mul (QE.toO (q_ix (ixd (hu_of hr)) (q_varO 0) (QE.toO q_int))) (QE.toO (q_ix (ixd (hu_of hr)) (q_varO 1) (QE.toO q_int)))) (qa_cons (q_op od_mul (QE.toO (q_ix (ixd (hu_of hr)) (q_varO 0) (QE.toO q_int))) (QE.toO (q_ix (ixd (hu_of hr)) (q_varO 1) (QE.toO q_int)))) qa_nil))))))
theorem sc_less : FnScope [(Str.ofString "a"), (Str.ofString "b")] [(Str.ofString "a"), (Str.ofString "b")] (defScope s_less) := ⟨rfl, rfl, rfl, by decide +kernel, rfl, by decide +kernel, by decide +kernel⟩
theorem ok_less (T : Txt K mg)  (hp : PureD p_less S_less 2 2) : Def P w K mg (Str.ofString "less") [(Str.ofString "a"), (Str.ofString "b")] 1 S_less :=
  have sc := sc_less
  fnDef T.d_less (fun _ _ _ _ _ _ us hl => match us, hl with | [_, _], _ => rfl) sc hp (p := p_less) (fun base f cdv A outer s H E hr => (ss_one (s_ret (q_cmp od_lt (QE.toO (q_op od_mul (QE.toO (q_ix (ixd (hu_of hr)) (q_varO 0) (QE.toO q_int))) (QE.toO (q_ix (ixd (hu_of hr)) (q_varO 1) (QE.toO q_int))))) (QE.toO (q_op od_mul (QE.toO (q_ix (ixd (hu_of hr)) (q_varO 1) (QE.toO q_int))) (QE.toO (q_ix (ixd (hu_of hr)) (q_varO 0) (QE.toO q_int))))) (nomark _)))))
theorem sc_unit_cost : FnScope [(Str.ofString "scene"), (Str.ofString "bought"), (Str.ofString "needed"), (Str.ofString "found"), (Str.ofString "day")] [(Str.ofString "scene"), (Str.ofString "bought"), (Str.ofString "needed")] (defScope s_unit_cost) := ⟨rfl, rfl, rfl, by decide +kernel, rfl, by decide +kernel, by decide +kernel⟩
theorem ok_unit_cost (T : Txt K mg) (g_plus : Def P w K mg (Str.ofString "plus") [(Str.ofString "a"), (Str.ofString "b")] 2 S_plus) (hp : PureD p_unit_cost S_unit_cost 5 3) : Def P w K mg (Str.ofString "unit_cost") [(Str.ofString "scene"), (Str.ofString "bought"), (Str.ofString "needed")] 3 S_unit_cost :=
  have sc := sc_unit_cost
  fnDef T.d_unit_cost (fun _ _ _ _ _ _ us hl => match us, hl with | [_, _, _], _ => rfl) sc hp (p := p_unit_cost) (fun base f cdv A outer s H E hr => (ss_cons (s_set (i := 3) sc.nd (q_ix (ixd (hu_of hr)) (QE.toO (q_ix (ixd (hu_of hr)) (q_varO 0) (q_varO 1))) (QE.toO q_int))) (ss_cons (s_for PassesOwn.never rfl (i_seq (q_slice (q_varO 0) (p_some (q_var 1)) (p_some (q_var 2)))) (g_name (i := 4) sc.nd) (ss_one (s_set (i := 3) sc.nd (q_callD g_plus (hr.mono (by decide)) (by rfl) (qa_cons (q_var 3) (qa_cons (q_ix (ixd (hu_of hr)) (q_varO 4) (QE.toO q_int)) qa_nil)))))) (ss_one (s_ret (q_var 3))))))
theorem sc_plan_cost : FnScope [(Str.ofString "scene"), (Str.ofString "plan"), (Str.ofString "found"), (Str.ofString "left"), (Str.ofString "bought"), (Str.ofString "amount"), (Str.ofString "going"), (Str.ofString "price"), (Str.ofString "keeping")] [(Str.ofString "scene"), (Str.ofString "plan")] (defScope s_plan_cost) := ⟨rfl, rfl, rfl, by decide +kernel, rfl, by decide +kernel, by decide +kernel⟩
theorem ok_plan_cost (T : Txt K mg) (g_plus : Def P w K mg (Str.ofString "plus") [(Str.ofString "a"), (Str.ofString "b")] 2 S_plus) (g_times : Def P w K mg (Str.ofString "times") [(Str.ofString "a"), (Str.ofString "b")] 2 S_times) (g_less : Def P w K mg (Str.ofString "less") [(Str.ofString "a"), (Str.ofString "b")] 1 S_less) (g_minus : Def P w K mg (Str.ofString "minus") [(Str.ofString "a"), (Str.ofString "b")] 2 S_minus) (hp : PureD p_plan_cost S_plan_cost 9 2) : Def P w K mg (Str.ofString "plan_cost") [(Str.ofString "scene"), (Str.ofString "plan")] 3 S_plan_cost :=
  have sc := sc_plan_cost
  fnDef T.d_plan_cost (fun _ _ _ _ _ _ us hl => match us, hl with | [_, _], _ => rfl) sc hp (p := p_plan_cost) (fun base f cdv A outer s H E hr => (ss_cons (s_if (t_cmp (od_ne hr.units) (QE.toO (q_callB cd_len (by rfl) T.b_len (by decide +kernel) (o_cons (q_varO 1) o_nil))) (QE.toO (q_callB cd_len (by rfl) T.b_len (by decide +kernel) (o_cons (q_varO 0) o_nil))) (nomark _)) (ss_one (s_ret q_non)) ss_nil) (ss_cons (s_set (i := 2) sc.nd (q_globD T.c_NOUGHT (by rfl))) (ss_cons (s_set (i := 3) sc.nd (q_globD T.c_NOUGHT (by rfl))) (ss_cons (s_for PassesOwn.never rfl (i_zip (by rfl) T.b_zip (qa_cons (q_var 0) (qa_cons (q_var 1) qa_nil))) (g_tup rfl (gs_cons (g_tup rfl (gs_cons (g_name (i := 5) sc.nd) (gs_cons (g_name (i := 6) sc.nd) (gs_cons (g_name (i := 7) sc.nd) (gs_cons (g_name (i := 8) sc.nd) gs_nil))))) (gs_cons (g_name (i := 4) sc.nd) gs_nil))) (ss_cons (s_set (i := 3) sc.nd (q_callD g_minus (hr.mono (by decide)) (by rfl) (qa_cons (q_callD g_plus (hr.mono (by decide)) (by rfl) (qa_cons (q_var 3) (qa_cons (q_var 4) qa_nil))) (qa_cons (q_var 5) qa_nil)))) (ss_cons (s_if (t_or (t_val (q_callD g_less (hr.mono (by decide)) (by rfl) (qa_cons (q_var 4) (qa_cons (q_globD T.c_NOUGHT (by rfl)) qa_nil)))) (w_or1 (t_val (q_callD g_less (hr.mono (by decide)) (by rfl) (qa_cons (q_var 3) (qa_cons (q_globD T.c_NOUGHT (by rfl)) qa_nil)))))) (ss_one (s_ret q_non)) ss_nil) (ss_cons (s_if (t_val (q_callD g_less (hr.mono (by decide)) (by rfl) (qa_cons (q_globD T.c_NOUGHT (by rfl)) (qa_cons (q_var 4) qa_nil)))) (ss_one (s_set (i := 2) sc.nd (q_callD g_plus (hr.mono (by decide)) (by rfl) (qa_cons (q_var 2) (qa_cons (q_callD g_plus (hr.mono (by decide)) (by rfl) (qa_cons (q_var 6) (qa_cons (q_callD g_times (hr.mono (by decide)) (by rfl) (qa_cons (q_var 7) (qa_cons (q_var 4) qa_nil))) qa_nil))) qa_nil))))) ss_nil) (ss_one (s_set (i := 2) sc.nd (q_callD g_plus (hr.mono (by decide)) (by rfl) (qa_cons (q_var 2) (qa_cons (q_callD g_times (hr.mono (by decide)) (by rfl) (qa_cons (q_var 8) (qa_cons (q_var 3) qa_nil))) qa_nil))))))))) (ss_one (s_ret (q_var 2))))))))
theorem sc_block_cost : FnScope [(Str.ofString "scene"), (Str.ofString "first"), (Str.ofString "last"), (Str.ofString "found"), (Str.ofString "day")] [(Str.ofString "scene"), (Str.ofString "first"), (Str.ofString "last")] (defScope s_block_cost) := ⟨rfl, rfl, rfl, by decide +kernel, rfl, by decide +kernel, by decide +kernel⟩
theorem ok_block_cost (T : Txt K mg) (g_plus : Def P w K mg (Str.ofString "plus") [(Str.ofString "a"), (Str.ofString "b")] 2 S_plus) (g_times : Def P w K mg (Str.ofString "times") [(Str.ofString "a"), (Str.ofString "b")] 2 S_times) (g_unit_cost : Def P w K mg (Str.ofString "unit_cost") [(Str.ofString "scene"), (Str.ofString "bought"), (Str.ofString "needed")] 3 S_unit_cost) (hp : PureD p_block_cost S_block_cost 5 3) : Def P w K mg (Str.ofString "block_cost") [(Str.ofString "scene"), (Str.ofString "first"), (Str.ofString "last")] 4 S_block_cost :=
  have sc := sc_block_cost
  fnDef T.d_block_cost (fun _ _ _ _ _ _ us hl => match us, hl with | [_, _, _], _ => rfl) sc hp (p := p_block_cost) (fun base f cdv A outer s H E hr => (ss_cons (s_set (i := 3) sc.nd (q_globD T.c_NOUGHT (by rfl))) (ss_cons (s_for PassesOwn.never rfl (i_range2 (by rfl) T.b_range (qa_cons (q_var 1) (qa_cons (q_var 2) qa_nil))) (g_name (i := 4) sc.nd) (ss_one (s_set (i := 3) sc.nd (q_callD g_plus (hr.mono (by decide)) (by rfl) (qa_cons (q_var 3) (qa_cons (q_callD g_times (hr.mono (by decide)) (by rfl) (qa_cons (q_ix (ixd (hu_of hr)) (QE.toO (q_ix (ixd (hu_of hr)) (q_varO 0) (q_varO 4))) (QE.toO q_int)) (qa_cons (q_callD g_unit_cost (hr.mono (by decide)) (by rfl) (qa_cons (q_var 0) (qa_cons (q_var 1) (qa_cons (q_var 4) qa_nil)))) qa_nil))) qa_nil)))))) (ss_cons (s_if (t_val (q_callB (cd_all rfl) (by rfl) T.b_all (by decide +kernel) (o_cons (QF.toO (f_lc [((Str.ofString "day"), 4)] rfl sc.nd (i_range2 (by rfl) T.b_range (qa_cons (q_var 1) (qa_cons (q_var 2) qa_nil))) (N0 := [(Str.ofString "scene"), (Str.ofString "first"), (Str.ofString "last"), (Str.ofString "found"), (Str.ofString "day")]) (sc0 := defScope s_block_cost) (by decide +kernel) rfl (fun _ _ _ _ _ => (v_name sc.nd (by decide))) (fun _ _ _ _ _ => ts_nil) (fun _ _ _ _ _ => (q_cmp (od_eq hr.units) (QE.toO (q_ix (ixd (hu_of hr)) (QE.toO (q_ix (ixd (hu_of hr)) (q_varO 0) (q_varO 4))) (QE.toO q_int))) (QE.toO (q_globD T.c_NOUGHT (by rfl))) (nomark _))))) o_nil))) (ss_one (s_ret (q_globD T.c_NOUGHT (by rfl)))) ss_nil) (ss_one (s_ret (q_callD g_plus (hr.mono (by decide)) (by rfl) (qa_cons (q_var 3) (qa_cons (q_ix (ixd (hu_of hr)) (QE.toO (q_ix (ixd (hu_of hr)) (q_varO 0) (q_varO 1))) (QE.toO q_int)) qa_nil)))))))))
theorem sc_best_plan : FnScope [(Str.ofString "scene"), (Str.ofString "table"), (Str.ofString "first"), (Str.ofString "j"), (Str.ofString "plan"), (Str.ofString "best"), (Str.ofString "i"), (Str.ofString "day"), (Str.ofString "number")] [(Str.ofString "scene")] (defScope s_best_plan) := ⟨rfl, rfl, rfl, by decide +kernel, rfl, by decide +kernel, by decide +kernel⟩
theorem ok_best_plan (T : Txt K mg) (g_plus : Def P w K mg (Str.ofString "plus") [(Str.ofString "a"), (Str.ofString "b")] 2 S_plus) (g_less : Def P w K mg (Str.ofString "less") [(Str.ofString "a"), (Str.ofString "b")] 1 S_less) (g_block_cost : Def P w K mg (Str.ofString "block_cost") [(Str.ofString "scene"), (Str.ofString "first"), (Str.ofString "last")] 4 S_block_cost) (hp : PureD p_best_plan S_best_plan 9 1) : Def P w K mg (Str.ofString "best_plan") [(Str.ofString "scene")] 5 S_best_plan :=
  have sc := sc_best_plan
  fnDef T.d_best_plan (fun _ _ _ _ _ _ us hl => match us, hl with | [_], _ => rfl) sc hp (p := p_best_plan) (fun base f cdv A outer s H E hr => (ss_cons (s_own (i := 1) sc.nd (f_lst (qa_cons (q_globD T.c_NOUGHT (by rfl)) qa_nil))) (ss_cons (s_own (i := 2) sc.nd (f_lst (qa_cons q_int qa_nil))) (ss_cons (s_for PassesOwn.never rfl (i_range2 (by rfl) T.b_range (qa_cons q_int (qa_cons (q_op od_add (QE.toO (q_callB cd_len (by rfl) T.b_len (by decide +kernel) (o_cons (q_varO 0) o_nil))) (QE.toO q_int)) qa_nil))) (g_name (i := 3) sc.nd) (ss_cons (s_set (i := 5) sc.nd q_non) (ss_cons (s_for PassesOwn.never rfl (i_range1 (by rfl) T.b_range (qa_cons (q_var 3) qa_nil)) (g_name (i := 6) sc.nd) (ss_cons (s_set (i := 8) sc.nd (q_callD g_plus (hr.mono (by decide)) (by rfl) (qa_cons (q_ix (ixd (hu_of hr)) (q_varO 1) (q_varO 6)) (qa_cons (q_callD g_block_cost (hr.mono (by decide)) (by rfl) (qa_cons (q_var 0) (qa_cons (q_var 6) (qa_cons (q_var 3) qa_nil)))) qa_nil)))) (ss_one (s_if (t_or (t_cmp od_is (q_varO 5) (QE.toO q_non) (nomark _)) (w_or1 (t_val (q_callD g_less (hr.mono (by decide)) (by rfl) (qa_cons (q_var 8) (qa_cons (q_ix (ixd (hu_of hr)) (q_varO 5) (QE.toO q_int)) qa_nil)))))) (ss_one (s_set (i := 5) sc.nd (q_tup (qa_cons (q_var 8) (qa_cons (q_var 6) qa_nil))))) ss_nil)))) (ss_cons (s_append 1 (q_ix (ixd (hu_of hr)) (q_varO 5) (QE.toO q_int))) (ss_one (s_append 2 (q_ix (ixd (hu_of hr)) (q_varO 5) (QE.toO q_int)))))))) (ss_cons (s_own (i := 4) sc.nd (f_rep (QF.toO (f_lst (qa_cons (q_globD T.c_NOUGHT (by rfl)) qa_nil))) (QE.toO (q_callB cd_len (by rfl) T.b_len (by decide +kernel) (o_cons (q_varO 0) o_nil))))) (ss_cons (s_set (i := 3) sc.nd (q_callB cd_len (by rfl) T.b_len (by decide +kernel) (o_cons (q_varO 0) o_nil))) (ss_cons (s_while PassesOwn.never (t_cmp od_gt (q_varO 3) (QE.toO q_int) (nomark _)) (ss_cons (s_for PassesOwn.never rfl (i_range2 (by rfl) T.b_range (qa_cons (q_ix (ixd (hu_of hr)) (q_varO 2) (q_varO 3)) (qa_cons (q_var 3) qa_nil))) (g_name (i := 7) sc.nd) (ss_one (s_put 4 (hu_of hr) (q_ix (ixd (hu_of hr)) (q_varO 2) (q_varO 3)) (q_callD g_plus (hr.mono (by decide)) (by rfl) (qa_cons (q_ix (ixd (hu_of hr)) (q_varO 4) (QE.toO (q_ix (ixd (hu_of hr)) (q_varO 2) (q_varO 3)))) (qa_cons (q_ix (ixd (hu_of hr)) (QE.toO (q_ix (ixd (hu_of hr)) (q_varO 0) (q_varO 7))) (QE.toO q_int)) qa_nil)))))) (ss_one (s_set (i := 3) sc.nd (q_ix (ixd (hu_of hr)) (q_varO 2) (q_varO 3)))))) (ss_fz 1 (ss_fz 4 (ss_one (s_ret (q_tup (qa_cons (q_ix (ixd (hu_of hr)) (q_varO 1) (QE.toO (q_un ud_neg (QE.toO q_int)))) (qa_cons (q_var 4) (qa_cons (q_var 1) qa_nil)))))))))))))))
theorem sc_law_pick : FnScope [(Str.ofString "pool"), (Str.ofString "options")] [(Str.ofString "pool"), (Str.ofString "options")] (defScope s_law_pick) := ⟨rfl, rfl, rfl, by decide +kernel, rfl, by decide +kernel, by decide +kernel⟩
theorem ok_law_pick (T : Txt K mg) (g_law_draw : Def P w K mg (Str.ofString "_law_draw") [(Str.ofString "pool"), (Str.ofString "limit")] 3 S_law_draw) (hp : PureD p_law_pick S_law_pick 2 2) : Def P w K mg (Str.ofString "_law_pick") [(Str.ofString "pool"), (Str.ofString "options")] 4 S_law_pick :=
  have sc := sc_law_pick
  fnDef T.d_law_pick (fun _ _ _ _ _ _ us hl => match us, hl with | [_, _], _ => rfl) sc hp (p := p_law_pick) (fun base f cdv A outer s H E hr => (ss_one (s_ret (q_ix (ixd (hu_of hr)) (q_varO 1) (QE.toO (q_callD g_law_draw (hr.mono (by decide)) (by rfl) (qa_cons (q_var 0) (qa_cons (q_callB cd_len (by rfl) T.b_len (by decide +kernel) (o_cons (q_varO 1) o_nil)) qa_nil))))))))
theorem sc_law_gcd : FnScope [(Str.ofString "one"), (Str.ofString "other"), (Str.ofString "k")] [(Str.ofString "one"), (Str.ofString "other")] (defScope s_law_gcd) := ⟨rfl, rfl, rfl, by decide +kernel, rfl, by decide +kernel, by decide +kernel⟩
theorem ok_law_gcd (T : Txt K mg)  (hp : PureD p_law_gcd S_law_gcd 3 2) : Def P w K mg (Str.ofString "_law_gcd") [(Str.ofString "one"), (Str.ofString "other")] 1 S_law_gcd :=
  have sc := sc_law_gcd
  fnDef T.d_law_gcd (fun _ _ _ _ _ _ us hl => match us, hl with | [_, _], _ => rfl) sc hp (p := p_law_gcd) (fun base f cdv A outer s H E hr => (ss_cons (s_for PassesOwn.never rfl (i_range1 (by rfl) T.b_range (qa_cons q_int qa_nil)) (g_name (i := 2) sc.nd) (ss_cons (s_if (t_cmp (od_eq hr.units) (q_varO 1) (QE.toO q_int) (nomark _)) (ss_one s_break) ss_nil) (ss_one (s_par (i := 0) (j := 1) rfl sc.nd (qa_cons (q_var 1) (qa_cons (q_op od_mod (QE.toO (q_callTy cd_int (by rfl) T.b_int (by decide +kernel) (o_cons (q_varO 0) o_nil))) (q_varO 1)) qa_nil)))))) (ss_one (s_ret (q_var 0)))))
theorem sc_law_ratio : FnScope [(Str.ofString "p"), (Str.ofString "q"), (Str.ofString "shared")] [(Str.ofString "p"), (Str.ofString "q")] (defScope s_law_ratio) := ⟨rfl, rfl, rfl, by decide +kernel, rfl, by decide +kernel, by decide +kernel⟩
theorem ok_law_ratio (T : Txt K mg) (g_law_gcd : Def P w K mg (Str.ofString "_law_gcd") [(Str.ofString "one"), (Str.ofString "other")] 1 S_law_gcd) (hp : PureD p_law_ratio S_law_ratio 3 2) : Def P w K mg (Str.ofString "_law_ratio") [(Str.ofString "p"), (Str.ofString "q")] 2 S_law_ratio :=
  have sc := sc_law_ratio
  fnDef T.d_law_ratio (fun _ _ _ _ _ _ us hl => match us, hl with | [_, _], _ => rfl) sc hp (p := p_law_ratio) (fun base f cdv A outer s H E hr => (ss_cons (s_if (t_cmp od_lt (q_varO 1) (QE.toO q_int) (nomark _)) (ss_one (s_par (i := 0) (j := 1) rfl sc.nd (qa_cons (q_un ud_neg (q_varO 0)) (qa_cons (q_un ud_neg (q_varO 1)) qa_nil)))) ss_nil) (ss_cons (s_set (i := 2) sc.nd (q_callD g_law_gcd (hr.mono (by decide)) (by rfl) (qa_cons (q_callB cd_abs (by rfl) T.b_abs (by decide +kernel) (o_cons (q_varO 0) o_nil)) (qa_cons (q_var 1) qa_nil)))) (ss_one (s_ret (q_tup (qa_cons (q_op od_div (q_varO 0) (q_varO 2)) (qa_cons (q_op od_div (q_varO 1) (q_varO 2)) qa_nil))))))))
theorem sc_law_fraction : FnScope [(Str.ofString "pool"), (Str.ofString "most"), (Str.ofString "parts")] [(Str.ofString "pool"), (Str.ofString "most"), (Str.ofString "parts")] (defScope s_law_fraction) := ⟨rfl, rfl, rfl, by decide +kernel, rfl, by decide +kernel, by decide +kernel⟩
theorem ok_law_fraction (T : Txt K mg) (g_law_ratio : Def P w K mg (Str.ofString "_law_ratio") [(Str.ofString "p"), (Str.ofString "q")] 2 S_law_ratio) (g_law_draw : Def P w K mg (Str.ofString "_law_draw") [(Str.ofString "pool"), (Str.ofString "limit")] 3 S_law_draw) (hp : PureD p_law_fraction S_law_fraction 3 3) : Def P w K mg (Str.ofString "_law_fraction") [(Str.ofString "pool"), (Str.ofString "most"), (Str.ofString "parts")] 4 S_law_fraction :=
  have sc := sc_law_fraction
  fnDef T.d_law_fraction (fun _ _ _ _ _ _ us hl => match us, hl with | [_, _, _], _ => rfl) sc hp (p := p_law_fraction) (fun base f cdv A outer s H E hr => (ss_one (s_ret (q_callD g_law_ratio (hr.mono (by decide)) (by rfl) (qa_cons (q_callD g_law_draw (hr.mono (by decide)) (by rfl) (qa_cons (q_var 0) (qa_cons (q_op od_add (q_varO 1) (QE.toO q_int)) qa_nil))) (qa_cons (q_op od_add (QE.toO q_int) (QE.toO (q_callD g_law_draw (hr.mono (by decide)) (by rfl) (qa_cons (q_var 0) (qa_cons (q_var 2) qa_nil))))) qa_nil))))))
theorem sc_law_scene_of : FnScope [(Str.ofString "pool"), (Str.ofString "least_count"), (Str.ofString "most_count"), (Str.ofString "found"), (Str.ofString "k"), (Str.ofString "amount"), (Str.ofString "going"), (Str.ofString "price"), (Str.ofString "keeping")] [(Str.ofString "pool"), (Str.ofString "least_count"), (Str.ofString "most_count")] (defScope s_law_scene_of) := ⟨rfl, rfl, rfl, by decide +kernel, rfl, by decide +kernel, by decide +kernel⟩
theorem ok_law_scene_of (T : Txt K mg) (g_law_draw : Def P w K mg (Str.ofString "_law_draw") [(Str.ofString "pool"), (Str.ofString "limit")] 3 S_law_draw) (g_law_pick : Def P w K mg (Str.ofString "_law_pick") [(Str.ofString "pool"), (Str.ofString "options")] 4 S_law_pick) (g_law_fraction : Def P w K mg (Str.ofString "_law_fraction") [(Str.ofString "pool"), (Str.ofString "most"), (Str.ofString "parts")] 4 S_law_fraction) (g_law_next : Def P w K mg (Str.ofString "_law_next") [(Str.ofString "pool")] 3 S_law_next) (hp : PureD p_law_scene_of S_law_scene_of 9 3) : Def P w K mg (Str.ofString "_law_scene_of") [(Str.ofString "pool"), (Str.ofString "least_count"), (Str.ofString "most_count")] 5 S_law_scene_of :=
  have sc := sc_law_scene_of
  fnDef T.d_law_scene_of (fun _ _ _ _ _ _ us hl => match us, hl with | [_, _, _], _ => rfl) sc hp (p := p_law_scene_of) (fun base f cdv A outer s H E hr => (ss_cons (s_own (i := 3) sc.nd (f_lst qa_nil)) (ss_cons (s_for PassesOwn.never rfl (i_range1 (by rfl) T.b_range (qa_cons (q_op od_add (q_varO 1) (QE.toO (q_callD g_law_draw (hr.mono (by decide)) (by rfl) (qa_cons (q_var 0) (qa_cons (q_op od_add (QE.toO (q_op od_sub (q_varO 2) (q_varO 1))) (QE.toO q_int)) qa_nil))))) qa_nil)) (g_name (i := 4) sc.nd) (ss_cons (s_if (t_cmp (od_eq hr.units) (QE.toO (q_op od_mod (QE.toO (q_callTy cd_int (by rfl) T.b_int (by decide +kernel) (o_cons (q_varO 4) o_nil))) (QE.toO q_int))) (QE.toO q_int) (nomark _)) (ss_one (s_expr (q_callD g_law_next (hr.mono (by decide)) (by rfl) (qa_cons (q_var 0) qa_nil)))) ss_nil) (ss_cons (s_set (i := 5) sc.nd (q_callD g_law_pick (hr.mono (by decide)) (by rfl) (qa_cons (q_var 0) (qa_cons (QF.toE (f_lst (qa_cons (q_tup (qa_cons q_int (qa_cons q_int qa_nil))) (qa_cons (q_tup (qa_cons q_int (qa_cons q_int qa_nil))) (qa_cons (q_tup (qa_cons q_int (qa_cons q_int qa_nil))) (qa_cons (q_callD g_law_fraction (hr.mono (by decide)) (by rfl) (qa_cons (q_var 0) (qa_cons q_int (qa_cons q_int qa_nil)))) qa_nil)))))) qa_nil)))) (ss_cons (s_set (i := 6) sc.nd (q_callD g_law_pick (hr.mono (by decide)) (by rfl) (qa_cons (q_var 0) (qa_cons (QF.toE (f_lst (qa_cons (q_tup (qa_cons q_int (qa_cons q_int qa_nil))) (qa_cons (q_tup (qa_cons q_int (qa_cons q_int qa_nil))) (qa_cons (q_tup (qa_cons q_int (qa_cons q_int qa_nil))) (qa_cons (q_callD g_law_fraction (hr.mono (by decide)) (by rfl) (qa_cons (q_var 0) (qa_cons q_int (qa_cons q_int qa_nil)))) qa_nil)))))) qa_nil)))) (ss_cons (s_set (i := 7) sc.nd (q_callD g_law_pick (hr.mono (by decide)) (by rfl) (qa_cons (q_var 0) (qa_cons (QF.toE (f_lst (qa_cons (q_tup (qa_cons q_int (qa_cons q_int qa_nil))) (qa_cons (q_tup (qa_cons q_int (qa_cons q_int qa_nil))) (qa_cons (q_callD g_law_fraction (hr.mono (by decide)) (by rfl) (qa_cons (q_var 0) (qa_cons q_int (qa_cons q_int qa_nil)))) qa_nil))))) qa_nil)))) (ss_cons (s_set (i := 8) sc.nd (q_callD g_law_pick (hr.mono (by decide)) (by rfl) (qa_cons (q_var 0) (qa_cons (QF.toE (f_lst (qa_cons (q_tup (qa_cons q_int (qa_cons q_int qa_nil))) (qa_cons (q_tup (qa_cons q_int (qa_cons q_int qa_nil))) (qa_cons (q_tup (qa_cons q_int (qa_cons q_int qa_nil))) (qa_cons (q_callD g_law_fraction (hr.mono (by decide)) (by rfl) (qa_cons (q_var 0) (qa_cons q_int (qa_cons q_int qa_nil)))) qa_nil)))))) qa_nil)))) (ss_one (s_append 3 (q_tup (qa_cons (q_var 5) (qa_cons (q_var 6) (qa_cons (q_var 7) (qa_cons (q_var 8) qa_nil))))))))))))) (ss_fz 3 (ss_one (s_ret (q_var 3)))))))
theorem sc_law_mul : FnScope [(Str.ofString "one"), (Str.ofString "other")] [(Str.ofString "one"), (Str.ofString "other")] (defScope s_law_mul) := ⟨rfl, rfl, rfl, by decide +kernel, rfl, by decide +kernel, by decide +kernel⟩
theorem ok_law_mul (T : Txt K mg) (g_law_ratio : Def P w K mg (Str.ofString "_law_ratio") [(Str.ofString "p"), (Str.ofString "q")] 2 S_law_ratio) (hp : PureD p_law_mul S_law_mul 2 2) : Def P w K mg (Str.ofString "_law_mul") [(Str.ofString "one"), (Str.ofString "other")] 3 S_law_mul :=
  have sc := sc_law_mul
  fnDef T.d_law_mul (fun _ _ _ _ _ _ us hl => match us, hl with | [_, _], _ => rfl) sc hp (p := p_law_mul) (fun base f cdv A outer s H E hr => (ss_one (s_ret (q_callD g_law_ratio (hr.mono (by decide)) (by rfl) (qa_cons (q_op od_mul (QE.toO (q_ix (ixd (hu_of hr)) (q_varO 0) (QE.toO q_int))) (QE.toO (q_ix (ixd (hu_of hr)) (q_varO 1) (QE.toO q_int)))) (qa_cons (q_op od_mul (QE.toO (q_ix (ixd (hu_of hr)) (q_varO 0) (QE.toO q_int))) (QE.toO (q_ix (ixd (hu_of hr)) (q_varO 1) (QE.toO q_int)))) qa_nil))))))
theorem sc_law_same : FnScope [(Str.ofString "actual"), (Str.ofString "due"), (Str.ofString "k"), (Str.ofString "key")] [(Str.ofString "actual"), (Str.ofString "due")] (defScope s_law_same) := ⟨rfl, rfl, rfl, by decide +kernel, rfl, by decide +kernel, by decide +kernel⟩
theorem ok_law_same (T : Txt K mg)  (k : Nat) (hk : 1 ≤ k + 1) {S S' : SpecD} (G : Def P w K mg (Str.ofString "_law_same") [(Str.ofString "actual"), (Str.ofString "due")] k S) (hp : PureD (p_same1 S) S' 4 2) : Def P w K mg (Str.ofString "_law_same") [(Str.ofString "actual"), (Str.ofString "due")] (k + 1) S' :=
  have sc := sc_law_same
  fnDef T.d_law_same (fun _ _ _ _ _ _ us hl => match us, hl with | [_, _], _ => rfl) sc hp (p := p_same1 S) (fun base f cdv A outer s H E hr => (ss_cons (s_if (t_cmp od_is (q_varO 1) (QE.toO q_non) (nomark _)) (ss_one (s_ret (q_cmp od_is (q_varO 0) (QE.toO q_non) (nomark _)))) ss_nil) (ss_cons (s_if (t_cmp od_is (q_varO 1) (QE.toO q_bl) (nomark _)) (ss_one (s_ret (q_cmp od_is (q_varO 0) (QE.toO q_bl) (nomark _)))) ss_nil) (ss_cons (s_if (t_cmp od_is (q_varO 1) (QE.toO q_bl) (nomark _)) (ss_one (s_ret (q_cmp od_is (q_varO 0) (QE.toO q_bl) (nomark _)))) ss_nil) (ss_cons (s_if (t_val (q_callB cd_isi (by rfl) T.b_isinstance (by decide +kernel) (o_cons (q_varO 1) (o_cons (QE.toO (q_ty (by rfl) T.b_int (by decide +kernel))) o_nil)))) (ss_one (s_ret (q_and (q_callB cd_isi (by rfl) T.b_isinstance (by decide +kernel) (o_cons (q_varO 0) (o_cons (QE.toO (q_ty (by rfl) T.b_int (by decide +kernel))) o_nil))) (q_and (q_not (q_callB cd_isi (by rfl) T.b_isinstance (by decide +kernel) (o_cons (q_varO 0) (o_cons (QE.toO (q_ty (by rfl) T.b_bool (by decide +kernel))) o_nil)))) (q_one (q_cmp (od_eq hr.units) (q_varO 0) (q_varO 1) (nomark _))))))) ss_nil) (ss_cons (s_if (t_val (q_callB cd_isi (by rfl) T.b_isinstance (by decide +kernel) (o_cons (q_varO 1) (o_cons (QE.toO (q_ty (by rfl) T.b_str (by decide +kernel))) o_nil)))) (ss_one (s_ret (q_and (q_callB cd_isi (by rfl) T.b_isinstance (by decide +kernel) (o_cons (q_varO 0) (o_cons (QE.toO (q_ty (by rfl) T.b_str (by decide +kernel))) o_nil))) (q_one (q_cmp (od_eq hr.units) (q_varO 0) (q_varO 1) (nomark _)))))) ss_nil) (ss_cons (s_if (t_val (q_callB cd_isi (by rfl) T.b_isinstance (by decide +kernel) (o_cons (q_varO 1) (o_cons (QE.toO (q_ty (by rfl) T.b_dict (by decide +kernel))) o_nil)))) (ss_cons (s_if (t_or (t_not (t_val (q_callB cd_isi (by rfl) T.b_isinstance (by decide +kernel) (o_cons (q_varO 0) (o_cons (QE.toO (q_ty (by rfl) T.b_dict (by decide +kernel))) o_nil))))) (w_or1 (t_cmp (od_ne hr.units) (QE.toO (q_callB cd_len (by rfl) T.b_len (by decide +kernel) (o_cons (q_varO 0) o_nil))) (QE.toO (q_callB cd_len (by rfl) T.b_len (by decide +kernel) (o_cons (q_varO 1) o_nil))) (nomark _)))) (ss_one (s_ret q_bl)) ss_nil) (ss_cons (s_forK 1 PassesOwn.never rfl (g_name (i := 3) sc.nd) (ss_one (s_if (t_or (t_cmp (od_notIn hr.units) (q_varO 3) (q_varO 0) (by rfl)) (w_or1 (t_not (t_val (q_callD G hr (by rfl) (qa_cons (q_ix (ixd (hu_of hr)) (q_varO 0) (q_varO 3)) (qa_cons (q_ix (ixd (hu_of hr)) (q_varO 1) (q_varO 3)) qa_nil))))))) (ss_one (s_ret q_bl)) ss_nil))) (ss_one (s_ret q_bl)))) ss_nil) (ss_cons (s_if (t_or (t_cmp (od_ne hr.units) (QE.toO (q_callB cd_isi (by rfl) T.b_isinstance (by decide +kernel) (o_cons (q_varO 0) (o_cons (QE.toO (q_ty (by rfl) T.b_tuple (by decide +kernel))) o_nil)))) (QE.toO (q_callB cd_isi (by rfl) T.b_isinstance (by decide +kernel) (o_cons (q_varO 1) (o_cons (QE.toO (q_ty (by rfl) T.b_tuple (by decide +kernel))) o_nil)))) (nomark _)) (w_or1 (t_cmp (od_ne hr.units) (QE.toO (q_callB cd_isi (by rfl) T.b_isinstance (by decide +kernel) (o_cons (q_varO 0) (o_cons (QE.toO (q_ty (by rfl) T.b_list (by decide +kernel))) o_nil)))) (QE.toO (q_callB cd_isi (by rfl) T.b_isinstance (by decide +kernel) (o_cons (q_varO 1) (o_cons (QE.toO (q_ty (by rfl) T.b_list (by decide +kernel))) o_nil)))) (nomark _)))) (ss_one (s_ret q_bl)) ss_nil) (ss_cons (s_if (t_cmp (od_ne hr.units) (QE.toO (q_callB cd_len (by rfl) T.b_len (by decide +kernel) (o_cons (q_varO 0) o_nil))) (QE.toO (q_callB cd_len (by rfl) T.b_len (by decide +kernel) (o_cons (q_varO 1) o_nil))) (nomark _)) (ss_one (s_ret q_bl)) ss_nil) (ss_cons (s_for PassesOwn.never rfl (i_range1 (by rfl) T.b_range (qa_cons (q_callB cd_len (by rfl) T.b_len (by decide +kernel) (o_cons (q_varO 1) o_nil)) qa_nil)) (g_name (i := 2) sc.nd) (ss_one (s_if (t_not (t_val (q_callD G hr (by rfl) (qa_cons (q_ix (ixd (hu_of hr)) (q_varO 0) (q_varO 2)) (qa_cons (q_ix (ixd (hu_of hr)) (q_varO 1) (q_varO 2)) qa_nil))))) (ss_one (s_ret q_bl)) ss_nil))) (ss_one (s_ret q_bl))))))))))))
theorem sc_law_add : FnScope [(Str.ofString "one"), (Str.ofString "other")] [(Str.ofString "one"), (Str.ofString "other")] (defScope s_law_add) := ⟨rfl, rfl, rfl, by decide +kernel, rfl, by decide +kernel, by decide +kernel⟩
theorem ok_law_add (T : Txt K mg) (g_law_ratio : Def P w K mg (Str.ofString "_law_ratio") [(Str.ofString "p"), (Str.ofString "q")] 2 S_law_ratio) (hp : PureD p_law_add S_law_add 2 2) : Def P w K mg (Str.ofString "_law_add") [(Str.ofString "one"), (Str.ofString "other")] 3 S_law_add :=
  have sc := sc_law_add
  fnDef T.d_law_add (fun _ _ _ _ _ _ us hl => match us, hl with | [_, _], _ => rfl) sc hp (p := p_law_add) (fun base f cdv A outer s H E hr => (ss_one (s_ret (q_callD g_law_ratio (hr.mono (by decide)) (by rfl) (qa_cons (q_op od_add (QE.toO (q_op od_mul (QE.toO (q_ix (ixd (hu_of hr)) (q_varO 0) (QE.toO q_int))) (QE.toO (q_ix (ixd (hu_of hr)) (q_varO 1) (QE.toO q_int))))) (QE.toO (q_op od_mul (QE.toO (q_ix (ixd (hu_of hr)) (q_varO 1) (QE.toO q_int))) (QE.toO (q_ix (ixd (hu_of hr)) (q_varO 0) (QE.toO q_int)))))) (qa_cons (q_op od_mul (QE.toO (q_ix (ixd (hu_of hr)) (q_varO 0) (QE.toO q_int))) (QE.toO (q_ix (ixd (hu_of hr)) (q_varO 1) (QE.toO q_int)))) qa_nil))))))
theorem sc_law_sub : FnScope [(Str.ofString "one"), (Str.ofString "other")] [(Str.ofString "one"), (Str.ofString "other")] (defScope s_law_sub) := ⟨rfl, rfl, rfl, by decide +kernel, rfl, by decide +kernel, by decide +kernel⟩
theorem ok_law_sub (T : Txt K mg) (g_law_ratio : Def P w K mg (Str.ofString "_law_ratio") [(Str.ofString "p"), (Str.ofString "q")] 2 S_law_ratio) (hp : PureD p_law_sub S_law_sub 2 2) : Def P w K mg (Str.ofString "_law_sub") [(Str.ofString "one"), (Str.ofString "other")] 3 S_law_sub :=
  have sc := sc_law_sub
  fnDef T.d_law_sub (fun _ _ _ _ _ _ us hl => match us, hl with | [_, _], _ => rfl) sc hp (p := p_law_sub) (fun base f cdv A outer s H E hr => (ss_one (s_ret (q_callD g_law_ratio (hr.mono (by decide)) (by rfl) (qa_cons (q_op od_sub (QE.toO (q_op od_mul (QE.toO (q_ix (ixd (hu_of hr)) (q_varO 0) (QE.toO q_int))) (QE.toO (q_ix (ixd (hu_of hr)) (q_varO 1) (QE.toO q_int))))) (QE.toO (q_op od_mul (QE.toO (q_ix (ixd (hu_of hr)) (q_varO 1) (QE.toO q_int))) (QE.toO (q_ix (ixd (hu_of hr)) (q_varO 0) (QE.toO q_int)))))) (qa_cons (q_op od_mul (QE.toO (q_ix (ixd (hu_of hr)) (q_varO 0) (QE.toO q_int))) (QE.toO (q_ix (ixd (hu_of hr)) (q_varO 1) (QE.toO q_int)))) qa_nil))))))
theorem sc_law_plan_cost : FnScope [(Str.ofString "scene"), (Str.ofString "plan"), (Str.ofString "left"), (Str.ofString "total"), (Str.ofString "k")] [(Str.ofString "scene"), (Str.ofString "plan")] (defScope s_law_plan_cost) := ⟨rfl, rfl, rfl, by decide +kernel, rfl, by decide +kernel, by decide +kernel⟩
theorem ok_law_plan_cost (T : Txt K mg) (g_law_add : Def P w K mg (Str.ofString "_law_add") [(Str.ofString "one"), (Str.ofString "other")] 3 S_law_add) (g_law_mul : Def P w K mg (Str.ofString "_law_mul") [(Str.ofString "one"), (Str.ofString "other")] 3 S_law_mul) (g_law_sub : Def P w K mg (Str.ofString "_law_sub") [(Str.ofString "one"), (Str.ofString "other")] 3 S_law_sub) (hp : PureD p_law_plan_cost S_law_plan_cost 5 2) : Def P w K mg (Str.ofString "_law_plan_cost") [(Str.ofString "scene"), (Str.ofString "plan")] 4 S_law_plan_cost :=
  have sc := sc_law_plan_cost
  fnDef T.d_law_plan_cost (fun _ _ _ _ _ _ us hl => match us, hl with | [_, _], _ => rfl) sc hp (p := p_law_plan_cost) (fun base f cdv A outer s H E hr => (ss_cons (s_if (t_or (t_not (t_val (q_callB cd_isi (by rfl) T.b_isinstance (by decide +kernel) (o_cons (q_varO 1) (o_cons (QE.toO (q_ty (by rfl) T.b_list (by decide +kernel))) o_nil))))) (w_or1 (t_cmp (od_ne hr.units) (QE.toO (q_callB cd_len (by rfl) T.b_len (by decide +kernel) (o_cons (q_varO 1) o_nil))) (QE.toO (q_callB cd_len (by rfl) T.b_len (by decide +kernel) (o_cons (q_varO 0) o_nil))) (nomark _)))) (ss_one (s_ret q_non)) ss_nil) (ss_cons (s_set (i := 2) sc.nd (q_tup (qa_cons q_int (qa_cons q_int qa_nil)))) (ss_cons (s_set (i := 3) sc.nd (q_tup (qa_cons q_int (qa_cons q_int qa_nil)))) (ss_cons (s_for PassesOwn.never rfl (i_range1 (by rfl) T.b_range (qa_cons (q_callB cd_len (by rfl) T.b_len (by decide +kernel) (o_cons (q_varO 1) o_nil)) qa_nil)) (g_name (i := 4) sc.nd) (ss_cons (s_if (t_cmp od_lt (QE.toO (q_ix (ixd (hu_of hr)) (QE.toO (q_ix (ixd (hu_of hr)) (q_varO 1) (q_varO 4))) (QE.toO q_int))) (QE.toO q_int) (nomark _)) (ss_one (s_ret q_non)) ss_nil) (ss_cons (s_if (t_cmp od_gt (QE.toO (q_ix (ixd (hu_of hr)) (QE.toO (q_ix (ixd (hu_of hr)) (q_varO 1) (q_varO 4))) (QE.toO q_int))) (QE.toO q_int) (nomark _)) (ss_one (s_set (i := 3) sc.nd (q_callD g_law_add (hr.mono (by decide)) (by rfl) (qa_cons (q_var 3) (qa_cons (q_callD g_law_add (hr.mono (by decide)) (by rfl) (qa_cons (q_ix (ixd (hu_of hr)) (QE.toO (q_ix (ixd (hu_of hr)) (q_varO 0) (q_varO 4))) (QE.toO q_int)) (qa_cons (q_callD g_law_mul (hr.mono (by decide)) (by rfl) (qa_cons (q_ix (ixd (hu_of hr)) (QE.toO (q_ix (ixd (hu_of hr)) (q_varO 0) (q_varO 4))) (QE.toO q_int)) (qa_cons (q_ix (ixd (hu_of hr)) (q_varO 1) (q_varO 4)) qa_nil))) qa_nil))) qa_nil))))) ss_nil) (ss_cons (s_set (i := 2) sc.nd (q_callD g_law_sub (hr.mono (by decide)) (by rfl) (qa_cons (q_callD g_law_add (hr.mono (by decide)) (by rfl) (qa_cons (q_var 2) (qa_cons (q_ix (ixd (hu_of hr)) (q_varO 1) (q_varO 4)) qa_nil))) (qa_cons (q_ix (ixd (hu_of hr)) (QE.toO (q_ix (ixd (hu_of hr)) (q_varO 0) (q_varO 4))) (QE.toO q_int)) qa_nil)))) (ss_cons (s_if (t_cmp od_lt (QE.toO (q_ix (ixd (hu_of hr)) (q_varO 2) (QE.toO q_int))) (QE.toO q_int) (nomark _)) (ss_one (s_ret q_non)) ss_nil) (ss_one (s_set (i := 3) sc.nd (q_callD g_law_add (hr.mono (by decide)) (by rfl) (qa_cons (q_var 3) (qa_cons (q_callD g_law_mul (hr.mono (by decide)) (by rfl) (qa_cons (q_var 2) (qa_cons (q_ix (ixd (hu_of hr)) (QE.toO (q_ix (ixd (hu_of hr)) (q_varO 0) (q_varO 4))) (QE.toO q_int)) qa_nil))) qa_nil)))))))))) (ss_one (s_ret (q_var 3))))))))
theorem sc_law_unit : FnScope [(Str.ofString "scene"), (Str.ofString "bought"), (Str.ofString "needed"), (Str.ofString "found"), (Str.ofString "k")] [(Str.ofString "scene"), (Str.ofString "bought"), (Str.ofString "needed")] (defScope s_law_unit) := ⟨rfl, rfl, rfl, by decide +kernel, rfl, by decide +kernel, by decide +kernel⟩
theorem ok_law_unit (T : Txt K mg) (g_law_add : Def P w K mg (Str.ofString "_law_add") [(Str.ofString "one"), (Str.ofString "other")] 3 S_law_add) (hp : PureD p_law_unit S_law_unit 5 3) : Def P w K mg (Str.ofString "_law_unit") [(Str.ofString "scene"), (Str.ofString "bought"), (Str.ofString "needed")] 4 S_law_unit :=
  have sc := sc_law_unit
  fnDef T.d_law_unit (fun _ _ _ _ _ _ us hl => match us, hl with | [_, _, _], _ => rfl) sc hp (p := p_law_unit) (fun base f cdv A outer s H E hr => (ss_cons (s_set (i := 3) sc.nd (q_ix (ixd (hu_of hr)) (QE.toO (q_ix (ixd (hu_of hr)) (q_varO 0) (q_varO 1))) (QE.toO q_int))) (ss_cons (s_for PassesOwn.never rfl (i_range2 (by rfl) T.b_range (qa_cons (q_var 1) (qa_cons (q_var 2) qa_nil))) (g_name (i := 4) sc.nd) (ss_one (s_set (i := 3) sc.nd (q_callD g_law_add (hr.mono (by decide)) (by rfl) (qa_cons (q_var 3) (qa_cons (q_ix (ixd (hu_of hr)) (QE.toO (q_ix (ixd (hu_of hr)) (q_varO 0) (q_varO 4))) (QE.toO q_int)) qa_nil)))))) (ss_one (s_ret (q_var 3))))))
theorem sc_law_less : FnScope [(Str.ofString "one"), (Str.ofString "other")] [(Str.ofString "one"), (Str.ofString "other")] (defScope s_law_less) := ⟨rfl, rfl, rfl, by decide +kernel, rfl, by decide +kernel, by decide +kernel⟩
theorem ok_law_less (T : Txt K mg)  (hp : PureD p_law_less S_law_less 2 2) : Def P w K mg (Str.ofString "_law_less") [(Str.ofString "one"), (Str.ofString "other")] 1 S_law_less :=
  have sc := sc_law_less
  fnDef T.d_law_less (fun _ _ _ _ _ _ us hl => match us, hl with | [_, _], _ => rfl) sc hp (p := p_law_less) (fun base f cdv A outer s H E hr => (ss_one (s_ret (q_cmp od_lt (QE.toO (q_op od_mul (QE.toO (q_ix (ixd (hu_of hr)) (q_varO 0) (QE.toO q_int))) (QE.toO (q_ix (ixd (hu_of hr)) (q_varO 1) (QE.toO q_int))))) (QE.toO (q_op od_mul (QE.toO (q_ix (ixd (hu_of hr)) (q_varO 1) (QE.toO q_int))) (QE.toO (q_ix (ixd (hu_of hr)) (q_varO 0) (QE.toO q_int))))) (nomark _)))))
theorem sc_law_cost_with : FnScope [(Str.ofString "scene"), (Str.ofString "chosen"), (Str.ofString "total"), (Str.ofString "used_days"), (Str.ofString "day"), (Str.ofString "best"), (Str.ofString "bought"), (Str.ofString "number")] [(Str.ofString "scene"), (Str.ofString "chosen")] (defScope s_law_cost_with) := ⟨rfl, rfl, rfl, by decide +kernel, rfl, by decide +kernel, by decide +kernel⟩
theorem ok_law_cost_with (T : Txt K mg) (g_law_add : Def P w K mg (Str.ofString "_law_add") [(Str.ofString "one"), (Str.ofString "other")] 3 S_law_add) (g_law_mul : Def P w K mg (Str.ofString "_law_mul") [(Str.ofString "one"), (Str.ofString "other")] 3 S_law_mul) (g_law_less : Def P w K mg (Str.ofString "_law_less") [(Str.ofString "one"), (Str.ofString "other")] 1 S_law_less) (g_law_unit : Def P w K mg (Str.ofString "_law_unit") [(Str.ofString "scene"), (Str.ofString "bought"), (Str.ofString "needed")] 4 S_law_unit) (hp : PureD p_law_cost_with S_law_cost_with 8 2) : Def P w K mg (Str.ofString "_law_cost_with") [(Str.ofString "scene"), (Str.ofString "chosen")] 5 S_law_cost_with :=
  have sc := sc_law_cost_with
  fnDef T.d_law_cost_with (fun _ _ _ _ _ _ us hl => match us, hl with | [_, _], _ => rfl) sc hp (p := p_law_cost_with) (fun base f cdv A outer s H E hr => (ss_cons (s_set (i := 2) sc.nd (q_tup (qa_cons q_int (qa_cons q_int qa_nil)))) (ss_cons (s_own (i := 3) sc.nd (f_lst qa_nil)) (ss_cons (s_for PassesOwn.never rfl (i_range1 (by rfl) T.b_range (qa_cons (q_callB cd_len (by rfl) T.b_len (by decide +kernel) (o_cons (q_varO 0) o_nil)) qa_nil)) (g_name (i := 4) sc.nd) (ss_one (s_if (t_cmp od_gt (QE.toO (q_ix (ixd (hu_of hr)) (QE.toO (q_ix (ixd (hu_of hr)) (QE.toO (q_ix (ixd (hu_of hr)) (q_varO 0) (q_varO 4))) (QE.toO q_int))) (QE.toO q_int))) (QE.toO q_int) (nomark _)) (ss_cons (s_set (i := 5) sc.nd q_non) (ss_cons (s_for PassesOwn.never rfl (i_seq (q_var 1)) (g_name (i := 6) sc.nd) (ss_one (s_if (t_cmp od_le (q_varO 6) (q_varO 4) (nomark _)) (ss_cons (s_set (i := 7) sc.nd (q_callD g_law_unit (hr.mono (by decide)) (by rfl) (qa_cons (q_var 0) (qa_cons (q_var 6) (qa_cons (q_var 4) qa_nil))))) (ss_one (s_if (t_or (t_cmp od_is (q_varO 5) (QE.toO q_non) (nomark _)) (w_or1 (t_val (q_callD g_law_less (hr.mono (by decide)) (by rfl) (qa_cons (q_var 7) (qa_cons (q_ix (ixd (hu_of hr)) (q_varO 5) (QE.toO q_int)) qa_nil)))))) (ss_one (s_set (i := 5) sc.nd (q_tup (qa_cons (q_var 7) (qa_cons (q_var 6) qa_nil))))) ss_nil))) ss_nil))) (ss_cons (s_if (t_cmp od_is (q_varO 5) (QE.toO q_non) (nomark _)) (ss_one (s_ret q_non)) ss_nil) (ss_cons (s_set (i := 2) sc.nd (q_callD g_law_add (hr.mono (by decide)) (by rfl) (qa_cons (q_var 2) (qa_cons (q_callD g_law_mul (hr.mono (by decide)) (by rfl) (qa_cons (q_ix (ixd (hu_of hr)) (q_varO 5) (QE.toO q_int)) (qa_cons (q_ix (ixd (hu_of hr)) (QE.toO (q_ix (ixd (hu_of hr)) (q_varO 0) (q_varO 4))) (QE.toO q_int)) qa_nil))) qa_nil)))) (ss_one (s_if (t_cmp (od_notIn hr.units) (QE.toO (q_ix (ixd (hu_of hr)) (q_varO 5) (QE.toO q_int))) (q_varO 3) (by rfl)) (ss_cons (s_append 3 (q_ix (ixd (hu_of hr)) (q_varO 5) (QE.toO q_int))) (ss_one (s_set (i := 2) sc.nd (q_callD g_law_add (hr.mono (by decide)) (by rfl) (qa_cons (q_var 2) (qa_cons (q_ix (ixd (hu_of hr)) (QE.toO (q_ix (ixd (hu_of hr)) (q_varO 0) (QE.toO (q_ix (ixd (hu_of hr)) (q_varO 5) (QE.toO q_int))))) (QE.toO q_int)) qa_nil)))))) ss_nil)))))) ss_nil))) (ss_one (s_ret (q_var 2)))))))
theorem sc_law_cheapest : FnScope [(Str.ofString "scene"), (Str.ofString "chosen"), (Str.ofString "day"), (Str.ofString "best"), (Str.ofString "one"), (Str.ofString "number")] [(Str.ofString "scene")] (defScope s_law_cheapest) := ⟨rfl, rfl, rfl, by decide +kernel, rfl, by decide +kernel, by decide +kernel⟩
theorem ok_law_cheapest (T : Txt K mg) (g_law_less : Def P w K mg (Str.ofString "_law_less") [(Str.ofString "one"), (Str.ofString "other")] 1 S_law_less) (g_law_cost_with : Def P w K mg (Str.ofString "_law_cost_with") [(Str.ofString "scene"), (Str.ofString "chosen")] 5 S_law_cost_with) (hp : PureD p_law_cheapest S_law_cheapest 6 1) : Def P w K mg (Str.ofString "_law_cheapest") [(Str.ofString "scene")] 6 S_law_cheapest :=
  have sc := sc_law_cheapest
  fnDef T.d_law_cheapest (fun _ _ _ _ _ _ us hl => match us, hl with | [_], _ => rfl) sc hp (p := p_law_cheapest) (fun base f cdv A outer s H E hr => (ss_cons (s_set (i := 1) sc.nd (QF.toE (f_lst (qa_cons (QF.toE (f_lst qa_nil)) qa_nil)))) (ss_cons (s_for PassesOwn.never rfl (i_range1 (by rfl) T.b_range (qa_cons (q_callB cd_len (by rfl) T.b_len (by decide +kernel) (o_cons (q_varO 0) o_nil)) qa_nil)) (g_name (i := 2) sc.nd) (ss_one (s_set (i := 1) sc.nd (q_op od_add (q_varO 1) (QF.toO (f_lc [((Str.ofString "one"), 4)] rfl sc.nd (i_seq (q_var 1)) (N0 := [(Str.ofString "scene"), (Str.ofString "chosen"), (Str.ofString "day"), (Str.ofString "best"), (Str.ofString "one"), (Str.ofString "number")]) (sc0 := defScope s_law_cheapest) (by decide +kernel) rfl (fun _ _ _ _ _ => (v_name sc.nd (by decide))) (fun _ _ _ _ _ => ts_nil) (fun _ _ _ _ _ => (q_op od_add (q_varO 4) (QF.toO (f_lst (qa_cons (q_var 2) qa_nil))))))))))) (ss_cons (s_set (i := 3) sc.nd q_non) (ss_cons (s_for PassesOwn.never rfl (i_seq (q_var 1)) (g_name (i := 4) sc.nd) (ss_cons (s_set (i := 5) sc.nd (q_callD g_law_cost_with (hr.mono (by decide)) (by rfl) (qa_cons (q_var 0) (qa_cons (q_var 4) qa_nil)))) (ss_one (s_if (t_and (t_cmp od_isNot (q_varO 5) (QE.toO q_non) (nomark _)) (w_and1 (t_or (t_cmp od_is (q_varO 3) (QE.toO q_non) (nomark _)) (w_or1 (t_val (q_callD g_law_less (hr.mono (by decide)) (by rfl) (qa_cons (q_var 5) (qa_cons (q_var 3) qa_nil)))))))) (ss_one (s_set (i := 3) sc.nd (q_var 5))) ss_nil)))) (ss_one (s_ret (q_var 3))))))))
theorem sc_law_in_blocks : FnScope [(Str.ofString "scene"), (Str.ofString "plan"), (Str.ofString "days"), (Str.ofString "k"), (Str.ofString "last"), (Str.ofString "total"), (Str.ofString "day")] [(Str.ofString "scene"), (Str.ofString "plan")] (defScope s_law_in_blocks) := ⟨rfl, rfl, rfl, by decide +kernel, rfl, by decide +kernel, by decide +kernel⟩
theorem ok_law_in_blocks (T : Txt K mg) (g_law_add : Def P w K mg (Str.ofString "_law_add") [(Str.ofString "one"), (Str.ofString "other")] 3 S_law_add) (hp : PureD p_law_in_blocks S_law_in_blocks 7 2) : Def P w K mg (Str.ofString "_law_in_blocks") [(Str.ofString "scene"), (Str.ofString "plan")] 4 S_law_in_blocks :=
  have sc := sc_law_in_blocks
  fnDef T.d_law_in_blocks (fun _ _ _ _ _ _ us hl => match us, hl with | [_, _], _ => rfl) sc hp (p := p_law_in_blocks) (fun base f cdv A outer s H E hr => (ss_cons (s_setLc (i := 2) [((Str.ofString "k"), 3)] rfl sc.nd (i_range1 (by rfl) T.b_range (qa_cons (q_callB cd_len (by rfl) T.b_len (by decide +kernel) (o_cons (q_varO 1) o_nil)) qa_nil)) (N0 := [(Str.ofString "scene"), (Str.ofString "plan"), (Str.ofString "days"), (Str.ofString "k"), (Str.ofString "last"), (Str.ofString "total"), (Str.ofString "day")]) (sc0 := defScope s_law_in_blocks) (by decide +kernel) rfl (fun _ _ _ _ _ => (v_name sc.nd (by decide))) (fun _ _ _ _ _ => (ts_one (t_cmp od_gt (QE.toO (q_ix (ixd (hu_of hr)) (QE.toO (q_ix (ixd (hu_of hr)) (q_varO 1) (q_varO 3))) (QE.toO q_int))) (QE.toO q_int) (nomark _)))) (fun _ _ _ _ _ => (q_var 3)) (sw_true rfl rfl rfl (by decide +kernel))) (ss_cons (s_for PassesOwn.never rfl (i_range1 (by rfl) T.b_range (qa_cons (q_callB cd_len (by rfl) T.b_len (by decide +kernel) (o_cons (q_varO 2) o_nil)) qa_nil)) (g_name (i := 3) sc.nd) (ss_cons (s_set (i := 4) sc.nd (q_if (t_cmp od_lt (QE.toO (q_op od_add (q_varO 3) (QE.toO q_int))) (QE.toO (q_callB cd_len (by rfl) T.b_len (by decide +kernel) (o_cons (q_varO 2) o_nil))) (nomark _)) (q_ix (ixd (hu_of hr)) (q_varO 2) (QE.toO (q_op od_add (q_varO 3) (QE.toO q_int)))) (q_callB cd_len (by rfl) T.b_len (by decide +kernel) (o_cons (q_varO 0) o_nil)))) (ss_cons (s_set (i := 5) sc.nd (q_tup (qa_cons q_int (qa_cons q_int qa_nil)))) (ss_cons (s_for PassesOwn.never rfl (i_range2 (by rfl) T.b_range (qa_cons (q_ix (ixd (hu_of hr)) (q_varO 2) (q_varO 3)) (qa_cons (q_var 4) qa_nil))) (g_name (i := 6) sc.nd) (ss_one (s_set (i := 5) sc.nd (q_callD g_law_add (hr.mono (by decide)) (by rfl) (qa_cons (q_var 5) (qa_cons (q_ix (ixd (hu_of hr)) (QE.toO (q_ix (ixd (hu_of hr)) (q_varO 0) (q_varO 6))) (QE.toO q_int)) qa_nil)))))) (ss_one (s_if (t_cmp (od_ne hr.units) (q_varO 5) (QE.toO (q_ix (ixd (hu_of hr)) (q_varO 1) (QE.toO (q_ix (ixd (hu_of hr)) (q_varO 2) (q_varO 3))))) (nomark _)) (ss_one (s_ret q_bl)) ss_nil)))))) (ss_one (s_ret q_bl)))))
theorem ladder_law_same (T : Txt K mg) : Def P w K mg (Str.ofString "_law_same") [(Str.ofString "actual"), (Str.ofString "due")] 6 S_law_same := by
  have h0 : Def P w K mg (Str.ofString "_law_same") [(Str.ofString "actual"), (Str.ofString "due")] 0 (S_same 0) := Def.none T.d_law_same (fun _ _ _ _ _ _ us hl => match us, hl with | [_, _], _ => rfl)
  have up : ∀ n, Def P w K mg (Str.ofString "_law_same") [(Str.ofString "actual"), (Str.ofString "due")] n (S_same n) → Def P w K mg (Str.ofString "_law_same") [(Str.ofString "actual"), (Str.ofString "due")] (n + 1) (S_same (n + 1)) := fun n G => ok_law_same T n (by omega) G (pure_same1 n fun _ _ h => h)
  exact up 5 (up 4 (up 3 (up 2 (up 1 (up 0 h0)))))
theorem sc_law_first_part : FnScope [(Str.ofString "script"), (Str.ofString "pool"), (Str.ofString "turn"), (Str.ofString "scene"), (Str.ofString "more"), (Str.ofString "bought"), (Str.ofString "plan"), (Str.ofString "day"), (Str.ofString "form"), (Str.ofString "handed"), (Str.ofString "needed_on")] [(Str.ofString "script")] (defScope s_law_first_part) := ⟨rfl, rfl, rfl, by decide +kernel, rfl, by decide +kernel, by decide +kernel⟩
theorem ok_law_first_part (T : Txt K mg) (g_pool : DefV P w K mg (Str.ofString "_law_pool") [(Str.ofString "script")] 3 (spPool K)) (g_law_same : Def P w K mg (Str.ofString "_law_same") [(Str.ofString "actual"), (Str.ofString "due")] 6 S_law_same) (g_law_unit : Def P w K mg (Str.ofString "_law_unit") [(Str.ofString "scene"), (Str.ofString "bought"), (Str.ofString "needed")] 4 S_law_unit) (g_unit_cost : Def P w K mg (Str.ofString "unit_cost") [(Str.ofString "scene"), (Str.ofString "bought"), (Str.ofString "needed")] 3 S_unit_cost) (g_law_plan_cost : Def P w K mg (Str.ofString "_law_plan_cost") [(Str.ofString "scene"), (Str.ofString "plan")] 4 S_law_plan_cost) (g_plan_cost : Def P w K mg (Str.ofString "plan_cost") [(Str.ofString "scene"), (Str.ofString "plan")] 3 S_plan_cost) (g_law_draw : Def P w K mg (Str.ofString "_law_draw") [(Str.ofString "pool"), (Str.ofString "limit")] 3 S_law_draw) (g_law_pick : Def P w K mg (Str.ofString "_law_pick") [(Str.ofString "pool"), (Str.ofString "options")] 4 S_law_pick) (g_law_fraction : Def P w K mg (Str.ofString "_law_fraction") [(Str.ofString "pool"), (Str.ofString "most"), (Str.ofString "parts")] 4 S_law_fraction) (g_law_mul : Def P w K mg (Str.ofString "_law_mul") [(Str.ofString "one"), (Str.ofString "other")] 3 S_law_mul) (g_law_scene_of : Def P w K mg (Str.ofString "_law_scene_of") [(Str.ofString "pool"), (Str.ofString "least_count"), (Str.ofString "most_count")] 5 S_law_scene_of) (g_law_next : Def P w K mg (Str.ofString "_law_next") [(Str.ofString "pool")] 3 S_law_next) : DefV P w K mg (Str.ofString "_law_first_part") [(Str.ofString "script")] 7 (spPart K) := by
  have sc := sc_law_first_part
  refine fnDefV T.d_law_first_part (fun _ _ _ _ _ _ us hl => match us, hl with | [_], _ => rfl) sc (fun vs H Q E h => ?_) (fun base f cdv A outer s H vs Q E hr h => ?_)
  · obtain ⟨a, ns, rfl, _⟩ := h
    rfl
  · obtain ⟨a, ns, rfl, hs, q⟩ := h
    exact part_run (n := 9) (p := p_law_first_part) (ps_set (i := 1) sc.nd rfl (by first | exact Or.inl rfl | exact Or.inr rfl) (pe_callV g_pool (hr.mono (by decide)) (by rfl) (pa_cons (L2.pv 0) pa_nil)))
      ((ss_cons (s_for PassesOwn.never rfl (i_range1 (by rfl) T.b_range (qa_cons q_int qa_nil)) (g_name (i := 2) sc.nd) (ss_cons (s_expr (q_callD g_law_next (hr.mono (by decide)) (by rfl) (qa_cons (q_var 1) qa_nil))) (ss_cons (s_set (i := 3) sc.nd (q_callD g_law_scene_of (hr.mono (by decide)) (by rfl) (qa_cons (q_var 1) (qa_cons q_int (qa_cons q_int qa_nil))))) (ss_cons (s_for PassesOwn.never rfl (i_range1 (by rfl) T.b_range (qa_cons q_int qa_nil)) (g_name (i := 4) sc.nd) (ss_cons (s_own (i := 6) sc.nd (f_lst qa_nil)) (ss_cons (s_for PassesOwn.never rfl (i_seq (q_var 3)) (g_name (i := 7) sc.nd) (ss_one (s_append 6 (q_callD g_law_pick (hr.mono (by decide)) (by rfl) (qa_cons (q_var 1) (qa_cons (QF.toE (f_lst (qa_cons (q_ix (ixd (hu_of hr)) (q_varO 7) (QE.toO q_int)) (qa_cons (q_ix (ixd (hu_of hr)) (q_varO 7) (QE.toO q_int)) (qa_cons (q_tup (qa_cons q_int (qa_cons q_int qa_nil))) (qa_cons (q_callD g_law_mul (hr.mono (by decide)) (by rfl) (qa_cons (q_ix (ixd (hu_of hr)) (q_varO 7) (QE.toO q_int)) (qa_cons (q_tup (qa_cons q_int (qa_cons q_int qa_nil))) qa_nil))) (qa_cons (q_callD g_law_fraction (hr.mono (by decide)) (by rfl) (qa_cons (q_var 1) (qa_cons q_int (qa_cons q_int qa_nil)))) qa_nil))))))) qa_nil)))))) (ss_cons (s_if (t_and (t_cmp od_gt (QE.toO (q_callB cd_len (by rfl) T.b_len (by decide +kernel) (o_cons (q_varO 6) o_nil))) (QE.toO q_int) (nomark _)) (w_and1 (t_cmp (od_eq hr.units) (QE.toO (q_callD g_law_draw (hr.mono (by decide)) (by rfl) (qa_cons (q_var 1) (qa_cons q_int qa_nil)))) (QE.toO q_int) (nomark _)))) (ss_one (s_put 6 (hu_of hr) q_int (q_tup (qa_cons q_int (qa_cons q_int qa_nil))))) ss_nil) (ss_cons (s_set (i := 8) sc.nd (q_callD g_law_draw (hr.mono (by decide)) (by rfl) (qa_cons (q_var 1) (qa_cons q_int qa_nil)))) (ss_cons (s_if (t_cmp (od_eq hr.units) (q_varO 8) (QE.toO q_int) (nomark _)) (ss_one (s_append 6 (q_tup (qa_cons q_int (qa_cons q_int qa_nil))))) (ss_one (s_if (t_and (t_cmp (od_eq hr.units) (q_varO 8) (QE.toO q_int) (nomark _)) (w_and1 (t_cmp od_gt (QE.toO (q_callB cd_len (by rfl) T.b_len (by decide +kernel) (o_cons (q_varO 6) o_nil))) (QE.toO q_int) (nomark _)))) (ss_one (s_put 6 (hu_of hr) (q_callD g_law_draw (hr.mono (by decide)) (by rfl) (qa_cons (q_var 1) (qa_cons (q_callB cd_len (by rfl) T.b_len (by decide +kernel) (o_cons (q_varO 6) o_nil)) qa_nil))) (q_tup (qa_cons (q_un ud_neg (QE.toO q_int)) (qa_cons q_int qa_nil))))) ss_nil))) (ss_cons (s_set (i := 9) sc.nd (QF.toE (f_callTy cdf_list (by rfl) T.b_list (by decide +kernel) (o_cons (q_varO 6) o_nil)))) (ss_fz 6 (ss_one (s_if (t_or (t_not (t_val (q_callD g_law_same (hr.mono (by decide)) (by rfl) (qa_cons (q_callD g_plan_cost (hr.mono (by decide)) (by rfl) (qa_cons (QF.toE (f_callTy cdf_list (by rfl) T.b_list (by decide +kernel) (o_cons (q_varO 3) o_nil))) (qa_cons (q_var 9) qa_nil))) (qa_cons (q_callD g_law_plan_cost (hr.mono (by decide)) (by rfl) (qa_cons (q_var 3) (qa_cons (q_var 6) qa_nil))) qa_nil))))) (w_or1 (t_cmp (od_ne hr.units) (q_varO 9) (q_varO 6) (nomark _)))) (ss_one (s_ret q_bl)) ss_nil)))))))))) (ss_one (s_for PassesOwn.never rfl (i_range1 (by rfl) T.b_range (qa_cons (q_callB cd_len (by rfl) T.b_len (by decide +kernel) (o_cons (q_varO 3) o_nil)) qa_nil)) (g_name (i := 5) sc.nd) (ss_one (s_for PassesOwn.never rfl (i_range2 (by rfl) T.b_range (qa_cons (q_var 5) (qa_cons (q_callB cd_len (by rfl) T.b_len (by decide +kernel) (o_cons (q_varO 3) o_nil)) qa_nil))) (g_name (i := 10) sc.nd) (ss_one (s_if (t_not (t_val (q_callD g_law_same (hr.mono (by decide)) (by rfl) (qa_cons (q_callD g_unit_cost (hr.mono (by decide)) (by rfl) (qa_cons (q_var 3) (qa_cons (q_var 5) (qa_cons (q_var 10) qa_nil)))) (qa_cons (q_callD g_law_unit (hr.mono (by decide)) (by rfl) (qa_cons (q_var 3) (qa_cons (q_var 5) (qa_cons (q_var 10) qa_nil)))) qa_nil))))) (ss_one (s_ret q_bl)) ss_nil)))))))))) (ss_one (s_ret q_bl)))) hs q pure_law_first_part
theorem sc_law : FnScope [(Str.ofString "script"), (Str.ofString "pool"), (Str.ofString "turn"), (Str.ofString "scene"), (Str.ofString "told"), (Str.ofString "due"), (Str.ofString "more"), (Str.ofString "plan"), (Str.ofString "number"), (Str.ofString "j"), (Str.ofString "day")] [(Str.ofString "script")] (defScope s_law) := ⟨rfl, rfl, rfl, by decide +kernel, rfl, by decide +kernel, by decide +kernel⟩
theorem ok_law (T : Txt K mg) (g_pool : DefV P w K mg (Str.ofString "_law_pool") [(Str.ofString "script")] 3 (spPool K)) (g_law_less : Def P w K mg (Str.ofString "_law_less") [(Str.ofString "one"), (Str.ofString "other")] 1 S_law_less) (g_law_plan_cost : Def P w K mg (Str.ofString "_law_plan_cost") [(Str.ofString "scene"), (Str.ofString "plan")] 4 S_law_plan_cost) (g_law_draw : Def P w K mg (Str.ofString "_law_draw") [(Str.ofString "pool"), (Str.ofString "limit")] 3 S_law_draw) (g_law_pick : Def P w K mg (Str.ofString "_law_pick") [(Str.ofString "pool"), (Str.ofString "options")] 4 S_law_pick) (g_law_mul : Def P w K mg (Str.ofString "_law_mul") [(Str.ofString "one"), (Str.ofString "other")] 3 S_law_mul) (g_law_in_blocks : Def P w K mg (Str.ofString "_law_in_blocks") [(Str.ofString "scene"), (Str.ofString "plan")] 4 S_law_in_blocks) (g_law_same : Def P w K mg (Str.ofString "_law_same") [(Str.ofString "actual"), (Str.ofString "due")] 6 S_law_same) (g_law_cheapest : Def P w K mg (Str.ofString "_law_cheapest") [(Str.ofString "scene")] 6 S_law_cheapest) (g_best_plan : Def P w K mg (Str.ofString "best_plan") [(Str.ofString "scene")] 5 S_best_plan) (g_law_scene_of : Def P w K mg (Str.ofString "_law_scene_of") [(Str.ofString "pool"), (Str.ofString "least_count"), (Str.ofString "most_count")] 5 S_law_scene_of) (g_law_next : Def P w K mg (Str.ofString "_law_next") [(Str.ofString "pool")] 3 S_law_next) (g_law_first_part : DefV P w K mg (Str.ofString "_law_first_part") [(Str.ofString "script")] 7 (spPart K)) {fa : Addr} (hmg : mg (Str.ofString "law") = some (.ref fa)) :
    ∃ fd, (∀ (s : Shared) (u : Value), BindsTo s fd ⟨[u], []⟩ [((Str.ofString "script"), u)]) ∧ ∀ base : Heap, K.In base → base.Ns mainGlobals mg → FnOk P w K mg base CX0 8 fa fd [(Str.ofString "script")] (spLaw K) := by
  have sc := sc_law
  refine fnLaw T.d_law (fun _ _ _ _ _ _ _ _ => .of_eq rfl) sc (fun vs H Q E h => ?_) (fun base f cdv A outer s H vs Q E hr h => ?_) hmg
  · obtain ⟨a, ns, rfl, _⟩ := h
    rfl
  · obtain ⟨a, ns, rfl, hs, hl, q⟩ := h
    exact law_run2 (n := 9) (p := p_law) (ps_if (pt_not (pt_val (pe_callV g_law_first_part (hr.mono (by decide)) (by rfl) (pa_cons (L2.pv 0) pa_nil)))) (pss_one (ps_ret pe_bl)) pss_nil) (ps_set (i := 1) sc.nd rfl (by first | exact Or.inl rfl | exact Or.inr rfl) (pe_callV g_pool (hr.mono (by decide)) (by rfl) (pa_cons (L2.pv 0) pa_nil)))
      ((ss_cons (s_for PassesOwn.never rfl (i_range1 (by rfl) T.b_range (qa_cons q_int qa_nil)) (g_name (i := 2) sc.nd) (ss_cons (s_expr (q_callD g_law_next (hr.mono (by decide)) (by rfl) (qa_cons (q_var 1) qa_nil))) (ss_cons (s_set (i := 3) sc.nd (q_callD g_law_scene_of (hr.mono (by decide)) (by rfl) (qa_cons (q_var 1) (qa_cons q_int (qa_cons q_int qa_nil))))) (ss_cons (s_set (i := 4) sc.nd (q_callD g_best_plan (hr.mono (by decide)) (by rfl) (qa_cons (QF.toE (f_callTy cdf_list (by rfl) T.b_list (by decide +kernel) (o_cons (q_varO 3) o_nil))) qa_nil))) (ss_cons (s_if (t_or (t_not (t_val (q_callB cd_isi (by rfl) T.b_isinstance (by decide +kernel) (o_cons (q_varO 4) (o_cons (QE.toO (q_ty (by rfl) T.b_tuple (by decide +kernel))) o_nil))))) (w_or (t_cmp (od_ne hr.units) (QE.toO (q_callB cd_len (by rfl) T.b_len (by decide +kernel) (o_cons (q_varO 4) o_nil))) (QE.toO q_int) (nomark _)) (w_or1 (t_not (t_val (q_callB cd_isi (by rfl) T.b_isinstance (by decide +kernel) (o_cons (QE.toO (q_ix (ixd (hu_of hr)) (q_varO 4) (QE.toO q_int))) (o_cons (QE.toO (q_ty (by rfl) T.b_list (by decide +kernel))) o_nil)))))))) (ss_one (s_ret q_bl)) ss_nil) (ss_cons (s_setLc (i := 5) [((Str.ofString "j"), 9)] rfl sc.nd (i_range1 (by rfl) T.b_range (qa_cons (q_op od_add (QE.toO (q_callB cd_len (by rfl) T.b_len (by decide +kernel) (o_cons (q_varO 3) o_nil))) (QE.toO q_int)) qa_nil)) (N0 := [(Str.ofString "script"), (Str.ofString "pool"), (Str.ofString "turn"), (Str.ofString "scene"), (Str.ofString "told"), (Str.ofString "due"), (Str.ofString "more"), (Str.ofString "plan"), (Str.ofString "number"), (Str.ofString "j"), (Str.ofString "day")]) (sc0 := defScope s_law) (by decide +kernel) rfl (fun _ _ _ _ _ => (v_name sc.nd (by decide))) (fun _ _ _ _ _ => ts_nil) (fun _ _ _ _ _ => (q_callD g_law_cheapest (hr.mono (by decide)) (by rfl) (qa_cons (q_slice (q_varO 3) p_none (p_some (q_var 9))) qa_nil))) (sw_true rfl rfl rfl (by decide +kernel))) (ss_cons (s_if (t_or (t_not (t_val (q_callD g_law_same (hr.mono (by decide)) (by rfl) (qa_cons (q_ix (ixd (hu_of hr)) (q_varO 4) (QE.toO q_int)) (qa_cons (q_var 5) qa_nil))))) (w_or1 (t_not (t_val (q_callD g_law_same (hr.mono (by decide)) (by rfl) (qa_cons (q_ix (ixd (hu_of hr)) (q_varO 4) (QE.toO q_int)) (qa_cons (q_ix (ixd (hu_of hr)) (q_varO 5) (QE.toO (q_un ud_neg (QE.toO q_int)))) qa_nil))))))) (ss_one (s_ret q_bl)) ss_nil) (ss_cons (s_if (t_or (t_cmp (od_ne hr.units) (QE.toO (q_callD g_law_plan_cost (hr.mono (by decide)) (by rfl) (qa_cons (q_var 3) (qa_cons (q_ix (ixd (hu_of hr)) (q_varO 4) (QE.toO q_int)) qa_nil)))) (QE.toO (q_ix (ixd (hu_of hr)) (q_varO 4) (QE.toO q_int))) (nomark _)) (w_or1 (t_not (t_val (q_callD g_law_in_blocks (hr.mono (by decide)) (by rfl) (qa_cons (q_var 3) (qa_cons (q_ix (ixd (hu_of hr)) (q_varO 4) (QE.toO q_int)) qa_nil))))))) (ss_one (s_ret q_bl)) ss_nil) (ss_one (s_for PassesOwn.never rfl (i_range1 (by rfl) T.b_range (qa_cons q_int qa_nil)) (g_name (i := 6) sc.nd) (ss_cons (s_ownLc (i := 7) [((Str.ofString "day"), 10)] rfl sc.nd (i_seq (q_var 3)) (N0 := [(Str.ofString "script"), (Str.ofString "pool"), (Str.ofString "turn"), (Str.ofString "scene"), (Str.ofString "told"), (Str.ofString "due"), (Str.ofString "more"), (Str.ofString "plan"), (Str.ofString "number"), (Str.ofString "j"), (Str.ofString "day")]) (sc0 := defScope s_law) (by decide +kernel) rfl (fun _ _ _ _ _ => (v_name sc.nd (by decide))) (fun _ _ _ _ _ => ts_nil) (fun _ _ _ _ _ => (q_callD g_law_pick (hr.mono (by decide)) (by rfl) (qa_cons (q_var 1) (qa_cons (QF.toE (f_lst (qa_cons (q_ix (ixd (hu_of hr)) (q_varO 10) (QE.toO q_int)) (qa_cons (q_callD g_law_mul (hr.mono (by decide)) (by rfl) (qa_cons (q_ix (ixd (hu_of hr)) (q_varO 10) (QE.toO q_int)) (qa_cons (q_tup (qa_cons q_int (qa_cons q_int qa_nil))) qa_nil))) (qa_cons (q_tup (qa_cons q_int (qa_cons q_int qa_nil))) qa_nil))))) qa_nil)))) (sw_true rfl rfl rfl (by decide +kernel))) (ss_cons (s_if (t_and (t_cmp od_gt (QE.toO (q_callB cd_len (by rfl) T.b_len (by decide +kernel) (o_cons (q_varO 7) o_nil))) (QE.toO q_int) (nomark _)) (w_and1 (t_cmp (od_eq hr.units) (QE.toO (q_callD g_law_draw (hr.mono (by decide)) (by rfl) (qa_cons (q_var 1) (qa_cons q_int qa_nil)))) (QE.toO q_int) (nomark _)))) (ss_one (s_put 7 (hu_of hr) q_int (q_tup (qa_cons q_int (qa_cons q_int qa_nil))))) ss_nil) (ss_fz 7 (ss_cons (s_set (i := 8) sc.nd (q_callD g_law_plan_cost (hr.mono (by decide)) (by rfl) (qa_cons (q_var 3) (qa_cons (q_var 7) qa_nil)))) (ss_one (s_if (t_and (t_cmp od_isNot (q_varO 8) (QE.toO q_non) (nomark _)) (w_and1 (t_val (q_callD g_law_less (hr.mono (by decide)) (by rfl) (qa_cons (q_var 8) (qa_cons (q_ix (ixd (hu_of hr)) (q_varO 4) (QE.toO q_int)) qa_nil)))))) (ss_one (s_ret q_bl)) ss_nil)))))))))))))))) (ss_one (s_ret q_bl)))) hs q pure_law
theorem all (T : Txt K mg) {fa : Addr} (hmg : mg (Str.ofString "law") = some (.ref fa)) :
    ∃ fd, (∀ (s : Shared) (u : Value), BindsTo s fd ⟨[u], []⟩ [((Str.ofString "script"), u)]) ∧ ∀ base : Heap, K.In base → base.Ns mainGlobals mg → FnOk P w K mg base CX0 8 fa fd [(Str.ofString "script")] (spLaw K) := by
  have g_law_mixed := ok_law_mixed (P := P) (w := w) T
  have g_law_rest := ok_law_rest T g_law_mixed
  have g_law_pool := ok_law_pool T g_law_rest
  have g_law_next := ok_law_next T g_law_rest
  have g_law_draw := ok_law_draw T g_law_rest
  have g_law_less := ok_law_less (P := P) (w := w) T  pure_law_less
  have g_law_gcd := ok_law_gcd (P := P) (w := w) T  pure_law_gcd
  have g_law_ratio := ok_law_ratio (P := P) (w := w) T g_law_gcd pure_law_ratio
  have g_law_add := ok_law_add (P := P) (w := w) T g_law_ratio pure_law_add
  have g_law_mul := ok_law_mul (P := P) (w := w) T g_law_ratio pure_law_mul
  have g_law_sub := ok_law_sub (P := P) (w := w) T g_law_ratio pure_law_sub
  have g_law_plan_cost := ok_law_plan_cost (P := P) (w := w) T g_law_add g_law_mul g_law_sub pure_law_plan_cost
  have g_law_pick := ok_law_pick (P := P) (w := w) T g_law_draw pure_law_pick
  have g_law_in_blocks := ok_law_in_blocks (P := P) (w := w) T g_law_add pure_law_in_blocks
  have g_law_same := ladder_law_same (P := P) (w := w) T 
  have g_law_unit := ok_law_unit (P := P) (w := w) T g_law_add pure_law_unit
  have g_law_cost_with := ok_law_cost_with (P := P) (w := w) T g_law_add g_law_mul g_law_less g_law_unit pure_law_cost_with
  have g_law_cheapest := ok_law_cheapest (P := P) (w := w) T g_law_less g_law_cost_with pure_law_cheapest
  have g_frac := ok_frac (P := P) (w := w) T  pure_frac
  have g_plus := ok_plus (P := P) (w := w) T g_frac pure_plus
  have g_less := ok_less (P := P) (w := w) T  pure_less
  have g_times := ok_times (P := P) (w := w) T g_frac pure_times
  have g_unit_cost := ok_unit_cost (P := P) (w := w) T g_plus pure_unit_cost
  have g_block_cost := ok_block_cost (P := P) (w := w) T g_plus g_times g_unit_cost pure_block_cost
  have g_best_plan := ok_best_plan (P := P) (w := w) T g_plus g_less g_block_cost pure_best_plan
  have g_law_fraction := ok_law_fraction (P := P) (w := w) T g_law_ratio g_law_draw pure_law_fraction
  have g_law_scene_of := ok_law_scene_of (P := P) (w := w) T g_law_draw g_law_pick g_law_fraction g_law_next pure_law_scene_of
  have g_minus := ok_minus (P := P) (w := w) T g_frac pure_minus
  have g_plan_cost := ok_plan_cost (P := P) (w := w) T g_plus g_times g_less g_minus pure_plan_cost
  have g_law_first_part := ok_law_first_part (P := P) (w := w) T g_law_pool g_law_same g_law_unit g_unit_cost g_law_plan_cost g_plan_cost g_law_draw g_law_pick g_law_fraction g_law_mul g_law_scene_of g_law_next
  exact ok_law T g_law_pool g_law_less g_law_plan_cost g_law_draw g_law_pick g_law_mul g_law_in_blocks g_law_same g_law_cheapest g_best_plan g_law_scene_of g_law_next g_law_first_part hmg
end
end K46

open PySem PySem.W PyProof.Rows
set_option maxHeartbeats 0 in
theorem PySem.Challenge.cw_pairsave_k46_whole_plans_of_buying_ahead_holds : PySem.Challenge.rw_pairsave_k46_whole_plans_of_buying_ahead.Holds := by
  w_on
  o_law
  k_head
  (case hw => w_witness2)
  k_fill
  refine L2.walk_of (l := PySem.Challenge.rw_pairsave_k46_whole_plans_of_buying_ahead) (n := 63) (k := 8) (x := (Str.ofString "script")) (CX := fun _ => L2.CX0) (sp := fun w => DL.spLaw _) rfl (by decide) rfl ⟨rfl, by decide, by decide⟩ (fun w h Y => PySem.W.kIn_of Y) ?F (fun _ _ a ns hl _ hS => ⟨a, ns, rfl, hS, hl, fun _ => rfl⟩) (fun _ _ _ _ _ h => h)
  case F =>
    intro w mg fa h KX G hmg
    refine K46.all ?T hmg
    case T =>
      refine K46.Txt.mk ?t0 ?t1 ?t2 ?t3 ?t4 ?t5 ?t6 ?t7 ?t8 ?t9 ?t10 ?t11 ?t12 ?t13 ?t14 ?t15 ?t16 ?t17 ?t18 ?t19 ?t20 ?t21 ?t22 ?t23 ?t24 ?t25 ?t26 ?t27 ?t28 ?t29 ?t30 ?t31 ?t32 ?t33 ?t34 ?t35 ?t36 ?t37 ?t38 ?t39 ?t40 ?t41 ?t42 ?t43 ?t44
      (case t0 => refine' DL.fun_at KX G ?a ?l ?c ?k; (case a => k_is); (case l => k_is); (case c => k_is); (case k => k_is))
      (case t1 => refine' DL.fun_at KX G ?a ?l ?c ?k; (case a => k_is); (case l => k_is); (case c => k_is); (case k => k_is))
      (case t2 => refine' DL.fun_at KX G ?a ?l ?c ?k; (case a => k_is); (case l => k_is); (case c => k_is); (case k => k_is))
      (case t3 => refine' DL.fun_at KX G ?a ?l ?c ?k; (case a => k_is); (case l => k_is); (case c => k_is); (case k => k_is))
      (case t4 => refine' DL.fun_at KX G ?a ?l ?c ?k; (case a => k_is); (case l => k_is); (case c => k_is); (case k => k_is))
      (case t5 => refine' DL.fun_at KX G ?a ?l ?c ?k; (case a => k_is); (case l => k_is); (case c => k_is); (case k => k_is))
      (case t6 => refine' DL.fun_at KX G ?a ?l ?c ?k; (case a => k_is); (case l => k_is); (case c => k_is); (case k => k_is))
      (case t7 => refine' DL.fun_at KX G ?a ?l ?c ?k; (case a => k_is); (case l => k_is); (case c => k_is); (case k => k_is))
      (case t8 => refine' DL.fun_at KX G ?a ?l ?c ?k; (case a => k_is); (case l => k_is); (case c => k_is); (case k => k_is))
      (case t9 => refine' DL.fun_at KX G ?a ?l ?c ?k; (case a => k_is); (case l => k_is); (case c => k_is); (case k => k_is))
      (case t10 => refine' DL.fun_at KX G ?a ?l ?c ?k; (case a => k_is); (case l => k_is); (case c => k_is); (case k => k_is))
      (case t11 => refine' DL.fun_at KX G ?a ?l ?c ?k; (case a => k_is); (case l => k_is); (case c => k_is); (case k => k_is))
      (case t12 => refine' DL.fun_at KX G ?a ?l ?c ?k; (case a => k_is); (case l => k_is); (case c => k_is); (case k => k_is))
      (case t13 => refine' DL.fun_at KX G ?a ?l ?c ?k; (case a => k_is); (case l => k_is); (case c => k_is); (case k => k_is))
      (case t14 => refine' DL.fun_at KX G ?a ?l ?c ?k; (case a => k_is); (case l => k_is); (case c => k_is); (case k => k_is))
      (case t15 => refine' DL.fun_at KX G ?a ?l ?c ?k; (case a => k_is); (case l => k_is); (case c => k_is); (case k => k_is))
      (case t16 => refine' DL.fun_at KX G ?a ?l ?c ?k; (case a => k_is); (case l => k_is); (case c => k_is); (case k => k_is))
      (case t17 => refine' DL.fun_at KX G ?a ?l ?c ?k; (case a => k_is); (case l => k_is); (case c => k_is); (case k => k_is))
      (case t18 => refine' DL.fun_at KX G ?a ?l ?c ?k; (case a => k_is); (case l => k_is); (case c => k_is); (case k => k_is))
      (case t19 => refine' DL.fun_at KX G ?a ?l ?c ?k; (case a => k_is); (case l => k_is); (case c => k_is); (case k => k_is))
      (case t20 => refine' DL.fun_at KX G ?a ?l ?c ?k; (case a => k_is); (case l => k_is); (case c => k_is); (case k => k_is))
      (case t21 => refine' DL.fun_at KX G ?a ?l ?c ?k; (case a => k_is); (case l => k_is); (case c => k_is); (case k => k_is))
      (case t22 => refine' DL.fun_at KX G ?a ?l ?c ?k; (case a => k_is); (case l => k_is); (case c => k_is); (case k => k_is))
      (case t23 => refine' DL.fun_at KX G ?a ?l ?c ?k; (case a => k_is); (case l => k_is); (case c => k_is); (case k => k_is))
      (case t24 => refine' DL.fun_at KX G ?a ?l ?c ?k; (case a => k_is); (case l => k_is); (case c => k_is); (case k => k_is))
      (case t25 => refine' DL.fun_at KX G ?a ?l ?c ?k; (case a => k_is); (case l => k_is); (case c => k_is); (case k => k_is))
      (case t26 => refine' DL.fun_at KX G ?a ?l ?c ?k; (case a => k_is); (case l => k_is); (case c => k_is); (case k => k_is))
      (case t27 => refine' DL.fun_at KX G ?a ?l ?c ?k; (case a => k_is); (case l => k_is); (case c => k_is); (case k => k_is))
      (case t28 => refine' DL.fun_at KX G ?a ?l ?c ?k; (case a => k_is); (case l => k_is); (case c => k_is); (case k => k_is))
      (case t29 => refine' DL.fun_at KX G ?a ?l ?c ?k; (case a => k_is); (case l => k_is); (case c => k_is); (case k => k_is))
      (case t30 => refine' DL.fun_at KX G ?a ?l ?c ?k; (case a => k_is); (case l => k_is); (case c => k_is); (case k => k_is))
      (case t31 => refine PySem.W.mg_none_of KX G ?z; (case z => k_is))
      (case t32 => refine PySem.W.mg_none_of KX G ?z; (case z => k_is))
      (case t33 => refine PySem.W.mg_none_of KX G ?z; (case z => k_is))
      (case t34 => refine PySem.W.mg_none_of KX G ?z; (case z => k_is))
      (case t35 => refine PySem.W.mg_of KX G ?z; (case z => k_is))
      (case t36 => refine PySem.W.mg_none_of KX G ?z; (case z => k_is))
      (case t37 => refine PySem.W.mg_none_of KX G ?z; (case z => k_is))
      (case t38 => refine PySem.W.mg_none_of KX G ?z; (case z => k_is))
      (case t39 => refine PySem.W.mg_none_of KX G ?z; (case z => k_is))
      (case t40 => refine PySem.W.mg_none_of KX G ?z; (case z => k_is))
      (case t41 => refine PySem.W.mg_none_of KX G ?z; (case z => k_is))
      (case t42 => refine PySem.W.mg_none_of KX G ?z; (case z => k_is))
      (case t43 => refine PySem.W.mg_none_of KX G ?z; (case z => k_is))
      (case t44 => refine' DL.glob_pair KX G ?a ?l; (case a => k_is); (case l => k_is))

