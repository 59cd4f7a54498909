import PyProof.Rows.All
import HandS.ForMost
import HandS.Wide
import HandS.Gcd
import HandS.IsInst
import HandS.Exc
import HandS.ExcOwn
import HandS.WordsExc
import HandS.TupAny
import HandS.WideBits
import HandS.WordsDict
import KE.DataEq
import KE.SortData
import HandS.Conv
import HandS.TupLen
import HandS.NoneIn
import HandS.More
import HandS.Iter
import HandS.Zip0
import HandS.Zip
import KE.GoesEnumKw
import HandS.Style
import HandS.ListItems
import KE.KDictWalk
import KE.KDictCopyH
import HandS.DictComp
import PyProof.Rows.StrMeet
import HandS.ForExc
import HandS.TryMany
import HandS.ExcInit
import HandS.ExcSuper
import KE.KExcSuper
import KE.KSuper
import HandS.DeepEq
import HandS.TupSets
import HandS.DictTup
import PyProof.DictDisplay
import PySem.Challenge.RW_pairsave_k14_whole_long_orders
set_option Elab.async false
set_option linter.all false
set_option maxRecDepth 100000
set_option maxHeartbeats 4000000
/-! DL: a heap-free reading over the hand layer: values as trees (D), what holds of slots (Sl), the base heap of what never changes -/
namespace DL
open PySem PySem.Spec PyProof.Rows L2

inductive D where
  | non | bl (b : Bool) | int (i : Int) | str (x : Str)
  | tup (xs : List D) | lst (xs : List D) | dic (ks : List Key) (xs : List D) | dct (ks : List (List Key)) (xs : List D) | pool | ty (n : String) | tk (xs : List D)

abbrev FK := PySem.W.Frag
/-- two ints: what may stand in the program's own text -/
def pairI : List D → Bool
  | [.int _, .int _] => true
  | _ => false
def TpAt (K : FK) (H : Hp) (a : Addr) (ds : List D) (xs : List V) : Prop := H a = some (.tup xs) ∨ (pairI ds = true ∧ SqT K H a xs)
theorem TpAt.sqT {K : FK} {H : Hp} {a : Addr} {ds : List D} {xs : List V} (h : TpAt K H a ds xs) : SqT K H a xs := by
  rcases h with h | ⟨_, h⟩
  · exact .inl (.inl h)
  · exact h
mutual
/-- v stands for the tree d -/
def Rep (pp : Addr) (K : FK) (H : Hp) : D → V → Prop
  | .non, v => v = .non
  | .bl b, v => v = .bl b
  | .int i, v => v = .int i
  | .str x, v => v = .str x
  | .tup ds, v => ∃ a xs, v = .ref a ∧ TpAt K H a ds xs ∧ RepL pp K H ds xs
  | .lst ds, v => ∃ a xs, v = .ref a ∧ H a = some (.lst xs) ∧ RepL pp K H ds xs
  | .dic ks ds, v => ∃ a ws, v = .ref a ∧ Rd H a (.dK ws) ∧ ws.map (·.1) = ks ∧ RepL pp K H ds (ws.map (·.2))
  | .dct ks ds, v => ∃ a ws, v = .ref a ∧ Rd H a (.dT ws) ∧ ws.map (·.1) = ks ∧ RepL pp K H ds (ws.map (·.2))
  | .pool, v => v = .ref pp
  | .ty n, v => v = .ty n
  | .tk ds, v => ∃ a xs, v = .ref a ∧ H a = some (.tup xs) ∧ RepL pp K H ds xs
def RepL (pp : Addr) (K : FK) (H : Hp) : List D → List V → Prop
  | [], vs => vs = []
  | d :: ds, vs => ∃ v r, vs = v :: r ∧ Rep pp K H d v ∧ RepL pp K H ds r
end

/-- no lock -/
def Pln : HO → Prop
  | .frz _ _ => False
  | _ => True
structure Le (H H' : Hp) : Prop where
  rd : ∀ b u, Pln u → Rd H b u → Rd H' b u
  ls : ∀ b xs, H b = some (.lst xs) → H' b = some (.lst xs)
  ts : ∀ b xs, H b = some (.tup xs) → H' b = some (.tup xs)
theorem Le.of_same {H H' : Hp} (h : Same H H') : Le H H' := ⟨fun b u _ r => by
  rcases r with r | ⟨o, r⟩
  · exact .inl (h _ _ r)
  · exact .inr ⟨o, h _ _ r⟩, fun b xs e => h b _ e, fun b xs e => h b _ e⟩
theorem Le.sqT {K : FK} {H H' : Hp} {a : Addr} {xs : List V} (h : Le H H') (s : SqT K H a xs) : SqT K H' a xs := by
  rcases s with s | s
  · exact .inl (h.rd _ _ trivial s)
  · exact .inr s
theorem Le.sqL {K : FK} {H H' : Hp} {a : Addr} {xs : List V} (h : Le H H') (s : SqL K H a xs) : SqL K H' a xs := by
  rcases s with s | s
  · exact .inl (h.rd _ _ trivial s)
  · exact .inr s
theorem Le.tpAt {K : FK} {H H' : Hp} {a : Addr} {ds : List D} {xs : List V} (h : Le H H') (s : TpAt K H a ds xs) : TpAt K H' a ds xs := by
  rcases s with s | ⟨p, s⟩
  · exact .inl (h.ts _ _ s)
  · exact .inr ⟨p, h.sqT s⟩
section
variable {pp : Addr} {K : FK} {H H' : Hp}
mutual
theorem Rep.le (h : Le H H') : ∀ {d : D} {v : V}, Rep pp K H d v → Rep pp K H' d v
  | .non, _, r => by unfold Rep at r ⊢; exact r
  | .bl _, _, r => by unfold Rep at r ⊢; exact r
  | .int _, _, r => by unfold Rep at r ⊢; exact r
  | .str _, _, r => by unfold Rep at r ⊢; exact r
  | .tup ds, _, r => by
    unfold Rep at r ⊢
    obtain ⟨a, xs, e, s, q⟩ := r
    exact ⟨a, xs, e, h.tpAt s, RepL.le h q⟩
  | .lst ds, _, r => by
    unfold Rep at r ⊢
    obtain ⟨a, xs, e, s, q⟩ := r
    exact ⟨a, xs, e, h.ls _ _ s, RepL.le h q⟩
  | .dic ks ds, _, r => by
    unfold Rep at r ⊢
    obtain ⟨a, ws, e, s, k, q⟩ := r
    exact ⟨a, ws, e, h.rd _ _ trivial s, k, RepL.le h q⟩
  | .dct ks ds, _, r => by
    unfold Rep at r ⊢
    obtain ⟨a, ws, e, s, k, q⟩ := r
    exact ⟨a, ws, e, h.rd _ _ trivial s, k, RepL.le h q⟩
  | .pool, _, r => by unfold Rep at r ⊢; exact r
  | .ty _, _, r => by unfold Rep at r ⊢; exact r
  | .tk ds, _, r => by
    unfold Rep at r ⊢
    obtain ⟨a, xs, e, s, q⟩ := r
    exact ⟨a, xs, e, h.ts _ _ s, RepL.le h q⟩
theorem RepL.le (h : Le H H') : ∀ {ds : List D} {vs : List V}, RepL pp K H ds vs → RepL pp K H' ds vs
  | [], _, r => by unfold RepL at r ⊢; exact r
  | d :: ds, _, r => by
    unfold RepL at r ⊢
    obtain ⟨v, w, e, q, s⟩ := r
    exact ⟨v, w, e, Rep.le h q, RepL.le h s⟩
end
theorem RepL.nil : RepL pp K H [] [] := by unfold RepL; rfl
theorem RepL.cons {d : D} {ds : List D} {v : V} {vs : List V} (h : Rep pp K H d v) (r : RepL pp K H ds vs) : RepL pp K H (d :: ds) (v :: vs) := by
  unfold RepL
  exact ⟨v, vs, rfl, h, r⟩
theorem RepL.uncons {d : D} {ds : List D} {vs : List V} (r : RepL pp K H (d :: ds) vs) : ∃ v w, vs = v :: w ∧ Rep pp K H d v ∧ RepL pp K H ds w := by
  unfold RepL at r
  exact r
theorem RepL.unnil {vs : List V} (r : RepL pp K H [] vs) : vs = [] := by
  unfold RepL at r
  exact r
theorem RepL.length : ∀ {ds : List D} {vs : List V}, RepL pp K H ds vs → vs.length = ds.length
  | [], _, r => by rw [r.unnil]; rfl
  | d :: ds, _, r => by
    obtain ⟨v, w, rfl, _, q⟩ := r.uncons
    simp [q.length]
theorem RepL.get : ∀ {ds : List D} {vs : List V} {i : Nat} {d : D}, RepL pp K H ds vs → ds[i]? = some d → ∃ v, vs[i]? = some v ∧ Rep pp K H d v
  | [], _, _, _, _, e => by simp at e
  | d :: ds, _, 0, _, r, e => by
    obtain ⟨v, w, rfl, h, q⟩ := r.uncons
    simp at e; subst e
    exact ⟨v, rfl, h⟩
  | d :: ds, _, i + 1, _, r, e => by
    obtain ⟨v, w, rfl, h, q⟩ := r.uncons
    exact q.get (i := i) (by simpa using e)
theorem RepL.get' : ∀ {ds : List D} {vs : List V} {i : Nat} {v : V}, RepL pp K H ds vs → vs[i]? = some v → ∃ d, ds[i]? = some d ∧ Rep pp K H d v
  | [], _, _, _, r, e => by rw [r.unnil] at e; simp at e
  | d :: ds, _, 0, _, r, e => by
    obtain ⟨v, w, rfl, h, q⟩ := r.uncons
    simp at e; subst e
    exact ⟨d, rfl, h⟩
  | d :: ds, _, i + 1, _, r, e => by
    obtain ⟨v, w, rfl, h, q⟩ := r.uncons
    exact q.get' (i := i) (by simpa using e)
theorem RepL.app : ∀ {ds es : List D} {vs ws : List V}, RepL pp K H ds vs → RepL pp K H es ws → RepL pp K H (ds ++ es) (vs ++ ws)
  | [], _, _, _, r, s => by rw [r.unnil]; exact s
  | d :: ds, _, _, _, r, s => by
    obtain ⟨v, w, rfl, h, q⟩ := r.uncons
    exact .cons h (q.app s)
theorem RepL.take : ∀ {ds : List D} {vs : List V} (n : Nat), RepL pp K H ds vs → RepL pp K H (ds.take n) (vs.take n)
  | _, _, 0, _ => by rw [List.take_zero, List.take_zero]; exact .nil
  | [], _, n + 1, r => by rw [r.unnil]; exact .nil
  | d :: ds, _, n + 1, r => by
    obtain ⟨v, w, rfl, h, q⟩ := r.uncons
    exact .cons h (q.take n)
theorem RepL.drop : ∀ {ds : List D} {vs : List V} (n : Nat), RepL pp K H ds vs → RepL pp K H (ds.drop n) (vs.drop n)
  | _, _, 0, r => r
  | [], _, n + 1, r => by rw [r.unnil]; exact .nil
  | d :: ds, _, n + 1, r => by
    obtain ⟨v, w, rfl, h, q⟩ := r.uncons
    exact q.drop n
theorem RepL.set : ∀ {ds : List D} {vs : List V} (n : Nat) {d : D} {v : V}, RepL pp K H ds vs → Rep pp K H d v → RepL pp K H (ds.set n d) (vs.set n v)
  | [], _, n, _, _, r, _ => by rw [r.unnil]; exact .nil
  | d :: ds, _, 0, _, _, r, h => by
    obtain ⟨v, w, rfl, _, q⟩ := r.uncons
    exact .cons h q
  | d :: ds, _, n + 1, _, _, r, h => by
    obtain ⟨v, w, rfl, h', q⟩ := r.uncons
    exact .cons h' (q.set n h)
end

/-! ### the state: Hb is the base (what never changes), H all -/
def PoolOk (pp : Addr) (K : FK) (Hb H : Hp) : Prop := ∃ (a : Addr) (ns : List Int) (i n k : Int), H pp = some (.lst [.ref a, .int i, .int n, .int k]) ∧ SqL K Hb a (ns.map V.int)
structure SOk (pp : Addr) (K : FK) (Hb H : Hp) : Prop where
  le : Same Hb H
  np : Hb pp = none
  pool : PoolOk pp K Hb H
  tp : ∀ b xs, H b = some (.tup xs) → Hb b = some (.tup xs)
structure Step (pp : Addr) (Hb H Hb' H' : Hp) : Prop where
  sb : Same Hb Hb'
  ex : ∀ b o, b ≠ pp → H b = some o → H' b = some o
  st : ∀ b, H b ≠ none → H' b ≠ none
  nw : ∀ b, Hb b = none → H b ≠ none → Hb' b = none
section
variable {pp : Addr} {K : FK} {Hb H Hb' H' Hb'' H'' : Hp}
theorem Step.refl : Step pp Hb H Hb H := ⟨Same.refl _, fun _ _ _ h => h, fun _ h => h, fun _ h _ => h⟩
theorem Step.trans (a : Step pp Hb H Hb' H') (b : Step pp Hb' H' Hb'' H'') : Step pp Hb H Hb'' H'' :=
  ⟨a.sb.trans b.sb, fun c o n h => b.ex c o n (a.ex c o n h), fun c h => b.st c (a.st c h), fun c h n => b.nw c (a.nw c h n) (a.st c n)⟩
theorem Step.le (a : Step pp Hb H Hb' H') : Le Hb Hb' := .of_same a.sb
theorem SOk.hle (a : SOk pp K Hb H) : Le Hb H := .of_same a.le

/-! ### what a slot holds -/
/-- an exception's class (its name) and fields -/
structure XD where
  nm : Str
  fs : List Str
  ds : List D
inductive Sl where
  | no | sh (d : D) | ow (d : D) | xs (a dd : Addr) (x : XD)
def Top (pp : Addr) (K : FK) (Hb H : Hp) (p : Addr) : D → Prop
  | .lst ds => ∃ xs, H p = some (.lst xs) ∧ RepL pp K Hb ds xs
  | .dic ks ds => ∃ ws, H p = some (.dK ws) ∧ ws.map (·.1) = ks ∧ RepL pp K Hb ds (ws.map (·.2))
  | .dct ks ds => ∃ ws, H p = some (.dT ws) ∧ ws.map (·.1) = ks ∧ RepL pp K Hb ds (ws.map (·.2))
  | _ => False
structure Owns (pp : Addr) (K : FK) (Hb H : Hp) (p : Addr) (d : D) : Prop where
  nb : Hb p = none
  ne : p ≠ pp
  top : Top pp K Hb H p d
theorem Top.isSm {p : Addr} {d : D} (t : Top pp K Hb H p d) : H p ≠ none := by
  cases d <;> first | exact t.elim | (obtain ⟨xs, e, _⟩ := t; rw [e]; exact fun z => nomatch z)
theorem Top.step {p : Addr} {d : D} (hle : Le Hb Hb') (hex : ∀ o, H p = some o → H' p = some o) (t : Top pp K Hb H p d) : Top pp K Hb' H' p d := by
  cases d <;> first | exact t.elim | skip
  · obtain ⟨xs, e, r⟩ := t
    exact ⟨xs, hex _ e, r.le hle⟩
  · obtain ⟨xs, e, k, r⟩ := t
    exact ⟨xs, hex _ e, k, r.le hle⟩
  · obtain ⟨xs, e, k, r⟩ := t
    exact ⟨xs, hex _ e, k, r.le hle⟩
theorem Owns.step {p : Addr} {d : D} (o : Owns pp K Hb H p d) (a : Step pp Hb H Hb' H') : Owns pp K Hb' H' p d :=
  ⟨a.nw p o.nb (Top.isSm o.top), o.ne, Top.step a.le (fun u => a.ex p u o.ne) o.top⟩
/-- an operand: a base value, or a new object whose items are base values -/
def RepT (pp : Addr) (K : FK) (Hb H : Hp) (d : D) (v : V) : Prop := Rep pp K Hb d v ∨ ∃ p, v = .ref p ∧ Owns pp K Hb H p d
theorem RepT.step {d : D} {v : V} (r : RepT pp K Hb H d v) (a : Step pp Hb H Hb' H') : RepT pp K Hb' H' d v := by
  rcases r with r | ⟨p, e, o⟩
  · exact .inl (r.le a.le)
  · exact .inr ⟨p, e, o.step a⟩

/-- an exception's fields -/
def XF (pp : Addr) (K : FK) (Hb H : Hp) (dd : Addr) (x : XD) : Prop := ∃ vs, dd ≠ pp ∧ H dd = some (.xd (x.fs.zip vs)) ∧ RepL pp K Hb x.ds vs
theorem XF.step {dd : Addr} {x : XD} (r : XF pp K Hb H dd x) (a : Step pp Hb H Hb' H') : XF pp K Hb' H' dd x := by
  obtain ⟨vs, h1, h2, h3⟩ := r
  exact ⟨vs, h1, a.ex _ _ h1 h2, h3.le a.le⟩
/-- the slots: HE is the heap at the def's entry -/
structure ER (pp : Addr) (K : FK) (HE Hb H : Hp) (σ : L2.St) (E : List Sl) : Prop where
  len : σ.length = E.length
  sh : ∀ (i : Nat) (d : D), E[i]? = some (.sh d) → ∃ v, σ[i]? = some (some v) ∧ Rep pp K Hb d v
  ow : ∀ (i : Nat) (d : D), E[i]? = some (.ow d) → ∃ p, σ[i]? = some (some (.ref p)) ∧ HE p = none ∧ Owns pp K Hb H p d
  ds : ∀ (i j : Nat) (p : Addr) (d d' : D), i ≠ j → E[i]? = some (.ow d) → E[j]? = some (.ow d') → σ[i]? = some (some (.ref p)) → σ[j]? ≠ some (some (.ref p))
  xs : ∀ (i : Nat) (a dd : Addr) (x : XD), E[i]? = some (.xs a dd x) → σ[i]? = some (some (.ref a)) ∧ XF pp K Hb H dd x
variable {HE : Hp} {σ : L2.St} {E : List Sl}
theorem ER.step (r : ER pp K HE Hb H σ E) (a : Step pp Hb H Hb' H') : ER pp K HE Hb' H' σ E :=
  ⟨r.len, fun i d e => let ⟨v, h, q⟩ := r.sh i d e; ⟨v, h, q.le a.le⟩, fun i d e => let ⟨p, h, n, o⟩ := r.ow i d e; ⟨p, h, n, o.step a⟩, r.ds, fun i b dd x e => let ⟨h, q⟩ := r.xs i b dd x e; ⟨h, q.step a⟩⟩
theorem get_set {α : Type} {l : List α} {i j : Nat} {x y : α} (h : (l.set i x)[j]? = some y) : (j = i ∧ i < l.length ∧ y = x) ∨ (j ≠ i ∧ l[j]? = some y) := by
  by_cases e : j = i
  · subst e
    by_cases hl : j < l.length
    · rw [List.getElem?_set_self hl] at h
      exact .inl ⟨rfl, hl, (Option.some.inj h).symm⟩
    · rw [List.getElem?_eq_none (by simpa using hl)] at h; cases h
  · rw [List.getElem?_set_ne (Ne.symm e)] at h
    exact .inr ⟨e, h⟩
theorem ER.xs_set (r : ER pp K HE Hb H σ E) (i : Nat) {w : Sl} {v : Option V} (hw : ∀ a dd x, w ≠ .xs a dd x) : ∀ (j : Nat) (a dd : Addr) (x : XD), (E.set i w)[j]? = some (.xs a dd x) → (σ.set i v)[j]? = some (some (.ref a)) ∧ XF pp K Hb H dd x := fun j a dd x e => by
  rcases get_set e with ⟨_, _, z⟩ | ⟨hj, e'⟩
  · exact absurd z.symm (hw a dd x)
  · rw [List.getElem?_set_ne (Ne.symm hj)]
    exact r.xs j a dd x e'
theorem ER.set_sh (r : ER pp K HE Hb H σ E) (i : Nat) {d : D} {v : V} (q : Rep pp K Hb d v) : ER pp K HE Hb H (σ.set i (some v)) (E.set i (.sh d)) := by
  refine ⟨by rw [List.length_set, List.length_set, r.len], fun j d' e => ?_, fun j d' e => ?_, fun j k p d1 d2 hne e1 e2 h1 => ?_, r.xs_set i fun _ _ _ z => nomatch z⟩
  · rcases get_set e with ⟨rfl, hl, e'⟩ | ⟨hj, e'⟩
    · cases e'
      exact ⟨v, by rw [List.getElem?_set_self (by rw [r.len]; exact hl)], q⟩
    · rw [List.getElem?_set_ne (Ne.symm hj)]
      exact r.sh j d' e'
  · rcases get_set e with ⟨rfl, hl, e'⟩ | ⟨hj, e'⟩
    · cases e'
    · rw [List.getElem?_set_ne (Ne.symm hj)]
      exact r.ow j d' e'
  · rcases get_set e1 with ⟨_, _, z⟩ | ⟨hj, e1⟩
    · cases z
    rcases get_set e2 with ⟨_, _, z⟩ | ⟨hk, e2⟩
    · cases z
    rw [List.getElem?_set_ne (Ne.symm hj)] at h1
    rw [List.getElem?_set_ne (Ne.symm hk)]
    exact r.ds j k p d1 d2 hne e1 e2 h1
theorem ER.set_no (r : ER pp K HE Hb H σ E) (i : Nat) : ER pp K HE Hb H (σ.set i none) (E.set i .no) := by
  refine ⟨by rw [List.length_set, List.length_set, r.len], fun j d' e => ?_, fun j d' e => ?_, fun j k p d1 d2 hne e1 e2 h1 => ?_, r.xs_set i fun _ _ _ z => nomatch z⟩
  · rcases get_set e with ⟨rfl, hl, e'⟩ | ⟨hj, e'⟩
    · cases e'
    · rw [List.getElem?_set_ne (Ne.symm hj)]
      exact r.sh j d' e'
  · rcases get_set e with ⟨rfl, hl, e'⟩ | ⟨hj, e'⟩
    · cases e'
    · rw [List.getElem?_set_ne (Ne.symm hj)]
      exact r.ow j d' e'
  · rcases get_set e1 with ⟨_, _, z⟩ | ⟨hj, e1⟩
    · cases z
    rcases get_set e2 with ⟨_, _, z⟩ | ⟨hk, e2⟩
    · cases z
    rw [List.getElem?_set_ne (Ne.symm hj)] at h1
    rw [List.getElem?_set_ne (Ne.symm hk)]
    exact r.ds j k p d1 d2 hne e1 e2 h1
theorem ER.set_ow (r : ER pp K HE Hb H σ E) (i : Nat) {d : D} {p : Addr} (hn : HE p = none) (q : Owns pp K Hb H p d) (fr : ∀ (j : Nat) (d' : D), E[j]? = some (.ow d') → σ[j]? ≠ some (some (.ref p))) :
    ER pp K HE Hb H (σ.set i (some (.ref p))) (E.set i (.ow d)) := by
  refine ⟨by rw [List.length_set, List.length_set, r.len], fun j d' e => ?_, fun j d' e => ?_, fun j k p' d1 d2 hne e1 e2 h1 => ?_, r.xs_set i fun _ _ _ z => nomatch z⟩
  · rcases get_set e with ⟨rfl, hl, e'⟩ | ⟨hj, e'⟩
    · cases e'
    · rw [List.getElem?_set_ne (Ne.symm hj)]
      exact r.sh j d' e'
  · rcases get_set e with ⟨rfl, hl, e'⟩ | ⟨hj, e'⟩
    · cases e'
      exact ⟨p, by rw [List.getElem?_set_self (by rw [r.len]; exact hl)], hn, q⟩
    · rw [List.getElem?_set_ne (Ne.symm hj)]
      exact r.ow j d' e'
  · rcases get_set e1 with ⟨rfl, hl, z⟩ | ⟨hj, f1⟩
    · rw [List.getElem?_set_self (by rw [r.len]; exact hl)] at h1
      cases h1
      rcases get_set e2 with ⟨z, _, _⟩ | ⟨hk, e2⟩
      · exact absurd z.symm hne
      rw [List.getElem?_set_ne (Ne.symm hk)]
      exact fr k _ e2
    · rw [List.getElem?_set_ne (Ne.symm hj)] at h1
      rcases get_set e2 with ⟨rfl, hl, z⟩ | ⟨hk, e2⟩
      · rw [List.getElem?_set_self (by rw [r.len]; exact hl)]
        intro z
        cases z
        exact fr j _ f1 h1
      · rw [List.getElem?_set_ne (Ne.symm hk)]
        exact r.ds j k p' d1 d2 hne f1 e2 h1
end

/-! ### the judgements -/
abbrev DX := List Sl → (D → Prop) → Prop
abbrev DT := List Sl → (Bool → Prop) → Prop
abbrev DAs := List Sl → (List D → Prop) → Prop
structure DEnds where
  nx : List Sl → Prop
  rt : D → Prop
  bk : List Sl → Prop := fun _ => False
  ct : List Sl → Prop := fun _ => False
  /-- a return of a new object -/
  rf : D → Prop := fun _ => False
  /-- an exception -/
  ex : XD → List Sl → Prop := fun _ _ => False
abbrev DS := DEnds → List Sl → Prop

/-- an expression with a base value -/
def QE (X : Cx) (e : Expr) (p : DX) : Prop := ∃ t, PE X e t ∧ ∀ (pp : Addr) (HE Hb H : Hp) (σ : L2.St) (E : List Sl) (Q : VK) (QD : D → Prop), SOk pp X.K Hb H → ER pp X.K HE Hb H σ E → p E QD →
  (∀ v d Hb' H', Step pp Hb H Hb' H' → SOk pp X.K Hb' H' → Rep pp X.K Hb' d v → QD d → Q v H') → t σ H Q
/-- an operand -/
def QO (X : Cx) (e : Expr) (p : DX) : Prop := ∃ t, PE X e t ∧ ∀ (pp : Addr) (HE Hb H : Hp) (σ : L2.St) (E : List Sl) (Q : VK) (QD : D → Prop), SOk pp X.K Hb H → ER pp X.K HE Hb H σ E → p E QD →
  (∀ v d Hb' H', Step pp Hb H Hb' H' → SOk pp X.K Hb' H' → RepT pp X.K Hb' H' d v → QD d → Q v H') → t σ H Q
/-- a new object -/
def QF (X : Cx) (e : Expr) (p : DX) : Prop := ∃ t, PE X e t ∧ ∀ (pp : Addr) (HE Hb H : Hp) (σ : L2.St) (E : List Sl) (Q : VK) (QD : D → Prop), SOk pp X.K Hb H → ER pp X.K HE Hb H σ E → p E QD →
  (∀ a d Hb' H', Step pp Hb H Hb' H' → SOk pp X.K Hb' H' → H a = none → Owns pp X.K Hb' H' a d → QD d → Q (.ref a) H') → t σ H Q
def QT (X : Cx) (e : Expr) (p : DT) : Prop := ∃ t, PT X e t ∧ ∀ (pp : Addr) (HE Hb H : Hp) (σ : L2.St) (E : List Sl) (Q : Bool → Hp → Prop) (QD : Bool → Prop), SOk pp X.K Hb H → ER pp X.K HE Hb H σ E → p E QD →
  (∀ b Hb' H', Step pp Hb H Hb' H' → SOk pp X.K Hb' H' → QD b → Q b H') → t σ H Q
def QA (X : Cx) (es : List Expr) (p : DAs) : Prop := ∃ t, PA X es t ∧ ∀ (pp : Addr) (HE Hb H : Hp) (σ : L2.St) (E : List Sl) (Q : List V → Hp → Prop) (QD : List D → Prop), SOk pp X.K Hb H → ER pp X.K HE Hb H σ E → p E QD →
  (∀ vs ds Hb' H', Step pp Hb H Hb' H' → SOk pp X.K Hb' H' → RepL pp X.K Hb' ds vs → ds.length = es.length → QD ds → Q vs H') → t σ H Q

/-- what the air around takes -/
def Wm (X : Cx) : WX := fun cls d σ H => ∀ u s', XE X (fun c' d' σ' H' => c' = cls ∧ d' = d ∧ σ' = σ ∧ H' = H) u s' → X.xe u s'
theorem takes_Wm {X : Cx} : Takes X (Wm X) := fun u s' ⟨a, B, sI, pins, σ, H, cls, d, e, I, nb, up, sky, na, os, ag, w⟩ =>
  w u s' ⟨a, B, sI, pins, σ, H, cls, d, e, I, nb, up, sky, na, os, ag, rfl, rfl, rfl, rfl⟩
theorem Wm_of {X : Cx} {W : WX} (t : Takes X W) {cls : Value} {d : Option Addr} {σ : L2.St} {H : Hp} (w : W cls d σ H) : Wm X cls d σ H := fun u s' ⟨a, B, sI, pins, σ', H', cls', d', e, I, nb, up, sky, na, os, ag, h1, h2, h3, h4⟩ => by
  subst h1; subst h2; subst h3; subst h4
  exact t u s' ⟨a, B, sI, pins, _, _, _, _, e, I, nb, up, sky, na, os, ag, w⟩
def XRep (pp : Addr) (K : FK) (mg : Str → Option Value) (Hb H : Hp) (x : XD) (cls : Value) (d : Option Addr) : Prop := mg x.nm = some cls ∧ ∃ dd, d = some dd ∧ XF pp K Hb H dd x
structure EndsOk (pp : Addr) (X : Cx) (HbE HE : Hp) (Dn : Ends) (DD : DEnds) : Prop where
  nx : ∀ Hb H σ E, Step pp HbE HE Hb H → SOk pp X.K Hb H → ER pp X.K HE Hb H σ E → DD.nx E → Dn.nx σ H
  rt : ∀ Hb H v d, Step pp HbE HE Hb H → SOk pp X.K Hb H → Rep pp X.K Hb d v → DD.rt d → Dn.rt v H
  bk : ∀ Hb H σ E, Step pp HbE HE Hb H → SOk pp X.K Hb H → ER pp X.K HE Hb H σ E → DD.bk E → Dn.bk σ H
  ct : ∀ Hb H σ E, Step pp HbE HE Hb H → SOk pp X.K Hb H → ER pp X.K HE Hb H σ E → DD.ct E → Dn.ct σ H
  rf : ∀ Hb H p d, Step pp HbE HE Hb H → SOk pp X.K Hb H → HE p = none → Owns pp X.K Hb H p d → DD.rf d → Dn.rt (.ref p) H
  ex : ∀ Hb H σ E x cls d, Step pp HbE HE Hb H → SOk pp X.K Hb H → ER pp X.K HE Hb H σ E → XRep pp X.K X.mg Hb H x cls d → DD.ex x E → Wm X cls d σ H
def RS (X : Cx) (t : TS) (p : DS) : Prop := ∀ (pp : Addr) (HbE HE Hb H : Hp) (σ : L2.St) (E : List Sl) (Dn : Ends) (DD : DEnds), Step pp HbE HE Hb H → SOk pp X.K Hb H → ER pp X.K HE Hb H σ E → p DD E → EndsOk pp X HbE HE Dn DD → t Dn σ H
def QS (X : Cx) (st : Stmt) (p : DS) : Prop := ∃ t, PS X st t ∧ RS X t p
def QSs (X : Cx) (st : List Stmt) (p : DS) : Prop := ∃ t, PSs X st t ∧ RS X t p

section
variable {X : Cx} {e : Expr} {p : DX}
theorem QE.toO (h : QE X e p) : QO X e p := by
  obtain ⟨t, ht, r⟩ := h
  exact ⟨t, ht, fun pp HE Hb H σ E Q QD so er hp k => r pp HE Hb H σ E Q QD so er hp fun v d Hb' H' s so' q => k v d Hb' H' s so' (.inl q)⟩
theorem QF.toO (h : QF X e p) : QO X e p := by
  obtain ⟨t, ht, r⟩ := h
  exact ⟨t, ht, fun pp HE Hb H σ E Q QD so er hp k => r pp HE Hb H σ E Q QD so er hp fun a d Hb' H' s so' _ q => k _ d Hb' H' s so' (.inr ⟨a, rfl, q⟩)⟩
/-- a new object joins the base -/
theorem share {pp : Addr} {K : FK} {Hb H : Hp} {a : Addr} {d : D} (so : SOk pp K Hb H) (o : Owns pp K Hb H a d) : ∃ Hb', Same Hb Hb' ∧ (∀ b, b ≠ a → Hb' b = Hb b) ∧ SOk pp K Hb' H ∧ Rep pp K Hb' d (.ref a) := by
  obtain ⟨u, hu⟩ : ∃ u, H a = some u := by
    cases q : H a with
    | none => exact absurd q (Top.isSm o.top)
    | some u => exact ⟨u, rfl⟩
  have sm : Same Hb (upd Hb a u) := fun b w h => by rw [upd_ne (ne_of_none h o.nb)]; exact h
  refine ⟨upd Hb a u, sm, fun b h => upd_ne h, ⟨fun b w h => ?_, ?_, ?_, fun b xs h => ?_⟩, ?_⟩
  · by_cases e : b = a
    · subst e; rw [upd_same] at h; cases h; exact hu
    · rw [upd_ne e] at h; exact so.le b w h
  · rw [upd_ne (Ne.symm o.ne)]; exact so.np
  · obtain ⟨b, ns, i, n, k, h1, h2⟩ := so.pool
    exact ⟨b, ns, i, n, k, h1, (Le.of_same sm).sqL h2⟩
  · by_cases e : b = a
    · subst e; rw [upd_same, ← hu]; exact h
    · rw [upd_ne e]; exact so.tp b xs h
  · have hl := Le.of_same sm
    have t := o.top
    cases d <;> first | exact t.elim | skip
    · obtain ⟨xs, e, r⟩ := t
      rw [hu] at e; cases e
      unfold Rep
      exact ⟨a, xs, rfl, upd_same, r.le hl⟩
    · obtain ⟨xs, e, k, r⟩ := t
      rw [hu] at e; cases e
      unfold Rep
      exact ⟨a, xs, rfl, .inl upd_same, k, r.le hl⟩
    · obtain ⟨xs, e, k, r⟩ := t
      rw [hu] at e; cases e
      unfold Rep
      exact ⟨a, xs, rfl, .inl upd_same, k, r.le hl⟩
theorem share_new {pp : Addr} {K : FK} {Hb H Hb' H' : Hp} {a : Addr} {d : D} (s : Step pp Hb H Hb' H') (so : SOk pp K Hb' H') (hn : H a = none) (o : Owns pp K Hb' H' a d) : ∃ Hb2, Step pp Hb H Hb2 H' ∧ SOk pp K Hb2 H' ∧ Rep pp K Hb2 d (.ref a) := by
  obtain ⟨Hb2, h1, h2, h3, h4⟩ := share so o
  refine ⟨Hb2, ⟨s.sb.trans h1, s.ex, s.st, fun b hb hh => ?_⟩, h3, h4⟩
  by_cases e : b = a
  · subst e; exact absurd hn hh
  · rw [h2 b e]; exact s.nw b hb hh
theorem QF.toE (h : QF X e p) : QE X e p := by
  obtain ⟨t, ht, r⟩ := h
  refine ⟨t, ht, fun pp HE Hb H σ E Q QD so er hp k => r pp HE Hb H σ E Q QD so er hp fun a d Hb' H' s so' hn o q => ?_⟩
  obtain ⟨Hb2, h1, h2, h3⟩ := share_new s so' hn o
  exact k _ d Hb2 H' h1 h2 h3 q
end
end DL

namespace DL
open PySem PySem.Spec PyProof.Rows L2

/-! ### names, constants -/
def dVar (i : Nat) : DX := fun E Q => match E[i]? with
  | some (.sh d) => Q d
  | _ => False
def dVarO (i : Nat) : DX := fun E Q => match E[i]? with
  | some (.sh d) => Q d
  | some (.ow d) => Q d
  | _ => False
def dC (d : D) : DX := fun _ Q => Q d
/-- a bool's value as a test -/
def dTst (p : DX) : DT := fun E Q => p E fun d => match d with
  | .bl b => Q b
  | _ => False
def dAnd (p q : DT) : DT := fun E Q => p E fun c => if c = true then q E Q else Q false
def dOr (p q : DT) : DT := fun E Q => p E fun c => if c = true then Q true else q E Q
def dNot (p : DT) : DT := fun E Q => p E fun c => Q (!c)
def dIf (c : DT) (p q : DX) : DX := fun E Q => c E fun b => if b = true then p E Q else q E Q
abbrev RD := D → D → (D → Prop) → Prop
def dOp (r : RD) (pa pb : DX) : DX := fun E Q => pa E fun x => pb E fun y => r x y Q
def dUn (r : D → (D → Prop) → Prop) (pa : DX) : DX := fun E Q => pa E fun x => r x Q
def dNilA : DAs := fun _ Q => Q []
def dConsA (p : DX) (r : DAs) : DAs := fun E Q => p E fun d => r E fun ds => Q (d :: ds)
def dTup (p : DAs) : DX := fun E Q => p E fun ds => Q (.tup ds)
def dLst (p : DAs) : DX := fun E Q => p E fun ds => Q (.lst ds)

section
variable {pp : Addr} {K : FK} {Hb H Hb' H' : Hp} {p : Addr} {u : HO}
theorem SOk.ne (so : SOk pp K Hb H) (hp : H p = none) : p ≠ pp := fun e => by
  obtain ⟨a, ns, i, n, k, h1, _⟩ := so.pool
  rw [← e, hp] at h1; cases h1
theorem SOk.nb (so : SOk pp K Hb H) (hp : H p = none) : Hb p = none := by
  cases q : Hb p with
  | none => rfl
  | some o => rw [so.le p o q] at hp; cases hp
theorem lay_step (so : SOk pp K Hb H) (hp : H p = none) : Step pp Hb H Hb (upd H p u) ∧ Same Hb (upd H p u) ∧ PoolOk pp K Hb (upd H p u) := by
  have hne := so.ne hp
  refine ⟨⟨Same.refl _, fun b o _ h => by rw [upd_ne (ne_of_none h hp)]; exact h, fun b h => ?_, fun b h _ => h⟩, fun b o h => ?_, ?_⟩
  · by_cases e : b = p
    · subst e; exact absurd hp h
    · rw [upd_ne e]; exact h
  · have h2 := so.le b o h
    rw [upd_ne (ne_of_none h2 hp)]; exact h2
  · obtain ⟨a, ns, i, n, k, h1, h2⟩ := so.pool
    exact ⟨a, ns, i, n, k, by rw [upd_ne (Ne.symm hne)]; exact h1, h2⟩
theorem lay_own (so : SOk pp K Hb H) (hp : H p = none) (hu : ∀ xs, u ≠ .tup xs := by intro xs z; cases z) : Step pp Hb H Hb (upd H p u) ∧ SOk pp K Hb (upd H p u) := by
  obtain ⟨s1, s2, s3⟩ := lay_step (u := u) so hp
  refine ⟨s1, s2, so.np, s3, fun b xs h => ?_⟩
  by_cases e : b = p
  · subst e; rw [upd_same] at h; exact (hu xs (Option.some.inj h)).elim
  · rw [upd_ne e] at h; exact so.tp b xs h
theorem lay_sh (so : SOk pp K Hb H) (hp : H p = none) : Step pp Hb H (upd Hb p u) (upd H p u) ∧ SOk pp K (upd Hb p u) (upd H p u) := by
  have hne := so.ne hp
  have hb := so.nb hp
  obtain ⟨s1, s2, s3⟩ := lay_step (u := u) so hp
  have sm : Same Hb (upd Hb p u) := fun b o h => by rw [upd_ne (ne_of_none h hb)]; exact h
  refine ⟨⟨sm, s1.ex, s1.st, fun b h hh => ?_⟩, ⟨fun b o h => ?_, by rw [upd_ne (Ne.symm hne)]; exact so.np, ?_, fun b xs h => ?_⟩⟩
  · rw [upd_ne (fun e => by subst e; exact hh hp)]; exact h
  · by_cases e : b = p
    · subst e; rw [upd_same] at h ⊢; exact h
    · rw [upd_ne e] at h ⊢; exact so.le b o h
  · obtain ⟨a, ns, i, n, k, h1, h2⟩ := s3
    exact ⟨a, ns, i, n, k, h1, (Le.of_same sm).sqL h2⟩
  · by_cases e : b = p
    · subst e; rw [upd_same] at h ⊢; exact h
    · rw [upd_ne e] at h ⊢; exact so.tp b xs h
end

section
variable {X : Cx} {a b e : Expr} {es : List Expr} {pa pb p q : DX} {pt qt : DT} {pas : DAs} {pos : Pos}
theorem q_var (i : Nat) {x : Str} {pos : Pos} (hN : X.N[i]? = some x := by rfl) (hv : Vis X.env.scope x := by first | exact Or.inl rfl | exact Or.inr (Or.inl rfl) | exact Or.inr (Or.inr rfl)) (hd : (x == ("__debug__" : Str)) = false := by decide)
    (hcd : (x == ("__classdict__" : Str)) = false := by decide) : QE X (.Name x pos) (dVar i) := by
  refine ⟨tVar i, pv i hN hv hd hcd, fun pp HE Hb H σ E Q QD so er hp k => ?_⟩
  unfold dVar at hp
  split at hp
  · rename_i d e
    obtain ⟨v, h1, h2⟩ := er.sh i d e
    exact ⟨v, h1, k v d Hb H .refl so h2 hp⟩
  · exact hp.elim
theorem q_varO (i : Nat) {x : Str} {pos : Pos} (hN : X.N[i]? = some x := by rfl) (hv : Vis X.env.scope x := by first | exact Or.inl rfl | exact Or.inr (Or.inl rfl) | exact Or.inr (Or.inr rfl)) (hd : (x == ("__debug__" : Str)) = false := by decide)
    (hcd : (x == ("__classdict__" : Str)) = false := by decide) : QO X (.Name x pos) (dVarO i) := by
  refine ⟨tVar i, pv i hN hv hd hcd, fun pp HE Hb H σ E Q QD so er hp k => ?_⟩
  unfold dVarO at hp
  split at hp
  · rename_i d e
    obtain ⟨v, h1, h2⟩ := er.sh i d e
    exact ⟨v, h1, k v d Hb H .refl so (.inl h2) hp⟩
  · rename_i d e
    obtain ⟨a, h1, h2, h3⟩ := er.ow i d e
    exact ⟨_, h1, k _ d Hb H .refl so (.inr ⟨a, rfl, h3⟩) hp⟩
  · exact hp.elim
theorem q_int {i : Int} {j pos} : QE X (.Constant (.int i) j pos) (dC (.int i)) := ⟨_, pe_int, fun pp HE Hb H σ E Q QD so er hp k => k _ _ Hb H .refl so (by unfold Rep; rfl) hp⟩
theorem q_bl {c : Bool} {j pos} : QE X (.Constant (.bool c) j pos) (dC (.bl c)) := ⟨_, pe_bl, fun pp HE Hb H σ E Q QD so er hp k => k _ _ Hb H .refl so (by unfold Rep; rfl) hp⟩
theorem q_non {j pos} : QE X (.Constant .none j pos) (dC .non) := ⟨_, pe_non, fun pp HE Hb H σ E Q QD so er hp k => k _ _ Hb H .refl so (by unfold Rep; rfl) hp⟩
theorem q_str {x : Str} {j pos} : QE X (.Constant (.str x) j pos) (dC (.str x)) := ⟨_, pe_str, fun pp HE Hb H σ E Q QD so er hp k => k _ _ Hb H .refl so (by unfold Rep; rfl) hp⟩
/-- a built-in type as a value -/
theorem q_ty {x : Str} {n : String} {pos} (hg : Gl X x) (hm : X.mg x = none) (hv : bootBuiltins x = some (.type n)) (hn : x ≠ "__name__" := by decide) (hd : (x == ("__debug__" : Str)) = false := by decide) : QE X (.Name x pos) (dC (.ty n)) :=
  ⟨tC (.ty n), pe_bltn hg hm hv rfl hn hd, fun pp HE Hb H σ E Q QD so er hp k => k _ _ Hb H .refl so (by unfold Rep; rfl) hp⟩
/-- a module's constant of the written part -/
theorem q_glob {x : Str} {v : V} {u : Value} {d : D} {pos} (hg : Gl X x) (hm : X.mg x = some u) (r : RelV v u) (hr : ∀ pp H, Rep pp X.K H d v) (hd : (x == ("__debug__" : Str)) = false := by decide) : QE X (.Name x pos) (dC d) :=
  ⟨tC v, pe_glob hg hm r hd, fun pp HE Hb H σ E Q QD so er hp k => k _ _ Hb H .refl so (hr _ _) hp⟩

/-! ### arguments, displays -/
theorem qa_nil : QA X [] dNilA := ⟨_, pa_nil, fun pp HE Hb H σ E Q QD so er hp k => k _ _ Hb H .refl so .nil rfl hp⟩
theorem qa_cons (ha : QE X e p) (hr : QA X es pas) (hs : starEach (e :: es) X.env = (false, eval e X.env) :: starEach es X.env := by rfl) : QA X (e :: es) (dConsA p pas) := by
  obtain ⟨t, h1, h2⟩ := ha
  obtain ⟨u, g1, g2⟩ := hr
  refine ⟨_, pa_cons h1 g1 hs, fun pp HE Hb H σ E Q QD so er hp k => ?_⟩
  refine h2 pp HE Hb H σ E _ _ so er hp fun v d Hb1 H1 s1 so1 r1 q1 => ?_
  refine g2 pp HE Hb1 H1 σ E _ _ so1 (er.step s1) q1 fun vs ds Hb2 H2 s2 so2 r2 l2 q2 => ?_
  exact k _ _ Hb2 H2 (s1.trans s2) so2 (.cons (r1.le s2.le) r2) (by simp [l2]) q2
theorem q_tup {x1} (h : QA X es pas) (hl : es.length ≤ 1000 := by decide) : QE X (.Tuple es x1 pos) (dTup pas) := by
  obtain ⟨t, h1, h2⟩ := h
  refine ⟨_, pe_tup h1, fun pp HE Hb H σ E Q QD so er hp k => ?_⟩
  refine h2 pp HE Hb H σ E _ _ so er hp fun vs ds Hb1 H1 s1 so1 r1 l1 q1 => ?_
  refine ⟨by rw [r1.length, l1]; exact Nat.le_of_lt (small1000 hl), fun a ha => ?_⟩
  obtain ⟨s2, so2⟩ := lay_sh (u := .tup vs) so1 ha
  refine k _ _ _ _ (s1.trans s2) so2 ?_ q1
  unfold Rep
  exact ⟨a, vs, rfl, .inl upd_same, r1.le s2.le⟩
/-- a new tuple that can be a key -/
def dTupK (p : DAs) : DX := fun E Q => p E fun ds => Q (.tk ds)
theorem q_tupK {x1} (h : QA X es pas) (hl : es.length ≤ 1000 := by decide) : QE X (.Tuple es x1 pos) (dTupK pas) := by
  obtain ⟨t, h1, h2⟩ := h
  refine ⟨_, pe_tup h1, fun pp HE Hb H σ E Q QD so er hp k => ?_⟩
  refine h2 pp HE Hb H σ E _ _ so er hp fun vs ds Hb1 H1 s1 so1 r1 l1 q1 => ?_
  refine ⟨by rw [r1.length, l1]; exact Nat.le_of_lt (small1000 hl), fun a ha => ?_⟩
  obtain ⟨s2, so2⟩ := lay_sh (u := .tup vs) so1 ha
  refine k _ _ _ _ (s1.trans s2) so2 ?_ q1
  unfold Rep
  exact ⟨a, vs, rfl, upd_same, r1.le s2.le⟩
theorem f_lst (h : QA X es pas) (hl : es.length ≤ 1000 := by decide) : QF X (.List es pos) (dLst pas) := by
  obtain ⟨t, h1, h2⟩ := h
  refine ⟨_, pe_lst h1, fun pp HE Hb H σ E Q QD so er hp k => ?_⟩
  refine h2 pp HE Hb H σ E _ _ so er hp fun vs ds Hb1 H1 s1 so1 r1 l1 q1 => ?_
  refine ⟨by rw [r1.length, l1]; exact Nat.le_of_lt (small1000 hl), fun a ha => ?_⟩
  obtain ⟨s2, so2⟩ := lay_own (u := .lst vs) so1 ha
  have hna : H a = none := by
    cases z : H a with
    | none => rfl
    | some o => exact absurd ha (s1.st a (by rw [z]; exact fun y => nomatch y))
  exact k _ (.lst ds) _ _ (s1.trans s2) so2 hna ⟨so1.nb ha, so1.ne ha, ⟨vs, upd_same, r1⟩⟩ q1

/-! ### tests -/
theorem t_val (h : QE X e p) (he : ∀ whole, isTrue e X.env whole = (do let v ← whole; standAt e.pos; holding [v] (truthy v)) := by intro _; rfl) : QT X e (dTst p) := by
  obtain ⟨t, h1, h2⟩ := h
  refine ⟨_, pt_val h1 he, fun pp HE Hb H σ E Q QD so er hp k => ?_⟩
  refine h2 pp HE Hb H σ E _ _ so er hp fun v d Hb1 H1 s1 so1 r1 q1 => ?_
  split at q1
  · unfold Rep at r1
    exact ⟨_, r1, k _ Hb1 H1 s1 so1 q1⟩
  · exact q1.elim
theorem t_not (h : QT X e pt) : QT X (.UnaryOp .Not e pos) (dNot pt) := by
  obtain ⟨t, h1, h2⟩ := h
  refine ⟨_, pt_not h1, fun pp HE Hb H σ E Q QD so er hp k => ?_⟩
  exact h2 pp HE Hb H σ E _ _ so er hp fun c Hb1 H1 s1 so1 q1 => k _ Hb1 H1 s1 so1 q1
/-- tests joined by and, or: the last -/
def QW (X : Cx) (e : Expr) (p : DT) : Prop := ∃ t, PW X e t ∧ ∀ (pp : Addr) (HE Hb H : Hp) (σ : L2.St) (E : List Sl) (Q : Bool → Hp → Prop) (QD : Bool → Prop), SOk pp X.K Hb H → ER pp X.K HE Hb H σ E → p E QD →
  (∀ b Hb' H', Step pp Hb H Hb' H' → SOk pp X.K Hb' H' → QD b → Q b H') → t σ H Q
theorem QW.t (h : QW X e pt) : QT X e pt := by
  obtain ⟨t, h1, h2⟩ := h
  exact ⟨t, h1.pt, h2⟩
theorem w_and1 (h : QT X a pt) : QW X (.BoolOp .And [a] pos) pt := by
  obtain ⟨t, h1, h2⟩ := h
  exact ⟨t, pw_and1 h1, h2⟩
theorem w_or1 (h : QT X a pt) : QW X (.BoolOp .Or [a] pos) pt := by
  obtain ⟨t, h1, h2⟩ := h
  exact ⟨t, pw_or1 h1, h2⟩
theorem w_and (h : QT X a pt) (g : QW X (.BoolOp .And (b :: es) pos) qt) : QW X (.BoolOp .And (a :: b :: es) pos) (dAnd pt qt) := by
  obtain ⟨t, h1, h2⟩ := h
  obtain ⟨u, g1, g2⟩ := g
  refine ⟨_, pw_and h1 g1, fun pp HE Hb H σ E Q QD so er hp k => ?_⟩
  refine h2 pp HE Hb H σ E _ _ so er hp fun c Hb1 H1 s1 so1 q1 => ?_
  cases c with
  | true =>
    rw [if_pos rfl] at q1 ⊢
    exact g2 pp HE Hb1 H1 σ E _ _ so1 (er.step s1) q1 fun c Hb2 H2 s2 so2 q2 => k _ Hb2 H2 (s1.trans s2) so2 q2
  | false =>
    rw [if_neg Bool.false_ne_true] at q1 ⊢
    exact k _ Hb1 H1 s1 so1 q1
theorem w_or (h : QT X a pt) (g : QW X (.BoolOp .Or (b :: es) pos) qt) : QW X (.BoolOp .Or (a :: b :: es) pos) (dOr pt qt) := by
  obtain ⟨t, h1, h2⟩ := h
  obtain ⟨u, g1, g2⟩ := g
  refine ⟨_, pw_or h1 g1, fun pp HE Hb H σ E Q QD so er hp k => ?_⟩
  refine h2 pp HE Hb H σ E _ _ so er hp fun c Hb1 H1 s1 so1 q1 => ?_
  cases c with
  | false =>
    rw [if_neg Bool.false_ne_true] at q1 ⊢
    exact g2 pp HE Hb1 H1 σ E _ _ so1 (er.step s1) q1 fun c Hb2 H2 s2 so2 q2 => k _ Hb2 H2 (s1.trans s2) so2 q2
  | true =>
    rw [if_pos rfl] at q1 ⊢
    exact k _ Hb1 H1 s1 so1 q1
theorem t_and (h : QT X a pt) (g : QW X (.BoolOp .And (b :: es) pos) qt) : QT X (.BoolOp .And (a :: b :: es) pos) (dAnd pt qt) := (w_and h g).t
theorem t_or (h : QT X a pt) (g : QW X (.BoolOp .Or (b :: es) pos) qt) : QT X (.BoolOp .Or (a :: b :: es) pos) (dOr pt qt) := (w_or h g).t

/-! ### and, or, not as values; a if t else b -/
def dAndV (p q : DX) : DX := fun E Q => p E fun d => match d with
  | .bl c => if c = true then q E Q else Q (.bl false)
  | _ => False
def dOrV (p q : DX) : DX := fun E Q => p E fun d => match d with
  | .bl c => if c = true then Q (.bl true) else q E Q
  | _ => False
def dNotV (p : DX) : DX := fun E Q => p E fun d => match d with
  | .bl c => Q (.bl (!c))
  | _ => False
theorem q_one {op} (h : QE X a p) : QE X (.BoolOp op [a] pos) p := by
  obtain ⟨t, h1, h2⟩ := h
  exact ⟨t, pe_one h1, h2⟩
theorem q_and (h : QE X a p) (g : QE X (.BoolOp .And (b :: es) pos) q) : QE X (.BoolOp .And (a :: b :: es) pos) (dAndV p q) := by
  obtain ⟨t, h1, h2⟩ := h
  obtain ⟨u, g1, g2⟩ := g
  refine ⟨_, pe_and h1 g1, fun pp HE Hb H σ E Q QD so er hp k => ?_⟩
  refine h2 pp HE Hb H σ E _ _ so er hp fun v d Hb1 H1 s1 so1 r1 q1 => ?_
  split at q1
  · rename_i c
    unfold Rep at r1
    refine ⟨_, r1, ?_⟩
    cases c with
    | true =>
      rw [if_pos rfl] at q1 ⊢
      exact g2 pp HE Hb1 H1 σ E _ _ so1 (er.step s1) q1 fun v d Hb2 H2 s2 so2 r2 q2 => k _ _ Hb2 H2 (s1.trans s2) so2 r2 q2
    | false =>
      rw [if_neg Bool.false_ne_true] at q1 ⊢
      exact k _ _ Hb1 H1 s1 so1 (by unfold Rep; rfl) q1
  · exact q1.elim
theorem q_or (h : QE X a p) (g : QE X (.BoolOp .Or (b :: es) pos) q) : QE X (.BoolOp .Or (a :: b :: es) pos) (dOrV p q) := by
  obtain ⟨t, h1, h2⟩ := h
  obtain ⟨u, g1, g2⟩ := g
  refine ⟨_, pe_or h1 g1, fun pp HE Hb H σ E Q QD so er hp k => ?_⟩
  refine h2 pp HE Hb H σ E _ _ so er hp fun v d Hb1 H1 s1 so1 r1 q1 => ?_
  split at q1
  · rename_i c
    unfold Rep at r1
    refine ⟨_, r1, ?_⟩
    cases c with
    | false =>
      rw [if_neg Bool.false_ne_true] at q1 ⊢
      exact g2 pp HE Hb1 H1 σ E _ _ so1 (er.step s1) q1 fun v d Hb2 H2 s2 so2 r2 q2 => k _ _ Hb2 H2 (s1.trans s2) so2 r2 q2
    | true =>
      rw [if_pos rfl] at q1 ⊢
      exact k _ _ Hb1 H1 s1 so1 (by unfold Rep; rfl) q1
  · exact q1.elim
theorem q_not (h : QE X a p) : QE X (.UnaryOp .Not a pos) (dNotV p) := by
  obtain ⟨t, h1, h2⟩ := h
  refine ⟨_, pe_not h1, fun pp HE Hb H σ E Q QD so er hp k => ?_⟩
  refine h2 pp HE Hb H σ E _ _ so er hp fun v d Hb1 H1 s1 so1 r1 q1 => ?_
  split at q1
  · unfold Rep at r1
    exact ⟨_, r1, k _ _ Hb1 H1 s1 so1 (by unfold Rep; rfl) q1⟩
  · exact q1.elim
theorem q_if (hc : QT X e pt) (h : QE X a p) (g : QE X b q) : QE X (.IfExp e a b pos) (dIf pt p q) := by
  obtain ⟨tc, c1, c2⟩ := hc
  obtain ⟨t, h1, h2⟩ := h
  obtain ⟨u, g1, g2⟩ := g
  refine ⟨_, pe_ifExp c1 h1 g1, fun pp HE Hb H σ E Q QD so er hp k => ?_⟩
  refine c2 pp HE Hb H σ E _ _ so er hp fun c Hb1 H1 s1 so1 q1 => ?_
  cases c with
  | true =>
    rw [if_pos rfl] at q1 ⊢
    exact h2 pp HE Hb1 H1 σ E _ _ so1 (er.step s1) q1 fun v d Hb2 H2 s2 so2 r2 q2 => k _ _ Hb2 H2 (s1.trans s2) so2 r2 q2
  | false =>
    rw [if_neg Bool.false_ne_true] at q1 ⊢
    exact g2 pp HE Hb1 H1 σ E _ _ so1 (er.step s1) q1 fun v d Hb2 H2 s2 so2 r2 q2 => k _ _ Hb2 H2 (s1.trans s2) so2 r2 q2

/-! ### operations by values -/
def OD (X : Cx) (f : Value → Value → Sem Value) (rd : RD) : Prop := ∃ r : R2, OpR X f r ∧ ∀ (pp : Addr) (Hb H : Hp) (x y : V) (dx dy : D) (Q : VK) (QD : D → Prop), SOk pp X.K Hb H → RepT pp X.K Hb H dx x → RepT pp X.K Hb H dy y → rd dx dy QD →
  (∀ v d Hb' H', Step pp Hb H Hb' H' → SOk pp X.K Hb' H' → Rep pp X.K Hb' d v → QD d → Q v H') → r x y H Q
theorem q_op {op : Operator} {r : RD} (ho : OD X (binaryOp op) r) (ha : QO X a pa) (hb : QO X b pb) : QE X (.BinOp a op b pos) (dOp r pa pb) := by
  obtain ⟨t, h1, h2⟩ := ha
  obtain ⟨u, g1, g2⟩ := hb
  obtain ⟨o, o1, o2⟩ := ho
  refine ⟨_, pe_op o1 h1 g1, fun pp HE Hb H σ E Q QD so er hp k => ?_⟩
  refine h2 pp HE Hb H σ E _ _ so er hp fun v d Hb1 H1 s1 so1 r1 q1 => ?_
  refine g2 pp HE Hb1 H1 σ E _ _ so1 (er.step s1) q1 fun v2 d2 Hb2 H2 s2 so2 r2 q2 => ?_
  exact o2 pp Hb2 H2 _ _ _ _ _ _ so2 (r1.step s2) r2 q2 fun v3 d3 Hb3 H3 s3 so3 r3 q3 => k _ _ Hb3 H3 ((s1.trans s2).trans s3) so3 r3 q3
theorem q_cmp {op : CmpOp} {r : RD} (ho : OD X (compareOp op) r) (ha : QO X a pa) (hb : QO X b pb) (hm : behindInMarks op b = false) : QE X (.Compare a [op] [b] pos) (dOp r pa pb) := by
  obtain ⟨t, h1, h2⟩ := ha
  obtain ⟨u, g1, g2⟩ := hb
  obtain ⟨o, o1, o2⟩ := ho
  refine ⟨_, pe_cmpR o1 h1 g1 hm, fun pp HE Hb H σ E Q QD so er hp k => ?_⟩
  refine h2 pp HE Hb H σ E _ _ so er hp fun v d Hb1 H1 s1 so1 r1 q1 => ?_
  refine g2 pp HE Hb1 H1 σ E _ _ so1 (er.step s1) q1 fun v2 d2 Hb2 H2 s2 so2 r2 q2 => ?_
  exact o2 pp Hb2 H2 _ _ _ _ _ _ so2 (r1.step s2) r2 q2 fun v3 d3 Hb3 H3 s3 so3 r3 q3 => k _ _ Hb3 H3 ((s1.trans s2).trans s3) so3 r3 q3
theorem t_cmp {op : CmpOp} {r : RD} (ho : OD X (compareOp op) r) (ha : QO X a pa) (hb : QO X b pb) (hm : behindInMarks op b = false) : QT X (.Compare a [op] [b] pos) (dTst (dOp r pa pb)) := by
  obtain ⟨t, h1, h2⟩ := ha
  obtain ⟨u, g1, g2⟩ := hb
  obtain ⟨o, o1, o2⟩ := ho
  refine ⟨_, pt_cmpR o1 h1 g1 hm, fun pp HE Hb H σ E Q QD so er hp k => ?_⟩
  refine h2 pp HE Hb H σ E _ _ so er hp fun v d Hb1 H1 s1 so1 r1 q1 => ?_
  refine g2 pp HE Hb1 H1 σ E _ _ so1 (er.step s1) q1 fun v2 d2 Hb2 H2 s2 so2 r2 q2 => ?_
  refine o2 pp Hb2 H2 _ _ _ _ _ _ so2 (r1.step s2) r2 q2 fun v3 d3 Hb3 H3 s3 so3 r3 q3 => ?_
  split at q3
  · unfold Rep at r3
    exact ⟨_, r3, k _ Hb3 H3 ((s1.trans s2).trans s3) so3 q3⟩
  · exact q3.elim
/-- a chain of two comparisons -/
def dChain (r r' : RD) (pa pb pc : DX) : DX := fun E Q => pa E fun x => pb E fun y => r x y fun z => match z with
  | .bl k => if k = true then pc E fun w => r' y w Q else Q (.bl false)
  | _ => False
end

/-! ### subscripts -/
def IXD (X : Cx) (rd : RD) : Prop := ∃ r : R2, IxR X r ∧ ∀ (pp : Addr) (Hb H : Hp) (x y : V) (dx dy : D) (Q : VK) (QD : D → Prop), SOk pp X.K Hb H → RepT pp X.K Hb H dx x → RepT pp X.K Hb H dy y → rd dx dy QD →
  (∀ v d Hb' H', Step pp Hb H Hb' H' → SOk pp X.K Hb' H' → Rep pp X.K Hb' d v → QD d → Q v H') → r x y H Q
section
variable {X : Cx} {a b e : Expr} {es : List Expr} {pa pb p q : DX} {pt qt : DT} {pas : DAs} {pos : Pos}
theorem q_ix {r : RD} (ho : IXD X r) (ha : QO X a pa) (hb : QO X b pb) (hs : PlainIx b := by intro _ _; rfl) : QE X (.Subscript a b pos) (dOp r pa pb) := by
  obtain ⟨t, h1, h2⟩ := ha
  obtain ⟨u, g1, g2⟩ := hb
  obtain ⟨o, o1, o2⟩ := ho
  refine ⟨_, pe_ix o1 h1 g1 hs, fun pp HE Hb H σ E Q QD so er hp k => ?_⟩
  refine h2 pp HE Hb H σ E _ _ so er hp fun v d Hb1 H1 s1 so1 r1 q1 => ?_
  refine g2 pp HE Hb1 H1 σ E _ _ so1 (er.step s1) q1 fun v2 d2 Hb2 H2 s2 so2 r2 q2 => ?_
  exact o2 pp Hb2 H2 _ _ _ _ _ _ so2 (r1.step s2) r2 q2 fun v3 d3 Hb3 H3 s3 so3 r3 q3 => k _ _ Hb3 H3 ((s1.trans s2).trans s3) so3 r3 q3

/-! ### one-place operations, built-in calls of one operand -/
def UD (X : Cx) (f : Value → Sem Value) (rd : D → (D → Prop) → Prop) : Prop := ∃ r, UnR X f r ∧ ∀ (pp : Addr) (Hb H : Hp) (x : V) (dx : D) (Q : VK) (QD : D → Prop), SOk pp X.K Hb H → RepT pp X.K Hb H dx x → rd dx QD →
  (∀ v d Hb' H', Step pp Hb H Hb' H' → SOk pp X.K Hb' H' → Rep pp X.K Hb' d v → QD d → Q v H') → r x H Q
theorem q_un {op : UnaryOp} {r : D → (D → Prop) → Prop} (ho : UD X (unaryOp op) r) (ha : QO X a pa) : QE X (.UnaryOp op a pos) (dUn r pa) := by
  obtain ⟨t, h1, h2⟩ := ha
  obtain ⟨o, o1, o2⟩ := ho
  refine ⟨_, pe_un o1 h1, fun pp HE Hb H σ E Q QD so er hp k => ?_⟩
  refine h2 pp HE Hb H σ E _ _ so er hp fun v d Hb1 H1 s1 so1 r1 q1 => ?_
  exact o2 pp Hb1 H1 _ _ _ _ so1 r1 q1 fun v3 d3 Hb3 H3 s3 so3 r3 q3 => k _ _ Hb3 H3 (s1.trans s3) so3 r3 q3
/-- operands of a call -/
def RepTL (pp : Addr) (K : FK) (Hb H : Hp) : List D → List V → Prop
  | [], vs => vs = []
  | d :: ds, vs => ∃ v r, vs = v :: r ∧ RepT pp K Hb H d v ∧ RepTL pp K Hb H ds r
theorem RepTL.step {pp : Addr} {K : FK} {Hb H Hb' H' : Hp} (s : Step pp Hb H Hb' H') : ∀ {ds : List D} {vs : List V}, RepTL pp K Hb H ds vs → RepTL pp K Hb' H' ds vs
  | [], _, r => r
  | d :: ds, _, ⟨v, r, e, h, t⟩ => ⟨v, r, e, h.step s, t.step s⟩
def QAo (X : Cx) (es : List Expr) (p : DAs) : Prop := ∃ t, PA X es t ∧ ∀ (pp : Addr) (HE Hb H : Hp) (σ : L2.St) (E : List Sl) (Q : List V → Hp → Prop) (QD : List D → Prop), SOk pp X.K Hb H → ER pp X.K HE Hb H σ E → p E QD →
  (∀ vs ds Hb' H', Step pp Hb H Hb' H' → SOk pp X.K Hb' H' → RepTL pp X.K Hb' H' ds vs → QD ds → Q vs H') → t σ H Q
theorem o_nil : QAo X [] dNilA := ⟨_, pa_nil, fun pp HE Hb H σ E Q QD so er hp k => k [] [] Hb H .refl so rfl hp⟩
theorem o_cons (ha : QO X e p) (hr : QAo X es pas) (hs : starEach (e :: es) X.env = (false, eval e X.env) :: starEach es X.env := by rfl) : QAo X (e :: es) (dConsA p pas) := by
  obtain ⟨t, h1, h2⟩ := ha
  obtain ⟨u, g1, g2⟩ := hr
  refine ⟨_, pa_cons h1 g1 hs, fun pp HE Hb H σ E Q QD so er hp k => ?_⟩
  refine h2 pp HE Hb H σ E _ _ so er hp fun v d Hb1 H1 s1 so1 r1 q1 => ?_
  refine g2 pp HE Hb1 H1 σ E _ _ so1 (er.step s1) q1 fun vs ds Hb2 H2 s2 so2 r2 q2 => ?_
  exact k _ (d :: ds) Hb2 H2 (s1.trans s2) so2 ⟨_, _, rfl, r1.step s2, r2⟩ q2
def CD (X : Cx) (f : Value) (rd : List D → (D → Prop) → Prop) : Prop := ∃ r, CallR X f r ∧ ∀ (pp : Addr) (Hb H : Hp) (xs : List V) (ds : List D) (Q : VK) (QD : D → Prop), SOk pp X.K Hb H → RepTL pp X.K Hb H ds xs → rd ds QD →
  (∀ v d Hb' H', Step pp Hb H Hb' H' → SOk pp X.K Hb' H' → Rep pp X.K Hb' d v → QD d → Q v H') → r xs H Q
/-- .. that hands back a new object -/
def CDF (X : Cx) (f : Value) (rd : List D → (D → Prop) → Prop) : Prop := ∃ r, CallR X f r ∧ ∀ (pp : Addr) (Hb H : Hp) (xs : List V) (ds : List D) (Q : VK) (QD : D → Prop), SOk pp X.K Hb H → RepTL pp X.K Hb H ds xs → rd ds QD →
  (∀ a d Hb' H', Step pp Hb H Hb' H' → SOk pp X.K Hb' H' → H a = none → Owns pp X.K Hb' H' a d → QD d → Q (.ref a) H') → r xs H Q
def dCB (rd : List D → (D → Prop) → Prop) (p : DAs) : DX := fun E Q => p E fun ds => rd ds Q
theorem CDF.run {f : Value} {rd : List D → (D → Prop) → Prop} {t : TA} {pas : DAs} (hc : CDF X f rd)
    (ha : ∀ (pp : Addr) (HE Hb H : Hp) (σ : L2.St) (E : List Sl) (Q : List V → Hp → Prop) (QD : List D → Prop), SOk pp X.K Hb H → ER pp X.K HE Hb H σ E → pas E QD →
      (∀ vs ds Hb' H', Step pp Hb H Hb' H' → SOk pp X.K Hb' H' → RepTL pp X.K Hb' H' ds vs → QD ds → Q vs H') → t σ H Q) :
    ∃ r, CallR X f r ∧ ∀ (pp : Addr) (HE Hb H : Hp) (σ : L2.St) (E : List Sl) (Q : VK) (QD : D → Prop), SOk pp X.K Hb H → ER pp X.K HE Hb H σ E → dCB rd pas E QD →
      (∀ a d Hb' H', Step pp Hb H Hb' H' → SOk pp X.K Hb' H' → H a = none → Owns pp X.K Hb' H' a d → QD d → Q (.ref a) H') → tCB r t σ H Q := by
  obtain ⟨r, c1, c2⟩ := hc
  refine ⟨r, c1, fun pp HE Hb H σ E Q QD so er hp k => ?_⟩
  refine ha pp HE Hb H σ E _ _ so er hp fun vs ds Hb1 H1 s1 so1 r1 q1 => ?_
  refine c2 pp Hb1 H1 _ _ _ _ so1 r1 q1 fun a d Hb2 H2 s2 so2 hn o q => ?_
  refine k a d Hb2 H2 (s1.trans s2) so2 ?_ o q
  cases z : H a with
  | none => rfl
  | some u => exact absurd hn (s1.st a (by rw [z]; exact fun y => nomatch y))
theorem CD.run {f : Value} {rd : List D → (D → Prop) → Prop} {t : TA} {pas : DAs} (hc : CD X f rd)
    (ha : ∀ (pp : Addr) (HE Hb H : Hp) (σ : L2.St) (E : List Sl) (Q : List V → Hp → Prop) (QD : List D → Prop), SOk pp X.K Hb H → ER pp X.K HE Hb H σ E → pas E QD →
      (∀ vs ds Hb' H', Step pp Hb H Hb' H' → SOk pp X.K Hb' H' → RepTL pp X.K Hb' H' ds vs → QD ds → Q vs H') → t σ H Q) :
    ∃ r, CallR X f r ∧ ∀ (pp : Addr) (HE Hb H : Hp) (σ : L2.St) (E : List Sl) (Q : VK) (QD : D → Prop), SOk pp X.K Hb H → ER pp X.K HE Hb H σ E → dCB rd pas E QD →
      (∀ v d Hb' H', Step pp Hb H Hb' H' → SOk pp X.K Hb' H' → Rep pp X.K Hb' d v → QD d → Q v H') → tCB r t σ H Q := by
  obtain ⟨r, c1, c2⟩ := hc
  refine ⟨r, c1, fun pp HE Hb H σ E Q QD so er hp k => ?_⟩
  refine ha pp HE Hb H σ E _ _ so er hp fun vs ds Hb1 H1 s1 so1 r1 q1 => ?_
  exact c2 pp Hb1 H1 _ _ _ _ so1 r1 q1 fun v d Hb2 H2 s2 so2 o q => k v d Hb2 H2 (s1.trans s2) so2 o q
section
variable {x : Str} {id T : String} {pp' : Pos} {rd : List D → (D → Prop) → Prop}
theorem q_callB (hc : CD X (.builtin id) rd) (hg : Gl X x) (hm : X.mg x = none) (hv : bootBuiltins x = some (.builtin id)) (ha : QAo X (e :: es) pas) (hn : x ≠ "__name__" := by decide) (hdb : (x == ("__debug__" : Str)) = false := by decide)
    (he : starEach (e :: es) X.env = (false, eval e X.env) :: starEach es X.env := by rfl) (hpl : (backTo pos (starEach es X.env)).any (·.1) = false := by rfl) : QE X (.Call (.Name x pp') (e :: es) [] pos) (dCB rd pas) := by
  obtain ⟨t, h1, h2⟩ := ha
  obtain ⟨r, c1, c2⟩ := hc.run h2
  exact ⟨_, pe_callB c1 hg hm hv h1 hn hdb he hpl, c2⟩
theorem f_callB (hc : CDF X (.builtin id) rd) (hg : Gl X x) (hm : X.mg x = none) (hv : bootBuiltins x = some (.builtin id)) (ha : QAo X (e :: es) pas) (hn : x ≠ "__name__" := by decide) (hdb : (x == ("__debug__" : Str)) = false := by decide)
    (he : starEach (e :: es) X.env = (false, eval e X.env) :: starEach es X.env := by rfl) (hpl : (backTo pos (starEach es X.env)).any (·.1) = false := by rfl) : QF X (.Call (.Name x pp') (e :: es) [] pos) (dCB rd pas) := by
  obtain ⟨t, h1, h2⟩ := ha
  obtain ⟨r, c1, c2⟩ := hc.run h2
  exact ⟨_, pe_callB c1 hg hm hv h1 hn hdb he hpl, c2⟩
theorem q_callTy (hc : CD X (.type T) rd) (hg : Gl X x) (hm : X.mg x = none) (hv : bootBuiltins x = some (.type T)) (ha : QAo X (e :: es) pas) (hn : x ≠ "__name__" := by decide) (hdb : (x == ("__debug__" : Str)) = false := by decide)
    (he : starEach (e :: es) X.env = (false, eval e X.env) :: starEach es X.env := by rfl) (hpl : (backTo pos (starEach es X.env)).any (·.1) = false := by rfl) : QE X (.Call (.Name x pp') (e :: es) [] pos) (dCB rd pas) := by
  obtain ⟨t, h1, h2⟩ := ha
  obtain ⟨r, c1, c2⟩ := hc.run h2
  exact ⟨_, pe_callTy c1 hg hm hv h1 hn hdb he hpl, c2⟩
theorem f_callTy (hc : CDF X (.type T) rd) (hg : Gl X x) (hm : X.mg x = none) (hv : bootBuiltins x = some (.type T)) (ha : QAo X (e :: es) pas) (hn : x ≠ "__name__" := by decide) (hdb : (x == ("__debug__" : Str)) = false := by decide)
    (he : starEach (e :: es) X.env = (false, eval e X.env) :: starEach es X.env := by rfl) (hpl : (backTo pos (starEach es X.env)).any (·.1) = false := by rfl) : QF X (.Call (.Name x pp') (e :: es) [] pos) (dCB rd pas) := by
  obtain ⟨t, h1, h2⟩ := ha
  obtain ⟨r, c1, c2⟩ := hc.run h2
  exact ⟨_, pe_callTy c1 hg hm hv h1 hn hdb he hpl, c2⟩
/-- a module's name for a built-in function -/
theorem q_callF (hc : CD X (.builtin id) rd) (hg : Gl X x) (hm : X.mg x = some (.builtin id)) (ha : QAo X (e :: es) pas) (hdb : (x == ("__debug__" : Str)) = false := by decide)
    (he : starEach (e :: es) X.env = (false, eval e X.env) :: starEach es X.env := by rfl) (hpl : (backTo pos (starEach es X.env)).any (·.1) = false := by rfl) : QE X (.Call (.Name x pp') (e :: es) [] pos) (dCB rd pas) := by
  obtain ⟨t, h1, h2⟩ := ha
  obtain ⟨r, c1, c2⟩ := hc.run h2
  exact ⟨_, pe_callBfun c1 hg hm h1 hdb he hpl, c2⟩
end
end

/-! ### defs -/
abbrev SpecD := List D → (D → Prop) → Prop
def spD (K : FK) (S : SpecD) : Sp := fun vs H Q _ => ∃ (pp : Addr) (Hb : Hp) (ds : List D) (QD : D → Prop), SOk pp K Hb H ∧ RepL pp K Hb ds vs ∧ S ds QD ∧ ∀ d v Hb' H', QD d → Step pp Hb H Hb' H' → SOk pp K Hb' H' → Rep pp K Hb' d v → Q v H'
def dCall (S : SpecD) (p : DAs) : DX := fun E Q => p E fun ds => S ds Q
section
variable {X : Cx} {a b e : Expr} {es : List Expr} {pa pb p q : DX} {pas : DAs} {pos pp' : Pos} {x : Str} {f : Addr} {fd : FuncData} {ps : List Str} {k : Nat} {S : SpecD}
theorem q_call (F : FnOk X.prog X.w X.K X.mg X.base CX0 k f fd ps (spD X.K S)) (hr : Room k X.A) (hg : Gl X x) (hm : X.mg x = some (.ref f)) (hk : PySem.W.keepIn X.K (.ref f) = true) (hb : Binds X.K fd ps []) (ha : QA X (e :: es) pas)
    (hdb : (x == ("__debug__" : Str)) = false := by decide) (he : starEach (e :: es) X.env = (false, eval e X.env) :: starEach es X.env := by rfl) (hpl : (backTo pos (starEach es X.env)).any (·.1) = false := by rfl) :
    QE X (.Call (.Name x pp') (e :: es) [] pos) (dCall S pas) := by
  obtain ⟨t, h1, h2⟩ := ha
  refine ⟨_, pe_call F hr hg hm hk hb .nil pass0 h1 hdb he hpl, fun pp HE Hb H σ E Q QD so er hp k => ?_⟩
  refine h2 pp HE Hb H σ E _ _ so er hp fun vs ds Hb1 H1 s1 so1 r1 l1 q1 => ?_
  rw [List.append_nil]
  exact ⟨pp, Hb1, ds, QD, so1, r1, q1, fun d v Hb2 H2 qd s2 so2 r2 => k v d Hb2 H2 (s1.trans s2) so2 r2 qd⟩
end
end DL

namespace DL
open PySem PySem.Spec PyProof.Rows L2

/-! ### operands seen -/
section
variable {pp : Addr} {K : FK} {Hb H : Hp} {v : V}
theorem RepT.int {i : Int} (so : SOk pp K Hb H) (r : RepT pp K Hb H (.int i) v) : v = .int i := by
  rcases r with r | ⟨p, _, o⟩
  · unfold Rep at r; exact r
  · exact o.top.elim
theorem RepT.str {i : Str} (so : SOk pp K Hb H) (r : RepT pp K Hb H (.str i) v) : v = .str i := by
  rcases r with r | ⟨p, _, o⟩
  · unfold Rep at r; exact r
  · exact o.top.elim
theorem RepT.bl {i : Bool} (so : SOk pp K Hb H) (r : RepT pp K Hb H (.bl i) v) : v = .bl i := by
  rcases r with r | ⟨p, _, o⟩
  · unfold Rep at r; exact r
  · exact o.top.elim
theorem RepT.non (so : SOk pp K Hb H) (r : RepT pp K Hb H .non v) : v = .non := by
  rcases r with r | ⟨p, _, o⟩
  · unfold Rep at r; exact r
  · exact o.top.elim
theorem RepT.ty {n : String} (so : SOk pp K Hb H) (r : RepT pp K Hb H (.ty n) v) : v = .ty n := by
  rcases r with r | ⟨p, _, o⟩
  · unfold Rep at r; exact r
  · exact o.top.elim
theorem RepT.lst {ds : List D} (so : SOk pp K Hb H) (r : RepT pp K Hb H (.lst ds) v) : ∃ a xs, v = .ref a ∧ H a = some (.lst xs) ∧ RepL pp K Hb ds xs := by
  rcases r with r | ⟨p, e, o⟩
  · unfold Rep at r
    obtain ⟨a, xs, e, h, q⟩ := r
    exact ⟨a, xs, e, so.le _ _ h, q⟩
  · obtain ⟨xs, h, q⟩ := o.top
    exact ⟨p, xs, e, h, q⟩
theorem RepT.tup {ds : List D} (so : SOk pp K Hb H) (r : RepT pp K Hb H (.tup ds) v) : ∃ a xs, v = .ref a ∧ TpAt K Hb a ds xs ∧ SqT K H a xs ∧ RepL pp K Hb ds xs := by
  rcases r with r | ⟨p, e, o⟩
  · unfold Rep at r
    obtain ⟨a, xs, e, h, q⟩ := r
    exact ⟨a, xs, e, h, so.hle.sqT h.sqT, q⟩
  · exact o.top.elim
theorem RepT.tk {ds : List D} (so : SOk pp K Hb H) (r : RepT pp K Hb H (.tk ds) v) : ∃ a xs, v = .ref a ∧ Hb a = some (.tup xs) ∧ H a = some (.tup xs) ∧ RepL pp K Hb ds xs := by
  rcases r with r | ⟨p, e, o⟩
  · unfold Rep at r
    obtain ⟨a, xs, e, h, q⟩ := r
    exact ⟨a, xs, e, h, so.le _ _ h, q⟩
  · exact o.top.elim
theorem RepT.dic {ks : List Key} {ds : List D} (so : SOk pp K Hb H) (r : RepT pp K Hb H (.dic ks ds) v) : ∃ a ws, v = .ref a ∧ Rd H a (.dK ws) ∧ ws.map (·.1) = ks ∧ RepL pp K Hb ds (ws.map (·.2)) := by
  rcases r with r | ⟨p, e, o⟩
  · unfold Rep at r
    obtain ⟨a, ws, e, h, k, q⟩ := r
    exact ⟨a, ws, e, so.hle.rd _ _ trivial h, k, q⟩
  · obtain ⟨ws, h, k, q⟩ := o.top
    exact ⟨p, ws, e, .inl h, k, q⟩
theorem RepT.dct {ks : List (List Key)} {ds : List D} (so : SOk pp K Hb H) (r : RepT pp K Hb H (.dct ks ds) v) : ∃ a ws, v = .ref a ∧ Rd H a (.dT ws) ∧ ws.map (·.1) = ks ∧ RepL pp K Hb ds (ws.map (·.2)) := by
  rcases r with r | ⟨p, e, o⟩
  · unfold Rep at r
    obtain ⟨a, ws, e, h, k, q⟩ := r
    exact ⟨a, ws, e, so.hle.rd _ _ trivial h, k, q⟩
  · obtain ⟨ws, h, k, q⟩ := o.top
    exact ⟨p, ws, e, .inl h, k, q⟩
theorem rep_int {i : Int} : Rep pp K Hb (.int i) (.int i) := by unfold Rep; rfl
theorem rep_bl {i : Bool} : Rep pp K Hb (.bl i) (.bl i) := by unfold Rep; rfl
theorem rep_str {i : Str} : Rep pp K Hb (.str i) (.str i) := by unfold Rep; rfl
theorem rep_non : Rep pp K Hb .non .non := by unfold Rep; rfl
theorem rep_lst {a : Addr} {xs : List V} {ds : List D} (h : Hb a = some (.lst xs)) (r : RepL pp K Hb ds xs) : Rep pp K Hb (.lst ds) (.ref a) := by unfold Rep; exact ⟨a, xs, rfl, h, r⟩
theorem rep_tk {a : Addr} {xs : List V} {ds : List D} (h : Hb a = some (.tup xs)) (r : RepL pp K Hb ds xs) : Rep pp K Hb (.tk ds) (.ref a) := by unfold Rep; exact ⟨a, xs, rfl, h, r⟩
theorem rep_tup {a : Addr} {xs : List V} {ds : List D} (h : TpAt K Hb a ds xs) (r : RepL pp K Hb ds xs) : Rep pp K Hb (.tup ds) (.ref a) := by unfold Rep; exact ⟨a, xs, rfl, h, r⟩
end

/-! ### == -/
mutual
def deq : D → D → Bool
  | .non, .non => true
  | .bl a, .bl b => a == b
  | .bl a, .int j => (if a then 1 else 0) == j
  | .int i, .bl b => i == (if b then 1 else 0)
  | .int i, .int j => i == j
  | .str x, .str y => x == y
  | .lst xs, .lst ys => deqL xs ys
  | .tup xs, .tup ys => deqL xs ys
  | .tk xs, .tk ys => deqL xs ys
  | .tk xs, .tup ys => deqL xs ys
  | .tup xs, .tk ys => deqL xs ys
  | _, _ => false
def deqL : List D → List D → Bool
  | [], [] => true
  | x :: xs, y :: ys => deq x y && deqL xs ys
  | _, _ => false
end
mutual
def pd : D → PyData
  | .non => .none
  | .bl b => .bool b
  | .int i => .int i
  | .str x => .str x
  | .tup xs => .tuple (pdL xs)
  | .lst xs => .list (pdL xs)
  | .tk xs => .tuple (pdL xs)
  | _ => .dict []
def pdL : List D → List PyData
  | [] => []
  | x :: xs => pd x :: pdL xs
end
/-- data without dicts, at most n deep -/
def okD : Nat → D → Bool
  | _, .non => true
  | _, .bl _ => true
  | _, .int _ => true
  | _, .str _ => true
  | n + 1, .tup xs => xs.all (okD n)
  | n + 1, .lst xs => xs.all (okD n)
  | n + 1, .tk xs => xs.all (okD n)
  | _, _ => false
mutual
theorem pd_eqv : ∀ (n m : Nat) (x y : D), okD n x = true → okD m y = true → PyData.eqv (pd x) (pd y) = deq x y
  | n, m, x, y, hx, hy => by
    cases x <;> cases y <;> (first | (simp [pd, PyData.eqv, deq]; done) | (simp [okD] at hx; done) | (simp [okD] at hy; done) | skip)
    all_goals
      cases n <;> cases m <;> simp [okD] at hx hy
      rename_i xs ys n m
      simp only [pd, PyData.eqv, deq]
      exact pdL_eqv n m xs ys hx hy
theorem pdL_eqv : ∀ (n m : Nat) (xs ys : List D), (∀ x ∈ xs, okD n x = true) → (∀ x ∈ ys, okD m x = true) → PyData.eqvAll (pdL xs) (pdL ys) = deqL xs ys
  | n, m, [], [], _, _ => by simp [pdL, PyData.eqvAll, deqL]
  | n, m, [], y :: ys, _, _ => by simp [pdL, PyData.eqvAll, deqL]
  | n, m, x :: xs, [], _, _ => by simp [pdL, PyData.eqvAll, deqL]
  | n, m, x :: xs, y :: ys, hx, hy => by
    simp only [pdL, PyData.eqvAll, deqL]
    rw [pd_eqv n m x y (hx x (by simp)) (hy y (by simp)), pdL_eqv n m xs ys (fun z hz => hx z (by simp [hz])) (fun z hz => hy z (by simp [hz]))]
end
theorem okD_up : ∀ (n : Nat) (x : D), okD n x = true → okD (n + 1) x = true
  | 0, x, h => by cases x <;> simp [okD] at h ⊢
  | n + 1, x, h => by
    cases x <;> (first | (simp [okD] at h ⊢; done) | skip)
    · simp only [okD, List.all_eq_true] at h ⊢
      exact fun y hy => okD_up n y (h y hy)
    · simp only [okD, List.all_eq_true] at h ⊢
      exact fun y hy => okD_up n y (h y hy)
    · simp only [okD, List.all_eq_true] at h ⊢
      exact fun y hy => okD_up n y (h y hy)
theorem okD_le {n m : Nat} {x : D} (h : okD n x = true) (l : n ≤ m) : okD m x = true := by
  induction l with
  | refl => exact h
  | step _ ih => exact okD_up _ x ih
mutual
theorem pd_plain : ∀ (n : Nat) (x : D), okD n x = true → (pd x).plain = true ∧ (pd x).depth ≤ n
  | n, x, h => by
    cases x <;> (first | (simp [pd, PyData.plain, PyData.depth]; done) | (simp [okD] at h; done) | skip)
    · cases n <;> simp [okD] at h
      rename_i xs n
      simp only [pd, PyData.plain, PyData.depth]
      have q := pdL_plain n xs h
      exact ⟨q.1, by omega⟩
    · cases n <;> simp [okD] at h
      rename_i xs n
      simp only [pd, PyData.plain, PyData.depth]
      have q := pdL_plain n xs h
      exact ⟨q.1, by omega⟩
    · cases n <;> simp [okD] at h
      rename_i xs n
      simp only [pd, PyData.plain, PyData.depth]
      have q := pdL_plain n xs h
      exact ⟨q.1, by omega⟩
theorem pdL_plain : ∀ (n : Nat) (xs : List D), (∀ x ∈ xs, okD n x = true) → PyData.plainAll (pdL xs) = true ∧ PyData.depthAll (pdL xs) ≤ n
  | n, [], _ => by simp [pdL, PyData.plainAll, PyData.depthAll]
  | n, x :: xs, h => by
    have q1 := pd_plain n x (h x (by simp))
    have q2 := pdL_plain n xs fun z hz => h z (by simp [hz])
    simp only [pdL, PyData.plainAll, PyData.depthAll, Bool.and_eq_true]
    exact ⟨⟨q1.1, q2.1⟩, by omega⟩
end
section
variable {pp : Addr} {K : FK} {Hb H : Hp}
mutual
theorem rep_dp : ∀ (n : Nat) (x : D) (v : V), okD n x = true → Rep pp K H x v → Dp K H v (pd x)
  | n, x, v, h, r => by
    cases x <;> (first | (simp [okD] at h; done) | skip)
    · unfold Rep at r; subst r; exact .non
    · unfold Rep at r; subst r; exact .bl _
    · unfold Rep at r; subst r; exact .int _
    · unfold Rep at r; subst r; exact .str _
    · cases n <;> simp [okD] at h
      rename_i xs n
      unfold Rep at r
      obtain ⟨a, ws, rfl, h1, h2⟩ := r
      exact .tup h1.sqT (repL_dp n xs ws h h2)
    · cases n <;> simp [okD] at h
      rename_i xs n
      unfold Rep at r
      obtain ⟨a, ws, rfl, h1, h2⟩ := r
      exact .lst (.of h1) (repL_dp n xs ws h h2)
    · cases n <;> simp [okD] at h
      rename_i xs n
      unfold Rep at r
      obtain ⟨a, ws, rfl, h1, h2⟩ := r
      exact .tup (.inl (.inl h1)) (repL_dp n xs ws h h2)
theorem repL_dp : ∀ (n : Nat) (xs : List D) (vs : List V), (∀ x ∈ xs, okD n x = true) → RepL pp K H xs vs → DpAll K H vs (pdL xs)
  | n, [], vs, _, r => by rw [r.unnil]; exact .nil
  | n, x :: xs, vs, h, r => by
    obtain ⟨v, w, rfl, h1, h2⟩ := r.uncons
    exact .cons (rep_dp n x v (h x (by simp)) h1) (repL_dp n xs w (fun z hz => h z (by simp [hz])) h2)
end
theorem repT_dp {n : Nat} {x : D} {v : V} (so : SOk pp K Hb H) (h : okD n x = true) (r : RepT pp K Hb H x v) : Dp K H v (pd x) := by
  rcases r with r | ⟨p, e, o⟩
  · exact rep_dp n x v h (r.le so.hle)
  · have t := o.top
    subst e
    cases x <;> first | exact t.elim | (simp [okD] at h; done) | skip
    obtain ⟨xs, h1, h2⟩ := t
    cases n <;> simp [okD] at h
    exact .lst (.of h1) (repL_dp _ _ _ h (h2.le so.hle))
end
/-- == of data -/
def rdEq : RD := fun x y Q => okD 60 x = true ∧ okD 60 y = true ∧ Q (.bl (deq x y))
def rdNe : RD := fun x y Q => okD 60 x = true ∧ okD 60 y = true ∧ Q (.bl (!deq x y))
section
variable {X : Cx}
theorem op_eqP (hu : X.A.units + 64 < cLine) : OpR X (compareOp .Eq) (fun x y H Q => ∃ d e, Dp X.K H x d ∧ Dp X.K H y e ∧ d.plain = true ∧ e.plain = true ∧ d.depth ≤ 60 ∧ Q (.bl (PyData.eqv d e)) H) := by
  intro pins s σ H x y v u Q I rx ry h
  obtain ⟨d, e, hd, he, sd, se, dd, q⟩ := h
  obtain ⟨as, r1⟩ := Dp.reads I d x v hd rx
  obtain ⟨bs, r2⟩ := Dp.reads I e y u he ry
  exact SeqAt.eq_plain r1 r2 sd se (by omega) ⟨.bl _, H, I, rfl, q⟩
theorem op_neP (hu : X.A.units + 64 < cLine) : OpR X (compareOp .NotEq) (fun x y H Q => ∃ d e, Dp X.K H x d ∧ Dp X.K H y e ∧ d.plain = true ∧ e.plain = true ∧ d.depth ≤ 60 ∧ Q (.bl (!PyData.eqv d e)) H) := by
  intro pins s σ H x y v u Q I rx ry h
  obtain ⟨d, e, hd, he, sd, se, dd, q⟩ := h
  obtain ⟨as, r1⟩ := Dp.reads I d x v hd rx
  obtain ⟨bs, r2⟩ := Dp.reads I e y u he ry
  exact SeqAt.ne_plain r1 r2 sd se (by omega) ⟨.bl _, H, I, rfl, q⟩
theorem od_eq (hu : X.A.units + 64 < cLine) : OD X (compareOp .Eq) rdEq := by
  refine ⟨_, op_eqP hu, fun pp Hb H x y dx dy Q QD so rx ry h k => ?_⟩
  obtain ⟨h1, h2, h3⟩ := h
  have p1 := pd_plain _ _ h1
  have p2 := pd_plain _ _ h2
  refine ⟨pd dx, pd dy, repT_dp so h1 rx, repT_dp so h2 ry, p1.1, p2.1, p1.2, ?_⟩
  rw [pd_eqv _ _ _ _ h1 h2]
  exact k _ _ Hb H .refl so rep_bl h3
theorem od_ne (hu : X.A.units + 64 < cLine) : OD X (compareOp .NotEq) rdNe := by
  refine ⟨_, op_neP hu, fun pp Hb H x y dx dy Q QD so rx ry h k => ?_⟩
  obtain ⟨h1, h2, h3⟩ := h
  have p1 := pd_plain _ _ h1
  have p2 := pd_plain _ _ h2
  refine ⟨pd dx, pd dy, repT_dp so h1 rx, repT_dp so h2 ry, p1.1, p2.1, p1.2, ?_⟩
  rw [pd_eqv _ _ _ _ h1 h2]
  exact k _ _ Hb H .refl so rep_bl h3

/-! ### ints -/
def i2 (g : Int → Int → (D → Prop) → Prop) : RD := fun x y Q => match x, y with
  | .int i, .int j => g i j Q
  | _, _ => False
theorem od_i0 {f : Value → Value → Sem Value} {g : Int → Int → V} {gd : Int → Int → D} (ho : OpR X f (rI0 g)) (hg : ∀ i j pp H, Rep pp X.K H (gd i j) (g i j)) : OD X f (i2 fun i j Q => Q (gd i j)) := by
  refine ⟨_, ho, fun pp Hb H x y dx dy Q QD so rx ry h k => ?_⟩
  cases dx <;> first | exact h.elim | skip
  cases dy <;> first | exact h.elim | skip
  exact ⟨_, _, rx.int so, ry.int so, k _ _ Hb H .refl so (hg _ _ _ _) h⟩
theorem od_i {f : Value → Value → Sem Value} {C : Int → Int → Prop} {g : Int → Int → V} {gd : Int → Int → D} (ho : OpR X f (rI C g)) (hg : ∀ i j pp H, Rep pp X.K H (gd i j) (g i j)) : OD X f (i2 fun i j Q => C i j ∧ Q (gd i j)) := by
  refine ⟨_, ho, fun pp Hb H x y dx dy Q QD so rx ry h k => ?_⟩
  cases dx <;> first | exact h.elim | skip
  cases dy <;> first | exact h.elim | skip
  exact ⟨_, _, rx.int so, ry.int so, h.1, k _ _ Hb H .refl so (hg _ _ _ _) h.2⟩
def rdSub : RD := i2 fun i j Q => Q (.int (i - j))
def rdMul : RD := i2 fun i j Q => CMulX i j ∧ Q (.int (i * j))
def CDivA (_ j : Int) : Prop := j ≠ 0 ∧ j.natAbs.log2 < 9000
def rdDiv : RD := i2 fun i j Q => CDivA i j ∧ Q (.int (i.fdiv j))
def rdMod : RD := i2 fun i j Q => j ≠ 0 ∧ Q (.int (i.fmod j))
def rdPow : RD := i2 fun i j Q => CPow i j ∧ Q (.int (i ^ j.toNat))
def rdLt : RD := fun x y Q => match x, y with
  | .int i, .int j => Q (.bl (decide (i < j)))
  | .str i, .str j => Q (.bl (decide (i.cps.toList < j.cps.toList)))
  | _, _ => False
def rdLe : RD := i2 fun i j Q => Q (.bl (decide (i ≤ j)))
def rdGt : RD := i2 fun i j Q => Q (.bl (decide (j < i)))
def rdGe : RD := i2 fun i j Q => Q (.bl (decide (j ≤ i)))
theorem op_fdivA : OpR X (binaryOp .FloorDiv) (rI CDivA fun i j => .int (i.fdiv j)) := opI fun _ _ _ _ _ _ _ hc q => floordiv_int hc.1 q (.inl (PyProof.noPylong_of_log2 hc.2))
theorem od_sub : OD X (binaryOp .Sub) rdSub := od_i0 op_sub fun _ _ _ _ => rep_int
theorem od_mul : OD X (binaryOp .Mult) rdMul := od_i op_mulX fun _ _ _ _ => rep_int
theorem od_div : OD X (binaryOp .FloorDiv) rdDiv := od_i op_fdivA fun _ _ _ _ => rep_int
theorem od_mod : OD X (binaryOp .Mod) rdMod := od_i op_modN fun _ _ _ _ => rep_int
theorem od_pow : OD X (binaryOp .Pow) rdPow := od_i op_pow fun _ _ _ _ => rep_int
theorem od_le : OD X (compareOp .LtE) rdLe := od_i0 op_le fun _ _ _ _ => rep_bl
theorem od_gt : OD X (compareOp .Gt) rdGt := od_i0 op_gt fun _ _ _ _ => rep_bl
theorem od_ge : OD X (compareOp .GtE) rdGe := od_i0 op_ge fun _ _ _ _ => rep_bl
theorem od_lt : OD X (compareOp .Lt) rdLt := by
  refine ⟨_, op_lt.or op_lt_str, fun pp Hb H x y dx dy Q QD so rx ry h k => ?_⟩
  cases dx <;> first | exact h.elim | skip
  · cases dy <;> first | exact h.elim | skip
    exact .inl ⟨_, _, rx.int so, ry.int so, k _ _ Hb H .refl so rep_bl h⟩
  · cases dy <;> first | exact h.elim | skip
    exact .inr ⟨_, _, rx.str so, ry.str so, k _ _ Hb H .refl so rep_bl h⟩
/-- + : ints, texts, lists, tuples -/
def rdAdd : RD := fun x y Q => match x, y with
  | .int i, .int j => Q (.int (i + j))
  | .str i, .str j => i.length + j.length ≤ sizeLine ∧ Q (.str (i ++ j))
  | .lst a, .lst b => a.length + b.length ≤ sizeLine ∧ Q (.lst (a ++ b))
  | .tup a, .tup b => a.length + b.length ≤ sizeLine ∧ Q (.tup (a ++ b))
  | .tk a, .tk b => a.length + b.length ≤ sizeLine ∧ Q (.tk (a ++ b))
  | _, _ => False
theorem od_add : OD X (binaryOp .Add) rdAdd := by
  refine ⟨_, op_add.or (op_add_str.or (op_cat.or op_catA)), fun pp Hb H x y dx dy Q QD so rx ry h k => ?_⟩
  cases dx <;> first | exact h.elim | skip
  · cases dy <;> first | exact h.elim | skip
    exact .inl ⟨_, _, rx.int so, ry.int so, k _ _ Hb H .refl so rep_int h⟩
  · cases dy <;> first | exact h.elim | skip
    exact .inr (.inl ⟨_, _, rx.str so, ry.str so, h.1, k _ _ Hb H .refl so rep_str h.2⟩)
  · cases dy <;> first | exact h.elim | skip
    obtain ⟨a, xs, rfl, hb1, h1, r1⟩ := rx.tup so
    obtain ⟨b, ys, rfl, hb2, h2, r2⟩ := ry.tup so
    refine .inr (.inr (.inr ⟨a, b, xs, ys, rfl, rfl, h1, h2, by rw [r1.length, r2.length]; exact h.1, fun e => ?_, fun _ e => ?_, fun _ _ p hp => ?_⟩))
    · subst e
      have z := r1.length
      rename_i ds es
      cases ds with
      | nil => exact k _ (.tup es) Hb H .refl so (rep_tup hb2 r2) h.2
      | cons _ _ => simp at z
    · subst e
      have z := r2.length
      rename_i ds es _
      cases es with
      | nil => exact k _ (.tup ds) Hb H .refl so (rep_tup hb1 r1) (by simpa using h.2)
      | cons _ _ => simp at z
    · obtain ⟨s2, so2⟩ := lay_sh (u := .tup (xs ++ ys)) so hp
      exact k _ _ _ _ s2 so2 (rep_tup (.inl upd_same) ((r1.app r2).le s2.le)) h.2
  · cases dy <;> first | exact h.elim | skip
    obtain ⟨a, xs, rfl, h1, r1⟩ := rx.lst so
    obtain ⟨b, ys, rfl, h2, r2⟩ := ry.lst so
    refine .inr (.inr (.inl ⟨a, b, xs, ys, rfl, rfl, h1, h2, by rw [r1.length, r2.length]; exact h.1, fun p hp => ?_⟩))
    obtain ⟨s2, so2⟩ := lay_sh (u := .lst (xs ++ ys)) so hp
    exact k _ _ _ _ s2 so2 (rep_lst upd_same ((r1.app r2).le s2.le)) h.2
  · cases dy <;> first | exact h.elim | skip
    obtain ⟨a, xs, rfl, hb1, h1, r1⟩ := rx.tk so
    obtain ⟨b, ys, rfl, hb2, h2, r2⟩ := ry.tk so
    refine .inr (.inr (.inr ⟨a, b, xs, ys, rfl, rfl, .inl (.inl h1), .inl (.inl h2), by rw [r1.length, r2.length]; exact h.1, fun e => ?_, fun _ e => ?_, fun _ _ p hp => ?_⟩))
    · subst e
      have z := r1.length
      rename_i ds es
      cases ds with
      | nil => exact k _ (.tk es) Hb H .refl so (rep_tk hb2 r2) h.2
      | cons _ _ => simp at z
    · subst e
      have z := r2.length
      rename_i ds es _
      cases es with
      | nil => exact k _ (.tk ds) Hb H .refl so (rep_tk hb1 r1) (by simpa using h.2)
      | cons _ _ => simp at z
    · obtain ⟨s2, so2⟩ := lay_sh (u := .tup (xs ++ ys)) so hp
      exact k _ _ _ _ s2 so2 (rep_tk upd_same ((r1.app r2).le s2.le)) h.2
def rdNeg : D → (D → Prop) → Prop := fun x Q => match x with
  | .int i => Q (.int (-i))
  | _ => False
theorem ud_neg : UD X (unaryOp .USub) rdNeg := by
  refine ⟨_, un_neg, fun pp Hb H x dx Q QD so rx h k => ?_⟩
  cases dx <;> first | exact h.elim | skip
  exact ⟨_, rx.int so, k _ _ Hb H .refl so rep_int h⟩
/-- x is y, y None, True or False -/
def isB (x y : D) : Option Bool := match x, y with
  | .non, .non => some true
  | _, .non => some false
  | .bl a, .bl b => some (a == b)
  | _, .bl _ => some false
  | _, _ => none
def rdIsN : RD := fun x y Q => match y with
  | .non => match x with
    | .non => Q (.bl true)
    | _ => Q (.bl false)
  | _ => False
def rdNotN : RD := fun x y Q => match y with
  | .non => match x with
    | .non => Q (.bl false)
    | _ => Q (.bl true)
  | _ => False
def isNonD : D → Bool
  | .non => true
  | _ => false
theorem repT_non {pp : Addr} {K : FK} {Hb H : Hp} {d : D} {v : V} (so : SOk pp K Hb H) (r : RepT pp K Hb H d v) : decide (v = V.non) = isNonD d := by
  cases d
  · rw [r.non so]; rfl
  · rw [r.bl so]; rfl
  · rw [r.int so]; rfl
  · rw [r.str so]; rfl
  · obtain ⟨a, xs, e, _⟩ := r.tup so; rw [e]; rfl
  · obtain ⟨a, xs, e, _⟩ := r.lst so; rw [e]; rfl
  · obtain ⟨a, xs, e, _⟩ := r.dic so; rw [e]; rfl
  · obtain ⟨a, xs, e, _⟩ := r.dct so; rw [e]; rfl
  · rcases r with r | ⟨p, e, o⟩
    · unfold Rep at r; rw [r]; rfl
    · exact o.top.elim
  · rw [r.ty so]; rfl
  · obtain ⟨a, xs, e, _⟩ := r.tk so; rw [e]; rfl
theorem od_isN : OD X (compareOp .Is) rdIsN := by
  refine ⟨_, op_isN, fun pp Hb H x y dx dy Q QD so rx ry h k => ?_⟩
  cases dy <;> first | exact h.elim | skip
  refine ⟨ry.non so, ?_⟩
  rw [repT_non so rx]
  cases dx <;> exact k _ _ Hb H .refl so rep_bl h
theorem od_notN : OD X (compareOp .IsNot) rdNotN := by
  refine ⟨_, op_notN, fun pp Hb H x y dx dy Q QD so rx ry h k => ?_⟩
  cases dy <;> first | exact h.elim | skip
  refine ⟨ry.non so, ?_⟩
  rw [repT_non so rx]
  cases dx <;> exact k _ _ Hb H .refl so rep_bl h
end
end DL

namespace DL
open PySem PySem.Spec PyProof.Rows L2

/-! ### dicts as two lists -/
section
variable {κ : Type} [DecidableEq κ]
def lk : List κ → List D → κ → Option D
  | k' :: ks, d :: ds, k => if k' = k then some d else lk ks ds k
  | _, _, _ => none
def hasK (ks : List κ) (k : κ) : Bool := ks.any fun k' => decide (k' = k)
theorem hasK_iff {ks : List κ} {k : κ} : hasK ks k = true ↔ k ∈ ks := by simp [hasK, List.any_eq_true]
theorem hasK_not {ks : List κ} {k : κ} : hasK ks k = false ↔ k ∉ ks := by rw [← hasK_iff]; simp
def ptK (ks : List κ) (k : κ) : List κ := if hasK ks k = true then ks else ks ++ [k]
def ptD (ks : List κ) (ds : List D) (k : κ) (d : D) : List D := if hasK ks k = true then List.zipWith (fun k' d' => if k' = k then d else d') ks ds else ds ++ [d]
def drK (ks : List κ) (k : κ) : List κ := ks.filter fun k' => decide (k' ≠ k)
def drD : List κ → List D → κ → List D
  | k' :: ks, d :: ds, k => if k' = k then drD ks ds k else d :: drD ks ds k
  | _, _, _ => []
variable {pp : Addr} {K : FK} {H : Hp}
theorem lk_val {k : κ} : ∀ {ws : List (κ × V)} {ds : List D}, RepL pp K H ds (ws.map (·.2)) → (∀ d, lk (ws.map (·.1)) ds k = some d → ∃ v, valV ws k = some v ∧ Rep pp K H d v) ∧ (lk (ws.map (·.1)) ds k = none → valV ws k = none)
  | [], ds, r => by
    refine ⟨fun d h => ?_, fun _ => rfl⟩
    cases ds <;> simp [lk] at h
  | (k', v) :: ws, [], r => by
    have := r.unnil
    simp at this
  | (k', v) :: ws, d :: ds, r => by
    obtain ⟨v', w, e, h, q⟩ := r.uncons
    simp only [List.map_cons, List.cons.injEq] at e
    obtain ⟨rfl, rfl⟩ := e
    have ih := lk_val (k := k) q
    by_cases hk : k' = k
    · subst hk
      refine ⟨fun d' h' => ?_, fun h' => ?_⟩
      · simp only [List.map_cons, lk, if_pos] at h'
        cases h'
        exact ⟨v, valV_pos rfl, h⟩
      · simp [lk] at h'
    · simp only [List.map_cons, lk, if_neg hk]
      rw [valV_neg (p := (k', v)) hk]
      exact ih
theorem pt_keys (k : κ) (v : V) (ws : List (κ × V)) : (putK ws k v).map (·.1) = ptK (ws.map (·.1)) k := by
  unfold putK ptK
  have e : ((ws.any fun kv => decide (kv.1 = k)) = true) ↔ hasK (ws.map (·.1)) k = true := by
    rw [hasK_iff]; simp [List.any_eq_true]
  by_cases h : hasK (ws.map (·.1)) k = true
  · rw [if_pos (e.mpr h), if_pos h, List.map_map]
    refine List.map_congr_left fun p _ => ?_
    simp only [Function.comp]
    split <;> rfl
  · rw [if_neg (fun z => h (e.mp z)), if_neg h, List.map_append]
    rfl
theorem zip_rep {k : κ} {v : V} {d : D} (hv : Rep pp K H d v) : ∀ {ws : List (κ × V)} {ds : List D}, RepL pp K H ds (ws.map (·.2)) → RepL pp K H (List.zipWith (fun k' d' => if k' = k then d else d') (ws.map (·.1)) ds) ((ws.map fun kv => if kv.1 = k then (kv.1, v) else kv).map (·.2))
  | [], ds, r => by simp; exact .nil
  | (k', v') :: ws, [], r => by
    have := r.unnil
    simp at this
  | (k', v') :: ws, d' :: ds, r => by
    obtain ⟨v'', w, e, h, q⟩ := r.uncons
    simp only [List.map_cons, List.cons.injEq] at e
    obtain ⟨rfl, rfl⟩ := e
    have ih := zip_rep (k := k) hv q
    simp only [List.map_cons, List.zipWith_cons_cons]
    refine .cons ?_ ih
    split
    · exact hv
    · exact h
theorem pt_rep {k : κ} {v : V} {d : D} {ws : List (κ × V)} {ds : List D} (hv : Rep pp K H d v) (r : RepL pp K H ds (ws.map (·.2))) : RepL pp K H (ptD (ws.map (·.1)) ds k d) ((putK ws k v).map (·.2)) := by
  unfold putK ptD
  have e : ((ws.any fun kv => decide (kv.1 = k)) = true) ↔ hasK (ws.map (·.1)) k = true := by
    rw [hasK_iff]; simp [List.any_eq_true]
  by_cases h : hasK (ws.map (·.1)) k = true
  · rw [if_pos (e.mpr h), if_pos h]
    exact zip_rep hv r
  · rw [if_neg (fun z => h (e.mp z)), if_neg h, List.map_append]
    exact r.app (.cons hv .nil)
theorem dr_keys (k : κ) : ∀ (ws : List (κ × V)), (dropK ws k).map (·.1) = drK (ws.map (·.1)) k
  | [] => rfl
  | (k', v) :: ws => by
    have ih := dr_keys k ws
    unfold dropK drK at *
    by_cases h : k' = k
    · simp only [List.map_cons, List.filter_cons, h, ne_eq, not_true_eq_false, decide_false, Bool.false_eq_true, if_false]
      exact ih
    · simp only [List.map_cons, List.filter_cons, h, ne_eq, not_false_eq_true, decide_true, if_true]
      simp only [ne_eq] at ih
      rw [← ih]
theorem dr_rep {k : κ} : ∀ {ws : List (κ × V)} {ds : List D}, RepL pp K H ds (ws.map (·.2)) → RepL pp K H (drD (ws.map (·.1)) ds k) ((dropK ws k).map (·.2))
  | [], ds, r => by cases ds <;> exact .nil
  | (k', v') :: ws, [], r => by
    have := r.unnil
    simp at this
  | (k', v') :: ws, d' :: ds, r => by
    obtain ⟨v'', w, e, h, q⟩ := r.uncons
    simp only [List.map_cons, List.cons.injEq] at e
    obtain ⟨rfl, rfl⟩ := e
    have ih := dr_rep (k := k) q
    by_cases hk : k' = k
    · rw [dropK_pos (p := (k', v')) hk]
      simp only [List.map_cons, drD, if_pos hk]
      exact ih
    · rw [dropK_neg (p := (k', v')) hk]
      simp only [List.map_cons, drD, if_neg hk]
      exact .cons h ih
end
/-- an int or text as a key -/
def keyOf : D → Option Key
  | .int i => some (.inl i)
  | .str x => some (.inr x)
  | _ => none
theorem keyOf_rep {pp : Addr} {K : FK} {Hb H : Hp} {d : D} {v : V} {k : Key} (so : SOk pp K Hb H) (e : keyOf d = some k) (r : RepT pp K Hb H d v) : v = kV k := by
  cases d <;> simp [keyOf] at e
  · subst e; exact r.int so
  · subst e; exact r.str so

/-- the keys that a tuple of ints and texts is made of -/
def keysOf : List D → Option (List Key)
  | [] => some []
  | d :: r => match keyOf d with
    | none => none
    | some k => match keysOf r with
      | none => none
      | some l => some (k :: l)
/-- a tuple as a key (not two ints) -/
def keyT : D → Option (List Key)
  | .tup ds => if pairI ds = true then none else keysOf ds
  | .tk ds => keysOf ds
  | _ => none
theorem keysOf_rep {pp : Addr} {K : FK} {Hb H : Hp} (so : SOk pp K Hb H) : ∀ {ds : List D} {vs : List V} {ks : List Key}, keysOf ds = some ks → RepL pp K Hb ds vs → vs = ks.map kV
  | [], _, _, e, r => by cases e; rw [r.unnil]; rfl
  | d :: ds, _, ks, e, r => by
    unfold keysOf at e
    cases h1 : keyOf d with
    | none => rw [h1] at e; cases e
    | some k =>
      cases h2 : keysOf ds with
      | none => rw [h1, h2] at e; cases e
      | some l =>
        rw [h1, h2] at e
        cases e
        obtain ⟨v, w, rfl, r1, r2⟩ := r.uncons
        rw [keyOf_rep so h1 (.inl r1), keysOf_rep so h2 r2]; rfl
theorem keyT_rep {pp : Addr} {K : FK} {Hb H : Hp} {d : D} {v : V} {k : List Key} (so : SOk pp K Hb H) (e : keyT d = some k) (r : RepT pp K Hb H d v) : ∃ b, v = .ref b ∧ H b = some (.tup (k.map kV)) := by
  cases d <;> first | (cases e; done) | skip
  · rename_i ds
    replace e : (if pairI ds = true then none else keysOf ds) = some k := e
    by_cases hp : pairI ds = true
    · rw [if_pos hp] at e; cases e
    · rw [if_neg hp] at e
      rcases r with r | ⟨p, _, o⟩
      · unfold Rep at r
        obtain ⟨a, xs, rfl, t, q⟩ := r
        rcases t with t | ⟨t, _⟩
        · rw [keysOf_rep so e q] at t
          exact ⟨a, rfl, so.le _ _ t⟩
        · exact absurd t hp
      · exact o.top.elim
  · rename_i ds
    replace e : keysOf ds = some k := e
    obtain ⟨a, xs, rfl, _, t, q⟩ := r.tk so
    rw [keysOf_rep so e q] at t
    exact ⟨a, rfl, t⟩

/-! ### subscripts -/
def atD (ds : List D) (i : Int) : Option D := match i with
  | .ofNat n => ds[n]?
  | .negSucc n => if n + 1 ≤ ds.length then ds[ds.length - (n + 1)]? else none
def rdIx : RD := fun x y Q => match x with
  | .lst ds => match y with
    | .int i => match atD ds i with
      | some d => Q d
      | none => False
    | _ => False
  | .tup ds => match y with
    | .int i => match atD ds i with
      | some d => Q d
      | none => False
    | _ => False
  | .tk ds => match y with
    | .int i => match atD ds i with
      | some d => Q d
      | none => False
    | _ => False
  | .dic ks ds => match keyOf y with
    | some k => match lk ks ds k with
      | some d => Q d
      | none => False
    | none => False
  | .dct ks ds => match keyT y with
    | some k => match lk ks ds k with
      | some d => Q d
      | none => False
    | none => False
  | _ => False
section
variable {X : Cx} {pp : Addr} {K : FK} {Hb H : Hp}
theorem atD_rep {ds : List D} {xs : List V} {i : Int} {d : D} (r : RepL pp K Hb ds xs) (e : atD ds i = some d) : ∃ v, atI xs i = some v ∧ Rep pp K Hb d v := by
  unfold atD at e
  split at e
  · rename_i n
    obtain ⟨v, h1, h2⟩ := r.get e
    exact ⟨v, atI_nat h1, h2⟩
  · rename_i n
    split at e
    · rename_i hle
      obtain ⟨v, h1, h2⟩ := r.get e
      refine ⟨v, ?_, h2⟩
      have hl := r.length
      unfold atI ixN
      rw [if_neg (by omega), if_pos (by omega)]
      have ez : ((Int.negSucc n + (xs.length : Int)).toNat) = ds.length - (n + 1) := by omega
      simp only [Option.bind_some, ez]
      exact h1
    · cases e
theorem ix_dict (hu : X.A.units + 1 < cLine) : IxR X (fun x y H Q => ∃ a v, x = .ref a ∧ DGet H a y (some v) ∧ Q v H) := by
  intro value slice pins s σ H x y v u Q I rx ry h hs
  obtain ⟨a, z, rfl, g, q⟩ := h
  cases rx
  exact tail_any (dict_typeIs I g) PySem.F.slot_dict_getitem.lookup (d_getItem hu I g ry fun w' s' I' rw' => ⟨z, H, I', rw', q⟩) hs
theorem ixd (hu : X.A.units + 1 < cLine) : IXD X rdIx := by
  refine ⟨_, ix_list.or (ix_tup.or (ix_dict hu)), fun pp Hb H x y dx dy Q QD so rx ry h k => ?_⟩
  cases dx <;> first | exact h.elim | skip
  · obtain ⟨a, xs, rfl, hb1, h1, r1⟩ := rx.tup so
    cases dy <;> first | exact h.elim | skip
    have ey := ry.int so
    simp only [rdIx] at h
    split at h
    · rename_i d e
      obtain ⟨v, h2, h3⟩ := atD_rep r1 e
      exact .inr (.inl ⟨a, xs, _, v, rfl, ey, h1, h2, k _ _ Hb H .refl so h3 h⟩)
    · exact h.elim
  · obtain ⟨a, xs, rfl, h1, r1⟩ := rx.lst so
    cases dy <;> first | exact h.elim | skip
    have ey := ry.int so
    simp only [rdIx] at h
    split at h
    · rename_i d e
      obtain ⟨v, h2, h3⟩ := atD_rep r1 e
      exact .inl ⟨a, xs, _, v, rfl, ey, .of h1, h2, k _ _ Hb H .refl so h3 h⟩
    · exact h.elim
  · obtain ⟨a, ws, rfl, h1, hk, r1⟩ := rx.dic so
    simp only [rdIx] at h
    split at h
    · rename_i kk ek
      have ey := keyOf_rep so ek ry
      split at h
      · rename_i d e
        subst hk
        obtain ⟨v, h2, h3⟩ := (lk_val r1).1 d e
        exact .inr (.inr ⟨a, v, rfl, .inl ⟨ws, kk, h1, ey, h2.symm⟩, k _ _ Hb H .refl so h3 h⟩)
      · exact h.elim
    · exact h.elim
  · obtain ⟨a, ws, rfl, h1, hk, r1⟩ := rx.dct so
    simp only [rdIx] at h
    split at h
    · rename_i kk ek
      obtain ⟨b, ey, hb⟩ := keyT_rep so ek ry
      split at h
      · rename_i d e
        subst hk
        obtain ⟨v, h2, h3⟩ := (lk_val r1).1 d e
        exact .inr (.inr ⟨a, v, rfl, .inr ⟨ws, kk, b, h1, ey, hb, h2.symm⟩, k _ _ Hb H .refl so h3 h⟩)
      · exact h.elim
    · exact h.elim
  · obtain ⟨a, xs, rfl, hb1, h1, r1⟩ := rx.tk so
    cases dy <;> first | exact h.elim | skip
    have ey := ry.int so
    simp only [rdIx] at h
    split at h
    · rename_i d e
      obtain ⟨v, h2, h3⟩ := atD_rep r1 e
      exact .inr (.inl ⟨a, xs, _, v, rfl, ey, .inl (.inl h1), h2, k _ _ Hb H .refl so h3 h⟩)
    · exact h.elim

/-! ### in, not in -/
theorem depthL_ok {xs : List D} (h : ∀ x ∈ xs, okD 59 x = true) : PyData.depthAll (pdL xs) ≤ 59 := (pdL_plain 59 xs h).2
theorem anyL (d : D) (hd : okD 59 d = true) : ∀ xs : List D, (∀ x ∈ xs, okD 59 x = true) → ((pdL xs).any fun y => PyData.eqv y (pd d)) = xs.any fun y => deq y d
  | [], _ => rfl
  | x :: xs, h => by
    simp only [pdL, List.any_cons]
    rw [pd_eqv _ _ _ _ (h x (by simp)) hd, anyL d hd xs fun z hz => h z (by simp [hz])]
theorem op_inD (hu : X.A.units + 64 < cLine) : OpR X (compareOp .In) (fun x y H Q => ∃ (d : PyData) (xs : List PyData), Dp X.K H x d ∧ (Dp X.K H y (.list xs) ∨ Dp X.K H y (.tuple xs)) ∧ d.plain = true ∧ PyData.plainAll xs = true ∧ d.depth ≤ 59 ∧ Q (.bl (xs.any fun z => PyData.eqv z d)) H) := by
  intro pins s σ H x y v u Q I rx ry h
  obtain ⟨d, xs, hd, he, sd, se, dd, q⟩ := h
  obtain ⟨as, r1⟩ := Dp.reads I d x v hd rx
  rcases he with he | he
  · obtain ⟨bs, r2⟩ := Dp.reads I _ y u he ry
    exact SeqAt.in_list_data r2 r1 se sd (by omega) ⟨.bl _, H, I, rfl, q⟩
  · obtain ⟨bs, r2⟩ := Dp.reads I _ y u he ry
    exact SeqAt.in_tuple_data r2 r1 se sd (by omega) ⟨.bl _, H, I, rfl, q⟩
theorem op_ninD (hu : X.A.units + 64 < cLine) : OpR X (compareOp .NotIn) (fun x y H Q => ∃ (d : PyData) (xs : List PyData), Dp X.K H x d ∧ (Dp X.K H y (.list xs) ∨ Dp X.K H y (.tuple xs)) ∧ d.plain = true ∧ PyData.plainAll xs = true ∧ d.depth ≤ 59 ∧ Q (.bl (!xs.any fun z => PyData.eqv z d)) H) := by
  intro pins s σ H x y v u Q I rx ry h
  obtain ⟨d, xs, hd, he, sd, se, dd, q⟩ := h
  obtain ⟨as, r1⟩ := Dp.reads I d x v hd rx
  rcases he with he | he
  · obtain ⟨bs, r2⟩ := Dp.reads I _ y u he ry
    exact SeqAt.notIn_list_data r2 r1 se sd (by omega) ⟨.bl _, H, I, rfl, q⟩
  · obtain ⟨bs, r2⟩ := Dp.reads I _ y u he ry
    exact SeqAt.notIn_tuple_data r2 r1 se sd (by omega) ⟨.bl _, H, I, rfl, q⟩
theorem op_dinR (hu : X.A.units + 1 < cLine) : OpR X (compareOp .In) (fun y x H Q => ∃ a o, x = .ref a ∧ DGet H a y o ∧ Q (.bl o.isSome) H) := by
  intro pins s σ H y x u v Q I ry rx h
  obtain ⟨a, o, rfl, g, q⟩ := h
  cases rx
  exact d_in hu I g ry fun s3 I3 => ⟨.bl o.isSome, H, I3, rfl, q⟩
theorem op_dninR (hu : X.A.units + 1 < cLine) : OpR X (compareOp .NotIn) (fun y x H Q => ∃ a o, x = .ref a ∧ DGet H a y o ∧ Q (.bl (!o.isSome)) H) := by
  intro pins s σ H y x u v Q I ry rx h
  obtain ⟨a, o, rfl, g, q⟩ := h
  cases rx
  exact d_notIn hu I g ry fun s3 I3 => ⟨.bl (!o.isSome), H, I3, rfl, q⟩
def rdIn : RD := fun x y Q => match y with
  | .lst ys => okD 59 x = true ∧ (∀ z ∈ ys, okD 59 z = true) ∧ Q (.bl (ys.any fun z => deq z x))
  | .tup ys => okD 59 x = true ∧ (∀ z ∈ ys, okD 59 z = true) ∧ Q (.bl (ys.any fun z => deq z x))
  | .dic ks ds => match keyOf x with
    | some k => Q (.bl (hasK ks k))
    | none => False
  | .dct ks ds => match keyT x with
    | some k => Q (.bl (hasK ks k))
    | none => False
  | _ => False
def rdNotIn : RD := fun x y Q => match y with
  | .lst ys => okD 59 x = true ∧ (∀ z ∈ ys, okD 59 z = true) ∧ Q (.bl (!ys.any fun z => deq z x))
  | .tup ys => okD 59 x = true ∧ (∀ z ∈ ys, okD 59 z = true) ∧ Q (.bl (!ys.any fun z => deq z x))
  | .dic ks ds => match keyOf x with
    | some k => Q (.bl (!hasK ks k))
    | none => False
  | .dct ks ds => match keyT x with
    | some k => Q (.bl (!hasK ks k))
    | none => False
  | _ => False
theorem val_mem {κ : Type} [DecidableEq κ] (ws : List (κ × V)) (k : κ) : (valV ws k).isSome = hasK (ws.map (·.1)) k := by
  rw [← valV_any k ws, Bool.eq_iff_iff, hasK_iff]
  simp [List.any_eq_true]
theorem od_in (hu : X.A.units + 64 < cLine) : OD X (compareOp .In) rdIn := by
  refine ⟨_, (op_inD hu).or (op_dinR (by omega)), fun pp Hb H x y dx dy Q QD so rx ry h k => ?_⟩
  cases dy <;> first | exact h.elim | skip
  · obtain ⟨h1, h2, h3⟩ := h
    have p1 := pd_plain _ _ h1
    have p2 := pdL_plain _ _ h2
    refine .inl ⟨pd dx, _, repT_dp so h1 rx, .inr (repT_dp (n := 60) (x := .tup _) so (by simpa [okD] using h2) ry), p1.1, p2.1, p1.2, ?_⟩
    rw [anyL _ h1 _ h2]
    exact k _ _ Hb H .refl so rep_bl h3
  · obtain ⟨h1, h2, h3⟩ := h
    have p1 := pd_plain _ _ h1
    have p2 := pdL_plain _ _ h2
    refine .inl ⟨pd dx, _, repT_dp so h1 rx, .inl (repT_dp (n := 60) (x := .lst _) so (by simpa [okD] using h2) ry), p1.1, p2.1, p1.2, ?_⟩
    rw [anyL _ h1 _ h2]
    exact k _ _ Hb H .refl so rep_bl h3
  · obtain ⟨a, ws, rfl, h1, hk, r1⟩ := ry.dic so
    simp only [rdIn] at h
    split at h
    · rename_i kk ek
      have ex := keyOf_rep so ek rx
      refine .inr ⟨a, _, rfl, .inl ⟨ws, kk, h1, ex, rfl⟩, ?_⟩
      rw [val_mem, hk]
      exact k _ _ Hb H .refl so rep_bl h
    · exact h.elim
  · obtain ⟨a, ws, rfl, h1, hk, r1⟩ := ry.dct so
    simp only [rdIn] at h
    split at h
    · rename_i kk ek
      obtain ⟨b, ex, hb⟩ := keyT_rep so ek rx
      refine .inr ⟨a, _, rfl, .inr ⟨ws, kk, b, h1, ex, hb, rfl⟩, ?_⟩
      rw [val_mem, hk]
      exact k _ _ Hb H .refl so rep_bl h
    · exact h.elim
theorem od_notIn (hu : X.A.units + 64 < cLine) : OD X (compareOp .NotIn) rdNotIn := by
  refine ⟨_, (op_ninD hu).or (op_dninR (by omega)), fun pp Hb H x y dx dy Q QD so rx ry h k => ?_⟩
  cases dy <;> first | exact h.elim | skip
  · obtain ⟨h1, h2, h3⟩ := h
    have p1 := pd_plain _ _ h1
    have p2 := pdL_plain _ _ h2
    refine .inl ⟨pd dx, _, repT_dp so h1 rx, .inr (repT_dp (n := 60) (x := .tup _) so (by simpa [okD] using h2) ry), p1.1, p2.1, p1.2, ?_⟩
    rw [anyL _ h1 _ h2]
    exact k _ _ Hb H .refl so rep_bl h3
  · obtain ⟨h1, h2, h3⟩ := h
    have p1 := pd_plain _ _ h1
    have p2 := pdL_plain _ _ h2
    refine .inl ⟨pd dx, _, repT_dp so h1 rx, .inl (repT_dp (n := 60) (x := .lst _) so (by simpa [okD] using h2) ry), p1.1, p2.1, p1.2, ?_⟩
    rw [anyL _ h1 _ h2]
    exact k _ _ Hb H .refl so rep_bl h3
  · obtain ⟨a, ws, rfl, h1, hk, r1⟩ := ry.dic so
    simp only [rdNotIn] at h
    split at h
    · rename_i kk ek
      have ex := keyOf_rep so ek rx
      refine .inr ⟨a, _, rfl, .inl ⟨ws, kk, h1, ex, rfl⟩, ?_⟩
      rw [val_mem, hk]
      exact k _ _ Hb H .refl so rep_bl h
    · exact h.elim
  · obtain ⟨a, ws, rfl, h1, hk, r1⟩ := ry.dct so
    simp only [rdNotIn] at h
    split at h
    · rename_i kk ek
      obtain ⟨b, ex, hb⟩ := keyT_rep so ek rx
      refine .inr ⟨a, _, rfl, .inr ⟨ws, kk, b, h1, ex, hb, rfl⟩, ?_⟩
      rw [val_mem, hk]
      exact k _ _ Hb H .refl so rep_bl h
    · exact h.elim

/-! ### is True, is False -/
def rdIs : RD := fun x y Q => match y with
  | .non => match x with
    | .non => Q (.bl true)
    | _ => Q (.bl false)
  | .bl b => match x with
    | .bl a => Q (.bl (a == b))
    | _ => Q (.bl false)
  | _ => False
def rdIsNot : RD := fun x y Q => match y with
  | .non => match x with
    | .non => Q (.bl false)
    | _ => Q (.bl true)
  | .bl b => match x with
    | .bl a => Q (.bl (!(a == b)))
    | _ => Q (.bl true)
  | _ => False
def boolD : D → Option Bool
  | .bl b => some b
  | _ => none
theorem repT_bool {d : D} {v : V} (so : SOk pp K Hb H) (r : RepT pp K Hb H d v) (b : Bool) : decide (v = V.bl b) = (boolD d == some b) := by
  cases d
  · rw [r.non so]; rfl
  · rename_i c; rw [r.bl so]; cases c <;> cases b <;> rfl
  · rw [r.int so]; rfl
  · rw [r.str so]; rfl
  · obtain ⟨a, xs, e, _⟩ := r.tup so; rw [e]; rfl
  · obtain ⟨a, xs, e, _⟩ := r.lst so; rw [e]; rfl
  · obtain ⟨a, xs, e, _⟩ := r.dic so; rw [e]; rfl
  · obtain ⟨a, xs, e, _⟩ := r.dct so; rw [e]; rfl
  · rcases r with r | ⟨p, e, o⟩
    · unfold Rep at r; rw [r]; rfl
    · exact o.top.elim
  · rw [r.ty so]; rfl
  · obtain ⟨a, xs, e, _⟩ := r.tk so; rw [e]; rfl
theorem bool_iff {x : V} {v : Value} (b : Bool) (r : RelV x v) : (v == Value.bool b) = decide (x = .bl b) ∧ plainIs v (.bool b) = true := by
  cases x with
  | non => cases r; exact ⟨rfl, rfl⟩
  | bl c => cases r; cases c <;> cases b <;> exact ⟨rfl, rfl⟩
  | int _ => obtain ⟨t, rfl⟩ := r; exact ⟨rfl, rfl⟩
  | str _ => obtain ⟨t, rfl⟩ := r; exact ⟨rfl, rfl⟩
  | byt _ => obtain ⟨t, rfl⟩ := r; exact ⟨rfl, rfl⟩
  | flt _ => obtain ⟨t, rfl⟩ := r; exact ⟨rfl, rfl⟩
  | ref _ => cases r; exact ⟨rfl, rfl⟩
  | ty _ => cases r; exact ⟨rfl, rfl⟩
theorem op_isB : OpR X (compareOp .Is) (fun x y H Q => ∃ b, y = .bl b ∧ Q (.bl (decide (x = .bl b))) H) := by
  intro pins s σ H x y v u Q I rx ry h
  obtain ⟨b, rfl, q⟩ := h
  cases ry
  obtain ⟨h1, h2⟩ := bool_iff b rx
  exact wpAny_is_plain h2 ⟨.bl _, H, I, by rw [h1]; rfl, q⟩
theorem op_isNotB : OpR X (compareOp .IsNot) (fun x y H Q => ∃ b, y = .bl b ∧ Q (.bl (!decide (x = .bl b))) H) := by
  intro pins s σ H x y v u Q I rx ry h
  obtain ⟨b, rfl, q⟩ := h
  cases ry
  obtain ⟨h1, h2⟩ := bool_iff b rx
  exact wpAny_isNot_plain h2 ⟨.bl _, H, I, by rw [h1]; rfl, q⟩
theorem od_is : OD X (compareOp .Is) rdIs := by
  refine ⟨_, op_isN.or op_isB, fun pp Hb H x y dx dy Q QD so rx ry h k => ?_⟩
  cases dy <;> first | exact h.elim | skip
  · refine .inl ⟨ry.non so, ?_⟩
    rw [repT_non so rx]
    cases dx <;> exact k _ _ Hb H .refl so rep_bl h
  · refine .inr ⟨_, ry.bl so, ?_⟩
    rw [repT_bool so rx]
    cases dx <;> exact k _ _ Hb H .refl so rep_bl h
theorem od_isNot : OD X (compareOp .IsNot) rdIsNot := by
  refine ⟨_, op_notN.or op_isNotB, fun pp Hb H x y dx dy Q QD so rx ry h k => ?_⟩
  cases dy <;> first | exact h.elim | skip
  · refine .inl ⟨ry.non so, ?_⟩
    rw [repT_non so rx]
    cases dx <;> exact k _ _ Hb H .refl so rep_bl h
  · refine .inr ⟨_, ry.bl so, ?_⟩
    rw [repT_bool so rx]
    cases dx <;> exact k _ _ Hb H .refl so rep_bl h
end
end DL

namespace DL
open PySem PySem.Spec PyProof.Rows L2

/-! ### calls of built-ins -/
section
variable {X : Cx} {pp : Addr} {K : FK} {Hb H : Hp}
theorem RepTL.one {d : D} {vs : List V} (r : RepTL pp K Hb H [d] vs) : ∃ v, vs = [v] ∧ RepT pp K Hb H d v := by
  obtain ⟨v, w, rfl, h, rfl⟩ := r
  exact ⟨v, rfl, h⟩
theorem RepTL.two {d e : D} {vs : List V} (r : RepTL pp K Hb H [d, e] vs) : ∃ v w, vs = [v, w] ∧ RepT pp K Hb H d v ∧ RepT pp K Hb H e w := by
  obtain ⟨v, w, rfl, h, v2, w2, rfl, h2, rfl⟩ := r
  exact ⟨v, v2, rfl, h, h2⟩
def rdLen : List D → (D → Prop) → Prop := fun ds Q => match ds with
  | [.lst xs] => Q (.int xs.length)
  | [.tup xs] => Q (.int xs.length)
  | [.tk xs] => Q (.int xs.length)
  | [.str x] => x.length ≤ sizeLine ∧ Q (.int x.length)
  | [.dic ks _] => Q (.int ks.length)
  | [.dct ks _] => Q (.int ks.length)
  | _ => False
theorem call_lenR : CallR X (.builtin "len") (fun xs H Q => ∃ a kvs, xs = [V.ref a] ∧ Rd H a (.dK kvs) ∧ Q (.int kvs.length) H) := by
  intro pins s σ H xs us Q I r h
  obtain ⟨a, kvs, rfl, ha, q⟩ := h
  obtain ⟨u, rfl, ru⟩ := vals1 r
  cases ru
  exact d_len I ha fun t s' I' => ⟨.int kvs.length, H, I', ⟨t, rfl⟩, q⟩
theorem call_lenT : CallR X (.builtin "len") (fun xs H Q => ∃ a kvs, xs = [V.ref a] ∧ Rd H a (.dT kvs) ∧ Q (.int kvs.length) H) := by
  intro pins s σ H xs us Q I r h
  obtain ⟨a, kvs, rfl, ha, q⟩ := h
  obtain ⟨u, rfl, ru⟩ := vals1 r
  cases ru
  obtain ⟨z, hd, ys, rel, dd⟩ := dt_rd I.hok ha
  have hl : kvs.length = ys.length := Paired.length rel
  refine call_len_dictH hd dd (by rw [← hl]; rw [sizeLine_eq] at z; omega) ?_
  rw [← hl]
  exact ⟨.int ((kvs.length : Nat) : Int), H, I.tok _, ⟨_, rfl⟩, q⟩
theorem cd_len : CD X (.builtin "len") rdLen := by
  refine ⟨_, call_len.or (call_lenR.or call_lenT), fun pp Hb H xs ds Q QD so r h k => ?_⟩
  unfold rdLen at h
  split at h
  · obtain ⟨v, rfl, y⟩ := r.one
    obtain ⟨a, ws, rfl, h1, r1⟩ := y.lst so
    exact .inl ⟨_, ws.length, rfl, .inl ⟨ws, .of h1, rfl⟩, k _ _ Hb H .refl so (by rw [r1.length]; exact rep_int) h⟩
  · obtain ⟨v, rfl, y⟩ := r.one
    obtain ⟨a, ws, rfl, _, h1, r1⟩ := y.tup so
    exact .inl ⟨_, ws.length, rfl, .inr ⟨ws, h1, rfl⟩, k _ _ Hb H .refl so (by rw [r1.length]; exact rep_int) h⟩
  · obtain ⟨v, rfl, y⟩ := r.one
    obtain ⟨a, ws, rfl, _, h1, r1⟩ := y.tk so
    exact .inl ⟨_, ws.length, rfl, .inr ⟨ws, .inl (.inl h1), rfl⟩, k _ _ Hb H .refl so (by rw [r1.length]; exact rep_int) h⟩
  · obtain ⟨v, rfl, y⟩ := r.one
    rw [y.str so]
    exact .inl ⟨_, _, rfl, ⟨h.1, rfl⟩, k _ _ Hb H .refl so rep_int h.2⟩
  · obtain ⟨v, rfl, y⟩ := r.one
    obtain ⟨a, ws, rfl, h1, hk, r1⟩ := y.dic so
    exact .inr (.inl ⟨a, ws, rfl, h1, k _ _ Hb H .refl so (by rw [← hk, List.length_map]; exact rep_int) h⟩)
  · obtain ⟨v, rfl, y⟩ := r.one
    obtain ⟨a, ws, rfl, h1, hk, r1⟩ := y.dct so
    exact .inr (.inr ⟨a, ws, rfl, h1, k _ _ Hb H .refl so (by rw [← hk, List.length_map]; exact rep_int) h⟩)
  · exact h.elim
def rdAbs : List D → (D → Prop) → Prop := fun ds Q => match ds with
  | [.int i] => Q (.int (if i < 0 then -i else i))
  | _ => False
theorem cd_abs : CD X (.builtin "abs") rdAbs := by
  refine ⟨_, call_abs, fun pp Hb H xs ds Q QD so r h k => ?_⟩
  unfold rdAbs at h
  split at h
  · obtain ⟨v, rfl, y⟩ := r.one
    exact ⟨_, by rw [y.int so], k _ _ Hb H .refl so rep_int h⟩
  · exact h.elim
def rdInt : List D → (D → Prop) → Prop := fun ds Q => match ds with
  | [.int i] => Q (.int i)
  | [.bl b] => Q (.int (if b then 1 else 0))
  | _ => False
theorem cd_int : CD X (.type "int") rdInt := by
  refine ⟨_, call_int1, fun pp Hb H xs ds Q QD so r h k => ?_⟩
  unfold rdInt at h
  split at h
  · obtain ⟨v, rfl, y⟩ := r.one
    exact .inl ⟨_, by rw [y.int so], k _ _ Hb H .refl so rep_int h⟩
  · obtain ⟨v, rfl, y⟩ := r.one
    exact .inr ⟨_, by rw [y.bl so], k _ _ Hb H .refl so rep_int h⟩
  · exact h.elim
def strOfInt (i : Int) : Str := Str.ofString (toString i)
def rdStr : List D → (D → Prop) → Prop := fun ds Q => match ds with
  | [.int i] => i.natAbs.log2 < 1920 ∧ Q (.str (strOfInt i))
  | _ => False
theorem cd_str : CD X (.type "str") rdStr := by
  refine ⟨_, call_str_int, fun pp Hb H xs ds Q QD so r h k => ?_⟩
  unfold rdStr at h
  split at h
  · obtain ⟨v, rfl, y⟩ := r.one
    exact ⟨_, by rw [y.int so], h.1, k _ _ Hb H .refl so rep_str h.2⟩
  · exact h.elim
def rdGcd : List D → (D → Prop) → Prop := fun ds Q => match ds with
  | [.int a, .int b] => Q (.int ((Nat.gcd a.natAbs b.natAbs : Nat) : Int))
  | _ => False
theorem cd_gcd : CD X (.builtin "math.gcd") rdGcd := by
  refine ⟨_, cr_gcd, fun pp Hb H xs ds Q QD so r h k => ?_⟩
  unfold rdGcd at h
  split at h
  · obtain ⟨v, w, rfl, r1, r2⟩ := r.two
    exact ⟨_, _, by rw [r1.int so, r2.int so], k _ _ Hb H .refl so rep_int h⟩
  · exact h.elim
def rdMax2 : List D → (D → Prop) → Prop := fun ds Q => match ds with
  | [.int a, .int b] => Q (.int (if b > a then b else a))
  | _ => False
def rdMin2 : List D → (D → Prop) → Prop := fun ds Q => match ds with
  | [.int a, .int b] => Q (.int (if b < a then b else a))
  | _ => False
theorem cd_max2 (hc : X.calm = true) : CD X (.builtin "max") rdMax2 := by
  refine ⟨_, call_max2 hc, fun pp Hb H xs ds Q QD so r h k => ?_⟩
  unfold rdMax2 at h
  split at h
  · obtain ⟨v, w, rfl, r1, r2⟩ := r.two
    exact ⟨_, _, by rw [r1.int so, r2.int so], k _ _ Hb H .refl so rep_int h⟩
  · exact h.elim
theorem cd_min2 (hc : X.calm = true) : CD X (.builtin "min") rdMin2 := by
  refine ⟨_, call_min2 hc, fun pp Hb H xs ds Q QD so r h k => ?_⟩
  unfold rdMin2 at h
  split at h
  · obtain ⟨v, w, rfl, r1, r2⟩ := r.two
    exact ⟨_, _, by rw [r1.int so, r2.int so], k _ _ Hb H .refl so rep_int h⟩
  · exact h.elim
/-- a list of bools -/
def bls : List D → Option (List Bool)
  | [] => some []
  | .bl b :: r => (bls r).map (b :: ·)
  | _ => none
theorem bls_rep : ∀ {ds : List D} {bs : List Bool} {xs : List V}, bls ds = some bs → RepL pp K Hb ds xs → xs = bs.map V.bl
  | [], bs, xs, e, r => by
    simp [bls] at e; subst e; exact r.unnil
  | d :: ds, bs, xs, e, r => by
    cases d <;> simp [bls] at e
    obtain ⟨b', h1, rfl⟩ := e
    obtain ⟨v, w, rfl, h2, h3⟩ := r.uncons
    unfold Rep at h2
    rw [h2, bls_rep h1 h3]
    rfl
theorem bls_map (bs : List Bool) : bls (bs.map D.bl) = some bs := by
  induction bs with
  | nil => rfl
  | cons b bs ih => simp [bls, ih]
def rdAll : List D → (D → Prop) → Prop := fun ds Q => match ds with
  | [.lst xs] => match bls xs with
    | some bs => Q (.bl (bs.all id))
    | none => False
  | _ => False
def rdAny : List D → (D → Prop) → Prop := fun ds Q => match ds with
  | [.lst xs] => match bls xs with
    | some bs => Q (.bl (bs.any id))
    | none => False
  | _ => False
theorem cd_all (hc : X.calm = true) : CD X (.builtin "all") rdAll := by
  refine ⟨_, cr_all hc, fun pp Hb H xs ds Q QD so r h k => ?_⟩
  unfold rdAll at h
  split at h
  · split at h
    · rename_i bs e
      obtain ⟨v, rfl, y⟩ := r.one
      obtain ⟨a, ws, rfl, h1, r1⟩ := y.lst so
      rw [bls_rep e r1] at h1
      exact ⟨a, bs, rfl, .of h1, k _ _ Hb H .refl so rep_bl h⟩
    · exact h.elim
  · exact h.elim
theorem cd_any (hc : X.calm = true) : CD X (.builtin "any") rdAny := by
  refine ⟨_, cr_any hc, fun pp Hb H xs ds Q QD so r h k => ?_⟩
  unfold rdAny at h
  split at h
  · split at h
    · rename_i bs e
      obtain ⟨v, rfl, y⟩ := r.one
      obtain ⟨a, ws, rfl, h1, r1⟩ := y.lst so
      rw [bls_rep e r1] at h1
      exact ⟨a, bs, rfl, .of h1, k _ _ Hb H .refl so rep_bl h⟩
    · exact h.elim
  · exact h.elim
/-- a list of intsD -/
def intsD : List D → Option (List Int)
  | [] => some []
  | .int b :: r => (intsD r).map (b :: ·)
  | _ => none
theorem intsD_rep : ∀ {ds : List D} {bs : List Int} {xs : List V}, intsD ds = some bs → RepL pp K Hb ds xs → xs = bs.map V.int
  | [], bs, xs, e, r => by
    simp [intsD] at e; subst e; exact r.unnil
  | d :: ds, bs, xs, e, r => by
    cases d <;> simp [intsD] at e
    obtain ⟨b', h1, rfl⟩ := e
    obtain ⟨v, w, rfl, h2, h3⟩ := r.uncons
    unfold Rep at h2
    rw [h2, intsD_rep h1 h3]
    rfl
theorem intsD_map (bs : List Int) : intsD (bs.map D.int) = some bs := by
  induction bs with
  | nil => rfl
  | cons b bs ih => simp [intsD, ih]
theorem rep_ints : ∀ (bs : List Int), RepL pp K Hb (bs.map D.int) (bs.map V.int)
  | [] => .nil
  | b :: bs => .cons rep_int (rep_ints bs)
theorem rep_strs : ∀ (bs : List Str), RepL pp K Hb (bs.map D.str) (bs.map V.str)
  | [] => .nil
  | b :: bs => .cons rep_str (rep_strs bs)
def rdSum : List D → (D → Prop) → Prop := fun ds Q => match ds with
  | [.lst xs] => match intsD xs with
    | some bs => Q (.int bs.sum)
    | none => False
  | _ => False
theorem cd_sum (hc : X.calm = true) : CD X (.builtin "sum") rdSum := by
  refine ⟨_, cr_sum hc, fun pp Hb H xs ds Q QD so r h k => ?_⟩
  unfold rdSum at h
  split at h
  · split at h
    · rename_i bs e
      obtain ⟨v, rfl, y⟩ := r.one
      obtain ⟨a, ws, rfl, h1, r1⟩ := y.lst so
      rw [intsD_rep e r1] at h1
      exact ⟨a, bs, rfl, .of h1, k _ _ Hb H .refl so rep_int h⟩
    · exact h.elim
  · exact h.elim
/-- isinstance -/
def isD (d : D) (n : String) : Option Bool := match d with
  | .non => if n = "int" ∨ n = "bool" ∨ n = "str" ∨ n = "tuple" ∨ n = "list" ∨ n = "dict" then some false else none
  | .bl _ => if n = "int" ∨ n = "bool" then some true else if n = "str" ∨ n = "tuple" ∨ n = "list" ∨ n = "dict" then some false else none
  | .int _ => if n = "int" then some true else if n = "bool" ∨ n = "str" ∨ n = "tuple" ∨ n = "list" ∨ n = "dict" then some false else none
  | .str _ => if n = "str" then some true else if n = "int" ∨ n = "bool" ∨ n = "tuple" ∨ n = "list" ∨ n = "dict" then some false else none
  | .tup _ => if n = "tuple" then some true else if n = "int" ∨ n = "bool" ∨ n = "str" ∨ n = "list" ∨ n = "dict" then some false else none
  | .lst _ => if n = "list" then some true else if n = "int" ∨ n = "bool" ∨ n = "str" ∨ n = "tuple" ∨ n = "dict" then some false else none
  | .tk _ => if n = "tuple" then some true else if n = "int" ∨ n = "bool" ∨ n = "str" ∨ n = "list" ∨ n = "dict" then some false else none
  | .dct _ _ => if n = "dict" then some true else if n = "int" ∨ n = "bool" ∨ n = "str" ∨ n = "tuple" ∨ n = "list" then some false else none
  | .dic _ _ => if n = "dict" then some true else if n = "int" ∨ n = "bool" ∨ n = "str" ∨ n = "tuple" ∨ n = "list" then some false else none
  | _ => none
def tyD : D → String
  | .non => "NoneType"
  | .bl _ => "bool"
  | .int _ => "int"
  | .str _ => "str"
  | .tup _ => "tuple"
  | .tk _ => "tuple"
  | .lst _ => "list"
  | .dic _ _ => "dict"
  | .dct _ _ => "dict"
  | _ => "?"
theorem isD_kit (d : D) (n : String) (b : Bool) (h : isD d n = some b) : kitB (tyD d) n = some b := by
  cases d <;> simp only [isD] at h <;> (try (cases h; done)) <;> simp only [tyD] <;>
  · repeat' (split at h)
    all_goals first
      | (cases h; done)
      | (cases h; rename_i q; rcases q with rfl | rfl | rfl | rfl | rfl | rfl <;> decide +kernel)
      | (cases h; rename_i q; rcases q with rfl | rfl | rfl | rfl | rfl <;> decide +kernel)
      | (cases h; rename_i q; rcases q with rfl | rfl | rfl | rfl <;> decide +kernel)
      | (cases h; rename_i q; rcases q with rfl | rfl <;> decide +kernel)
      | (cases h; rename_i q; subst q; decide +kernel)
/-- a walked dict of tuple keys -/
def FrT (H : Hp) (d : D) (v : V) : Prop := ∃ (ks : Unit) (a : Addr) (o : Obj) (ws : List (List Key × V)), v = .ref a ∧ H a = some (.frz o (.dT ws)) ∧ tyD d = "dict"
theorem tyX_of {d : D} {v : V} {n : String} {b : Bool} (so : SOk pp K Hb H) (r : RepT pp K Hb H d v) (h : isD d n = some b) : TyX K H v (.type (tyD d)) ∨ FrT H d v := by
  by_cases hd : ∃ ks xs, d = .dct ks xs
  · obtain ⟨ks, xs, rfl⟩ := hd
    obtain ⟨a, ws, e, h1, _⟩ := r.dct so
    rw [e]
    rcases h1 with h1 | ⟨o, h1⟩
    · exact .inl (.base (.dT h1))
    · exact .inr ⟨(), a, o, ws, rfl, h1, rfl⟩
  refine .inl ?_
  cases d
  · rw [r.non so]; exact .base .non
  · rw [r.bl so]; exact .base (.bl _)
  · rw [r.int so]; exact .base (.int _)
  · rw [r.str so]; exact .base (.str _)
  · obtain ⟨a, xs, e, _, h1, _⟩ := r.tup so
    rw [e]
    rcases h1 with (h1 | ⟨o, h1⟩) | ⟨o, its, m, h1, h2, _⟩
    · exact .base (.tup h1)
    · exact .fTuple h1
    · exact .kTuple h1 h2
  · obtain ⟨a, xs, e, h1, _⟩ := r.lst so
    rw [e]; exact .base (.lst h1)
  · obtain ⟨a, xs, e, h1, _⟩ := r.dic so
    rw [e]
    rcases h1 with h1 | ⟨o, h1⟩
    · exact .base (.dK h1)
    · exact .fDict h1
  · exact absurd ⟨_, _, rfl⟩ hd
  · simp [isD] at h
  · simp [isD] at h
  · obtain ⟨a, xs, e, _, h1, _⟩ := r.tk so
    rw [e]
    exact .base (.tup h1)
def rdIsi : List D → (D → Prop) → Prop := fun ds Q => match ds with
  | [d, .ty n] => match isD d n with
    | some b => Q (.bl b)
    | none => False
  | _ => False
theorem call_isiF : CallR X (.builtin "isinstance") (fun xs H Q => ∃ (a : Addr) (o : Obj) (ws : List (List Key × V)) (n : String) (b : Bool), xs = [.ref a, .ty n] ∧ H a = some (.frz o (.dT ws)) ∧ PySem.W.kitOne X.K (.type "dict") (.type n) = some b ∧ Q (.bl b) H) := by
  intro pins s σ H xs us Q I r h
  obtain ⟨a, ob, ws, n, b, rfl, ea, e, q⟩ := h
  obtain ⟨u1, u2, rfl, r1, r2⟩ := vals2 r
  have e2 := (ClsV.ty n).eq r2
  subst e2
  cases (show u1 = Value.ref a from r1)
  obtain ⟨_, _, _, xs, _, o, es, ep, h1, h2, _⟩ := (show ObjOk X.prog X.w H s.heap a (.frz ob (.dT ws)) from I.hok a _ ea)
  exact PySem.W.kia_one PySem.W.kitx_dict I.kIn ⟨o, h1, h2.1⟩ e (fun z => nomatch z) fun tk => ⟨.bl b, H, I.tok tk, rfl, q⟩
theorem cd_isi : CD X (.builtin "isinstance") rdIsi := by
  refine ⟨_, call_isi.or call_isiF, fun pp Hb H xs ds Q QD so r h k => ?_⟩
  unfold rdIsi at h
  split at h
  · split at h
    · rename_i b e
      obtain ⟨v, w, rfl, r1, r2⟩ := r.two
      rw [r2.ty so]
      rcases tyX_of so r1 e with t | ⟨_, a, o, ws, rfl, hf, ty⟩
      · exact .inl ⟨v, _, _, _, b, rfl, .ty _, t, kit_ty (isD_kit _ _ _ e), k _ _ Hb H .refl so rep_bl h⟩
      · have kk := isD_kit _ _ _ e
        rw [ty] at kk
        exact .inr ⟨a, o, ws, _, b, rfl, hf, kit_ty kk, k _ _ Hb H .refl so rep_bl h⟩
    · exact h.elim
  · exact h.elim
/-- list(x) -/
def rdList : List D → (D → Prop) → Prop := fun ds Q => match ds with
  | [.lst xs] => Q (.lst xs)
  | [.tup xs] => Q (.lst xs)
  | [.tk xs] => Q (.lst xs)
  | _ => False
theorem cdf_list : CDF X (.type "list") rdList := by
  refine ⟨_, call_list_of, fun pp Hb H xs ds Q QD so r h k => ?_⟩
  unfold rdList at h
  split at h
  · obtain ⟨v, rfl, y⟩ := r.one
    obtain ⟨a, ws, rfl, h1, r1⟩ := y.lst so
    refine ⟨a, ws, rfl, .inl (.of h1), fun l hl => ?_⟩
    obtain ⟨s2, so2⟩ := lay_own (u := .lst ws) so hl
    exact k _ (.lst _) _ _ s2 so2 hl ⟨so.nb hl, so.ne hl, ⟨ws, upd_same, r1⟩⟩ h
  · obtain ⟨v, rfl, y⟩ := r.one
    obtain ⟨a, ws, rfl, _, h1, r1⟩ := y.tup so
    refine ⟨a, ws, rfl, .inr h1, fun l hl => ?_⟩
    obtain ⟨s2, so2⟩ := lay_own (u := .lst ws) so hl
    exact k _ (.lst _) _ _ s2 so2 hl ⟨so.nb hl, so.ne hl, ⟨ws, upd_same, r1⟩⟩ h
  · obtain ⟨v, rfl, y⟩ := r.one
    obtain ⟨a, ws, rfl, _, h1, r1⟩ := y.tk so
    refine ⟨a, ws, rfl, .inr (.inl (.inl h1)), fun l hl => ?_⟩
    obtain ⟨s2, so2⟩ := lay_own (u := .lst ws) so hl
    exact k _ (.lst _) _ _ s2 so2 hl ⟨so.nb hl, so.ne hl, ⟨ws, upd_same, r1⟩⟩ h
  · exact h.elim
def rdTuple : List D → (D → Prop) → Prop := fun ds Q => match ds with
  | [.lst xs] => Q (.tup xs)
  | [.tup xs] => Q (.tup xs)
  | _ => False
theorem cd_tuple : CD X (.type "tuple") rdTuple := by
  refine ⟨_, call_tuple_of, fun pp Hb H xs ds Q QD so r h k => ?_⟩
  unfold rdTuple at h
  split at h
  · obtain ⟨v, rfl, y⟩ := r.one
    obtain ⟨a, ws, rfl, h1, r1⟩ := y.lst so
    refine ⟨a, ws, rfl, .inl ⟨.of h1, fun l hl => ?_⟩⟩
    obtain ⟨s2, so2⟩ := lay_sh (u := .tup ws) so hl
    exact k _ _ _ _ s2 so2 (rep_tup (.inl upd_same) (r1.le s2.le)) h
  · obtain ⟨v, rfl, y⟩ := r.one
    obtain ⟨a, ws, rfl, h0, h1, r1⟩ := y.tup so
    exact ⟨a, ws, rfl, .inr ⟨h1, k _ _ Hb H .refl so (rep_tup h0 r1) h⟩⟩
  · exact h.elim
/-- tuple(xs), a new one: it can be a key -/
def rdTupleK : List D → (D → Prop) → Prop := fun ds Q => match ds with
  | [.lst xs] => Q (.tk xs)
  | [.tk xs] => Q (.tk xs)
  | _ => False
theorem cd_tupleK : CD X (.type "tuple") rdTupleK := by
  refine ⟨_, call_tuple_of, fun pp Hb H xs ds Q QD so r h k => ?_⟩
  unfold rdTupleK at h
  split at h
  · obtain ⟨v, rfl, y⟩ := r.one
    obtain ⟨a, ws, rfl, h1, r1⟩ := y.lst so
    refine ⟨a, ws, rfl, .inl ⟨.of h1, fun l hl => ?_⟩⟩
    obtain ⟨s2, so2⟩ := lay_sh (u := .tup ws) so hl
    exact k _ _ _ _ s2 so2 (rep_tk upd_same (r1.le s2.le)) h
  · obtain ⟨v, rfl, y⟩ := r.one
    obtain ⟨a, ws, rfl, h0, h1, r1⟩ := y.tk so
    exact ⟨a, ws, rfl, .inr ⟨.inl (.inl h1), k _ _ Hb H .refl so (rep_tk h0 r1) h⟩⟩
  · exact h.elim
/-- pairs (key, value) -/
def kyD : D → Option Key
  | .int i => some (.inl i)
  | .str x => some (.inr x)
  | _ => none
def prD : List D → Option (List (Key × D))
  | [] => some []
  | .tup [k, d] :: r => match kyD k, prD r with
    | some k, some l => some ((k, d) :: l)
    | _, _ => none
  | _ => none
/-- dict(d) -/
def rdDict : List D → (D → Prop) → Prop := fun ds Q => match ds with
  | [.dic ks xs] => Q (.dic ks xs)
  | [.lst xs] => match prD xs with
    | some l => (l.map (·.1)).Nodup ∧ Q (.dic (l.map (·.1)) (l.map (·.2)))
    | none => False
  | _ => False
theorem call_dictC : CallR X (.type "dict") (fun xs H Q => ∃ a kvs, xs = [V.ref a] ∧ Rd H a (.dK kvs) ∧ ∀ p, H p = none → Q (.ref p) (upd H p (.dK kvs))) := by
  intro pins s σ H xs us Q I r h
  obtain ⟨a, kvs, rfl, ha, q⟩ := h
  obtain ⟨u, rfl, ru⟩ := vals1 r
  cases ru
  exact d_copyOf I ha fun p s' hp I' => ⟨.ref p, _, I', rfl, q p hp⟩
theorem kyD_rep {pp : Addr} {K : FK} {H : Hp} {d : D} {v : V} {k : Key} (r : Rep pp K H d v) (h : kyD d = some k) : v = kV k := by
  cases d <;> simp [kyD] at h <;> subst h <;> unfold Rep at r <;> exact r
theorem prD_rep {pp : Addr} {K : FK} {Hb H : Hp} (so : SOk pp K Hb H) : ∀ {xs : List D} {ws : List V} {l : List (Key × D)}, RepL pp K Hb xs ws → prD xs = some l → ∃ (ps : List Addr) (kvs : List (Key × V)), ws = ps.map V.ref ∧ Paired (fun p kv => SqT K H p [kV kv.1, kv.2]) ps kvs ∧ kvs.map (·.1) = l.map (·.1) ∧ RepL pp K Hb (l.map (·.2)) (kvs.map (·.2))
  | [], ws, l, r, h => by
    cases h
    rw [r.unnil]
    exact ⟨[], [], rfl, .nil, rfl, .nil⟩
  | d :: xs, ws, l, r, h => by
    unfold prD at h
    split at h
    · rename_i heq; cases heq
    · rename_i k e r' heq
      cases heq
      split at h
      · rename_i k' l' e1 e2
        cases h
        obtain ⟨v, w, rfl, r1, r2⟩ := r.uncons
        obtain ⟨ps, kvs, rfl, h2, h3, h4⟩ := prD_rep so r2 e2
        unfold Rep at r1
        obtain ⟨a, ys, rfl, s, q⟩ := r1
        obtain ⟨y, ys', rfl, q1, q2⟩ := q.uncons
        obtain ⟨z, zs, rfl, q3, q4⟩ := q2.uncons
        rw [q4.unnil] at s
        have ey := kyD_rep q1 e1
        subst ey
        exact ⟨a :: ps, (k', z) :: kvs, rfl, .cons (so.hle.sqT s.sqT) h2, by rw [List.map_cons, List.map_cons, h3], .cons q3 h4⟩
      · cases h
    · cases h
theorem mergeK_new : ∀ (more kvs : List (Key × V)), ((kvs ++ more).map (·.1)).Nodup → mergeK kvs more = kvs ++ more
  | [], kvs, _ => by simp [mergeK]
  | p :: more, kvs, h => by
    have e : putK kvs p.1 p.2 = kvs ++ [p] := by
      unfold putK
      rw [if_neg (fun z => ?_)]
      obtain ⟨q, hq, e⟩ := List.any_eq_true.mp z
      have e := of_decide_eq_true e
      rw [List.map_append, List.nodup_append] at h
      exact h.2.2 q.1 (List.mem_map.mpr ⟨q, hq, rfl⟩) p.1 (by simp) e
    show mergeK (putK kvs p.1 p.2) more = _
    rw [e, mergeK_new more (kvs ++ [p]) (by simpa using h)]
    simp
theorem cdf_dict (hc : X.calm = true) : CDF X (.type "dict") rdDict := by
  refine ⟨_, CallR.or call_dictC (call_dictP hc), fun pp Hb H xs ds Q QD so r h k => ?_⟩
  unfold rdDict at h
  split at h
  · obtain ⟨v, rfl, y⟩ := r.one
    obtain ⟨a, ws, rfl, h1, hk, r1⟩ := y.dic so
    refine .inl ⟨a, ws, rfl, h1, fun l hl => ?_⟩
    obtain ⟨s2, so2⟩ := lay_own (u := .dK ws) so hl
    exact k _ (.dic _ _) _ _ s2 so2 hl ⟨so.nb hl, so.ne hl, ⟨ws, upd_same, hk, r1⟩⟩ h
  · split at h
    · rename_i xs l e
      obtain ⟨v, rfl, y⟩ := r.one
      obtain ⟨a, ws, rfl, h1, r1⟩ := y.lst so
      obtain ⟨ps, kvs, rfl, h2, h3, h4⟩ := prD_rep so r1 e
      refine .inr ⟨a, ps, kvs, rfl, .of h1, h2, fun l hl => ?_⟩
      rw [mergeK_new kvs [] (by rw [List.nil_append, h3]; exact h.1), List.nil_append]
      obtain ⟨s2, so2⟩ := lay_own (u := .dK kvs) so hl
      exact k _ (.dic _ _) _ _ s2 so2 hl ⟨so.nb hl, so.ne hl, ⟨kvs, upd_same, h3, h4⟩⟩ h.2
    · exact h.elim
  · exact h.elim
end
end DL

namespace DL
open PySem PySem.Spec PyProof.Rows L2

/-! ### statements -/
def dNext : DS := fun DD E => DD.nx E
def dSeq (p q : DS) : DS := fun DD E => p { DD with nx := q DD } E
def dBreak : DS := fun DD E => DD.bk E
def dCont : DS := fun DD E => DD.ct E
def dRet (p : DX) : DS := fun DD E => p E DD.rt
def dRetN : DS := fun DD _ => DD.rt .non
def dIfS (c : DT) (p q : DS) : DS := fun DD E => c E fun b => if b = true then p DD E else q DD E
def dAsg (i : Nat) (p : DX) : DS := fun DD E => p E fun d => DD.nx (E.set i (.sh d))
def dOwn (i : Nat) (p : DX) : DS := fun DD E => p E fun d => DD.nx (E.set i (.ow d))
def dDrop (p : DX) : DS := fun DD E => p E fun _ => DD.nx E
/-- the slot's object joins the base -/
def dFz (i : Nat) (p : DS) : DS := fun DD E => match E[i]? with
  | some (.ow d) => p DD (E.set i (.sh d))
  | _ => p DD E
abbrev DG := D → List Sl → (List Sl → Prop) → Prop
def QG (X : Cx) (tg : Expr) (g : DG) : Prop := ∃ t, PG X tg t ∧ ∀ (pp : Addr) (HE Hb H : Hp) (σ : L2.St) (E : List Sl) (v : V) (d : D) (Q : L2.St → Hp → Prop) (QD : List Sl → Prop), SOk pp X.K Hb H → ER pp X.K HE Hb H σ E → Rep pp X.K Hb d v → g d E QD →
  (∀ σ' E', ER pp X.K HE Hb H σ' E' → QD E' → Q σ' H) → t v σ H Q
def QGs (X : Cx) (tgs : List Expr) (g : List D → List Sl → (List Sl → Prop) → Prop) : Prop := ∃ t, PGs X tgs t ∧ ∀ (pp : Addr) (HE Hb H : Hp) (σ : L2.St) (E : List Sl) (vs : List V) (ds : List D) (Q : L2.St → Hp → Prop) (QD : List Sl → Prop), SOk pp X.K Hb H → ER pp X.K HE Hb H σ E → RepL pp X.K Hb ds vs → g ds E QD →
  (∀ σ' E', ER pp X.K HE Hb H σ' E' → QD E' → Q σ' H) → t vs σ H Q
def gN (i : Nat) : DG := fun d E Q => Q (E.set i (.sh d))
def gsNil : List D → List Sl → (List Sl → Prop) → Prop := fun ds E Q => match ds with
  | [] => Q E
  | _ => False
def gsCons (g : DG) (r : List D → List Sl → (List Sl → Prop) → Prop) : List D → List Sl → (List Sl → Prop) → Prop := fun ds E Q => match ds with
  | d :: ds => g d E fun E' => r ds E' Q
  | [] => False
def gT (n : Nat) (g : List D → List Sl → (List Sl → Prop) → Prop) : DG := fun d E Q => match d with
  | .tup ds => ds.length = n ∧ g ds E Q
  | .lst ds => ds.length = n ∧ g ds E Q
  | .tk ds => ds.length = n ∧ g ds E Q
  | _ => False
def dAsgT (p : DX) (g : DG) : DS := fun DD E => p E fun d => g d E DD.nx
/-- a, b = x, y -/
def dPar (i j : Nat) (p : DAs) : DS := fun DD E => p E fun ds => match ds with
  | [a, b] => DD.nx ((E.set i (.sh a)).set j (.sh b))
  | _ => False
abbrev DI := List Sl → (List D → Prop) → Prop
def forL (g : DG) (b : DS) (DD : DEnds) : List D → List Sl → Prop
  | [], E => DD.nx E
  | d :: r, E => g d E fun E' => b { DD with nx := forL g b DD r, ct := forL g b DD r, bk := DD.nx } E'
def dFor (p : DI) (g : DG) (b : DS) : DS := fun DD E => p E fun items => forL g b DD items E
def dWhile (c : DT) (b : DS) : DS := fun DD E => ∃ W : Nat → List Sl → Prop, (∃ m, W m E) ∧ ∀ m E, W m E → c E fun k => if k = true then b { DD with nx := fun E' => ∃ m', m' < m ∧ W m' E', ct := fun E' => ∃ m', m' < m ∧ W m' E', bk := DD.nx } E else DD.nx E

section
variable {pp : Addr} {X : Cx} {HbE HE Hb H Hb' H' Hb0 H0 : Hp}
theorem Step.cut (a : Step pp HbE HE Hb0 H0) (b : Step pp Hb0 HE Hb H) : Step pp HbE HE Hb H :=
  ⟨a.sb.trans b.sb, b.ex, b.st, fun c h n => b.nw c (a.nw c h n) n⟩
theorem Step.here (a : Step pp HbE HE Hb H) : Step pp Hb HE Hb H := ⟨Same.refl _, a.ex, a.st, fun _ h _ => h⟩
theorem EndsOk.cut {Dn : Ends} {DD : DEnds} (a : Step pp HbE HE Hb0 H0) (o : EndsOk pp X HbE HE Dn DD) : EndsOk pp X Hb0 HE Dn DD :=
  ⟨fun Hb H σ E s => o.nx Hb H σ E (a.cut s), fun Hb H v d s => o.rt Hb H v d (a.cut s), fun Hb H σ E s => o.bk Hb H σ E (a.cut s), fun Hb H σ E s => o.ct Hb H σ E (a.cut s), fun Hb H p d s => o.rf Hb H p d (a.cut s), fun Hb H σ E x c d s => o.ex Hb H σ E x c d (a.cut s)⟩
end

section
variable {X : Cx} {st : Stmt} {sts : List Stmt} {a b e tg : Expr} {es tgs : List Expr} {p q : DS} {pe pf : DX} {c : DT} {pas : DAs} {g : DG} {gs : List D → List Sl → (List Sl → Prop) → Prop} {pos : Pos}
theorem ss_nil : QSs X [] dNext := ⟨_, pss_nil, fun pp HbE HE Hb H σ E Dn DD s so er h o => o.nx Hb H σ E s so er h⟩
theorem ss_cons (h : QS X st p) (g : QSs X sts q) : QSs X (st :: sts) (dSeq p q) := by
  obtain ⟨t, h1, h2⟩ := h
  obtain ⟨u, g1, g2⟩ := g
  refine ⟨_, pss_cons h1 g1, fun pp HbE HE Hb H σ E Dn DD s so er h o => ?_⟩
  exact h2 pp HbE HE Hb H σ E _ _ s so er h ⟨fun Hb H σ E s so er h => g2 pp HbE HE Hb H σ E _ _ s so er h o, o.rt, o.bk, o.ct, o.rf, o.ex⟩
theorem ss_one (h : QS X st p) : QSs X [st] p := by
  obtain ⟨t, h1, h2⟩ := h
  exact ⟨t, pss_one h1, h2⟩
theorem s_pass : QS X (.Pass pos) dNext := ⟨_, ps_pass, fun pp HbE HE Hb H σ E Dn DD s so er h o => o.nx Hb H σ E s so er h⟩
theorem s_break : QS X (.Break pos) dBreak := ⟨_, ps_break, fun pp HbE HE Hb H σ E Dn DD s so er h o => o.bk Hb H σ E s so er h⟩
theorem s_continue : QS X (.Continue pos) dCont := ⟨_, ps_continue, fun pp HbE HE Hb H σ E Dn DD s so er h o => o.ct Hb H σ E s so er h⟩
theorem s_ret (h : QE X e pe) : QS X (.Return (some e) pos) (dRet pe) := by
  obtain ⟨t, h1, h2⟩ := h
  refine ⟨_, ps_ret h1, fun pp HbE HE Hb H σ E Dn DD s so er h o => ?_⟩
  exact h2 pp HE Hb H σ E _ _ so er h fun v d Hb1 H1 s1 so1 r1 q1 => o.rt Hb1 H1 v d (s.trans s1) so1 r1 q1
/-- a new object is given -/
def dRetF (p : DX) : DS := fun DD E => p E DD.rf
theorem s_retF (h : QF X e pe) : QS X (.Return (some e) pos) (dRetF pe) := by
  obtain ⟨t, h1, h2⟩ := h
  refine ⟨_, ps_ret h1, fun pp HbE HE Hb H σ E Dn DD s so er h o => ?_⟩
  refine h2 pp HE Hb H σ E _ _ so er h fun p d Hb1 H1 s1 so1 hn o1 q1 => ?_
  have hE : HE p = none := by
    cases z : HE p with
    | none => rfl
    | some u => exact absurd hn (s.st p (by rw [z]; exact fun y => nomatch y))
  exact o.rf Hb1 H1 p d (s.trans s1) so1 hE o1 q1
/-- an own object is given -/
def dRetO (i : Nat) : DS := fun DD E => match E[i]? with
  | some (.ow d) => DD.rf d
  | _ => False
theorem s_retO (i : Nat) {x : Str} {xp : Pos} (hN : X.N[i]? = some x := by rfl) (hvis : Vis X.env.scope x := by first | exact Or.inl rfl | exact Or.inr (Or.inl rfl) | exact Or.inr (Or.inr rfl)) (hd : (x == ("__debug__" : Str)) = false := by decide)
    (hcd : (x == ("__classdict__" : Str)) = false := by decide) : QS X (.Return (some (.Name x xp)) pos) (dRetO i) := by
  refine ⟨_, ps_ret (L2.pv i hN hvis hd hcd), fun pp HbE HE Hb H σ E Dn DD s so er h o => ?_⟩
  unfold dRetO at h
  split at h
  · rename_i d e
    obtain ⟨p, h1, h2, h3⟩ := er.ow i d e
    exact ⟨_, h1, o.rf Hb H p d s so h2 h3 h⟩
  · exact h.elim
theorem s_retN : QS X (.Return none pos) dRetN := ⟨_, ps_retN, fun pp HbE HE Hb H σ E Dn DD s so er h o => o.rt Hb H _ _ s so rep_non h⟩
theorem s_if (hc : QT X e c) (h : QSs X sts p) {sts' : List Stmt} (g : QSs X sts' q) : QS X (.If e sts sts' pos) (dIfS c p q) := by
  obtain ⟨tc, c1, c2⟩ := hc
  obtain ⟨t, h1, h2⟩ := h
  obtain ⟨u, g1, g2⟩ := g
  refine ⟨_, ps_if c1 h1 g1, fun pp HbE HE Hb H σ E Dn DD s so er h o => ?_⟩
  refine c2 pp HE Hb H σ E _ _ so er h fun k Hb1 H1 s1 so1 q1 => ?_
  cases k with
  | true =>
    rw [if_pos rfl] at q1 ⊢
    exact h2 pp HbE HE Hb1 H1 σ E _ _ (s.trans s1) so1 (er.step s1) q1 o
  | false =>
    rw [if_neg Bool.false_ne_true] at q1 ⊢
    exact g2 pp HbE HE Hb1 H1 σ E _ _ (s.trans s1) so1 (er.step s1) q1 o
theorem s_expr (h : QE X e pe) (hs : swapsWith e none pos.line X.env = pure false := by rfl) : QS X (.Expr e pos) (dDrop pe) := by
  obtain ⟨t, h1, h2⟩ := h
  refine ⟨_, ps_expr h1 hs, fun pp HbE HE Hb H σ E Dn DD s so er h o => ?_⟩
  exact h2 pp HE Hb H σ E _ _ so er h fun v d Hb1 H1 s1 so1 r1 q1 => o.nx Hb1 H1 σ E (s.trans s1) so1 (er.step s1) q1
theorem s_set {i : Nat} {x : Str} {pos' : Pos} (hN : X.N.Nodup) (h : QE X e pe) (hi : X.N[i]? = some x := by rfl) (hx : Loc X.env.scope x := by first | exact Or.inl rfl | exact Or.inr rfl) (hs : swapsWith e (some (.Name x pos')) pos.line X.env = pure false := by rfl)
    (hf : X.fn x = true ∨ X.env.scope.names.lookup x = some .local := by first | exact .inl rfl | exact .inr rfl | assumption) : QS X (.Assign [.Name x pos'] e pos) (dAsg i pe) := by
  obtain ⟨t, h1, h2⟩ := h
  refine ⟨_, ps_set hN hi hx h1 hs hf, fun pp HbE HE Hb H σ E Dn DD s so er h o => ?_⟩
  refine h2 pp HE Hb H σ E _ _ so er h fun v d Hb1 H1 s1 so1 r1 q1 => ?_
  exact o.nx Hb1 H1 _ _ (s.trans s1) so1 ((er.step s1).set_sh i r1) q1
theorem s_own {i : Nat} {x : Str} {pos' : Pos} (hN : X.N.Nodup) (h : QF X e pe) (hi : X.N[i]? = some x := by rfl) (hx : Loc X.env.scope x := by first | exact Or.inl rfl | exact Or.inr rfl) (hs : swapsWith e (some (.Name x pos')) pos.line X.env = pure false := by rfl)
    (hf : X.fn x = true ∨ X.env.scope.names.lookup x = some .local := by first | exact .inl rfl | exact .inr rfl | assumption) : QS X (.Assign [.Name x pos'] e pos) (dOwn i pe) := by
  obtain ⟨t, h1, h2⟩ := h
  refine ⟨_, ps_set hN hi hx h1 hs hf, fun pp HbE HE Hb H σ E Dn DD s so er h o => ?_⟩
  refine h2 pp HE Hb H σ E _ _ so er h fun p d Hb1 H1 s1 so1 hn o1 q1 => ?_
  have hE : HE p = none := by
    cases z : HE p with
    | none => rfl
    | some u => exact absurd hn (s.st p (by rw [z]; exact fun y => nomatch y))
  refine o.nx Hb1 H1 _ _ (s.trans s1) so1 ((er.step s1).set_ow i hE o1 fun j d' e1 e2 => ?_) q1
  obtain ⟨p', h3, h4, h5⟩ := er.ow j d' e1
  rw [h3] at e2
  cases e2
  exact Top.isSm h5.top hn
theorem fz_ok {pp : Addr} {K : FK} {HbE HE Hb H : Hp} {σ : L2.St} {E : List Sl} {i : Nat} {d : D} (s : Step pp HbE HE Hb H) (so : SOk pp K Hb H) (er : ER pp K HE Hb H σ E) (e : E[i]? = some (.ow d)) :
    ∃ Hb', Step pp HbE HE Hb' H ∧ SOk pp K Hb' H ∧ ER pp K HE Hb' H σ (E.set i (.sh d)) := by
  obtain ⟨p, h1, h2, h3⟩ := er.ow i d e
  obtain ⟨Hb', g1, g2, g3, g4⟩ := share so h3
  have hl : i < E.length := (List.getElem?_eq_some_iff.mp e).1
  refine ⟨Hb', ⟨s.sb.trans g1, s.ex, s.st, fun b hb hh => ?_⟩, g3, ⟨by rw [List.length_set]; exact er.len, fun j d' ej => ?_, fun j d' ej => ?_, fun j k p' d1 d2 hne e1 e2 => ?_, fun j b dd x ej => ?_⟩⟩
  · by_cases z : b = p
    · subst z; exact absurd h2 hh
    · rw [g2 b z]; exact s.nw b hb hh
  · rcases get_set ej with ⟨rfl, _, z⟩ | ⟨hj, ej⟩
    · cases z
      exact ⟨_, h1, g4⟩
    · obtain ⟨v, k1, k2⟩ := er.sh j d' ej
      exact ⟨v, k1, k2.le (.of_same g1)⟩
  · rcases get_set ej with ⟨rfl, _, z⟩ | ⟨hj, ej⟩
    · cases z
    · obtain ⟨p', k1, k2, k3⟩ := er.ow j d' ej
      have hne : p' ≠ p := fun z => by
        subst z
        exact er.ds i j p' d d' (Ne.symm hj) e ej h1 k1
      exact ⟨p', k1, k2, ⟨by rw [g2 p' hne]; exact k3.nb, k3.ne, Top.step (.of_same g1) (fun o h => h) k3.top⟩⟩
  · rcases get_set e1 with ⟨_, _, z⟩ | ⟨hj, e1⟩
    · cases z
    rcases get_set e2 with ⟨_, _, z⟩ | ⟨hk, e2⟩
    · cases z
    exact er.ds j k p' d1 d2 hne e1 e2
  · rcases get_set ej with ⟨_, _, z⟩ | ⟨hj, ej⟩
    · cases z
    · obtain ⟨z1, vs, z2, z3, z4⟩ := er.xs j b dd x ej
      exact ⟨z1, vs, z2, z3, z4.le (.of_same g1)⟩
theorem s_fz (i : Nat) (h : QS X st p) : QS X st (dFz i p) := by
  obtain ⟨t, h1, h2⟩ := h
  refine ⟨t, h1, fun pp HbE HE Hb H σ E Dn DD s so er h o => ?_⟩
  unfold dFz at h
  split at h
  · rename_i d e
    obtain ⟨Hb', g1, g2, g3⟩ := fz_ok s so er e
    exact h2 pp HbE HE Hb' H σ _ _ _ g1 g2 g3 h o
  · exact h2 pp HbE HE Hb H σ _ _ _ s so er h o
theorem ss_fz (i : Nat) (h : QSs X sts p) : QSs X sts (dFz i p) := by
  obtain ⟨t, h1, h2⟩ := h
  refine ⟨t, h1, fun pp HbE HE Hb H σ E Dn DD s so er h o => ?_⟩
  unfold dFz at h
  split at h
  · rename_i d e
    obtain ⟨Hb', g1, g2, g3⟩ := fz_ok s so er e
    exact h2 pp HbE HE Hb' H σ _ _ _ g1 g2 g3 h o
  · exact h2 pp HbE HE Hb H σ _ _ _ s so er h o

/-! ### targets -/
theorem g_name {i : Nat} {x : Str} {pos : Pos} (hN : X.N.Nodup) (hi : X.N[i]? = some x := by rfl) (hx : Loc X.env.scope x := by first | exact Or.inl rfl | exact Or.inr rfl) (hf : X.fn x = true ∨ X.env.scope.names.lookup x = some .local := by first | exact .inl rfl | exact .inr rfl | assumption) : QG X (.Name x pos) (gN i) :=
  ⟨_, pg_name hN hi hx hf, fun pp HE Hb H σ E v d Q QD so er r h k => k _ _ (er.set_sh i r) h⟩
theorem gs_nil : QGs X [] gsNil := by
  refine ⟨_, pgs_nil, fun pp HE Hb H σ E vs ds Q QD so er r h k => ?_⟩
  unfold gsNil at h
  split at h
  · exact ⟨r.unnil, k _ _ er h⟩
  · exact h.elim
theorem gs_cons (h : QG X tg g) (r : QGs X tgs gs) (hs : (assignEach (tg :: tgs) X.env).map (·.2) = assign tg X.env :: (assignEach tgs X.env).map (·.2) := by rfl) : QGs X (tg :: tgs) (gsCons g gs) := by
  obtain ⟨t, h1, h2⟩ := h
  obtain ⟨u, g1, g2⟩ := r
  refine ⟨_, pgs_cons h1 g1 hs, fun pp HE Hb H σ E vs ds Q QD so er r h k => ?_⟩
  unfold gsCons at h
  split at h
  · obtain ⟨v, w, rfl, r1, r2⟩ := r.uncons
    refine ⟨v, w, rfl, h2 pp HE Hb H σ E _ _ _ _ so er r1 h fun σ' E' er' h' => ?_⟩
    exact g2 pp HE Hb H σ' E' _ _ _ _ so er' r2 h' k
  · exact h.elim
theorem PG.or {t u : TG} (h : PG X tg t) (h' : PG X tg u) : PG X tg (fun v σ H Q => t v σ H Q ∨ u v σ H Q) := by
  refine ⟨fun pins s σ H v u Q I r h => ?_⟩
  rcases h with h | h
  · exact PG.run ‹PG X tg t› pins s σ H v u Q I r h
  · exact h'.run pins s σ H v u Q I r h
theorem g_tup {n k : Nat} (hc : X.calm = true) (h : QGs X tgs gs) (hn : (assignEach tgs X.env).length = n := by rfl) (hst : (assignEach tgs X.env).findIdx? (·.1) = none := by rfl) : QG X (.Tuple tgs k pos) (gT n gs) := by
  obtain ⟨t, h1, h2⟩ := h
  refine ⟨_, PG.or (pg_tup hc h1 hn hst) (pg_unl hc h1 hn hst), fun pp HE Hb H σ E v d Q QD so er r h k => ?_⟩
  unfold gT at h
  split at h
  · unfold Rep at r
    obtain ⟨a, xs, rfl, s, q⟩ := r
    exact .inl ⟨a, xs, rfl, so.hle.sqT s.sqT, by rw [q.length]; exact h.1, h2 pp HE Hb H σ E _ _ _ _ so er q h.2 k⟩
  · unfold Rep at r
    obtain ⟨a, xs, rfl, s, q⟩ := r
    exact .inr ⟨a, xs, rfl, .of (so.le _ _ s), by rw [q.length]; exact h.1, h2 pp HE Hb H σ E _ _ _ _ so er q h.2 k⟩
  · unfold Rep at r
    obtain ⟨a, xs, rfl, s, q⟩ := r
    exact .inl ⟨a, xs, rfl, .inl (.inl (so.le _ _ s)), by rw [q.length]; exact h.1, h2 pp HE Hb H σ E _ _ _ _ so er q h.2 k⟩
  · exact h.elim
theorem s_asgT (he : QE X e pe) (hg : QG X tg g) (hs : swapsWithSole [tg] e pos.line X.env = pure false := by rfl) (hw : swappedStores [tg] e X.env = pure none := by rfl)
    (h1 : (assignEach [tg] X.env).map (·.2) = [assign tg X.env] := by rfl) : QS X (.Assign [tg] e pos) (dAsgT pe g) := by
  obtain ⟨t, t1, t2⟩ := he
  obtain ⟨u, u1, u2⟩ := hg
  refine ⟨_, ps_asg t1 u1 hs hw h1, fun pp HbE HE Hb H σ E Dn DD s so er h o => ?_⟩
  refine t2 pp HE Hb H σ E _ _ so er h fun v d Hb1 H1 s1 so1 r1 q1 => ?_
  exact u2 pp HE Hb1 H1 σ E _ _ _ _ so1 (er.step s1) r1 q1 fun σ' E' er' q' => o.nx Hb1 H1 σ' E' (s.trans s1) so1 er' q'
theorem s_par {i j : Nat} {x y : Str} {px py pt : Pos} {kt k2 pt2} (hc : X.calm = true) (hN : X.N.Nodup) (ha : QA X [a, b] pas) (hi : X.N[i]? = some x := by rfl) (hj : X.N[j]? = some y := by rfl) (hij : i ≠ j := by decide)
    (hx : X.env.scope.names.lookup x = some .local := by rfl) (hy : X.env.scope.names.lookup y = some .local := by rfl)
    (hw : swappedStores [.Tuple [.Name x px, .Name y py] kt pt] (.Tuple [a, b] k2 pt2) X.env = pure (some [x, y]) := by rfl)
    (hs : swapsWithSole [.Tuple [.Name x px, .Name y py] kt pt] (.Tuple [a, b] k2 pt2) pos.line X.env = pure false := by rfl) :
    QS X (.Assign [.Tuple [.Name x px, .Name y py] kt pt] (.Tuple [a, b] k2 pt2) pos) (dPar i j pas) := by
  obtain ⟨t, t1, t2⟩ := ha
  refine ⟨_, ps_par hc hN hi hj hij hx hy t1 hw hs, fun pp HbE HE Hb H σ E Dn DD s so er h o => ?_⟩
  refine t2 pp HE Hb H σ E _ _ so er h fun vs ds Hb1 H1 s1 so1 r1 l1 q1 => ?_
  split at q1
  · obtain ⟨v, w, rfl, r2, r3⟩ := r1.uncons
    obtain ⟨v', w', rfl, r4, r5⟩ := r3.uncons
    rw [r5.unnil]
    exact ⟨v, v', rfl, o.nx Hb1 H1 _ _ (s.trans s1) so1 (((er.step s1).set_sh i r2).set_sh j r4) q1⟩
  · exact q1.elim

/-! ### loops -/
def WalkJ (pp : Addr) (K : FK) (Hb0 : Hp) (J : It) (items : List D) : Prop := ∀ Hb1 H1, Same Hb0 Hb1 → SOk pp K Hb1 H1 → ∀ i, (∀ d, items[i]? = some d → J.go i H1 ∧ ∀ x H2, J.yld i H1 x H2 → ∃ Hb2, Step pp Hb1 H1 Hb2 H2 ∧ SOk pp K Hb2 H2 ∧ Rep pp K Hb2 d x) ∧ (i = items.length → J.stop i H1)
def QI (X : Cx) (tg e : Expr) (p : DI) : Prop := ∃ wi, PI X tg e wi ∧ ∀ (pp : Addr) (HE Hb H : Hp) (σ : L2.St) (E : List Sl) (R : It → Hp → Prop) (QD : List D → Prop), SOk pp X.K Hb H → ER pp X.K HE Hb H σ E → p E QD →
  (∀ J items Hb' H', Step pp Hb H Hb' H' → SOk pp X.K Hb' H' → WalkJ pp X.K Hb' J items → QD items → R J H') → wi σ H R
theorem s_for {pi : DI} {iter : Expr} (hp : PassesOwn (model X.prog X.w) X.A X.env X.xe) (hc : X.calm = true) (hi : QI X tg iter pi) (hg : QG X tg g) (hb : QSs X sts p)
    (hs : ∀ x, foldedSetIterable iter X.env x = pure x := by intro _; rfl) : QS X (.For tg iter sts [] pos) (dFor pi g p) := by
  obtain ⟨wi, i1, i2⟩ := hi
  obtain ⟨tg', g1, g2⟩ := hg
  obtain ⟨tb, b1, b2⟩ := hb
  refine ⟨_, ps_for hp hc i1 g1 b1 hs, fun pp HbE HE Hb H σ E Dn DD s so er h o => ?_⟩
  refine i2 pp HE Hb H σ E _ _ so er h fun J items Hb0 H0 s0 so0 wk q0 => ?_
  have sE := s.trans s0
  have oc := o.cut sE
  refine ⟨fun i m σ H => m = items.length - i ∧ i ≤ items.length ∧ ∃ Hb E, Step pp Hb0 HE Hb H ∧ SOk pp X.K Hb H ∧ ER pp X.K HE Hb H σ E ∧ forL g p DD (items.drop i) E, ⟨items.length, rfl, Nat.zero_le _, Hb0, E, sE.here, so0, er.step s0, by simpa using q0⟩, ?_⟩
  rintro i m σ1 H1 ⟨rfl, hi, Hb1, E1, s1, so1, er1, f1⟩
  have w1 := wk Hb1 H1 s1.sb so1 i
  by_cases hlt : i < items.length
  · have ed : items[i]? = some items[i] := by simp [hlt]
    obtain ⟨go, yl⟩ := w1.1 _ ed
    rw [List.drop_eq_getElem_cons hlt] at f1
    refine .inr ⟨go, fun σ' H' => (items.length - (i + 1)) = items.length - (i + 1) ∧ i + 1 ≤ items.length ∧ ∃ Hb E, Step pp Hb0 HE Hb H' ∧ SOk pp X.K Hb H' ∧ ER pp X.K HE Hb H' σ' E ∧ forL g p DD (items.drop (i + 1)) E, fun σ' H' w => ⟨items.length - (i + 1), by omega, w⟩, fun x H2 y => ?_⟩
    obtain ⟨Hb2, s2, so2, r2⟩ := yl x H2 y
    refine g2 pp HE Hb2 H2 σ1 E1 _ _ _ _ so2 (er1.step s2) r2 f1 fun σ' E' er' q' => ?_
    exact b2 pp Hb0 HE Hb2 H2 σ' E' _ _ (s1.trans s2) so2 er' q' ⟨fun Hb H σ E s so er h => ⟨rfl, hlt, Hb, E, s, so, er, h⟩, oc.rt, oc.nx, fun Hb H σ E s so er h => ⟨rfl, hlt, Hb, E, s, so, er, h⟩, oc.rf, oc.ex⟩
  · have e : i = items.length := by omega
    subst e
    refine .inl ⟨w1.2 rfl, ?_⟩
    rw [List.drop_length] at f1
    exact oc.nx Hb1 H1 σ1 E1 s1 so1 er1 f1
theorem s_while (hp : PassesOwn (model X.prog X.w) X.A X.env X.xe) (hc : QT X e c) (hb : QSs X sts p) : QS X (.While e sts [] pos) (dWhile c p) := by
  obtain ⟨tc, c1, c2⟩ := hc
  obtain ⟨tb, b1, b2⟩ := hb
  refine ⟨_, ps_while hp c1 b1, fun pp HbE HE Hb H σ E Dn DD s so er h o => ?_⟩
  obtain ⟨W, ⟨m0, w0⟩, turn⟩ := h
  have oc := o.cut s
  refine ⟨fun m σ H' => ∃ Hb' E, Step pp Hb HE Hb' H' ∧ SOk pp X.K Hb' H' ∧ ER pp X.K HE Hb' H' σ E ∧ W m E, ⟨m0, Hb, E, s.here, so, er, w0⟩, ?_⟩
  rintro m σ1 H1 ⟨Hb1, E1, s1, so1, er1, w1⟩
  refine c2 pp HE Hb1 H1 σ1 E1 _ _ so1 er1 (turn m E1 w1) fun k Hb2 H2 s2 so2 q2 => ?_
  cases k with
  | true =>
    rw [if_pos rfl] at q2 ⊢
    refine ⟨fun σ' H' => ∃ m', m' < m ∧ ∃ Hb' E, Step pp Hb HE Hb' H' ∧ SOk pp X.K Hb' H' ∧ ER pp X.K HE Hb' H' σ' E ∧ W m' E, fun σ' H' h => h, ?_⟩
    exact b2 pp Hb HE Hb2 H2 σ1 E1 _ _ (s1.trans s2) so2 (er1.step s2) q2 ⟨fun Hb H σ E s so er ⟨m', l, h⟩ => ⟨m', l, Hb, E, s, so, er, h⟩, oc.rt, oc.nx, fun Hb H σ E s so er ⟨m', l, h⟩ => ⟨m', l, Hb, E, s, so, er, h⟩, oc.rf, oc.ex⟩
  | false =>
    rw [if_neg Bool.false_ne_true] at q2 ⊢
    exact oc.nx Hb2 H2 σ1 E1 (s1.trans s2) so2 (er1.step s2) q2

/-! ### what is walked -/
def dIter (pe : DX) : DI := fun E Q => pe E fun d => match d with
  | .lst ds => Q ds
  | .tup ds => Q ds
  | .tk ds => Q ds
  | _ => False
theorem walk_list {pp : Addr} {K : FK} {Hb : Hp} {a : Addr} {xs : List V} {ds : List D} (h : Hb a = some (.lst xs)) (r : RepL pp K Hb ds xs) : WalkJ pp K Hb (Itl K a) ds := by
  intro Hb1 H1 sm so i
  have h1 : SqL K H1 a xs := .of (so.le _ _ (sm _ _ h))
  refine ⟨fun d ed => ?_, fun e => ⟨xs, h1, by rw [e, r.length]; exact Nat.le_refl _⟩⟩
  obtain ⟨v, ev, rv⟩ := r.get ed
  refine ⟨⟨xs, v, h1, ev⟩, fun x H2 y => ?_⟩
  obtain ⟨e2, y⟩ := y
  subst e2
  have ex := y xs h1
  rw [ev] at ex
  cases ex
  exact ⟨Hb1, .refl, so, rv.le (.of_same sm)⟩
theorem walk_tup {pp : Addr} {K : FK} {Hb : Hp} {a : Addr} {xs : List V} {ds : List D} (h : SqT K Hb a xs) (r : RepL pp K Hb ds xs) : WalkJ pp K Hb (Itt K a) ds := by
  intro Hb1 H1 sm so i
  have h1 : SqT K H1 a xs := so.hle.sqT ((Le.of_same sm).sqT h)
  refine ⟨fun d ed => ?_, fun e => ⟨xs, h1, by rw [e, r.length]; exact Nat.le_refl _⟩⟩
  obtain ⟨v, ev, rv⟩ := r.get ed
  refine ⟨⟨xs, v, h1, ev⟩, fun x H2 y => ?_⟩
  obtain ⟨e2, y⟩ := y
  subst e2
  have ex := y xs h1
  rw [ev] at ex
  cases ex
  exact ⟨Hb1, .refl, so, rv.le (.of_same sm)⟩
def iSeq (K : FK) (tl : TE) : TI := fun σ H R => tl σ H fun x H1 => ∃ a, x = .ref a ∧ (((∃ xs, SqL K H1 a xs) ∧ R (Itl K a) H1) ∨ ((∃ xs, SqT K H1 a xs) ∧ R (Itt K a) H1))
theorem pi_seq {l : Expr} {tl : TE} (hl : PE X l tl) : PI X tg l (iSeq X.K tl) := by
  refine ⟨fun pins s σ H R I h => ?_⟩
  refine thn (hl.run pins s σ H _ I h) fun v s1 ⟨x, H1, I1, r1, q1⟩ => ?_
  obtain ⟨a, e, q⟩ := q1
  subst e
  cases r1
  rcases q with ⟨⟨xs, hq⟩, q⟩ | ⟨⟨xs, hq⟩, q⟩
  · obtain ⟨its, rv, p, hz⟩ := I1.list hq
    refine wpAny_pyIter_list p.isList ?_
    refine ⟨s1.heap.objs.size, [s1.heap.objs.size], _, _, H1, rfl, I1.kept (t' := s1.toks) fun b o e => Heap.get?_push_of_some _ e, turn_list a _, ⟨_, Heap.get?_push_size _ rfl, rfl, rfl⟩, fun b hb => ?_, q⟩
    obtain rfl : b = s1.heap.objs.size := by simpa using hb
    exact I1.fpOk (Nat.le_refl _) (I1.hok.fresh (Nat.le_refl _))
  · obtain ⟨its, rv, p, hz⟩ := I1.tuple hq
    refine wpAny_pyIter_tuple (show s1.heap.IsTuple a its.toArray from p) ?_
    refine ⟨s1.heap.objs.size, [s1.heap.objs.size], _, _, H1, rfl, I1.kept (t' := s1.toks) fun b o e => Heap.get?_push_of_some _ e, turn_tuple a _, ⟨_, Heap.get?_push_size _ rfl, rfl, rfl⟩, fun b hb => ?_, q⟩
    obtain rfl : b = s1.heap.objs.size := by simpa using hb
    exact I1.fpOk (Nat.le_refl _) (I1.hok.fresh (Nat.le_refl _))
theorem i_seq (h : QE X e pe) : QI X tg e (dIter pe) := by
  obtain ⟨t, h1, h2⟩ := h
  refine ⟨_, pi_seq h1, fun pp HE Hb H σ E R QD so er hp k => ?_⟩
  refine h2 pp HE Hb H σ E _ _ so er hp fun v d Hb1 H1 s1 so1 r1 q1 => ?_
  split at q1
  · unfold Rep at r1
    obtain ⟨a, xs, rfl, s, q⟩ := r1
    exact ⟨a, rfl, .inl ⟨⟨xs, .of (so1.le _ _ s)⟩, k _ _ Hb1 H1 s1 so1 (walk_list s q) q1⟩⟩
  · unfold Rep at r1
    obtain ⟨a, xs, rfl, s, q⟩ := r1
    exact ⟨a, rfl, .inr ⟨⟨xs, so1.hle.sqT s.sqT⟩, k _ _ Hb1 H1 s1 so1 (walk_tup s.sqT q) q1⟩⟩
  · unfold Rep at r1
    obtain ⟨a, xs, rfl, s, q⟩ := r1
    exact ⟨a, rfl, .inr ⟨⟨xs, .inl (.inl (so1.le _ _ s))⟩, k _ _ Hb1 H1 s1 so1 (walk_tup (.inl (.inl s)) q) q1⟩⟩
  · exact q1.elim
/-- lo, lo + 1, .. (n of them) -/
def rangeD (lo : Int) (n : Nat) : List D := (List.range n).map fun i => .int (lo + (i : Nat))
theorem walk_range {pp : Addr} {K : FK} {Hb : Hp} (lo : Int) (n : Nat) : WalkJ pp K Hb (Itr lo n) (rangeD lo n) := by
  intro Hb1 H1 sm so i
  have hl : (rangeD lo n).length = n := by simp [rangeD]
  refine ⟨fun d ed => ?_, fun e => by rw [e, hl]; exact Nat.le_refl _⟩
  have hi : i < n := by rw [← hl]; exact (List.getElem?_eq_some_iff.mp ed).1
  refine ⟨hi, fun x H2 y => ?_⟩
  obtain ⟨e2, rfl⟩ := y
  subst e2
  have e3 : d = .int (lo + (i : Nat)) := by
    simp [rangeD, hi] at ed
    exact ed.symm
  subst e3
  exact ⟨Hb1, .refl, so, rep_int⟩
def RngB (i : Int) : Prop := -(2 ^ 62) ≤ i ∧ i < 2 ^ 62
def dRng (p : DAs) : DI := fun E Q => p E fun ds => match ds with
  | [.int j] => RngB j ∧ Q (rangeD 0 j.toNat)
  | [.int i, .int j] => RngB i ∧ RngB j ∧ Q (rangeD i (j - i).toNat)
  | _ => False
theorem i_range1 {p pos : Pos} (hg : Gl X "range") (hm : X.mg "range" = none) (ha : QA X [a] pas) (hs : starEach [a] X.env = [(false, eval a X.env)] := by rfl) : QI X tg (.Call (.Name "range" p) [a] [] pos) (dRng pas) := by
  obtain ⟨t, h1, h2⟩ := ha
  refine ⟨_, pi_range1 hg hm h1 hs, fun pp HE Hb H σ E R QD so er hp k => ?_⟩
  refine h2 pp HE Hb H σ E _ _ so er hp fun vs ds Hb1 H1 s1 so1 r1 l1 q1 => ?_
  split at q1
  · obtain ⟨v, w, rfl, r2, r3⟩ := r1.uncons
    rw [r3.unnil]
    unfold Rep at r2
    exact ⟨_, by rw [r2], q1.1.1, q1.1.2, k _ _ Hb1 H1 s1 so1 (walk_range 0 _) q1.2⟩
  · simp at l1
  · exact q1.elim
theorem i_range2 {p pos : Pos} (hg : Gl X "range") (hm : X.mg "range" = none) (ha : QA X [a, b] pas) (hs : starEach [a, b] X.env = [(false, eval a X.env), (false, eval b X.env)] := by rfl) (hs2 : starEach [b] X.env = [(false, eval b X.env)] := by rfl) : QI X tg (.Call (.Name "range" p) [a, b] [] pos) (dRng pas) := by
  obtain ⟨t, h1, h2⟩ := ha
  refine ⟨_, pi_range2 hg hm h1 hs hs2, fun pp HE Hb H σ E R QD so er hp k => ?_⟩
  refine h2 pp HE Hb H σ E _ _ so er hp fun vs ds Hb1 H1 s1 so1 r1 l1 q1 => ?_
  split at q1
  · simp at l1
  · obtain ⟨v, w, rfl, r2, r3⟩ := r1.uncons
    obtain ⟨v', w', rfl, r4, r5⟩ := r3.uncons
    rw [r5.unnil]
    unfold Rep at r2 r4
    exact ⟨_, _, by rw [r2, r4], ⟨q1.1.1, q1.1.2, q1.2.1.1, q1.2.1.2⟩, k _ _ Hb1 H1 s1 so1 (walk_range _ _) q1.2.2⟩
  · exact q1.elim
end

/-! ### a def's promise from its body -/
def startD (N : List Str) (ds : List D) : List Sl := ds.map .sh ++ List.replicate (N.length - ds.length) .no
theorem er_start {pp : Addr} {K : FK} {HE Hb H : Hp} {N : List Str} {ds : List D} {vs : List V} (r : RepL pp K Hb ds vs) : ER pp K HE Hb H (L2.start N vs) (startD N ds) := by
  have hl := r.length
  have notOw : ∀ (i : Nat) d, (startD N ds)[i]? = some (.ow d) → False := fun i d e => by
    unfold startD at e
    by_cases h : i < (ds.map Sl.sh).length
    · rw [List.getElem?_append_left h, List.getElem?_map] at e
      cases q : ds[i]? <;> rw [q] at e <;> simp at e
    · rw [List.getElem?_append_right (by omega), List.getElem?_replicate] at e
      split at e <;> simp at e
  have notXs : ∀ (i : Nat) b dd x, (startD N ds)[i]? = some (.xs b dd x) → False := fun i b dd x e => by
    unfold startD at e
    by_cases h : i < (ds.map Sl.sh).length
    · rw [List.getElem?_append_left h, List.getElem?_map] at e
      cases q : ds[i]? <;> rw [q] at e <;> simp at e
    · rw [List.getElem?_append_right (by omega), List.getElem?_replicate] at e
      split at e <;> simp at e
  refine ⟨by simp [L2.start, startD, hl], fun i d e => ?_, fun i d e => (notOw i d e).elim, fun i j p d d' _ e _ _ => (notOw i d e).elim, fun i b dd x e => (notXs i b dd x e).elim⟩
  unfold startD at e
  by_cases h : i < (ds.map Sl.sh).length
  · rw [List.getElem?_append_left h, List.getElem?_map] at e
    cases q : ds[i]? with
    | none => rw [q] at e; simp at e
    | some d' =>
      rw [q] at e
      simp at e
      subst e
      obtain ⟨v, h1, h2⟩ := r.get q
      refine ⟨v, ?_, h2⟩
      unfold L2.start
      rw [List.getElem?_append_left (by simp at h ⊢; omega), List.getElem?_map, h1]
      rfl
  · rw [List.getElem?_append_right (by omega), List.getElem?_replicate] at e
    split at e <;> simp at e
abbrev fnEnds (Q : D → Prop) : DEnds := ⟨fun _ => Q .non, Q, fun _ => False, fun _ => False, fun _ => False, fun _ _ => False⟩
/-- the ends of a def that gives a new object -/
abbrev fnEndsF (Q : D → Prop) : DEnds := ⟨fun _ => False, fun _ => False, fun _ => False, fun _ => False, Q, fun _ _ => False⟩
section
variable {P : Program} {w : World} {K : FK} {mg : Str → Option Value} {base : Heap}
theorem fnD {x qual : Str} {st : Stmt} {f : Addr} {fd : FuncData} {N ps : List Str} {k : Nat} {S : SpecD} {p : DS} (F : Fun K x qual st f fd) (sc : FnScope N ps (defScope st)) (len : ∀ ds Q, S ds Q → ds.length = ps.length)
    (body : ∀ (cdv : Value) (A : Around) (outer : List Env) (s : Shared) (H : Hp) (E : XK), Room k (A.deeper (envOfC qual (defScope st) s.heap.objs.size f cdv)) →
      QSs (cxOf CX0 P w K mg base N qual (defScope st) f cdv A outer s H E).nox (defBody st) p)
    (pure : ∀ ds Q, S ds Q → p (fnEnds Q) (startD N ds)) : FnOk P w K mg base CX0 (k + 1) f fd ps (spD K S) := by
  refine F.ok sc (fun vs H Q E h => ?_) (fun cdv A outer s H vs Q E hr h => ?_)
  · obtain ⟨pp, Hb, ds, QD, _, r, hs, _⟩ := h
    rw [r.length]
    exact len ds QD hs
  · obtain ⟨pp, Hb, ds, QD, so, r, hs, fin⟩ := h
    obtain ⟨t, h1, h2⟩ := body cdv A outer s H E hr
    refine ⟨t, h1, h2 pp Hb H Hb H _ _ _ _ .refl so (er_start r) (pure ds QD hs) ⟨fun Hb' H' σ E s so _ q => ?_, fun Hb' H' v d s so r q => ?_, fun _ _ _ _ _ _ _ q => q.elim, fun _ _ _ _ _ _ _ q => q.elim, fun _ _ _ _ _ _ _ _ q => q.elim, fun _ _ _ _ _ _ _ _ _ _ _ q => q.elim⟩⟩
    · exact fin .non .non Hb' H' q s so rep_non
    · exact fin d v Hb' H' q s so r
/-- a def that gives a new object -/
def spF (K : FK) (S : SpecD) : Sp := fun vs H Q _ => ∃ (pp : Addr) (Hb : Hp) (ds : List D) (QD : D → Prop), SOk pp K Hb H ∧ RepL pp K Hb ds vs ∧ S ds QD ∧ ∀ d p Hb' H', QD d → Step pp Hb H Hb' H' → SOk pp K Hb' H' → H p = none → Owns pp K Hb' H' p d → Q (.ref p) H'
theorem fnDF {x qual : Str} {st : Stmt} {f : Addr} {fd : FuncData} {N ps : List Str} {k : Nat} {S : SpecD} {p : DS} (F : Fun K x qual st f fd) (sc : FnScope N ps (defScope st)) (len : ∀ ds Q, S ds Q → ds.length = ps.length)
    (body : ∀ (cdv : Value) (A : Around) (outer : List Env) (s : Shared) (H : Hp) (E : XK), Room k (A.deeper (envOfC qual (defScope st) s.heap.objs.size f cdv)) →
      QSs (cxOf CX0 P w K mg base N qual (defScope st) f cdv A outer s H E).nox (defBody st) p)
    (pure : ∀ ds Q, S ds Q → p (fnEndsF Q) (startD N ds)) : FnOk P w K mg base CX0 (k + 1) f fd ps (spF K S) := by
  refine F.ok sc (fun vs H Q E h => ?_) (fun cdv A outer s H vs Q E hr h => ?_)
  · obtain ⟨pp, Hb, ds, QD, _, r, hs, _⟩ := h
    rw [r.length]
    exact len ds QD hs
  · obtain ⟨pp, Hb, ds, QD, so, r, hs, fin⟩ := h
    obtain ⟨t, h1, h2⟩ := body cdv A outer s H E hr
    refine ⟨t, h1, h2 pp Hb H Hb H _ _ _ _ .refl so (er_start r) (pure ds QD hs) ⟨fun _ _ _ _ _ _ _ q => q.elim, fun _ _ _ _ _ _ _ q => q.elim, fun _ _ _ _ _ _ _ q => q.elim, fun _ _ _ _ _ _ _ q => q.elim, fun Hb' H' p d s so n o q => fin d p Hb' H' q s so n o, fun _ _ _ _ _ _ _ _ _ _ _ q => q.elim⟩⟩
end
end DL

namespace DL
open PySem PySem.Spec PyProof.Rows L2

/-! ### one reading for all contexts -/
def TEof (K : FK) (p : DX) : TE := fun σ H Q => ∃ (pp : Addr) (HE Hb : Hp) (E : List Sl) (QD : D → Prop), SOk pp K Hb H ∧ ER pp K HE Hb H σ E ∧ p E QD ∧ ∀ v d Hb' H', Step pp Hb H Hb' H' → SOk pp K Hb' H' → Rep pp K Hb' d v → QD d → Q v H'
def TTof (K : FK) (p : DT) : TT := fun σ H Q => ∃ (pp : Addr) (HE Hb : Hp) (E : List Sl) (QD : Bool → Prop), SOk pp K Hb H ∧ ER pp K HE Hb H σ E ∧ p E QD ∧ ∀ b Hb' H', Step pp Hb H Hb' H' → SOk pp K Hb' H' → QD b → Q b H'
def TGof (K : FK) (g : DG) : TG := fun v σ H Q => ∃ (pp : Addr) (HE Hb : Hp) (E : List Sl) (d : D) (QD : List Sl → Prop), SOk pp K Hb H ∧ ER pp K HE Hb H σ E ∧ Rep pp K Hb d v ∧ g d E QD ∧ ∀ σ' E', ER pp K HE Hb H σ' E' → QD E' → Q σ' H
section
variable {X : Cx} {e tg : Expr} {p : DX} {c : DT} {g : DG}
theorem QE.pe (h : QE X e p) : PE X e (TEof X.K p) := by
  obtain ⟨t, h1, h2⟩ := h
  refine ⟨fun pins s σ H Q I h => ?_⟩
  obtain ⟨pp, HE, Hb, E, QD, so, er, hp, k⟩ := h
  exact h1.run pins s σ H Q I (h2 pp HE Hb H σ E Q QD so er hp k)
theorem QT.pt (h : QT X e c) : PT X e (TTof X.K c) := by
  obtain ⟨t, h1, h2⟩ := h
  refine ⟨fun pins s σ H Q I h => ?_⟩
  obtain ⟨pp, HE, Hb, E, QD, so, er, hp, k⟩ := h
  exact h1.run pins s σ H Q I (h2 pp HE Hb H σ E Q QD so er hp k)
/-- the tests of a comprehension -/
def QTs (X : Cx) (ifs : List Expr) (p : DT) : Prop := ∃ t, PTs X ifs t ∧ ∀ (pp : Addr) (HE Hb H : Hp) (σ : L2.St) (E : List Sl) (Q : Bool → Hp → Prop) (QD : Bool → Prop), SOk pp X.K Hb H → ER pp X.K HE Hb H σ E → p E QD →
  (∀ b Hb' H', Step pp Hb H Hb' H' → SOk pp X.K Hb' H' → QD b → Q b H') → t σ H Q
def dYes : DT := fun _ Q => Q true
theorem ts_nil : QTs X [] dYes := ⟨_, pts_nil, fun pp HE Hb H σ E Q QD so er hp k => k _ Hb H .refl so hp⟩
theorem ts_one (h : QT X e c) : QTs X [e] c := by
  obtain ⟨t, h1, h2⟩ := h
  exact ⟨t, pts_one h1, h2⟩
theorem QTs.pts {ifs : List Expr} (h : QTs X ifs c) : PTs X ifs (TTof X.K c) := by
  obtain ⟨t, h1, h2⟩ := h
  refine ⟨fun pins s σ H Q I h => ?_⟩
  obtain ⟨pp, HE, Hb, E, QD, so, er, hp, k⟩ := h
  exact h1.run pins s σ H Q I (h2 pp HE Hb H σ E Q QD so er hp k)
end

/-! ### slots of a comprehension's own names -/
def Off (vs : List Nat) (σ σ' : L2.St) : Prop := σ'.length = σ.length ∧ ∀ j, j ∉ vs → σ'[j]? = σ[j]?
theorem Off.refl {vs : List Nat} {σ : L2.St} : Off vs σ σ := ⟨rfl, fun _ _ => rfl⟩
theorem Off.trans {vs : List Nat} {a b c : L2.St} (h : Off vs a b) (g : Off vs b c) : Off vs a c := ⟨g.1.trans h.1, fun j hj => (g.2 j hj).trans (h.2 j hj)⟩
theorem wipe_get {σ : L2.St} (j : Nat) : ∀ vs : List Nat, (wipe σ vs)[j]? = if j ∈ vs then (if j < σ.length then some none else none) else σ[j]?
  | [] => by simp [wipe]
  | v :: vs => by
    unfold wipe
    by_cases hv : j = v
    · subst hv
      by_cases hl : j < σ.length
      · rw [List.getElem?_set_self (by rw [wipe_length]; exact hl)]; simp [hl]
      · rw [List.getElem?_eq_none (by rw [List.length_set, wipe_length]; omega)]; simp [hl]
    · rw [List.getElem?_set_ne (Ne.symm hv), wipe_get j vs]
      simp [hv]
theorem Off.wipe {vs : List Nat} {σ σ' : L2.St} (h : Off vs σ σ') : L2.wipe σ' vs = L2.wipe σ vs := by
  refine List.ext_getElem? fun j => ?_
  rw [wipe_get, wipe_get, h.1]
  split
  · rfl
  · rename_i hj; exact h.2 j hj
theorem off_wipe {vs : List Nat} {σ : L2.St} : Off vs σ (wipe σ vs) := ⟨wipe_length _ _, fun j hj => by rw [wipe_get, if_neg hj]⟩
def wipeD (E : List Sl) : List Nat → List Sl
  | [] => E
  | v :: vs => (wipeD E vs).set v .no
theorem ER.wipe {pp : Addr} {K : FK} {HE Hb H : Hp} {σ : L2.St} {E : List Sl} (r : ER pp K HE Hb H σ E) : ∀ vs, ER pp K HE Hb H (wipe σ vs) (wipeD E vs)
  | [] => r
  | v :: vs => (r.wipe vs).set_no v
/-- a comprehension's target: it stores the slots vs alone -/
def QGv (X : Cx) (tg : Expr) (vs : List Nat) (g : DG) : Prop := ∃ t, PG X tg t ∧ ∀ (pp : Addr) (HE Hb H : Hp) (σ : L2.St) (E : List Sl) (v : V) (d : D) (Q : L2.St → Hp → Prop) (QD : List Sl → Prop), SOk pp X.K Hb H → ER pp X.K HE Hb H σ E → Rep pp X.K Hb d v → g d E QD →
  (∀ σ' E', ER pp X.K HE Hb H σ' E' → Off vs σ σ' → QD E' → Q σ' H) → t v σ H Q
def QGvs (X : Cx) (tgs : List Expr) (vs : List Nat) (g : List D → List Sl → (List Sl → Prop) → Prop) : Prop := ∃ t, PGs X tgs t ∧ ∀ (pp : Addr) (HE Hb H : Hp) (σ : L2.St) (E : List Sl) (vs' : List V) (ds : List D) (Q : L2.St → Hp → Prop) (QD : List Sl → Prop), SOk pp X.K Hb H → ER pp X.K HE Hb H σ E → RepL pp X.K Hb ds vs' → g ds E QD →
  (∀ σ' E', ER pp X.K HE Hb H σ' E' → Off vs σ σ' → QD E' → Q σ' H) → t vs' σ H Q
section
variable {X : Cx} {e tg : Expr} {tgs : List Expr} {p : DX} {c : DT} {g : DG} {gs : List D → List Sl → (List Sl → Prop) → Prop} {vs : List Nat} {pos : Pos}
theorem v_name {i : Nat} {x : Str} {pos : Pos} (hN : X.N.Nodup) (hv : i ∈ vs) (hi : X.N[i]? = some x := by rfl) (hx : Loc X.env.scope x := by first | exact Or.inl rfl | exact Or.inr rfl) (hf : X.fn x = true ∨ X.env.scope.names.lookup x = some .local := by first | exact .inl rfl | exact .inr rfl | assumption) : QGv X (.Name x pos) vs (gN i) := by
  refine ⟨_, pg_name hN hi hx hf, fun pp HE Hb H σ E v d Q QD so er r h k => k _ _ (er.set_sh i r) ⟨List.length_set, fun j hj => ?_⟩ h⟩
  rw [List.getElem?_set_ne]
  intro z
  subst z
  exact hj hv
theorem vs_nil : QGvs X [] vs gsNil := by
  refine ⟨_, pgs_nil, fun pp HE Hb H σ E vs ds Q QD so er r h k => ?_⟩
  unfold gsNil at h
  split at h
  · exact ⟨r.unnil, k _ _ er .refl h⟩
  · exact h.elim
theorem vs_cons (h : QGv X tg vs g) (r : QGvs X tgs vs gs) (hs : (assignEach (tg :: tgs) X.env).map (·.2) = assign tg X.env :: (assignEach tgs X.env).map (·.2) := by rfl) : QGvs X (tg :: tgs) vs (gsCons g gs) := by
  obtain ⟨t, h1, h2⟩ := h
  obtain ⟨u, g1, g2⟩ := r
  refine ⟨_, pgs_cons h1 g1 hs, fun pp HE Hb H σ E vs ds Q QD so er r h k => ?_⟩
  unfold gsCons at h
  split at h
  · obtain ⟨v, w, rfl, r1, r2⟩ := r.uncons
    refine ⟨v, w, rfl, h2 pp HE Hb H σ E _ _ _ _ so er r1 h fun σ' E' er' o1 h' => ?_⟩
    exact g2 pp HE Hb H σ' E' _ _ _ _ so er' r2 h' fun σ2 E2 er2 o2 q => k σ2 E2 er2 (o1.trans o2) q
  · exact h.elim
theorem v_tup {n k : Nat} (hc : X.calm = true) (h : QGvs X tgs vs gs) (hn : (assignEach tgs X.env).length = n := by rfl) (hst : (assignEach tgs X.env).findIdx? (·.1) = none := by rfl) : QGv X (.Tuple tgs k pos) vs (gT n gs) := by
  obtain ⟨t, h1, h2⟩ := h
  refine ⟨_, PG.or (pg_tup hc h1 hn hst) (pg_unl hc h1 hn hst), fun pp HE Hb H σ E v d Q QD so er r h k => ?_⟩
  unfold gT at h
  split at h
  · unfold Rep at r
    obtain ⟨a, xs, rfl, s, q⟩ := r
    exact .inl ⟨a, xs, rfl, so.hle.sqT s.sqT, by rw [q.length]; exact h.1, h2 pp HE Hb H σ E _ _ _ _ so er q h.2 k⟩
  · unfold Rep at r
    obtain ⟨a, xs, rfl, s, q⟩ := r
    exact .inr ⟨a, xs, rfl, .of (so.le _ _ s), by rw [q.length]; exact h.1, h2 pp HE Hb H σ E _ _ _ _ so er q h.2 k⟩
  · unfold Rep at r
    obtain ⟨a, xs, rfl, s, q⟩ := r
    exact .inl ⟨a, xs, rfl, .inl (.inl (so.le _ _ s)), by rw [q.length]; exact h.1, h2 pp HE Hb H σ E _ _ _ _ so er q h.2 k⟩
  · exact h.elim
def TGvof (K : FK) (vs : List Nat) (g : DG) : TG := fun v σ H Q => ∃ (pp : Addr) (HE Hb : Hp) (E : List Sl) (d : D) (QD : List Sl → Prop), SOk pp K Hb H ∧ ER pp K HE Hb H σ E ∧ Rep pp K Hb d v ∧ g d E QD ∧ ∀ σ' E', ER pp K HE Hb H σ' E' → Off vs σ σ' → QD E' → Q σ' H
theorem QGv.pg (h : QGv X tg vs g) : PG X tg (TGvof X.K vs g) := by
  obtain ⟨t, h1, h2⟩ := h
  refine ⟨fun pins s σ H v u Q I r h => ?_⟩
  obtain ⟨pp, HE, Hb, E, d, QD, so, er, rp, hp, k⟩ := h
  exact h1.run pins s σ H v u Q I r (h2 pp HE Hb H σ E v d Q QD so er rp hp k)
end

/-! ### list comprehensions -/
def lcL (g : DG) (vs : List Nat) (c : DT) (p : DX) : List D → List Sl → (List D → Prop) → Prop
  | [], _, Q => Q []
  | d :: r, E, Q => g d (wipeD E vs) fun E' => c E' fun b => if b = true then p E' fun y => lcL g vs c p r E fun ys => Q (y :: ys) else lcL g vs c p r E Q
def dLc (pi : DI) (g : DG) (vs : List Nat) (c : DT) (p : DX) : DX := fun E Q => pi E fun items => items.length ≤ sizeLine ∧ lcL g vs c p items E fun ys => Q (.lst ys)
section
variable {X : Cx} {elt tg iter : Expr} {ifs : List Expr} {scope : Scope} {own : List (Str × Nat)} {pos : Pos} {pi : DI} {g : DG} {c : DT} {p : DX}
theorem lc_read {wi : TI} {K : FK} {vs : List Nat} {pp : Addr} {HE Hb H : Hp} {σ : L2.St} {E : List Sl} {Q : VK} {QD : D → Prop}
    (i2 : ∀ (R : It → Hp → Prop) (QD : List D → Prop), pi E QD → (∀ J items Hb' H', Step pp Hb H Hb' H' → SOk pp K Hb' H' → WalkJ pp K Hb' J items → QD items → R J H') → wi σ H R)
    (so : SOk pp K Hb H) (er : ER pp K HE Hb H σ E) (hp : dLc pi g vs c p E QD)
    (k : ∀ a d Hb' H', Step pp Hb H Hb' H' → SOk pp K Hb' H' → H a = none → Owns pp K Hb' H' a d → QD d → Q (.ref a) H') : tLc wi (TGvof K vs g) (TTof K c) (TEof K p) vs σ H Q := by
  refine i2 _ _ hp fun J items Hb0 H0 s0 so0 wk q0 => ?_
  intro L hL
  have hLH : H L = none := by
    cases z : H L with
    | none => rfl
    | some u => exact absurd hL (s0.st L (by rw [z]; exact fun y => nomatch y))
  obtain ⟨sL, soL⟩ := lay_own (u := .lst []) so0 hL
  refine ⟨fun i m H1 => m = items.length - i ∧ i ≤ items.length ∧ ∃ (Hb1 : Hp) (acc : List V) (accD : List D), Step pp Hb0 H0 Hb1 H1 ∧ SOk pp K Hb1 H1 ∧ H1 L = some (.lst acc) ∧ Hb1 L = none ∧ RepL pp K Hb1 accD acc ∧ accD.length ≤ i ∧ lcL g vs c p (items.drop i) E fun ys => QD (.lst (accD ++ ys)),
    ⟨items.length, rfl, Nat.zero_le _, Hb0, [], [], sL, soL, upd_same, so0.nb hL, .nil, Nat.le_refl _, by simpa using q0.2⟩, ?_⟩
  rintro i m H1 ⟨rfl, hi, Hb1, acc, accD, s1, so1, hl1, hb1, r1, n1, f1⟩
  have w1 := wk Hb1 H1 s1.sb so1 i
  have hpp : L ≠ pp := so0.ne hL
  by_cases hlt : i < items.length
  · have ed : items[i]? = some items[i] := by simp [hlt]
    obtain ⟨go, yl⟩ := w1.1 _ ed
    rw [List.drop_eq_getElem_cons hlt] at f1
    refine .inr ⟨go, fun H1 => (items.length - (i + 1)) = items.length - (i + 1) ∧ i + 1 ≤ items.length ∧ ∃ (Hb1 : Hp) (acc : List V) (accD : List D), Step pp Hb0 H0 Hb1 H1 ∧ SOk pp K Hb1 H1 ∧ H1 L = some (.lst acc) ∧ Hb1 L = none ∧ RepL pp K Hb1 accD acc ∧ accD.length ≤ i + 1 ∧ lcL g vs c p (items.drop (i + 1)) E fun ys => QD (.lst (accD ++ ys)), fun H' w => ⟨items.length - (i + 1), by omega, w⟩, fun x H2 y => ?_⟩
    obtain ⟨Hb2, s2, so2, r2⟩ := yl x H2 y
    have sA := s1.trans s2
    refine ⟨pp, HE, Hb2, wipeD E vs, items[i], _, so2, ((er.step s0).step sA).wipe vs, r2, f1, fun σ' E' er' of q' => ?_⟩
    refine ⟨(off_wipe.trans of).wipe, pp, HE, Hb2, E', _, so2, er', q', fun b Hb3 H3 s3 so3 q3 => ?_⟩
    cases b with
    | true =>
      rw [if_pos rfl] at q3 ⊢
      refine ⟨pp, HE, Hb3, E', _, so3, er'.step s3, q3, fun y' d' Hb4 H4 s4 so4 r4 q4 => ?_⟩
      have sB := (s2.trans s3).trans s4
      have hL4 : H4 L = some (.lst acc) := sB.ex L _ hpp hl1
      have hb4 : Hb4 L = none := sB.nw L hb1 (by rw [hl1]; exact fun z => nomatch z)
      have sC := s1.trans sB
      have rN : RepL pp K Hb4 (accD ++ [d']) (acc ++ [y']) := (r1.le sB.le).app (.cons r4 .nil)
      refine ⟨acc, hL4, by rw [r1.length]; have := q0.1; omega, rfl, hlt, Hb4, acc ++ [y'], accD ++ [d'], ⟨sC.sb, fun b o hb h => ?_, fun b h => ?_, sC.nw⟩, ⟨fun b o h => ?_, so4.np, ?_, fun b xs h => ?_⟩, upd_same, hb4, rN, by simp; exact n1, ?_⟩
      · rw [upd_ne (ne_of_none h hL)]; exact sC.ex b o hb h
      · by_cases z : b = L
        · subst z; rw [upd_same]; exact fun y => nomatch y
        · rw [upd_ne z]; exact sC.st b h
      · have z : b ≠ L := fun z => by subst z; rw [hb4] at h; cases h
        rw [upd_ne z]; exact so4.le b o h
      · obtain ⟨a, ns, i, n, k, h1, h2⟩ := so4.pool
        exact ⟨a, ns, i, n, k, by rw [upd_ne (Ne.symm hpp)]; exact h1, h2⟩
      · by_cases z : b = L
        · subst z; rw [upd_same] at h; cases h
        · rw [upd_ne z] at h; exact so4.tp b xs h
      · simpa using q4
    | false =>
      rw [if_neg Bool.false_ne_true] at q3 ⊢
      have sB := s2.trans s3
      exact ⟨rfl, hlt, Hb3, acc, accD, s1.trans sB, so3, sB.ex L _ hpp hl1, sB.nw L hb1 (by rw [hl1]; exact fun z => nomatch z), r1.le sB.le, by omega, q3⟩
  · have e : i = items.length := by omega
    subst e
    refine .inl ⟨w1.2 rfl, ?_⟩
    rw [List.drop_length] at f1
    refine k L (.lst accD) Hb1 H1 (s0.trans s1) so1 hLH ⟨hb1, hpp, ⟨acc, hl1, r1⟩⟩ ?_
    simpa [lcL] using f1
theorem f_lc {vs : List Nat} (own : List (Str × Nat)) (hc : X.calm = true) (hN : X.N.Nodup) (hi : QI X tg iter pi) {N0 : List Str} {sc0 : Scope} (ok : blkC N0 sc0 scope own = true) (hv : own.map (·.2) = vs)
    (hg : ∀ (s : Shared) (H : Hp) (C : Addr) (cl : List (Str × Addr)) (fp : List Addr), QGv (X.blk s H scope (compEnvC scope cl C X.env) fp) tg vs g) (ht : ∀ (s : Shared) (H : Hp) (C : Addr) (cl : List (Str × Addr)) (fp : List Addr), QTs (X.blk s H scope (compEnvC scope cl C X.env) fp) ifs c)
    (he : ∀ (s : Shared) (H : Hp) (C : Addr) (cl : List (Str × Addr)) (fp : List Addr), QE (X.blk s H scope (compEnvC scope cl C X.env) fp) elt p) (hs : ∀ x, foldedSetIterable iter X.env x = pure x := by intro _; rfl) (eN : X.N = N0 := by rfl) (eS : X.env.scope = sc0 := by rfl) :
    QF X (.ListComp elt [⟨tg, iter, ifs, 0⟩] scope pos) (dLc pi g vs c p) := by
  subst hv eN eS
  obtain ⟨wi, i1, i2⟩ := hi
  exact ⟨_, pe_lc (g := TGvof X.K (own.map (·.2)) g) (tt := TTof X.K c) (te := TEof X.K p) hc hN i1 (blkOk_by ok) (fun s H C cl fp => (hg s H C cl fp).pg) (fun s H C cl fp => (ht s H C cl fp).pts) (fun s H C cl fp => (he s H C cl fp).pe) hs,
    fun pp HE Hb H σ E Q QD so er hp k => lc_read (fun R QD' h1 h2 => i2 pp HE Hb H σ E R QD' so er h1 h2) so er hp k⟩
/-- y = [..]: y a base value, or its own -/
theorem s_setLc {vs : List Nat} {i : Nat} {y : Str} {py spos : Pos} (own : List (Str × Nat)) (hc : X.calm = true) (hN : X.N.Nodup) (hi : QI X tg iter pi) {N0 : List Str} {sc0 : Scope} (ok : blkC N0 sc0 scope own = true) (hv : own.map (·.2) = vs)
    (hg : ∀ (s : Shared) (H : Hp) (C : Addr) (cl : List (Str × Addr)) (fp : List Addr), QGv (X.blk s H scope (compEnvC scope cl C X.env) fp) tg vs g) (ht : ∀ (s : Shared) (H : Hp) (C : Addr) (cl : List (Str × Addr)) (fp : List Addr), QTs (X.blk s H scope (compEnvC scope cl C X.env) fp) ifs c)
    (he : ∀ (s : Shared) (H : Hp) (C : Addr) (cl : List (Str × Addr)) (fp : List Addr), QE (X.blk s H scope (compEnvC scope cl C X.env) fp) elt p)
    (hsw : swapsWith (.ListComp elt [⟨tg, iter, ifs, 0⟩] scope pos) (some (.Name y py)) spos.line X.env = pure true) (hy : X.N[i]? = some y := by rfl) (hyl : X.env.scope.names.lookup y = some .local := by rfl) (hs : ∀ x, foldedSetIterable iter X.env x = pure x := by intro _; rfl) (eN : X.N = N0 := by rfl) (eS : X.env.scope = sc0 := by rfl) :
    QS X (.Assign [.Name y py] (.ListComp elt [⟨tg, iter, ifs, 0⟩] scope pos) spos) (dAsg i (dLc pi g vs c p)) := by
  subst hv eN eS
  obtain ⟨wi, i1, i2⟩ := hi
  refine ⟨_, ps_setLc (g := TGvof X.K (own.map (·.2)) g) (tt := TTof X.K c) (te := TEof X.K p) hc hN hy hyl hsw i1 (blkOk_by ok) (fun s H C cl fp => (hg s H C cl fp).pg) (fun s H C cl fp => (ht s H C cl fp).pts) (fun s H C cl fp => (he s H C cl fp).pe) hs, fun pp HbE HE Hb H σ E Dn DD s so er h o => ?_⟩
  refine lc_read (QD := fun d => DD.nx (E.set i (.sh d))) (fun R QD' h1 h2 => i2 pp HE Hb H σ E R QD' so er h1 h2) so er h fun a d Hb1 H1 s1 so1 hn o1 q1 => ?_
  obtain ⟨Hb2, s2, so2, r2⟩ := share_new s1 so1 hn o1
  exact o.nx Hb2 H1 _ _ (s.trans s2) so2 ((er.step s2).set_sh i r2) q1
theorem s_ownLc {vs : List Nat} {i : Nat} {y : Str} {py spos : Pos} (own : List (Str × Nat)) (hc : X.calm = true) (hN : X.N.Nodup) (hi : QI X tg iter pi) {N0 : List Str} {sc0 : Scope} (ok : blkC N0 sc0 scope own = true) (hv : own.map (·.2) = vs)
    (hg : ∀ (s : Shared) (H : Hp) (C : Addr) (cl : List (Str × Addr)) (fp : List Addr), QGv (X.blk s H scope (compEnvC scope cl C X.env) fp) tg vs g) (ht : ∀ (s : Shared) (H : Hp) (C : Addr) (cl : List (Str × Addr)) (fp : List Addr), QTs (X.blk s H scope (compEnvC scope cl C X.env) fp) ifs c)
    (he : ∀ (s : Shared) (H : Hp) (C : Addr) (cl : List (Str × Addr)) (fp : List Addr), QE (X.blk s H scope (compEnvC scope cl C X.env) fp) elt p)
    (hsw : swapsWith (.ListComp elt [⟨tg, iter, ifs, 0⟩] scope pos) (some (.Name y py)) spos.line X.env = pure true) (hy : X.N[i]? = some y := by rfl) (hyl : X.env.scope.names.lookup y = some .local := by rfl) (hs : ∀ x, foldedSetIterable iter X.env x = pure x := by intro _; rfl) (eN : X.N = N0 := by rfl) (eS : X.env.scope = sc0 := by rfl) :
    QS X (.Assign [.Name y py] (.ListComp elt [⟨tg, iter, ifs, 0⟩] scope pos) spos) (dOwn i (dLc pi g vs c p)) := by
  subst hv eN eS
  obtain ⟨wi, i1, i2⟩ := hi
  refine ⟨_, ps_setLc (g := TGvof X.K (own.map (·.2)) g) (tt := TTof X.K c) (te := TEof X.K p) hc hN hy hyl hsw i1 (blkOk_by ok) (fun s H C cl fp => (hg s H C cl fp).pg) (fun s H C cl fp => (ht s H C cl fp).pts) (fun s H C cl fp => (he s H C cl fp).pe) hs, fun pp HbE HE Hb H σ E Dn DD s so er h o => ?_⟩
  refine lc_read (QD := fun d => DD.nx (E.set i (.ow d))) (fun R QD' h1 h2 => i2 pp HE Hb H σ E R QD' so er h1 h2) so er h fun p d Hb1 H1 s1 so1 hn o1 q1 => ?_
  have hE : HE p = none := by
    cases z : HE p with
    | none => rfl
    | some u => exact absurd hn (s.st p (by rw [z]; exact fun y => nomatch y))
  refine o.nx Hb1 H1 _ _ (s.trans s1) so1 ((er.step s1).set_ow i hE o1 fun j d' e1 e2 => ?_) q1
  obtain ⟨p', h3, h4, h5⟩ := er.ow j d' e1
  rw [h3] at e2
  cases e2
  exact Top.isSm h5.top hn
end
end DL

namespace DL
open PySem PySem.Spec PyProof.Rows L2

/-! ### an own object changes -/
section
variable {pp : Addr} {K : FK} {HbE HE Hb H : Hp} {σ : L2.St} {E : List Sl}
theorem mut_ok {i : Nat} {p : Addr} {d d' : D} {u : HO} (s : Step pp HbE HE Hb H) (so : SOk pp K Hb H) (er : ER pp K HE Hb H σ E) (e : E[i]? = some (.ow d)) (hσ : σ[i]? = some (some (.ref p)))
    (ht : Top pp K Hb (upd H p u) p d') : Step pp HbE HE Hb (upd H p u) ∧ SOk pp K Hb (upd H p u) ∧ ER pp K HE Hb (upd H p u) σ (E.set i (.ow d')) := by
  obtain ⟨p', h1, h2, h3⟩ := er.ow i d e
  rw [hσ] at h1
  cases h1
  have hl : i < E.length := (List.getElem?_eq_some_iff.mp e).1
  refine ⟨⟨s.sb, fun b o hb h => ?_, fun b h => ?_, s.nw⟩, ⟨fun b o h => ?_, so.np, ?_, fun b xs h => ?_⟩, ⟨by rw [List.length_set]; exact er.len, fun j d1 ej => ?_, fun j d1 ej => ?_, fun j k p1 d1 d2 hne e1 e2 g1 => ?_, fun j b dd x ej => ?_⟩⟩
  · rw [upd_ne (fun z => by subst z; rw [h2] at h; cases h)]; exact s.ex b o hb h
  · by_cases z : b = p
    · subst z; rw [upd_same]; exact fun y => nomatch y
    · rw [upd_ne z]; exact s.st b h
  · rw [upd_ne (fun z => by subst z; rw [h3.nb] at h; cases h)]; exact so.le b o h
  · obtain ⟨a, ns, i, n, k, g1, g2⟩ := so.pool
    exact ⟨a, ns, i, n, k, by rw [upd_ne (Ne.symm h3.ne)]; exact g1, g2⟩
  · by_cases z : b = p
    · subst z
      cases d' <;> first | exact ht.elim | (obtain ⟨ys, e, _⟩ := ht; rw [e] at h; cases h)
    · rw [upd_ne z] at h; exact so.tp b xs h
  · rcases get_set ej with ⟨rfl, _, z⟩ | ⟨hj, ej⟩
    · cases z
    · exact er.sh j d1 ej
  · rcases get_set ej with ⟨rfl, _, z⟩ | ⟨hj, ej⟩
    · cases z
      exact ⟨p, hσ, h2, ⟨h3.nb, h3.ne, ht⟩⟩
    · obtain ⟨p', k1, k2, k3⟩ := er.ow j d1 ej
      have hne : p' ≠ p := fun z => by
        subst z
        exact er.ds i j p' d d1 (Ne.symm hj) e ej hσ k1
      exact ⟨p', k1, k2, ⟨k3.nb, k3.ne, Top.step (.of_same (Same.refl _)) (fun o h => by rw [upd_ne hne]; exact h) k3.top⟩⟩
  · rcases get_set e1 with ⟨rfl, _, _⟩ | ⟨hj, f1⟩
    · rcases get_set e2 with ⟨z, _, _⟩ | ⟨hk, f2⟩
      · exact absurd z.symm hne
      · exact er.ds _ k p1 _ d2 hne e f2 g1
    · rcases get_set e2 with ⟨rfl, _, _⟩ | ⟨hk, f2⟩
      · exact er.ds j _ p1 d1 _ hne f1 e g1
      · exact er.ds j k p1 d1 d2 hne f1 f2 g1
  · rcases get_set ej with ⟨_, _, z⟩ | ⟨hj, ej⟩
    · cases z
    · obtain ⟨z1, vs, z2, z3, z4⟩ := er.xs j b dd x ej
      refine ⟨z1, vs, z2, ?_, z4⟩
      rw [upd_ne (fun z => by
        subst z
        have t := h3.top
        cases d <;> first | exact t.elim | (obtain ⟨ys, e, _⟩ := t; rw [e] at z3; cases z3))]
      exact z3
end
section
variable {X : Cx} {e k : Expr} {es : List Expr} {pe pk : DX} {pos : Pos}
/-- xs.append(e), xs in slot i -/
def dApp (i : Nat) (pe : DX) : DS := fun DD E => match E[i]? with
  | some (.ow (.lst ds)) => pe E fun d => ds.length < sizeLine ∧ DD.nx (E.set i (.ow (.lst (ds ++ [d]))))
  | _ => False
theorem s_append (i : Nat) {x : Str} {xp apos cpos : Pos} (he : QE X e pe) (hN : X.N[i]? = some x := by rfl) (hv : Vis X.env.scope x := by first | exact Or.inl rfl | exact Or.inr (Or.inl rfl) | exact Or.inr (Or.inr rfl)) (hd : (x == ("__debug__" : Str)) = false := by decide)
    (hcd : (x == ("__classdict__" : Str)) = false := by decide)
    (h1 : attributeBase (.Name x xp) "append" X.env (eval (.Name x xp) X.env) = eval (.Name x xp) X.env := by rfl)
    (h2 : ((backTo cpos (starEach [e] X.env)).all (fun x => !x.1) && (backToKw cpos (keywordEach [] X.env)).all (fun x => x.1.isSome) && decide (([e] : List Expr).length + ([] : List Keyword).length + (if ([] : List Keyword).isEmpty then 0 else 1) < 30)) = true := by rfl)
    (h3 : (apos.endLine == cpos.line) = true := by rfl) (h4 : starEach [e] X.env = (false, eval e X.env) :: starEach [] X.env := by rfl) (h5 : (backTo cpos (starEach [] X.env)).any (·.1) = false := by rfl)
    (hs : swapsWith (.Call (.Attribute (.Name x xp) "append" apos) [e] [] cpos) none pos.line X.env = pure false := by rfl) :
    QS X (.Expr (.Call (.Attribute (.Name x xp) "append" apos) [e] [] cpos) pos) (dApp i pe) := by
  obtain ⟨t, t1, t2⟩ := he
  refine ⟨_, ps_expr (pe_bm PySem.F.plainAttrs_list PySem.F.slot_list_append PySem.F.type_list_append mt_append (pv i hN hv hd hcd) (pa_cons t1 pa_nil h4) h1 h2 h3 h4 h5) hs, fun pp HbE HE Hb H σ E Dn DD s so er h o => ?_⟩
  unfold dApp at h
  split at h
  · rename_i ds ei
    obtain ⟨p, q1, q2, q3⟩ := er.ow i _ ei
    obtain ⟨xs, hx, hr⟩ := q3.top
    refine ⟨_, q1, .inl ⟨rfl, xs, .of hx⟩, ?_⟩
    refine t2 pp HE Hb H σ E _ _ so er h fun v d Hb1 H1 s1 so1 r1 z1 => ?_
    have er1 := er.step s1
    have hx1 : H1 p = some (.lst xs) := s1.ex p _ q3.ne hx
    refine ⟨p, xs, v, rfl, rfl, hx1, by rw [hr.length]; exact z1.1, ?_⟩
    obtain ⟨g1, g2, g3⟩ := mut_ok (u := .lst (xs ++ [v])) (d' := .lst (ds ++ [d])) (s.trans s1) so1 er1 ei q1 ⟨_, upd_same, (hr.le s1.le).app (.cons r1 .nil)⟩
    exact o.nx Hb1 _ σ _ g1 g2 g3 z1.2
  · exact h.elim
/-- {} (its keys ints and texts) -/
def dNew : DX := fun _ Q => Q (.dic [] [])
theorem f_new : QF X (.Dict [] [] pos) dNew := by
  refine ⟨_, pe_dnewK, fun pp HE Hb H σ E Q QD so er hp k => ?_⟩
  intro p hp'
  obtain ⟨s2, so2⟩ := lay_own (u := .dK []) so hp'
  exact k p (.dic [] []) _ _ s2 so2 hp' ⟨so.nb hp', so.ne hp', ⟨[], upd_same, rfl, .nil⟩⟩ hp
theorem PS.or {st : Stmt} {t u : TS} (h : PS X st t) (h' : PS X st u) : PS X st (fun Dn σ H => t Dn σ H ∨ u Dn σ H) := by
  refine ⟨fun pins s σ H Dn I q => ?_⟩
  rcases q with q | q
  · exact h.run pins s σ H Dn I q
  · exact h'.run pins s σ H Dn I q
/-- xs[k] = v, d[k] = v, the list or dict in slot i -/
def dPut (i : Nat) (pk pv : DX) : DS := fun DD E => match E[i]? with
  | some (.ow (.dic ks ds)) => pv E fun d => pk E fun kd => match keyOf kd with
    | some k => ks.length < sizeLine ∧ DD.nx (E.set i (.ow (.dic (ptK ks k) (ptD ks ds k d))))
    | none => False
  | some (.ow (.lst ds)) => pv E fun d => pk E fun kd => match kd with
    | .int j => match ixN ds.length j with
      | some n => DD.nx (E.set i (.ow (.lst (ds.set n d))))
      | none => False
    | _ => False
  | _ => False
theorem s_put (i : Nat) {x : Str} {v : Expr} {xp pos' : Pos} {pv : DX} (hu : X.A.units + 1 < cLine) (hk : QE X k pk) (hv : QE X v pv) (hN : X.N[i]? = some x := by rfl) (hvis : Vis X.env.scope x := by first | exact Or.inl rfl | exact Or.inr (Or.inl rfl) | exact Or.inr (Or.inr rfl)) (hd : (x == ("__debug__" : Str)) = false := by decide)
    (hcd : (x == ("__classdict__" : Str)) = false := by decide) (hs : swapsWith v (some (.Subscript (.Name x xp) k pos')) pos.line X.env = pure false := by rfl)
    (hs' : swapsWithSole [.Subscript (.Name x xp) k pos'] v pos.line X.env = pure false := by rfl) (hw : swappedStores [.Subscript (.Name x xp) k pos'] v X.env = pure none := by rfl) (h1 : (assignEach [.Subscript (.Name x xp) k pos'] X.env).map (·.2) = [assign (.Subscript (.Name x xp) k pos') X.env] := by rfl)
    (ha : ∀ v, assign (.Subscript (.Name x xp) k pos') X.env v = (do
      let ov ← holding [v] (eval (.Name x xp) X.env)
      let iv ← holding [v, ov] (eval k X.env)
      standAt pos'
      holding [v, ov, iv] (setItem ov iv v)
      release [v, ov, iv] []) := by intro _; rfl) : QS X (.Assign [.Subscript (.Name x xp) k pos'] v pos) (dPut i pk pv) := by
  obtain ⟨t, t1, t2⟩ := hk
  obtain ⟨u, u1, u2⟩ := hv
  refine ⟨_, PS.or (ps_dput hu (L2.pv i hN hvis hd hcd) t1 u1 hs) (ps_asg u1 (pg_sub (L2.pv i hN hvis hd hcd) t1 set_list ha) hs' hw h1), fun pp HbE HE Hb H σ E Dn DD s so er h o => ?_⟩
  unfold dPut at h
  split at h
  · rename_i ks ds ei
    obtain ⟨p, q1, q2, q3⟩ := er.ow i _ ei
    obtain ⟨ws, hx, hks, hr⟩ := q3.top
    refine .inl (u2 pp HE Hb H σ E _ _ so er h fun v d Hb1 H1 s1 so1 r1 z1 => ?_)
    refine ⟨_, q1, t2 pp HE Hb1 H1 σ E _ _ so1 (er.step s1) z1 fun kv kd Hb2 H2 s2 so2 r2 z2 => ?_⟩
    have s12 := s1.trans s2
    split at z2
    · rename_i k ek
      have hx2 : H2 p = some (.dK ws) := s12.ex p _ q3.ne hx
      have hl : ws.length < sizeLine := by rw [← List.length_map (·.1), hks]; exact z2.1
      refine ⟨p, _, rfl, .inl ⟨ws, k, hx2, keyOf_rep so2 ek (.inl r2), hl, rfl⟩, ?_⟩
      obtain ⟨g1, g2, g3⟩ := mut_ok (u := .dK (putK ws k v)) (d' := .dic (ptK ks k) (ptD ks ds k d)) (s.trans s12) so2 (er.step s12) ei q1 ⟨_, upd_same, by rw [pt_keys, hks], by
        have e := pt_rep (k := k) (r1.le s2.le) (hr.le s12.le)
        rw [hks] at e; exact e⟩
      exact o.nx Hb2 _ σ _ g1 g2 g3 z2.2
    · exact z2.elim
  · rename_i ds ei
    obtain ⟨p, q1, q2, q3⟩ := er.ow i _ ei
    obtain ⟨xs, hx, hr⟩ := q3.top
    refine .inr (u2 pp HE Hb H σ E _ _ so er h fun v d Hb1 H1 s1 so1 r1 z1 => ?_)
    refine ⟨_, q1, t2 pp HE Hb1 H1 σ E _ _ so1 (er.step s1) z1 fun kv kd Hb2 H2 s2 so2 r2 z2 => ?_⟩
    have s12 := s1.trans s2
    split at z2
    · rename_i j
      split at z2
      · rename_i n en
        have hx2 : H2 p = some (.lst xs) := s12.ex p _ q3.ne hx
        unfold Rep at r2
        refine ⟨p, xs, j, n, rfl, r2, hx2, by rw [hr.length]; exact en, ?_⟩
        obtain ⟨g1, g2, g3⟩ := mut_ok (u := .lst (xs.set n v)) (d' := .lst (ds.set n d)) (s.trans s12) so2 (er.step s12) ei q1 ⟨_, upd_same, (hr.le s12.le).set n (r1.le s2.le)⟩
        exact o.nx Hb2 _ σ _ g1 g2 g3 z2
      · exact z2.elim
    · exact z2.elim
  · exact h.elim
/-- d.pop(k) of what is there, its value dropped; d in slot i -/
def dPopK (i : Nat) (pk : DX) : DS := fun DD E => match E[i]? with
  | some (.ow (.dic ks ds)) => pk E fun kd => match keyOf kd with
    | some k => (lk ks ds k).isSome = true ∧ DD.nx (E.set i (.ow (.dic (drK ks k) (drD ks ds k))))
    | none => False
  | _ => False
theorem s_popK (i : Nat) {x : Str} {xp apos cpos : Pos} (hk : QE X k pk) (hN : X.N[i]? = some x := by rfl) (hvis : Vis X.env.scope x := by first | exact Or.inl rfl | exact Or.inr (Or.inl rfl) | exact Or.inr (Or.inr rfl)) (hd : (x == ("__debug__" : Str)) = false := by decide)
    (hcd : (x == ("__classdict__" : Str)) = false := by decide) (m : M1 X (.Name x xp) "pop" apos k cpos := by exact ⟨rfl, rfl, rfl, rfl⟩) (hs : swapsWith (.Call (.Attribute (.Name x xp) "pop" apos) [k] [] cpos) none pos.line X.env = pure false := by rfl) :
    QS X (.Expr (.Call (.Attribute (.Name x xp) "pop" apos) [k] [] cpos) pos) (dPopK i pk) := by
  obtain ⟨t, t1, t2⟩ := hk
  refine ⟨_, ps_expr (pe_dpop1 (L2.pv i hN hvis hd hcd) t1 m) hs, fun pp HbE HE Hb H σ E Dn DD s so er h o => ?_⟩
  unfold dPopK at h
  split at h
  · rename_i ks ds ei
    obtain ⟨p, q1, q2, q3⟩ := er.ow i _ ei
    obtain ⟨ws, hx, hks, hr⟩ := q3.top
    refine ⟨_, q1, p, rfl, .inl ⟨ws, .inl hx⟩, t2 pp HE Hb H σ E _ _ so er h fun kv kd Hb2 H2 s2 so2 r2 z2 => ?_⟩
    split at z2
    · rename_i k ek
      have hx2 : H2 p = some (.dK ws) := s2.ex p _ q3.ne hx
      cases el : lk ks ds k with
      | none => rw [el] at z2; simp at z2
      | some d =>
        subst hks
        obtain ⟨v, hv, _⟩ := (lk_val hr).1 d el
        refine ⟨ws, k, v, hx2, keyOf_rep so2 ek (.inl r2), hv, ?_⟩
        obtain ⟨g1, g2, g3⟩ := mut_ok (u := .dK (dropK ws k)) (d' := .dic (drK (ws.map (·.1)) k) (drD (ws.map (·.1)) ds k)) (s.trans s2) so2 (er.step s2) ei q1 ⟨_, upd_same, dr_keys _ _, dr_rep (hr.le s2.le)⟩
        exact o.nx Hb2 _ σ _ g1 g2 g3 z2.2
    · exact z2.elim
  · exact h.elim
end

/-! ### a dict is locked -/
def lkF (a : Addr) (o u : HO) : Hp → Hp := fun G b => if b = a then (match G a with | none => none | some _ => some o) else G b
section
variable {pp a : Addr} {K : FK} {HbE HE Hb H Hb2 H2 : Hp} {od : Obj} {u : HO} {σ : L2.St} {E : List Sl}
theorem lkF_ne {o : HO} {G : Hp} {b : Addr} (h : b ≠ a) : lkF a o u G b = G b := by unfold lkF; rw [if_neg h]
theorem lkF_at {o w : HO} {G : Hp} (h : G a = some w) : lkF a o u G a = some o := by unfold lkF; rw [if_pos rfl, h]
theorem lkF_none {o : HO} {G : Hp} {b : Addr} : lkF a o u G b = none ↔ G b = none := by
  by_cases e : b = a
  · subst e
    unfold lkF
    rw [if_pos rfl]
    cases G b <;> simp
  · rw [lkF_ne e]
theorem lkF_upd {o w : HO} {G : Hp} (h : G a = some w) : lkF a o u G = upd G a o := by
  funext b
  by_cases e : b = a
  · subst e; rw [lkF_at h, upd_same]
  · rw [lkF_ne e, upd_ne e]
/-- what may be locked -/
structure CanLock (pp : Addr) (a : Addr) (u : HO) (Hb H : Hp) : Prop where
  hb : Hb a = some u
  hh : H a = some u
  ne : a ≠ pp
  pl : Pln u
  nl : ∀ xs, u ≠ .lst xs
  nt : ∀ xs, u ≠ .tup xs
  nx : ∀ fl, u ≠ .xd fl := by intro fl z; cases z
theorem le_lock (c : CanLock pp a u Hb H) : Le Hb (upd Hb a (.frz od u)) := ⟨fun b w pl r => by
  by_cases e : b = a
  · subst e
    rcases r with r | ⟨o, r⟩
    · rw [c.hb] at r; cases r; exact .inr ⟨od, upd_same⟩
    · rw [c.hb] at r; cases r; exact (c.pl).elim
  · rcases r with r | ⟨o, r⟩
    · exact .inl (by rw [upd_ne e]; exact r)
    · exact .inr ⟨o, by rw [upd_ne e]; exact r⟩, fun b xs r => by
  by_cases e : b = a
  · subst e; rw [c.hb] at r; cases r; exact (c.nl _ rfl).elim
  · rw [upd_ne e]; exact r, fun b xs r => by
  by_cases e : b = a
  · subst e; rw [c.hb] at r; cases r; exact (c.nt _ rfl).elim
  · rw [upd_ne e]; exact r⟩
theorem le_unlock (h : Hb2 a = some (.frz od u)) : Le Hb2 (upd Hb2 a u) := ⟨fun b w pl r => by
  by_cases e : b = a
  · subst e
    rcases r with r | ⟨o, r⟩
    · rw [h] at r; cases r; exact pl.elim
    · rw [h] at r; cases r; exact .inl upd_same
  · rcases r with r | ⟨o, r⟩
    · exact .inl (by rw [upd_ne e]; exact r)
    · exact .inr ⟨o, by rw [upd_ne e]; exact r⟩, fun b xs r => by
  by_cases e : b = a
  · subst e; rw [h] at r; cases r
  · rw [upd_ne e]; exact r, fun b xs r => by
  by_cases e : b = a
  · subst e; rw [h] at r; cases r
  · rw [upd_ne e]; exact r⟩
theorem lock_ok (c : CanLock pp a u Hb H) (s : Step pp HbE HE Hb H) (so : SOk pp K Hb H) (er : ER pp K HE Hb H σ E) :
    Step pp (lkF a (.frz od u) u HbE) (lkF a (.frz od u) u HE) (upd Hb a (.frz od u)) (upd H a (.frz od u)) ∧ SOk pp K (upd Hb a (.frz od u)) (upd H a (.frz od u)) ∧ ER pp K (lkF a (.frz od u) u HE) (upd Hb a (.frz od u)) (upd H a (.frz od u)) σ E := by
  have same : ∀ {G G' : Hp}, (∀ b o, b ≠ pp → G b = some o → G' b = some o) → G' a = some u → ∀ b o, b ≠ pp → lkF a (.frz od u) u G b = some o → upd G' a (.frz od u) b = some o := fun h hg b o hb q => by
    by_cases e : b = a
    · subst e
      unfold lkF at q
      rw [if_pos rfl] at q
      rw [upd_same]
      split at q
      · cases q
      · exact q
    · rw [lkF_ne e] at q
      rw [upd_ne e]; exact h b o hb q
  refine ⟨⟨fun b o q => ?_, same s.ex c.hh, fun b q => ?_, fun b q1 q2 => ?_⟩, ⟨fun b o q => ?_, by rw [upd_ne (Ne.symm c.ne)]; exact so.np, ?_, fun b xs q => ?_⟩, ⟨er.len, fun i d e => ?_, fun i d e => ?_, er.ds, fun i b dd x e => ?_⟩⟩
  · by_cases e : b = a
    · subst e
      unfold lkF at q
      rw [if_pos rfl] at q
      rw [upd_same]
      split at q
      · cases q
      · exact q
    · rw [lkF_ne e] at q
      rw [upd_ne e]; exact s.sb b o q
  · by_cases e : b = a
    · subst e; rw [upd_same]; exact fun z => nomatch z
    · rw [upd_ne e]; exact s.st b fun z => q (lkF_none.mpr z)
  · have h1 := lkF_none.mp q1
    have h3 := s.nw b h1 fun z => q2 (lkF_none.mpr z)
    by_cases e : b = a
    · subst e; rw [c.hb] at h3; cases h3
    · rw [upd_ne e]; exact h3
  · by_cases e : b = a
    · subst e; rw [upd_same] at q ⊢; exact q
    · rw [upd_ne e] at q ⊢; exact so.le b o q
  · obtain ⟨a', ns, i, n, k, h1, h2⟩ := so.pool
    exact ⟨a', ns, i, n, k, by rw [upd_ne (Ne.symm c.ne)]; exact h1, (le_lock c).sqL h2⟩
  · by_cases e : b = a
    · subst e; rw [upd_same] at q; cases q
    · rw [upd_ne e] at q ⊢; exact so.tp b xs q
  · obtain ⟨v, h1, h2⟩ := er.sh i d e
    exact ⟨v, h1, h2.le (le_lock c)⟩
  · obtain ⟨p, h1, h2, h3⟩ := er.ow i d e
    have hne : p ≠ a := fun z => by subst z; have q := c.hb; rw [h3.nb] at q; cases q
    exact ⟨p, h1, lkF_none.mpr h2, ⟨by rw [upd_ne hne]; exact h3.nb, h3.ne, Top.step (le_lock c) (fun o h => by rw [upd_ne hne]; exact h) h3.top⟩⟩
  · obtain ⟨z1, vs, z2, z3, z4⟩ := er.xs i b dd x e
    exact ⟨z1, vs, z2, by rw [upd_ne (fun z => by subst z; rw [c.hh] at z3; exact c.nx _ (Option.some.inj z3))]; exact z3, z4.le (le_lock c)⟩
theorem unlock_ok (c : CanLock pp a u Hb H) (s : Step pp HbE HE Hb H) (s2 : Step pp (lkF a (.frz od u) u HbE) (lkF a (.frz od u) u HE) Hb2 H2) (hb2 : Hb2 a = some (.frz od u)) (so2 : SOk pp K Hb2 H2) :
    Step pp HbE HE (upd Hb2 a u) (upd H2 a u) ∧ SOk pp K (upd Hb2 a u) (upd H2 a u) := by
  refine ⟨⟨fun b o q => ?_, fun b o hb q => ?_, fun b q => ?_, fun b q1 q2 => ?_⟩, ⟨fun b o q => ?_, by rw [upd_ne (Ne.symm c.ne)]; exact so2.np, ?_, fun b xs q => ?_⟩⟩
  · by_cases e : b = a
    · subst e
      have z := s.sb b o q
      rw [c.hb] at z; cases z
      exact upd_same
    · rw [upd_ne e]; exact s2.sb b o (by rw [lkF_ne e]; exact q)
  · by_cases e : b = a
    · subst e
      have z := s.ex b o hb q
      rw [c.hh] at z; cases z
      exact upd_same
    · rw [upd_ne e]; exact s2.ex b o hb (by rw [lkF_ne e]; exact q)
  · by_cases e : b = a
    · subst e; rw [upd_same]; exact fun z => nomatch z
    · rw [upd_ne e]; exact s2.st b fun z => q (lkF_none.mp z)
  · have h3 := s2.nw b (lkF_none.mpr q1) fun z => q2 (lkF_none.mp z)
    by_cases e : b = a
    · subst e; rw [hb2] at h3; cases h3
    · rw [upd_ne e]; exact h3
  · by_cases e : b = a
    · subst e; rw [upd_same] at q ⊢; exact q
    · rw [upd_ne e] at q ⊢; exact so2.le b o q
  · obtain ⟨a', ns, i, n, k, h1, h2⟩ := so2.pool
    exact ⟨a', ns, i, n, k, by rw [upd_ne (Ne.symm c.ne)]; exact h1, (le_unlock hb2).sqL h2⟩
  · by_cases e : b = a
    · subst e; rw [upd_same] at q; cases q; exact (c.nt _ rfl).elim
    · rw [upd_ne e] at q ⊢; exact so2.tp b xs q
theorem xf_unlock {dd : Addr} {x : XD} (hb2 : Hb2 a = some (.frz od u)) (hh2 : H2 a = some (.frz od u)) (r : XF pp K Hb2 H2 dd x) : XF pp K (upd Hb2 a u) (upd H2 a u) dd x := by
  obtain ⟨vs, z2, z3, z4⟩ := r
  exact ⟨vs, z2, by rw [upd_ne (fun z => by subst z; rw [hh2] at z3; cases z3)]; exact z3, z4.le (le_unlock hb2)⟩
theorem unlock_er (hb2 : Hb2 a = some (.frz od u)) (hh2 : H2 a = some (.frz od u)) (er : ER pp K (lkF a (.frz od u) u HE) Hb2 H2 σ E) : ER pp K HE (upd Hb2 a u) (upd H2 a u) σ E := by
  refine ⟨er.len, fun i d e => ?_, fun i d e => ?_, er.ds, fun i b dd x e => ⟨(er.xs i b dd x e).1, xf_unlock hb2 hh2 (er.xs i b dd x e).2⟩⟩
  · obtain ⟨v, h1, h2⟩ := er.sh i d e
    exact ⟨v, h1, h2.le (le_unlock hb2)⟩
  · obtain ⟨p, h1, h2, h3⟩ := er.ow i d e
    have hne : p ≠ a := fun z => by subst z; have := h3.nb; rw [hb2] at this; cases this
    exact ⟨p, h1, lkF_none.mp h2, ⟨by rw [upd_ne hne]; exact h3.nb, h3.ne, Top.step (le_unlock hb2) (fun o h => by rw [upd_ne hne]; exact h) h3.top⟩⟩
end

/-! ### for k in d -/
/-- as the hand layer's tLock; an exception leaves the lock too -/
def tLockX (X : Cx) (t : TS) : TS := fun D σ H => ∃ d u, H d = some u ∧ L2.Mut (some u) ∧ ((∀ o' u', X.H_0 d ≠ some (.frz o' u')) → ∀ od, t ⟨fun σ' H' => H' d = some (.frz od u) ∧ D.nx σ' (upd H' d u), fun v H' => H' d = some (.frz od u) ∧ D.rt v (upd H' d u), fun σ' H' => H' d = some (.frz od u) ∧ D.bk σ' (upd H' d u), fun σ' H' => H' d = some (.frz od u) ∧ D.ct σ' (upd H' d u)⟩ σ (upd H d (.frz od u)))
theorem ps_lockX {X : Cx} {st : Stmt} {t : TS} (h : PS X st t) : PS X st (tLockX X t) := by
  refine ⟨fun pins s σ H D I hw => ?_⟩
  obtain ⟨d, u, hd, mu, hw⟩ := hw
  obtain ⟨od, I1⟩ := I.lock hd mu
  refine thn (h.run pins s σ _ _ I1 (hw (I.nofrz hd mu) od)) fun f s1 q => ?_
  cases f with
  | next => obtain ⟨σ', H', I2, e, q⟩ := q; exact ⟨σ', _, I2.unlock e (I.nofrz hd mu), q⟩
  | brk => obtain ⟨σ', H', I2, e, q⟩ := q; exact ⟨σ', _, I2.unlock e (I.nofrz hd mu), q⟩
  | cont => obtain ⟨σ', H', I2, e, q⟩ := q; exact ⟨σ', _, I2.unlock e (I.nofrz hd mu), q⟩
  | ret v => obtain ⟨x, σ', H', I2, r, e, q⟩ := q; exact ⟨x, σ', _, I2.unlock e (I.nofrz hd mu), r, q⟩
theorem wm_unlock {X : Cx} {a : Addr} {od : Obj} {u : HO} {cls : Value} {d : Option Addr} {σ : L2.St} {H : Hp} (hn : ∀ o' u', X.H_0 a ≠ some (.frz o' u')) (h : H a = some (.frz od u)) (w : Wm X cls d σ (upd H a u)) : Wm X cls d σ H := fun u' s' ⟨b, B, sI, pins, σ', H', cls', d', e, I, nb, up, sky, na, os, ag, h1, h2, h3, h4⟩ => by
  subst h1; subst h2; subst h3; subst h4
  exact w u' s' ⟨b, B, sI, pins, _, _, _, _, e, I.unlock h hn, nb, up, sky, by rw [upd_ne (fun z => by subst z; rw [h] at na; cases na)]; exact na, os, ag, rfl, rfl, rfl, rfl⟩
theorem for_read {X : Cx} {wi : TI} {tg' : TG} {tb : TS} {pi : DI} {g : DG} {p : DS} {pp : Addr} {HbE HE Hb H : Hp} {σ : L2.St} {E : List Sl} {Dn : Ends} {DD : DEnds}
    (i2 : ∀ (R : It → Hp → Prop) (QD : List D → Prop), pi E QD → (∀ J items Hb' H', Step pp Hb H Hb' H' → SOk pp X.K Hb' H' → WalkJ pp X.K Hb' J items → QD items → R J H') → wi σ H R)
    (g2 : ∀ (pp : Addr) (HE Hb H : Hp) (σ : L2.St) (E : List Sl) (v : V) (d : D) (Q : L2.St → Hp → Prop) (QD : List Sl → Prop), SOk pp X.K Hb H → ER pp X.K HE Hb H σ E → Rep pp X.K Hb d v → g d E QD → (∀ σ' E', ER pp X.K HE Hb H σ' E' → QD E' → Q σ' H) → tg' v σ H Q)
    (b2 : RS X tb p) (s : Step pp HbE HE Hb H) (so : SOk pp X.K Hb H) (er : ER pp X.K HE Hb H σ E) (h : dFor pi g p DD E) (oc : EndsOk pp X Hb HE Dn DD) : tFor wi tg' tb Dn σ H := by
  refine i2 _ _ h fun J items Hb0 H0 s0 so0 wk q0 => ?_
  have sE := s.trans s0
  have oc := oc.cut (s.here.trans s0)
  refine ⟨fun i m σ H => m = items.length - i ∧ i ≤ items.length ∧ ∃ Hb E, Step pp Hb0 HE Hb H ∧ SOk pp X.K Hb H ∧ ER pp X.K HE Hb H σ E ∧ forL g p DD (items.drop i) E, ⟨items.length, rfl, Nat.zero_le _, Hb0, E, sE.here, so0, er.step s0, by simpa using q0⟩, ?_⟩
  rintro i m σ1 H1 ⟨rfl, hi, Hb1, E1, s1, so1, er1, f1⟩
  have w1 := wk Hb1 H1 s1.sb so1 i
  by_cases hlt : i < items.length
  · have ed : items[i]? = some items[i] := by simp [hlt]
    obtain ⟨go, yl⟩ := w1.1 _ ed
    rw [List.drop_eq_getElem_cons hlt] at f1
    refine .inr ⟨go, fun σ' H' => (items.length - (i + 1)) = items.length - (i + 1) ∧ i + 1 ≤ items.length ∧ ∃ Hb E, Step pp Hb0 HE Hb H' ∧ SOk pp X.K Hb H' ∧ ER pp X.K HE Hb H' σ' E ∧ forL g p DD (items.drop (i + 1)) E, fun σ' H' w => ⟨items.length - (i + 1), by omega, w⟩, fun x H2 y => ?_⟩
    obtain ⟨Hb2, s2, so2, r2⟩ := yl x H2 y
    refine g2 pp HE Hb2 H2 σ1 E1 _ _ _ _ so2 (er1.step s2) r2 f1 fun σ' E' er' q' => ?_
    exact b2 pp Hb0 HE Hb2 H2 σ' E' _ _ (s1.trans s2) so2 er' q' ⟨fun Hb H σ E s so er h => ⟨rfl, hlt, Hb, E, s, so, er, h⟩, oc.rt, oc.nx, fun Hb H σ E s so er h => ⟨rfl, hlt, Hb, E, s, so, er, h⟩, oc.rf, oc.ex⟩
  · have e : i = items.length := by omega
    subst e
    refine .inl ⟨w1.2 rfl, ?_⟩
    rw [List.drop_length] at f1
    exact oc.nx Hb1 H1 σ1 E1 s1 so1 er1 f1
def keyD : Key → D
  | .inl i => .int i
  | .inr x => .str x
theorem keyD_rep {pp : Addr} {K : FK} {H : Hp} (k : Key) : Rep pp K H (keyD k) (kV k) := by
  cases k
  · exact rep_int
  · exact rep_str
theorem walk_keys {pp : Addr} {K : FK} {Hb : Hp} {a : Addr} {o : Obj} {ws : List (Key × V)} (h : Hb a = some (.frz o (.dK ws))) : WalkJ pp K Hb (Itk a o ws) ((ws.map (·.1)).map keyD) := by
  intro Hb1 H1 sm so i
  have h1 : H1 a = some (.frz o (.dK ws)) := so.le _ _ (sm _ _ h)
  refine ⟨fun d ed => ?_, fun e => ⟨h1, by rw [e]; simp⟩⟩
  have hi : i < ws.length := by
    have := (List.getElem?_eq_some_iff.mp ed).1
    simpa using this
  refine ⟨⟨h1, hi⟩, fun x H2 y => ?_⟩
  obtain ⟨e2, k, v, ek, rfl⟩ := y
  subst e2
  have e3 : d = keyD k := by
    rw [List.getElem?_map, List.getElem?_map, ek] at ed
    exact (Option.some.inj ed).symm
  subst e3
  exact ⟨Hb1, .refl, so, keyD_rep k⟩
/-- the keys of the dict in slot i -/
def dKeys (i : Nat) : DI := fun E Q => match E[i]? with
  | some (.sh (.dic ks _)) => Q (ks.map keyD)
  | _ => False
section
variable {X : Cx} {tg : Expr} {sts : List Stmt} {p : DS} {g : DG} {pos : Pos}
theorem keys_run {pp : Addr} {Hb H : Hp} {σ : L2.St} {E : List Sl} {i : Nat} {a : Addr} {o : Obj} {ws : List (Key × V)} {ds : List D} {ks : List Key} (so : SOk pp X.K Hb H) (ei : E[i]? = some (.sh (.dic ks ds))) (hσ : σ[i]? = some (some (.ref a))) (hb : Hb a = some (.frz o (.dK ws))) (hk : ws.map (·.1) = ks)
    (R : It → Hp → Prop) (QD : List D → Prop) (h : dKeys i E QD) (k : ∀ J items Hb' H', Step pp Hb H Hb' H' → SOk pp X.K Hb' H' → WalkJ pp X.K Hb' J items → QD items → R J H') : iKeys (tVar i) σ H R := by
  unfold dKeys at h
  rw [ei] at h
  exact ⟨_, hσ, a, o, rfl, .inl ⟨ws, so.le _ _ hb, k _ _ Hb H .refl so (walk_keys hb) (by rw [hk]; exact h)⟩⟩
theorem s_forK (i : Nat) {x : Str} {xp : Pos} (hp : PassesOwn (model X.prog X.w) X.A X.env X.xe) (hc : X.calm = true) (hg : QG X tg g) (hb : QSs X sts p) (hN : X.N[i]? = some x := by rfl) (hvis : Vis X.env.scope x := by first | exact Or.inl rfl | exact Or.inr (Or.inl rfl) | exact Or.inr (Or.inr rfl)) (hd : (x == ("__debug__" : Str)) = false := by decide)
    (hcd : (x == ("__classdict__" : Str)) = false := by decide) (hs : ∀ y, foldedSetIterable (.Name x xp) X.env y = pure y := by intro _; rfl) : QS X (.For tg (.Name x xp) sts [] pos) (dFor (dKeys i) g p) := by
  obtain ⟨tg', g1, g2⟩ := hg
  obtain ⟨tb, b1, b2⟩ := hb
  have base := ps_for (pos := pos) hp hc (pi_keys (L2.pv i hN hvis hd hcd)) g1 b1 hs
  refine ⟨_, PS.or (ps_lockX base) base, fun pp HbE HE Hb H σ E Dn DD s so er h o => ?_⟩
  have ei : ∃ ks ds, E[i]? = some (.sh (.dic ks ds)) := by
    have h' := h
    unfold dFor dKeys at h'
    split at h'
    · exact ⟨_, _, by assumption⟩
    · exact h'.elim
  obtain ⟨ks, ds, ei⟩ := ei
  obtain ⟨v, h1, h2⟩ := er.sh i _ ei
  unfold Rep at h2
  obtain ⟨a, ws, rfl, h3, h4, h5⟩ := h2
  rcases h3 with h3 | ⟨oo, h3⟩
  · have c : CanLock pp a (.dK ws) Hb H := ⟨h3, so.le _ _ h3, (fun z => by subst z; rw [so.np] at h3; cases h3), trivial, (fun xs z => nomatch z), (fun xs z => nomatch z), (fun xs z => nomatch z)⟩
    refine .inl ⟨a, .dK ws, c.hh, trivial, fun hn od => ?_⟩
    obtain ⟨s1, so1, er1⟩ := lock_ok (od := od) c s so er
    have fz : ∀ {Hb2 H2 : Hp}, Step pp (upd Hb a (.frz od (.dK ws))) (lkF a (.frz od (.dK ws)) (.dK ws) HE) Hb2 H2 → Hb2 a = some (.frz od (.dK ws)) := fun s2 => s2.sb a _ upd_same
    refine for_read (pi := dKeys i) (g := g) (p := p) (DD := DD) (fun R QD q k => keys_run so1 ei h1 upd_same h4 R QD q k) g2 b2 s1 so1 er1 h ⟨fun Hb2 H2 σ2 E2 s2 so2 er2 q => ?_, fun Hb2 H2 v2 d2 s2 so2 r2 q => ?_, fun Hb2 H2 σ2 E2 s2 so2 er2 q => ?_, fun Hb2 H2 σ2 E2 s2 so2 er2 q => ?_, fun Hb2 H2 p2 d2 s2 so2 n2 o2 q => ?_, fun Hb2 H2 σ2 E2 x2 cls2 d2 s2 so2 er2 r2 q => ?_⟩
    · obtain ⟨u1, u2⟩ := unlock_ok (u := .dK ws) c s (s1.cut s2) (fz s2) so2
      exact ⟨so2.le _ _ (fz s2), o.nx _ _ σ2 E2 u1 u2 (unlock_er (fz s2) (so2.le _ _ (fz s2)) er2) q⟩
    · obtain ⟨u1, u2⟩ := unlock_ok (u := .dK ws) c s (s1.cut s2) (fz s2) so2
      exact ⟨so2.le _ _ (fz s2), o.rt _ _ v2 d2 u1 u2 (r2.le (le_unlock (fz s2))) q⟩
    · obtain ⟨u1, u2⟩ := unlock_ok (u := .dK ws) c s (s1.cut s2) (fz s2) so2
      exact ⟨so2.le _ _ (fz s2), o.bk _ _ σ2 E2 u1 u2 (unlock_er (fz s2) (so2.le _ _ (fz s2)) er2) q⟩
    · obtain ⟨u1, u2⟩ := unlock_ok (u := .dK ws) c s (s1.cut s2) (fz s2) so2
      exact ⟨so2.le _ _ (fz s2), o.ct _ _ σ2 E2 u1 u2 (unlock_er (fz s2) (so2.le _ _ (fz s2)) er2) q⟩
    · obtain ⟨u1, u2⟩ := unlock_ok (u := .dK ws) c s (s1.cut s2) (fz s2) so2
      have hne : p2 ≠ a := fun z => by subst z; have := o2.nb; rw [fz s2] at this; cases this
      exact ⟨so2.le _ _ (fz s2), o.rf _ _ p2 d2 u1 u2 (lkF_none.mp n2) ⟨by rw [upd_ne hne]; exact o2.nb, o2.ne, Top.step (le_unlock (fz s2)) (fun o h => by rw [upd_ne hne]; exact h) o2.top⟩ q⟩
    · obtain ⟨u1, u2⟩ := unlock_ok (u := .dK ws) c s (s1.cut s2) (fz s2) so2
      obtain ⟨m2, dd, ed, x2⟩ := r2
      exact wm_unlock hn (so2.le _ _ (fz s2)) (o.ex _ _ σ2 E2 _ _ _ u1 u2 (unlock_er (fz s2) (so2.le _ _ (fz s2)) er2) ⟨m2, dd, ed, xf_unlock (fz s2) (so2.le _ _ (fz s2)) x2⟩ q)
  · exact .inr (for_read (pi := dKeys i) (g := g) (p := p) (DD := DD) (fun R QD q k => keys_run so ei h1 h3 h4 R QD q k) g2 b2 s so er h (o.cut s))
end
end DL

namespace DL
open PySem PySem.Spec PyProof.Rows L2

section
variable {pp a : Addr} {K : FK} {HE Hb H : Hp} {od : Obj} {u : HO} {σ : L2.St} {E : List Sl}
theorem lock_so (c : CanLock pp a u Hb H) (so : SOk pp K Hb H) : Step pp (upd Hb a (.frz od u)) (upd H a (.frz od u)) (upd Hb a (.frz od u)) (upd H a (.frz od u)) ∧ SOk pp K (upd Hb a (.frz od u)) (upd H a (.frz od u)) := by
  refine ⟨.refl, ⟨fun b o q => ?_, by rw [upd_ne (Ne.symm c.ne)]; exact so.np, ?_, fun b xs q => ?_⟩⟩
  · by_cases e : b = a
    · subst e; rw [upd_same] at q ⊢; exact q
    · rw [upd_ne e] at q ⊢; exact so.le b o q
  · obtain ⟨a', ns, i, n, k, h1, h2⟩ := so.pool
    exact ⟨a', ns, i, n, k, by rw [upd_ne (Ne.symm c.ne)]; exact h1, (le_lock c).sqL h2⟩
  · by_cases e : b = a
    · subst e; rw [upd_same] at q; cases q
    · rw [upd_ne e] at q ⊢; exact so.tp b xs q
theorem lock_er (c : CanLock pp a u Hb H) (er : ER pp K HE Hb H σ E) : ER pp K HE (upd Hb a (.frz od u)) (upd H a (.frz od u)) σ E := by
  refine ⟨er.len, fun i d e => ?_, fun i d e => ?_, er.ds, fun i b dd x e => ?_⟩
  · obtain ⟨v, h1, h2⟩ := er.sh i d e
    exact ⟨v, h1, h2.le (le_lock c)⟩
  · obtain ⟨p, h1, h2, h3⟩ := er.ow i d e
    have hne : p ≠ a := fun z => by subst z; have q := c.hb; rw [h3.nb] at q; cases q
    exact ⟨p, h1, h2, ⟨by rw [upd_ne hne]; exact h3.nb, h3.ne, Top.step (le_lock c) (fun o h => by rw [upd_ne hne]; exact h) h3.top⟩⟩
  · obtain ⟨z1, vs, z2, z3, z4⟩ := er.xs i b dd x e
    exact ⟨z1, vs, z2, by rw [upd_ne (fun z => by subst z; rw [c.hh] at z3; exact c.nx _ (Option.some.inj z3))]; exact z3, z4.le (le_lock c)⟩
end
section
variable {X : Cx} {elt tg : Expr} {ifs : List Expr} {scope : Scope} {pos : Pos} {g : DG} {c : DT} {p : DX}
theorem PE.or {e : Expr} {t u : TE} (h : PE X e t) (h' : PE X e u) : PE X e (fun σ H Q => t σ H Q ∨ u σ H Q) := by
  refine ⟨fun pins s σ H Q I q => ?_⟩
  rcases q with q | q
  · exact h.run pins s σ H Q I q
  · exact h'.run pins s σ H Q I q
/-- [e for k in d], d in slot i -/
theorem f_lcK {vs : List Nat} (i : Nat) {x : Str} {xp : Pos} (own : List (Str × Nat)) (hc : X.calm = true) (hN : X.N.Nodup) {N0 : List Str} {sc0 : Scope} (ok : blkC N0 sc0 scope own = true) (hv : own.map (·.2) = vs)
    (hg : ∀ (s : Shared) (H : Hp) (C : Addr) (cl : List (Str × Addr)) (fp : List Addr), QGv (X.blk s H scope (compEnvC scope cl C X.env) fp) tg vs g) (ht : ∀ (s : Shared) (H : Hp) (C : Addr) (cl : List (Str × Addr)) (fp : List Addr), QTs (X.blk s H scope (compEnvC scope cl C X.env) fp) ifs c)
    (he : ∀ (s : Shared) (H : Hp) (C : Addr) (cl : List (Str × Addr)) (fp : List Addr), QE (X.blk s H scope (compEnvC scope cl C X.env) fp) elt p)
    (hNi : X.N[i]? = some x := by rfl) (hvis : Vis X.env.scope x := by first | exact Or.inl rfl | exact Or.inr (Or.inl rfl) | exact Or.inr (Or.inr rfl)) (hd : (x == ("__debug__" : Str)) = false := by decide)
    (hcd : (x == ("__classdict__" : Str)) = false := by decide) (hs : ∀ y, foldedSetIterable (.Name x xp) X.env y = pure y := by intro _; rfl) (eN : X.N = N0 := by rfl) (eS : X.env.scope = sc0 := by rfl) :
    QF X (.ListComp elt [⟨tg, .Name x xp, ifs, 0⟩] scope pos) (dLc (dKeys i) g vs c p) := by
  subst hv eN eS
  have base := pe_lc (pos := pos) (g := TGvof X.K (own.map (·.2)) g) (tt := TTof X.K c) (te := TEof X.K p) hc hN (pi_keys (L2.pv i hNi hvis hd hcd)) (blkOk_by ok) (fun s H C cl fp => (hg s H C cl fp).pg) (fun s H C cl fp => (ht s H C cl fp).pts) (fun s H C cl fp => (he s H C cl fp).pe) hs
  refine ⟨_, PE.or (pe_lock base) base, fun pp HE Hb H σ E Q QD so er hp k => ?_⟩
  have ei : ∃ ks ds, E[i]? = some (.sh (.dic ks ds)) := by
    have h' := hp
    unfold dLc dKeys at h'
    split at h'
    · exact ⟨_, _, by assumption⟩
    · exact h'.elim
  obtain ⟨ks, ds, ei⟩ := ei
  obtain ⟨v, h1, h2⟩ := er.sh i _ ei
  unfold Rep at h2
  obtain ⟨a, ws, rfl, h3, h4, h5⟩ := h2
  rcases h3 with h3 | ⟨oo, h3⟩
  · have cl : CanLock pp a (.dK ws) Hb H := ⟨h3, so.le _ _ h3, (fun z => by subst z; rw [so.np] at h3; cases h3), trivial, (fun xs z => nomatch z), (fun xs z => nomatch z), (fun xs z => nomatch z)⟩
    refine .inl ⟨a, .dK ws, cl.hh, trivial, fun od => ?_⟩
    obtain ⟨s1, so1⟩ := lock_so (od := od) cl so
    have er1 := lock_er (od := od) cl er
    refine lc_read (pi := dKeys i) (g := g) (c := c) (p := p) (QD := QD) (fun R QD q k => keys_run so1 ei h1 upd_same h4 R QD q k) so1 er1 hp fun L d Hb2 H2 s2 so2 hn o2 q2 => ?_
    have hb2 : Hb2 a = some (.frz od (.dK ws)) := s2.sb a _ upd_same
    have hne : L ≠ a := fun z => by subst z; rw [upd_same] at hn; cases hn
    rw [← lkF_upd (u := .dK ws) cl.hb, ← lkF_upd (u := .dK ws) cl.hh] at s2
    obtain ⟨u1, u2⟩ := unlock_ok (u := .dK ws) cl .refl s2 hb2 so2
    exact ⟨so2.le _ _ hb2, k L d _ _ u1 u2 (by rw [upd_ne hne] at hn; exact hn) ⟨by rw [upd_ne hne]; exact o2.nb, o2.ne, Top.step (le_unlock hb2) (fun o h => by rw [upd_ne hne]; exact h) o2.top⟩ q2⟩
  · exact .inr (lc_read (fun R QD q k => keys_run so ei h1 h3 h4 R QD q k) so er hp k)
end

/-! ### sorted, list(range(..)) -/
section
variable {X : Cx} {a b c e : Expr} {es : List Expr} {pa pb pc pe : DX} {pos : Pos}
def isInl : Key → Option Int
  | .inl i => some i
  | .inr _ => none
def isInr : Key → Option Str
  | .inl _ => none
  | .inr i => some i
def inls : List Key → Option (List Int)
  | [] => some []
  | .inl i :: r => (inls r).map (i :: ·)
  | _ => none
def inrs : List Key → Option (List Str)
  | [] => some []
  | .inr i :: r => (inrs r).map (i :: ·)
  | _ => none
theorem inls_eq : ∀ {ks : List Key} {ns : List Int}, inls ks = some ns → ks = ns.map Sum.inl
  | [], ns, h => by simp [inls] at h; subst h; rfl
  | .inl i :: r, ns, h => by
    simp [inls] at h
    obtain ⟨m, h1, rfl⟩ := h
    rw [inls_eq h1]; rfl
  | .inr i :: r, ns, h => by simp [inls] at h
theorem inls_map (ns : List Int) : inls (ns.map Sum.inl) = some ns := by
  induction ns with
  | nil => rfl
  | cons b bs ih => simp [inls, ih]
theorem inrs_eq : ∀ {ks : List Key} {ns : List Str}, inrs ks = some ns → ks = ns.map Sum.inr
  | [], ns, h => by simp [inrs] at h; subst h; rfl
  | .inr i :: r, ns, h => by
    simp [inrs] at h
    obtain ⟨m, h1, rfl⟩ := h
    rw [inrs_eq h1]; rfl
  | .inl i :: r, ns, h => by simp [inrs] at h
theorem inrs_map (ns : List Str) : inrs (ns.map Sum.inr) = some ns := by
  induction ns with
  | nil => rfl
  | cons b bs ih => simp [inrs, ih]
/-- sorted of a dict with int keys: any sorted list of the keys -/
def rdSortedI : List D → (D → Prop) → Prop := fun ds Q => match ds with
  | [.dic ks _] => match inls ks with
    | some ns => ns.length < 64 ∧ ∀ ys : List Int, ys.Perm ns → ys.Pairwise (· ≤ ·) → Q (.lst (ys.map D.int))
    | none => False
  | _ => False
theorem cdf_sortedI (hc : X.calm = true) : CDF X (.builtin "sorted") rdSortedI := by
  refine ⟨_, call_sortedDI hc, fun pp Hb H xs ds Q QD so r h k => ?_⟩
  unfold rdSortedI at h
  split at h
  · split at h
    · rename_i ns e
      obtain ⟨v, rfl, y⟩ := r.one
      obtain ⟨a, ws, rfl, h1, hk, r1⟩ := y.dic so
      refine ⟨a, ws, ns, rfl, h1, by rw [hk]; exact inls_eq e, h.1, fun ys p pm sr hp => ?_⟩
      obtain ⟨s2, so2⟩ := lay_own (u := .lst (ys.map V.int)) so hp
      exact k p (.lst _) _ _ s2 so2 hp ⟨so.nb hp, so.ne hp, ⟨_, upd_same, rep_ints ys⟩⟩ (h.2 ys pm sr)
    · exact h.elim
  · exact h.elim
def rdSortedS : List D → (D → Prop) → Prop := fun ds Q => match ds with
  | [.dic ks _] => match inrs ks with
    | some ns => ns.length < 64 ∧ ∀ ys : List Str, ys.Perm ns → sortedS ys = true → Q (.lst (ys.map D.str))
    | none => False
  | _ => False
theorem cdf_sortedS (hc : X.calm = true) : CDF X (.builtin "sorted") rdSortedS := by
  refine ⟨_, call_sortedD hc, fun pp Hb H xs ds Q QD so r h k => ?_⟩
  unfold rdSortedS at h
  split at h
  · split at h
    · rename_i ns e
      obtain ⟨v, rfl, y⟩ := r.one
      obtain ⟨a, ws, rfl, h1, hk, r1⟩ := y.dic so
      refine ⟨a, ws, ns, rfl, h1, by rw [hk]; exact inrs_eq e, h.1, fun ys p pm sr hp => ?_⟩
      obtain ⟨s2, so2⟩ := lay_own (u := .lst (ys.map V.str)) so hp
      exact k p (.lst _) _ _ s2 so2 hp ⟨so.nb hp, so.ne hp, ⟨_, upd_same, rep_strs ys⟩⟩ (h.2 ys pm sr)
    · exact h.elim
  · exact h.elim
theorem rgV_eq (a b : Int) : rgV a b = (rangeD a (b - a).toNat).map fun d => match d with | .int i => V.int i | _ => .non := by
  unfold rgV rangeD
  rw [List.map_map]
  rfl
theorem rep_range {pp : Addr} {K : FK} {H : Hp} (a b : Int) : RepL pp K H (rangeD a (b - a).toNat) (rgV a b) := by
  have e1 : rangeD a (b - a).toNat = ((List.range (b - a).toNat).map fun i => a + (i : Nat)).map D.int := by
    unfold rangeD; rw [List.map_map]; rfl
  have e2 : rgV a b = ((List.range (b - a).toNat).map fun i => a + (i : Nat)).map V.int := by
    unfold rgV; rw [List.map_map]; rfl
  rw [e1, e2]
  exact rep_ints _
def dLstRg (pa pb : DX) : DX := fun E Q => pa E fun x => pb E fun y => match x, y with
  | .int i, .int j => RgOk i j ∧ Q (.lst (rangeD i (j - i).toNat))
  | _, _ => False
theorem f_listRg2 {p p2 pos2 : Pos} (hc : X.calm = true) (hg : Gl X "list") (hm : X.mg "list" = none) (hg2 : Gl X "range") (hm2 : X.mg "range" = none) (ha : QE X a pa) (hb : QE X b pb)
    (n1 : starEach [a, b] X.env = (false, eval a X.env) :: starEach [b] X.env := by rfl) (n2 : starEach [b] X.env = (false, eval b X.env) :: starEach [] X.env := by rfl) (hp : (backTo pos2 (starEach [b] X.env)).any (·.1) = false := by rfl)
    (na : starEach [Expr.Call (.Name "range" p2) [a, b] [] pos2] X.env = (false, eval (.Call (.Name "range" p2) [a, b] [] pos2) X.env) :: starEach [] X.env := by rfl) :
    QF X (.Call (.Name "list" p) [.Call (.Name "range" p2) [a, b] [] pos2] [] pos) (dLstRg pa pb) := by
  obtain ⟨t, t1, t2⟩ := ha
  obtain ⟨u, u1, u2⟩ := hb
  refine ⟨_, pe_listRg hc hg hm (prg_2 hg2 hm2 t1 u1 n1 n2 hp) na, fun pp HE Hb H σ E Q QD so er hp k => ?_⟩
  refine t2 pp HE Hb H σ E _ _ so er hp fun v d Hb1 H1 s1 so1 r1 q1 => ?_
  refine u2 pp HE Hb1 H1 σ E _ _ so1 (er.step s1) q1 fun v2 d2 Hb2 H2 s2 so2 r2 q2 => ?_
  split at q2
  · unfold Rep at r1 r2
    refine ⟨_, _, r1, r2, q2.1, fun l hl => ?_⟩
    obtain ⟨s3, so3⟩ := lay_own (u := .lst (rgV _ _)) so2 hl
    have s12 := s1.trans s2
    refine k l (.lst _) _ _ (s12.trans s3) so3 ?_ ⟨so2.nb hl, so2.ne hl, ⟨_, upd_same, rep_range _ _⟩⟩ q2.2
    cases z : H l with
    | none => rfl
    | some w => exact absurd hl (s12.st l (by rw [z]; exact fun y => nomatch y))
  · exact q2.elim

/-! ### chains of two comparisons -/
theorem chain_read {K : FK} {t u w : TE} {o o' : R2} {r r' : RD} {pp : Addr} {HE Hb H : Hp} {σ : L2.St} {E : List Sl} {Q : VK} {QD : D → Prop}
    (t2 : ∀ (pp : Addr) (HE Hb H : Hp) (σ : L2.St) (E : List Sl) (Q : VK) (QD : D → Prop), SOk pp K Hb H → ER pp K HE Hb H σ E → pa E QD → (∀ v d Hb' H', Step pp Hb H Hb' H' → SOk pp K Hb' H' → Rep pp K Hb' d v → QD d → Q v H') → t σ H Q)
    (u2 : ∀ (pp : Addr) (HE Hb H : Hp) (σ : L2.St) (E : List Sl) (Q : VK) (QD : D → Prop), SOk pp K Hb H → ER pp K HE Hb H σ E → pb E QD → (∀ v d Hb' H', Step pp Hb H Hb' H' → SOk pp K Hb' H' → Rep pp K Hb' d v → QD d → Q v H') → u σ H Q)
    (w2 : ∀ (pp : Addr) (HE Hb H : Hp) (σ : L2.St) (E : List Sl) (Q : VK) (QD : D → Prop), SOk pp K Hb H → ER pp K HE Hb H σ E → pc E QD → (∀ v d Hb' H', Step pp Hb H Hb' H' → SOk pp K Hb' H' → Rep pp K Hb' d v → QD d → Q v H') → w σ H Q)
    (o2 : ∀ (pp : Addr) (Hb H : Hp) (x y : V) (dx dy : D) (Q : VK) (QD : D → Prop), SOk pp K Hb H → RepT pp K Hb H dx x → RepT pp K Hb H dy y → r dx dy QD → (∀ v d Hb' H', Step pp Hb H Hb' H' → SOk pp K Hb' H' → Rep pp K Hb' d v → QD d → Q v H') → o x y H Q)
    (o2' : ∀ (pp : Addr) (Hb H : Hp) (x y : V) (dx dy : D) (Q : VK) (QD : D → Prop), SOk pp K Hb H → RepT pp K Hb H dx x → RepT pp K Hb H dy y → r' dx dy QD → (∀ v d Hb' H', Step pp Hb H Hb' H' → SOk pp K Hb' H' → Rep pp K Hb' d v → QD d → Q v H') → o' x y H Q)
    (so : SOk pp K Hb H) (er : ER pp K HE Hb H σ E) (hp : dChain r r' pa pb pc E QD) (k : ∀ v d Hb' H', Step pp Hb H Hb' H' → SOk pp K Hb' H' → Rep pp K Hb' d v → QD d → Q v H') : tChain o o' t u w σ H Q := by
  refine t2 pp HE Hb H σ E _ _ so er hp fun v d Hb1 H1 s1 so1 r1 q1 => ?_
  refine u2 pp HE Hb1 H1 σ E _ _ so1 (er.step s1) q1 fun v2 d2 Hb2 H2 s2 so2 r2 q2 => ?_
  refine o2 pp Hb2 H2 _ _ _ _ _ _ so2 (.inl (r1.le s2.le)) (.inl r2) q2 fun v3 d3 Hb3 H3 s3 so3 r3 q3 => ?_
  have s12 := s1.trans s2
  have s123 := s12.trans s3
  split at q3
  · rename_i kb
    unfold Rep at r3
    refine ⟨_, r3, ?_⟩
    cases kb with
    | true =>
      rw [if_pos rfl] at q3 ⊢
      refine w2 pp HE Hb3 H3 σ E _ _ so3 (er.step s123) q3 fun v4 d4 Hb4 H4 s4 so4 r4 q4 => ?_
      exact o2' pp Hb4 H4 _ _ _ _ _ _ so4 (.inl (r2.le (s3.trans s4).le)) (.inl r4) q4 fun v5 d5 Hb5 H5 s5 so5 r5 q5 => k v5 d5 Hb5 H5 ((s123.trans s4).trans s5) so5 r5 q5
    | false =>
      rw [if_neg Bool.false_ne_true] at q3 ⊢
      exact k _ _ Hb3 H3 s123 so3 rep_bl q3
  · exact q3.elim
theorem t_chain {op op' : CmpOp} {r r' : RD} (ho : OD X (compareOp op) r) (ho' : OD X (compareOp op') r') (ha : QE X a pa) (hb : QE X b pb) (hc : QE X c pc) (hm : lastMarks [op, op'] [b, c] = false := by with_unfolding_all rfl) :
    QT X (.Compare a [op, op'] [b, c] pos) (dTst (dChain r r' pa pb pc)) := by
  obtain ⟨t, t1, t2⟩ := ha
  obtain ⟨u, u1, u2⟩ := hb
  obtain ⟨w, w1, w2⟩ := hc
  obtain ⟨o, o1, o2⟩ := ho
  obtain ⟨o', o1', o2'⟩ := ho'
  refine ⟨_, pt_chain o1 o1' t1 u1 w1 hm, fun pp HE Hb H σ E Q QD so er hp k => ?_⟩
  refine chain_read t2 u2 w2 o2 o2' so er hp fun v d Hb1 H1 s1 so1 r1 q1 => ?_
  split at q1
  · unfold Rep at r1
    exact ⟨_, r1, k _ Hb1 H1 s1 so1 q1⟩
  · exact q1.elim
theorem q_chain {op op' : CmpOp} {r r' : RD} (ho : OD X (compareOp op) r) (ho' : OD X (compareOp op') r') (ha : QE X a pa) (hb : QE X b pb) (hc : QE X c pc) (hm : lastMarks [op, op'] [b, c] = false := by with_unfolding_all rfl) :
    QE X (.Compare a [op, op'] [b, c] pos) (dChain r r' pa pb pc) := by
  obtain ⟨t, t1, t2⟩ := ha
  obtain ⟨u, u1, u2⟩ := hb
  obtain ⟨w, w1, w2⟩ := hc
  obtain ⟨o, o1, o2⟩ := ho
  obtain ⟨o', o1', o2'⟩ := ho'
  exact ⟨_, pe_chain o1 o1' t1 u1 w1 hm, fun pp HE Hb H σ E Q QD so er hp k => chain_read t2 u2 w2 o2 o2' so er hp k⟩

/-! ### slices -/
abbrev DO := List Sl → (Option Int → Prop) → Prop
def QP (X : Cx) (e : Option Expr) (p : DO) : Prop := ∃ t, PO X e t ∧ ∀ (pp : Addr) (HE Hb H : Hp) (σ : L2.St) (E : List Sl) (Q : Option Int → Hp → Prop) (QD : Option Int → Prop), SOk pp X.K Hb H → ER pp X.K HE Hb H σ E → p E QD →
  (∀ o Hb' H', Step pp Hb H Hb' H' → SOk pp X.K Hb' H' → QD o → Q o H') → t σ H Q
def dNoP : DO := fun _ Q => Q none
def dSmP (p : DX) : DO := fun E Q => p E fun d => match d with
  | .int i => Q (some i)
  | _ => False
theorem p_none : QP X none dNoP := ⟨_, po_none, fun pp HE Hb H σ E Q QD so er hp k => k _ Hb H .refl so hp⟩
theorem p_some (h : QE X e pe) : QP X (some e) (dSmP pe) := by
  obtain ⟨t, t1, t2⟩ := h
  refine ⟨_, po_some t1, fun pp HE Hb H σ E Q QD so er hp k => ?_⟩
  refine t2 pp HE Hb H σ E _ _ so er hp fun v d Hb1 H1 s1 so1 r1 q1 => ?_
  split at q1
  · unfold Rep at r1
    exact ⟨_, r1, k _ Hb1 H1 s1 so1 q1⟩
  · exact q1.elim
/-- the place that a slice's end names -/
def cutI (n d : Nat) : Option Int → Nat
  | none => d
  | some i => HT.sIx n d (some i)
def cutD (ds : List D) (lo hi : Option Int) : List D := (ds.drop (HT.sIx ds.length 0 lo)).take (HT.sIx ds.length ds.length hi - HT.sIx ds.length 0 lo)
def dSl (pe : DX) (pl ph : DO) : DX := fun E Q => pe E fun d => pl E fun lo => ph E fun hi => match d with
  | .lst ds => Q (.lst (cutD ds lo hi))
  | .tup ds => Q (.tup (cutD ds lo hi))
  | .tk ds => Q (.tk (cutD ds lo hi))
  | _ => False
theorem cut_rep {pp : Addr} {K : FK} {H : Hp} {ds : List D} {xs : List V} (lo hi : Option Int) (r : RepL pp K H ds xs) : RepL pp K H (cutD ds lo hi) (cutV xs lo hi) := by
  unfold cutV cutD
  rw [r.length]
  exact (r.drop _).take _
theorem q_slice {lo hi : Option Expr} {pl ph : DO} {p2 : Pos} (he : QO X e pe) (hl : QP X lo pl) (hh : QP X hi ph) : QE X (.Subscript e (.Slice lo hi none p2) pos) (dSl pe pl ph) := by
  obtain ⟨t, t1, t2⟩ := he
  obtain ⟨u, u1, u2⟩ := hl
  obtain ⟨w, w1, w2⟩ := hh
  refine ⟨_, pe_slice (sl_list.or sl_tupA) t1 u1 w1, fun pp HE Hb H σ E Q QD so er hp k => ?_⟩
  refine t2 pp HE Hb H σ E _ _ so er hp fun v d Hb1 H1 s1 so1 r1 q1 => ?_
  refine u2 pp HE Hb1 H1 σ E _ _ so1 (er.step s1) q1 fun o1 Hb2 H2 s2 so2 q2 => ?_
  refine w2 pp HE Hb2 H2 σ E _ _ so2 (er.step (s1.trans s2)) q2 fun o2 Hb3 H3 s3 so3 q3 => ?_
  have r3 := r1.step (s2.trans s3)
  have s123 := (s1.trans s2).trans s3
  split at q3
  · rename_i ds
    obtain ⟨a, xs, rfl, h1, r⟩ := r3.lst so3
    refine .inl ⟨a, xs, rfl, .of h1, fun p hp => ?_⟩
    obtain ⟨s4, so4⟩ := lay_sh (u := .lst (cutV xs o1 o2)) so3 hp
    refine k _ _ _ _ (s123.trans s4) so4 (rep_lst upd_same (cut_rep _ _ (r.le s4.le))) q3
  · rename_i ds
    obtain ⟨a, xs, rfl, h0, h1, r⟩ := r3.tup so3
    refine .inr ⟨a, xs, rfl, h1, fun e => ?_, fun e p hp => ?_⟩
    · have ec : cutD ds o1 o2 = ds := by
        unfold cutD
        rw [← r.length, e.1, e.2, List.drop_zero, Nat.sub_zero, r.length, List.take_length]
      rw [ec] at q3
      exact k _ _ Hb3 H3 s123 so3 (rep_tup h0 r) q3
    · obtain ⟨s4, so4⟩ := lay_sh (u := .tup (cutV xs o1 o2)) so3 hp
      refine k _ _ _ _ (s123.trans s4) so4 (rep_tup (.inl upd_same) (cut_rep _ _ (r.le s4.le))) q3
  · rename_i ds
    obtain ⟨a, xs, rfl, h0, h1, r⟩ := r3.tk so3
    refine .inr ⟨a, xs, rfl, .inl (.inl h1), fun e => ?_, fun e p hp => ?_⟩
    · have ec : cutD ds o1 o2 = ds := by
        unfold cutD
        rw [← r.length, e.1, e.2, List.drop_zero, Nat.sub_zero, r.length, List.take_length]
      rw [ec] at q3
      exact k _ _ Hb3 H3 s123 so3 (rep_tk h0 r) q3
    · obtain ⟨s4, so4⟩ := lay_sh (u := .tup (cutV xs o1 o2)) so3 hp
      refine k _ _ _ _ (s123.trans s4) so4 (rep_tk upd_same (cut_rep _ _ (r.le s4.le))) q3
  · exact q3.elim

/-! ### d.get -/
def dGet1 (pe pk : DX) : DX := fun E Q => pe E fun d => match d with
  | .dic ks ds => pk E fun kd => match keyOf kd with
    | some k => match lk ks ds k with
      | some x => Q x
      | none => Q .non
    | none => False
  | _ => False
def dGet2 (pe pk px : DX) : DX := fun E Q => pe E fun d => match d with
  | .dic ks ds => pk E fun kd => px E fun z => match keyOf kd with
    | some k => match lk ks ds k with
      | some x => Q x
      | none => Q z
    | none => False
  | _ => False
theorem q_get1 {k : Expr} {pk : DX} {apos : Pos} (hu : X.A.units + 1 < cLine) (he : QO X e pe) (hk : QE X k pk) (m : M1 X e "get" apos k pos := by exact ⟨rfl, rfl, rfl, rfl⟩) : QE X (.Call (.Attribute e "get" apos) [k] [] pos) (dGet1 pe pk) := by
  obtain ⟨t, t1, t2⟩ := he
  obtain ⟨u, u1, u2⟩ := hk
  refine ⟨_, pe_dget1 hu t1 u1 m, fun pp HE Hb H σ E Q QD so er hp kk => ?_⟩
  refine t2 pp HE Hb H σ E _ _ so er hp fun v d Hb1 H1 s1 so1 r1 q1 => ?_
  split at q1
  · obtain ⟨a, ws, rfl, h1, hks, r⟩ := r1.dic so1
    refine ⟨a, rfl, .inl ⟨ws, h1⟩, u2 pp HE Hb1 H1 σ E _ _ so1 (er.step s1) q1 fun v2 d2 Hb2 H2 s2 so2 r2 q2 => ?_⟩
    obtain ⟨a', ws', ea, h1', hks', r'⟩ := (r1.step s2).dic so2
    cases ea
    split at q2
    · rename_i k ek
      subst hks'
      refine ⟨_, .inl ⟨ws', k, h1', keyOf_rep so2 ek (.inl r2), rfl⟩, ?_⟩
      split at q2
      · rename_i x ex
        obtain ⟨v', hv, rv⟩ := (lk_val r').1 x ex
        rw [hv]
        exact kk _ _ Hb2 H2 (s1.trans s2) so2 rv q2
      · rename_i ex
        rw [(lk_val r').2 ex]
        exact kk _ _ Hb2 H2 (s1.trans s2) so2 rep_non q2
    · exact q2.elim
  · exact q1.elim
theorem q_get2 {k x : Expr} {pk px : DX} {apos : Pos} (hu : X.A.units + 1 < cLine) (he : QO X e pe) (hk : QE X k pk) (hx : QE X x px) (m : M2 X e "get" apos k x pos := by exact ⟨rfl, rfl, rfl, rfl⟩) : QE X (.Call (.Attribute e "get" apos) [k, x] [] pos) (dGet2 pe pk px) := by
  obtain ⟨t, t1, t2⟩ := he
  obtain ⟨u, u1, u2⟩ := hk
  obtain ⟨w, w1, w2⟩ := hx
  refine ⟨_, pe_dget2 hu t1 u1 w1 m, fun pp HE Hb H σ E Q QD so er hp kk => ?_⟩
  refine t2 pp HE Hb H σ E _ _ so er hp fun v d Hb1 H1 s1 so1 r1 q1 => ?_
  split at q1
  · obtain ⟨a, ws, rfl, h1, hks, r⟩ := r1.dic so1
    refine ⟨a, rfl, .inl ⟨ws, h1⟩, u2 pp HE Hb1 H1 σ E _ _ so1 (er.step s1) q1 fun v2 d2 Hb2 H2 s2 so2 r2 q2 => ?_⟩
    refine w2 pp HE Hb2 H2 σ E _ _ so2 (er.step (s1.trans s2)) q2 fun v3 d3 Hb3 H3 s3 so3 r3 q3 => ?_
    obtain ⟨a', ws', ea, h1', hks', r'⟩ := (r1.step (s2.trans s3)).dic so3
    cases ea
    have s123 := (s1.trans s2).trans s3
    split at q3
    · rename_i k ek
      subst hks'
      refine ⟨_, .inl ⟨ws', k, h1', keyOf_rep so3 ek (.inl (r2.le s3.le)), rfl⟩, ?_⟩
      split at q3
      · rename_i x ex
        obtain ⟨v', hv, rv⟩ := (lk_val r').1 x ex
        rw [hv]
        exact kk _ _ Hb3 H3 s123 so3 rv q3
      · rename_i ex
        rw [(lk_val r').2 ex]
        exact kk _ _ Hb3 H3 s123 so3 r3 q3
    · exact q3.elim
  · exact q1.elim
end
end DL

namespace DL
open PySem PySem.Spec PyProof.Rows L2

/-! ### defs and constants as they stand behind the top -/
structure FunAt (K : FK) (mg : Str → Option Value) (x : Str) (st : Stmt) : Prop where
  ex : ∃ f fd, Fun K x x st f fd ∧ mg x = some (.ref f)
structure GlobD (K : FK) (mg : Str → Option Value) (x : Str) (d : D) : Prop where
  ex : ∃ v u, mg x = some u ∧ RelV v u ∧ ∀ pp H, Rep pp K H d v
structure DefV (P : Program) (w : World) (K : FK) (mg : Str → Option Value) (x : Str) (ps : List Str) (k : Nat) (S : Sp) : Prop where
  ex : ∃ f fd, mg x = some (.ref f) ∧ PySem.W.keepIn K (.ref f) = true ∧ Binds K fd ps [] ∧ ∀ base, FnOk P w K mg base CX0 k f fd ps S
abbrev Def (P : Program) (w : World) (K : FK) (mg : Str → Option Value) (x : Str) (ps : List Str) (k : Nat) (S : SpecD) : Prop := DefV P w K mg x ps k (spD K S)
def startN (n : Nat) (ds : List D) : List Sl := ds.map .sh ++ List.replicate (n - ds.length) .no
def PureD (p : DS) (S : SpecD) (n k : Nat) : Prop := ∀ ds Q, S ds Q → ds.length = k ∧ p (fnEnds Q) (startN n ds)
section
variable {P : Program} {w : World} {K : FK} {mg : Str → Option Value}
theorem fnDef {x : Str} {st : Stmt} {N ps : List Str} {k : Nat} {S : SpecD} {p : DS} (F : FunAt K mg x st)
    (hb : ∀ (kV doc pm : Value) (an : Option Addr) (cdv ct : Value) (us : List Value), us.length = ps.length → bindArgs (PySem.W.fnOf x x (defArgs st) (defBody st) (defScope st) .none kV doc pm an cdv ct) ⟨us, []⟩ = pure (ps.zip us))
    (sc : FnScope N ps (defScope st)) (hp : PureD p S N.length ps.length)
    (body : ∀ (base : Heap) (f : Addr) (cdv : Value) (A : Around) (outer : List Env) (s : Shared) (H : Hp) (E : XK), Room k (A.deeper (envOfC x (defScope st) s.heap.objs.size f cdv)) →
      QSs (cxOf CX0 P w K mg base N x (defScope st) f cdv A outer s H E).nox (defBody st) p) : Def P w K mg x ps (k + 1) S := by
  obtain ⟨f, fd, F, hm⟩ := F.ex
  exact ⟨f, fd, hm, F.kp, F.binds hb, fun base => fnD F sc (fun ds Q h => (hp ds Q h).1) (fun cdv A outer s H E hr => body base f cdv A outer s H E hr) fun ds Q h => (hp ds Q h).2⟩
/-- a def by the hand layer's own reading -/
theorem fnDefV {x : Str} {st : Stmt} {N ps : List Str} {k : Nat} {S : Sp} (F : FunAt K mg x st)
    (hb : ∀ (kV doc pm : Value) (an : Option Addr) (cdv ct : Value) (us : List Value), us.length = ps.length → bindArgs (PySem.W.fnOf x x (defArgs st) (defBody st) (defScope st) .none kV doc pm an cdv ct) ⟨us, []⟩ = pure (ps.zip us))
    (sc : FnScope N ps (defScope st)) (len : ∀ vs H Q E, S vs H Q E → vs.length = ps.length)
    (body : ∀ (base : Heap) (f : Addr) (cdv : Value) (A : Around) (outer : List Env) (s : Shared) (H : Hp) (vs : List V) (Q : VK) (E : XK), Room k (A.deeper (envOfC x (defScope st) s.heap.objs.size f cdv)) → S vs H Q E →
      ∃ t, PSs (cxOf CX0 P w K mg base N x (defScope st) f cdv A outer s H E).nox (defBody st) t ∧ t { nx := fun _ H' => Q .non H', rt := Q } (L2.start N vs) H) : DefV P w K mg x ps (k + 1) S := by
  obtain ⟨f, fd, F, hm⟩ := F.ex
  exact ⟨f, fd, hm, F.kp, F.binds hb, fun base => F.ok sc len fun cdv A outer s H vs Q E hr h => body base f cdv A outer s H vs Q E hr h⟩
theorem DefV.mono {x : Str} {ps : List Str} {j k : Nat} {S : Sp} (G : DefV P w K mg x ps j S) (h : j ≤ k) : DefV P w K mg x ps k S := by
  obtain ⟨f, fd, h1, h2, h3, h4⟩ := G.ex
  exact ⟨f, fd, h1, h2, h3, fun base => (h4 base).mono h⟩
end
abbrev DefF (P : Program) (w : World) (K : FK) (mg : Str → Option Value) (x : Str) (ps : List Str) (k : Nat) (S : SpecD) : Prop := DefV P w K mg x ps k (spF K S)
def PureF (p : DS) (S : SpecD) (n k : Nat) : Prop := ∀ ds Q, S ds Q → ds.length = k ∧ p (fnEndsF Q) (startN n ds)
theorem fnDefF {P : Program} {w : World} {K : FK} {mg : Str → Option Value} {x : Str} {st : Stmt} {N ps : List Str} {k : Nat} {S : SpecD} {p : DS} (F : FunAt K mg x st)
    (hb : ∀ (kV doc pm : Value) (an : Option Addr) (cdv ct : Value) (us : List Value), us.length = ps.length → bindArgs (PySem.W.fnOf x x (defArgs st) (defBody st) (defScope st) .none kV doc pm an cdv ct) ⟨us, []⟩ = pure (ps.zip us))
    (sc : FnScope N ps (defScope st)) (hp : PureF p S N.length ps.length)
    (body : ∀ (base : Heap) (f : Addr) (cdv : Value) (A : Around) (outer : List Env) (s : Shared) (H : Hp) (E : XK), Room k (A.deeper (envOfC x (defScope st) s.heap.objs.size f cdv)) →
      QSs (cxOf CX0 P w K mg base N x (defScope st) f cdv A outer s H E).nox (defBody st) p) : DefF P w K mg x ps (k + 1) S := by
  obtain ⟨f, fd, F, hm⟩ := F.ex
  exact ⟨f, fd, hm, F.kp, F.binds hb, fun base => fnDF F sc (fun ds Q h => (hp ds Q h).1) (fun cdv A outer s H E hr => body base f cdv A outer s H E hr) fun ds Q h => (hp ds Q h).2⟩
section
variable {X : Cx} {e : Expr} {es : List Expr} {pas : DAs} {pos pp' : Pos} {x : Str} {ps : List Str} {k : Nat} {S : SpecD}
theorem f_callD (G : DefF X.prog X.w X.K X.mg x ps k S) (hr : Room k X.A) (hg : Gl X x) (ha : QA X (e :: es) pas)
    (hdb : (x == ("__debug__" : Str)) = false := by decide) (he : starEach (e :: es) X.env = (false, eval e X.env) :: starEach es X.env := by rfl) (hpl : (backTo pos (starEach es X.env)).any (·.1) = false := by rfl) :
    QF X (.Call (.Name x pp') (e :: es) [] pos) (dCall S pas) := by
  obtain ⟨f, fd, hm, hk, hb, F⟩ := G.ex
  obtain ⟨t, h1, h2⟩ := ha
  refine ⟨_, pe_call (F X.base) hr hg hm hk hb .nil pass0 h1 hdb he hpl, fun pp HE Hb H σ E Q QD so er hp k => ?_⟩
  refine h2 pp HE Hb H σ E _ _ so er hp fun vs ds Hb1 H1 s1 so1 r1 l1 q1 => ?_
  rw [List.append_nil]
  refine ⟨pp, Hb1, ds, QD, so1, r1, q1, fun d p Hb2 H2 qd s2 so2 n2 o2 => k p d Hb2 H2 (s1.trans s2) so2 ?_ o2 qd⟩
  cases z : H p with
  | none => rfl
  | some u => exact absurd n2 (s1.st p (by rw [z]; exact fun y => nomatch y))
theorem q_callD (G : Def X.prog X.w X.K X.mg x ps k S) (hr : Room k X.A) (hg : Gl X x) (ha : QA X (e :: es) pas)
    (hdb : (x == ("__debug__" : Str)) = false := by decide) (he : starEach (e :: es) X.env = (false, eval e X.env) :: starEach es X.env := by rfl) (hpl : (backTo pos (starEach es X.env)).any (·.1) = false := by rfl) :
    QE X (.Call (.Name x pp') (e :: es) [] pos) (dCall S pas) := by
  obtain ⟨f, fd, h1, h2, h3, h4⟩ := G.ex
  exact q_call (h4 X.base) hr hg h1 h2 h3 ha hdb he hpl
theorem q_globD {d : D} (G : GlobD X.K X.mg x d) (hg : Gl X x) (hd : (x == ("__debug__" : Str)) = false := by decide) : QE X (.Name x pos) (dC d) := by
  obtain ⟨v, u, h1, h2, h3⟩ := G.ex
  exact q_glob hg h1 h2 h3 hd
/-- a call of a def that the hand layer read -/
theorem pe_callV {t : TA} {S : Sp} (G : DefV X.prog X.w X.K X.mg x ps k S) (hr : Room k X.A) (hg : Gl X x) (ha : PA X (e :: es) t)
    (hdb : (x == ("__debug__" : Str)) = false := by decide) (he : starEach (e :: es) X.env = (false, eval e X.env) :: starEach es X.env := by rfl) (hpl : (backTo pos (starEach es X.env)).any (·.1) = false := by rfl) :
    PE X (.Call (.Name x pp') (e :: es) [] pos) (tCall S [] E0 t) := by
  obtain ⟨f, fd, h1, h2, h3, h4⟩ := G.ex
  exact pe_call (h4 X.base) hr hg h1 h2 h3 .nil pass0 ha hdb he hpl
end

/-! ### the pool -/
def spMixed : Sp := fun vs H Q _ => ∃ i j : Int, vs = [.int i, .int j] ∧ ∀ r : Int, Q (.int r) H
def spRest (K : FK) : Sp := fun vs H Q _ => ∃ (a : Addr) (ns : List Int) (i j : Int), vs = [.ref a, .int i, .int j] ∧ SqL K H a (ns.map V.int) ∧ ∀ r : Int, Q (.int r) H
def spPool (K : FK) : Sp := fun vs H Q _ => ∃ (a : Addr) (ns : List Int), vs = [.ref a] ∧ SqL K H a (ns.map V.int) ∧ ∀ (l : Addr) (r : Int), H l = none → Q (.ref l) (upd H l (.lst [.ref a, .int 0, .int r, .int 0]))
def S_law_next : SpecD := fun ds Q => ds = [.pool] ∧ Q .non
def S_law_draw : SpecD := fun ds Q => ∃ l : Int, ds = [.pool, .int l] ∧ 0 < l ∧ l < 1073741824 ∧ ∀ v : Int, 0 ≤ v → v < l → Q (.int v)
/-- the pool's list is changed -/
theorem pool_ok {pp : Addr} {K : FK} {Hb H : Hp} {a : Addr} {ns : List Int} {i n k i' n' k' : Int} (so : SOk pp K Hb H) (h1 : H pp = some (.lst [.ref a, .int i, .int n, .int k])) (h2 : SqL K Hb a (ns.map V.int)) :
    Step pp Hb H Hb (upd H pp (.lst [.ref a, .int i', .int n', .int k'])) ∧ SOk pp K Hb (upd H pp (.lst [.ref a, .int i', .int n', .int k'])) := by
  refine ⟨⟨Same.refl _, fun b o hb h => by rw [upd_ne hb]; exact h, fun b h => ?_, fun b h _ => h⟩, ⟨fun b o h => ?_, so.np, ⟨a, ns, i', n', k', upd_same, h2⟩, fun b xs h => ?_⟩⟩
  · by_cases e : b = pp
    · subst e; rw [upd_same]; exact fun z => nomatch z
    · rw [upd_ne e]; exact h
  · rw [upd_ne (fun z => by subst z; rw [so.np] at h; cases h)]; exact so.le b o h
  · by_cases e : b = pp
    · subst e; rw [upd_same] at h; cases h
    · rw [upd_ne e] at h; exact so.tp b xs h
theorem sq_upd {K : FK} {H : Hp} {pp a : Addr} {xs ys : List V} {u : HO} (hp : H pp = some (.lst ys)) (h : SqL K H a xs) (hne : a ≠ pp) : SqL K (upd H pp u) a xs := by
  rcases h with (h | ⟨o, h⟩) | h
  · exact .inl (.inl (by rw [upd_ne hne]; exact h))
  · exact .inl (.inr ⟨o, by rw [upd_ne hne]; exact h⟩)
  · exact .inr h

/-! ### sorted of anything -/
def alikeD (xs : List D) : Prop := PySem.W.AllAlike (pdL xs) ∧ PySem.W.Sortable (pdL xs)
def sortD (xs : List D) : List D := xs.mergeSort (PySem.W.dataLe false pd)
theorem pdL_map : ∀ xs : List D, pdL xs = xs.map pd
  | [] => rfl
  | x :: xs => by simp [pdL, pdL_map xs]
theorem repL_each {pp : Addr} {K : FK} {H : Hp} : ∀ {ds : List D} {vs : List V} {us : List Value}, RepL pp K H ds vs → Vals vs us → PySem.W.EachIs (fun u d => ∃ v, RelV v u ∧ Rep pp K H d v) us ds
  | [], _, _, r, h => by
    rw [r.unnil] at h
    cases h
    exact .nil
  | d :: ds, _, _, r, h => by
    obtain ⟨v, w, rfl, h1, h2⟩ := r.uncons
    cases h with
    | cons h3 h4 => exact .cons ⟨v, h3, h1⟩ (repL_each h2 h4)
theorem each_repL {pp : Addr} {K : FK} {H : Hp} : ∀ {ds : List D} {us : List Value}, PySem.W.EachIs (fun u d => ∃ v, RelV v u ∧ Rep pp K H d v) us ds → ∃ vs, Vals vs us ∧ RepL pp K H ds vs
  | _, _, .nil => ⟨[], .nil, .nil⟩
  | _, _, .cons ⟨v, h1, h2⟩ t => by
    obtain ⟨vs, h3, h4⟩ := each_repL t
    exact ⟨v :: vs, .cons h1 h3, .cons h2 h4⟩
section
variable {X : Cx}
theorem cr_sortedAny (hu : X.A.units + 64 < cLine) : CallR X (.builtin "sorted") (fun xs H Q => ∃ (pp : Addr) (Hb : Hp) (a : Addr) (ws : List V) (ds : List D), xs = [V.ref a] ∧ SqL X.K H a ws ∧ Le Hb H ∧ RepL pp X.K Hb ds ws ∧ (∀ d ∈ ds, okD 50 d = true) ∧ alikeD ds ∧
    ∀ p zs, H p = none → RepL pp X.K Hb (sortD ds) zs → Q (.ref p) (upd H p (.lst zs))) := by
  intro pins s σ H xs us Q I r h
  obtain ⟨pp, Hb, a, ws, ds, rfl, hs, hle, hr, hok, ⟨al, st⟩, q⟩ := h
  obtain ⟨u, rfl, ru⟩ := vals1 r
  cases ru
  obtain ⟨its, rv, pl, hz⟩ := I.list hs
  rw [pdL_map] at al st
  have hl : ds.length = its.length := by rw [← hr.length, rv.length]
  refine PySem.W.sorted_data (enc := pd) (bs := ds) (R := fun u d => ∃ v, RelV v u ∧ Rep pp X.K Hb d v) pl.isList (repL_each hr rv) ?_ al st (by rw [← hr.length]; exact hz) (fun d hd => ?_) fun out ho eo => ?_
  · obtain ⟨as, ra⟩ := Dp.readsAll I (pdL ds) ws its (repL_dp 50 ds ws hok (hr.le hle)) rv
    rw [pdL_map] at ra
    exact PySem.W.readsAll_each pd ra
  · have := (pd_plain 50 d (hok d hd)).2
    omega
  · obtain ⟨zs, h1, h2⟩ := each_repL eo
    obtain ⟨ep, he'⟩ := PyProof.Rows.sortedAll_at s.heap its out.toArray
    have hlen : zs.length ≤ sizeLine := by rw [h1.length, ho, ← hr.length]; exact hz
    exact ⟨.ref _, upd H (s.heap.objs.size + 1) (.lst zs), I.laid (t' := s.toks) (fun _ _ => PyProof.Rows.sortedAll_old) (Nat.le_succ _) ⟨hlen, out, ep, h1, he'⟩, rfl, q _ zs (I.hok.fresh (Nat.le_succ _)) h2⟩
/-- sorted: a list of data of one kind; a dict's keys, all ints or all texts (fewer than 64) -/
def rdSorted : List D → (D → Prop) → Prop := fun ds Q => match ds with
  | [.dic ks _] => match inls ks with
    | some ns => ns.length < 64 ∧ ∀ ys : List Int, ys.Perm ns → ys.Pairwise (· ≤ ·) → Q (.lst (ys.map D.int))
    | none => match inrs ks with
      | some ns => ns.length < 64 ∧ ∀ ys : List Str, ys.Perm ns → sortedS ys = true → Q (.lst (ys.map D.str))
      | none => False
  | [.lst xs] => (∀ d ∈ xs, okD 50 d = true) ∧ alikeD xs ∧ Q (.lst (sortD xs))
  | _ => False
theorem CallR.or3 {f : Value} {r r' r'' : List V → Hp → VK → Prop} (h : CallR X f r) (h' : CallR X f r') (h'' : CallR X f r'') : CallR X f (fun xs H Q => r xs H Q ∨ r' xs H Q ∨ r'' xs H Q) := h.or (h'.or h'')
theorem cdf_sorted (hc : X.calm = true) (hu : X.A.units + 64 < cLine) : CDF X (.builtin "sorted") rdSorted := by
  obtain ⟨r1, a1, b1⟩ := cdf_sortedI (X := X) hc
  obtain ⟨r2, a2, b2⟩ := cdf_sortedS (X := X) hc
  refine ⟨_, CallR.or3 a1 a2 (cr_sortedAny hu), fun pp Hb H xs ds Q QD so r h k => ?_⟩
  unfold rdSorted at h
  split at h
  · split at h
    · rename_i e
      exact .inl (b1 pp Hb H xs _ Q QD so r (by simp only [rdSortedI, e]; exact h) k)
    · split at h
      · rename_i e
        exact .inr (.inl (b2 pp Hb H xs _ Q QD so r (by simp only [rdSortedS, e]; exact h) k))
      · exact h.elim
  · obtain ⟨v, rfl, y⟩ := r.one
    obtain ⟨a, ws, rfl, h1, r1⟩ := y.lst so
    refine .inr (.inr ⟨pp, Hb, a, ws, _, rfl, .of h1, so.hle, r1, h.1, h.2.1, fun p zs hp hz => ?_⟩)
    obtain ⟨s2, so2⟩ := lay_own (u := .lst zs) so hp
    exact k p (.lst _) _ _ s2 so2 hp ⟨so.nb hp, so.ne hp, ⟨_, upd_same, hz⟩⟩ h.2.2
  · exact h.elim
end
end DL

/-! DR: fractions: a pair in lowest terms is a rational number -/
namespace DL
open PySem PySem.Spec PyProof.Rows L2

def qD (r : Rat) : D := .tup [.int r.num, .int r.den]
/-- the bits of a fraction -/
def bz (r : Rat) : Nat := (r.num.natAbs + r.den).log2 + 1
theorem bz_pos (r : Rat) : 0 < bz r := Nat.succ_pos _
theorem bz_lt (r : Rat) : r.num.natAbs + r.den < 2 ^ bz r := Nat.lt_log2_self
theorem bz_num (r : Rat) : r.num.natAbs < 2 ^ bz r := Nat.lt_of_le_of_lt (Nat.le_add_right _ _) (bz_lt r)
theorem bz_den (r : Rat) : r.den < 2 ^ bz r := Nat.lt_of_le_of_lt (Nat.le_add_left _ _) (bz_lt r)
theorem bz_of_lt {r : Rat} {n : Nat} (h : r.num.natAbs + r.den < 2 ^ n) : bz r ≤ n := by
  have h0 : r.num.natAbs + r.den ≠ 0 := by have := r.den_pos; omega
  exact Nat.succ_le_of_lt ((Nat.log2_lt h0).mpr h)
theorem dv_num_le (p q : Int) : (Rat.divInt p q).num.natAbs ≤ p.natAbs := by
  rw [Rat.num_divInt]
  refine Nat.le_trans (Int.natAbs_ediv_le_natAbs _ _) ?_
  rw [Int.natAbs_mul]
  have : q.sign.natAbs ≤ 1 := by
    rcases Int.lt_trichotomy q 0 with h | h | h
    · rw [Int.sign_eq_neg_one_of_neg h]; decide
    · subst h; decide
    · rw [Int.sign_eq_one_of_pos h]; decide
  calc q.sign.natAbs * p.natAbs ≤ 1 * p.natAbs := Nat.mul_le_mul_right _ this
    _ = p.natAbs := Nat.one_mul _
theorem dv_den_le (p : Int) {q : Int} (hq : q ≠ 0) : (Rat.divInt p q).den ≤ q.natAbs := by
  rw [Rat.den_divInt, if_neg hq]
  exact Nat.div_le_self _ _
theorem bz_dv {p q : Int} {n : Nat} (hq : q ≠ 0) (h : p.natAbs + q.natAbs < 2 ^ n) : bz (Rat.divInt p q) ≤ n :=
  bz_of_lt (Nat.lt_of_le_of_lt (Nat.add_le_add (dv_num_le p q) (dv_den_le p hq)) h)
theorem add_dv (a b : Rat) : a + b = Rat.divInt (a.num * b.den + b.num * a.den) (a.den * b.den) := by
  conv => lhs; rw [← Rat.num_divInt_den a, ← Rat.num_divInt_den b]
  rw [Rat.divInt_add_divInt _ _ (by have := a.den_pos; omega) (by have := b.den_pos; omega)]
theorem sub_dv (a b : Rat) : a - b = Rat.divInt (a.num * b.den - b.num * a.den) (a.den * b.den) := by
  conv => lhs; rw [← Rat.num_divInt_den a, ← Rat.num_divInt_den b]
  rw [Rat.divInt_sub_divInt _ _ (by have := a.den_pos; omega) (by have := b.den_pos; omega)]
theorem mul_dv (a b : Rat) : a * b = Rat.divInt (a.num * b.num) (a.den * b.den) := by
  conv => lhs; rw [← Rat.num_divInt_den a, ← Rat.num_divInt_den b]
  rw [Rat.divInt_mul_divInt]
theorem div_dv (a b : Rat) : a / b = Rat.divInt (a.num * b.den) (a.den * b.num) := by
  rw [Rat.div_def, Rat.inv_def]
  conv => lhs; rw [← Rat.num_divInt_den a]
  rw [Rat.divInt_mul_divInt]
theorem den_ne (a : Rat) : (a.den : Int) ≠ 0 := by have := a.den_pos; omega
theorem mul_bits {a b c d n m : Nat} (h1 : a + b < 2 ^ n) (h2 : c + d < 2 ^ m) : (a + b) * (c + d) < 2 ^ (n + m) := by
  rw [Nat.pow_add]
  exact Nat.mul_lt_mul'' h1 h2
theorem bz_add (a b : Rat) : bz (a + b) ≤ bz a + bz b := by
  rw [add_dv]
  refine bz_dv (by have := a.den_pos; have := b.den_pos; exact Int.mul_ne_zero (den_ne a) (den_ne b)) ?_
  refine Nat.lt_of_le_of_lt ?_ (mul_bits (bz_lt a) (bz_lt b))
  have h1 := Int.natAbs_add_le (a.num * b.den) (b.num * a.den)
  rw [Int.natAbs_mul, Int.natAbs_mul, Int.natAbs_natCast, Int.natAbs_natCast] at h1
  rw [Int.natAbs_mul, Int.natAbs_natCast, Int.natAbs_natCast]
  have e : (a.num.natAbs + a.den) * (b.num.natAbs + b.den) = a.num.natAbs * b.num.natAbs + a.num.natAbs * b.den + (b.num.natAbs * a.den + a.den * b.den) := by grind
  omega
theorem bz_sub (a b : Rat) : bz (a - b) ≤ bz a + bz b := by
  rw [sub_dv]
  refine bz_dv (Int.mul_ne_zero (den_ne a) (den_ne b)) ?_
  refine Nat.lt_of_le_of_lt ?_ (mul_bits (bz_lt a) (bz_lt b))
  have h1 := Int.natAbs_sub_le (a.num * b.den) (b.num * a.den)
  rw [Int.natAbs_mul, Int.natAbs_mul, Int.natAbs_natCast, Int.natAbs_natCast] at h1
  rw [Int.natAbs_mul, Int.natAbs_natCast, Int.natAbs_natCast]
  have e : (a.num.natAbs + a.den) * (b.num.natAbs + b.den) = a.num.natAbs * b.num.natAbs + a.num.natAbs * b.den + (b.num.natAbs * a.den + a.den * b.den) := by grind
  omega
theorem bz_mul (a b : Rat) : bz (a * b) ≤ bz a + bz b := by
  rw [mul_dv]
  refine bz_dv (Int.mul_ne_zero (den_ne a) (den_ne b)) ?_
  refine Nat.lt_of_le_of_lt ?_ (mul_bits (bz_lt a) (bz_lt b))
  rw [Int.natAbs_mul, Int.natAbs_mul, Int.natAbs_natCast, Int.natAbs_natCast]
  have e : (a.num.natAbs + a.den) * (b.num.natAbs + b.den) = a.num.natAbs * b.num.natAbs + a.num.natAbs * b.den + (b.num.natAbs * a.den + a.den * b.den) := by grind
  omega
theorem num_ne {b : Rat} (hb : b ≠ 0) : b.num ≠ 0 := fun h => hb (Rat.num_eq_zero.mp h)
theorem bz_div (a : Rat) {b : Rat} (hb : b ≠ 0) : bz (a / b) ≤ bz a + bz b := by
  rw [div_dv]
  refine bz_dv (Int.mul_ne_zero (den_ne a) (num_ne hb)) ?_
  refine Nat.lt_of_le_of_lt ?_ (mul_bits (bz_lt a) (bz_lt b))
  rw [Int.natAbs_mul, Int.natAbs_mul, Int.natAbs_natCast, Int.natAbs_natCast]
  have e : (a.num.natAbs + a.den) * (b.num.natAbs + b.den) = a.num.natAbs * b.num.natAbs + a.num.natAbs * b.den + (b.num.natAbs * a.den + a.den * b.den) := by grind
  have e2 : a.den * b.num.natAbs = b.num.natAbs * a.den := Nat.mul_comm _ _
  omega
/-- products of parts of fractions -/
theorem mulx_nn {a b : Rat} (h : bz a + bz b ≤ 1000000) : CMulX a.num b.num := mulx_ok (bz_num a) (bz_num b) (by omega)
theorem mulx_nd {a b : Rat} (h : bz a + bz b ≤ 1000000) : CMulX a.num b.den := mulx_ok (bz_num a) (by rw [Int.natAbs_natCast]; exact bz_den b) (by omega)
theorem mulx_dn {a b : Rat} (h : bz a + bz b ≤ 1000000) : CMulX a.den b.num := mulx_ok (by rw [Int.natAbs_natCast]; exact bz_den a) (bz_num b) (by omega)
theorem mulx_dd {a b : Rat} (h : bz a + bz b ≤ 1000000) : CMulX a.den b.den := mulx_ok (by rw [Int.natAbs_natCast]; exact bz_den a) (by rw [Int.natAbs_natCast]; exact bz_den b) (by omega)
/-- p // g, q // g are the parts of p / q -/
theorem qD_pos {p q g : Int} (hq : 0 < q) (hg : g = ((Nat.gcd p.natAbs q.natAbs : Nat) : Int)) : D.tup [.int (p.fdiv g), .int (q.fdiv g)] = qD (Rat.divInt p q) := by
  have e1 : (Int.gcd q p : Int) = g := by rw [hg, Int.gcd_eq_natAbs_gcd_natAbs, Nat.gcd_comm]
  have hg0 : 0 < g := by
    rw [hg]
    exact Int.natCast_pos.mpr (Nat.gcd_pos_of_pos_right _ (by omega))
  unfold qD
  rw [Rat.num_divInt, Rat.den_divInt, if_neg (by omega), e1, Int.sign_eq_one_of_pos hq, Int.one_mul, Int.fdiv_eq_ediv_of_nonneg _ (by omega), Int.fdiv_eq_ediv_of_nonneg _ (by omega)]
  have e2 : ((q.natAbs / q.gcd p : Nat) : Int) = q / g := by
    rw [Int.natCast_ediv, e1, Int.natAbs_of_nonneg (by omega)]
  rw [e2]
theorem gcd_bits {p q : Int} {n : Nat} (hq : q ≠ 0) (h : q.natAbs < 2 ^ n) : (Nat.gcd p.natAbs q.natAbs) < 2 ^ n :=
  Nat.lt_of_le_of_lt (Nat.le_of_dvd (by omega) (Nat.gcd_dvd_right _ _)) h
theorem log2_lt9 {k n : Nat} (h : k < 2 ^ n) (h0 : 0 < k) (hn : n ≤ 9000) : k.log2 < 9000 := Nat.lt_of_lt_of_le ((Nat.log2_lt (by omega)).mpr h) hn
theorem qD_neg {p q g : Int} (hq : q < 0) (hg : g = ((Nat.gcd p.natAbs q.natAbs : Nat) : Int)) : D.tup [.int (p.fdiv (-g)), .int (q.fdiv (-g))] = qD (Rat.divInt p q) := by
  have e := qD_pos (p := -p) (q := -q) (g := g) (by omega) (by rw [hg, Int.natAbs_neg, Int.natAbs_neg])
  rw [Rat.neg_divInt_neg] at e
  rw [← e]
  have k : ∀ x : Int, x.fdiv (-g) = (-x).fdiv g := fun x => by
    rw [← Int.neg_fdiv_neg, Int.neg_neg]
  rw [k, k]
end DL

/-! DR2: the defs of fractions that many laws share: what they tell, and that their readings tell it -/
namespace DL
open PySem PySem.Spec PyProof.Rows L2

theorem ite_ct {b : Bool} {p q : Prop} (h1 : b = true → p) (h2 : b = false → q) : if b = true then p else q := by
  cases b with
  | true => rw [if_pos rfl]; exact h1 rfl
  | false => rw [if_neg Bool.false_ne_true]; exact h2 rfl
theorem ite_t {b : Bool} {p q : Prop} (h : b = true) (k : p) : if b = true then p else q := by rw [if_pos h]; exact k
theorem ite_f {b : Bool} {p q : Prop} (h : b = false) (k : q) : if b = true then p else q := by subst h; rw [if_neg Bool.false_ne_true]; exact k

def S_frac : SpecD := fun ds Q => ∃ p q : Int, ds = [.int p, .int q] ∧ q ≠ 0 ∧ q.natAbs < 2 ^ 9000 ∧ Q (qD (Rat.divInt p q))
def S_plus : SpecD := fun ds Q => ∃ a b : Rat, ds = [qD a, qD b] ∧ bz a + bz b ≤ 9000 ∧ Q (qD (a + b))
def S_minus : SpecD := fun ds Q => ∃ a b : Rat, ds = [qD a, qD b] ∧ bz a + bz b ≤ 9000 ∧ Q (qD (a - b))
def S_times : SpecD := fun ds Q => ∃ a b : Rat, ds = [qD a, qD b] ∧ bz a + bz b ≤ 9000 ∧ Q (qD (a * b))
def S_over : SpecD := fun ds Q => ∃ a b : Rat, ds = [qD a, qD b] ∧ b ≠ 0 ∧ bz a + bz b ≤ 9000 ∧ Q (qD (a / b))
def S_less : SpecD := fun ds Q => ∃ a b : Rat, ds = [qD a, qD b] ∧ bz a + bz b ≤ 1000000 ∧ Q (.bl (decide (a < b)))
def S_least : SpecD := fun ds Q => ∃ a b : Rat, ds = [qD a, qD b] ∧ bz a + bz b ≤ 1000000 ∧ Q (qD (if b < a then b else a))
def S_most : SpecD := fun ds Q => ∃ a b : Rat, ds = [qD a, qD b] ∧ bz a + bz b ≤ 1000000 ∧ Q (qD (if a < b then b else a))
def bzs (l : List Rat) : Nat := (l.map bz).sum
def S_sum_of : SpecD := fun ds Q => ∃ l : List Rat, ds = [.lst (l.map qD)] ∧ bzs l ≤ 8990 ∧ Q (qD l.sum)
def c_NOUGHT : D := .tup [.int 0, .int 1]
def S_law_gcd : SpecD := fun ds Q => ∃ a b : Nat, ds = [.int a, .int b] ∧ b < 2 ^ 9000 ∧ Q (.int (Nat.gcd a b : Nat))
def S_law_ratio : SpecD := fun ds Q => ∃ p q : Int, ds = [.int p, .int q] ∧ q ≠ 0 ∧ q.natAbs < 2 ^ 9000 ∧ Q (qD (Rat.divInt p q))
def S_law_add : SpecD := S_plus
def S_law_sub : SpecD := S_minus
def S_law_mul : SpecD := S_times
def S_law_over : SpecD := S_over
def S_law_div : SpecD := S_over
def S_law_less : SpecD := S_less
def S_law_low : SpecD := S_least
def S_law_pick : SpecD := fun ds Q => ∃ l : List D, ds = [.pool, .lst l] ∧ 0 < l.length ∧ l.length < 1000000 ∧ ∀ d ∈ l, Q d

def p_frac : DS := (dSeq (dAsg 2 (dCB rdGcd (dConsA (dVarO 0) (dConsA (dVarO 1) dNilA)))) (dSeq (dIfS (dTst (dOp rdLt (dVarO 1) (dC (.int 0)))) (dAsg 2 (dUn rdNeg (dVarO 2))) dNext) (dRet (dTup (dConsA (dOp rdDiv (dVarO 0) (dVarO 2)) (dConsA (dOp rdDiv (dVarO 1) (dVarO 2)) dNilA))))))
def p_plus : DS := (dRet (dCall S_frac (dConsA (dOp rdAdd (dOp rdMul (dOp rdIx (dVarO 0) (dC (.int 0))) (dOp rdIx (dVarO 1) (dC (.int 1)))) (dOp rdMul (dOp rdIx (dVarO 1) (dC (.int 0))) (dOp rdIx (dVarO 0) (dC (.int 1))))) (dConsA (dOp rdMul (dOp rdIx (dVarO 0) (dC (.int 1))) (dOp rdIx (dVarO 1) (dC (.int 1)))) dNilA))))

theorem natAbs_ne {q : Int} (h : q ≠ 0) : 0 < q.natAbs := by omega
theorem gcd_pos {p q : Int} (h : q ≠ 0) : 0 < Nat.gcd p.natAbs q.natAbs := Nat.gcd_pos_of_pos_right _ (natAbs_ne h)
theorem cdiv_gcd {x p q : Int} (hq : q ≠ 0) (hb : q.natAbs < 2 ^ 9000) : CDivA x ((Nat.gcd p.natAbs q.natAbs : Nat) : Int) := by
  have h1 := gcd_pos (p := p) hq
  have h2 := gcd_bits (p := p) hq hb
  exact ⟨by omega, by rw [Int.natAbs_natCast]; exact log2_lt9 h2 h1 (Nat.le_refl _)⟩
theorem cdiv_gcdn {x p q : Int} (hq : q ≠ 0) (hb : q.natAbs < 2 ^ 9000) : CDivA x (-((Nat.gcd p.natAbs q.natAbs : Nat) : Int)) := by
  have h := cdiv_gcd (x := x) (p := p) hq hb
  exact ⟨by have := h.1; omega, by rw [Int.natAbs_neg]; exact h.2⟩
theorem pure_frac : PureD p_frac S_frac 3 2 := by
  rintro ds Q ⟨p, q, rfl, hq, hb, k⟩
  refine ⟨rfl, ?_⟩
  show (if decide (q < 0) = true then _ else _)
  by_cases h : q < 0
  · rw [decide_eq_true h, if_pos rfl]
    refine ⟨cdiv_gcdn hq hb, cdiv_gcdn hq hb, ?_⟩
    show Q (D.tup [.int (p.fdiv _), .int (q.fdiv _)])
    rw [qD_neg h rfl]
    exact k
  · rw [decide_eq_false h, if_neg Bool.false_ne_true]
    refine ⟨cdiv_gcd hq hb, cdiv_gcd hq hb, ?_⟩
    show Q (D.tup [.int (p.fdiv _), .int (q.fdiv _)])
    rw [qD_pos (by omega) rfl]
    exact k
theorem den_bits {a b : Rat} (h : bz a + bz b ≤ 9000) : ((a.den : Int) * (b.den : Int)).natAbs < 2 ^ 9000 := by
  rw [Int.natAbs_mul, Int.natAbs_natCast, Int.natAbs_natCast]
  have h1 := bz_den a
  have h2 := bz_den b
  refine Nat.lt_of_lt_of_le (Nat.mul_lt_mul'' h1 h2) ?_
  rw [← Nat.pow_add]
  exact Nat.pow_le_pow_right (by decide) h
theorem pure_plus : PureD p_plus S_plus 2 2 := by
  rintro ds Q ⟨a, b, rfl, hb, k⟩
  refine ⟨rfl, ?_⟩
  have hb' : bz a + bz b ≤ 1000000 := by omega
  have hb2 : bz b + bz a ≤ 1000000 := by omega
  refine ⟨mulx_nd hb', mulx_nd hb2, mulx_dd hb', _, _, rfl, Int.mul_ne_zero (den_ne a) (den_ne b), den_bits hb, ?_⟩
  rw [← add_dv]
  exact k

def p_minus : DS := (dRet (dCall S_frac (dConsA (dOp rdSub (dOp rdMul (dOp rdIx (dVarO 0) (dC (.int 0))) (dOp rdIx (dVarO 1) (dC (.int 1)))) (dOp rdMul (dOp rdIx (dVarO 1) (dC (.int 0))) (dOp rdIx (dVarO 0) (dC (.int 1))))) (dConsA (dOp rdMul (dOp rdIx (dVarO 0) (dC (.int 1))) (dOp rdIx (dVarO 1) (dC (.int 1)))) dNilA))))
def p_times : DS := (dRet (dCall S_frac (dConsA (dOp rdMul (dOp rdIx (dVarO 0) (dC (.int 0))) (dOp rdIx (dVarO 1) (dC (.int 0)))) (dConsA (dOp rdMul (dOp rdIx (dVarO 0) (dC (.int 1))) (dOp rdIx (dVarO 1) (dC (.int 1)))) dNilA))))
def p_over : DS := (dRet (dCall S_frac (dConsA (dOp rdMul (dOp rdIx (dVarO 0) (dC (.int 0))) (dOp rdIx (dVarO 1) (dC (.int 1)))) (dConsA (dOp rdMul (dOp rdIx (dVarO 0) (dC (.int 1))) (dOp rdIx (dVarO 1) (dC (.int 0)))) dNilA))))
def p_sum_of : DS := (dSeq (dAsg 1 (dC c_NOUGHT)) (dSeq (dFor (dIter (dVar 0)) (gN 2) (dAsg 1 (dCall S_plus (dConsA (dVar 1) (dConsA (dVar 2) dNilA))))) (dRet (dVar 1))))
def p_less : DS := (dRet (dOp rdLt (dOp rdMul (dOp rdIx (dVarO 0) (dC (.int 0))) (dOp rdIx (dVarO 1) (dC (.int 1)))) (dOp rdMul (dOp rdIx (dVarO 1) (dC (.int 0))) (dOp rdIx (dVarO 0) (dC (.int 1))))))
def p_least : DS := (dRet (dIf (dTst (dCall S_less (dConsA (dVar 1) (dConsA (dVar 0) dNilA)))) (dVar 1) (dVar 0)))
def p_most : DS := (dRet (dIf (dTst (dCall S_less (dConsA (dVar 0) (dConsA (dVar 1) dNilA)))) (dVar 1) (dVar 0)))
def p_law_gcd : DS := (dSeq (dFor (dRng (dConsA (dC (.int 20000)) dNilA)) (gN 2) (dSeq (dIfS (dTst (dOp rdEq (dVarO 1) (dC (.int 0)))) dBreak dNext) (dPar 0 1 (dConsA (dVar 1) (dConsA (dOp rdMod (dCB rdInt (dConsA (dVarO 0) dNilA)) (dVarO 1)) dNilA))))) (dRet (dVar 0)))
def p_law_ratio : DS := (dSeq (dIfS (dTst (dOp rdLt (dVarO 1) (dC (.int 0)))) (dPar 0 1 (dConsA (dUn rdNeg (dVarO 0)) (dConsA (dUn rdNeg (dVarO 1)) dNilA))) dNext) (dSeq (dAsg 2 (dCall S_law_gcd (dConsA (dCB rdAbs (dConsA (dVarO 0) dNilA)) (dConsA (dVar 1) dNilA)))) (dRet (dTup (dConsA (dOp rdDiv (dVarO 0) (dVarO 2)) (dConsA (dOp rdDiv (dVarO 1) (dVarO 2)) dNilA))))))
def p_law_add : DS := (dRet (dCall S_law_ratio (dConsA (dOp rdAdd (dOp rdMul (dOp rdIx (dVarO 0) (dC (.int 0))) (dOp rdIx (dVarO 1) (dC (.int 1)))) (dOp rdMul (dOp rdIx (dVarO 1) (dC (.int 0))) (dOp rdIx (dVarO 0) (dC (.int 1))))) (dConsA (dOp rdMul (dOp rdIx (dVarO 0) (dC (.int 1))) (dOp rdIx (dVarO 1) (dC (.int 1)))) dNilA))))
def p_law_sub : DS := (dRet (dCall S_law_ratio (dConsA (dOp rdSub (dOp rdMul (dOp rdIx (dVarO 0) (dC (.int 0))) (dOp rdIx (dVarO 1) (dC (.int 1)))) (dOp rdMul (dOp rdIx (dVarO 1) (dC (.int 0))) (dOp rdIx (dVarO 0) (dC (.int 1))))) (dConsA (dOp rdMul (dOp rdIx (dVarO 0) (dC (.int 1))) (dOp rdIx (dVarO 1) (dC (.int 1)))) dNilA))))
def p_law_mul : DS := (dRet (dCall S_law_ratio (dConsA (dOp rdMul (dOp rdIx (dVarO 0) (dC (.int 0))) (dOp rdIx (dVarO 1) (dC (.int 0)))) (dConsA (dOp rdMul (dOp rdIx (dVarO 0) (dC (.int 1))) (dOp rdIx (dVarO 1) (dC (.int 1)))) dNilA))))
def p_law_over : DS := (dRet (dCall S_law_ratio (dConsA (dOp rdMul (dOp rdIx (dVarO 0) (dC (.int 0))) (dOp rdIx (dVarO 1) (dC (.int 1)))) (dConsA (dOp rdMul (dOp rdIx (dVarO 0) (dC (.int 1))) (dOp rdIx (dVarO 1) (dC (.int 0)))) dNilA))))
def p_law_div : DS := p_law_over
def p_law_less : DS := p_less
def p_law_low : DS := (dRet (dIf (dTst (dCall S_law_less (dConsA (dVar 1) (dConsA (dVar 0) dNilA)))) (dVar 1) (dVar 0)))
def p_law_pick : DS := (dRet (dOp rdIx (dVarO 1) (dCall S_law_draw (dConsA (dVar 0) (dConsA (dCB rdLen (dConsA (dVarO 1) dNilA)) dNilA)))))

theorem pure_minus : PureD p_minus S_minus 2 2 := by
  rintro ds Q ⟨a, b, rfl, hb, k⟩
  refine ⟨rfl, ?_⟩
  have hb' : bz a + bz b ≤ 1000000 := by omega
  have hb2 : bz b + bz a ≤ 1000000 := by omega
  refine ⟨mulx_nd hb', mulx_nd hb2, mulx_dd hb', _, _, rfl, Int.mul_ne_zero (den_ne a) (den_ne b), den_bits hb, ?_⟩
  rw [← sub_dv]
  exact k
theorem pure_times : PureD p_times S_times 2 2 := by
  rintro ds Q ⟨a, b, rfl, hb, k⟩
  refine ⟨rfl, ?_⟩
  have hb' : bz a + bz b ≤ 1000000 := by omega
  refine ⟨mulx_nn hb', mulx_dd hb', _, _, rfl, Int.mul_ne_zero (den_ne a) (den_ne b), den_bits hb, ?_⟩
  rw [← mul_dv]
  exact k
theorem dnum_bits {a b : Rat} (h : bz a + bz b ≤ 9000) : ((a.den : Int) * b.num).natAbs < 2 ^ 9000 := by
  rw [Int.natAbs_mul, Int.natAbs_natCast]
  refine Nat.lt_of_lt_of_le (Nat.mul_lt_mul'' (bz_den a) (bz_num b)) ?_
  rw [← Nat.pow_add]
  exact Nat.pow_le_pow_right (by decide) h
theorem pure_over : PureD p_over S_over 2 2 := by
  rintro ds Q ⟨a, b, rfl, h0, hb, k⟩
  refine ⟨rfl, ?_⟩
  have hb' : bz a + bz b ≤ 1000000 := by omega
  refine ⟨mulx_nd hb', mulx_dn hb', _, _, rfl, Int.mul_ne_zero (den_ne a) (num_ne h0), dnum_bits hb, ?_⟩
  rw [← div_dv]
  exact k
theorem pure_less : PureD p_less S_less 2 2 := by
  rintro ds Q ⟨a, b, rfl, hb, k⟩
  refine ⟨rfl, ?_⟩
  have hb2 : bz b + bz a ≤ 1000000 := by omega
  refine ⟨mulx_nd hb, mulx_nd hb2, ?_⟩
  have e : decide (a.num * b.den < b.num * a.den) = decide (a < b) := decide_eq_decide.mpr (Rat.lt_iff a b).symm
  show Q (.bl (decide _))
  rw [e]
  exact k
theorem pure_least : PureD p_least S_least 2 2 := by
  rintro ds Q ⟨a, b, rfl, hb, k⟩
  refine ⟨rfl, b, a, rfl, by omega, ?_⟩
  show (if decide (b < a) = true then Q (qD b) else Q (qD a))
  by_cases h : b < a
  · rw [if_pos h] at k; rw [if_pos (decide_eq_true h)]; exact k
  · rw [if_neg h] at k; rw [if_neg (by simpa using h)]; exact k
theorem pure_most : PureD p_most S_most 2 2 := by
  rintro ds Q ⟨a, b, rfl, hb, k⟩
  refine ⟨rfl, a, b, rfl, hb, ?_⟩
  show (if decide (a < b) = true then Q (qD b) else Q (qD a))
  by_cases h : a < b
  · rw [if_pos h] at k; rw [if_pos (decide_eq_true h)]; exact k
  · rw [if_neg h] at k; rw [if_neg (by simpa using h)]; exact k
theorem bzs_cons (x : Rat) (l : List Rat) : bzs (x :: l) = bz x + bzs l := by simp [bzs]
theorem sum_loop {Q : D → Prop} (d0 : Sl) : ∀ (l : List Rat) (acc : Rat) (z : Sl), bz acc + bzs l ≤ 9000 → Q (qD (acc + l.sum)) →
    forL (gN 2) (dAsg 1 (dCall S_plus (dConsA (dVar 1) (dConsA (dVar 2) dNilA)))) { fnEnds Q with nx := dRet (dVar 1) (fnEnds Q) } (l.map qD) [d0, .sh (qD acc), z]
  | [], acc, z, _, k => by
    rw [List.sum_nil, Rat.add_zero] at k
    exact k
  | x :: l, acc, z, h, k => by
    rw [bzs_cons] at h
    refine ⟨acc, x, rfl, by omega, ?_⟩
    refine sum_loop d0 l (acc + x) _ ?_ (by rw [List.sum_cons] at k; rw [Rat.add_assoc]; exact k)
    have := bz_add acc x
    omega
theorem pure_sum_of : PureD p_sum_of S_sum_of 3 1 := by
  rintro ds Q ⟨l, rfl, hb, k⟩
  refine ⟨rfl, ?_⟩
  refine sum_loop _ l 0 .no ?_ (by rw [Rat.zero_add]; exact k)
  have : bz 0 ≤ 1 := by decide
  omega
theorem gcd_loop {Q : D → Prop} : ∀ (n : Nat) (a b : Nat) (items : List D) (z : Sl), b < 2 ^ n → 2 * n ≤ items.length → Q (.int (Nat.gcd a b : Nat)) →
    forL (gN 2) (dSeq (dIfS (dTst (dOp rdEq (dVarO 1) (dC (.int 0)))) dBreak dNext) (dPar 0 1 (dConsA (dVar 1) (dConsA (dOp rdMod (dCB rdInt (dConsA (dVarO 0) dNilA)) (dVarO 1)) dNilA)))) { fnEnds Q with nx := dRet (dVar 0) (fnEnds Q) } items [.sh (.int a), .sh (.int b), z] := by
  have stop : ∀ (a : Nat) (items : List D) (z : Sl), Q (.int a) →
      forL (gN 2) (dSeq (dIfS (dTst (dOp rdEq (dVarO 1) (dC (.int 0)))) dBreak dNext) (dPar 0 1 (dConsA (dVar 1) (dConsA (dOp rdMod (dCB rdInt (dConsA (dVarO 0) dNilA)) (dVarO 1)) dNilA)))) { fnEnds Q with nx := dRet (dVar 0) (fnEnds Q) } items [.sh (.int a), .sh (.int (0 : Nat)), z] := by
    intro a items z k
    cases items with
    | nil => exact k
    | cons d r => exact ⟨rfl, rfl, k⟩
  have step : ∀ (a b : Nat) (d : D) (items : List D) (z : Sl), b ≠ 0 →
      forL (gN 2) (dSeq (dIfS (dTst (dOp rdEq (dVarO 1) (dC (.int 0)))) dBreak dNext) (dPar 0 1 (dConsA (dVar 1) (dConsA (dOp rdMod (dCB rdInt (dConsA (dVarO 0) dNilA)) (dVarO 1)) dNilA)))) { fnEnds Q with nx := dRet (dVar 0) (fnEnds Q) } items [.sh (.int b), .sh (.int (a % b : Nat)), .sh d] →
      forL (gN 2) (dSeq (dIfS (dTst (dOp rdEq (dVarO 1) (dC (.int 0)))) dBreak dNext) (dPar 0 1 (dConsA (dVar 1) (dConsA (dOp rdMod (dCB rdInt (dConsA (dVarO 0) dNilA)) (dVarO 1)) dNilA)))) { fnEnds Q with nx := dRet (dVar 0) (fnEnds Q) } (d :: items) [.sh (.int a), .sh (.int b), z] := by
    intro a b d items z hb k
    refine ⟨rfl, rfl, ?_⟩
    have e : deq (.int (b : Int)) (.int 0) = false := by
      show decide ((b : Int) = 0) = false
      exact decide_eq_false (by omega)
    refine ite_f e ⟨by omega, ?_⟩
    have e2 : Int.fmod (a : Int) (b : Int) = ((a % b : Nat) : Int) := by rw [Int.fmod_eq_emod_of_nonneg _ (by omega)]; rfl
    show forL _ _ _ _ [.sh (.int b), .sh (.int (Int.fmod a b)), .sh d]
    rw [e2]
    exact k
  intro n
  induction n with
  | zero =>
    intro a b items z h _ k
    have : b = 0 := by simpa using h
    subst this
    rw [Nat.gcd_zero_right] at k
    exact stop a items z k
  | succ n ih =>
    intro a b items z h hl k
    by_cases hb : b = 0
    · subst hb
      rw [Nat.gcd_zero_right] at k
      exact stop a items z k
    match items, hl with
    | d :: e :: r, hl =>
      refine step a b d (e :: r) z hb ?_
      by_cases hm : a % b = 0
      · rw [hm]
        refine stop b _ _ ?_
        rw [Nat.gcd_comm, Nat.gcd_rec, hm, Nat.gcd_zero_left] at k
        exact k
      refine step b (a % b) e r _ hm (ih _ _ _ _ ?_ (by simp only [List.length_cons] at hl; omega) ?_)
      · have h1 : a % b < b := Nat.mod_lt _ (by omega)
        have h2 : b % (a % b) < a % b := Nat.mod_lt _ (by omega)
        have h3 : (a % b) * (b / (a % b)) + b % (a % b) = b := Nat.div_add_mod _ _
        have h4 : 1 ≤ b / (a % b) := (Nat.one_le_div_iff (by omega)).mpr (by omega)
        have h5 : a % b ≤ (a % b) * (b / (a % b)) := Nat.le_mul_of_pos_right _ h4
        rw [Nat.pow_succ] at h
        omega
      · have e1 : Nat.gcd a b = Nat.gcd (a % b) (b % (a % b)) := by
          rw [Nat.gcd_comm a b, Nat.gcd_rec b a, Nat.gcd_rec (a % b) b, Nat.gcd_comm]
        rw [e1] at k
        exact k
theorem pure_law_gcd : PureD p_law_gcd S_law_gcd 3 2 := by
  rintro ds Q ⟨a, b, rfl, hb, k⟩
  refine ⟨rfl, ⟨by decide, by decide⟩, ?_⟩
  refine gcd_loop 9000 a b (rangeD 0 20000) .no hb ?_ k
  simp [rangeD]
theorem pure_law_ratio : PureD p_law_ratio S_law_ratio 3 2 := by
  rintro ds Q ⟨p, q, rfl, hq, hb, k⟩
  refine ⟨rfl, ?_⟩
  show (if decide (q < 0) = true then _ else _)
  have absE : ∀ x : Int, (if x < 0 then -x else x) = ((x.natAbs : Nat) : Int) := fun x => by split <;> omega
  by_cases h : q < 0
  · rw [decide_eq_true h, if_pos rfl]
    have hb2 : (-q).natAbs < 2 ^ 9000 := by rw [Int.natAbs_neg]; exact hb
    refine ⟨(-p).natAbs, (-q).natAbs, ?_, hb2, ?_⟩
    · show [D.int (if -p < 0 then - -p else -p), D.int (-q)] = _
      rw [absE, Int.natAbs_of_nonneg (by omega : 0 ≤ -q)]
    refine ⟨cdiv_gcd (by omega) hb2, cdiv_gcd (by omega) hb2, ?_⟩
    show Q (D.tup [.int ((-p).fdiv _), .int ((-q).fdiv _)])
    rw [qD_pos (by omega) rfl, Rat.neg_divInt_neg]
    exact k
  · rw [decide_eq_false h, if_neg Bool.false_ne_true]
    refine ⟨p.natAbs, q.natAbs, ?_, hb, ?_⟩
    · show [D.int (if p < 0 then -p else p), D.int q] = _
      rw [absE, Int.natAbs_of_nonneg (by omega : 0 ≤ q)]
    refine ⟨cdiv_gcd hq hb, cdiv_gcd hq hb, ?_⟩
    show Q (D.tup [.int (p.fdiv _), .int (q.fdiv _)])
    rw [qD_pos (by omega) rfl]
    exact k
theorem pure_law_add : PureD p_law_add S_law_add 2 2 := pure_plus
theorem pure_law_sub : PureD p_law_sub S_law_sub 2 2 := pure_minus
theorem pure_law_mul : PureD p_law_mul S_law_mul 2 2 := pure_times
theorem pure_law_over : PureD p_law_over S_law_over 2 2 := pure_over
theorem pure_law_div : PureD p_law_div S_law_div 2 2 := pure_over
theorem pure_law_less : PureD p_law_less S_law_less 2 2 := pure_less
theorem pure_law_low : PureD p_law_low S_law_low 2 2 := pure_least
theorem atD_lt {l : List D} {v : Int} (h0 : 0 ≤ v) (h1 : v < l.length) : ∃ d, atD l v = some d ∧ d ∈ l := by
  obtain ⟨n, rfl⟩ := Int.eq_ofNat_of_zero_le h0
  have hn : n < l.length := by omega
  exact ⟨l[n], by show l[n]? = _; rw [List.getElem?_eq_getElem hn], List.getElem_mem hn⟩
theorem pure_law_pick : PureD p_law_pick S_law_pick 2 2 := by
  rintro ds Q ⟨l, rfl, h0, hl, k⟩
  refine ⟨rfl, (l.length : Int), rfl, by omega, by omega, fun v hv h1 => ?_⟩
  obtain ⟨d, e, hd⟩ := atD_lt hv h1
  show match atD l v with | some d => Q d | none => False
  rw [e]
  exact k d hd
end DL

/-! DR3: the laws' own sameness of values -/
namespace DL
open PySem PySem.Spec PyProof.Rows L2

/-- the same data (a dict's keys may stand in another order), at most n deep -/
def smR : Nat → D → D → Prop
  | _ + 1, .non, .non => True
  | _ + 1, .bl a, .bl b => a = b
  | _ + 1, .int a, .int b => a = b
  | _ + 1, .str a, .str b => a = b
  | n + 1, .tup xs, .tup ys => xs.length = ys.length ∧ ys.length ≤ 100000 ∧ ∀ (i : Nat) a b, xs[i]? = some a → ys[i]? = some b → smR n a b
  | n + 1, .lst xs, .lst ys => xs.length = ys.length ∧ ys.length ≤ 100000 ∧ ∀ (i : Nat) a b, xs[i]? = some a → ys[i]? = some b → smR n a b
  | n + 1, .dic ks xs, .dic js ys => ks.length = js.length ∧ js.length ≤ 100000 ∧ ∀ k ∈ js, ∃ a b, lk ks xs k = some a ∧ lk js ys k = some b ∧ smR n a b
  | _, _, _ => False
def S_same (n : Nat) : SpecD := fun ds Q => ∃ x y, ds = [x, y] ∧ smR n x y ∧ Q (.bl true)
abbrev S_law_same : SpecD := S_same 6
theorem lk_has {κ : Type} [DecidableEq κ] {k : κ} : ∀ {ks : List κ} {ds : List D} {d : D}, lk ks ds k = some d → hasK ks k = true
  | k' :: ks, x :: ds, d, h => by
    unfold lk at h
    split at h
    · rename_i e; subst e; simp [hasK]
    · have := lk_has h
      rw [hasK_iff] at this ⊢
      exact List.mem_cons_of_mem _ this
  | [], _, _, h => by simp [lk] at h
  | _ :: _, [], _, h => by simp [lk] at h
theorem keyOf_keyD : ∀ k : Key, keyOf (keyD k) = some k
  | .inl _ => rfl
  | .inr _ => rfl
theorem atD_nat (l : List D) (i : Nat) : atD l (i : Nat) = l[i]? := rfl

def p_same1 (S : SpecD) : DS := (dSeq (dIfS (dTst (dOp rdIs (dVarO 1) (dC .non))) (dRet (dOp rdIs (dVarO 0) (dC .non))) dNext) (dSeq (dIfS (dTst (dOp rdIs (dVarO 1) (dC (.bl true)))) (dRet (dOp rdIs (dVarO 0) (dC (.bl true)))) dNext) (dSeq (dIfS (dTst (dOp rdIs (dVarO 1) (dC (.bl false)))) (dRet (dOp rdIs (dVarO 0) (dC (.bl false)))) dNext) (dSeq (dIfS (dTst (dCB rdIsi (dConsA (dVarO 1) (dConsA (dC (.ty "int")) dNilA)))) (dRet (dAndV (dCB rdIsi (dConsA (dVarO 0) (dConsA (dC (.ty "int")) dNilA))) (dAndV (dNotV (dCB rdIsi (dConsA (dVarO 0) (dConsA (dC (.ty "bool")) dNilA)))) (dOp rdEq (dVarO 0) (dVarO 1))))) dNext) (dSeq (dIfS (dTst (dCB rdIsi (dConsA (dVarO 1) (dConsA (dC (.ty "str")) dNilA)))) (dRet (dAndV (dCB rdIsi (dConsA (dVarO 0) (dConsA (dC (.ty "str")) dNilA))) (dOp rdEq (dVarO 0) (dVarO 1)))) dNext) (dSeq (dIfS (dTst (dCB rdIsi (dConsA (dVarO 1) (dConsA (dC (.ty "dict")) dNilA)))) (dSeq (dIfS (dOr (dNot (dTst (dCB rdIsi (dConsA (dVarO 0) (dConsA (dC (.ty "dict")) dNilA))))) (dTst (dOp rdNe (dCB rdLen (dConsA (dVarO 0) dNilA)) (dCB rdLen (dConsA (dVarO 1) dNilA))))) (dRet (dC (.bl false))) dNext) (dSeq (dFor (dKeys 1) (gN 3) (dIfS (dOr (dTst (dOp rdNotIn (dVarO 3) (dVarO 0))) (dNot (dTst (dCall S (dConsA (dOp rdIx (dVarO 0) (dVarO 3)) (dConsA (dOp rdIx (dVarO 1) (dVarO 3)) dNilA)))))) (dRet (dC (.bl false))) dNext)) (dRet (dC (.bl true))))) dNext) (dSeq (dIfS (dOr (dTst (dOp rdNe (dCB rdIsi (dConsA (dVarO 0) (dConsA (dC (.ty "tuple")) dNilA))) (dCB rdIsi (dConsA (dVarO 1) (dConsA (dC (.ty "tuple")) dNilA))))) (dTst (dOp rdNe (dCB rdIsi (dConsA (dVarO 0) (dConsA (dC (.ty "list")) dNilA))) (dCB rdIsi (dConsA (dVarO 1) (dConsA (dC (.ty "list")) dNilA)))))) (dRet (dC (.bl false))) dNext) (dSeq (dIfS (dTst (dOp rdNe (dCB rdLen (dConsA (dVarO 0) dNilA)) (dCB rdLen (dConsA (dVarO 1) dNilA)))) (dRet (dC (.bl false))) dNext) (dSeq (dFor (dRng (dConsA (dCB rdLen (dConsA (dVarO 1) dNilA)) dNilA)) (gN 2) (dIfS (dNot (dTst (dCall S (dConsA (dOp rdIx (dVarO 0) (dVarO 2)) (dConsA (dOp rdIx (dVarO 1) (dVarO 2)) dNilA))))) (dRet (dC (.bl false))) dNext)) (dRet (dC (.bl true))))))))))))
def p_same2 (S : SpecD) : DS := (dSeq (dIfS (dOr (dTst (dOp rdIs (dVarO 1) (dC .non))) (dOr (dTst (dOp rdIs (dVarO 1) (dC (.bl true)))) (dTst (dOp rdIs (dVarO 1) (dC (.bl false)))))) (dRet (dOrV (dAndV (dOp rdIs (dVarO 1) (dC .non)) (dOp rdIs (dVarO 0) (dC .non))) (dOrV (dAndV (dOp rdIs (dVarO 1) (dC (.bl true))) (dOp rdIs (dVarO 0) (dC (.bl true)))) (dAndV (dOp rdIs (dVarO 1) (dC (.bl false))) (dOp rdIs (dVarO 0) (dC (.bl false))))))) dNext) (dSeq (dIfS (dTst (dCB rdIsi (dConsA (dVarO 1) (dConsA (dC (.ty "int")) dNilA)))) (dRet (dAndV (dCB rdIsi (dConsA (dVarO 0) (dConsA (dC (.ty "int")) dNilA))) (dAndV (dNotV (dCB rdIsi (dConsA (dVarO 0) (dConsA (dC (.ty "bool")) dNilA)))) (dOp rdEq (dVarO 0) (dVarO 1))))) dNext) (dSeq (dIfS (dTst (dCB rdIsi (dConsA (dVarO 1) (dConsA (dC (.ty "str")) dNilA)))) (dRet (dAndV (dCB rdIsi (dConsA (dVarO 0) (dConsA (dC (.ty "str")) dNilA))) (dOp rdEq (dVarO 0) (dVarO 1)))) dNext) (dSeq (dIfS (dTst (dCB rdIsi (dConsA (dVarO 1) (dConsA (dC (.ty "dict")) dNilA)))) (dSeq (dIfS (dOr (dNot (dTst (dCB rdIsi (dConsA (dVarO 0) (dConsA (dC (.ty "dict")) dNilA))))) (dTst (dOp rdNe (dCB rdLen (dConsA (dVarO 0) dNilA)) (dCB rdLen (dConsA (dVarO 1) dNilA))))) (dRet (dC (.bl false))) dNext) (dSeq (dFor (dKeys 1) (gN 3) (dIfS (dOr (dTst (dOp rdNotIn (dVarO 3) (dVarO 0))) (dNot (dTst (dCall S (dConsA (dOp rdIx (dVarO 0) (dVarO 3)) (dConsA (dOp rdIx (dVarO 1) (dVarO 3)) dNilA)))))) (dRet (dC (.bl false))) dNext)) (dRet (dC (.bl true))))) dNext) (dSeq (dIfS (dAnd (dTst (dCB rdIsi (dConsA (dVarO 1) (dConsA (dC (.ty "tuple")) dNilA)))) (dNot (dTst (dCB rdIsi (dConsA (dVarO 0) (dConsA (dC (.ty "tuple")) dNilA)))))) (dRet (dC (.bl false))) dNext) (dSeq (dIfS (dAnd (dTst (dCB rdIsi (dConsA (dVarO 1) (dConsA (dC (.ty "list")) dNilA)))) (dNot (dTst (dCB rdIsi (dConsA (dVarO 0) (dConsA (dC (.ty "list")) dNilA)))))) (dRet (dC (.bl false))) dNext) (dSeq (dIfS (dTst (dOp rdNe (dCB rdLen (dConsA (dVarO 0) dNilA)) (dCB rdLen (dConsA (dVarO 1) dNilA)))) (dRet (dC (.bl false))) dNext) (dSeq (dFor (dRng (dConsA (dCB rdLen (dConsA (dVarO 1) dNilA)) dNilA)) (gN 2) (dIfS (dNot (dTst (dCall S (dConsA (dOp rdIx (dVarO 0) (dVarO 2)) (dConsA (dOp rdIx (dVarO 1) (dVarO 2)) dNilA))))) (dRet (dC (.bl false))) dNext)) (dRet (dC (.bl true)))))))))))
def p_same3 (S : SpecD) : DS := (dSeq (dIfS (dTst (dCB rdIsi (dConsA (dVarO 1) (dConsA (dC (.ty "dict")) dNilA)))) (dSeq (dIfS (dOr (dNot (dTst (dCB rdIsi (dConsA (dVarO 0) (dConsA (dC (.ty "dict")) dNilA))))) (dTst (dOp rdNe (dCB rdLen (dConsA (dVarO 0) dNilA)) (dCB rdLen (dConsA (dVarO 1) dNilA))))) (dRet (dC (.bl false))) dNext) (dRet (dCB rdAll (dConsA (dLc (dKeys 1) (gN 2) [2] dYes (dAndV (dOp rdIn (dVarO 2) (dVarO 0)) (dCall S (dConsA (dOp rdIx (dVarO 0) (dVarO 2)) (dConsA (dOp rdIx (dVarO 1) (dVarO 2)) dNilA))))) dNilA)))) dNext) (dSeq (dIfS (dOr (dTst (dCB rdIsi (dConsA (dVarO 1) (dConsA (dC (.ty "list")) dNilA)))) (dTst (dCB rdIsi (dConsA (dVarO 1) (dConsA (dC (.ty "tuple")) dNilA))))) (dSeq (dIfS (dOr (dTst (dOp rdNe (dCB rdIsi (dConsA (dVarO 1) (dConsA (dC (.ty "list")) dNilA))) (dCB rdIsi (dConsA (dVarO 0) (dConsA (dC (.ty "list")) dNilA))))) (dTst (dOp rdNe (dCB rdIsi (dConsA (dVarO 1) (dConsA (dC (.ty "tuple")) dNilA))) (dCB rdIsi (dConsA (dVarO 0) (dConsA (dC (.ty "tuple")) dNilA)))))) (dRet (dC (.bl false))) dNext) (dRet (dAndV (dOp rdEq (dCB rdLen (dConsA (dVarO 0) dNilA)) (dCB rdLen (dConsA (dVarO 1) dNilA))) (dCB rdAll (dConsA (dLc (dRng (dConsA (dCB rdLen (dConsA (dVarO 1) dNilA)) dNilA)) (gN 3) [3] dYes (dCall S (dConsA (dOp rdIx (dVarO 0) (dVarO 3)) (dConsA (dOp rdIx (dVarO 1) (dVarO 3)) dNilA)))) dNilA))))) dNext) (dSeq (dIfS (dTst (dCB rdIsi (dConsA (dVarO 1) (dConsA (dC (.ty "str")) dNilA)))) (dRet (dAndV (dCB rdIsi (dConsA (dVarO 0) (dConsA (dC (.ty "str")) dNilA))) (dOp rdEq (dVarO 0) (dVarO 1)))) dNext) (dSeq (dIfS (dOr (dTst (dOp rdIs (dVarO 1) (dC .non))) (dOr (dTst (dOp rdIs (dVarO 1) (dC (.bl true)))) (dTst (dOp rdIs (dVarO 1) (dC (.bl false)))))) (dRet (dOrV (dAndV (dOp rdIs (dVarO 1) (dC .non)) (dOp rdIs (dVarO 0) (dC .non))) (dOrV (dAndV (dOp rdIs (dVarO 1) (dC (.bl true))) (dOp rdIs (dVarO 0) (dC (.bl true)))) (dAndV (dOp rdIs (dVarO 1) (dC (.bl false))) (dOp rdIs (dVarO 0) (dC (.bl false))))))) dNext) (dRet (dAndV (dCB rdIsi (dConsA (dVarO 0) (dConsA (dC (.ty "int")) dNilA))) (dAndV (dNotV (dCB rdIsi (dConsA (dVarO 0) (dConsA (dC (.ty "bool")) dNilA)))) (dOp rdEq (dVarO 0) (dVarO 1)))))))))

/-- a loop whose every turn goes on, whatever the item's slot holds -/
theorem forL_all {g : DG} {b : DS} {DD : DEnds} {E0 : List Sl → Prop} : ∀ (items : List D) (E : List Sl), E0 E → (∀ d ∈ items, ∀ E (N : List Sl → Prop), E0 E → (∀ E', E0 E' → N E') → g d E fun E' => b { DD with nx := N, ct := N, bk := DD.nx } E') → (∀ E, E0 E → DD.nx E) → forL g b DD items E
  | [], E, h, _, k => k E h
  | d :: r, E, h, hb, k => hb d (List.mem_cons_self ..) E _ h fun E' h' => forL_all r E' h' (fun d hd => hb d (List.mem_cons_of_mem _ hd)) k
theorem lcL_all {g : DG} {vs : List Nat} {c : DT} {p : DX} {y : D} {E : List Sl} : ∀ (items : List D), (∀ d ∈ items, ∀ (N : D → Prop) (M : Prop), N y → g d (wipeD E vs) fun E' => c E' fun b => if b = true then p E' N else M) → ∀ (Q : List D → Prop), Q (List.replicate items.length y) → lcL g vs c p items E Q
  | [], _, Q, k => k
  | d :: r, hb, Q, k => by
    refine hb d (List.mem_cons_self ..) _ _ ?_
    exact lcL_all r (fun d hd => hb d (List.mem_cons_of_mem _ hd)) _ k
theorem bls_true : ∀ n, bls (List.replicate n (D.bl true)) = some (List.replicate n true)
  | 0 => rfl
  | n + 1 => by simp [List.replicate_succ, bls, bls_true n]
theorem all_true (n : Nat) : (List.replicate n true).all id = true := by simp
theorem mem_rangeD {d : D} {n : Nat} (h : d ∈ rangeD 0 n) : ∃ i : Nat, i < n ∧ d = .int i := by
  simp only [rangeD, List.mem_map, List.mem_range] at h
  obtain ⟨i, h1, rfl⟩ := h
  exact ⟨i, h1, by simp⟩
theorem rngB_len {n : Nat} (h : n ≤ 100000) : RngB (n : Int) := ⟨by omega, by omega⟩
theorem get_both {xs ys : List D} {i : Nat} (hl : xs.length = ys.length) (h : i < ys.length) : ∃ a b, xs[i]? = some a ∧ ys[i]? = some b :=
  ⟨xs[i], ys[i], by rw [List.getElem?_eq_getElem], by rw [List.getElem?_eq_getElem]⟩

theorem lens {xs ys : List D} (h : xs.length = ys.length) : deq (.int (xs.length : Int)) (.int (ys.length : Int)) = true := by rw [h]; simp [deq]
theorem sm_at {S : SpecD} {n : Nat} (hS : ∀ ds Q, S_same n ds Q → S ds Q) {E : List Sl} {a b : Nat} {j : Nat} {x y : D} {d : D} {Q : D → Prop} (h0 : E[a]? = some (.sh x)) (h1 : E[b]? = some (.sh y)) (h2 : E[j]? = some (.sh d))
    (h : ∃ u v, (∀ Q, Q u → rdIx x d Q) ∧ (∀ Q, Q v → rdIx y d Q) ∧ smR n u v) (k : Q (.bl true)) : dCall S (dConsA (dOp rdIx (dVarO a) (dVarO j)) (dConsA (dOp rdIx (dVarO b) (dVarO j)) dNilA)) E Q := by
  obtain ⟨u, v, h3, h4, h5⟩ := h
  simp only [dCall, dConsA, dOp, dVarO, h0, h1, h2, dNilA]
  exact h3 _ (h4 _ (hS _ _ ⟨u, v, rfl, h5, k⟩))
theorem ix_lst {n : Nat} {xs ys : List D} (hl : xs.length = ys.length) (h : ∀ (i : Nat) a b, xs[i]? = some a → ys[i]? = some b → smR n a b) {i : Nat} (hi : i < ys.length) :
    ∃ u v, (∀ Q, Q u → rdIx (.lst xs) (.int (i : Int)) Q) ∧ (∀ Q, Q v → rdIx (.lst ys) (.int (i : Int)) Q) ∧ smR n u v := by
  obtain ⟨a, b, ha, hb⟩ := get_both hl hi
  exact ⟨a, b, fun Q k => by simp only [rdIx, atD_nat, ha]; exact k, fun Q k => by simp only [rdIx, atD_nat, hb]; exact k, h i a b ha hb⟩
theorem ix_tup {n : Nat} {xs ys : List D} (hl : xs.length = ys.length) (h : ∀ (i : Nat) a b, xs[i]? = some a → ys[i]? = some b → smR n a b) {i : Nat} (hi : i < ys.length) :
    ∃ u v, (∀ Q, Q u → rdIx (.tup xs) (.int (i : Int)) Q) ∧ (∀ Q, Q v → rdIx (.tup ys) (.int (i : Int)) Q) ∧ smR n u v := by
  obtain ⟨a, b, ha, hb⟩ := get_both hl hi
  exact ⟨a, b, fun Q k => by simp only [rdIx, atD_nat, ha]; exact k, fun Q k => by simp only [rdIx, atD_nat, hb]; exact k, h i a b ha hb⟩
theorem ix_dic {n : Nat} {ks js : List Key} {xs ys : List D} {k : Key} (h : ∃ a b, lk ks xs k = some a ∧ lk js ys k = some b ∧ smR n a b) :
    ∃ u v, (∀ Q, Q u → rdIx (.dic ks xs) (keyD k) Q) ∧ (∀ Q, Q v → rdIx (.dic js ys) (keyD k) Q) ∧ smR n u v := by
  obtain ⟨a, b, ha, hb, hs⟩ := h
  exact ⟨a, b, fun Q k => by simp only [rdIx, keyOf_keyD, ha]; exact k, fun Q k => by simp only [rdIx, keyOf_keyD, hb]; exact k, hs⟩


theorem pure_same1 {S : SpecD} (n : Nat) (hS : ∀ ds Q, S_same n ds Q → S ds Q) : PureD (p_same1 S) (S_same (n + 1)) 4 2 := by
  rintro ds Q ⟨x, y, rfl, h, k⟩
  refine ⟨rfl, ?_⟩
  cases x <;> cases y <;> (first | exact h.elim | skip)
  · simpa [p_same1, dSeq, dIfS, dTst, dOp, dVarO, dC, rdIs, dRet, startN] using k
  · rename_i a b
    cases (h : a = b)
    cases a <;> simpa [p_same1, dSeq, dIfS, dTst, dOp, dVarO, dC, rdIs, dRet, startN, dNext] using k
  · rename_i a b
    cases (h : a = b)
    simpa [p_same1, dSeq, dIfS, dTst, dOp, dVarO, dC, rdIs, dRet, startN, dNext, dCB, dConsA, dNilA, rdIsi, isD, dAndV, dNotV, rdEq, okD, deq] using k
  · rename_i a b
    cases (h : a = b)
    simpa [p_same1, dSeq, dIfS, dTst, dOp, dVarO, dC, rdIs, dRet, startN, dNext, dCB, dConsA, dNilA, rdIsi, isD, dAndV, dNotV, rdEq, okD, deq] using k
  · rename_i xs ys
    obtain ⟨hl, hb, hs⟩ := h
    simp only [p_same1, dSeq, dIfS, dTst, dOp, dVarO, dC, rdIs, dRet, startN, dNext, dCB, dConsA, dNilA, rdIsi, isD, dOr, rdNe, okD, deq, dFor, rdLen, hl]
    simp [hl]
    refine ⟨rngB_len hb, forL_all (E0 := fun E => ∃ z w, E = [.sh (.tup xs), .sh (.tup ys), z, w]) _ _ ⟨_, _, rfl⟩ (fun d hd E N hE kN => ?_) (fun E _ => k)⟩
    obtain ⟨i, hi, rfl⟩ := mem_rangeD hd
    obtain ⟨z, w, rfl⟩ := hE
    simp only [gN, dIfS, dNot, dTst]
    refine sm_at hS (x := .tup xs) (y := .tup ys) (d := .int i) rfl rfl rfl (ix_tup hl hs (by omega)) ?_
    exact kN _ ⟨_, _, rfl⟩
  · rename_i xs ys
    obtain ⟨hl, hb, hs⟩ := h
    simp only [p_same1, dSeq, dIfS, dTst, dOp, dVarO, dC, rdIs, dRet, startN, dNext, dCB, dConsA, dNilA, rdIsi, isD, dOr, rdNe, okD, deq, dFor, rdLen, hl]
    simp [hl]
    refine ⟨rngB_len hb, forL_all (E0 := fun E => ∃ z w, E = [.sh (.lst xs), .sh (.lst ys), z, w]) _ _ ⟨_, _, rfl⟩ (fun d hd E N hE kN => ?_) (fun E _ => k)⟩
    obtain ⟨i, hi, rfl⟩ := mem_rangeD hd
    obtain ⟨z, w, rfl⟩ := hE
    simp only [gN, dIfS, dNot, dTst]
    refine sm_at hS (x := .lst xs) (y := .lst ys) (d := .int i) rfl rfl rfl (ix_lst hl hs (by omega)) ?_
    exact kN _ ⟨_, _, rfl⟩
  · rename_i ks xs js ys
    obtain ⟨hl, hb, hs⟩ := h
    simp only [p_same1, dSeq, dIfS, dTst, dOp, dVarO, dC, rdIs, dRet, startN, dNext, dCB, dConsA, dNilA, rdIsi, isD, dOr, rdNe, okD, deq, dFor, rdLen, hl, dNot, dKeys]
    simp [hl]
    refine forL_all (E0 := fun E => ∃ z w, E = [.sh (.dic ks xs), .sh (.dic js ys), z, w]) _ _ ⟨_, _, rfl⟩ (fun d hd E N hE kN => ?_) (fun E _ => k)
    obtain ⟨kk, hk, rfl⟩ := List.mem_map.mp hd
    obtain ⟨z, w, rfl⟩ := hE
    obtain ⟨a, b, ha, _⟩ := hs kk hk
    simp only [gN, dIfS, dOr, dTst, dOp, dVarO, List.set, List.getElem?_cons_succ, List.getElem?_cons_zero, rdNotIn, keyOf_keyD, lk_has ha, Bool.not_true, Bool.false_eq_true, if_false, dNot]
    exact sm_at hS (x := .dic ks xs) (y := .dic js ys) (d := keyD kk) rfl rfl rfl (ix_dic (hs kk hk)) (kN _ ⟨_, _, rfl⟩)

theorem pure_same2 {S : SpecD} (n : Nat) (hS : ∀ ds Q, S_same n ds Q → S ds Q) : PureD (p_same2 S) (S_same (n + 1)) 4 2 := by
  rintro ds Q ⟨x, y, rfl, h, k⟩
  refine ⟨rfl, ?_⟩
  cases x <;> cases y <;> (first | exact h.elim | skip)
  · simpa [p_same2, dSeq, dIfS, dTst, dOp, dVarO, dC, rdIs, dRet, startN, dOr, dOrV, dAndV] using k
  · rename_i a b
    cases (h : a = b)
    cases a <;> simpa [p_same2, dSeq, dIfS, dTst, dOp, dVarO, dC, rdIs, dRet, startN, dNext, dOr, dAnd, dOrV, dAndV] using k
  · rename_i a b
    cases (h : a = b)
    simpa [p_same2, dSeq, dIfS, dTst, dOp, dVarO, dC, rdIs, dRet, startN, dNext, dCB, dConsA, dNilA, rdIsi, isD, dAndV, dNotV, dOr, rdEq, okD, deq] using k
  · rename_i a b
    cases (h : a = b)
    simpa [p_same2, dSeq, dIfS, dTst, dOp, dVarO, dC, rdIs, dRet, startN, dNext, dCB, dConsA, dNilA, rdIsi, isD, dAndV, dNotV, dOr, rdEq, okD, deq] using k
  · rename_i xs ys
    obtain ⟨hl, hb, hs⟩ := h
    simp only [p_same2, dSeq, dIfS, dTst, dOp, dVarO, dC, rdIs, dRet, startN, dNext, dCB, dConsA, dNilA, rdIsi, isD, dOr, dAnd, dNot, rdNe, okD, deq, dFor, rdLen, hl]
    simp [hl]
    refine ⟨rngB_len hb, forL_all (E0 := fun E => ∃ z w, E = [.sh (.tup xs), .sh (.tup ys), z, w]) _ _ ⟨_, _, rfl⟩ (fun d hd E N hE kN => ?_) (fun E _ => k)⟩
    obtain ⟨i, hi, rfl⟩ := mem_rangeD hd
    obtain ⟨z, w, rfl⟩ := hE
    simp only [gN, dIfS, dNot, dTst]
    refine sm_at hS (x := .tup xs) (y := .tup ys) (d := .int i) rfl rfl rfl (ix_tup hl hs (by omega)) ?_
    exact kN _ ⟨_, _, rfl⟩
  · rename_i xs ys
    obtain ⟨hl, hb, hs⟩ := h
    simp only [p_same2, dSeq, dIfS, dTst, dOp, dVarO, dC, rdIs, dRet, startN, dNext, dCB, dConsA, dNilA, rdIsi, isD, dOr, dAnd, dNot, rdNe, okD, deq, dFor, rdLen, hl]
    simp [hl]
    refine ⟨rngB_len hb, forL_all (E0 := fun E => ∃ z w, E = [.sh (.lst xs), .sh (.lst ys), z, w]) _ _ ⟨_, _, rfl⟩ (fun d hd E N hE kN => ?_) (fun E _ => k)⟩
    obtain ⟨i, hi, rfl⟩ := mem_rangeD hd
    obtain ⟨z, w, rfl⟩ := hE
    simp only [gN, dIfS, dNot, dTst]
    refine sm_at hS (x := .lst xs) (y := .lst ys) (d := .int i) rfl rfl rfl (ix_lst hl hs (by omega)) ?_
    exact kN _ ⟨_, _, rfl⟩
  · rename_i ks xs js ys
    obtain ⟨hl, hb, hs⟩ := h
    simp only [p_same2, dSeq, dIfS, dTst, dOp, dVarO, dC, rdIs, dRet, startN, dNext, dCB, dConsA, dNilA, rdIsi, isD, dOr, dAnd, dNot, rdNe, okD, deq, dFor, rdLen, hl, dKeys]
    simp [hl]
    refine forL_all (E0 := fun E => ∃ z w, E = [.sh (.dic ks xs), .sh (.dic js ys), z, w]) _ _ ⟨_, _, rfl⟩ (fun d hd E N hE kN => ?_) (fun E _ => k)
    obtain ⟨kk, hk, rfl⟩ := List.mem_map.mp hd
    obtain ⟨z, w, rfl⟩ := hE
    obtain ⟨a, b, ha, _⟩ := hs kk hk
    simp only [gN, dIfS, dOr, dTst, dOp, dVarO, List.set, List.getElem?_cons_succ, List.getElem?_cons_zero, rdNotIn, keyOf_keyD, lk_has ha, Bool.not_true, Bool.false_eq_true, if_false, dNot]
    exact sm_at hS (x := .dic ks xs) (y := .dic js ys) (d := keyD kk) rfl rfl rfl (ix_dic (hs kk hk)) (kN _ ⟨_, _, rfl⟩)

theorem pure_same3 {S : SpecD} (n : Nat) (hS : ∀ ds Q, S_same n ds Q → S ds Q) : PureD (p_same3 S) (S_same (n + 1)) 4 2 := by
  rintro ds Q ⟨x, y, rfl, h, k⟩
  refine ⟨rfl, ?_⟩
  cases x <;> cases y <;> (first | exact h.elim | skip)
  · simpa [p_same3, dSeq, dIfS, dTst, dOp, dVarO, dC, rdIs, dRet, startN, dNext, dCB, dConsA, dNilA, rdIsi, isD, dOr, dOrV, dAndV] using k
  · rename_i a b
    cases (h : a = b)
    cases a <;> simpa [p_same3, dSeq, dIfS, dTst, dOp, dVarO, dC, rdIs, dRet, startN, dNext, dCB, dConsA, dNilA, rdIsi, isD, dOr, dOrV, dAndV] using k
  · rename_i a b
    cases (h : a = b)
    simpa [p_same3, dSeq, dIfS, dTst, dOp, dVarO, dC, rdIs, dRet, startN, dNext, dCB, dConsA, dNilA, rdIsi, isD, dOr, dAndV, dNotV, rdEq, okD, deq] using k
  · rename_i a b
    cases (h : a = b)
    simpa [p_same3, dSeq, dIfS, dTst, dOp, dVarO, dC, rdIs, dRet, startN, dNext, dCB, dConsA, dNilA, rdIsi, isD, dOr, dAndV, dNotV, rdEq, okD, deq] using k
  · rename_i xs ys
    obtain ⟨hl, hb, hs⟩ := h
    simp only [p_same3, dSeq, dIfS, dTst, dOp, dVarO, dC, dRet, startN, dNext, dCB, dConsA, dNilA, rdIsi, isD, dOr, rdNe, okD, deq, rdLen, hl, dAndV, rdEq]
    simp [hl, okD]
    refine ⟨rngB_len hb, by simp only [rangeD, List.length_map, List.length_range, sizeLine]; omega, lcL_all (y := .bl true) _ (fun d hd N M kN => ?_) _ ?_⟩
    · obtain ⟨i, hi, rfl⟩ := mem_rangeD hd
      have e : wipeD [Sl.sh (.tup xs), Sl.sh (.tup ys), Sl.no, Sl.no] [3] = [Sl.sh (.tup xs), Sl.sh (.tup ys), Sl.no, Sl.no] := rfl
      rw [e]
      simp only [gN, dYes, if_true]
      exact sm_at hS (x := .tup xs) (y := .tup ys) (d := .int i) rfl rfl rfl (ix_tup hl hs (by omega)) kN
    · show rdAll [.lst (List.replicate _ _)] Q
      simp only [rdAll, bls_true, all_true]
      exact k
  · rename_i xs ys
    obtain ⟨hl, hb, hs⟩ := h
    simp only [p_same3, dSeq, dIfS, dTst, dOp, dVarO, dC, dRet, startN, dNext, dCB, dConsA, dNilA, rdIsi, isD, dOr, rdNe, okD, deq, rdLen, hl, dAndV, rdEq]
    simp [hl, okD]
    refine ⟨rngB_len hb, by simp only [rangeD, List.length_map, List.length_range, sizeLine]; omega, lcL_all (y := .bl true) _ (fun d hd N M kN => ?_) _ ?_⟩
    · obtain ⟨i, hi, rfl⟩ := mem_rangeD hd
      have e : wipeD [Sl.sh (.lst xs), Sl.sh (.lst ys), Sl.no, Sl.no] [3] = [Sl.sh (.lst xs), Sl.sh (.lst ys), Sl.no, Sl.no] := rfl
      rw [e]
      simp only [gN, dYes, if_true]
      exact sm_at hS (x := .lst xs) (y := .lst ys) (d := .int i) rfl rfl rfl (ix_lst hl hs (by omega)) kN
    · show rdAll [.lst (List.replicate _ _)] Q
      simp only [rdAll, bls_true, all_true]
      exact k
  · rename_i ks xs js ys
    obtain ⟨hl, hb, hs⟩ := h
    simp only [p_same3, dSeq, dIfS, dTst, dOp, dVarO, dC, dRet, startN, dNext, dCB, dConsA, dNilA, rdIsi, isD, dOr, rdNe, okD, deq, rdLen, hl, dNot]
    simp [hl, okD]
    refine ⟨by simp only [List.length_map, sizeLine]; omega, lcL_all (y := .bl true) _ (fun d hd N M kN => ?_) _ ?_⟩
    · obtain ⟨kk, hk, rfl⟩ := List.mem_map.mp hd
      obtain ⟨a, b, ha, _⟩ := hs kk hk
      have e : wipeD [Sl.sh (.dic ks xs), Sl.sh (.dic js ys), Sl.no, Sl.no] [2] = [Sl.sh (.dic ks xs), Sl.sh (.dic js ys), Sl.no, Sl.no] := rfl
      rw [e]
      simp only [gN, dAndV, dTst, dOp, dVarO, List.set, List.getElem?_cons_succ, List.getElem?_cons_zero, rdIn, keyOf_keyD, lk_has ha, if_true, dYes]
      exact sm_at hS (x := .dic ks xs) (y := .dic js ys) (d := keyD kk) rfl rfl rfl (ix_dic (hs kk hk)) kN
    · show rdAll [.lst (List.replicate _ _)] Q
      simp only [rdAll, bls_true, all_true]
      exact k

theorem sm_non (n : Nat) : smR (n + 1) .non .non := trivial
theorem sm_bl (n : Nat) (b : Bool) : smR (n + 1) (.bl b) (.bl b) := rfl
theorem sm_int (n : Nat) (i : Int) : smR (n + 1) (.int i) (.int i) := rfl
theorem sm_str (n : Nat) (x : Str) : smR (n + 1) (.str x) (.str x) := rfl
theorem sm_each {n : Nat} {xs : List D} (h : ∀ d ∈ xs, smR n d d) (i : Nat) (a b : D) (h1 : xs[i]? = some a) (h2 : xs[i]? = some b) : smR n a b := by
  rw [h1] at h2
  cases h2
  exact h a (List.mem_of_getElem? h1)
theorem sm_lst {n : Nat} {xs : List D} (hl : xs.length ≤ 100000) (h : ∀ d ∈ xs, smR n d d) : smR (n + 1) (.lst xs) (.lst xs) := ⟨rfl, hl, sm_each h⟩
theorem sm_tup {n : Nat} {xs : List D} (hl : xs.length ≤ 100000) (h : ∀ d ∈ xs, smR n d d) : smR (n + 1) (.tup xs) (.tup xs) := ⟨rfl, hl, sm_each h⟩
theorem lk_ex {κ : Type} [DecidableEq κ] {k : κ} : ∀ {ks : List κ} {ds : List D}, ks.length = ds.length → k ∈ ks → ∃ d, lk ks ds k = some d ∧ d ∈ ds
  | [], _, _, h => by cases h
  | k' :: ks, [], e, _ => by simp at e
  | k' :: ks, d :: ds, e, h => by
    unfold lk
    by_cases c : k' = k
    · exact ⟨d, if_pos c, List.mem_cons_self ..⟩
    · rcases List.mem_cons.mp h with h | h
      · exact absurd h.symm c
      · obtain ⟨d', h1, h2⟩ := lk_ex (ds := ds) (by simpa using e) h
        exact ⟨d', by rw [if_neg c, h1], List.mem_cons_of_mem _ h2⟩
theorem sm_dic {n : Nat} {ks : List Key} {ds : List D} (e : ks.length = ds.length) (hl : ks.length ≤ 100000) (h : ∀ d ∈ ds, smR n d d) : smR (n + 1) (.dic ks ds) (.dic ks ds) :=
  ⟨rfl, hl, fun k hk => by
    obtain ⟨d, h1, h2⟩ := lk_ex e hk
    exact ⟨d, d, h1, h1, h d h2⟩⟩
theorem sm_qD (n : Nat) (r : Rat) : smR (n + 2) (qD r) (qD r) := sm_tup (by simp) fun d hd => by
  simp only [List.mem_cons, List.not_mem_nil, or_false] at hd
  rcases hd with rfl | rfl <;> exact sm_int _ _
/-- a def that tells nothing yet -/
theorem Def.none {P : Program} {w : World} {K : FK} {mg : Str → Option Value} {x : Str} {st : Stmt} {ps : List Str} (F : FunAt K mg x st)
    (hb : ∀ (kV doc pm : Value) (an : Option Addr) (cdv ct : Value) (us : List Value), us.length = ps.length → bindArgs (PySem.W.fnOf x x (defArgs st) (defBody st) (defScope st) .none kV doc pm an cdv ct) ⟨us, []⟩ = pure (ps.zip us)) : Def P w K mg x ps 0 (S_same 0) := by
  obtain ⟨f, fd, F, hm⟩ := F.ex
  have no : ∀ {vs H Q E}, ¬ spD K (S_same 0) vs H Q E := fun h => by
    obtain ⟨pp, Hb, ds, QD, _, _, ⟨x, y, _, h, _⟩, _⟩ := h
    cases x <;> cases y <;> exact h
  exact ⟨f, fd, hm, F.kp, F.binds hb, fun base => ⟨fun vs H Q E h => (no h).elim, fun A outer s H args us vs Q E _ _ _ _ h => (no h).elim⟩⟩
end DL

/-! DR4: the law's own head -/
namespace DL
open PySem PySem.Spec PyProof.Rows L2

def spLaw (K : FK) : Sp := fun vs H Q _ => ∃ (a : Addr) (ns : List Int), vs = [.ref a] ∧ SqL K H a (ns.map V.int) ∧ ns.length ≤ 63 ∧ ∀ H', Q (.bl true) H'
section
variable {P : Program} {w : World} {K : FK} {mg : Str → Option Value}
theorem fun_at {h : Heap} {x : Str} {st : Stmt} {f : Addr} {oc : Value} {od an : Option Addr} {osl : Array (Option Value)} {kV doc pm cdv ct : Value} (X : K.In h) (G : h.Ns mainGlobals mg)
    (a : PySem.W.nsIn K mainGlobals x = some (some (.ref f)))
    (l : List.lookup f K = some ⟨oc, od, .func (PySem.W.fnOf x x (defArgs st) (defBody st) (defScope st) .none kV doc pm an cdv ct), osl⟩)
    (c : PySem.W.codeIn K cdv x = true) (k : PySem.W.keepIn K (.ref f) = true) : FunAt K mg x st := ⟨f, _, fun_mk l c k, PySem.W.mg_of X G a⟩
theorem fnLaw {x x' : Str} {st : Stmt} {N : List Str} {k : Nat} {S : Sp} (F : FunAt K mg x st)
    (hb : ∀ (kV doc pm : Value) (an : Option Addr) (cdv ct : Value) (s : Shared) (u : Value), BindsTo s (PySem.W.fnOf x x (defArgs st) (defBody st) (defScope st) .none kV doc pm an cdv ct) ⟨[u], []⟩ [(x', u)])
    (sc : FnScope N [x'] (defScope st)) (len : ∀ vs H Q E, S vs H Q E → vs.length = 1)
    (body : ∀ (base : Heap) (f : Addr) (cdv : Value) (A : Around) (outer : List Env) (s : Shared) (H : Hp) (vs : List V) (Q : VK) (E : XK), Room k (A.deeper (envOfC x (defScope st) s.heap.objs.size f cdv)) → S vs H Q E →
      ∃ t, PSs (cxOf CX0 P w K mg base N x (defScope st) f cdv A outer s H E).nox (defBody st) t ∧ t { nx := fun _ H' => Q .non H', rt := Q } (L2.start N vs) H) {fa : Addr} (hmg : mg x = some (.ref fa)) :
    ∃ fd, (∀ (s : Shared) (u : Value), BindsTo s fd ⟨[u], []⟩ [(x', u)]) ∧ ∀ base : Heap, K.In base → base.Ns mainGlobals mg → FnOk P w K mg base CX0 (k + 1) fa fd [x'] S := by
  obtain ⟨f, fd, F, hm⟩ := F.ex
  cases hm.symm.trans hmg
  have F' := F
  obtain ⟨⟨oc, od, kV, doc, pm, an, cdv, ct, osl, rfl, _, _⟩, _⟩ := F'
  exact ⟨_, hb _ _ _ _ _ _, fun base _ _ => F.ok sc len fun cdv A outer s H vs Q E hr h => body base _ cdv A outer s H vs Q E hr h⟩
theorem rep_no {n i : Nat} {d : Sl} (hd : d ≠ .no) (h : (List.replicate n Sl.no)[i]? = some d) : False := by
  rw [List.getElem?_replicate] at h
  split at h
  · cases h; exact hd rfl
  · cases h
theorem law_run {X : Cx} {st0 : Stmt} {tail : List Stmt} {p : DS} {Q : VK} {a : Addr} {ns : List Int} {H : Hp} {n : Nat} (h0 : PS X st0 (tAsg (tCall (spPool X.K) [] E0 (tCons (tVar 0) tNil)) (gName 1))) (R : QSs X tail p)
    (hs : SqL X.K H a (ns.map V.int)) (q : ∀ H', Q (.bl true) H') (hp : ∀ QD : D → Prop, QD (.bl true) → p (fnEnds QD) (.no :: .sh .pool :: List.replicate n .no)) :
    ∃ t, PSs X (st0 :: tail) t ∧ t { nx := fun _ H' => Q .non H', rt := Q } (some (.ref a) :: none :: List.replicate n none) H := by
  obtain ⟨t, h1, h2⟩ := R
  refine ⟨_, pss_cons h0 h1, ?_⟩
  refine ⟨_, rfl, a, ns, rfl, hs, fun l r hl => ?_⟩
  have so : SOk l X.K H (upd H l (.lst [.ref a, .int 0, .int r, .int 0])) := by
    refine ⟨fun b o h => ?_, hl, ⟨a, ns, 0, r, 0, upd_same, hs⟩, fun b xs h => ?_⟩
    · rw [upd_ne (fun z => by subst z; rw [hl] at h; cases h)]
      exact h
    · by_cases e : b = l
      · subst e; rw [upd_same] at h; cases h
      · rw [upd_ne e] at h; exact h
  refine h2 l H H H _ _ _ _ (fnEnds fun d => d = .bl true) ?_ so ?_ (hp _ rfl) ?_
  · refine ⟨Same.refl _, fun b o hb h => by rw [upd_ne hb]; exact h, fun b h => ?_, fun b h _ => h⟩
    by_cases e : b = l
    · subst e; exact absurd hl h
    · rw [upd_ne e]; exact h
  · refine ⟨?_, fun i d h => ?_, fun i d h => ?_, fun i j p d d' hij h => ?_, fun i b dd x h => ?_⟩
    · simp [gName]
    · match i, h with
      | 0, h => cases h
      | 1, h =>
        cases h
        exact ⟨.ref l, rfl, rfl⟩
      | i + 2, h => exact (rep_no (by simp) h).elim
    · match i, h with
      | 0, h => cases h
      | 1, h => cases h
      | i + 2, h => exact (rep_no (by simp) h).elim
    · match i, h with
      | 0, h => cases h
      | 1, h => cases h
      | i + 2, h => exact (rep_no (by simp) h).elim
    · match i, h with
      | 0, h => cases h
      | 1, h => cases h
      | i + 2, h => exact (rep_no (by simp) h).elim
  · refine ⟨fun Hb H σ E s so er h => (nomatch (h : D.non = .bl true)), fun Hb H v d s so r h => ?_, fun Hb H σ E s so er h => h.elim, fun Hb H σ E s so er h => h.elim, fun Hb H p d s so n o h => h.elim, fun _ _ _ _ _ _ _ _ _ _ _ h => h.elim⟩
    have h : d = .bl true := h
    subst h
    have : v = .bl true := r
    subst this
    exact q _
theorem glob_pair {h : Heap} {x : Str} {a : Addr} {od : Option Addr} {sl : Array (Option Value)} {p q : Int} {t1 t2 : Tok} {n : Nat} (X : K.In h) (G : h.Ns mainGlobals mg)
    (e : PySem.W.nsIn K mainGlobals x = some (some (.ref a))) (l : List.lookup a K = some ⟨.type "tuple", od, .seq #[.int p t1, .int q t2] n, sl⟩) : GlobD K mg x (.tup [.int p, .int q]) := by
  refine ⟨.ref a, .ref a, PySem.W.mg_of X G e, rfl, fun pp H => ?_⟩
  unfold Rep
  refine ⟨a, [.int p, .int q], rfl, .inr ⟨rfl, .inr ⟨_, _, _, l, rfl, rfl, by show 2 ≤ sizeLine; decide, .cons ⟨_, rfl⟩ (.cons ⟨_, rfl⟩ .nil)⟩⟩, .cons rep_int (.cons rep_int .nil)⟩
end
end DL

/-! DZ: zip(a, b, strict=..) of lists and tuples of one length -/
namespace DZ
open PySem PySem.Spec PyProof.Rows L2
open PySem.Sem (wp)
/-- an iterator of a list (t) or a tuple, k items on -/
def ItAt (t : Bool) (h : Heap) (c l : Addr) (k : Nat) : Prop := match t with
  | true => h.IsListIter c l k
  | false => h.IsTupleIter c l k
def SqAt (t : Bool) (h : Heap) (l : Addr) (xs : Array Value) : Prop := match t with
  | true => h.IsList l xs
  | false => h.IsTuple l xs
theorem ItAt.at {t : Bool} {h g : Heap} {c l : Addr} {k : Nat} (x : ItAt t h c l k) (e : ∀ o, h.get? c = some o → g.get? c = some o) : ItAt t g c l k := by
  cases t
  · obtain ⟨o, h1, h2⟩ := x
    exact ⟨o, e _ h1, h2⟩
  · obtain ⟨o, h1, h2⟩ := x
    exact ⟨o, e _ h1, h2⟩
theorem SqAt.at {t : Bool} {h g : Heap} {l : Addr} {xs : Array Value} (x : SqAt t h l xs) (e : ∀ o, h.get? l = some o → g.get? l = some o) : SqAt t g l xs := by
  cases t
  · obtain ⟨o, h1, h2⟩ := x
    exact ⟨o, e _ h1, h2⟩
  · obtain ⟨o, h1, h2⟩ := x
    exact ⟨o, e _ h1, h2⟩
theorem ItAt.is {t : Bool} {h : Heap} {c l : Addr} {k : Nat} (x : ItAt t h c l k) : ∃ o, h.get? c = some o ∧ ∀ v, o.data ≠ .cell v := by
  cases t
  · obtain ⟨o, h1, h2, h3⟩ := x
    exact ⟨o, h1, fun v q => by rw [h3] at q; cases q⟩
  · obtain ⟨o, h1, h2, h3⟩ := x
    exact ⟨o, h1, fun v q => by rw [h3] at q; cases q⟩
section
variable {prog : Program} {w : World} {A : Around} {E : Value → Shared → Prop} {s : Shared} {t t' : Bool}
theorem nx_item {c l : Addr} {k : Nat} {xs : Array Value} {x : Value} {Q : Value → Shared → Prop} (h1 : ItAt t s.heap c l k) (h2 : SqAt t s.heap l xs) (hx : xs[k]? = some x)
    (q : ∀ g, ItAt t g c l (k + 1) → Heap.SameBut c s.heap g → Q x { s with heap := g }) : wpAny (model prog w) A (Builtin.SmallTypes.nextOf (.ref c)) Q E s := by
  cases t
  · exact RZ.nextOf_tuple_item h1 h2 hx q
  · exact wpAny_nextOf_list_item h1 h2 hx q
theorem nx_end {c l : Addr} {k : Nat} {xs : Array Value} {Q : Value → Shared → Prop} (hh : A.handled = none) (h1 : ItAt t s.heap c l k) (h2 : SqAt t s.heap l xs) (hx : xs[k]? = none)
    (q : ∀ g e, Heap.ExtBut c s.heap g → (∃ o, g.get? e = some o ∧ o.cls = .type "StopIteration") → E (.ref e) { s with heap := g }) : wpAny (model prog w) A (Builtin.SmallTypes.nextOf (.ref c)) Q E s := by
  cases t
  · exact RZ.nextOf_tuple_end hh h1 h2 hx q
  · exact wpAny_nextOf_list_end hh h1 h2 hx q
theorem ne_item {c l : Addr} {k : Nat} {xs : Array Value} {x : Value} {Q : Option Value → Shared → Prop} (h1 : ItAt t s.heap c l k) (h2 : SqAt t s.heap l xs) (hx : xs[k]? = some x)
    (q : ∀ g, ItAt t g c l (k + 1) → Heap.SameBut c s.heap g → Q (some x) { s with heap := g }) : wpAny (model prog w) A (Builtin.SmallTypes.nextOrEnd (.ref c)) Q E s := by
  unfold Builtin.SmallTypes.nextOrEnd
  exact wpAny_bind (wpAny_attempt (nx_item h1 h2 hx fun g a b => wpAny_pure (q g a b)))
theorem ne_end {c l : Addr} {k : Nat} {xs : Array Value} {Q : Option Value → Shared → Prop} (hh : A.handled = none) (h1 : ItAt t s.heap c l k) (h2 : SqAt t s.heap l xs) (hx : xs[k]? = none)
    (q : ∀ g, Heap.ExtBut c s.heap g → Q none { s with heap := g }) : wpAny (model prog w) A (Builtin.SmallTypes.nextOrEnd (.ref c)) Q E s := by
  unfold Builtin.SmallTypes.nextOrEnd
  refine wpAny_bind (wpAny_attempt (nx_end hh h1 h2 hx fun g e a b => ?_))
  obtain ⟨o, ho, hc⟩ := b
  exact wpAny_bind (wpAny_isInstance (T := "StopIteration") (b := true) ⟨o, ho, hc⟩ isSubtype_stop (wpAny_pure (q g a)))
/-- the record of a strict zip -/
abbrev IsZipS (h : Heap) (z cI cO : Addr) (f0 : Value) : Prop :=
  h.get? z = some { cls := .type "zip", dict := none, data := .fields #[f0, .bool false, .bool true, .ref cI, .ref cO], slots := #[] }
theorem zs_item {z cI cO a1 a2 b1 b2 : Addr} {k1 k2 : Nat} {xs ys : Array Value} {x y u v : Value} {Q : Value → Shared → Prop} (D : ZipApart z cI cO a1 a2 b1 b2)
    (hz : IsZipS s.heap z cI cO .none) (hI : IsPair s.heap cI (.ref a1) (.ref a2)) (hO : IsPair s.heap cO u v)
    (h1 : ItAt t s.heap a1 b1 k1) (h2 : ItAt t' s.heap a2 b2 k2) (g1 : SqAt t s.heap b1 xs) (g2 : SqAt t' s.heap b2 ys) (hx : xs[k1]? = some x) (hy : ys[k2]? = some y)
    (q : ∀ h', IsZipS h' z cI cO (rawInt s.heap.objs.size) → IsPair h' cO x y → ItAt t h' a1 b1 (k1 + 1) → ItAt t' h' a2 b2 (k2 + 1) → IsPair h' s.heap.objs.size x y → h'.objs.size = s.heap.objs.size + 1 →
      (∀ c o, c ≠ z → c ≠ cO → c ≠ a1 → c ≠ a2 → s.heap.get? c = some o → h'.get? c = some o) → Q (.ref s.heap.objs.size) { s with heap := h' }) :
    wpAny (model prog w) A (Builtin.«zip.__next__» ⟨[.ref z], []⟩) (fun fin s' => ∃ v, fin = .done (.ret v) ∧ Q v s') E s := by
  show wpAny _ _ (field (.ref z) 2 >>= _) _ E s
  refine wpAny_bind (wpAny_field hz rfl (x := .bool true) rfl ?_)
  show wpAny _ _ (field (.ref z) 3 >>= _) _ E s
  refine wpAny_bind (wpAny_field hz rfl (x := .ref cI) rfl ?_)
  refine wpAny_bind (wpAny_seqItems hI rfl ?_)
  show wpAny _ _ (Builtin.SmallTypes.ownedTupleIsFree (.ref z) >>= _) _ E s
  refine wpAny_bind ?_
  unfold Builtin.SmallTypes.ownedTupleIsFree
  refine wpAny_bind (wpAny_field hz rfl (x := .none) rfl (wpAny_pure ?_))
  simp only [if_true]
  refine wpAny_bind (wpAny_rule ?_)
  refine wpAny_bind (wpAny_field hz rfl (x := .ref cO) rfl ?_)
  refine wpAny_bind (wpAny_setField_rec hz (by simp) fun m1 z1 s1 => ?_)
  replace z1 : IsZipS m1 z cI cO .ellipsis := z1
  refine wpAny_bind ?_
  simp only [List.zipIdx_cons, List.zipIdx_nil, List.forIn_cons, List.forIn_nil] <;> skip
  refine wpAny_bind (wpAny_bind (wpAny_onRaise ?_)) <;> skip
  show wpAny _ _ (Builtin.SmallTypes.nextOrEnd (.ref a1)) _ _ _
  refine ne_item (h1.at fun o e => s1.extBut _ _ D.i1z e) (g1.at fun o e => s1.extBut _ _ D.l1z e) hx fun m2 j1 s2 => ?_
  have O2 : IsPair m2 cO u v := s2.extBut _ _ D.TOi1 (s1.extBut _ _ D.TOz hO)
  refine wpAny_bind (wpAny_seqItems O2 rfl ?_)
  refine wpAny_bind (wpAny_updateSeq_pair O2 fun m3 O3 s3 => ?_)
  replace O3 : IsPair m3 cO x v := O3
  refine wpAny_bind (wpAny_letGo (wpAny_pure ?_)) <;> skip
  refine wpAny_bind (wpAny_bind (wpAny_onRaise ?_)) <;> skip
  show wpAny _ _ (Builtin.SmallTypes.nextOrEnd (.ref a2)) _ _ _
  refine ne_item (h2.at fun o e => s3.extBut _ _ D.TOi2.symm (s2.extBut _ _ D.i12.symm (s1.extBut _ _ D.i2z e))) (g2.at fun o e => s3.extBut _ _ D.l2TO (s2.extBut _ _ D.l2i1 (s1.extBut _ _ D.l2z e))) hy fun m4 j2 s4 => ?_
  have O4 : IsPair m4 cO x v := s4.extBut _ _ D.TOi2 O3
  refine wpAny_bind (wpAny_seqItems O4 rfl ?_)
  refine wpAny_bind (wpAny_updateSeq_pair O4 fun m5 O5 s5 => ?_)
  replace O5 : IsPair m5 cO x y := O5
  refine wpAny_bind (wpAny_letGo (wpAny_pure (wpAny_pure ?_))) <;> skip
  refine wpAny_bind (wpAny_seqItems O5 rfl ?_)
  refine wpAny_bind (wpAny_newTuple ?_) <;> skip
  have sz : m5.objs.size = s.heap.objs.size := by rw [s5.1, s4.1, s3.1, s2.1, s1.1]
  have z5 : IsZipS m5 z cI cO .ellipsis := s5.extBut _ _ D.TOz.symm (s4.extBut _ _ D.i2z.symm (s3.extBut _ _ D.TOz.symm (s2.extBut _ _ D.i1z.symm z1)))
  have kk : ∀ c o, c ≠ z → c ≠ cO → c ≠ a1 → c ≠ a2 → s.heap.get? c = some o → m5.get? c = some o := fun c o n1 n2 n3 n4 e =>
    s5.extBut _ _ n2 (s4.extBut _ _ n4 (s3.extBut _ _ n2 (s2.extBut _ _ n3 (s1.extBut _ _ n1 e))))
  have e1 : ItAt t m5 a1 b1 (k1 + 1) := j1.at fun o e => s5.extBut _ _ D.TOi1.symm (s4.extBut _ _ D.i12 (s3.extBut _ _ D.TOi1.symm e))
  have e2 : ItAt t' m5 a2 b2 (k2 + 1) := j2.at fun o e => s5.extBut _ _ D.TOi2.symm e
  have zl : z < m5.objs.size := Heap.lt_size z5
  show wpAny _ _ (Builtin.SmallTypes.ownedTupleHandOut (.ref z) (.ref m5.objs.size) >>= _) _ _ _
  refine wpAny_bind ?_
  unfold Builtin.SmallTypes.ownedTupleHandOut
  have z6 : IsZipS (m5.push { cls := .type "tuple", data := .seq #[x, y] }) z cI cO .ellipsis := Heap.get?_push_of_some _ z5
  refine wpAny_bind (wpAny_setField_rec z6 (by simp) fun m7 z7 s7 => ?_)
  replace z7 : IsZipS m7 z cI cO (rawInt m5.objs.size) := z7
  refine wpAny_setField_rec z7 (by simp) fun m8 z8 s8 => ?_
  replace z8 : IsZipS m8 z cI cO (rawInt m5.objs.size) := z8
  have up : ∀ c o, c ≠ z → m5.get? c = some o → m8.get? c = some o := fun c o n e => s8.extBut _ _ n (s7.extBut _ _ n (Heap.get?_push_of_some _ e))
  have T8 : IsPair m8 m5.objs.size x y := s8.extBut _ _ (Nat.ne_of_gt zl) (s7.extBut _ _ (Nat.ne_of_gt zl) (Heap.get?_push_size _ rfl))
  have n8 : m8.objs.size = m5.objs.size + 1 := by rw [s8.1, s7.1, Heap.size_push]
  rw [sz] at z8 T8 n8
  refine wpAny_pure ⟨_, rfl, ?_⟩
  show Q (.ref m5.objs.size) _
  rw [sz]
  exact q m8 z8 (up _ _ D.TOz O5) (e1.at fun o e => up _ o D.i1z e) (e2.at fun o e => up _ o D.i2z e) T8 n8 fun c o n1 n2 n3 n4 e => up c o n1 (kk c o n1 n2 n3 n4 e)
theorem zs_end {z cI cO a1 a2 b1 b2 : Addr} {k1 k2 : Nat} {xs ys : Array Value} {u v : Value} {Q : Fin → Shared → Prop} (hh : A.handled = none) (D : ZipApart z cI cO a1 a2 b1 b2)
    (hz : IsZipS s.heap z cI cO .none) (hI : IsPair s.heap cI (.ref a1) (.ref a2)) (hO : IsPair s.heap cO u v)
    (h1 : ItAt t s.heap a1 b1 k1) (h2 : ItAt t' s.heap a2 b2 k2) (g1 : SqAt t s.heap b1 xs) (g2 : SqAt t' s.heap b2 ys) (hx : xs[k1]? = none) (hy : ys[k2]? = none)
    (q : ∀ h' e, (∀ c o, c ≠ z → c ≠ cO → c ≠ a1 → c ≠ a2 → s.heap.get? c = some o → h'.get? c = some o) → (∃ o, h'.get? e = some o ∧ o.cls = .type "StopIteration") → E (.ref e) { s with heap := h' }) :
    wpAny (model prog w) A (Builtin.«zip.__next__» ⟨[.ref z], []⟩) Q E s := by
  show wpAny _ _ (field (.ref z) 2 >>= _) Q E s
  refine wpAny_bind (wpAny_field hz rfl (x := .bool true) rfl ?_)
  show wpAny _ _ (field (.ref z) 3 >>= _) Q E s
  refine wpAny_bind (wpAny_field hz rfl (x := .ref cI) rfl ?_)
  refine wpAny_bind (wpAny_seqItems hI rfl ?_)
  show wpAny _ _ (Builtin.SmallTypes.ownedTupleIsFree (.ref z) >>= _) Q E s
  refine wpAny_bind ?_
  unfold Builtin.SmallTypes.ownedTupleIsFree
  refine wpAny_bind (wpAny_field hz rfl (x := .none) rfl (wpAny_pure ?_))
  simp only [if_true]
  refine wpAny_bind (wpAny_rule ?_)
  refine wpAny_bind (wpAny_field hz rfl (x := .ref cO) rfl ?_)
  refine wpAny_bind (wpAny_setField_rec hz (by simp) fun m1 z1 s1 => ?_)
  replace z1 : IsZipS m1 z cI cO .ellipsis := z1
  refine wpAny_bind ?_
  simp only [List.zipIdx_cons, List.zipIdx_nil, List.forIn_cons, List.forIn_nil] <;> skip
  refine wpAny_bind (wpAny_bind (wpAny_onRaise ?_)) <;> skip
  show wpAny _ _ (Builtin.SmallTypes.nextOrEnd (.ref a1)) _ _ _
  refine ne_end hh (h1.at fun o e => s1.extBut _ _ D.i1z e) (g1.at fun o e => s1.extBut _ _ D.l1z e) hx fun m2 s2 => ?_
  have z2 : IsZipS m2 z cI cO .ellipsis := s2 _ _ D.i1z.symm z1
  refine wpAny_bind (wpAny_setField_rec z2 (by simp) fun m3 z3 s3 => ?_)
  refine wpAny_bind ?_
  show wpAny (model prog w) A ((forIn [(Value.ref a2, 1)] PUnit.unit _ : Sem PUnit) >>= fun _ => PySem.rule "zip.__next__.all-ended" >>= fun _ => Builtin.SmallTypes.stopIteration) _ _ _
  simp only [List.forIn_cons, List.forIn_nil] <;> skip
  refine wpAny_bind (wpAny_bind (wpAny_bind (ne_end hh (h2.at fun o e => s3.extBut _ _ D.i2z (s2 _ _ D.i12.symm (s1.extBut _ _ D.i2z e))) (g2.at fun o e => s3.extBut _ _ D.l2z (s2 _ _ D.l2i1 (s1.extBut _ _ D.l2z e))) hy fun m4 s4 => ?_)))
  refine wpAny_pure (wpAny_pure (wpAny_bind (wpAny_rule ?_)))
  have z4 : IsZipS m4 z cI cO .none := s4 _ _ D.i2z.symm z3
  have kk : ∀ c o, c ≠ z → c ≠ a1 → c ≠ a2 → s.heap.get? c = some o → m4.get? c = some o := fun c o n1 n2 n3 e =>
    s4 _ _ n3 (s3.extBut _ _ n1 (s2 _ _ n2 (s1.extBut _ _ n1 e)))
  unfold Builtin.SmallTypes.stopIteration
  refine wpAny_bind ?_
  simp only [newExc, newTuple] <;> skip
  refine wpAny_bind (wpAny_newObj_type ?_ (by size_fits)) <;> skip
  refine wpAny_bind (m := firstArgMember _ _) (wpAny_of_eq (a := Value.none) (by first | rfl | (simp only [firstArgMember]; rfl)) ?_) <;> skip
  refine wpAny_newObj_type ?_ (by size_fits) <;> skip
  simp only [raiseNew] <;> skip
  refine wpAny_bind (wpAny_handled ?_) <;> skip
  rw [hh]
  refine wpAny_bind (wpAny_pure (wpAny_throw ?_)) <;> skip
  exact q _ _ (fun c o n1 n2 n3 n4 e => Heap.get?_push_of_some _ (Heap.get?_push_of_some _ (kk c o n1 n3 n4 e))) ⟨_, Heap.get?_push_size _ rfl, rfl⟩
theorem pn_item {z cI cO a1 a2 b1 b2 : Addr} {k1 k2 : Nat} {xs ys : Array Value} {x y u v : Value} {Q : Option Value → Shared → Prop} (D : ZipApart z cI cO a1 a2 b1 b2)
    (hz : IsZipS s.heap z cI cO .none) (hI : IsPair s.heap cI (.ref a1) (.ref a2)) (hO : IsPair s.heap cO u v)
    (h1 : ItAt t s.heap a1 b1 k1) (h2 : ItAt t' s.heap a2 b2 k2) (g1 : SqAt t s.heap b1 xs) (g2 : SqAt t' s.heap b2 ys) (hx : xs[k1]? = some x) (hy : ys[k2]? = some y)
    (q : ∀ h', IsZipS h' z cI cO (rawInt s.heap.objs.size) → IsPair h' cO x y → ItAt t h' a1 b1 (k1 + 1) → ItAt t' h' a2 b2 (k2 + 1) → IsPair h' s.heap.objs.size x y → h'.objs.size = s.heap.objs.size + 1 →
      (∀ c o, c ≠ z → c ≠ cO → c ≠ a1 → c ≠ a2 → s.heap.get? c = some o → h'.get? c = some o) → Q (some (.ref s.heap.objs.size)) { s with heap := h' }) :
    wpAny (model prog w) A (pyNext (.ref z)) Q E s := by
  have hT : s.TypeIs (.ref z) "zip" := ⟨_, hz, rfl⟩
  unfold pyNext
  exact wpAny_bind (wpAny_attempt (wpAny_callSpecial?_slot (name := (Str.ofString "__next__")) hT F.slot_zip_next
    (wpAny_call_entry F.slot_zip_next hT F.entry_zip_next (zs_item D hz hI hO h1 h2 g1 g2 hx hy fun g a1 a2 a3 a4 a5 a6 a7 => wpAny_pure (q g a1 a2 a3 a4 a5 a6 a7)) (F.args_zip_next_1 _))))
theorem pn_end {z cI cO a1 a2 b1 b2 : Addr} {k1 k2 : Nat} {xs ys : Array Value} {u v : Value} {Q : Option Value → Shared → Prop} (hh : A.handled = none) (D : ZipApart z cI cO a1 a2 b1 b2)
    (hz : IsZipS s.heap z cI cO .none) (hI : IsPair s.heap cI (.ref a1) (.ref a2)) (hO : IsPair s.heap cO u v)
    (h1 : ItAt t s.heap a1 b1 k1) (h2 : ItAt t' s.heap a2 b2 k2) (g1 : SqAt t s.heap b1 xs) (g2 : SqAt t' s.heap b2 ys) (hx : xs[k1]? = none) (hy : ys[k2]? = none)
    (q : ∀ h', (∀ c o, c ≠ z → c ≠ cO → c ≠ a1 → c ≠ a2 → s.heap.get? c = some o → h'.get? c = some o) → Q none { s with heap := h' }) :
    wpAny (model prog w) A (pyNext (.ref z)) Q E s := by
  have hT : s.TypeIs (.ref z) "zip" := ⟨_, hz, rfl⟩
  unfold pyNext
  refine wpAny_bind (wpAny_attempt (wpAny_callSpecial?_slot (name := (Str.ofString "__next__")) hT F.slot_zip_next
    (wpAny_call_entry F.slot_zip_next hT F.entry_zip_next (zs_end hh D hz hI hO h1 h2 g1 g2 hx hy fun g e kk he => ?_) (F.args_zip_next_1 _))))
  obtain ⟨o, ho, hc⟩ := he
  exact wpAny_bind (wpAny_isInstance (T := "StopIteration") (b := true) ⟨o, ho, hc⟩ isSubtype_stop (wpAny_pure (q _ kk)))
theorem go_zs {elts : List Expr} {x1} {pos : Pos} {z cI cO T : Addr} {Q : Unit → Shared → Prop} (hz : IsZipS s.heap z cI cO (rawInt T))
    (q : ∀ h', IsZipS h' z cI cO .none → Heap.SameBut z s.heap h' → Q () { s with heap := h' }) : wpAny (model prog w) A (letOwnedTupleGo (.Tuple elts x1 pos) (.ref z) (.ref T)) Q E s := by
  unfold letOwnedTupleGo
  refine wpAny_bind (wpAny_load hz ?_) <;> skip
  show wpAny _ _ (if (["enumerate", "zip", "dict_itemiterator", "dict_reverseitemiterator", "odict_iterator", "itertools.zip_longest", "itertools.pairwise"].contains "zip" && (#[rawInt T, .bool false, .bool true, .ref cI, .ref cO] : Array Value)[0]? == some (rawInt T)) = true then _ else _) Q E s
  rw [if_pos (by simp)]
  refine wpAny_bind (wpAny_rule ?_)
  show wpAny _ _ (setField (.ref z) 0 .none) Q E s
  exact wpAny_setField_rec hz (by simp) fun g a b => q g a b
theorem self_zs {z cI cO : Addr} {f0 : Value} {Q : Value → Shared → Prop} (hz : IsZipS s.heap z cI cO f0) (q : Q (.ref z) s) : wpAny (model prog w) A (pyIter (.ref z)) Q E s := by
  have hT : s.TypeIs (.ref z) "zip" := ⟨_, hz, rfl⟩
  refine wpAny_pyIter_slot hT F.slot_zip_iter (wpAny_call_entry F.slot_zip_iter hT F.entry_zip_iter ?_ (F.args_zip_iter_1 _))
  exact wpAny_pure ⟨_, rfl, "zip", _, hT, F.slot_zip_next.lookup, q⟩
end

def itO (t : Bool) (l : Addr) : Obj := match t with
  | true => { cls := .type "list_iterator", data := .fields #[.ref l, .int 0 0] }
  | false => { cls := .type "tuple_iterator", data := .fields #[.ref l, .int 0 0] }
theorem itO_at {t : Bool} {h : Heap} {c l : Addr} (e : h.get? c = some (itO t l)) : ItAt t h c l 0 := by
  cases t
  · exact ⟨_, e, rfl, rfl⟩
  · exact ⟨_, e, rfl, rfl⟩
theorem itO_fr (t : Bool) (l : Addr) : (itO t l).isFreed = false := by cases t <;> rfl
section
variable {prog : Program} {w : World} {A : Around} {E : Value → Shared → Prop} {s : Shared} {t t' : Bool}
theorem pi_at {l : Addr} {xs : Array Value} {Q : Value → Shared → Prop} (hl : SqAt t s.heap l xs) (q : Q (.ref s.heap.objs.size) { s with heap := s.heap.push (itO t l) }) : wpAny (model prog w) A (pyIter (.ref l)) Q E s := by
  cases t
  · exact wpAny_pyIter_tuple hl q
  · exact wpAny_pyIter_list hl q
abbrev zn1 (t : Bool) (h : Heap) (l1 : Addr) : Heap := h.push (itO t l1)
abbrev zn2 (t t' : Bool) (h : Heap) (l1 l2 : Addr) : Heap := (zn1 t h l1).push (itO t' l2)
abbrev zn3 (t t' : Bool) (h : Heap) (l1 l2 : Addr) : Heap := (zn2 t t' h l1 l2).push { cls := .type "tuple", data := .seq #[.ref h.objs.size, .ref (zn1 t h l1).objs.size] }
abbrev zn4 (t t' : Bool) (h : Heap) (l1 l2 : Addr) : Heap := (zn3 t t' h l1 l2).push { cls := .type "tuple", data := .seq #[.none, .none] }
abbrev zn5 (t t' : Bool) (h : Heap) (l1 l2 : Addr) : Heap := (zn4 t t' h l1 l2).push { cls := .type "zip", data := .fields #[.none, .bool false, .bool true, .ref (zn2 t t' h l1 l2).objs.size, .ref (zn3 t t' h l1 l2).objs.size] }
theorem zs_new (t t' : Bool) (l1 l2 : Addr) (xs ys : Array Value) :
    Meets (Builtin.«zip.__new__» ⟨[.type "zip", .ref l1, .ref l2], [(Str.ofString "strict", .bool true)]⟩) (fun _ R s => SqAt t s.heap l1 xs ∧ SqAt t' s.heap l2 ys ∧
      R (.ok (.ret (.ref (zn4 t t' s.heap l1 l2).objs.size))) { s with heap := zn5 t t' s.heap l1 l2 }) :=
  .of_wp fun prog w A R s h => by
    obtain ⟨hp, g, d, tk, os⟩ := s
    obtain ⟨hl1, hl2, h⟩ := h
    have hsub := sub_zip
    have e1 : (Str.ofString "strict" != ("strict" : Str)) = false := by decide +kernel
    have q1 : ∀ {A' : Around} {E : Value → Shared → Prop} {Q : Value → Shared → Prop}, Q (.ref hp.objs.size) ⟨hp.push (itO t l1), g, d, tk, os⟩ → wpAny (model prog w) A' (pyIter (.ref l1)) Q E ⟨hp, g, d, tk, os⟩ :=
      fun {A' E Q} q => pi_at (s := ⟨hp, g, d, tk, os⟩) hl1 q
    have hl2' : SqAt t' (hp.push (itO t l1)) l2 ys := hl2.at fun o e => Heap.get?_push_of_some _ e
    have q2 : ∀ {A' : Around} {E : Value → Shared → Prop} {Q : Value → Shared → Prop}, Q (.ref (hp.push (itO t l1)).objs.size) ⟨(hp.push (itO t l1)).push (itO t' l2), g, d, tk, os⟩ → wpAny (model prog w) A' (pyIter (.ref l2)) Q E ⟨hp.push (itO t l1), g, d, tk, os⟩ :=
      fun {A' E Q} q => pi_at (s := ⟨hp.push (itO t l1), g, d, tk, os⟩) hl2' q
    wp_walk using q1, q2
    exact ⟨_, rfl, h⟩
theorem tc_zs (a b c : Value) : checkTypeCall "zip" ⟨[a, b], [(Str.ofString "strict", c)]⟩ = pure () := by kernel_rfl
theorem nc_zs (a b c : Value) : checkBuiltinCall "zip.__new__" ⟨[.type "zip", a, b], [(Str.ofString "strict", c)]⟩ = pure () := by kernel_rfl
theorem oi_zs (obj a b c : Value) : argsOk "object.__init__" ⟨[obj, a, b], [(Str.ofString "strict", c)]⟩ := by
  unfold argsOk
  kernel_rfl
theorem call_zs {l1 l2 : Addr} {xs ys : Array Value} {Q : Value → Shared → Prop} (hl1 : SqAt t s.heap l1 xs) (hl2 : SqAt t' s.heap l2 ys)
    (q : ∀ h', IsZipS h' (s.heap.objs.size + 4) (s.heap.objs.size + 2) (s.heap.objs.size + 3) .none → IsPair h' (s.heap.objs.size + 2) (.ref s.heap.objs.size) (.ref (s.heap.objs.size + 1)) →
      IsPair h' (s.heap.objs.size + 3) .none .none → ItAt t h' s.heap.objs.size l1 0 → ItAt t' h' (s.heap.objs.size + 1) l2 0 →
      (∀ c o, s.heap.get? c = some o → h'.get? c = some o) → Q (.ref (s.heap.objs.size + 4)) { s with heap := h' }) :
    wpAny (model prog w) A (call (.type "zip") [.ref l1, .ref l2] [(Str.ofString "strict", .bool true)]) Q E s := by
  refine callType_newKw F.called_zip (by decide) (tc_zs _ _ _) (nc_zs _ _ _) (fun obj => oi_zs obj _ _ _) F.entry_zip_new (zs_new t t' l1 l2 xs ys) ⟨hl1, hl2, ?_⟩
  have z1 : (zn1 t s.heap l1).objs.size = s.heap.objs.size + 1 := Heap.size_push ..
  have z2 : (zn2 t t' s.heap l1 l2).objs.size = s.heap.objs.size + 2 := by rw [Heap.size_push, z1]
  have z3 : (zn3 t t' s.heap l1 l2).objs.size = s.heap.objs.size + 3 := by rw [Heap.size_push, z2]
  have z4 : (zn4 t t' s.heap l1 l2).objs.size = s.heap.objs.size + 4 := by rw [Heap.size_push, z3]
  have y5 : (zn5 t t' s.heap l1 l2).get? (zn4 t t' s.heap l1 l2).objs.size = some _ := Heap.get?_push_size _ rfl
  have y4 : (zn5 t t' s.heap l1 l2).get? (zn3 t t' s.heap l1 l2).objs.size = some _ := Heap.get?_push_of_some _ (Heap.get?_push_size _ rfl)
  have y3 : (zn5 t t' s.heap l1 l2).get? (zn2 t t' s.heap l1 l2).objs.size = some _ := Heap.get?_push_of_some _ (Heap.get?_push_of_some _ (Heap.get?_push_size _ rfl))
  have y2 : (zn5 t t' s.heap l1 l2).get? (zn1 t s.heap l1).objs.size = some (itO t' l2) := Heap.get?_push_of_some _ (Heap.get?_push_of_some _ (Heap.get?_push_of_some _ (Heap.get?_push_size _ (itO_fr _ _))))
  have y1 : (zn5 t t' s.heap l1 l2).get? s.heap.objs.size = some (itO t l1) := Heap.get?_push_of_some _ (Heap.get?_push_of_some _ (Heap.get?_push_of_some _ (Heap.get?_push_of_some _ (Heap.get?_push_size _ (itO_fr _ _)))))
  show _ ∧ _
  rw [z2, z3, z4] at y5
  rw [z1, z2] at y3
  rw [z3] at y4
  rw [z1] at y2
  rw [z4]
  exact ⟨⟨_, y5, rfl⟩, q _ y5 y3 y4 (itO_at y1) (itO_at y2) fun c o x => Heap.get?_push_of_some _ (Heap.get?_push_of_some _ (Heap.get?_push_of_some _ (Heap.get?_push_of_some _ (Heap.get?_push_of_some _ x))))⟩
end
/-- the call of a class with keywords -/
theorem cw_typeKw {M : Model} {A : Around} {E : Value → Shared → Prop} {s : Shared} {env : Env} {pos : Pos} {T : String} {e : Expr} {rest : List Expr} {kws : List Keyword} {Q : Value → Shared → Prop}
    (h : wpAny M A (spliced (backTo pos (starEach (e :: rest) env))) (fun vs s1 => wpAny M A (evalAll ((backToKw pos (keywordEach kws env)).map (·.2))) (fun ks s2 => wpAny M A (call (.type T) vs (((backToKw pos (keywordEach kws env)).filterMap (·.1)).zip ks)) Q E s2) E s1) E s)
    (he : backTo pos (starEach (e :: rest) env) = (false, eval e env) :: backTo pos (starEach rest env)) (hplain : (backTo pos (starEach (e :: rest) env)).any (·.1) = false)
    (hall : (backToKw pos (keywordEach kws env)).all (·.1.isSome) = true) (hkw : (backToKw pos (keywordEach kws env)).any (·.1.isNone) = false) :
    wpAny M A (callWith pos (.type T) [] (backTo pos (starEach (e :: rest) env)) (backToKw pos (keywordEach kws env))) Q E s := by
  have h' : wpAny M A (evalArgs (.type T) true (backTo pos (starEach (e :: rest) env)) (backToKw pos (keywordEach kws env))) (fun a s1 => wpAny M A (call (.type T) ([] ++ a.pos) a.kw) Q E s1) E s := by
    rw [he] at h ⊢
    exact PyProof.Rows.evalArgs_kwB hall h
  unfold callWith
  refine wpAny_bind (wpAny_holding (wpAny_mono h' (fun a s1 h1 => wpAny_bind (wpAny_standAt ?_)) fun _ _ x => x))
  simp only [hplain, hkw, Bool.or_false] <;> skip
  refine wpAny_bind (wpAny_pure ?_)
  exact wpAny_bind (wpAny_mono h1 (fun r s2 hr => wpAny_bind (wpAny_holding (wpAny_point (wpAny_pure hr)))) fun _ _ x => x) <;> skip
end DZ

namespace DZ
open PySem PySem.Spec PyProof.Rows L2
def SqV (t : Bool) (K : PySem.W.Frag) (H : Hp) (a : Addr) (xs : List V) : Prop := match t with
  | true => SqL K H a xs
  | false => SqT K H a xs
theorem sq_at {X : Cx} {pins : List (Addr × Obj)} {σ : L2.St} {H : Hp} {s : Shared} {t : Bool} {a : Addr} {xs : List V} (I : Inv X pins σ H s) (h : SqV t X.K H a xs) : ∃ its : List Value, Vals xs its ∧ SqAt t s.heap a its.toArray := by
  cases t
  · obtain ⟨its, h1, h2, _⟩ := I.tuple h
    exact ⟨its, h1, h2⟩
  · obtain ⟨its, h1, h2, _⟩ := I.list h
    exact ⟨its, h1, h2.isList⟩
theorem sq_inj {X : Cx} {pins : List (Addr × Obj)} {σ : L2.St} {H : Hp} {s : Shared} {t : Bool} {a : Addr} {xs ys : List V} (I : Inv X pins σ H s) (h : SqV t X.K H a xs) (h' : SqV t X.K H a ys) : xs = ys := by
  cases t
  · exact I.tuple_inj h h'
  · exact I.list_inj h h'
def Its (t t' : Bool) (K : PySem.W.Frag) (a b : Addr) : It :=
  ⟨fun i H => ∃ (xs ys : List V) (x y : V), SqV t K H a xs ∧ SqV t' K H b ys ∧ xs[i]? = some x ∧ ys[i]? = some y,
    fun i H v H' => ∃ T x y, v = .ref T ∧ H T = none ∧ H' = upd H T (.tup [x, y]) ∧ (∀ l, SqV t K H a l → l[i]? = some x) ∧ ∀ l, SqV t' K H b l → l[i]? = some y,
    fun i H => ∃ xs ys : List V, SqV t K H a xs ∧ SqV t' K H b ys ∧ xs.length ≤ i ∧ ys.length ≤ i⟩
theorem turn_zs {t t' : Bool} {P : Program} {w : World} {K : PySem.W.Frag} {elts : List Expr} {kk : Nat} {tpos : Pos} {a b z cI cO a1 a2 : Addr} (D : ZipApart z cI cO a1 a2 a b) :
    Turn P w K (.Tuple elts kk tpos) (Its t t' K a b) [z, cI, cO, a1, a2] z (fun i h => IsZipS h z cI cO .none ∧ IsPair h cI (.ref a1) (.ref a2) ∧ (∃ x y, IsPair h cO x y) ∧ ItAt t h a1 a i ∧ ItAt t' h a2 b i) where
  mem := by simp
  obj := fun i h st c hc => by
    obtain ⟨hz, hI, ⟨x, y, hO⟩, h1, h2⟩ := st
    have e' : c = z ∨ c = cI ∨ c = cO ∨ c = a1 ∨ c = a2 := by simpa using hc
    rcases e' with rfl | rfl | rfl | rfl | rfl
    · exact ⟨_, hz, fun v q => nomatch q⟩
    · exact ⟨_, hI, fun v q => nomatch q⟩
    · exact ⟨_, hO, fun v q => nomatch q⟩
    · exact h1.is
    · exact h2.is
  keep := fun i h h' st k => by
    obtain ⟨hz, hI, ⟨x, y, hO⟩, h1, h2⟩ := st
    exact ⟨k z (by simp) _ hz, k cI (by simp) _ hI, ⟨x, y, k cO (by simp) _ hO⟩, h1.at fun o q => k a1 (by simp) o q, h2.at fun o q => k a2 (by simp) o q⟩
  item := by
    intro X hP hw hK hc i pins s σ H E I hf st hg
    subst hP hw hK
    obtain ⟨hz, hI, ⟨x0, y0, hO⟩, h1, h2⟩ := st
    obtain ⟨xs, ys, x, y, sx, sy, hx, hy⟩ := hg
    obtain ⟨its, rv, p⟩ := sq_at I sx
    obtain ⟨its2, rv2, p2⟩ := sq_at I sy
    obtain ⟨u, hu, ru⟩ := rv.get hx
    obtain ⟨u2, hu2, ru2⟩ := rv2.get hy
    have zl : z < s.heap.objs.size := Heap.lt_size hz
    refine pn_item D hz hI hO h1 h2 p p2 (x := u) (y := u2) (by simpa using hu) (by simpa using hu2) fun m zm Om h1m h2m hT hsz hk => ?_
    refine ⟨_, rfl, go_zs (s := { s with heap := m }) zm fun m' zm' sb => ?_⟩
    have hT2 : m'.get? s.heap.objs.size = some { cls := .type "tuple", data := .seq #[u, u2] } := (sb.2 _ (Nat.ne_of_gt zl)).trans hT
    have new : ObjOk X.prog X.w (upd H s.heap.objs.size (.tup [x, y])) m' s.heap.objs.size (.tup [x, y]) := ⟨by show 2 ≤ sizeLine; decide, [u, u2], .cons ru (.cons ru2 .nil), ⟨_, hT2, rfl, _, rfl⟩⟩
    have I1 : Inv X pins σ (upd H s.heap.objs.size (.tup [x, y])) { s with heap := m' } :=
      I.turnedNew (t' := s.toks) (ch := [z, cI, cO, a1, a2]) (fun c o hb q => by
        have hb' : c ≠ z ∧ c ≠ cI ∧ c ≠ cO ∧ c ≠ a1 ∧ c ≠ a2 := by simpa using hb
        exact (sb.2 c hb'.1).trans (hk c o hb'.1 hb'.2.2.1 hb'.2.2.2.1 hb'.2.2.2.2 q)) hf (Nat.le_refl _) new
    refine ⟨.ref s.heap.objs.size, _, I1, rfl, ⟨_, x, y, rfl, I.hok.fresh (Nat.le_refl _), rfl, fun l hl => by rw [sq_inj I hl sx]; exact hx, fun l hl => by rw [sq_inj I hl sy]; exact hy⟩, ⟨zm', ?_, ⟨u, u2, ?_⟩, ?_, ?_⟩, fun c hcm => ?_⟩
    · exact (sb.2 _ D.TIz).trans (hk _ _ D.TIz D.TITO D.TIi1 D.TIi2 hI)
    · exact (sb.2 _ D.TOz).trans Om
    · exact h1m.at fun o q => (sb.2 _ D.i1z).trans q
    · exact h2m.at fun o q => (sb.2 _ D.i2z).trans q
    · have hlt : c < s.heap.objs.size := by
        have e' : c = z ∨ c = cI ∨ c = cO ∨ c = a1 ∨ c = a2 := by simpa using hcm
        rcases e' with rfl | rfl | rfl | rfl | rfl
        · exact zl
        · exact Heap.lt_size hI
        · exact Heap.lt_size hO
        · obtain ⟨_, e1, _⟩ := h1.is; exact Heap.lt_size e1
        · obtain ⟨_, e1, _⟩ := h2.is; exact Heap.lt_size e1
      rw [upd_ne (Nat.ne_of_lt hlt)]
      exact (hf c hcm).1
  done := by
    intro X hP hw hK hc i pins s σ H E I hf st hg
    subst hP hw hK
    obtain ⟨hz, hI, ⟨x0, y0, hO⟩, h1, h2⟩ := st
    obtain ⟨xs, ys, sx, sy, e1, e2⟩ := hg
    obtain ⟨its, rv, p⟩ := sq_at I sx
    obtain ⟨its2, rv2, p2⟩ := sq_at I sy
    have l1 := rv.length
    have l2 := rv2.length
    exact pn_end (I.ok.hd hc) D hz hI hO h1 h2 p p2 (by simp; omega) (by simp; omega) fun m hk => ⟨rfl, I.turnedL (t' := s.toks) (ch := [z, cI, cO, a1, a2]) (fun c o hb q => by
      have hb' : c ≠ z ∧ c ≠ cI ∧ c ≠ cO ∧ c ≠ a1 ∧ c ≠ a2 := by simpa using hb
      exact hk c o hb'.1 hb'.2.2.1 hb'.2.2.2.1 hb'.2.2.2.2 q) hf⟩
  self := fun A i s Q E st h => self_zs st.1 h
def iZs (K : PySem.W.Frag) (ta tk : TA) : TI := fun σ H R => ta σ H fun vs H1 => tk σ H1 fun zs H2 => zs = [.bl true] ∧ ∃ t t' a b xs ys, vs = [.ref a, .ref b] ∧ SqV t K H2 a xs ∧ SqV t' K H2 b ys ∧ R (Its t t' K a b) H2
theorem pi_zs {X : Cx} {e e2 : Expr} {kws : List Keyword} {ta tk : TA} {p pos tpos : Pos} {elts : List Expr} {kk : Nat} (hg : Gl X "zip") (hm : X.mg "zip" = none) (ha : PA X [e, e2] ta) (hk : PK X kws tk)
    (he : backTo pos (starEach [e, e2] X.env) = (false, eval e X.env) :: backTo pos (starEach [e2] X.env) := by rfl) (hpl : (backTo pos (starEach [e, e2] X.env)).any (·.1) = false := by rfl)
    (hall : (backToKw pos (keywordEach kws X.env)).all (·.1.isSome) = true := by rfl) (hnone : (backToKw pos (keywordEach kws X.env)).any (·.1.isNone) = false := by rfl) (hks : (backToKw pos (keywordEach kws X.env)).filterMap (·.1) = [Str.ofString "strict"] := by rfl) :
    PI X (.Tuple elts kk tpos) (.Call (.Name "zip" p) [e, e2] kws pos) (iZs X.K ta tk) := by
  refine ⟨fun pins s σ H R I h => ?_⟩
  refine wpAny_Call_Name_kw (ld_blt I hg hm PyProof.Rows.boot_zip ?_)
  refine cw_typeKw (thn (ha.run pos pins s σ H _ I h) fun us s0 ⟨vs, H0, I0, r0, q0⟩ => thn (hk.run pos pins s0 σ H0 _ I0 q0) fun ws s1 ⟨zs, H1, I1, r1, q1⟩ => ?_) he hpl hall hnone
  rw [hks]
  obtain ⟨ez, t, t', a, b, xs, ys, ex, hqx, hqy, q⟩ := q1
  subst ez ex
  obtain ⟨w1, rfl, e1⟩ := vals1 r1
  obtain rfl : w1 = Value.bool true := e1
  cases r0 with
  | cons r rr =>
    cases rr with
    | cons r' rr =>
      cases rr
      cases r
      cases r'
      obtain ⟨its, rv, p1⟩ := sq_at I1 hqx
      obtain ⟨its2, rv2, p2⟩ := sq_at I1 hqy
      have lt : ∀ {t : Bool} {l : Addr} {its : Array Value}, SqAt t s1.heap l its → l < s1.heap.objs.size := fun {t l its} p => by
        cases t
        · obtain ⟨o, ho, _⟩ := p; exact Heap.lt_size ho
        · obtain ⟨o, ho, _⟩ := p; exact Heap.lt_size ho
      have fresh5 : ∀ c, c ∈ [s1.heap.objs.size + 4, s1.heap.objs.size + 2, s1.heap.objs.size + 3, s1.heap.objs.size, s1.heap.objs.size + 1] → FpOk X pins H1 c := fun c hcm => by
        have hle : s1.heap.objs.size ≤ c := by
          simp only [List.mem_cons, List.not_mem_nil, or_false] at hcm
          omega
        exact I1.fpOk hle (I1.hok.fresh hle)
      refine call_zs p1 p2 fun m hz hI hO h1 h2 hk' => self_zs hz ?_
      have I2 : Inv X pins σ H1 { s1 with heap := m } := I1.kept (t' := s1.toks) hk'
      exact ⟨s1.heap.objs.size + 4, [s1.heap.objs.size + 4, s1.heap.objs.size + 2, s1.heap.objs.size + 3, s1.heap.objs.size, s1.heap.objs.size + 1], _, _, H1, rfl, I2, turn_zs (PySem.W.ktu_apart s1.heap.objs.size a b (lt p1) (lt p2)), ⟨hz, hI, ⟨_, _, hO⟩, h1, h2⟩, fresh5, q⟩
end DZ

/-! DL11: zip(.., strict=True), enumerate -/
namespace DL
open PySem PySem.Spec PyProof.Rows L2
def seqD : D → Option (List D)
  | .lst ds => some ds
  | .tup ds => some ds
  | .tk ds => some ds
  | _ => none
def zipD (xs ys : List D) : List D := List.zipWith (fun a b => .tup [a, b]) xs ys
def dZip (p : DAs) : DI := fun E Q => p E fun ds => match ds with
  | [x, y] => match seqD x, seqD y with
    | some xs, some ys => xs.length = ys.length ∧ Q (zipD xs ys)
    | _, _ => False
  | _ => False
def enumD : Nat → List D → List D
  | _, [] => []
  | i, x :: xs => .tup [.int (i : Nat), x] :: enumD (i + 1) xs
def dEnum (p : DAs) : DI := fun E Q => p E fun ds => match ds with
  | [.lst xs] => Q (enumD 0 xs)
  | _ => False
theorem enumD_get : ∀ (xs : List D) (k i : Nat), (enumD k xs)[i]? = xs[i]?.map fun x => D.tup [.int ((k + i : Nat) : Int), x]
  | [], k, i => by simp [enumD]
  | x :: xs, k, 0 => by simp [enumD]
  | x :: xs, k, i + 1 => by
    simp only [enumD, List.getElem?_cons_succ, enumD_get xs (k + 1) i]
    rw [show k + 1 + i = k + (i + 1) by omega]
theorem enumD_length (xs : List D) : ∀ k, (enumD k xs).length = xs.length := by
  induction xs with
  | nil => intro k; rfl
  | cons x xs ih => intro k; simp [enumD, ih]
section
variable {X : Cx} {e e2 : Expr} {kws : List Keyword} {pas : DAs} {p pos tpos kpos cpos : Pos} {elts : List Expr} {kk ck : Nat}
theorem seq_sq {pp : Addr} {K : FK} {Hb H : Hp} {d : D} {v : V} {ds : List D} (so : SOk pp K Hb H) (e : seqD d = some ds) (r : Rep pp K Hb d v) : ∃ (t : Bool) (a : Addr) (xs : List V), v = .ref a ∧ RepL pp K Hb ds xs ∧ ∀ Hb1 H1, Same Hb Hb1 → SOk pp K Hb1 H1 → DZ.SqV t K H1 a xs := by
  cases d <;> simp only [seqD] at e <;> cases e
  · unfold Rep at r
    obtain ⟨a, xs, rfl, s, q⟩ := r
    exact ⟨false, a, xs, rfl, q, fun Hb1 H1 sm so1 => so1.hle.sqT ((Le.of_same sm).sqT s.sqT)⟩
  · unfold Rep at r
    obtain ⟨a, xs, rfl, s, q⟩ := r
    exact ⟨true, a, xs, rfl, q, fun Hb1 H1 sm so1 => .of (so1.le _ _ (sm _ _ s))⟩
  · unfold Rep at r
    obtain ⟨a, xs, rfl, s, q⟩ := r
    exact ⟨false, a, xs, rfl, q, fun Hb1 H1 sm so1 => .inl (.inl (so1.le _ _ (sm _ _ s)))⟩
theorem i_zip (hg : Gl X "zip") (hm : X.mg "zip" = none) (ha : QA X [e, e2] pas)
    (he : backTo pos (starEach [e, e2] X.env) = (false, eval e X.env) :: backTo pos (starEach [e2] X.env) := by rfl) (hpl : (backTo pos (starEach [e, e2] X.env)).any (·.1) = false := by rfl)
    (hall : (backToKw pos (keywordEach [⟨some (Str.ofString "strict"), .Constant (.bool true) ck cpos, kpos⟩] X.env)).all (·.1.isSome) = true := by rfl) (hnone : (backToKw pos (keywordEach [⟨some (Str.ofString "strict"), .Constant (.bool true) ck cpos, kpos⟩] X.env)).any (·.1.isNone) = false := by rfl) (hks : (backToKw pos (keywordEach [⟨some (Str.ofString "strict"), .Constant (.bool true) ck cpos, kpos⟩] X.env)).filterMap (·.1) = [Str.ofString "strict"] := by rfl) :
    QI X (.Tuple elts kk tpos) (.Call (.Name "zip" p) [e, e2] [⟨some (Str.ofString "strict"), .Constant (.bool true) ck cpos, kpos⟩] pos) (dZip pas) := by
  obtain ⟨t, h1, h2⟩ := ha
  refine ⟨_, DZ.pi_zs hg hm h1 (pk_cons pe_bl pk_nil) he hpl hall hnone hks, fun pp HE Hb H σ E R QD so er hp k => ?_⟩
  refine h2 pp HE Hb H σ E _ _ so er hp fun vs ds Hb1 H1 s1 so1 r1 l1 q1 => ?_
  split at q1
  · rename_i x y
    split at q1
    · rename_i xs ys ex ey
      obtain ⟨hl, q1⟩ := q1
      obtain ⟨v, w, rfl, rx, r2⟩ := r1.uncons
      obtain ⟨v2, w2, rfl, ry, r3⟩ := r2.uncons
      obtain rfl := r3.unnil
      obtain ⟨t1, a, us, rfl, ru, su⟩ := seq_sq so1 ex rx
      obtain ⟨t2, b, us2, rfl, ru2, su2⟩ := seq_sq so1 ey ry
      refine ⟨rfl, t1, t2, a, b, us, us2, rfl, su _ _ (Same.refl _) so1, su2 _ _ (Same.refl _) so1, k _ (zipD xs ys) Hb1 H1 s1 so1 (fun Hb2 H2 sm so2 i => ?_) q1⟩
      have g1 := su _ _ sm so2
      have g2 := su2 _ _ sm so2
      refine ⟨fun d ed => ?_, fun e => ⟨us, us2, g1, g2, ?_, ?_⟩⟩
      · have ed' : ∃ dx dy, xs[i]? = some dx ∧ ys[i]? = some dy ∧ d = .tup [dx, dy] := by
          unfold zipD at ed
          rw [List.getElem?_zipWith] at ed
          cases ex : xs[i]? with
          | none => rw [ex] at ed; simp at ed
          | some dx =>
            cases ey : ys[i]? with
            | none => rw [ex, ey] at ed; simp at ed
            | some dy =>
              rw [ex, ey] at ed
              simp at ed
              exact ⟨dx, dy, rfl, rfl, ed.symm⟩
        obtain ⟨dx, dy, gx, gy, rfl⟩ := ed'
        obtain ⟨vx, ev, rv⟩ := ru.get gx
        obtain ⟨vy, ev2, rv2⟩ := ru2.get gy
        refine ⟨⟨us, us2, vx, vy, g1, g2, ev, ev2⟩, fun x H3 y => ?_⟩
        obtain ⟨T, u1, u2, rfl, hT, rfl, y1, y2⟩ := y
        have e1 := y1 us g1
        rw [ev] at e1
        cases e1
        have e2 := y2 us2 g2
        rw [ev2] at e2
        cases e2
        obtain ⟨s3, so3⟩ := lay_sh (u := .tup [vx, vy]) so2 hT
        refine ⟨_, s3, so3, ?_⟩
        unfold Rep
        exact ⟨T, _, rfl, .inl upd_same, .cons ((rv.le (.of_same sm)).le s3.le) (.cons ((rv2.le (.of_same sm)).le s3.le) .nil)⟩
      · rw [e, ru.length]; simp [zipD, hl]
      · rw [e, ru2.length]; simp [zipD, hl]
    · exact q1.elim
  · exact q1.elim
theorem i_enum (hg : Gl X "enumerate") (hm : X.mg "enumerate" = none) (ha : QA X [e] pas) (hs : starEach [e] X.env = [(false, eval e X.env)] := by rfl) : QI X (.Tuple elts kk tpos) (.Call (.Name "enumerate" p) [e] [] pos) (dEnum pas) := by
  obtain ⟨t, h1, h2⟩ := ha
  refine ⟨_, pi_enum hg hm h1 hs, fun pp HE Hb H σ E R QD so er hp k => ?_⟩
  refine h2 pp HE Hb H σ E _ _ so er hp fun vs ds Hb1 H1 s1 so1 r1 l1 q1 => ?_
  split at q1
  · rename_i xs
    obtain ⟨v, w, rfl, rx, r2⟩ := r1.uncons
    obtain rfl := r2.unnil
    unfold Rep at rx
    obtain ⟨a, us, rfl, s, ru⟩ := rx
    refine ⟨a, us, rfl, .of (so1.le _ _ s), k _ (enumD 0 xs) Hb1 H1 s1 so1 (fun Hb2 H2 sm so2 i => ?_) q1⟩
    have g1 : SqL X.K H2 a us := .of (so2.le _ _ (sm _ _ s))
    refine ⟨fun d ed => ?_, fun e => ⟨us, g1, ?_⟩⟩
    · rw [enumD_get] at ed
      cases ex : xs[i]? with
      | none => rw [ex] at ed; cases ed
      | some dx =>
        rw [ex] at ed
        cases ed
        obtain ⟨vx, ev, rv⟩ := ru.get ex
        refine ⟨⟨us, vx, g1, ev⟩, fun x H3 y => ?_⟩
        obtain ⟨T, u1, rfl, hT, rfl, y1⟩ := y
        have e1 := y1 us g1
        rw [ev] at e1
        cases e1
        obtain ⟨s3, so3⟩ := lay_sh (u := .tup [.int (i : Nat), vx]) so2 hT
        refine ⟨_, s3, so3, ?_⟩
        unfold Rep
        refine ⟨T, _, rfl, .inl upd_same, .cons ?_ (.cons ((rv.le (.of_same sm)).le s3.le) .nil)⟩
        rw [Nat.zero_add]
        exact rep_int
    · rw [e, ru.length, enumD_length]; exact Nat.le_refl _
  · exact q1.elim
end
end DL

/-! DL12: methods that change a list, lists as tests, lists put together as new objects, xs[::-1] -/
namespace DL
open PySem PySem.Spec PyProof.Rows L2

/-! ### what is never reached -/
def dBot : DS := fun _ _ => False
theorem s_bot {X : Cx} {st : Stmt} : QS X st dBot := ⟨fun _ _ _ => False, ⟨fun _ _ _ _ _ _ h => h.elim⟩, fun _ _ _ _ _ _ _ _ _ _ _ _ h _ => h.elim⟩

section
variable {X : Cx} {a b e : Expr} {es : List Expr} {pa pb pe : DX} {pas : DAs} {pos : Pos}
/-! ### a list's, tuple's truth -/
def dTru (p : DX) : DT := fun E Q => p E fun d => match d with
  | .lst ds => Q (!ds.isEmpty)
  | .tup ds => Q (!ds.isEmpty)
  | .tk ds => Q (!ds.isEmpty)
  | _ => False
theorem isE_rep {pp : Addr} {K : FK} {H : Hp} {ds : List D} {xs : List V} (r : RepL pp K H ds xs) : (!xs.isEmpty) = !ds.isEmpty := by
  cases ds with
  | nil => rw [r.unnil]; rfl
  | cons d ds => obtain ⟨v, w, rfl, _⟩ := r.uncons; rfl
theorem t_tru (h : QO X e pe) (he : ∀ whole, isTrue e X.env whole = (do let v ← whole; standAt e.pos; holding [v] (truthy v)) := by intro _; rfl) : QT X e (dTru pe) := by
  obtain ⟨t, h1, h2⟩ := h
  refine ⟨_, pt_truth h1 he, fun pp HE Hb H σ E Q QD so er hp k => ?_⟩
  refine h2 pp HE Hb H σ E _ _ so er hp fun v d Hb1 H1 s1 so1 r1 q1 => ?_
  split at q1
  · obtain ⟨a, xs, rfl, h1, r⟩ := r1.lst so1
    exact ⟨!xs.isEmpty, .inl ⟨xs, .of h1, rfl⟩, by rw [isE_rep r]; exact k _ Hb1 H1 s1 so1 q1⟩
  · obtain ⟨a, xs, rfl, _, h1, r⟩ := r1.tup so1
    exact ⟨!xs.isEmpty, .inr (.inl ⟨xs, h1, rfl⟩), by rw [isE_rep r]; exact k _ Hb1 H1 s1 so1 q1⟩
  · obtain ⟨a, xs, rfl, _, h1, r⟩ := r1.tk so1
    exact ⟨!xs.isEmpty, .inr (.inl ⟨xs, .inl (.inl h1), rfl⟩), by rw [isE_rep r]; exact k _ Hb1 H1 s1 so1 q1⟩
  · exact q1.elim
/-! ### xs + ys, a new list -/
def dCat (pa pb : DX) : DX := fun E Q => pa E fun x => pb E fun y => match x, y with
  | .lst xs, .lst ys => xs.length + ys.length ≤ sizeLine ∧ Q (.lst (xs ++ ys))
  | _, _ => False
theorem f_cat (ha : QO X a pa) (hb : QO X b pb) : QF X (.BinOp a .Add b pos) (dCat pa pb) := by
  obtain ⟨t, h1, h2⟩ := ha
  obtain ⟨u, g1, g2⟩ := hb
  refine ⟨_, pe_op op_cat h1 g1, fun pp HE Hb H σ E Q QD so er hp k => ?_⟩
  refine h2 pp HE Hb H σ E _ _ so er hp fun v d Hb1 H1 s1 so1 r1 q1 => ?_
  refine g2 pp HE Hb1 H1 σ E _ _ so1 (er.step s1) q1 fun v2 d2 Hb2 H2 s2 so2 r2 q2 => ?_
  split at q2
  · obtain ⟨l, xs, rfl, hl, rl⟩ := (r1.step s2).lst so2
    obtain ⟨l2, ys, rfl, hl2, rl2⟩ := r2.lst so2
    refine ⟨l, l2, xs, ys, rfl, rfl, hl, hl2, by rw [rl.length, rl2.length]; exact q2.1, fun p hp => ?_⟩
    obtain ⟨s3, so3⟩ := lay_own (u := .lst (xs ++ ys)) so2 hp
    have hna : H p = none := by
      cases z : H p with
      | none => rfl
      | some o => exact absurd hp ((s1.trans s2).st p (by rw [z]; exact fun y => nomatch y))
    exact k p (.lst _) _ _ ((s1.trans s2).trans s3) so3 hna ⟨so2.nb hp, so2.ne hp, ⟨_, upd_same, rl.app rl2⟩⟩ q2.2
  · exact q2.elim
/-! ### xs[::-1] -/
def dRev (p : DX) : DX := fun E Q => p E fun d => match d with
  | .lst ds => Q (.lst ds.reverse)
  | _ => False
theorem repL_rev {pp : Addr} {K : FK} {H : Hp} : ∀ {ds : List D} {vs : List V}, RepL pp K H ds vs → RepL pp K H ds.reverse vs.reverse
  | [], _, r => by rw [r.unnil]; exact .nil
  | d :: ds, _, r => by
    obtain ⟨v, w, rfl, h, q⟩ := r.uncons
    rw [List.reverse_cons, List.reverse_cons]
    exact (repL_rev q).app (.cons h .nil)
theorem f_rev {k : Nat} {p1 p2 p3 : Pos} (ha : QO X a pa) : QF X (.Subscript a (.Slice none none (some (.UnaryOp .USub (.Constant (.int 1) k p1) p2)) p3) pos) (dRev pa) := by
  obtain ⟨t, h1, h2⟩ := ha
  refine ⟨_, pe_revL h1, fun pp HE Hb H σ E Q QD so er hp k => ?_⟩
  refine h2 pp HE Hb H σ E _ _ so er hp fun v d Hb1 H1 s1 so1 r1 q1 => ?_
  split at q1
  · obtain ⟨l, xs, rfl, hl, rl⟩ := r1.lst so1
    refine ⟨l, xs, rfl, .of hl, fun p hp => ?_⟩
    obtain ⟨s3, so3⟩ := lay_own (u := .lst xs.reverse) so1 hp
    have hna : H p = none := by
      cases z : H p with
      | none => rfl
      | some o => exact absurd hp (s1.st p (by rw [z]; exact fun y => nomatch y))
    exact k p (.lst _) _ _ (s1.trans s3) so3 hna ⟨so1.nb hp, so1.ne hp, ⟨_, upd_same, repL_rev rl⟩⟩ q1
  · exact q1.elim
end

/-! ### methods that change a list -/
abbrev MR := V → List V → Hp → VK → Prop
abbrev MDr := List D → List D → (D → List D → Prop) → Prop
def MD (r : MR) (rd : MDr) : Prop := ∀ (pp : Addr) (K : FK) (Hb H : Hp) (p : Addr) (xs : List V) (ds : List D) (vs : List V) (es : List D) (Q : VK) (QD : D → List D → Prop), SOk pp K Hb H → H p = some (.lst xs) → RepL pp K Hb ds xs → RepL pp K Hb es vs → rd ds es QD →
  (∀ v d xs' ds', Rep pp K Hb d v → RepL pp K Hb ds' xs' → QD d ds' → Q v (upd H p (.lst xs'))) → r (.ref p) vs H Q
def rdInsert : MDr := fun ds es Q => match es with
  | [.int i, y] => ds.length < sizeLine ∧ 0 ≤ i ∧ i < 2 ^ 63 ∧ Q .non (ds.take i.toNat ++ [y] ++ ds.drop i.toNat)
  | _ => False
theorem md_insert : MD (fun x vs H Q => ∃ (l : Addr) (xs : List V) (i : Int) (y : V), x = .ref l ∧ vs = [.int i, y] ∧ H l = some (.lst xs) ∧ xs.length < sizeLine ∧ 0 ≤ i ∧ i < 2 ^ 63 ∧
    Q .non (upd H l (.lst (xs.take i.toNat ++ [y] ++ xs.drop i.toNat)))) rdInsert := by
  intro pp K Hb H p xs ds vs es Q QD so hp rx rv h k
  unfold rdInsert at h
  split at h
  · obtain ⟨v, w, rfl, r1, r2⟩ := rv.uncons
    obtain ⟨v2, w2, rfl, r3, r4⟩ := r2.uncons
    rw [r4.unnil]
    unfold Rep at r1
    subst r1
    exact ⟨p, xs, _, v2, rfl, rfl, hp, by rw [rx.length]; exact h.1, h.2.1, h.2.2.1, k .non .non _ _ rep_non (((rx.take _).app (.cons r3 .nil)).app (rx.drop _)) h.2.2.2⟩
  · exact h.elim
def rdExtend : MDr := fun ds es Q => match es with
  | [.lst ys] => ds.length + ys.length ≤ sizeLine ∧ Q .non (ds ++ ys)
  | _ => False
theorem md_extend : MD rExtend rdExtend := by
  intro pp K Hb H p xs ds vs es Q QD so hp rx rv h k
  unfold rdExtend at h
  split at h
  · obtain ⟨v, w, rfl, r1, r2⟩ := rv.uncons
    rw [r2.unnil]
    unfold Rep at r1
    obtain ⟨b, zs, rfl, hb, rz⟩ := r1
    exact ⟨p, b, xs, zs, rfl, rfl, hp, so.le _ _ hb, by rw [rx.length, rz.length]; exact h.1, k .non .non _ _ rep_non (rx.app rz) h.2⟩
  · exact h.elim
theorem repL_last {pp : Addr} {K : FK} {H : Hp} {ds : List D} {d : D} {vs : List V} (r : RepL pp K H (ds ++ [d]) vs) : ∃ ws w, vs = ws ++ [w] ∧ RepL pp K H ds ws ∧ Rep pp K H d w := by
  have h1 := r.take ds.length
  have h2 := r.drop ds.length
  rw [List.take_left'] at h1
  · rw [List.drop_left'] at h2
    · obtain ⟨w, z, e, h3, h4⟩ := h2.uncons
      rw [h4.unnil] at e
      exact ⟨vs.take ds.length, w, by rw [← e, List.take_append_drop], h1, h3⟩
    · rfl
  · rfl
/-- xs.pop() of what is not empty -/
def rdPop : MDr := fun ds es Q => es = [] ∧ ∃ ds' d, ds = ds' ++ [d] ∧ Q d ds'
theorem md_pop : MD rPop rdPop := by
  intro pp K Hb H p xs ds vs es Q QD so hp rx rv h k
  obtain ⟨rfl, ds', d, rfl, q⟩ := h
  rw [rv.unnil]
  obtain ⟨ws, w, rfl, r1, r2⟩ := repL_last rx
  refine ⟨p, ws ++ [w], w, rfl, rfl, hp, by simp, ?_⟩
  rw [List.dropLast_concat]
  exact k w d ws ds' r2 r1 q
/-- xs.pop(i), i from the left -/
def rdPopAt : MDr := fun ds es Q => match es with
  | [.int i] => 0 ≤ i ∧ i < 2 ^ 62 ∧ match ds[i.toNat]? with
    | some d => Q d (ds.eraseIdx i.toNat)
    | none => False
  | _ => False
theorem repL_erase {pp : Addr} {K : FK} {H : Hp} : ∀ {ds : List D} {vs : List V} (i : Nat), RepL pp K H ds vs → RepL pp K H (ds.eraseIdx i) (vs.eraseIdx i)
  | [], _, i, r => by rw [r.unnil]; exact .nil
  | d :: ds, _, 0, r => by
    obtain ⟨v, w, rfl, h, q⟩ := r.uncons
    exact q
  | d :: ds, _, i + 1, r => by
    obtain ⟨v, w, rfl, h, q⟩ := r.uncons
    exact .cons h (repL_erase i q)
theorem md_popAt : MD rPopAt rdPopAt := by
  intro pp K Hb H p xs ds vs es Q QD so hp rx rv h k
  unfold rdPopAt at h
  split at h
  · rename_i i
    obtain ⟨v, w, rfl, r1, r2⟩ := rv.uncons
    rw [r2.unnil]
    unfold Rep at r1
    subst r1
    obtain ⟨h1, h2, h3⟩ := h
    split at h3
    · rename_i d e
      obtain ⟨y, e2, ry⟩ := rx.get e
      have hl : i.toNat < xs.length := (List.getElem?_eq_some_iff.mp e2).1
      refine ⟨p, xs, i, i.toNat, y, rfl, rfl, hp, by omega, by omega, ?_, e2, k y d _ _ ry (repL_erase _ rx) h3⟩
      unfold seqIndex?
      first
        | (simp; omega)
        | (split <;> first | (simp; omega) | omega)
    · exact h3.elim
  · exact h.elim

section
variable {X : Cx} {e : Expr} {es : List Expr} {pas : DAs} {pos : Pos} {r : MR} {rd : MDr} {id : String} {m : Str} {x y : Str} {xp apos cpos py : Pos}
/-- the list in slot i is changed by a method -/
def dMth (i : Nat) (rd : MDr) (pas : DAs) : DS := fun DD E => match E[i]? with
  | some (.ow (.lst ds)) => pas E fun es => rd ds es fun _ ds' => DD.nx (E.set i (.ow (.lst ds')))
  | _ => False
/-- .. and what is told goes to slot j -/
def dSetM (j i : Nat) (rd : MDr) (pas : DAs) : DS := fun DD E => match E[i]? with
  | some (.ow (.lst ds)) => pas E fun es => rd ds es fun d ds' => DD.nx ((E.set i (.ow (.lst ds'))).set j (.sh d))
  | _ => False
theorem s_mth (i : Nat) (hmd : MD r rd) (slot : Slot "list" m id) (hty : typeOf (.builtin id) = pure (.type "method_descriptor")) (hmt : MtR X id r) (ha : QA X (e :: es) pas) (hN : X.N[i]? = some x := by rfl) (hv : Vis X.env.scope x := by first | exact Or.inl rfl | exact Or.inr (Or.inl rfl) | exact Or.inr (Or.inr rfl)) (hd : (x == ("__debug__" : Str)) = false := by decide)
    (hcd : (x == ("__classdict__" : Str)) = false := by decide)
    (h1 : attributeBase (.Name x xp) m X.env (eval (.Name x xp) X.env) = eval (.Name x xp) X.env := by rfl)
    (h2 : ((backTo cpos (starEach (e :: es) X.env)).all (fun x => !x.1) && (backToKw cpos (keywordEach [] X.env)).all (fun x => x.1.isSome) && decide ((e :: es : List Expr).length + ([] : List Keyword).length + (if ([] : List Keyword).isEmpty then 0 else 1) < 30)) = true := by rfl)
    (h3 : (apos.endLine == cpos.line) = true := by rfl) (h4 : starEach (e :: es) X.env = (false, eval e X.env) :: starEach es X.env := by rfl) (h5 : (backTo cpos (starEach es X.env)).any (·.1) = false := by rfl)
    (hs : swapsWith (.Call (.Attribute (.Name x xp) m apos) (e :: es) [] cpos) none pos.line X.env = pure false := by rfl) :
    QS X (.Expr (.Call (.Attribute (.Name x xp) m apos) (e :: es) [] cpos) pos) (dMth i rd pas) := by
  obtain ⟨t, t1, t2⟩ := ha
  refine ⟨_, ps_expr (pe_bm PySem.F.plainAttrs_list slot hty hmt (pv i hN hv hd hcd) t1 h1 h2 h3 h4 h5) hs, fun pp HbE HE Hb H σ E Dn DD s so er h o => ?_⟩
  unfold dMth at h
  split at h
  · rename_i ds ei
    obtain ⟨p, q1, q2, q3⟩ := er.ow i _ ei
    obtain ⟨xs, hx, hr⟩ := q3.top
    refine ⟨_, q1, .inl ⟨rfl, xs, .of hx⟩, ?_⟩
    refine t2 pp HE Hb H σ E _ _ so er h fun vs es' Hb1 H1 s1 so1 r1 l1 z1 => ?_
    have er1 := er.step s1
    have hx1 : H1 p = some (.lst xs) := s1.ex p _ q3.ne hx
    refine hmd pp X.K Hb1 H1 p xs ds vs es' _ _ so1 hx1 (hr.le s1.le) r1 z1 fun v d xs' ds' rv rs q => ?_
    obtain ⟨g1, g2, g3⟩ := mut_ok (u := .lst xs') (d' := .lst ds') (s.trans s1) so1 er1 ei q1 ⟨_, upd_same, rs⟩
    exact o.nx Hb1 _ σ _ g1 g2 g3 q
  · exact h.elim
theorem s_mth0 (i : Nat) (hmd : MD r rd) (slot : Slot "list" m id) (hty : typeOf (.builtin id) = pure (.type "method_descriptor")) (hmt : MtR X id r) (hN : X.N[i]? = some x := by rfl) (hv : Vis X.env.scope x := by first | exact Or.inl rfl | exact Or.inr (Or.inl rfl) | exact Or.inr (Or.inr rfl)) (hd : (x == ("__debug__" : Str)) = false := by decide)
    (hcd : (x == ("__classdict__" : Str)) = false := by decide)
    (h1 : attributeBase (.Name x xp) m X.env (eval (.Name x xp) X.env) = eval (.Name x xp) X.env := by rfl)
    (h3 : (apos.endLine == cpos.line) = true := by rfl)
    (hs : swapsWith (.Call (.Attribute (.Name x xp) m apos) [] [] cpos) none pos.line X.env = pure false := by rfl) :
    QS X (.Expr (.Call (.Attribute (.Name x xp) m apos) [] [] cpos) pos) (dMth i rd dNilA) := by
  refine ⟨_, ps_expr (pe_bm0 PySem.F.plainAttrs_list slot hty hmt (pv i hN hv hd hcd) h1 h3) hs, fun pp HbE HE Hb H σ E Dn DD s so er h o => ?_⟩
  unfold dMth at h
  split at h
  · rename_i ds ei
    obtain ⟨p, q1, q2, q3⟩ := er.ow i _ ei
    obtain ⟨xs, hx, hr⟩ := q3.top
    refine ⟨_, q1, .inl ⟨rfl, xs, .of hx⟩, ?_⟩
    refine hmd pp X.K Hb H p xs ds [] [] _ _ so hx hr .nil h fun v d xs' ds' rv rs q => ?_
    obtain ⟨g1, g2, g3⟩ := mut_ok (u := .lst xs') (d' := .lst ds') s so er ei q1 ⟨_, upd_same, rs⟩
    exact o.nx Hb _ σ _ g1 g2 g3 q
  · exact h.elim
theorem s_setM (i : Nat) {j : Nat} (hmd : MD r rd) (slot : Slot "list" m id) (hty : typeOf (.builtin id) = pure (.type "method_descriptor")) (hmt : MtR X id r) (hNd : X.N.Nodup) (ha : QA X (e :: es) pas) (hN : X.N[i]? = some x := by rfl) (hv : Vis X.env.scope x := by first | exact Or.inl rfl | exact Or.inr (Or.inl rfl) | exact Or.inr (Or.inr rfl)) (hd : (x == ("__debug__" : Str)) = false := by decide)
    (hcd : (x == ("__classdict__" : Str)) = false := by decide)
    (h1 : attributeBase (.Name x xp) m X.env (eval (.Name x xp) X.env) = eval (.Name x xp) X.env := by rfl)
    (h2 : ((backTo cpos (starEach (e :: es) X.env)).all (fun x => !x.1) && (backToKw cpos (keywordEach [] X.env)).all (fun x => x.1.isSome) && decide ((e :: es : List Expr).length + ([] : List Keyword).length + (if ([] : List Keyword).isEmpty then 0 else 1) < 30)) = true := by rfl)
    (h3 : (apos.endLine == cpos.line) = true := by rfl) (h4 : starEach (e :: es) X.env = (false, eval e X.env) :: starEach es X.env := by rfl) (h5 : (backTo cpos (starEach es X.env)).any (·.1) = false := by rfl)
    (hj : X.N[j]? = some y := by rfl) (hy : Loc X.env.scope y := by first | exact Or.inl rfl | exact Or.inr rfl)
    (hs : swapsWith (.Call (.Attribute (.Name x xp) m apos) (e :: es) [] cpos) (some (.Name y py)) pos.line X.env = pure false := by rfl)
    (hf : X.fn y = true ∨ X.env.scope.names.lookup y = some .local := by first | exact .inl rfl | exact .inr rfl | assumption) :
    QS X (.Assign [.Name y py] (.Call (.Attribute (.Name x xp) m apos) (e :: es) [] cpos) pos) (dSetM j i rd pas) := by
  obtain ⟨t, t1, t2⟩ := ha
  refine ⟨_, ps_set hNd hj hy (pe_bm PySem.F.plainAttrs_list slot hty hmt (pv i hN hv hd hcd) t1 h1 h2 h3 h4 h5) hs hf, fun pp HbE HE Hb H σ E Dn DD s so er h o => ?_⟩
  unfold dSetM at h
  split at h
  · rename_i ds ei
    obtain ⟨p, q1, q2, q3⟩ := er.ow i _ ei
    obtain ⟨xs, hx, hr⟩ := q3.top
    refine ⟨_, q1, .inl ⟨rfl, xs, .of hx⟩, ?_⟩
    refine t2 pp HE Hb H σ E _ _ so er h fun vs es' Hb1 H1 s1 so1 r1 l1 z1 => ?_
    have er1 := er.step s1
    have hx1 : H1 p = some (.lst xs) := s1.ex p _ q3.ne hx
    refine hmd pp X.K Hb1 H1 p xs ds vs es' _ _ so1 hx1 (hr.le s1.le) r1 z1 fun v d xs' ds' rv rs q => ?_
    obtain ⟨g1, g2, g3⟩ := mut_ok (u := .lst xs') (d' := .lst ds') (s.trans s1) so1 er1 ei q1 ⟨_, upd_same, rs⟩
    exact o.nx Hb1 _ _ _ g1 g2 (g3.set_sh j rv) q
  · exact h.elim
theorem s_setM0 (i : Nat) {j : Nat} (hmd : MD r rd) (slot : Slot "list" m id) (hty : typeOf (.builtin id) = pure (.type "method_descriptor")) (hmt : MtR X id r) (hNd : X.N.Nodup) (hN : X.N[i]? = some x := by rfl) (hv : Vis X.env.scope x := by first | exact Or.inl rfl | exact Or.inr (Or.inl rfl) | exact Or.inr (Or.inr rfl)) (hd : (x == ("__debug__" : Str)) = false := by decide)
    (hcd : (x == ("__classdict__" : Str)) = false := by decide)
    (h1 : attributeBase (.Name x xp) m X.env (eval (.Name x xp) X.env) = eval (.Name x xp) X.env := by rfl)
    (h3 : (apos.endLine == cpos.line) = true := by rfl)
    (hj : X.N[j]? = some y := by rfl) (hy : Loc X.env.scope y := by first | exact Or.inl rfl | exact Or.inr rfl)
    (hs : swapsWith (.Call (.Attribute (.Name x xp) m apos) [] [] cpos) (some (.Name y py)) pos.line X.env = pure false := by rfl)
    (hf : X.fn y = true ∨ X.env.scope.names.lookup y = some .local := by first | exact .inl rfl | exact .inr rfl | assumption) :
    QS X (.Assign [.Name y py] (.Call (.Attribute (.Name x xp) m apos) [] [] cpos) pos) (dSetM j i rd dNilA) := by
  refine ⟨_, ps_set hNd hj hy (pe_bm0 PySem.F.plainAttrs_list slot hty hmt (pv i hN hv hd hcd) h1 h3) hs hf, fun pp HbE HE Hb H σ E Dn DD s so er h o => ?_⟩
  unfold dSetM at h
  split at h
  · rename_i ds ei
    obtain ⟨p, q1, q2, q3⟩ := er.ow i _ ei
    obtain ⟨xs, hx, hr⟩ := q3.top
    refine ⟨_, q1, .inl ⟨rfl, xs, .of hx⟩, ?_⟩
    refine hmd pp X.K Hb H p xs ds [] [] _ _ so hx hr .nil h fun v d xs' ds' rv rs q => ?_
    obtain ⟨g1, g2, g3⟩ := mut_ok (u := .lst xs') (d' := .lst ds') s so er ei q1 ⟨_, upd_same, rs⟩
    exact o.nx Hb _ _ _ g1 g2 (g3.set_sh j rv) q
  · exact h.elim
end
end DL

/-! DZ3: zip(a, b, strict=False) of two lists -/
namespace DZ
open PySem PySem.Spec PyProof.Rows L2
open PySem.Sem (wp)
section
variable {prog : Program} {w : World} {A : Around} {E : Value → Shared → Prop} {s : Shared} {t t' : Bool}
abbrev zf5 (t t' : Bool) (h : Heap) (l1 l2 : Addr) : Heap := (zn4 t t' h l1 l2).push { cls := .type "zip", data := .fields #[.none, .bool false, .bool false, .ref (zn2 t t' h l1 l2).objs.size, .ref (zn3 t t' h l1 l2).objs.size] }
theorem zf_new (t t' : Bool) (l1 l2 : Addr) (xs ys : Array Value) :
    Meets (Builtin.«zip.__new__» ⟨[.type "zip", .ref l1, .ref l2], [(Str.ofString "strict", .bool false)]⟩) (fun _ R s => SqAt t s.heap l1 xs ∧ SqAt t' s.heap l2 ys ∧
      R (.ok (.ret (.ref (zn4 t t' s.heap l1 l2).objs.size))) { s with heap := zf5 t t' s.heap l1 l2 }) :=
  .of_wp fun prog w A R s h => by
    obtain ⟨hp, g, d, tk, os⟩ := s
    obtain ⟨hl1, hl2, h⟩ := h
    have hsub := sub_zip
    have e1 : (Str.ofString "strict" != ("strict" : Str)) = false := by decide +kernel
    have q1 : ∀ {A' : Around} {E : Value → Shared → Prop} {Q : Value → Shared → Prop}, Q (.ref hp.objs.size) ⟨hp.push (itO t l1), g, d, tk, os⟩ → wpAny (model prog w) A' (pyIter (.ref l1)) Q E ⟨hp, g, d, tk, os⟩ :=
      fun {A' E Q} q => pi_at (s := ⟨hp, g, d, tk, os⟩) hl1 q
    have hl2' : SqAt t' (hp.push (itO t l1)) l2 ys := hl2.at fun o e => Heap.get?_push_of_some _ e
    have q2 : ∀ {A' : Around} {E : Value → Shared → Prop} {Q : Value → Shared → Prop}, Q (.ref (hp.push (itO t l1)).objs.size) ⟨(hp.push (itO t l1)).push (itO t' l2), g, d, tk, os⟩ → wpAny (model prog w) A' (pyIter (.ref l2)) Q E ⟨hp.push (itO t l1), g, d, tk, os⟩ :=
      fun {A' E Q} q => pi_at (s := ⟨hp.push (itO t l1), g, d, tk, os⟩) hl2' q
    wp_walk using q1, q2
    exact ⟨_, rfl, h⟩
theorem call_zf {l1 l2 : Addr} {xs ys : Array Value} {Q : Value → Shared → Prop} (hl1 : SqAt true s.heap l1 xs) (hl2 : SqAt true s.heap l2 ys)
    (q : ∀ h', IsZip h' (s.heap.objs.size + 4) (s.heap.objs.size + 2) (s.heap.objs.size + 3) .none → IsPair h' (s.heap.objs.size + 2) (.ref s.heap.objs.size) (.ref (s.heap.objs.size + 1)) →
      IsPair h' (s.heap.objs.size + 3) .none .none → h'.IsListIter s.heap.objs.size l1 0 → h'.IsListIter (s.heap.objs.size + 1) l2 0 →
      (∀ c o, s.heap.get? c = some o → h'.get? c = some o) → Q (.ref (s.heap.objs.size + 4)) { s with heap := h' }) :
    wpAny (model prog w) A (call (.type "zip") [.ref l1, .ref l2] [(Str.ofString "strict", .bool false)]) Q E s := by
  refine callType_newKw F.called_zip (by decide) (tc_zs _ _ _) (nc_zs _ _ _) (fun obj => oi_zs obj _ _ _) F.entry_zip_new (zf_new true true l1 l2 xs ys) ⟨hl1, hl2, ?_⟩
  have z1 : (zn1 true s.heap l1).objs.size = s.heap.objs.size + 1 := Heap.size_push ..
  have z2 : (zn2 true true s.heap l1 l2).objs.size = s.heap.objs.size + 2 := by rw [Heap.size_push, z1]
  have z3 : (zn3 true true s.heap l1 l2).objs.size = s.heap.objs.size + 3 := by rw [Heap.size_push, z2]
  have z4 : (zn4 true true s.heap l1 l2).objs.size = s.heap.objs.size + 4 := by rw [Heap.size_push, z3]
  have y5 : (zf5 true true s.heap l1 l2).get? (zn4 true true s.heap l1 l2).objs.size = some _ := Heap.get?_push_size _ rfl
  have y4 : (zf5 true true s.heap l1 l2).get? (zn3 true true s.heap l1 l2).objs.size = some _ := Heap.get?_push_of_some _ (Heap.get?_push_size _ rfl)
  have y3 : (zf5 true true s.heap l1 l2).get? (zn2 true true s.heap l1 l2).objs.size = some _ := Heap.get?_push_of_some _ (Heap.get?_push_of_some _ (Heap.get?_push_size _ rfl))
  have y2 : (zf5 true true s.heap l1 l2).get? (zn1 true s.heap l1).objs.size = some (itO true l2) := Heap.get?_push_of_some _ (Heap.get?_push_of_some _ (Heap.get?_push_of_some _ (Heap.get?_push_size _ (itO_fr _ _))))
  have y1 : (zf5 true true s.heap l1 l2).get? s.heap.objs.size = some (itO true l1) := Heap.get?_push_of_some _ (Heap.get?_push_of_some _ (Heap.get?_push_of_some _ (Heap.get?_push_of_some _ (Heap.get?_push_size _ (itO_fr _ _)))))
  show _ ∧ _
  rw [z2, z3, z4] at y5
  rw [z1, z2] at y3
  rw [z3] at y4
  rw [z1] at y2
  rw [z4]
  exact ⟨⟨_, y5, rfl⟩, q _ y5 y3 y4 (itO_at (t := true) y1) (itO_at (t := true) y2) fun c o x => Heap.get?_push_of_some _ (Heap.get?_push_of_some _ (Heap.get?_push_of_some _ (Heap.get?_push_of_some _ (Heap.get?_push_of_some _ x))))⟩
end
def iZf (K : PySem.W.Frag) (ta tk : TA) : TI := fun σ H R => ta σ H fun vs H1 => tk σ H1 fun zs H2 => zs = [.bl false] ∧ ∃ a b xs ys, vs = [.ref a, .ref b] ∧ SqL K H2 a xs ∧ SqL K H2 b ys ∧ R (Itz K a b) H2
theorem pi_zf {X : Cx} {e e2 : Expr} {kws : List Keyword} {ta tk : TA} {p pos tpos : Pos} {elts : List Expr} {kk : Nat} (hg : Gl X "zip") (hm : X.mg "zip" = none) (ha : PA X [e, e2] ta) (hk : PK X kws tk)
    (he : backTo pos (starEach [e, e2] X.env) = (false, eval e X.env) :: backTo pos (starEach [e2] X.env) := by rfl) (hpl : (backTo pos (starEach [e, e2] X.env)).any (·.1) = false := by rfl)
    (hall : (backToKw pos (keywordEach kws X.env)).all (·.1.isSome) = true := by rfl) (hnone : (backToKw pos (keywordEach kws X.env)).any (·.1.isNone) = false := by rfl) (hks : (backToKw pos (keywordEach kws X.env)).filterMap (·.1) = [Str.ofString "strict"] := by rfl) :
    PI X (.Tuple elts kk tpos) (.Call (.Name "zip" p) [e, e2] kws pos) (iZf X.K ta tk) := by
  refine ⟨fun pins s σ H R I h => ?_⟩
  refine wpAny_Call_Name_kw (ld_blt I hg hm PyProof.Rows.boot_zip ?_)
  refine cw_typeKw (thn (ha.run pos pins s σ H _ I h) fun us s0 ⟨vs, H0, I0, r0, q0⟩ => thn (hk.run pos pins s0 σ H0 _ I0 q0) fun ws s1 ⟨zs, H1, I1, r1, q1⟩ => ?_) he hpl hall hnone
  rw [hks]
  obtain ⟨ez, a, b, xs, ys, ex, hqx, hqy, q⟩ := q1
  subst ez ex
  obtain ⟨w1, rfl, e1⟩ := vals1 r1
  obtain rfl : w1 = Value.bool false := e1
  cases r0 with
  | cons r rr =>
    cases rr with
    | cons r' rr =>
      cases rr
      cases r
      cases r'
      obtain ⟨its, rv, p1, _⟩ := I1.list hqx
      obtain ⟨its2, rv2, p2, _⟩ := I1.list hqy
      have fresh5 : ∀ c, c ∈ [s1.heap.objs.size + 4, s1.heap.objs.size + 2, s1.heap.objs.size + 3, s1.heap.objs.size, s1.heap.objs.size + 1] → FpOk X pins H1 c := fun c hcm => by
        have hle : s1.heap.objs.size ≤ c := by
          simp only [List.mem_cons, List.not_mem_nil, or_false] at hcm
          omega
        exact I1.fpOk hle (I1.hok.fresh hle)
      refine call_zf p1.isList p2.isList fun m hz hI hO h1 h2 hk' => wpAny_pyIter_zip hz ?_
      have I2 : Inv X pins σ H1 { s1 with heap := m } := I1.kept (t' := s1.toks) hk'
      exact ⟨s1.heap.objs.size + 4, [s1.heap.objs.size + 4, s1.heap.objs.size + 2, s1.heap.objs.size + 3, s1.heap.objs.size, s1.heap.objs.size + 1], _, _, H1, rfl, I2, turn_zip (PySem.W.ktu_apart s1.heap.objs.size a b p1.lt p2.lt), ⟨hz, hI, ⟨_, _, hO⟩, h1, h2⟩, fresh5, q⟩
end DZ

/-! DL13: zip(.., strict=False), list(d.values()) -/
namespace DL
open PySem PySem.Spec PyProof.Rows L2
section
variable {X : Cx} {e e2 : Expr} {kws : List Keyword} {pas : DAs} {p pos tpos kpos cpos : Pos} {elts : List Expr} {kk ck : Nat}
/-- zip of two lists, as far as both go -/
def dZipF (pas : DAs) : DI := fun E Q => pas E fun ds => match ds with
  | [.lst xs, .lst ys] => Q (zipD xs ys)
  | _ => False
theorem i_zipF (hg : Gl X "zip") (hm : X.mg "zip" = none) (ha : QA X [e, e2] pas)
    (he : backTo pos (starEach [e, e2] X.env) = (false, eval e X.env) :: backTo pos (starEach [e2] X.env) := by rfl) (hpl : (backTo pos (starEach [e, e2] X.env)).any (·.1) = false := by rfl)
    (hall : (backToKw pos (keywordEach [⟨some (Str.ofString "strict"), .Constant (.bool false) ck cpos, kpos⟩] X.env)).all (·.1.isSome) = true := by rfl) (hnone : (backToKw pos (keywordEach [⟨some (Str.ofString "strict"), .Constant (.bool false) ck cpos, kpos⟩] X.env)).any (·.1.isNone) = false := by rfl)
    (hks : (backToKw pos (keywordEach [⟨some (Str.ofString "strict"), .Constant (.bool false) ck cpos, kpos⟩] X.env)).filterMap (·.1) = [Str.ofString "strict"] := by rfl) :
    QI X (.Tuple elts kk tpos) (.Call (.Name "zip" p) [e, e2] [⟨some (Str.ofString "strict"), .Constant (.bool false) ck cpos, kpos⟩] pos) (dZipF pas) := by
  obtain ⟨t, h1, h2⟩ := ha
  refine ⟨_, DZ.pi_zf hg hm h1 (pk_cons pe_bl pk_nil) he hpl hall hnone hks, fun pp HE Hb H σ E R QD so er hp k => ?_⟩
  refine h2 pp HE Hb H σ E _ _ so er hp fun vs ds Hb1 H1 s1 so1 r1 l1 q1 => ?_
  split at q1
  · rename_i xs ys
    obtain ⟨v, w, rfl, rx, r2⟩ := r1.uncons
    obtain ⟨v2, w2, rfl, ry, r3⟩ := r2.uncons
    obtain rfl := r3.unnil
    unfold Rep at rx ry
    obtain ⟨a, us, rfl, sa, ru⟩ := rx
    obtain ⟨b, us2, rfl, sb, ru2⟩ := ry
    refine ⟨rfl, a, b, us, us2, rfl, .of (so1.le _ _ sa), .of (so1.le _ _ sb), k _ (zipD xs ys) Hb1 H1 s1 so1 (fun Hb2 H2 sm so2 i => ?_) q1⟩
    have g1 : SqL X.K H2 a us := .of (so2.le _ _ (sm _ _ sa))
    have g2 : SqL X.K H2 b us2 := .of (so2.le _ _ (sm _ _ sb))
    refine ⟨fun d ed => ?_, fun e => ⟨us, us2, g1, g2, ?_⟩⟩
    · have ed' : ∃ dx dy, xs[i]? = some dx ∧ ys[i]? = some dy ∧ d = .tup [dx, dy] := by
        unfold zipD at ed
        rw [List.getElem?_zipWith] at ed
        cases ex : xs[i]? with
        | none => rw [ex] at ed; simp at ed
        | some dx =>
          cases ey : ys[i]? with
          | none => rw [ex, ey] at ed; simp at ed
          | some dy =>
            rw [ex, ey] at ed
            simp at ed
            exact ⟨dx, dy, rfl, rfl, ed.symm⟩
      obtain ⟨dx, dy, gx, gy, rfl⟩ := ed'
      obtain ⟨vx, ev, rv⟩ := ru.get gx
      obtain ⟨vy, ev2, rv2⟩ := ru2.get gy
      refine ⟨⟨us, us2, vx, vy, g1, g2, ev, ev2⟩, fun x H3 y => ?_⟩
      obtain ⟨T, u1, u2, rfl, hT, rfl, y1, y2⟩ := y
      have e1 := y1 us g1
      rw [ev] at e1
      cases e1
      have e2 := y2 us2 g2
      rw [ev2] at e2
      cases e2
      obtain ⟨s3, so3⟩ := lay_sh (u := .tup [vx, vy]) so2 hT
      refine ⟨_, s3, so3, ?_⟩
      unfold Rep
      exact ⟨T, _, rfl, .inl upd_same, .cons ((rv.le (.of_same sm)).le s3.le) (.cons ((rv2.le (.of_same sm)).le s3.le) .nil)⟩
    · rw [e, ru.length, ru2.length]
      unfold zipD
      rw [List.length_zipWith]
      rcases Nat.le_total xs.length ys.length with h | h
      · exact .inl (by rw [Nat.min_eq_left h]; exact Nat.le_refl _)
      · exact .inr (by rw [Nat.min_eq_right h]; exact Nat.le_refl _)
  · exact q1.elim
end
/-! ### list(d.values()) -/
section
variable {X : Cx} {e : Expr} {te : TE} {p apos cpos pos : Pos}
def rValsL : V → Hp → VK → Prop := fun x H Q => ∃ (d : Addr) (kvs : List (Key × V)), x = .ref d ∧ Rd H d (.dK kvs) ∧ ∀ p, H p = none → Q (.ref p) (upd H p (.lst (kvs.map (·.2))))
def tListVals (te : TE) : TE := fun σ H Q => te σ H fun x H1 => rValsL x H1 Q
theorem vals_each : ∀ {ws : List (Key × V)} {vs : List (Key × Value)} {acc : List Value}, KV ws vs → acc = vs.map (·.2) → Vals (ws.map (·.2)) acc
  | _, _, _, .nil, e => by subst e; exact .nil
  | _, _, _, .cons h t, e => by subst e; exact .cons h.2 (vals_each t rfl)
theorem pe_listVals (hc : X.calm = true) (he : PE X e te) (hg : Gl X "list") (hm : X.mg "list" = none) (hv : bootBuiltins "list" = some (.type "list")) (hbase : attributeBase e "values" X.env (eval e X.env) = eval e X.env := by rfl) (hline : (apos.endLine == cpos.line) = true := by rfl)
    (hs : starEach [.Call (.Attribute e "values" apos) [] [] cpos] X.env = (false, eval (.Call (.Attribute e "values" apos) [] [] cpos) X.env) :: starEach [] X.env := by rfl) :
    PE X (.Call (.Name "list" p) [.Call (.Attribute e "values" apos) [] [] cpos] [] pos) (tListVals te) := by
  refine ⟨fun pins s σ H Q I hq => ?_⟩
  refine wpAny_Call_Name_kw (ld_blt I hg hm hv ?_)
  refine PyProof.Rows.callWith_type1 ?_ hs rfl
  rw [hs]
  show wpAny _ _ (spliced ((false, eval (.Call (.Attribute e "values" apos) [] [] cpos) X.env) :: backTo pos (starEach [] X.env))) _ _ s
  refine Calls.spliced_cons ?_
  refine wpAny_Call_method (T := "dict") (id := "dict.values") hbase rfl hline F.plainAttrs_dict F.slot_dict_values F.type_dict_values (thn (he.run pins s σ H _ I hq) fun u s1 ⟨x, H1, I1, rx, d, kvs, ex, hd, q⟩ => ?_)
  subst ex
  obtain rfl : u = Value.ref d := rx
  obtain ⟨hz, hs0, vs, kv, hdo⟩ := dk_rd I1.hok hd
  have lk : kvs.length = vs.length := Paired.length kv
  have I2 : Inv X pins σ H1 { s1 with heap := s1.heap.push { cls := .type "dict_values", data := .fields #[.ref d] } } := I1.kept (t' := s1.toks) fun b ob q => Heap.get?_push_of_some _ q
  refine ⟨hdo.typeIs, hdo.mapOf.noDict, ?_⟩
  show wpAny _ _ (callWith cpos (.builtin "dict.values") [.ref d] [] []) _ X.xe s1
  refine method_meetsIn F.slot_dict_values F.entry_dict_values rfl (PySem.evalArgs_none ⟨rfl, hdo.typeIs, F.args_dict_values_1 _, _, meets_dict_values (mixKind X.prog X.w) d hs0, ⟨vs, hdo⟩, ?_⟩)
  refine Calls.spliced_nil ?_
  obtain ⟨es, ep, hr, hsz, hen⟩ := PySem.Heap.DictOf.raw hdo
  have hv2 : (s1.heap.push { cls := .type "dict_values", data := .fields #[.ref d] }).IsValuesView s1.heap.objs.size d := ⟨_, Heap.get?_push_size _ rfl, rfl, rfl⟩
  have hr2 : (s1.heap.push { cls := .type "dict_values", data := .fields #[.ref d] }).DictRaw d es ep := hr.at fun o e => Heap.get?_push_of_some _ e
  refine PySem.W.kdl_call (s := { s1 with heap := s1.heap.push { cls := .type "dict_values", data := .fields #[.ref d] } }) PySem.KdlSrc.rawValues (I1.ok.hd hc) ⟨hv2, hr2⟩ (by omega) fun h' tk acc c hk hS it => ?_
  have ea : acc.toList = vs.map (·.2) := by
    apply List.ext_getElem?
    intro j
    rw [List.getElem?_map]
    cases hj : acc.toList[j]? with
    | none =>
      have h1 := List.getElem?_eq_none_iff.mp hj
      rw [Array.length_toList, it.1] at h1
      rw [List.getElem?_eq_none (by omega)]
      rfl
    | some v =>
      obtain ⟨hi, hv⟩ := it.2 j v (by rw [← Array.getElem?_toList]; exact hj)
      have hlt : j < vs.length := by omega
      have e2 := (hen j hi vs[j].1 vs[j].2 (List.getElem?_eq_getElem hlt)).2
      rw [List.getElem?_eq_getElem hlt, hv, e2]
      rfl
  have rv : Vals (kvs.map (·.2)) acc.toList := vals_each kv ea
  refine ⟨.ref _, _, I2.laid (t' := tk) (o := .lst (kvs.map (·.2))) hk (Nat.le_refl _) ?_, rfl, q _ (I2.hok.fresh (Nat.le_refl _))⟩
  exact ⟨by rw [List.length_map]; exact hz, acc.toList, c, rv, by rw [Array.toArray_toList]; exact hS⟩
end
section
variable {X : Cx} {e : Expr} {pe : DX} {p apos cpos pos : Pos}
def dVals (pe : DX) : DX := fun E Q => pe E fun d => match d with
  | .dic ks ds => Q (.lst ds)
  | _ => False
theorem f_listVals (hc : X.calm = true) (he : QO X e pe) (hg : Gl X "list") (hm : X.mg "list" = none) (hbase : attributeBase e "values" X.env (eval e X.env) = eval e X.env := by rfl) (hline : (apos.endLine == cpos.line) = true := by rfl)
    (hs : starEach [.Call (.Attribute e "values" apos) [] [] cpos] X.env = (false, eval (.Call (.Attribute e "values" apos) [] [] cpos) X.env) :: starEach [] X.env := by rfl) :
    QF X (.Call (.Name "list" p) [.Call (.Attribute e "values" apos) [] [] cpos] [] pos) (dVals pe) := by
  obtain ⟨t, h1, h2⟩ := he
  refine ⟨_, pe_listVals hc h1 hg hm (by decide +kernel) hbase hline hs, fun pp HE Hb H σ E Q QD so er hp k => ?_⟩
  refine h2 pp HE Hb H σ E _ _ so er hp fun v d Hb1 H1 s1 so1 r1 q1 => ?_
  split at q1
  · obtain ⟨a, ws, rfl, hw, hk, rl⟩ := r1.dic so1
    refine ⟨a, ws, rfl, hw, fun p hp => ?_⟩
    obtain ⟨s3, so3⟩ := lay_own (u := .lst (ws.map (·.2))) so1 hp
    have hna : H p = none := by
      cases z : H p with
      | none => rfl
      | some o => exact absurd hp (s1.st p (by rw [z]; exact fun y => nomatch y))
    exact k p (.lst _) _ _ (s1.trans s3) so3 hna ⟨so1.nb hp, so1.ne hp, ⟨_, upd_same, rl⟩⟩ q1
  · exact q1.elim
end
end DL

namespace DL
open PySem PySem.Spec PyProof.Rows L2

/-! ### dict comprehensions -/
def dcL (g : DG) (vs : List Nat) (c : DT) (pk pv : DX) : List D → List Sl → List Key → List D → (List Key → List D → Prop) → Prop
  | [], _, ks, ds, Q => Q ks ds
  | d :: r, E, ks, ds, Q => g d (wipeD E vs) fun E' => c E' fun b => if b = true then pk E' fun kd => pv E' fun y => match keyOf kd with
      | some k => dcL g vs c pk pv r E (ptK ks k) (ptD ks ds k y) Q
      | none => False
    else dcL g vs c pk pv r E ks ds Q
def dDc (pi : DI) (g : DG) (vs : List Nat) (c : DT) (pk pv : DX) : DX := fun E Q => pi E fun items => items.length ≤ sizeLine ∧ dcL g vs c pk pv items E [] [] fun ks ds => Q (.dic ks ds)
theorem ptK_len (ks : List Key) (k : Key) : (ptK ks k).length ≤ ks.length + 1 := by
  unfold ptK
  split
  · omega
  · simp
section
variable {X : Cx} {kx vx tg iter : Expr} {ifs : List Expr} {scope : Scope} {own : List (Str × Nat)} {pos : Pos} {pi : DI} {g : DG} {c : DT} {pk pv : DX}
theorem dc_read {wi : TI} {K : FK} {vs : List Nat} {pp : Addr} {HE Hb H : Hp} {σ : L2.St} {E : List Sl} {Q : VK} {QD : D → Prop}
    (i2 : ∀ (R : It → Hp → Prop) (QD : List D → Prop), pi E QD → (∀ J items Hb' H', Step pp Hb H Hb' H' → SOk pp K Hb' H' → WalkJ pp K Hb' J items → QD items → R J H') → wi σ H R)
    (so : SOk pp K Hb H) (er : ER pp K HE Hb H σ E) (hp : dDc pi g vs c pk pv E QD)
    (k : ∀ a d Hb' H', Step pp Hb H Hb' H' → SOk pp K Hb' H' → H a = none → Owns pp K Hb' H' a d → QD d → Q (.ref a) H') : tDc wi (TGvof K vs g) (TTof K c) (TEof K pk) (TEof K pv) vs σ H Q := by
  refine i2 _ _ hp fun J items Hb0 H0 s0 so0 wk q0 => ?_
  intro L hL
  have hLH : H L = none := by
    cases z : H L with
    | none => rfl
    | some u => exact absurd hL (s0.st L (by rw [z]; exact fun y => nomatch y))
  obtain ⟨sL, soL⟩ := lay_own (u := .dK []) so0 hL
  refine ⟨fun i m H1 => m = items.length - i ∧ i ≤ items.length ∧ ∃ (Hb1 : Hp) (ws : List (Key × V)) (ds : List D), Step pp Hb0 H0 Hb1 H1 ∧ SOk pp K Hb1 H1 ∧ H1 L = some (.dK ws) ∧ Hb1 L = none ∧ RepL pp K Hb1 ds (ws.map (·.2)) ∧ ws.length ≤ i ∧ dcL g vs c pk pv (items.drop i) E (ws.map (·.1)) ds fun ks ds => QD (.dic ks ds),
    ⟨items.length, rfl, Nat.zero_le _, Hb0, [], [], sL, soL, upd_same, so0.nb hL, .nil, Nat.le_refl _, by simpa using q0.2⟩, ?_⟩
  rintro i m H1 ⟨rfl, hi, Hb1, ws, ds, s1, so1, hl1, hb1, r1, n1, f1⟩
  have w1 := wk Hb1 H1 s1.sb so1 i
  have hpp : L ≠ pp := so0.ne hL
  by_cases hlt : i < items.length
  · have ed : items[i]? = some items[i] := by simp [hlt]
    obtain ⟨go, yl⟩ := w1.1 _ ed
    rw [List.drop_eq_getElem_cons hlt] at f1
    refine .inr ⟨go, fun H1 => (items.length - (i + 1)) = items.length - (i + 1) ∧ i + 1 ≤ items.length ∧ ∃ (Hb1 : Hp) (ws : List (Key × V)) (ds : List D), Step pp Hb0 H0 Hb1 H1 ∧ SOk pp K Hb1 H1 ∧ H1 L = some (.dK ws) ∧ Hb1 L = none ∧ RepL pp K Hb1 ds (ws.map (·.2)) ∧ ws.length ≤ i + 1 ∧ dcL g vs c pk pv (items.drop (i + 1)) E (ws.map (·.1)) ds fun ks ds => QD (.dic ks ds), fun H' w => ⟨items.length - (i + 1), by omega, w⟩, fun x H2 y => ?_⟩
    obtain ⟨Hb2, s2, so2, r2⟩ := yl x H2 y
    have sA := s1.trans s2
    refine ⟨pp, HE, Hb2, wipeD E vs, items[i], _, so2, ((er.step s0).step sA).wipe vs, r2, f1, fun σ' E' er' of q' => ?_⟩
    refine ⟨(off_wipe.trans of).wipe, pp, HE, Hb2, E', _, so2, er', q', fun b Hb3 H3 s3 so3 q3 => ?_⟩
    cases b with
    | true =>
      rw [if_pos rfl] at q3 ⊢
      refine ⟨pp, HE, Hb3, E', _, so3, er'.step s3, q3, fun y' kd Hb4 H4 s4 so4 r4 q4 => ?_⟩
      refine ⟨pp, HE, Hb4, E', _, so4, (er'.step s3).step s4, q4, fun y2 d2 Hb5 H5 s5 so5 r5 q5 => ?_⟩
      split at q5
      · rename_i kk ek
        have sB := ((s2.trans s3).trans s4).trans s5
        have hL4 : H5 L = some (.dK ws) := sB.ex L _ hpp hl1
        have hb4 : Hb5 L = none := sB.nw L hb1 (by rw [hl1]; exact fun z => nomatch z)
        have sC := s1.trans sB
        have ey := keyOf_rep so4 ek (.inl r4)
        have lw : (putK ws kk y2).length ≤ ws.length + 1 := by
          have h1 := congrArg List.length (pt_keys kk y2 ws)
          rw [List.length_map] at h1
          have h2 := ptK_len (ws.map (·.1)) kk
          rw [List.length_map] at h2
          omega
        refine ⟨ws, kk, ey, hL4, by have := q0.1; omega, rfl, hlt, Hb5, putK ws kk y2, ptD (ws.map (·.1)) ds kk d2, ⟨sC.sb, fun b o hb h => ?_, fun b h => ?_, sC.nw⟩, ⟨fun b o h => ?_, so5.np, ?_, fun b xs h => ?_⟩, upd_same, hb4, pt_rep r5 (r1.le sB.le), by omega, by rw [pt_keys]; exact q5⟩
        · rw [upd_ne (ne_of_none h hL)]; exact sC.ex b o hb h
        · by_cases z : b = L
          · subst z; rw [upd_same]; exact fun y => nomatch y
          · rw [upd_ne z]; exact sC.st b h
        · have z : b ≠ L := fun z => by subst z; rw [hb4] at h; cases h
          rw [upd_ne z]; exact so5.le b o h
        · obtain ⟨a, ns, i, n, k, h1, h2⟩ := so5.pool
          exact ⟨a, ns, i, n, k, by rw [upd_ne (Ne.symm hpp)]; exact h1, h2⟩
        · by_cases z : b = L
          · subst z; rw [upd_same] at h; cases h
          · rw [upd_ne z] at h; exact so5.tp b xs h
      · exact q5.elim
    | false =>
      rw [if_neg Bool.false_ne_true] at q3 ⊢
      have sB := s2.trans s3
      exact ⟨rfl, hlt, Hb3, ws, ds, s1.trans sB, so3, sB.ex L _ hpp hl1, sB.nw L hb1 (by rw [hl1]; exact fun z => nomatch z), r1.le sB.le, by omega, q3⟩
  · have e : i = items.length := by omega
    subst e
    refine .inl ⟨w1.2 rfl, ?_⟩
    rw [List.drop_length] at f1
    simp only [dcL] at f1
    exact k L (.dic (ws.map (·.1)) ds) Hb1 H1 (s0.trans s1) so1 hLH ⟨hb1, hpp, ⟨ws, hl1, rfl, r1⟩⟩ f1
theorem f_dc {vs : List Nat} (own : List (Str × Nat)) (hc : X.calm = true) (hN : X.N.Nodup) (hi : QI X tg iter pi) {N0 : List Str} {sc0 : Scope} (ok : blkC N0 sc0 scope own = true) (hv : own.map (·.2) = vs)
    (hg : ∀ (s : Shared) (H : Hp) (C : Addr) (cl : List (Str × Addr)) (fp : List Addr), QGv (X.blk s H scope (compEnvC scope cl C X.env) fp) tg vs g) (ht : ∀ (s : Shared) (H : Hp) (C : Addr) (cl : List (Str × Addr)) (fp : List Addr), QTs (X.blk s H scope (compEnvC scope cl C X.env) fp) ifs c)
    (hk : ∀ (s : Shared) (H : Hp) (C : Addr) (cl : List (Str × Addr)) (fp : List Addr), QE (X.blk s H scope (compEnvC scope cl C X.env) fp) kx pk)
    (he : ∀ (s : Shared) (H : Hp) (C : Addr) (cl : List (Str × Addr)) (fp : List Addr), QE (X.blk s H scope (compEnvC scope cl C X.env) fp) vx pv) (hs : ∀ x, foldedSetIterable iter X.env x = pure x := by intro _; rfl) (eN : X.N = N0 := by rfl) (eS : X.env.scope = sc0 := by rfl) :
    QF X (.DictComp kx vx [⟨tg, iter, ifs, 0⟩] scope pos) (dDc pi g vs c pk pv) := by
  subst hv eN eS
  obtain ⟨wi, i1, i2⟩ := hi
  exact ⟨_, pe_dc (g := TGvof X.K (own.map (·.2)) g) (tt := TTof X.K c) (tk := TEof X.K pk) (tv := TEof X.K pv) hc hN i1 (blkOk_by ok) (fun s H C cl fp => (hg s H C cl fp).pg) (fun s H C cl fp => (ht s H C cl fp).pts) (fun s H C cl fp => (hk s H C cl fp).pe) (fun s H C cl fp => (he s H C cl fp).pe) hs,
    fun pp HE Hb H σ E Q QD so er hp k => dc_read (fun R QD' h1 h2 => i2 pp HE Hb H σ E R QD' so er h1 h2) so er hp k⟩
/-- name = {..} on one line, the name a local -/
theorem ps_setDc {i : Nat} {y : Str} {py spos : Pos} {wi : TI} {g : TG} {tt : TT} {tk tv : TE} (hc : X.calm = true) (hN : X.N.Nodup) (hy : X.N[i]? = some y) (hyl : X.env.scope.names.lookup y = some .local)
    (hsw : swapsWith (.DictComp kx vx [⟨tg, iter, ifs, 0⟩] scope pos) (some (.Name y py)) spos.line X.env = pure true) (hi : PI X tg iter wi) (ok : BlkOk X.N X.env.scope scope own)
    (hg : ∀ (s : Shared) (H : Hp) (C : Addr) (cl : List (Str × Addr)) (fp : List Addr), PG (X.blk s H scope (compEnvC scope cl C X.env) fp) tg g) (ht : ∀ (s : Shared) (H : Hp) (C : Addr) (cl : List (Str × Addr)) (fp : List Addr), PTs (X.blk s H scope (compEnvC scope cl C X.env) fp) ifs tt)
    (hk : ∀ (s : Shared) (H : Hp) (C : Addr) (cl : List (Str × Addr)) (fp : List Addr), PE (X.blk s H scope (compEnvC scope cl C X.env) fp) kx tk)
    (he : ∀ (s : Shared) (H : Hp) (C : Addr) (cl : List (Str × Addr)) (fp : List Addr), PE (X.blk s H scope (compEnvC scope cl C X.env) fp) vx tv) (hs : ∀ x, foldedSetIterable iter X.env x = pure x := by intro _; rfl) :
    PS X (.Assign [.Name y py] (.DictComp kx vx [⟨tg, iter, ifs, 0⟩] scope pos) spos) (tAsg (tDc wi g tt tk tv (own.map (·.2))) (gName i)) := by
  refine ⟨fun pins s σ H D I h => ?_⟩
  rw [exec_Assign_Name_used _ _ _ _ hsw]
  refine wpAny_bind (wpAny_standAt (wpAny_bind ?_))
  show wpAny _ X.A (do let _ ← comprehension (.DictComp kx vx [⟨tg, iter, ifs, 0⟩] scope pos) scope X.env (firstIterPos [⟨tg, iter, ifs, 0⟩] pos) newDict false (eval iter X.env) (some (assign (.Name y py) X.env))) _ _ s
  have h : tDc wi g tt tk tv (own.map (·.2)) σ H (fun x H1 => gName i x σ H1 D.nx) := h
  refine wpAny_bind (thn (dc_core (Qf := fun _ s' => SP X pins D .next s') hc hN I hi ok hg ht hk he hs h fun L C s' m H' I' q hn f => ?_) fun _ s' hq => wpAny_pure (wpAny_pure hq))
  show wpAny _ _ (assign (.Name y py) X.env (.ref L)) _ _ _
  refine wpAny_assign_Name (store_ok2 (v := V.ref L) I' hN hy (.inl hyl) rfl (fun s2 I2 ⟨a, sb, ha⟩ => ?_) (.inr hyl))
  obtain ⟨f0, f1, f2, f3, f4, f5⟩ := f
  have haC : C ≠ a := by
    rcases ha with z | z
    · rw [z]; exact f1
    · exact fun e => f4 y a z e.symm
  refine ⟨m, hn.sameBut sb haC, fun h3 sb3 => ?_⟩
  exact ⟨_, H', I2.turned (t' := s2.toks) (fun b o hb e => (sb3.2 b hb).trans e) f0 f1 f3 f4 f5, q⟩
theorem sw_trueD {gs : List Comprehension} {py : Pos} {y : Str} {l : Nat} {env : Env} (hk : env.scope.kind = .function) (hy : env.scope.names.lookup y = some .local) (hl : (py.line == pos.line) = true)
    (ha : (scope.names.any fun (n, k) => n == y && (k == .local || k == .cell)) = false) : swapsWith (.DictComp kx vx gs scope pos) (some (.Name y py)) l env = pure true := by
  have ky : env.kindOf y = some .local := hy
  have hb : env.blockKind = .function := by unfold Env.blockKind; rw [hk]; rfl
  unfold swapsWith
  simp only [hb, ky, ha, Expr.pos, hl]
  rfl
theorem s_setDc {vs : List Nat} {i : Nat} {y : Str} {py spos : Pos} (own : List (Str × Nat)) (hc : X.calm = true) (hN : X.N.Nodup) (hi : QI X tg iter pi) {N0 : List Str} {sc0 : Scope} (ok : blkC N0 sc0 scope own = true) (hv : own.map (·.2) = vs)
    (hg : ∀ (s : Shared) (H : Hp) (C : Addr) (cl : List (Str × Addr)) (fp : List Addr), QGv (X.blk s H scope (compEnvC scope cl C X.env) fp) tg vs g) (ht : ∀ (s : Shared) (H : Hp) (C : Addr) (cl : List (Str × Addr)) (fp : List Addr), QTs (X.blk s H scope (compEnvC scope cl C X.env) fp) ifs c)
    (hk : ∀ (s : Shared) (H : Hp) (C : Addr) (cl : List (Str × Addr)) (fp : List Addr), QE (X.blk s H scope (compEnvC scope cl C X.env) fp) kx pk)
    (he : ∀ (s : Shared) (H : Hp) (C : Addr) (cl : List (Str × Addr)) (fp : List Addr), QE (X.blk s H scope (compEnvC scope cl C X.env) fp) vx pv)
    (hsw : swapsWith (.DictComp kx vx [⟨tg, iter, ifs, 0⟩] scope pos) (some (.Name y py)) spos.line X.env = pure true) (hy : X.N[i]? = some y := by rfl) (hyl : X.env.scope.names.lookup y = some .local := by rfl) (hs : ∀ x, foldedSetIterable iter X.env x = pure x := by intro _; rfl) (eN : X.N = N0 := by rfl) (eS : X.env.scope = sc0 := by rfl) :
    QS X (.Assign [.Name y py] (.DictComp kx vx [⟨tg, iter, ifs, 0⟩] scope pos) spos) (dAsg i (dDc pi g vs c pk pv)) := by
  subst hv eN eS
  obtain ⟨wi, i1, i2⟩ := hi
  refine ⟨_, ps_setDc (g := TGvof X.K (own.map (·.2)) g) (tt := TTof X.K c) (tk := TEof X.K pk) (tv := TEof X.K pv) hc hN hy hyl hsw i1 (blkOk_by ok) (fun s H C cl fp => (hg s H C cl fp).pg) (fun s H C cl fp => (ht s H C cl fp).pts) (fun s H C cl fp => (hk s H C cl fp).pe) (fun s H C cl fp => (he s H C cl fp).pe) hs, fun pp HbE HE Hb H σ E Dn DD s so er h o => ?_⟩
  refine dc_read (QD := fun d => DD.nx (E.set i (.sh d))) (fun R QD' h1 h2 => i2 pp HE Hb H σ E R QD' so er h1 h2) so er h fun a d Hb1 H1 s1 so1 hn o1 q1 => ?_
  obtain ⟨Hb2, s2, so2, r2⟩ := share_new s1 so1 hn o1
  exact o.nx Hb2 H1 _ _ (s.trans s2) so2 ((er.step s2).set_sh i r2) q1
theorem s_ownDc {vs : List Nat} {i : Nat} {y : Str} {py spos : Pos} (own : List (Str × Nat)) (hc : X.calm = true) (hN : X.N.Nodup) (hi : QI X tg iter pi) {N0 : List Str} {sc0 : Scope} (ok : blkC N0 sc0 scope own = true) (hv : own.map (·.2) = vs)
    (hg : ∀ (s : Shared) (H : Hp) (C : Addr) (cl : List (Str × Addr)) (fp : List Addr), QGv (X.blk s H scope (compEnvC scope cl C X.env) fp) tg vs g) (ht : ∀ (s : Shared) (H : Hp) (C : Addr) (cl : List (Str × Addr)) (fp : List Addr), QTs (X.blk s H scope (compEnvC scope cl C X.env) fp) ifs c)
    (hk : ∀ (s : Shared) (H : Hp) (C : Addr) (cl : List (Str × Addr)) (fp : List Addr), QE (X.blk s H scope (compEnvC scope cl C X.env) fp) kx pk)
    (he : ∀ (s : Shared) (H : Hp) (C : Addr) (cl : List (Str × Addr)) (fp : List Addr), QE (X.blk s H scope (compEnvC scope cl C X.env) fp) vx pv)
    (hsw : swapsWith (.DictComp kx vx [⟨tg, iter, ifs, 0⟩] scope pos) (some (.Name y py)) spos.line X.env = pure true) (hy : X.N[i]? = some y := by rfl) (hyl : X.env.scope.names.lookup y = some .local := by rfl) (hs : ∀ x, foldedSetIterable iter X.env x = pure x := by intro _; rfl) (eN : X.N = N0 := by rfl) (eS : X.env.scope = sc0 := by rfl) :
    QS X (.Assign [.Name y py] (.DictComp kx vx [⟨tg, iter, ifs, 0⟩] scope pos) spos) (dOwn i (dDc pi g vs c pk pv)) := by
  subst hv eN eS
  obtain ⟨wi, i1, i2⟩ := hi
  refine ⟨_, ps_setDc (g := TGvof X.K (own.map (·.2)) g) (tt := TTof X.K c) (tk := TEof X.K pk) (tv := TEof X.K pv) hc hN hy hyl hsw i1 (blkOk_by ok) (fun s H C cl fp => (hg s H C cl fp).pg) (fun s H C cl fp => (ht s H C cl fp).pts) (fun s H C cl fp => (hk s H C cl fp).pe) (fun s H C cl fp => (he s H C cl fp).pe) hs, fun pp HbE HE Hb H σ E Dn DD s so er h o => ?_⟩
  refine dc_read (QD := fun d => DD.nx (E.set i (.ow d))) (fun R QD' h1 h2 => i2 pp HE Hb H σ E R QD' so er h1 h2) so er h fun p d Hb1 H1 s1 so1 hn o1 q1 => ?_
  have hE : HE p = none := by
    cases z : HE p with
    | none => rfl
    | some u => exact absurd hn (s.st p (by rw [z]; exact fun y => nomatch y))
  refine o.nx Hb1 H1 _ _ (s.trans s1) so1 ((er.step s1).set_ow i hE o1 fun j d' e1 e2 => ?_) q1
  obtain ⟨p', h3, h4, h5⟩ := er.ow j d' e1
  rw [h3] at e2
  cases e2
  exact Top.isSm h5.top hn
end
end DL

namespace DL
open PySem PySem.Spec PyProof.Rows L2

/-! ### x = [{}]; for tg in items: x[0][k] = v -/
def deL (g : DG) (vs : List Nat) (pk pv : DX) : List D → List Sl → List Key → List D → (List Key → List D → Prop) → Prop
  | [], _, ks, ds, Q => Q ks ds
  | d :: r, E, ks, ds, Q => g d (wipeD E vs) fun E' => pv E' fun y => pk E' fun kd => match keyOf kd with
      | some k => deL g vs pk pv r E (ptK ks k) (ptD ks ds k y) Q
      | none => False
def dDeep (i : Nat) (pi : DI) (g : DG) (vs : List Nat) (pk pv : DX) (p : DS) : DS := fun DD E => i < E.length ∧ pi (E.set i .no) fun items => items.length ≤ sizeLine ∧ deL g vs pk pv items (E.set i .no) [] [] fun ks ds => p DD ((wipeD (E.set i .no) vs).set i (.sh (.lst [.dic ks ds])))
section
variable {pp : Addr} {K : FK} {HE Hb H : Hp} {σ σ' : L2.St} {E : List Sl}
theorem ER.put_no (r : ER pp K HE Hb H σ E) (i : Nat) (w : Option V) : ER pp K HE Hb H (σ.set i w) (E.set i .no) := by
  refine ⟨by rw [List.length_set, List.length_set, r.len], fun j d' e => ?_, fun j d' e => ?_, fun j k p d1 d2 hne e1 e2 h1 => ?_, r.xs_set i fun _ _ _ z => nomatch z⟩
  · rcases get_set e with ⟨rfl, hl, e'⟩ | ⟨hj, e'⟩
    · cases e'
    · rw [List.getElem?_set_ne (Ne.symm hj)]
      exact r.sh j d' e'
  · rcases get_set e with ⟨rfl, hl, e'⟩ | ⟨hj, e'⟩
    · cases e'
    · rw [List.getElem?_set_ne (Ne.symm hj)]
      exact r.ow j d' e'
  · rcases get_set e1 with ⟨_, _, z⟩ | ⟨hj, e1⟩
    · cases z
    rcases get_set e2 with ⟨_, _, z⟩ | ⟨hk, e2⟩
    · cases z
    rw [List.getElem?_set_ne (Ne.symm hj)] at h1
    rw [List.getElem?_set_ne (Ne.symm hk)]
    exact r.ds j k p d1 d2 hne e1 e2 h1
theorem wipeD_get (j : Nat) : ∀ vs : List Nat, (wipeD E vs)[j]? = if j ∈ vs then (if j < E.length then some .no else none) else E[j]?
  | [] => by simp [wipeD]
  | v :: vs => by
    have hl : (wipeD E vs).length = E.length := by
      clear j
      induction vs with
      | nil => rfl
      | cons v vs ih => unfold wipeD; rw [List.length_set, ih]
    unfold wipeD
    by_cases hv : j = v
    · subst hv
      by_cases hlt : j < E.length
      · rw [List.getElem?_set_self (by rw [hl]; exact hlt)]; simp [hlt]
      · rw [List.getElem?_eq_none (by rw [List.length_set, hl]; omega)]; simp [hlt]
    · rw [List.getElem?_set_ne (Ne.symm hv), wipeD_get j vs]
      simp [hv]
theorem ER.off {vs : List Nat} (r : ER pp K HE Hb H σ E) (o : Off vs σ σ') : ER pp K HE Hb H σ' (wipeD E vs) := by
  have hl : (wipeD E vs).length = E.length := by
    clear o
    induction vs with
    | nil => rfl
    | cons v vs ih => unfold wipeD; rw [List.length_set, ih]
  have key : ∀ {j : Nat} {s : Sl}, s ≠ .no → (wipeD E vs)[j]? = some s → j ∉ vs ∧ E[j]? = some s := fun {j s} hs e => by
    rw [wipeD_get] at e
    by_cases hj : j ∈ vs
    · rw [if_pos hj] at e
      split at e
      · cases e; exact absurd rfl hs
      · cases e
    · rw [if_neg hj] at e
      exact ⟨hj, e⟩
  refine ⟨by rw [o.1, r.len, hl], fun j d e => ?_, fun j d e => ?_, fun j k p d1 d2 hne e1 e2 h1 => ?_, fun j b dd x e => ?_⟩
  · obtain ⟨hj, e⟩ := key (s := .sh d) (by intro z; cases z) e
    rw [o.2 j hj]
    exact r.sh j d e
  · obtain ⟨hj, e⟩ := key (s := .ow d) (by intro z; cases z) e
    rw [o.2 j hj]
    exact r.ow j d e
  · obtain ⟨hj, e1⟩ := key (s := .ow d1) (by intro z; cases z) e1
    obtain ⟨hk, e2⟩ := key (s := .ow d2) (by intro z; cases z) e2
    rw [o.2 j hj] at h1
    rw [o.2 k hk]
    exact r.ds j k p d1 d2 hne e1 e2 h1
  · obtain ⟨hj, e⟩ := key (s := .xs b dd x) (by intro z; cases z) e
    rw [o.2 j hj]
    exact r.xs j b dd x e
end
section
variable {X : Cx} {tg iter kx vx : Expr} {pi : DI} {g : DG} {vs : List Nat} {pk pv : DX} {p : DS} {sts : List Stmt} {p2 p3 p4 p5 p6 p7 p8 p9 p10 : Pos} {k0 : Nat}
theorem ss_deep {i : Nat} {x : Str} {p1 : Pos} (hp : PassesOwn (model X.prog X.w) X.A X.env X.xe) (hc : X.calm = true) (hN : X.N.Nodup) (hu : X.A.units + 1 < cLine) (hi : QI X tg iter pi) (hg : QGv X tg vs g) (hk : QE X kx pk) (hv : QE X vx pv) (hr : QSs X sts p) (hiv : i ∉ vs := by decide)
    (hx : X.N[i]? = some x := by rfl) (hl : Loc X.env.scope x := by first | exact Or.inl rfl | exact Or.inr rfl) (hvis : Vis X.env.scope x := by first | exact Or.inl rfl | exact Or.inr (Or.inl rfl) | exact Or.inr (Or.inr rfl)) (hd : (x == ("__debug__" : Str)) = false := by decide) (hcd : (x == ("__classdict__" : Str)) = false := by decide)
    (hf : X.fn x = true ∨ X.env.scope.names.lookup x = some .local := by first | exact .inl rfl | exact .inr rfl | assumption)
    (hs1 : swapsWith (.List [.Dict [] [] p2] p3) (some (.Name x p1)) p4.line X.env = pure false := by rfl)
    (hst : starEach [.Dict [] [] p2] X.env = (false, eval (.Dict [] [] p2) X.env) :: starEach [] X.env := by rfl)
    (hs2 : swapsWith vx (some (.Subscript (.Subscript (.Name x p5) (.Constant (.int 0) k0 p6) p7) kx p8)) p9.line X.env = pure false := by rfl)
    (hs3 : ∀ x, foldedSetIterable iter X.env x = pure x := by intro _; rfl) :
    QSs X (.Assign [.Name x p1] (.List [.Dict [] [] p2] p3) p4 :: .For tg iter [.Assign [.Subscript (.Subscript (.Name x p5) (.Constant (.int 0) k0 p6) p7) kx p8] vx p9] [] p10 :: sts) (dDeep i pi g vs pk pv p) := by
  obtain ⟨wi, i1, i2⟩ := hi
  obtain ⟨tg', g1, g2⟩ := hg
  obtain ⟨t, t1, t2⟩ := hk
  obtain ⟨u, u1, u2⟩ := hv
  obtain ⟨tr, r1, r2⟩ := hr
  refine ⟨_, pss_cons (ps_set hN hx hl (pe_lst (pa_cons pe_dnewK pa_nil hst)) hs1 hf) (pss_cons (ps_for hp hc i1 g1 (pss_one (ps_dput hu (pe_ix ix_list (L2.pv i hx hvis hd hcd) pe_int (fun _ _ => rfl)) t1 u1 hs2)) hs3) r1), fun pp HbE HE Hb H σ E Dn DD s so er h o => ?_⟩
  intro a ha
  refine ⟨by simp [sizeLine], fun q hq => ?_⟩
  -- the two new objects
  obtain ⟨sa, soa⟩ := lay_own (u := .dK []) so ha
  obtain ⟨sq, soq⟩ := lay_own (u := .lst [.ref a]) soa hq
  have hqa : q ≠ a := fun z => by subst z; rw [upd_same] at hq; cases hq
  have hqH : H q = none := by rw [upd_ne hqa] at hq; exact hq
  have hE : ∀ {b : Addr}, H b = none → HE b = none := fun {b} hb => by
    cases z : HE b with
    | none => rfl
    | some u => exact absurd hb (s.st b (by rw [z]; exact fun y => nomatch y))
  have sA := sa.trans sq
  have er1 := (er.step sA).put_no i (some (.ref q))
  have npa : a ≠ pp := so.ne ha
  have npq : q ≠ pp := soa.ne hq
  have hil : i < σ.length := by rw [er.len]; exact h.1
  refine i2 pp HE Hb _ (σ.set i (some (.ref q))) (E.set i .no) _ _ soq er1 h.2 fun J items Hb0 H0 s0 so0 wk q0 => ?_
  have sB := sA.trans s0
  have aH0 : H0 a = some (.dK []) := s0.ex a _ npa (by rw [upd_ne (Ne.symm hqa), upd_same])
  have qH0 : H0 q = some (.lst [.ref a]) := s0.ex q _ npq upd_same
  have aB0 : Hb0 a = none := s0.nw a (so.nb ha) (by rw [upd_ne (Ne.symm hqa), upd_same]; exact fun z => nomatch z)
  have qB0 : Hb0 q = none := s0.nw q (so.nb hqH) (by rw [upd_same]; exact fun z => nomatch z)
  let Inv : Nat → L2.St → Hp → Prop := fun k σ1 H1 => k ≤ items.length ∧ ∃ (Hb1 : Hp) (ws : List (Key × V)) (ds : List D), Same Hb0 Hb1 ∧ Step pp Hb H Hb1 H1 ∧ SOk pp X.K Hb1 H1 ∧ Off vs (σ.set i (some (.ref q))) σ1 ∧ H1 q = some (.lst [.ref a]) ∧ H1 a = some (.dK ws) ∧ Hb1 q = none ∧ Hb1 a = none ∧ RepL pp X.K Hb1 ds (ws.map (·.2)) ∧ ws.length ≤ k ∧
    deL g vs pk pv (items.drop k) (E.set i .no) (ws.map (·.1)) ds fun ks ds => p DD ((wipeD (E.set i .no) vs).set i (.sh (.lst [.dic ks ds])))
  refine ⟨fun k m σ H => m = items.length - k ∧ Inv k σ H, ⟨items.length, rfl, Nat.zero_le _, Hb0, [], [], Same.refl _, sB, so0, .refl, qH0, aH0, qB0, aB0, .nil, Nat.le_refl _, by simpa using q0.2⟩, ?_⟩
  rintro k m σ1 H1 ⟨rfl, hk, Hb1, ws, ds, sm1, s1, so1, of1, hq1, ha1, qb1, ab1, rl1, n1, f1⟩
  have w1 := wk Hb1 H1 sm1 so1 k
  by_cases hlt : k < items.length
  · have ed : items[k]? = some items[k] := by simp [hlt]
    obtain ⟨go, yl⟩ := w1.1 _ ed
    rw [List.drop_eq_getElem_cons hlt] at f1
    refine .inr ⟨go, Inv (k + 1), fun σ' H' w => ⟨items.length - (k + 1), by omega, rfl, w⟩, fun x H2 y => ?_⟩
    obtain ⟨Hb2, s2, so2, rx⟩ := yl x H2 y
    have er2 : ER pp X.K HE Hb2 H2 σ1 (wipeD (E.set i .no) vs) := ((er.step (s1.trans s2)).put_no i (some (.ref q))).off of1
    refine g2 pp HE Hb2 H2 σ1 _ _ _ _ _ so2 er2 rx f1 fun σ2 E2 er2 of2 q2 => ?_
    refine u2 pp HE Hb2 H2 σ2 E2 _ _ so2 er2 q2 fun v dv Hb3 H3 s3 so3 rv q3 => ?_
    have of3 := of1.trans of2
    have hs2 : σ2[i]? = some (some (.ref q)) := by rw [of3.2 i hiv, List.getElem?_set_self hil]
    have s13 := s2.trans s3
    refine ⟨.ref q, hs2, q, [.ref a], 0, .ref a, rfl, rfl, .of (s13.ex q _ npq hq1), rfl, ?_⟩
    refine t2 pp HE Hb3 H3 σ2 E2 _ _ so3 (er2.step s3) q3 fun kv kd Hb4 H4 s4 so4 rk q4 => ?_
    split at q4
    · rename_i kk ek
      have s14 := s13.trans s4
      have s04 := s1.trans s14
      have ha4 : H4 a = some (.dK ws) := s14.ex a _ npa ha1
      have hq4 : H4 q = some (.lst [.ref a]) := s14.ex q _ npq hq1
      have ab4 : Hb4 a = none := s14.nw a ab1 (by rw [ha1]; exact fun z => nomatch z)
      have qb4 : Hb4 q = none := s14.nw q qb1 (by rw [hq1]; exact fun z => nomatch z)
      have lw : (putK ws kk v).length ≤ ws.length + 1 := by
        have h1 := congrArg List.length (pt_keys kk v ws)
        rw [List.length_map] at h1
        have h2 := ptK_len (ws.map (·.1)) kk
        rw [List.length_map] at h2
        omega
      refine ⟨a, _, rfl, .inl ⟨ws, kk, ha4, keyOf_rep so4 ek (.inl rk), by have := q0.1; omega, rfl⟩, hlt, Hb4, putK ws kk v, ptD (ws.map (·.1)) ds kk dv, sm1.trans s14.sb, ⟨s04.sb, fun b o hb hh => ?_, fun b hh => ?_, s04.nw⟩, ⟨fun b o hh => ?_, so4.np, ?_, fun b xs hh => ?_⟩, of3, by rw [upd_ne hqa]; exact hq4, upd_same, qb4, ab4, pt_rep (rv.le s4.le) (rl1.le s14.le), by omega, by rw [pt_keys]; exact q4⟩
      · rw [upd_ne (ne_of_none hh ha)]; exact s04.ex b o hb hh
      · by_cases z : b = a
        · subst z; rw [upd_same]; exact fun y => nomatch y
        · rw [upd_ne z]; exact s04.st b hh
      · have z : b ≠ a := fun z => by subst z; rw [ab4] at hh; cases hh
        rw [upd_ne z]; exact so4.le b o hh
      · obtain ⟨a', ns, i, n, k, h1, h2⟩ := so4.pool
        exact ⟨a', ns, i, n, k, by rw [upd_ne (Ne.symm npa)]; exact h1, h2⟩
      · by_cases z : b = a
        · subst z; rw [upd_same] at hh; cases hh
        · rw [upd_ne z] at hh; exact so4.tp b xs hh
    · exact q4.elim
  · have e : k = items.length := by omega
    subst e
    refine .inl ⟨w1.2 rfl, ?_⟩
    rw [List.drop_length] at f1
    simp only [deL] at f1
    obtain ⟨Hb2, m1, m2, m3, m4⟩ := share (d := .dic (ws.map (·.1)) ds) so1 ⟨ab1, npa, ws, ha1, rfl, rl1⟩
    have qb2 : Hb2 q = none := by rw [m2 q hqa]; exact qb1
    have sF : Step pp Hb H Hb2 H1 := ⟨s1.sb.trans m1, s1.ex, s1.st, fun b hb hh => by
      rw [m2 b (fun z => by subst z; exact hh ha)]
      exact s1.nw b hb hh⟩
    obtain ⟨Hb3, n1', n2', n3', n4'⟩ := share (a := q) (d := .lst [.dic (ws.map (·.1)) ds]) m3 ⟨qb2, npq, [.ref a], hq1, .cons m4 .nil⟩
    have sG : Step pp Hb H Hb3 H1 := ⟨sF.sb.trans n1', sF.ex, sF.st, fun b hb hh => by
      rw [n2' b (fun z => by subst z; exact hh hqH)]
      exact sF.nw b hb hh⟩
    have er2 : ER pp X.K HE Hb3 H1 σ1 (wipeD (E.set i .no) vs) := ((er.step sG).put_no i (some (.ref q))).off of1
    have hs1 : σ1[i]? = some (some (.ref q)) := by rw [of1.2 i hiv, List.getElem?_set_self hil]
    have er3 := er2.set_sh i n4'
    have es : σ1.set i (some (.ref q)) = σ1 := by
      refine List.ext_getElem? fun j => ?_
      by_cases hj : j = i
      · subst hj
        rw [hs1, List.getElem?_set_self (by rw [of1.1, List.length_set]; exact hil)]
      · rw [List.getElem?_set_ne (Ne.symm hj)]
    rw [es] at er3
    exact r2 pp HbE HE Hb3 H1 σ1 _ _ _ (s.trans sG) n3' er3 f1 o
end
section
variable {X : Cx} {tg kx vx : Expr} {ifs : List Expr} {scope : Scope} {pos : Pos} {g : DG} {c : DT} {pk pv : DX}
theorem f_dcK {vs : List Nat} (i : Nat) {x : Str} {xp : Pos} (own : List (Str × Nat)) (hc : X.calm = true) (hN : X.N.Nodup) {N0 : List Str} {sc0 : Scope} (ok : blkC N0 sc0 scope own = true) (hv : own.map (·.2) = vs)
    (hg : ∀ (s : Shared) (H : Hp) (C : Addr) (cl : List (Str × Addr)) (fp : List Addr), QGv (X.blk s H scope (compEnvC scope cl C X.env) fp) tg vs g) (ht : ∀ (s : Shared) (H : Hp) (C : Addr) (cl : List (Str × Addr)) (fp : List Addr), QTs (X.blk s H scope (compEnvC scope cl C X.env) fp) ifs c)
    (hk : ∀ (s : Shared) (H : Hp) (C : Addr) (cl : List (Str × Addr)) (fp : List Addr), QE (X.blk s H scope (compEnvC scope cl C X.env) fp) kx pk)
    (he : ∀ (s : Shared) (H : Hp) (C : Addr) (cl : List (Str × Addr)) (fp : List Addr), QE (X.blk s H scope (compEnvC scope cl C X.env) fp) vx pv)
    (hNi : X.N[i]? = some x := by rfl) (hvis : Vis X.env.scope x := by first | exact Or.inl rfl | exact Or.inr (Or.inl rfl) | exact Or.inr (Or.inr rfl)) (hd : (x == ("__debug__" : Str)) = false := by decide)
    (hcd : (x == ("__classdict__" : Str)) = false := by decide) (hs : ∀ y, foldedSetIterable (.Name x xp) X.env y = pure y := by intro _; rfl) (eN : X.N = N0 := by rfl) (eS : X.env.scope = sc0 := by rfl) :
    QF X (.DictComp kx vx [⟨tg, .Name x xp, ifs, 0⟩] scope pos) (dDc (dKeys i) g vs c pk pv) := by
  subst hv eN eS
  have base := pe_dc (pos := pos) (g := TGvof X.K (own.map (·.2)) g) (tt := TTof X.K c) (tk := TEof X.K pk) (tv := TEof X.K pv) hc hN (pi_keys (L2.pv i hNi hvis hd hcd)) (blkOk_by ok) (fun s H C cl fp => (hg s H C cl fp).pg) (fun s H C cl fp => (ht s H C cl fp).pts) (fun s H C cl fp => (hk s H C cl fp).pe) (fun s H C cl fp => (he s H C cl fp).pe) hs
  refine ⟨_, PE.or (pe_lock base) base, fun pp HE Hb H σ E Q QD so er hp k => ?_⟩
  have ei : ∃ ks ds, E[i]? = some (.sh (.dic ks ds)) := by
    have h' := hp
    unfold dDc dKeys at h'
    split at h'
    · exact ⟨_, _, by assumption⟩
    · exact h'.elim
  obtain ⟨ks, ds, ei⟩ := ei
  obtain ⟨v, h1, h2⟩ := er.sh i _ ei
  unfold Rep at h2
  obtain ⟨a, ws, rfl, h3, h4, h5⟩ := h2
  rcases h3 with h3 | ⟨oo, h3⟩
  · have cl : CanLock pp a (.dK ws) Hb H := ⟨h3, so.le _ _ h3, (fun z => by subst z; rw [so.np] at h3; cases h3), trivial, (fun xs z => nomatch z), (fun xs z => nomatch z), (fun xs z => nomatch z)⟩
    refine .inl ⟨a, .dK ws, cl.hh, trivial, fun od => ?_⟩
    obtain ⟨s1, so1⟩ := lock_so (od := od) cl so
    have er1 := lock_er (od := od) cl er
    refine dc_read (pi := dKeys i) (g := g) (c := c) (pk := pk) (pv := pv) (QD := QD) (fun R QD q k => keys_run so1 ei h1 upd_same h4 R QD q k) so1 er1 hp fun L d Hb2 H2 s2 so2 hn o2 q2 => ?_
    have hb2 : Hb2 a = some (.frz od (.dK ws)) := s2.sb a _ upd_same
    have hne : L ≠ a := fun z => by subst z; rw [upd_same] at hn; cases hn
    rw [← lkF_upd (u := .dK ws) cl.hb, ← lkF_upd (u := .dK ws) cl.hh] at s2
    obtain ⟨u1, u2⟩ := unlock_ok (u := .dK ws) cl .refl s2 hb2 so2
    exact ⟨so2.le _ _ hb2, k L d _ _ u1 u2 (by rw [upd_ne hne] at hn; exact hn) ⟨by rw [upd_ne hne]; exact o2.nb, o2.ne, Top.step (le_unlock hb2) (fun o h => by rw [upd_ne hne]; exact h) o2.top⟩ q2⟩
  · exact .inr (dc_read (fun R QD q k => keys_run so ei h1 h3 h4 R QD q k) so er hp k)
end
end DL

/-! DL16: {**d, k: v}; displays of dicts; for .. in d.values() -/
namespace PySem
open PySem PySem.Spec PyProof.Rows
section
variable {prog : Program} {w : World} {K : Type} [DecidableEq K] {knd : KeyKind prog w K} {A : Around} {E : Value → Shared → Prop} {s : Shared}
theorem wpAny_dictPut_pairs {d : Addr} {kvs : List (K × Value)} {k : K} {key v : Value} {Q : Unit → Shared → Prop} (hkey : knd.is k key = true) (hm : s.heap.DictOf knd d kvs)
    (hQ : ∀ h', h'.DictOf knd d (stored kvs k v) → Heap.SameBut d s.heap h' → Q () { s with heap := h' })
    (hsz : kvs.length ≤ sizeLine := by size_fits) :
    wpAny (model prog w) A (dictPut d (knd.hash k) key v) Q E s := by
  obtain ⟨o, es, ep, ho, hc, hd, hk, hp, hn⟩ := hm
  have hes : es.size ≤ sizeLine := by have e1 := hp.length; have e2 : es.toList.length = es.size := by simp
                                      omega
  unfold dictPut
  refine wpAny_bind (wpAny_dictFind_of hkey ho hd hk ?_)
  have hidx : (es.findIdx? fun e => knd.is k e.key) = kvs.findIdx? fun kv => decide (kv.1 = k) := by
    rw [← hp.findIdx k]; obtain ⟨l⟩ := es; simp
  cases hi : es.findIdx? fun e => knd.is k e.key with
  | some i =>
    refine wpAny_updateDict ho hd (hQ _ ⟨_, _, ep, Heap.get?_update_self _ ho (Obj.isFreed_of_dict (Obj.data_mapDict hd _)),
      hc.mapDict _, Obj.data_mapDict hd _, hk.modify _ _, ?_, ?_⟩ (Heap.SameBut.update ..))
    · rw [stored, if_pos (any_of_findIdx_some (hidx ▸ hi))]
      have hl : (es.toList.findIdx? fun e => knd.is k e.key) = some i := by rw [← hi]; obtain ⟨l⟩ := es; simp
      have := hp.modify hn hl v
      obtain ⟨l⟩ := es
      simpa using this
    · rw [stored, if_pos (any_of_findIdx_some (hidx ▸ hi)), keys_map_store]; exact hn
  | none =>
    have hnot : k ∉ kvs.map (·.1) := not_mem_of_findIdx_none (hidx ▸ hi)
    have hany : ¬ (kvs.any fun kv => decide (kv.1 = k)) = true := by
      rw [List.any_eq_true]; rintro ⟨kv, hkv, he⟩
      exact hnot (List.mem_map.mpr ⟨kv, hkv, of_decide_eq_true he⟩)
    refine wpAny_updateDictKeys (hz := hes) ho hd (hQ _ ⟨_, _, ep + 1, Heap.get?_update_self _ ho (Obj.isFreed_of_dict (Obj.data_mapDictKeys hd _)),
      hc.mapDictKeys _, Obj.data_mapDictKeys hd _, hk.push hkey _, ?_, ?_⟩ (Heap.SameBut.update ..))
    · rw [stored, if_neg hany]
      have := hp.append hkey (knd.hash k) v
      obtain ⟨l⟩ := es
      simpa using this
    · rw [stored, if_neg hany, List.map_append, List.nodup_append]
      refine ⟨hn, by simp, ?_⟩
      intro a ha b hb
      simp only [List.map_cons, List.map_nil, List.mem_singleton] at hb
      subst hb
      exact fun e => hnot (e ▸ ha)
theorem wpAny_mergeMapping {d o : Addr} {kvs more : List (K × Value)} {Q : Unit → Shared → Prop} (hdo : d ≠ o) (hoS : (o == sysModules) = false) (hnr : ∀ k key, knd.is k key = true → ∀ a, key ≠ .ref a)
    (hd : s.heap.DictOf knd d kvs) (ho : s.heap.DictOf knd o more)
    (hQ : ∀ h', h'.DictOf knd d (merged kvs more) → h'.DictOf knd o more → Heap.SameBut d s.heap h' → Q () { s with heap := h' })
    (hsz : kvs.length + more.length ≤ sizeLine := by size_fits) :
    wpAny (model prog w) A (mergeMapping d (.ref o) false) Q E s := by
  obtain ⟨od, esd, epd, hod, hcd, hdd, hkd, hpd, hnd⟩ := id hd
  obtain ⟨oo, eso, epo, hoo, hco, hdo', hko, hpo, hno⟩ := id ho
  have hlen : more.length = eso.size := by rw [← hpo.length]; simp
  have loop : wpAny (model prog w) A (do
      let l ← dictEntries o
      let epoch ← dictEpoch o
      forIn (List.range l.size) PUnit.unit fun i (_ : PUnit) => (do
          let l' ← dictEntries o
          match l'[i]? with
            | some e => do
              holding [e.key, e.val] (dictPut d e.hash e.key e.val)
              let ep' ← dictEpoch o
              if (ep' != epoch) = true then do
                  (unsupported "dict.changed-during-merge" : Sem PUnit)
                  pure (ForInStep.yield PUnit.unit)
                else pure (ForInStep.yield PUnit.unit)
            | _ => do
              (unsupported "dict.changed-during-merge" : Sem PUnit)
              pure (ForInStep.yield PUnit.unit) : Sem (ForInStep PUnit))
      pure ()) Q E s := by
    refine wpAny_bind (wpAny_dictEntries hoo hdo' ?_)
    refine wpAny_bind (wpAny_dictEpoch hoo hdo' ?_)
    refine wpAny_bind ?_
    rw [List.range_eq_range']
    refine wpAny_forIn_list _
      (fun rest _ s' => ∃ h' i, s' = { s with heap := h' } ∧ rest = List.range' i (eso.size - i) ∧ i ≤ eso.size ∧ h'.DictOf knd d (merged kvs (more.take i)) ∧ h'.get? o = some oo ∧ Heap.SameBut d s.heap h')
      _ ?_ ?_ _ _ ⟨s.heap, 0, rfl, by simp, Nat.zero_le _, by simpa [merged] using hd, hoo, Heap.SameBut.refl _ _⟩
    · rintro x rest b s' ⟨h', i, rfl, hr, hi, hd', hoo', hs'⟩
      have hlt : i < eso.size := by
        rcases Nat.lt_or_ge i eso.size with h | h
        · exact h
        · rw [Nat.sub_eq_zero_of_le h] at hr; simp at hr
      obtain ⟨rfl, hrest⟩ : x = i ∧ rest = List.range' (i + 1) (eso.size - (i + 1)) := by
        have e : eso.size - i = (eso.size - (i + 1)) + 1 := by omega
        rw [e, List.range'_succ] at hr
        injection hr with h1 h2
        exact ⟨h1, h2⟩
      refine wpAny_bind (wpAny_dictEntries hoo' hdo' ?_)
      rw [Array.getElem?_eq_getElem hlt]
      obtain ⟨kv, hkv⟩ : ∃ kv, more[x]? = some kv := ⟨more[x]'(by rw [hlen]; exact hlt), List.getElem?_eq_getElem _⟩
      obtain ⟨k, v⟩ := kv
      obtain ⟨hkey, hval⟩ := hpo.get? (e := eso[x]) (by simp [hlt]) hkv
      obtain ⟨k', hkey', hhash⟩ := hko eso[x] (Array.getElem_mem hlt)
      obtain rfl : k' = k := knd.inj _ _ _ hkey' hkey
      show wpAny _ _ (holding [eso[x].key, eso[x].val] (dictPut d eso[x].hash eso[x].key eso[x].val) >>= _) _ _ _
      rw [hhash, hval]
      have hmx : (merged kvs (more.take x)).length ≤ sizeLine := by
        have e1 := merged_length_le kvs (more.take x)
        have e2 : (more.take x).length ≤ more.length := by rw [List.length_take]; omega
        omega
      refine wpAny_bind (wpAny_holding (wpAny_dictPut_pairs (hsz := hmx) hkey hd' fun h'' hd'' hs'' => ?_))
      have hoo'' : h''.get? o = some oo := (hs''.2 o (Ne.symm hdo)).trans hoo'
      refine wpAny_bind (wpAny_dictEpoch hoo'' hdo' ?_)
      rw [if_neg (by simp)]
      exact wpAny_pure ⟨h'', x + 1, rfl, hrest, hlt, by rw [merged_take_succ kvs more x (k', v) hkv]; exact hd'', hoo'', hs'.trans hs''⟩
    · rintro b s' ⟨h', i, rfl, hr, hi, hd', hoo', hs'⟩
      have hin : i = eso.size := by
        rcases Nat.lt_or_ge i eso.size with h | h
        · have e : eso.size - i = (eso.size - (i + 1)) + 1 := by omega
          rw [e, List.range'_succ] at hr; exact nomatch hr
        · exact Nat.le_antisymm hi h
      refine wpAny_pure (hQ h' ?_ ⟨oo, eso, epo, hoo', hco, hdo', hko, hpo, hno⟩ hs')
      rw [hin, ← hlen, List.take_length] at hd'; exact hd'
  unfold mergeMapping
  refine wpAny_bind (wpAny_isInstance ho.typeIs isSubtype_dict_dict ?_)
  simp only [if_true]
  refine wpAny_bind (wpAny_specialOf ho.typeIs F.slot_dict_iter.lookup ?_)
  refine wpAny_bind (wpAny_pure ?_)
  simp only [beq_self_eq_true]
  rw [hoS]
  simp only [Bool.false_eq_true, if_false]
  refine wpAny_bind (wpAny_dictEntries hod hdd ?_)
  split
  · refine wpAny_bind (wpAny_dictEntries hoo hdo' ?_)
    refine wpAny_bind ?_
    rw [← Array.forIn_toList]
    refine wpAny_forIn_list _ (fun rest _ s' => s' = s ∧ ∀ e ∈ rest, ∃ k, knd.is k e.key = true) _ ?_ ?_ _ _ ⟨rfl, fun e he => ?_⟩
    · rintro e rest b s' ⟨rfl, h⟩
      obtain ⟨k, hk⟩ := h e (by simp)
      have hn := hnr k e.key hk
      split
      · rename_i a ea
        exact absurd ea (hn a)
      · exact wpAny_pure ⟨rfl, fun x hx => h x (by simp [hx])⟩
    · rintro b s' ⟨rfl, _⟩
      exact loop
    · obtain ⟨k, hk, _⟩ := hko e (by simpa using he)
      exact ⟨k, hk⟩
  · exact loop
end
end PySem
namespace DL
open PySem PySem.Spec PyProof.Rows L2
def tSpread (te tk tv : TE) : TE := fun σ H Q => ∀ p, H p = none → te σ (upd H p (.dK [])) fun x H1 => ∃ a kvs, x = .ref a ∧ Rd H1 a (.dK kvs) ∧ H1 p = some (.dK []) ∧ p ≠ a ∧ kvs.length + 1 ≤ sizeLine ∧ ∀ q, upd H1 p (.dK kvs) q = none →
  tk σ (upd (upd H1 p (.dK kvs)) q (.dK [])) fun y H2 => tv σ H2 fun z H3 => ∃ key, y = kV key ∧ H3 q = some (.dK []) ∧ H3 p = some (.dK kvs) ∧ Q (.ref p) (upd (upd H3 q (.dK [(key, z)])) p (.dK (putK kvs key z)))
theorem keyIs_ref {k : Key} {key : Value} (h : keyIs k key = true) : ∀ a, key ≠ .ref a := by
  intro a e
  subst e
  rcases keyIs_shape h with ⟨i, t, _, e⟩ | ⟨x, t, _, e⟩ <;> cases e
theorem pe_spread {X : Cx} {e k v : Expr} {pos : Pos} {te tk tv : TE} (he : PE X e te) (hk : PE X k tk) (hv : PE X v tv) : PE X (.Dict [none, some k] [e, v] pos) (tSpread te tk tv) := by
  refine ⟨fun pins s σ H Q I q => ?_⟩
  rw [arm_eval_Dict]
  refine wpAny_bind (wpAny_standAt ?_)
  show wpAny _ _ (dictDisplay [(none, do let x ← eval e X.env; standAt pos; pure x), (some (eval k X.env), do let x ← eval v X.env; standAt pos; pure x)]) _ _ _
  unfold dictDisplay
  simp only [List.forIn_cons, List.forIn_nil, List.isEmpty_nil, if_true, pure_bind, bind_assoc]
  have hn := I.hok.fresh (Nat.le_refl s.heap.objs.size)
  have I1 := I.laid (a := s.heap.objs.size) (o := .dK []) (h' := s.heap.push { cls := .type "dict", data := .dict #[] }) (t' := s.toks) (fun _ _ q => Heap.get?_push_of_some _ q) (Nat.le_refl _) (dk_empty s.heap I.big)
  refine wpAny_bind (wpAny_alloc ?_)
  refine wpAny_bind (wpAny_holding (wpAny_bind (thn (he.run pins _ σ _ _ I1 (q _ hn)) fun u s2 ⟨x, H2, I2, rx, a, kvs, ex, ha, hp, hap, hz, q2⟩ => wpAny_bind (wpAny_standAt (wpAny_pure ?_)))))
  subst ex
  obtain rfl : u = Value.ref a := rx
  obtain ⟨_, hs0, vs, kv, hdo⟩ := dk_rd I2.hok ha
  obtain ⟨_, hp0, vs0, kv0, hdp⟩ := dk_of I2.hok hp
  cases kv0
  generalize s.heap.objs.size = p at *
  have hnd : (vs.map (·.1)).Nodup := let ⟨_, _, _, _, _, _, _, _, hn⟩ := hdo; hn
  have lk : kvs.length = vs.length := Paired.length kv
  have hz1 : vs.length ≤ sizeLine := by omega
  refine wpAny_bind (wpAny_onRaise (wpAny_tryCatch (wpAny_onRaise (wpAny_holding (wpAny_mergeMapping (knd := mixKind X.prog X.w) hap hs0 (fun k key h => keyIs_ref h) hdp hdo (fun h' hd' _ hs' => ?_) (by rw [List.length_nil]; omega))))))
  rw [merged_nil_of_nodup vs hnd] at hd'
  have he' : ∃ q, h'.get? p = some q := let ⟨q, _, _, hq, _⟩ := hd'; ⟨q, hq⟩
  have I3 := d_write (t' := s2.toks) I2 (by rw [hp]; exact True.intro) hs' he' (dk_new (by omega) hp0 kv hd')
  refine wpAny_bind (wpAny_pure ?_)
  refine wpAny_bind (wpAny_pure ?_)
  simp only [List.nil_append, List.isEmpty_cons, Bool.false_eq_true, if_false]
  -- the second dict
  have hq0 := I3.hok.fresh (Nat.le_refl h'.objs.size)
  refine wpAny_bind (wpAny_bind (wpAny_holding (wpAny_subDict (knd := mixKind X.prog X.w) (by simp) ?_)))
  have I4 := I3.laid (a := h'.objs.size) (o := .dK []) (h' := h'.push { cls := .type "dict", data := .dict #[] }) (t' := s2.toks) (fun _ _ q => Heap.get?_push_of_some _ q) (Nat.le_refl _) (dk_empty h' I3.big)
  refine evalPairs_cons (thn (hk.run pins _ σ _ _ I4 (q2 _ hq0)) fun w1 s5 ⟨y, H5, I5, ry, q5⟩ => wpAny_bind (thn (hv.run pins _ σ _ _ I5 q5) fun w2 s6 ⟨z, H6, I6, rz, key, ey, hq6, hp6, q6⟩ => wpAny_bind (wpAny_standAt (wpAny_pure (evalPairs_nil ?_)))))
  subst ey
  have hpb : p ≠ h'.objs.size := fun z => by rw [← z, upd_same] at hq0; cases hq0
  obtain ⟨_, hb0, vb, kvb, hdb⟩ := dk_of I6.hok hq6
  cases kvb
  refine ⟨[(key, w2)], ⟨kV_is ry, rfl, True.intro⟩, hdb, fun h2 hd2 hs2 => ?_⟩
  have e2 : merged ([] : List (Key × Value)) [(key, w2)] = [(key, w2)] := merged_nil_of_nodup _ (by simp)
  rw [e2] at hd2
  have he2 : ∃ q, h2.get? h'.objs.size = some q := let ⟨q, _, _, hq, _⟩ := hd2; ⟨q, hq⟩
  have k1 : KV [(key, z)] [(key, w2)] := .cons ⟨rfl, rz⟩ .nil
  have I7 := d_write (t' := s6.toks + [(w1, w2)].length) I6 (by rw [hq6]; exact True.intro) hs2 he2 (dk_new (show ([(key, z)] : List (Key × V)).length ≤ sizeLine by rw [List.length_singleton]; omega) hb0 k1 hd2)
  obtain ⟨_, hp1, vp, kvp, hdp1⟩ := dk_of (a := p) I7.hok (by rw [upd_ne hpb]; exact hp6)
  have lp : kvs.length = vp.length := Paired.length kvp
  refine wpAny_bind (wpAny_onRaise (wpAny_holding (wpAny_mergeMapping (knd := mixKind X.prog X.w) hpb hb0 (fun k key h => keyIs_ref h) hdp1 hd2 (fun h3 hd3 _ hs3 => ?_) (by rw [List.length_singleton]; omega))))
  have he3 : ∃ q, h3.get? p = some q := let ⟨q, _, _, hq, _⟩ := hd3; ⟨q, hq⟩
  have k2 : KV (mergeK kvs [(key, z)]) (merged vp [(key, w2)]) := k1.merge kvp
  have hz3 : (mergeK kvs [(key, z)]).length ≤ sizeLine := by
    have := length_mergeK [(key, z)] kvs
    rw [List.length_singleton] at this
    omega
  have I8 := d_write (t' := s6.toks + [(w1, w2)].length) I7 (by rw [upd_ne hpb, hp6]; exact True.intro) hs3 he3 (dk_new hz3 hp1 k2 hd3)
  exact wpAny_pure (wpAny_pure ⟨.ref p, _, I8, rfl, q6⟩)
theorem updUpd {H : Hp} {p : Addr} {u w : HO} : upd (upd H p u) p w = upd H p w := by
  funext b
  by_cases e : b = p
  · subst e; rw [upd_same, upd_same]
  · rw [upd_ne e, upd_ne e, upd_ne e]
/-- {**d, k: v}, d in slot i -/
def dSpread (i : Nat) (pk pv : DX) : DX := fun E Q => match E[i]? with
  | some (.sh (.dic ks ds)) => ks.length < sizeLine ∧ pk E fun kd => pv E fun y => match keyOf kd with
    | some k => Q (.dic (ptK ks k) (ptD ks ds k y))
    | none => False
  | some (.ow (.dic ks ds)) => ks.length < sizeLine ∧ pk E fun kd => pv E fun y => match keyOf kd with
    | some k => Q (.dic (ptK ks k) (ptD ks ds k y))
    | none => False
  | _ => False
section
variable {X : Cx} {k v : Expr} {pk pv : DX} {pos : Pos}
theorem f_spread (i : Nat) {x : Str} {xp : Pos} (hk : QE X k pk) (hv : QE X v pv) (hN : X.N[i]? = some x := by rfl) (hvis : Vis X.env.scope x := by first | exact Or.inl rfl | exact Or.inr (Or.inl rfl) | exact Or.inr (Or.inr rfl)) (hd : (x == ("__debug__" : Str)) = false := by decide)
    (hcd : (x == ("__classdict__" : Str)) = false := by decide) : QF X (.Dict [none, some k] [.Name x xp, v] pos) (dSpread i pk pv) := by
  obtain ⟨t, t1, t2⟩ := hk
  obtain ⟨u, u1, u2⟩ := hv
  refine ⟨_, pe_spread (L2.pv i hN hvis hd hcd) t1 u1, fun pp HE Hb H σ E Q QD so er hp kk => ?_⟩
  have main : ∀ (a : Addr) (ws : List (Key × V)) (ks : List Key) (ds : List D), σ[i]? = some (some (.ref a)) → H a ≠ none → Rd H a (.dK ws) → ws.map (·.1) = ks → RepL pp X.K Hb ds (ws.map (·.2)) → ks.length < sizeLine →
      (pk E fun kd => pv E fun y => match keyOf kd with
        | some k => QD (.dic (ptK ks k) (ptD ks ds k y))
        | none => False) → tSpread (tVar i) t u σ H Q := fun a ws ks ds ha hn hw hks rl hl h => by
    intro p hp'
    have hpa : p ≠ a := fun z => by subst z; exact hn hp'
    have lw : ws.length = ks.length := by rw [← hks, List.length_map]
    refine ⟨.ref a, ha, a, ws, rfl, ?_, upd_same, hpa, by omega, fun q hq => ?_⟩
    · rcases hw with hw | ⟨o, hw⟩
      · exact .inl (by rw [upd_ne (Ne.symm hpa)]; exact hw)
      · exact .inr ⟨o, by rw [upd_ne (Ne.symm hpa)]; exact hw⟩
    · rw [updUpd] at hq ⊢
      have hqp : q ≠ p := fun z => by subst z; rw [upd_same] at hq; cases hq
      have hqH : H q = none := by rw [upd_ne hqp] at hq; exact hq
      obtain ⟨s1, so1⟩ := lay_own (u := .dK ws) so hp'
      obtain ⟨s2, so2⟩ := lay_own (u := .dK []) so1 hq
      have s12 := s1.trans s2
      have hpp : p ≠ pp := so.ne hp'
      have hqq : q ≠ pp := so1.ne hq
      refine t2 pp HE Hb _ σ E _ _ so2 (er.step s12) h fun kv kd Hb3 H3 s3 so3 r3 q3 => ?_
      refine u2 pp HE Hb3 H3 σ E _ _ so3 (er.step (s12.trans s3)) q3 fun z y Hb4 H4 s4 so4 r4 q4 => ?_
      split at q4
      · rename_i key ek
        have s34 := s3.trans s4
        have s14 := s12.trans s34
        have hq4 : H4 q = some (.dK []) := s34.ex q _ hqq upd_same
        have hp4 : H4 p = some (.dK ws) := s34.ex p _ hpp (by rw [upd_ne (Ne.symm hqp), upd_same])
        have bp4 : Hb4 p = none := s34.nw p (so.nb hp') (by rw [upd_ne (Ne.symm hqp), upd_same]; exact fun y => nomatch y)
        have bq4 : Hb4 q = none := s34.nw q (so.nb hqH) (by rw [upd_same]; exact fun y => nomatch y)
        refine ⟨key, keyOf_rep so3 ek (.inl r3), hq4, hp4, ?_⟩
        refine kk p (.dic (ptK ks key) (ptD ks ds key y)) Hb4 _ ⟨s14.sb, fun b o hb hh => ?_, fun b hh => ?_, s14.nw⟩ ⟨fun b o hh => ?_, so4.np, ?_, fun b xs hh => ?_⟩ hp' ⟨bp4, hpp, putK ws key z, upd_same, by rw [pt_keys, hks], by
          have e := pt_rep (k := key) r4 (rl.le s14.le)
          rw [hks] at e; exact e⟩ q4
        · rw [upd_ne (ne_of_none hh hp'), upd_ne (ne_of_none hh hqH)]; exact s14.ex b o hb hh
        · by_cases z : b = p
          · subst z; rw [upd_same]; exact fun y => nomatch y
          · rw [upd_ne z]
            by_cases z2 : b = q
            · subst z2; rw [upd_same]; exact fun y => nomatch y
            · rw [upd_ne z2]; exact s14.st b hh
        · rw [upd_ne (fun z => by subst z; rw [bp4] at hh; cases hh), upd_ne (fun z => by subst z; rw [bq4] at hh; cases hh)]
          exact so4.le b o hh
        · obtain ⟨a', ns, i', n, k', h1, h2⟩ := so4.pool
          exact ⟨a', ns, i', n, k', by rw [upd_ne (Ne.symm hpp), upd_ne (Ne.symm hqq)]; exact h1, h2⟩
        · by_cases z : b = p
          · subst z; rw [upd_same] at hh; cases hh
          · rw [upd_ne z] at hh
            by_cases z2 : b = q
            · subst z2; rw [upd_same] at hh; cases hh
            · rw [upd_ne z2] at hh; exact so4.tp b xs hh
      · exact q4.elim
  unfold dSpread at hp
  split at hp
  · rename_i ks ds e
    obtain ⟨v, h1, h2⟩ := er.sh i _ e
    unfold Rep at h2
    obtain ⟨a, ws, rfl, h3, h4, h5⟩ := h2
    have hR : Rd H a (.dK ws) := so.hle.rd a (.dK ws) trivial h3
    exact main a ws ks ds h1 (by rcases hR with z | ⟨o, z⟩ <;> rw [z] <;> exact fun y => nomatch y) hR h4 h5 hp.1 hp.2
  · rename_i ks ds e
    obtain ⟨a, h1, h2, h3⟩ := er.ow i _ e
    obtain ⟨ws, h4, h5, h6⟩ := h3.top
    exact main a ws ks ds h1 (by rw [h4]; exact fun y => nomatch y) (.inl h4) h5 h6 hp.1 hp.2
  · exact hp.elim
end
end DL

/-! DL17: list comprehensions of two fors; for .. in d.values() -/
namespace DL
open PySem PySem.Spec PyProof.Rows L2
/-- a step that may change L -/
structure StX (pp L : Addr) (Hb H Hb' H' : Hp) : Prop where
  sb : Same Hb Hb'
  ex : ∀ b o, b ≠ pp → b ≠ L → H b = some o → H' b = some o
  st : ∀ b, H b ≠ none → H' b ≠ none
  nw : ∀ b, Hb b = none → H b ≠ none → Hb' b = none
section
variable {pp L : Addr} {K : FK} {HE Hb H Hb' H' Hb'' H'' : Hp} {σ : L2.St} {E : List Sl}
theorem StX.of (s : Step pp Hb H Hb' H') : StX pp L Hb H Hb' H' := ⟨s.sb, fun b o h _ e => s.ex b o h e, s.st, s.nw⟩
theorem StX.trans (a : StX pp L Hb H Hb' H') (b : StX pp L Hb' H' Hb'' H'') : StX pp L Hb H Hb'' H'' :=
  ⟨a.sb.trans b.sb, fun c o h l e => b.ex c o h l (a.ex c o h l e), fun c h => b.st c (a.st c h), fun c h n => b.nw c (a.nw c h n) (a.st c n)⟩
theorem StX.upd {u : HO} : StX pp L Hb H Hb (upd H L u) := ⟨Same.refl _, fun b o _ l e => by rw [upd_ne l]; exact e, fun b h => by
  by_cases z : b = L
  · subst z; rw [upd_same]; exact fun y => nomatch y
  · rw [upd_ne z]; exact h, fun _ h _ => h⟩
theorem ER.stepX {acc : List V} (r : ER pp K HE Hb H σ E) (hL : HE L ≠ none) (hl : H L = some (.lst acc)) (a : StX pp L Hb H Hb' H') : ER pp K HE Hb' H' σ E :=
  ⟨r.len, fun i d e => let ⟨v, h, q⟩ := r.sh i d e; ⟨v, h, q.le (.of_same a.sb)⟩, fun i d e => by
    obtain ⟨p, h, n, o⟩ := r.ow i d e
    have hp : p ≠ L := fun z => by subst z; exact hL n
    exact ⟨p, h, n, ⟨a.nw p o.nb (Top.isSm o.top), o.ne, Top.step (.of_same a.sb) (fun u hu => a.ex p u o.ne hp hu) o.top⟩⟩, r.ds, fun i b dd x e => by
    obtain ⟨z1, vs, z2, z3, z4⟩ := r.xs i b dd x e
    exact ⟨z1, vs, z2, a.ex _ _ z2 (fun z => by subst z; rw [hl] at z3; cases z3) z3, z4.le (.of_same a.sb)⟩⟩
/-- another heap at the def's entry -/
theorem ER.he {HE' : Hp} (r : ER pp K HE Hb H σ E) (h : ∀ p, H p ≠ none → HE p = none → HE' p = none) : ER pp K HE' Hb H σ E :=
  ⟨r.len, r.sh, fun i d e => let ⟨p, k, n, o⟩ := r.ow i d e; ⟨p, k, h p (Top.isSm o.top) n, o⟩, r.ds, r.xs⟩
end
/-- what is walked, for all contexts -/
def TIof (K : FK) (p : DI) : TI := fun σ H R => ∃ (pp : Addr) (HE Hb : Hp) (E : List Sl) (QD : List D → Prop), SOk pp K Hb H ∧ ER pp K HE Hb H σ E ∧ p E QD ∧ ∀ J items Hb' H', Step pp Hb H Hb' H' → SOk pp K Hb' H' → WalkJ pp K Hb' J items → QD items → R J H'
theorem QI.pi {X : Cx} {tg e : Expr} {p : DI} (h : QI X tg e p) : PI X tg e (TIof X.K p) := by
  obtain ⟨t, h1, h2⟩ := h
  refine ⟨fun pins s σ H R I h => ?_⟩
  obtain ⟨pp, HE, Hb, E, QD, so, er, hp, k⟩ := h
  exact h1.run pins s σ H R I (h2 pp HE Hb H σ E R QD so er hp k)
def lc2L (g : DG) (vs : List Nat) (c : DT) (pi1 : DI) (g1 : DG) (vs1 : List Nat) (c1 : DT) (p : DX) : List D → List Sl → List D → (List D → Prop) → Prop
  | [], _, acc, Q => Q acc
  | d :: r, E, acc, Q => g d (wipeD E vs) fun E' => c E' fun b => if b = true then pi1 E' fun items1 => acc.length + items1.length ≤ sizeLine ∧ lcL g1 vs1 c1 p items1 E' fun ys => lc2L g vs c pi1 g1 vs1 c1 p r E (acc ++ ys) Q
    else lc2L g vs c pi1 g1 vs1 c1 p r E acc Q
def dLc2 (pi : DI) (g : DG) (vs : List Nat) (c : DT) (pi1 : DI) (g1 : DG) (vs1 : List Nat) (c1 : DT) (p : DX) : DX := fun E Q => pi E fun items => lc2L g vs c pi1 g1 vs1 c1 p items E [] fun ys => Q (.lst ys)
section
variable {X : Cx} {elt tg iter tg1 iter1 : Expr} {ifs ifs1 : List Expr} {scope : Scope} {own : List (Str × Nat)} {pos : Pos} {pi pi1 : DI} {g g1 : DG} {c c1 : DT} {p : DX}
theorem lc2_read {wi : TI} {K : FK} {vs vs1 : List Nat} {pp : Addr} {HE Hb H : Hp} {σ : L2.St} {E : List Sl} {Q : VK} {QD : D → Prop}
    (i2 : ∀ (R : It → Hp → Prop) (QD : List D → Prop), pi E QD → (∀ J items Hb' H', Step pp Hb H Hb' H' → SOk pp K Hb' H' → WalkJ pp K Hb' J items → QD items → R J H') → wi σ H R)
    (so : SOk pp K Hb H) (er : ER pp K HE Hb H σ E) (hp : dLc2 pi g vs c pi1 g1 vs1 c1 p E QD)
    (k : ∀ a d Hb' H', Step pp Hb H Hb' H' → SOk pp K Hb' H' → H a = none → Owns pp K Hb' H' a d → QD d → Q (.ref a) H') : tLc2 wi (TGvof K vs g) (TTof K c) (TIof K pi1) (TGvof K vs1 g1) (TTof K c1) (TEof K p) vs vs1 σ H Q := by
  refine i2 _ _ hp fun J items Hb0 H0 s0 so0 wk q0 => ?_
  intro L hL
  have hLH : H L = none := by
    cases z : H L with
    | none => rfl
    | some u => exact absurd hL (s0.st L (by rw [z]; exact fun y => nomatch y))
  obtain ⟨sL, soL⟩ := lay_own (u := .lst []) so0 hL
  have hpp : L ≠ pp := so0.ne hL
  have erE : ER pp K (upd HE L (.lst [])) Hb0 H0 σ E := (er.step s0).he fun q hq n => by
    rw [upd_ne (fun z => by subst z; exact hq hL)]; exact n
  have hEL : (upd HE L (.lst [])) L ≠ none := by rw [upd_same]; exact fun y => nomatch y
  generalize upd HE L (.lst []) = HE2 at erE hEL
  let Inv : Nat → Hp → Prop := fun i H1 => i ≤ items.length ∧ ∃ (Hb1 : Hp) (acc : List V) (accD : List D), Step pp Hb0 H0 Hb1 H1 ∧ SOk pp K Hb1 H1 ∧ H1 L = some (.lst acc) ∧ Hb1 L = none ∧ RepL pp K Hb1 accD acc ∧ lc2L g vs c pi1 g1 vs1 c1 p (items.drop i) E accD fun ys => QD (.lst ys)
  refine ⟨fun i m H1 => m = items.length - i ∧ Inv i H1,
    ⟨items.length, rfl, Nat.zero_le _, Hb0, [], [], sL, soL, upd_same, so0.nb hL, .nil, by simpa using q0⟩, ?_⟩
  rintro i m H1 ⟨rfl, hi, Hb1, acc, accD, s1, so1, hl1, hb1, r1, f1⟩
  have w1 := wk Hb1 H1 s1.sb so1 i
  by_cases hlt : i < items.length
  · have ed : items[i]? = some items[i] := by simp [hlt]
    obtain ⟨go, yl⟩ := w1.1 _ ed
    rw [List.drop_eq_getElem_cons hlt] at f1
    refine .inr ⟨go, Inv (i + 1), fun H' w => ⟨items.length - (i + 1), by omega, rfl, w⟩, fun x H2 y => ?_⟩
    obtain ⟨Hb2, s2, so2, r2⟩ := yl x H2 y
    have sA := s1.trans s2
    refine ⟨pp, HE2, Hb2, wipeD E vs, items[i], _, so2, (erE.step sA).wipe vs, r2, f1, fun σ' E' er' of q' => ?_⟩
    refine ⟨(off_wipe.trans of).wipe, pp, HE2, Hb2, E', _, so2, er', q', fun b Hb3 H3 s3 so3 q3 => ?_⟩
    cases b with
    | true =>
      rw [if_pos rfl] at q3 ⊢
      refine ⟨pp, HE2, Hb3, E', _, so3, er'.step s3, q3, fun J1 items1 Hb4 H4 s4 so4 wk1 q4 => ?_⟩
      have sB := (s2.trans s3).trans s4
      have hL4 : H4 L = some (.lst acc) := sB.ex L _ hpp hl1
      have hb4 : Hb4 L = none := sB.nw L hb1 (by rw [hl1]; exact fun z => nomatch z)
      have er4 := er'.step (s3.trans s4)
      let Inv1 : Nat → Hp → Prop := fun j H5 => j ≤ items1.length ∧ ∃ (Hb5 : Hp) (acc' : List V) (ysD : List D), Step pp Hb0 H0 Hb5 H5 ∧ StX pp L Hb4 H4 Hb5 H5 ∧ SOk pp K Hb5 H5 ∧ H5 L = some (.lst acc') ∧ Hb5 L = none ∧ RepL pp K Hb5 (accD ++ ysD) acc' ∧ ysD.length ≤ j ∧
        lcL g1 vs1 c1 p (items1.drop j) E' fun ys => lc2L g vs c pi1 g1 vs1 c1 p (items.drop (i + 1)) E (accD ++ (ysD ++ ys)) fun ys => QD (.lst ys)
      refine ⟨fun j k H5 => k = items1.length - j ∧ Inv1 j H5, ⟨items1.length, rfl, Nat.zero_le _, Hb4, acc, [], s1.trans sB, .of .refl, so4, hL4, hb4, by rw [List.append_nil]; exact r1.le sB.le, Nat.le_refl _, by simpa using q4.2⟩, ?_⟩
      rintro j k5 H5 ⟨rfl, hj, Hb5, acc5, ysD, s5, sx5, so5, hl5, hb5, r5, n5, f5⟩
      have w5 := wk1 Hb5 H5 sx5.sb so5 j
      by_cases hlt1 : j < items1.length
      · have ed1 : items1[j]? = some items1[j] := by simp [hlt1]
        obtain ⟨go1, yl1⟩ := w5.1 _ ed1
        rw [List.drop_eq_getElem_cons hlt1] at f5
        refine .inr ⟨go1, Inv1 (j + 1), fun H' w => ⟨items1.length - (j + 1), by omega, rfl, w⟩, fun x1 H6 y1 => ?_⟩
        obtain ⟨Hb6, s6, so6, r6⟩ := yl1 x1 H6 y1
        have er6 := er4.stepX hEL hL4 (sx5.trans (.of s6))
        refine ⟨pp, HE2, Hb6, wipeD E' vs1, items1[j], _, so6, er6.wipe vs1, r6, f5, fun σ3 E3 er3 of3 q6 => ?_⟩
        refine ⟨(off_wipe.trans of3).wipe, pp, HE2, Hb6, E3, _, so6, er3, q6, fun b Hb7 H7 s7 so7 q7 => ?_⟩
        cases b with
        | true =>
          rw [if_pos rfl] at q7 ⊢
          refine ⟨pp, HE2, Hb7, E3, _, so7, er3.step s7, q7, fun y' d' Hb8 H8 s8 so8 r8 q8 => ?_⟩
          have sC := (s6.trans s7).trans s8
          have hL8 : H8 L = some (.lst acc5) := sC.ex L _ hpp hl5
          have hb8 : Hb8 L = none := sC.nw L hb5 (by rw [hl5]; exact fun z => nomatch z)
          have sD := s5.trans sC
          have rN : RepL pp K Hb8 (accD ++ (ysD ++ [d'])) (acc5 ++ [y']) := by
            have := (r5.le sC.le).app (.cons r8 .nil)
            rw [List.append_assoc] at this; exact this
          have hacc : acc5.length < sizeLine := by
            have h1 := r5.length
            have h2 := q4.1
            rw [h1, List.length_append]
            omega
          refine ⟨acc5, hL8, hacc, hlt1, Hb8, acc5 ++ [y'], ysD ++ [d'], ⟨sD.sb, fun b o hb h => ?_, fun b h => ?_, sD.nw⟩, (sx5.trans (.of sC)).trans .upd, ⟨fun b o h => ?_, so8.np, ?_, fun b xs h => ?_⟩, upd_same, hb8, rN, by rw [List.length_append, List.length_singleton]; omega, ?_⟩
          · rw [upd_ne (ne_of_none h hL)]; exact sD.ex b o hb h
          · by_cases z : b = L
            · subst z; rw [upd_same]; exact fun y => nomatch y
            · rw [upd_ne z]; exact sD.st b h
          · have z : b ≠ L := fun z => by subst z; rw [hb8] at h; cases h
            rw [upd_ne z]; exact so8.le b o h
          · obtain ⟨a, ns, i, n, k, h1, h2⟩ := so8.pool
            exact ⟨a, ns, i, n, k, by rw [upd_ne (Ne.symm hpp)]; exact h1, h2⟩
          · by_cases z : b = L
            · subst z; rw [upd_same] at h; cases h
            · rw [upd_ne z] at h; exact so8.tp b xs h
          · simpa using q8
        | false =>
          rw [if_neg Bool.false_ne_true] at q7 ⊢
          have sC := s6.trans s7
          exact ⟨hlt1, Hb7, acc5, ysD, s5.trans sC, sx5.trans (.of sC), so7, sC.ex L _ hpp hl5, sC.nw L hb5 (by rw [hl5]; exact fun z => nomatch z), r5.le sC.le, by omega, q7⟩
      · have e : j = items1.length := by omega
        subst e
        refine .inl ⟨w5.2 rfl, hlt, Hb5, acc5, accD ++ ysD, s5, so5, hl5, hb5, r5, ?_⟩
        rw [List.drop_length] at f5
        simpa [lcL] using f5
    | false =>
      rw [if_neg Bool.false_ne_true] at q3 ⊢
      have sB := s2.trans s3
      exact ⟨hlt, Hb3, acc, accD, s1.trans sB, so3, sB.ex L _ hpp hl1, sB.nw L hb1 (by rw [hl1]; exact fun z => nomatch z), r1.le sB.le, q3⟩
  · have e : i = items.length := by omega
    subst e
    refine .inl ⟨w1.2 rfl, ?_⟩
    rw [List.drop_length] at f1
    simp only [lc2L] at f1
    exact k L (.lst accD) Hb1 H1 (s0.trans s1) so1 hLH ⟨hb1, hpp, ⟨acc, hl1, r1⟩⟩ f1
theorem f_lc2 {vs vs1 : List Nat} (own : List (Str × Nat)) (hc : X.calm = true) (hN : X.N.Nodup) (hi : QI X tg iter pi) {N0 : List Str} {sc0 : Scope} (ok : blkC N0 sc0 scope own = true) (hv : own.map (·.2) = vs) (hv1 : (vs1.all fun i => decide (i ∈ vs)) = true)
    (hg : ∀ (s : Shared) (H : Hp) (C : Addr) (cl : List (Str × Addr)) (fp : List Addr), QGv (X.blk s H scope (compEnvC scope cl C X.env) fp) tg vs g) (ht : ∀ (s : Shared) (H : Hp) (C : Addr) (cl : List (Str × Addr)) (fp : List Addr), QTs (X.blk s H scope (compEnvC scope cl C X.env) fp) ifs c)
    (hi1 : ∀ (s : Shared) (H : Hp) (C : Addr) (cl : List (Str × Addr)) (fp : List Addr), QI (X.blk s H scope (compEnvC scope cl C X.env) fp) tg1 iter1 pi1)
    (hg1 : ∀ (s : Shared) (H : Hp) (C : Addr) (cl : List (Str × Addr)) (fp : List Addr), QGv (X.blk s H scope (compEnvC scope cl C X.env) fp) tg1 vs1 g1) (ht1 : ∀ (s : Shared) (H : Hp) (C : Addr) (cl : List (Str × Addr)) (fp : List Addr), QTs (X.blk s H scope (compEnvC scope cl C X.env) fp) ifs1 c1)
    (he : ∀ (s : Shared) (H : Hp) (C : Addr) (cl : List (Str × Addr)) (fp : List Addr), QE (X.blk s H scope (compEnvC scope cl C X.env) fp) elt p) (hs : ∀ x, foldedSetIterable iter X.env x = pure x := by intro _; rfl) (hs1 : ∀ env x, foldedSetIterable iter1 env x = pure x := by intro _ _; rfl) (eN : X.N = N0 := by rfl) (eS : X.env.scope = sc0 := by rfl) :
    QF X (.ListComp elt [⟨tg, iter, ifs, 0⟩, ⟨tg1, iter1, ifs1, 0⟩] scope pos) (dLc2 pi g vs c pi1 g1 vs1 c1 p) := by
  subst hv eN eS
  obtain ⟨wi, i1, i2⟩ := hi
  exact ⟨_, pe_lc2 (g := TGvof X.K (own.map (·.2)) g) (tt := TTof X.K c) (wi1 := TIof X.K pi1) (g1 := TGvof X.K vs1 g1) (tt1 := TTof X.K c1) (te := TEof X.K p) hc hN i1 (blkOk_by ok) (fun i hi => by have := List.all_eq_true.mp hv1 i hi; simpa using this) (fun s H C cl fp => (hg s H C cl fp).pg) (fun s H C cl fp => (ht s H C cl fp).pts) (fun s H C cl fp => (hi1 s H C cl fp).pi) (fun s H C cl fp => (hg1 s H C cl fp).pg) (fun s H C cl fp => (ht1 s H C cl fp).pts) (fun s H C cl fp => (he s H C cl fp).pe) hs hs1,
    fun pp HE Hb H σ E Q QD so er hp k => lc2_read (fun R QD' h1 h2 => i2 pp HE Hb H σ E R QD' so er h1 h2) so er hp k⟩
theorem sw_true2 {gs : List Comprehension} {py : Pos} {y : Str} {l : Nat} {env : Env} (hk : env.scope.kind = .function) (hy : env.scope.names.lookup y = some .local) (hl : (py.line == pos.line) = true)
    (ha : (scope.names.any fun (n, k) => n == y && (k == .local || k == .cell)) = false) : swapsWith (.ListComp elt gs scope pos) (some (.Name y py)) l env = pure true := sw_true hk hy hl ha
theorem s_setLc2 {vs vs1 : List Nat} {i : Nat} {y : Str} {py spos : Pos} (own : List (Str × Nat)) (hc : X.calm = true) (hN : X.N.Nodup) (hi : QI X tg iter pi) {N0 : List Str} {sc0 : Scope} (ok : blkC N0 sc0 scope own = true) (hv : own.map (·.2) = vs) (hv1 : (vs1.all fun i => decide (i ∈ vs)) = true)
    (hg : ∀ (s : Shared) (H : Hp) (C : Addr) (cl : List (Str × Addr)) (fp : List Addr), QGv (X.blk s H scope (compEnvC scope cl C X.env) fp) tg vs g) (ht : ∀ (s : Shared) (H : Hp) (C : Addr) (cl : List (Str × Addr)) (fp : List Addr), QTs (X.blk s H scope (compEnvC scope cl C X.env) fp) ifs c)
    (hi1 : ∀ (s : Shared) (H : Hp) (C : Addr) (cl : List (Str × Addr)) (fp : List Addr), QI (X.blk s H scope (compEnvC scope cl C X.env) fp) tg1 iter1 pi1)
    (hg1 : ∀ (s : Shared) (H : Hp) (C : Addr) (cl : List (Str × Addr)) (fp : List Addr), QGv (X.blk s H scope (compEnvC scope cl C X.env) fp) tg1 vs1 g1) (ht1 : ∀ (s : Shared) (H : Hp) (C : Addr) (cl : List (Str × Addr)) (fp : List Addr), QTs (X.blk s H scope (compEnvC scope cl C X.env) fp) ifs1 c1)
    (he : ∀ (s : Shared) (H : Hp) (C : Addr) (cl : List (Str × Addr)) (fp : List Addr), QE (X.blk s H scope (compEnvC scope cl C X.env) fp) elt p)
    (hsw : swapsWith (.ListComp elt [⟨tg, iter, ifs, 0⟩, ⟨tg1, iter1, ifs1, 0⟩] scope pos) (some (.Name y py)) spos.line X.env = pure true) (hy : X.N[i]? = some y := by rfl) (hyl : X.env.scope.names.lookup y = some .local := by rfl) (hs : ∀ x, foldedSetIterable iter X.env x = pure x := by intro _; rfl) (hs1 : ∀ env x, foldedSetIterable iter1 env x = pure x := by intro _ _; rfl) (eN : X.N = N0 := by rfl) (eS : X.env.scope = sc0 := by rfl) :
    QS X (.Assign [.Name y py] (.ListComp elt [⟨tg, iter, ifs, 0⟩, ⟨tg1, iter1, ifs1, 0⟩] scope pos) spos) (dAsg i (dLc2 pi g vs c pi1 g1 vs1 c1 p)) := by
  subst hv eN eS
  obtain ⟨wi, i1, i2⟩ := hi
  refine ⟨_, ps_setLc2 (g := TGvof X.K (own.map (·.2)) g) (tt := TTof X.K c) (wi1 := TIof X.K pi1) (g1 := TGvof X.K vs1 g1) (tt1 := TTof X.K c1) (te := TEof X.K p) hc hN hy hyl hsw i1 (blkOk_by ok) (fun i hi => by have := List.all_eq_true.mp hv1 i hi; simpa using this) (fun s H C cl fp => (hg s H C cl fp).pg) (fun s H C cl fp => (ht s H C cl fp).pts) (fun s H C cl fp => (hi1 s H C cl fp).pi) (fun s H C cl fp => (hg1 s H C cl fp).pg) (fun s H C cl fp => (ht1 s H C cl fp).pts) (fun s H C cl fp => (he s H C cl fp).pe) hs hs1, fun pp HbE HE Hb H σ E Dn DD s so er h o => ?_⟩
  refine lc2_read (QD := fun d => DD.nx (E.set i (.sh d))) (fun R QD' h1 h2 => i2 pp HE Hb H σ E R QD' so er h1 h2) so er h fun a d Hb1 H1 s1 so1 hn o1 q1 => ?_
  obtain ⟨Hb2, s2, so2, r2⟩ := share_new s1 so1 hn o1
  exact o.nx Hb2 H1 _ _ (s.trans s2) so2 ((er.step s2).set_sh i r2) q1
theorem s_ownLc2 {vs vs1 : List Nat} {i : Nat} {y : Str} {py spos : Pos} (own : List (Str × Nat)) (hc : X.calm = true) (hN : X.N.Nodup) (hi : QI X tg iter pi) {N0 : List Str} {sc0 : Scope} (ok : blkC N0 sc0 scope own = true) (hv : own.map (·.2) = vs) (hv1 : (vs1.all fun i => decide (i ∈ vs)) = true)
    (hg : ∀ (s : Shared) (H : Hp) (C : Addr) (cl : List (Str × Addr)) (fp : List Addr), QGv (X.blk s H scope (compEnvC scope cl C X.env) fp) tg vs g) (ht : ∀ (s : Shared) (H : Hp) (C : Addr) (cl : List (Str × Addr)) (fp : List Addr), QTs (X.blk s H scope (compEnvC scope cl C X.env) fp) ifs c)
    (hi1 : ∀ (s : Shared) (H : Hp) (C : Addr) (cl : List (Str × Addr)) (fp : List Addr), QI (X.blk s H scope (compEnvC scope cl C X.env) fp) tg1 iter1 pi1)
    (hg1 : ∀ (s : Shared) (H : Hp) (C : Addr) (cl : List (Str × Addr)) (fp : List Addr), QGv (X.blk s H scope (compEnvC scope cl C X.env) fp) tg1 vs1 g1) (ht1 : ∀ (s : Shared) (H : Hp) (C : Addr) (cl : List (Str × Addr)) (fp : List Addr), QTs (X.blk s H scope (compEnvC scope cl C X.env) fp) ifs1 c1)
    (he : ∀ (s : Shared) (H : Hp) (C : Addr) (cl : List (Str × Addr)) (fp : List Addr), QE (X.blk s H scope (compEnvC scope cl C X.env) fp) elt p)
    (hsw : swapsWith (.ListComp elt [⟨tg, iter, ifs, 0⟩, ⟨tg1, iter1, ifs1, 0⟩] scope pos) (some (.Name y py)) spos.line X.env = pure true) (hy : X.N[i]? = some y := by rfl) (hyl : X.env.scope.names.lookup y = some .local := by rfl) (hs : ∀ x, foldedSetIterable iter X.env x = pure x := by intro _; rfl) (hs1 : ∀ env x, foldedSetIterable iter1 env x = pure x := by intro _ _; rfl) (eN : X.N = N0 := by rfl) (eS : X.env.scope = sc0 := by rfl) :
    QS X (.Assign [.Name y py] (.ListComp elt [⟨tg, iter, ifs, 0⟩, ⟨tg1, iter1, ifs1, 0⟩] scope pos) spos) (dOwn i (dLc2 pi g vs c pi1 g1 vs1 c1 p)) := by
  subst hv eN eS
  obtain ⟨wi, i1, i2⟩ := hi
  refine ⟨_, ps_setLc2 (g := TGvof X.K (own.map (·.2)) g) (tt := TTof X.K c) (wi1 := TIof X.K pi1) (g1 := TGvof X.K vs1 g1) (tt1 := TTof X.K c1) (te := TEof X.K p) hc hN hy hyl hsw i1 (blkOk_by ok) (fun i hi => by have := List.all_eq_true.mp hv1 i hi; simpa using this) (fun s H C cl fp => (hg s H C cl fp).pg) (fun s H C cl fp => (ht s H C cl fp).pts) (fun s H C cl fp => (hi1 s H C cl fp).pi) (fun s H C cl fp => (hg1 s H C cl fp).pg) (fun s H C cl fp => (ht1 s H C cl fp).pts) (fun s H C cl fp => (he s H C cl fp).pe) hs hs1, fun pp HbE HE Hb H σ E Dn DD s so er h o => ?_⟩
  refine lc2_read (QD := fun d => DD.nx (E.set i (.ow d))) (fun R QD' h1 h2 => i2 pp HE Hb H σ E R QD' so er h1 h2) so er h fun p d Hb1 H1 s1 so1 hn o1 q1 => ?_
  have hE : HE p = none := by
    cases z : HE p with
    | none => rfl
    | some u => exact absurd hn (s.st p (by rw [z]; exact fun y => nomatch y))
  refine o.nx Hb1 H1 _ _ (s.trans s1) so1 ((er.step s1).set_ow i hE o1 fun j d' e1 e2 => ?_) q1
  obtain ⟨p', h3, h4, h5⟩ := er.ow j d' e1
  rw [h3] at e2
  cases e2
  exact Top.isSm h5.top hn
end

/-! ### for x in d.values() -/
theorem walk_vals {pp : Addr} {K : FK} {Hb : Hp} {a : Addr} {o : Obj} {ws : List (Key × V)} {ds : List D} (h : Hb a = some (.frz o (.dK ws))) (r : RepL pp K Hb ds (ws.map (·.2))) : WalkJ pp K Hb (Itd a o ws) ds := by
  intro Hb1 H1 sm so i
  have h1 : H1 a = some (.frz o (.dK ws)) := so.le _ _ (sm _ _ h)
  have hl := r.length
  rw [List.length_map] at hl
  refine ⟨fun d ed => ?_, fun e => ⟨h1, by omega⟩⟩
  have hi : i < ws.length := by
    have := (List.getElem?_eq_some_iff.mp ed).1
    omega
  refine ⟨⟨h1, hi⟩, fun x H2 y => ?_⟩
  obtain ⟨e2, k, ek⟩ := y
  subst e2
  obtain ⟨v, ev, rv⟩ := r.get ed
  rw [List.getElem?_map, ek] at ev
  cases ev
  exact ⟨Hb1, .refl, so, rv.le (.of_same sm)⟩
/-- the values of the dict in slot i -/
def dValsI (i : Nat) : DI := fun E Q => match E[i]? with
  | some (.sh (.dic _ ds)) => Q ds
  | _ => False
section
variable {X : Cx} {tg : Expr} {sts : List Stmt} {p : DS} {g : DG} {pos : Pos}
theorem vals_run {pp : Addr} {Hb H : Hp} {σ : L2.St} {E : List Sl} {i : Nat} {a : Addr} {o : Obj} {ws : List (Key × V)} {ds : List D} {ks : List Key} (so : SOk pp X.K Hb H) (ei : E[i]? = some (.sh (.dic ks ds))) (hσ : σ[i]? = some (some (.ref a))) (hb : Hb a = some (.frz o (.dK ws))) (hr : RepL pp X.K Hb ds (ws.map (·.2)))
    (R : It → Hp → Prop) (QD : List D → Prop) (h : dValsI i E QD) (k : ∀ J items Hb' H', Step pp Hb H Hb' H' → SOk pp X.K Hb' H' → WalkJ pp X.K Hb' J items → QD items → R J H') : iVals (tVar i) σ H R := by
  unfold dValsI at h
  rw [ei] at h
  exact ⟨_, hσ, a, o, ws, rfl, so.le _ _ hb, k _ _ Hb H .refl so (walk_vals hb hr) h⟩
theorem s_forV (i : Nat) {x : Str} {xp apos cpos : Pos} (hp : PassesOwn (model X.prog X.w) X.A X.env X.xe) (hc : X.calm = true) (hg : QG X tg g) (hb : QSs X sts p) (hN : X.N[i]? = some x := by rfl) (hvis : Vis X.env.scope x := by first | exact Or.inl rfl | exact Or.inr (Or.inl rfl) | exact Or.inr (Or.inr rfl)) (hd : (x == ("__debug__" : Str)) = false := by decide)
    (hcd : (x == ("__classdict__" : Str)) = false := by decide) (hbase : attributeBase (.Name x xp) "values" X.env (eval (.Name x xp) X.env) = eval (.Name x xp) X.env := by rfl) (hline : (apos.endLine == cpos.line) = true := by rfl) (hs : ∀ y, foldedSetIterable (.Call (.Attribute (.Name x xp) "values" apos) [] [] cpos) X.env y = pure y := by intro _; rfl) :
    QS X (.For tg (.Call (.Attribute (.Name x xp) "values" apos) [] [] cpos) sts [] pos) (dFor (dValsI i) g p) := by
  obtain ⟨tg', g1, g2⟩ := hg
  obtain ⟨tb, b1, b2⟩ := hb
  have base := ps_for (pos := pos) hp hc (pi_values (L2.pv i hN hvis hd hcd) hbase hline) g1 b1 hs
  refine ⟨_, PS.or (ps_lockX base) base, fun pp HbE HE Hb H σ E Dn DD s so er h o => ?_⟩
  have ei : ∃ ks ds, E[i]? = some (.sh (.dic ks ds)) := by
    have h' := h
    unfold dFor dValsI at h'
    split at h'
    · exact ⟨_, _, by assumption⟩
    · exact h'.elim
  obtain ⟨ks, ds, ei⟩ := ei
  obtain ⟨v, h1, h2⟩ := er.sh i _ ei
  unfold Rep at h2
  obtain ⟨a, ws, rfl, h3, h4, h5⟩ := h2
  rcases h3 with h3 | ⟨oo, h3⟩
  · have c : CanLock pp a (.dK ws) Hb H := ⟨h3, so.le _ _ h3, (fun z => by subst z; rw [so.np] at h3; cases h3), trivial, (fun xs z => nomatch z), (fun xs z => nomatch z), (fun xs z => nomatch z)⟩
    refine .inl ⟨a, .dK ws, c.hh, trivial, fun hn od => ?_⟩
    obtain ⟨s1, so1, er1⟩ := lock_ok (od := od) c s so er
    have fz : ∀ {Hb2 H2 : Hp}, Step pp (upd Hb a (.frz od (.dK ws))) (lkF a (.frz od (.dK ws)) (.dK ws) HE) Hb2 H2 → Hb2 a = some (.frz od (.dK ws)) := fun s2 => s2.sb a _ upd_same
    refine for_read (pi := dValsI i) (g := g) (p := p) (DD := DD) (fun R QD q k => vals_run so1 ei h1 upd_same (h5.le (le_lock c)) R QD q k) g2 b2 s1 so1 er1 h ⟨fun Hb2 H2 σ2 E2 s2 so2 er2 q => ?_, fun Hb2 H2 v2 d2 s2 so2 r2 q => ?_, fun Hb2 H2 σ2 E2 s2 so2 er2 q => ?_, fun Hb2 H2 σ2 E2 s2 so2 er2 q => ?_, fun Hb2 H2 p2 d2 s2 so2 n2 o2 q => ?_, fun Hb2 H2 σ2 E2 x2 cls2 d2 s2 so2 er2 r2 q => ?_⟩
    · obtain ⟨u1, u2⟩ := unlock_ok (u := .dK ws) c s (s1.cut s2) (fz s2) so2
      exact ⟨so2.le _ _ (fz s2), o.nx _ _ σ2 E2 u1 u2 (unlock_er (fz s2) (so2.le _ _ (fz s2)) er2) q⟩
    · obtain ⟨u1, u2⟩ := unlock_ok (u := .dK ws) c s (s1.cut s2) (fz s2) so2
      exact ⟨so2.le _ _ (fz s2), o.rt _ _ v2 d2 u1 u2 (r2.le (le_unlock (fz s2))) q⟩
    · obtain ⟨u1, u2⟩ := unlock_ok (u := .dK ws) c s (s1.cut s2) (fz s2) so2
      exact ⟨so2.le _ _ (fz s2), o.bk _ _ σ2 E2 u1 u2 (unlock_er (fz s2) (so2.le _ _ (fz s2)) er2) q⟩
    · obtain ⟨u1, u2⟩ := unlock_ok (u := .dK ws) c s (s1.cut s2) (fz s2) so2
      exact ⟨so2.le _ _ (fz s2), o.ct _ _ σ2 E2 u1 u2 (unlock_er (fz s2) (so2.le _ _ (fz s2)) er2) q⟩
    · obtain ⟨u1, u2⟩ := unlock_ok (u := .dK ws) c s (s1.cut s2) (fz s2) so2
      have hne : p2 ≠ a := fun z => by subst z; have := o2.nb; rw [fz s2] at this; cases this
      exact ⟨so2.le _ _ (fz s2), o.rf _ _ p2 d2 u1 u2 (lkF_none.mp n2) ⟨by rw [upd_ne hne]; exact o2.nb, o2.ne, Top.step (le_unlock (fz s2)) (fun o h => by rw [upd_ne hne]; exact h) o2.top⟩ q⟩
    · obtain ⟨u1, u2⟩ := unlock_ok (u := .dK ws) c s (s1.cut s2) (fz s2) so2
      obtain ⟨m2, dd, ed, x2⟩ := r2
      exact wm_unlock hn (so2.le _ _ (fz s2)) (o.ex _ _ σ2 E2 _ _ _ u1 u2 (unlock_er (fz s2) (so2.le _ _ (fz s2)) er2) ⟨m2, dd, ed, xf_unlock (fz s2) (so2.le _ _ (fz s2)) x2⟩ q)
  · exact .inr (for_read (pi := dValsI i) (g := g) (p := p) (DD := DD) (fun R QD q k => vals_run so ei h1 h3 h5 R QD q k) g2 b2 s so er h (o.cut s))
end
end DL

/-! DL18: rows of ints are compared -/
namespace DL
open PySem PySem.Spec PyProof.Rows L2
def intsOf : List D → Option (List Int)
  | [] => some []
  | .int i :: r => match intsOf r with
    | some l => some (i :: l)
    | none => none
  | _ :: _ => none
theorem intsOf_map (l : List Int) : intsOf (l.map D.int) = some l := by
  induction l with
  | nil => rfl
  | cons a l ih => simp only [List.map_cons, intsOf, ih]
theorem intsOf_eq : ∀ {ds : List D} {l : List Int}, intsOf ds = some l → ds = l.map D.int
  | [], l, h => by cases h; rfl
  | d :: ds, l, h => by
    cases d <;> first | (cases h; done) | skip
    simp only [intsOf] at h
    cases e : intsOf ds with
    | none => rw [e] at h; cases h
    | some l' =>
      rw [e] at h
      cases h
      rw [intsOf_eq e]; rfl
/-- <: ints, texts, lists of ints -/
def rdLt2 : RD := fun x y Q => match x, y with
  | .int i, .int j => Q (.bl (decide (i < j)))
  | .str i, .str j => Q (.bl (decide (i.cps.toList < j.cps.toList)))
  | .lst a, .lst b => match intsOf a, intsOf b with
    | some ns, some ms => Q (.bl (decide (ns < ms)))
    | _, _ => False
  | _, _ => False
theorem pd_ints (l : List Int) : pd (.lst (l.map D.int)) = .list (l.map .int) := by
  unfold pd
  rw [pdL_map, List.map_map]
  congr 1
theorem okD_ints (l : List Int) (n : Nat) : okD (n + 1) (.lst (l.map D.int)) = true := by
  show (l.map D.int).all (okD n) = true
  rw [List.all_eq_true]
  intro d hd
  obtain ⟨x, _, rfl⟩ := List.mem_map.mp hd
  cases n <;> rfl
theorem op_ltP {X : Cx} (hu : X.A.units + 64 < cLine) : OpR X (compareOp .Lt) (fun x y H Q => ∃ ns ms : List Int, Dp X.K H x (.list (ns.map .int)) ∧ Dp X.K H y (.list (ms.map .int)) ∧ Q (.bl (decide (ns < ms))) H) := by
  intro pins s σ H x y v u Q I rx ry h
  obtain ⟨ns, ms, hd, he, q⟩ := h
  obtain ⟨as, r1⟩ := Dp.reads I _ x v hd rx
  obtain ⟨bs, r2⟩ := Dp.reads I _ y u he ry
  have hal : PySem.W.alike (.list (ns.map .int)) (.list (ms.map .int)) = true := by
    simp only [PySem.W.alike]
    exact PySem.W.alike_ints ns ms
  have dd : (PyData.list (ns.map .int)).depth ≤ 1 := by
    simp only [PyData.depth]
    rw [PySem.W.depth_ints]; omega
  have e : PySem.W.dataLt (.list (ns.map .int)) (.list (ms.map .int)) = decide (ns < ms) := by
    rw [PySem.W.dataLt_list]
    exact PySem.W.dataLt_ints ns ms
  have r := PySem.W.rcLt_alike _ _ X.A s v u as bs r1 r2 hal (by intro z; cases z) (by omega)
  rw [e] at r
  exact r X.prog X.w _ _ ⟨.bl (decide (ns < ms)), H, I, rfl, q⟩
theorem od_lt2 {X : Cx} (hu : X.A.units + 64 < cLine) : OD X (compareOp .Lt) rdLt2 := by
  refine ⟨_, op_lt.or (op_lt_str.or (op_ltP hu)), fun pp Hb H x y dx dy Q QD so rx ry h k => ?_⟩
  cases dx <;> first | exact h.elim | skip
  · cases dy <;> first | exact h.elim | skip
    exact .inl ⟨_, _, rx.int so, ry.int so, k _ _ Hb H .refl so rep_bl h⟩
  · cases dy <;> first | exact h.elim | skip
    exact .inr (.inl ⟨_, _, rx.str so, ry.str so, k _ _ Hb H .refl so rep_bl h⟩)
  · cases dy <;> first | exact h.elim | skip
    rename_i a b
    simp only [rdLt2] at h
    split at h
    · rename_i ns ms e1 e2
      have e1 := intsOf_eq e1
      have e2 := intsOf_eq e2
      subst e1 e2
      refine .inr (.inr ⟨ns, ms, ?_, ?_, k _ _ Hb H .refl so rep_bl h⟩)
      · have := repT_dp so (okD_ints ns 59) rx
        rw [pd_ints] at this; exact this
      · have := repT_dp so (okD_ints ms 59) ry
        rw [pd_ints] at this; exact this
    · exact h.elim
end DL

/-! DR5: comprehensions and lists of fractions -/
namespace DL
open PySem PySem.Spec PyProof.Rows L2
theorem rangeD_r (lo : Int) (n : Nat) : rangeD lo n = (List.range' 0 n).map fun i => .int (lo + (i : Nat)) := by rw [rangeD, List.range_eq_range']
theorem lcL_of {α : Type} {h f : α → D} {g : DG} {vs : List Nat} {c : DT} {p : DX} {E : List Sl} : ∀ (l : List α), (∀ x ∈ l, ∀ (N : D → Prop) (M : Prop), N (f x) → g (h x) (wipeD E vs) fun E' => c E' fun b => if b = true then p E' N else M) → ∀ (Q : List D → Prop), Q (l.map f) → lcL g vs c p (l.map h) E Q
  | [], _, Q, k => k
  | x :: l, hb, Q, k => by
    refine hb x (List.mem_cons_self ..) _ _ ?_
    exact lcL_of l (fun y hy => hb y (List.mem_cons_of_mem _ hy)) (fun ys => Q (f x :: ys)) k
/-- the results are such and such, whatever is drawn -/
theorem lcL_any {P : D → Prop} {g : DG} {vs : List Nat} {c : DT} {p : DX} {E : List Sl} : ∀ (l : List D), (∀ x ∈ l, ∀ (N : D → Prop) (M : Prop), (∀ y, P y → N y) → g x (wipeD E vs) fun E' => c E' fun b => if b = true then p E' N else M) → ∀ (Q : List D → Prop), (∀ ys, ys.length = l.length → (∀ y ∈ ys, P y) → Q ys) → lcL g vs c p l E Q
  | [], _, Q, k => k [] rfl (fun _ h => nomatch h)
  | x :: l, hb, Q, k => by
    refine hb x (List.mem_cons_self ..) _ _ fun y hy => ?_
    exact lcL_any l (fun y hy => hb y (List.mem_cons_of_mem _ hy)) (fun ys => Q (y :: ys)) fun ys h1 h2 => k (y :: ys) (by simp [h1]) fun z hz => by
      rcases List.mem_cons.mp hz with rfl | hz
      · exact hy
      · exact h2 z hz
def qL (l : List Rat) : D := .lst (l.map qD)
def qM (m : List (List Rat)) : D := .lst (m.map qL)
theorem c0 : D.tup [.int 0, .int 1] = qD 0 := rfl
theorem c1 : D.tup [.int 1, .int 1] = qD 1 := rfl
theorem qI_D (m : Int) : D.tup [.int m, .int 1] = qD (m : Rat) := by simp [qD]
theorem bz_I {m : Int} {n : Nat} (h : m.natAbs + 1 < 2 ^ n) : bz (m : Rat) ≤ n := bz_of_lt (by simpa using h)
theorem okD_qd (n : Nat) (a : Rat) : okD (n + 1) (qD a) = true := by cases n <;> simp [qD, okD]
theorem deq_qd (a b : Rat) : deq (qD a) (qD b) = decide (a = b) := by
  simp only [qD, deq, deqL, Bool.and_true]
  rw [Bool.eq_iff_iff, decide_eq_true_iff, Bool.and_eq_true, beq_iff_eq, beq_iff_eq]
  constructor
  · rintro ⟨h1, h2⟩
    exact Rat.ext h1 (by omega)
  · rintro rfl; exact ⟨rfl, rfl⟩
theorem num_0 (a : Rat) : deq (.int a.num) (.int 0) = decide (a = 0) := by
  show decide (a.num = 0) = _
  exact decide_eq_decide.mpr Rat.num_eq_zero
theorem num_ge (a : Rat) : decide (0 ≤ a.num) = decide (0 ≤ a) := decide_eq_decide.mpr Rat.num_nonneg
theorem num_gt (a : Rat) : decide (0 < a.num) = decide (0 < a) := decide_eq_decide.mpr (by rw [Rat.lt_iff]; simp)
theorem atD_map {α : Type} {f : α → D} {l : List α} {i : Nat} {x : α} (h : l[i]? = some x) : atD (l.map f) (i : Nat) = some (f x) := by
  rw [atD_nat, List.getElem?_map, h]; rfl
theorem rdIx_map {α : Type} {f : α → D} {l : List α} {i : Nat} {x : α} {Q : D → Prop} (h : l[i]? = some x) (k : Q (f x)) : rdIx (.lst (l.map f)) (.int (i : Nat)) Q := by
  simp only [rdIx, atD_map h]
  exact k
theorem bzs_mem {x : Rat} : ∀ {l : List Rat}, x ∈ l → bz x ≤ bzs l
  | y :: l, h => by
    rw [bzs_cons]
    rcases List.mem_cons.mp h with rfl | h
    · omega
    · have := bzs_mem h; omega
theorem bzs_le {n : Nat} : ∀ {l : List Rat}, (∀ x ∈ l, bz x ≤ n) → bzs l ≤ n * l.length
  | [], _ => by simp [bzs]
  | y :: l, h => by
    rw [bzs_cons, List.length_cons, Nat.mul_succ]
    have := bzs_le (l := l) fun x hx => h x (List.mem_cons_of_mem _ hx)
    have := h y (List.mem_cons_self ..)
    omega
theorem bzs_len : ∀ l : List Rat, l.length ≤ bzs l
  | [] => by simp
  | x :: l => by
    rw [bzs_cons, List.length_cons]
    have := bzs_len l
    have := bz_pos x
    omega
theorem small_9 {q : Int} (h : q.natAbs < 2 ^ 30) : q.natAbs < 2 ^ 9000 := Nat.lt_of_lt_of_le h (Nat.pow_le_pow_right (by decide) (by decide))
theorem bls_of {α : Type} (f : α → Bool) : ∀ l : List α, bls (l.map fun x => D.bl (f x)) = some (l.map f)
  | [] => rfl
  | x :: l => by simp [bls, bls_of f l]
theorem rdAny_of {α : Type} {f : α → Bool} {l : List α} {Q : D → Prop} (k : Q (.bl (l.any f))) : rdAny [.lst (l.map fun x => .bl (f x))] Q := by
  simp only [rdAny, bls_of, List.any_map, Function.id_comp]
  exact k
theorem rdAll_of {α : Type} {f : α → Bool} {l : List α} {Q : D → Prop} (k : Q (.bl (l.all f))) : rdAll [.lst (l.map fun x => .bl (f x))] Q := by
  simp only [rdAll, bls_of, List.all_map, Function.id_comp]
  exact k
theorem size_le {n : Nat} (h : n ≤ 100000) : n ≤ sizeLine := by simp only [sizeLine]; omega
theorem zip_qD {α : Type} {f : α → D} {g : β → D} : ∀ (a : List α) (b : List β), zipD (a.map f) (b.map g) = (a.zip b).map fun z => .tup [f z.1, g z.2]
  | [], _ => rfl
  | _ :: _, [] => rfl
  | x :: a, y :: b => by
    simp only [List.map_cons, List.zip_cons_cons]
    rw [← zip_qD a b]; rfl
theorem cut_take {α : Type} (f : α → D) (l : List α) (k : Nat) : cutD (l.map f) none (some (k : Nat)) = (l.take k).map f := by
  unfold cutD
  rw [HT.sIx_none, HT.sIx_nat, List.drop_zero, Nat.sub_zero, List.length_map, List.map_take]
  rcases Nat.le_total k l.length with h | h
  · rw [Nat.min_eq_left h]
  · rw [Nat.min_eq_right h, List.take_of_length_le (by simp), List.take_of_length_le (by simpa using h)]
theorem cut_drop {α : Type} (f : α → D) (l : List α) (k : Nat) : cutD (l.map f) (some (k : Nat)) none = (l.drop k).map f := by
  unfold cutD
  rw [HT.sIx_none, HT.sIx_nat, List.length_map, List.map_drop]
  rcases Nat.le_total k l.length with h | h
  · rw [Nat.min_eq_left h, List.take_of_length_le (by simp)]
  · rw [Nat.min_eq_right h, List.drop_eq_nil_of_le (by simp), List.drop_eq_nil_of_le (by simpa using h)]; simp
theorem cut_init {α : Type} (f : α → D) (l : List α) : cutD (l.map f) none (some (-1)) = (l.take (l.length - 1)).map f := by
  unfold cutD
  rw [HT.sIx_none, List.drop_zero, Nat.sub_zero, List.length_map, List.map_take]
  have : HT.sIx l.length l.length (some (-1)) = l.length - 1 := by
    unfold HT.sIx
    simp only []
    rw [if_pos (by decide)]
    omega
  rw [this]
theorem each_map {α : Type} {f : α → D} {P : α → Prop} : ∀ {ys : List D}, (∀ y ∈ ys, ∃ x, y = f x ∧ P x) → ∃ l : List α, ys = l.map f ∧ ∀ x ∈ l, P x
  | [], _ => ⟨[], rfl, fun _ h => nomatch h⟩
  | y :: ys, h => by
    obtain ⟨x, rfl, hx⟩ := h y (List.mem_cons_self ..)
    obtain ⟨l, rfl, hl⟩ := each_map (f := f) fun y hy => h y (List.mem_cons_of_mem _ hy)
    exact ⟨x :: l, rfl, fun z hz => by
      rcases List.mem_cons.mp hz with rfl | hz
      · exact hx
      · exact hl z hz⟩
/-! sums -/
def sumN : Nat → (Nat → Rat) → Rat
  | 0, _ => 0
  | n + 1, f => sumN n f + f n
theorem sumN_succ (n : Nat) (f : Nat → Rat) : sumN (n + 1) f = sumN n f + f n := rfl
theorem sumN_congr {f g : Nat → Rat} : ∀ {n : Nat}, (∀ i, i < n → f i = g i) → sumN n f = sumN n g
  | 0, _ => rfl
  | n + 1, h => by rw [sumN_succ, sumN_succ, sumN_congr fun i hi => h i (Nat.lt_succ_of_lt hi), h n (Nat.lt_succ_self n)]
theorem sumN_zero : ∀ n, sumN n (fun _ => 0) = 0
  | 0 => rfl
  | n + 1 => by rw [sumN_succ, sumN_zero n, Rat.add_zero]
theorem sumN_add (f g : Nat → Rat) : ∀ n, sumN n (fun i => f i + g i) = sumN n f + sumN n g
  | 0 => (Rat.add_zero 0).symm
  | n + 1 => by rw [sumN_succ, sumN_succ, sumN_succ, sumN_add f g n]; grind
theorem sumN_mul (c : Rat) (f : Nat → Rat) : ∀ n, sumN n (fun i => c * f i) = c * sumN n f
  | 0 => (Rat.mul_zero c).symm
  | n + 1 => by rw [sumN_succ, sumN_succ, sumN_mul c f n]; grind
theorem sumN_comm (f : Nat → Nat → Rat) (m : Nat) : ∀ n, sumN n (fun i => sumN m (fun j => f i j)) = sumN m (fun j => sumN n (fun i => f i j))
  | 0 => (sumN_zero m).symm
  | n + 1 => by rw [sumN_succ, sumN_comm f m n, ← sumN_add]; rfl
theorem sumN_shift (f : Nat → Rat) : ∀ n, sumN (n + 1) f = f 0 + sumN n (fun i => f (i + 1))
  | 0 => by rw [sumN_succ]; show 0 + f 0 = f 0 + 0; rw [Rat.zero_add, Rat.add_zero]
  | n + 1 => by rw [sumN_succ, sumN_shift f n, sumN_succ, Rat.add_assoc]
end DL

/-! DR7: sorted texts; sorted lists of anything -/
namespace DL
open PySem PySem.Spec PyProof.Rows L2
theorem perm_map_inv {α β : Type} {f : α → β} {xs ys : List β} (h : ys.Perm xs) : ∀ l : List α, ys = l.map f → ∃ l' : List α, xs = l'.map f ∧ l'.Perm l := by
  induction h with
  | nil =>
    intro l e
    exact ⟨[], rfl, by cases l with | nil => exact .refl _ | cons a l => cases e⟩
  | cons x _ ih =>
    intro l e
    cases l with
    | nil => cases e
    | cons a l =>
      injection e with e1 e2
      obtain ⟨l', h1, h2⟩ := ih l e2
      exact ⟨a :: l', by rw [List.map_cons, ← e1, ← h1], h2.cons a⟩
  | swap x y l0 =>
    intro l e
    cases l with
    | nil => cases e
    | cons a l =>
      injection e with e1 e2
      cases l with
      | nil => cases e2
      | cons b l =>
        injection e2 with e3 e4
        exact ⟨b :: a :: l, by rw [List.map_cons, List.map_cons, ← e1, ← e3, ← e4], .swap a b l⟩
  | trans _ _ h1 h2 =>
    intro l e
    obtain ⟨l1, g1, g2⟩ := h1 l e
    obtain ⟨l2, g3, g4⟩ := h2 l1 g1
    exact ⟨l2, g3, g4.trans g2⟩
theorem sortD_map {α : Type} {f : α → D} (l : List α) : ∃ l' : List α, sortD (l.map f) = l'.map f ∧ l'.Perm l := by
  have h := (List.mergeSort_perm (l.map f) (PySem.W.dataLe false pd)).symm
  exact perm_map_inv h l rfl
def strLe (a b : Str) : Bool := decide (a.cps.toList ≤ b.cps.toList)
theorem strLe_trans (a b c : Str) (h1 : strLe a b = true) (h2 : strLe b c = true) : strLe a c = true := by
  unfold strLe at *
  rw [decide_eq_true_iff] at *
  exact List.le_trans h1 h2
theorem strLe_total (a b : Str) : (strLe a b || strLe b a) = true := by
  unfold strLe
  rw [Bool.or_eq_true, decide_eq_true_iff, decide_eq_true_iff]
  exact List.le_total _ _
theorem strLe_anti {a b : Str} (h1 : strLe a b = true) (h2 : strLe b a = true) : a = b := by
  unfold strLe at *
  rw [decide_eq_true_iff] at *
  have := List.le_antisymm h1 h2
  cases a with
  | mk x => cases b with
    | mk y => congr 1; exact Array.toList_inj.mp this
theorem rising_pair : ∀ (r : List Str) (p : Str), risingS p r = true → (p :: r).Pairwise (fun a b => strLe a b = true)
  | [], p, _ => List.pairwise_singleton ..
  | x :: r, p, h => by
    unfold risingS at h
    rw [Bool.and_eq_true] at h
    have ih := rising_pair r x h.2
    have hpx : strLe p x = true := by
      unfold strLe
      rw [decide_eq_true_iff]
      have := h.1
      rw [ltCps_eq] at this
      simpa using this
    refine .cons (fun y hy => ?_) ih
    rcases List.mem_cons.mp hy with e | e
    · rw [e]; exact hpx
    · rw [List.pairwise_cons] at ih
      exact strLe_trans _ _ _ hpx (ih.1 y e)
theorem sortedS_pair {l : List Str} (h : sortedS l = true) : l.Pairwise (fun a b => strLe a b = true) := by
  cases l with
  | nil => exact .nil
  | cons x r => exact rising_pair r x h
theorem sortD_str (l : List Str) : sortD (l.map D.str) = (l.mergeSort strLe).map D.str := by
  unfold sortD
  rw [List.map_mergeSort (s := PySem.W.dataLe false pd)]
  intro a _ b _
  have h := congrFun (congrFun (PySem.W.dataLe_str (fun s : Str => s)) a) b
  exact h.symm
theorem sort_str_pair (l : List Str) : (l.mergeSort strLe).Pairwise (fun a b => strLe a b = true) := List.pairwise_mergeSort strLe_trans strLe_total l
theorem sort_str_eq {l ys ns : List Str} (h1 : ys.Perm ns) (h2 : sortedS ys = true) : (l.mergeSort strLe = ys) ↔ l.Perm ns := by
  constructor
  · intro e
    exact ((List.mergeSort_perm l strLe).symm.trans (e ▸ .refl _)).trans h1
  · intro p
    exact List.Perm.eq_of_pairwise (le := fun a b => strLe a b = true) (fun a b _ _ x y => strLe_anti x y) (sort_str_pair l) (sortedS_pair h2) (((List.mergeSort_perm l strLe).trans p).trans h1.symm)
theorem alike_strs (l : List Str) : alikeD (l.map D.str) := by
  constructor
  · intro d hd d' hd'
    rw [pdL_map, List.map_map, List.mem_map] at hd hd'
    obtain ⟨a, _, rfl⟩ := hd
    obtain ⟨b, _, rfl⟩ := hd'
    simp [pd, PySem.W.alike]
  · refine .inr fun d hd => ?_
    rw [pdL_map, List.map_map, List.mem_map] at hd
    obtain ⟨a, _, rfl⟩ := hd
    exact ⟨(fun h => by cases h), (fun xs h => by cases h)⟩
theorem deqL_strs : ∀ a b : List Str, deqL (a.map D.str) (b.map D.str) = decide (a = b)
  | [], [] => rfl
  | [], _ :: _ => rfl
  | _ :: _, [] => rfl
  | x :: a, y :: b => by
    show (deq (.str x) (.str y) && deqL (a.map D.str) (b.map D.str)) = _
    rw [deqL_strs a b, Bool.eq_iff_iff, Bool.and_eq_true, decide_eq_true_iff, decide_eq_true_iff]
    have e : deq (.str x) (.str y) = true ↔ x = y := by
      show (x == y) = true ↔ x = y
      exact beq_iff_eq
    rw [e, List.cons.injEq]
theorem okD_strs (l : List Str) (n : Nat) : okD (n + 1) (.lst (l.map D.str)) = true := by
  show (l.map D.str).all (okD n) = true
  rw [List.all_eq_true]
  intro d hd
  obtain ⟨a, _, rfl⟩ := List.mem_map.mp hd
  cases n <;> rfl
theorem lcL_filter {α : Type} {h f : α → D} {t : α → Bool} {g : DG} {vs : List Nat} {c : DT} {p : DX} {E : List Sl} : ∀ (l : List α), (∀ x ∈ l, ∀ (N : D → Prop) (M : Prop), (t x = true → N (f x)) → (t x = false → M) → g (h x) (wipeD E vs) fun E' => c E' fun b => if b = true then p E' N else M) → ∀ (Q : List D → Prop), Q ((l.filter t).map f) → lcL g vs c p (l.map h) E Q
  | [], _, Q, k => k
  | x :: l, hb, Q, k => by
    have hb' := fun y hy => hb y (List.mem_cons_of_mem x hy)
    refine hb x (List.mem_cons_self ..) _ _ (fun e => ?_) (fun e => ?_)
    · rw [List.filter_cons_of_pos e] at k
      exact lcL_filter l hb' (fun ys => Q (f x :: ys)) k
    · rw [List.filter_cons_of_neg (by rw [e]; exact Bool.false_ne_true)] at k
      exact lcL_filter l hb' Q k
theorem at_last {ds : List D} {x : D} : atD (ds ++ [x]) (-1) = some x := by
  show (if 0 + 1 ≤ (ds ++ [x]).length then (ds ++ [x])[(ds ++ [x]).length - (0 + 1)]? else none) = some x
  simp
theorem ixN_nat {n k : Nat} (h : k < n) : ixN n ((k : Nat) : Int) = some k := by
  simp [ixN, h]
theorem dv_nn {a b : Int} (ha : 0 ≤ a) (hb : 0 < b) : 0 ≤ Rat.divInt a b := by
  rw [Rat.divInt_eq_div, Rat.div_def]
  exact Rat.mul_nonneg (Rat.intCast_nonneg.mpr ha) (Rat.le_of_lt (Rat.inv_pos.mpr (by have := Rat.intCast_lt_intCast.mpr hb; simpa using this)))
end DL

/-! DR8: dicts of names: looking up, putting, comprehensions -/
namespace DL
open PySem PySem.Spec PyProof.Rows L2
theorem pt_fresh {κ : Type} [DecidableEq κ] {ks : List κ} {ds : List D} {k : κ} {d : D} (h : k ∉ ks) : ptK ks k = ks ++ [k] ∧ ptD ks ds k d = ds ++ [d] := by
  have : ¬ hasK ks k = true := fun z => h (hasK_iff.mp z)
  unfold ptK ptD
  rw [if_neg this, if_neg this]
  exact ⟨rfl, rfl⟩
abbrev kyS (n : Str) : Key := .inr n
theorem kyS_mem {n : Str} {ns : List Str} : kyS n ∈ ns.map kyS ↔ n ∈ ns := by
  rw [List.mem_map]
  constructor
  · rintro ⟨d, hd, e⟩
    have : d = n := by injection e
    exact this ▸ hd
  · exact fun h => ⟨n, h, rfl⟩
theorem lk_look {β : Type} {f : β → D} {n : Str} : ∀ {l : List (Str × β)}, lk (l.map fun z => kyS z.1) (l.map fun z => f z.2) (kyS n) = (l.lookup n).map f
  | [] => rfl
  | (m, b) :: l => by
    rw [List.map_cons, List.map_cons]
    unfold lk
    by_cases e : n = m
    · subst e
      rw [if_pos rfl, List.lookup_cons, beq_self_eq_true]
      rfl
    · rw [if_neg (fun z => e (by injection z with z; exact z.symm)), List.lookup_cons, beq_eq_false_iff_ne.mpr e]
      exact lk_look
theorem lk_ns {f : Str → D} {n : Str} : ∀ {ns : List Str}, n ∈ ns → lk (ns.map kyS) (ns.map f) (kyS n) = some (f n)
  | m :: ns, h => by
    rw [List.map_cons, List.map_cons]
    unfold lk
    by_cases e : m = n
    · subst e
      rw [if_pos rfl]
    · rw [if_neg (fun z => e (by injection z))]
      exact lk_ns ((List.mem_cons.mp h).resolve_left fun z => e z.symm)
theorem lk_no {f : Str → D} {n : Str} : ∀ {ns : List Str}, n ∉ ns → lk (ns.map kyS) (ns.map f) (kyS n) = none
  | [], _ => rfl
  | m :: ns, h => by
    rw [List.map_cons, List.map_cons]
    unfold lk
    rw [List.mem_cons, not_or] at h
    rw [if_neg (fun z => h.1 (by injection z with z; exact z.symm))]
    exact lk_no h.2
theorem has_ns {n : Str} {ns : List Str} : hasK (ns.map kyS) (kyS n) = decide (n ∈ ns) := by
  rw [Bool.eq_iff_iff, hasK_iff, kyS_mem, decide_eq_true_iff]
/-- a name that stands gets another value -/
theorem pt_upd {f : Str → D} {n : Str} {d : D} {ns : List Str} (h : n ∈ ns) : ptK (ns.map kyS) (kyS n) = ns.map kyS ∧ ptD (ns.map kyS) (ns.map f) (kyS n) d = ns.map fun m => if m = n then d else f m := by
  have hk : hasK (ns.map kyS) (kyS n) = true := hasK_iff.mpr (kyS_mem.mpr h)
  unfold ptK ptD
  rw [if_pos hk, if_pos hk]
  refine ⟨rfl, ?_⟩
  clear h hk
  induction ns with
  | nil => rfl
  | cons m ns ih =>
    rw [List.map_cons, List.map_cons, List.zipWith_cons_cons, List.map_cons, ih]
    congr 1
    by_cases e : m = n
    · subst e; rw [if_pos rfl, if_pos rfl]
    · rw [if_neg e, if_neg (fun z => e (by injection z))]
theorem pt_add {f : Str → D} {n : Str} {d : D} {ns : List Str} (h : n ∉ ns) : ptK (ns.map kyS) (kyS n) = (ns ++ [n]).map kyS ∧ ptD (ns.map kyS) (ns.map f) (kyS n) d = ns.map f ++ [d] := by
  obtain ⟨h1, h2⟩ := pt_fresh (ds := ns.map f) (d := d) (fun z => h (kyS_mem.mp z) : kyS n ∉ ns.map kyS)
  rw [h1, h2, List.map_append]
  exact ⟨rfl, rfl⟩
/-- a dict comprehension without tests, its keys different -/
theorem dcL_of {α : Type} {h f : α → D} {kf : α → Key} {g : DG} {vs : List Nat} {c : DT} {pk pv : DX} {E : List Sl} : ∀ (l : List α) (ks : List Key) (ds : List D), (ks ++ l.map kf).Nodup →
    (∀ x ∈ l, ∀ (N : Key → D → Prop) (M : Prop), N (kf x) (f x) → g (h x) (wipeD E vs) fun E' => c E' fun b => if b = true then pk E' fun kd => pv E' fun y => match keyOf kd with
      | some k => N k y
      | none => False
    else M) → ∀ (Q : List Key → List D → Prop), Q (ks ++ l.map kf) (ds ++ l.map f) → dcL g vs c pk pv (l.map h) E ks ds Q
  | [], ks, ds, _, _, Q, q => by simpa [dcL] using q
  | x :: l, ks, ds, nd, hb, Q, q => by
    rw [List.map_cons] at nd q ⊢
    have hk : kf x ∉ ks := fun z => by
      rw [List.nodup_append] at nd
      exact nd.2.2 _ z _ (by simp) rfl
    obtain ⟨e1, e2⟩ := pt_fresh (ds := ds) (d := f x) hk
    refine hb x (List.mem_cons_self ..) (fun k y => dcL g vs c pk pv (l.map h) E (ptK ks k) (ptD ks ds k y) Q) _ ?_
    show dcL g vs c pk pv (l.map h) E (ptK ks (kf x)) (ptD ks ds (kf x) (f x)) Q
    rw [e1, e2]
    refine dcL_of l _ _ (by simpa using nd) (fun y hy => hb y (List.mem_cons_of_mem _ hy)) Q ?_
    simpa using q
theorem deL_of {α : Type} {h f : α → D} {kf : α → Key} {g : DG} {vs : List Nat} {pk pv : DX} {E : List Sl} : ∀ (l : List α) (ks : List Key) (ds : List D), (ks ++ l.map kf).Nodup →
    (∀ x ∈ l, ∀ (N : Key → D → Prop), N (kf x) (f x) → g (h x) (wipeD E vs) fun E' => pv E' fun y => pk E' fun kd => match keyOf kd with
      | some k => N k y
      | none => False) → ∀ (Q : List Key → List D → Prop), Q (ks ++ l.map kf) (ds ++ l.map f) → deL g vs pk pv (l.map h) E ks ds Q
  | [], ks, ds, _, _, Q, q => by simpa [deL] using q
  | x :: l, ks, ds, nd, hb, Q, q => by
    rw [List.map_cons] at nd q ⊢
    have hk : kf x ∉ ks := fun z => by
      rw [List.nodup_append] at nd
      exact nd.2.2 _ z _ (by simp) rfl
    obtain ⟨e1, e2⟩ := pt_fresh (ds := ds) (d := f x) hk
    refine hb x (List.mem_cons_self ..) (fun k y => deL g vs pk pv (l.map h) E (ptK ks k) (ptD ks ds k y) Q) ?_
    show deL g vs pk pv (l.map h) E (ptK ks (kf x)) (ptD ks ds (kf x) (f x)) Q
    rw [e1, e2]
    refine deL_of l _ _ (by simpa using nd) (fun y hy => hb y (List.mem_cons_of_mem _ hy)) Q ?_
    simpa using q
/-- a chain of two comparisons of ints -/
theorem chain_le {a b c : Int} {Q : D → Prop} (q : Q (.bl (decide (a ≤ b ∧ b ≤ c)))) : if decide (a ≤ b) = true then Q (.bl (decide (b ≤ c))) else Q (.bl false) := by
  by_cases h : a ≤ b
  · rw [decide_eq_true h, if_pos rfl]
    simpa [h] using q
  · rw [decide_eq_false h, if_neg Bool.false_ne_true]
    simpa [h] using q
end DL

/-! DR6: a list times an int; laws of two parts -/
namespace DL
open PySem PySem.Spec PyProof.Rows L2
section
variable {X : Cx} {a b : Expr} {pa pb : DX} {pos : Pos}
theorem repL_rep {pp : Addr} {K : FK} {H : Hp} {ds : List D} {vs : List V} (r : RepL pp K H ds vs) : ∀ n, RepL pp K H (List.replicate n ds).flatten (List.replicate n vs).flatten
  | 0 => .nil
  | n + 1 => by
    rw [List.replicate_succ, List.replicate_succ, List.flatten_cons, List.flatten_cons]
    exact r.app (repL_rep r n)
/-- a list times an int -/
def dRep (pa pb : DX) : DX := fun E Q => pa E fun x => pb E fun y => match x, y with
  | .lst ds, .int k => -(2 ^ 62) ≤ k ∧ k < 2 ^ 62 ∧ ds.length * k.toNat ≤ 1000000 ∧ Q (.lst (List.replicate k.toNat ds).flatten)
  | _, _ => False
theorem f_rep (ha : QO X a pa) (hb : QO X b pb) : QF X (.BinOp a .Mult b pos) (dRep pa pb) := by
  obtain ⟨t, h1, h2⟩ := ha
  obtain ⟨u, g1, g2⟩ := hb
  refine ⟨_, pe_op op_rep h1 g1, fun pp HE Hb H σ E Q QD so er hp k => ?_⟩
  refine h2 pp HE Hb H σ E _ _ so er hp fun v d Hb1 H1 s1 so1 r1 q1 => ?_
  refine g2 pp HE Hb1 H1 σ E _ _ so1 (er.step s1) q1 fun v2 d2 Hb2 H2 s2 so2 r2 q2 => ?_
  split at q2
  · rename_i ds n
    obtain ⟨k1, k2, k3, k4⟩ := q2
    obtain ⟨l, xs, rfl, hl, rl⟩ := (r1.step s2).lst so2
    have e2 := r2.int so2
    subst e2
    refine ⟨l, n, xs, rfl, rfl, hl, by omega, by omega, by rw [rl.length]; simp only [sizeLine]; omega, fun p hp => ?_⟩
    obtain ⟨s3, so3⟩ := lay_own (u := .lst (List.replicate n.toNat xs).flatten) so2 hp
    have hna : H p = none := by
      cases z : H p with
      | none => rfl
      | some o => exact absurd hp ((s1.trans s2).st p (by rw [z]; exact fun y => nomatch y))
    exact k p (.lst _) _ _ ((s1.trans s2).trans s3) so3 hna ⟨so2.nb hp, so2.ne hp, ⟨_, upd_same, repL_rep rl _⟩⟩ k4
  · exact q2.elim
end
/-- a part of a law: it says True, and leaves what is there -/
def spPart (K : FK) : Sp := fun vs H Q _ => ∃ (a : Addr) (ns : List Int), vs = [.ref a] ∧ SqL K H a (ns.map V.int) ∧ ∀ H', Same H H' → Q (.bl true) H'
theorem part_go {X : Cx} {t : TS} {p : DS} {Dn : Ends} {a : Addr} {ns : List Int} {H : Hp} {n : Nat} (h2 : RS X t p)
    (hs : SqL X.K H a (ns.map V.int)) (q : ∀ H', Same H H' → Dn.rt (.bl true) H') (hp : ∀ QD : D → Prop, QD (.bl true) → p ⟨fun _ => False, QD, fun _ => False, fun _ => False, fun _ => False, fun _ _ => False⟩ (.no :: .sh .pool :: List.replicate n .no)) :
    tSeq (tAsg (tCall (spPool X.K) [] E0 (tCons (tVar 0) tNil)) (gName 1)) t Dn (some (.ref a) :: none :: List.replicate n none) H := by
  refine ⟨_, rfl, a, ns, rfl, hs, fun l r hl => ?_⟩
  have so : SOk l X.K H (upd H l (.lst [.ref a, .int 0, .int r, .int 0])) := by
    refine ⟨fun b o h => ?_, hl, ⟨a, ns, 0, r, 0, upd_same, hs⟩, fun b xs h => ?_⟩
    · rw [upd_ne (fun z => by subst z; rw [hl] at h; cases h)]
      exact h
    · by_cases e : b = l
      · subst e; rw [upd_same] at h; cases h
      · rw [upd_ne e] at h; exact h
  refine h2 l H H H _ _ _ _ ⟨fun _ => False, fun d => d = .bl true, fun _ => False, fun _ => False, fun _ => False, fun _ _ => False⟩ ?_ so ?_ (hp _ rfl) ?_
  · refine ⟨Same.refl _, fun b o hb h => by rw [upd_ne hb]; exact h, fun b h => ?_, fun b h _ => h⟩
    by_cases e : b = l
    · subst e; exact absurd hl h
    · rw [upd_ne e]; exact h
  · refine ⟨?_, fun i d h => ?_, fun i d h => ?_, fun i j p d d' hij h => ?_, fun i b dd x h => ?_⟩
    · simp [gName]
    · match i, h with
      | 0, h => cases h
      | 1, h =>
        cases h
        exact ⟨.ref l, rfl, rfl⟩
      | i + 2, h => exact (rep_no (by simp) h).elim
    · match i, h with
      | 0, h => cases h
      | 1, h => cases h
      | i + 2, h => exact (rep_no (by simp) h).elim
    · match i, h with
      | 0, h => cases h
      | 1, h => cases h
      | i + 2, h => exact (rep_no (by simp) h).elim
    · match i, h with
      | 0, h => cases h
      | 1, h => cases h
      | i + 2, h => exact (rep_no (by simp) h).elim
  · refine ⟨fun Hb H σ E s so er h => h.elim, fun Hb H' v d s so r h => ?_, fun Hb H σ E s so er h => h.elim, fun Hb H σ E s so er h => h.elim, fun Hb H p d s so n o h => h.elim, fun _ _ _ _ _ _ _ _ _ _ _ h => h.elim⟩
    have h : d = .bl true := h
    subst h
    have : v = .bl true := r
    subst this
    refine q _ fun b o e => s.ex b o (fun z => ?_) e
    subst z
    rw [hl] at e
    cases e
theorem part_run {X : Cx} {st0 : Stmt} {tail : List Stmt} {p : DS} {Dn : Ends} {a : Addr} {ns : List Int} {H : Hp} {n : Nat} (h0 : PS X st0 (tAsg (tCall (spPool X.K) [] E0 (tCons (tVar 0) tNil)) (gName 1))) (R : QSs X tail p)
    (hs : SqL X.K H a (ns.map V.int)) (q : ∀ H', Same H H' → Dn.rt (.bl true) H') (hp : ∀ QD : D → Prop, QD (.bl true) → p ⟨fun _ => False, QD, fun _ => False, fun _ => False, fun _ => False, fun _ _ => False⟩ (.no :: .sh .pool :: List.replicate n .no)) :
    ∃ t, PSs X (st0 :: tail) t ∧ t Dn (some (.ref a) :: none :: List.replicate n none) H := by
  obtain ⟨t, h1, h2⟩ := R
  exact ⟨_, pss_cons h0 h1, part_go h2 hs q hp⟩
/-- a law whose first statement asks its first part -/
theorem law_run2 {X : Cx} {st st0 : Stmt} {tail : List Stmt} {p : DS} {Dn : Ends} {a : Addr} {ns : List Int} {H : Hp} {n : Nat}
    (hf : PS X st (tIfS (tNot (tB (tCall (spPart X.K) [] E0 (tCons (tVar 0) tNil)))) (tRet (tC (.bl false))) tNext))
    (h0 : PS X st0 (tAsg (tCall (spPool X.K) [] E0 (tCons (tVar 0) tNil)) (gName 1))) (R : QSs X tail p)
    (hs : SqL X.K H a (ns.map V.int)) (q : ∀ H', Dn.rt (.bl true) H') (hp : ∀ QD : D → Prop, QD (.bl true) → p ⟨fun _ => False, QD, fun _ => False, fun _ => False, fun _ => False, fun _ _ => False⟩ (.no :: .sh .pool :: List.replicate n .no)) :
    ∃ t, PSs X (st :: st0 :: tail) t ∧ t Dn (some (.ref a) :: none :: List.replicate n none) H := by
  obtain ⟨t, h1, h2⟩ := R
  refine ⟨_, pss_cons hf (pss_cons h0 h1), ?_⟩
  refine ⟨_, rfl, a, ns, rfl, hs, fun H1 e => ⟨true, rfl, ?_⟩⟩
  exact part_go h2 ((Le.of_same e).sqL hs) (fun H' _ => q H') hp
end DL

/-! DX: readings run by simp; loops by an invariant -/
namespace DL
open PySem PySem.Spec PyProof.Rows L2
section
variable {Q : D → Prop} {i j : Int} {a b : List D} {x y : Str}
theorem rdAdd_ii : rdAdd (.int i) (.int j) Q = Q (.int (i + j)) := rfl
theorem rdAdd_ll : rdAdd (.lst a) (.lst b) Q = (a.length + b.length ≤ sizeLine ∧ Q (.lst (a ++ b))) := rfl
theorem rdAdd_tt : rdAdd (.tup a) (.tup b) Q = (a.length + b.length ≤ sizeLine ∧ Q (.tup (a ++ b))) := rfl
theorem rdSub_ii : rdSub (.int i) (.int j) Q = Q (.int (i - j)) := rfl
theorem rdMul_ii : rdMul (.int i) (.int j) Q = (CMulX i j ∧ Q (.int (i * j))) := rfl
theorem rdDiv_ii : rdDiv (.int i) (.int j) Q = (CDivA i j ∧ Q (.int (i.fdiv j))) := rfl
theorem rdMod_ii : rdMod (.int i) (.int j) Q = (j ≠ 0 ∧ Q (.int (i.fmod j))) := rfl
theorem rdLt_ii : rdLt (.int i) (.int j) Q = Q (.bl (decide (i < j))) := rfl
theorem rdLe_ii : rdLe (.int i) (.int j) Q = Q (.bl (decide (i ≤ j))) := rfl
theorem rdGt_ii : rdGt (.int i) (.int j) Q = Q (.bl (decide (j < i))) := rfl
theorem rdGe_ii : rdGe (.int i) (.int j) Q = Q (.bl (decide (j ≤ i))) := rfl
theorem rdEq_ii : rdEq (.int i) (.int j) Q = Q (.bl (decide (i = j))) := propext ⟨fun h => h.2.2, fun h => ⟨rfl, rfl, h⟩⟩
theorem rdNe_ii : rdNe (.int i) (.int j) Q = Q (.bl (!decide (i = j))) := propext ⟨fun h => h.2.2, fun h => ⟨rfl, rfl, h⟩⟩
theorem rdEq_ss : rdEq (.str x) (.str y) Q = Q (.bl (decide (x = y))) := propext ⟨fun h => h.2.2, fun h => ⟨rfl, rfl, h⟩⟩
theorem rdNe_ss : rdNe (.str x) (.str y) Q = Q (.bl (!decide (x = y))) := propext ⟨fun h => h.2.2, fun h => ⟨rfl, rfl, h⟩⟩
theorem rdEq_bb {a b : Bool} : rdEq (.bl a) (.bl b) Q = Q (.bl (a == b)) := propext ⟨fun h => h.2.2, fun h => ⟨rfl, rfl, h⟩⟩
theorem rdNe_bb {a b : Bool} : rdNe (.bl a) (.bl b) Q = Q (.bl (!(a == b))) := propext ⟨fun h => h.2.2, fun h => ⟨rfl, rfl, h⟩⟩
theorem rdIs_nn : rdIs .non .non Q = Q (.bl true) := rfl
theorem rdIs_in : rdIs (.int i) .non Q = Q (.bl false) := rfl
theorem rdIs_sn : rdIs (.str x) .non Q = Q (.bl false) := rfl
theorem rdIs_tn : rdIs (.tup a) .non Q = Q (.bl false) := rfl
theorem rdIs_ln : rdIs (.lst a) .non Q = Q (.bl false) := rfl
theorem rdIs_dn {ks : List Key} : rdIs (.dic ks a) .non Q = Q (.bl false) := rfl
theorem rdIs_bb {a b : Bool} : rdIs (.bl a) (.bl b) Q = Q (.bl (a == b)) := rfl
theorem rdIsNot_nn : rdIsNot .non .non Q = Q (.bl false) := rfl
theorem rdIsNot_in : rdIsNot (.int i) .non Q = Q (.bl true) := rfl
theorem rdIsNot_sn : rdIsNot (.str x) .non Q = Q (.bl true) := rfl
theorem rdIsNot_tn : rdIsNot (.tup a) .non Q = Q (.bl true) := rfl
theorem rdIsNot_ln : rdIsNot (.lst a) .non Q = Q (.bl true) := rfl
theorem rdIsNot_dn {ks : List Key} : rdIsNot (.dic ks a) .non Q = Q (.bl true) := rfl
theorem rdIx_t0 {d : D} : rdIx (.tup (d :: a)) (.int 0) Q = Q d := rfl
theorem rdIx_t1 {d e : D} : rdIx (.tup (d :: e :: a)) (.int 1) Q = Q e := rfl
theorem rdIx_t2 {d e f : D} : rdIx (.tup (d :: e :: f :: a)) (.int 2) Q = Q f := rfl
theorem rdIx_t3 {d e f g : D} : rdIx (.tup (d :: e :: f :: g :: a)) (.int 3) Q = Q g := rfl
theorem rdIx_l0 {d : D} : rdIx (.lst (d :: a)) (.int 0) Q = Q d := rfl
theorem rdIx_l1 {d e : D} : rdIx (.lst (d :: e :: a)) (.int 1) Q = Q e := rfl
theorem rdIx_ds {ks : List Key} : rdIx (.dic ks a) (.str x) Q = match lk ks a (.inr x) with | some d => Q d | none => False := rfl
theorem rdIx_di {ks : List Key} : rdIx (.dic ks a) (.int i) Q = match lk ks a (.inl i) with | some d => Q d | none => False := rfl
theorem rdIn_sd {ks : List Key} : rdIn (.str x) (.dic ks a) Q = Q (.bl (hasK ks (.inr x))) := rfl
theorem rdIn_id {ks : List Key} : rdIn (.int i) (.dic ks a) Q = Q (.bl (hasK ks (.inl i))) := rfl
theorem rdNotIn_sd {ks : List Key} : rdNotIn (.str x) (.dic ks a) Q = Q (.bl (!hasK ks (.inr x))) := rfl
theorem rdNotIn_id {ks : List Key} : rdNotIn (.int i) (.dic ks a) Q = Q (.bl (!hasK ks (.inl i))) := rfl
theorem rdNeg_i : rdNeg (.int i) Q = Q (.int (-i)) := rfl
theorem rdLen_l : rdLen [.lst a] Q = Q (.int (a.length : Nat)) := rfl
theorem rdLen_t : rdLen [.tup a] Q = Q (.int (a.length : Nat)) := rfl
theorem rdLen_d {ks : List Key} : rdLen [.dic ks a] Q = Q (.int (ks.length : Nat)) := rfl
theorem rdMax2_ii : rdMax2 [.int i, .int j] Q = Q (.int (max i j)) := by
  have : (if j > i then j else i) = max i j := by split <;> omega
  show Q _ = _; rw [this]
theorem rdMin2_ii : rdMin2 [.int i, .int j] Q = Q (.int (min i j)) := by
  have : (if j < i then j else i) = min i j := by split <;> omega
  show Q _ = _; rw [this]
theorem rdAbs_i : rdAbs [.int i] Q = Q (.int (if i < 0 then -i else i)) := rfl
theorem rdInt_i : rdInt [.int i] Q = Q (.int i) := rfl
theorem rdInt_b {b : Bool} : rdInt [.bl b] Q = Q (.int (if b then 1 else 0)) := rfl
theorem rdStr_i : rdStr [.int i] Q = (i.natAbs.log2 < 1920 ∧ Q (.str (strOfInt i))) := rfl
theorem rdDict_d {ks : List Key} : rdDict [.dic ks a] Q = Q (.dic ks a) := rfl
theorem rdList_l : rdList [.lst a] Q = Q (.lst a) := rfl
theorem rdList_t : rdList [.tup a] Q = Q (.lst a) := rfl
theorem rdTuple_l : rdTuple [.lst a] Q = Q (.tup a) := rfl
theorem rdSum_ints {l : List Int} : rdSum [.lst (l.map D.int)] Q = Q (.int l.sum) := by
  show (match intsD (l.map D.int) with | some bs => Q (.int bs.sum) | none => False) = _
  rw [intsD_map]
theorem ltB_eq {a b : Bool} : (match D.bl a with | .bl k => (k = b) | _ => False) = (a = b) := rfl
end
theorem mulx_small {i j : Int} (h1 : i.natAbs < 2 ^ 30) (h2 : j.natAbs < 2 ^ 30) : CMulX i j := mulx_ok (a := 30) (b := 30) h1 h2 (by decide)
theorem size_lt {n : Nat} (h : n ≤ 100000) : n < sizeLine := by simp only [sizeLine]; omega
/-- a loop by an invariant over what is done -/
theorem forL_ind {α : Type} {h : α → D} {g : DG} {b : DS} {DD : DEnds} {l : List α} (I : List α → List Sl → Prop)
    (step : ∀ (done : List α) (x : α) (rest : List α), l = done ++ x :: rest → ∀ (E : List Sl) (K : List Sl → Prop), I done E → (∀ E', I (done ++ [x]) E' → K E') → g (h x) E fun E' => b { DD with nx := K, ct := K, bk := DD.nx } E')
    {E : List Sl} (h0 : I [] E) (k : ∀ E, I l E → DD.nx E) : forL g b DD (l.map h) E := by
  have go : ∀ (r done : List α) (E : List Sl), l = done ++ r → I done E → forL g b DD (r.map h) E := by
    intro r
    induction r with
    | nil => intro done E e hE; rw [List.append_nil] at e; subst e; exact k E hE
    | cons x r ih =>
      intro done E e hE
      exact step done x r e E _ hE fun E' hE' => ih (done ++ [x]) E' (by rw [e]; simp) hE'
  exact go l [] E rfl h0
/-- .. over 0, 1, .. n - 1 -/
theorem forL_rng {g : DG} {b : DS} {DD : DEnds} {n : Nat} (I : Nat → List Sl → Prop)
    (step : ∀ i, i < n → ∀ (E : List Sl) (K : List Sl → Prop), I i E → (∀ E', I (i + 1) E' → K E') → g (.int (i : Nat)) E fun E' => b { DD with nx := K, ct := K, bk := DD.nx } E')
    {E : List Sl} (h0 : I 0 E) (k : ∀ E, I n E → DD.nx E) : forL g b DD (rangeD 0 n) E := by
  have go : ∀ (m i : Nat) (E : List Sl), i + m = n → I i E → forL g b DD ((List.range' i m).map fun i => .int (0 + (i : Nat))) E := by
    intro m
    induction m with
    | zero => intro i E e hE; have : i = n := by omega
              subst this; exact k E hE
    | succ m ih =>
      intro i E e hE
      rw [List.range'_succ, List.map_cons, show (0 : Int) + ((i : Nat) : Int) = ((i : Nat) : Int) by omega]
      exact step i (by omega) E _ hE fun E' hE' => ih (i + 1) E' (by omega) hE'
  rw [rangeD, List.range_eq_range']
  exact go n 0 E (by omega) h0
theorem bct {c : Bool} {p q : Prop} (h1 : c = true → p) (h2 : c = false → q) : if c = true then p else q := ite_ct h1 h2
theorem dif {c : Prop} [Decidable c] {p q : Prop} (h1 : c → p) (h2 : ¬ c → q) : if decide c = true then p else q := ite_ct (fun g => h1 (of_decide_eq_true g)) (fun g => h2 (of_decide_eq_false g))
theorem ndif {c : Prop} [Decidable c] {p q : Prop} (h1 : ¬ c → p) (h2 : c → q) : if (!decide c) = true then p else q := ite_ct (fun g => h1 (by simpa using g)) (fun g => h2 (by simpa using g))
end DL

/-! EX1: the making of an own error whose __init__ says super().__init__('..') and keeps its arguments -/
namespace PySem
namespace ErX
open PySem.W PySem.Calls PyProof.Rows PySem.HandSPX
/-- self.f = f -/
abbrev stOne (f : Str) (q : Pos × Pos × Pos × Pos) : Stmt := .Assign [.Attribute (.Name "self" q.1) f q.2.1] (.Name f q.2.2.1) q.2.2.2
def stAll : List (Str × Pos × Pos × Pos × Pos) → List Stmt
  | [] => []
  | z :: r => stOne z.1 z.2 :: stAll r
/-- an argument of super().__init__: a text or a field's name -/
inductive SA where
  | c (txt : Str) (k : Nat) (p : Pos) | n (x : Str) (p : Pos)
def SA.e : SA → Expr
  | .c t k p => .Constant (.str t) k p
  | .n x p => .Name x p
def SA.ok (fs : List Str) : SA → Bool
  | .c _ _ _ => true
  | .n x _ => decide (x ∈ fs)
def saOk (fs : List Str) (ag : List SA) : Bool := !ag.isEmpty && decide (ag.length ≤ 100) && ag.all (SA.ok fs)
def toSA : Expr → SA
  | .Constant (.str t) k p => .c t k p
  | .Name x p => .n x p
  | _ => .n (Str.ofString "?") ⟨0, 0, 0, 0⟩
def agOf : List Stmt → List SA
  | .Expr (.Call _ as _ _) _ :: _ => as.map toSA
  | _ => []
/-- super().__init__(..), its head, arguments and place as they are read (where it stands on one line) -/
def SupEval (p0 p1 p2 p4 : Pos) (ag : List SA) (fs : List Str) : Prop := saOk fs ag = true ∧ ∃ pl : Sem Bool, ∀ env : Env, eval (.Call (.Attribute (.Call (.Name "super" p0) [] [] p1) "__init__" p2) (ag.map SA.e) [] p4) env = (do
      let ov ← attributeBase (.Call (.Name "super" p0) [] [] p1) "__init__" env (eval (.Call (.Name "super" p0) [] [] p1) env)
      standAt p2.atName
      let (f, first) ← holding [ov] (getMethod ov "__init__" pl)
      callWith p4 f first (backTo p4 (starEach (ag.map SA.e) env)) [])
/-- what the written part says of an error's class -/
structure ErrTxt (P : Program) (K : Frag) (mg : Str → Option Value) (nm : Str) (fs : List Str) (C : Addr) : Prop where
  gC : mg nm = some (.ref C)
  cls : ∃ nm q N bs bm sn sub ab col dd k0 k1 k2 k3 k5, K.lookup C = some (excClassObj nm q C N bs bm true sn sub ab col dd k0 k1 k2 k3 k5 "ValueError.__new__") ∧ refsVE bm = true ∧ alongIn K "__init__" bm = some (some (.builtin "ValueError.__init__")) ∧ (∀ D ∈ bm, D ≠ .ref C)
  sa : findIn K (.ref C) "__setattr__" = some (some (.builtin "object.__setattr__"))
  ga : findIn K (.ref C) "__getattribute__" = some (some (.builtin "BaseException.__getattribute__"))
  gg : findIn K (.ref C) "__getattr__" = some none
  noN : ∀ f ∈ fs, findIn K (.ref C) f = some none
  nd : fs.Nodup
  kC : keepIn K (.ref C) = true
  exC : subIn K (.ref C) (.type "BaseException") = some true
  slf : subIn K (.ref C) (.ref C) = some true
  inE : mroIn K C (.ref C) = some true
  veE : mroIn K C (.type "ValueError") = some true
  icC : isClsIn K C = true
  tyC : typeIn K (.ref C) = some (.type "type")
  hdC : hasDictIn K C = true
  ho : nsIn K cStatics "thirdparty.any" = some none
  mgs : mg "super" = none
  top : (P.main.scope.names.lookup ("super" : Str)).isSome = false
  fn : ∃ (fI cc cda : Addr) (oc cl ccl : Value) (od cld cdd : Option Addr) (qual : Str) (params : Arguments) (scope : Scope) (doc pm : Value) (an : Option Addr) (ct : Value) (osl csl ccs : Array (Option Value)) (p0 p1 p2 p4 p5 : Pos) (ag : List SA) (sts : List (Str × Pos × Pos × Pos × Pos)) (vs : Array Value) (file : Str) (tf : Tok) (ar : Arg),
    findIn K (.ref C) "__init__" = some (some (.ref fI)) ∧ typeIn K (.ref fI) = some (.type "function") ∧
    K.lookup fI = some ⟨oc, od, .func (fnX "__init__" qual params (.Expr (.Call (.Attribute (.Call (.Name "super" p0) [] [] p1) "__init__" p2) (ag.map SA.e) [] p4) p5 :: stAll sts) scope [("__class__", cc)] .none .none doc pm an (.ref cda) ct), osl⟩ ∧
    codeIn K (.ref cda) qual = true ∧ sts.map (·.1) = fs ∧
    (∀ (s : Shared) (x : Value) (us : List Value), us.length = fs.length → BindsTo s (fnX "__init__" qual params (.Expr (.Call (.Attribute (.Call (.Name "super" p0) [] [] p1) "__init__" p2) (ag.map SA.e) [] p4) p5 :: stAll sts) scope [("__class__", cc)] .none .none doc pm an (.ref cda) ct) ⟨x :: us, []⟩ ((("self" : Str), x) :: fs.zip us)) ∧
    scope.kind = .function ∧ scope.isCoroutine = false ∧ scope.isGenerator = false ∧ (∀ x ∈ scope.names, x.2 ≠ .cell) ∧ (∀ x ∈ ("self" : Str) :: fs, scope.names.lookup x = some .local) ∧ ("self" : Str) ∉ fs ∧
    scope.names.lookup ("__class__" : Str) = some .free ∧ scope.names.lookup ("super" : Str) = some .globalImplicit ∧ (params.posonlyargs ++ params.args).head? = some ar ∧ ar.arg = "self" ∧
    K.lookup cc = some ⟨cl, cld, .cell (some (.ref C)), csl⟩ ∧ K.lookup cda = some ⟨ccl, cdd, .fields vs, ccs⟩ ∧ vs[2]? = some (.str file tf) ∧ ((P.main.file : Str) == file) = true ∧ (∀ x ∈ fs, (x == ("__debug__" : Str)) = false) ∧ SupEval p0 p1 p2 p4 ag fs
/-- what is known of fields -/
def fldM (fs : List (Str × Value)) : Str → Option Value := fun y => fs.lookup y
/-- what __init__ leaves of a fresh exception at x -/
structure InitEnd (h h' : Heap) (x C dx t1 : Addr) (fv : List (Str × Value)) : Prop where
  keep : ∀ b o, b ≠ x → h.get? b = some o → h'.get? b = some o
  obj : h'.get? x = some { cls := .ref C, dict := some dx, data := .fields #[.ref t1, .none, .none, .none, .bool false, .none] }
  dbig : h.objs.size ≤ dx
  dne : dx ≠ x
  ns : h'.Ns1 dx (fldM fv)
section
variable {prog : Program} {w : World} {A : Around} {E : Value → Shared → Prop} {R : Result → Shared → Prop} {h : Heap} {g : Array GenState} {d : Drawn} {t : Nat} {os : OsState} {K : Frag} {mg : Str → Option Value} {C fI : Addr}
/-- super().__init__ called: the exception's args are told anew -/
theorem call_mw {nm q : Str} {N : Addr} {bs bm : List Value} {hdct : Bool} {sn : List Str} {sub : List Value} {ab : Bool} {col : Option Bool} {dd : Option Addr} {k0 k1 k2 k3 k5 : Option Value} {u e t0 : Addr} {rest : List Value} {Q : Value → Shared → Prop}
    (hC : h.get? C = some (excClassObj nm q C N bs bm hdct sn sub ab col dd k0 k1 k2 k3 k5 "ValueError.__new__")) (he : h.get? e = some (HandSPX.excO C t0)) (hu : h.get? u = some (kxs_mw "ValueError.__init__" e)) (hrest : rest.length ≤ sizeLine)
    (hq : ∀ h' t1, (∀ b o, b ≠ e → h.get? b = some o → h'.get? b = some o) → h'.get? e = some (HandSPX.excO C t1) → Q .none ⟨h', g, d, t, os⟩) :
    wpAny (model prog w) A (call (.ref u) rest) Q E ⟨h, g, d, t, os⟩ := by
  refine wpAny_call (codeAny_of_tree ?_)
  show wpAny _ A.in1 (callAny (.ref u) ⟨rest, []⟩) _ _ _
  simp only [callAny]
  refine wpAny_bind (wpAny_load hu ?_)
  simp only [kxs_mw, show (Value.type "method-wrapper" == Value.type "method" || Value.type "method-wrapper" == Value.type "builtin_function_or_method" || Value.type "method-wrapper" == Value.type "method-wrapper") = true by decide, if_true]
  refine W.KFB.if_so (by decide) ?_
  refine wpAny_bind (PySem.ESX.check_bound F.excBase_ValueError hC he rfl ?_)
  refine wpAny_bind (wpAny_pure (wpAny_pure ?_))
  refine ⟨Code.quiet_builtin _ (by decide +kernel), codeAny_builtin F.excBase_ValueError.initEntry ?_⟩
  rw [Around.under_plainId F.excBase_ValueError.init.plain _]
  wp_walk
  refine hq _ h.objs.size (fun b o hb ho => ?_) ?_
  · rw [Heap.get?_update_other _ _ (Ne.symm hb)]
    exact Heap.get?_push_of_some _ ho
  · rw [Heap.get?_update_self _ (Heap.get?_push_of_some _ he) rfl]
    rfl
/-- the stores, one after the other -/
theorem look_app {fs : List (Str × Value)} {f : Str} {v : Value} (hf : f ∉ fs.map (·.1)) (y : Str) : (if y = f then some v else fldM fs y) = fldM (fs ++ [(f, v)]) y := by
  unfold fldM
  rw [List.lookup_append]
  by_cases e : y = f
  · subst e
    rw [if_pos rfl]
    have : fs.lookup y = none := by
      cases z : fs.lookup y with
      | none => rfl
      | some u => exact absurd (List.mem_map.mpr ⟨_, PySem.mem_of_lookup z, rfl⟩) hf
    rw [this]
    simp [List.lookup]
  · rw [if_neg e]
    have : List.lookup y [(f, v)] = none := by
      have : (y == f) = false := by simpa using e
      simp [List.lookup, this]
    rw [this]
    cases fs.lookup y <;> rfl
theorem within_fld (fs : List (Str × Value)) : Within (fldM fs) (fs.map (·.1)) := fun y hy => by
  unfold fldM at hy
  cases z : fs.lookup y with
  | none => rw [z] at hy; exact absurd rfl hy
  | some u => exact List.mem_map.mpr ⟨_, PySem.mem_of_lookup z, rfl⟩
theorem stores_old {env : Env} {x C dx : Addr} {fv : Array Value} {cd : ClassData} {m : Str → Option Value} {L : Addr} (hl : env.locals = L) (hk : env.scope.kind = .function) (hcd : W.clsIn K C = some cd) (hm : refsVE cd.mro = true) (hh : cd.hasDict = true) (sa : findIn K (.ref C) "__setattr__" = some (some (.builtin "object.__setattr__")))
    (ms : m "self" = some (.ref x)) (ks : env.kindOf "self" = some .local) (hLx : L ≠ x) (hxK : K.lookup dx = none) : ∀ (sts : List (Str × Pos × Pos × Pos × Pos)) (us : List Value) (done : List (Str × Value)) (h : Heap) (tk : Nat) {Q : Flow → Shared → Prop}, us.length = sts.length →
    (∀ z ∈ sts, findIn K (.ref C) z.1 = some none ∧ env.kindOf z.1 = some .local ∧ (z.1 == ("__debug__" : Str)) = false) → (∀ z ∈ (sts.map (·.1)).zip us, m z.1 = some z.2) → ((done.map (·.1)) ++ sts.map (·.1)).Nodup → done.length + sts.length ≤ 900 →
    K.In h → h.Ns L m → h.get? x = some { cls := .ref C, dict := some dx, data := .fields fv } → h.Ns1 dx (fldM done) → L ≠ dx → dx ≠ x →
    (∀ h' tk', (∀ b o, b ≠ dx → h.get? b = some o → h'.get? b = some o) → h'.Ns1 dx (fldM (done ++ (sts.map (·.1)).zip us)) → Q .next ⟨h', g, d, tk', os⟩) → wpAny (model prog w) A (execs (stAll sts) env) Q E ⟨h, g, d, tk, os⟩
  | [], us, done, h, tk, Q, hu, _, _, _, _, X, hn, hx, hd, _, _, q => by
    show wpAny _ _ (execs [] _) _ _ _
    refine wpAny_execs_nil (q h tk (fun b o _ e => e) ?_)
    simpa using hd
  | z :: sts, [], done, h, tk, Q, hu, _, _, _, _, X, hn, hx, hd, _, _, q => by simp at hu
  | z :: sts, v :: us, done, h, tk, Q, hu, hz, hv, nd, hlen, X, hn, hx, hd, hLd, hdx, q => by
    obtain ⟨f, q1, q2, q3, q4⟩ := z
    obtain ⟨a1, a2, a3⟩ := hz _ (List.mem_cons_self ..)
    have hmv : m f = some v := hv (f, v) (by simp)
    have hnf : f ∉ done.map (·.1) := fun z => by
      rw [List.map_cons, List.nodup_append] at nd
      exact nd.2.2 f z f (by simp) rfl
    show wpAny _ _ (execs (stOne f (q1, q2, q3, q4) :: stAll sts) _) _ _ _
    refine wpAny_execs_cons (plainObj_wpAny_Assign_Attribute ?_ ?_)
    · refine wpAny_Name (wpAny_loadName_local hk a2 (by rw [hl]; exact hn) hmv ?_) a3
      refine wpAny_Name (wpAny_loadName_local hk ks (by rw [hl]; exact hn) ms ?_) (by decide)
      obtain ⟨oD, esD, epD, hoD, hdD, _⟩ := hd.count (within_fld done)
      have I : W.InstAt h x { cls := .ref C, dict := some dx, data := .fields fv } C (some oD) := ⟨hx, rfl, rfl, hoD⟩
      refine set_plain X I sa ?_
      refine PySem.OEX.osa_old X hx hd (within_fld done) (by rw [List.length_map]; simp only [List.length_cons] at hlen; omega) hcd hm hh a1 fun h' tk' k hns => ?_
      refine stores_old (fv := fv) hl hk hcd hm hh sa ms ks hLx hxK sts us (done ++ [(f, v)]) h' tk' (by simpa using hu) (fun z hz' => hz z (by simp [hz'])) (fun z hz' => hv z (by simp at hz' ⊢; exact .inr hz')) ?_ (by simp only [List.length_append, List.length_cons, List.length_nil] at hlen ⊢; omega) ?_ ?_ ?_ ?_ hLd hdx fun h2 tk2 k2 n2 => ?_
      · rw [List.map_append, List.append_assoc]; simpa using nd
      · exact fun a o e => k a o (fun z => by rw [z, hxK] at e; cases e) (X a o e)
      · exact hn.at fun o e => k L o hLd e
      · exact k x _ (Ne.symm hdx) hx
      · have : (fun y => if y = f then some v else fldM done y) = fldM (done ++ [(f, v)]) := funext (look_app hnf)
        rw [this] at hns; exact hns
      · refine q h2 tk2 (fun b o hb e => k2 b o hb (k b o hb e)) ?_
        rw [List.append_assoc] at n2
        exact n2
    · rfl
theorem zip_fst {α β : Type} : ∀ {a : List α} {b : List β}, b.length = a.length → (a.zip b).map (·.1) = a
  | [], _, _ => by simp
  | x :: a, [], h => by simp at h
  | x :: a, y :: b, h => by simp [zip_fst (a := a) (b := b) (by simpa using h)]
theorem zip_look {x : Str} {v : Value} : ∀ {a : List Str} {b : List Value}, a.Nodup → (x, v) ∈ a.zip b → (a.zip b).lookup x = some v
  | [], _, _, h => by simp at h
  | y :: a, [], _, h => by simp at h
  | y :: a, w :: b, nd, h => by
    rw [List.nodup_cons] at nd
    rw [List.zip_cons_cons] at h ⊢
    rcases List.mem_cons.mp h with e | h
    · cases e; simp [List.lookup]
    · have hx : x ∈ a := (List.of_mem_zip h).1
      have ne : (x == y) = false := by
        have : x ≠ y := fun z => nd.1 (z ▸ hx)
        simpa using this
      simp only [List.lookup, ne]
      exact zip_look nd.2 h
theorem rev_look {x : Str} {v : Value} {l : List (Str × Value)} (nd : (l.map (·.1)).Nodup) (h : (x, v) ∈ l) : l.reverse.lookup x = some v := by
  have : ∀ (l : List (Str × Value)), (l.map (·.1)).Nodup → (x, v) ∈ l → l.lookup x = some v := by
    intro l
    induction l with
    | nil => intro _ h; cases h
    | cons a l ih =>
      intro nd h
      rw [List.map_cons, List.nodup_cons] at nd
      rcases List.mem_cons.mp h with e | h'
      · subst e; simp [List.lookup]
      · have hm : x ∈ l.map (·.1) := List.mem_map.mpr ⟨(x, v), h', rfl⟩
        clear h
        obtain ⟨k, u⟩ := a
        have ne : (x == k) = false := by
          have : x ≠ k := fun z => nd.1 (z ▸ hm)
          simpa using this
        simp only [List.lookup, ne]
        exact ih nd.2 h'
  refine this _ ?_ (List.mem_reverse.mpr h)
  rw [List.map_reverse]
  exact (List.reverse_perm _).nodup_iff.mpr nd
theorem drop_own {C : Addr} {bm : List Value} : ((Value.ref C :: bm).dropWhile (· != .ref C)).drop 1 = bm := by
  simp [List.dropWhile_cons]
/-- what is known of the globals at the call -/
structure GlobAt (h : Heap) (mg : Str → Option Value) : Prop where
  g : h.Ns mainGlobals mg
  b : ∃ mb, h.Ns builtinsNs mb ∧ ∀ x : Str, x ≠ "__name__" → mb x = bootBuiltins x
theorem kxs_callWith1' {M : Model} {s : Shared} {i : String} {u x : Addr} {pos : Pos} {env : Env} {e : Expr} {rest : List Expr} {Q : Value → Shared → Prop}
    (h : wpAny M A (spliced (backTo pos (starEach (e :: rest) env))) (fun vs s₁ => KxsAt i u x s₁.heap ∧ wpAny M A (call (.ref u) vs) Q E s₁) E s)
    (he : starEach (e :: rest) env = (false, eval e env) :: starEach rest env := by rfl) (hplain : (backTo pos (starEach rest env)).any (·.1) = false := by rfl) :
    wpAny M A (callWith pos (.ref u) [] (backTo pos (starEach (e :: rest) env)) []) Q E s := by
  rw [he] at h ⊢
  refine kxs_callWith (i := i) (x := x) (by show (false || (backTo pos (starEach rest env)).any (·.1)) = false; rw [hplain]; rfl) ?_
  exact evalArgs_plain h
theorem star_sa (env : Env) (p : Pos) : ∀ ag : List SA, backTo p (starEach (ag.map SA.e) env) = ag.map fun a => (false, eval a.e env)
  | [] => rfl
  | a :: ag => by
    have ih := star_sa env p ag
    have e : starEach ((a :: ag).map SA.e) env = (false, eval a.e env) :: starEach (ag.map SA.e) env := by cases a <;> rfl
    rw [e]
    unfold backTo at ih ⊢
    rw [List.map_cons, ih]; rfl
theorem sup_args {env : Env} {m : Str → Option Value} {L : Addr} {fs : List Str} (hl : env.locals = L) (hk : env.scope.kind = .function) {h : Heap} (hn : h.Ns L m) (hx : ∀ x ∈ fs, env.kindOf x = some .local ∧ (x == ("__debug__" : Str)) = false ∧ ∃ v, m x = some v) :
    ∀ (ag : List SA) (tk : Nat), ag.all (SA.ok fs) = true → wpAny (model prog w) A (spliced (ag.map fun a => (false, eval a.e env))) (fun vs s' => ∃ tk', vs.length = ag.length ∧ s' = ⟨h, g, d, tk', os⟩) E ⟨h, g, d, tk, os⟩
  | [], tk, _ => Calls.spliced_nil ⟨tk, rfl, rfl⟩
  | .c t k p :: ag, tk, ha => by
    rw [List.all_cons, Bool.and_eq_true] at ha
    refine Calls.spliced_cons (Calls.Constant_str (k := k) (pos := p) ?_)
    exact wpAny_mono (sup_args hl hk hn hx ag _ ha.2) (fun vs s' ⟨tk', e1, e2⟩ => ⟨tk', by rw [List.length_cons, List.length_cons, e1], e2⟩) fun _ _ z => z
  | .n x p :: ag, tk, ha => by
    rw [List.all_cons, Bool.and_eq_true] at ha
    obtain ⟨h1, h2, v, h3⟩ := hx x (of_decide_eq_true ha.1)
    refine Calls.spliced_cons (wpAny_Name (wpAny_loadName_local hk h1 (by rw [hl]; exact hn) h3 ?_) h2)
    exact wpAny_mono (sup_args hl hk hn hx ag _ ha.2) (fun vs s' ⟨tk', e1, e2⟩ => ⟨tk', by rw [List.length_cons, List.length_cons, e1], e2⟩) fun _ _ z => z
theorem err_init {nm : Str} {fs : List Str} (T : ErrTxt prog K mg nm fs C) {x t0 : Addr} {us : List Value} (hu : us.length = fs.length) (h0 : fs ≠ []) (hfs : fs.length ≤ 800) (X : K.In h) (GG : GlobAt h mg) (hlim : h.NoLimit) (hx : h.get? x = some (excO C t0)) (hnx : K.lookup x = none) (hroom : A.depth < recursionLimit)
    {fI : Addr} (hfI : findIn K (.ref C) "__init__" = some (some (.ref fI)))
    (hq : ∀ h' tk dx t1, InitEnd h h' x C dx t1 (fs.zip us) → R (.ok (.ret .none)) ⟨h', g, d, tk, os⟩) :
    codeAny (model prog w) A (.call (.ref fI) ⟨.ref x :: us, []⟩) R ⟨h, g, d, t, os⟩ := by
  obtain ⟨fI', cc, cda, oc, cl, ccl, od, cld, cdd, qual, params, scope, doc, pm, an, ct, osl, csl, ccs, p0, p1, p2, p4, p5, ag, sts, vs, file, tf, ar, e1, e2, e3, e4, e5, e6, e7, e8, e9, e10, e11, e12, e13, e14, e15, e16, e17, e18, e19, e20, e21, eag, pl, e22⟩ := T.fn
  rw [hfI] at e1
  cases e1
  obtain ⟨cn, q, N, bs, bm, sn, sub, ab, col, dd, m0, m1, m2, m3, m5, hC, hbm, hal, hown⟩ := T.cls
  have hcl : clsIn K C = some { name := cn, bases := bs, mro := .ref C :: bm, ns := N, qualname := q, hasDict := true, slotNames := sn, subclasses := sub, abstract := ab, collection := col, hasDel := false } := by unfold clsIn; rw [hC] <;> rfl
  refine ks_codeAny_call_defAt hroom (X _ _ e3) rfl hlim (codeRec_of X e4) rfl (e6 _ _ _ hu) e10 (fun y hy => ?_) (fun h₁ hns k => ?_) e8 e9 e7
  · rcases List.mem_cons.mp hy with e | hy
    · subst e; exact e11 _ (List.mem_cons_self ..)
    · exact e11 _ (List.mem_cons_of_mem _ (List.of_mem_zip hy).1)
  have X₁ : K.In h₁ := X.keeps k
  have hx₁ := k _ _ hx
  have hC₁ := X₁ _ _ hC
  have nd : (((("self" : Str), Value.ref x) :: fs.zip us).map (·.1)).Nodup := by
    rw [List.map_cons, zip_fst hu, List.nodup_cons]
    exact ⟨e12, T.nd⟩
  have ms : List.lookup ("self" : Str) ((("self" : Str), Value.ref x) :: fs.zip us).reverse = some (Value.ref x) := rev_look nd (List.mem_cons_self ..)
  have mv : ∀ z ∈ fs.zip us, ((("self" : Str), Value.ref x) :: fs.zip us).reverse.lookup z.1 = some z.2 := fun z hz => rev_look nd (List.mem_cons_of_mem _ hz)
  have hxL : h.objs.size ≠ x := Nat.ne_of_gt (Heap.lt_size hx)
  generalize hm : (fun y => ((("self" : Str), Value.ref x) :: fs.zip us).reverse.lookup y) = m at hns
  have ms2 : m "self" = some (.ref x) := by rw [← hm]; exact ms
  have mv2 : ∀ z ∈ fs.zip us, m z.1 = some z.2 := fun z hz => by rw [← hm]; exact mv z hz
  clear ms mv hm nd
  refine ks_wpAt_execs_cons (ks_wpAt_Expr_any (ks_wpAt_MethodCall ?_ (e22 _)) ?_ ?_)
  · refine ks_wpAt_super_base e14 e13 rfl rfl (X₁ _ _ e3) rfl e15 rfl (X₁ _ _ e18) rfl e19 e20 T.top ?_
    obtain ⟨mb, hb1, hb2⟩ := GG.b
    refine ks_loadName_global e7 e14 (Calls.loadGlobal_builtin (GG.g.keeps k) T.mgs (hb1.keeps k) ((hb2 "super" (by decide)).trans (by decide +kernel)) ⟨rfl, ?_⟩)
    refine wpAny_loadName_free e7 e13 rfl ⟨_, X₁ _ _ e17, rfl⟩ ?_
    rw [e16]
    refine wpAny_loadName_local e7 (e11 _ (List.mem_cons_self ..)) hns ms2 ?_
    refine ks_wpAny_isType_cls hC₁ rfl ⟨rfl, ?_⟩
    refine ks_wpAny_call_super hC₁ rfl hx₁ rfl (fun c z => by cases z) (looks_mroIn X₁ T.inE) (fun h2 hso k2 => ?_)
    have X₂ : K.In h2 := X₁.keeps k2
    have hx₂ := k2 _ _ hx₁
    have hxC : x ≠ C := fun z => by rw [z, hC] at hnx; cases hnx
    have I2 : W.InstAt h2 x (excO C t0) C none := ⟨hx₂, rfl, rfl, trivial⟩
    refine kxs_getMethod kxs_ValueError hso (looks_opaque X₂ T.ho) (l₀ := .ref C :: bm) ((looks_clsIn X₂ hcl).andThen .now) drop_own X₂ hal (I2.type.andThen (looks_mroIn X₂ T.veE)) hxC rfl ?_
    have X₃ : K.In (h2.push (kxs_mw "ValueError.__init__" x)) := X₂.keeps fun b o e => Heap.get?_push_of_some _ e
    have hu3 : (h2.push (kxs_mw "ValueError.__init__" x)).get? h2.objs.size = some (kxs_mw "ValueError.__init__" x) := Heap.get?_push_at rfl rfl
    obtain ⟨eag, eok⟩ := Bool.and_eq_true_iff.mp eag
    obtain ⟨eag, elen⟩ := Bool.and_eq_true_iff.mp eag
    obtain ⟨a0, ag, rfl⟩ : ∃ a0 ag', ag = a0 :: ag' := by
      cases ag with
      | nil => cases eag
      | cons a0 ag => exact ⟨a0, ag, rfl⟩
    refine kxs_callWith1' (i := "ValueError.__init__") (x := x) ?_ (by cases a0 <;> rfl) (by rw [star_sa]; simp)
    have hC₃ := X₃ _ _ hC
    have hx₃ : (h2.push (kxs_mw "ValueError.__init__" x)).get? x = some (excO C t0) := Heap.get?_push_of_some _ hx₂
    refine wpAny_mono (Q := fun vs s' => ∃ tk', vs.length = (a0 :: ag).length ∧ s' = ⟨h2.push (kxs_mw "ValueError.__init__" x), g, d, tk', os⟩) (E := fun _ _ => False) ?_ (fun vs s' hv => ?_) fun _ _ z => z.elim
    · show wpAny _ _ (spliced (backTo p4 (starEach ((a0 :: ag).map SA.e) _))) _ _ _
      rw [star_sa]
      refine sup_args (fs := fs) (L := h.objs.size) (m := m) rfl e7 (hns.at fun o e => Heap.get?_push_of_some _ (k2 _ o e)) ?_ (a0 :: ag) _ eok
      intro y hy
      refine ⟨e11 y (List.mem_cons_of_mem _ hy), e21 y hy, ?_⟩
      obtain ⟨i, hi, rfl⟩ := List.mem_iff_getElem.mp hy
      refine ⟨us[i]'(by omega), mv2 (fs[i], us[i]'(by omega)) ?_⟩
      exact List.mem_iff_getElem.mpr ⟨i, by rw [List.length_zip]; omega, by rw [List.getElem_zip]⟩
    · obtain ⟨tk', hvs, rfl⟩ := hv
      refine ⟨hu3, call_mw hC₃ hx₃ hu3 (by rw [sizeLine_eq, hvs]; have := of_decide_eq_true elen; omega) fun h4 t1 k4 hx4 => ?_⟩
      have k5 : ∀ b o, b ≠ x → h₁.get? b = some o → h4.get? b = some o := fun b o hb e => k4 b o hb (Heap.get?_push_of_some _ (k2 b o e))
      have X₄ : K.In h4 := fun a o e => k5 a o (fun z => by rw [z, hnx] at e; cases e) (X₁ a o e)
      have n4 : h4.Ns h.objs.size m := hns.at fun o e => k5 _ o hxL e
      match sts, e5, us, hu, hq, mv2 with
      | [], e5, us, hu, hq, mv2 => exact absurd e5.symm h0
      | z :: sts, e5, [], hu, hq, mv2 => exact absurd hu (by rw [← e5]; simp)
      | z :: sts, e5, v :: us, hu, hq, mv2 =>
        subst e5
        obtain ⟨f, q1, q2, q3, q4⟩ := z
        have hmv : m f = some v := mv2 (f, v) (by simp)
        have kl : ∀ y ∈ ("self" : Str) :: (((f, q1, q2, q3, q4) :: sts : List (Str × Pos × Pos × Pos × Pos)).map (·.1)), scope.names.lookup y = some .local := e11
        refine wpAt_of_wpAny ?_
        show wpAny _ _ (execs (stOne f (q1, q2, q3, q4) :: stAll sts) _) _ _ _
        refine wpAny_execs_cons (plainObj_wpAny_Assign_Attribute ?_ ?_)
        · refine wpAny_Name (wpAny_loadName_local e7 (kl f (by simp)) n4 hmv ?_) (e21 f (by simp))
          refine wpAny_Name (wpAny_loadName_local e7 (kl _ (by simp)) n4 ms2 ?_) (by decide)
          refine set_plain X₄ (ox := excO C t1) (od := none) ⟨hx4, rfl, rfl, trivial⟩ T.sa ?_
          refine exc_osa X₄ hx4 hcl (show refsVE (.ref C :: bm) = true from hbm) rfl (T.noN f (by simp)) (fun h5 tk5 dx k6 dn dne hx5 hn5 => ?_)
          replace dn : h4.objs.size ≤ dx := dn
          have hL5 : h.objs.size ≠ dx := by
            have : h.objs.size < h4.objs.size := n4.lt
            omega
          have X₅ : K.In h5 := fun a o e => k6 a o (fun z => by rw [z, hnx] at e; cases e) (X₄ a o e)
          have hdK : K.lookup dx = none := by
            cases e : K.lookup dx with
            | none => rfl
            | some o =>
              have z := X₄ _ _ e
              exact absurd (Heap.lt_size z) (Nat.not_lt.mpr dn)
          refine stores_old (hl := ?_) (hk := ?_) (fv := #[.ref t1, .none, .none, .none, .bool false, .none]) (hcd := hcl) (hm := show refsVE (.ref C :: bm) = true from hbm) (hh := rfl) (sa := T.sa) (ms := ms2) (ks := ?_) (hLx := hxL) (hxK := hdK) sts us [(f, v)] h5 tk5 (by simpa using hu) (fun z hz => ⟨T.noN _ (by simp; exact .inr ⟨_, _, _, _, hz⟩), ?_, e21 _ (by simp; exact .inr ⟨_, _, _, _, hz⟩)⟩) (fun z hz => mv2 z (by simp at hz ⊢; exact .inr hz)) ?_ (by simp at hfs ⊢; omega) X₅ (n4.at fun o e => k6 _ o hxL e) hx5 ?_ hL5 dne fun h6 tk6 k7 n6 => ?_
          · rfl
          · exact e7
          · exact kl ("self" : Str) (by simp)
          · exact kl z.1 (by simp; exact .inr (.inr ⟨_, _, _, _, hz⟩))
          · have := T.nd; simpa using this
          · have : (fun y => if y = f then some v else none) = fldM [(f, v)] := by
              funext y
              have := look_app (fs := []) (f := f) (v := v) (fun z => nomatch z) y
              simpa [fldM] using this
            rw [← this]; exact hn5
          · refine hq h6 tk6 dx t1 ⟨fun b o hb e => ?_, k7 x _ (Ne.symm dne) hx5, ?_, dne, n6⟩
            · have h1 := k6 b o hb (k5 b o hb (k b o e))
              exact k7 b o (fun z => by
                have := Heap.lt_size (k5 b o hb (k b o e))
                rw [z] at this
                exact absurd this (Nat.not_lt.mpr dn)) h1
            · have : h.objs.size < h4.objs.size := n4.lt
              omega
        · rfl
  · show interactive _ = false
    unfold interactive
    show (scope.kind == .module && _) = false
    rw [e7]; rfl
  · rfl
end
end ErX
end PySem

/-! EX2: raise C(e, ..), e.f for own errors (EX1) -/
namespace PySem
namespace ErX
open PySem.W PySem.Calls PyProof.Rows PySem.HandSPX
/-- a made error -/
structure OwnMade (h h' : Heap) (e C d : Addr) (fv : List (Str × Value)) : Prop where
  keep : ∀ b o, h.get? b = some o → h'.get? b = some o
  new : h.objs.size ≤ e
  obj : ∃ oe vs, h'.get? e = some oe ∧ oe.cls = .ref C ∧ oe.dict = some d ∧ oe.data = .fields vs ∧ vs[1]? = some .none
  dbig : h.objs.size ≤ d
  dne : d ≠ e
  ns : h'.Ns1 d (fldM fv)
section
variable {prog : Program} {w : World} {A : Around} {E : Value → Shared → Prop} {R : Result → Shared → Prop} {s : Shared} {K : Frag} {mg : Str → Option Value} {C : Addr}
theorem err_made {nm : Str} {fs : List Str} (T : ErrTxt prog K mg nm fs C) {us : List Value} (hu : us.length = fs.length) (h0 : fs ≠ []) (hfs : fs.length ≤ 800) (X : K.In s.heap) (GG : GlobAt s.heap mg) (hlim : s.heap.NoLimit) (hroom : A.depth + 1 < recursionLimit)
    (hq : ∀ h' tk e d, OwnMade s.heap h' e C d (fs.zip us) → R (.ok (.ret (.ref e))) { s with heap := h', toks := tk }) :
    codeAny (model prog w) A (.call (.ref C) ⟨us, []⟩) R s := by
  obtain ⟨fI, cc, cda, oc, cl, ccl, od, cld, cdd, qual, params, scope, doc, pm, an, ct, osl, csl, ccs, p0, p1, p2, p4, p5, ag, sts, vs, file, tf, ar, e1, e2, _⟩ := T.fn
  obtain ⟨nm, q, N, bs, bm, sn, sub, ab, col, dd, k0, k1, k2, k3, k5, hC, hbm, _, _⟩ := T.cls
  obtain ⟨hp, g, dr, tk, os⟩ := s
  have k : ∀ b o, hp.get? b = some o → ((hp.push (kdv_tup us)).push (excO C hp.objs.size)).get? b = some o := fun b o e => Heap.get?_push_of_some _ (Heap.get?_push_of_some _ e)
  have hget : ((hp.push (kdv_tup us)).push (excO C hp.objs.size)).get? (hp.objs.size + 1) = some (excO C hp.objs.size) := by heap_get
  have hnx : K.lookup (hp.objs.size + 1) = none := by
    cases e : K.lookup (hp.objs.size + 1) with
    | none => rfl
    | some o =>
      have z : hp.get? (hp.objs.size + 1) = some o := X _ _ e
      exact absurd (Nat.lt_of_succ_lt (Heap.lt_size z)) (Nat.lt_irrefl _)
  have hus : us.length ≤ sizeLine := by rw [sizeLine_eq, hu]; omega
  refine call_own F.excBase_ValueError (fun X => refsVE_contains X bm hbm) (X _ _ hC) (looks_findIn X e1) (fun self => bind_fn X self e2) hus ?_
  have GG' : GlobAt ((hp.push (kdv_tup us)).push (excO C hp.objs.size)) mg := ⟨GG.g.keeps k, let ⟨mb, h1, h2⟩ := GG.b; ⟨mb, h1.keeps k, h2⟩⟩
  refine err_init T hu h0 hfs (X.keeps k) GG' (hlim.keeps k) hget hnx ?_ e1 fun h' tk' dx t1 ⟨k', hx, dn, dne, hns⟩ => ?_
  · show A.depth + 1 < recursionLimit
    exact hroom
  · have old : ∀ b o, hp.get? b = some o → h'.get? b = some o := fun b o e => k' b o (Nat.ne_of_lt (Nat.lt_succ_of_lt (Heap.lt_size e))) (k b o e)
    have z : hp.objs.size + 1 + 1 ≤ dx := by
      first
        | (simpa only [Heap.size_push] using dn)
        | exact dn
        | (have q := dn; rw [Heap.size_push, Heap.size_push] at q; exact q)
    exact ⟨rfl, hq h' tk' (hp.objs.size + 1) dx ⟨old, Nat.le_succ _, ⟨_, _, hx, rfl, rfl, rfl, rfl⟩, Nat.le_trans (Nat.le_trans (Nat.le_succ _) (Nat.le_succ _)) z, dne, hns⟩⟩
end
end ErX
end PySem
namespace L2
open PySem PySem.Spec PyProof.Rows
theorem relO_fld : ∀ {fs : List Str} {vs : List V} {us : List Value}, Vals vs us → ∀ f, RelO (List.lookup f (fs.zip vs)) (PySem.ErX.fldM (fs.zip us) f)
  | [], vs, us, r, f => by simp [PySem.ErX.fldM, List.zip_nil_left]; trivial
  | x :: fs, _, _, .nil, f => by simp [PySem.ErX.fldM]; trivial
  | x :: fs, _, _, @Paired.cons _ _ _ v u vs us rv rs, f => by
    have ih := relO_fld (fs := fs) rs f
    unfold PySem.ErX.fldM at ih ⊢
    rw [List.zip_cons_cons, List.zip_cons_cons]
    by_cases e : f = x
    · subst e; simp [List.lookup]; exact rv
    · have : (f == x) = false := by simpa using e
      simp only [List.lookup, this]
      exact ih
section
variable {X : Cx} {C : Addr} {nm : Str} {fs : List Str}
/-- C(e, ..) -/
def tMkErr (C : Addr) (fs : List Str) (ta : TA) : St → Hp → XK → Prop := fun σ H Q => ta σ H fun vs H1 => vs.length = fs.length ∧ ∀ d, H1 d = none → Q (.ref C) (some d) (upd H1 d (.xd (fs.zip vs)))
theorem Inv.globAt {pins : List (Addr × Obj)} {σ : St} {H : Hp} {s : Shared} (I : Inv X pins σ H s) : PySem.ErX.GlobAt s.heap X.mg :=
  ⟨I.mod.glob.keeps I.bk, let ⟨mb, h1, h2⟩ := I.mod.blt; ⟨mb, h1.keeps I.bk, h2⟩⟩
theorem pmk_err {a : Expr} {as : List Expr} {ta : TA} {p pos : Pos} {k : Nat} (T : PySem.ErX.ErrTxt X.prog X.K X.mg nm fs C) (h0 : fs ≠ []) (hfs : fs.length ≤ 800) (hr : Room k X.A) (ha : PA X (a :: as) ta) (hg : Gl X nm)
    (hdb : (nm == ("__debug__" : Str)) = false := by decide) (he : starEach (a :: as) X.env = (false, eval a X.env) :: starEach as X.env := by rfl) (hpl : (backTo pos (starEach as X.env)).any (·.1) = false := by rfl) :
    PMk X (.Call (.Name nm p) (a :: as) [] pos) (tMkErr C fs ta) := by
  intro pins s σ H Q I h
  refine wpAny_Call_Name_kw (ld_glob I hg T.gC ?_ hdb)
  refine PySem.W.callWith_K (h₀ := X.base) I.ok.mod.kin T.kC (thn (ha.run pos pins s σ H _ I h) fun us s1 hh => ?_) he hpl
  obtain ⟨vs, H1, I1, r1, hl, q1⟩ := hh
  refine ⟨I1.kIn, ?_⟩
  show wpAny _ _ (call (.ref C) us) _ _ _
  have hlim := I1.nolimit
  have GG := I1.globAt
  obtain ⟨hp, g, dr, tk, os⟩ := s1
  refine wpAny_call (PySem.ErX.err_made T (by rw [← Paired.length r1]; exact hl) h0 hfs I1.kIn GG hlim (by have := hr.dp; omega) fun h' tk' e d M => ?_)
  show MkP X pins σ Q (.ref e) ⟨h', g, dr, tk', os⟩
  obtain ⟨oe, fv, hoe, hc, hd, hdat, h1⟩ := M.obj
  have hns := M.ns
  obtain ⟨G', g1, g2⟩ := restrict h' fun b => decide (b ≠ e)
  have gk : ∀ b, b ≠ e → G'.get? b = h'.get? b := fun b hb => g1 b (decide_eq_true hb)
  have ge : G'.get? e = none := g2 e (by simp)
  have old : ∀ b o, hp.get? b = some o → G'.get? b = some o := fun b o q => (gk b (Nat.ne_of_lt (Nat.lt_of_lt_of_le (Heap.lt_size q) M.new))).trans (M.keep b o q)
  have ob : ObjOk X.prog X.w (upd H1 d (.xd (fs.zip vs))) G' d (.xd (fs.zip vs)) :=
    ⟨_, hns.at (fun o q => (gk d M.dne).trans q), fun f => relO_fld r1 f⟩
  have J : Inv X pins σ (upd H1 d (.xd (fs.zip vs))) ⟨G', g, dr, tk', os⟩ := I1.laid (t' := tk') old M.dbig ob
  refine ⟨e, oe, fv, ⟨G', g, dr, tk', os⟩, _, .ref C, some d, rfl, J, fun b o q => ?_, ge, hoe, ⟨hc, hd⟩, hdat, h1, ?_, rfl, I1.bare, raises_own T.exC T.tyC, q1 d (I1.hok.fresh M.dbig)⟩
  · by_cases hb : b = e
    · have q' : G'.get? b = some o := q
      rw [hb, ge] at q'; cases q'
    · exact (gk b hb).symm.trans q
  · rw [upd_ne (Ne.symm M.dne)]
    exact I1.hok.fresh M.new
/-- raise C(e, ..) -/
def tRaiseErr (C : Addr) (fs : List Str) (W : WX) (ta : TA) : TS := fun _ σ H => tMkErr C fs ta σ H fun cls d H' => W cls d σ H'
theorem ps_raiseErr {a : Expr} {as : List Expr} {ta : TA} {W : WX} {p pos pos2 : Pos} {k : Nat} (hc : X.calm = true) (T : PySem.ErX.ErrTxt X.prog X.K X.mg nm fs C) (h0 : fs ≠ []) (hfs : fs.length ≤ 800) (hr : Room k X.A) (tk : Takes X W) (ha : PA X (a :: as) ta) (hg : Gl X nm)
    (hdb : (nm == ("__debug__" : Str)) = false := by decide) (he : starEach (a :: as) X.env = (false, eval a X.env) :: starEach as X.env := by rfl) (hpl : (backTo pos (starEach as X.env)).any (·.1) = false := by rfl) :
    PS X (.Raise (some (.Call (.Name nm p) (a :: as) [] pos)) none pos2) (tRaiseErr C fs W ta) := ps_raise hc tk (pmk_err T h0 hfs hr ha hg hdb he hpl)
/-- e.f, e the exception that the suite holds -/
def tByErr (C : Addr) (f : Str) (a : Addr) (cls : Value) (d : Option Addr) (te : TE) : TE := fun σ H Q => te σ H fun x H1 => x = .ref a ∧ cls = .ref C ∧ ∃ (dd : Addr) (fl : List (Str × V)) (v : V), d = some dd ∧ H1 dd = some (.xd fl) ∧ fl.lookup f = some v ∧ Q v H1
theorem pe_byErr {P : Program} {a : Addr} {oe : Obj} {cls : Value} {d : Option Addr} {pn : List (Addr × Obj)} {f : Str} {e : Expr} {te : TE} {pos : Pos} (T : PySem.ErX.ErrTxt P X.K X.mg nm fs C) (hm : f ∈ fs) (hz : Zc cls d oe) (hf : ∃ vs, oe.data = .fields vs) (he : PE (X.suite a ((a, oe) :: pn)) e te)
    (hb : attributeBase e f X.env (eval e X.env) = eval e X.env := by rfl) :
    PE (X.suite a ((a, oe) :: pn)) (.Attribute e f pos) (tByErr C f a cls d te) := by
  refine ⟨fun pins s σ H Q I h => ?_⟩
  refine attr_of hb (thn (he.run pins s σ H _ I h) fun u s1 hh => ?_)
  obtain ⟨x, H1, I1, rx, ex, ec, dd, fl, v, ed, ea, el, q⟩ := hh
  subst ex
  obtain rfl : u = Value.ref a := rx
  subst ec
  subst ed
  obtain ⟨ha, _⟩ := I1.pin (a, oe) (List.mem_append_left _ List.mem_cons_self)
  obtain ⟨vs, hd⟩ := hf
  have hx : ObjOk X.prog X.w H1 s1.heap dd (.xd fl) := I1.hok dd _ ea
  obtain ⟨mA, hns, hr⟩ := hx
  obtain ⟨od, ho, hl⟩ := lookIn_ns hns
  obtain ⟨u, hu, ru⟩ := RelO.some_of (v := v) (o := mA f) (by rw [← el]; exact hr f)
  have J : PySem.W.InstAt s1.heap a oe C (some od) := ⟨ha, hz.1, by unfold PySem.W.notCls; rw [hd] <;> rfl, by rw [hz.2]; exact ho⟩
  exact HandSPX.exc_get I1.kIn J T.ga T.gg T.exC (PySem.W.findObj_own T.hdC (T.noN f hm) rfl (by rw [hl, hu])) (handed_of ru) ⟨v, H1, I1.tok _, ru, q⟩
end
end L2

/-! EX3: several except clauses, with and without names; defs that raise -/
namespace L2
open PySem PySem.Spec PyProof.Rows
/-- a clause: its class, its name's slot, its suite's reading -/
structure Cl where
  c : Value
  sl : Option Nat
  ts : Addr → Obj → Value → Option Addr → List (Addr × Obj) → TS
def cutE (o : Option Nat) (D : Ends) : Ends := match o with
  | none => D
  | some i => { nx := fun σ' H' => D.nx (σ'.set i none) H', rt := D.rt, bk := fun σ' H' => D.bk (σ'.set i none) H', ct := fun σ' H' => D.ct (σ'.set i none) H' }
def setE (o : Option Nat) (a : Addr) (σ : St) : St := match o with
  | none => σ
  | some i => σ.set i (some (.ref a))
def wCl (K : PySem.W.Frag) (Wout : WX) (D : Ends) : List Cl → WX
  | [] => Wout
  | c :: r => fun cls d σ H => ∃ b, PySem.W.exmOne K cls c.c = some b ∧ (b = true → ∀ a oe pn, Zc cls d oe → (∃ vs, oe.data = .fields vs) → H a = none → c.ts a oe cls d pn (cutE c.sl D) (setE c.sl a σ) H) ∧ (b = false → wCl K Wout D r cls d σ H)
inductive ClsOk (X : Cx) : List ExceptHandler → List Cl → Prop
  | nil : ClsOk X [] []
  | bare {x : Str} {c : Value} {ts : Addr → Obj → Value → Option Addr → List (Addr × Obj) → TS} {b₀ : Stmt} {suite : List Stmt} {np pos' : Pos} {hds : List ExceptHandler} {l : List Cl} (hc : Names X x c)
      (hsu : ∀ (a : Addr) (oe : Obj) (cls : Value) (d : Option Addr) (pn : List (Addr × Obj)), Zc cls d oe → (∃ vs, oe.data = .fields vs) → PSs (X.suite a ((a, oe) :: pn)) (b₀ :: suite) (ts a oe cls d pn)) (r : ClsOk X hds l) :
      ClsOk X (.ExceptHandler (some (.Name x np)) none (b₀ :: suite) pos' :: hds) (⟨c, none, ts⟩ :: l)
  | named {x n : Str} {i : Nat} {c : Value} {ts : Addr → Obj → Value → Option Addr → List (Addr × Obj) → TS} {b₀ : Stmt} {suite : List Stmt} {np pos' : Pos} {hds : List ExceptHandler} {l : List Cl} (hc : Names X x c) (hN : X.N.Nodup) (hi : X.N[i]? = some n) (hln : X.env.kindOf n = some .local)
      (hsu : ∀ (a : Addr) (oe : Obj) (cls : Value) (d : Option Addr) (pn : List (Addr × Obj)), Zc cls d oe → (∃ vs, oe.data = .fields vs) → PSs (X.suite a ((a, oe) :: pn)) (b₀ :: suite) (ts a oe cls d pn)) (r : ClsOk X hds l) :
      ClsOk X (.ExceptHandler (some (.Name x np)) (some n) (b₀ :: suite) pos' :: hds) (⟨c, some i, ts⟩ :: l)
section
variable {X : Cx} {body : List Stmt} {h₀ : ExceptHandler} {hds : List ExceptHandler} {l : List Cl} {pos : Pos} {tb : List (Addr × Obj) → (Value → Shared → Prop) → TS} {Wout : WX}
theorem ps_try_cl (hs : X.stack = X.env :: X.outer) (hf : X.env.frame = some X.env.locals) (tk : Takes X Wout)
    (hb : ∀ (pn : List (Addr × Obj)) (xe : Value → Shared → Prop), PassesOwn (model X.prog X.w) X.A X.env xe → PSs (X.tr pn xe) body (tb pn xe))
    (hh : ClsOk X (h₀ :: hds) l) : PS X (.Try body (h₀ :: hds) [] [] pos) (fun D σ H => ∀ pn xe, PassesOwn (model X.prog X.w) X.A X.env xe → Takes (X.tr pn xe) (wCl X.K Wout D l) → tb pn xe D σ H) := by
  refine ⟨fun pins s σ H D I h => ?_⟩
  have ok := I.ok
  have hfr : X.A.frames = some (X.env :: X.outer) := by rw [ok.frames, hs]
  refine wpAny_Try_except ?_
  have tk0 : Takes (X.tr (X.pn ++ pins) (fun e s₁ => wpAny (model X.prog X.w) X.A (noteFrame e X.env) (fun _ s₂ => wpAny (model X.prog X.w) X.A (setFlight e none) (fun _ s₃ =>
    wpAny (model X.prog X.w) X.A (handleBy e X.env (h₀ :: hds)) (SP X pins D) X.xe s₃) X.xe s₂) X.xe s₁)) (wCl X.K Wout D l) := fun u s' xx => by
    -- the catch
    obtain ⟨a, B, sI, pins', σ', H', cls, d, rfl, J', nb, up, sky, na, os, ag, w⟩ := xx
    have J : Inv X pins σ' H' sI := J'.ofTry ok
    have sky' : Sky B (X.env :: X.outer) a (Zc cls d) X.env.locals s'.heap := by rw [← hs]; exact sky
    show wpAny (model X.prog X.w) X.A (noteFrame (.ref a) X.env) _ _ _
    refine Sky.land Zc.steady hfr hf sky' fun h3 fl3 up3 => ?_
    have J3 : Inv X pins σ' H' { s' with heap := h3 } := J.landed nb fl3.1 (up.trans up3) os ag
    obtain ⟨oe3, vs3, he3, hz3, hd3⟩ := fl3.there
    have notFr : ∀ {h : Heap} {o : Obj} {vs : Array Value}, h.FunFrames B (X.env :: X.outer) → h.get? a = some o → o.data = .fields vs → a ∉ frs (X.env :: X.outer) := fun {h o vs} ff e dd hm => by
      obtain ⟨_, o', e', hnf⟩ := ff.mem hm
      rw [e] at e'; cases e'
      exact hnf _ dd
    have nfr := notFr fl3.2.2.1 he3 hd3
    have nL : a ≠ X.env.locals := fun z => nfr (List.mem_filterMap.mpr ⟨X.env, List.mem_cons_self, by rw [hf, z]⟩)
    have nF : a ∉ X.fs := fun hm => by
      obtain ⟨e, he, q⟩ := List.mem_filterMap.mp hm
      exact nfr (List.mem_filterMap.mpr ⟨e, List.mem_cons_of_mem _ he, q⟩)
    have S3 := J3.suite he3 hd3 na nL nF
    have LT : PySem.W.Looks (model X.prog X.w) h3 (typeOf (.ref a)) cls := fun A Q E s k q => wpAny_typeOf_ref (k _ _ he3) (by rw [hz3.1]; exact q)
    have test : ∀ {x : Str} {c : Value} {np : Pos} {Q : Value → Shared → Prop} {E : Value → Shared → Prop}, Names X x c → Q c { s' with heap := h3 } → wpAny (model X.prog X.w) (X.A.mark (some (.ref a))) (eval (.Name x np) X.env) Q E { s' with heap := h3 } := fun {x c np Q E} hc q => by
      obtain ⟨hg, hdbg, hm | ⟨hm, hv, hnn⟩⟩ := hc
      · exact ld_glob (X := X.suite a ((a, oe3) :: (X.pn ++ pins))) S3 hg hm q hdbg
      · exact ld_blt (X := X.suite a ((a, oe3) :: (X.pn ++ pins))) S3 hg hm hv q hnn hdbg
    have go : ∀ {hds' : List ExceptHandler} {l' : List Cl}, ClsOk X hds' l' → wCl X.K Wout D l' cls d σ' H' →
        wpAny (model X.prog X.w) X.A (handleBy (.ref a) X.env hds') (SP X pins D) X.xe { s' with heap := h3 } := by
      intro hds' l' hk
      induction hk with
      | nil =>
        intro w
        refine wpAny_handleBy_nil ?_
        obtain ⟨k1, k2, k3, oe, vs, T, oT, ts', he, hz, hd, h1, hr⟩ := id fl3
        unfold PySem.passOn
        refine wpAny_bind (wpAny_field he hd h1 ?_)
        rw [if_neg (show ¬ ((Value.ref T == Value.none) = true) from by simp)]
        have fin : wpAny (model X.prog X.w) X.A (setFlight (.ref a) X.env.frame) (fun _ s4 => wpAny (model X.prog X.w) X.A (throw (.ref a) : Sem Flow) (SP X pins D) X.xe s4) X.xe { s' with heap := h3 } := by
          rw [hf]
          refine HandSPX.setFlight_upZ fl3 fun h4 hh4 up4 => wpAny_throw (tk _ _ ?_)
          exact ⟨a, B, sI, pins, σ', H', cls, d, rfl, J, nb, (up.trans up3).trans up4, .inr (.inr (by rw [hs]; exact hh4)), na, os, ag, w⟩
        first
          | exact wpAny_bind (wpAny_pure (wpAny_bind fin))
          | exact wpAny_bind fin
      | @bare x c ts b₀ suite np pos' hds2 l2 hc hsu r ih =>
        intro w
        obtain ⟨b, hb1, hyes, hno⟩ := w
        refine wpAny_handleBy_cons (codeAny_handlers_test ?_) (by intro q; cases q)
        have LM := PySem.W.exm_one (M := model X.prog X.w) (J3.kIn) LT hb1
        refine test hc (LM.here ?_)
        cases b with
        | true =>
          refine codeAny_handlers_suite ?_
          refine HandSPX.lands_againZ fl3 fun h4 fl4 up4 => ?_
          have J4 : Inv X pins σ' H' { s' with heap := h4 } := J.landed nb fl4.1 ((up.trans up3).trans up4) os ag
          obtain ⟨oe4, vs4, he4, hz4, hd4⟩ := fl4.there
          have S4 := J4.suite he4 hd4 na nL nF
          refine wpAny_mono ((hsu a oe4 cls d (X.pn ++ pins) hz4 ⟨_, hd4⟩).run [] _ _ H' _ S4 (hyes rfl a oe4 (X.pn ++ pins) hz4 ⟨_, hd4⟩ na)) (fun f s6 hsp => ?_) (fun _ _ z => False.elim z)
          cases f with
          | next =>
            obtain ⟨σ6, H6, S6, q6⟩ := hsp
            exact ⟨_, _, S6.unsuite ok, q6⟩
          | brk =>
            obtain ⟨σ6, H6, S6, q6⟩ := hsp
            exact ⟨_, _, S6.unsuite ok, q6⟩
          | cont =>
            obtain ⟨σ6, H6, S6, q6⟩ := hsp
            exact ⟨_, _, S6.unsuite ok, q6⟩
          | ret u =>
            obtain ⟨v6, σ6, H6, S6, r6, q6⟩ := hsp
            exact ⟨_, _, _, S6.unsuite ok, r6, q6⟩
        | false =>
          show wpAny _ X.A (handleBy (.ref a) X.env hds2) _ _ _
          exact ih (hno rfl)
      | @named x n i c ts b₀ suite np pos' hds2 l2 hc hN hi hln hsu r ih =>
        intro w
        obtain ⟨b, hb1, hyes, hno⟩ := w
        have hloc : Loc X.env.scope n := .inl hln
        refine wpAny_handleBy_cons (codeAny_handlers_test ?_) (by intro q; cases q)
        have LM := PySem.W.exm_one (M := model X.prog X.w) (J3.kIn) LT hb1
        refine test hc (LM.here ?_)
        cases b with
        | true =>
          refine codeAny_handlers_suite_as ?_
          refine HandSPX.lands_againZ fl3 fun h4 fl4 up4 => ?_
          have J4 : Inv X pins σ' H' { s' with heap := h4 } := J.landed nb fl4.1 ((up.trans up3).trans up4) os ag
          obtain ⟨oe4, vs4, he4, hz4, hd4⟩ := fl4.there
          have S4 := J4.suite he4 hd4 na nL nF
          refine store_ok (X := X.suite a ((a, oe4) :: (X.pn ++ pins))) (v := .ref a) S4 hN hi hloc rfl (fun s5 S5 => ?_) (.inr hln)
          refine wpAny_mono ((hsu a oe4 cls d (X.pn ++ pins) hz4 ⟨_, hd4⟩).run [] s5 _ H' _ S5 (hyes rfl a oe4 (X.pn ++ pins) hz4 ⟨_, hd4⟩ na)) (fun f s6 hsp => ?_) (fun _ _ z => False.elim z)
          have end_ : ∀ {σ6 : St} {H6 : Hp} {Q : Shared → Prop}, Inv (X.suite a ((a, oe4) :: (X.pn ++ pins))) [] σ6 H6 s6 → (∀ s7, Inv X pins (σ6.set i none) H6 s7 → Q s7) →
              wpAny (model X.prog X.w) X.A (do bindName X.env n .none; unbindBehindTheSuite X.env n pos') (fun _ s7 => Q s7) X.xe s6 := fun {σ6 H6 Q} S6 hq => gone_ok (S6.unsuite ok) hN hi hln hq
          cases f with
          | next =>
            obtain ⟨σ6, H6, S6, q6⟩ := hsp
            exact end_ S6 fun s7 J7 => ⟨_, _, J7, q6⟩
          | brk =>
            obtain ⟨σ6, H6, S6, q6⟩ := hsp
            exact end_ S6 fun s7 J7 => ⟨_, _, J7, q6⟩
          | cont =>
            obtain ⟨σ6, H6, S6, q6⟩ := hsp
            exact end_ S6 fun s7 J7 => ⟨_, _, J7, q6⟩
          | ret u =>
            obtain ⟨v6, σ6, H6, S6, r6, q6⟩ := hsp
            exact end_ S6 fun s7 J7 => ⟨_, _, _, J7, r6, q6⟩
        | false =>
          show wpAny _ X.A (handleBy (.ref a) X.env hds2) _ _ _
          exact ih (hno rfl)
    exact go hh w
  refine wpAny_mono ((hb _ _ PassesOwn.looking).run [] s σ H D (I.toTry _) (h _ _ PassesOwn.looking tk0)) (fun f s1 hsp => ?_) (fun e s1 he => he)
  cases f with
  | next =>
    obtain ⟨σ', H', J', q⟩ := hsp
    exact wpAny_execs_nil ⟨σ', H', J'.ofTry ok, q⟩
  | brk =>
    obtain ⟨σ', H', J', q⟩ := hsp
    exact ⟨σ', H', J'.ofTry ok, q⟩
  | cont =>
    obtain ⟨σ', H', J', q⟩ := hsp
    exact ⟨σ', H', J'.ofTry ok, q⟩
  | ret u =>
    obtain ⟨v, σ', H', J', r, q⟩ := hsp
    exact ⟨v, σ', H', J'.ofTry ok, r, q⟩
end
end L2

/-! EX4: exceptions without heap -/
namespace DL
open PySem PySem.Spec PyProof.Rows L2

/-! ### raise -/
section
variable {X : Cx} {pas : DAs} {a : Expr} {as : List Expr} {pos pos2 p : Pos} {nm : Str} {fs : List Str} {C : Addr} {k : Nat}
def dRaise (nm : Str) (fs : List Str) (pas : DAs) : DS := fun DD E => pas E fun ds => ds.length = fs.length ∧ DD.ex ⟨nm, fs, ds⟩ E
theorem s_raiseX (hc : X.calm = true) (T : PySem.ErX.ErrTxt X.prog X.K X.mg nm fs C) (hr : Room k X.A) (ha : QA X (a :: as) pas) (hg : Gl X nm) (h0 : fs ≠ [] := by decide) (hfs : fs.length ≤ 800 := by decide)
    (hdb : (nm == ("__debug__" : Str)) = false := by decide) (he : starEach (a :: as) X.env = (false, eval a X.env) :: starEach as X.env := by rfl) (hpl : (backTo pos (starEach as X.env)).any (·.1) = false := by rfl) :
    QS X (.Raise (some (.Call (.Name nm p) (a :: as) [] pos)) none pos2) (dRaise nm fs pas) := by
  obtain ⟨t, h1, h2⟩ := ha
  refine ⟨_, ps_raiseErr (W := Wm X) hc T h0 hfs hr takes_Wm h1 hg hdb he hpl, fun pp HbE HE Hb H σ E Dn DD s so er h o => ?_⟩
  refine h2 pp HE Hb H σ E _ _ so er h fun vs ds Hb1 H1 s1 so1 r1 l1 q1 => ?_
  refine ⟨by rw [r1.length]; exact q1.1, fun d hd => ?_⟩
  obtain ⟨s2, so2⟩ := lay_own (u := .xd (fs.zip vs)) so1 hd
  exact o.ex _ _ σ E ⟨nm, fs, ds⟩ _ _ ((s.trans s1).trans s2) so2 ((er.step s1).step s2) ⟨T.gC, d, rfl, vs, so1.ne hd, upd_same, r1⟩ q1.2
end

/-! ### defs that raise -/
abbrev SpecX := List D → (D → Prop) → (XD → Prop) → Prop
def spX (K : FK) (mg : Str → Option Value) (S : SpecX) : Sp := fun vs H Q E => ∃ (pp : Addr) (Hb : Hp) (ds : List D) (QD : D → Prop) (QX : XD → Prop), SOk pp K Hb H ∧ RepL pp K Hb ds vs ∧ S ds QD QX ∧
  (∀ d v Hb' H', QD d → Step pp Hb H Hb' H' → SOk pp K Hb' H' → Rep pp K Hb' d v → Q v H') ∧ ∀ x cls d Hb' H', QX x → Step pp Hb H Hb' H' → SOk pp K Hb' H' → XRep pp K mg Hb' H' x cls d → E cls d H'
structure DefX (P : Program) (w : World) (K : FK) (mg : Str → Option Value) (x : Str) (ps : List Str) (k : Nat) (S : SpecX) : Prop where
  ex : ∃ f fd, mg x = some (.ref f) ∧ PySem.W.keepIn K (.ref f) = true ∧ Binds K fd ps [] ∧ ∀ base, FnOk P w K mg base (L2.CX P w) k f fd ps (spX K mg S)
theorem DefX.mono {P : Program} {w : World} {K : FK} {mg : Str → Option Value} {x : Str} {ps : List Str} {j k : Nat} {S : SpecX} (G : DefX P w K mg x ps j S) (h : j ≤ k) : DefX P w K mg x ps k S := by
  obtain ⟨f, fd, h1, h2, h3, h4⟩ := G.ex
  exact ⟨f, fd, h1, h2, h3, fun base => (h4 base).mono h⟩
abbrev fnEndsX (Q : D → Prop) (QX : XD → Prop) : DEnds := ⟨fun _ => Q .non, Q, fun _ => False, fun _ => False, fun _ => False, fun x _ => QX x⟩
def PureX (p : DS) (S : SpecX) (n k : Nat) : Prop := ∀ ds Q QX, S ds Q QX → ds.length = k ∧ p (fnEndsX Q QX) (startN n ds)
/-- the context of a def that may raise -/
abbrev cxX (P : Program) (w : World) (K : FK) (mg : Str → Option Value) (base : Heap) (N : List Str) (qual : Str) (scope : Scope) (f : Addr) (cd : Value) (A : Around) (outer : List Env) (s : Shared) (H : Hp) (E : XK) : Cx :=
  cxOf (L2.CX P w) P w K mg base N qual scope f cd A outer s H E
theorem passX {P : Program} {w : World} {K : FK} {mg : Str → Option Value} {base : Heap} {N : List Str} {qual : Str} {scope : Scope} {f : Addr} {cd : Value} {A : Around} {outer : List Env} {s : Shared} {H : Hp} {E : XK} :
    PassesOwn (model (cxX P w K mg base N qual scope f cd A outer s H E).prog (cxX P w K mg base N qual scope f cd A outer s H E).w) (cxX P w K mg base N qual scope f cd A outer s H E).A (cxX P w K mg base N qual scope f cd A outer s H E).env (cxX P w K mg base N qual scope f cd A outer s H E).xe := passes_of rfl
theorem fnDefX {P : Program} {w : World} {K : FK} {mg : Str → Option Value} {x : Str} {st : Stmt} {N ps : List Str} {k : Nat} {S : SpecX} {p : DS} (F : FunAt K mg x st)
    (hb : ∀ (kV doc pm : Value) (an : Option Addr) (cdv ct : Value) (us : List Value), us.length = ps.length → bindArgs (PySem.W.fnOf x x (defArgs st) (defBody st) (defScope st) .none kV doc pm an cdv ct) ⟨us, []⟩ = pure (ps.zip us))
    (sc : FnScope N ps (defScope st)) (hp : PureX p S N.length ps.length)
    (body : ∀ (base : Heap) (f : Addr) (cdv : Value) (A : Around) (outer : List Env) (s : Shared) (H : Hp) (E : XK), Room k (A.deeper (envOfC x (defScope st) s.heap.objs.size f cdv)) →
      QSs (cxX P w K mg base N x (defScope st) f cdv A outer s H E) (defBody st) p) : DefX P w K mg x ps (k + 1) S := by
  obtain ⟨f, fd, F, hm⟩ := F.ex
  refine ⟨f, fd, hm, F.kp, F.binds hb, fun base => F.okX sc (fun vs H Q E h => ?_) (fun cdv A outer s H vs Q E hr h => ?_)⟩
  · obtain ⟨pp, Hb, ds, QD, QX, _, r, hs, _⟩ := h
    rw [r.length]
    exact (hp ds QD QX hs).1
  · obtain ⟨pp, Hb, ds, QD, QX, so, r, hs, fin, fix⟩ := h
    obtain ⟨t, h1, h2⟩ := body base f cdv A outer s H E hr
    refine ⟨t, h1, h2 pp Hb H Hb H _ _ _ _ .refl so (er_start r) (hp ds QD QX hs).2 ⟨fun Hb' H' σ E s so _ q => ?_, fun Hb' H' v d s so r q => ?_, fun _ _ _ _ _ _ _ q => q.elim, fun _ _ _ _ _ _ _ q => q.elim, fun _ _ _ _ _ _ _ _ q => q.elim, fun Hb' H' σ E' x cls d s so _ r q => ?_⟩⟩
    · exact fin .non .non Hb' H' q s so rep_non
    · exact fin d v Hb' H' q s so r
    · exact Wm_of (takes_of rfl rfl rfl rfl) (fix x cls d Hb' H' q s so r)
section
variable {X : Cx} {e : Expr} {es : List Expr} {pas : DAs} {pos pos' pp' : Pos} {x : Str} {ps : List Str} {k : Nat} {S : SpecX}
def noX (S : SpecX) : SpecD := fun ds Q => S ds Q fun _ => False
/-- a call that lets nothing out -/
theorem q_callN (G : DefX X.prog X.w X.K X.mg x ps k S) (hr : Room k X.A) (hg : Gl X x) (ha : QA X (e :: es) pas)
    (hdb : (x == ("__debug__" : Str)) = false := by decide) (he : starEach (e :: es) X.env = (false, eval e X.env) :: starEach es X.env := by rfl) (hpl : (backTo pos (starEach es X.env)).any (·.1) = false := by rfl) :
    QE X (.Call (.Name x pp') (e :: es) [] pos) (dCall (noX S) pas) := by
  obtain ⟨f, fd, hm, hk, hb, F⟩ := G.ex
  obtain ⟨t, h1, h2⟩ := ha
  refine ⟨_, pe_call (F X.base) hr hg hm hk hb .nil passL h1 hdb he hpl, fun pp HE Hb H σ E Q QD so er hp k => ?_⟩
  refine h2 pp HE Hb H σ E _ _ so er hp fun vs ds Hb1 H1 s1 so1 r1 l1 q1 => ?_
  rw [List.append_nil]
  exact ⟨pp, Hb1, ds, QD, fun _ => False, so1, r1, q1, fun d v Hb2 H2 qd s2 so2 r2 => k v d Hb2 H2 (s1.trans s2) so2 r2 qd, fun _ _ _ _ _ z => z.elim⟩
theorem run_callX {t : TA} {pp : Addr} {HbE HE Hb H : Hp} {σ : L2.St} {E : List Sl} {Dn : Ends} {DD : DEnds} {QV : VK} {QD : D → Prop} (h2 : ∀ (pp : Addr) (HE Hb H : Hp) (σ : L2.St) (E : List Sl) (Q : List V → Hp → Prop) (QD : List D → Prop), SOk pp X.K Hb H → ER pp X.K HE Hb H σ E → pas E QD →
      (∀ vs ds Hb' H', Step pp Hb H Hb' H' → SOk pp X.K Hb' H' → RepL pp X.K Hb' ds vs → ds.length = (e :: es).length → QD ds → Q vs H') → t σ H Q)
    (s : Step pp HbE HE Hb H) (so : SOk pp X.K Hb H) (er : ER pp X.K HE Hb H σ E) (o : EndsOk pp X HbE HE Dn DD) (hp : pas E fun ds => S ds QD fun x => DD.ex x E)
    (k : ∀ v d Hb' H', Step pp Hb H Hb' H' → SOk pp X.K Hb' H' → ER pp X.K HE Hb' H' σ E → Rep pp X.K Hb' d v → QD d → QV v H') : tCallS (spX X.K X.mg S) (fun σ => WE (Wm X) σ) t σ H QV := by
  refine h2 pp HE Hb H σ E _ _ so er hp fun vs ds Hb1 H1 s1 so1 r1 l1 q1 => ?_
  refine ⟨pp, Hb1, ds, QD, fun x => DD.ex x E, so1, r1, q1, fun d v Hb2 H2 qd s2 so2 r2 => ?_, fun x cls d Hb2 H2 qx s2 so2 r2 => ?_⟩
  · exact k v d Hb2 H2 (s1.trans s2) so2 (er.step (s1.trans s2)) r2 qd
  · exact o.ex Hb2 H2 σ E x cls d (s.trans (s1.trans s2)) so2 (er.step (s1.trans s2)) r2 qx
def dCallX (S : SpecX) (pas : DAs) : DS := fun DD E => pas E fun ds => S ds (fun _ => DD.nx E) fun x => DD.ex x E
theorem s_callX (G : DefX X.prog X.w X.K X.mg x ps k S) (hr : Room k X.A) (hg : Gl X x) (ha : QA X (e :: es) pas)
    (hs : swapsWith (.Call (.Name x pp') (e :: es) [] pos) none pos'.line X.env = pure false := by rfl)
    (hdb : (x == ("__debug__" : Str)) = false := by decide) (he : starEach (e :: es) X.env = (false, eval e X.env) :: starEach es X.env := by rfl) (hpl : (backTo pos (starEach es X.env)).any (·.1) = false := by rfl) :
    QS X (.Expr (.Call (.Name x pp') (e :: es) [] pos) pos') (dCallX S pas) := by
  obtain ⟨f, fd, hm, hk, hb, F⟩ := G.ex
  obtain ⟨t, h1, h2⟩ := ha
  refine ⟨_, ps_expr (pe_callS (E := fun σ => WE (Wm X) σ) (F X.base) hr hg hm hk hb (passAt takes_Wm) h1 hdb he hpl) hs, fun pp HbE HE Hb H σ E Dn DD s so er h o => ?_⟩
  exact run_callX h2 s so er o h fun v d Hb' H' s1 so1 er1 r1 q1 => o.nx Hb' H' σ E (s.trans s1) so1 er1 q1
def dSetX (i : Nat) (S : SpecX) (pas : DAs) : DS := fun DD E => pas E fun ds => S ds (fun d => DD.nx (E.set i (.sh d))) fun x => DD.ex x E
theorem s_setX {i : Nat} {y : Str} {py : Pos} (hN : X.N.Nodup) (G : DefX X.prog X.w X.K X.mg x ps k S) (hr : Room k X.A) (hg : Gl X x) (ha : QA X (e :: es) pas) (hi : X.N[i]? = some y := by rfl) (hx : Loc X.env.scope y := by first | exact Or.inl rfl | exact Or.inr rfl)
    (hs : swapsWith (.Call (.Name x pp') (e :: es) [] pos) (some (.Name y py)) pos'.line X.env = pure false := by rfl) (hf : X.fn y = true ∨ X.env.scope.names.lookup y = some .local := by first | exact .inl rfl | exact .inr rfl | assumption)
    (hdb : (x == ("__debug__" : Str)) = false := by decide) (he : starEach (e :: es) X.env = (false, eval e X.env) :: starEach es X.env := by rfl) (hpl : (backTo pos (starEach es X.env)).any (·.1) = false := by rfl) :
    QS X (.Assign [.Name y py] (.Call (.Name x pp') (e :: es) [] pos) pos') (dSetX i S pas) := by
  obtain ⟨f, fd, hm, hk, hb, F⟩ := G.ex
  obtain ⟨t, h1, h2⟩ := ha
  refine ⟨_, ps_set hN hi hx (pe_callS (E := fun σ => WE (Wm X) σ) (F X.base) hr hg hm hk hb (passAt takes_Wm) h1 hdb he hpl) hs hf, fun pp HbE HE Hb H σ E Dn DD s so er h o => ?_⟩
  exact run_callX h2 s so er o h fun v d Hb' H' s1 so1 er1 r1 q1 => o.nx Hb' H' _ _ (s.trans s1) so1 (er1.set_sh i r1) q1
def dRetX (S : SpecX) (pas : DAs) : DS := fun DD E => pas E fun ds => S ds DD.rt fun x => DD.ex x E
theorem s_retX (G : DefX X.prog X.w X.K X.mg x ps k S) (hr : Room k X.A) (hg : Gl X x) (ha : QA X (e :: es) pas)
    (hdb : (x == ("__debug__" : Str)) = false := by decide) (he : starEach (e :: es) X.env = (false, eval e X.env) :: starEach es X.env := by rfl) (hpl : (backTo pos (starEach es X.env)).any (·.1) = false := by rfl) :
    QS X (.Return (some (.Call (.Name x pp') (e :: es) [] pos)) pos') (dRetX S pas) := by
  obtain ⟨f, fd, hm, hk, hb, F⟩ := G.ex
  obtain ⟨t, h1, h2⟩ := ha
  refine ⟨_, ps_ret (pe_callS (E := fun σ => WE (Wm X) σ) (F X.base) hr hg hm hk hb (passAt takes_Wm) h1 hdb he hpl), fun pp HbE HE Hb H σ E Dn DD s so er h o => ?_⟩
  exact run_callX h2 s so er o h fun v d Hb' H' s1 so1 er1 r1 q1 => o.rt Hb' H' v d (s.trans s1) so1 r1 q1
end

/-! ### try -/
structure DCl where
  m : Str → Bool
  sl : Option Nat
  s : Addr → Addr → DS
def cutC (o : Option Nat) (DD : DEnds) : DEnds := match o with
  | none => { DD with ex := fun _ _ => False }
  | some i => { nx := fun E => DD.nx (E.set i .no), rt := DD.rt, bk := fun E => DD.bk (E.set i .no), ct := fun E => DD.ct (E.set i .no), rf := DD.rf, ex := fun _ _ => False }
def setC (o : Option Nat) (a dd : Addr) (x : XD) (E : List Sl) : List Sl := match o with
  | none => E
  | some i => E.set i (.xs a dd x)
def dCatch (DD : DEnds) (x : XD) (E : List Sl) : List DCl → Prop
  | [] => DD.ex x E
  | c :: r => if c.m x.nm = true then ∀ a dd, c.s a dd (cutC c.sl DD) (setC c.sl a dd x E) else dCatch DD x E r
def dTry (errs : List Str) (b : DS) (cs : List DCl) : DS := fun DD E => b { DD with ex := fun x E' => x.nm ∈ errs ∧ dCatch DD x E' cs } E
/-- a clause's suite is read -/
def SuiteOk (X : Cx) (errs : List Str) (m : Str → Bool) (sts : List Stmt) (s : Addr → Addr → DS) : Prop := ∀ (a : Addr) (oe : Obj) (cls : Value) (dd : Addr) (pn : List (Addr × Obj)), Zc cls (some dd) oe → (∃ vs, oe.data = .fields vs) → (∃ n ∈ errs, m n = true ∧ X.mg n = some cls) → QSs (X.suite a ((a, oe) :: pn)) sts (s a dd)
def Tells (X : Cx) (errs : List Str) (c : Value) (m : Str → Bool) : Prop := ∀ n ∈ errs, ∀ cls, X.mg n = some cls → PySem.W.exmOne X.K cls c = some (m n)
inductive DClsOk (X : Cx) (errs : List Str) : List ExceptHandler → List DCl → Prop
  | nil : DClsOk X errs [] []
  | bare {x : Str} {c : Value} {m : Str → Bool} {s : Addr → Addr → DS} {b₀ : Stmt} {suite : List Stmt} {np pos' : Pos} {hds : List ExceptHandler} {l : List DCl} (hc : Names X x c) (hm : Tells X errs c m) (hsu : SuiteOk X errs m (b₀ :: suite) s) (r : DClsOk X errs hds l) :
      DClsOk X errs (.ExceptHandler (some (.Name x np)) none (b₀ :: suite) pos' :: hds) (⟨m, none, s⟩ :: l)
  | named {x n : Str} {i : Nat} {c : Value} {m : Str → Bool} {s : Addr → Addr → DS} {b₀ : Stmt} {suite : List Stmt} {np pos' : Pos} {hds : List ExceptHandler} {l : List DCl} (hc : Names X x c) (hm : Tells X errs c m) (hN : X.N.Nodup) (hi : X.N[i]? = some n) (hln : X.env.kindOf n = some .local)
      (hsu : SuiteOk X errs m (b₀ :: suite) s) (r : DClsOk X errs hds l) :
      DClsOk X errs (.ExceptHandler (some (.Name x np)) (some n) (b₀ :: suite) pos' :: hds) (⟨m, some i, s⟩ :: l)
theorem ER.set_xs {pp : Addr} {K : FK} {HE Hb H : Hp} {σ : L2.St} {E : List Sl} (r : ER pp K HE Hb H σ E) (i : Nat) {a dd : Addr} {x : XD} (q : XF pp K Hb H dd x) : ER pp K HE Hb H (σ.set i (some (.ref a))) (E.set i (.xs a dd x)) := by
  refine ⟨by rw [List.length_set, List.length_set, r.len], fun j d' e => ?_, fun j d' e => ?_, fun j k p d1 d2 hne e1 e2 h1 => ?_, fun j b dd x e => ?_⟩
  · rcases get_set e with ⟨rfl, hl, e'⟩ | ⟨hj, e'⟩
    · cases e'
    · rw [List.getElem?_set_ne (Ne.symm hj)]
      exact r.sh j d' e'
  · rcases get_set e with ⟨rfl, hl, e'⟩ | ⟨hj, e'⟩
    · cases e'
    · rw [List.getElem?_set_ne (Ne.symm hj)]
      exact r.ow j d' e'
  · rcases get_set e1 with ⟨_, _, z⟩ | ⟨hj, e1⟩
    · cases z
    rcases get_set e2 with ⟨_, _, z⟩ | ⟨hk, e2⟩
    · cases z
    rw [List.getElem?_set_ne (Ne.symm hj)] at h1
    rw [List.getElem?_set_ne (Ne.symm hk)]
    exact r.ds j k p d1 d2 hne e1 e2 h1
  · rcases get_set e with ⟨rfl, hl, e'⟩ | ⟨hj, e'⟩
    · cases e'
      exact ⟨by rw [List.getElem?_set_self (by rw [r.len]; exact hl)], q⟩
    · rw [List.getElem?_set_ne (Ne.symm hj)]
      exact r.xs j b dd x e'
section
variable {X : Cx} {errs : List Str}
/-- the suite's reading for the rule of try -/
noncomputable def suiteT (X : Cx) (errs : List Str) (m : Str → Bool) (sts : List Stmt) (s : Addr → Addr → DS) (hsu : SuiteOk X errs m sts s) : Addr → Obj → Value → Option Addr → List (Addr × Obj) → TS := fun a oe cls d pn =>
  open Classical in
  if h : ∃ dd, d = some dd ∧ Zc cls (some dd) oe ∧ (∃ vs, oe.data = .fields vs) ∧ ∃ n ∈ errs, m n = true ∧ X.mg n = some cls then
    Classical.choose (hsu a oe cls (Classical.choose h) pn (Classical.choose_spec h).2.1 (Classical.choose_spec h).2.2.1 (Classical.choose_spec h).2.2.2)
  else fun _ _ _ => False
theorem suiteT_ps {m : Str → Bool} {sts : List Stmt} {s : Addr → Addr → DS} (hsu : SuiteOk X errs m sts s) (a : Addr) (oe : Obj) (cls : Value) (d : Option Addr) (pn : List (Addr × Obj)) : PSs (X.suite a ((a, oe) :: pn)) sts (suiteT X errs m sts s hsu a oe cls d pn) := by
  unfold suiteT
  split
  · rename_i h
    exact (Classical.choose_spec (hsu a oe cls (Classical.choose h) pn (Classical.choose_spec h).2.1 (Classical.choose_spec h).2.2.1 (Classical.choose_spec h).2.2.2)).1
  · exact ⟨fun _ _ _ _ _ _ h => h.elim⟩
theorem suiteT_rs {m : Str → Bool} {sts : List Stmt} {s : Addr → Addr → DS} (hsu : SuiteOk X errs m sts s) {a : Addr} {oe : Obj} {cls : Value} {dd : Addr} {pn : List (Addr × Obj)} (h1 : Zc cls (some dd) oe) (h2 : ∃ vs, oe.data = .fields vs) (h3 : ∃ n ∈ errs, m n = true ∧ X.mg n = some cls) :
    RS (X.suite a ((a, oe) :: pn)) (suiteT X errs m sts s hsu a oe cls (some dd) pn) (s a dd) := by
  have h : ∃ dd', some dd = some dd' ∧ Zc cls (some dd') oe ∧ (∃ vs, oe.data = .fields vs) ∧ ∃ n ∈ errs, m n = true ∧ X.mg n = some cls := ⟨dd, rfl, h1, h2, h3⟩
  unfold suiteT
  rw [dif_pos h]
  have e : Classical.choose h = dd := (Option.some.inj (Classical.choose_spec h).1).symm
  have z := (Classical.choose_spec (hsu a oe cls (Classical.choose h) pn (Classical.choose_spec h).2.1 (Classical.choose_spec h).2.2.1 (Classical.choose_spec h).2.2.2)).2
  have e2 : s a (Classical.choose h) = s a dd := by rw [e]
  rw [← e2]
  exact z
theorem cls_of : ∀ {hds : List ExceptHandler} {cs : List DCl}, DClsOk X errs hds cs → ∃ l, ClsOk X hds l ∧ ∀ (pp : Addr) (HbE HE Hb H : Hp) (σ : L2.St) (E : List Sl) (x : XD) (cls : Value) (d : Option Addr) (Dn : Ends) (DD : DEnds), Step pp HbE HE Hb H → SOk pp X.K Hb H → ER pp X.K HE Hb H σ E → XRep pp X.K X.mg Hb H x cls d → EndsOk pp X HbE HE Dn DD → x.nm ∈ errs → dCatch DD x E cs → wCl X.K (Wm X) Dn l cls d σ H := by
  intro hds cs h
  induction h with
  | nil => exact ⟨[], .nil, fun pp HbE HE Hb H σ E x cls d Dn DD s so er r o hx h => o.ex Hb H σ E x cls d s so er r h⟩
  | @bare y c m s b₀ suite np pos' hds cs hc hm hsu r ih =>
    obtain ⟨l, h1, h2⟩ := ih
    refine ⟨_, .bare hc (fun a oe cls d pn _ _ => suiteT_ps hsu a oe cls d pn) h1, fun pp HbE HE Hb H σ E x cls d Dn DD st so er r o hx h => ?_⟩
    refine ⟨m x.nm, hm x.nm hx cls r.1, fun hb a oe pn z1 z2 na => ?_, fun hb => ?_⟩
    · unfold dCatch at h
      rw [if_pos hb] at h
      obtain ⟨hmg, dd, rfl, q⟩ := r
      refine suiteT_rs hsu z1 z2 ⟨_, hx, hb, hmg⟩ pp HbE HE Hb H σ E _ _ st so er (h a dd) ⟨o.nx, o.rt, o.bk, o.ct, o.rf, fun _ _ _ _ _ _ _ _ _ _ _ z => z.elim⟩
    · unfold dCatch at h
      rw [if_neg (show ¬ m x.nm = true from by rw [hb]; exact Bool.false_ne_true)] at h
      exact h2 pp HbE HE Hb H σ E x cls d Dn DD st so er r o hx h
  | @named y n i c m s b₀ suite np pos' hds cs hc hm hN hi hln hsu r ih =>
    obtain ⟨l, h1, h2⟩ := ih
    refine ⟨_, .named hc hN hi hln (fun a oe cls d pn _ _ => suiteT_ps hsu a oe cls d pn) h1, fun pp HbE HE Hb H σ E x cls d Dn DD st so er r o hx h => ?_⟩
    refine ⟨m x.nm, hm x.nm hx cls r.1, fun hb a oe pn z1 z2 na => ?_, fun hb => ?_⟩
    · unfold dCatch at h
      rw [if_pos hb] at h
      obtain ⟨hmg, dd, rfl, q⟩ := r
      refine suiteT_rs hsu z1 z2 ⟨_, hx, hb, hmg⟩ pp HbE HE Hb H _ _ _ _ st so (er.set_xs i q) (h a dd) ⟨fun Hb H σ E s so er q => o.nx Hb H _ _ s so (er.set_no i) q, o.rt, fun Hb H σ E s so er q => o.bk Hb H _ _ s so (er.set_no i) q, fun Hb H σ E s so er q => o.ct Hb H _ _ s so (er.set_no i) q, o.rf, fun _ _ _ _ _ _ _ _ _ _ _ z => z.elim⟩
    · unfold dCatch at h
      rw [if_neg (show ¬ m x.nm = true from by rw [hb]; exact Bool.false_ne_true)] at h
      exact h2 pp HbE HE Hb H σ E x cls d Dn DD st so er r o hx h
theorem s_try {body : List Stmt} {h₀ : ExceptHandler} {hds : List ExceptHandler} {cs : List DCl} {b : DS} {pos : Pos} (errs : List Str) (hs : X.stack = X.env :: X.outer) (hf : X.env.frame = some X.env.locals)
    (hb : ∀ (pn : List (Addr × Obj)) (xe : Value → Shared → Prop), PassesOwn (model X.prog X.w) X.A X.env xe → QSs (X.tr pn xe) body b) (hh : DClsOk X errs (h₀ :: hds) cs) : QS X (.Try body (h₀ :: hds) [] [] pos) (dTry errs b cs) := by
  obtain ⟨l, h1, h2⟩ := cls_of hh
  open Classical in
  refine ⟨_, ps_try_cl (Wout := Wm X) (tb := fun pn xe => if h : PassesOwn (model X.prog X.w) X.A X.env xe then Classical.choose (hb pn xe h) else fun _ _ _ => False) hs hf takes_Wm (fun pn xe h => ?_) h1, fun pp HbE HE Hb H σ E Dn DD s so er h o => ?_⟩
  · simp only [dif_pos h]
    exact (Classical.choose_spec (hb pn xe h)).1
  · intro pn xe hp tk
    rw [dif_pos hp]
    refine (Classical.choose_spec (hb pn xe hp)).2 pp HbE HE Hb H σ E Dn { DD with ex := fun x E' => x.nm ∈ errs ∧ dCatch DD x E' cs } s so er h ⟨o.nx, o.rt, o.bk, o.ct, o.rf, fun Hb H σ E x cls d s so er r q => ?_⟩
    exact Wm_of tk (h2 pp HbE HE Hb H σ E x cls d Dn DD s so er r o q.1 q.2)
end

/-! ### e.f in a suite -/
def dEf (i : Nat) (a dd : Addr) (f : Str) : DX := fun E Q => match E[i]? with
  | some (.xs b dd' x) => b = a ∧ dd' = dd ∧ (match (x.fs.zip x.ds).lookup f with | some d => Q d | none => False)
  | _ => False
theorem lookup_rep {pp : Addr} {K : FK} {H : Hp} {f : Str} {d : D} : ∀ {fs : List Str} {ds : List D} {vs : List V}, RepL pp K H ds vs → (fs.zip ds).lookup f = some d → ∃ v, (fs.zip vs).lookup f = some v ∧ Rep pp K H d v
  | [], _, _, _, h => by simp at h
  | g :: fs, [], _, r, h => by simp at h
  | g :: fs, e :: ds, _, r, h => by
    obtain ⟨v, w, rfl, h1, h2⟩ := r.uncons
    simp only [List.zip_cons_cons, List.lookup] at h ⊢
    split at h
    · cases h; rename_i e; exact ⟨v, rfl, h1⟩
    · exact lookup_rep h2 h
theorem q_ef {X : Cx} {P : Program} {nm f n : Str} {fs : List Str} {C a dd : Addr} {oe : Obj} {cls : Value} {pn : List (Addr × Obj)} {p pos : Pos} (i : Nat) (T : PySem.ErX.ErrTxt P X.K X.mg nm fs C) (hz : Zc cls (some dd) oe) (hd : ∃ vs, oe.data = .fields vs) (hm : X.mg nm = some cls)
    (hf : f ∈ fs := by decide) (hi : X.N[i]? = some n := by rfl) (hvis : Vis X.env.scope n := by first | exact Or.inl rfl | exact Or.inr (Or.inl rfl) | exact Or.inr (Or.inr rfl)) (hdb : (n == ("__debug__" : Str)) = false := by decide)
    (hcd : (n == ("__classdict__" : Str)) = false := by decide) (hb : attributeBase (.Name n p) f X.env (eval (.Name n p) X.env) = eval (.Name n p) X.env := by rfl) :
    QE (X.suite a ((a, oe) :: pn)) (.Attribute (.Name n p) f pos) (dEf i a dd f) := by
  refine ⟨_, pe_byErr (P := P) (C := C) T hf hz hd (L2.pv (X := X.suite a ((a, oe) :: pn)) i hi hvis hdb hcd) hb, fun pp HE Hb H σ E Q QD so er h k => ?_⟩
  unfold dEf at h
  split at h
  · rename_i b dd' x e
    obtain ⟨rfl, rfl, h⟩ := h
    obtain ⟨h1, vs, h2, h3, h4⟩ := er.xs i _ _ _ e
    split at h
    · rename_i d el
      obtain ⟨v, h5, h6⟩ := lookup_rep h4 el
      have ec : cls = .ref C := by
        have := T.gC
        rw [hm] at this
        exact Option.some.inj this
      exact ⟨_, h1, rfl, ec, _, _, v, rfl, h3, h5, k v d Hb H .refl so h6 h⟩
    · exact h.elim
  · exact h.elim
end DL

/-! EX5: the facts of own errors, as the head of a law gives them -/
namespace DL
open PySem PySem.Spec PyProof.Rows L2
structure ErrX (P : Program) (K : FK) (mg : Str → Option Value) (nm : Str) (fs : List Str) : Prop where
  ex : ∃ C, PySem.ErX.ErrTxt P K mg nm fs C
def mX (nm n : Str) : Bool := n == nm || nm == ("SaveError" : Str)
/-- the class that a clause names, and which of the errors it takes -/
structure TabX (K : FK) (mg : Str → Option Value) (errs : List Str) (nm : Str) : Prop where
  ex : ∃ c, mg nm = some c ∧ ∀ n ∈ errs, ∀ cls, mg n = some cls → PySem.W.exmOne K cls c = some (mX nm n)
section
variable {X : Cx}
theorem s_raise {pas : DAs} {a : Expr} {as : List Expr} {pos pos2 p : Pos} {nm : Str} {fs : List Str} {k : Nat} (T : ErrX X.prog X.K X.mg nm fs) (hr : Room k X.A) (hc : X.calm = true) (ha : QA X (a :: as) pas) (hg : Gl X nm) (h0 : fs ≠ [] := by decide) (hfs : fs.length ≤ 800 := by decide)
    (hdb : (nm == ("__debug__" : Str)) = false := by decide) (he : starEach (a :: as) X.env = (false, eval a X.env) :: starEach as X.env := by rfl) (hpl : (backTo pos (starEach as X.env)).any (·.1) = false := by rfl) :
    QS X (.Raise (some (.Call (.Name nm p) (a :: as) [] pos)) none pos2) (dRaise nm fs pas) := by
  obtain ⟨C, T⟩ := T.ex
  exact s_raiseX hc T hr ha hg h0 hfs hdb he hpl
theorem d_named {errs : List Str} {nm n : Str} {i : Nat} {s : Addr → Addr → DS} {b₀ : Stmt} {suite : List Stmt} {np pos' : Pos} {hds : List ExceptHandler} {l : List DCl} (T : TabX X.K X.mg errs nm) (hg : Gl X nm) (hN : X.N.Nodup)
    (hsu : ∀ (a : Addr) (oe : Obj) (cls : Value) (dd : Addr) (pn : List (Addr × Obj)), Zc cls (some dd) oe → (∃ vs, oe.data = .fields vs) → X.mg nm = some cls → QSs (X.suite a ((a, oe) :: pn)) (b₀ :: suite) (s a dd)) (r : DClsOk X errs hds l) (hi : X.N[i]? = some n := by rfl) (hln : X.env.kindOf n = some .local := by rfl)
    (hdb : (nm == ("__debug__" : Str)) = false := by decide) (hne : (nm == ("SaveError" : Str)) = false := by decide) : DClsOk X errs (.ExceptHandler (some (.Name nm np)) (some n) (b₀ :: suite) pos' :: hds) (⟨mX nm, some i, s⟩ :: l) := by
  obtain ⟨c, h1, h2⟩ := T.ex
  refine .named ⟨hg, hdb, .inl h1⟩ h2 hN hi hln (fun a oe cls dd pn z1 z2 z3 => hsu a oe cls dd pn z1 z2 ?_) r
  obtain ⟨m, _, hm, e⟩ := z3
  unfold mX at hm
  rw [hne, Bool.or_false] at hm
  rw [← beq_iff_eq.mp hm]
  exact e
theorem d_bare {errs : List Str} {nm : Str} {s : DS} {b₀ : Stmt} {suite : List Stmt} {np pos' : Pos} {hds : List ExceptHandler} {l : List DCl} (T : TabX X.K X.mg errs nm) (hg : Gl X nm)
    (hsu : ∀ (a : Addr) (oe : Obj) (pn : List (Addr × Obj)), QSs (X.suite a ((a, oe) :: pn)) (b₀ :: suite) s) (r : DClsOk X errs hds l)
    (hdb : (nm == ("__debug__" : Str)) = false := by decide) : DClsOk X errs (.ExceptHandler (some (.Name nm np)) none (b₀ :: suite) pos' :: hds) (⟨mX nm, none, fun _ _ => s⟩ :: l) := by
  obtain ⟨c, h1, h2⟩ := T.ex
  exact .bare ⟨hg, hdb, .inl h1⟩ h2 (fun a oe cls dd pn z1 z2 z3 => hsu a oe pn) r
theorem q_field {P : Program} {nm f n : Str} {fs : List Str} {a dd : Addr} {oe : Obj} {cls : Value} {pn : List (Addr × Obj)} {p pos : Pos} (i : Nat) (T : ErrX P X.K X.mg nm fs) (hz : Zc cls (some dd) oe) (hd : ∃ vs, oe.data = .fields vs) (hm : X.mg nm = some cls)
    (hf : f ∈ fs := by decide) (hi : X.N[i]? = some n := by rfl) (hvis : Vis X.env.scope n := by first | exact Or.inl rfl | exact Or.inr (Or.inl rfl) | exact Or.inr (Or.inr rfl)) (hdb : (n == ("__debug__" : Str)) = false := by decide)
    (hcd : (n == ("__classdict__" : Str)) = false := by decide) (hb : attributeBase (.Name n p) f X.env (eval (.Name n p) X.env) = eval (.Name n p) X.env := by rfl) :
    QE (X.suite a ((a, oe) :: pn)) (.Attribute (.Name n p) f pos) (dEf i a dd f) := by
  obtain ⟨C, T⟩ := T.ex
  exact q_ef i T hz hd hm hf hi hvis hdb hcd hb
end

/-! ### the facts -/
def stsOf : List Stmt → List (Str × Pos × Pos × Pos × Pos)
  | .Assign [.Attribute (.Name _ a) f b] (.Name _ c) d :: r => (f, a, b, c, d) :: stsOf r
  | _ => []
/-- one error's facts, as k_is tells them -/
structure ErrK (K : FK) (C S fI : Addr) : Prop where
  xC : ∃ nm q N bs sn sub ab col dd k0 k1 k2 k3 k5, K.lookup C = some (excClassObj nm q C N bs (.ref S :: PySem.PX.veTail) true sn sub ab col dd k0 k1 k2 k3 k5 "ValueError.__new__")
  sa : PySem.W.findIn K (.ref C) "__setattr__" = some (some (.builtin "object.__setattr__"))
  ga : PySem.W.findIn K (.ref C) "__getattribute__" = some (some (.builtin "BaseException.__getattribute__"))
  gg : PySem.W.findIn K (.ref C) "__getattr__" = some none
  kC : PySem.W.keepIn K (.ref C) = true
  exC : PySem.W.subIn K (.ref C) (.type "BaseException") = some true
  slf : PySem.W.subIn K (.ref C) (.ref C) = some true
  inE : PySem.W.mroIn K C (.ref C) = some true
  veE : PySem.W.mroIn K C (.type "ValueError") = some true
  icC : PySem.W.isClsIn K C = true
  tyC : PySem.W.typeIn K (.ref C) = some (.type "type")
  hdC : PySem.W.hasDictIn K C = true
  i1 : PySem.W.findIn K (.ref C) "__init__" = some (some (.ref fI))
  t1 : PySem.W.typeIn K (.ref fI) = some (.type "function")
structure BaseK (K : FK) (S : Addr) : Prop where
  xS : ∃ nm q N bs hd sn sub ab col dd k0 k1 k2 k3 k5 nw, K.lookup S = some (excClassObj nm q S N bs PySem.PX.veTail hd sn sub ab col dd k0 k1 k2 k3 k5 nw)
  iS : PySem.W.findIn K (.ref S) "__init__" = some (some (.builtin "ValueError.__init__"))
def noAll (K : FK) (C : Addr) : List Str → Prop
  | [] => True
  | f :: r => PySem.W.findIn K (.ref C) f = some none ∧ noAll K C r
theorem noAll_mem {K : FK} {C : Addr} : ∀ {l : List Str}, noAll K C l → ∀ f ∈ l, PySem.W.findIn K (.ref C) f = some none
  | _ :: _, ⟨h, _⟩, _, .head _ => h
  | _ :: _, ⟨_, h⟩, f, .tail _ m => noAll_mem h f m
theorem errx_mk {P : Program} {K : FK} {h : Heap} {mg : Str → Option Value} {nm qual : Str} {fs : List Str} {st : Stmt} {C S fI cc cda : Addr} {oc doc pm ct cl ccl : Value} {od an cld cdd : Option Addr} {osl csl ccs : Array (Option Value)} {vs : Array Value} {file : Str} {tf : Tok} {p0 p1 p2 p4 p5 : Pos} {ar : Arg}
    (X : K.In h) (G : h.Ns mainGlobals mg) (aC : PySem.W.nsIn K mainGlobals nm = some (some (.ref C))) (B : BaseK K S) (Q : ErrK K C S fI) (hne : S ≠ C) (noN : noAll K C fs) (nd : fs.Nodup)
    (ho : PySem.W.nsIn K cStatics "thirdparty.any" = some none) (hsu : PySem.W.nsIn K mainGlobals "super" = some none) (htop : (P.main.scope.names.lookup ("super" : Str)).isSome = false)
    (l1 : K.lookup fI = some ⟨oc, od, .func (PySem.W.fnX "__init__" qual (defArgs st) (defBody st) (defScope st) [("__class__", cc)] .none .none doc pm an (.ref cda) ct), osl⟩) (c1 : PySem.W.codeIn K (.ref cda) qual = true)
    (lcc : K.lookup cc = some ⟨cl, cld, .cell (some (.ref C)), csl⟩) (lcd : K.lookup cda = some ⟨ccl, cdd, .fields vs, ccs⟩) (hvs : vs[2]? = some (.str file tf)) (hfile : ((P.main.file : Str) == file) = true)
    (hb : defBody st = .Expr (.Call (.Attribute (.Call (.Name "super" p0) [] [] p1) "__init__" p2) ((PySem.ErX.agOf (defBody st)).map PySem.ErX.SA.e) [] p4) p5 :: PySem.ErX.stAll (stsOf (defBody st).tail)) (hs : (stsOf (defBody st).tail).map (·.1) = fs)
    (hbind : ∀ (x : Value) (us : List Value), us.length = fs.length → bindArgs (PySem.W.fnX "__init__" qual (defArgs st) (defBody st) (defScope st) [("__class__", cc)] .none .none doc pm an (.ref cda) ct) ⟨x :: us, []⟩ = pure ((("self" : Str), x) :: fs.zip us))
    (g1 : (defScope st).kind = .function) (g2 : (defScope st).isCoroutine = false) (g3 : (defScope st).isGenerator = false) (g4 : ∀ x ∈ (defScope st).names, x.2 ≠ .cell) (g5 : ∀ x ∈ ("self" : Str) :: fs, (defScope st).names.lookup x = some .local) (g6 : ("self" : Str) ∉ fs)
    (g7 : (defScope st).names.lookup ("__class__" : Str) = some .free) (g8 : (defScope st).names.lookup ("super" : Str) = some .globalImplicit) (g9 : ((defArgs st).posonlyargs ++ (defArgs st).args).head? = some ar) (g10 : ar.arg = "self")
    (g11 : ∀ x ∈ fs, (x == ("__debug__" : Str)) = false) (g12 : PySem.ErX.SupEval p0 p1 p2 p4 (PySem.ErX.agOf (defBody st)) fs) : ErrX P K mg nm fs := by
  obtain ⟨nm', q, N, bs, sn, sub, ab, col, dd, m0, m1, m2, m3, m5, xC⟩ := Q.xC
  refine ⟨C, ⟨PySem.W.mg_of X G aC, ⟨nm', q, N, bs, _, sn, sub, ab, col, dd, m0, m1, m2, m3, m5, xC, by rfl, ?_, ?_⟩, Q.sa, Q.ga, Q.gg, noAll_mem noN, nd, Q.kC, Q.exC, Q.slf, Q.inE, Q.veE, Q.icC, Q.tyC, Q.hdC, ho, PySem.W.mg_none_of X G hsu, htop,
    ⟨fI, cc, cda, oc, cl, ccl, od, cld, cdd, qual, defArgs st, defScope st, doc, pm, an, ct, osl, csl, ccs, p0, p1, p2, p4, p5, PySem.ErX.agOf (defBody st), stsOf (defBody st).tail, vs, file, tf, ar, Q.i1, Q.t1, by rw [← hb]; exact l1, c1, hs, fun s x us hu => by rw [← hb]; exact .of_eq (hbind x us hu), g1, g2, g3, g4, g5, g6, g7, g8, g9, g10, lcc, lcd, hvs, hfile, g11, g12⟩⟩⟩
  · obtain ⟨nm2, q2, N2, bs2, hd2, sn2, sub2, ab2, col2, dd2, n0, n1, n2, n3, n5, nw, xS⟩ := B.xS
    have := B.iS
    unfold PySem.W.findIn at this
    dsimp only at this
    rw [xS] at this
    exact this
  · intro D hD
    rcases List.mem_cons.mp hD with rfl | hD
    · intro z; cases z; exact hne rfl
    · intro z; subst z
      simp [PySem.PX.veTail] at hD
/-- which of the errors a clause takes -/
def tabAll (K : FK) (mg : Str → Option Value) (c : Addr) (nm : Str) : List Str → Prop
  | [] => True
  | n :: r => (∃ C, mg n = some (.ref C) ∧ PySem.W.subIn K (.ref C) (.ref c) = some (mX nm n)) ∧ tabAll K mg c nm r
theorem tabx_mk {K : FK} {h : Heap} {mg : Str → Option Value} {nm : Str} {errs : List Str} {c : Addr} (X : K.In h) (G : h.Ns mainGlobals mg) (aC : PySem.W.nsIn K mainGlobals nm = some (some (.ref c))) (eC : PySem.W.subIn K (.ref c) (.type "BaseException") = some true) (iC : PySem.W.isClsIn K c = true) (tC : PySem.W.typeIn K (.ref c) = some (.type "type")) (T : tabAll K mg c nm errs) : TabX K mg errs nm := by
  refine ⟨.ref c, PySem.W.mg_of X G aC, ?_⟩
  clear aC
  induction errs with
  | nil => intro n hn; cases hn
  | cons m r ih =>
    intro n hn cls hm
    rcases List.mem_cons.mp hn with rfl | hn
    · obtain ⟨⟨C, h1, h3⟩, _⟩ := T
      rw [h1] at hm
      cases hm
      have e1 : (PySem.W.subIn K (.ref c) (.type "BaseException") == some true) = true := by rw [eC] <;> rfl
      have e2 : ((PySem.W.clsIn K c).isSome && PySem.W.typeIn K (.ref c) == some (.type "type")) = true := by
        have h2' : (PySem.W.clsIn K c).isSome = true := iC
        rw [h2', tC] <;> rfl
      have h3' : PySem.W.subIn K (.ref C) (.ref c) = some (mX nm n) := h3
      unfold PySem.W.exmOne
      rw [if_pos e1]
      unfold PySem.W.kitCls
      dsimp only
      rw [if_pos e2]
      exact h3'
    · exact ih T.2 n hn cls hm
theorem tab_cons {K : FK} {h : Heap} {mg : Str → Option Value} {n nm : Str} {r : List Str} {c C : Addr} {b : Bool} (X : K.In h) (G : h.Ns mainGlobals mg) (aC : PySem.W.nsIn K mainGlobals n = some (some (.ref C))) (e2 : PySem.W.subIn K (.ref C) (.ref c) = some b) (hb : b = mX nm n) (t : tabAll K mg c nm r) : tabAll K mg c nm (n :: r) :=
  ⟨⟨C, PySem.W.mg_of X G aC, hb ▸ e2⟩, t⟩
end DL
namespace DL
open PySem PySem.Spec PyProof.Rows L2
theorem errk {K : FK} {C S fI : Addr} {nm q : Str} {N : Addr} {bs : List Value} {sn : List Str} {sub : List Value} {ab : Bool} {col : Option Bool} {dd : Option Addr} {k0 k1 k2 k3 k5 : Option Value}
    (xC : List.lookup C K = some (excClassObj nm q C N bs (.ref S :: PySem.PX.veTail) true sn sub ab col dd k0 k1 k2 k3 k5 "ValueError.__new__"))
    (sa : PySem.W.findIn K (.ref C) "__setattr__" = some (some (.builtin "object.__setattr__"))) (ga : PySem.W.findIn K (.ref C) "__getattribute__" = some (some (.builtin "BaseException.__getattribute__"))) (gg : PySem.W.findIn K (.ref C) "__getattr__" = some none)
    (kC : PySem.W.keepIn K (.ref C) = true) (exC : PySem.W.subIn K (.ref C) (.type "BaseException") = some true) (slf : PySem.W.subIn K (.ref C) (.ref C) = some true) (inE : PySem.W.mroIn K C (.ref C) = some true) (veE : PySem.W.mroIn K C (.type "ValueError") = some true)
    (icC : PySem.W.isClsIn K C = true) (tyC : PySem.W.typeIn K (.ref C) = some (.type "type")) (hdC : PySem.W.hasDictIn K C = true) (i1 : PySem.W.findIn K (.ref C) "__init__" = some (some (.ref fI))) (t1 : PySem.W.typeIn K (.ref fI) = some (.type "function")) : ErrK K C S fI :=
  ⟨⟨_, _, _, _, _, _, _, _, _, _, _, _, _, _, xC⟩, sa, ga, gg, kC, exC, slf, inE, veE, icC, tyC, hdC, i1, t1⟩
theorem basek {K : FK} {S : Addr} {nm q : Str} {N : Addr} {bs : List Value} {hd : Bool} {sn : List Str} {sub : List Value} {ab : Bool} {col : Option Bool} {dd : Option Addr} {k0 k1 k2 k3 k5 : Option Value} {nw : String}
    (xS : List.lookup S K = some (excClassObj nm q S N bs PySem.PX.veTail hd sn sub ab col dd k0 k1 k2 k3 k5 nw)) (iS : PySem.W.findIn K (.ref S) "__init__" = some (some (.builtin "ValueError.__init__"))) : BaseK K S :=
  ⟨⟨_, _, _, _, _, _, _, _, _, _, _, _, _, _, _, _, xS⟩, iS⟩
end DL

/-! EX6: for x in f(..), f a def that raises -/
namespace DL
open PySem PySem.Spec PyProof.Rows L2
def seqQ (d : D) (Q : List D → Prop) : Prop := match d with
  | .lst ds => Q ds
  | .tup ds => Q ds
  | .tk ds => Q ds
  | _ => False
def dForX (S : SpecX) (pas : DAs) (g : DG) (b : DS) : DS := fun DD E => pas E fun ds => S ds (fun d => seqQ d fun items => forL g b DD items E) fun x => DD.ex x E
section
variable {X : Cx} {e tg : Expr} {es : List Expr} {sts : List Stmt} {pas : DAs} {g : DG} {p : DS} {pos pos' pp' : Pos} {x : Str} {ps : List Str} {k : Nat} {S : SpecX}
theorem s_forX (hp : PassesOwn (model X.prog X.w) X.A X.env X.xe) (hc : X.calm = true) (G : DefX X.prog X.w X.K X.mg x ps k S) (hr : Room k X.A) (hgl : Gl X x) (ha : QA X (e :: es) pas) (hg : QG X tg g) (hb : QSs X sts p)
    (hdb : (x == ("__debug__" : Str)) = false := by decide) (he : starEach (e :: es) X.env = (false, eval e X.env) :: starEach es X.env := by rfl) (hpl : (backTo pos (starEach es X.env)).any (·.1) = false := by rfl)
    (hs : ∀ y, foldedSetIterable (.Call (.Name x pp') (e :: es) [] pos) X.env y = pure y := by intro _; rfl) : QS X (.For tg (.Call (.Name x pp') (e :: es) [] pos) sts [] pos') (dForX S pas g p) := by
  obtain ⟨f, fd, hm, hk, hbd, F⟩ := G.ex
  obtain ⟨t, h1, h2⟩ := ha
  obtain ⟨tg', g1, g2⟩ := hg
  obtain ⟨tb, b1, b2⟩ := hb
  refine ⟨_, ps_for hp hc (pi_seq (pe_callS (E := fun σ => WE (Wm X) σ) (F X.base) hr hgl hm hk hbd (passAt takes_Wm) h1 hdb he hpl)) g1 b1 hs, fun pp HbE HE Hb H σ E Dn DD s so er h o => ?_⟩
  refine for_read (pi := fun E Q => pas E fun ds => S ds (fun d => seqQ d Q) fun x => DD.ex x E) (g := g) (p := p) (DD := DD) (fun R QD q k => ?_) g2 b2 s so er h (o.cut s)
  refine run_callX h2 s.here so er (o.cut s) q fun v d Hb1 H1 s1 so1 er1 r1 q1 => ?_
  unfold seqQ at q1
  split at q1
  · unfold Rep at r1
    obtain ⟨a, xs, rfl, s2, q2⟩ := r1
    exact ⟨a, rfl, .inl ⟨⟨xs, .of (so1.le _ _ s2)⟩, k _ _ Hb1 H1 s1 so1 (walk_list s2 q2) q1⟩⟩
  · unfold Rep at r1
    obtain ⟨a, xs, rfl, s2, q2⟩ := r1
    exact ⟨a, rfl, .inr ⟨⟨xs, so1.hle.sqT s2.sqT⟩, k _ _ Hb1 H1 s1 so1 (walk_tup s2.sqT q2) q1⟩⟩
  · unfold Rep at r1
    obtain ⟨a, xs, rfl, s2, q2⟩ := r1
    exact ⟨a, rfl, .inr ⟨⟨xs, .inl (.inl (so1.le _ _ s2))⟩, k _ _ Hb1 H1 s1 so1 (walk_tup (.inl (.inl s2)) q2) q1⟩⟩
  · exact q1.elim
end
end DL

/-! EX7: the first that stands again, the first that is not known -/
namespace DL
open PySem PySem.Spec PyProof.Rows L2
/-- an error with one field name -/
def nameX (c n : Str) : XD := ⟨c, [Str.ofString "name"], [.str n]⟩
/-- the first that an earlier one is -/
def fst2 (done : List Str) : List Str → Option Str
  | [] => none
  | x :: r => if x ∈ done then some x else fst2 (done ++ [x]) r
def fstNo (known : List Str) : List Str → Option Str
  | [] => none
  | x :: r => if x ∈ known then fstNo known r else some x
theorem fst2_app : ∀ (xs done r : List Str), (done ++ xs).Nodup → fst2 done (xs ++ r) = fst2 (done ++ xs) r
  | [], done, r, _ => by simp
  | x :: xs, done, r, h => by
    have e : done ++ x :: xs = (done ++ [x]) ++ xs := by simp
    rw [List.cons_append]
    show (if x ∈ done then some x else fst2 (done ++ [x]) (xs ++ r)) = _
    have hx : x ∉ done := fun z => by
      rw [List.nodup_append] at h
      exact h.2.2 x z x (by simp) rfl
    rw [if_neg hx, e]
    exact fst2_app xs (done ++ [x]) r (by rw [← e]; exact h)
theorem fst2_none {xs : List Str} (h : xs.Nodup) : fst2 [] xs = none := by
  have := fst2_app xs [] [] (by simpa using h)
  rw [List.append_nil] at this
  rw [this]; rfl
theorem fst2_some {xs r : List Str} {x : Str} (h : xs.Nodup) (hx : x ∈ xs) : fst2 [] (xs ++ x :: r) = some x := by
  rw [fst2_app xs [] _ (by simpa using h), List.nil_append]
  unfold fst2
  rw [if_pos hx]
theorem fstNo_none {ks : List Str} : ∀ {o : List Str}, (∀ n ∈ o, n ∈ ks) → fstNo ks o = none
  | [], _ => rfl
  | x :: o, h => by
    unfold fstNo
    rw [if_pos (h x (by simp))]
    exact fstNo_none fun n hn => h n (by simp [hn])
theorem fstNo_app {ks : List Str} : ∀ {o : List Str} (r : List Str), (∀ n ∈ o, n ∈ ks) → fstNo ks (o ++ r) = fstNo ks r
  | [], _, _ => rfl
  | x :: o, r, h => by
    rw [List.cons_append]
    show (if x ∈ ks then fstNo ks (o ++ r) else some x) = _
    rw [if_pos (h x (by simp))]
    exact fstNo_app r fun n hn => h n (by simp [hn])
theorem hasK_s {x : Str} {l : List Str} : hasK (l.map Sum.inr : List Key) (Sum.inr x) = decide (x ∈ l) := by
  rw [Bool.eq_iff_iff, hasK_iff, decide_eq_true_iff, List.mem_map]
  exact ⟨fun ⟨m, hm, e⟩ => by injection e with e; exact e ▸ hm, fun h => ⟨x, h, rfl⟩⟩
theorem pt_new {κ : Type} [DecidableEq κ] {ks : List κ} {ds : List D} {k : κ} {d : D} (h : k ∉ ks) : ptK ks k = ks ++ [k] ∧ ptD ks ds k d = ds ++ [d] := by
  have : ¬ hasK ks k = true := fun z => h (hasK_iff.mp z)
  unfold ptK ptD
  rw [if_neg this, if_neg this]
  exact ⟨rfl, rfl⟩
theorem inr_mem {x : Str} {l : List Str} : (Sum.inr x : Key) ∈ l.map Sum.inr ↔ x ∈ l := by
  rw [List.mem_map]
  exact ⟨fun ⟨m, hm, e⟩ => by injection e with e; exact e ▸ hm, fun h => ⟨x, h, rfl⟩⟩
end DL

/-! EQ1: == and != of nested lists and dicts that are equal -/
namespace PySem.SeqAt
open AutoSeq1 (wpAny_loadPart')
open MeetsSeq MeetsSeq2 MeetsSeq3 SeqRoads2
section
variable {prog : Program} {w : World}
theorem dl_ne_loopIn (l b : Addr) (items items2 : Array Value) (n n2 : Nat) (dd dd2 : Option Addr) (sl sl2 : Array (Option Value)) (hsz : items.size = items2.size) (e : Nat → Bool) (k : Nat) :
    ∀ i : Nat, items.size - i = k → MeetsIn prog w (Builtin.«list.__eq__.loop» ⟨[.ref l, .ref b, rawInt i, rawInt 3], []⟩)
      (fun A R s => s.heap.get? l = some { cls := .type "list", dict := dd, data := .seq items n, slots := sl } ∧ s.heap.get? b = some { cls := .type "list", dict := dd2, data := .seq items2 n2, slots := sl2 } ∧
        (∀ j (h1 : j < items.size) (h2 : j < items2.size), EqP prog w A.in1 s items[j] items2[j] (e j)) ∧
        R (.ok (.ret (.bool (!((List.range items.size).drop i).all e)))) s) := by
  induction k with
  | zero =>
    intro i hk A R s h
    obtain ⟨hp, g, d, tk, os⟩ := s; obtain ⟨hl, hb, he, h⟩ := h
    wp_walk using wpAny_loadPart' hl, wpAny_loadPart' hb
    have hi1 : items[((i : Nat) : Int).toNat]? = none := by simp; omega
    have hi2 : items2[((i : Nat) : Int).toNat]? = none := by simp; omega
    have hd : (List.range items.size).drop i = [] := by simp; omega
    rw [hd] at h
    rw [hi1, hi2]
    wp_walk using wpAny_loadPart' hl, wpAny_loadPart' hb
    show R (.ok (.ret (.bool (items.size != items2.size)))) _
    rw [hsz]
    simpa using h
  | succ k ih =>
    intro i hk A R s h
    obtain ⟨hp, g, d, tk, os⟩ := s; obtain ⟨hl, hb, he, h⟩ := h
    wp_walk using wpAny_loadPart' hl, wpAny_loadPart' hb
    have hlt : i < items.size := by omega
    have hlt2 : i < items2.size := by omega
    have hi1 : items[((i : Nat) : Int).toNat]? = some items[i] := by simp [hlt]
    have hi2 : items2[((i : Nat) : Int).toNat]? = some items2[i] := by simp [hlt2]
    have hd : (List.range items.size).drop i = i :: (List.range items.size).drop (i + 1) := by simp [List.drop_eq_getElem_cons, hlt]
    have hc : ((i : Int) + 1) = ((i + 1 : Nat) : Int) := by push_cast; rfl
    rw [hd, List.all_cons] at h
    rw [hi1, hi2]
    refine wpAny_bind (he i hlt hlt2 _ _ ?_)
    cases hb' : e i with
    | true =>
      rw [hb'] at h
      wp_walk
      rw [hc]
      exact ⟨plainId_quiet plain_eq_loop _, codeAny_builtin entry_eq_loop (by
        rw [Around.under_plainId plain_eq_loop _]
        exact ih (i + 1) (by omega) A R _ ⟨hl, hb, he, by simpa using h⟩)⟩
    | false =>
      rw [hb'] at h
      wp_walk using wpAny_loadPart' hl, wpAny_loadPart' hb
      rw [hi1, hi2]
      wp_walk
      simpa using h
theorem dl_list_neIn (l b : Addr) (items items2 : Array Value) (n n2 : Nat) (dd dd2 : Option Addr) (sl sl2 : Array (Option Value)) (hsz : items.size = items2.size) (e : Nat → Bool) :
    MeetsIn prog w (Builtin.«list.__ne__» ⟨[.ref l, .ref b], []⟩)
      (fun A R s => s.heap.get? l = some { cls := .type "list", dict := dd, data := .seq items n, slots := sl } ∧ s.heap.get? b = some { cls := .type "list", dict := dd2, data := .seq items2 n2, slots := sl2 } ∧
        (∀ j (h1 : j < items.size) (h2 : j < items2.size), EqP prog w A.in1 s items[j] items2[j] (e j)) ∧
        R (.ok (.ret (.bool (!(List.range items.size).all e)))) s) := by
  intro A R s h
  obtain ⟨hp, g, d, tk, os⟩ := s; obtain ⟨hl, hb, he, h⟩ := h
  have f3 := AutoSeq1.sub_list_list
  have hne : ¬ (items.size != items2.size) = true := by simp [hsz]
  wp_walk using wpAny_loadPart' hl, wpAny_loadPart' hb
  exact ⟨plainId_quiet plain_eq_loop _, codeAny_builtin entry_eq_loop (by
    rw [Around.under_plainId plain_eq_loop _]
    exact dl_ne_loopIn l b items items2 n n2 dd dd2 sl sl2 hsz e _ 0 rfl A R _ ⟨hl, hb, he, by simpa using h⟩)⟩
theorem rcNP_lists {A : Around} {s : Shared} {l b : Addr} {items items2 : Array Value} {e : Nat → Bool} (hl : s.heap.IsList l items) (hb : s.heap.IsList b items2) (hsz : items.size = items2.size) (hu : A.units < cLine)
    (he : ∀ j (h1 : j < items.size) (h2 : j < items2.size), EqP prog w A.in1 s items[j] items2[j] (e j)) (E Q : Value → Shared → Prop) (h : Q (.bool (!(List.range items.size).all e)) s) : wpAny (model prog w) A (richCompare .NotEq (.ref l) (.ref b)) Q E s := by
  obtain ⟨⟨cls, dd, data, sl⟩, ho, hc, n, hd⟩ := id hl
  obtain ⟨⟨cls2, dd2, data2, sl2⟩, ho2, hc2, n2, hd2⟩ := id hb
  simp only at hc hd hc2 hd2
  subst hc hd hc2 hd2
  have ta : s.TypeIs (.ref l) "list" := ⟨_, ho, rfl⟩
  have tb : s.TypeIs (.ref b) "list" := ⟨_, ho2, rfl⟩
  exact wpAny_richCompare_same_room (op := .NotEq) ta tb F.slot_list_ne (call_meetsIn F.slot_list_ne ta F.entry_list_ne (F.args_list_ne_2 _ _) (dl_list_neIn l b items items2 n n2 dd dd2 sl sl2 hsz e)
    ⟨ho, ho2, he, show Value.bool (!(List.range items.size).all e) ≠ Value.notImplemented ∧ Q (.bool (!(List.range items.size).all e)) s from ⟨(fun x => nomatch x), h⟩⟩) hu
end
end PySem.SeqAt
namespace PySem.W
open PySem PySem.Calls PyProof.Rows PySem.Spec
theorem rcNP_dicts {prog : Program} {w : World} {K : Type} [DecidableEq K] {knd : KeyKind prog w K} {A : Around} {s : Shared} {a b : Addr} {ka kb : List (K × Value)} {r : Bool} (ha : (a == sysModules) = false) (hb : (b == sysModules) = false)
    (da : s.heap.DictOf knd a ka) (db : s.heap.DictOf knd b kb) (hu : A.units < cLine) (hits : ka.length = kb.length → KeqHitsP prog w A.in1 s kb ka r) (E Q : Value → Shared → Prop) (h : Q (.bool (!(ka.length == kb.length && r))) s) : wpAny (model prog w) A (richCompare .NotEq (.ref a) (.ref b)) Q E s := by
  refine wpAny_richCompare_same_room (op := .NotEq) da.typeIs db.typeIs PySem.F.slot_dict_ne (wpAny_call_entry PySem.F.slot_dict_ne da.typeIs PySem.F.entry_dict_ne ?_ (PySem.F.args_dict_ne_2 _ _)) hu
  show wpAny _ _ (Builtin.Dict.dictSlotArgs "__ne__" ⟨[.ref a, .ref b], []⟩ >>= _) _ _ s
  refine wpAny_bind ?_
  unfold Builtin.Dict.dictSlotArgs
  refine wpAny_bind (wpAny_notOrdered_dict da.typeIs ?_)
  show wpAny _ _ (pure (Value.ref a, Value.ref b)) _ _ s
  refine wpAny_pure ?_
  refine wpAny_bind (wpAny_isInstance (T := "dict") db.typeIs PySem.F.sub_dict_dict ?_)
  simp only [Bool.not_true, Bool.false_eq_true, if_false]
  refine wpAny_bind (wpAny_pure (wpAny_bind (wpAny_pure ?_)))
  refine wpAny_bind (samePairsP ha hb da db hits ?_)
  refine wpAny_pure ⟨_, rfl, ?_, ?_⟩
  · exact fun x => nomatch x
  · simpa using h
end PySem.W
namespace L2
open PySem PySem.Spec PyProof.Rows
/-- two lists of equal items; two dicts of the same keys, their values equal (locked or not) -/
def EqR2 (K : PySem.W.Frag) (H : Hp) (E : V → V → Prop) (x y : V) : Prop :=
  (∃ a b xs ys, x = .ref a ∧ y = .ref b ∧ SqL K H a xs ∧ SqL K H b ys ∧ Paired E xs ys) ∨
    ∃ a b ks ls, x = .ref a ∧ y = .ref b ∧ Rd H a (.dK ks) ∧ Rd H b (.dK ls) ∧ ks.length = ls.length ∧ ∀ p ∈ ks, ∃ u, valV ls p.1 = some u ∧ E p.2 u
def EqW (K : PySem.W.Frag) (H : Hp) : Nat → V → V → Prop
  | 0 => fun x y => ∃ d e, Dp K H x d ∧ Dp K H y e ∧ d.plain = true ∧ e.plain = true ∧ d.depth ≤ 60 ∧ PyData.eqv d e = true
  | n + 1 => fun x y => (∃ d e, Dp K H x d ∧ Dp K H y e ∧ d.plain = true ∧ e.plain = true ∧ d.depth ≤ 60 ∧ PyData.eqv d e = true) ∨ EqR2 K H (EqW K H n) x y
section
variable {X : Cx} {pins : List (Addr × Obj)} {σ : St} {H : Hp} {s : Shared}
theorem eqR2_run (I : Inv X pins σ H s) {A : Around} {F : V → V → Prop} (hu : A.units < cLine) (ih : ∀ x y v u, F x y → RelV x v → RelV y u → SeqAt.EqP X.prog X.w A.in1 s v u true) {x y : V} {v u : Value} (h : EqR2 X.K H F x y) (rx : RelV x v) (ry : RelV y u)
    (E Q : Value → Shared → Prop) : (Q (.bool true) s → wpAny (model X.prog X.w) A (richCompare .Eq v u) Q E s) ∧ (Q (.bool false) s → wpAny (model X.prog X.w) A (richCompare .NotEq v u) Q E s) := by
  rcases h with ⟨a, b, xs, ys, rfl, rfl, ha, hb, hp⟩ | ⟨a, b, ks, ls, rfl, rfl, ha, hb, hl, hp⟩
  · cases (show v = Value.ref a from rx)
    cases (show u = Value.ref b from ry)
    obtain ⟨us, r1, p1, _⟩ := I.list ha
    obtain ⟨ws, r2, p2, _⟩ := I.list hb
    have hsz : us.toArray.size = ws.toArray.size := by
      rw [List.size_toArray, List.size_toArray, ← r1.length, ← r2.length]
      exact Paired.length hp
    have he : ∀ j (h1 : j < us.toArray.size) (h2 : j < ws.toArray.size), SeqAt.EqP X.prog X.w A.in1 s us.toArray[j] ws.toArray[j] ((fun _ => true) j) := fun j h1 h2 => by
      have k := items_run ih hp r1 r2 j (by simpa using h1) (by simpa using h2)
      simpa using k
    have ea : ((List.range us.toArray.size).all fun _ => true) = true := List.all_eq_true.mpr fun _ _ => rfl
    exact ⟨fun q => SeqAt.rcP_lists (e := fun _ => true) p1.isList p2.isList hsz hu he E Q (by rw [ea]; exact q), fun q => SeqAt.rcNP_lists (e := fun _ => true) p1.isList p2.isList hsz hu he E Q (by rw [ea]; exact q)⟩
  · cases (show v = Value.ref a from rx)
    cases (show u = Value.ref b from ry)
    obtain ⟨_, ya, va, ra, da⟩ := (show ObjOk X.prog X.w H s.heap a (.dK ks) from ha.ok I.hok)
    obtain ⟨_, yb, vb, rb, db⟩ := (show ObjOk X.prog X.w H s.heap b (.dK ls) from hb.ok I.hok)
    have e : va.length = vb.length := by rw [← ra.length, ← rb.length]; exact hl
    have e2 : (va.length == vb.length && true) = true := by rw [e]; simp
    exact ⟨fun q => PySem.W.rcP_dicts (knd := mixKind X.prog X.w) (r := true) ya yb da db hu (fun _ => hits_run ih rb ra hp) E Q (by rw [e2]; exact q),
      fun q => PySem.W.rcNP_dicts (knd := mixKind X.prog X.w) (r := true) ya yb da db hu (fun _ => hits_run ih rb ra hp) E Q (by rw [e2]; exact q)⟩
theorem eqP_plain (I : Inv X pins σ H s) {A : Around} (hu : A.units + 61 < cLine) {x y : V} {v u : Value} {d e : PyData} (hd : Dp X.K H x d) (he : Dp X.K H y e) (pd : d.plain = true) (pe : e.plain = true) (dd : d.depth ≤ 60) (q : PyData.eqv d e = true) (rx : RelV x v) (ry : RelV y u) : SeqAt.EqP X.prog X.w A s v u true := by
  obtain ⟨as, r1⟩ := Dp.reads I d x v hd rx
  obtain ⟨bs, r2⟩ := Dp.reads I e y u he ry
  have := SeqAt.eqAt_plain d e A s v u as bs r1 r2 pd pe (by omega)
  rw [q] at this
  exact this.eqP
theorem eqW_run (I : Inv X pins σ H s) : ∀ (n : Nat) (A : Around), A.units + n + 61 < cLine → ∀ (x y : V) (v u : Value), EqW X.K H n x y → RelV x v → RelV y u → SeqAt.EqP X.prog X.w A s v u true
  | 0, A, hu, x, y, v, u, h, rx, ry => by
    obtain ⟨d, e, h1, h2, h3, h4, h5, h6⟩ := h
    exact eqP_plain I (by omega) h1 h2 h3 h4 h5 h6 rx ry
  | n + 1, A, hu, x, y, v, u, h, rx, ry => by
    rcases h with ⟨d, e, h1, h2, h3, h4, h5, h6⟩ | h
    · exact eqP_plain I (by omega) h1 h2 h3 h4 h5 h6 rx ry
    · have step := fun E Q => (eqR2_run I (A := A) (by omega) (eqW_run I n A.in1 (by show A.units + 1 + n + 61 < cLine; omega)) h rx ry E Q).1
      obtain ⟨a, b, rfl, rfl⟩ : ∃ a b, x = .ref a ∧ y = .ref b := by
        rcases h with ⟨a, b, _, _, e1, e2, _⟩ | ⟨a, b, _, _, e1, e2, _⟩
        · exact ⟨a, b, e1, e2⟩
        · exact ⟨a, b, e1, e2⟩
      cases (show v = Value.ref a from rx)
      cases (show u = Value.ref b from ry)
      by_cases e : a = b
      · subst e
        exact (SeqAt.EqAt.same _).eqP
      · exact SeqAt.eqP_refs e step
end
section
variable {X : Cx}
theorem op_eqW (hu : X.A.units + 100 < cLine) : OpR X (compareOp .Eq) (fun x y H Q => EqR2 X.K H (EqW X.K H 3) x y ∧ Q (.bl true) H) := by
  intro pins s σ H x y v u Q I rx ry h
  exact (eqR2_run I (A := X.A) (by omega) (eqW_run I 3 X.A.in1 (by show X.A.units + 1 + 3 + 61 < cLine; omega)) h.1 rx ry _ _).1 ⟨.bl true, H, I, rfl, h.2⟩
theorem op_neW (hu : X.A.units + 100 < cLine) : OpR X (compareOp .NotEq) (fun x y H Q => EqR2 X.K H (EqW X.K H 3) x y ∧ Q (.bl false) H) := by
  intro pins s σ H x y v u Q I rx ry h
  exact (eqR2_run I (A := X.A) (by omega) (eqW_run I 3 X.A.in1 (by show X.A.units + 1 + 3 + 61 < cLine; omega)) h.1 rx ry _ _).2 ⟨.bl false, H, I, rfl, h.2⟩
end
end L2
namespace DL
open PySem PySem.Spec PyProof.Rows L2
/-- alike, dicts too -/
def eqX : Nat → D → D → Prop
  | 0, x, y => okD 50 x = true ∧ okD 50 y = true ∧ deq x y = true
  | n + 1, x, y => (okD 50 x = true ∧ okD 50 y = true ∧ deq x y = true) ∨ match x, y with
    | .lst xs, .lst ys => xs.length = ys.length ∧ ∀ (i : Nat) a b, xs[i]? = some a → ys[i]? = some b → eqX n a b
    | .dic ks xs, .dic js ys => ks.length = js.length ∧ ks.Nodup ∧ ∀ k ∈ ks, ∃ a b, lk ks xs k = some a ∧ lk js ys k = some b ∧ eqX n a b
    | _, _ => False
/-- .. lists or dicts -/
def eqR (x y : D) : Prop := match x, y with
  | .lst xs, .lst ys => xs.length = ys.length ∧ ∀ (i : Nat) a b, xs[i]? = some a → ys[i]? = some b → eqX 3 a b
  | .dic ks xs, .dic js ys => ks.length = js.length ∧ ks.Nodup ∧ ∀ k ∈ ks, ∃ a b, lk ks xs k = some a ∧ lk js ys k = some b ∧ eqX 3 a b
  | _, _ => False
section
variable {pp : Addr} {K : FK} {Hb H : Hp}
theorem plain_w {x y : D} {v u : V} (h : okD 50 x = true ∧ okD 50 y = true ∧ deq x y = true) (rx : Rep pp K Hb x v) (ry : Rep pp K Hb y u) (le : Le Hb H) : ∃ d e, Dp K H v d ∧ Dp K H u e ∧ d.plain = true ∧ e.plain = true ∧ d.depth ≤ 60 ∧ PyData.eqv d e = true := by
  obtain ⟨h1, h2, h3⟩ := h
  have p1 := pd_plain _ _ h1
  have p2 := pd_plain _ _ h2
  exact ⟨pd x, pd y, rep_dp 50 x v h1 (rx.le le), rep_dp 50 y u h2 (ry.le le), p1.1, p2.1, by have := p1.2; omega, by rw [pd_eqv _ _ _ _ h1 h2]; exact h3⟩
theorem paired_of {F : V → V → Prop} : ∀ {xs ys : List D} {vs us : List V}, RepL pp K Hb xs vs → RepL pp K Hb ys us → xs.length = ys.length → (∀ (i : Nat) a b v u, xs[i]? = some a → ys[i]? = some b → Rep pp K Hb a v → Rep pp K Hb b u → F v u) → Paired F vs us
  | [], [], vs, us, r1, r2, _, _ => by
    rw [r1.unnil, r2.unnil]; exact .nil
  | [], _ :: _, _, _, _, _, h, _ => by simp at h
  | _ :: _, [], _, _, _, _, h, _ => by simp at h
  | x :: xs, y :: ys, vs, us, r1, r2, h, f => by
    obtain ⟨v, vs', rfl, a1, a2⟩ := r1.uncons
    obtain ⟨u, us', rfl, b1, b2⟩ := r2.uncons
    exact .cons (f 0 x y v u rfl rfl a1 b1) (paired_of a2 b2 (by simpa using h) fun i a b v u e1 e2 => f (i + 1) a b v u (by simpa using e1) (by simpa using e2))
theorem valV_mem : ∀ {ws : List (Key × V)} {p : Key × V}, (ws.map (·.1)).Nodup → p ∈ ws → valV ws p.1 = some p.2
  | q :: ws, p, nd, h => by
    rw [List.map_cons, List.nodup_cons] at nd
    by_cases e : q.1 = p.1
    · rcases List.mem_cons.mp h with h | h
      · rw [h]; exact valV_pos rfl
      · exact absurd (List.mem_map.mpr ⟨p, h, e.symm⟩) nd.1
    · rw [valV_neg e]
      rcases List.mem_cons.mp h with h | h
      · exact absurd (by rw [h]) e
      · exact valV_mem nd.2 h
theorem dic_w {F : V → V → Prop} {ks js : List Key} {xs ys : List D} {ws ls : List (Key × V)} (e1 : ws.map (·.1) = ks) (e2 : ls.map (·.1) = js) (r1 : RepL pp K Hb xs (ws.map (·.2))) (r2 : RepL pp K Hb ys (ls.map (·.2))) (nd : ks.Nodup)
    (h : ∀ k ∈ ks, ∃ a b, lk ks xs k = some a ∧ lk js ys k = some b ∧ ∀ v u, Rep pp K Hb a v → Rep pp K Hb b u → F v u) : ∀ p ∈ ws, ∃ u, valV ls p.1 = some u ∧ F p.2 u := fun p hp => by
  subst e1 e2
  obtain ⟨a, b, ea, eb, f⟩ := h p.1 (List.mem_map.mpr ⟨p, hp, rfl⟩)
  obtain ⟨v, hv, rv⟩ := (lk_val r1).1 a ea
  obtain ⟨u, hu, ru⟩ := (lk_val r2).1 b eb
  rw [valV_mem nd hp] at hv
  cases hv
  exact ⟨u, hu, f _ _ rv ru⟩
theorem eqX_w (so : SOk pp K Hb H) : ∀ (n : Nat) (x y : D) (v u : V), eqX n x y → Rep pp K Hb x v → Rep pp K Hb y u → EqW K H n v u
  | 0, x, y, v, u, h, rx, ry => plain_w h rx ry so.hle
  | n + 1, x, y, v, u, h, rx, ry => by
    rcases h with h | h
    · exact .inl (plain_w h rx ry so.hle)
    · refine .inr ?_
      split at h
      · unfold Rep at rx ry
        obtain ⟨a, xs, rfl, h1, q1⟩ := rx
        obtain ⟨b, ys, rfl, h2, q2⟩ := ry
        exact .inl ⟨a, b, xs, ys, rfl, rfl, .of (so.le _ _ h1), .of (so.le _ _ h2), paired_of q1 q2 h.1 fun i c d v u e1 e2 => eqX_w so n c d v u (h.2 i c d e1 e2)⟩
      · unfold Rep at rx ry
        obtain ⟨a, ws, rfl, h1, k1, q1⟩ := rx
        obtain ⟨b, ls, rfl, h2, k2, q2⟩ := ry
        refine .inr ⟨a, b, ws, ls, rfl, rfl, so.hle.rd _ _ trivial h1, so.hle.rd _ _ trivial h2, ?_, dic_w k1 k2 q1 q2 h.2.1 fun k hk => ?_⟩
        · have := h.1
          rw [← k1, ← k2, List.length_map, List.length_map] at this
          exact this
        · obtain ⟨c, d, e1, e2, e3⟩ := h.2.2 k hk
          exact ⟨c, d, e1, e2, fun v u => eqX_w so n c d v u e3⟩
      · exact h.elim
theorem eqR_w (so : SOk pp K Hb H) {x y : D} {v u : V} (h : eqR x y) (rx : RepT pp K Hb H x v) (ry : RepT pp K Hb H y u) : EqR2 K H (EqW K H 3) v u := by
  unfold eqR at h
  split at h
  · obtain ⟨a, xs, rfl, h1, q1⟩ := rx.lst so
    obtain ⟨b, ys, rfl, h2, q2⟩ := ry.lst so
    exact .inl ⟨a, b, xs, ys, rfl, rfl, .of h1, .of h2, paired_of q1 q2 h.1 fun i c d v u e1 e2 => eqX_w so 3 c d v u (h.2 i c d e1 e2)⟩
  · obtain ⟨a, ws, rfl, h1, k1, q1⟩ := rx.dic so
    obtain ⟨b, ls, rfl, h2, k2, q2⟩ := ry.dic so
    refine .inr ⟨a, b, ws, ls, rfl, rfl, h1, h2, ?_, dic_w k1 k2 q1 q2 h.2.1 fun k hk => ?_⟩
    · have := h.1
      rw [← k1, ← k2, List.length_map, List.length_map] at this
      exact this
    · obtain ⟨c, d, e1, e2, e3⟩ := h.2.2 k hk
      exact ⟨c, d, e1, e2, fun v u => eqX_w so 3 c d v u e3⟩
  · exact h.elim
end
def rdEqX : RD := fun x y Q => eqR x y ∧ Q (.bl true)
def rdNeX : RD := fun x y Q => eqR x y ∧ Q (.bl false)
section
variable {X : Cx}
theorem od_eqX {k : Nat} (hr : Room k X.A) : OD X (compareOp .Eq) rdEqX := by
  refine ⟨_, op_eqW (by have := hr.un; omega), fun pp Hb H x y dx dy Q QD so rx ry h k => ?_⟩
  exact ⟨eqR_w so h.1 rx ry, k _ _ Hb H .refl so rep_bl h.2⟩
theorem od_neX {k : Nat} (hr : Room k X.A) : OD X (compareOp .NotEq) rdNeX := by
  refine ⟨_, op_neW (by have := hr.un; omega), fun pp Hb H x y dx dy Q QD so rx ry h k => ?_⟩
  exact ⟨eqR_w so h.1 rx ry, k _ _ Hb H .refl so rep_bl h.2⟩
end
/-- a value alike itself -/
theorem eqX_plain {n : Nat} {x y : D} (h1 : okD 50 x = true) (h2 : okD 50 y = true) (h3 : deq x y = true) : eqX n x y := by
  cases n
  · exact ⟨h1, h2, h3⟩
  · exact .inl ⟨h1, h2, h3⟩
theorem eqX_dic {n : Nat} {ks js : List Key} {xs ys : List D} (h : ks.length = js.length) (nd : ks.Nodup) (f : ∀ k ∈ ks, ∃ a b, lk ks xs k = some a ∧ lk js ys k = some b ∧ eqX n a b) : eqX (n + 1) (.dic ks xs) (.dic js ys) := .inr ⟨h, nd, f⟩
end DL

/-! EX8: y = {k: v for n in d}, d a dict in a slot -/
namespace DL
open PySem PySem.Spec PyProof.Rows L2
section
variable {X : Cx} {kx vx tg : Expr} {ifs : List Expr} {scope : Scope} {pos : Pos} {g : DG} {c : DT} {pk pv : DX}
theorem s_setDcK {vs : List Nat} {j : Nat} {y : Str} {py spos : Pos} (i : Nat) {x : Str} {xp : Pos} (own : List (Str × Nat)) (hc : X.calm = true) (hN : X.N.Nodup) {N0 : List Str} {sc0 : Scope} (ok : blkC N0 sc0 scope own = true) (hv : own.map (·.2) = vs)
    (hg : ∀ (s : Shared) (H : Hp) (C : Addr) (cl : List (Str × Addr)) (fp : List Addr), QGv (X.blk s H scope (compEnvC scope cl C X.env) fp) tg vs g) (ht : ∀ (s : Shared) (H : Hp) (C : Addr) (cl : List (Str × Addr)) (fp : List Addr), QTs (X.blk s H scope (compEnvC scope cl C X.env) fp) ifs c)
    (hk : ∀ (s : Shared) (H : Hp) (C : Addr) (cl : List (Str × Addr)) (fp : List Addr), QE (X.blk s H scope (compEnvC scope cl C X.env) fp) kx pk)
    (he : ∀ (s : Shared) (H : Hp) (C : Addr) (cl : List (Str × Addr)) (fp : List Addr), QE (X.blk s H scope (compEnvC scope cl C X.env) fp) vx pv)
    (hsw : swapsWith (.DictComp kx vx [⟨tg, .Name x xp, ifs, 0⟩] scope pos) (some (.Name y py)) spos.line X.env = pure true) (hy : X.N[j]? = some y := by rfl) (hyl : X.env.scope.names.lookup y = some .local := by rfl)
    (hNi : X.N[i]? = some x := by rfl) (hvis : Vis X.env.scope x := by first | exact Or.inl rfl | exact Or.inr (Or.inl rfl) | exact Or.inr (Or.inr rfl)) (hd : (x == ("__debug__" : Str)) = false := by decide)
    (hcd : (x == ("__classdict__" : Str)) = false := by decide) (hs : ∀ y, foldedSetIterable (.Name x xp) X.env y = pure y := by intro _; rfl) (eN : X.N = N0 := by rfl) (eS : X.env.scope = sc0 := by rfl) :
    QS X (.Assign [.Name y py] (.DictComp kx vx [⟨tg, .Name x xp, ifs, 0⟩] scope pos) spos) (dAsg j (dDc (dKeys i) g vs c pk pv)) := by
  subst hv eN eS
  have base := ps_setDc (g := TGvof X.K (own.map (·.2)) g) (tt := TTof X.K c) (tk := TEof X.K pk) (tv := TEof X.K pv) hc hN hy hyl hsw (pi_keys (L2.pv i hNi hvis hd hcd)) (blkOk_by ok) (fun s H C cl fp => (hg s H C cl fp).pg) (fun s H C cl fp => (ht s H C cl fp).pts) (fun s H C cl fp => (hk s H C cl fp).pe) (fun s H C cl fp => (he s H C cl fp).pe) hs
  refine ⟨_, PS.or (ps_lockX base) base, fun pp HbE HE Hb H σ E Dn DD s so er hp o => ?_⟩
  have ei : ∃ ks ds, E[i]? = some (.sh (.dic ks ds)) := by
    have h' := hp
    unfold dAsg dDc dKeys at h'
    split at h'
    · exact ⟨_, _, by assumption⟩
    · exact h'.elim
  obtain ⟨ks, ds, ei⟩ := ei
  obtain ⟨v, h1, h2⟩ := er.sh i _ ei
  unfold Rep at h2
  obtain ⟨a, ws, rfl, h3, h4, h5⟩ := h2
  have fin : ∀ (L : Addr) (d : D) (Hb1 H1 : Hp), Step pp Hb H Hb1 H1 → SOk pp X.K Hb1 H1 → H L = none → Owns pp X.K Hb1 H1 L d → DD.nx (E.set j (.sh d)) → Dn.nx (σ.set j (some (.ref L))) H1 := fun L d Hb1 H1 s1 so1 hn o1 q1 => by
    obtain ⟨Hb2, s2, so2, r2⟩ := share_new s1 so1 hn o1
    exact o.nx Hb2 H1 _ _ (s.trans s2) so2 ((er.step s2).set_sh j r2) q1
  rcases h3 with h3 | ⟨oo, h3⟩
  · have cl : CanLock pp a (.dK ws) Hb H := ⟨h3, so.le _ _ h3, (fun z => by subst z; rw [so.np] at h3; cases h3), trivial, (fun xs z => nomatch z), (fun xs z => nomatch z), (fun xs z => nomatch z)⟩
    refine .inl ⟨a, .dK ws, cl.hh, trivial, fun hn0 od => ?_⟩
    obtain ⟨s1, so1⟩ := lock_so (od := od) cl so
    have er1 := lock_er (od := od) cl er
    refine dc_read (pi := dKeys i) (g := g) (c := c) (pk := pk) (pv := pv) (QD := fun d => DD.nx (E.set j (.sh d))) (fun R QD q k => keys_run so1 ei h1 upd_same h4 R QD q k) so1 er1 hp fun L d Hb2 H2 s2 so2 hn o2 q2 => ?_
    have hb2 : Hb2 a = some (.frz od (.dK ws)) := s2.sb a _ upd_same
    have hne : L ≠ a := fun z => by subst z; rw [upd_same] at hn; cases hn
    rw [← lkF_upd (u := .dK ws) cl.hb, ← lkF_upd (u := .dK ws) cl.hh] at s2
    obtain ⟨u1, u2⟩ := unlock_ok (u := .dK ws) cl .refl s2 hb2 so2
    exact ⟨so2.le _ _ hb2, fin L d _ _ u1 u2 (by rw [upd_ne hne] at hn; exact hn) ⟨by rw [upd_ne hne]; exact o2.nb, o2.ne, Top.step (le_unlock hb2) (fun o h => by rw [upd_ne hne]; exact h) o2.top⟩ q2⟩
  · exact .inr (dc_read (QD := fun d => DD.nx (E.set j (.sh d))) (fun R QD q k => keys_run so ei h1 h3 h4 R QD q k) so er hp fin)
end
end DL

/-! DM: defs that change the object their first parameter names -/
namespace DL
open PySem PySem.Spec PyProof.Rows L2
/-- the heap without p -/
def hid (p : Addr) (H : Hp) : Hp := fun b => if b = p then none else H b
theorem hid_some {p b : Addr} {H : Hp} {o : HO} (h : hid p H b = some o) : b ≠ p ∧ H b = some o := by
  unfold hid at h
  by_cases e : b = p
  · rw [if_pos e] at h; cases h
  · rw [if_neg e] at h; exact ⟨e, h⟩
theorem hid_ne {p b : Addr} {H : Hp} (h : b ≠ p) : hid p H b = H b := if_neg h
theorem hid_self {p : Addr} {H : Hp} : hid p H p = none := if_pos rfl
def spM (K : FK) (S : SpecD) : Sp := fun vs H Q _ => ∃ (pp : Addr) (Hb : Hp) (p : Addr) (d : D) (ds : List D) (vs' : List V) (QD : D → Prop), vs = .ref p :: vs' ∧ SOk pp K Hb H ∧ Owns pp K Hb H p d ∧ RepL pp K Hb ds vs' ∧ S (d :: ds) QD ∧
  ∀ d' Hb' H', QD d' → Step pp Hb (hid p H) Hb' H' → SOk pp K Hb' H' → Owns pp K Hb' H' p d' → Q .non H'
abbrev DefM (P : Program) (w : World) (K : FK) (mg : Str → Option Value) (x : Str) (ps : List Str) (k : Nat) (S : SpecD) : Prop := DefV P w K mg x ps k (spM K S)
def endM (Q : D → Prop) : List Sl → Prop := fun E => match E[(0 : Nat)]? with
  | some (.ow d) => Q d
  | _ => False
abbrev fnEndsM (Q : D → Prop) : DEnds := ⟨endM Q, fun _ => False, fun _ => False, fun _ => False, fun _ => False, fun _ _ => False⟩
def PureM (p : DS) (S : SpecD) (n k : Nat) : Prop := ∀ ds Q, S ds Q → ds.length = k ∧ ∃ d r, ds = d :: r ∧ p (fnEndsM Q) (.ow d :: startN (n - 1) r)
/-- a suite that keeps the object in slot 0 -/
def RM (X : Cx) (p0 : Addr) (t : TS) (p : DS) : Prop := ∀ (pp : Addr) (HbE HE Hb H : Hp) (σ : L2.St) (E : List Sl) (Dn : Ends) (DD : DEnds), Step pp HbE HE Hb H → SOk pp X.K Hb H → ER pp X.K HE Hb H σ E → σ[0]? = some (some (.ref p0)) → p DD E → DD.rt = (fun _ => False) →
  (∀ Hb H σ E, Step pp HbE HE Hb H → SOk pp X.K Hb H → ER pp X.K HE Hb H σ E → σ[0]? = some (some (.ref p0)) → DD.nx E → Dn.nx σ H) → t Dn σ H
def QM (X : Cx) (st : Stmt) (p : DS) : Prop := ∃ t, PS X st t ∧ ∀ p0, RM X p0 t p
def QMs (X : Cx) (st : List Stmt) (p : DS) : Prop := ∃ t, PSs X st t ∧ ∀ p0, RM X p0 t p
section
variable {X : Cx} {st : Stmt} {sts : List Stmt} {p q : DS} {e : Expr} {pe : DX} {c : DT} {pos : Pos}
theorem ms_nil : QMs X [] dNext := ⟨_, pss_nil, fun p0 pp HbE HE Hb H σ E Dn DD s so er h0 h _ o => o Hb H σ E s so er h0 h⟩
theorem ms_cons (h : QM X st p) (g : QMs X sts q) : QMs X (st :: sts) (dSeq p q) := by
  obtain ⟨t, h1, h2⟩ := h
  obtain ⟨u, g1, g2⟩ := g
  refine ⟨_, pss_cons h1 g1, fun p0 pp HbE HE Hb H σ E Dn DD s so er h0 h hr o => ?_⟩
  exact h2 p0 pp HbE HE Hb H σ E _ { DD with nx := q DD } s so er h0 h hr fun Hb H σ E s so er h0 h => g2 p0 pp HbE HE Hb H σ E _ _ s so er h0 h hr o
theorem ms_one (h : QM X st p) : QMs X [st] p := by
  obtain ⟨t, h1, h2⟩ := h
  exact ⟨t, pss_one h1, h2⟩
theorem m_if (hc : QT X e c) (h : QMs X sts p) {sts' : List Stmt} (g : QMs X sts' q) : QM X (.If e sts sts' pos) (dIfS c p q) := by
  obtain ⟨tc, c1, c2⟩ := hc
  obtain ⟨t, h1, h2⟩ := h
  obtain ⟨u, g1, g2⟩ := g
  refine ⟨_, ps_if c1 h1 g1, fun p0 pp HbE HE Hb H σ E Dn DD s so er h0 h hr o => ?_⟩
  refine c2 pp HE Hb H σ E _ _ so er h fun k Hb1 H1 s1 so1 q1 => ?_
  cases k with
  | true =>
    rw [if_pos rfl] at q1 ⊢
    exact h2 p0 pp HbE HE Hb1 H1 σ E _ _ (s.trans s1) so1 (er.step s1) h0 q1 hr o
  | false =>
    rw [if_neg Bool.false_ne_true] at q1 ⊢
    exact g2 p0 pp HbE HE Hb1 H1 σ E _ _ (s.trans s1) so1 (er.step s1) h0 q1 hr o
theorem m_set {i : Nat} {x : Str} {pos' : Pos} (hN : X.N.Nodup) (h : QE X e pe) (hi : X.N[i + 1]? = some x := by rfl) (hx : Loc X.env.scope x := by first | exact Or.inl rfl | exact Or.inr rfl) (hs : swapsWith e (some (.Name x pos')) pos.line X.env = pure false := by rfl)
    (hf : X.fn x = true ∨ X.env.scope.names.lookup x = some .local := by first | exact .inl rfl | exact .inr rfl | assumption) : QM X (.Assign [.Name x pos'] e pos) (dAsg (i + 1) pe) := by
  obtain ⟨t, h1, h2⟩ := h
  refine ⟨_, ps_set hN hi hx h1 hs hf, fun p0 pp HbE HE Hb H σ E Dn DD s so er h0 h hr o => ?_⟩
  refine h2 pp HE Hb H σ E _ _ so er h fun v d Hb1 H1 s1 so1 r1 q1 => ?_
  exact o Hb1 H1 _ _ (s.trans s1) so1 ((er.step s1).set_sh (i + 1) r1) (by rw [List.getElem?_set_ne (by omega)]; exact h0) q1
theorem m_append {x : Str} {xp apos cpos : Pos} (he : QE X e pe) (hN : X.N[0]? = some x := by rfl) (hv : Vis X.env.scope x := by first | exact Or.inl rfl | exact Or.inr (Or.inl rfl) | exact Or.inr (Or.inr rfl)) (hd : (x == ("__debug__" : Str)) = false := by decide)
    (hcd : (x == ("__classdict__" : Str)) = false := by decide)
    (h1 : attributeBase (.Name x xp) "append" X.env (eval (.Name x xp) X.env) = eval (.Name x xp) X.env := by rfl)
    (h2 : ((backTo cpos (starEach [e] X.env)).all (fun x => !x.1) && (backToKw cpos (keywordEach [] X.env)).all (fun x => x.1.isSome) && decide (([e] : List Expr).length + ([] : List Keyword).length + (if ([] : List Keyword).isEmpty then 0 else 1) < 30)) = true := by rfl)
    (h3 : (apos.endLine == cpos.line) = true := by rfl) (h4 : starEach [e] X.env = (false, eval e X.env) :: starEach [] X.env := by rfl) (h5 : (backTo cpos (starEach [] X.env)).any (·.1) = false := by rfl)
    (hs : swapsWith (.Call (.Attribute (.Name x xp) "append" apos) [e] [] cpos) none pos.line X.env = pure false := by rfl) :
    QM X (.Expr (.Call (.Attribute (.Name x xp) "append" apos) [e] [] cpos) pos) (dApp 0 pe) := by
  obtain ⟨t, t1, t2⟩ := he
  refine ⟨_, ps_expr (pe_bm PySem.F.plainAttrs_list PySem.F.slot_list_append PySem.F.type_list_append mt_append (pv 0 hN hv hd hcd) (pa_cons t1 pa_nil h4) h1 h2 h3 h4 h5) hs, fun p0 pp HbE HE Hb H σ E Dn DD s so er h0 h hr o => ?_⟩
  unfold dApp at h
  split at h
  · rename_i ds ei
    obtain ⟨p, q1, q2, q3⟩ := er.ow 0 _ ei
    obtain ⟨xs, hx, hr⟩ := q3.top
    refine ⟨_, q1, .inl ⟨rfl, xs, .of hx⟩, ?_⟩
    refine t2 pp HE Hb H σ E _ _ so er h fun v d Hb1 H1 s1 so1 r1 z1 => ?_
    have er1 := er.step s1
    have hx1 : H1 p = some (.lst xs) := s1.ex p _ q3.ne hx
    refine ⟨p, xs, v, rfl, rfl, hx1, by rw [hr.length]; exact z1.1, ?_⟩
    obtain ⟨g1, g2, g3⟩ := mut_ok (u := .lst (xs ++ [v])) (d' := .lst (ds ++ [d])) (s.trans s1) so1 er1 ei q1 ⟨_, upd_same, (hr.le s1.le).app (.cons r1 .nil)⟩
    exact o Hb1 _ σ _ g1 g2 g3 h0 z1.2
  · exact h.elim
/-- y = xs.pop()[k], xs in slot 0 -/
def dPopIx (j : Nat) (k : Int) : DS := fun DD E => match E[(0 : Nat)]? with
  | some (.ow (.lst ds)) => ∃ ds' d, ds = ds' ++ [d] ∧ rdIx d (.int k) fun v => DD.nx ((E.set 0 (.ow (.lst ds'))).set j (.sh v))
  | _ => False
theorem m_popIx {j : Nat} {k : Int} {x y : Str} {xp apos cpos py ip ixp : Pos} {nn : Nat} (hu : X.A.units + 1 < cLine) (hNd : X.N.Nodup) (hN : X.N[0]? = some x := by rfl) (hv : Vis X.env.scope x := by first | exact Or.inl rfl | exact Or.inr (Or.inl rfl) | exact Or.inr (Or.inr rfl)) (hd : (x == ("__debug__" : Str)) = false := by decide)
    (hcd : (x == ("__classdict__" : Str)) = false := by decide)
    (h1 : attributeBase (.Name x xp) "pop" X.env (eval (.Name x xp) X.env) = eval (.Name x xp) X.env := by rfl)
    (h3 : (apos.endLine == cpos.line) = true := by rfl)
    (hj : X.N[j + 1]? = some y := by rfl) (hy : Loc X.env.scope y := by first | exact Or.inl rfl | exact Or.inr rfl)
    (hs : swapsWith (.Subscript (.Call (.Attribute (.Name x xp) "pop" apos) [] [] cpos) (.Constant (.int k) nn ip) ixp) (some (.Name y py)) pos.line X.env = pure false := by rfl)
    (hf : X.fn y = true ∨ X.env.scope.names.lookup y = some .local := by first | exact .inl rfl | exact .inr rfl | assumption)
    (hpx : PlainIx (.Constant (.int k) nn ip) := by intro _ _; rfl) :
    QM X (.Assign [.Name y py] (.Subscript (.Call (.Attribute (.Name x xp) "pop" apos) [] [] cpos) (.Constant (.int k) nn ip) ixp) pos) (dPopIx (j + 1) k) := by
  obtain ⟨r, r1, r2⟩ := ixd hu
  refine ⟨_, ps_set hNd hj hy (pe_ix r1 (pe_bm0 PySem.F.plainAttrs_list PySem.F.slot_list_pop PySem.F.type_list_pop mt_pop (pv 0 hN hv hd hcd) h1 h3) pe_int hpx) hs hf, fun p0 pp HbE HE Hb H σ E Dn DD s so er h0 h hr o => ?_⟩
  unfold dPopIx at h
  split at h
  · rename_i ds ei
    obtain ⟨p, q1, q2, q3⟩ := er.ow 0 _ ei
    obtain ⟨xs, hx, hr⟩ := q3.top
    refine ⟨_, q1, .inl ⟨rfl, xs, .of hx⟩, ?_⟩
    obtain ⟨ds', d, rfl, z⟩ := h
    refine md_pop pp X.K Hb H p xs (ds' ++ [d]) [] [] _ (fun a l => a = d ∧ l = ds') so hx hr .nil ⟨rfl, ds', d, rfl, rfl, rfl⟩ fun v d2 xs' ds2 rv rs q => ?_
    obtain ⟨rfl, rfl⟩ := q
    obtain ⟨g1, g2, g3⟩ := mut_ok (u := .lst xs') (d' := .lst ds2) s so er ei q1 ⟨_, upd_same, rs⟩
    refine r2 pp Hb _ v (.int k) d2 (.int k) _ _ g2 (.inl rv) (.inl (by unfold Rep; rfl)) z fun v3 d3 Hb3 H3 s3 so3 r3 q3 => ?_
    exact o Hb3 H3 _ _ (g1.trans s3) so3 ((g3.step s3).set_sh (j + 1) r3) (by rw [List.getElem?_set_ne (by omega)]; exact h0) q3
  · exact h.elim
end
section
variable {P : Program} {w : World} {K : FK} {mg : Str → Option Value}
theorem fnDefM {x : Str} {st : Stmt} {N ps : List Str} {k : Nat} {S : SpecD} {p : DS} (F : FunAt K mg x st)
    (hb : ∀ (kV doc pm : Value) (an : Option Addr) (cdv ct : Value) (us : List Value), us.length = ps.length → bindArgs (PySem.W.fnOf x x (defArgs st) (defBody st) (defScope st) .none kV doc pm an cdv ct) ⟨us, []⟩ = pure (ps.zip us))
    (sc : FnScope N ps (defScope st)) (hp : PureM p S N.length ps.length)
    (body : ∀ (base : Heap) (f : Addr) (cdv : Value) (A : Around) (outer : List Env) (s : Shared) (H : Hp) (E : XK), Room k (A.deeper (envOfC x (defScope st) s.heap.objs.size f cdv)) →
      QMs (cxOf CX0 P w K mg base N x (defScope st) f cdv A outer s H E).nox (defBody st) p) (hN : 0 < N.length) : DefM P w K mg x ps (k + 1) S := by
  refine fnDefV F hb sc (fun vs H Q E h => ?_) fun base f cdv A outer s H vs Q E hr h => ?_
  · obtain ⟨pp, Hb, p, d, ds, vs', QD, rfl, _, _, r, hs, _⟩ := h
    have := (hp _ _ hs).1
    rw [List.length_cons] at this ⊢
    rw [r.length]; exact this
  · obtain ⟨pp, Hb, p0, d, ds, vs', QD, rfl, so, ow, r, hs, fin⟩ := h
    obtain ⟨t, h1, h2⟩ := body base f cdv A outer s H E hr
    obtain ⟨hl, d2, r2, e2, q⟩ := hp _ _ hs
    cases e2
    refine ⟨t, h1, ?_⟩
    have st0 : Step pp Hb (hid p0 H) Hb H := ⟨Same.refl _, fun b o _ h => (hid_some h).2, fun b h => by
      cases z : hid p0 H b with
      | none => exact absurd z h
      | some o => rw [(hid_some z).2]; exact (fun y => nomatch y), fun b h _ => h⟩
    have nf := hid_self (p := p0) (H := H)
    have er0 : ER pp K (hid p0 H) Hb H (L2.start N (.ref p0 :: vs')) (.ow d :: startN (N.length - 1) ds) := by
      have e0 : ER pp K (hid p0 H) Hb H (L2.start N (.non :: vs')) (startD N (.non :: ds)) := er_start (.cons (by unfold Rep; rfl) r)
      have e1 := e0.set_ow 0 (p := p0) (d := d) nf ow (fun j d' e => by
        have notOw : (startD N (.non :: ds))[j]? = some (.ow d') → False := fun e => by
          unfold startD at e
          by_cases h : j < ((D.non :: ds).map Sl.sh).length
          · rw [List.getElem?_append_left h, List.getElem?_map] at e
            cases q : (D.non :: ds)[j]? <;> rw [q] at e <;> simp at e
          · rw [List.getElem?_append_right (by omega), List.getElem?_replicate] at e
            split at e <;> simp at e
        exact (notOw e).elim)
      have e2 : (startD N (.non :: ds)).set 0 (.ow d) = .ow d :: startN (N.length - 1) ds := by
        unfold startD startN
        simp only [List.map_cons, List.cons_append, List.set_cons_zero, List.length_cons]
        rw [show N.length - (ds.length + 1) = N.length - 1 - ds.length by omega]
      rw [e2] at e1
      exact e1
    refine h2 p0 pp Hb (hid p0 H) Hb H _ _ _ (fnEndsM QD) st0 so er0 rfl q rfl fun Hb' H' σ E s1 so1 er1 h0 hq => ?_
    have hq : endM QD E := hq
    unfold endM at hq
    split at hq
    · rename_i d' e
      obtain ⟨p', g1, g2, g3⟩ := er1.ow 0 d' e
      rw [h0] at g1
      cases g1
      exact fin d' Hb' H' hq s1 so1 g3
    · exact hq.elim
end
section
variable {X : Cx} {x : Str} {ps : List Str} {k : Nat} {S : SpecD} {e : Expr} {es : List Expr} {pas : DAs} {pos cpos xp : Pos}
/-- f(xs, ..), xs in slot i -/
def dCallM (i : Nat) (S : SpecD) (pas : DAs) : DS := fun DD E => match E[i]? with
  | some (.ow d) => pas E fun ds => S (d :: ds) fun d' => DD.nx (E.set i (.ow d'))
  | _ => False
theorem s_callM (i : Nat) {y : Str} {yp : Pos} (G : DefM X.prog X.w X.K X.mg x ps k S) (hr : Room k X.A) (hg : Gl X x) (ha : QA X es pas) (hN : X.N[i]? = some y := by rfl) (hv : Vis X.env.scope y := by first | exact Or.inl rfl | exact Or.inr (Or.inl rfl) | exact Or.inr (Or.inr rfl)) (hd : (y == ("__debug__" : Str)) = false := by decide)
    (hcd : (y == ("__classdict__" : Str)) = false := by decide)
    (hdb : (x == ("__debug__" : Str)) = false := by decide) (he : starEach (.Name y yp :: es) X.env = (false, eval (.Name y yp) X.env) :: starEach es X.env := by rfl) (hpl : (backTo cpos (starEach es X.env)).any (·.1) = false := by rfl)
    (hs : swapsWith (.Call (.Name x xp) (.Name y yp :: es) [] cpos) none pos.line X.env = pure false := by rfl) :
    QS X (.Expr (.Call (.Name x xp) (.Name y yp :: es) [] cpos) pos) (dCallM i S pas) := by
  obtain ⟨t, t1, t2⟩ := ha
  refine ⟨_, ps_expr (pe_callV G hr hg (pa_cons (pv i hN hv hd hcd) t1 he) hdb he hpl) hs, fun pp HbE HE Hb H σ E Dn DD s so er h o => ?_⟩
  unfold dCallM at h
  split at h
  · rename_i d ei
    obtain ⟨p, q1, q2, q3⟩ := er.ow i _ ei
    refine ⟨_, q1, ?_⟩
    refine t2 pp HE Hb H σ E _ _ so er h fun vs ds Hb1 H1 s1 so1 r1 l1 z1 => ?_
    have er1 := er.step s1
    have o1 := q3.step s1
    refine ⟨pp, Hb1, p, d, ds, vs, _, by simp, so1, o1, r1, z1, fun d' Hb2 H2 hq s2 so2 o2 => ?_⟩
    have st1 := s.trans s1
    have sAll : Step pp HbE HE Hb2 H2 := ⟨st1.sb.trans s2.sb, fun b u hb h => by
        have hbp : b ≠ p := fun z => by subst z; rw [q2] at h; cases h
        exact s2.ex b u hb (by rw [hid_ne hbp]; exact st1.ex b u hb h), fun b h => by
        by_cases z : b = p
        · subst z; exact Top.isSm o2.top
        · exact s2.st b (by rw [hid_ne z]; exact st1.st b h), fun b h n => by
        have hbp : b ≠ p := fun z => by subst z; exact n q2
        exact s2.nw b (st1.nw b h n) (by rw [hid_ne hbp]; exact st1.st b n)⟩
    refine o.nx Hb2 H2 σ _ sAll so2 ⟨by rw [List.length_set]; exact er1.len, fun j d1 ej => ?_, fun j d1 ej => ?_, fun j l p1 d1 d2 hne e1 e2 g1 => ?_, fun j b dd xx ej => ?_⟩ hq
    · rcases get_set ej with ⟨_, _, z⟩ | ⟨hj, e'⟩
      · cases z
      · obtain ⟨v, h1, h2⟩ := er1.sh j d1 e'
        exact ⟨v, h1, h2.le (.of_same s2.sb)⟩
    · rcases get_set ej with ⟨rfl, _, z⟩ | ⟨hj, e'⟩
      · cases z; exact ⟨p, q1, q2, o2⟩
      · obtain ⟨p', h1, h2, h3⟩ := er1.ow j d1 e'
        have hpp : p' ≠ p := fun z => by subst z; exact er1.ds j i p' d1 d hj e' ei h1 q1
        have sm := Top.isSm h3.top
        exact ⟨p', h1, h2, s2.nw p' h3.nb (by rw [hid_ne hpp]; exact sm), h3.ne, Top.step s2.le (fun u hu => s2.ex p' u h3.ne (by rw [hid_ne hpp]; exact hu)) h3.top⟩
    · have old : ∀ {j : Nat} {d1 : D}, (E.set i (.ow d'))[j]? = some (.ow d1) → ∃ d2, E[j]? = some (.ow d2) := fun {j d1} e => by
        rcases get_set e with ⟨rfl, _, z⟩ | ⟨hj, e'⟩
        · exact ⟨_, ei⟩
        · exact ⟨_, e'⟩
      obtain ⟨c1, f1⟩ := old e1
      obtain ⟨c2, f2⟩ := old e2
      exact er1.ds j l p1 c1 c2 hne f1 f2 g1
    · rcases get_set ej with ⟨_, _, z⟩ | ⟨hj, e'⟩
      · cases z
      · obtain ⟨h1, vs', h2, h3, h4⟩ := er1.xs j b dd xx e'
        have hdp : dd ≠ p := fun z => by
          subst z
          have t := o1.top
          cases d <;> first | exact t.elim | (obtain ⟨ys, e, _⟩ := t; rw [e] at h3; cases h3)
        exact ⟨h1, vs', h2, s2.ex dd _ h2 (by rw [hid_ne hdp]; exact h3), h4.le (.of_same s2.sb)⟩
  · exact h.elim
end
end DL

/-! DT1: dicts whose keys are tuples: new ones, putting, getting, walking over the keys -/
namespace DL
open PySem PySem.Spec PyProof.Rows L2
section
variable {X : Cx} {e k : Expr} {es : List Expr} {pe pk : DX} {pos : Pos}
def dNewT : DX := fun _ Q => Q (.dct [] [])
theorem f_newT : QF X (.Dict [] [] pos) dNewT := by
  refine ⟨_, pe_dnewT, fun pp HE Hb H σ E Q QD so er hp k => ?_⟩
  intro p hp'
  obtain ⟨s2, so2⟩ := lay_own (u := .dT []) so hp'
  exact k p (.dct [] []) _ _ s2 so2 hp' ⟨so.nb hp', so.ne hp', ⟨[], upd_same, rfl, .nil⟩⟩ hp
/-- d[k] = v, d in slot i -/
def dPutT (i : Nat) (pk pv : DX) : DS := fun DD E => match E[i]? with
  | some (.ow (.dct ks ds)) => pv E fun d => pk E fun kd => match keyT kd with
    | some k => ks.length < sizeLine ∧ DD.nx (E.set i (.ow (.dct (ptK ks k) (ptD ks ds k d))))
    | none => False
  | _ => False
theorem s_putT (i : Nat) {x : Str} {v : Expr} {xp pos' : Pos} {pv : DX} (hu : X.A.units + 1 < cLine) (hk : QE X k pk) (hv : QE X v pv) (hN : X.N[i]? = some x := by rfl) (hvis : Vis X.env.scope x := by first | exact Or.inl rfl | exact Or.inr (Or.inl rfl) | exact Or.inr (Or.inr rfl)) (hd : (x == ("__debug__" : Str)) = false := by decide)
    (hcd : (x == ("__classdict__" : Str)) = false := by decide) (hs : swapsWith v (some (.Subscript (.Name x xp) k pos')) pos.line X.env = pure false := by rfl) :
    QS X (.Assign [.Subscript (.Name x xp) k pos'] v pos) (dPutT i pk pv) := by
  obtain ⟨t, t1, t2⟩ := hk
  obtain ⟨u, u1, u2⟩ := hv
  refine ⟨_, ps_dput hu (L2.pv i hN hvis hd hcd) t1 u1 hs, fun pp HbE HE Hb H σ E Dn DD s so er h o => ?_⟩
  unfold dPutT at h
  split at h
  · rename_i ks ds ei
    obtain ⟨p, q1, q2, q3⟩ := er.ow i _ ei
    obtain ⟨ws, hx, hks, hr⟩ := q3.top
    refine u2 pp HE Hb H σ E _ _ so er h fun v d Hb1 H1 s1 so1 r1 z1 => ?_
    refine ⟨_, q1, t2 pp HE Hb1 H1 σ E _ _ so1 (er.step s1) z1 fun kv kd Hb2 H2 s2 so2 r2 z2 => ?_⟩
    have s12 := s1.trans s2
    split at z2
    · rename_i k ek
      have hx2 : H2 p = some (.dT ws) := s12.ex p _ q3.ne hx
      have hl : ws.length < sizeLine := by rw [← List.length_map (·.1), hks]; exact z2.1
      obtain ⟨b, rfl, hb⟩ := keyT_rep so2 ek (.inl r2)
      refine ⟨p, _, rfl, .inr ⟨ws, k, b, hx2, rfl, hb, hl, rfl⟩, ?_⟩
      obtain ⟨g1, g2, g3⟩ := mut_ok (u := .dT (putK ws k v)) (d' := .dct (ptK ks k) (ptD ks ds k d)) (s.trans s12) so2 (er.step s12) ei q1 ⟨_, upd_same, by rw [pt_keys, hks], by
        have e := pt_rep (k := k) (r1.le s2.le) (hr.le s12.le)
        rw [hks] at e; exact e⟩
      exact o.nx Hb2 _ σ _ g1 g2 g3 z2.2
    · exact z2.elim
  · exact h.elim
def dGetT1 (pe pk : DX) : DX := fun E Q => pe E fun d => match d with
  | .dct ks ds => pk E fun kd => match keyT kd with
    | some k => match lk ks ds k with
      | some x => Q x
      | none => Q .non
    | none => False
  | _ => False
def dGetT2 (pe pk px : DX) : DX := fun E Q => pe E fun d => match d with
  | .dct ks ds => pk E fun kd => px E fun z => match keyT kd with
    | some k => match lk ks ds k with
      | some x => Q x
      | none => Q z
    | none => False
  | _ => False
theorem q_getT1 {apos : Pos} (hu : X.A.units + 1 < cLine) (he : QO X e pe) (hk : QE X k pk) (m : M1 X e "get" apos k pos := by exact ⟨rfl, rfl, rfl, rfl⟩) : QE X (.Call (.Attribute e "get" apos) [k] [] pos) (dGetT1 pe pk) := by
  obtain ⟨t, t1, t2⟩ := he
  obtain ⟨u, u1, u2⟩ := hk
  refine ⟨_, pe_dget1 hu t1 u1 m, fun pp HE Hb H σ E Q QD so er hp kk => ?_⟩
  refine t2 pp HE Hb H σ E _ _ so er hp fun v d Hb1 H1 s1 so1 r1 q1 => ?_
  split at q1
  · obtain ⟨a, ws, rfl, h1, hks, r⟩ := r1.dct so1
    refine ⟨a, rfl, .inr ⟨ws, h1⟩, u2 pp HE Hb1 H1 σ E _ _ so1 (er.step s1) q1 fun v2 d2 Hb2 H2 s2 so2 r2 q2 => ?_⟩
    obtain ⟨a', ws', ea, h1', hks', r'⟩ := (r1.step s2).dct so2
    cases ea
    split at q2
    · rename_i k ek
      subst hks'
      obtain ⟨b, rfl, hb⟩ := keyT_rep so2 ek (.inl r2)
      refine ⟨_, .inr ⟨ws', k, b, h1', rfl, hb, rfl⟩, ?_⟩
      split at q2
      · rename_i x ex
        obtain ⟨v', hv, rv⟩ := (lk_val r').1 x ex
        rw [hv]
        exact kk _ _ Hb2 H2 (s1.trans s2) so2 rv q2
      · rename_i ex
        rw [(lk_val r').2 ex]
        exact kk _ _ Hb2 H2 (s1.trans s2) so2 rep_non q2
    · exact q2.elim
  · exact q1.elim
theorem q_getT2 {x : Expr} {px : DX} {apos : Pos} (hu : X.A.units + 1 < cLine) (he : QO X e pe) (hk : QE X k pk) (hx : QE X x px) (m : M2 X e "get" apos k x pos := by exact ⟨rfl, rfl, rfl, rfl⟩) : QE X (.Call (.Attribute e "get" apos) [k, x] [] pos) (dGetT2 pe pk px) := by
  obtain ⟨t, t1, t2⟩ := he
  obtain ⟨u, u1, u2⟩ := hk
  obtain ⟨w, w1, w2⟩ := hx
  refine ⟨_, pe_dget2 hu t1 u1 w1 m, fun pp HE Hb H σ E Q QD so er hp kk => ?_⟩
  refine t2 pp HE Hb H σ E _ _ so er hp fun v d Hb1 H1 s1 so1 r1 q1 => ?_
  split at q1
  · obtain ⟨a, ws, rfl, h1, hks, r⟩ := r1.dct so1
    refine ⟨a, rfl, .inr ⟨ws, h1⟩, u2 pp HE Hb1 H1 σ E _ _ so1 (er.step s1) q1 fun v2 d2 Hb2 H2 s2 so2 r2 q2 => ?_⟩
    refine w2 pp HE Hb2 H2 σ E _ _ so2 (er.step (s1.trans s2)) q2 fun v3 d3 Hb3 H3 s3 so3 r3 q3 => ?_
    obtain ⟨a', ws', ea, h1', hks', r'⟩ := (r1.step (s2.trans s3)).dct so3
    cases ea
    have s123 := (s1.trans s2).trans s3
    split at q3
    · rename_i k ek
      subst hks'
      obtain ⟨b, rfl, hb⟩ := keyT_rep so3 ek (.inl (r2.le s3.le))
      refine ⟨_, .inr ⟨ws', k, b, h1', rfl, hb, rfl⟩, ?_⟩
      split at q3
      · rename_i x ex
        obtain ⟨v', hv, rv⟩ := (lk_val r').1 x ex
        rw [hv]
        exact kk _ _ Hb3 H3 s123 so3 rv q3
      · rename_i ex
        rw [(lk_val r').2 ex]
        exact kk _ _ Hb3 H3 s123 so3 r3 q3
    · exact q3.elim
  · exact q1.elim
end
/-! ### the keys -/
def keyTD (k : List Key) : D := .tk (k.map keyD)
theorem keyTD_rep {pp : Addr} {K : FK} {H : Hp} {q : Addr} {k : List Key} (h : H q = some (.tup (k.map kV))) : Rep pp K H (keyTD k) (.ref q) := by
  have r : ∀ k : List Key, RepL pp K H (k.map keyD) (k.map kV) := fun k => by
    induction k with
    | nil => exact .nil
    | cons x k ih => exact .cons (keyD_rep x) ih
  exact rep_tk h (r k)
theorem walk_keysTD {pp : Addr} {K : FK} {Hb : Hp} {a : Addr} {o : Obj} {ws : List (List Key × V)} (h : Hb a = some (.frz o (.dT ws))) : WalkJ pp K Hb (Itkt a o ws) ((ws.map (·.1)).map keyTD) := by
  intro Hb1 H1 sm so i
  have h1 : H1 a = some (.frz o (.dT ws)) := so.le _ _ (sm _ _ h)
  refine ⟨fun d ed => ?_, fun e => ⟨h1, by rw [e]; simp⟩⟩
  have hi : i < ws.length := by
    have := (List.getElem?_eq_some_iff.mp ed).1
    simpa using this
  refine ⟨⟨h1, hi⟩, fun x H2 y => ?_⟩
  obtain ⟨e2, k, v, q, ek, rfl, hq⟩ := y
  subst e2
  have e3 : d = keyTD k := by
    rw [List.getElem?_map, List.getElem?_map, ek] at ed
    exact (Option.some.inj ed).symm
  subst e3
  exact ⟨Hb1, .refl, so, keyTD_rep (so.tp _ _ hq)⟩
/-- the keys of the dict in slot i -/
def dKeysT (i : Nat) : DI := fun E Q => match E[i]? with
  | some (.sh (.dct ks _)) => Q (ks.map keyTD)
  | _ => False
section
variable {X : Cx} {tg : Expr} {sts : List Stmt} {p : DS} {g : DG} {pos : Pos}
theorem keysT_run {pp : Addr} {Hb H : Hp} {σ : L2.St} {E : List Sl} {i : Nat} {a : Addr} {o : Obj} {ws : List (List Key × V)} {ds : List D} {ks : List (List Key)} (so : SOk pp X.K Hb H) (ei : E[i]? = some (.sh (.dct ks ds))) (hσ : σ[i]? = some (some (.ref a))) (hb : Hb a = some (.frz o (.dT ws))) (hk : ws.map (·.1) = ks)
    (R : It → Hp → Prop) (QD : List D → Prop) (h : dKeysT i E QD) (k : ∀ J items Hb' H', Step pp Hb H Hb' H' → SOk pp X.K Hb' H' → WalkJ pp X.K Hb' J items → QD items → R J H') : iKeys (tVar i) σ H R := by
  unfold dKeysT at h
  rw [ei] at h
  exact ⟨_, hσ, a, o, rfl, .inr ⟨ws, so.le _ _ hb, k _ _ Hb H .refl so (walk_keysTD hb) (by rw [hk]; exact h)⟩⟩
theorem s_forKT (i : Nat) {x : Str} {xp : Pos} (hp : PassesOwn (model X.prog X.w) X.A X.env X.xe) (hc : X.calm = true) (hg : QG X tg g) (hb : QSs X sts p) (hN : X.N[i]? = some x := by rfl) (hvis : Vis X.env.scope x := by first | exact Or.inl rfl | exact Or.inr (Or.inl rfl) | exact Or.inr (Or.inr rfl)) (hd : (x == ("__debug__" : Str)) = false := by decide)
    (hcd : (x == ("__classdict__" : Str)) = false := by decide) (hs : ∀ y, foldedSetIterable (.Name x xp) X.env y = pure y := by intro _; rfl) : QS X (.For tg (.Name x xp) sts [] pos) (dFor (dKeysT i) g p) := by
  obtain ⟨tg', g1, g2⟩ := hg
  obtain ⟨tb, b1, b2⟩ := hb
  have base := ps_for (pos := pos) hp hc (pi_keys (L2.pv i hN hvis hd hcd)) g1 b1 hs
  refine ⟨_, PS.or (ps_lockX base) base, fun pp HbE HE Hb H σ E Dn DD s so er h o => ?_⟩
  have ei : ∃ ks ds, E[i]? = some (.sh (.dct ks ds)) := by
    have h' := h
    unfold dFor dKeysT at h'
    split at h'
    · exact ⟨_, _, by assumption⟩
    · exact h'.elim
  obtain ⟨ks, ds, ei⟩ := ei
  obtain ⟨v, h1, h2⟩ := er.sh i _ ei
  unfold Rep at h2
  obtain ⟨a, ws, rfl, h3, h4, h5⟩ := h2
  rcases h3 with h3 | ⟨oo, h3⟩
  · have c : CanLock pp a (.dT ws) Hb H := ⟨h3, so.le _ _ h3, (fun z => by subst z; rw [so.np] at h3; cases h3), trivial, (fun xs z => nomatch z), (fun xs z => nomatch z), (fun xs z => nomatch z)⟩
    refine .inl ⟨a, .dT ws, c.hh, trivial, fun hn od => ?_⟩
    obtain ⟨s1, so1, er1⟩ := lock_ok (od := od) c s so er
    have fz : ∀ {Hb2 H2 : Hp}, Step pp (upd Hb a (.frz od (.dT ws))) (lkF a (.frz od (.dT ws)) (.dT ws) HE) Hb2 H2 → Hb2 a = some (.frz od (.dT ws)) := fun s2 => s2.sb a _ upd_same
    refine for_read (pi := dKeysT i) (g := g) (p := p) (DD := DD) (fun R QD q k => keysT_run so1 ei h1 upd_same h4 R QD q k) g2 b2 s1 so1 er1 h ⟨fun Hb2 H2 σ2 E2 s2 so2 er2 q => ?_, fun Hb2 H2 v2 d2 s2 so2 r2 q => ?_, fun Hb2 H2 σ2 E2 s2 so2 er2 q => ?_, fun Hb2 H2 σ2 E2 s2 so2 er2 q => ?_, fun Hb2 H2 p2 d2 s2 so2 n2 o2 q => ?_, fun Hb2 H2 σ2 E2 x2 cls2 dd2 s2 so2 er2 r2 q => ?_⟩
    · obtain ⟨u1, u2⟩ := unlock_ok (u := .dT ws) c s (s1.cut s2) (fz s2) so2
      exact ⟨so2.le _ _ (fz s2), o.nx _ _ σ2 E2 u1 u2 (unlock_er (fz s2) (so2.le _ _ (fz s2)) er2) q⟩
    · obtain ⟨u1, u2⟩ := unlock_ok (u := .dT ws) c s (s1.cut s2) (fz s2) so2
      exact ⟨so2.le _ _ (fz s2), o.rt _ _ v2 d2 u1 u2 (r2.le (le_unlock (fz s2))) q⟩
    · obtain ⟨u1, u2⟩ := unlock_ok (u := .dT ws) c s (s1.cut s2) (fz s2) so2
      exact ⟨so2.le _ _ (fz s2), o.bk _ _ σ2 E2 u1 u2 (unlock_er (fz s2) (so2.le _ _ (fz s2)) er2) q⟩
    · obtain ⟨u1, u2⟩ := unlock_ok (u := .dT ws) c s (s1.cut s2) (fz s2) so2
      exact ⟨so2.le _ _ (fz s2), o.ct _ _ σ2 E2 u1 u2 (unlock_er (fz s2) (so2.le _ _ (fz s2)) er2) q⟩
    · obtain ⟨u1, u2⟩ := unlock_ok (u := .dT ws) c s (s1.cut s2) (fz s2) so2
      have hne : p2 ≠ a := fun z => by subst z; have := o2.nb; rw [fz s2] at this; cases this
      exact ⟨so2.le _ _ (fz s2), o.rf _ _ p2 d2 u1 u2 (lkF_none.mp n2) ⟨by rw [upd_ne hne]; exact o2.nb, o2.ne, Top.step (le_unlock (fz s2)) (fun o h => by rw [upd_ne hne]; exact h) o2.top⟩ q⟩
    · obtain ⟨u1, u2⟩ := unlock_ok (u := .dT ws) c s (s1.cut s2) (fz s2) so2
      obtain ⟨m2, dd, ed, x2⟩ := r2
      exact wm_unlock hn (so2.le _ _ (fz s2)) (o.ex _ _ σ2 E2 _ _ _ u1 u2 (unlock_er (fz s2) (so2.le _ _ (fz s2)) er2) ⟨m2, dd, ed, xf_unlock (fz s2) (so2.le _ _ (fz s2)) x2⟩ q)
  · exact .inr (for_read (pi := dKeysT i) (g := g) (p := p) (DD := DD) (fun R QD q k => keysT_run so ei h1 h3 h4 R QD q k) g2 b2 s so er h (o.cut s))
end
end DL

/-! DT2: dict(d), sorted(d), list(d) of dicts whose keys are tuples -/
namespace DL
open PySem PySem.Spec PyProof.Rows L2
/-- dict(d), its keys tuples of different hashes -/
theorem lib_dictT {P0 : Program} {w0 : World} {κ : Type} [DecidableEq κ] {hk : HeapKind P0 w0 κ} {B : Around} {E0 : Value → Shared → Prop} {s0 : Shared} {c : Addr} {m : List (κ × Addr × Value)} {Q0 : Value → Shared → Prop}
    (rm : hk.room B.in1.in1) (ns : (c == sysModules) = false) (hc : s0.heap.DictOfH hk c m) (few : m.length ≤ sizeLine) (tt : ∀ z ∈ m, s0.TypeIs (.ref z.2.1) "tuple") (hn : (m.map fun z => hk.hash z.1).Nodup)
    (st : ∀ g : Heap, (∀ b u, s0.heap.get? b = some u → g.get? b = some u) → ∀ z ∈ m, hk.is g z.1 z.2.1)
    (go : ∀ g : Heap, g.DictOfH hk s0.heap.objs.size m → (∀ b u, s0.heap.get? b = some u → g.get? b = some u) → Q0 (.ref s0.heap.objs.size) { s0 with heap := g }) :
    wpAny (model P0 w0) B (call (.type "dict") [.ref c]) Q0 E0 s0 := by
  refine callType_codes (Q₁ := fun r z => r = .ref s0.heap.objs.size ∧ z = { s0 with heap := s0.heap.push { cls := .type "dict", data := .dict #[] } }) PySem.F.kt_called_dict (PySem.F.kt_typeCall_dict_1 _) PySem.F.entry_dict_init (kt_code_dict_new _ ⟨rfl, rfl⟩) ?_
  intro r z hz
  obtain ⟨e1, e2⟩ := hz
  subst e1; subst e2
  have emp : (s0.heap.push { cls := .type "dict", data := .dict #[] }).DictOfH hk s0.heap.objs.size [] := Heap.DictOfH.new s0.heap
  have nd := hc.nodup
  have lt := hc.lt_size
  have ne : s0.heap.objs.size ≠ c := fun e => by rw [← e] at lt; exact Nat.lt_irrefl _ lt
  have up : ∀ (b : Addr) (u : Obj), s0.heap.get? b = some u → (s0.heap.push { cls := .type "dict", data := .dict #[] }).get? b = some u := fun b u e => Heap.get?_push_of_some _ e
  have hc2 : (s0.heap.push { cls := .type "dict", data := .dict #[] }).DictOfH hk c m := hc.at' (fun o e => up c o e) (st _ up)
  refine ⟨emp.typeIs, PySem.F.args_dict_init_2 _ _, ?_⟩
  unfold Builtin.«dict.__init__»
  refine wpAny_bind ?_
  unfold Builtin.Dict.selfAndRest
  refine wpAny_bind (wpAny_notOrdered_dict emp.typeIs (wpAny_pure ?_))
  show wpAny _ _ (Builtin.Dict.updateFrom "dict.__init__" s0.heap.objs.size (.ref c) [] .none) _ _ _
  have tt2 : ∀ z ∈ m, Shared.TypeIs { s0 with heap := s0.heap.push { cls := .type "dict", data := .dict #[] } } (.ref z.2.1) "tuple" := fun z hz => by
    obtain ⟨o, h1, h2⟩ := tt z hz
    exact ⟨o, up _ _ h1, h2⟩
  refine updateFrom_dictH (A := B.in1) .none rm ne ns emp hc2 (.inr ⟨tt2, hn⟩) (by simpa using few) fun g hg _ hs => ?_
  rw [storedAllH_nil_of_nodup m nd] at hg
  exact ⟨rfl, go g hg fun b u e => (hs.2 b (Nat.ne_of_lt (Heap.lt_size e))).trans (up b u e)⟩
/-- the hash of a tuple of ints -/
def hashRow (l : List Int) : Int := reduceHash (Builtin.Tuple.tupleHashOf (l.map hashInt))
theorem hash_row {P0 : Program} {w0 : World} (l : List Int) : (tupleKind (mixKind P0 w0)).hash (l.map (Sum.inl : Int → Key)) = hashRow l := by
  show reduceHash (Builtin.Tuple.tupleHashOf ((l.map (Sum.inl : Int → Key)).map (keyH w0))) = _
  rw [List.map_map]; rfl
def rowK (l : List Int) : List Key := l.map Sum.inl
section
variable {X : Cx}
theorem call_dictTT (hu : X.A.units + 2 < cLine) : CallR X (.type "dict") (fun xs H Q => ∃ (a : Addr) (kvs : List (List Key × V)) (rows : List (List Int)), xs = [.ref a] ∧ Rd H a (.dT kvs) ∧ kvs.map (·.1) = rows.map rowK ∧ (rows.map hashRow).Nodup ∧ ∀ p, H p = none → Q (.ref p) (upd H p (.dT kvs))) := by
  intro pins s σ H xs us Q I r q
  obtain ⟨a, kvs, rows, rfl, hd, hk, hn, q⟩ := q
  obtain ⟨u, rfl, rx⟩ := vals1 r
  cases rx
  obtain ⟨z, lo, ys, rel, dd⟩ := dt_rd I.hok hd
  have ek : ∀ {l : List (List Key × V)} {m : List (List Key × Addr × Value)}, KT H l m → m.map (·.1) = l.map (·.1) := by
    intro l m q
    induction q with
    | nil => rfl
    | cons h t ih => rw [List.map_cons, List.map_cons, ih, h.1]
  have hl : ys.length = kvs.length := (Paired.length rel).symm
  have tup : ∀ {l : List (List Key × V)} {m : List (List Key × Addr × Value)}, KT H l m → ∀ x ∈ m, H x.2.1 = some (.tup (x.1.map kV)) := by
    intro l m q
    induction q with
    | nil => intro x hx; exact nomatch hx
    | @cons p q ps qs hq t ih =>
      intro x hx
      rcases List.mem_cons.mp hx with rfl | hx
      · rw [← hq.1]; exact hq.2.1
      · exact ih x hx
  have is0 : ∀ x ∈ ys, (tupleKind (mixKind X.prog X.w)).is s.heap x.1 x.2.1 := fun x hx => key_of I.hok (tup rel x hx)
  refine lib_dictT (hk := tupleKind (mixKind X.prog X.w)) (show X.A.in1.in1.units < cLine from hu) lo dd (by rw [hl]; exact z) (fun x hx => (is0 x hx).typeIs) ?_ (fun g up x hx => ?_) fun g hg up => ?_
  · have e : (ys.map fun z => (tupleKind (mixKind X.prog X.w)).hash z.1) = rows.map hashRow := by
      have e1 : (ys.map fun z => (tupleKind (mixKind X.prog X.w)).hash z.1) = (ys.map (·.1)).map (tupleKind (mixKind X.prog X.w)).hash := by rw [List.map_map]; rfl
      rw [e1, ek rel, hk, List.map_map]
      exact List.map_congr_left fun l _ => hash_row l
    rw [e]; exact hn
  · obtain ⟨o, it, n, h1, h2⟩ := is0 x hx
    exact ⟨o, it, n, up _ _ h1, h2⟩
  · have hm : (s.heap.objs.size == sysModules) = false := beq_eq_false_iff_ne.mpr (Nat.ne_of_gt I.big)
    obtain ⟨o, es, ep, g1, g2, g3, g4, g5, g6⟩ := hg
    refine ⟨.ref s.heap.objs.size, upd H s.heap.objs.size (.dT kvs), I.laid (t' := s.toks) up (Nat.le_refl _) ⟨z, hm, ys, rel.keeps (fun c vs e => ?_), o, es, ep, g1, g2, g3, g4, g6⟩, rfl, q _ (I.hok.fresh (Nat.le_refl _))⟩
    have fr : H s.heap.objs.size = none := I.hok.fresh (Nat.le_refl _)
    rw [upd_ne (fun z => by subst z; rw [fr] at e; cases e)]; exact e
/-- dict(d), keys tuples of ints -/
def rdDictT : List D → (D → Prop) → Prop := fun ds Q => match ds with
  | [.dct ks xs] => (∃ rows : List (List Int), ks = rows.map rowK ∧ (rows.map hashRow).Nodup) ∧ Q (.dct ks xs)
  | _ => False
theorem cdf_dictT (hu : X.A.units + 2 < cLine) : CDF X (.type "dict") rdDictT := by
  refine ⟨_, call_dictTT hu, fun pp Hb H xs ds Q QD so r h k => ?_⟩
  unfold rdDictT at h
  split at h
  · obtain ⟨⟨rows, h1, h2⟩, h3⟩ := h
    obtain ⟨v, rfl, y⟩ := r.one
    obtain ⟨a, ws, rfl, g1, g2, g3⟩ := y.dct so
    refine ⟨a, ws, rows, rfl, g1, by rw [g2, h1], h2, fun l hl => ?_⟩
    obtain ⟨s2, so2⟩ := lay_own (u := .dT ws) so hl
    exact k _ (.dct _ _) _ _ s2 so2 hl ⟨so.nb hl, so.ne hl, ⟨ws, upd_same, g2, g3⟩⟩ h3
  · exact h.elim
end
/-! ### d.pop(k) of what is there -/
section
variable {X : Cx} {o e : Expr} {pos cpos apos : Pos} {td ty : TE}
def tDPopT (td ty : TE) : TE := fun σ H Q => td σ H fun x H1 => ∃ a, x = .ref a ∧ IsD H1 a ∧ ty σ H1 fun y H2 => ∃ kvs k b v, H2 a = some (.dT kvs) ∧ y = .ref b ∧ H2 b = some (.tup (k.map kV)) ∧ valV kvs k = some v ∧ Q v (upd H2 a (.dT (dropK kvs k)))
theorem popT_run {pins : List (Addr × Obj)} {σ : L2.St} {H : Hp} {s : Shared} {a b : Addr} {kvs : List (List Key × V)} {k : List Key} {v : V} {Q : Value → Shared → Prop} {E : Value → Shared → Prop} {A : Around} (hu : A.units + 1 < cLine) (I : Inv X pins σ H s)
    (ha : H a = some (.dT kvs)) (hb : H b = some (.tup (k.map kV))) (l : valV kvs k = some v) (q : ∀ r z, Inv X pins σ (upd H a (.dT (dropK kvs k))) z → RelV v r → Q r z) : wpAny (model X.prog X.w) A (call (.builtin "dict.pop") [.ref a, .ref b]) Q E s := by
  obtain ⟨z, hd, xs', rel, dd⟩ := dt_of I.hok ha
  have hz : xs'.length ≤ sizeLine := by rw [← Paired.length rel]; exact z
  have r := rel.val k
  rw [l] at r
  cases hp : atKey xs' k with
  | none => rw [hp] at r; exact (show False from r).elim
  | some p =>
    rw [hp] at r
    refine call_pop_heap (knd := tupleKind (mixKind X.prog X.w)) (more := []) (.inl rfl) (PySem.F.args_dict_pop_2 _ _) (tupleKind_room_in1 hu) (key_of I.hok hb) hd dd hp (fun h' dd' hs => ?_) hz
    obtain ⟨o, es, ep, hq, h2, h3, h4, _, h5⟩ := dd'
    refine q p.2 _ ?_ r
    exact d_write I (by rw [ha]; exact True.intro) hs ⟨o, hq⟩ ⟨Nat.le_trans (dropK_le kvs k) z, hd, _, (L2.DX.KT_drop k rel).keeps (fun c ys ec => (by rw [upd_ne (ne_of ec ha (fun z => nomatch z))]; exact ec)), o, es, ep, hq, h2, h3, h4, h5⟩
theorem pe_dpopT (hu : X.A.units + 1 < cLine) (ho : PE X o td) (he : PE X e ty) (m : M1 X o "pop" apos e cpos) : PE X (.Call (.Attribute o "pop" apos) [e] [] cpos) (tDPopT td ty) := by
  refine ⟨fun pins s σ H Q I h => ?_⟩
  refine wpAny_Call_method m.base m.few m.line PySem.F.plainAttrs_dict PySem.F.slot_dict_pop PySem.F.type_dict_pop (thn (ho.run pins s σ H _ I h) fun u z1 ⟨x, H1, I1, rx, a, ex, d, q1⟩ => ?_)
  cases ex
  cases rx
  obtain ⟨g1, g2, _⟩ := isD_at I1 d
  refine ⟨g1, g2, ?_⟩
  rw [m.trees]
  refine Calls.callWith_builtin rfl (Calls.evalArgs_plain (Calls.spliced_cons (thn (he.run pins z1 σ H1 _ I1 q1) fun iv z2 ⟨y, H2, I2, ry, kvs, k, b, v, ea, ey, eb, l, q2⟩ => Calls.spliced_nil ?_)))
  cases ey
  cases ry
  exact popT_run hu I2 ea eb l fun r z I3 rr => ⟨v, _, I3, rr, q2⟩
/-- d.pop(k), its value dropped; d in slot i, its keys tuples -/
def dPopT (i : Nat) (pk : DX) : DS := fun DD E => match E[i]? with
  | some (.ow (.dct ks ds)) => pk E fun kd => match keyT kd with
    | some k => (lk ks ds k).isSome = true ∧ DD.nx (E.set i (.ow (.dct (drK ks k) (drD ks ds k))))
    | none => False
  | _ => False
theorem s_popT (i : Nat) {k : Expr} {pk : DX} {x : Str} {xp : Pos} (hu : X.A.units + 1 < cLine) (hk : QE X k pk) (hN : X.N[i]? = some x := by rfl) (hvis : Vis X.env.scope x := by first | exact Or.inl rfl | exact Or.inr (Or.inl rfl) | exact Or.inr (Or.inr rfl)) (hd : (x == ("__debug__" : Str)) = false := by decide)
    (hcd : (x == ("__classdict__" : Str)) = false := by decide) (m : M1 X (.Name x xp) "pop" apos k cpos := by exact ⟨rfl, rfl, rfl, rfl⟩) (hs : swapsWith (.Call (.Attribute (.Name x xp) "pop" apos) [k] [] cpos) none pos.line X.env = pure false := by rfl) :
    QS X (.Expr (.Call (.Attribute (.Name x xp) "pop" apos) [k] [] cpos) pos) (dPopT i pk) := by
  obtain ⟨t, t1, t2⟩ := hk
  refine ⟨_, ps_expr (pe_dpopT hu (L2.pv i hN hvis hd hcd) t1 m) hs, fun pp HbE HE Hb H σ E Dn DD s so er h o => ?_⟩
  unfold dPopT at h
  split at h
  · rename_i ks ds ei
    obtain ⟨p, q1, q2, q3⟩ := er.ow i _ ei
    obtain ⟨ws, hx, hks, hr⟩ := q3.top
    refine ⟨_, q1, p, rfl, .inr ⟨ws, .inl hx⟩, t2 pp HE Hb H σ E _ _ so er h fun kv kd Hb2 H2 s2 so2 r2 z2 => ?_⟩
    split at z2
    · rename_i k ek
      have hx2 : H2 p = some (.dT ws) := s2.ex p _ q3.ne hx
      cases el : lk ks ds k with
      | none => rw [el] at z2; simp at z2
      | some d =>
        subst hks
        obtain ⟨v, hv, _⟩ := (lk_val hr).1 d el
        obtain ⟨b, rfl, hb⟩ := keyT_rep so2 ek (.inl r2)
        refine ⟨ws, k, b, v, hx2, rfl, hb, hv, ?_⟩
        obtain ⟨g1, g2, g3⟩ := mut_ok (u := .dT (dropK ws k)) (d' := .dct (drK (ws.map (·.1)) k) (drD (ws.map (·.1)) ds k)) (s.trans s2) so2 (er.step s2) ei q1 ⟨_, upd_same, dr_keys _ _, dr_rep (hr.le s2.le)⟩
        exact o.nx Hb2 _ σ _ g1 g2 g3 z2.2
    · exact z2.elim
  · exact h.elim
end
/-! ### sorted(d) -/
section
variable {X : Cx}
theorem call_sortedTT (hc : X.calm = true) (hu : X.A.units + 64 < cLine) : CallR X (.builtin "sorted") (fun xs H Q => ∃ (a : Addr) (kvs : List (List Key × V)), xs = [.ref a] ∧ Rd H a (.dT kvs) ∧ alikeD (kvs.map fun z => keyTD z.1) ∧
    ∀ (p : Addr) (zs : List V), H p = none → PySem.W.EachIs (fun v k => ∃ q, v = V.ref q ∧ H q = some (.tup (k.map kV))) zs ((kvs.map (·.1)).mergeSort (PySem.W.dataLe false fun k => pd (keyTD k))) → Q (.ref p) (upd H p (.lst zs))) := by
  intro pins s σ H xs us Q I r q
  obtain ⟨a, kvs, rfl, hd, ⟨al, sk⟩, q⟩ := q
  obtain ⟨u, rfl, rx⟩ := vals1 r
  cases rx
  obtain ⟨z, lo, ys, pr, o, es, ep, ho, hx, hdt, he, hn⟩ := (show ObjOk X.prog X.w H s.heap a (.dT kvs) from hd.ok I.hok)
  have l1 : es.size = ys.length := size_of_entries he
  have l2 : kvs.length = ys.length := Paired.length pr
  refine Calls.call_function_entry PyProof.Rows.kind_sorted PyProof.Rows.plain_sorted PyProof.Rows.entry_sorted (PyProof.Rows.args_sorted1 _) ?_
  unfold Builtin.«sorted»
  refine wpAny_bind (m := checkCount "sorted" 1 1 _) (wpAny_pure ?_)
  refine wpAny_bind (PySem.W.kdu_collect (A := X.A.in1) (kdl_raw lo hx hdt) (I.ok.hd hc) ho (by omega) fun g tk acc up it => ?_)
  have ea : acc.toList = ys.map fun x => Value.ref x.2.1 := by
    have hl : acc.toList.length = ys.length := by rw [Array.length_toList, it.1]; exact l1
    apply List.ext_getElem?
    intro j
    rw [List.getElem?_map]
    cases hj : acc.toList[j]? with
    | none =>
      have h1 := List.getElem?_eq_none_iff.mp hj
      rw [List.getElem?_eq_none (by omega)]
      rfl
    | some v =>
      obtain ⟨en, hen, hv⟩ := it.2 j v (by rw [← Array.getElem?_toList]; exact hj)
      have qe := entry_at he j
      rw [hen] at qe
      cases hb : ys[j]? with
      | none => rw [hb] at qe; cases qe
      | some b =>
        rw [hb] at qe
        have e2 : en = entryOfKey (tupleKind (mixKind X.prog X.w)) b := Option.some.inj qe
        rw [hv, e2]; rfl
  have I1 : Inv X pins σ H { s with heap := g, toks := tk } := I.kept up
  -- what the items are
  have each : ∀ {l : List (List Key × V)} {m : List (List Key × Addr × Value)}, KT H l m → PySem.W.EachIs (fun u k => ∃ q, u = Value.ref q ∧ H q = some (.tup (k.map kV))) (m.map fun x => Value.ref x.2.1) (l.map (·.1)) := by
    intro l m q
    induction q with
    | nil => exact .nil
    | cons h t ih => exact .cons ⟨_, rfl, h.2.1⟩ ih
  have e1 : PySem.W.EachIs (fun u k => ∃ q, u = Value.ref q ∧ H q = some (.tup (k.map kV))) acc.toList (kvs.map (·.1)) := by rw [ea]; exact each pr
  have e0 : (kvs.map fun z => keyTD z.1) = (kvs.map (·.1)).map keyTD := by rw [List.map_map]; rfl
  rw [pdL_map, e0, List.map_map] at al sk
  have ln : (kvs.map (·.1)).length = acc.toList.length := by rw [ea, List.length_map, List.length_map]; exact l2
  have szl : acc.toList.length ≤ sizeLine := by rw [← ln, List.length_map]; exact z
  refine wpAny_bind (wpAny_newList ?_ szl)
  have oL : (g.push (seqObj "list" acc.toList.toArray 0)).get? g.objs.size = some (seqObj "list" acc.toList.toArray 0) := Heap.get?_push_size _ rfl
  show wpAny _ _ _ _ _ { s with heap := g.push (seqObj "list" acc.toList.toArray 0), toks := tk }
  have okk : ∀ k : List Key, okD 50 (keyTD k) = true := fun k => by
    unfold keyTD okD
    rw [List.all_eq_true]
    intro d hd
    obtain ⟨x, _, rfl⟩ := List.mem_map.mp hd
    cases x <;> rfl
  have reads : ∀ {us : List Value} {ks : List (List Key)}, PySem.W.EachIs (fun u k => ∃ q, u = Value.ref q ∧ H q = some (.tup (k.map kV))) us ks → PySem.W.EachIs (fun u k => ∃ as, Reads g u (pd (keyTD k)) as) us ks := fun h => h.mono fun u k ⟨q, e, hq⟩ => by
    subst e
    have rp : RepL a X.K H [keyTD k] [V.ref q] := .cons (keyTD_rep hq) .nil
    obtain ⟨as, ra⟩ := Dp.readsAll I1 (pdL [keyTD k]) [V.ref q] [Value.ref q] (repL_dp 50 _ _ (fun d hd => by rw [List.mem_singleton.mp hd]; exact okk k) rp) (.cons rfl .nil)
    rw [pdL_map] at ra
    have := PySem.W.readsAll_each pd ra
    cases this with
    | cons h1 _ => exact h1
  have e2 := reads e1
  have e3 : PySem.W.EachIs (fun u k => ∃ as, Reads (PySem.W.sortingHeap (g.push (seqObj "list" acc.toList.toArray 0)) g.objs.size acc.toList) u (pd (keyTD k)) as) acc.toList (kvs.map (·.1)) := e2.mono fun u k ⟨as, ra⟩ => ⟨as, PyProof.Rows.Reads.keeps (fun b ob hb => PySem.W.sortingHeap_old (Nat.ne_of_lt (Heap.lt_size hb)) (Heap.get?_push_of_some _ hb)) ra⟩
  have dep : ∀ d ∈ (kvs.map (·.1)).map (fun k => pd (keyTD k)), X.A.in1.in1.units + d.depth < cLine := fun d hd => by
    obtain ⟨k, _, rfl⟩ := List.mem_map.mp hd
    have := (pd_plain 50 (keyTD k) (okk k)).2
    show X.A.units + 1 + 1 + _ < cLine
    omega
  have e4 : PySem.W.EachIs (fun v d => ∃ as, Reads (PySem.W.sortingHeap (g.push (seqObj "list" acc.toList.toArray 0)) g.objs.size acc.toList) v d as) acc.toList ((kvs.map (·.1)).map fun k => pd (keyTD k)) := PySem.W.each_map (R := fun v d => ∃ as, Reads (PySem.W.sortingHeap (g.push (seqObj "list" acc.toList.toArray 0)) g.objs.size acc.toList) v d as) (fun k => pd (keyTD k)) e3
  have al : PySem.W.AllAlike ((kvs.map (·.1)).map fun k => pd (keyTD k)) := al
  have sk : PySem.W.Sortable ((kvs.map (·.1)).map fun k => pd (keyTD k)) := sk
  have S := PySem.W.SortsAt.data (prog := X.prog) (w := X.w) (A := X.A.in1.in1) (s := { s with heap := PySem.W.sortingHeap (g.push (seqObj "list" acc.toList.toArray 0)) g.objs.size acc.toList, toks := tk }) e4 al sk dep
  refine wpAny_bind (wpAny_holding (wpAny_call_entry PyProof.Rows.slot_list_sort ⟨_, oL, rfl⟩ PyProof.Rows.entry_list_sort
    (PySem.W.list_sort_vals (s := { s with heap := g.push (seqObj "list" acc.toList.toArray 0), toks := tk }) oL S szl ⟨_, rfl, ?_⟩) (PyProof.Rows.args_list_sort _)))
  have eo := PySem.W.sortVals_data (enc := fun k => pd (keyTD k)) false e1 e3 al
  have ll : (PySem.W.sortVals (PySem.W.dataKind (PySem.W.sortingHeap (g.push (seqObj "list" acc.toList.toArray 0)) g.objs.size acc.toList) ((kvs.map (·.1)).map fun k => pd (keyTD k))) false acc.toList acc.toList).length = acc.toList.length := PySem.W.sortVals_length false rfl
  generalize PySem.W.sortVals (PySem.W.dataKind (PySem.W.sortingHeap (g.push (seqObj "list" acc.toList.toArray 0)) g.objs.size acc.toList) ((kvs.map (·.1)).map fun k => pd (keyTD k))) false acc.toList acc.toList = out at eo ll
  have vv : ∀ {us : List Value} {ks : List (List Key)}, PySem.W.EachIs (fun u k => ∃ q, u = Value.ref q ∧ H q = some (.tup (k.map kV))) us ks → ∃ zs, Vals zs us ∧ PySem.W.EachIs (fun v k => ∃ q, v = V.ref q ∧ H q = some (.tup (k.map kV))) zs ks := by
    intro us ks h
    induction h with
    | nil => exact ⟨[], .nil, .nil⟩
    | cons h t ih =>
      obtain ⟨zs, h1, h2⟩ := ih
      obtain ⟨q, rfl, hq⟩ := h
      exact ⟨.ref q :: zs, .cons rfl h1, .cons ⟨q, rfl, hq⟩ h2⟩
  obtain ⟨zs, v1, v2⟩ := vv eo
  obtain ⟨ep2, he2⟩ := PyProof.Rows.sortedHeap_at (vs := acc.toList) (out := out.toArray) oL
  have lz : zs.length ≤ sizeLine := by rw [v1.length, ll]; exact szl
  refine wpAny_pure ⟨_, rfl, .ref g.objs.size, upd H g.objs.size (.lst zs), I1.laid (t' := tk) (fun b u hb => ?_) (Nat.le_refl _) ⟨lz, out, ep2, v1, he2⟩, rfl, q _ zs (I1.hok.fresh (Nat.le_refl _)) v2⟩
  have hb2 : b < g.objs.size := Heap.lt_size hb
  rw [PyProof.Rows.sortedHeap_old (Nat.ne_of_lt hb2) (by rw [PyProof.Rows.size_push']; exact Nat.lt_succ_of_lt hb2)]
  exact Heap.get?_push_of_some _ hb
/-- sorted(d), d's keys tuples -/
def rdSortedT : List D → (D → Prop) → Prop := fun ds Q => match ds with
  | [.dct ks _] => alikeD (ks.map keyTD) ∧ Q (.lst (sortD (ks.map keyTD)))
  | _ => False
theorem sortD_keys (ks : List (List Key)) : sortD (ks.map keyTD) = (ks.mergeSort (PySem.W.dataLe false fun k => pd (keyTD k))).map keyTD := by
  unfold sortD
  exact (List.map_mergeSort (f := keyTD) (r := PySem.W.dataLe false fun k => pd (keyTD k)) (s := PySem.W.dataLe false pd) (fun a _ b _ => rfl)).symm
theorem cdf_sortedT (hc : X.calm = true) (hu : X.A.units + 64 < cLine) : CDF X (.builtin "sorted") rdSortedT := by
  refine ⟨_, call_sortedTT hc hu, fun pp Hb H xs ds Q QD so r h k => ?_⟩
  unfold rdSortedT at h
  split at h
  · rename_i ks _
    obtain ⟨v, rfl, y⟩ := r.one
    obtain ⟨a, ws, rfl, g1, g2, g3⟩ := y.dct so
    have e : (ws.map fun z => keyTD z.1) = (ws.map (·.1)).map keyTD := by rw [List.map_map]; rfl
    refine ⟨a, ws, rfl, g1, by rw [e, g2]; exact h.1, fun l zs hl hz => ?_⟩
    rw [g2] at hz
    have rz : ∀ {zs : List V} {ks : List (List Key)}, PySem.W.EachIs (fun v k => ∃ q, v = V.ref q ∧ H q = some (.tup (k.map kV))) zs ks → RepL pp X.K Hb (ks.map keyTD) zs := by
      intro zs ks h
      induction h with
      | nil => exact .nil
      | cons h t ih =>
        obtain ⟨q, rfl, hq⟩ := h
        exact .cons (keyTD_rep (so.tp _ _ hq)) ih
    obtain ⟨s2, so2⟩ := lay_own (u := .lst zs) so hl
    refine k _ (.lst (sortD (ks.map keyTD))) _ _ s2 so2 hl ⟨so.nb hl, so.ne hl, ⟨zs, upd_same, ?_⟩⟩ h.2
    rw [sortD_keys]; exact rz hz
  · exact h.elim
end
end DL

/-! DT3: the least of a tuple; two new objects at once; walks over a dict that stands within a value -/
namespace DL
open PySem PySem.Spec PyProof.Rows L2
/-! ### min of a tuple of ints -/
theorem lib_minT {P0 : Program} {w0 : World} {B : Around} {E0 : Value → Shared → Prop} {s0 : Shared} {l : Addr} {its : Array Value} {ns : List Int} {Q0 : Value → Shared → Prop} (hh : B.handled = none) (hl : s0.heap.IsTuple l its) (hi : IntsAre its.toList ns) (h0 : 0 < ns.length)
    (go : ∀ (g : Heap) (tk : Nat) (M : Int) (t : Tok), (∀ b o, s0.heap.get? b = some o → g.get? b = some o) → M ∈ ns → (∀ a ∈ ns, M ≤ a) → Q0 (.int M t) { s0 with heap := g, toks := tk }) : wpAny (model P0 w0) B (call (.builtin "min") [.ref l]) Q0 E0 s0 := by
  obtain ⟨xs, e⟩ := hi.allInts.items
  have hn : numsOf (intItems xs).toList = ns := by rw [← e]; exact hi.numsOf
  rw [nums_intItems] at hn
  have e2 : its = intItems xs := by rw [← Array.toArray_toList (xs := its), e]
  subst hn
  subst e2
  have hsz : 0 < xs.size := by simpa using h0
  have lt : l < s0.heap.objs.size := by obtain ⟨_, q, _⟩ := hl; exact Heap.lt_size q
  refine call_min_walk (wpAny_pyIter_tuple hl ⟨_, _, _, _, _, _, _, rfl, Walks.tuple (A := B.in1) hh _ l (Nat.ne_of_lt lt) (intItems xs), ⟨⟨_, Heap.get?_push_size _ rfl, rfl, rfl⟩, hl.push _⟩, ?_, by simpa [intItems] using hsz, CmpOf.ints_lt (numAt xs) (fun _ _ => intItems_at), ?_⟩)
  · intro b hb
    show b < (s0.heap.push _).objs.size
    rw [Heap.size_push]
    rcases List.mem_cons.mp hb with rfl | hb
    · exact Nat.lt_succ_self _
    · rw [List.mem_singleton.mp hb]; exact Nat.lt_succ_of_lt lt
  · intro v g tk hP hk
    have hv : (intItems xs)[argBest (fun i j => decide (numAt xs i < numAt xs j)) (xs.size - 1)]? = some v := by simpa [intItems] using hP
    obtain ⟨t, rfl⟩ := intItems_at hv
    obtain ⟨h1, h2⟩ := argBest_lt (numAt xs) (xs.size - 1)
    have up : ∀ b o, s0.heap.get? b = some o → g.get? b = some o := fun b o e => hk b o (fun hm => by
      rw [List.mem_singleton] at hm
      rw [hm] at e
      exact Nat.lt_irrefl _ (Heap.lt_size e)) (Heap.get?_push_of_some _ e)
    refine go g tk _ t up ?_ fun a ha => ?_
    · rw [numAt_eq]; exact PySem.getD_mem (by rw [List.length_map, Array.length_toList]; omega)
    · obtain ⟨j, hj, rfl⟩ := mem_getD ha
      rw [List.length_map, Array.length_toList] at hj
      rw [← numAt_eq]; exact h2 j (by omega)
section
variable {X : Cx}
theorem call_minT (hc : X.calm = true) : CallR X (.builtin "min") (fun xs H Q => ∃ (a : Addr) (ns : List Int), xs = [V.ref a] ∧ H a = some (.tup (ns.map V.int)) ∧ 0 < ns.length ∧ ∀ m, m ∈ ns → (∀ y ∈ ns, m ≤ y) → Q (.int m) H) := by
  intro pins s σ H xs us Q I r h
  obtain ⟨a, ns, rfl, hs, h0, q⟩ := h
  obtain ⟨u, rfl, rx⟩ := vals1 r
  cases rx
  obtain ⟨_, its, rv, o, e1, e2, n, e3⟩ := (show ObjOk X.prog X.w H s.heap a (.tup (ns.map V.int)) from I.hok a _ hs)
  refine lib_minT (I.ok.hd hc) ⟨o, e1, e2, n, e3⟩ (by simpa using rv.ints) h0 fun g tk m t up h1 h2 => ⟨.int m, H, I.kept up, ⟨_, rfl⟩, q m h1 h2⟩
def rdMinT : List D → (D → Prop) → Prop := fun ds Q => match ds with
  | [.tk xs] => match intsD xs with
    | some ns => 0 < ns.length ∧ ∀ m ∈ ns, (∀ y ∈ ns, m ≤ y) → Q (.int m)
    | none => False
  | _ => False
theorem cd_minT (hc : X.calm = true) : CD X (.builtin "min") rdMinT := by
  refine ⟨_, call_minT hc, fun pp Hb H xs ds Q QD so r h k => ?_⟩
  unfold rdMinT at h
  split at h
  · obtain ⟨v, rfl, y⟩ := r.one
    obtain ⟨a, ws, rfl, _, h1, rl⟩ := y.tk so
    split at h
    · rename_i ns en
      refine ⟨a, ns, rfl, by rw [h1, intsD_rep en rl], h.1, fun m h2 h3 => k _ (.int m) Hb H .refl so rep_int (h.2 m h2 h3)⟩
    · exact h.elim
  · exact h.elim
end
/-! ### a, b = two new objects -/
section
variable {X : Cx} {a b : Expr} {pa pb : DX} {pos : Pos}
def dParO (i j : Nat) (pa pb : DX) : DS := fun DD E => pa E fun x => pb E fun y => DD.nx ((E.set i (.ow x)).set j (.ow y))
theorem s_parO {i j : Nat} {x y : Str} {px py pt : Pos} {kt k2 pt2} (hc : X.calm = true) (hN : X.N.Nodup) (ha : QF X a pa) (hb : QF X b pb) (hi : X.N[i]? = some x := by rfl) (hj : X.N[j]? = some y := by rfl) (hij : i ≠ j := by decide)
    (hx : X.env.scope.names.lookup x = some .local := by rfl) (hy : X.env.scope.names.lookup y = some .local := by rfl)
    (hw : swappedStores [.Tuple [.Name x px, .Name y py] kt pt] (.Tuple [a, b] k2 pt2) X.env = pure (some [x, y]) := by rfl)
    (hs : swapsWithSole [.Tuple [.Name x px, .Name y py] kt pt] (.Tuple [a, b] k2 pt2) pos.line X.env = pure false := by rfl)
    (h4 : starEach [a, b] X.env = (false, eval a X.env) :: starEach [b] X.env := by rfl) (h5 : starEach [b] X.env = (false, eval b X.env) :: starEach [] X.env := by rfl) :
    QS X (.Assign [.Tuple [.Name x px, .Name y py] kt pt] (.Tuple [a, b] k2 pt2) pos) (dParO i j pa pb) := by
  obtain ⟨t, t1, t2⟩ := ha
  obtain ⟨u, u1, u2⟩ := hb
  refine ⟨_, ps_par hc hN hi hj hij hx hy (pa_cons t1 (pa_cons u1 pa_nil h5) h4) hw hs, fun pp HbE HE Hb H σ E Dn DD s so er h o => ?_⟩
  refine t2 pp HE Hb H σ E _ _ so er h fun p d Hb1 H1 s1 so1 n1 o1 q1 => ?_
  have er1 := er.step s1
  refine u2 pp HE Hb1 H1 σ E _ _ so1 er1 q1 fun p2 d2 Hb2 H2 s2 so2 n2 o2 q2 => ?_
  have er2 := er1.step s2
  have st := (s.trans s1).trans s2
  have hp : HE p = none := by
    cases z : HE p with
    | none => rfl
    | some w =>
      by_cases e : p = pp
      · exact absurd e o1.ne
      · rw [s.ex p w e z] at n1; cases n1
  have hp2 : HE p2 = none := by
    cases z : HE p2 with
    | none => rfl
    | some w =>
      by_cases e : p2 = pp
      · exact absurd e o2.ne
      · rw [(s.trans s1).ex p2 w e z] at n2; cases n2
  have ne12 : p2 ≠ p := fun z => by
    subst z
    exact Top.isSm o1.top n2
  have fr1 : ∀ (j : Nat) (d' : D), E[j]? = some (.ow d') → σ[j]? ≠ some (some (.ref p)) := fun j d' e z => by
    obtain ⟨q, g1, g2, g3⟩ := er.ow j d' e
    rw [z] at g1; cases g1
    exact Top.isSm g3.top n1
  have fr2 : ∀ (j : Nat) (d' : D), E[j]? = some (.ow d') → σ[j]? ≠ some (some (.ref p2)) := fun j d' e z => by
    obtain ⟨q, g1, g2, g3⟩ := er1.ow j d' e
    rw [z] at g1; cases g1
    exact Top.isSm g3.top n2
  have e1 := er2.set_ow i (p := p) (d := d) hp (o1.step s2) fr1
  have e2 := e1.set_ow j (p := p2) (d := d2) hp2 o2 fun k d' e => by
    rcases get_set e with ⟨rfl, hl, _⟩ | ⟨hk, e'⟩
    · rw [List.getElem?_set_self (by rw [er2.len]; exact hl)]
      intro z; cases z; exact ne12 rfl
    · rw [List.getElem?_set_ne (Ne.symm hk)]
      exact fr2 k d' e'
  exact ⟨_, _, rfl, o.nx Hb2 H2 _ _ st so2 e2 q2⟩
end
/-! ### for k in xs[0][1]: a dict within a value -/
def WalkV (K : FK) (H : Hp) : V → List Nat → V → Prop
  | v, [], w => w = v
  | v, k :: ks, w => ∃ p xs x, v = .ref p ∧ (SqL K H p xs ∨ SqT K H p xs) ∧ xs[k]? = some x ∧ WalkV K H x ks w
def pathD : D → List Nat → Option D
  | d, [] => some d
  | .lst xs, k :: ks => match xs[k]? with
    | some x => pathD x ks
    | none => none
  | .tup xs, k :: ks => match xs[k]? with
    | some x => pathD x ks
    | none => none
  | _, _ :: _ => none
theorem walkV_of {pp : Addr} {K : FK} {Hb H : Hp} (le : Le Hb H) : ∀ (ks : List Nat) (d : D) (v : V) (x : D), Rep pp K Hb d v → pathD d ks = some x → ∃ w, WalkV K H v ks w ∧ Rep pp K Hb x w
  | [], d, v, x, r, e => by
    have e : some d = some x := e
    cases e; exact ⟨v, rfl, r⟩
  | k :: ks, d, v, x, r, e => by
    cases d <;> first | (simp [pathD] at e; done) | skip
    · rename_i ds
      unfold pathD at e
      cases hk : ds[k]? with
      | none => rw [hk] at e; cases e
      | some y =>
        rw [hk] at e
        unfold Rep at r
        obtain ⟨a, xs, rfl, h1, h2⟩ := r
        obtain ⟨u, h3, h4⟩ := h2.get hk
        obtain ⟨w, h5, h6⟩ := walkV_of le ks y u x h4 e
        exact ⟨w, ⟨a, xs, u, rfl, .inr (le.tpAt h1).sqT, h3, h5⟩, h6⟩
    · rename_i ds
      unfold pathD at e
      cases hk : ds[k]? with
      | none => rw [hk] at e; cases e
      | some y =>
        rw [hk] at e
        unfold Rep at r
        obtain ⟨a, xs, rfl, h1, h2⟩ := r
        obtain ⟨u, h3, h4⟩ := h2.get hk
        obtain ⟨w, h5, h6⟩ := walkV_of le ks y u x h4 e
        exact ⟨w, ⟨a, xs, u, rfl, .inl (.of (le.ls _ _ h1)), h3, h5⟩, h6⟩
theorem walkV_le {K : FK} {H H' : Hp} (le : Le H H') : ∀ {ks : List Nat} {v w : V}, WalkV K H v ks w → WalkV K H' v ks w
  | [], _, _, h => h
  | k :: ks, v, w, ⟨p, xs, x, h1, h2, h3, h4⟩ => ⟨p, xs, x, h1, h2.imp (fun q => le.sqL q) (fun q => le.sqT q), h3, walkV_le le h4⟩
theorem walkV_app {K : FK} {H : Hp} {k : Nat} {w : V} : ∀ {ks : List Nat} {v : V}, WalkV K H v (ks ++ [k]) w → ∃ u, WalkV K H v ks u ∧ WalkV K H u [k] w
  | [], v, h => ⟨v, rfl, h⟩
  | j :: ks, v, ⟨p, xs, x, h1, h2, h3, h4⟩ => by
    obtain ⟨u, g1, g2⟩ := walkV_app h4
    exact ⟨u, ⟨p, xs, x, h1, h2, h3, g1⟩, g2⟩
def QPath (X : Cx) (e : Expr) (i : Nat) (ks : List Nat) : Prop := ∃ t, PE X e t ∧ ∀ (σ : L2.St) (H : Hp) (v w : V) (Q : VK), σ[i]? = some (some v) → WalkV X.K H v ks w → Q w H → t σ H Q
section
variable {X : Cx} {e tg : Expr} {sts : List Stmt} {p : DS} {g : DG} {pos : Pos}
theorem path_var (i : Nat) {x : Str} {xp : Pos} (hN : X.N[i]? = some x := by rfl) (hvis : Vis X.env.scope x := by first | exact Or.inl rfl | exact Or.inr (Or.inl rfl) | exact Or.inr (Or.inr rfl)) (hd : (x == ("__debug__" : Str)) = false := by decide)
    (hcd : (x == ("__classdict__" : Str)) = false := by decide) : QPath X (.Name x xp) i [] :=
  ⟨_, L2.pv i hN hvis hd hcd, fun σ H v w Q h1 h2 q => by
    have h2 : w = v := h2
    subst h2
    exact ⟨_, h1, q⟩⟩
theorem path_ix {i k nn : Nat} {ks : List Nat} {ip : Pos} (h : QPath X e i ks) (hs : PlainIx (.Constant (.int (k : Nat)) nn ip) := by intro _ _; rfl) : QPath X (.Subscript e (.Constant (.int (k : Nat)) nn ip) pos) i (ks ++ [k]) := by
  obtain ⟨t, t1, t2⟩ := h
  refine ⟨_, pe_ix (L2.ix_list.or L2.ix_tup) t1 pe_int hs, fun σ H v w Q h1 h2 q => ?_⟩
  obtain ⟨u, g1, p, xs, x, rfl, g2, g3, g4⟩ := walkV_app h2
  have g4 : w = x := g4
  subst g4
  have at1 : L2.atI xs ((k : Nat) : Int) = some w := by
    have hl : k < xs.length := (List.getElem?_eq_some_iff.mp g3).1
    simp [L2.atI, ixN_nat hl, g3]
  refine t2 σ H v (.ref p) _ h1 g1 ?_
  rcases g2 with g2 | g2
  · exact .inl ⟨p, xs, _, w, rfl, rfl, g2, at1, q⟩
  · exact .inr ⟨p, xs, _, w, rfl, rfl, g2, at1, q⟩
/-- the keys of the dict that stands at ks within slot i -/
def dKeysP (i : Nat) (ks : List Nat) : DI := fun E Q => match E[i]? with
  | some (.sh d) => match pathD d ks with
    | some (.dic js _) => Q (js.map keyD)
    | _ => False
  | _ => False
theorem keysP_run {pp : Addr} {Hb H : Hp} {σ : L2.St} {E : List Sl} {i : Nat} {path : List Nat} {a : Addr} {o : Obj} {ws : List (Key × V)} {d0 : D} {ds : List D} {ks : List Key} {v0 : V} {te : TE} (ht : ∀ (σ : L2.St) (H : Hp) (v w : V) (Q : VK), σ[i]? = some (some v) → WalkV X.K H v path w → Q w H → te σ H Q)
    (so : SOk pp X.K Hb H) (ei : E[i]? = some (.sh d0)) (ed : pathD d0 path = some (.dic ks ds)) (hσ : σ[i]? = some (some v0)) (hw : WalkV X.K H v0 path (.ref a)) (hb : Hb a = some (.frz o (.dK ws))) (hk : ws.map (·.1) = ks)
    (R : It → Hp → Prop) (QD : List D → Prop) (h : dKeysP i path E QD) (k : ∀ J items Hb' H', Step pp Hb H Hb' H' → SOk pp X.K Hb' H' → WalkJ pp X.K Hb' J items → QD items → R J H') : iKeys te σ H R := by
  unfold dKeysP at h
  rw [ei] at h
  dsimp only at h
  rw [ed] at h
  exact ht σ H v0 (.ref a) _ hσ hw ⟨a, o, rfl, .inl ⟨ws, so.le _ _ hb, k _ _ Hb H .refl so (walk_keys hb) (by rw [hk]; exact h)⟩⟩
theorem s_forKP {i : Nat} {path : List Nat} (hp : PassesOwn (model X.prog X.w) X.A X.env X.xe) (hc : X.calm = true) (he : QPath X e i path) (hg : QG X tg g) (hb : QSs X sts p)
    (hs : ∀ y, foldedSetIterable e X.env y = pure y := by intro _; rfl) : QS X (.For tg e sts [] pos) (dFor (dKeysP i path) g p) := by
  obtain ⟨tg', g1, g2⟩ := hg
  obtain ⟨tb, b1, b2⟩ := hb
  obtain ⟨te, t1, t2⟩ := he
  have base := ps_for (pos := pos) hp hc (pi_keys t1) g1 b1 hs
  refine ⟨_, PS.or (ps_lockX base) base, fun pp HbE HE Hb H σ E Dn DD s so er h o => ?_⟩
  have ei : ∃ d0 ks ds, E[i]? = some (.sh d0) ∧ pathD d0 path = some (.dic ks ds) := by
    have h' := h
    unfold dFor dKeysP at h'
    split at h'
    · rename_i d0 e1
      split at h'
      · exact ⟨d0, _, _, e1, by assumption⟩
      · exact h'.elim
    · exact h'.elim
  obtain ⟨d0, ks, ds, ei, ed⟩ := ei
  obtain ⟨v, h1, h2⟩ := er.sh i _ ei
  obtain ⟨w, hw, hr⟩ := walkV_of (.of_same (Same.refl Hb)) path d0 v _ h2 ed
  unfold Rep at hr
  obtain ⟨a, ws, rfl, h3, h4, h5⟩ := hr
  rcases h3 with h3 | ⟨oo, h3⟩
  · have c : CanLock pp a (.dK ws) Hb H := ⟨h3, so.le _ _ h3, (fun z => by subst z; rw [so.np] at h3; cases h3), trivial, (fun xs z => nomatch z), (fun xs z => nomatch z), (fun xs z => nomatch z)⟩
    refine .inl ⟨a, .dK ws, c.hh, trivial, fun hn od => ?_⟩
    obtain ⟨s1, so1, er1⟩ := lock_ok (od := od) c s so er
    have hw1 : WalkV X.K (upd H a (.frz od (.dK ws))) v path (.ref a) := walkV_le so1.hle (walkV_le (le_lock c) hw)
    have fz : ∀ {Hb2 H2 : Hp}, Step pp (upd Hb a (.frz od (.dK ws))) (lkF a (.frz od (.dK ws)) (.dK ws) HE) Hb2 H2 → Hb2 a = some (.frz od (.dK ws)) := fun s2 => s2.sb a _ upd_same
    refine for_read (pi := dKeysP i path) (g := g) (p := p) (DD := DD) (fun R QD q k => keysP_run t2 so1 ei ed h1 hw1 upd_same h4 R QD q k) g2 b2 s1 so1 er1 h ⟨fun Hb2 H2 σ2 E2 s2 so2 er2 q => ?_, fun Hb2 H2 v2 d2 s2 so2 r2 q => ?_, fun Hb2 H2 σ2 E2 s2 so2 er2 q => ?_, fun Hb2 H2 σ2 E2 s2 so2 er2 q => ?_, fun Hb2 H2 p2 d2 s2 so2 n2 o2 q => ?_, fun Hb2 H2 σ2 E2 x2 cls2 dd2 s2 so2 er2 r2 q => ?_⟩
    · obtain ⟨u1, u2⟩ := unlock_ok (u := .dK ws) c s (s1.cut s2) (fz s2) so2
      exact ⟨so2.le _ _ (fz s2), o.nx _ _ σ2 E2 u1 u2 (unlock_er (fz s2) (so2.le _ _ (fz s2)) er2) q⟩
    · obtain ⟨u1, u2⟩ := unlock_ok (u := .dK ws) c s (s1.cut s2) (fz s2) so2
      exact ⟨so2.le _ _ (fz s2), o.rt _ _ v2 d2 u1 u2 (r2.le (le_unlock (fz s2))) q⟩
    · obtain ⟨u1, u2⟩ := unlock_ok (u := .dK ws) c s (s1.cut s2) (fz s2) so2
      exact ⟨so2.le _ _ (fz s2), o.bk _ _ σ2 E2 u1 u2 (unlock_er (fz s2) (so2.le _ _ (fz s2)) er2) q⟩
    · obtain ⟨u1, u2⟩ := unlock_ok (u := .dK ws) c s (s1.cut s2) (fz s2) so2
      exact ⟨so2.le _ _ (fz s2), o.ct _ _ σ2 E2 u1 u2 (unlock_er (fz s2) (so2.le _ _ (fz s2)) er2) q⟩
    · obtain ⟨u1, u2⟩ := unlock_ok (u := .dK ws) c s (s1.cut s2) (fz s2) so2
      have hne : p2 ≠ a := fun z => by subst z; have := o2.nb; rw [fz s2] at this; cases this
      exact ⟨so2.le _ _ (fz s2), o.rf _ _ p2 d2 u1 u2 (lkF_none.mp n2) ⟨by rw [upd_ne hne]; exact o2.nb, o2.ne, Top.step (le_unlock (fz s2)) (fun o h => by rw [upd_ne hne]; exact h) o2.top⟩ q⟩
    · obtain ⟨u1, u2⟩ := unlock_ok (u := .dK ws) c s (s1.cut s2) (fz s2) so2
      obtain ⟨m2, dd, ed2, x2⟩ := r2
      exact wm_unlock hn (so2.le _ _ (fz s2)) (o.ex _ _ σ2 E2 _ _ _ u1 u2 (unlock_er (fz s2) (so2.le _ _ (fz s2)) er2) ⟨m2, dd, ed2, xf_unlock (fz s2) (so2.le _ _ (fz s2)) x2⟩ q)
  · exact .inr (for_read (pi := dKeysP i path) (g := g) (p := p) (DD := DD) (fun R QD q k => keysP_run t2 so ei ed h1 (walkV_le so.hle hw) h3 h4 R QD q k) g2 b2 s so er h (o.cut s))
end
theorem hu2_of {A : Around} {k : Nat} (hr : Room k A) : A.units + 2 < cLine := by have := hr.units; omega
end DL

/-! DT4: displays of dicts whose keys and values are constants -/
namespace DL
open PySem PySem.Spec PyProof.Rows L2
section
variable {X : Cx} {pos : Pos}
/-- a constant: its value needs no heap -/
def CV (X : Cx) (e : Expr) (v : V) (d : D) : Prop := (∃ t, PE X e t ∧ ∀ σ H (Q : VK), Q v H → t σ H Q) ∧ ∀ pp H, Rep pp X.K H d v
theorem cv_int {i : Int} {j p} : CV X (.Constant (.int i) j p) (.int i) (.int i) := ⟨⟨_, pe_int, fun _ _ _ q => q⟩, fun _ _ => by unfold Rep; rfl⟩
theorem cv_str {x : Str} {j p} : CV X (.Constant (.str x) j p) (.str x) (.str x) := ⟨⟨_, pe_str, fun _ _ _ q => q⟩, fun _ _ => by unfold Rep; rfl⟩
theorem cv_bl {c : Bool} {j p} : CV X (.Constant (.bool c) j p) (.bl c) (.bl c) := ⟨⟨_, pe_bl, fun _ _ _ q => q⟩, fun _ _ => by unfold Rep; rfl⟩
theorem cv_non {j p} : CV X (.Constant .none j p) .non .non := ⟨⟨_, pe_non, fun _ _ _ q => q⟩, fun _ _ => by unfold Rep; rfl⟩
/-- the pairs of a display of constants -/
def CPs (X : Cx) (pos : Pos) (keys : List (Option Expr)) (values : List Expr) (kvs : List (Key × V)) (ds : List D) : Prop :=
  (∃ trs, PPs X pos keys values trs ∧ ∀ σ H Q, Q (kvs.map fun kv => (kV kv.1, kv.2)) H → tPairs trs σ H Q) ∧ ∀ pp H, RepL pp X.K H ds (kvs.map (·.2))
theorem cps_nil : CPs X pos [] [] [] [] := ⟨⟨[], pps_nil, fun _ _ _ q => q⟩, fun _ _ => .nil⟩
theorem cps_cons {k v : Expr} {ks : List (Option Expr)} {vs : List Expr} {kk : Key} {w : V} {d kd : D} {kvs : List (Key × V)} {ds : List D} (hk : CV X k (kV kk) kd) (hv : CV X v w d) (hr : CPs X pos ks vs kvs ds) : CPs X pos (some k :: ks) (v :: vs) ((kk, w) :: kvs) (d :: ds) := by
  obtain ⟨⟨t1, p1, q1⟩, _⟩ := hk
  obtain ⟨⟨t2, p2, q2⟩, r2⟩ := hv
  obtain ⟨⟨trs, p3, q3⟩, r3⟩ := hr
  refine ⟨⟨(t1, t2) :: trs, pps_cons p1 p2 p3, fun σ H Q q => ?_⟩, fun pp H => .cons (r2 pp H) (r3 pp H)⟩
  exact q1 σ H _ (q2 σ H _ (q3 σ H _ q))
theorem mergeK_nodup : ∀ (more kvs : List (Key × V)), ((kvs ++ more).map (·.1)).Nodup → mergeK kvs more = kvs ++ more
  | [], kvs, _ => by rw [List.append_nil]; rfl
  | (k, v) :: more, kvs, nd => by
    have e : putK kvs k v = kvs ++ [(k, v)] := by
      unfold putK
      rw [if_neg]
      rw [List.any_eq_true]
      rintro ⟨z, hz, ez⟩
      have ez : z.1 = k := by simpa using ez
      rw [List.map_append, List.nodup_append] at nd
      exact nd.2.2 z.1 (List.mem_map.mpr ⟨z, hz, rfl⟩) k (by simp) ez
    show mergeK (putK kvs k v) more = _
    rw [e, mergeK_nodup more (kvs ++ [(k, v)]) (by simpa using nd)]
    simp
/-- {k: v, ..} of constants -/
def dDisp (ks : List Key) (ds : List D) : DX := fun _ Q => Q (.dic ks ds)
theorem f_disp {keys : List (Option Expr)} {values : List Expr} {kvs : List (Key × V)} {ks : List Key} {ds : List D} (h : CPs X pos keys values kvs ds) (hk : kvs.map (·.1) = ks := by rfl) (nd : ks.Nodup := by decide) (h15 : keys.length ≤ 15 := by decide) (h0 : keys ≠ [] := by exact fun z => nomatch z)
    (hall : keys.all (·.isSome) = true := by rfl) (hl : keys.length = values.length := by rfl) (hm : kvs.length ≤ 15 := by decide) : QF X (.Dict keys values pos) (dDisp ks ds) := by
  obtain ⟨⟨trs, p1, q1⟩, r1⟩ := h
  refine ⟨_, pe_disp p1 hall hl h0 h15, fun pp HE Hb H σ E Q QD so er hp k => ?_⟩
  intro p hp'
  refine q1 σ _ _ ⟨upd_same, kvs, rfl, hm, ?_⟩
  have e : mergeK [] kvs = kvs := mergeK_nodup kvs [] (by rw [List.nil_append, hk]; exact nd)
  have e2 : upd (upd H p (.dK [])) p (.dK (mergeK [] kvs)) = upd H p (.dK kvs) := by
    rw [e]; funext a
    unfold upd; split <;> rfl
  rw [e2]
  obtain ⟨s2, so2⟩ := lay_own (u := .dK kvs) so hp'
  exact k p (.dic ks ds) _ _ s2 so2 hp' ⟨so.nb hp', so.ne hp', ⟨kvs, upd_same, hk, r1 _ _⟩⟩ hp
end
/-- a def that tells nothing yet -/
theorem Def.noneS {P : Program} {w : World} {K : FK} {mg : Str → Option Value} {x : Str} {st : Stmt} {ps : List Str} {k : Nat} {S : SpecD} (F : FunAt K mg x st)
    (hb : ∀ (kV doc pm : Value) (an : Option Addr) (cdv ct : Value) (us : List Value), us.length = ps.length → bindArgs (PySem.W.fnOf x x (defArgs st) (defBody st) (defScope st) .none kV doc pm an cdv ct) ⟨us, []⟩ = pure (ps.zip us)) (hS : ∀ ds Q, ¬ S ds Q) : Def P w K mg x ps k S := by
  obtain ⟨f, fd, F, hm⟩ := F.ex
  have no : ∀ {vs H Q E}, ¬ spD K S vs H Q E := fun h => by
    obtain ⟨pp, Hb, ds, QD, _, _, h, _⟩ := h
    exact hS _ _ h
  exact ⟨f, fd, hm, F.kp, F.binds hb, fun base => ⟨fun vs H Q E h => (no h).elim, fun A outer s H args us vs Q E _ _ _ _ h => (no h).elim⟩⟩
end DL

/-! DT5: a loop over a dict of either kind; the same data, dicts with tuple keys included -/
namespace DL
open PySem PySem.Spec PyProof.Rows L2
def dKeysA (i : Nat) : DI := fun E Q => match E[i]? with
  | some (.sh (.dic ks _)) => Q (ks.map keyD)
  | some (.sh (.dct ks _)) => Q (ks.map keyTD)
  | _ => False
section
variable {X : Cx} {tg : Expr} {sts : List Stmt} {p : DS} {g : DG} {pos : Pos}
theorem qs_or {st : Stmt} {p q r : DS} (h1 : QS X st p) (h2 : QS X st q) (h : ∀ DD E, r DD E → p DD E ∨ q DD E) : QS X st r := by
  obtain ⟨t, t1, t2⟩ := h1
  obtain ⟨u, u1, u2⟩ := h2
  refine ⟨_, PS.or t1 u1, fun pp HbE HE Hb H σ E Dn DD s so er hh o => ?_⟩
  rcases h DD E hh with hh | hh
  · exact .inl (t2 pp HbE HE Hb H σ E Dn DD s so er hh o)
  · exact .inr (u2 pp HbE HE Hb H σ E Dn DD s so er hh o)
theorem s_forKA (i : Nat) {x : Str} {xp : Pos} (hp : PassesOwn (model X.prog X.w) X.A X.env X.xe) (hc : X.calm = true) (hg : QG X tg g) (hb : QSs X sts p) (hN : X.N[i]? = some x := by rfl) (hvis : Vis X.env.scope x := by first | exact Or.inl rfl | exact Or.inr (Or.inl rfl) | exact Or.inr (Or.inr rfl)) (hd : (x == ("__debug__" : Str)) = false := by decide)
    (hcd : (x == ("__classdict__" : Str)) = false := by decide) (hs : ∀ y, foldedSetIterable (.Name x xp) X.env y = pure y := by intro _; rfl) : QS X (.For tg (.Name x xp) sts [] pos) (dFor (dKeysA i) g p) := by
  refine qs_or (s_forK i hp hc hg hb hN hvis hd hcd hs) (s_forKT i hp hc hg hb hN hvis hd hcd hs) fun DD E h => ?_
  unfold dFor dKeysA at h
  unfold dFor dKeys dKeysT
  split at h
  · rename_i e; left; rw [e]; exact h
  · rename_i e; right; rw [e]; exact h
  · exact h.elim
end
theorem keyT_keyTD (k : List Key) : keyT (keyTD k) = some k := by
  show keysOf _ = _
  induction k with
  | nil => rfl
  | cons a k ih =>
    rw [List.map_cons]
    unfold keysOf
    rw [keyOf_keyD, ih]
/-- the same data, dicts with tuple keys included -/
def smA : Nat → D → D → Prop
  | _ + 1, .non, .non => True
  | _ + 1, .bl a, .bl b => a = b
  | _ + 1, .int a, .int b => a = b
  | _ + 1, .str a, .str b => a = b
  | n + 1, .tup xs, .tup ys => xs.length = ys.length ∧ ys.length ≤ 100000 ∧ ∀ (i : Nat) a b, xs[i]? = some a → ys[i]? = some b → smA n a b
  | n + 1, .lst xs, .lst ys => xs.length = ys.length ∧ ys.length ≤ 100000 ∧ ∀ (i : Nat) a b, xs[i]? = some a → ys[i]? = some b → smA n a b
  | n + 1, .dic ks xs, .dic js ys => ks.length = js.length ∧ js.length ≤ 100000 ∧ ∀ k ∈ js, ∃ a b, lk ks xs k = some a ∧ lk js ys k = some b ∧ smA n a b
  | n + 1, .dct ks xs, .dct js ys => ks.length = js.length ∧ js.length ≤ 100000 ∧ ∀ k ∈ js, ∃ a b, lk ks xs k = some a ∧ lk js ys k = some b ∧ smA n a b
  | _, _, _ => False
def S_sameA (n : Nat) : SpecD := fun ds Q => ∃ x y, ds = [x, y] ∧ smA n x y ∧ Q (.bl true)
theorem no_sameA : ∀ ds Q, ¬ S_sameA 0 ds Q := fun ds Q ⟨x, y, _, h, _⟩ => by cases x <;> cases y <;> exact h
def p_same4 (S : SpecD) : DS := (dSeq (dIfS (dTst (dOp rdIs (dVarO 1) (dC .non))) (dRet (dOp rdIs (dVarO 0) (dC .non))) dNext) (dSeq (dIfS (dTst (dOp rdIs (dVarO 1) (dC (.bl true)))) (dRet (dOp rdIs (dVarO 0) (dC (.bl true)))) dNext) (dSeq (dIfS (dTst (dOp rdIs (dVarO 1) (dC (.bl false)))) (dRet (dOp rdIs (dVarO 0) (dC (.bl false)))) dNext) (dSeq (dIfS (dTst (dCB rdIsi (dConsA (dVarO 1) (dConsA (dC (.ty "int")) dNilA)))) (dRet (dAndV (dCB rdIsi (dConsA (dVarO 0) (dConsA (dC (.ty "int")) dNilA))) (dAndV (dNotV (dCB rdIsi (dConsA (dVarO 0) (dConsA (dC (.ty "bool")) dNilA)))) (dOp rdEq (dVarO 0) (dVarO 1))))) dNext) (dSeq (dIfS (dTst (dCB rdIsi (dConsA (dVarO 1) (dConsA (dC (.ty "str")) dNilA)))) (dRet (dAndV (dCB rdIsi (dConsA (dVarO 0) (dConsA (dC (.ty "str")) dNilA))) (dOp rdEq (dVarO 0) (dVarO 1)))) dNext) (dSeq (dIfS (dTst (dCB rdIsi (dConsA (dVarO 1) (dConsA (dC (.ty "dict")) dNilA)))) (dSeq (dIfS (dOr (dNot (dTst (dCB rdIsi (dConsA (dVarO 0) (dConsA (dC (.ty "dict")) dNilA))))) (dTst (dOp rdNe (dCB rdLen (dConsA (dVarO 0) dNilA)) (dCB rdLen (dConsA (dVarO 1) dNilA))))) (dRet (dC (.bl false))) dNext) (dSeq (dFor (dKeysA 1) (gN 3) (dIfS (dOr (dTst (dOp rdNotIn (dVarO 3) (dVarO 0))) (dNot (dTst (dCall S (dConsA (dOp rdIx (dVarO 0) (dVarO 3)) (dConsA (dOp rdIx (dVarO 1) (dVarO 3)) dNilA)))))) (dRet (dC (.bl false))) dNext)) (dRet (dC (.bl true))))) dNext) (dSeq (dIfS (dOr (dTst (dOp rdNe (dCB rdIsi (dConsA (dVarO 0) (dConsA (dC (.ty "tuple")) dNilA))) (dCB rdIsi (dConsA (dVarO 1) (dConsA (dC (.ty "tuple")) dNilA))))) (dTst (dOp rdNe (dCB rdIsi (dConsA (dVarO 0) (dConsA (dC (.ty "list")) dNilA))) (dCB rdIsi (dConsA (dVarO 1) (dConsA (dC (.ty "list")) dNilA)))))) (dRet (dC (.bl false))) dNext) (dSeq (dIfS (dTst (dOp rdNe (dCB rdLen (dConsA (dVarO 0) dNilA)) (dCB rdLen (dConsA (dVarO 1) dNilA)))) (dRet (dC (.bl false))) dNext) (dSeq (dFor (dRng (dConsA (dCB rdLen (dConsA (dVarO 1) dNilA)) dNilA)) (gN 2) (dIfS (dNot (dTst (dCall S (dConsA (dOp rdIx (dVarO 0) (dVarO 2)) (dConsA (dOp rdIx (dVarO 1) (dVarO 2)) dNilA))))) (dRet (dC (.bl false))) dNext)) (dRet (dC (.bl true))))))))))))
theorem smA_at {S : SpecD} {n : Nat} (hS : ∀ ds Q, S_sameA n ds Q → S ds Q) {E : List Sl} {a b : Nat} {j : Nat} {x y : D} {d : D} {Q : D → Prop} (h0 : E[a]? = some (.sh x)) (h1 : E[b]? = some (.sh y)) (h2 : E[j]? = some (.sh d))
    (h : ∃ u v, (∀ Q, Q u → rdIx x d Q) ∧ (∀ Q, Q v → rdIx y d Q) ∧ smA n u v) (k : Q (.bl true)) : dCall S (dConsA (dOp rdIx (dVarO a) (dVarO j)) (dConsA (dOp rdIx (dVarO b) (dVarO j)) dNilA)) E Q := by
  obtain ⟨u, v, h3, h4, h5⟩ := h
  simp only [dCall, dConsA, dOp, dVarO, h0, h1, h2, dNilA]
  exact h3 _ (h4 _ (hS _ _ ⟨u, v, rfl, h5, k⟩))
theorem ixA_lst {n : Nat} {xs ys : List D} (hl : xs.length = ys.length) (h : ∀ (i : Nat) a b, xs[i]? = some a → ys[i]? = some b → smA n a b) {i : Nat} (hi : i < ys.length) :
    ∃ u v, (∀ Q, Q u → rdIx (.lst xs) (.int (i : Int)) Q) ∧ (∀ Q, Q v → rdIx (.lst ys) (.int (i : Int)) Q) ∧ smA n u v := by
  obtain ⟨a, b, ha, hb⟩ := get_both hl hi
  exact ⟨a, b, fun Q k => by simp only [rdIx, atD_nat, ha]; exact k, fun Q k => by simp only [rdIx, atD_nat, hb]; exact k, h i a b ha hb⟩
theorem ixA_tup {n : Nat} {xs ys : List D} (hl : xs.length = ys.length) (h : ∀ (i : Nat) a b, xs[i]? = some a → ys[i]? = some b → smA n a b) {i : Nat} (hi : i < ys.length) :
    ∃ u v, (∀ Q, Q u → rdIx (.tup xs) (.int (i : Int)) Q) ∧ (∀ Q, Q v → rdIx (.tup ys) (.int (i : Int)) Q) ∧ smA n u v := by
  obtain ⟨a, b, ha, hb⟩ := get_both hl hi
  exact ⟨a, b, fun Q k => by simp only [rdIx, atD_nat, ha]; exact k, fun Q k => by simp only [rdIx, atD_nat, hb]; exact k, h i a b ha hb⟩
theorem ixA_dic {n : Nat} {ks js : List Key} {xs ys : List D} {k : Key} (h : ∃ a b, lk ks xs k = some a ∧ lk js ys k = some b ∧ smA n a b) :
    ∃ u v, (∀ Q, Q u → rdIx (.dic ks xs) (keyD k) Q) ∧ (∀ Q, Q v → rdIx (.dic js ys) (keyD k) Q) ∧ smA n u v := by
  obtain ⟨a, b, ha, hb, hs⟩ := h
  exact ⟨a, b, fun Q k => by simp only [rdIx, keyOf_keyD, ha]; exact k, fun Q k => by simp only [rdIx, keyOf_keyD, hb]; exact k, hs⟩


theorem ixA_dct {n : Nat} {ks js : List (List Key)} {xs ys : List D} {k : List Key} (h : ∃ a b, lk ks xs k = some a ∧ lk js ys k = some b ∧ smA n a b) :
    ∃ u v, (∀ Q, Q u → rdIx (.dct ks xs) (keyTD k) Q) ∧ (∀ Q, Q v → rdIx (.dct js ys) (keyTD k) Q) ∧ smA n u v := by
  obtain ⟨a, b, ha, hb, hs⟩ := h
  exact ⟨a, b, fun Q k => by simp only [rdIx, keyT_keyTD, ha]; exact k, fun Q k => by simp only [rdIx, keyT_keyTD, hb]; exact k, hs⟩
theorem pure_same4 {S : SpecD} (n : Nat) (hS : ∀ ds Q, S_sameA n ds Q → S ds Q) : PureD (p_same4 S) (S_sameA (n + 1)) 4 2 := by
  rintro ds Q ⟨x, y, rfl, h, k⟩
  refine ⟨rfl, ?_⟩
  cases x <;> cases y <;> (first | exact h.elim | skip)
  · simpa [p_same4, dSeq, dIfS, dTst, dOp, dVarO, dC, rdIs, dRet, startN] using k
  · rename_i a b
    cases (h : a = b)
    cases a <;> simpa [p_same4, dSeq, dIfS, dTst, dOp, dVarO, dC, rdIs, dRet, startN, dNext] using k
  · rename_i a b
    cases (h : a = b)
    simpa [p_same4, dSeq, dIfS, dTst, dOp, dVarO, dC, rdIs, dRet, startN, dNext, dCB, dConsA, dNilA, rdIsi, isD, dAndV, dNotV, rdEq, okD, deq] using k
  · rename_i a b
    cases (h : a = b)
    simpa [p_same4, dSeq, dIfS, dTst, dOp, dVarO, dC, rdIs, dRet, startN, dNext, dCB, dConsA, dNilA, rdIsi, isD, dAndV, dNotV, rdEq, okD, deq] using k
  · rename_i xs ys
    obtain ⟨hl, hb, hs⟩ := h
    simp only [p_same4, dSeq, dIfS, dTst, dOp, dVarO, dC, rdIs, dRet, startN, dNext, dCB, dConsA, dNilA, rdIsi, isD, dOr, rdNe, okD, deq, dFor, rdLen, hl]
    simp [hl]
    refine ⟨rngB_len hb, forL_all (E0 := fun E => ∃ z w, E = [.sh (.tup xs), .sh (.tup ys), z, w]) _ _ ⟨_, _, rfl⟩ (fun d hd E N hE kN => ?_) (fun E _ => k)⟩
    obtain ⟨i, hi, rfl⟩ := mem_rangeD hd
    obtain ⟨z, w, rfl⟩ := hE
    simp only [gN, dIfS, dNot, dTst]
    refine smA_at hS (x := .tup xs) (y := .tup ys) (d := .int i) rfl rfl rfl (ixA_tup hl hs (by omega)) ?_
    exact kN _ ⟨_, _, rfl⟩
  · rename_i xs ys
    obtain ⟨hl, hb, hs⟩ := h
    simp only [p_same4, dSeq, dIfS, dTst, dOp, dVarO, dC, rdIs, dRet, startN, dNext, dCB, dConsA, dNilA, rdIsi, isD, dOr, rdNe, okD, deq, dFor, rdLen, hl]
    simp [hl]
    refine ⟨rngB_len hb, forL_all (E0 := fun E => ∃ z w, E = [.sh (.lst xs), .sh (.lst ys), z, w]) _ _ ⟨_, _, rfl⟩ (fun d hd E N hE kN => ?_) (fun E _ => k)⟩
    obtain ⟨i, hi, rfl⟩ := mem_rangeD hd
    obtain ⟨z, w, rfl⟩ := hE
    simp only [gN, dIfS, dNot, dTst]
    refine smA_at hS (x := .lst xs) (y := .lst ys) (d := .int i) rfl rfl rfl (ixA_lst hl hs (by omega)) ?_
    exact kN _ ⟨_, _, rfl⟩
  · rename_i ks xs js ys
    obtain ⟨hl, hb, hs⟩ := h
    simp only [p_same4, dSeq, dIfS, dTst, dOp, dVarO, dC, rdIs, dRet, startN, dNext, dCB, dConsA, dNilA, rdIsi, isD, dOr, rdNe, okD, deq, dFor, rdLen, hl, dNot, dKeysA]
    simp [hl]
    refine forL_all (E0 := fun E => ∃ z w, E = [.sh (.dic ks xs), .sh (.dic js ys), z, w]) _ _ ⟨_, _, rfl⟩ (fun d hd E N hE kN => ?_) (fun E _ => k)
    obtain ⟨kk, hk, rfl⟩ := List.mem_map.mp hd
    obtain ⟨z, w, rfl⟩ := hE
    obtain ⟨a, b, ha, _⟩ := hs kk hk
    simp only [gN, dIfS, dOr, dTst, dOp, dVarO, List.set, List.getElem?_cons_succ, List.getElem?_cons_zero, rdNotIn, keyOf_keyD, lk_has ha, Bool.not_true, Bool.false_eq_true, if_false, dNot]
    exact smA_at hS (x := .dic ks xs) (y := .dic js ys) (d := keyD kk) rfl rfl rfl (ixA_dic (hs kk hk)) (kN _ ⟨_, _, rfl⟩)
  · rename_i ks xs js ys
    obtain ⟨hl, hb, hs⟩ := h
    simp only [p_same4, dSeq, dIfS, dTst, dOp, dVarO, dC, rdIs, dRet, startN, dNext, dCB, dConsA, dNilA, rdIsi, isD, dOr, rdNe, okD, deq, dFor, rdLen, hl, dNot, dKeysA]
    simp [hl]
    refine forL_all (E0 := fun E => ∃ z w, E = [.sh (.dct ks xs), .sh (.dct js ys), z, w]) _ _ ⟨_, _, rfl⟩ (fun d hd E N hE kN => ?_) (fun E _ => k)
    obtain ⟨kk, hk, rfl⟩ := List.mem_map.mp hd
    obtain ⟨z, w, rfl⟩ := hE
    obtain ⟨a, b, ha, _⟩ := hs kk hk
    simp only [gN, dIfS, dOr, dTst, dOp, dVarO, List.set, List.getElem?_cons_succ, List.getElem?_cons_zero, rdNotIn, keyT_keyTD, lk_has ha, Bool.not_true, Bool.false_eq_true, if_false, dNot]
    exact smA_at hS (x := .dct ks xs) (y := .dct js ys) (d := keyTD kk) rfl rfl rfl (ixA_dct (hs kk hk)) (kN _ ⟨_, _, rfl⟩)
end DL

/-! DT6: {x: constant}, x a variable -/
namespace DL
open PySem PySem.Spec PyProof.Rows L2
section
variable {X : Cx} {pos : Pos}
def dDisp1 (i : Nat) (d : D) : DX := fun E Q => match E[i]? with
  | some (.sh kd) => match DL.keyOf kd with
    | some k => Q (.dic [k] [d])
    | none => False
  | _ => False
theorem f_disp1 (i : Nat) {x : Str} {xp : Pos} {v : Expr} {w : V} {d : D} (hv : CV X v w d) (hN : X.N[i]? = some x := by rfl) (hvis : Vis X.env.scope x := by first | exact Or.inl rfl | exact Or.inr (Or.inl rfl) | exact Or.inr (Or.inr rfl)) (hd : (x == ("__debug__" : Str)) = false := by decide)
    (hcd : (x == ("__classdict__" : Str)) = false := by decide) : QF X (.Dict [some (.Name x xp)] [v] pos) (dDisp1 i d) := by
  obtain ⟨⟨t2, p2, q2⟩, r2⟩ := hv
  refine ⟨_, pe_disp (pps_cons (L2.pv i hN hvis hd hcd) p2 pps_nil) rfl rfl (fun z => nomatch z) (by simp), fun pp HE Hb H σ E Q QD so er hp k => ?_⟩
  intro p hp'
  unfold dDisp1 at hp
  split at hp
  · rename_i kd ei
    split at hp
    · rename_i kk ek
      obtain ⟨v0, h1, h2⟩ := er.sh i _ ei
      have hv0 : v0 = kV kk := keyOf_rep so ek (.inl h2)
      subst hv0
      refine ⟨_, h1, q2 _ _ _ ⟨upd_same, [(kk, w)], rfl, by simp, ?_⟩⟩
      have e2 : upd (upd H p (.dK [])) p (.dK (mergeK [] [(kk, w)])) = upd H p (.dK [(kk, w)]) := by
        funext a
        unfold upd; split <;> rfl
      rw [e2]
      obtain ⟨s2, so2⟩ := lay_own (u := .dK [(kk, w)]) so hp'
      exact k p (.dic [kk] [d]) _ _ s2 so2 hp' ⟨so.nb hp', so.ne hp', ⟨[(kk, w)], upd_same, rfl, .cons (r2 _ _) .nil⟩⟩ hp
    · exact hp.elim
  · exact hp.elim
end
end DL

/-! DT7: xs.append(ys.pop(e)), xs and ys own lists -/
namespace DL
open PySem PySem.Spec PyProof.Rows L2
section
variable {X : Cx} {e : Expr} {pe : DX} {pos : Pos}
def dAppPop (i j : Nat) (pe : DX) : DS := fun DD E => match E[i]? with
  | some (.ow (.lst ds)) => match E[j]? with
    | some (.ow (.lst bs)) => pe E fun d => match d with
      | .int k => 0 ≤ k ∧ ∃ b, bs[k.toNat]? = some b ∧ bs.length < 1000000 ∧ ds.length < sizeLine ∧ DD.nx ((E.set j (.ow (.lst (bs.eraseIdx k.toNat)))).set i (.ow (.lst (ds ++ [b]))))
      | _ => False
    | _ => False
  | _ => False
theorem s_appPop (i j : Nat) {x y : Str} {xp apos cpos yp bpos dpos : Pos} (hij : i ≠ j) (he : QE X e pe) (hN : X.N[i]? = some x := by rfl) (hv : Vis X.env.scope x := by first | exact Or.inl rfl | exact Or.inr (Or.inl rfl) | exact Or.inr (Or.inr rfl)) (hd : (x == ("__debug__" : Str)) = false := by decide)
    (hcd : (x == ("__classdict__" : Str)) = false := by decide)
    (hN' : X.N[j]? = some y := by rfl) (hv' : Vis X.env.scope y := by first | exact Or.inl rfl | exact Or.inr (Or.inl rfl) | exact Or.inr (Or.inr rfl)) (hd' : (y == ("__debug__" : Str)) = false := by decide)
    (hcd' : (y == ("__classdict__" : Str)) = false := by decide)
    (h1 : attributeBase (.Name x xp) "append" X.env (eval (.Name x xp) X.env) = eval (.Name x xp) X.env := by rfl)
    (h2 : ((backTo cpos (starEach [.Call (.Attribute (.Name y yp) "pop" bpos) [e] [] dpos] X.env)).all (fun x => !x.1) && (backToKw cpos (keywordEach [] X.env)).all (fun x => x.1.isSome) && decide (([.Call (.Attribute (.Name y yp) "pop" bpos) [e] [] dpos] : List Expr).length + ([] : List Keyword).length + (if ([] : List Keyword).isEmpty then 0 else 1) < 30)) = true := by rfl)
    (h3 : (apos.endLine == cpos.line) = true := by rfl) (h4 : starEach [.Call (.Attribute (.Name y yp) "pop" bpos) [e] [] dpos] X.env = (false, eval (.Call (.Attribute (.Name y yp) "pop" bpos) [e] [] dpos) X.env) :: starEach [] X.env := by rfl) (h5 : (backTo cpos (starEach [] X.env)).any (·.1) = false := by rfl)
    (g1 : attributeBase (.Name y yp) "pop" X.env (eval (.Name y yp) X.env) = eval (.Name y yp) X.env := by rfl)
    (g2 : ((backTo dpos (starEach [e] X.env)).all (fun x => !x.1) && (backToKw dpos (keywordEach [] X.env)).all (fun x => x.1.isSome) && decide (([e] : List Expr).length + ([] : List Keyword).length + (if ([] : List Keyword).isEmpty then 0 else 1) < 30)) = true := by rfl)
    (g3 : (bpos.endLine == dpos.line) = true := by rfl) (g4 : starEach [e] X.env = (false, eval e X.env) :: starEach [] X.env := by rfl) (g5 : (backTo dpos (starEach [] X.env)).any (·.1) = false := by rfl)
    (hs : swapsWith (.Call (.Attribute (.Name x xp) "append" apos) [.Call (.Attribute (.Name y yp) "pop" bpos) [e] [] dpos] [] cpos) none pos.line X.env = pure false := by rfl) :
    QS X (.Expr (.Call (.Attribute (.Name x xp) "append" apos) [.Call (.Attribute (.Name y yp) "pop" bpos) [e] [] dpos] [] cpos) pos) (dAppPop i j pe) := by
  obtain ⟨t, t1, t2⟩ := he
  have pp1 := pe_bm PySem.F.plainAttrs_list PySem.F.slot_list_pop PySem.F.type_list_pop mt_popAt (pv j hN' hv' hd' hcd') (pa_cons t1 pa_nil g4) g1 g2 g3 g4 g5
  refine ⟨_, ps_expr (pe_bm PySem.F.plainAttrs_list PySem.F.slot_list_append PySem.F.type_list_append mt_append (pv i hN hv hd hcd) (pa_cons pp1 pa_nil h4) h1 h2 h3 h4 h5) hs, fun pp HbE HE Hb H σ E Dn DD s so er h o => ?_⟩
  unfold dAppPop at h
  split at h
  · rename_i ds ei
    split at h
    · rename_i bs ej
      obtain ⟨p, q1, q2, q3⟩ := er.ow i _ ei
      obtain ⟨xs, hx, hr⟩ := q3.top
      obtain ⟨p', q1', q2', q3'⟩ := er.ow j _ ej
      obtain ⟨ys, hy, hr'⟩ := q3'.top
      refine ⟨_, q1, .inl ⟨rfl, xs, .of hx⟩, ?_⟩
      refine ⟨_, q1', .inl ⟨rfl, ys, .of hy⟩, ?_⟩
      refine t2 pp HE Hb H σ E _ _ so er h fun v d Hb1 H1 s1 so1 r1 z1 => ?_
      split at z1
      · rename_i k
        obtain ⟨k0, b, hb, hl, hds, z⟩ := z1
        have er1 := er.step s1
        have hy1 : H1 p' = some (.lst ys) := s1.ex p' _ q3'.ne hy
        have hx1 : H1 p = some (.lst xs) := s1.ex p _ q3.ne hx
        unfold Rep at r1
        subst r1
        obtain ⟨w, hw1, hw2⟩ := (hr'.le s1.le).get hb
        have hlen : ys.length = bs.length := hr'.length
        obtain ⟨n, rfl⟩ : ∃ n : Nat, k = (n : Int) := ⟨k.toNat, by omega⟩
        rw [Int.toNat_natCast] at hb hw1 z
        have hn : n < ys.length := by
          obtain ⟨hh, _⟩ := List.getElem?_eq_some_iff.mp hw1
          exact hh
        refine ⟨p', ys, (n : Int), n, w, rfl, rfl, hy1, by omega, by omega, seqIndex_of (by omega) (by omega), hw1, ?_⟩
        obtain ⟨m1, m2, m3⟩ := mut_ok (u := .lst (ys.eraseIdx n)) (d' := .lst (bs.eraseIdx n)) (s.trans s1) so1 er1 ej q1' ⟨_, upd_same, repL_erase n (hr'.le s1.le)⟩
        have ei2 : (E.set j (.ow (.lst (bs.eraseIdx n))))[i]? = some (.ow (.lst ds)) := by rw [List.getElem?_set_ne (fun z => hij z.symm)]; exact ei
        obtain ⟨p2, u1, u2, u3⟩ := m3.ow i _ ei2
        rw [q1] at u1
        cases u1
        obtain ⟨xs2, hx2, hr2⟩ := u3.top
        refine ⟨p, xs2, w, rfl, rfl, hx2, by rw [hr2.length]; exact hds, ?_⟩
        obtain ⟨n1, n2, n3⟩ := mut_ok (u := .lst (xs2 ++ [w])) (d' := .lst (ds ++ [b])) m1 m2 m3 ei2 q1 ⟨_, upd_same, hr2.app (.cons hw2 .nil)⟩
        exact o.nx Hb1 _ σ _ n1 n2 n3 z
      · exact z1.elim
    · exact h.elim
  · exact h.elim
end
end DL

/-! DT8: texts: x[i], x[a:b] -/
namespace DL
open PySem PySem.Spec PyProof.Rows L2
def rdIxT : RD := fun x y Q => match x with
  | .str z => match y with
    | .int i => z.length ≤ sizeLine ∧ match atI z.cps.toList i with
      | some c => Q (.str ⟨#[c]⟩)
      | none => False
    | _ => False
  | _ => False
section
variable {X : Cx} {pp : Addr} {Hb H : Hp} {e : Expr} {pe : DX} {pos : Pos}
theorem ixdT : IXD X rdIxT := by
  refine ⟨_, ix_str, fun pp Hb H x y dx dy Q QD so rx ry h k => ?_⟩
  cases dx <;> first | exact h.elim | skip
  cases dy <;> first | exact h.elim | skip
  obtain ⟨h1, h2⟩ := h
  split at h2
  · rename_i c ec
    exact ⟨_, _, c, rx.str so, ry.int so, h1, ec, k _ _ Hb H .refl so rep_str h2⟩
  · exact h2.elim
def dSlT (pe : DX) (pl ph : DO) : DX := fun E Q => pe E fun d => pl E fun lo => ph E fun hi => match d with
  | .str z => z.length ≤ sizeLine ∧ Q (.str (cutS z lo hi))
  | _ => False
theorem q_sliceT {lo hi : Option Expr} {pl ph : DO} {p2 : Pos} (he : QO X e pe) (hl : QP X lo pl) (hh : QP X hi ph) : QE X (.Subscript e (.Slice lo hi none p2) pos) (dSlT pe pl ph) := by
  obtain ⟨t, t1, t2⟩ := he
  obtain ⟨u, u1, u2⟩ := hl
  obtain ⟨w, w1, w2⟩ := hh
  refine ⟨_, pe_slice sl_str t1 u1 w1, fun pp HE Hb H σ E Q QD so er hp k => ?_⟩
  refine t2 pp HE Hb H σ E _ _ so er hp fun v d Hb1 H1 s1 so1 r1 q1 => ?_
  refine u2 pp HE Hb1 H1 σ E _ _ so1 (er.step s1) q1 fun o1 Hb2 H2 s2 so2 q2 => ?_
  refine w2 pp HE Hb2 H2 σ E _ _ so2 (er.step (s1.trans s2)) q2 fun o2 Hb3 H3 s3 so3 q3 => ?_
  have r3 := r1.step (s2.trans s3)
  have s123 := (s1.trans s2).trans s3
  split at q3
  · exact ⟨_, r3.str so3, q3.1, k _ _ Hb3 H3 s123 so3 rep_str q3.2⟩
  · exact q3.elim
end
end DL

/-! DT9: == and != of two dicts whose values are plain -/
namespace L2
open PySem PySem.Spec PyProof.Rows
inductive HitsV (K : PySem.W.Frag) (H : Hp) (ls : List (Key × V)) : List (Key × V) → Bool → Prop
  | nil : HitsV K H ls [] true
  | miss {p : Key × V} {r : List (Key × V)} : valV ls p.1 = none → HitsV K H ls (p :: r) false
  | hit {p : Key × V} {r : List (Key × V)} {u : V} {d e : PyData} {b : Bool} : valV ls p.1 = some u → Dp K H p.2 d → Dp K H u e → d.plain = true → e.plain = true → d.depth ≤ 60 → HitsV K H ls r b → HitsV K H ls (p :: r) (PyData.eqv d e && b)
section
variable {X : Cx} {pins : List (Addr × Obj)} {σ : St} {H : Hp} {s : Shared}
theorem hitsV_run (I : Inv X pins σ H s) {A : Around} (hu : A.units + 61 < cLine) {ls : List (Key × V)} {vb : List (Key × Value)} (rb : KV ls vb) : ∀ {ks : List (Key × V)} {r : Bool}, HitsV X.K H ls ks r → ∀ {va : List (Key × Value)}, KV ks va → PySem.W.KeqHitsP X.prog X.w A s vb va r := by
  intro ks r h
  induction h with
  | nil =>
    intro va ra
    cases ra
    exact .nil
  | @miss p r hn =>
    intro va ra
    obtain ⟨q, qs, rfl, ⟨h1, _⟩, _⟩ : ∃ q qs, va = q :: qs ∧ (p.1 = q.1 ∧ RelV p.2 q.2) ∧ KV r qs := by
      cases ra with
      | cons h t => exact ⟨_, _, rfl, h, t⟩
    have rr : RelO none (valueAt vb p.1) := by rw [← hn]; exact rb.val p.1
    have := rr.none_of
    obtain ⟨key, v⟩ := q
    have h1 : p.1 = key := h1
    rw [h1] at this
    exact .miss this
  | @hit p r u d e b hu' hd he pd pe dd _ ih =>
    intro va ra
    obtain ⟨q, qs, rfl, ⟨h1, h2⟩, t⟩ : ∃ q qs, va = q :: qs ∧ (p.1 = q.1 ∧ RelV p.2 q.2) ∧ KV r qs := by
      cases ra with
      | cons h t => exact ⟨_, _, rfl, h, t⟩
    have rr : RelO (some u) (valueAt vb p.1) := by rw [← hu']; exact rb.val p.1
    obtain ⟨y, hy, ry⟩ := rr.some_of
    obtain ⟨key, v⟩ := q
    have h1 : p.1 = key := h1
    rw [h1] at hy
    obtain ⟨as, r1⟩ := Dp.reads I d p.2 v hd h2
    obtain ⟨bs, r2⟩ := Dp.reads I e u y he ry
    exact .hit hy (SeqAt.eqAt_plain d e A s v y as bs r1 r2 pd pe (by omega)).eqP (ih t)
theorem eqDD_run (I : Inv X pins σ H s) {A : Around} (hu : A.units + 62 < cLine) {a b : Addr} {ks ls : List (Key × V)} {r : Bool} (ha : Rd H a (.dK ks)) (hb : Rd H b (.dK ls)) (h : HitsV X.K H ls ks r) (E Q : Value → Shared → Prop) :
    (Q (.bool (ks.length == ls.length && r)) s → wpAny (model X.prog X.w) A (richCompare .Eq (.ref a) (.ref b)) Q E s) ∧ (Q (.bool (!(ks.length == ls.length && r))) s → wpAny (model X.prog X.w) A (richCompare .NotEq (.ref a) (.ref b)) Q E s) := by
  obtain ⟨_, ya, va, ra, da⟩ := (show ObjOk X.prog X.w H s.heap a (.dK ks) from ha.ok I.hok)
  obtain ⟨_, yb, vb, rb, db⟩ := (show ObjOk X.prog X.w H s.heap b (.dK ls) from hb.ok I.hok)
  have e1 : ks.length = va.length := ra.length
  have e2 : ls.length = vb.length := rb.length
  rw [e1, e2]
  have hits := hitsV_run I (A := A.in1) (by show A.units + 1 + 61 < cLine; omega) rb h ra
  exact ⟨fun q => PySem.W.rcP_dicts (knd := mixKind X.prog X.w) (r := r) ya yb da db (by omega) (fun _ => hits) E Q q,
    fun q => PySem.W.rcNP_dicts (knd := mixKind X.prog X.w) (r := r) ya yb da db (by omega) (fun _ => hits) E Q q⟩
end
section
variable {X : Cx}
def EqDD (K : PySem.W.Frag) (H : Hp) (x y : V) (c : Bool) : Prop := ∃ a b ks ls r, x = .ref a ∧ y = .ref b ∧ Rd H a (.dK ks) ∧ Rd H b (.dK ls) ∧ HitsV K H ls ks r ∧ c = (ks.length == ls.length && r)
theorem op_eqDD (hu : X.A.units + 100 < cLine) : OpR X (compareOp .Eq) (fun x y H Q => ∃ c, EqDD X.K H x y c ∧ Q (.bl c) H) := by
  intro pins s σ H x y v u Q I rx ry h
  obtain ⟨c, ⟨a, b, ks, ls, r, rfl, rfl, ha, hb, hh, rfl⟩, q⟩ := h
  cases (show v = Value.ref a from rx)
  cases (show u = Value.ref b from ry)
  exact (eqDD_run I (A := X.A) (by omega) ha hb hh _ _).1 ⟨.bl _, H, I, rfl, q⟩
theorem op_neDD (hu : X.A.units + 100 < cLine) : OpR X (compareOp .NotEq) (fun x y H Q => ∃ c, EqDD X.K H x y c ∧ Q (.bl (!c)) H) := by
  intro pins s σ H x y v u Q I rx ry h
  obtain ⟨c, ⟨a, b, ks, ls, r, rfl, rfl, ha, hb, hh, rfl⟩, q⟩ := h
  cases (show v = Value.ref a from rx)
  cases (show u = Value.ref b from ry)
  exact (eqDD_run I (A := X.A) (by omega) ha hb hh _ _).2 ⟨.bl _, H, I, rfl, q⟩
end
end L2
namespace DL
open PySem PySem.Spec PyProof.Rows L2
/-- the values of the first are the second's -/
def deqK (js : List Key) (ys : List D) : List Key → List D → Bool
  | k :: ks, x :: xs => match lk js ys k with
    | some y => deq x y && deqK js ys ks xs
    | none => false
  | _, _ => true
def deqD (ks : List Key) (xs : List D) (js : List Key) (ys : List D) : Bool := ks.length == js.length && deqK js ys ks xs
def rdEqD : RD := fun x y Q => match x, y with
  | .dic ks xs, .dic js ys => (∀ d ∈ xs, okD 50 d = true) ∧ (∀ d ∈ ys, okD 50 d = true) ∧ Q (.bl (deqD ks xs js ys))
  | _, _ => False
def rdNeD : RD := fun x y Q => match x, y with
  | .dic ks xs, .dic js ys => (∀ d ∈ xs, okD 50 d = true) ∧ (∀ d ∈ ys, okD 50 d = true) ∧ Q (.bl (!deqD ks xs js ys))
  | _, _ => False
section
variable {pp : Addr} {K : FK} {Hb H : Hp}
theorem lk_in {κ : Type} [DecidableEq κ] {k : κ} : ∀ {ks : List κ} {ds : List D} {d : D}, lk ks ds k = some d → d ∈ ds
  | k' :: ks, x :: ds, d, h => by
    unfold lk at h
    split at h
    · cases h; simp
    · exact List.mem_cons_of_mem _ (lk_in h)
  | [], _, _, h => by simp [lk] at h
  | _ :: _, [], _, h => by simp [lk] at h
theorem hits_of {js : List Key} {ys : List D} {ls : List (Key × V)} (e2 : ls.map (·.1) = js) (r2 : RepL pp K Hb ys (ls.map (·.2))) (le : Le Hb H) (oy : ∀ d ∈ ys, okD 50 d = true) : ∀ {ws : List (Key × V)} {ks : List Key} {xs : List D}, ws.map (·.1) = ks → RepL pp K Hb xs (ws.map (·.2)) → (∀ d ∈ xs, okD 50 d = true) →
    HitsV K H ls ws (deqK js ys ks xs)
  | [], ks, xs, e, r, _ => by
    subst e
    have : xs = [] := by
      cases xs with
      | nil => rfl
      | cons x xs => obtain ⟨v, w, z, _, _⟩ := r.uncons; simp at z
    subst this
    exact .nil
  | p :: ws, ks, [], e, r, _ => by
    have := r.unnil
    simp at this
  | p :: ws, ks, x :: xs, e, r, ox => by
    subst e
    obtain ⟨v, w, z, rv, rw'⟩ := r.uncons
    simp only [List.map_cons, List.cons.injEq] at z
    obtain ⟨z1, z2⟩ := z
    subst z1; subst z2
    have ih := hits_of e2 r2 le oy (ws := ws) (ks := ws.map (·.1)) rfl rw' fun d hd => ox d (by simp [hd])
    rw [List.map_cons]
    unfold deqK
    subst e2
    cases hk : lk (ls.map (·.1)) ys p.1 with
    | none => exact .miss ((lk_val r2).2 hk)
    | some y =>
      obtain ⟨u, hu, ru⟩ := (lk_val r2).1 y hk
      have h1 := ox x (by simp)
      have h2 := oy y (lk_in hk)
      have p1 := pd_plain _ _ h1
      have p2 := pd_plain _ _ h2
      show HitsV K H ls (p :: ws) (deq x y && _)
      rw [← pd_eqv _ _ _ _ h1 h2]
      exact .hit hu (rep_dp 50 x _ h1 (rv.le le)) (rep_dp 50 y u h2 (ru.le le)) p1.1 p2.1 (by have := p1.2; omega) ih
theorem eqDD_of (so : SOk pp K Hb H) {ks js : List Key} {xs ys : List D} {v u : V} (rx : RepT pp K Hb H (.dic ks xs) v) (ry : RepT pp K Hb H (.dic js ys) u) (ox : ∀ d ∈ xs, okD 50 d = true) (oy : ∀ d ∈ ys, okD 50 d = true) : EqDD K H v u (deqD ks xs js ys) := by
  obtain ⟨a, ws, rfl, h1, k1, q1⟩ := rx.dic so
  obtain ⟨b, ls, rfl, h2, k2, q2⟩ := ry.dic so
  refine ⟨a, b, ws, ls, _, rfl, rfl, h1, h2, hits_of k2 q2 so.hle oy k1 q1 ox, ?_⟩
  subst k1 k2
  unfold deqD
  rw [List.length_map, List.length_map]
end
section
variable {X : Cx}
theorem od_eqD {k : Nat} (hr : Room k X.A) : OD X (compareOp .Eq) rdEqD := by
  refine ⟨_, op_eqDD (by have := hr.un; omega), fun pp Hb H x y dx dy Q QD so rx ry h k => ?_⟩
  cases dx <;> first | exact h.elim | skip
  cases dy <;> first | exact h.elim | skip
  exact ⟨_, eqDD_of so rx ry h.1 h.2.1, k _ _ Hb H .refl so rep_bl h.2.2⟩
theorem od_neD {k : Nat} (hr : Room k X.A) : OD X (compareOp .NotEq) rdNeD := by
  refine ⟨_, op_neDD (by have := hr.un; omega), fun pp Hb H x y dx dy Q QD so rx ry h k => ?_⟩
  cases dx <;> first | exact h.elim | skip
  cases dy <;> first | exact h.elim | skip
  exact ⟨_, eqDD_of so rx ry h.1 h.2.1, k _ _ Hb H .refl so rep_bl h.2.2⟩
end
end DL

/-! DT10: {k: v}, k a tuple -/
namespace L2
open PySem PySem.Spec PyProof.Rows
section
variable {X : Cx} {k v : Expr} {tk tv : TE} {pos : Pos}
/-- what stands when the pair is made -/
def dispEnd (p : Addr) (Q : VK) (x y : V) (H2 : Hp) : Prop := H2 p = some (.dT []) ∧ ∃ (b : Addr) (key : List Key), x = .ref b ∧ H2 b = some (.tup (key.map kV)) ∧ Q (.ref p) (upd H2 p (.dT (putK [] key y)))
def tDispT (tk tv : TE) : TE := fun σ H Q => ∀ p, H p = none → tk σ (upd H p (.dT [])) fun x H1 => tv σ H1 fun y H2 => dispEnd p Q x y H2
def onePair (R : V → V → Hp → Prop) : List (V × V) → Hp → Prop
  | [(x, y)], H2 => R x y H2
  | _, _ => False
theorem pe_disp1T (hu : X.A.units + 1 < cLine) (hk : PE X k tk) (hv : PE X v tv) : PE X (.Dict [some k] [v] pos) (tDispT tk tv) := by
  refine ⟨fun pins s σ H Q I q => ?_⟩
  have hn := I.hok.fresh (Nat.le_refl s.heap.objs.size)
  have I1 := I.laid (a := s.heap.objs.size) (o := .dT []) (h' := s.heap.push { cls := .type "dict", data := .dict #[] }) (t' := s.toks) (fun _ _ q => Heap.get?_push_of_some _ q) (Nat.le_refl _) (dt_empty s.heap I.big)
  have hp := (pps_cons (pos := pos) hk hv pps_nil).run pins _ σ _ (onePair (dispEnd s.heap.objs.size Q)) I1 (q _ hn)
  have hsh := zip_pairTrees [some k] [v] X.env pos rfl rfl
  have hl := pairTrees_length [some k] [v] X.env pos rfl rfl
  generalize pairTrees [some k] [v] X.env pos = pairs at hp hsh hl
  have h1 : pairs.length = 1 := hl
  rw [arm_eval_Dict, hsh, dictDisplay_pairs pairs (fun z => by rw [z] at h1; cases h1) (by omega)]
  refine wpAny_bind (wpAny_standAt (wpAny_bind ?_))
  unfold subDict
  refine wpAny_bind (wpAny_alloc ?_)
  refine wpAny_bind (wpAny_holding ?_)
  rw [if_pos (by omega)]
  refine wpAny_bind (wpAny_mono hp (fun vs s1 h => ?_) fun _ _ e => e)
  obtain ⟨ps, H2, I2, rel, d2⟩ := h
  match ps, d2, rel with
  | [(x, y)], d2, rel =>
    obtain ⟨e, b, key, rfl, eb, q2⟩ := d2
    obtain ⟨kv, vv, rfl, rk, rv⟩ : ∃ kv vv, vs = [(kv, vv)] ∧ RelV (.ref b) kv ∧ RelV y vv := by
      cases rel with
      | cons h t => cases t; exact ⟨_, _, rfl, h.1, h.2⟩
    cases (show kv = Value.ref b from rk)
    obtain ⟨z, hd, xs, rel2, dd⟩ := dt_of I2.hok e
    have hx : xs = [] := by cases rel2; rfl
    subst hx
    have hz : ([] : List (List Key × Addr × Value)).length ≤ sizeLine := Nat.zero_le _
    refine wpAny_holding ?_
    rw [List.forIn_cons]
    refine wpAny_bind (wpAny_bind (wpAny_bind (wpAny_dictSet_heap (hsz := hz) (knd := tupleKind (mixKind X.prog X.w)) ?hroom (key_of I2.hok eb) dd fun h' dd' hs => wpAny_pure ?_)))
    case hroom => show X.A.units < cLine; omega
    dsimp only
    rw [List.forIn_nil]
    refine wpAny_pure (wpAny_pure (wpAny_pure (wpAny_pure ?_)))
    obtain ⟨q', es, ep, hq, h2, h3, h4, _, h5⟩ := dd'
    have hput : (putK ([] : List (List Key × V)) key y).length ≤ sizeLine := by
      have := length_putK ([] : List (List Key × V)) key y
      rw [sizeLine_eq]
      rw [List.length_nil] at this
      omega
    refine ⟨.ref s.heap.objs.size, _, d_write (ob := .dT (putK [] key y)) I2 (by rw [e]; exact True.intro) hs ⟨q', hq⟩ ⟨hput, hd, _, (rel2.put key eb rv).keeps fun c ys ec => ?_, q', es, ep, hq, h2, h3, h4, h5⟩, rfl, q2⟩
    rw [upd_ne (ne_of ec e (fun z => nomatch z))]
    exact ec
end
end L2
namespace DL
open PySem PySem.Spec PyProof.Rows L2
section
variable {X : Cx} {pos : Pos}
/-- a new object of one's own is written -/
theorem wr_new {pp : Addr} {K : FK} {Hb H Hb2 H2 : Hp} {p : Addr} {u : HO} (so : SOk pp K Hb H) (hp : H p = none) (s : Step pp Hb (upd H p (.dT [])) Hb2 H2) (so2 : SOk pp K Hb2 H2) (hb : Hb2 p = none) (hu : ∀ xs, u ≠ .tup xs) (s0 : Step pp Hb H Hb (upd H p (.dT []))) : Step pp Hb H Hb2 (upd H2 p u) ∧ SOk pp K Hb2 (upd H2 p u) := by
  have hne := so.ne hp
  have st := s0.trans s
  refine ⟨⟨st.sb, fun b o hb' h => ?_, fun b h => ?_, fun b h1 h2 => ?_⟩, ⟨fun b o h => ?_, so2.np, ?_, fun b xs h => ?_⟩⟩
  · rw [upd_ne (fun z => by subst z; rw [hp] at h; cases h)]; exact st.ex b o hb' h
  · by_cases z : b = p
    · subst z; rw [upd_same]; exact fun y => nomatch y
    · rw [upd_ne z]; exact st.st b h
  · exact st.nw b h1 h2
  · rw [upd_ne (fun z => by subst z; rw [hb] at h; cases h)]; exact so2.le b o h
  · obtain ⟨a, ns, i, n, k, g1, g2⟩ := so2.pool
    exact ⟨a, ns, i, n, k, by rw [upd_ne (Ne.symm hne)]; exact g1, g2⟩
  · by_cases z : b = p
    · subst z; rw [upd_same] at h; exact (hu xs (Option.some.inj h)).elim
    · rw [upd_ne z] at h; exact so2.tp b xs h
def dDispT (pk pv : DX) : DX := fun E Q => pk E fun kd => pv E fun d => match keyT kd with
  | some k => Q (.dct [k] [d])
  | none => False
theorem f_dispT {k v : Expr} {pk pv : DX} (hu : X.A.units + 1 < cLine) (hk : QE X k pk) (hv : QE X v pv) : QF X (.Dict [some k] [v] pos) (dDispT pk pv) := by
  obtain ⟨t, t1, t2⟩ := hk
  obtain ⟨u, u1, u2⟩ := hv
  refine ⟨_, pe_disp1T hu t1 u1, fun pp HE Hb H σ E Q QD so er hp kk => ?_⟩
  intro p hp'
  obtain ⟨s0, so0⟩ := lay_own (u := .dT []) so hp'
  refine t2 pp HE Hb _ σ E _ _ so0 (er.step s0) hp fun kv kd Hb1 H1 s1 so1 r1 q1 => ?_
  refine u2 pp HE Hb1 H1 σ E _ _ so1 ((er.step s0).step s1) q1 fun vv d Hb2 H2 s2 so2 r2 q2 => ?_
  have s12 := s1.trans s2
  have hne := so.ne hp'
  split at q2
  · rename_i key ek
    obtain ⟨b, rfl, hb⟩ := keyT_rep so2 ek (.inl (r1.le s2.le))
    have hb2 : Hb2 p = none := s12.nw p (so.nb hp') (by rw [upd_same]; exact fun y => nomatch y)
    obtain ⟨w1, w2⟩ := wr_new (u := .dT (putK [] key vv)) so hp' s12 so2 hb2 (fun xs z => nomatch z) s0
    refine ⟨s12.ex p _ hne upd_same, b, key, rfl, hb, ?_⟩
    exact kk p (.dct [key] [d]) _ _ w1 w2 hp' ⟨hb2, hne, ⟨putK [] key vv, upd_same, rfl, .cons r2 .nil⟩⟩ q2
  · exact q2.elim
end
end DL

/-! DT11: range(a, b, c) -/
namespace DL
open PySem PySem.Spec PyProof.Rows L2
def rangeC (lo c : Int) (n : Nat) : List D := (List.range n).map fun i => .int (lo + (i : Nat) * c)
theorem walk_rangeC {pp : Addr} {K : FK} {Hb : Hp} (lo c : Int) (n : Nat) : WalkJ pp K Hb (Itc lo c n) (rangeC lo c n) := by
  intro Hb1 H1 sm so i
  have hl : (rangeC lo c n).length = n := by simp [rangeC]
  refine ⟨fun d ed => ?_, fun e => by rw [e, hl]; exact Nat.le_refl _⟩
  have hi : i < n := by rw [← hl]; exact (List.getElem?_eq_some_iff.mp ed).1
  refine ⟨hi, fun x H2 y => ?_⟩
  obtain ⟨e2, rfl⟩ := y
  subst e2
  have e3 : d = .int (lo + (i : Nat) * c) := by
    simp [rangeC, hi] at ed
    exact ed.symm
  subst e3
  exact ⟨Hb1, .refl, so, rep_int⟩
def dRng3 (p : DAs) : DI := fun E Q => p E fun ds => match ds with
  | [.int i, .int j, .int c] => ∃ n, RgC i j c n ∧ Q (rangeC i c n)
  | _ => False
section
variable {X : Cx} {tg a b c : Expr} {pas : DAs}
theorem i_range3 {p pos : Pos} (hg : Gl X "range") (hm : X.mg "range" = none) (ha : QA X [a, b, c] pas) (hs : starEach [a, b, c] X.env = (false, eval a X.env) :: starEach [b, c] X.env := by rfl) (hpl : (backTo pos (starEach [b, c] X.env)).any (·.1) = false := by rfl) : QI X tg (.Call (.Name "range" p) [a, b, c] [] pos) (dRng3 pas) := by
  obtain ⟨t, h1, h2⟩ := ha
  refine ⟨_, pi_range3 hg hm h1 hs hpl, fun pp HE Hb H σ E R QD so er hp k => ?_⟩
  refine h2 pp HE Hb H σ E _ _ so er hp fun vs ds Hb1 H1 s1 so1 r1 l1 q1 => ?_
  split at q1
  · obtain ⟨v, w, rfl, r2, r3⟩ := r1.uncons
    obtain ⟨v', w', rfl, r4, r5⟩ := r3.uncons
    obtain ⟨v2, w2, rfl, r6, r7⟩ := r5.uncons
    rw [r7.unnil]
    unfold Rep at r2 r4 r6
    obtain ⟨n, hn, q⟩ := q1
    exact ⟨_, _, _, n, by rw [r2, r4, r6], hn, k _ _ Hb1 H1 s1 so1 (walk_rangeC _ _ _) q⟩
  · exact q1.elim
end
/-- n, n - 1, .., 1 -/
theorem rgC_down {n : Nat} (h : n ≤ 100000) : RgC (n : Nat) 0 (-1) n := by
  have := RgC.neg (i := (n : Nat)) (j := 0) (by omega) (by omega) (by omega) (by omega)
  rw [show ((n : Int) - 0).toNat = n by omega] at this
  exact this
end DL

namespace K10
open PySem PySem.Spec PyProof.Rows L2 DL
structure Cp where
  nm : Str
  pt : Rat
  of : Rat
structure CpOk (c : Cp) : Prop where
  p0 : 0 < c.pt
  p1 : c.pt ≤ 1
  o0 : 0 ≤ c.of
  ne : ¬ (c.pt = 1 ∧ c.of = 0)
  pb : bz c.pt ≤ 12
  ob : bz c.of ≤ 20
def cp0 : Cp := ⟨Str.ofString "", 0, 0⟩
def good (a b : Cp) : Prop := a.of * (1 - b.pt) ≤ b.of * (1 - a.pt)
instance (a b : Cp) : Decidable (good a b) := inferInstanceAs (Decidable (_ ≤ _))
def gdB : List Cp → Bool
  | a :: b :: r => decide (good a b) && gdB (b :: r)
  | _ => true
def offF (f : Rat) : List Cp → Rat
  | [] => f
  | c :: r => offF (f * c.pt + c.of) r
def prodF (p : Rat) : List Cp → Rat
  | [] => p
  | c :: r => prodF (p * c.pt) r
def mk (c : Cp) (x : Rat) : Rat := if c.pt * x - c.of < 0 then 0 else c.pt * x - c.of
def runF (x : Rat) : List Cp → Rat
  | [] => x
  | c :: r => runF (mk c x) r
def place (c : Cp) : List Cp → Nat
  | [] => 0
  | x :: l => if good c x then 0 else place c l + 1
def ins (c : Cp) (l : List Cp) : List Cp := l.take (place c l) ++ [c] ++ l.drop (place c l)
def insAll (acc : List Cp) : List Cp → List Cp
  | [] => acc
  | c :: r => insAll (ins c acc) r
def extN (n : Nat) (row : List Nat) : List (List Nat) := ((List.range n).filter fun k => decide (k ∉ row)).map fun k => row ++ [k]
def permsN (n : Nat) : Nat → List (List Nat)
  | 0 => [[]]
  | t + 1 => (permsN n t).flatMap (extN n)
def rowsOf (l : List Cp) : List (List Cp) := (permsN l.length l.length).map fun p => p.map fun k => l.getD k cp0
/-! the values as trees -/
def cpD (c : Cp) : D := .tup [.str c.nm, qD c.pt, qD c.of]
def csD (l : List Cp) : D := .lst (l.map cpD)
def nmD (l : List Cp) : D := .lst (l.map fun c => D.str c.nm)
def strL (l : List Str) : D := .lst (l.map D.str)
structure Cps (l : List Cp) : Prop where
  ok : ∀ c ∈ l, CpOk c
  nd : (l.map Cp.nm).Nodup
  le : l.length ≤ 5
def S_by_name : SpecD := fun ds Q => ∃ l, ds = [csD l] ∧ Cps l ∧ Q (.dic (l.map fun c => .inr c.nm) (l.map cpD))
/-- the order is that of the coupons r -/
structure Ord (l r : List Cp) : Prop where
  sub : ∀ c ∈ r, c ∈ l
  nd : (r.map Cp.nm).Nodup
def S_checked : SpecD := fun ds Q => ∃ l r, ds = [csD l, nmD r] ∧ Cps l ∧ Ord l r ∧ Q (csD r)
def S_made : SpecD := fun ds Q => ∃ c x, ds = [cpD c, qD x] ∧ CpOk c ∧ bz x ≤ 1000 ∧ Q (qD (mk c x))
def S_used : SpecD := fun ds Q => ∃ l r x, ds = [csD l, nmD r, qD x] ∧ Cps l ∧ Ord l r ∧ bz x ≤ 100 ∧ Q (qD (runF x r))
def S_joined : SpecD := fun ds Q => ∃ l r, ds = [csD l, nmD r] ∧ Cps l ∧ Ord l r ∧ Q (.tup [qD (prodF 1 r), qD (offF 0 r)])
def S_weights : SpecD := fun ds Q => ∃ a b, ds = [cpD a, cpD b] ∧ CpOk a ∧ CpOk b ∧ Q (.tup [qD (b.of * (1 - a.pt)), qD (a.of * (1 - b.pt))])
def S_in_good_order : SpecD := fun ds Q => ∃ a b, ds = [cpD a, cpD b] ∧ CpOk a ∧ CpOk b ∧ Q (.bl (decide (good a b)))
/-- some row of them in good order -/
def S_sorted_in : SpecD := fun ds Q => ∃ l, ds = [csD l] ∧ Cps l ∧ ∀ r : List Cp, r.Perm l → r.Pairwise good → Q (csD r)
def S_best_order : SpecD := fun ds Q => ∃ l, ds = [csD l] ∧ Cps l ∧ ∀ r : List Cp, r.Perm l → r.Pairwise good → Q (nmD r)
def S_bounds : SpecD := fun ds Q => ∃ l, ds = [csD l] ∧ Cps l ∧ ∀ r : List Cp, r.Perm l → r.Pairwise good → Q (.tup [qD (offF 0 r.reverse), qD (offF 0 r)])
def S_all_once : SpecD := fun ds Q => ∃ (l : List Cp) (o : List Str), ds = [csD l, strL o] ∧ Cps l ∧ o.length ≤ 20 ∧ Q (.bl (decide (o.Perm (l.map Cp.nm))))
def S_judge_order : SpecD := fun ds Q => ∃ (l : List Cp) (o : List Str), ds = [csD l, strL o] ∧ Cps l ∧ o.length ≤ 20 ∧ ((¬ o.Perm (l.map Cp.nm) ∧ Q (.bl false)) ∨ ∃ r : List Cp, o = r.map Cp.nm ∧ r.Perm l ∧ Q (.bl (gdB r)))
def S_law_fraction : SpecD := fun ds Q => ∃ m p : Nat, ds = [.pool, .int (m : Nat), .int (p : Nat)] ∧ m ≤ 1000 ∧ 1 ≤ p ∧ p ≤ 9 ∧ ∀ x : Rat, 0 ≤ x → bz x ≤ 11 → Q (qD x)
def S_law_turned : SpecD := fun ds Q => ∃ xs : List D, ds = [.pool, .lst xs] ∧ xs.length ≤ 1000 ∧ ∀ k : Nat, Q (.lst (xs.drop k ++ xs.take k))
def S_law_coupons : SpecD := fun ds Q => ∃ m : Nat, ds = [.pool, .int (m : Nat)] ∧ m ≤ 5 ∧ ∀ l, Cps l → Q (csD l)
def S_law_orders_of : SpecD := fun ds Q => ∃ l, ds = [csD l] ∧ l.length ≤ 5 ∧ Q (.lst ((rowsOf l).map csD))
def S_law_off : SpecD := fun ds Q => ∃ r : List Cp, ds = [csD r] ∧ (∀ c ∈ r, CpOk c) ∧ r.length ≤ 5 ∧ Q (qD (offF 0 r))
def S_law_made : SpecD := S_made
def S_law_run : SpecD := fun ds Q => ∃ (r : List Cp) (x : Rat), ds = [csD r, qD x] ∧ (∀ c ∈ r, CpOk c) ∧ r.length ≤ 5 ∧ bz x ≤ 100 ∧ Q (qD (runF x r))
def S_law_good : SpecD := S_in_good_order
def S_law_is_good : SpecD := fun ds Q => ∃ r : List Cp, ds = [csD r] ∧ (∀ c ∈ r, CpOk c) ∧ r.length ≤ 5 ∧ Q (.bl (gdB r))
end K10

namespace K10
open PySem PySem.Spec PyProof.Rows L2 DL
def c_UNIT : D := .tup [.int 1, .int 1]
def c_NOUGHT : D := .tup [.int 0, .int 1]
/-- by_name: coupons 0, found 1, coupon 2 -/
def r_by_name_6 : DS := (dFz 1 (dRet (dVar 1)))
def r_by_name_5 : DS := (dPut 1 (dOp rdIx (dVarO 2) (dC (.int 0))) (dVar 2))
def b_by_name_2 : DS := (dSeq (dIfS (dTst (dOp rdIn (dOp rdIx (dVarO 2) (dC (.int 0))) (dVarO 1))) dBot dNext) r_by_name_5)
def r_by_name_2 : DS := (dSeq (dFor (dIter (dVar 0)) (gN 2) b_by_name_2) r_by_name_6)
def p_by_name : DS := (dSeq (dOwn 1 dNew) r_by_name_2)
/-- checked: coupons 0, order 1, known 2, name 3, seen 4 -/
def r_checked_10 : DS := (dRet (dLc (dIter (dVar 1)) (gN 3) [3] dYes (dOp rdIx (dVarO 2) (dVarO 3))))
def r_checked_9 : DS := (dPut 4 (dVar 3) (dC (.bl true)))
def b_checked_6 : DS := (dSeq (dIfS (dTst (dOp rdIn (dVarO 3) (dVarO 4))) dBot dNext) r_checked_9)
def r_checked_6 : DS := (dSeq (dFor (dIter (dVar 1)) (gN 3) b_checked_6) r_checked_10)
def r_checked_5 : DS := (dSeq (dOwn 4 dNew) r_checked_6)
def b_checked_2 : DS := (dIfS (dTst (dOp rdNotIn (dVarO 3) (dVarO 2))) dBot dNext)
def r_checked_2 : DS := (dSeq (dFor (dIter (dVar 1)) (gN 3) b_checked_2) r_checked_5)
def p_checked : DS := (dSeq (dAsg 2 (dCall S_by_name (dConsA (dVar 0) dNilA))) r_checked_2)
/-- made: coupon 0, price 1 -/
def p_made : DS := (dRet (dCall S_most (dConsA (dC c_NOUGHT) (dConsA (dCall S_minus (dConsA (dCall S_times (dConsA (dOp rdIx (dVarO 0) (dC (.int 1))) (dConsA (dVar 1) dNilA))) (dConsA (dOp rdIx (dVarO 0) (dC (.int 2))) dNilA))) dNilA))))
/-- used: coupons 0, order 1, price 2, coupon 3 -/
def r_used_3 : DS := (dRet (dVar 2))
def b_used_1 : DS := (dAsg 2 (dCall S_made (dConsA (dVar 3) (dConsA (dVar 2) dNilA))))
def p_used : DS := (dSeq (dFor (dIter (dCall S_checked (dConsA (dVar 0) (dConsA (dVar 1) dNilA)))) (gN 3) b_used_1) r_used_3)
/-- joined: coupons 0, order 1, part 2, off 3, coupon 4 -/
def r_joined_6 : DS := (dRet (dTup (dConsA (dVar 2) (dConsA (dVar 3) dNilA))))
def r_joined_5 : DS := (dAsg 3 (dCall S_plus (dConsA (dCall S_times (dConsA (dVar 3) (dConsA (dOp rdIx (dVarO 4) (dC (.int 1))) dNilA))) (dConsA (dOp rdIx (dVarO 4) (dC (.int 2))) dNilA))))
def b_joined_3 : DS := (dSeq (dAsg 2 (dCall S_times (dConsA (dVar 2) (dConsA (dOp rdIx (dVarO 4) (dC (.int 1))) dNilA)))) r_joined_5)
def r_joined_3 : DS := (dSeq (dFor (dIter (dCall S_checked (dConsA (dVar 0) (dConsA (dVar 1) dNilA)))) (gN 4) b_joined_3) r_joined_6)
def r_joined_2 : DS := (dSeq (dAsg 3 (dC c_NOUGHT)) r_joined_3)
def p_joined : DS := (dSeq (dAsg 2 (dC c_UNIT)) r_joined_2)
/-- weights: one 0, other 1, ahead 2, behind 3 -/
def r_weights_3 : DS := (dRet (dTup (dConsA (dVar 2) (dConsA (dVar 3) dNilA))))
def r_weights_2 : DS := (dSeq (dAsg 3 (dCall S_times (dConsA (dOp rdIx (dVarO 0) (dC (.int 2))) (dConsA (dCall S_minus (dConsA (dC c_UNIT) (dConsA (dOp rdIx (dVarO 1) (dC (.int 1))) dNilA))) dNilA)))) r_weights_3)
def p_weights : DS := (dSeq (dAsg 2 (dCall S_times (dConsA (dOp rdIx (dVarO 1) (dC (.int 2))) (dConsA (dCall S_minus (dConsA (dC c_UNIT) (dConsA (dOp rdIx (dVarO 0) (dC (.int 1))) dNilA))) dNilA)))) r_weights_2)
/-- in_good_order: one 0, other 1, ahead 2, behind 3 -/
def r_in_good_order_2 : DS := (dRet (dNotV (dCall S_less (dConsA (dVar 2) (dConsA (dVar 3) dNilA)))))
def p_in_good_order : DS := (dSeq (dAsgT (dCall S_weights (dConsA (dVar 0) (dConsA (dVar 1) dNilA))) (gT 2 (gsCons (gN 2) (gsCons (gN 3) gsNil)))) r_in_good_order_2)
/-- sorted_in: coupons 0, found 1, coupon 2, place 3 -/
def r_sorted_in_7 : DS := (dFz 1 (dRet (dVar 1)))
def r_sorted_in_6 : DS := (dMth 1 rdInsert (dConsA (dVar 3) (dConsA (dVar 2) dNilA)))
def b_sorted_in_4 : DS := (dAsg 3 (dOp rdAdd (dVarO 3) (dC (.int 1))))
def r_sorted_in_4 : DS := (dSeq (dWhile (dAnd (dTst (dOp rdLt (dVarO 3) (dCB rdLen (dConsA (dVarO 1) dNilA)))) (dNot (dTst (dCall S_in_good_order (dConsA (dVar 2) (dConsA (dOp rdIx (dVarO 1) (dVarO 3)) dNilA)))))) b_sorted_in_4) r_sorted_in_6)
def b_sorted_in_2 : DS := (dSeq (dAsg 3 (dC (.int 0))) r_sorted_in_4)
def r_sorted_in_2 : DS := (dSeq (dFor (dIter (dCB rdSorted (dConsA (dVarO 0) dNilA))) (gN 2) b_sorted_in_2) r_sorted_in_7)
def p_sorted_in : DS := (dSeq (dOwn 1 (dLst dNilA)) r_sorted_in_2)
/-- best_order: coupons 0, coupon 1 -/
def p_best_order : DS := (dRet (dLc (dIter (dCall S_sorted_in (dConsA (dVals (dCall S_by_name (dConsA (dVar 0) dNilA))) dNilA))) (gN 1) [1] dYes (dOp rdIx (dVarO 1) (dC (.int 0)))))
/-- bounds: coupons 0, order 1 -/
def r_bounds_2 : DS := (dRet (dTup (dConsA (dOp rdIx (dCall S_joined (dConsA (dVar 0) (dConsA (dRev (dVarO 1)) dNilA))) (dC (.int 1))) (dConsA (dOp rdIx (dCall S_joined (dConsA (dVar 0) (dConsA (dVar 1) dNilA))) (dC (.int 1))) dNilA))))
def p_bounds : DS := (dSeq (dAsg 1 (dCall S_best_order (dConsA (dVar 0) dNilA))) r_bounds_2)
/-- all_once: coupons 0, order 1 -/
def p_all_once : DS := (dRet (dOp rdEq (dCB rdSorted (dConsA (dVarO 1) dNilA)) (dCB rdSorted (dConsA (dCall S_by_name (dConsA (dVar 0) dNilA)) dNilA))))
/-- judge_order: coupons 0, order 1, known 2, row 3, name 4, one 5, other 6 -/
def r_judge_order_5 : DS := (dRet (dCB rdAll (dConsA (dLc (dZipF (dConsA (dVar 3) (dConsA (dSl (dVarO 3) (dSmP (dC (.int 1))) dNoP) dNilA))) (gT 2 (gsCons (gN 5) (gsCons (gN 6) gsNil))) [5, 6] dYes (dCall S_in_good_order (dConsA (dVar 5) (dConsA (dVar 6) dNilA)))) dNilA)))
def r_judge_order_4 : DS := (dSeq (dAsg 3 (dLc (dIter (dVar 1)) (gN 4) [4] dYes (dOp rdIx (dVarO 2) (dVarO 4)))) r_judge_order_5)
def r_judge_order_3 : DS := (dSeq (dAsg 2 (dCall S_by_name (dConsA (dVar 0) dNilA))) r_judge_order_4)
def p_judge_order : DS := (dSeq (dIfS (dNot (dTst (dCall S_all_once (dConsA (dVar 0) (dConsA (dVar 1) dNilA))))) (dRet (dC (.bl false))) dNext) r_judge_order_3)
/-- law_fraction: pool 0, most_v 1, parts 2 -/
def p_law_fraction : DS := (dRet (dCall S_law_ratio (dConsA (dCall S_law_draw (dConsA (dVar 0) (dConsA (dOp rdAdd (dVarO 1) (dC (.int 1))) dNilA))) (dConsA (dOp rdAdd (dC (.int 1)) (dCall S_law_draw (dConsA (dVar 0) (dConsA (dVar 2) dNilA)))) dNilA))))
/-- law_turned: pool 0, items 1, place 2 -/
def r_law_turned_2 : DS := (dRetF (dCat (dSl (dVarO 1) (dSmP (dVar 2)) dNoP) (dSl (dVarO 1) dNoP (dSmP (dVar 2)))))
def p_law_turned : DS := (dSeq (dAsg 2 (dIf (dTst (dOp rdGt (dCB rdLen (dConsA (dVarO 1) dNilA)) (dC (.int 0)))) (dCall S_law_draw (dConsA (dVar 0) (dConsA (dCB rdLen (dConsA (dVarO 1) dNilA)) dNilA))) (dC (.int 0)))) r_law_turned_2)
/-- law_coupons: pool 0, most_v 1, found 2, k 3, part 4, off 5 -/
def r_law_coupons_10 : DS := (dFz 2 (dRetF (dCall S_law_turned (dConsA (dVar 0) (dConsA (dVar 2) dNilA)))))
def r_law_coupons_9 : DS := (dApp 2 (dTup (dConsA (dOp rdAdd (dCall S_law_pick (dConsA (dVar 0) (dConsA (dLst (dConsA (dC (.str (Str.ofString "c"))) (dConsA (dC (.str (Str.ofString "k"))) (dConsA (dC (.str (Str.ofString "w"))) dNilA)))) dNilA))) (dCB rdStr (dConsA (dVarO 3) dNilA))) (dConsA (dVar 4) (dConsA (dVar 5) dNilA)))))
def r_law_coupons_7 : DS := (dSeq (dIfS (dAnd (dTst (dOp rdEq (dOp rdIx (dVarO 4) (dC (.int 0))) (dOp rdIx (dVarO 4) (dC (.int 1))))) (dTst (dOp rdEq (dOp rdIx (dVarO 5) (dC (.int 0))) (dC (.int 0))))) (dAsg 5 (dTup (dConsA (dC (.int 1)) (dConsA (dC (.int 1)) dNilA)))) dNext) r_law_coupons_9)
def r_law_coupons_5 : DS := (dSeq (dIfS (dAnd (dTst (dOp rdEq (dVarO 4) (dTup (dConsA (dC (.int 1)) (dConsA (dC (.int 1)) dNilA))))) (dTst (dOp rdEq (dVarO 5) (dTup (dConsA (dC (.int 0)) (dConsA (dC (.int 1)) dNilA)))))) (dAsg 5 (dTup (dConsA (dC (.int 3)) (dConsA (dC (.int 1)) dNilA)))) dNext) r_law_coupons_7)
def r_law_coupons_4 : DS := (dSeq (dAsg 5 (dCall S_law_pick (dConsA (dVar 0) (dConsA (dLst (dConsA (dTup (dConsA (dC (.int 0)) (dConsA (dC (.int 1)) dNilA))) (dConsA (dTup (dConsA (dC (.int 5)) (dConsA (dC (.int 1)) dNilA))) (dConsA (dTup (dConsA (dC (.int 10)) (dConsA (dC (.int 1)) dNilA))) (dConsA (dCall S_law_fraction (dConsA (dVar 0) (dConsA (dC (.int 40)) (dConsA (dC (.int 6)) dNilA)))) dNilA))))) dNilA)))) r_law_coupons_5)
def b_law_coupons_2 : DS := (dSeq (dAsg 4 (dCall S_law_pick (dConsA (dVar 0) (dConsA (dLst (dConsA (dTup (dConsA (dC (.int 1)) (dConsA (dC (.int 1)) dNilA))) (dConsA (dTup (dConsA (dC (.int 1)) (dConsA (dC (.int 2)) dNilA))) (dConsA (dTup (dConsA (dC (.int 9)) (dConsA (dC (.int 10)) dNilA))) (dConsA (dTup (dConsA (dC (.int 2)) (dConsA (dC (.int 3)) dNilA))) (dConsA (dCall S_law_ratio (dConsA (dOp rdAdd (dC (.int 1)) (dCall S_law_draw (dConsA (dVar 0) (dConsA (dC (.int 99)) dNilA)))) (dConsA (dC (.int 100)) dNilA))) dNilA)))))) dNilA)))) r_law_coupons_4)
def r_law_coupons_2 : DS := (dSeq (dFor (dRng (dConsA (dCall S_law_draw (dConsA (dVar 0) (dConsA (dOp rdAdd (dVarO 1) (dC (.int 1))) dNilA))) dNilA)) (gN 3) b_law_coupons_2) r_law_coupons_10)
def p_law_coupons : DS := (dSeq (dOwn 2 (dLst dNilA)) r_law_coupons_2)
/-- law_orders_of: items 0, found 1, turn 2, more 3, row 4, k 5 -/
def r_law_orders_of_9 : DS := (dRet (dLc (dIter (dVar 1)) (gN 4) [4] dYes (dLc (dIter (dVar 4)) (gN 5) [5] dYes (dOp rdIx (dVarO 0) (dVarO 5)))))
def r_law_orders_of_8 : DS := (dFz 3 (dAsg 1 (dVar 3)))
def b_law_orders_of_5 : DS := (dIfS (dTst (dOp rdNotIn (dVarO 5) (dVarO 4))) (dApp 3 (dOp rdAdd (dVarO 4) (dLst (dConsA (dVar 5) dNilA)))) dNext)
def b_law_orders_of_4 : DS := (dFor (dRng (dConsA (dCB rdLen (dConsA (dVarO 0) dNilA)) dNilA)) (gN 5) b_law_orders_of_5)
def r_law_orders_of_4 : DS := (dSeq (dFor (dIter (dVar 1)) (gN 4) b_law_orders_of_4) r_law_orders_of_8)
def b_law_orders_of_2 : DS := (dSeq (dOwn 3 (dLst dNilA)) r_law_orders_of_4)
def r_law_orders_of_2 : DS := (dSeq (dFor (dRng (dConsA (dCB rdLen (dConsA (dVarO 0) dNilA)) dNilA)) (gN 2) b_law_orders_of_2) r_law_orders_of_9)
def p_law_orders_of : DS := (dSeq (dAsg 1 (dLst (dConsA (dLst dNilA) dNilA))) r_law_orders_of_2)
/-- law_off: coupons 0, found 1, coupon 2 -/
def r_law_off_4 : DS := (dRet (dVar 1))
def b_law_off_2 : DS := (dAsg 1 (dCall S_law_add (dConsA (dCall S_law_mul (dConsA (dVar 1) (dConsA (dOp rdIx (dVarO 2) (dC (.int 1))) dNilA))) (dConsA (dOp rdIx (dVarO 2) (dC (.int 2))) dNilA))))
def r_law_off_2 : DS := (dSeq (dFor (dIter (dVar 0)) (gN 2) b_law_off_2) r_law_off_4)
def p_law_off : DS := (dSeq (dAsg 1 (dTup (dConsA (dC (.int 0)) (dConsA (dC (.int 1)) dNilA)))) r_law_off_2)
/-- law_made: coupon 0, price 1, found 2 -/
def r_law_made_2 : DS := (dRet (dIf (dTst (dOp rdLt (dOp rdIx (dVarO 2) (dC (.int 0))) (dC (.int 0)))) (dTup (dConsA (dC (.int 0)) (dConsA (dC (.int 1)) dNilA))) (dVar 2)))
def p_law_made : DS := (dSeq (dAsg 2 (dCall S_law_sub (dConsA (dCall S_law_mul (dConsA (dOp rdIx (dVarO 0) (dC (.int 1))) (dConsA (dVar 1) dNilA))) (dConsA (dOp rdIx (dVarO 0) (dC (.int 2))) dNilA)))) r_law_made_2)
/-- law_run: coupons 0, price 1, coupon 2 -/
def r_law_run_3 : DS := (dRet (dVar 1))
def b_law_run_1 : DS := (dAsg 1 (dCall S_law_made (dConsA (dVar 2) (dConsA (dVar 1) dNilA))))
def p_law_run : DS := (dSeq (dFor (dIter (dVar 0)) (gN 2) b_law_run_1) r_law_run_3)
/-- law_good: one 0, other 1, ahead 2, behind 3 -/
def r_law_good_3 : DS := (dRet (dNotV (dCall S_law_less (dConsA (dVar 2) (dConsA (dVar 3) dNilA)))))
def r_law_good_2 : DS := (dSeq (dAsg 3 (dCall S_law_mul (dConsA (dOp rdIx (dVarO 0) (dC (.int 2))) (dConsA (dCall S_law_sub (dConsA (dTup (dConsA (dC (.int 1)) (dConsA (dC (.int 1)) dNilA))) (dConsA (dOp rdIx (dVarO 1) (dC (.int 1))) dNilA))) dNilA)))) r_law_good_3)
def p_law_good : DS := (dSeq (dAsg 2 (dCall S_law_mul (dConsA (dOp rdIx (dVarO 1) (dC (.int 2))) (dConsA (dCall S_law_sub (dConsA (dTup (dConsA (dC (.int 1)) (dConsA (dC (.int 1)) dNilA))) (dConsA (dOp rdIx (dVarO 0) (dC (.int 1))) dNilA))) dNilA)))) r_law_good_2)
/-- law_is_good: row 0, k 1 -/
def p_law_is_good : DS := (dRet (dOp rdEq (dCB rdLen (dConsA (dLc (dRng (dConsA (dC (.int 1)) (dConsA (dCB rdLen (dConsA (dVarO 0) dNilA)) dNilA))) (gN 1) [1] (dNot (dTst (dCall S_law_good (dConsA (dOp rdIx (dVarO 0) (dOp rdSub (dVarO 1) (dC (.int 1)))) (dConsA (dOp rdIx (dVarO 0) (dVarO 1)) dNilA))))) (dVar 1)) dNilA)) (dC (.int 0))))
/-- law: script 0, pool 1, coupons 2, orders 3, offs 4, low 5, high 6, off 7, told 8, due 9, k 10, number 11, names 12, bad 13, good 14, least 15, row 16, coupon 17 -/
def r_law_32 : DS := (dFz 2 (dRet (dOrV (dOp rdEq (dCB rdLen (dConsA (dVarO 2) dNilA)) (dC (.int 0))) (dOp rdIs (dCall S_judge_order (dConsA (dVar 2) (dConsA (dVar 13) dNilA))) (dC (.bl false))))))
def r_law_31 : DS := (dSeq (dAsg 13 (dCall S_law_pick (dConsA (dVar 1) (dConsA (dLst (dConsA (dSl (dVarO 12) (dSmP (dC (.int 1))) dNoP) (dConsA (dOp rdAdd (dVarO 12) (dLst (dConsA (dC (.str (Str.ofString "zz"))) dNilA))) (dConsA (dOp rdAdd (dVarO 12) (dSl (dVarO 12) dNoP (dSmP (dC (.int 1))))) dNilA)))) dNilA)))) r_law_32)
def r_law_30 : DS := (dFz 2 (dSeq (dAsg 12 (dLc (dIter (dVar 2)) (gN 17) [17] dYes (dOp rdIx (dVarO 17) (dC (.int 0))))) r_law_31))
def r_law_28 : DS := (dIfS (dTst (dOp rdGt (dCB rdLen (dConsA (dLc (dIter (dVar 3)) (gN 16) [16] (dTst (dCall S_law_less (dConsA (dCall S_law_run (dConsA (dVar 16) (dConsA (dVar 11) dNilA))) (dConsA (dVar 15) dNilA)))) (dVar 16)) dNilA)) (dC (.int 0)))) (dRet (dC (.bl false))) dNext)
def r_law_26 : DS := (dFz 2 (dSeq (dIfS (dNot (dTst (dCall S_law_same (dConsA (dCall S_used (dConsA (dVar 2) (dConsA (dVar 8) (dConsA (dVar 11) dNilA)))) (dConsA (dVar 15) dNilA))))) (dRet (dC (.bl false))) dNext) r_law_28))
def b_law_24 : DS := (dSeq (dAsg 15 (dCall S_law_run (dConsA (dOp rdIx (dVarO 9) (dC (.int 0))) (dConsA (dVar 11) dNilA)))) r_law_26)
def r_law_24 : DS := (dSeq (dFor (dIter (dLst (dConsA (dTup (dConsA (dC (.int 0)) (dConsA (dC (.int 1)) dNilA))) (dConsA (dTup (dConsA (dC (.int 100)) (dConsA (dC (.int 1)) dNilA))) (dConsA (dCall S_law_fraction (dConsA (dVar 1) (dConsA (dC (.int 300)) (dConsA (dC (.int 7)) dNilA)))) (dConsA (dCall S_law_fraction (dConsA (dVar 1) (dConsA (dC (.int 40)) (dConsA (dC (.int 3)) dNilA)))) dNilA)))))) (gN 11) b_law_24) r_law_30)
def r_law_22 : DS := (dIfS (dOr (dAnd (dTst (dVar 14)) (dTst (dOp rdNe (dOp rdIx (dVarO 4) (dVarO 10)) (dVarO 6)))) (dNot (dTst (dCall S_law_same (dConsA (dCall S_judge_order (dConsA (dCB rdList (dConsA (dVarO 2) dNilA)) (dConsA (dCB rdList (dConsA (dVarO 12) dNilA)) dNilA))) (dConsA (dVar 14) dNilA)))))) (dRet (dC (.bl false))) dNext)
def r_law_21 : DS := (dSeq (dAsg 14 (dCall S_law_is_good (dConsA (dOp rdIx (dVarO 3) (dVarO 10)) dNilA))) r_law_22)
def b_law_19 : DS := (dSeq (dAsg 12 (dLc (dIter (dOp rdIx (dVarO 3) (dVarO 10))) (gN 17) [17] dYes (dOp rdIx (dVarO 17) (dC (.int 0))))) r_law_21)
def r_law_19 : DS := (dSeq (dFor (dRng (dConsA (dCB rdLen (dConsA (dVarO 3) dNilA)) dNilA)) (gN 10) b_law_19) r_law_24)
def r_law_17 : DS := (dSeq (dIfS (dNot (dTst (dCall S_law_same (dConsA (dCall S_bounds (dConsA (dCB rdList (dConsA (dVarO 2) dNilA)) dNilA)) (dConsA (dTup (dConsA (dVar 5) (dConsA (dVar 6) dNilA))) dNilA))))) (dRet (dC (.bl false))) dNext) r_law_19)
def r_law_15 : DS := (dSeq (dIfS (dOr (dNot (dTst (dCB rdIsi (dConsA (dVarO 8) (dConsA (dC (.ty "list")) dNilA))))) (dOr (dTst (dOp rdNe (dCB rdLen (dConsA (dVarO 9) dNilA)) (dC (.int 1)))) (dOr (dTst (dOp rdNe (dCall S_law_off (dConsA (dOp rdIx (dVarO 9) (dC (.int 0))) dNilA)) (dVarO 6))) (dNot (dTst (dCall S_law_is_good (dConsA (dOp rdIx (dVarO 9) (dC (.int 0))) dNilA))))))) (dRet (dC (.bl false))) dNext) r_law_17)
def r_law_14 : DS := (dSeq (dAsg 9 (dLc (dIter (dVar 3)) (gN 16) [16] (dTst (dOp rdEq (dLc (dIter (dVar 16)) (gN 17) [17] dYes (dOp rdIx (dVarO 17) (dC (.int 0)))) (dVarO 8))) (dVar 16))) r_law_15)
def r_law_13 : DS := (dSeq (dAsg 8 (dCall S_best_order (dConsA (dCB rdList (dConsA (dVarO 2) dNilA)) dNilA))) r_law_14)
def r_law_12 : DS := (dAsg 6 (dIf (dTst (dCall S_law_less (dConsA (dVar 6) (dConsA (dVar 7) dNilA)))) (dVar 7) (dVar 6)))
def b_law_10 : DS := (dSeq (dAsg 5 (dIf (dTst (dCall S_law_less (dConsA (dVar 7) (dConsA (dVar 5) dNilA)))) (dVar 7) (dVar 5))) r_law_12)
def r_law_10 : DS := (dSeq (dFor (dIter (dVar 4)) (gN 7) b_law_10) r_law_13)
def r_law_9 : DS := (dSeq (dAsg 6 (dOp rdIx (dVarO 4) (dC (.int 0)))) r_law_10)
def r_law_8 : DS := (dSeq (dAsg 5 (dOp rdIx (dVarO 4) (dC (.int 0)))) r_law_9)
def r_law_7 : DS := (dSeq (dAsg 4 (dLc (dIter (dVar 3)) (gN 16) [16] dYes (dCall S_law_off (dConsA (dVar 16) dNilA)))) r_law_8)
def r_law_6 : DS := (dFz 2 (dSeq (dAsg 3 (dCall S_law_orders_of (dConsA (dVar 2) dNilA))) r_law_7))
def r_law_5 : DS := (dSeq (dDrop (dCall S_law_next (dConsA (dVar 1) dNilA))) r_law_6)
def r_law_3 : DS := (dSeq (dIfS (dAnd (dTst (dOp rdGt (dCB rdLen (dConsA (dVarO 2) dNilA)) (dC (.int 1)))) (dTst (dOp rdEq (dCall S_law_draw (dConsA (dVar 1) (dConsA (dC (.int 3)) dNilA))) (dC (.int 0))))) (dPut 2 (dC (.int 0)) (dOp rdAdd (dTup (dConsA (dOp rdIx (dOp rdIx (dVarO 2) (dC (.int 0))) (dC (.int 0))) dNilA)) (dSl (dOp rdIx (dVarO 2) (dC (.int 1))) (dSmP (dC (.int 1))) dNoP))) dNext) r_law_5)
def p_law : DS := (dSeq (dOwn 2 (dCall S_law_coupons (dConsA (dVar 1) (dConsA (dIf (dTst (dOp rdEq (dCall S_law_draw (dConsA (dVar 1) (dConsA (dC (.int 4)) dNilA))) (dC (.int 0)))) (dC (.int 5)) (dC (.int 4))) dNilA)))) r_law_3)
end K10

namespace K10
open PySem PySem.Spec PyProof.Rows L2 DL
theorem good_total (a b : Cp) : good a b ∨ good b a := Rat.le_total
theorem good_trans {a b c : Cp} (ha : CpOk a) (hb : CpOk b) (hc : CpOk c) (h1 : good a b) (h2 : good b c) : good a c := by
  unfold good at *
  have a1 : 0 ≤ 1 - a.pt := by have := ha.p1; grind
  have b1 : 0 ≤ 1 - b.pt := by have := hb.p1; grind
  have c1 : 0 ≤ 1 - c.pt := by have := hc.p1; grind
  rcases Rat.le_iff_lt_or_eq.mp b1 with h | h
  · have e1 := Rat.mul_le_mul_of_nonneg_right h1 c1
    have e2 := Rat.mul_le_mul_of_nonneg_right h2 a1
    have e3 : (a.of * (1 - c.pt)) * (1 - b.pt) ≤ (c.of * (1 - a.pt)) * (1 - b.pt) := by grind
    exact Rat.le_of_mul_le_mul_right e3 h
  · have hb1 : b.pt = 1 := by grind
    have hbo : 0 < b.of := by
      rcases Rat.le_iff_lt_or_eq.mp hb.o0 with g | g
      · exact g
      · exact absurd ⟨hb1, g.symm⟩ hb.ne
    rw [← h, Rat.mul_zero] at h2
    have hz : 1 - c.pt = 0 := by
      rcases Rat.le_iff_lt_or_eq.mp c1 with g | g
      · have := Rat.mul_pos hbo g
        grind
      · exact g.symm
    rw [hz, Rat.mul_zero]
    exact Rat.mul_nonneg hc.o0 a1
def AllOk (r : List Cp) : Prop := ∀ c ∈ r, CpOk c
theorem AllOk.tail {c : Cp} {r : List Cp} (h : AllOk (c :: r)) : AllOk r := fun x hx => h x (List.mem_cons_of_mem _ hx)
theorem AllOk.perm {r r' : List Cp} (h : AllOk r) (p : r'.Perm r) : AllOk r' := fun x hx => h x (p.mem_iff.mp hx)
theorem gdB_pair : ∀ {r : List Cp}, AllOk r → gdB r = true → r.Pairwise good
  | [], _, _ => .nil
  | [a], _, _ => List.pairwise_singleton ..
  | a :: b :: r, h, g => by
    unfold gdB at g
    rw [Bool.and_eq_true] at g
    have ih := gdB_pair h.tail g.2
    have hab := of_decide_eq_true g.1
    refine .cons (fun x hx => ?_) ih
    rcases List.mem_cons.mp hx with e | e
    · rw [e]; exact hab
    · rw [List.pairwise_cons] at ih
      exact good_trans (h a (by simp)) (h b (by simp)) (h x (by simp [e])) hab (ih.1 x e)
theorem pair_gdB : ∀ {r : List Cp}, r.Pairwise good → gdB r = true
  | [], _ => rfl
  | [a], _ => rfl
  | a :: b :: r, g => by
    rw [List.pairwise_cons] at g
    unfold gdB
    rw [Bool.and_eq_true]
    exact ⟨decide_eq_true (g.1 b (by simp)), pair_gdB g.2⟩
theorem offF_app (f : Rat) : ∀ (a b : List Cp), offF f (a ++ b) = offF (offF f a) b
  | [], b => rfl
  | c :: a, b => offF_app _ a b
theorem offF_mono {f g : Rat} (h : f ≤ g) : ∀ {r : List Cp}, AllOk r → offF f r ≤ offF g r
  | [], _ => h
  | c :: r, ok => by
    have hp := (ok c (by simp)).p0
    have := Rat.mul_le_mul_of_nonneg_right h (Rat.le_of_lt hp)
    show offF (f * c.pt + c.of) r ≤ offF (g * c.pt + c.of) r
    exact offF_mono (by grind) ok.tail
theorem off_swap {x y : Cp} (h : good x y) (f : Rat) {b : List Cp} (ok : AllOk b) : offF f (y :: x :: b) ≤ offF f (x :: y :: b) := by
  show offF ((f * y.pt + y.of) * x.pt + x.of) b ≤ offF ((f * x.pt + x.of) * y.pt + y.of) b
  refine offF_mono ?_ ok
  unfold good at h
  grind
theorem off_front {x : Cp} : ∀ (a : List Cp) (f : Rat) (b : List Cp), (∀ y ∈ a, good x y) → AllOk (a ++ b) → offF f (a ++ x :: b) ≤ offF f (x :: (a ++ b))
  | [], f, b, _, _ => Rat.le_refl
  | y :: a, f, b, h, ok => by
    have ih := off_front a (f * y.pt + y.of) b (fun z hz => h z (by simp [hz])) (AllOk.tail (c := y) ok)
    have sw := off_swap (h y (by simp)) f (b := a ++ b) (AllOk.tail (c := y) ok)
    exact Rat.le_trans ih sw
theorem off_back {x : Cp} : ∀ (a : List Cp) (f : Rat) (b : List Cp), (∀ y ∈ a, good y x) → AllOk (a ++ b) → offF f (x :: (a ++ b)) ≤ offF f (a ++ x :: b)
  | [], f, b, _, _ => Rat.le_refl
  | y :: a, f, b, h, ok => by
    have ih := off_back a (f * y.pt + y.of) b (fun z hz => h z (by simp [hz])) (AllOk.tail (c := y) ok)
    have sw := off_swap (h y (by simp)) f (b := a ++ b) (AllOk.tail (c := y) ok)
    exact Rat.le_trans sw ih
theorem off_le : ∀ {r r' : List Cp}, AllOk r → r.Pairwise good → r'.Perm r → ∀ f, offF f r' ≤ offF f r
  | [], r', _, _, p, f => by rw [p.eq_nil]; exact Rat.le_refl
  | x :: r, r', ok, g, p, f => by
    rw [List.pairwise_cons] at g
    have hx : x ∈ r' := p.mem_iff.mpr (by simp)
    obtain ⟨a, b, rfl⟩ := List.append_of_mem hx
    have p2 : (a ++ b).Perm r := List.Perm.cons_inv ((List.perm_middle.symm).trans p)
    have ok2 : AllOk (a ++ b) := ok.tail.perm p2
    have h1 := off_front a f b (fun y hy => g.1 y (p2.mem_iff.mp (by simp [hy]))) ok2
    have h2 := off_le ok.tail g.2 p2 (f * x.pt + x.of)
    exact Rat.le_trans h1 h2
theorem off_ge : ∀ {r r' : List Cp}, AllOk r → r.Pairwise (fun a b => good b a) → r'.Perm r → ∀ f, offF f r ≤ offF f r'
  | [], r', _, _, p, f => by rw [p.eq_nil]; exact Rat.le_refl
  | x :: r, r', ok, g, p, f => by
    rw [List.pairwise_cons] at g
    have hx : x ∈ r' := p.mem_iff.mpr (by simp)
    obtain ⟨a, b, rfl⟩ := List.append_of_mem hx
    have p2 : (a ++ b).Perm r := List.Perm.cons_inv ((List.perm_middle.symm).trans p)
    have ok2 : AllOk (a ++ b) := ok.tail.perm p2
    have h1 := off_back a f b (fun y hy => g.1 y (p2.mem_iff.mp (by simp [hy]))) ok2
    have h2 := off_ge ok.tail g.2 p2 (f * x.pt + x.of)
    exact Rat.le_trans h2 h1
theorem prodF_mul (q : Rat) : ∀ (r : List Cp) (p : Rat), prodF (q * p) r = q * prodF p r
  | [], p => rfl
  | c :: r, p => by
    show prodF (q * p * c.pt) r = q * prodF (p * c.pt) r
    rw [Rat.mul_assoc]
    exact prodF_mul q r _
theorem prodF_one (r : List Cp) (p : Rat) : prodF p r = p * prodF 1 r := by
  have := prodF_mul p r 1
  rw [Rat.mul_one] at this
  exact this
theorem prodF_perm {r r' : List Cp} (h : r'.Perm r) : ∀ p, prodF p r' = prodF p r := by
  induction h with
  | nil => intro p; rfl
  | cons x _ ih => intro p; exact ih _
  | swap x y l =>
    intro p
    show prodF (p * y.pt * x.pt) l = prodF (p * x.pt * y.pt) l
    congr 1
    grind
  | trans _ _ h1 h2 => intro p; rw [h1, h2]
theorem prod_nn : ∀ {r : List Cp}, AllOk r → 0 ≤ prodF 1 r
  | [], _ => by show (0 : Rat) ≤ 1; decide
  | c :: r, ok => by
    show 0 ≤ prodF (1 * c.pt) r
    rw [Rat.one_mul, prodF_one]
    exact Rat.mul_nonneg (Rat.le_of_lt (ok c (by simp)).p0) (prod_nn ok.tail)
theorem offF_lin : ∀ (r : List Cp) (f : Rat), offF f r = f * prodF 1 r + offF 0 r
  | [], f => by show f = f * 1 + 0; grind
  | c :: r, f => by
    show offF (f * c.pt + c.of) r = f * prodF (1 * c.pt) r + offF (0 * c.pt + c.of) r
    rw [offF_lin r (f * c.pt + c.of), offF_lin r (0 * c.pt + c.of), Rat.one_mul, prodF_one r c.pt]
    grind
theorem off_nn : ∀ {r : List Cp}, AllOk r → ∀ f, 0 ≤ f → 0 ≤ offF f r
  | [], _, f, h => h
  | c :: r, ok, f, h => by
    have o := ok c (by simp)
    have := Rat.mul_nonneg h (Rat.le_of_lt o.p0)
    have := o.o0
    exact off_nn ok.tail _ (by grind)
theorem run_eq : ∀ {r : List Cp}, AllOk r → ∀ x, 0 ≤ x → runF x r = if prodF 1 r * x - offF 0 r < 0 then 0 else prodF 1 r * x - offF 0 r
  | [], _, x, h => by
    show x = if (1 : Rat) * x - 0 < 0 then 0 else 1 * x - 0
    have e : (1 : Rat) * x - 0 = x := by grind
    rw [e, if_neg (Rat.not_lt.mpr h)]
  | c :: r, ok, x, h => by
    have o := ok c (by simp)
    have hp := prod_nn ok.tail
    have e1 : prodF 1 (c :: r) = c.pt * prodF 1 r := by show prodF (1 * c.pt) r = _; rw [Rat.one_mul, prodF_one]
    have e2 : offF 0 (c :: r) = c.of * prodF 1 r + offF 0 r := by
      show offF (0 * c.pt + c.of) r = _
      rw [offF_lin]
      grind
    show runF (mk c x) r = _
    unfold mk
    by_cases g : c.pt * x - c.of < 0
    · rw [if_pos g, run_eq ok.tail 0 Rat.le_refl]
      have hn := off_nn ok.tail 0 Rat.le_refl
      have k1 := Rat.mul_le_mul_of_nonneg_right (Rat.le_of_lt g) hp
      have z1 : prodF 1 (c :: r) * x - offF 0 (c :: r) ≤ 0 := by rw [e1, e2]; grind
      have z2 : prodF 1 r * 0 - offF 0 r ≤ 0 := by grind
      have c0 : ∀ y : Rat, y ≤ 0 → (if y < 0 then 0 else y) = (0 : Rat) := fun y hy => by
        by_cases q : y < 0
        · rw [if_pos q]
        · rw [if_neg q]; exact Rat.le_antisymm hy (Rat.not_lt.mp q)
      rw [c0 _ z1, c0 _ z2]
    · rw [if_neg g, run_eq ok.tail _ (Rat.not_lt.mp g), e1, e2]
      have e : prodF 1 r * (c.pt * x - c.of) - offF 0 r = c.pt * prodF 1 r * x - (c.of * prodF 1 r + offF 0 r) := by grind
      rw [e]
theorem run_le {r r' : List Cp} (ok : AllOk r) (g : r.Pairwise good) (p : r'.Perm r) {x : Rat} (h : 0 ≤ x) : runF x r ≤ runF x r' := by
  rw [run_eq ok x h, run_eq (ok.perm p) x h, prodF_perm p]
  have := off_le ok g p 0
  split <;> split <;> grind
theorem ins_cons (c x : Cp) (l : List Cp) : ins c (x :: l) = if good c x then c :: x :: l else x :: ins c l := by
  show (x :: l).take (if good c x then 0 else place c l + 1) ++ [c] ++ (x :: l).drop (if good c x then 0 else place c l + 1) = _
  split
  · rfl
  · rfl
theorem ins_perm (c : Cp) (l : List Cp) : (ins c l).Perm (c :: l) := by
  unfold ins
  have h := (List.perm_middle (a := c) (l₁ := l.take (place c l)) (l₂ := l.drop (place c l)))
  rw [List.take_append_drop] at h
  rw [List.append_assoc]
  exact h
theorem ins_good {c : Cp} : ∀ {l : List Cp}, AllOk (c :: l) → l.Pairwise good → (ins c l).Pairwise good
  | [], _, _ => List.pairwise_singleton ..
  | x :: l, ok, g => by
    rw [ins_cons]
    rw [List.pairwise_cons] at g
    by_cases h : good c x
    · rw [if_pos h]
      refine .cons (fun y hy => ?_) (.cons g.1 g.2)
      rcases List.mem_cons.mp hy with e | e
      · rw [e]; exact h
      · exact good_trans (ok c (by simp)) (ok x (by simp)) (ok y (by simp [e])) h (g.1 y e)
    · rw [if_neg h]
      refine .cons (fun y hy => ?_) (ins_good (fun z hz => ok z (by rcases List.mem_cons.mp hz with e | e <;> simp [e])) g.2)
      rcases List.mem_cons.mp ((ins_perm c l).mem_iff.mp hy) with e | e
      · rw [e]; exact (good_total c x).resolve_left h
      · exact g.1 y e
theorem insAll_ok : ∀ (r acc : List Cp), AllOk (acc ++ r) → acc.Pairwise good → (insAll acc r).Pairwise good ∧ (insAll acc r).Perm (acc ++ r)
  | [], acc, _, g => ⟨g, by rw [List.append_nil]; exact .refl _⟩
  | c :: r, acc, ok, g => by
    have pm : (ins c acc ++ r).Perm (acc ++ c :: r) := ((ins_perm c acc).append_right r).trans List.perm_middle.symm
    have ih := insAll_ok r (ins c acc) (ok.perm pm) (ins_good (fun z hz => ok z (by rcases List.mem_cons.mp hz with e | e <;> simp [e])) g)
    exact ⟨ih.1, ih.2.trans pm⟩
theorem mem_perms (n : Nat) : ∀ t p, p ∈ permsN n t ↔ p.length = t ∧ p.Nodup ∧ ∀ x ∈ p, x < n
  | 0, p => by
    show p ∈ [[]] ↔ _
    rw [List.mem_singleton]
    constructor
    · rintro rfl; exact ⟨rfl, List.nodup_nil, fun _ h => nomatch h⟩
    · rintro ⟨h, _⟩; exact List.length_eq_zero_iff.mp h
  | t + 1, p => by
    show p ∈ (permsN n t).flatMap (extN n) ↔ _
    rw [List.mem_flatMap]
    constructor
    · rintro ⟨q, hq, h⟩
      rw [mem_perms n t] at hq
      unfold extN at h
      rw [List.mem_map] at h
      obtain ⟨k, hk, rfl⟩ := h
      rw [List.mem_filter, List.mem_range, decide_eq_true_iff] at hk
      refine ⟨by simp [hq.1], ?_, fun x hx => ?_⟩
      · rw [List.nodup_append]
        refine ⟨hq.2.1, by simp, fun a ha b hb => ?_⟩
        rw [List.mem_singleton] at hb
        subst hb
        exact fun e => hk.2 (e ▸ ha)
      · rcases List.mem_append.mp hx with g | g
        · exact hq.2.2 x g
        · rw [List.mem_singleton] at g; subst g; exact hk.1
    · rintro ⟨hl, hn, hx⟩
      have hne : p ≠ [] := fun e => by rw [e] at hl; cases hl
      refine ⟨p.dropLast, (mem_perms n t _).mpr ⟨by rw [List.length_dropLast, hl]; rfl, ?_, fun x hx' => hx x (List.dropLast_subset _ hx')⟩, ?_⟩
      · exact (List.dropLast_sublist p).nodup hn
      · have e := List.dropLast_concat_getLast hne
        unfold extN
        rw [List.mem_map]
        refine ⟨p.getLast hne, ?_, e⟩
        rw [List.mem_filter, List.mem_range, decide_eq_true_iff]
        refine ⟨hx _ (List.getLast_mem hne), fun h => ?_⟩
        rw [← e, List.nodup_append] at hn
        exact hn.2.2 _ h _ (by simp) rfl
theorem perms_nodup (n : Nat) : ∀ t, (permsN n t).Nodup
  | 0 => by show [[]].Nodup; simp
  | t + 1 => by
    show ((permsN n t).flatMap (extN n)).Nodup
    unfold List.Nodup
    rw [List.pairwise_flatMap]
    refine ⟨fun q hq => ?_, ?_⟩
    · unfold extN
      rw [List.pairwise_map]
      refine List.Pairwise.imp ?_ (List.Pairwise.filter _ List.nodup_range)
      intro a b hab e
      exact hab (by simpa using e)
    · refine List.Pairwise.imp ?_ (perms_nodup n t)
      intro a b hab x hx y hy e
      unfold extN at hx hy
      rw [List.mem_map] at hx hy
      obtain ⟨k, _, rfl⟩ := hx
      obtain ⟨j, _, rfl⟩ := hy
      have h2 := congrArg List.dropLast e
      rw [List.dropLast_concat, List.dropLast_concat] at h2
      exact hab h2
theorem getD_ix {l : List Cp} {k : Nat} (h : k < l.length) : l.getD k cp0 = l[k] := by
  rw [List.getD_eq_getElem?_getD, List.getElem?_eq_getElem h]; rfl
theorem map_range (l : List Cp) : (List.range l.length).map (fun k => l.getD k cp0) = l := by
  apply List.ext_getElem
  · rw [List.length_map, List.length_range]
  · intro i h1 h2
    rw [List.getElem_map, List.getElem_range, getD_ix h2]
theorem perm_of_sub : ∀ {p q : List Nat}, p.Nodup → p ⊆ q → q.length ≤ p.length → p.Perm q
  | [], q, _, _, h => by
    have : q = [] := List.length_eq_zero_iff.mp (by simpa using h)
    rw [this]
  | a :: p, q, hn, hs, h => by
    have ha : a ∈ q := hs (by simp)
    have hp := List.perm_cons_erase ha
    rw [List.nodup_cons] at hn
    have hl := hp.length_eq
    rw [List.length_cons] at hl h
    refine (List.Perm.cons a (perm_of_sub hn.2 (fun x hx => ?_) (by omega))).trans hp.symm
    have hne : x ≠ a := fun e => hn.1 (e ▸ hx)
    exact (List.mem_erase_of_ne hne).mpr (hs (by simp [hx]))
theorem perm_range {n : Nat} {p : List Nat} (hl : p.length = n) (hn : p.Nodup) (hx : ∀ x ∈ p, x < n) : p.Perm (List.range n) := by
  have hs : p ⊆ List.range n := fun x h => List.mem_range.mpr (hx x h)
  exact perm_of_sub hn hs (by rw [List.length_range, hl]; exact Nat.le_refl _)
theorem rows_perm {l w : List Cp} (h : w ∈ rowsOf l) : w.Perm l := by
  unfold rowsOf at h
  rw [List.mem_map] at h
  obtain ⟨p, hp, rfl⟩ := h
  rw [mem_perms] at hp
  have := (perm_range hp.1 hp.2.1 hp.2.2).map (fun k => l.getD k cp0)
  rw [map_range] at this
  exact this
def ix (l : List Cp) (c : Cp) : Nat := (l.map Cp.nm).idxOf c.nm
theorem ix_at {l : List Cp} (hn : (l.map Cp.nm).Nodup) {k : Nat} (h : k < l.length) : ix l (l.getD k cp0) = k := by
  unfold ix
  have h' : k < (l.map Cp.nm).length := by rw [List.length_map]; exact h
  have e : (l.getD k cp0).nm = (l.map Cp.nm)[k] := by rw [getD_ix h, List.getElem_map]
  rw [e]
  exact List.Nodup.idxOf_getElem hn k h'
theorem ix_mem {l : List Cp} (hn : (l.map Cp.nm).Nodup) {c : Cp} (h : c ∈ l) : ix l c < l.length ∧ l.getD (ix l c) cp0 = c := by
  obtain ⟨k, hk, rfl⟩ := List.getElem_of_mem h
  have := ix_at hn hk
  rw [getD_ix hk] at this
  rw [this]
  exact ⟨hk, getD_ix hk⟩
theorem rows_all {l r : List Cp} (hn : (l.map Cp.nm).Nodup) (p : r.Perm l) : r.map (ix l) ∈ permsN l.length l.length ∧ (r.map (ix l)).map (fun k => l.getD k cp0) = r := by
  have hm : ∀ c ∈ r, c ∈ l := fun c h => p.mem_iff.mp h
  have e : (r.map (ix l)).map (fun k => l.getD k cp0) = r := by
    rw [List.map_map]
    conv => rhs; rw [← List.map_id r]
    exact List.map_congr_left fun c hc => (ix_mem hn (hm c hc)).2
  refine ⟨(mem_perms _ _ _).mpr ⟨by rw [List.length_map, p.length_eq], ?_, fun x hx => ?_⟩, e⟩
  · have hr : (r.map Cp.nm).Nodup := (p.map Cp.nm).nodup_iff.mpr hn
    have e2 : r.map (ix l) = (r.map Cp.nm).map fun n => (l.map Cp.nm).idxOf n := by rw [List.map_map]; rfl
    rw [e2]
    have sub : ∀ n ∈ r.map Cp.nm, n ∈ l.map Cp.nm := fun n h => (p.map Cp.nm).mem_iff.mp h
    revert hr sub
    generalize r.map Cp.nm = ns
    intro hr sub
    induction ns with
    | nil => exact List.nodup_nil
    | cons a ns ih =>
      rw [List.nodup_cons] at hr
      rw [List.map_cons, List.nodup_cons]
      refine ⟨fun h => ?_, ih hr.2 fun n h => sub n (by simp [h])⟩
      obtain ⟨b, hb, eb⟩ := List.mem_map.mp h
      have g1 := List.getElem_idxOf (List.idxOf_lt_length_of_mem (sub b (by simp [hb])))
      have g2 := List.getElem_idxOf (List.idxOf_lt_length_of_mem (sub a (by simp)))
      have : b = a := by rw [← g1]; exact (by simp only [eb] : _ = (List.map Cp.nm l)[List.idxOf a (List.map Cp.nm l)]'(List.idxOf_lt_length_of_mem (sub a (by simp)))).trans g2
      exact hr.1 (this ▸ hb)
  · obtain ⟨c, hc, rfl⟩ := List.mem_map.mp hx
    exact (ix_mem hn (hm c hc)).1
theorem filter_one {α : Type} [DecidableEq α] {a : α} : ∀ {L : List α}, L.Nodup → a ∈ L → L.filter (fun x => decide (x = a)) = [a]
  | b :: L, hn, h => by
    rw [List.nodup_cons] at hn
    by_cases e : b = a
    · subst e
      rw [List.filter_cons_of_pos (by simp)]
      congr 1
      rw [List.filter_eq_nil_iff]
      intro x hx
      simp only [decide_eq_true_eq]
      exact fun z => hn.1 (z ▸ hx)
    · rw [List.filter_cons_of_neg (by simpa using e)]
      exact filter_one hn.2 ((List.mem_cons.mp h).resolve_left fun z => e z.symm)
theorem rows_one {l r : List Cp} (hn : (l.map Cp.nm).Nodup) (p : r.Perm l) : (rowsOf l).filter (fun w => decide (w.map Cp.nm = r.map Cp.nm)) = [r] := by
  obtain ⟨h1, h2⟩ := rows_all hn p
  unfold rowsOf
  rw [List.filter_map]
  have e : (permsN l.length l.length).filter ((fun w : List Cp => decide (w.map Cp.nm = r.map Cp.nm)) ∘ fun q => q.map fun k => l.getD k cp0) = (permsN l.length l.length).filter fun q => decide (q = r.map (ix l)) := by
    refine List.filter_congr fun q hq => ?_
    rw [mem_perms] at hq
    show decide _ = decide _
    refine decide_eq_decide.mpr ⟨fun h => ?_, fun h => ?_⟩
    · have e1 : (q.map fun k => l.getD k cp0).map (ix l) = q := by
        rw [List.map_map]
        conv => rhs; rw [← List.map_id q]
        exact List.map_congr_left fun k hk => ix_at hn (hq.2.2 k hk)
      rw [← e1]
      have e2 : ∀ w : List Cp, w.map (ix l) = (w.map Cp.nm).map fun n => (l.map Cp.nm).idxOf n := fun w => by rw [List.map_map]; rfl
      rw [e2, h, ← e2]
    · rw [h]; show ((r.map (ix l)).map fun k => l.getD k cp0).map Cp.nm = _; rw [h2]
  rw [e, filter_one (perms_nodup _ _) h1, List.map_singleton, h2]
/-! the least and the greatest -/
def lowF (a : Rat) : List Rat → Rat
  | [] => a
  | x :: l => lowF (if x < a then x else a) l
def highF (a : Rat) : List Rat → Rat
  | [] => a
  | x :: l => highF (if a < x then x else a) l
theorem low_is {m : Rat} : ∀ (l : List Rat) (a : Rat), m ≤ a → (∀ x ∈ l, m ≤ x) → (a = m ∨ m ∈ l) → lowF a l = m
  | [], a, _, _, h => h.resolve_right List.not_mem_nil
  | x :: l, a, h1, h2, h => by
    show lowF (if x < a then x else a) l = m
    have hx := h2 x (by simp)
    refine low_is l _ (by split <;> assumption) (fun y hy => h2 y (by simp [hy])) ?_
    rcases h with h | h
    · subst h
      exact .inl (if_neg (Rat.not_lt.mpr hx))
    · rcases List.mem_cons.mp h with g | g
      · subst g
        by_cases q : m < a
        · exact .inl (if_pos q)
        · rw [if_neg q]; exact .inl (Rat.le_antisymm (Rat.not_lt.mp q) h1)
      · exact .inr g
theorem high_is {m : Rat} : ∀ (l : List Rat) (a : Rat), a ≤ m → (∀ x ∈ l, x ≤ m) → (a = m ∨ m ∈ l) → highF a l = m
  | [], a, _, _, h => h.resolve_right List.not_mem_nil
  | x :: l, a, h1, h2, h => by
    show highF (if a < x then x else a) l = m
    have hx := h2 x (by simp)
    refine high_is l _ (by split <;> assumption) (fun y hy => h2 y (by simp [hy])) ?_
    rcases h with h | h
    · subst h
      exact .inl (if_neg (Rat.not_lt.mpr hx))
    · rcases List.mem_cons.mp h with g | g
      · subst g
        by_cases q : a < m
        · exact .inl (if_pos q)
        · rw [if_neg q]; exact .inl (Rat.le_antisymm h1 (Rat.not_lt.mp q))
      · exact .inr g
end K10

namespace K14
open PySem PySem.Spec PyProof.Rows L2 DL
open K10 (Cp CpOk cp0 good gdB offF prodF mk runF place ins insAll cpD csD nmD strL)
structure Cps (l : List Cp) : Prop where
  ok : ∀ c ∈ l, CpOk c
  nd : (l.map Cp.nm).Nodup
  le : l.length ≤ 12
def S_by_name : SpecD := fun ds Q => ∃ l, ds = [csD l] ∧ Cps l ∧ Q (.dic (l.map fun c => .inr c.nm) (l.map cpD))
/-- the order is that of the coupons r -/
structure Ord (l r : List Cp) : Prop where
  sub : ∀ c ∈ r, c ∈ l
  nd : (r.map Cp.nm).Nodup
def S_checked : SpecD := fun ds Q => ∃ l r, ds = [csD l, nmD r] ∧ Cps l ∧ Ord l r ∧ Q (csD r)
def S_made : SpecD := fun ds Q => ∃ c x, ds = [cpD c, qD x] ∧ CpOk c ∧ bz x ≤ 1000 ∧ Q (qD (mk c x))
def S_used : SpecD := fun ds Q => ∃ l r x, ds = [csD l, nmD r, qD x] ∧ Cps l ∧ Ord l r ∧ bz x ≤ 500 ∧ Q (qD (runF x r))
def S_joined : SpecD := fun ds Q => ∃ l r, ds = [csD l, nmD r] ∧ Cps l ∧ Ord l r ∧ Q (.tup [qD (prodF 1 r), qD (offF 0 r)])
def S_weights : SpecD := fun ds Q => ∃ a b, ds = [cpD a, cpD b] ∧ CpOk a ∧ CpOk b ∧ Q (.tup [qD (b.of * (1 - a.pt)), qD (a.of * (1 - b.pt))])
def S_in_good_order : SpecD := fun ds Q => ∃ a b, ds = [cpD a, cpD b] ∧ CpOk a ∧ CpOk b ∧ Q (.bl (decide (good a b)))
/-- some row of them in good order -/
def S_sorted_in : SpecD := fun ds Q => ∃ l, ds = [csD l] ∧ Cps l ∧ ∀ r : List Cp, r.Perm l → r.Pairwise good → Q (csD r)
def S_best_order : SpecD := fun ds Q => ∃ l, ds = [csD l] ∧ Cps l ∧ ∀ r : List Cp, r.Perm l → r.Pairwise good → Q (nmD r)
def S_bounds : SpecD := fun ds Q => ∃ l, ds = [csD l] ∧ Cps l ∧ ∀ r : List Cp, r.Perm l → r.Pairwise good → Q (.tup [qD (offF 0 r.reverse), qD (offF 0 r)])

/-- the smaller of two that may be missing -/
def smO : Option Rat → Option Rat → Option Rat
  | none, b => b
  | some a, none => some a
  | some a, some b => some (if b < a then b else a)
def optD : Option Rat → D
  | none => .non
  | some x => qD x
/-- the least price with c of the first i -/
def tb (x : Rat) (r : List Cp) : Nat → Nat → Option Rat
  | 0, 0 => some x
  | 0, _ + 1 => none
  | i + 1, 0 => smO (tb x r i 0) none
  | i + 1, c + 1 => smO (tb x r i (c + 1)) ((tb x r i c).map (mk (r.getD i cp0)))
/-- the coupons that lead to it -/
def tr (x : Rat) (r : List Cp) : Nat → Nat → List Cp
  | 0, _ => []
  | i + 1, c => if tb x r i c = tb x r (i + 1) c then tr x r i c else tr x r i (c - 1) ++ [r.getD i cp0]
def S_smaller : SpecD := fun ds Q => ∃ a b, ds = [optD a, optD b] ∧ (∀ x, a = some x → bz x ≤ 1000) ∧ (∀ x, b = some x → bz x ≤ 1000) ∧ Q (optD (smO a b))
def kyT (i c : Int) : List Key := [.inl i, .inl c]
structure TabOk (x : Rat) (r : List Cp) (k : Nat) (ks : List (List Key)) (ds : List D) : Prop where
  len : ks.length = ds.length
  at_ : ∀ i c : Nat, lk ks ds (kyT i c) = if i ≤ r.length ∧ c ≤ min i k then some (optD (tb x r i c)) else none
/-- row as sorted_in leaves it -/
structure RowOk (r : List Cp) : Prop where
  ok : ∀ c ∈ r, CpOk c
  le : r.length ≤ 12
def S_few_table : SpecD := fun ds Q => ∃ (r : List Cp) (x : Rat) (k : Nat), ds = [csD r, qD x, .int (k : Nat)] ∧ RowOk r ∧ bz x ≤ 100 ∧ k ≤ 1000 ∧ ∀ ks es, TabOk x r k ks es → Q (.dct ks es)
def S_traced : SpecD := fun ds Q => ∃ (r : List Cp) (x : Rat) (k c : Nat) (ks : List (List Key)) (es : List D), ds = [csD r, .dct ks es, .int (c : Nat)] ∧ RowOk r ∧ TabOk x r k ks es ∧ c ≤ min r.length k ∧ Q (nmD (tr x r r.length c))
/-- u is a best choice of at most k coupons of the row -/
def Best (x : Rat) (r : List Cp) (k : Nat) (u : List Cp) : Prop := u.Sublist r ∧ u.length ≤ k ∧ ∀ v : List Cp, v.Sublist r → v.length ≤ k → runF x u ≤ runF x v
def S_best_few : SpecD := fun ds Q => ∃ (l : List Cp) (x : Rat) (k : Nat), ds = [csD l, qD x, .int (k : Nat)] ∧ Cps l ∧ bz x ≤ 100 ∧ 0 ≤ x ∧ k ≤ 1000 ∧
  ∀ (r u : List Cp) (d e : D), r.Perm l → r.Pairwise good → Best x r k u → Q (.tup [qD (runF x u), nmD u, d, e])
def S_law_fraction : SpecD := fun ds Q => ∃ m p : Nat, ds = [.pool, .int (m : Nat), .int (p : Nat)] ∧ m ≤ 10000 ∧ 1 ≤ p ∧ p ≤ 9 ∧ ∀ x : Rat, 0 ≤ x → bz x ≤ 40 → (m ≤ 1000 → bz x ≤ 11) → Q (qD x)
def S_law_turned : SpecD := fun ds Q => ∃ xs : List D, ds = [.pool, .lst xs] ∧ xs.length ≤ 1000 ∧ ∀ k : Nat, Q (.lst (xs.drop k ++ xs.take k))
def S_law_coupons : SpecD := fun ds Q => ∃ m : Nat, ds = [.pool, .int (m : Nat)] ∧ m ≤ 12 ∧ ∀ l, Cps l → Q (csD l)
def S_law_off : SpecD := fun ds Q => ∃ r : List Cp, ds = [csD r] ∧ RowOk r ∧ Q (qD (offF 0 r))
def S_law_made : SpecD := S_made
def S_law_run : SpecD := fun ds Q => ∃ (r : List Cp) (x : Rat), ds = [csD r, qD x] ∧ RowOk r ∧ bz x ≤ 100 ∧ Q (qD (runF x r))
def S_law_drawn : SpecD := fun ds Q => ∃ l : List Cp, ds = [.pool, csD l] ∧ l.length ≤ 12 ∧ ∀ r : List Cp, r.Perm l → Q (csD r)
def S_law_by_names : SpecD := fun ds Q => ∃ l r : List Cp, ds = [csD l, nmD r] ∧ Cps l ∧ Ord l r ∧ Q (csD r)
end K14

namespace K14
open PySem PySem.Spec PyProof.Rows L2 DL
def c_UNIT : D := .tup [.int 1, .int 1]
def c_NOUGHT : D := .tup [.int 0, .int 1]
/-- by_name: coupons 0, found 1, coupon 2 -/
def r_by_name_6 : DS := (dFz 1 (dRet (dVar 1)))
def r_by_name_5 : DS := (dPut 1 (dOp rdIx (dVarO 2) (dC (.int 0))) (dVar 2))
def b_by_name_2 : DS := (dSeq (dIfS (dTst (dOp rdIn (dOp rdIx (dVarO 2) (dC (.int 0))) (dVarO 1))) dBot dNext) r_by_name_5)
def r_by_name_2 : DS := (dSeq (dFor (dIter (dVar 0)) (gN 2) b_by_name_2) r_by_name_6)
def p_by_name : DS := (dSeq (dOwn 1 dNew) r_by_name_2)
/-- checked: coupons 0, order 1, known 2, name 3, seen 4 -/
def r_checked_10 : DS := (dRet (dLc (dIter (dVar 1)) (gN 3) [3] dYes (dOp rdIx (dVarO 2) (dVarO 3))))
def r_checked_9 : DS := (dPut 4 (dVar 3) (dC (.bl true)))
def b_checked_6 : DS := (dSeq (dIfS (dTst (dOp rdIn (dVarO 3) (dVarO 4))) dBot dNext) r_checked_9)
def r_checked_6 : DS := (dSeq (dFor (dIter (dVar 1)) (gN 3) b_checked_6) r_checked_10)
def r_checked_5 : DS := (dSeq (dOwn 4 dNew) r_checked_6)
def b_checked_2 : DS := (dIfS (dTst (dOp rdNotIn (dVarO 3) (dVarO 2))) dBot dNext)
def r_checked_2 : DS := (dSeq (dFor (dIter (dVar 1)) (gN 3) b_checked_2) r_checked_5)
def p_checked : DS := (dSeq (dAsg 2 (dCall S_by_name (dConsA (dVar 0) dNilA))) r_checked_2)
/-- made: coupon 0, price 1 -/
def p_made : DS := (dRet (dCall S_most (dConsA (dC c_NOUGHT) (dConsA (dCall S_minus (dConsA (dCall S_times (dConsA (dOp rdIx (dVarO 0) (dC (.int 1))) (dConsA (dVar 1) dNilA))) (dConsA (dOp rdIx (dVarO 0) (dC (.int 2))) dNilA))) dNilA))))
/-- used: coupons 0, order 1, price 2, coupon 3 -/
def r_used_3 : DS := (dRet (dVar 2))
def b_used_1 : DS := (dAsg 2 (dCall S_made (dConsA (dVar 3) (dConsA (dVar 2) dNilA))))
def p_used : DS := (dSeq (dFor (dIter (dCall S_checked (dConsA (dVar 0) (dConsA (dVar 1) dNilA)))) (gN 3) b_used_1) r_used_3)
/-- joined: coupons 0, order 1, part 2, off 3, coupon 4 -/
def r_joined_6 : DS := (dRet (dTup (dConsA (dVar 2) (dConsA (dVar 3) dNilA))))
def r_joined_5 : DS := (dAsg 3 (dCall S_plus (dConsA (dCall S_times (dConsA (dVar 3) (dConsA (dOp rdIx (dVarO 4) (dC (.int 1))) dNilA))) (dConsA (dOp rdIx (dVarO 4) (dC (.int 2))) dNilA))))
def b_joined_3 : DS := (dSeq (dAsg 2 (dCall S_times (dConsA (dVar 2) (dConsA (dOp rdIx (dVarO 4) (dC (.int 1))) dNilA)))) r_joined_5)
def r_joined_3 : DS := (dSeq (dFor (dIter (dCall S_checked (dConsA (dVar 0) (dConsA (dVar 1) dNilA)))) (gN 4) b_joined_3) r_joined_6)
def r_joined_2 : DS := (dSeq (dAsg 3 (dC c_NOUGHT)) r_joined_3)
def p_joined : DS := (dSeq (dAsg 2 (dC c_UNIT)) r_joined_2)
/-- weights: one 0, other 1, ahead 2, behind 3 -/
def r_weights_3 : DS := (dRet (dTup (dConsA (dVar 2) (dConsA (dVar 3) dNilA))))
def r_weights_2 : DS := (dSeq (dAsg 3 (dCall S_times (dConsA (dOp rdIx (dVarO 0) (dC (.int 2))) (dConsA (dCall S_minus (dConsA (dC c_UNIT) (dConsA (dOp rdIx (dVarO 1) (dC (.int 1))) dNilA))) dNilA)))) r_weights_3)
def p_weights : DS := (dSeq (dAsg 2 (dCall S_times (dConsA (dOp rdIx (dVarO 1) (dC (.int 2))) (dConsA (dCall S_minus (dConsA (dC c_UNIT) (dConsA (dOp rdIx (dVarO 0) (dC (.int 1))) dNilA))) dNilA)))) r_weights_2)
/-- in_good_order: one 0, other 1, ahead 2, behind 3 -/
def r_in_good_order_2 : DS := (dRet (dNotV (dCall S_less (dConsA (dVar 2) (dConsA (dVar 3) dNilA)))))
def p_in_good_order : DS := (dSeq (dAsgT (dCall S_weights (dConsA (dVar 0) (dConsA (dVar 1) dNilA))) (gT 2 (gsCons (gN 2) (gsCons (gN 3) gsNil)))) r_in_good_order_2)
/-- smaller: one 0, other 1 -/
def r_smaller_3 : DS := (dRet (dCall S_least (dConsA (dVar 0) (dConsA (dVar 1) dNilA))))
def p_smaller : DS := (dSeq (dIfS (dOr (dTst (dOp rdIs (dVarO 0) (dC .non))) (dTst (dOp rdIs (dVarO 1) (dC .non)))) (dRet (dIf (dTst (dOp rdIs (dVarO 0) (dC .non))) (dVar 1) (dVar 0))) dNext) r_smaller_3)
/-- sorted_in: coupons 0, found 1, coupon 2, place 3 -/
def r_sorted_in_7 : DS := (dFz 1 (dRet (dVar 1)))
def r_sorted_in_6 : DS := (dMth 1 rdInsert (dConsA (dVar 3) (dConsA (dVar 2) dNilA)))
def b_sorted_in_4 : DS := (dAsg 3 (dOp rdAdd (dVarO 3) (dC (.int 1))))
def r_sorted_in_4 : DS := (dSeq (dWhile (dAnd (dTst (dOp rdLt (dVarO 3) (dCB rdLen (dConsA (dVarO 1) dNilA)))) (dNot (dTst (dCall S_in_good_order (dConsA (dVar 2) (dConsA (dOp rdIx (dVarO 1) (dVarO 3)) dNilA)))))) b_sorted_in_4) r_sorted_in_6)
def b_sorted_in_2 : DS := (dSeq (dAsg 3 (dC (.int 0))) r_sorted_in_4)
def r_sorted_in_2 : DS := (dSeq (dFor (dIter (dCB rdSorted (dConsA (dVarO 0) dNilA))) (gN 2) b_sorted_in_2) r_sorted_in_7)
def p_sorted_in : DS := (dSeq (dOwn 1 (dLst dNilA)) r_sorted_in_2)
/-- best_order: coupons 0, coupon 1 -/
def p_best_order : DS := (dRet (dLc (dIter (dCall S_sorted_in (dConsA (dVals (dCall S_by_name (dConsA (dVar 0) dNilA))) dNilA))) (gN 1) [1] dYes (dOp rdIx (dVarO 1) (dC (.int 0)))))
/-- bounds: coupons 0, order 1 -/
def r_bounds_2 : DS := (dRet (dTup (dConsA (dOp rdIx (dCall S_joined (dConsA (dVar 0) (dConsA (dRev (dVarO 1)) dNilA))) (dC (.int 1))) (dConsA (dOp rdIx (dCall S_joined (dConsA (dVar 0) (dConsA (dVar 1) dNilA))) (dC (.int 1))) dNilA))))
def p_bounds : DS := (dSeq (dAsg 1 (dCall S_best_order (dConsA (dVar 0) dNilA))) r_bounds_2)
/-- few_table: row 0, price 1, k 2, table 3, i 4, c 5, kept 6, taken 7 -/
def r_few_table_7 : DS := (dFz 3 (dRet (dVar 3)))
def r_few_table_6 : DS := (dPutT 3 (dTupK (dConsA (dVar 4) (dConsA (dVar 5) dNilA))) (dCall S_smaller (dConsA (dVar 6) (dConsA (dIf (dTst (dOp rdIs (dVarO 7) (dC .non))) (dC .non) (dCall S_made (dConsA (dOp rdIx (dVarO 0) (dOp rdSub (dVarO 4) (dC (.int 1)))) (dConsA (dVar 7) dNilA)))) dNilA))))
def r_few_table_5 : DS := (dSeq (dAsg 7 (dGetT1 (dVarO 3) (dTupK (dConsA (dOp rdSub (dVarO 4) (dC (.int 1))) (dConsA (dOp rdSub (dVarO 5) (dC (.int 1))) dNilA))))) r_few_table_6)
def b_few_table_3 : DS := (dSeq (dAsg 6 (dGetT1 (dVarO 3) (dTupK (dConsA (dOp rdSub (dVarO 4) (dC (.int 1))) (dConsA (dVar 5) dNilA))))) r_few_table_5)
def b_few_table_2 : DS := (dFor (dRng (dConsA (dOp rdAdd (dCB rdMin2 (dConsA (dVarO 4) (dConsA (dVarO 2) dNilA))) (dC (.int 1))) dNilA)) (gN 5) b_few_table_3)
def r_few_table_2 : DS := (dSeq (dFor (dRng (dConsA (dC (.int 1)) (dConsA (dOp rdAdd (dCB rdLen (dConsA (dVarO 0) dNilA)) (dC (.int 1))) dNilA))) (gN 4) b_few_table_2) r_few_table_7)
def p_few_table : DS := (dSeq (dOwn 3 (dDispT (dTupK (dConsA (dC (.int 0)) (dConsA (dC (.int 0)) dNilA))) (dVar 1))) r_few_table_2)
/-- traced: row 0, table 1, c 2, names 3, i 4 -/
def r_traced_6 : DS := (dRet (dRev (dVarO 3)))
def r_traced_5 : DS := (dAsg 2 (dOp rdSub (dVarO 2) (dC (.int 1))))
def b_traced_2 : DS := (dIfS (dTst (dOp rdNe (dGetT1 (dVarO 1) (dTupK (dConsA (dOp rdSub (dVarO 4) (dC (.int 1))) (dConsA (dVar 2) dNilA)))) (dOp rdIx (dVarO 1) (dTupK (dConsA (dVar 4) (dConsA (dVar 2) dNilA)))))) (dSeq (dApp 3 (dOp rdIx (dOp rdIx (dVarO 0) (dOp rdSub (dVarO 4) (dC (.int 1)))) (dC (.int 0)))) r_traced_5) dNext)
def r_traced_2 : DS := (dSeq (dFor (dRng3 (dConsA (dCB rdLen (dConsA (dVarO 0) dNilA)) (dConsA (dC (.int 0)) (dConsA (dUn rdNeg (dC (.int 1))) dNilA)))) (gN 4) b_traced_2) r_traced_6)
def p_traced : DS := (dSeq (dOwn 3 (dLst dNilA)) r_traced_2)
/-- best_few: coupons 0, price 1, k 2, row 3, table 4, best 5, c 6, coupon 7 -/
def r_best_few_7 : DS := (dRet (dTup (dConsA (dOp rdIx (dVarO 4) (dTupK (dConsA (dCB rdLen (dConsA (dVarO 3) dNilA)) (dConsA (dVar 5) dNilA)))) (dConsA (dCall S_traced (dConsA (dVar 3) (dConsA (dVar 4) (dConsA (dVar 5) dNilA)))) (dConsA (dVar 4) (dConsA (dLc (dIter (dVar 3)) (gN 7) [7] dYes (dOp rdIx (dVarO 7) (dC (.int 0)))) dNilA))))))
def b_best_few_4 : DS := (dIfS (dTst (dCall S_less (dConsA (dOp rdIx (dVarO 4) (dTupK (dConsA (dCB rdLen (dConsA (dVarO 3) dNilA)) (dConsA (dVar 6) dNilA)))) (dConsA (dOp rdIx (dVarO 4) (dTupK (dConsA (dCB rdLen (dConsA (dVarO 3) dNilA)) (dConsA (dVar 5) dNilA)))) dNilA)))) (dAsg 5 (dVar 6)) dNext)
def r_best_few_4 : DS := (dSeq (dFor (dRng (dConsA (dOp rdAdd (dCB rdMin2 (dConsA (dCB rdLen (dConsA (dVarO 3) dNilA)) (dConsA (dVarO 2) dNilA))) (dC (.int 1))) dNilA)) (gN 6) b_best_few_4) r_best_few_7)
def r_best_few_3 : DS := (dSeq (dAsg 5 (dC (.int 0))) r_best_few_4)
def r_best_few_2 : DS := (dSeq (dAsg 4 (dCall S_few_table (dConsA (dVar 3) (dConsA (dVar 1) (dConsA (dVar 2) dNilA))))) r_best_few_3)
def p_best_few : DS := (dSeq (dAsg 3 (dCall S_sorted_in (dConsA (dVals (dCall S_by_name (dConsA (dVar 0) dNilA))) dNilA))) r_best_few_2)
/-- law_fraction: pool 0, most_v 1, parts 2 -/
def p_law_fraction : DS := (dRet (dCall S_law_ratio (dConsA (dCall S_law_draw (dConsA (dVar 0) (dConsA (dOp rdAdd (dVarO 1) (dC (.int 1))) dNilA))) (dConsA (dOp rdAdd (dC (.int 1)) (dCall S_law_draw (dConsA (dVar 0) (dConsA (dVar 2) dNilA)))) dNilA))))
/-- law_turned: pool 0, items 1, place 2 -/
def r_law_turned_2 : DS := (dRetF (dCat (dSl (dVarO 1) (dSmP (dVar 2)) dNoP) (dSl (dVarO 1) dNoP (dSmP (dVar 2)))))
def p_law_turned : DS := (dSeq (dAsg 2 (dIf (dTst (dOp rdGt (dCB rdLen (dConsA (dVarO 1) dNilA)) (dC (.int 0)))) (dCall S_law_draw (dConsA (dVar 0) (dConsA (dCB rdLen (dConsA (dVarO 1) dNilA)) dNilA))) (dC (.int 0)))) r_law_turned_2)
/-- law_coupons: pool 0, most_v 1, found 2, k 3, part 4, off 5 -/
def r_law_coupons_10 : DS := (dFz 2 (dRetF (dCall S_law_turned (dConsA (dVar 0) (dConsA (dVar 2) dNilA)))))
def r_law_coupons_9 : DS := (dApp 2 (dTup (dConsA (dOp rdAdd (dCall S_law_pick (dConsA (dVar 0) (dConsA (dLst (dConsA (dC (.str (Str.ofString "c"))) (dConsA (dC (.str (Str.ofString "k"))) (dConsA (dC (.str (Str.ofString "w"))) dNilA)))) dNilA))) (dCB rdStr (dConsA (dVarO 3) dNilA))) (dConsA (dVar 4) (dConsA (dVar 5) dNilA)))))
def r_law_coupons_7 : DS := (dSeq (dIfS (dAnd (dTst (dOp rdEq (dOp rdIx (dVarO 4) (dC (.int 0))) (dOp rdIx (dVarO 4) (dC (.int 1))))) (dTst (dOp rdEq (dOp rdIx (dVarO 5) (dC (.int 0))) (dC (.int 0))))) (dAsg 5 (dTup (dConsA (dC (.int 1)) (dConsA (dC (.int 1)) dNilA)))) dNext) r_law_coupons_9)
def r_law_coupons_5 : DS := (dSeq (dIfS (dAnd (dTst (dOp rdEq (dVarO 4) (dTup (dConsA (dC (.int 1)) (dConsA (dC (.int 1)) dNilA))))) (dTst (dOp rdEq (dVarO 5) (dTup (dConsA (dC (.int 0)) (dConsA (dC (.int 1)) dNilA)))))) (dAsg 5 (dTup (dConsA (dC (.int 3)) (dConsA (dC (.int 1)) dNilA)))) dNext) r_law_coupons_7)
def r_law_coupons_4 : DS := (dSeq (dAsg 5 (dCall S_law_pick (dConsA (dVar 0) (dConsA (dLst (dConsA (dTup (dConsA (dC (.int 0)) (dConsA (dC (.int 1)) dNilA))) (dConsA (dTup (dConsA (dC (.int 5)) (dConsA (dC (.int 1)) dNilA))) (dConsA (dTup (dConsA (dC (.int 10)) (dConsA (dC (.int 1)) dNilA))) (dConsA (dCall S_law_fraction (dConsA (dVar 0) (dConsA (dC (.int 40)) (dConsA (dC (.int 6)) dNilA)))) dNilA))))) dNilA)))) r_law_coupons_5)
def b_law_coupons_2 : DS := (dSeq (dAsg 4 (dCall S_law_pick (dConsA (dVar 0) (dConsA (dLst (dConsA (dTup (dConsA (dC (.int 1)) (dConsA (dC (.int 1)) dNilA))) (dConsA (dTup (dConsA (dC (.int 1)) (dConsA (dC (.int 2)) dNilA))) (dConsA (dTup (dConsA (dC (.int 9)) (dConsA (dC (.int 10)) dNilA))) (dConsA (dTup (dConsA (dC (.int 2)) (dConsA (dC (.int 3)) dNilA))) (dConsA (dCall S_law_ratio (dConsA (dOp rdAdd (dC (.int 1)) (dCall S_law_draw (dConsA (dVar 0) (dConsA (dC (.int 99)) dNilA)))) (dConsA (dC (.int 100)) dNilA))) dNilA)))))) dNilA)))) r_law_coupons_4)
def r_law_coupons_2 : DS := (dSeq (dFor (dRng (dConsA (dCall S_law_draw (dConsA (dVar 0) (dConsA (dOp rdAdd (dVarO 1) (dC (.int 1))) dNilA))) dNilA)) (gN 3) b_law_coupons_2) r_law_coupons_10)
def p_law_coupons : DS := (dSeq (dOwn 2 (dLst dNilA)) r_law_coupons_2)
/-- law_off: coupons 0, found 1, coupon 2 -/
def r_law_off_4 : DS := (dRet (dVar 1))
def b_law_off_2 : DS := (dAsg 1 (dCall S_law_add (dConsA (dCall S_law_mul (dConsA (dVar 1) (dConsA (dOp rdIx (dVarO 2) (dC (.int 1))) dNilA))) (dConsA (dOp rdIx (dVarO 2) (dC (.int 2))) dNilA))))
def r_law_off_2 : DS := (dSeq (dFor (dIter (dVar 0)) (gN 2) b_law_off_2) r_law_off_4)
def p_law_off : DS := (dSeq (dAsg 1 (dTup (dConsA (dC (.int 0)) (dConsA (dC (.int 1)) dNilA)))) r_law_off_2)
/-- law_made: coupon 0, price 1, found 2 -/
def r_law_made_2 : DS := (dRet (dIf (dTst (dOp rdLt (dOp rdIx (dVarO 2) (dC (.int 0))) (dC (.int 0)))) (dTup (dConsA (dC (.int 0)) (dConsA (dC (.int 1)) dNilA))) (dVar 2)))
def p_law_made : DS := (dSeq (dAsg 2 (dCall S_law_sub (dConsA (dCall S_law_mul (dConsA (dOp rdIx (dVarO 0) (dC (.int 1))) (dConsA (dVar 1) dNilA))) (dConsA (dOp rdIx (dVarO 0) (dC (.int 2))) dNilA)))) r_law_made_2)
/-- law_run: coupons 0, price 1, coupon 2 -/
def r_law_run_3 : DS := (dRet (dVar 1))
def b_law_run_1 : DS := (dAsg 1 (dCall S_law_made (dConsA (dVar 2) (dConsA (dVar 1) dNilA))))
def p_law_run : DS := (dSeq (dFor (dIter (dVar 0)) (gN 2) b_law_run_1) r_law_run_3)
/-- law_drawn: pool 0, items 1, left 2, found 3, turn 4 -/
def r_law_drawn_5 : DS := (dFz 3 (dRet (dVar 3)))
def b_law_drawn_3 : DS := (dAppPop 3 2 (dCall S_law_draw (dConsA (dVar 0) (dConsA (dCB rdLen (dConsA (dVarO 2) dNilA)) dNilA))))
def r_law_drawn_3 : DS := (dSeq (dFor (dRng (dConsA (dCB rdLen (dConsA (dVarO 1) dNilA)) dNilA)) (gN 4) b_law_drawn_3) r_law_drawn_5)
def r_law_drawn_2 : DS := (dSeq (dOwn 3 (dLst dNilA)) r_law_drawn_3)
def p_law_drawn : DS := (dSeq (dOwn 2 (dCB rdList (dConsA (dVarO 1) dNilA))) r_law_drawn_2)
/-- law_by_names: coupons 0, names 1, found 2, name 3, coupon 4 -/
def r_law_by_names_4 : DS := (dRet (dVar 2))
def b_law_by_names_2 : DS := (dAsg 2 (dOp rdAdd (dVarO 2) (dLc (dIter (dVar 0)) (gN 4) [4] (dTst (dOp rdEq (dOp rdIx (dVarO 4) (dC (.int 0))) (dVarO 3))) (dVar 4))))
def r_law_by_names_2 : DS := (dSeq (dFor (dIter (dVar 1)) (gN 3) b_law_by_names_2) r_law_by_names_4)
def p_law_by_names : DS := (dSeq (dAsg 2 (dLst dNilA)) r_law_by_names_2)
/-- law: script 0, pool 1, coupons 2, names 3, row 4, number 5, parts 6, turn 7, before 8, k 9, low 10, high 11, drawn 12, order 13, off 14, cut 15, first 16, second 17, middle 18, told 19, few 20, coupon 21 -/
def r_law_37 : DS := (dRet (dCall S_law_same (dConsA (dVar 8) (dConsA (dCall S_used (dConsA (dVar 2) (dConsA (dVar 3) (dConsA (dVar 5) dNilA)))) dNilA))))
def r_law_35 : DS := (dIfS (dTst (dCall S_law_less (dConsA (dCall S_law_run (dConsA (dVar 20) (dConsA (dVar 5) dNilA))) (dConsA (dOp rdIx (dVarO 19) (dC (.int 0))) dNilA)))) (dRet (dC (.bl false))) dNext)
def r_law_34 : DS := (dSeq (dAsg 20 (dSl (dCall S_law_drawn (dConsA (dVar 1) (dConsA (dVar 2) dNilA))) dNoP (dSmP (dVar 9)))) r_law_35)
def r_law_32 : DS := (dSeq (dIfS (dOr (dTst (dOp rdGt (dCB rdLen (dConsA (dOp rdIx (dVarO 19) (dC (.int 1))) dNilA)) (dVarO 9))) (dTst (dOp rdNe (dCall S_law_run (dConsA (dCall S_law_by_names (dConsA (dVar 2) (dConsA (dOp rdIx (dVarO 19) (dC (.int 1))) dNilA))) (dConsA (dVar 5) dNilA))) (dOp rdIx (dVarO 19) (dC (.int 0)))))) (dRet (dC (.bl false))) dNext) r_law_34)
def r_law_31 : DS := (dSeq (dAsg 8 (dOp rdIx (dVarO 19) (dC (.int 0)))) r_law_32)
def r_law_29 : DS := (dSeq (dIfS (dAnd (dTst (dOp rdIsNot (dVarO 8) (dC .non))) (dTst (dCall S_law_less (dConsA (dVar 8) (dConsA (dOp rdIx (dVarO 19) (dC (.int 0))) dNilA))))) (dRet (dC (.bl false))) dNext) r_law_31)
def b_law_27 : DS := (dSeq (dAsg 19 (dCall S_best_few (dConsA (dVar 2) (dConsA (dVar 5) (dConsA (dVar 9) dNilA))))) r_law_29)
def r_law_27 : DS := (dSeq (dFor (dRng (dConsA (dOp rdAdd (dCB rdLen (dConsA (dVarO 2) dNilA)) (dC (.int 1))) dNilA)) (gN 9) b_law_27) r_law_37)
def r_law_26 : DS := (dSeq (dAsg 8 (dC .non)) r_law_27)
def r_law_24 : DS := (dIfS (dNot (dTst (dCall S_law_same (dConsA (dCall S_used (dConsA (dVar 2) (dConsA (dSl (dVarO 13) (dSmP (dVar 15)) dNoP) (dConsA (dVar 18) dNilA)))) (dConsA (dCall S_used (dConsA (dVar 2) (dConsA (dVar 13) (dConsA (dVar 5) dNilA)))) dNilA))))) (dRet (dC (.bl false))) dNext)
def r_law_23 : DS := (dSeq (dAsg 18 (dCall S_used (dConsA (dVar 2) (dConsA (dSl (dVarO 13) dNoP (dSmP (dVar 15))) (dConsA (dVar 5) dNilA))))) r_law_24)
def r_law_21 : DS := (dSeq (dIfS (dOr (dTst (dOp rdNe (dCall S_law_mul (dConsA (dOp rdIx (dVarO 16) (dC (.int 0))) (dConsA (dOp rdIx (dVarO 17) (dC (.int 0))) dNilA))) (dVarO 6))) (dTst (dOp rdNe (dCall S_law_add (dConsA (dCall S_law_mul (dConsA (dOp rdIx (dVarO 16) (dC (.int 1))) (dConsA (dOp rdIx (dVarO 17) (dC (.int 0))) dNilA))) (dConsA (dOp rdIx (dVarO 17) (dC (.int 1))) dNilA))) (dVarO 14)))) (dRet (dC (.bl false))) dNext) r_law_23)
def r_law_20 : DS := (dSeq (dAsg 17 (dCall S_joined (dConsA (dVar 2) (dConsA (dSl (dVarO 13) (dSmP (dVar 15)) dNoP) dNilA)))) r_law_21)
def r_law_19 : DS := (dSeq (dAsg 16 (dCall S_joined (dConsA (dVar 2) (dConsA (dSl (dVarO 13) dNoP (dSmP (dVar 15))) dNilA)))) r_law_20)
def r_law_18 : DS := (dSeq (dAsg 15 (dCall S_law_draw (dConsA (dVar 1) (dConsA (dOp rdAdd (dCB rdLen (dConsA (dVarO 13) dNilA)) (dC (.int 1))) dNilA)))) r_law_19)
def r_law_16 : DS := (dSeq (dIfS (dOr (dTst (dCall S_law_less (dConsA (dVar 11) (dConsA (dVar 14) dNilA)))) (dOr (dTst (dCall S_law_less (dConsA (dVar 14) (dConsA (dVar 10) dNilA)))) (dNot (dTst (dCall S_law_same (dConsA (dCall S_joined (dConsA (dVar 2) (dConsA (dVar 13) dNilA))) (dConsA (dTup (dConsA (dVar 6) (dConsA (dVar 14) dNilA))) dNilA))))))) (dRet (dC (.bl false))) dNext) r_law_18)
def r_law_15 : DS := (dSeq (dAsg 14 (dCall S_law_off (dConsA (dVar 12) dNilA))) r_law_16)
def r_law_14 : DS := (dSeq (dAsg 13 (dLc (dIter (dVar 12)) (gN 21) [21] dYes (dOp rdIx (dVarO 21) (dC (.int 0))))) r_law_15)
def r_law_13 : DS := (dSeq (dAsg 12 (dCall S_law_drawn (dConsA (dVar 1) (dConsA (dVar 2) dNilA)))) r_law_14)
def b_law_11 : DS := (dSeq (dDrop (dCall S_law_next (dConsA (dVar 1) dNilA))) r_law_13)
def r_law_11 : DS := (dSeq (dFor (dRng (dConsA (dC (.int 5)) dNilA)) (gN 7) b_law_11) r_law_26)
def r_law_10 : DS := (dSeq (dAsg 6 (dOp rdIx (dCall S_joined (dConsA (dVar 2) (dConsA (dVar 3) dNilA))) (dC (.int 0)))) r_law_11)
def r_law_9 : DS := (dSeq (dAsg 5 (dCall S_law_pick (dConsA (dVar 1) (dConsA (dLst (dConsA (dTup (dConsA (dC (.int 100)) (dConsA (dC (.int 1)) dNilA))) (dConsA (dCall S_law_fraction (dConsA (dVar 1) (dConsA (dC (.int 3000)) (dConsA (dC (.int 7)) dNilA)))) (dConsA (dCall S_law_fraction (dConsA (dVar 1) (dConsA (dC (.int 40)) (dConsA (dC (.int 3)) dNilA)))) dNilA)))) dNilA)))) r_law_10)
def r_law_7 : DS := (dSeq (dIfS (dOr (dTst (dOp rdNe (dCB rdSorted (dConsA (dVarO 3) dNilA)) (dCB rdSorted (dConsA (dLc (dIter (dVar 2)) (gN 21) [21] dYes (dOp rdIx (dVarO 21) (dC (.int 0)))) dNilA)))) (dOr (dTst (dOp rdNe (dCall S_law_off (dConsA (dVar 4) dNilA)) (dVarO 11))) (dTst (dOp rdNe (dCall S_law_off (dConsA (dRev (dVarO 4)) dNilA)) (dVarO 10))))) (dRet (dC (.bl false))) dNext) r_law_9)
def r_law_6 : DS := (dSeq (dAsgT (dCall S_bounds (dConsA (dVar 2) dNilA)) (gT 2 (gsCons (gN 10) (gsCons (gN 11) gsNil)))) r_law_7)
def r_law_5 : DS := (dSeq (dAsg 4 (dCall S_law_by_names (dConsA (dVar 2) (dConsA (dVar 3) dNilA)))) r_law_6)
def r_law_4 : DS := (dSeq (dAsg 3 (dCall S_best_order (dConsA (dVar 2) dNilA))) r_law_5)
def r_law_3 : DS := (dSeq (dDrop (dCall S_law_next (dConsA (dVar 1) dNilA))) r_law_4)
def p_law : DS := (dSeq (dAsg 2 (dCall S_law_coupons (dConsA (dVar 1) (dConsA (dC (.int 12)) dNilA)))) r_law_3)
end K14

namespace K14
open PySem PySem.Spec PyProof.Rows L2 DL
open K10 (Cp CpOk cp0 good gdB offF prodF mk runF place ins insAll cpD csD nmD strL AllOk ins_perm ins_cons insAll_ok AllOk.perm)
abbrev ky (c : Cp) : Key := .inr c.nm
theorem pt_new {κ : Type} [DecidableEq κ] {ks : List κ} {ds : List D} {k : κ} {d : D} (h : k ∉ ks) : ptK ks k = ks ++ [k] ∧ ptD ks ds k d = ds ++ [d] := by
  have : ¬ hasK ks k = true := fun z => h (hasK_iff.mp z)
  unfold ptK ptD
  rw [if_neg this, if_neg this]
  exact ⟨rfl, rfl⟩
theorem ky_mem {c : Cp} {l : List Cp} : ky c ∈ l.map ky ↔ c.nm ∈ l.map Cp.nm := by
  rw [List.mem_map, List.mem_map]
  constructor
  · rintro ⟨d, hd, e⟩; exact ⟨d, hd, by injection e⟩
  · rintro ⟨d, hd, e⟩; exact ⟨d, hd, congrArg Sum.inr e⟩
theorem lk_cp {c : Cp} : ∀ {l : List Cp}, (l.map Cp.nm).Nodup → c ∈ l → lk (l.map ky) (l.map cpD) (ky c) = some (cpD c)
  | d :: l, hn, h => by
    rw [List.map_cons, List.nodup_cons] at hn
    rw [List.map_cons, List.map_cons]
    unfold lk
    rcases List.mem_cons.mp h with e | e
    · subst e
      rw [if_pos rfl]
    · rw [if_neg (fun z => hn.1 (by
        have : d.nm = c.nm := by injection z
        rw [this]; exact List.mem_map.mpr ⟨c, e, rfl⟩))]
      exact lk_cp hn.2 e
theorem name_loop {DD : DEnds} {c0 : Sl} : ∀ (r done : List Cp) (z : Sl), ((done ++ r).map Cp.nm).Nodup → (done ++ r).length ≤ 1000 → (∀ z, DD.nx [c0, .ow (.dic ((done ++ r).map ky) ((done ++ r).map cpD)), z]) →
    forL (gN 2) b_by_name_2 DD (r.map cpD) [c0, .ow (.dic (done.map ky) (done.map cpD)), z]
  | [], done, z, hn, hl, q => by
    have := q z
    rw [List.append_nil] at this
    exact this
  | c :: r, done, z, hn, hl, q => by
    have e : done ++ c :: r = (done ++ [c]) ++ r := by simp
    rw [e] at hn hl q
    have ih := name_loop (DD := DD) (c0 := c0) r (done ++ [c]) (.sh (cpD c)) hn hl q
    simp only [List.map_cons, forL, gN]
    generalize forL (gN 2) b_by_name_2 DD (r.map cpD) = F at ih ⊢
    have hc : ky c ∉ done.map ky := fun h => by
      rw [ky_mem] at h
      rw [List.map_append, List.map_append, List.append_assoc, List.nodup_append] at hn
      exact hn.2.2 _ h _ (by simp) rfl
    have hb : hasK (done.map ky) (ky c) = false := hasK_not.mpr hc
    unfold b_by_name_2 r_by_name_5
    show (if hasK (done.map ky) (ky c) = true then _ else _)
    rw [hb]
    refine ⟨by rw [List.length_map]; simp only [sizeLine]; simp at hl; omega, ?_⟩
    obtain ⟨e1, e2⟩ := pt_new (ds := done.map cpD) (d := cpD c) hc
    show F [c0, .ow (.dic (ptK (done.map ky) (ky c)) (ptD (done.map ky) (done.map cpD) (ky c) (cpD c))), .sh (cpD c)]
    rw [e1, e2]
    rw [List.map_append, List.map_append] at ih
    exact ih
theorem pure_by_name : PureD p_by_name S_by_name 3 1 := by
  rintro ds Q ⟨l, rfl, O, q⟩
  refine ⟨rfl, ?_⟩
  exact name_loop (DD := { fnEnds Q with nx := r_by_name_6 (fnEnds Q) }) l [] .no (by simpa using O.nd) (by have := O.le; simp; omega) fun z => q
theorem seen_loop {DD : DEnds} {c0 c1 c2 : Sl} : ∀ (r done : List Cp) (z : Sl), ((done ++ r).map Cp.nm).Nodup → (done ++ r).length ≤ 1000 → (∀ z y, DD.nx [c0, c1, c2, z, y]) →
    forL (gN 3) b_checked_6 DD (r.map fun c => D.str c.nm) [c0, c1, c2, z, .ow (.dic (done.map ky) (done.map fun _ => D.bl true))]
  | [], done, z, hn, hl, q => q _ _
  | c :: r, done, z, hn, hl, q => by
    have e : done ++ c :: r = (done ++ [c]) ++ r := by simp
    rw [e] at hn hl
    have ih := seen_loop (DD := DD) (c0 := c0) (c1 := c1) (c2 := c2) r (done ++ [c]) (.sh (.str c.nm)) hn hl q
    simp only [List.map_cons, forL, gN]
    generalize forL (gN 3) b_checked_6 DD (r.map fun c => D.str c.nm) = F at ih ⊢
    have hc : ky c ∉ done.map ky := fun h => by
      rw [ky_mem] at h
      rw [List.map_append, List.map_append, List.append_assoc, List.nodup_append] at hn
      exact hn.2.2 _ h _ (by simp) rfl
    have hb : hasK (done.map ky) (ky c) = false := hasK_not.mpr hc
    unfold b_checked_6 r_checked_9
    show (if hasK (done.map ky) (ky c) = true then _ else _)
    rw [hb]
    refine ⟨by rw [List.length_map]; simp only [sizeLine]; simp at hl; omega, ?_⟩
    obtain ⟨e1, e2⟩ := pt_new (ds := done.map fun _ => D.bl true) (d := .bl true) hc
    show F [c0, c1, c2, .sh (.str c.nm), .ow (.dic (ptK (done.map ky) (ky c)) (ptD (done.map ky) (done.map fun _ => D.bl true) (ky c) (.bl true)))]
    rw [e1, e2]
    rw [List.map_append, List.map_append] at ih
    exact ih
theorem Ord.len {l r : List Cp} (O : Cps l) (h : Ord l r) : r.length ≤ 12 := by
  have : ∀ (a b : List Str), a.Nodup → (∀ x ∈ a, x ∈ b) → a.length ≤ b.length := fun a => by
    induction a with
    | nil => intro b _ _; exact Nat.zero_le _
    | cons x a ih =>
      intro b hn hs
      rw [List.nodup_cons] at hn
      have hx := hs x (by simp)
      have := ih (b.erase x) hn.2 (fun y hy => (List.mem_erase_of_ne (fun (e : y = x) => hn.1 (e ▸ hy))).mpr (hs y (by simp [hy])))
      rw [List.length_erase_of_mem hx] at this
      have : 0 < b.length := List.length_pos_of_mem hx
      rw [List.length_cons]; omega
  have h1 := this _ (l.map Cp.nm) h.nd fun x hx => by
    obtain ⟨c, hc, rfl⟩ := List.mem_map.mp hx
    exact List.mem_map.mpr ⟨c, h.sub c hc, rfl⟩
  rw [List.length_map, List.length_map] at h1
  have := O.le
  omega
theorem pure_checked : PureD p_checked S_checked 5 2 := by
  rintro ds Q ⟨l, r, rfl, O, R, q⟩
  have hr := R.len O
  refine ⟨rfl, l, rfl, O, ?_⟩
  unfold r_checked_2
  refine forL_all (E0 := fun E => ∃ z, E = [.sh (csD l), .sh (nmD r), .sh (.dic (l.map fun c => .inr c.nm) (l.map cpD)), z, .no]) _ _ ⟨_, rfl⟩ (fun d hd E N hE kN => ?_) (fun E hE => ?_)
  · obtain ⟨z, rfl⟩ := hE
    obtain ⟨c, hc, rfl⟩ := List.mem_map.mp hd
    unfold b_checked_2
    have hb : hasK (l.map ky) (ky c) = true := hasK_iff.mpr (List.mem_map.mpr ⟨c, R.sub c hc, rfl⟩)
    show (if (!hasK (l.map ky) (ky c)) = true then _ else _)
    rw [hb]
    exact kN _ ⟨_, rfl⟩
  · obtain ⟨z, rfl⟩ := hE
    unfold r_checked_5 r_checked_6
    refine seen_loop r [] z (by simpa using R.nd) (by simp; omega) fun z y => ?_
    refine ⟨size_le (by rw [List.length_map]; omega), ?_⟩
    refine lcL_of (h := fun c : Cp => D.str c.nm) (f := cpD) r (fun c hc N M kk => ?_) _ q
    have hk := lk_cp O.nd (R.sub c hc)
    show (match lk (l.map ky) (l.map cpD) (ky c) with | some d => N d | none => False)
    rw [hk]
    exact kk
theorem bz_mk {c : Cp} (O : CpOk c) (x : Rat) : bz (mk c x) ≤ bz x + 32 := by
  have h1 := O.pb
  have h2 := O.ob
  have a1 := bz_mul c.pt x
  have a2 := bz_sub (c.pt * x) c.of
  have a3 := bz_pos x
  have a4 : bz (0 : Rat) ≤ 1 := by decide
  unfold mk
  split <;> omega
theorem bz_mk' {c : Cp} (O : CpOk c) (x : Rat) : bz (mk c x) ≤ bz x + 32 := bz_mk O x
theorem pure_made : PureD p_made S_made 2 2 := by
  rintro ds Q ⟨c, x, rfl, O, hx, q⟩
  have h1 := O.pb
  have h2 := O.ob
  have a1 := bz_mul c.pt x
  have a2 := bz_sub (c.pt * x) c.of
  have a4 : bz (0 : Rat) ≤ 1 := by decide
  refine ⟨rfl, c.pt, x, rfl, by omega, c.pt * x, c.of, rfl, by omega, 0, c.pt * x - c.of, rfl, by omega, ?_⟩
  have e : (if (0 : Rat) < c.pt * x - c.of then c.pt * x - c.of else 0) = mk c x := by
    unfold mk
    by_cases g : c.pt * x - c.of < 0
    · rw [if_pos g, if_neg (by grind)]
    · rw [if_neg g]
      by_cases g2 : 0 < c.pt * x - c.of
      · rw [if_pos g2]
      · rw [if_neg g2]; exact (Rat.le_antisymm (Rat.not_lt.mp g2) (Rat.not_lt.mp g)).symm
  rw [e]
  exact q
theorem used_loop {Q : D → Prop} {c0 c1 : Sl} : ∀ (r : List Cp) (x : Rat) (z : Sl), (∀ c ∈ r, CpOk c) → bz x + 32 * r.length ≤ 900 → Q (qD (runF x r)) →
    forL (gN 3) b_used_1 { fnEnds Q with nx := r_used_3 (fnEnds Q) } (r.map cpD) [c0, c1, .sh (qD x), z]
  | [], x, z, _, _, q => q
  | c :: r, x, z, hc, hb, q => by
    rw [List.length_cons] at hb
    have O := hc c (by simp)
    have hm := bz_mk O x
    have ih := used_loop (Q := Q) (c0 := c0) (c1 := c1) r (mk c x) (.sh (cpD c)) (fun d hd => hc d (by simp [hd])) (by omega) q
    simp only [List.map_cons, forL, gN]
    generalize forL (gN 3) b_used_1 { fnEnds Q with nx := r_used_3 (fnEnds Q) } (r.map cpD) = F at ih ⊢
    exact ⟨c, x, rfl, O, by omega, ih⟩
theorem Ord.cok {l r : List Cp} (O : Cps l) (h : Ord l r) : ∀ c ∈ r, CpOk c := fun c hc => O.ok c (h.sub c hc)
theorem pure_used : PureD p_used S_used 4 3 := by
  rintro ds Q ⟨l, r, x, rfl, O, R, hx, q⟩
  have hr := R.len O
  exact ⟨rfl, l, r, rfl, O, R, used_loop r x .no (R.cok O) (by omega) q⟩
theorem bz_one : bz (1 : Rat) ≤ 2 := by decide
theorem joined_loop {Q : D → Prop} {c0 c1 : Sl} : ∀ (r : List Cp) (p f : Rat) (z : Sl), (∀ c ∈ r, CpOk c) → bz p + 12 * r.length ≤ 900 → bz f + 32 * r.length ≤ 900 → Q (.tup [qD (prodF p r), qD (offF f r)]) →
    forL (gN 4) b_joined_3 { fnEnds Q with nx := r_joined_6 (fnEnds Q) } (r.map cpD) [c0, c1, .sh (qD p), .sh (qD f), z]
  | [], p, f, z, _, _, _, q => q
  | c :: r, p, f, z, hc, hb, hf, q => by
    rw [List.length_cons] at hb hf
    have O := hc c (by simp)
    have h1 := O.pb
    have h2 := O.ob
    have a1 := bz_mul p c.pt
    have a2 := bz_mul f c.pt
    have a3 := bz_add (f * c.pt) c.of
    have ih := joined_loop (Q := Q) (c0 := c0) (c1 := c1) r (p * c.pt) (f * c.pt + c.of) (.sh (cpD c)) (fun d hd => hc d (by simp [hd])) (by omega) (by omega) q
    simp only [List.map_cons, forL, gN]
    generalize forL (gN 4) b_joined_3 { fnEnds Q with nx := r_joined_6 (fnEnds Q) } (r.map cpD) = F at ih ⊢
    exact ⟨p, c.pt, rfl, by omega, f, c.pt, rfl, by omega, f * c.pt, c.of, rfl, by omega, ih⟩
theorem pure_joined : PureD p_joined S_joined 5 2 := by
  rintro ds Q ⟨l, r, rfl, O, R, q⟩
  have hr := R.len O
  have := bz_one
  have a4 : bz (0 : Rat) ≤ 1 := by decide
  exact ⟨rfl, l, r, rfl, O, R, joined_loop r 1 0 .no (R.cok O) (by omega) (by omega) q⟩
theorem pure_weights : PureD p_weights S_weights 4 2 := by
  rintro ds Q ⟨a, b, rfl, A, B, q⟩
  have h1 := A.pb
  have h2 := A.ob
  have h3 := B.pb
  have h4 := B.ob
  have o := bz_one
  have a1 := bz_sub 1 a.pt
  have a2 := bz_sub 1 b.pt
  exact ⟨rfl, 1, a.pt, rfl, by omega, b.of, 1 - a.pt, rfl, by omega, 1, b.pt, rfl, by omega, a.of, 1 - b.pt, rfl, by omega, q⟩
theorem good_not (a b : Cp) : (!decide (b.of * (1 - a.pt) < a.of * (1 - b.pt))) = decide (good a b) := by
  unfold good
  rw [← decide_not]
  exact decide_eq_decide.mpr Rat.not_lt
theorem pure_in_good_order : PureD p_in_good_order S_in_good_order 4 2 := by
  rintro ds Q ⟨a, b, rfl, A, B, q⟩
  have h1 := A.pb
  have h2 := A.ob
  have h3 := B.pb
  have h4 := B.ob
  have o := bz_one
  have a1 := bz_sub 1 a.pt
  have a2 := bz_sub 1 b.pt
  have a3 := bz_mul b.of (1 - a.pt)
  have a4 := bz_mul a.of (1 - b.pt)
  refine ⟨rfl, a, b, rfl, A, B, rfl, ?_⟩
  refine ⟨b.of * (1 - a.pt), a.of * (1 - b.pt), rfl, by omega, ?_⟩
  show Q (.bl (!decide (b.of * (1 - a.pt) < a.of * (1 - b.pt))))
  rw [good_not]
  exact q
end K14

namespace K14
open PySem PySem.Spec PyProof.Rows L2 DL
open K10 (Cp CpOk cp0 good gdB offF prodF mk runF place ins insAll cpD csD nmD strL AllOk ins_perm ins_cons insAll_ok AllOk.perm)
theorem pd_cp (c : Cp) : pd (cpD c) = .tuple [.str c.nm, .tuple [.int c.pt.num, .int c.pt.den], .tuple [.int c.of.num, .int c.of.den]] := by
  simp [cpD, qD, pd, pdL]
theorem alike_cps (l : List Cp) : alikeD (l.map cpD) := by
  constructor
  · intro d hd d' hd'
    rw [pdL_map, List.map_map, List.mem_map] at hd hd'
    obtain ⟨a, _, rfl⟩ := hd
    obtain ⟨b, _, rfl⟩ := hd'
    show PySem.W.alike (pd (cpD a)) (pd (cpD b)) = true
    rw [pd_cp, pd_cp]
    simp [PySem.W.alike, PySem.W.alikeAll]
  · refine .inl fun d hd => ?_
    rw [pdL_map, List.map_map, List.mem_map] at hd
    obtain ⟨a, _, rfl⟩ := hd
    exact ⟨_, _, pd_cp a⟩
theorem okD_cp (c : Cp) (n : Nat) : okD (n + 2) (cpD c) = true := by
  show ([D.str c.nm, qD c.pt, qD c.of]).all (okD (n + 1)) = true
  simp [okD_qd]
  rfl
theorem place_le (c : Cp) : ∀ l, place c l ≤ l.length
  | [] => Nat.le_refl _
  | x :: l => by
    show (if good c x then 0 else place c l + 1) ≤ l.length + 1
    split
    · exact Nat.zero_le _
    · have := place_le c l; omega
theorem place_bad (c : Cp) : ∀ (l : List Cp) (k : Nat), k < place c l → ∃ x, l[k]? = some x ∧ ¬ good c x
  | [], k, h => by exact absurd h (Nat.not_lt_zero _)
  | x :: l, k, h => by
    have h' : k < if good c x then 0 else place c l + 1 := h
    by_cases g : good c x
    · rw [if_pos g] at h'; exact absurd h' (Nat.not_lt_zero _)
    · rw [if_neg g] at h'
      cases k with
      | zero => exact ⟨x, rfl, g⟩
      | succ k => exact place_bad c l k (by omega)
theorem place_good (c : Cp) : ∀ (l : List Cp), place c l < l.length → ∃ x, l[place c l]? = some x ∧ good c x
  | [], h => by exact absurd h (Nat.not_lt_zero _)
  | x :: l, h => by
    by_cases g : good c x
    · have e : place c (x :: l) = 0 := if_pos g
      rw [e]; exact ⟨x, rfl, g⟩
    · have e : place c (x :: l) = place c l + 1 := if_neg g
      rw [e] at h ⊢
      exact place_good c l (by simpa using h)
theorem sort_loop {Q : D → Prop} {c0 : Sl} (R : List Cp → Prop) (q : ∀ r, R r → Q (csD r)) : ∀ (r acc : List Cp) (z2 z3 : Sl), (∀ c ∈ acc ++ r, CpOk c) → (acc ++ r).length ≤ 1000 → R (insAll acc r) →
    forL (gN 2) b_sorted_in_2 { fnEnds Q with nx := r_sorted_in_7 (fnEnds Q) } (r.map cpD) [c0, .ow (csD acc), z2, z3]
  | [], acc, z2, z3, _, _, h => q _ h
  | c :: r, acc, z2, z3, hc, hl, h => by
    have O := hc c (by simp)
    have pm : (ins c acc ++ r).Perm (acc ++ c :: r) := ((ins_perm c acc).append_right r).trans List.perm_middle.symm
    have ih := fun z3 => sort_loop (Q := Q) (c0 := c0) R q r (ins c acc) (.sh (cpD c)) z3 (fun d hd => hc d (pm.mem_iff.mp hd)) (by rw [pm.length_eq]; exact hl) h
    simp only [List.map_cons, forL, gN]
    generalize forL (gN 2) b_sorted_in_2 { fnEnds Q with nx := r_sorted_in_7 (fnEnds Q) } (r.map cpD) = F at ih ⊢
    unfold b_sorted_in_2 r_sorted_in_4
    have hlen : (acc.map cpD).length = acc.length := List.length_map ..
    have hal : acc.length ≤ 1000 := by simp at hl; omega
    refine ⟨fun m E => ∃ k, E = [c0, .ow (csD acc), .sh (cpD c), .sh (.int (k : Nat))] ∧ m = place c acc - k ∧ k ≤ place c acc, ⟨place c acc, 0, rfl, rfl, Nat.zero_le _⟩, ?_⟩
    rintro m E ⟨k, rfl, rfl, hk⟩
    have hp := place_le c acc
    refine ite_ct (fun g => ?_) (fun g => ?_)
    · have g1 : k < acc.length := by
        have : ((k : Nat) : Int) < (((acc.map cpD).length : Nat) : Int) := of_decide_eq_true g
        omega
      have ga : acc[k]? = some acc[k] := List.getElem?_eq_getElem g1
      unfold dNot dTst dCall dConsA dOp dVar dVarO
      refine rdIx_map (f := cpD) ga ?_
      refine ⟨c, acc[k], rfl, O, hc _ (by simp), ?_⟩
      show (if (!decide (good c acc[k])) = true then _ else _)
      refine ite_ct (fun g2 => ?_) (fun g2 => ?_)
      · have ng : ¬ good c acc[k] := by simpa using g2
        have hlt : k < place c acc := by
          rcases Nat.lt_or_ge k (place c acc) with x | x
          · exact x
          · exfalso
            have e : k = place c acc := by omega
            subst e
            obtain ⟨y, e1, e2⟩ := place_good c acc g1
            rw [ga] at e1; cases e1
            exact ng e2
        exact ⟨place c acc - (k + 1), by omega, k + 1, by push_cast; rfl, rfl, by omega⟩
      · have yg : good c acc[k] := by simpa using g2
        have e : k = place c acc := by
          rcases Nat.lt_or_ge k (place c acc) with x | x
          · obtain ⟨y, e1, e2⟩ := place_bad c acc k x
            rw [ga] at e1; cases e1
            exact absurd yg e2
          · omega
        subst e
        refine ⟨by rw [hlen]; simp only [sizeLine]; omega, by omega, by omega, ?_⟩
        have := ih (.sh (.int ((place c acc : Nat) : Int)))
        unfold ins csD at this
        rw [List.map_append, List.map_append, List.map_take, List.map_drop] at this
        exact this
    · have g1 : ¬ k < acc.length := fun z => by
        have : ¬ ((k : Nat) : Int) < (((acc.map cpD).length : Nat) : Int) := of_decide_eq_false g
        omega
      have e : k = place c acc := by omega
      subst e
      refine ⟨by rw [hlen]; simp only [sizeLine]; omega, by omega, by omega, ?_⟩
      have := ih (.sh (.int ((place c acc : Nat) : Int)))
      unfold ins csD at this
      rw [List.map_append, List.map_append, List.map_take, List.map_drop] at this
      exact this
theorem pure_sorted_in : PureD p_sorted_in S_sorted_in 4 1 := by
  rintro ds Q ⟨l, rfl, O, q⟩
  have hl := O.le
  obtain ⟨l', e, pm⟩ := sortD_map (f := cpD) l
  refine ⟨rfl, ?_⟩
  unfold p_sorted_in r_sorted_in_2
  refine ⟨fun d hd => ?_, alike_cps l, ?_⟩
  · obtain ⟨c, _, rfl⟩ := List.mem_map.mp hd
    exact okD_cp c 48
  rw [e]
  have ok : AllOk ([] ++ l') := AllOk.perm O.ok pm
  obtain ⟨h1, h2⟩ := insAll_ok l' [] ok .nil
  exact sort_loop (Q := Q) (fun r => r = insAll [] l') (fun r h => by rw [h]; exact q _ (h2.trans pm) h1) l' [] .no .no ok (by have := pm.length_eq; simp; omega) rfl
theorem pure_best_order : PureD p_best_order S_best_order 2 1 := by
  rintro ds Q ⟨l, rfl, O, q⟩
  have hl := O.le
  refine ⟨rfl, l, rfl, O, l, rfl, O, fun r pm gd => ?_⟩
  have hr := pm.length_eq
  refine ⟨size_le (by rw [List.length_map]; omega), ?_⟩
  exact lcL_of (h := cpD) (f := fun c => D.str c.nm) r (fun c hc N M kk => kk) _ (q r pm gd)
theorem Cps.ord {l r : List Cp} (O : Cps l) (p : r.Perm l) : Ord l r := ⟨fun c h => p.mem_iff.mp h, (p.map Cp.nm).nodup_iff.mpr O.nd⟩
theorem pure_bounds : PureD p_bounds S_bounds 2 1 := by
  rintro ds Q ⟨l, rfl, O, q⟩
  refine ⟨rfl, l, rfl, O, fun r pm gd => ?_⟩
  have R1 := O.ord (r.reverse_perm.trans pm)
  have R2 := O.ord pm
  have e : D.lst ((r.map fun c => D.str c.nm).reverse) = nmD r.reverse := by unfold nmD; rw [List.map_reverse]
  have h : S_joined [csD l, .lst ((r.map fun c => D.str c.nm).reverse)] (fun d => rdIx d (.int 1) fun x => S_joined [csD l, nmD r] fun d2 => rdIx d2 (.int 1) fun y => Q (.tup [x, y])) := by
    rw [e]
    exact ⟨l, r.reverse, rfl, O, R1, l, r, rfl, O, R2, q r pm gd⟩
  exact h
end K14

namespace K14
open PySem PySem.Spec PyProof.Rows L2 DL
open K10 (Cp CpOk cp0 good gdB offF prodF mk runF place ins insAll cpD csD nmD strL AllOk ins_perm ins_cons insAll_ok AllOk.perm)
def nmP (a : Fin 3) : Str := match a with
  | 0 => Str.ofString "c"
  | 1 => Str.ofString "k"
  | 2 => Str.ofString "w"
def nmF (a : Fin 3) (k : Nat) : Str := nmP a ++ strOfInt (k : Nat)
theorem nmF_inj : ∀ (a b : Fin 3) (i j : Fin 12), nmF a i.val = nmF b j.val → i = j := by decide +kernel
theorem nmF_len : ∀ (a : Fin 3) (i : Fin 12), (nmP a).length + (strOfInt (i.val : Nat)).length ≤ 100 := by decide +kernel
def Nm (l : List Cp) : Prop := ∀ (i : Nat) (c : Cp), l[i]? = some c → ∃ a, c.nm = nmF a i
theorem Nm.nd {l : List Cp} (h : Nm l) (hl : l.length ≤ 12) : (l.map Cp.nm).Nodup := by
  unfold List.Nodup
  rw [List.pairwise_iff_getElem]
  intro i j hi hj hij e
  rw [List.length_map] at hi hj
  rw [List.getElem_map, List.getElem_map] at e
  obtain ⟨a, ea⟩ := h i _ (List.getElem?_eq_getElem hi)
  obtain ⟨b, eb⟩ := h j _ (List.getElem?_eq_getElem hj)
  rw [ea, eb] at e
  have := nmF_inj a b ⟨i, by omega⟩ ⟨j, by omega⟩ e
  have : i = j := congrArg Fin.val this
  omega
theorem Nm.push {l : List Cp} (h : Nm l) {c : Cp} {a : Fin 3} (e : c.nm = nmF a l.length) : Nm (l ++ [c]) := fun i d hd => by
  rcases Nat.lt_trichotomy i l.length with g | g | g
  · rw [List.getElem?_append_left g] at hd
    exact h i d hd
  · subst g
    rw [List.getElem?_append_right (Nat.le_refl _), Nat.sub_self] at hd
    cases hd
    exact ⟨a, e⟩
  · rw [List.getElem?_append_right (Nat.le_of_lt g)] at hd
    have : i - l.length ≠ 0 := by omega
    rw [List.getElem?_eq_none (by simp; omega)] at hd
    cases hd
theorem pt_ok {p : Rat} {b : Bool} (h : 0 < p ∧ p ≤ 1 ∧ bz p ≤ 12) : True := trivial
def PtOk (p : Rat) : Prop := 0 < p ∧ p ≤ 1 ∧ bz p ≤ 12
def OfOk (p : Rat) : Prop := 0 ≤ p ∧ bz p ≤ 12
theorem dv_pos {a b : Int} (ha : 0 < a) (hb : 0 < b) : 0 < Rat.divInt a b := by
  rw [Rat.divInt_eq_div, Rat.div_def]
  have h1 : (0 : Rat) < (a : Rat) := by have := Rat.intCast_lt_intCast.mpr ha; simpa using this
  have h2 : (0 : Rat) < (b : Rat) := by have := Rat.intCast_lt_intCast.mpr hb; simpa using this
  exact Rat.mul_pos h1 (Rat.inv_pos.mpr h2)
theorem dv_le1 {a b : Int} (hb : 0 < b) (h : a ≤ b) : Rat.divInt a b ≤ 1 := by
  have h2 : (0 : Rat) < (b : Rat) := by have := Rat.intCast_lt_intCast.mpr hb; simpa using this
  have h3 : (a : Rat) ≤ (b : Rat) := Rat.intCast_le_intCast.mpr h
  rw [Rat.divInt_eq_div]
  refine Rat.le_of_mul_le_mul_right (c := (b : Rat)) ?_ h2
  rw [Rat.div_mul_cancel (fun z => by rw [z] at h2; exact absurd h2 (by decide)), Rat.one_mul]
  exact h3
theorem coup_loop {Q : D → Prop} {c1 : Sl} (q : ∀ l, Cps l → Q (csD l)) : ∀ (m i : Nat) (l : List Cp) (z3 z4 z5 : Sl), l.length = i → i + m ≤ 12 → (∀ c ∈ l, CpOk c) → Nm l →
    forL (gN 3) b_law_coupons_2 { fnEndsF Q with nx := r_law_coupons_10 (fnEndsF Q) } ((List.range' i m).map fun k => D.int (k : Nat)) [.sh .pool, c1, .ow (csD l), z3, z4, z5]
  | 0, i, l, z3, z4, z5, hl, hm, hc, hn => by
    have hl12 : l.length ≤ 12 := by omega
    show S_law_turned [.pool, csD l] Q
    refine ⟨l.map cpD, rfl, by rw [List.length_map]; omega, fun k => ?_⟩
    have e : D.lst ((l.map cpD).drop k ++ (l.map cpD).take k) = csD (l.drop k ++ l.take k) := by
      unfold csD
      rw [List.map_append, List.map_drop, List.map_take]
    rw [e]
    have pm : (l.drop k ++ l.take k).Perm l := List.perm_append_comm.trans (by rw [List.take_append_drop])
    exact q _ ⟨fun c h => hc c (pm.mem_iff.mp h), (pm.map Cp.nm).nodup_iff.mpr (hn.nd hl12), by rw [pm.length_eq]; exact hl12⟩
  | m + 1, i, l, z3, z4, z5, hl, hm, hc, hn => by
    have ih := fun l' z3 z4 z5 => coup_loop (Q := Q) (c1 := c1) q m (i + 1) l' z3 z4 z5
    rw [List.range'_succ, List.map_cons]
    simp only [forL, gN]
    generalize forL (gN 3) b_law_coupons_2 { fnEndsF Q with nx := r_law_coupons_10 (fnEndsF Q) } ((List.range' (i + 1) m).map fun k => D.int (k : Nat)) = F at ih ⊢
    have r9 : ∀ p o : Rat, PtOk p → OfOk o → ¬ (p = 1 ∧ o = 0) → r_law_coupons_9 { fnEndsF Q with nx := F, ct := F, bk := r_law_coupons_10 (fnEndsF Q) } [.sh .pool, c1, .ow (csD l), .sh (.int (i : Nat)), .sh (qD p), .sh (qD o)] := fun p o hp ho hne => by
      unfold r_law_coupons_9
      refine ⟨_, rfl, by simp, by simp, fun d hd => ?_⟩
      have hd' : ∃ a, d = .str (nmP a) := by
        simp only [List.mem_cons, List.not_mem_nil, or_false] at hd
        rcases hd with rfl | rfl | rfl
        · exact ⟨0, rfl⟩
        · exact ⟨1, rfl⟩
        · exact ⟨2, rfl⟩
      obtain ⟨a, rfl⟩ := hd'
      have hlen := nmF_len a ⟨i, by omega⟩
      refine ⟨?_, size_le (Nat.le_trans hlen (by decide)), ?_⟩
      · rw [Int.natAbs_natCast]
        exact Nat.lt_of_le_of_lt (Nat.log2_le_self _) (by omega)
      refine ⟨by rw [List.length_map]; simp only [sizeLine]; omega, ?_⟩
      have O : CpOk ⟨nmF a i, p, o⟩ := ⟨hp.1, hp.2.1, ho.1, hne, hp.2.2, Nat.le_trans ho.2 (by decide)⟩
      have h := ih (l ++ [⟨nmF a i, p, o⟩]) (.sh (.int (i : Nat))) (.sh (qD p)) (.sh (qD o)) (by simp [hl]) (by omega) (fun c hc' => by
        rcases List.mem_append.mp hc' with g | g
        · exact hc c g
        · rw [List.mem_singleton] at g; subst g; exact O) (hn.push (a := a) (by rw [hl]))
      unfold csD at h
      rw [List.map_append] at h
      exact h
    have r7 : ∀ p o : Rat, PtOk p → OfOk o → r_law_coupons_7 { fnEndsF Q with nx := F, ct := F, bk := r_law_coupons_10 (fnEndsF Q) } [.sh .pool, c1, .ow (csD l), .sh (.int (i : Nat)), .sh (qD p), .sh (qD o)] := fun p o hp ho => by
      unfold r_law_coupons_7
      generalize r_law_coupons_9 = R at r9 ⊢
      have e1 : deq (.int p.num) (.int (p.den : Nat)) = decide (p = 1) := by
        show decide (p.num = ((p.den : Nat) : Int)) = _
        refine decide_eq_decide.mpr ⟨fun h => ?_, fun h => by rw [h]; rfl⟩
        have := Rat.num_divInt_den p
        rw [h] at this
        rw [← this]
        exact Rat.divInt_self' (by have := p.den_pos; omega)
      refine ⟨rfl, rfl, ?_⟩
      rw [e1]
      refine ite_ct (fun g => ?_) (fun g => r9 p o hp ho fun z => by rw [z.1] at g; simp at g)
      refine ⟨rfl, rfl, ?_⟩
      rw [num_0]
      refine ite_ct (fun g2 => ?_) (fun g2 => r9 p o hp ho fun z => by rw [z.2] at g2; simp at g2)
      exact r9 p 1 hp ⟨by decide, by decide⟩ fun z => absurd z.2 (by decide)
    have r5 : ∀ p o : Rat, PtOk p → OfOk o → r_law_coupons_5 { fnEndsF Q with nx := F, ct := F, bk := r_law_coupons_10 (fnEndsF Q) } [.sh .pool, c1, .ow (csD l), .sh (.int (i : Nat)), .sh (qD p), .sh (qD o)] := fun p o hp ho => by
      unfold r_law_coupons_5
      generalize r_law_coupons_7 = R at r7 ⊢
      refine ⟨okD_qd _ _, rfl, ?_⟩
      refine ite_ct (fun g => ?_) (fun g => r7 p o hp ho)
      refine ⟨okD_qd _ _, rfl, ?_⟩
      refine ite_ct (fun g2 => ?_) (fun g2 => r7 p o hp ho)
      exact r7 p 3 hp ⟨by decide, by decide⟩
    unfold b_law_coupons_2 r_law_coupons_4
    generalize r_law_coupons_5 = R at r5 ⊢
    refine ⟨99, rfl, by decide, by decide, fun v v0 v1 => ⟨1 + v, 100, rfl, by decide, small_9 (by decide), ?_⟩⟩
    have pv : PtOk (Rat.divInt (1 + v) 100) := ⟨dv_pos (by omega) (by decide), dv_le1 (by decide) (by omega), bz_dv (by decide) (by omega)⟩
    refine ⟨_, rfl, by simp, by simp, fun d hd => ?_⟩
    have tp : ∃ p, d = qD p ∧ PtOk p := by
      simp only [List.mem_cons, List.not_mem_nil, or_false] at hd
      rcases hd with rfl | rfl | rfl | rfl | rfl
      · exact ⟨1, rfl, by decide, by decide, by decide⟩
      · exact ⟨⟨1, 2, by decide, by decide⟩, rfl, by decide, by decide, by decide⟩
      · exact ⟨⟨9, 10, by decide, by decide⟩, rfl, by decide, by decide, by decide⟩
      · exact ⟨⟨2, 3, by decide, by decide⟩, rfl, by decide, by decide, by decide⟩
      · exact ⟨_, rfl, pv⟩
    clear hd
    obtain ⟨p, rfl, hp⟩ := tp
    refine ⟨40, 6, rfl, by omega, by omega, by omega, fun f hf _ hfb => ?_⟩
    have hfb := hfb (by decide)
    refine ⟨_, rfl, by simp, by simp, fun d hd => ?_⟩
    have tq : ∃ o, d = qD o ∧ OfOk o := by
      simp only [List.mem_cons, List.not_mem_nil, or_false] at hd
      rcases hd with rfl | rfl | rfl | rfl
      · exact ⟨0, rfl, by decide, by decide⟩
      · exact ⟨5, rfl, by decide, by decide⟩
      · exact ⟨10, rfl, by decide, by decide⟩
      · exact ⟨f, rfl, hf, by omega⟩
    clear hd
    obtain ⟨o, rfl, ho⟩ := tq
    exact r5 p o hp ho
theorem pure_law_coupons : PureF p_law_coupons S_law_coupons 6 2 := by
  rintro ds Q ⟨m, rfl, hm, q⟩
  refine ⟨rfl, ((m : Nat) : Int) + 1, rfl, by omega, by omega, fun v v0 v1 => ⟨⟨by omega, by omega⟩, ?_⟩⟩
  have e : rangeD 0 v.toNat = (List.range' 0 v.toNat).map fun k => D.int (k : Nat) := by
    rw [rangeD_r]; simp
  rw [e]
  exact coup_loop (Q := Q) q v.toNat 0 [] .no .no .no rfl (by omega) (fun _ h => nomatch h) (fun i c h => by simp at h)
end K14

namespace K14
open PySem PySem.Spec PyProof.Rows L2 DL
open K10 (Cp CpOk cp0 good gdB offF prodF mk runF place ins insAll cpD csD nmD strL AllOk)
/-! the table -/
theorem smO_left {a b : Option Rat} {y z : Rat} (h : smO a b = some y) (e : a = some z) : y ≤ z := by
  subst e
  cases b with
  | none => injection h with h; exact h ▸ Rat.le_refl
  | some b =>
    have h : (if b < z then b else z) = y := by injection h
    by_cases g : b < z
    · rw [if_pos g] at h; exact h ▸ Rat.le_of_lt g
    · rw [if_neg g] at h; exact h ▸ Rat.le_refl
theorem smO_right {a b : Option Rat} {y z : Rat} (h : smO a b = some y) (e : b = some z) : y ≤ z := by
  subst e
  cases a with
  | none => injection h with h; exact h ▸ Rat.le_refl
  | some a =>
    have h : (if z < a then z else a) = y := by injection h
    by_cases g : z < a
    · rw [if_pos g] at h; exact h ▸ Rat.le_refl
    · rw [if_neg g] at h; exact h ▸ Rat.not_lt.mp g
theorem smO_or (a b : Option Rat) : smO a b = a ∨ smO a b = b := by
  cases a with
  | none => exact .inr rfl
  | some a =>
    cases b with
    | none => exact .inl rfl
    | some b =>
      show some (if b < a then b else a) = _ ∨ some (if b < a then b else a) = _
      by_cases g : b < a
      · rw [if_pos g]; exact .inr rfl
      · rw [if_neg g]; exact .inl rfl
theorem smO_none {a b : Option Rat} (h : smO a b = none) : a = none ∧ b = none := by
  cases a <;> cases b <;> first | exact ⟨rfl, rfl⟩ | cases h
theorem smO_nr (a : Option Rat) : smO a none = a := by cases a <;> rfl
theorem tb_zero (x : Rat) (r : List Cp) : ∀ i, tb x r i 0 = some x
  | 0 => rfl
  | i + 1 => by
    show smO (tb x r i 0) none = some x
    rw [smO_nr]; exact tb_zero x r i
theorem tb_none {x : Rat} {r : List Cp} : ∀ {i c : Nat}, i < c → tb x r i c = none
  | 0, c + 1, _ => rfl
  | i + 1, c + 1, h => by
    show smO (tb x r i (c + 1)) ((tb x r i c).map (mk (r.getD i cp0))) = none
    rw [tb_none (i := i) (c := c + 1) (by omega), tb_none (i := i) (c := c) (by omega)]
    rfl
theorem tb_some {x : Rat} {r : List Cp} : ∀ {i c : Nat}, c ≤ i → ∃ y, tb x r i c = some y
  | 0, 0, _ => ⟨x, rfl⟩
  | i + 1, 0, _ => ⟨x, tb_zero x r (i + 1)⟩
  | i + 1, c + 1, h => by
    obtain ⟨y, e⟩ := tb_some (x := x) (r := r) (i := i) (c := c) (by omega)
    cases e2 : tb x r (i + 1) (c + 1) with
    | some z => exact ⟨z, rfl⟩
    | none =>
      have := (smO_none (a := tb x r i (c + 1)) (b := (tb x r i c).map (mk (r.getD i cp0))) e2).2
      rw [e] at this
      cases this
theorem run_app (x : Rat) (c : Cp) : ∀ (u : List Cp) (x : Rat), runF x (u ++ [c]) = mk c (runF x u)
  | [], x => rfl
  | d :: u, x => run_app x c u (mk d x)
theorem take_succ' {r : List Cp} {i : Nat} (h : i < r.length) : r.take (i + 1) = r.take i ++ [r.getD i cp0] := by
  rw [List.take_succ, List.getD_eq_getElem?_getD, List.getElem?_eq_getElem h]
  rfl
theorem tr_ok {x : Rat} {r : List Cp} : ∀ {i c : Nat} {y : Rat}, i ≤ r.length → tb x r i c = some y → (tr x r i c).Sublist (r.take i) ∧ (tr x r i c).length = c ∧ runF x (tr x r i c) = y
  | 0, 0, y, _, h => by injection h with h; exact ⟨.refl _, rfl, h⟩
  | 0, c + 1, y, _, h => by cases h
  | i + 1, c, y, hi, h => by
    have hi' : i < r.length := by omega
    rw [take_succ' hi']
    by_cases g : tb x r i c = tb x r (i + 1) c
    · have e : tr x r (i + 1) c = tr x r i c := if_pos g
      rw [e]
      obtain ⟨h1, h2, h3⟩ := tr_ok (x := x) (r := r) (i := i) (c := c) (by omega) (g.trans h)
      exact ⟨h1.trans (List.sublist_append_left _ _), h2, h3⟩
    · have e : tr x r (i + 1) c = tr x r i (c - 1) ++ [r.getD i cp0] := if_neg g
      rw [e]
      cases c with
      | zero => rw [tb_zero, tb_zero] at g; exact absurd rfl g
      | succ c =>
        have h' : tb x r (i + 1) (c + 1) = (tb x r i c).map (mk (r.getD i cp0)) := by
          rcases smO_or (tb x r i (c + 1)) ((tb x r i c).map (mk (r.getD i cp0))) with z | z
          · exact absurd z.symm g
          · exact z
        rw [h'] at h
        cases e2 : tb x r i c with
        | none => rw [e2] at h; cases h
        | some z =>
          rw [e2] at h
          have h : mk (r.getD i cp0) z = y := by injection h
          obtain ⟨h1, h2, h3⟩ := tr_ok (x := x) (r := r) (i := i) (c := c) (by omega) e2
          refine ⟨h1.append (.refl _), by rw [List.length_append]; show (tr x r i c).length + 1 = _; rw [h2], ?_⟩
          show runF x (tr x r i c ++ [_]) = y
          rw [run_app x, h3, h]
theorem mk_mono {c : Cp} (O : CpOk c) {x y : Rat} (h : x ≤ y) : mk c x ≤ mk c y := by
  have h1 : c.pt * x ≤ c.pt * y := Rat.mul_le_mul_of_nonneg_left h (Rat.le_of_lt O.p0)
  unfold mk
  split <;> split <;> grind
theorem getD_mem {r : List Cp} {i : Nat} (h : i < r.length) : r.getD i cp0 ∈ r := by
  rw [List.getD_eq_getElem?_getD, List.getElem?_eq_getElem h]
  exact List.getElem_mem h
theorem tb_least {x : Rat} {r : List Cp} (ok : AllOk r) : ∀ {i : Nat} {u : List Cp}, i ≤ r.length → u.Sublist (r.take i) → ∃ y, tb x r i u.length = some y ∧ y ≤ runF x u
  | 0, u, _, h => by
    have : u = [] := by rw [List.take_zero] at h; exact List.sublist_nil.mp h
    subst this
    exact ⟨x, rfl, Rat.le_refl⟩
  | i + 1, u, hi, h => by
    have hi' : i < r.length := by omega
    rw [take_succ' hi'] at h
    obtain ⟨u1, u2, rfl, h1, h2⟩ := List.sublist_append_iff.mp h
    obtain ⟨y, e, le⟩ := tb_least ok (i := i) (by omega) h1
    have hl : (u1 ++ u2).length ≤ i + 1 := by
      have := h.length_le
      rw [List.length_append (as := r.take i), List.length_take, List.length_singleton] at this
      omega
    obtain ⟨z, ez⟩ := tb_some (x := x) (r := r) hl
    refine ⟨z, ez, ?_⟩
    have hs : smO (tb x r i (u1 ++ u2).length) (match (u1 ++ u2).length with | 0 => none | c + 1 => (tb x r i c).map (mk (r.getD i cp0))) = some z := by
      rw [← ez]
      cases (u1 ++ u2).length <;> rfl
    rcases List.sublist_cons_iff.mp h2 with g | ⟨v, rfl, g⟩
    · have : u2 = [] := List.sublist_nil.mp g
      subst this
      rw [List.append_nil] at hs ⊢
      exact Rat.le_trans (smO_left hs e) le
    · have : v = [] := List.sublist_nil.mp g
      subst this
      rw [run_app x]
      rw [List.length_append] at hs
      exact Rat.le_trans (smO_right (z := mk (r.getD i cp0) y) hs (by show (tb x r i u1.length).map _ = _; rw [e]; rfl)) (mk_mono (ok _ (getD_mem hi')) le)
theorem tb_bz {x : Rat} {r : List Cp} (ok : AllOk r) : ∀ {i c : Nat} {y : Rat}, i ≤ r.length → tb x r i c = some y → bz y ≤ bz x + 32 * i
  | 0, 0, y, _, h => by injection h with h; subst h; omega
  | 0, c + 1, y, _, h => by cases h
  | i + 1, 0, y, hi, h => by
    rw [tb_zero] at h; injection h with h; subst h; omega
  | i + 1, c + 1, y, hi, h => by
    rcases smO_or (tb x r i (c + 1)) ((tb x r i c).map (mk (r.getD i cp0))) with z | z
    · have := tb_bz ok (i := i) (c := c + 1) (by omega) (z.symm.trans h)
      omega
    · have h' := z.symm.trans h
      cases e2 : tb x r i c with
      | none => rw [e2] at h'; cases h'
      | some w =>
        rw [e2] at h'
        have h' : mk (r.getD i cp0) w = y := by injection h'
        have := tb_bz ok (i := i) (c := c) (by omega) e2
        have := bz_mk (ok _ (getD_mem (by omega : i < r.length))) w
        subst h'
        omega
/-- the best number of coupons is a best choice -/
theorem best_of {x : Rat} {r : List Cp} (ok : AllOk r) {k b : Nat} {y : Rat} (hb : b ≤ min r.length k) (e : tb x r r.length b = some y) (least : ∀ c z, c ≤ min r.length k → tb x r r.length c = some z → y ≤ z) : runF x (tr x r r.length b) = y ∧ Best x r k (tr x r r.length b) := by
  obtain ⟨h1, h2, h3⟩ := tr_ok (Nat.le_refl _) e
  rw [List.take_length] at h1
  refine ⟨h3, h1, by omega, fun v hv hk => ?_⟩
  obtain ⟨z, ez, le⟩ := tb_least (x := x) ok (i := r.length) (u := v) (Nat.le_refl _) (by rw [List.take_length]; exact hv)
  rw [h3]
  exact Rat.le_trans (least _ z (by have := hv.length_le; omega) ez) le
theorem mk_le {c : Cp} (O : CpOk c) {x : Rat} (h : 0 ≤ x) : mk c x ≤ x := by
  have h1 : c.pt * x ≤ 1 * x := Rat.mul_le_mul_of_nonneg_right O.p1 h
  have h2 := O.o0
  unfold mk
  split <;> grind
theorem mk_nn {c : Cp} {x : Rat} : 0 ≤ mk c x := by
  unfold mk
  split <;> grind
theorem run_mono {u : List Cp} : AllOk u → ∀ {x y : Rat}, x ≤ y → runF x u ≤ runF y u := by
  induction u with
  | nil => intro _ x y h; exact h
  | cons c u ih => intro ok x y h; exact ih (fun d hd => ok d (by simp [hd])) (mk_mono (ok c (by simp)) h)
theorem run_sub {u v : List Cp} (h : u.Sublist v) : AllOk v → ∀ {x : Rat}, 0 ≤ x → runF x v ≤ runF x u := by
  induction h with
  | slnil => intro _ x _; exact Rat.le_refl
  | cons a h ih =>
    intro ok x hx
    have ok' : AllOk _ := fun d hd => ok d (List.mem_cons_of_mem _ hd)
    exact Rat.le_trans (ih ok' mk_nn) (run_mono (fun d hd => ok' d (h.mem hd)) (mk_le (ok a (by simp)) hx))
  | cons_cons a h ih =>
    intro ok x hx
    exact ih (fun d hd => ok d (List.mem_cons_of_mem _ hd)) mk_nn
end K14

namespace K14
open PySem PySem.Spec PyProof.Rows L2 DL
open K10 (Cp CpOk cp0 good gdB offF prodF mk runF place ins insAll cpD csD nmD strL AllOk)
/-- a loop over a list of n things by their places -/
theorem forL_at {g : DG} {b : DS} {DD : DEnds} {n : Nat} (f : Nat → D) (I : Nat → List Sl → Prop)
    (step : ∀ i, i < n → ∀ (E : List Sl) (K : List Sl → Prop), I i E → (∀ E', I (i + 1) E' → K E') → g (f i) E fun E' => b { DD with nx := K, ct := K, bk := DD.nx } E')
    {E : List Sl} (h0 : I 0 E) (k : ∀ E, I n E → DD.nx E) : forL g b DD ((List.range n).map f) E := by
  have go : ∀ (m i : Nat) (E : List Sl), i + m = n → I i E → forL g b DD ((List.range' i m).map f) E := by
    intro m
    induction m with
    | zero => intro i E e hE; have : i = n := by omega
              subst this; exact k E hE
    | succ m ih =>
      intro i E e hE
      rw [List.range'_succ, List.map_cons]
      exact step i (by omega) E _ hE fun E' hE' => ih (i + 1) E' (by omega) hE'
  rw [List.range_eq_range']
  exact go n 0 E (by omega) h0
section
variable {κ : Type} [DecidableEq κ]
theorem lk_put {k j : κ} {d : D} : ∀ {ks : List κ} {ds : List D}, ks.length = ds.length → lk (ptK ks k) (ptD ks ds k d) j = if j = k then some d else lk ks ds j := by
  have upd : ∀ {ks : List κ} {ds : List D}, ks.length = ds.length → k ∈ ks → lk ks (List.zipWith (fun k' d' => if k' = k then d else d') ks ds) j = if j = k then some d else lk ks ds j := by
    intro ks
    induction ks with
    | nil => intro ds _ h; cases h
    | cons a ks ih =>
      intro ds hl h
      cases ds with
      | nil => cases hl
      | cons e ds =>
        rw [List.zipWith_cons_cons]
        unfold lk
        by_cases g : a = j
        · subst g
          rw [if_pos rfl, if_pos rfl]
          by_cases g2 : a = k
          · rw [if_pos g2, if_pos g2]
          · rw [if_neg g2, if_neg g2]
        · rw [if_neg g, if_neg g]
          by_cases g2 : k ∈ ks
          · exact ih (by simpa using hl) g2
          · have hk : a = k := by
              rcases List.mem_cons.mp h with z | z
              · exact z.symm
              · exact absurd z g2
            have gj : ¬ j = k := fun z => g (hk.trans z.symm)
            rw [if_neg gj]
            have nz : ∀ {ks : List κ} {ds : List D}, k ∉ ks → ks.length = ds.length → List.zipWith (fun k' d' => if k' = k then d else d') ks ds = ds := by
              intro ks
              induction ks with
              | nil => intro ds _ hl; cases ds with
                | nil => rfl
                | cons => cases hl
              | cons b ks ih =>
                intro ds hn hl
                cases ds with
                | nil => cases hl
                | cons e ds =>
                  rw [List.zipWith_cons_cons, if_neg (fun z => hn (by rw [z]; simp)), ih (fun z => hn (by simp [z])) (by simpa using hl)]
            rw [nz g2 (by simpa using hl)]
  have app : ∀ {ks : List κ} {ds : List D}, ks.length = ds.length → k ∉ ks → lk (ks ++ [k]) (ds ++ [d]) j = if j = k then some d else lk ks ds j := by
    intro ks
    induction ks with
    | nil =>
      intro ds hl _
      cases ds with
      | cons => cases hl
      | nil =>
        show (if k = j then some d else none) = if j = k then some d else none
        by_cases g : j = k
        · rw [if_pos g, if_pos g.symm]
        · rw [if_neg g, if_neg (fun z => g z.symm)]
    | cons a ks ih =>
      intro ds hl hn
      cases ds with
      | nil => cases hl
      | cons e ds =>
        show (if a = j then some e else lk (ks ++ [k]) (ds ++ [d]) j) = if j = k then some d else (if a = j then some e else lk ks ds j)
        rw [ih (by simpa using hl) (fun z => hn (by simp [z]))]
        by_cases g : j = k
        · rw [if_pos g, if_pos g, if_neg (fun z => hn (by rw [z, g]; simp))]
        · rw [if_neg g, if_neg g]
  intro ks ds hl
  by_cases h : hasK ks k = true
  · unfold ptK ptD
    rw [if_pos h, if_pos h]
    exact upd hl (hasK_iff.mp h)
  · unfold ptK ptD
    rw [if_neg h, if_neg h]
    exact app hl fun z => h (hasK_iff.mpr z)
theorem pt_len {ks : List κ} {ds : List D} {k : κ} {d : D} (h : ks.length = ds.length) : (ptK ks k).length = (ptD ks ds k d).length := by
  unfold ptK ptD
  split
  · rw [List.length_zipWith]; omega
  · rw [List.length_append, List.length_append]; simp [h]
theorem ptK_le (ks : List κ) (k : κ) : (ptK ks k).length ≤ ks.length + 1 := by
  unfold ptK
  split
  · omega
  · rw [List.length_append]; simp
end
theorem kyT_eq {i j c d : Int} : (kyT i c = kyT j d) = (i = j ∧ c = d) := by
  unfold kyT
  simp
structure TabAt (x : Rat) (r : List Cp) (k i0 c0 : Nat) (ks : List (List Key)) (ds : List D) : Prop where
  len : ks.length = ds.length
  sz : ks.length ≤ 1 + 14 * i0 + c0
  at_ : ∀ (i : Nat) (c : Int), lk ks ds (kyT i c) = if 0 ≤ c ∧ ((i ≤ i0 ∧ c ≤ i ∧ c ≤ k) ∨ (i = i0 + 1 ∧ c < c0)) then some (optD (tb x r i c.toNat)) else none
theorem TabAt.start (x : Rat) (r : List Cp) (k : Nat) : TabAt x r k 0 0 [kyT 0 0] [qD x] := by
  refine ⟨rfl, by simp, fun i c => ?_⟩
  show (if kyT 0 0 = kyT i c then some (qD x) else none) = _
  by_cases g : (0 : Int) = i ∧ (0 : Int) = c
  · obtain ⟨g1, g2⟩ := g
    have : i = 0 := by omega
    subst this; subst g2
    rw [if_pos (show kyT 0 0 = kyT ((0 : Nat) : Int) 0 from rfl), if_pos (by omega)]
    rfl
  · rw [if_neg (by rw [kyT_eq]; exact g), if_neg (by omega)]
theorem TabAt.next {x : Rat} {r : List Cp} {k i0 : Nat} {ks : List (List Key)} {ds : List D} (h : TabAt x r k i0 (min (i0 + 1) k + 1) ks ds) (hi : i0 + 1 ≤ 12) : TabAt x r k (i0 + 1) 0 ks ds := by
  refine ⟨h.len, by have := h.sz; omega, fun i c => ?_⟩
  rw [h.at_]
  by_cases g : 0 ≤ c ∧ ((i ≤ i0 + 1 ∧ c ≤ i ∧ c ≤ k) ∨ (i = i0 + 1 + 1 ∧ c < (0 : Nat)))
  · rw [if_pos g, if_pos (by omega)]
  · rw [if_neg g, if_neg (by omega)]
theorem TabAt.put {x : Rat} {r : List Cp} {k i0 c0 : Nat} {ks : List (List Key)} {ds : List D} (h : TabAt x r k i0 c0 ks ds) : TabAt x r k i0 (c0 + 1) (ptK ks (kyT (1 + (i0 : Nat)) c0)) (ptD ks ds (kyT (1 + (i0 : Nat)) c0) (optD (tb x r (i0 + 1) c0))) := by
  refine ⟨pt_len h.len, by have := h.sz; have := ptK_le ks (kyT (1 + (i0 : Nat)) c0); omega, fun i c => ?_⟩
  rw [lk_put h.len, h.at_]
  by_cases g : kyT i c = kyT (1 + (i0 : Nat)) c0
  · rw [if_pos g]
    rw [kyT_eq] at g
    obtain ⟨g1, g2⟩ := g
    have : i = i0 + 1 := by omega
    subst this; subst g2
    rw [if_pos (by omega)]
    rfl
  · rw [if_neg g]
    rw [kyT_eq] at g
    by_cases g3 : 0 ≤ c ∧ ((i ≤ i0 ∧ c ≤ i ∧ c ≤ k) ∨ (i = i0 + 1 ∧ c < c0))
    · rw [if_pos g3, if_pos (by omega)]
    · rw [if_neg g3, if_neg (by omega)]
theorem TabAt.ok {x : Rat} {r : List Cp} {k : Nat} {ks : List (List Key)} {ds : List D} (h : TabAt x r k r.length 0 ks ds) : TabOk x r k ks ds := by
  refine ⟨h.len, fun i c => ?_⟩
  rw [h.at_]
  by_cases g : i ≤ r.length ∧ c ≤ min i k
  · rw [if_pos g, if_pos (by omega)]; rfl
  · rw [if_neg g, if_neg (by omega)]
/-- table.get -/
theorem getT {pe pk : DX} {E : List Sl} {Q : D → Prop} {ks : List (List Key)} {es : List D} {K : List Key} {y : Option Rat} (he : pe E = fun R => R (.dct ks es)) (hk : ∀ R : D → Prop, R (keyTD K) → pk E R) (h : lk ks es K = some (optD y) ∨ (lk ks es K = none ∧ y = none)) (q : Q (optD y)) : dGetT1 pe pk E Q := by
  unfold dGetT1
  rw [he]
  refine hk _ ?_
  show (match keyT (keyTD K) with | some k => (match lk ks es k with | some x => Q x | none => Q .non) | none => False)
  have e : keyT (keyTD K) = some K := keyT_keyTD K
  rw [e]
  rcases h with h | ⟨h, rfl⟩
  · show (match lk ks es K with | some x => Q x | none => Q .non)
    rw [h]; exact q
  · show (match lk ks es K with | some x => Q x | none => Q .non)
    rw [h]; exact q
theorem pure_smaller : PureD p_smaller S_smaller 2 2 := by
  rintro ds Q ⟨a, b, rfl, ha, hb, q⟩
  refine ⟨rfl, ?_⟩
  cases a with
  | none => exact q
  | some a =>
    cases b with
    | none => exact q
    | some b =>
      have h1 := ha a rfl
      have h2 := hb b rfl
      exact ⟨a, b, rfl, by omega, q⟩
theorem pure_few_table : PureD p_few_table S_few_table 8 3 := by
  rintro ds Q ⟨r, x, k, rfl, O, hx, hk, q⟩
  have hl := O.le
  have hn : (r.map cpD).length = r.length := List.length_map ..
  refine ⟨rfl, ?_⟩
  unfold p_few_table r_few_table_2
  refine ⟨⟨by omega, by omega⟩, ⟨by omega, by rw [hn]; omega⟩, ?_⟩
  rw [show ((((r.map cpD).length : Nat) : Int) + 1 - 1).toNat = r.length by rw [hn]; omega]
  refine forL_at (fun i => .int (1 + (i : Nat))) (fun i E => ∃ ks es z4 z5 z6 z7, E = [.sh (csD r), .sh (qD x), .sh (.int (k : Nat)), .ow (.dct ks es), z4, z5, z6, z7] ∧ TabAt x r k i 0 ks es) ?_ ⟨_, _, _, _, _, _, rfl, .start x r k⟩ ?_
  · rintro i hi E K ⟨ks, es, z4, z5, z6, z7, rfl, T⟩ kk
    have emin : (if (k : Int) < 1 + (i : Nat) then ((k : Nat) : Int) else 1 + ((i : Nat) : Int)) = ((min (i + 1) k : Nat) : Int) := by
      split <;> omega
    have h : RngB ((if (k : Int) < 1 + (i : Nat) then ((k : Nat) : Int) else 1 + ((i : Nat) : Int)) + 1) ∧ forL (gN 5) b_few_table_3 { fnEnds Q with nx := K, ct := K, bk := r_few_table_7 (fnEnds Q) } (rangeD 0 ((if (k : Int) < 1 + (i : Nat) then ((k : Nat) : Int) else 1 + ((i : Nat) : Int)) + 1).toNat) [.sh (csD r), .sh (qD x), .sh (.int (k : Nat)), .ow (.dct ks es), .sh (.int (1 + (i : Nat))), z5, z6, z7] := by
      rw [emin]
      refine ⟨⟨by omega, by omega⟩, ?_⟩
      rw [show (((min (i + 1) k : Nat) : Int) + 1).toNat = min (i + 1) k + 1 by omega]
      refine forL_rng (fun c E => ∃ ks es z5 z6 z7, E = [.sh (csD r), .sh (qD x), .sh (.int (k : Nat)), .ow (.dct ks es), .sh (.int (1 + (i : Nat))), z5, z6, z7] ∧ TabAt x r k i c ks es) ?_ ⟨_, _, _, _, _, rfl, T⟩ ?_
      · rintro c hc E K' ⟨ks, es, z5, z6, z7, rfl, T⟩ kk'
        unfold b_few_table_3
        have a1 : lk ks es (kyT (1 + (i : Nat) - 1) c) = some (optD (tb x r i c)) ∨ (lk ks es (kyT (1 + (i : Nat) - 1) c) = none ∧ tb x r i c = none) := by
          rw [show (1 : Int) + (i : Nat) - 1 = (i : Nat) by omega, T.at_]
          by_cases g : c ≤ i
          · rw [if_pos (by omega)]; exact .inl rfl
          · rw [if_neg (by omega)]; exact .inr ⟨rfl, tb_none (by omega)⟩
        refine getT (K := kyT (1 + (i : Nat) - 1) c) rfl (fun R h => h) a1 ?_
        unfold r_few_table_5
        obtain ⟨y7, e7, a2⟩ : ∃ y7 : Option Rat, tb x r (i + 1) c = smO (tb x r i c) (y7.map (mk (r.getD i cp0))) ∧ (y7 = none ∨ ∃ c', y7 = tb x r i c') ∧ (lk ks es (kyT (1 + (i : Nat) - 1) ((c : Nat) - 1)) = some (optD y7) ∨ (lk ks es (kyT (1 + (i : Nat) - 1) ((c : Nat) - 1)) = none ∧ y7 = none)) := by
          rw [show (1 : Int) + (i : Nat) - 1 = (i : Nat) by omega, T.at_]
          cases c with
          | zero =>
            refine ⟨none, rfl, .inl rfl, ?_⟩
            rw [if_neg (by omega)]
            exact .inr ⟨rfl, rfl⟩
          | succ c =>
            refine ⟨tb x r i c, rfl, .inr ⟨c, rfl⟩, ?_⟩
            rw [if_pos (by omega), show (((c + 1 : Nat) : Int) - 1).toNat = c by omega]
            exact .inl rfl
        obtain ⟨hb7, a2⟩ := a2
        show dGetT1 (dVarO 3) (dTupK (dConsA (dOp rdSub (dVarO 4) (dC (.int 1))) (dConsA (dOp rdSub (dVarO 5) (dC (.int 1))) dNilA))) [.sh (csD r), .sh (qD x), .sh (.int (k : Nat)), .ow (.dct ks es), .sh (.int (1 + (i : Nat))), .sh (.int (c : Nat)), .sh (optD (tb x r i c)), z7] fun d => r_few_table_6 { fnEnds Q with nx := K', ct := K', bk := K } [.sh (csD r), .sh (qD x), .sh (.int (k : Nat)), .ow (.dct ks es), .sh (.int (1 + (i : Nat))), .sh (.int (c : Nat)), .sh (optD (tb x r i c)), .sh d]
        refine getT (K := kyT (1 + (i : Nat) - 1) ((c : Nat) - 1)) rfl (fun R h => h) a2 ?_
        unfold r_few_table_6
        have g0 : r[i]? = some (r.getD i cp0) := by rw [List.getD_eq_getElem?_getD, List.getElem?_eq_getElem hi]; rfl
        have okc := O.ok _ (getD_mem hi)
        have b6 : ∀ c' y, tb x r i c' = some y → bz y ≤ 500 := fun c' y e => by
          have := tb_bz O.ok (by omega) e
          omega
        have fin : S_smaller [optD (tb x r i c), optD (y7.map (mk (r.getD i cp0)))] fun d => ks.length < sizeLine ∧ K' [.sh (csD r), .sh (qD x), .sh (.int (k : Nat)), .ow (.dct (ptK ks (kyT (1 + (i : Nat)) c)) (ptD ks es (kyT (1 + (i : Nat)) c) d)), .sh (.int (1 + (i : Nat))), .sh (.int (c : Nat)), .sh (optD (tb x r i c)), .sh (optD y7)] := by
          refine ⟨tb x r i c, y7.map (mk (r.getD i cp0)), rfl, fun y e => by have := b6 c y e; omega, fun y e => ?_, ?_⟩
          · rcases hb7 with rfl | ⟨c', rfl⟩
            · cases e
            · cases e2 : tb x r i c' with
              | none => rw [e2] at e; cases e
              | some w =>
                rw [e2] at e
                have e : mk (r.getD i cp0) w = y := by injection e
                have := b6 c' w e2
                have := bz_mk okc w
                subst e; omega
          · refine ⟨size_lt (by have := T.sz; omega), ?_⟩
            rw [← e7]
            exact kk' _ ⟨_, _, _, _, _, rfl, T.put⟩
        cases y7 with
        | none => exact fin
        | some w =>
          have bw : bz w ≤ 1000 := by
            rcases hb7 with h | ⟨c', h⟩
            · cases h
            · have := b6 c' w h.symm; omega
          have h : rdIx (csD r) (.int (1 + (i : Nat) - 1)) fun d => S_made [d, qD w] fun m => S_smaller [optD (tb x r i c), m] fun d => ks.length < sizeLine ∧ K' [.sh (csD r), .sh (qD x), .sh (.int (k : Nat)), .ow (.dct (ptK ks (kyT (1 + (i : Nat)) c)) (ptD ks es (kyT (1 + (i : Nat)) c) d)), .sh (.int (1 + (i : Nat))), .sh (.int (c : Nat)), .sh (optD (tb x r i c)), .sh (qD w)] := by
            rw [show (1 : Int) + (i : Nat) - 1 = (i : Nat) by omega]
            exact rdIx_map (f := cpD) g0 ⟨_, w, rfl, okc, bw, fin⟩
          exact h
      · rintro E ⟨ks, es, z5, z6, z7, rfl, T⟩
        exact kk _ ⟨_, _, _, _, _, _, rfl, T.next (by omega)⟩
    exact h
  · rintro E ⟨ks, es, z4, z5, z6, z7, rfl, T⟩
    exact q _ _ T.ok
end K14

namespace K14
open PySem PySem.Spec PyProof.Rows L2 DL
open K10 (Cp CpOk cp0 good gdB offF prodF mk runF place ins insAll cpD csD nmD strL AllOk)
/-- table[(i, c)] -/
theorem rdIx_T {ks : List (List Key)} {es : List D} {K : List Key} {d : D} {Q : D → Prop} (h : lk ks es K = some d) (q : Q d) : rdIx (.dct ks es) (keyTD K) Q := by
  show (match keyT (keyTD K) with | some k => (match lk ks es k with | some d => Q d | none => False) | none => False)
  rw [keyT_keyTD]
  show (match lk ks es K with | some d => Q d | none => False)
  rw [h]; exact q
theorem deq_opt (a b : Option Rat) : deq (optD a) (optD b) = decide (a = b) := by
  cases a with
  | none => cases b with
    | none => rfl
    | some y => rfl
  | some x => cases b with
    | none => rfl
    | some y =>
      show deq (qD x) (qD y) = _
      rw [deq_qd]
      exact decide_eq_decide.mpr ⟨fun h => congrArg some h, fun h => by injection h⟩
theorem okD_opt (a : Option Rat) (n : Nat) : okD (n + 2) (optD a) = true := by
  cases a with
  | none => rfl
  | some x => exact okD_qd _ _
theorem pure_traced : PureD p_traced S_traced 5 3 := by
  rintro ds Q ⟨r, x, k, c0, ks, es, rfl, O, T, hc, q⟩
  have hl := O.le
  have hn : (r.map cpD).length = r.length := List.length_map ..
  refine ⟨rfl, ?_⟩
  unfold p_traced r_traced_2
  refine ⟨r.length, by rw [hn]; exact rgC_down (by omega), ?_⟩
  rw [hn]
  refine forL_at (fun j => .int ((r.length : Nat) + (j : Nat) * (-1))) (fun j E => ∃ (c : Nat) (L : List Cp) (z : Sl), E = [.sh (csD r), .sh (.dct ks es), .sh (.int (c : Nat)), .ow (nmD L), z] ∧ c ≤ min (r.length - j) k ∧ L.length ≤ j ∧ tr x r r.length c0 = tr x r (r.length - j) c ++ L.reverse) ?_ ⟨c0, [], _, rfl, hc, Nat.le_refl _, by simp⟩ ?_
  · rintro j hj E K ⟨c, L, z, rfl, h1, h2, h3⟩ kk
    obtain ⟨i, hi⟩ : ∃ i, r.length - j = i + 1 := ⟨r.length - j - 1, by omega⟩
    rw [hi] at h1 h3
    have ei : ((r.length : Nat) : Int) + (j : Nat) * (-1) = ((i + 1 : Nat) : Int) := by omega
    rw [ei]
    have ei' : (((i + 1 : Nat) : Int) - 1) = (i : Nat) := by omega
    have a1 : lk ks es (kyT (((i + 1 : Nat) : Int) - 1) c) = some (optD (tb x r i c)) ∨ (lk ks es (kyT (((i + 1 : Nat) : Int) - 1) c) = none ∧ tb x r i c = none) := by
      rw [ei', T.at_]
      by_cases g : c ≤ i
      · rw [if_pos (by omega)]; exact .inl rfl
      · rw [if_neg (by omega)]; exact .inr ⟨rfl, tb_none (by omega)⟩
    have a2 : lk ks es (kyT ((i + 1 : Nat) : Int) c) = some (optD (tb x r (i + 1) c)) := by
      rw [T.at_, if_pos (by omega)]
    have g0 : r[i]? = some (r.getD i cp0) := by rw [List.getD_eq_getElem?_getD, List.getElem?_eq_getElem (by omega)]; rfl
    show dGetT1 (dVarO 1) (dTupK (dConsA (dOp rdSub (dVarO 4) (dC (.int 1))) (dConsA (dVar 2) dNilA))) [.sh (csD r), .sh (.dct ks es), .sh (.int (c : Nat)), .ow (nmD L), .sh (.int ((i + 1 : Nat) : Int))] fun d => rdIx (.dct ks es) (keyTD (kyT ((i + 1 : Nat) : Int) c)) fun e => rdNe d e fun b => match b with
      | .bl b => if b = true then (rdIx (csD r) (.int (((i + 1 : Nat) : Int) - 1)) fun y => rdIx y (.int 0) fun n => (L.map fun c => D.str c.nm).length < sizeLine ∧ K [.sh (csD r), .sh (.dct ks es), .sh (.int ((c : Nat) - 1)), .ow (.lst ((L.map fun c => D.str c.nm) ++ [n])), .sh (.int ((i + 1 : Nat) : Int))]) else K [.sh (csD r), .sh (.dct ks es), .sh (.int (c : Nat)), .ow (nmD L), .sh (.int ((i + 1 : Nat) : Int))]
      | _ => False
    refine getT (K := kyT (((i + 1 : Nat) : Int) - 1) c) rfl (fun R h => h) a1 (rdIx_T a2 ⟨okD_opt _ 58, okD_opt _ 58, ?_⟩)
    rw [deq_opt]
    show (if (!decide (tb x r i c = tb x r (i + 1) c)) = true then _ else _)
    have en : r.length - (j + 1) = i := by omega
    by_cases g : tb x r i c = tb x r (i + 1) c
    · rw [decide_eq_true g]
      refine kk _ ⟨c, L, _, rfl, ?_, by omega, ?_⟩
      · rw [en]
        by_cases gc : c ≤ i
        · omega
        · rw [tb_none (by omega)] at g
          obtain ⟨y, e⟩ := tb_some (x := x) (r := r) (i := i + 1) (c := c) (by omega)
          rw [e] at g; cases g
      · rw [en, h3]
        have e : tr x r (i + 1) c = tr x r i c := if_pos g
        rw [e]
    · rw [decide_eq_false g]
      cases c with
      | zero => rw [tb_zero, tb_zero] at g; exact absurd rfl g
      | succ c =>
        show rdIx (csD r) (.int (((i + 1 : Nat) : Int) - 1)) _
        rw [ei']
        refine rdIx_map (f := cpD) g0 ?_
        show (L.map fun c => D.str c.nm).length < sizeLine ∧ K _
        refine ⟨size_lt (by rw [List.length_map]; omega), ?_⟩
        refine kk _ ⟨c, L ++ [r.getD i cp0], .sh (.int ((i + 1 : Nat) : Int)), ?_, ?_, ?_, ?_⟩
        · have e1 : ((c + 1 : Nat) : Int) - 1 = (c : Nat) := by omega
          rw [e1]
          unfold nmD
          rw [List.map_append]
          rfl
        · rw [en]; omega
        · rw [List.length_append]; show L.length + 1 ≤ _; omega
        · rw [en, h3]
          have e : tr x r (i + 1) (c + 1) = tr x r i c ++ [r.getD i cp0] := if_neg g
          rw [e, List.reverse_append, List.append_assoc]
          rfl
  · rintro E ⟨c, L, z, rfl, h1, h2, h3⟩
    have e : tr x r r.length c0 = L.reverse := by
      rw [h3, Nat.sub_self]
      rfl
    rw [e] at q
    show Q (.lst (L.map fun c => D.str c.nm).reverse)
    unfold nmD at q
    rw [List.map_reverse] at q
    exact q
theorem pure_best_few : PureD p_best_few S_best_few 8 3 := by
  rintro ds Q ⟨l, x, k, rfl, C, hx, x0, hk, q⟩
  have hl := C.le
  refine ⟨rfl, l, rfl, C, l, rfl, C, fun r pm gd => ?_⟩
  have hrl := pm.length_eq
  have ok : AllOk r := fun c hc => C.ok c (pm.mem_iff.mp hc)
  have RO : RowOk r := ⟨ok, by omega⟩
  have hn : (r.map cpD).length = r.length := List.length_map ..
  refine ⟨r, x, k, rfl, RO, hx, hk, fun ks es T => ?_⟩
  unfold r_best_few_3 r_best_few_4
  have emin : (if (k : Int) < (((r.map cpD).length : Nat) : Int) then ((k : Nat) : Int) else (((r.map cpD).length : Nat) : Int)) = ((min r.length k : Nat) : Int) := by
    rw [hn]; split <;> omega
  have h : RngB ((if (k : Int) < (((r.map cpD).length : Nat) : Int) then ((k : Nat) : Int) else (((r.map cpD).length : Nat) : Int)) + 1) ∧ forL (gN 6) b_best_few_4 { fnEnds Q with nx := r_best_few_7 (fnEnds Q) } (rangeD 0 ((if (k : Int) < (((r.map cpD).length : Nat) : Int) then ((k : Nat) : Int) else (((r.map cpD).length : Nat) : Int)) + 1).toNat) [.sh (csD l), .sh (qD x), .sh (.int (k : Nat)), .sh (csD r), .sh (.dct ks es), .sh (.int 0), .no, .no] := by
    rw [emin]
    refine ⟨⟨by omega, by omega⟩, ?_⟩
    rw [show (((min r.length k : Nat) : Int) + 1).toNat = min r.length k + 1 by omega]
    have at_ : ∀ c : Nat, c ≤ min r.length k → lk ks es (kyT ((r.length : Nat) : Int) c) = some (optD (tb x r r.length c)) := fun c hc => by
      rw [T.at_, if_pos ⟨Nat.le_refl _, hc⟩]
    refine forL_rng (fun c E => ∃ (b : Nat) (z : Sl) (y : Rat), E = [.sh (csD l), .sh (qD x), .sh (.int (k : Nat)), .sh (csD r), .sh (.dct ks es), .sh (.int (b : Nat)), z, .no] ∧ b ≤ min r.length k ∧ tb x r r.length b = some y ∧ ∀ c' w, c' < c → tb x r r.length c' = some w → y ≤ w) ?_ ⟨0, _, x, rfl, Nat.zero_le _, tb_zero .., fun _ _ h => absurd h (Nat.not_lt_zero _)⟩ ?_
    · rintro c hc E K ⟨b, z, y, rfl, hb, ey, le⟩ kk
      obtain ⟨w, ew⟩ := tb_some (x := x) (r := r) (i := r.length) (c := c) (by omega)
      have by1 := tb_bz ok (Nat.le_refl _) ey
      have bw1 := tb_bz ok (Nat.le_refl _) ew
      have hbc : rdIx (.dct ks es) (keyTD (kyT ((((r.map cpD).length : Nat) : Int)) c)) fun d1 => rdIx (.dct ks es) (keyTD (kyT ((((r.map cpD).length : Nat) : Int)) b)) fun d2 => S_less [d1, d2] fun d => match d with
        | .bl v => if v = true then K [.sh (csD l), .sh (qD x), .sh (.int (k : Nat)), .sh (csD r), .sh (.dct ks es), .sh (.int (c : Nat)), .sh (.int (c : Nat)), .no] else K [.sh (csD l), .sh (qD x), .sh (.int (k : Nat)), .sh (csD r), .sh (.dct ks es), .sh (.int (b : Nat)), .sh (.int (c : Nat)), .no]
        | _ => False := by
        rw [hn]
        refine rdIx_T (at_ c (by omega)) (rdIx_T (at_ b hb) ?_)
        rw [ew, ey]
        refine ⟨w, y, rfl, by omega, ?_⟩
        show (if decide (w < y) = true then _ else _)
        refine ite_ct (fun g => ?_) (fun g => ?_)
        · have g := of_decide_eq_true g
          refine kk _ ⟨c, _, w, rfl, by omega, ew, fun c' v hc' ev => ?_⟩
          rcases Nat.lt_or_ge c' c with h | h
          · exact Rat.le_trans (Rat.le_of_lt g) (le c' v h ev)
          · have : c' = c := by omega
            subst this
            rw [ew] at ev
            have : w = v := by injection ev
            exact this ▸ Rat.le_refl
        · have g := of_decide_eq_false g
          refine kk _ ⟨b, _, y, rfl, hb, ey, fun c' v hc' ev => ?_⟩
          rcases Nat.lt_or_ge c' c with h | h
          · exact le c' v h ev
          · have : c' = c := by omega
            subst this
            rw [ew] at ev
            have : w = v := by injection ev
            exact this ▸ Rat.not_lt.mp g
      exact hbc
    · rintro E ⟨b, z, y, rfl, hb, ey, le⟩
      obtain ⟨e1, e2⟩ := best_of ok (k := k) hb ey fun c w hc ew => le c w (by omega) ew
      have fin := fun d e => q r (tr x r r.length b) d e pm gd e2
      rw [e1] at fin
      have h : rdIx (.dct ks es) (keyTD (kyT ((((r.map cpD).length : Nat) : Int)) b)) fun d1 => S_traced [csD r, .dct ks es, .int (b : Nat)] fun d2 => (r.map cpD).length ≤ sizeLine ∧ lcL (gN 7) [7] dYes (dOp rdIx (dVarO 7) (dC (.int 0))) (r.map cpD) [.sh (csD l), .sh (qD x), .sh (.int (k : Nat)), .sh (csD r), .sh (.dct ks es), .sh (.int (b : Nat)), z, .no] fun ns => Q (.tup [d1, d2, .dct ks es, .lst ns]) := by
        rw [hn]
        refine rdIx_T (at_ b hb) ?_
        rw [ey]
        refine ⟨r, x, k, b, ks, es, rfl, RO, T, hb, ?_⟩
        refine ⟨size_le (by omega), ?_⟩
        exact lcL_of (h := cpD) (f := fun c => D.str c.nm) r (fun c hc N M kk => kk) _ (fin _ _)
      exact h
  exact h
end K14

namespace K14
open PySem PySem.Spec PyProof.Rows L2 DL
open K10 (Cp CpOk cp0 good gdB offF prodF mk runF place ins insAll cpD csD nmD strL AllOk)
theorem pure_law_fraction : PureD p_law_fraction S_law_fraction 3 3 := by
  rintro ds Q ⟨m, p, rfl, hm, p1, p5, q⟩
  refine ⟨rfl, ((m : Nat) : Int) + 1, rfl, by omega, by omega, fun v v0 v1 => ⟨((p : Nat) : Int), rfl, by omega, by omega, fun u u0 u1 => ⟨v, 1 + u, rfl, by omega, small_9 (by omega), ?_⟩⟩⟩
  exact q _ (dv_nn v0 (by omega)) (bz_dv (by omega) (by omega)) fun h => bz_dv (by omega) (by omega)
theorem pure_law_turned : PureF p_law_turned S_law_turned 3 2 := by
  rintro ds Q ⟨xs, rfl, hl, q⟩
  have go : ∀ k : Nat, k ≤ xs.length → r_law_turned_2 (fnEndsF Q) [.sh .pool, .sh (.lst xs), .sh (.int (k : Nat))] := fun k hk => by
    have e1 := cut_drop (fun d : D => d) xs k
    have e2 := cut_take (fun d : D => d) xs k
    rw [List.map_id'] at e1 e2
    rw [List.map_id'] at e1 e2
    have h : (DL.cutD xs (some (k : Nat)) none).length + (DL.cutD xs none (some (k : Nat))).length ≤ sizeLine ∧ Q (.lst (DL.cutD xs (some (k : Nat)) none ++ DL.cutD xs none (some (k : Nat)))) := by
      rw [e1, e2]
      exact ⟨size_le (by rw [List.length_drop, List.length_take]; omega), q k⟩
    exact h
  refine ⟨rfl, ite_ct (fun g => ?_) (fun g => go 0 (Nat.zero_le _))⟩
  have g1 : (0 : Int) < ((xs.length : Nat) : Int) := of_decide_eq_true g
  refine ⟨_, rfl, g1, by omega, fun v v0 v1 => ?_⟩
  have := go v.toNat (by omega)
  rw [show ((v.toNat : Nat) : Int) = v by omega] at this
  exact this
theorem loff_loop {Q : D → Prop} {c0 : Sl} : ∀ (r : List Cp) (f : Rat) (z : Sl), (∀ c ∈ r, CpOk c) → bz f + 32 * r.length ≤ 900 → Q (qD (offF f r)) →
    forL (gN 2) b_law_off_2 { fnEnds Q with nx := r_law_off_4 (fnEnds Q) } (r.map cpD) [c0, .sh (qD f), z]
  | [], f, z, _, _, q => q
  | c :: r, f, z, hc, hf, q => by
    rw [List.length_cons] at hf
    have O := hc c (by simp)
    have h1 := O.pb
    have h2 := O.ob
    have a2 := bz_mul f c.pt
    have a3 := bz_add (f * c.pt) c.of
    have ih := loff_loop (Q := Q) (c0 := c0) r (f * c.pt + c.of) (.sh (cpD c)) (fun d hd => hc d (by simp [hd])) (by omega) q
    simp only [List.map_cons, forL, gN]
    generalize forL (gN 2) b_law_off_2 { fnEnds Q with nx := r_law_off_4 (fnEnds Q) } (r.map cpD) = F at ih ⊢
    exact ⟨f, c.pt, rfl, by omega, f * c.pt, c.of, rfl, by omega, ih⟩
theorem pure_law_off : PureD p_law_off S_law_off 3 1 := by
  rintro ds Q ⟨r, rfl, ⟨hc, hl⟩, q⟩
  have a4 : bz (0 : Rat) ≤ 1 := by decide
  exact ⟨rfl, loff_loop r 0 .no hc (by omega) q⟩
theorem pure_law_made : PureD p_law_made S_law_made 3 2 := by
  rintro ds Q ⟨c, x, rfl, O, hx, q⟩
  have h1 := O.pb
  have h2 := O.ob
  have a1 := bz_mul c.pt x
  refine ⟨rfl, c.pt, x, rfl, by omega, c.pt * x, c.of, rfl, by omega, ?_⟩
  have q' : Q (qD (if c.pt * x - c.of < 0 then 0 else c.pt * x - c.of)) := q
  unfold r_law_made_2
  show (if decide ((c.pt * x - c.of).num < 0) = true then _ else _)
  have e : decide ((c.pt * x - c.of).num < 0) = decide (c.pt * x - c.of < 0) := decide_eq_decide.mpr (by rw [Rat.lt_iff]; simp)
  rw [e]
  refine ite_ct (fun g => ?_) (fun g => ?_)
  · rw [if_pos (of_decide_eq_true g)] at q'; exact q'
  · rw [if_neg (of_decide_eq_false g)] at q'; exact q'
theorem lrun_loop {Q : D → Prop} {c0 : Sl} : ∀ (r : List Cp) (x : Rat) (z : Sl), (∀ c ∈ r, CpOk c) → bz x + 32 * r.length ≤ 900 → Q (qD (runF x r)) →
    forL (gN 2) b_law_run_1 { fnEnds Q with nx := r_law_run_3 (fnEnds Q) } (r.map cpD) [c0, .sh (qD x), z]
  | [], x, z, _, _, q => q
  | c :: r, x, z, hc, hb, q => by
    rw [List.length_cons] at hb
    have O := hc c (by simp)
    have hm := bz_mk O x
    have ih := lrun_loop (Q := Q) (c0 := c0) r (mk c x) (.sh (cpD c)) (fun d hd => hc d (by simp [hd])) (by omega) q
    simp only [List.map_cons, forL, gN]
    generalize forL (gN 2) b_law_run_1 { fnEnds Q with nx := r_law_run_3 (fnEnds Q) } (r.map cpD) = F at ih ⊢
    exact ⟨c, x, rfl, O, by omega, ih⟩
theorem pure_law_run : PureD p_law_run S_law_run 3 2 := by
  rintro ds Q ⟨r, x, rfl, ⟨hc, hl⟩, hx, q⟩
  exact ⟨rfl, lrun_loop r x .no hc (by omega) q⟩
theorem er_map {α : Type} {f : α → D} : ∀ (l : List α) (k : Nat), (l.map f).eraseIdx k = (l.eraseIdx k).map f
  | [], _ => rfl
  | a :: l, 0 => rfl
  | a :: l, k + 1 => by
    rw [List.map_cons, List.eraseIdx_cons_succ, List.eraseIdx_cons_succ, List.map_cons, er_map l k]
theorem er_perm {α : Type} : ∀ (l : List α) (k : Nat) (x : α), l[k]? = some x → (x :: l.eraseIdx k).Perm l
  | [], _, _, h => by simp at h
  | a :: l, 0, x, h => by simp at h; subst h; exact .refl _
  | a :: l, k + 1, x, h => by
    rw [List.eraseIdx_cons_succ]
    exact (List.Perm.swap _ _ _).trans ((er_perm l k x (by simpa using h)).cons a)
theorem pure_law_drawn : PureD p_law_drawn S_law_drawn 5 2 := by
  rintro ds Q ⟨l, rfl, hl, q⟩
  refine ⟨rfl, ?_⟩
  unfold p_law_drawn r_law_drawn_2 r_law_drawn_3
  have hn : (l.map cpD).length = l.length := List.length_map ..
  have h : RngB (((l.map cpD).length : Nat) : Int) ∧ forL (gN 4) b_law_drawn_3 { fnEnds Q with nx := r_law_drawn_5 (fnEnds Q) } (rangeD 0 (((l.map cpD).length : Nat) : Int).toNat) [.sh .pool, .sh (csD l), .ow (csD l), .ow (csD []), .no] := by
    refine ⟨rngB_len (by omega), ?_⟩
    rw [Int.toNat_natCast, hn]
    refine forL_rng (n := l.length) (fun i E => ∃ (o L : List Cp) (z4 : Sl), (o ++ L).Perm l ∧ o.length = i ∧ E = [.sh .pool, .sh (csD l), .ow (csD L), .ow (csD o), z4]) ?_ ⟨[], _, _, .refl _, rfl, rfl⟩ ?_
    · rintro i hi E K ⟨o, L, z4, pm, ho, rfl⟩ kK
      have hl2 := pm.length_eq
      rw [List.length_append] at hl2
      refine ⟨((L.map cpD).length : Nat), rfl, by rw [List.length_map]; omega, by rw [List.length_map]; omega, fun v v0 v1 => ?_⟩
      rw [List.length_map] at v1
      obtain ⟨j, rfl⟩ := Int.eq_ofNat_of_zero_le v0
      have hj : j < L.length := by omega
      refine ⟨by omega, cpD L[j], ?_, by rw [List.length_map]; omega, by rw [List.length_map]; exact size_lt (by omega), ?_⟩
      · rw [Int.toNat_natCast, List.getElem?_map, List.getElem?_eq_getElem hj]; rfl
      · rw [Int.toNat_natCast, er_map]
        have e3 : D.lst (o.map cpD ++ [cpD L[j]]) = csD (o ++ [L[j]]) := by unfold csD; rw [List.map_append]; rfl
        have e4 : D.lst ((L.eraseIdx j).map cpD) = csD (L.eraseIdx j) := rfl
        rw [e3, e4]
        refine kK _ ⟨o ++ [L[j]], L.eraseIdx j, _, ?_, by simp [ho], rfl⟩
        rw [List.append_assoc]
        exact ((er_perm L j L[j] (List.getElem?_eq_getElem hj)).append_left o).trans pm
    · rintro E ⟨o, L, z4, pm, ho, rfl⟩
      have hL : L = [] := by
        have := pm.length_eq
        rw [List.length_append, ho] at this
        exact List.length_eq_zero_iff.mp (by omega)
      subst hL
      rw [List.append_nil] at pm
      exact q o pm
  exact h
theorem nm_inj {l : List Cp} (nd : (l.map Cp.nm).Nodup) : ∀ {c d : Cp}, c ∈ l → d ∈ l → c.nm = d.nm → c = d := by
  induction l with
  | nil => intro c d h; cases h
  | cons a l ih =>
    rw [List.map_cons, List.nodup_cons] at nd
    intro c d hc hd e
    rcases List.mem_cons.mp hc with h1 | h1 <;> rcases List.mem_cons.mp hd with h2 | h2
    · rw [h1, h2]
    · exact absurd (List.mem_map.mpr ⟨d, h2, by rw [← e, h1]⟩) nd.1
    · exact absurd (List.mem_map.mpr ⟨c, h1, by rw [e, h2]⟩) nd.1
    · exact ih nd.2 h1 h2 e
theorem one_name {l : List Cp} (nd : (l.map Cp.nm).Nodup) {c : Cp} (h : c ∈ l) : l.filter (fun d => decide (d.nm = c.nm)) = [c] := by
  induction l with
  | nil => cases h
  | cons a l ih =>
    rw [List.map_cons, List.nodup_cons] at nd
    rcases List.mem_cons.mp h with rfl | h
    · rw [List.filter_cons_of_pos (by simp)]
      congr 1
      rw [List.filter_eq_nil_iff]
      intro d hd z
      exact nd.1 (List.mem_map.mpr ⟨d, hd, of_decide_eq_true z⟩)
    · rw [List.filter_cons_of_neg (fun z => nd.1 (List.mem_map.mpr ⟨c, h, (of_decide_eq_true z).symm⟩))]
      exact ih nd.2 h
theorem byn_loop {Q : D → Prop} {l : List Cp} (O : Cps l) : ∀ (r done : List Cp) (z3 z4 : Sl), (∀ c ∈ r, c ∈ l) → (done ++ r).length ≤ 1000 → Q (csD (done ++ r)) → ∀ {c1 : Sl},
    forL (gN 3) b_law_by_names_2 { fnEnds Q with nx := r_law_by_names_4 (fnEnds Q) } (r.map fun c => D.str c.nm) [.sh (csD l), c1, .sh (csD done), z3, z4]
  | [], done, z3, z4, hc, hl, q, c1 => by
    rw [List.append_nil] at q
    exact q
  | c :: r, done, z3, z4, hc, hl, q, c1 => by
    have hle := O.le
    have e : done ++ c :: r = (done ++ [c]) ++ r := by simp
    rw [e] at hl q
    have ih := byn_loop (Q := Q) O r (done ++ [c]) (.sh (.str c.nm)) z4 (fun d hd => hc d (by simp [hd])) hl q (c1 := c1)
    simp only [List.map_cons, forL, gN]
    generalize forL (gN 3) b_law_by_names_2 { fnEnds Q with nx := r_law_by_names_4 (fnEnds Q) } (r.map fun c => D.str c.nm) = F at ih ⊢
    have h : (l.map cpD).length ≤ sizeLine ∧ lcL (gN 4) [4] (dTst (dOp rdEq (dOp rdIx (dVarO 4) (dC (.int 0))) (dVarO 3))) (dVar 4) (l.map cpD) [.sh (csD l), c1, .sh (csD done), .sh (.str c.nm), z4] fun ds => (done.map cpD).length + ds.length ≤ sizeLine ∧ F [.sh (csD l), c1, .sh (.lst (done.map cpD ++ ds)), .sh (.str c.nm), z4] := by
      refine ⟨size_le (by rw [List.length_map]; omega), ?_⟩
      refine lcL_filter (h := cpD) (f := cpD) (t := fun d => decide (d.nm = c.nm)) l (fun d hd N M k1 k2 => ?_) _ ?_
      · refine ⟨rfl, rfl, ?_⟩
        show (if deq (.str d.nm) (.str c.nm) = true then _ else _)
        have : deq (.str d.nm) (.str c.nm) = decide (d.nm = c.nm) := rfl
        rw [this]
        exact ite_ct (fun g => k1 g) (fun g => k2 g)
      · rw [one_name O.nd (hc c (by simp))]
        rw [List.length_append] at hl
        refine ⟨size_le (by rw [List.length_map]; simp at hl ⊢; omega), ?_⟩
        unfold csD at ih
        rw [List.map_append] at ih
        exact ih
    exact h
theorem pure_law_by_names : PureD p_law_by_names S_law_by_names 5 2 := by
  rintro ds Q ⟨l, r, rfl, O, R, q⟩
  have hr := R.len O
  exact ⟨rfl, byn_loop (Q := Q) O r [] .no .no R.sub (by simp; omega) q⟩
/-! few coupons -/
theorem nd_of_nm {l : List Cp} (nd : (l.map Cp.nm).Nodup) : l.Nodup := by
  induction l with
  | nil => exact List.nodup_nil
  | cons a l ih =>
    rw [List.map_cons, List.nodup_cons] at nd
    exact List.nodup_cons.mpr ⟨fun h => nd.1 (List.mem_map.mpr ⟨a, h, rfl⟩), ih nd.2⟩
theorem perm_mem : ∀ {p q : List Cp}, p.Nodup → q.Nodup → (∀ x, x ∈ p ↔ x ∈ q) → p.Perm q
  | [], q, _, _, h => by
    cases q with
    | nil => exact .refl _
    | cons b q => exact absurd ((h b).mpr (by simp)) (by simp)
  | a :: p, q, hp, hq, h => by
    obtain ⟨s, t, rfl⟩ := List.append_of_mem ((h a).mp (by simp))
    have pm : (s ++ a :: t).Perm (a :: (s ++ t)) := List.perm_middle
    have hq' := pm.nodup_iff.mp hq
    rw [List.nodup_cons] at hp hq'
    refine (List.Perm.cons a (perm_mem hp.2 hq'.2 fun x => ?_)).trans pm.symm
    constructor
    · intro hx
      have := pm.mem_iff.mp ((h x).mp (by simp [hx]))
      rcases List.mem_cons.mp this with rfl | z
      · exact absurd hx hp.1
      · exact z
    · intro hx
      have := (h x).mpr (pm.mem_iff.mpr (by simp [hx]))
      rcases List.mem_cons.mp this with rfl | z
      · exact absurd hx hq'.1
      · exact z
theorem few_le {l r u w : List Cp} {x : Rat} {k : Nat} (O : Cps l) (pm : r.Perm l) (gd : r.Pairwise good) (B : Best x r k u) (W : Ord l w) (hk : w.length ≤ k) (x0 : 0 ≤ x) : runF x u ≤ runF x w := by
  obtain ⟨h1, h2, h3⟩ := B
  let v := r.filter fun c => decide (c.nm ∈ w.map Cp.nm)
  have vs : v.Sublist r := List.filter_sublist
  have ndr : (r.map Cp.nm).Nodup := (pm.map Cp.nm).nodup_iff.mpr O.nd
  have pv : v.Perm w := perm_mem ((nd_of_nm ndr).sublist vs) (nd_of_nm W.nd) fun c => by
    rw [List.mem_filter]
    constructor
    · rintro ⟨hc, hm⟩
      obtain ⟨d, hd, e⟩ := List.mem_map.mp (of_decide_eq_true hm)
      have := nm_inj O.nd (W.sub d hd) (pm.mem_iff.mp hc) e
      exact this ▸ hd
    · intro hc
      exact ⟨pm.mem_iff.mpr (W.sub c hc), decide_eq_true (List.mem_map.mpr ⟨c, hc, rfl⟩)⟩
  have okv : AllOk v := fun c hc => O.ok c (pm.mem_iff.mp (vs.mem hc))
  exact Rat.le_trans (h3 v vs (by rw [pv.length_eq]; exact hk)) (K10.run_le okv (gd.sublist vs) pv.symm x0)
theorem Best.ord {l r u : List Cp} {x : Rat} {k : Nat} (O : Cps l) (pm : r.Perm l) (B : Best x r k u) : Ord l u :=
  ⟨fun c hc => pm.mem_iff.mp (B.1.mem hc), ((pm.map Cp.nm).nodup_iff.mpr O.nd).sublist (B.1.map _)⟩
theorem all_same {l r r0 u : List Cp} {x : Rat} {k : Nat} (O : Cps l) (pm : r.Perm l) (gd : r.Pairwise good) (p0 : r0.Perm l) (g0 : r0.Pairwise good) (B : Best x r k u) (hk : l.length ≤ k) (x0 : 0 ≤ x) : runF x u = runF x r0 := by
  have ok : AllOk r := fun c hc => O.ok c (pm.mem_iff.mp hc)
  have ok0 : AllOk r0 := fun c hc => O.ok c (p0.mem_iff.mp hc)
  exact Rat.le_antisymm (few_le O pm gd B (O.ord p0) (by rw [p0.length_eq]; exact hk) x0) (Rat.le_trans (K10.run_le ok0 g0 (pm.trans p0.symm) x0) (run_sub B.1 ok x0))
theorem off_same {l r w : List Cp} (O : Cps l) (pm : r.Perm l) (gd : r.Pairwise good) (pw : w.Perm l) (gw : w.Pairwise good) : offF 0 w = offF 0 r := by
  have h1 := K10.off_le (AllOk.perm O.ok pm) gd (pw.trans pm.symm) 0
  have h2 := K10.off_le (AllOk.perm O.ok pw) gw (pm.trans pw.symm) 0
  exact Rat.le_antisymm h1 h2
theorem offr_same {l r w : List Cp} (O : Cps l) (pm : r.Perm l) (gd : r.Pairwise good) (pw : w.Perm l) (gw : w.Pairwise good) : offF 0 w.reverse = offF 0 r.reverse := by
  have ok1 : AllOk r.reverse := AllOk.perm (AllOk.perm O.ok pm) r.reverse_perm
  have ok2 : AllOk w.reverse := AllOk.perm (AllOk.perm O.ok pw) w.reverse_perm
  have p1 : w.reverse.Perm r.reverse := w.reverse_perm.trans (pw.trans (pm.symm.trans r.reverse_perm.symm))
  have h1 := K10.off_ge ok1 (List.pairwise_reverse.mpr gd) p1 0
  have h2 := K10.off_ge ok2 (List.pairwise_reverse.mpr gw) p1.symm 0
  exact Rat.le_antisymm h2 h1
theorem prod_app : ∀ (a : List Cp) (p : Rat) (b : List Cp), prodF p (a ++ b) = prodF (prodF p a) b
  | [], p, b => rfl
  | c :: a, p, b => prod_app a _ b
theorem off_app : ∀ (a : List Cp) (p : Rat) (b : List Cp), offF p (a ++ b) = offF (offF p a) b
  | [], p, b => rfl
  | c :: a, p, b => off_app a _ b
theorem run_app2 : ∀ (a : List Cp) (p : Rat) (b : List Cp), runF p (a ++ b) = runF (runF p a) b
  | [], p, b => rfl
  | c :: a, p, b => run_app2 a _ b
end K14

namespace K14
open PySem PySem.Spec PyProof.Rows L2 DL
open K10 (Cp CpOk cp0 good gdB offF prodF mk runF place ins insAll cpD csD nmD strL AllOk)
local macro_rules | `(tactic| simp_arith [$ts,*]) => `(tactic| simp only [dSeq, dAsg, dOwn, dDrop, dRet, dRetN, dRetF, dRetO, dIfS, dFor, dIter, dVar, dVarO, dC, dTst, dAnd, dOr, dNot, dIf, dAndV, dOrV, dNotV, dChain, dOp, dUn, dNilA, dConsA, dTup, dLst, dCall, dCB, dNext, dBreak, dCont, dAsgT, gT, gN, gsNil, gsCons, dApp, dPut, dNew, dFz, dKeys, dPar, dSl, dNoP, dSmP, dGet1, dGet2, dLc, dDc, dSpread, dYes, dRng, dCat, dRev, dValsI, dVals, dEnum, dMth, dSetM, dPopK, dLc2, dTru, startN, DL.keyOf, List.set_cons_zero, List.set_cons_succ, List.getElem?_cons_zero, List.getElem?_cons_succ, List.map_cons, List.map_nil, List.length_cons, List.length_nil, List.replicate, List.nil_append, List.cons_append, Nat.reduceAdd, Nat.reduceSub, Nat.zero_add, Nat.sub_self, and_true, true_and, rdAdd_ii, rdAdd_ll, rdAdd_tt, rdSub_ii, rdMul_ii, rdDiv_ii, rdMod_ii, rdLt_ii, rdLe_ii, rdGt_ii, rdGe_ii, rdEq_ii, rdNe_ii, rdEq_ss, rdNe_ss, rdEq_bb, rdNe_bb, rdIs_nn, rdIs_in, rdIs_sn, rdIs_tn, rdIs_ln, rdIs_dn, rdIs_bb, rdIsNot_nn, rdIsNot_in, rdIsNot_sn, rdIsNot_tn, rdIsNot_ln, rdIsNot_dn, rdIx_t0, rdIx_t1, rdIx_t2, rdIx_t3, rdIx_l0, rdIx_l1, rdIn_sd, rdIn_id, rdNotIn_sd, rdNotIn_id, rdNeg_i, rdLen_l, rdLen_t, rdLen_d, rdMax2_ii, rdMin2_ii, rdInt_i, rdInt_b, rdStr_i, rdDict_d, rdList_l, rdList_t, rdTuple_l, rdSum_ints, wipeD, if_true, if_false, eq_self, Bool.false_eq_true, Bool.not_true, Bool.not_false, $ts,*])
theorem bz_off : ∀ (r : List Cp) (f : Rat), (∀ c ∈ r, CpOk c) → bz (offF f r) ≤ bz f + 32 * r.length
  | [], f, _ => Nat.le_add_right ..
  | c :: r, f, h => by
    have O := h c (by simp)
    have h1 := O.pb
    have h2 := O.ob
    have a2 := bz_mul f c.pt
    have a3 := bz_add (f * c.pt) c.of
    have ih := bz_off r (f * c.pt + c.of) fun d hd => h d (by simp [hd])
    rw [List.length_cons]
    show bz (offF (f * c.pt + c.of) r) ≤ _
    omega
theorem bz_run : ∀ (r : List Cp) (x : Rat), (∀ c ∈ r, CpOk c) → bz (runF x r) ≤ bz x + 32 * r.length
  | [], x, _ => Nat.le_add_right ..
  | c :: r, x, h => by
    have O := h c (by simp)
    have hm := bz_mk O x
    have ih := bz_run r (mk c x) fun d hd => h d (by simp [hd])
    rw [List.length_cons]
    show bz (runF (mk c x) r) ≤ _
    omega
theorem bz_prod : ∀ (r : List Cp) (p : Rat), (∀ c ∈ r, CpOk c) → bz (prodF p r) ≤ bz p + 12 * r.length
  | [], p, _ => Nat.le_add_right ..
  | c :: r, p, h => by
    have h1 := (h c (by simp)).pb
    have a2 := bz_mul p c.pt
    have ih := bz_prod r (p * c.pt) fun d hd => h d (by simp [hd])
    rw [List.length_cons]
    show bz (prodF (p * c.pt) r) ≤ _
    omega
/-- where the law stands between the turns -/
def LS (l r : List Cp) (x : Rat) (E : List Sl) : Prop := ∃ z7 z8 z9 z12 z13 z14 z15 z16 z17 z18 z19 z20 z21, E = [.no, .sh .pool, .sh (csD l), .sh (nmD r), .sh (csD r), .sh (qD x), .sh (qD (prodF 1 r)), z7, z8, z9, .sh (qD (offF 0 r.reverse)), .sh (qD (offF 0 r)), z12, z13, z14, z15, z16, z17, z18, z19, z20, z21]
theorem turn_ok {Q : D → Prop} {N B : List Sl → Prop} {l r : List Cp} {x : Rat} (O : Cps l) (pm : r.Perm l) (gd : r.Pairwise good) (hx : bz x ≤ 40) (x0 : 0 ≤ x) (kN : ∀ E, LS l r x E → N E) : ∀ E, LS l r x E → b_law_11 { fnEnds Q with nx := N, ct := N, bk := B } E := by
  rintro _ ⟨z7, z8, z9, z12, z13, z14, z15, z16, z17, z18, z19, z20, z21, rfl⟩
  have hl := O.le
  simp_arith [b_law_11, r_law_13]
  refine ⟨rfl, l, rfl, hl, fun w pw => ?_⟩
  have okw : AllOk w := AllOk.perm O.ok pw
  have hw := pw.length_eq
  simp_arith [r_law_14, csD]
  refine ⟨size_le (by rw [List.length_map]; omega), ?_⟩
  refine lcL_of (h := cpD) (f := fun c => D.str c.nm) w (fun c hc N M kk => kk) _ ?_
  simp_arith [r_law_15]
  refine ⟨w, rfl, ⟨okw, by omega⟩, ?_⟩
  simp_arith [r_law_16]
  have okr : AllOk r := AllOk.perm O.ok pm
  have okrr : AllOk r.reverse := AllOk.perm okr r.reverse_perm
  have a4 : bz (0 : Rat) ≤ 1 := by decide
  have b1 := bz_off w 0 okw
  have b2 := bz_off r 0 okr
  have b3 := bz_off r.reverse 0 okrr
  have hr := pm.length_eq
  rw [List.length_reverse] at b3
  have le1 := K10.off_le okr gd (pw.trans pm.symm) 0
  have le2 := K10.off_ge okrr (List.pairwise_reverse.mpr gd) (pw.trans (pm.symm.trans r.reverse_perm.symm)) 0
  refine ⟨_, _, rfl, by omega, ?_⟩
  show (if decide (offF 0 r < offF 0 w) = true then _ else _)
  rw [decide_eq_false (Rat.not_lt.mpr le1)]
  refine ⟨_, _, rfl, by omega, ?_⟩
  show (if decide (offF 0 w < offF 0 r.reverse) = true then _ else _)
  rw [decide_eq_false (Rat.not_lt.mpr le2)]
  refine ⟨l, w, rfl, O, O.ord pw, _, _, rfl, ?_, ?_⟩
  · rw [K10.prodF_perm (pw.trans pm.symm) 1]
    refine sm_tup (by simp) fun d hd => ?_
    simp only [List.mem_cons, List.not_mem_nil, or_false] at hd
    rcases hd with rfl | rfl
    · exact sm_qD 3 _
    · exact sm_qD 3 _
  simp_arith [r_law_18]
  rw [List.length_map]
  refine ⟨_, rfl, by omega, by omega, fun v v0 v1 => ?_⟩
  obtain ⟨j, rfl⟩ := Int.eq_ofNat_of_zero_le v0
  simp_arith [r_law_19]
  have ew : w.take j ++ w.drop j = w := List.take_append_drop j w
  have sa : ∀ c ∈ w.take j, c ∈ l := fun c hc => pw.mem_iff.mp (List.mem_of_mem_take hc)
  have sb : ∀ c ∈ w.drop j, c ∈ l := fun c hc => pw.mem_iff.mp (List.mem_of_mem_drop hc)
  have ndw : (w.map Cp.nm).Nodup := (O.ord pw).nd
  have oa : Ord l (w.take j) := ⟨sa, ndw.sublist ((List.take_sublist j w).map _)⟩
  have ob : Ord l (w.drop j) := ⟨sb, ndw.sublist ((List.drop_sublist j w).map _)⟩
  have ea := cut_take (fun c : Cp => D.str c.nm) w j
  have eb := cut_drop (fun c : Cp => D.str c.nm) w j
  have la : (w.take j).length + (w.drop j).length = w.length := by rw [← List.length_append, ew]
  have oka : AllOk (w.take j) := oa.cok O
  have okb : AllOk (w.drop j) := ob.cok O
  rw [ea]
  have ep : prodF 1 r = prodF 1 (w.take j) * prodF 1 (w.drop j) := by
    rw [← K10.prodF_perm (pw.trans pm.symm) 1, ← K10.prodF_one, ← prod_app, ew]
  have eo : offF 0 w = offF 0 (w.take j) * prodF 1 (w.drop j) + offF 0 (w.drop j) := by
    rw [← K10.offF_lin, ← off_app, ew]
  have er : runF x w = runF (runF x (w.take j)) (w.drop j) := by rw [← run_app2, ew]
  generalize w.take j = wa at sa oa ea la oka ep eo er ⊢
  generalize hwb : w.drop j = wb at sb ob eb la okb ep eo er ⊢
  have c1 := bz_prod wa 1 oka
  have c2 := bz_prod wb 1 okb
  have c3 := bz_off wa 0 oka
  have c4 := bz_off wb 0 okb
  have c5 := bz_run wa x oka
  have o1 := bz_one
  refine ⟨l, wa, rfl, O, oa, ?_⟩
  simp_arith [r_law_20]
  rw [eb]
  refine ⟨l, wb, rfl, O, ob, ?_⟩
  simp_arith [r_law_21]
  refine ⟨_, _, rfl, by omega, okD_qd _ _, okD_qd _ _, ?_⟩
  rw [deq_qd, ep, decide_eq_true rfl]
  have m1 := bz_mul (offF 0 wa) (prodF 1 wb)
  refine ⟨_, _, rfl, by omega, _, _, rfl, by omega, okD_qd _ _, okD_qd _ _, ?_⟩
  rw [deq_qd, ← eo, decide_eq_true rfl, ← ep]
  simp_arith [r_law_23]
  rw [ea]
  refine ⟨l, wa, x, rfl, O, oa, by omega, ?_⟩
  simp_arith [r_law_24]
  rw [eb]
  refine ⟨l, wb, _, rfl, O, ob, by omega, l, w, x, rfl, O, O.ord pw, by omega, _, _, rfl, ?_, ?_⟩
  · rw [← er]; exact sm_qD 4 _
  exact kN _ ⟨_, _, _, _, _, _, _, _, _, _, _, _, _, rfl⟩
/-- .. and with a bound that grows -/
def LK (l r : List Cp) (x : Rat) (k : Nat) (E : List Sl) : Prop := ∃ (p : Option Rat) (z7 z9 z12 z13 z14 z15 z16 z17 z18 z19 z20 z21 : Sl), E = [.no, .sh .pool, .sh (csD l), .sh (nmD r), .sh (csD r), .sh (qD x), .sh (qD (prodF 1 r)), z7, .sh (optD p), z9, .sh (qD (offF 0 r.reverse)), .sh (qD (offF 0 r)), z12, z13, z14, z15, z16, z17, z18, z19, z20, z21] ∧
  match k with
  | 0 => p = none
  | k + 1 => ∃ r' u : List Cp, r'.Perm l ∧ r'.Pairwise good ∧ Best x r' k u ∧ p = some (runF x u)
theorem few_ok {Q : D → Prop} {N B : List Sl → Prop} {l r : List Cp} {x : Rat} (O : Cps l) (pm : r.Perm l) (gd : r.Pairwise good) (hx : bz x ≤ 40) (x0 : 0 ≤ x) {k : Nat} (hk : k ≤ 100) (kN : ∀ E, LK l r x (k + 1) E → N E) : ∀ E, LK l r x k E → (gN 9) (.int (k : Nat)) E fun E' => b_law_27 { fnEnds Q with nx := N, ct := N, bk := B } E' := by
  rintro _ ⟨p, z7, z9, z12, z13, z14, z15, z16, z17, z18, z19, z20, z21, rfl, hp⟩
  have hl := O.le
  simp_arith [b_law_27]
  refine ⟨l, x, k, rfl, O, by omega, x0, by omega, fun r' u d e pm' gd' BU => ?_⟩
  have OU := BU.ord O pm'
  have oku := OU.cok O
  have lu : u.length ≤ 12 := OU.len O
  have bu := bz_run u x oku
  have fin : r_law_31 { nx := N, rt := Q, bk := B, ct := N } [.no, .sh .pool, .sh (csD l), .sh (nmD r), .sh (csD r), .sh (qD x), .sh (qD (prodF 1 r)), z7, .sh (optD p), .sh (.int (k : Nat)), .sh (qD (offF 0 r.reverse)), .sh (qD (offF 0 r)), z12, z13, z14, z15, z16, z17, z18, .sh (.tup [qD (runF x u), nmD u, d, e]), z20, z21] := by
    simp_arith [r_law_31, r_law_32, nmD]
    rw [List.length_map, decide_eq_false (by have := BU.2.1; omega)]
    refine ⟨l, u, rfl, O, OU, u, x, rfl, ⟨oku, lu⟩, by omega, okD_qd _ _, okD_qd _ _, ?_⟩
    rw [deq_qd, decide_eq_true rfl]
    simp_arith [r_law_34]
    refine ⟨l, rfl, hl, fun w pw => ?_⟩
    simp_arith [csD]
    rw [cut_take cpD w k]
    simp_arith [r_law_35]
    have OW : Ord l (w.take k) := ⟨fun c hc => pw.mem_iff.mp (List.mem_of_mem_take hc), (O.ord pw).nd.sublist ((List.take_sublist k w).map _)⟩
    have bw := bz_run (w.take k) x (OW.cok O)
    have lw := OW.len O
    refine ⟨w.take k, x, rfl, ⟨OW.cok O, lw⟩, by omega, _, _, rfl, by omega, ?_⟩
    show (if decide (runF x (w.take k) < runF x u) = true then _ else _)
    rw [decide_eq_false (Rat.not_lt.mpr (few_le O pm' gd' BU OW (by rw [List.length_take]; omega) x0))]
    exact kN _ ⟨some (runF x u), _, _, _, _, _, _, _, _, _, _, _, _, rfl, r', u, pm', gd', BU, rfl⟩
  cases p with
  | none =>
    simp_arith [r_law_29, optD]
    exact fin
  | some y =>
    simp_arith [r_law_29, optD]
    cases k with
    | zero => cases hp
    | succ k' =>
      obtain ⟨r0, u0, p0, g0, B0, e0⟩ := hp
      have e0 : y = runF x u0 := by injection e0
      have O0 := B0.ord O p0
      have l0 := O0.len O
      have b0 := bz_run u0 x (O0.cok O)
      have hn : ∀ R : D → Prop, R (.bl true) → rdIsNot (qD y) .non R := fun R h => h
      refine hn _ ?_
      simp_arith []
      refine ⟨_, _, rfl, by rw [e0]; omega, ?_⟩
      have ge : ¬ y < runF x u := Rat.not_lt.mpr (by rw [e0]; exact few_le O pm' gd' BU O0 (by have := B0.2.1; omega) x0)
      show (if decide (y < runF x u) = true then _ else _)
      rw [decide_eq_false ge]
      exact fin
theorem law_few {Q : D → Prop} {l r : List Cp} {x : Rat} (O : Cps l) (pm : r.Perm l) (gd : r.Pairwise good) (hx : bz x ≤ 40) (x0 : 0 ≤ x) (q : Q (.bl true)) : ∀ E, LS l r x E → r_law_26 (fnEnds Q) E := by
  rintro _ ⟨z7, z8, z9, z12, z13, z14, z15, z16, z17, z18, z19, z20, z21, rfl⟩
  have hl := O.le
  simp_arith [r_law_26, r_law_27]
  rw [show csD l = .lst (l.map cpD) from rfl]
  simp_arith []
  rw [List.length_map]
  refine ⟨⟨by omega, by omega⟩, ?_⟩
  rw [show (((l.length : Nat) : Int) + 1).toNat = l.length + 1 by omega]
  refine forL_rng (n := l.length + 1) (fun k E => LK l r x k E) (fun k hk E K hE kK => ?_) ⟨none, _, _, _, _, _, _, _, _, _, _, _, _, rfl, rfl⟩ ?_
  · exact few_ok O pm gd hx x0 (by omega) kK E hE
  · rintro _ ⟨p, z7, z9, z12, z13, z14, z15, z16, z17, z18, z19, z20, z21, rfl, r', u, pm', gd', BU, rfl⟩
    simp_arith [r_law_37]
    refine ⟨l, r, x, rfl, O, O.ord pm, by omega, _, _, rfl, ?_, q⟩
    rw [all_same O pm' gd' pm gd BU (Nat.le_refl _) x0]
    exact sm_qD 4 _
theorem law_turns {Q : D → Prop} {l r : List Cp} {x : Rat} (O : Cps l) (pm : r.Perm l) (gd : r.Pairwise good) (hx : bz x ≤ 40) (x0 : 0 ≤ x) (q : Q (.bl true)) : ∀ E, LS l r x E → r_law_11 (fnEnds Q) E := by
  intro E hE
  unfold r_law_11
  refine ⟨⟨by decide, by decide⟩, ?_⟩
  refine forL_rng (n := 5) (fun _ E => LS l r x E) (fun k hk E K hE kK => ?_) hE ?_
  · obtain ⟨z7, z8, z9, z12, z13, z14, z15, z16, z17, z18, z19, z20, z21, rfl⟩ := hE
    exact turn_ok O pm gd hx x0 kK _ ⟨_, _, _, _, _, _, _, _, _, _, _, _, _, rfl⟩
  · exact law_few O pm gd hx x0 q
theorem strs_same {a b : List Str} (h : a.Perm b) : a.mergeSort strLe = b.mergeSort strLe := by
  have h1 := sort_str_pair a
  have h2 := sort_str_pair b
  exact ((List.mergeSort_perm a strLe).trans (h.trans (List.mergeSort_perm b strLe).symm)).eq_of_pairwise (le := fun a b => strLe a b = true) (fun x y _ _ h1 h2 => strLe_anti h1 h2) h1 h2
theorem pure_law (Q : D → Prop) (q : Q (.bl true)) : p_law (fnEnds Q) (.no :: .sh .pool :: List.replicate 20 .no) := by
  simp_arith [p_law]
  refine ⟨12, rfl, by omega, fun l O => ?_⟩
  have hl := O.le
  simp_arith [r_law_3]
  refine ⟨rfl, ?_⟩
  simp_arith [r_law_4]
  refine ⟨l, rfl, O, fun r pm gd => ?_⟩
  have okr : AllOk r := AllOk.perm O.ok pm
  have okrr : AllOk r.reverse := AllOk.perm okr r.reverse_perm
  have hr := pm.length_eq
  simp_arith [r_law_5]
  refine ⟨l, r, rfl, O, O.ord pm, ?_⟩
  simp_arith [r_law_6]
  refine ⟨l, rfl, O, fun r2 p2 g2 => ?_⟩
  rw [off_same O pm gd p2 g2, offr_same O pm gd p2 g2]
  simp_arith []
  have next : ∀ x : Rat, 0 ≤ x → bz x ≤ 40 → r_law_10 (fnEnds Q) [.no, .sh .pool, .sh (csD l), .sh (nmD r), .sh (csD r), .sh (qD x), .no, .no, .no, .no, .sh (qD (offF 0 r.reverse)), .sh (qD (offF 0 r)), .no, .no, .no, .no, .no, .no, .no, .no, .no, .no] := fun x x0 hx => by
    simp_arith [r_law_10]
    refine ⟨l, r, rfl, O, O.ord pm, ?_⟩
    simp_arith []
    exact law_turns O pm gd hx x0 q _ ⟨_, _, _, _, _, _, _, _, _, _, _, _, _, rfl⟩
  simp_arith [r_law_7, nmD, csD]
  have en : ∀ w : List Cp, w.map (fun c => D.str c.nm) = (w.map Cp.nm).map D.str := fun w => by rw [List.map_map]; rfl
  have srt2 : ∀ ns : List Str, ∀ R : D → Prop, R (.lst ((ns.mergeSort strLe).map D.str)) → rdSorted [.lst (ns.map D.str)] R := fun ns R k => by
    have e := sortD_str ns
    refine ⟨fun d hd => ?_, alike_strs ns, ?_⟩
    · obtain ⟨c, _, rfl⟩ := List.mem_map.mp hd
      rfl
    · rw [e]; exact k
  rw [en r]
  refine srt2 _ _ ?_
  rw [List.length_map]
  refine ⟨size_le (by omega), ?_⟩
  refine lcL_of (h := cpD) (f := fun c => D.str c.nm) l (fun c hc N M kk => kk) _ ?_
  rw [en l]
  refine srt2 _ _ ?_
  refine ⟨okD_strs _ 59, okD_strs _ 59, ?_⟩
  have es : deq (.lst (((r.map Cp.nm).mergeSort strLe).map D.str)) (.lst (((l.map Cp.nm).mergeSort strLe).map D.str)) = true := by
    show deqL _ _ = true
    rw [deqL_strs]
    refine decide_eq_true ?_
    exact strs_same (pm.map Cp.nm)
  rw [es]
  refine ⟨r, rfl, ⟨okr, by omega⟩, okD_qd _ _, okD_qd _ _, ?_⟩
  rw [deq_qd, decide_eq_true rfl]
  have e2 : D.lst (r.map cpD).reverse = csD r.reverse := by unfold csD; rw [List.map_reverse]
  rw [e2]
  refine ⟨r.reverse, rfl, ⟨okrr, by rw [List.length_reverse]; omega⟩, okD_qd _ _, okD_qd _ _, ?_⟩
  rw [deq_qd, decide_eq_true rfl]
  rw [← en r]
  simp_arith [r_law_9]
  refine ⟨3000, 7, rfl, by omega, by omega, by omega, fun f1 f10 f1b _ => ⟨40, 3, rfl, by omega, by omega, by omega, fun f2 f20 f2b _ => ?_⟩⟩
  refine ⟨_, rfl, by simp, by simp, fun d hd => ?_⟩
  simp only [List.mem_cons, List.not_mem_nil, or_false] at hd
  rcases hd with rfl | rfl | rfl
  · exact next 100 (by decide) (by decide)
  · exact next f1 f10 f1b
  · exact next f2 f20 f2b
end K14

namespace K14
open PySem PySem.Spec PyProof.Rows L2 DL
def top (i : Nat) : Stmt := PySem.Challenge.pw_pairsave_k14_whole_long_orders.main.body.getD i (.Pass ⟨0, 0, 0, 0⟩)
abbrev s_frac : Stmt := top 4
abbrev s_plus : Stmt := top 5
abbrev s_minus : Stmt := top 6
abbrev s_times : Stmt := top 7
abbrev s_less : Stmt := top 8
abbrev s_least : Stmt := top 9
abbrev s_most : Stmt := top 10
abbrev s_by_name : Stmt := top 16
abbrev s_checked : Stmt := top 17
abbrev s_made : Stmt := top 18
abbrev s_used : Stmt := top 19
abbrev s_joined : Stmt := top 20
abbrev s_weights : Stmt := top 21
abbrev s_in_good_order : Stmt := top 22
abbrev s_smaller : Stmt := top 23
abbrev s_sorted_in : Stmt := top 25
abbrev s_best_order : Stmt := top 26
abbrev s_bounds : Stmt := top 27
abbrev s_few_table : Stmt := top 28
abbrev s_traced : Stmt := top 29
abbrev s_best_few : Stmt := top 30
abbrev s_law_mixed : Stmt := top 32
abbrev s_law_rest : Stmt := top 33
abbrev s_law_draw : Stmt := top 34
abbrev s_law_pool : Stmt := top 35
abbrev s_law_pick : Stmt := top 36
abbrev s_law_gcd : Stmt := top 37
abbrev s_law_ratio : Stmt := top 38
abbrev s_law_fraction : Stmt := top 39
abbrev s_law_turned : Stmt := top 40
abbrev s_law_coupons : Stmt := top 41
abbrev s_law_next : Stmt := top 42
abbrev s_law_add : Stmt := top 43
abbrev s_law_mul : Stmt := top 44
abbrev s_law_off : Stmt := top 45
abbrev s_law_less : Stmt := top 46
abbrev s_law_same : Stmt := top 47
abbrev s_law_sub : Stmt := top 48
abbrev s_law_made : Stmt := top 49
abbrev s_law_run : Stmt := top 50
abbrev s_law_drawn : Stmt := top 51
abbrev s_law_by_names : Stmt := top 52
abbrev s_law : Stmt := top 53
abbrev e_NameTaken : Stmt := inClass (top 13) 0
abbrev e_NoName : Stmt := inClass (top 14) 0
structure Txt (K : FK) (mg : Str → Option Value) : Prop where
  d_frac : FunAt K mg (Str.ofString "frac") s_frac
  d_plus : FunAt K mg (Str.ofString "plus") s_plus
  d_minus : FunAt K mg (Str.ofString "minus") s_minus
  d_times : FunAt K mg (Str.ofString "times") s_times
  d_less : FunAt K mg (Str.ofString "less") s_less
  d_least : FunAt K mg (Str.ofString "least") s_least
  d_most : FunAt K mg (Str.ofString "most") s_most
  d_by_name : FunAt K mg (Str.ofString "by_name") s_by_name
  d_checked : FunAt K mg (Str.ofString "checked") s_checked
  d_made : FunAt K mg (Str.ofString "made") s_made
  d_used : FunAt K mg (Str.ofString "used") s_used
  d_joined : FunAt K mg (Str.ofString "joined") s_joined
  d_weights : FunAt K mg (Str.ofString "weights") s_weights
  d_in_good_order : FunAt K mg (Str.ofString "in_good_order") s_in_good_order
  d_smaller : FunAt K mg (Str.ofString "smaller") s_smaller
  d_sorted_in : FunAt K mg (Str.ofString "sorted_in") s_sorted_in
  d_best_order : FunAt K mg (Str.ofString "best_order") s_best_order
  d_bounds : FunAt K mg (Str.ofString "bounds") s_bounds
  d_few_table : FunAt K mg (Str.ofString "few_table") s_few_table
  d_traced : FunAt K mg (Str.ofString "traced") s_traced
  d_best_few : FunAt K mg (Str.ofString "best_few") s_best_few
  d_law_mixed : FunAt K mg (Str.ofString "_law_mixed") s_law_mixed
  d_law_rest : FunAt K mg (Str.ofString "_law_rest") s_law_rest
  d_law_draw : FunAt K mg (Str.ofString "_law_draw") s_law_draw
  d_law_pool : FunAt K mg (Str.ofString "_law_pool") s_law_pool
  d_law_pick : FunAt K mg (Str.ofString "_law_pick") s_law_pick
  d_law_gcd : FunAt K mg (Str.ofString "_law_gcd") s_law_gcd
  d_law_ratio : FunAt K mg (Str.ofString "_law_ratio") s_law_ratio
  d_law_fraction : FunAt K mg (Str.ofString "_law_fraction") s_law_fraction
  d_law_turned : FunAt K mg (Str.ofString "_law_turned") s_law_turned
  d_law_coupons : FunAt K mg (Str.ofString "_law_coupons") s_law_coupons
  d_law_next : FunAt K mg (Str.ofString "_law_next") s_law_next
  d_law_add : FunAt K mg (Str.ofString "_law_add") s_law_add
  d_law_mul : FunAt K mg (Str.ofString "_law_mul") s_law_mul
  d_law_off : FunAt K mg (Str.ofString "_law_off") s_law_off
  d_law_less : FunAt K mg (Str.ofString "_law_less") s_law_less
  d_law_same : FunAt K mg (Str.ofString "_law_same") s_law_same
  d_law_sub : FunAt K mg (Str.ofString "_law_sub") s_law_sub
  d_law_made : FunAt K mg (Str.ofString "_law_made") s_law_made
  d_law_run : FunAt K mg (Str.ofString "_law_run") s_law_run
  d_law_drawn : FunAt K mg (Str.ofString "_law_drawn") s_law_drawn
  d_law_by_names : FunAt K mg (Str.ofString "_law_by_names") s_law_by_names
  d_law : FunAt K mg (Str.ofString "law") s_law
  b_abs : mg (Str.ofString "abs") = none
  b_bool : mg (Str.ofString "bool") = none
  b_dict : mg (Str.ofString "dict") = none
  b_gcd : mg (Str.ofString "gcd") = some (.builtin "math.gcd")
  b_int : mg (Str.ofString "int") = none
  b_isinstance : mg (Str.ofString "isinstance") = none
  b_len : mg (Str.ofString "len") = none
  b_list : mg (Str.ofString "list") = none
  b_min : mg (Str.ofString "min") = none
  b_range : mg (Str.ofString "range") = none
  b_sorted : mg (Str.ofString "sorted") = none
  b_str : mg (Str.ofString "str") = none
  b_tuple : mg (Str.ofString "tuple") = none
  c_NOUGHT : GlobD K mg (Str.ofString "NOUGHT") c_NOUGHT
  c_UNIT : GlobD K mg (Str.ofString "UNIT") c_UNIT
section
variable {P : Program} {w : World} {K : FK} {mg : Str → Option Value}
theorem sc_law_mixed : FnScope [(Str.ofString "number"), (Str.ofString "place"), (Str.ofString "first"), (Str.ofString "second"), (Str.ofString "third")] [(Str.ofString "number"), (Str.ofString "place")] (defScope s_law_mixed) := ⟨rfl, rfl, rfl, by decide +kernel, rfl, by decide +kernel, by decide +kernel⟩
theorem cmul_l {i j : Int} (h : i.natAbs < 2 ^ 60) : CMulX i j ∨ CMul i j := by
  refine .inr (.inl ?_)
  have h2 : (2 : Nat) ^ 60 = 1152921504606846976 := by decide
  have h3 : (2 : Int) ^ 64 = 18446744073709551616 := by decide
  rw [h2] at h; rw [h3]; omega
theorem ok_law_mixed (T : Txt K mg) : DefV P w K mg (Str.ofString "_law_mixed") [(Str.ofString "number"), (Str.ofString "place")] 1 spMixed := by
  have sc := sc_law_mixed
  refine fnDefV T.d_law_mixed (fun _ _ _ _ _ _ us hl => match us, hl with | [_, _], _ => rfl) sc (fun vs H Q E h => ?_) (fun base f cdv A outer s H vs Q E hr h => ⟨_, (pss_cons
    (ps_set (i := 2) sc.nd rfl (Or.inl rfl) (pe_op op_modN (pe_callTy call_int1 (by rfl) T.b_int (by decide +kernel) (pa_cons (pe_op op_add (pe_op op_add (pe_op op_mul (L2.pv 0) pe_int) (pe_op op_mul (L2.pv 1) pe_int)) pe_int) pa_nil)) pe_int))
    (pss_cons (ps_set (i := 3) sc.nd rfl (Or.inl rfl) (pe_op op_modN (pe_callTy call_int1 (by rfl) T.b_int (by decide +kernel) (pa_cons (pe_op op_add (pe_op op_add (pe_op op_mulX (L2.pv 2) (L2.pv 2)) (pe_op op_mul pe_int (L2.pv 2))) (L2.pv 1)) pa_nil)) pe_int))
    (pss_cons (ps_set (i := 4) sc.nd rfl (Or.inl rfl) (pe_op op_modN (pe_callTy call_int1 (by rfl) T.b_int (by decide +kernel) (pa_cons (pe_op op_add (pe_op op_mulX (L2.pv 3) (L2.pv 3)) (L2.pv 2)) pa_nil)) pe_int))
    (pss_one (ps_ret (pe_op op_add (pe_op op_mulX (L2.pv 3) pe_int) (L2.pv 4))))))), ?_⟩)
  · obtain ⟨i, j, rfl, _⟩ := h
    rfl
  · obtain ⟨i, j, rfl, q⟩ := h
    have small : ∀ (x m : Int), 0 < m → m.natAbs < 2 ^ 200 → (x.fmod m).natAbs < 2 ^ 200 := fun x m h1 h2 => by
      have e := Int.fmod_nonneg_of_pos x h1
      have e2 := Int.fmod_lt_of_pos x h1
      omega
    have p1 : (0 : Int) < 618970019642690137449562111 := by decide
    have p2 : (0 : Int) < 162259276829213363391578010288127 := by decide
    have b1 : (618970019642690137449562111 : Int).natAbs < 2 ^ 200 := by decide +kernel
    have b2 : (162259276829213363391578010288127 : Int).natAbs < 2 ^ 200 := by decide +kernel
    have n1 := Int.ne_of_gt p1
    have n2 := Int.ne_of_gt p2
    refine ⟨_, rfl, _, _, rfl, rfl, .inr ⟨by decide, by decide⟩, _, rfl, _, _, rfl, rfl, .inr ⟨by decide, by decide⟩, _, _, rfl, rfl, _, _, rfl, rfl, .inl ⟨_, rfl, _, _, rfl, rfl, n1, ?_⟩⟩
    refine ⟨_, rfl, _, rfl, _, _, rfl, rfl, mulx_ok (small _ _ p1 b1) (small _ _ p1 b1) (by decide), _, rfl, _, _, rfl, rfl, .inl ⟨by decide, by decide⟩, _, _, rfl, rfl, _, rfl, _, _, rfl, rfl, .inl ⟨_, rfl, _, _, rfl, rfl, n2, ?_⟩⟩
    refine ⟨_, rfl, _, rfl, _, _, rfl, rfl, mulx_ok (small _ _ p2 b2) (small _ _ p2 b2) (by decide), _, rfl, _, _, rfl, rfl, .inl ⟨_, rfl, _, _, rfl, rfl, n1, ?_⟩⟩
    exact ⟨_, rfl, _, _, rfl, rfl, mulx_ok (small _ _ p2 b2) b1 (by decide), _, rfl, _, _, rfl, rfl, q _⟩
theorem sc_law_rest : FnScope [(Str.ofString "script"), (Str.ofString "place"), (Str.ofString "fills"), (Str.ofString "number")] [(Str.ofString "script"), (Str.ofString "place"), (Str.ofString "fills")] (defScope s_law_rest) := ⟨rfl, rfl, rfl, by decide +kernel, rfl, by decide +kernel, by decide +kernel⟩
theorem ok_law_rest (T : Txt K mg) (G : DefV P w K mg (Str.ofString "_law_mixed") [(Str.ofString "number"), (Str.ofString "place")] 1 spMixed) : DefV P w K mg (Str.ofString "_law_rest") [(Str.ofString "script"), (Str.ofString "place"), (Str.ofString "fills")] 2 (spRest K) := by
  have sc := sc_law_rest
  refine fnDefV T.d_law_rest (fun _ _ _ _ _ _ us hl => match us, hl with | [_, _, _], _ => rfl) sc (fun vs H Q E h => ?_) (fun base f cdv A outer s H vs Q E hr h => ⟨_, (pss_cons
    (ps_set (i := 3) sc.nd rfl (Or.inl rfl) pe_int)
    (pss_cons (ps_if (pt_cmpR op_gt (pe_callB call_len_seq (by rfl) T.b_len (by decide +kernel) (pa_cons (L2.pv 0) pa_nil)) pe_int (nomark _))
      (pss_one (ps_set (i := 3) sc.nd rfl (Or.inl rfl) (pe_callTy call_int1 (by rfl) T.b_int (by decide +kernel) (pa_cons (pe_ix ix_list (L2.pv 0) (pe_op op_modN (pe_callTy call_int1 (by rfl) T.b_int (by decide +kernel) (pa_cons (L2.pv 1) pa_nil)) (pe_callB call_len_seq (by rfl) T.b_len (by decide +kernel) (pa_cons (L2.pv 0) pa_nil))) (fun _ _ => rfl)) pa_nil)))) pss_nil)
    (pss_cons (ps_if (pt_cmpR op_lt (L2.pv 3) pe_int (nomark _)) (pss_one (ps_set (i := 3) sc.nd rfl (Or.inl rfl) (pe_op op_sub pe_int (pe_op op_mul pe_int (L2.pv 3))))) pss_nil)
    (pss_cons (ps_if (PW.pt (pw_and (pt_cmpR op_eq (L2.pv 2) pe_int (nomark _)) (pw_and (pt_cmpR op_lt (L2.pv 1) (pe_callB call_len_seq (by rfl) T.b_len (by decide +kernel) (pa_cons (L2.pv 0) pa_nil)) (nomark _)) (pw_and1 (pt_cmpR op_ge (L2.pv 3) (pe_op op_pow pe_int pe_int) (nomark _))))))
      (pss_one (ps_ret (pe_op op_sub (L2.pv 3) (pe_op op_pow pe_int pe_int)))) pss_nil)
    (pss_one (ps_ret (pe_callV G (hr.mono (by decide)) (by rfl) (pa_cons (pe_op op_add (L2.pv 3) (pe_op op_mul (L2.pv 2) pe_int)) (pa_cons (L2.pv 1) pa_nil)))))))))
    , ?_⟩)
  · obtain ⟨a, ns, i, j, rfl, _⟩ := h
    rfl
  · obtain ⟨a, ns, i, j, rfl, hs, q⟩ := h
    have h3 : ∀ n : Int, tSeq (tIfS (tTest (tOp (rI0 fun i j => .bl (decide (i < j))) (tVar 3) (tC (.int 0)))) (tAsg (tOp (rI0 fun i j => .int (i - j)) (tC (.int 1)) (tOp (rI CMul fun i j => .int (i * j)) (tC (.int 2)) (tVar 3))) (gName 3)) tNext)
      (tSeq (tIfS (tAnd (tTest (tOp rEq (tVar 2) (tC (.int 0)))) (tAnd (tTest (tOp (rI0 fun i j => .bl (decide (i < j))) (tVar 1) (tCB (fun xs H Q => ∃ p ys, xs = [.ref p] ∧ (SqL K H p ys ∨ SqT K H p ys) ∧ Q (.int ys.length) H) (tCons (tVar 0) tNil)))) (tTest (tOp (rI0 fun i j => .bl (decide (j ≤ i))) (tVar 3) (tOp (rI CPow fun i j => .int (i ^ j.toNat)) (tC (.int 10)) (tC (.int 18)))))))
          (tRet (tOp (rI0 fun i j => .int (i - j)) (tVar 3) (tOp (rI CPow fun i j => .int (i ^ j.toNat)) (tC (.int 10)) (tC (.int 18))))) tNext)
        (tRet (tCall spMixed [] E0 (tCons (tOp (rI0 fun i j => .int (i + j)) (tVar 3) (tOp (rI CMul fun i j => .int (i * j)) (tVar 2) (tC (.int 1000003)))) (tCons (tVar 1) tNil))))) { nx := fun _ H' => Q .non H', rt := Q } [some (.ref a), some (.int i), some (.int j), some (.int n)] H := fun n => by
      have fin : ∀ n : Int, tSeq (tIfS (tAnd (tTest (tOp rEq (tVar 2) (tC (.int 0)))) (tAnd (tTest (tOp (rI0 fun i j => .bl (decide (i < j))) (tVar 1) (tCB (fun xs H Q => ∃ p ys, xs = [.ref p] ∧ (SqL K H p ys ∨ SqT K H p ys) ∧ Q (.int ys.length) H) (tCons (tVar 0) tNil)))) (tTest (tOp (rI0 fun i j => .bl (decide (j ≤ i))) (tVar 3) (tOp (rI CPow fun i j => .int (i ^ j.toNat)) (tC (.int 10)) (tC (.int 18)))))))
          (tRet (tOp (rI0 fun i j => .int (i - j)) (tVar 3) (tOp (rI CPow fun i j => .int (i ^ j.toNat)) (tC (.int 10)) (tC (.int 18))))) tNext)
        (tRet (tCall spMixed [] E0 (tCons (tOp (rI0 fun i j => .int (i + j)) (tVar 3) (tOp (rI CMul fun i j => .int (i * j)) (tVar 2) (tC (.int 1000003)))) (tCons (tVar 1) tNil)))) { nx := fun _ H' => Q .non H', rt := Q } [some (.ref a), some (.int i), some (.int j), some (.int n)] H := fun n => by
        have last : tRet (tCall spMixed [] E0 (tCons (tOp (rI0 fun i j => .int (i + j)) (tVar 3) (tOp (rI CMul fun i j => .int (i * j)) (tVar 2) (tC (.int 1000003)))) (tCons (tVar 1) tNil))) { nx := fun _ H' => Q .non H', rt := Q } [some (.ref a), some (.int i), some (.int j), some (.int n)] H :=
          ⟨_, rfl, _, rfl, _, _, rfl, rfl, .inr ⟨by decide, by decide⟩, _, _, rfl, rfl, _, rfl, _, _, rfl, q⟩
        refine ⟨_, rfl, rfl, _, rfl, ?_⟩
        refine ite2 (fun _ => ⟨_, rfl, _, rfl, a, _, rfl, .inl hs, _, _, rfl, rfl, _, rfl, ?_⟩) (fun _ => iteF last)
        refine ite2 (fun _ => ⟨_, rfl, _, _, rfl, rfl, ⟨by decide, by decide, by decide⟩, _, _, rfl, rfl, _, rfl, ?_⟩) (fun _ => iteF last)
        refine ite2 (fun _ => ⟨_, rfl, _, _, rfl, rfl, ⟨by decide, by decide, by decide⟩, _, _, rfl, rfl, q _⟩) (fun _ => last)
      refine ⟨_, rfl, _, _, rfl, rfl, _, rfl, ite2 (fun _ => ?_) (fun _ => fin n)⟩
      exact ⟨_, rfl, _, _, rfl, rfl, .inl ⟨by decide, by decide⟩, _, _, rfl, rfl, fin _⟩
    refine ⟨_, rfl, a, _, rfl, .inl hs, _, _, rfl, rfl, _, rfl, ite2 (fun hp => ?_) (fun _ => h3 0)⟩
    have hl : (0 : Int) < ((ns.map V.int).length : Nat) := of_decide_eq_true hp
    refine ⟨_, rfl, _, rfl, .inl ⟨_, rfl, _, rfl, a, _, rfl, .inl hs, _, _, rfl, rfl, Int.ne_of_gt hl, ?_⟩⟩
    have m1 := Int.fmod_nonneg_of_pos i hl
    have m2 := Int.fmod_lt_of_pos i hl
    have hk : (i.fmod ((ns.map V.int).length : Nat)).toNat < (ns.map V.int).length := by omega
    have hk' : (i.fmod ((ns.map V.int).length : Nat)).toNat < ns.length := by simpa using hk
    refine ⟨a, _, _, .int ns[(i.fmod ((ns.map V.int).length : Nat)).toNat], rfl, rfl, hs, ?_, .inl ⟨_, rfl, h3 _⟩⟩
    have e := atI_nat (xs := ns.map V.int) (j := (i.fmod ((ns.map V.int).length : Nat)).toNat) (v := .int ns[(i.fmod ((ns.map V.int).length : Nat)).toNat]) (by rw [List.getElem?_map, List.getElem?_eq_getElem hk']; rfl)
    rw [Int.toNat_of_nonneg m1] at e
    exact e
theorem sc_law_pool : FnScope [(Str.ofString "script")] [(Str.ofString "script")] (defScope s_law_pool) := ⟨rfl, rfl, rfl, by decide +kernel, rfl, by decide +kernel, by decide +kernel⟩
theorem ok_law_pool (T : Txt K mg) (G : DefV P w K mg (Str.ofString "_law_rest") [(Str.ofString "script"), (Str.ofString "place"), (Str.ofString "fills")] 2 (spRest K)) : DefV P w K mg (Str.ofString "_law_pool") [(Str.ofString "script")] 3 (spPool K) := by
  have sc := sc_law_pool
  refine fnDefV T.d_law_pool (fun _ _ _ _ _ _ us hl => match us, hl with | [_], _ => rfl) sc (fun vs H Q E h => ?_) (fun base f cdv A outer s H vs Q E hr h => ⟨_, (pss_one
    (ps_ret (pe_lst (pa_cons (L2.pv 0) (pa_cons pe_int (pa_cons (pe_callV G (hr.mono (by decide)) (by rfl) (pa_cons (L2.pv 0) (pa_cons pe_int (pa_cons pe_int pa_nil)))) (pa_cons pe_int pa_nil))))))), ?_⟩)
  · obtain ⟨a, ns, rfl, _⟩ := h
    rfl
  · obtain ⟨a, ns, rfl, hs, q⟩ := h
    exact ⟨_, rfl, _, rfl, a, ns, 0, 0, rfl, hs, fun r => ⟨by show 4 ≤ sizeLine; decide, fun p hp => q p r hp⟩⟩
theorem sc_law_next : FnScope [(Str.ofString "pool")] [(Str.ofString "pool")] (defScope s_law_next) := ⟨rfl, rfl, rfl, by decide +kernel, rfl, by decide +kernel, by decide +kernel⟩
theorem ok_law_next (T : Txt K mg) (G : DefV P w K mg (Str.ofString "_law_rest") [(Str.ofString "script"), (Str.ofString "place"), (Str.ofString "fills")] 2 (spRest K)) : Def P w K mg (Str.ofString "_law_next") [(Str.ofString "pool")] 3 S_law_next := by
  have sc := sc_law_next
  refine fnDefV T.d_law_next (fun _ _ _ _ _ _ us hl => match us, hl with | [_], _ => rfl) sc (fun vs H Q E h => ?_) (fun base f cdv A outer s H vs Q E hr h => ⟨_, (pss_cons
    (ps_asg (pe_op op_add (pe_ix ix_list (L2.pv 0) pe_int (fun _ _ => rfl)) pe_int) (pg_sub (L2.pv 0) pe_int set_list (fun _ => rfl)))
    (pss_cons (ps_asg (pe_callV G (hr.mono (by decide)) (by rfl) (pa_cons (pe_ix ix_list (L2.pv 0) pe_int (fun _ _ => rfl)) (pa_cons (pe_ix ix_list (L2.pv 0) pe_int (fun _ _ => rfl)) (pa_cons pe_int pa_nil)))) (pg_sub (L2.pv 0) pe_int set_list (fun _ => rfl)))
    (pss_one (ps_asg pe_int (pg_sub (L2.pv 0) pe_int set_list (fun _ => rfl)))))), ?_⟩)
  · obtain ⟨pp, Hb, ds, QD, so, r, ⟨rfl, _⟩, _⟩ := h
    obtain ⟨v, w, rfl, r1, r2⟩ := r.uncons
    rw [r2.unnil]
    rfl
  · obtain ⟨pp, Hb, ds, QD, so, r, ⟨rfl, hq⟩, k⟩ := h
    obtain ⟨v, w, rfl, r1, r2⟩ := r.uncons
    rw [r2.unnil]
    unfold Rep at r1
    subst r1
    obtain ⟨a, ns, i, n, c, h1, h2⟩ := so.pool
    obtain ⟨s1, so1⟩ := pool_ok (i' := i + 1) (n' := n) (k' := c) so h1 h2
    refine ⟨_, rfl, pp, _, 0 + 1, _, rfl, rfl, .of h1, atI_nat (j := 1) rfl, _, _, rfl, rfl, _, rfl, pp, _, 1, 1, rfl, rfl, h1, rfl, ?_⟩
    refine ⟨_, rfl, pp, _, 0, _, rfl, rfl, .of upd_same, atI_nat (j := 0) rfl, _, rfl, pp, _, 1, _, rfl, rfl, .of upd_same, atI_nat (j := 1) rfl, a, ns, _, _, rfl, so1.hle.sqL h2, fun r => ?_⟩
    refine ⟨_, rfl, pp, _, 2, 2, rfl, rfl, upd_same, rfl, ?_⟩
    refine ⟨_, rfl, pp, _, 3, 3, rfl, rfl, upd_same, rfl, ?_⟩
    rw [upd_upd, upd_upd]
    obtain ⟨s2, so2⟩ := pool_ok (i' := i + 1) (n' := r) (k' := 0) so h1 h2
    exact k .non .non Hb _ hq s2 so2 rep_non
theorem sc_law_draw : FnScope [(Str.ofString "pool"), (Str.ofString "limit"), (Str.ofString "value")] [(Str.ofString "pool"), (Str.ofString "limit")] (defScope s_law_draw) := ⟨rfl, rfl, rfl, by decide +kernel, rfl, by decide +kernel, by decide +kernel⟩
theorem ok_law_draw (T : Txt K mg) (G : DefV P w K mg (Str.ofString "_law_rest") [(Str.ofString "script"), (Str.ofString "place"), (Str.ofString "fills")] 2 (spRest K)) : Def P w K mg (Str.ofString "_law_draw") [(Str.ofString "pool"), (Str.ofString "limit")] 3 S_law_draw := by
  have sc := sc_law_draw
  refine fnDefV T.d_law_draw (fun _ _ _ _ _ _ us hl => match us, hl with | [_, _], _ => rfl) sc (fun vs H Q E h => ?_) (fun base f cdv A outer s H vs Q E hr h => ⟨_, (pss_cons
    (ps_if (pt_cmpR op_le (pe_ix ix_list (L2.pv 0) pe_int (fun _ _ => rfl)) pe_int (nomark _))
      (pss_cons (ps_asg (pe_op op_add (pe_ix ix_list (L2.pv 0) pe_int (fun _ _ => rfl)) pe_int) (pg_sub (L2.pv 0) pe_int set_list (fun _ => rfl)))
      (pss_one (ps_asg (pe_callV G (hr.mono (by decide)) (by rfl) (pa_cons (pe_ix ix_list (L2.pv 0) pe_int (fun _ _ => rfl)) (pa_cons (pe_ix ix_list (L2.pv 0) pe_int (fun _ _ => rfl)) (pa_cons (pe_ix ix_list (L2.pv 0) pe_int (fun _ _ => rfl)) pa_nil)))) (pg_sub (L2.pv 0) pe_int set_list (fun _ => rfl))))) pss_nil)
    (pss_cons (ps_set (i := 2) sc.nd rfl (Or.inl rfl) (pe_op op_modN (pe_callTy call_int1 (by rfl) T.b_int (by decide +kernel) (pa_cons (pe_ix ix_list (L2.pv 0) pe_int (fun _ _ => rfl)) pa_nil)) (L2.pv 1)))
    (pss_cons (ps_asg (pe_op op_fdivN (pe_callTy call_int1 (by rfl) T.b_int (by decide +kernel) (pa_cons (pe_ix ix_list (L2.pv 0) pe_int (fun _ _ => rfl)) pa_nil)) (L2.pv 1)) (pg_sub (L2.pv 0) pe_int set_list (fun _ => rfl)))
    (pss_one (ps_ret (L2.pv 2)))))), ?_⟩)
  · obtain ⟨pp, Hb, ds, QD, so, r, ⟨l, rfl, _⟩, _⟩ := h
    obtain ⟨v, w, rfl, r1, r2⟩ := r.uncons
    obtain ⟨v', w', rfl, r3, r4⟩ := r2.uncons
    rw [r4.unnil]
    rfl
  · obtain ⟨pp, Hb, ds, QD, so, r, ⟨l, rfl, l0, l1, hq⟩, k⟩ := h
    obtain ⟨v, w, rfl, r1, r2⟩ := r.uncons
    obtain ⟨v', w', rfl, r3, r4⟩ := r2.uncons
    rw [r4.unnil]
    unfold Rep at r1 r3
    subst r1 r3
    obtain ⟨a, ns, i, n, c, h1, h2⟩ := so.pool
    have tail : ∀ (n' c' : Int) (H1 : Hp), H1 = upd H pp (.lst [.ref a, .int i, .int n', .int c']) ∨ (H1 = H ∧ n' = n ∧ c' = c) → tSeq (tAsg (tOp (rI (fun _ j => j ≠ 0) fun i j => .int (i.fmod j)) (tCB (fun xs H Q => (∃ i, xs = [.int i] ∧ Q (.int i) H) ∨ ∃ k, xs = [.bl k] ∧ Q (.int (if k then 1 else 0)) H) (tCons (tOp (rIxL K) (tVar 0) (tC (.int 2))) tNil)) (tVar 1)) (gName 2))
      (tSeq (tAsg (tOp (rI CDivN fun i j => .int (i.fdiv j)) (tCB (fun xs H Q => (∃ i, xs = [.int i] ∧ Q (.int i) H) ∨ ∃ k, xs = [.bl k] ∧ Q (.int (if k then 1 else 0)) H) (tCons (tOp (rIxL K) (tVar 0) (tC (.int 2))) tNil)) (tVar 1)) (gSub (tVar 0) (tC (.int 2)) rSetL)) (tRet (tVar 2))) { nx := fun _ H' => Q .non H', rt := Q } [some (.ref pp), some (.int l), none] H1 := fun n' c' H1 e => by
      have hH : H1 pp = some (.lst [.ref a, .int i, .int n', .int c']) := by
        rcases e with rfl | ⟨rfl, rfl, rfl⟩
        · exact upd_same
        · exact h1
      have e2 : ∀ u, upd H1 pp u = upd H pp u := fun u => by
        rcases e with rfl | ⟨rfl, _, _⟩
        · rw [upd_upd]
        · rfl
      refine ⟨_, rfl, pp, _, 2, _, rfl, rfl, .of hH, atI_nat (j := 2) rfl, .inl ⟨_, rfl, _, rfl, _, _, rfl, rfl, Int.ne_of_gt l0, ?_⟩⟩
      refine ⟨_, rfl, pp, _, 2, _, rfl, rfl, .of hH, atI_nat (j := 2) rfl, .inl ⟨_, rfl, _, rfl, _, _, rfl, rfl, ⟨Int.ne_of_gt l0, by omega⟩, _, rfl, pp, _, 2, 2, rfl, rfl, hH, rfl, ?_⟩⟩
      refine ⟨_, rfl, ?_⟩
      rw [e2]
      obtain ⟨s2, so2⟩ := pool_ok (i' := i) (n' := n'.fdiv l) (k' := c') so h1 h2
      exact k (.int (n'.fmod l)) _ Hb _ (hq _ (Int.fmod_nonneg_of_pos _ l0) (Int.fmod_lt_of_pos _ l0)) s2 so2 rep_int
    refine ⟨_, rfl, pp, _, 2, _, rfl, rfl, .of h1, atI_nat (j := 2) rfl, _, _, rfl, rfl, _, rfl, ite2 (fun _ => ?_) (fun _ => tail n c H (.inr ⟨rfl, rfl, rfl⟩))⟩
    obtain ⟨s1, so1⟩ := pool_ok (i' := i) (n' := n) (k' := c + 1) so h1 h2
    refine ⟨_, rfl, pp, _, 3, _, rfl, rfl, .of h1, atI_nat (j := 3) rfl, _, _, rfl, rfl, _, rfl, pp, _, 3, 3, rfl, rfl, h1, rfl, ?_⟩
    refine ⟨_, rfl, pp, _, 0, _, rfl, rfl, .of upd_same, atI_nat (j := 0) rfl, _, rfl, pp, _, 1, _, rfl, rfl, .of upd_same, atI_nat (j := 1) rfl, _, rfl, pp, _, 3, _, rfl, rfl, .of upd_same, atI_nat (j := 3) rfl, a, ns, _, _, rfl, so1.hle.sqL h2, fun r => ?_⟩
    refine ⟨_, rfl, pp, _, 2, 2, rfl, rfl, upd_same, rfl, ?_⟩
    rw [upd_upd]
    exact tail r (c + 1) _ (.inl rfl)

theorem sc_frac : FnScope [(Str.ofString "p"), (Str.ofString "q"), (Str.ofString "shared")] [(Str.ofString "p"), (Str.ofString "q")] (defScope s_frac) := ⟨rfl, rfl, rfl, by decide +kernel, rfl, by decide +kernel, by decide +kernel⟩
theorem ok_frac (T : Txt K mg)  (hp : PureD p_frac S_frac 3 2) : Def P w K mg (Str.ofString "frac") [(Str.ofString "p"), (Str.ofString "q")] 1 S_frac :=
  have sc := sc_frac
  fnDef T.d_frac (fun _ _ _ _ _ _ us hl => match us, hl with | [_, _], _ => rfl) sc hp (p := p_frac) (fun base f cdv A outer s H E hr => (ss_cons (s_set (i := 2) sc.nd (q_callF cd_gcd (by rfl) T.b_gcd (o_cons (q_varO 0) (o_cons (q_varO 1) o_nil)))) (ss_cons (s_if (t_cmp od_lt (q_varO 1) (QE.toO q_int) (nomark _)) (ss_one (s_set (i := 2) sc.nd (q_un ud_neg (q_varO 2)))) ss_nil) (ss_one (s_ret (q_tup (qa_cons (q_op od_div (q_varO 0) (q_varO 2)) (qa_cons (q_op od_div (q_varO 1) (q_varO 2)) qa_nil))))))))
theorem sc_plus : FnScope [(Str.ofString "a"), (Str.ofString "b")] [(Str.ofString "a"), (Str.ofString "b")] (defScope s_plus) := ⟨rfl, rfl, rfl, by decide +kernel, rfl, by decide +kernel, by decide +kernel⟩
theorem ok_plus (T : Txt K mg) (g_frac : Def P w K mg (Str.ofString "frac") [(Str.ofString "p"), (Str.ofString "q")] 1 S_frac) (hp : PureD p_plus S_plus 2 2) : Def P w K mg (Str.ofString "plus") [(Str.ofString "a"), (Str.ofString "b")] 2 S_plus :=
  have sc := sc_plus
  fnDef T.d_plus (fun _ _ _ _ _ _ us hl => match us, hl with | [_, _], _ => rfl) sc hp (p := p_plus) (fun base f cdv A outer s H E hr => (ss_one (s_ret (q_callD g_frac (hr.mono (by decide)) (by rfl) (qa_cons (q_op od_add (QE.toO (q_op od_mul (QE.toO (q_ix (ixd (hu_of hr)) (q_varO 0) (QE.toO q_int))) (QE.toO (q_ix (ixd (hu_of hr)) (q_varO 1) (QE.toO q_int))))) (QE.toO (q_op od_mul (QE.toO (q_ix (ixd (hu_of hr)) (q_varO 1) (QE.toO q_int))) (QE.toO (q_ix (ixd (hu_of hr)) (q_varO 0) (QE.toO q_int)))))) (qa_cons (q_op od_mul (QE.toO (q_ix (ixd (hu_of hr)) (q_varO 0) (QE.toO q_int))) (QE.toO (q_ix (ixd (hu_of hr)) (q_varO 1) (QE.toO q_int)))) qa_nil))))))
theorem sc_minus : FnScope [(Str.ofString "a"), (Str.ofString "b")] [(Str.ofString "a"), (Str.ofString "b")] (defScope s_minus) := ⟨rfl, rfl, rfl, by decide +kernel, rfl, by decide +kernel, by decide +kernel⟩
theorem ok_minus (T : Txt K mg) (g_frac : Def P w K mg (Str.ofString "frac") [(Str.ofString "p"), (Str.ofString "q")] 1 S_frac) (hp : PureD p_minus S_minus 2 2) : Def P w K mg (Str.ofString "minus") [(Str.ofString "a"), (Str.ofString "b")] 2 S_minus :=
  have sc := sc_minus
  fnDef T.d_minus (fun _ _ _ _ _ _ us hl => match us, hl with | [_, _], _ => rfl) sc hp (p := p_minus) (fun base f cdv A outer s H E hr => (ss_one (s_ret (q_callD g_frac (hr.mono (by decide)) (by rfl) (qa_cons (q_op od_sub (QE.toO (q_op od_mul (QE.toO (q_ix (ixd (hu_of hr)) (q_varO 0) (QE.toO q_int))) (QE.toO (q_ix (ixd (hu_of hr)) (q_varO 1) (QE.toO q_int))))) (QE.toO (q_op od_mul (QE.toO (q_ix (ixd (hu_of hr)) (q_varO 1) (QE.toO q_int))) (QE.toO (q_ix (ixd (hu_of hr)) (q_varO 0) (QE.toO q_int)))))) (qa_cons (q_op od_mul (QE.toO (q_ix (ixd (hu_of hr)) (q_varO 0) (QE.toO q_int))) (QE.toO (q_ix (ixd (hu_of hr)) (q_varO 1) (QE.toO q_int)))) qa_nil))))))
theorem sc_times : FnScope [(Str.ofString "a"), (Str.ofString "b")] [(Str.ofString "a"), (Str.ofString "b")] (defScope s_times) := ⟨rfl, rfl, rfl, by decide +kernel, rfl, by decide +kernel, by decide +kernel⟩
theorem ok_times (T : Txt K mg) (g_frac : Def P w K mg (Str.ofString "frac") [(Str.ofString "p"), (Str.ofString "q")] 1 S_frac) (hp : PureD p_times S_times 2 2) : Def P w K mg (Str.ofString "times") [(Str.ofString "a"), (Str.ofString "b")] 2 S_times :=
  have sc := sc_times
  fnDef T.d_times (fun _ _ _ _ _ _ us hl => match us, hl with | [_, _], _ => rfl) sc hp (p := p_times) (fun base f cdv A outer s H E hr => (ss_one (s_ret (q_callD g_frac (hr.mono (by decide)) (by rfl) (qa_cons (q_op od_mul (QE.toO (q_ix (ixd (hu_of hr)) (q_varO 0) (QE.toO q_int))) (QE.toO (q_ix (ixd (hu_of hr)) (q_varO 1) (QE.toO q_int)))) (qa_cons (q_op od_mul (QE.toO (q_ix (ixd (hu_of hr)) (q_varO 0) (QE.toO q_int))) (QE.toO (q_ix (ixd (hu_of hr)) (q_varO 1) (QE.toO q_int)))) qa_nil))))))
theorem sc_less : FnScope [(Str.ofString "a"), (Str.ofString "b")] [(Str.ofString "a"), (Str.ofString "b")] (defScope s_less) := ⟨rfl, rfl, rfl, by decide +kernel, rfl, by decide +kernel, by decide +kernel⟩
theorem ok_less (T : Txt K mg)  (hp : PureD p_less S_less 2 2) : Def P w K mg (Str.ofString "less") [(Str.ofString "a"), (Str.ofString "b")] 1 S_less :=
  have sc := sc_less
  fnDef T.d_less (fun _ _ _ _ _ _ us hl => match us, hl with | [_, _], _ => rfl) sc hp (p := p_less) (fun base f cdv A outer s H E hr => (ss_one (s_ret (q_cmp od_lt (QE.toO (q_op od_mul (QE.toO (q_ix (ixd (hu_of hr)) (q_varO 0) (QE.toO q_int))) (QE.toO (q_ix (ixd (hu_of hr)) (q_varO 1) (QE.toO q_int))))) (QE.toO (q_op od_mul (QE.toO (q_ix (ixd (hu_of hr)) (q_varO 1) (QE.toO q_int))) (QE.toO (q_ix (ixd (hu_of hr)) (q_varO 0) (QE.toO q_int))))) (nomark _)))))
theorem sc_least : FnScope [(Str.ofString "a"), (Str.ofString "b")] [(Str.ofString "a"), (Str.ofString "b")] (defScope s_least) := ⟨rfl, rfl, rfl, by decide +kernel, rfl, by decide +kernel, by decide +kernel⟩
theorem ok_least (T : Txt K mg) (g_less : Def P w K mg (Str.ofString "less") [(Str.ofString "a"), (Str.ofString "b")] 1 S_less) (hp : PureD p_least S_least 2 2) : Def P w K mg (Str.ofString "least") [(Str.ofString "a"), (Str.ofString "b")] 2 S_least :=
  have sc := sc_least
  fnDef T.d_least (fun _ _ _ _ _ _ us hl => match us, hl with | [_, _], _ => rfl) sc hp (p := p_least) (fun base f cdv A outer s H E hr => (ss_one (s_ret (q_if (t_val (q_callD g_less (hr.mono (by decide)) (by rfl) (qa_cons (q_var 1) (qa_cons (q_var 0) qa_nil)))) (q_var 1) (q_var 0)))))
theorem sc_most : FnScope [(Str.ofString "a"), (Str.ofString "b")] [(Str.ofString "a"), (Str.ofString "b")] (defScope s_most) := ⟨rfl, rfl, rfl, by decide +kernel, rfl, by decide +kernel, by decide +kernel⟩
theorem ok_most (T : Txt K mg) (g_less : Def P w K mg (Str.ofString "less") [(Str.ofString "a"), (Str.ofString "b")] 1 S_less) (hp : PureD p_most S_most 2 2) : Def P w K mg (Str.ofString "most") [(Str.ofString "a"), (Str.ofString "b")] 2 S_most :=
  have sc := sc_most
  fnDef T.d_most (fun _ _ _ _ _ _ us hl => match us, hl with | [_, _], _ => rfl) sc hp (p := p_most) (fun base f cdv A outer s H E hr => (ss_one (s_ret (q_if (t_val (q_callD g_less (hr.mono (by decide)) (by rfl) (qa_cons (q_var 0) (qa_cons (q_var 1) qa_nil)))) (q_var 1) (q_var 0)))))
theorem sc_by_name : FnScope [(Str.ofString "coupons"), (Str.ofString "found"), (Str.ofString "coupon")] [(Str.ofString "coupons")] (defScope s_by_name) := ⟨rfl, rfl, rfl, by decide +kernel, rfl, by decide +kernel, by decide +kernel⟩
theorem ok_by_name (T : Txt K mg)  (hp : PureD p_by_name S_by_name 3 1) : Def P w K mg (Str.ofString "by_name") [(Str.ofString "coupons")] 1 S_by_name :=
  have sc := sc_by_name
  fnDef T.d_by_name (fun _ _ _ _ _ _ us hl => match us, hl with | [_], _ => rfl) sc hp (p := p_by_name) (fun base f cdv A outer s H E hr => (ss_cons (s_own (i := 1) sc.nd f_new) (ss_cons (s_for PassesOwn.never rfl (i_seq (q_var 0)) (g_name (i := 2) sc.nd) (ss_cons (s_if (t_cmp (od_in hr.units) (QE.toO (q_ix (ixd (hu_of hr)) (q_varO 2) (QE.toO q_int))) (q_varO 1) (by rfl)) (ss_one s_bot) ss_nil) (ss_one (s_put 1 (hu_of hr) (q_ix (ixd (hu_of hr)) (q_varO 2) (QE.toO q_int)) (q_var 2))))) (ss_fz 1 (ss_one (s_ret (q_var 1)))))))
theorem sc_checked : FnScope [(Str.ofString "coupons"), (Str.ofString "order"), (Str.ofString "known"), (Str.ofString "name"), (Str.ofString "seen")] [(Str.ofString "coupons"), (Str.ofString "order")] (defScope s_checked) := ⟨rfl, rfl, rfl, by decide +kernel, rfl, by decide +kernel, by decide +kernel⟩
theorem ok_checked (T : Txt K mg) (g_by_name : Def P w K mg (Str.ofString "by_name") [(Str.ofString "coupons")] 1 S_by_name) (hp : PureD p_checked S_checked 5 2) : Def P w K mg (Str.ofString "checked") [(Str.ofString "coupons"), (Str.ofString "order")] 2 S_checked :=
  have sc := sc_checked
  fnDef T.d_checked (fun _ _ _ _ _ _ us hl => match us, hl with | [_, _], _ => rfl) sc hp (p := p_checked) (fun base f cdv A outer s H E hr => (ss_cons (s_set (i := 2) sc.nd (q_callD g_by_name (hr.mono (by decide)) (by rfl) (qa_cons (q_var 0) qa_nil))) (ss_cons (s_for PassesOwn.never rfl (i_seq (q_var 1)) (g_name (i := 3) sc.nd) (ss_one (s_if (t_cmp (od_notIn hr.units) (q_varO 3) (q_varO 2) (by rfl)) (ss_one s_bot) ss_nil))) (ss_cons (s_own (i := 4) sc.nd f_new) (ss_cons (s_for PassesOwn.never rfl (i_seq (q_var 1)) (g_name (i := 3) sc.nd) (ss_cons (s_if (t_cmp (od_in hr.units) (q_varO 3) (q_varO 4) (by rfl)) (ss_one s_bot) ss_nil) (ss_one (s_put 4 (hu_of hr) (q_var 3) q_bl)))) (ss_one (s_ret (QF.toE (f_lc [((Str.ofString "name"), 3)] rfl sc.nd (i_seq (q_var 1)) (N0 := [(Str.ofString "coupons"), (Str.ofString "order"), (Str.ofString "known"), (Str.ofString "name"), (Str.ofString "seen")]) (sc0 := defScope s_checked) (by decide +kernel) rfl (fun _ _ _ _ _ => (v_name sc.nd (by decide))) (fun _ _ _ _ _ => ts_nil) (fun _ _ _ _ _ => (q_ix (ixd (hu_of hr)) (q_varO 2) (q_varO 3))))))))))))
theorem sc_made : FnScope [(Str.ofString "coupon"), (Str.ofString "price")] [(Str.ofString "coupon"), (Str.ofString "price")] (defScope s_made) := ⟨rfl, rfl, rfl, by decide +kernel, rfl, by decide +kernel, by decide +kernel⟩
theorem ok_made (T : Txt K mg) (g_most : Def P w K mg (Str.ofString "most") [(Str.ofString "a"), (Str.ofString "b")] 2 S_most) (g_minus : Def P w K mg (Str.ofString "minus") [(Str.ofString "a"), (Str.ofString "b")] 2 S_minus) (g_times : Def P w K mg (Str.ofString "times") [(Str.ofString "a"), (Str.ofString "b")] 2 S_times) (hp : PureD p_made S_made 2 2) : Def P w K mg (Str.ofString "made") [(Str.ofString "coupon"), (Str.ofString "price")] 3 S_made :=
  have sc := sc_made
  fnDef T.d_made (fun _ _ _ _ _ _ us hl => match us, hl with | [_, _], _ => rfl) sc hp (p := p_made) (fun base f cdv A outer s H E hr => (ss_one (s_ret (q_callD g_most (hr.mono (by decide)) (by rfl) (qa_cons (q_globD T.c_NOUGHT (by rfl)) (qa_cons (q_callD g_minus (hr.mono (by decide)) (by rfl) (qa_cons (q_callD g_times (hr.mono (by decide)) (by rfl) (qa_cons (q_ix (ixd (hu_of hr)) (q_varO 0) (QE.toO q_int)) (qa_cons (q_var 1) qa_nil))) (qa_cons (q_ix (ixd (hu_of hr)) (q_varO 0) (QE.toO q_int)) qa_nil))) qa_nil))))))
theorem sc_used : FnScope [(Str.ofString "coupons"), (Str.ofString "order"), (Str.ofString "price"), (Str.ofString "coupon")] [(Str.ofString "coupons"), (Str.ofString "order"), (Str.ofString "price")] (defScope s_used) := ⟨rfl, rfl, rfl, by decide +kernel, rfl, by decide +kernel, by decide +kernel⟩
theorem ok_used (T : Txt K mg) (g_checked : Def P w K mg (Str.ofString "checked") [(Str.ofString "coupons"), (Str.ofString "order")] 2 S_checked) (g_made : Def P w K mg (Str.ofString "made") [(Str.ofString "coupon"), (Str.ofString "price")] 3 S_made) (hp : PureD p_used S_used 4 3) : Def P w K mg (Str.ofString "used") [(Str.ofString "coupons"), (Str.ofString "order"), (Str.ofString "price")] 4 S_used :=
  have sc := sc_used
  fnDef T.d_used (fun _ _ _ _ _ _ us hl => match us, hl with | [_, _, _], _ => rfl) sc hp (p := p_used) (fun base f cdv A outer s H E hr => (ss_cons (s_for PassesOwn.never rfl (i_seq (q_callD g_checked (hr.mono (by decide)) (by rfl) (qa_cons (q_var 0) (qa_cons (q_var 1) qa_nil)))) (g_name (i := 3) sc.nd) (ss_one (s_set (i := 2) sc.nd (q_callD g_made (hr.mono (by decide)) (by rfl) (qa_cons (q_var 3) (qa_cons (q_var 2) qa_nil)))))) (ss_one (s_ret (q_var 2)))))
theorem sc_joined : FnScope [(Str.ofString "coupons"), (Str.ofString "order"), (Str.ofString "part"), (Str.ofString "off"), (Str.ofString "coupon")] [(Str.ofString "coupons"), (Str.ofString "order")] (defScope s_joined) := ⟨rfl, rfl, rfl, by decide +kernel, rfl, by decide +kernel, by decide +kernel⟩
theorem ok_joined (T : Txt K mg) (g_checked : Def P w K mg (Str.ofString "checked") [(Str.ofString "coupons"), (Str.ofString "order")] 2 S_checked) (g_plus : Def P w K mg (Str.ofString "plus") [(Str.ofString "a"), (Str.ofString "b")] 2 S_plus) (g_times : Def P w K mg (Str.ofString "times") [(Str.ofString "a"), (Str.ofString "b")] 2 S_times) (hp : PureD p_joined S_joined 5 2) : Def P w K mg (Str.ofString "joined") [(Str.ofString "coupons"), (Str.ofString "order")] 3 S_joined :=
  have sc := sc_joined
  fnDef T.d_joined (fun _ _ _ _ _ _ us hl => match us, hl with | [_, _], _ => rfl) sc hp (p := p_joined) (fun base f cdv A outer s H E hr => (ss_cons (s_set (i := 2) sc.nd (q_globD T.c_UNIT (by rfl))) (ss_cons (s_set (i := 3) sc.nd (q_globD T.c_NOUGHT (by rfl))) (ss_cons (s_for PassesOwn.never rfl (i_seq (q_callD g_checked (hr.mono (by decide)) (by rfl) (qa_cons (q_var 0) (qa_cons (q_var 1) qa_nil)))) (g_name (i := 4) sc.nd) (ss_cons (s_set (i := 2) sc.nd (q_callD g_times (hr.mono (by decide)) (by rfl) (qa_cons (q_var 2) (qa_cons (q_ix (ixd (hu_of hr)) (q_varO 4) (QE.toO q_int)) qa_nil)))) (ss_one (s_set (i := 3) sc.nd (q_callD g_plus (hr.mono (by decide)) (by rfl) (qa_cons (q_callD g_times (hr.mono (by decide)) (by rfl) (qa_cons (q_var 3) (qa_cons (q_ix (ixd (hu_of hr)) (q_varO 4) (QE.toO q_int)) qa_nil))) (qa_cons (q_ix (ixd (hu_of hr)) (q_varO 4) (QE.toO q_int)) qa_nil))))))) (ss_one (s_ret (q_tup (qa_cons (q_var 2) (qa_cons (q_var 3) qa_nil)))))))))
theorem sc_weights : FnScope [(Str.ofString "one"), (Str.ofString "other"), (Str.ofString "ahead"), (Str.ofString "behind")] [(Str.ofString "one"), (Str.ofString "other")] (defScope s_weights) := ⟨rfl, rfl, rfl, by decide +kernel, rfl, by decide +kernel, by decide +kernel⟩
theorem ok_weights (T : Txt K mg) (g_times : Def P w K mg (Str.ofString "times") [(Str.ofString "a"), (Str.ofString "b")] 2 S_times) (g_minus : Def P w K mg (Str.ofString "minus") [(Str.ofString "a"), (Str.ofString "b")] 2 S_minus) (hp : PureD p_weights S_weights 4 2) : Def P w K mg (Str.ofString "weights") [(Str.ofString "one"), (Str.ofString "other")] 3 S_weights :=
  have sc := sc_weights
  fnDef T.d_weights (fun _ _ _ _ _ _ us hl => match us, hl with | [_, _], _ => rfl) sc hp (p := p_weights) (fun base f cdv A outer s H E hr => (ss_cons (s_set (i := 2) sc.nd (q_callD g_times (hr.mono (by decide)) (by rfl) (qa_cons (q_ix (ixd (hu_of hr)) (q_varO 1) (QE.toO q_int)) (qa_cons (q_callD g_minus (hr.mono (by decide)) (by rfl) (qa_cons (q_globD T.c_UNIT (by rfl)) (qa_cons (q_ix (ixd (hu_of hr)) (q_varO 0) (QE.toO q_int)) qa_nil))) qa_nil)))) (ss_cons (s_set (i := 3) sc.nd (q_callD g_times (hr.mono (by decide)) (by rfl) (qa_cons (q_ix (ixd (hu_of hr)) (q_varO 0) (QE.toO q_int)) (qa_cons (q_callD g_minus (hr.mono (by decide)) (by rfl) (qa_cons (q_globD T.c_UNIT (by rfl)) (qa_cons (q_ix (ixd (hu_of hr)) (q_varO 1) (QE.toO q_int)) qa_nil))) qa_nil)))) (ss_one (s_ret (q_tup (qa_cons (q_var 2) (qa_cons (q_var 3) qa_nil))))))))
theorem sc_in_good_order : FnScope [(Str.ofString "one"), (Str.ofString "other"), (Str.ofString "ahead"), (Str.ofString "behind")] [(Str.ofString "one"), (Str.ofString "other")] (defScope s_in_good_order) := ⟨rfl, rfl, rfl, by decide +kernel, rfl, by decide +kernel, by decide +kernel⟩
theorem ok_in_good_order (T : Txt K mg) (g_less : Def P w K mg (Str.ofString "less") [(Str.ofString "a"), (Str.ofString "b")] 1 S_less) (g_weights : Def P w K mg (Str.ofString "weights") [(Str.ofString "one"), (Str.ofString "other")] 3 S_weights) (hp : PureD p_in_good_order S_in_good_order 4 2) : Def P w K mg (Str.ofString "in_good_order") [(Str.ofString "one"), (Str.ofString "other")] 4 S_in_good_order :=
  have sc := sc_in_good_order
  fnDef T.d_in_good_order (fun _ _ _ _ _ _ us hl => match us, hl with | [_, _], _ => rfl) sc hp (p := p_in_good_order) (fun base f cdv A outer s H E hr => (ss_cons (s_asgT (q_callD g_weights (hr.mono (by decide)) (by rfl) (qa_cons (q_var 0) (qa_cons (q_var 1) qa_nil))) (g_tup rfl (gs_cons (g_name (i := 2) sc.nd) (gs_cons (g_name (i := 3) sc.nd) gs_nil)))) (ss_one (s_ret (q_not (q_callD g_less (hr.mono (by decide)) (by rfl) (qa_cons (q_var 2) (qa_cons (q_var 3) qa_nil))))))))
theorem sc_smaller : FnScope [(Str.ofString "one"), (Str.ofString "other")] [(Str.ofString "one"), (Str.ofString "other")] (defScope s_smaller) := ⟨rfl, rfl, rfl, by decide +kernel, rfl, by decide +kernel, by decide +kernel⟩
theorem ok_smaller (T : Txt K mg) (g_least : Def P w K mg (Str.ofString "least") [(Str.ofString "a"), (Str.ofString "b")] 2 S_least) (hp : PureD p_smaller S_smaller 2 2) : Def P w K mg (Str.ofString "smaller") [(Str.ofString "one"), (Str.ofString "other")] 3 S_smaller :=
  have sc := sc_smaller
  fnDef T.d_smaller (fun _ _ _ _ _ _ us hl => match us, hl with | [_, _], _ => rfl) sc hp (p := p_smaller) (fun base f cdv A outer s H E hr => (ss_cons (s_if (t_or (t_cmp od_is (q_varO 0) (QE.toO q_non) (nomark _)) (w_or1 (t_cmp od_is (q_varO 1) (QE.toO q_non) (nomark _)))) (ss_one (s_ret (q_if (t_cmp od_is (q_varO 0) (QE.toO q_non) (nomark _)) (q_var 1) (q_var 0)))) ss_nil) (ss_one (s_ret (q_callD g_least (hr.mono (by decide)) (by rfl) (qa_cons (q_var 0) (qa_cons (q_var 1) qa_nil)))))))
theorem sc_sorted_in : FnScope [(Str.ofString "coupons"), (Str.ofString "found"), (Str.ofString "coupon"), (Str.ofString "place")] [(Str.ofString "coupons")] (defScope s_sorted_in) := ⟨rfl, rfl, rfl, by decide +kernel, rfl, by decide +kernel, by decide +kernel⟩
theorem ok_sorted_in (T : Txt K mg) (g_in_good_order : Def P w K mg (Str.ofString "in_good_order") [(Str.ofString "one"), (Str.ofString "other")] 4 S_in_good_order) (hp : PureD p_sorted_in S_sorted_in 4 1) : Def P w K mg (Str.ofString "sorted_in") [(Str.ofString "coupons")] 5 S_sorted_in :=
  have sc := sc_sorted_in
  fnDef T.d_sorted_in (fun _ _ _ _ _ _ us hl => match us, hl with | [_], _ => rfl) sc hp (p := p_sorted_in) (fun base f cdv A outer s H E hr => (ss_cons (s_own (i := 1) sc.nd (f_lst qa_nil)) (ss_cons (s_for PassesOwn.never rfl (i_seq (QF.toE (f_callB (cdf_sorted rfl hr.units) (by rfl) T.b_sorted (by decide +kernel) (o_cons (q_varO 0) o_nil)))) (g_name (i := 2) sc.nd) (ss_cons (s_set (i := 3) sc.nd q_int) (ss_cons (s_while PassesOwn.never (t_and (t_cmp od_lt (q_varO 3) (QE.toO (q_callB cd_len (by rfl) T.b_len (by decide +kernel) (o_cons (q_varO 1) o_nil))) (nomark _)) (w_and1 (t_not (t_val (q_callD g_in_good_order (hr.mono (by decide)) (by rfl) (qa_cons (q_var 2) (qa_cons (q_ix (ixd (hu_of hr)) (q_varO 1) (q_varO 3)) qa_nil))))))) (ss_one (s_set (i := 3) sc.nd (q_op od_add (q_varO 3) (QE.toO q_int))))) (ss_one (s_mth 1 md_insert PySem.F.slot_list_insert PySem.F.type_list_insert mt_insert (qa_cons (q_var 3) (qa_cons (q_var 2) qa_nil))))))) (ss_fz 1 (ss_one (s_ret (q_var 1)))))))
theorem sc_best_order : FnScope [(Str.ofString "coupons"), (Str.ofString "coupon")] [(Str.ofString "coupons")] (defScope s_best_order) := ⟨rfl, rfl, rfl, by decide +kernel, rfl, by decide +kernel, by decide +kernel⟩
theorem ok_best_order (T : Txt K mg) (g_sorted_in : Def P w K mg (Str.ofString "sorted_in") [(Str.ofString "coupons")] 5 S_sorted_in) (g_by_name : Def P w K mg (Str.ofString "by_name") [(Str.ofString "coupons")] 1 S_by_name) (hp : PureD p_best_order S_best_order 2 1) : Def P w K mg (Str.ofString "best_order") [(Str.ofString "coupons")] 6 S_best_order :=
  have sc := sc_best_order
  fnDef T.d_best_order (fun _ _ _ _ _ _ us hl => match us, hl with | [_], _ => rfl) sc hp (p := p_best_order) (fun base f cdv A outer s H E hr => (ss_one (s_ret (QF.toE (f_lc [((Str.ofString "coupon"), 1)] rfl sc.nd (i_seq (q_callD g_sorted_in (hr.mono (by decide)) (by rfl) (qa_cons (QF.toE (f_listVals rfl (QE.toO (q_callD g_by_name (hr.mono (by decide)) (by rfl) (qa_cons (q_var 0) qa_nil))) (by rfl) T.b_list)) qa_nil))) (N0 := [(Str.ofString "coupons"), (Str.ofString "coupon")]) (sc0 := defScope s_best_order) (by decide +kernel) rfl (fun _ _ _ _ _ => (v_name sc.nd (by decide))) (fun _ _ _ _ _ => ts_nil) (fun _ _ _ _ _ => (q_ix (ixd (hu_of hr)) (q_varO 1) (QE.toO q_int))))))))
theorem sc_bounds : FnScope [(Str.ofString "coupons"), (Str.ofString "order")] [(Str.ofString "coupons")] (defScope s_bounds) := ⟨rfl, rfl, rfl, by decide +kernel, rfl, by decide +kernel, by decide +kernel⟩
theorem ok_bounds (T : Txt K mg) (g_joined : Def P w K mg (Str.ofString "joined") [(Str.ofString "coupons"), (Str.ofString "order")] 3 S_joined) (g_best_order : Def P w K mg (Str.ofString "best_order") [(Str.ofString "coupons")] 6 S_best_order) (hp : PureD p_bounds S_bounds 2 1) : Def P w K mg (Str.ofString "bounds") [(Str.ofString "coupons")] 7 S_bounds :=
  have sc := sc_bounds
  fnDef T.d_bounds (fun _ _ _ _ _ _ us hl => match us, hl with | [_], _ => rfl) sc hp (p := p_bounds) (fun base f cdv A outer s H E hr => (ss_cons (s_set (i := 1) sc.nd (q_callD g_best_order (hr.mono (by decide)) (by rfl) (qa_cons (q_var 0) qa_nil))) (ss_one (s_ret (q_tup (qa_cons (q_ix (ixd (hu_of hr)) (QE.toO (q_callD g_joined (hr.mono (by decide)) (by rfl) (qa_cons (q_var 0) (qa_cons (QF.toE (f_rev (q_varO 1))) qa_nil)))) (QE.toO q_int)) (qa_cons (q_ix (ixd (hu_of hr)) (QE.toO (q_callD g_joined (hr.mono (by decide)) (by rfl) (qa_cons (q_var 0) (qa_cons (q_var 1) qa_nil)))) (QE.toO q_int)) qa_nil)))))))
theorem sc_few_table : FnScope [(Str.ofString "row"), (Str.ofString "price"), (Str.ofString "k"), (Str.ofString "table"), (Str.ofString "i"), (Str.ofString "c"), (Str.ofString "kept"), (Str.ofString "taken")] [(Str.ofString "row"), (Str.ofString "price"), (Str.ofString "k")] (defScope s_few_table) := ⟨rfl, rfl, rfl, by decide +kernel, rfl, by decide +kernel, by decide +kernel⟩
theorem ok_few_table (T : Txt K mg) (g_smaller : Def P w K mg (Str.ofString "smaller") [(Str.ofString "one"), (Str.ofString "other")] 3 S_smaller) (g_made : Def P w K mg (Str.ofString "made") [(Str.ofString "coupon"), (Str.ofString "price")] 3 S_made) (hp : PureD p_few_table S_few_table 8 3) : Def P w K mg (Str.ofString "few_table") [(Str.ofString "row"), (Str.ofString "price"), (Str.ofString "k")] 4 S_few_table :=
  have sc := sc_few_table
  fnDef T.d_few_table (fun _ _ _ _ _ _ us hl => match us, hl with | [_, _, _], _ => rfl) sc hp (p := p_few_table) (fun base f cdv A outer s H E hr => (ss_cons (s_own (i := 3) sc.nd (f_dispT (hu_of hr) (q_tupK (qa_cons q_int (qa_cons q_int qa_nil))) (q_var 1))) (ss_cons (s_for PassesOwn.never rfl (i_range2 (by rfl) T.b_range (qa_cons q_int (qa_cons (q_op od_add (QE.toO (q_callB cd_len (by rfl) T.b_len (by decide +kernel) (o_cons (q_varO 0) o_nil))) (QE.toO q_int)) qa_nil))) (g_name (i := 4) sc.nd) (ss_one (s_for PassesOwn.never rfl (i_range1 (by rfl) T.b_range (qa_cons (q_op od_add (QE.toO (q_callB (cd_min2 rfl) (by rfl) T.b_min (by decide +kernel) (o_cons (q_varO 4) (o_cons (q_varO 2) o_nil)))) (QE.toO q_int)) qa_nil)) (g_name (i := 5) sc.nd) (ss_cons (s_set (i := 6) sc.nd (q_getT1 (hu_of hr) (q_varO 3) (q_tupK (qa_cons (q_op od_sub (q_varO 4) (QE.toO q_int)) (qa_cons (q_var 5) qa_nil))))) (ss_cons (s_set (i := 7) sc.nd (q_getT1 (hu_of hr) (q_varO 3) (q_tupK (qa_cons (q_op od_sub (q_varO 4) (QE.toO q_int)) (qa_cons (q_op od_sub (q_varO 5) (QE.toO q_int)) qa_nil))))) (ss_one (s_putT 3 (hu_of hr) (q_tupK (qa_cons (q_var 4) (qa_cons (q_var 5) qa_nil))) (q_callD g_smaller (hr.mono (by decide)) (by rfl) (qa_cons (q_var 6) (qa_cons (q_if (t_cmp od_is (q_varO 7) (QE.toO q_non) (nomark _)) q_non (q_callD g_made (hr.mono (by decide)) (by rfl) (qa_cons (q_ix (ixd (hu_of hr)) (q_varO 0) (QE.toO (q_op od_sub (q_varO 4) (QE.toO q_int)))) (qa_cons (q_var 7) qa_nil)))) qa_nil)))))))))) (ss_fz 3 (ss_one (s_ret (q_var 3)))))))
theorem sc_traced : FnScope [(Str.ofString "row"), (Str.ofString "table"), (Str.ofString "c"), (Str.ofString "names"), (Str.ofString "i")] [(Str.ofString "row"), (Str.ofString "table"), (Str.ofString "c")] (defScope s_traced) := ⟨rfl, rfl, rfl, by decide +kernel, rfl, by decide +kernel, by decide +kernel⟩
theorem ok_traced (T : Txt K mg)  (hp : PureD p_traced S_traced 5 3) : Def P w K mg (Str.ofString "traced") [(Str.ofString "row"), (Str.ofString "table"), (Str.ofString "c")] 1 S_traced :=
  have sc := sc_traced
  fnDef T.d_traced (fun _ _ _ _ _ _ us hl => match us, hl with | [_, _, _], _ => rfl) sc hp (p := p_traced) (fun base f cdv A outer s H E hr => (ss_cons (s_own (i := 3) sc.nd (f_lst qa_nil)) (ss_cons (s_for PassesOwn.never rfl (i_range3 (by rfl) T.b_range (qa_cons (q_callB cd_len (by rfl) T.b_len (by decide +kernel) (o_cons (q_varO 0) o_nil)) (qa_cons q_int (qa_cons (q_un ud_neg (QE.toO q_int)) qa_nil)))) (g_name (i := 4) sc.nd) (ss_one (s_if (t_cmp (od_ne hr.units) (QE.toO (q_getT1 (hu_of hr) (q_varO 1) (q_tupK (qa_cons (q_op od_sub (q_varO 4) (QE.toO q_int)) (qa_cons (q_var 2) qa_nil))))) (QE.toO (q_ix (ixd (hu_of hr)) (q_varO 1) (QE.toO (q_tupK (qa_cons (q_var 4) (qa_cons (q_var 2) qa_nil)))))) (nomark _)) (ss_cons (s_append 3 (q_ix (ixd (hu_of hr)) (QE.toO (q_ix (ixd (hu_of hr)) (q_varO 0) (QE.toO (q_op od_sub (q_varO 4) (QE.toO q_int))))) (QE.toO q_int))) (ss_one (s_set (i := 2) sc.nd (q_op od_sub (q_varO 2) (QE.toO q_int))))) ss_nil))) (ss_one (s_ret (QF.toE (f_rev (q_varO 3))))))))
theorem sc_best_few : FnScope [(Str.ofString "coupons"), (Str.ofString "price"), (Str.ofString "k"), (Str.ofString "row"), (Str.ofString "table"), (Str.ofString "best"), (Str.ofString "c"), (Str.ofString "coupon")] [(Str.ofString "coupons"), (Str.ofString "price"), (Str.ofString "k")] (defScope s_best_few) := ⟨rfl, rfl, rfl, by decide +kernel, rfl, by decide +kernel, by decide +kernel⟩
theorem ok_best_few (T : Txt K mg) (g_traced : Def P w K mg (Str.ofString "traced") [(Str.ofString "row"), (Str.ofString "table"), (Str.ofString "c")] 1 S_traced) (g_less : Def P w K mg (Str.ofString "less") [(Str.ofString "a"), (Str.ofString "b")] 1 S_less) (g_few_table : Def P w K mg (Str.ofString "few_table") [(Str.ofString "row"), (Str.ofString "price"), (Str.ofString "k")] 4 S_few_table) (g_sorted_in : Def P w K mg (Str.ofString "sorted_in") [(Str.ofString "coupons")] 5 S_sorted_in) (g_by_name : Def P w K mg (Str.ofString "by_name") [(Str.ofString "coupons")] 1 S_by_name) (hp : PureD p_best_few S_best_few 8 3) : Def P w K mg (Str.ofString "best_few") [(Str.ofString "coupons"), (Str.ofString "price"), (Str.ofString "k")] 6 S_best_few :=
  have sc := sc_best_few
  fnDef T.d_best_few (fun _ _ _ _ _ _ us hl => match us, hl with | [_, _, _], _ => rfl) sc hp (p := p_best_few) (fun base f cdv A outer s H E hr => (ss_cons (s_set (i := 3) sc.nd (q_callD g_sorted_in (hr.mono (by decide)) (by rfl) (qa_cons (QF.toE (f_listVals rfl (QE.toO (q_callD g_by_name (hr.mono (by decide)) (by rfl) (qa_cons (q_var 0) qa_nil))) (by rfl) T.b_list)) qa_nil))) (ss_cons (s_set (i := 4) sc.nd (q_callD g_few_table (hr.mono (by decide)) (by rfl) (qa_cons (q_var 3) (qa_cons (q_var 1) (qa_cons (q_var 2) qa_nil))))) (ss_cons (s_set (i := 5) sc.nd q_int) (ss_cons (s_for PassesOwn.never rfl (i_range1 (by rfl) T.b_range (qa_cons (q_op od_add (QE.toO (q_callB (cd_min2 rfl) (by rfl) T.b_min (by decide +kernel) (o_cons (QE.toO (q_callB cd_len (by rfl) T.b_len (by decide +kernel) (o_cons (q_varO 3) o_nil))) (o_cons (q_varO 2) o_nil)))) (QE.toO q_int)) qa_nil)) (g_name (i := 6) sc.nd) (ss_one (s_if (t_val (q_callD g_less (hr.mono (by decide)) (by rfl) (qa_cons (q_ix (ixd (hu_of hr)) (q_varO 4) (QE.toO (q_tupK (qa_cons (q_callB cd_len (by rfl) T.b_len (by decide +kernel) (o_cons (q_varO 3) o_nil)) (qa_cons (q_var 6) qa_nil))))) (qa_cons (q_ix (ixd (hu_of hr)) (q_varO 4) (QE.toO (q_tupK (qa_cons (q_callB cd_len (by rfl) T.b_len (by decide +kernel) (o_cons (q_varO 3) o_nil)) (qa_cons (q_var 5) qa_nil))))) qa_nil)))) (ss_one (s_set (i := 5) sc.nd (q_var 6))) ss_nil))) (ss_one (s_ret (q_tup (qa_cons (q_ix (ixd (hu_of hr)) (q_varO 4) (QE.toO (q_tupK (qa_cons (q_callB cd_len (by rfl) T.b_len (by decide +kernel) (o_cons (q_varO 3) o_nil)) (qa_cons (q_var 5) qa_nil))))) (qa_cons (q_callD g_traced (hr.mono (by decide)) (by rfl) (qa_cons (q_var 3) (qa_cons (q_var 4) (qa_cons (q_var 5) qa_nil)))) (qa_cons (q_var 4) (qa_cons (QF.toE (f_lc [((Str.ofString "coupon"), 7)] rfl sc.nd (i_seq (q_var 3)) (N0 := [(Str.ofString "coupons"), (Str.ofString "price"), (Str.ofString "k"), (Str.ofString "row"), (Str.ofString "table"), (Str.ofString "best"), (Str.ofString "c"), (Str.ofString "coupon")]) (sc0 := defScope s_best_few) (by decide +kernel) rfl (fun _ _ _ _ _ => (v_name sc.nd (by decide))) (fun _ _ _ _ _ => ts_nil) (fun _ _ _ _ _ => (q_ix (ixd (hu_of hr)) (q_varO 7) (QE.toO q_int))))) qa_nil))))))))))))
theorem sc_law_pick : FnScope [(Str.ofString "pool"), (Str.ofString "options")] [(Str.ofString "pool"), (Str.ofString "options")] (defScope s_law_pick) := ⟨rfl, rfl, rfl, by decide +kernel, rfl, by decide +kernel, by decide +kernel⟩
theorem ok_law_pick (T : Txt K mg) (g_law_draw : Def P w K mg (Str.ofString "_law_draw") [(Str.ofString "pool"), (Str.ofString "limit")] 3 S_law_draw) (hp : PureD p_law_pick S_law_pick 2 2) : Def P w K mg (Str.ofString "_law_pick") [(Str.ofString "pool"), (Str.ofString "options")] 4 S_law_pick :=
  have sc := sc_law_pick
  fnDef T.d_law_pick (fun _ _ _ _ _ _ us hl => match us, hl with | [_, _], _ => rfl) sc hp (p := p_law_pick) (fun base f cdv A outer s H E hr => (ss_one (s_ret (q_ix (ixd (hu_of hr)) (q_varO 1) (QE.toO (q_callD g_law_draw (hr.mono (by decide)) (by rfl) (qa_cons (q_var 0) (qa_cons (q_callB cd_len (by rfl) T.b_len (by decide +kernel) (o_cons (q_varO 1) o_nil)) qa_nil))))))))
theorem sc_law_gcd : FnScope [(Str.ofString "one"), (Str.ofString "other"), (Str.ofString "k")] [(Str.ofString "one"), (Str.ofString "other")] (defScope s_law_gcd) := ⟨rfl, rfl, rfl, by decide +kernel, rfl, by decide +kernel, by decide +kernel⟩
theorem ok_law_gcd (T : Txt K mg)  (hp : PureD p_law_gcd S_law_gcd 3 2) : Def P w K mg (Str.ofString "_law_gcd") [(Str.ofString "one"), (Str.ofString "other")] 1 S_law_gcd :=
  have sc := sc_law_gcd
  fnDef T.d_law_gcd (fun _ _ _ _ _ _ us hl => match us, hl with | [_, _], _ => rfl) sc hp (p := p_law_gcd) (fun base f cdv A outer s H E hr => (ss_cons (s_for PassesOwn.never rfl (i_range1 (by rfl) T.b_range (qa_cons q_int qa_nil)) (g_name (i := 2) sc.nd) (ss_cons (s_if (t_cmp (od_eq hr.units) (q_varO 1) (QE.toO q_int) (nomark _)) (ss_one s_break) ss_nil) (ss_one (s_par (i := 0) (j := 1) rfl sc.nd (qa_cons (q_var 1) (qa_cons (q_op od_mod (QE.toO (q_callTy cd_int (by rfl) T.b_int (by decide +kernel) (o_cons (q_varO 0) o_nil))) (q_varO 1)) qa_nil)))))) (ss_one (s_ret (q_var 0)))))
theorem sc_law_ratio : FnScope [(Str.ofString "p"), (Str.ofString "q"), (Str.ofString "shared")] [(Str.ofString "p"), (Str.ofString "q")] (defScope s_law_ratio) := ⟨rfl, rfl, rfl, by decide +kernel, rfl, by decide +kernel, by decide +kernel⟩
theorem ok_law_ratio (T : Txt K mg) (g_law_gcd : Def P w K mg (Str.ofString "_law_gcd") [(Str.ofString "one"), (Str.ofString "other")] 1 S_law_gcd) (hp : PureD p_law_ratio S_law_ratio 3 2) : Def P w K mg (Str.ofString "_law_ratio") [(Str.ofString "p"), (Str.ofString "q")] 2 S_law_ratio :=
  have sc := sc_law_ratio
  fnDef T.d_law_ratio (fun _ _ _ _ _ _ us hl => match us, hl with | [_, _], _ => rfl) sc hp (p := p_law_ratio) (fun base f cdv A outer s H E hr => (ss_cons (s_if (t_cmp od_lt (q_varO 1) (QE.toO q_int) (nomark _)) (ss_one (s_par (i := 0) (j := 1) rfl sc.nd (qa_cons (q_un ud_neg (q_varO 0)) (qa_cons (q_un ud_neg (q_varO 1)) qa_nil)))) ss_nil) (ss_cons (s_set (i := 2) sc.nd (q_callD g_law_gcd (hr.mono (by decide)) (by rfl) (qa_cons (q_callB cd_abs (by rfl) T.b_abs (by decide +kernel) (o_cons (q_varO 0) o_nil)) (qa_cons (q_var 1) qa_nil)))) (ss_one (s_ret (q_tup (qa_cons (q_op od_div (q_varO 0) (q_varO 2)) (qa_cons (q_op od_div (q_varO 1) (q_varO 2)) qa_nil))))))))
theorem sc_law_fraction : FnScope [(Str.ofString "pool"), (Str.ofString "most_v"), (Str.ofString "parts")] [(Str.ofString "pool"), (Str.ofString "most_v"), (Str.ofString "parts")] (defScope s_law_fraction) := ⟨rfl, rfl, rfl, by decide +kernel, rfl, by decide +kernel, by decide +kernel⟩
theorem ok_law_fraction (T : Txt K mg) (g_law_ratio : Def P w K mg (Str.ofString "_law_ratio") [(Str.ofString "p"), (Str.ofString "q")] 2 S_law_ratio) (g_law_draw : Def P w K mg (Str.ofString "_law_draw") [(Str.ofString "pool"), (Str.ofString "limit")] 3 S_law_draw) (hp : PureD p_law_fraction S_law_fraction 3 3) : Def P w K mg (Str.ofString "_law_fraction") [(Str.ofString "pool"), (Str.ofString "most_v"), (Str.ofString "parts")] 4 S_law_fraction :=
  have sc := sc_law_fraction
  fnDef T.d_law_fraction (fun _ _ _ _ _ _ us hl => match us, hl with | [_, _, _], _ => rfl) sc hp (p := p_law_fraction) (fun base f cdv A outer s H E hr => (ss_one (s_ret (q_callD g_law_ratio (hr.mono (by decide)) (by rfl) (qa_cons (q_callD g_law_draw (hr.mono (by decide)) (by rfl) (qa_cons (q_var 0) (qa_cons (q_op od_add (q_varO 1) (QE.toO q_int)) qa_nil))) (qa_cons (q_op od_add (QE.toO q_int) (QE.toO (q_callD g_law_draw (hr.mono (by decide)) (by rfl) (qa_cons (q_var 0) (qa_cons (q_var 2) qa_nil))))) qa_nil))))))
theorem sc_law_turned : FnScope [(Str.ofString "pool"), (Str.ofString "items"), (Str.ofString "place")] [(Str.ofString "pool"), (Str.ofString "items")] (defScope s_law_turned) := ⟨rfl, rfl, rfl, by decide +kernel, rfl, by decide +kernel, by decide +kernel⟩
theorem ok_law_turned (T : Txt K mg) (g_law_draw : Def P w K mg (Str.ofString "_law_draw") [(Str.ofString "pool"), (Str.ofString "limit")] 3 S_law_draw) (hp : PureF p_law_turned S_law_turned 3 2) : DefF P w K mg (Str.ofString "_law_turned") [(Str.ofString "pool"), (Str.ofString "items")] 4 S_law_turned :=
  have sc := sc_law_turned
  fnDefF T.d_law_turned (fun _ _ _ _ _ _ us hl => match us, hl with | [_, _], _ => rfl) sc hp (p := p_law_turned) (fun base f cdv A outer s H E hr => (ss_cons (s_set (i := 2) sc.nd (q_if (t_cmp od_gt (QE.toO (q_callB cd_len (by rfl) T.b_len (by decide +kernel) (o_cons (q_varO 1) o_nil))) (QE.toO q_int) (nomark _)) (q_callD g_law_draw (hr.mono (by decide)) (by rfl) (qa_cons (q_var 0) (qa_cons (q_callB cd_len (by rfl) T.b_len (by decide +kernel) (o_cons (q_varO 1) o_nil)) qa_nil))) q_int)) (ss_one (s_retF (f_cat (QE.toO (q_slice (q_varO 1) (p_some (q_var 2)) p_none)) (QE.toO (q_slice (q_varO 1) p_none (p_some (q_var 2)))))))))
theorem sc_law_coupons : FnScope [(Str.ofString "pool"), (Str.ofString "most_v"), (Str.ofString "found"), (Str.ofString "k"), (Str.ofString "part"), (Str.ofString "off")] [(Str.ofString "pool"), (Str.ofString "most_v")] (defScope s_law_coupons) := ⟨rfl, rfl, rfl, by decide +kernel, rfl, by decide +kernel, by decide +kernel⟩
theorem ok_law_coupons (T : Txt K mg) (g_law_turned : DefF P w K mg (Str.ofString "_law_turned") [(Str.ofString "pool"), (Str.ofString "items")] 4 S_law_turned) (g_law_draw : Def P w K mg (Str.ofString "_law_draw") [(Str.ofString "pool"), (Str.ofString "limit")] 3 S_law_draw) (g_law_pick : Def P w K mg (Str.ofString "_law_pick") [(Str.ofString "pool"), (Str.ofString "options")] 4 S_law_pick) (g_law_fraction : Def P w K mg (Str.ofString "_law_fraction") [(Str.ofString "pool"), (Str.ofString "most_v"), (Str.ofString "parts")] 4 S_law_fraction) (g_law_ratio : Def P w K mg (Str.ofString "_law_ratio") [(Str.ofString "p"), (Str.ofString "q")] 2 S_law_ratio) (hp : PureF p_law_coupons S_law_coupons 6 2) : DefF P w K mg (Str.ofString "_law_coupons") [(Str.ofString "pool"), (Str.ofString "most_v")] 5 S_law_coupons :=
  have sc := sc_law_coupons
  fnDefF T.d_law_coupons (fun _ _ _ _ _ _ us hl => match us, hl with | [_, _], _ => rfl) sc hp (p := p_law_coupons) (fun base f cdv A outer s H E hr => (ss_cons (s_own (i := 2) sc.nd (f_lst qa_nil)) (ss_cons (s_for PassesOwn.never rfl (i_range1 (by rfl) T.b_range (qa_cons (q_callD g_law_draw (hr.mono (by decide)) (by rfl) (qa_cons (q_var 0) (qa_cons (q_op od_add (q_varO 1) (QE.toO q_int)) qa_nil))) qa_nil)) (g_name (i := 3) sc.nd) (ss_cons (s_set (i := 4) sc.nd (q_callD g_law_pick (hr.mono (by decide)) (by rfl) (qa_cons (q_var 0) (qa_cons (QF.toE (f_lst (qa_cons (q_tup (qa_cons q_int (qa_cons q_int qa_nil))) (qa_cons (q_tup (qa_cons q_int (qa_cons q_int qa_nil))) (qa_cons (q_tup (qa_cons q_int (qa_cons q_int qa_nil))) (qa_cons (q_tup (qa_cons q_int (qa_cons q_int qa_nil))) (qa_cons (q_callD g_law_ratio (hr.mono (by decide)) (by rfl) (qa_cons (q_op od_add (QE.toO q_int) (QE.toO (q_callD g_law_draw (hr.mono (by decide)) (by rfl) (qa_cons (q_var 0) (qa_cons q_int qa_nil))))) (qa_cons q_int qa_nil))) qa_nil))))))) qa_nil)))) (ss_cons (s_set (i := 5) sc.nd (q_callD g_law_pick (hr.mono (by decide)) (by rfl) (qa_cons (q_var 0) (qa_cons (QF.toE (f_lst (qa_cons (q_tup (qa_cons q_int (qa_cons q_int qa_nil))) (qa_cons (q_tup (qa_cons q_int (qa_cons q_int qa_nil))) (qa_cons (q_tup (qa_cons q_int (qa_cons q_int qa_nil))) (qa_cons (q_callD g_law_fraction (hr.mono (by decide)) (by rfl) (qa_cons (q_var 0) (qa_cons q_int (qa_cons q_int qa_nil)))) qa_nil)))))) qa_nil)))) (ss_cons (s_if (t_and (t_cmp (od_eq hr.units) (q_varO 4) (QE.toO (q_tup (qa_cons q_int (qa_cons q_int qa_nil)))) (nomark _)) (w_and1 (t_cmp (od_eq hr.units) (q_varO 5) (QE.toO (q_tup (qa_cons q_int (qa_cons q_int qa_nil)))) (nomark _)))) (ss_one (s_set (i := 5) sc.nd (q_tup (qa_cons q_int (qa_cons q_int qa_nil))))) ss_nil) (ss_cons (s_if (t_and (t_cmp (od_eq hr.units) (QE.toO (q_ix (ixd (hu_of hr)) (q_varO 4) (QE.toO q_int))) (QE.toO (q_ix (ixd (hu_of hr)) (q_varO 4) (QE.toO q_int))) (nomark _)) (w_and1 (t_cmp (od_eq hr.units) (QE.toO (q_ix (ixd (hu_of hr)) (q_varO 5) (QE.toO q_int))) (QE.toO q_int) (nomark _)))) (ss_one (s_set (i := 5) sc.nd (q_tup (qa_cons q_int (qa_cons q_int qa_nil))))) ss_nil) (ss_one (s_append 2 (q_tup (qa_cons (q_op od_add (QE.toO (q_callD g_law_pick (hr.mono (by decide)) (by rfl) (qa_cons (q_var 0) (qa_cons (QF.toE (f_lst (qa_cons q_str (qa_cons q_str (qa_cons q_str qa_nil))))) qa_nil)))) (QE.toO (q_callTy cd_str (by rfl) T.b_str (by decide +kernel) (o_cons (q_varO 3) o_nil)))) (qa_cons (q_var 4) (qa_cons (q_var 5) qa_nil))))))))))) (ss_fz 2 (ss_one (s_retF (f_callD g_law_turned (hr.mono (by decide)) (by rfl) (qa_cons (q_var 0) (qa_cons (q_var 2) qa_nil)))))))))
theorem sc_law_add : FnScope [(Str.ofString "one"), (Str.ofString "other")] [(Str.ofString "one"), (Str.ofString "other")] (defScope s_law_add) := ⟨rfl, rfl, rfl, by decide +kernel, rfl, by decide +kernel, by decide +kernel⟩
theorem ok_law_add (T : Txt K mg) (g_law_ratio : Def P w K mg (Str.ofString "_law_ratio") [(Str.ofString "p"), (Str.ofString "q")] 2 S_law_ratio) (hp : PureD p_law_add S_law_add 2 2) : Def P w K mg (Str.ofString "_law_add") [(Str.ofString "one"), (Str.ofString "other")] 3 S_law_add :=
  have sc := sc_law_add
  fnDef T.d_law_add (fun _ _ _ _ _ _ us hl => match us, hl with | [_, _], _ => rfl) sc hp (p := p_law_add) (fun base f cdv A outer s H E hr => (ss_one (s_ret (q_callD g_law_ratio (hr.mono (by decide)) (by rfl) (qa_cons (q_op od_add (QE.toO (q_op od_mul (QE.toO (q_ix (ixd (hu_of hr)) (q_varO 0) (QE.toO q_int))) (QE.toO (q_ix (ixd (hu_of hr)) (q_varO 1) (QE.toO q_int))))) (QE.toO (q_op od_mul (QE.toO (q_ix (ixd (hu_of hr)) (q_varO 1) (QE.toO q_int))) (QE.toO (q_ix (ixd (hu_of hr)) (q_varO 0) (QE.toO q_int)))))) (qa_cons (q_op od_mul (QE.toO (q_ix (ixd (hu_of hr)) (q_varO 0) (QE.toO q_int))) (QE.toO (q_ix (ixd (hu_of hr)) (q_varO 1) (QE.toO q_int)))) qa_nil))))))
theorem sc_law_mul : FnScope [(Str.ofString "one"), (Str.ofString "other")] [(Str.ofString "one"), (Str.ofString "other")] (defScope s_law_mul) := ⟨rfl, rfl, rfl, by decide +kernel, rfl, by decide +kernel, by decide +kernel⟩
theorem ok_law_mul (T : Txt K mg) (g_law_ratio : Def P w K mg (Str.ofString "_law_ratio") [(Str.ofString "p"), (Str.ofString "q")] 2 S_law_ratio) (hp : PureD p_law_mul S_law_mul 2 2) : Def P w K mg (Str.ofString "_law_mul") [(Str.ofString "one"), (Str.ofString "other")] 3 S_law_mul :=
  have sc := sc_law_mul
  fnDef T.d_law_mul (fun _ _ _ _ _ _ us hl => match us, hl with | [_, _], _ => rfl) sc hp (p := p_law_mul) (fun base f cdv A outer s H E hr => (ss_one (s_ret (q_callD g_law_ratio (hr.mono (by decide)) (by rfl) (qa_cons (q_op od_mul (QE.toO (q_ix (ixd (hu_of hr)) (q_varO 0) (QE.toO q_int))) (QE.toO (q_ix (ixd (hu_of hr)) (q_varO 1) (QE.toO q_int)))) (qa_cons (q_op od_mul (QE.toO (q_ix (ixd (hu_of hr)) (q_varO 0) (QE.toO q_int))) (QE.toO (q_ix (ixd (hu_of hr)) (q_varO 1) (QE.toO q_int)))) qa_nil))))))
theorem sc_law_off : FnScope [(Str.ofString "coupons"), (Str.ofString "found"), (Str.ofString "coupon")] [(Str.ofString "coupons")] (defScope s_law_off) := ⟨rfl, rfl, rfl, by decide +kernel, rfl, by decide +kernel, by decide +kernel⟩
theorem ok_law_off (T : Txt K mg) (g_law_add : Def P w K mg (Str.ofString "_law_add") [(Str.ofString "one"), (Str.ofString "other")] 3 S_law_add) (g_law_mul : Def P w K mg (Str.ofString "_law_mul") [(Str.ofString "one"), (Str.ofString "other")] 3 S_law_mul) (hp : PureD p_law_off S_law_off 3 1) : Def P w K mg (Str.ofString "_law_off") [(Str.ofString "coupons")] 4 S_law_off :=
  have sc := sc_law_off
  fnDef T.d_law_off (fun _ _ _ _ _ _ us hl => match us, hl with | [_], _ => rfl) sc hp (p := p_law_off) (fun base f cdv A outer s H E hr => (ss_cons (s_set (i := 1) sc.nd (q_tup (qa_cons q_int (qa_cons q_int qa_nil)))) (ss_cons (s_for PassesOwn.never rfl (i_seq (q_var 0)) (g_name (i := 2) sc.nd) (ss_one (s_set (i := 1) sc.nd (q_callD g_law_add (hr.mono (by decide)) (by rfl) (qa_cons (q_callD g_law_mul (hr.mono (by decide)) (by rfl) (qa_cons (q_var 1) (qa_cons (q_ix (ixd (hu_of hr)) (q_varO 2) (QE.toO q_int)) qa_nil))) (qa_cons (q_ix (ixd (hu_of hr)) (q_varO 2) (QE.toO q_int)) qa_nil)))))) (ss_one (s_ret (q_var 1))))))
theorem sc_law_less : FnScope [(Str.ofString "one"), (Str.ofString "other")] [(Str.ofString "one"), (Str.ofString "other")] (defScope s_law_less) := ⟨rfl, rfl, rfl, by decide +kernel, rfl, by decide +kernel, by decide +kernel⟩
theorem ok_law_less (T : Txt K mg)  (hp : PureD p_law_less S_law_less 2 2) : Def P w K mg (Str.ofString "_law_less") [(Str.ofString "one"), (Str.ofString "other")] 1 S_law_less :=
  have sc := sc_law_less
  fnDef T.d_law_less (fun _ _ _ _ _ _ us hl => match us, hl with | [_, _], _ => rfl) sc hp (p := p_law_less) (fun base f cdv A outer s H E hr => (ss_one (s_ret (q_cmp od_lt (QE.toO (q_op od_mul (QE.toO (q_ix (ixd (hu_of hr)) (q_varO 0) (QE.toO q_int))) (QE.toO (q_ix (ixd (hu_of hr)) (q_varO 1) (QE.toO q_int))))) (QE.toO (q_op od_mul (QE.toO (q_ix (ixd (hu_of hr)) (q_varO 1) (QE.toO q_int))) (QE.toO (q_ix (ixd (hu_of hr)) (q_varO 0) (QE.toO q_int))))) (nomark _)))))
theorem sc_law_same : FnScope [(Str.ofString "actual"), (Str.ofString "due"), (Str.ofString "k"), (Str.ofString "key")] [(Str.ofString "actual"), (Str.ofString "due")] (defScope s_law_same) := ⟨rfl, rfl, rfl, by decide +kernel, rfl, by decide +kernel, by decide +kernel⟩
theorem ok_law_same (T : Txt K mg)  (k : Nat) (hk : 1 ≤ k + 1) {S S' : SpecD} (G : Def P w K mg (Str.ofString "_law_same") [(Str.ofString "actual"), (Str.ofString "due")] k S) (hp : PureD (p_same1 S) S' 4 2) : Def P w K mg (Str.ofString "_law_same") [(Str.ofString "actual"), (Str.ofString "due")] (k + 1) S' :=
  have sc := sc_law_same
  fnDef T.d_law_same (fun _ _ _ _ _ _ us hl => match us, hl with | [_, _], _ => rfl) sc hp (p := p_same1 S) (fun base f cdv A outer s H E hr => (ss_cons (s_if (t_cmp od_is (q_varO 1) (QE.toO q_non) (nomark _)) (ss_one (s_ret (q_cmp od_is (q_varO 0) (QE.toO q_non) (nomark _)))) ss_nil) (ss_cons (s_if (t_cmp od_is (q_varO 1) (QE.toO q_bl) (nomark _)) (ss_one (s_ret (q_cmp od_is (q_varO 0) (QE.toO q_bl) (nomark _)))) ss_nil) (ss_cons (s_if (t_cmp od_is (q_varO 1) (QE.toO q_bl) (nomark _)) (ss_one (s_ret (q_cmp od_is (q_varO 0) (QE.toO q_bl) (nomark _)))) ss_nil) (ss_cons (s_if (t_val (q_callB cd_isi (by rfl) T.b_isinstance (by decide +kernel) (o_cons (q_varO 1) (o_cons (QE.toO (q_ty (by rfl) T.b_int (by decide +kernel))) o_nil)))) (ss_one (s_ret (q_and (q_callB cd_isi (by rfl) T.b_isinstance (by decide +kernel) (o_cons (q_varO 0) (o_cons (QE.toO (q_ty (by rfl) T.b_int (by decide +kernel))) o_nil))) (q_and (q_not (q_callB cd_isi (by rfl) T.b_isinstance (by decide +kernel) (o_cons (q_varO 0) (o_cons (QE.toO (q_ty (by rfl) T.b_bool (by decide +kernel))) o_nil)))) (q_one (q_cmp (od_eq hr.units) (q_varO 0) (q_varO 1) (nomark _))))))) ss_nil) (ss_cons (s_if (t_val (q_callB cd_isi (by rfl) T.b_isinstance (by decide +kernel) (o_cons (q_varO 1) (o_cons (QE.toO (q_ty (by rfl) T.b_str (by decide +kernel))) o_nil)))) (ss_one (s_ret (q_and (q_callB cd_isi (by rfl) T.b_isinstance (by decide +kernel) (o_cons (q_varO 0) (o_cons (QE.toO (q_ty (by rfl) T.b_str (by decide +kernel))) o_nil))) (q_one (q_cmp (od_eq hr.units) (q_varO 0) (q_varO 1) (nomark _)))))) ss_nil) (ss_cons (s_if (t_val (q_callB cd_isi (by rfl) T.b_isinstance (by decide +kernel) (o_cons (q_varO 1) (o_cons (QE.toO (q_ty (by rfl) T.b_dict (by decide +kernel))) o_nil)))) (ss_cons (s_if (t_or (t_not (t_val (q_callB cd_isi (by rfl) T.b_isinstance (by decide +kernel) (o_cons (q_varO 0) (o_cons (QE.toO (q_ty (by rfl) T.b_dict (by decide +kernel))) o_nil))))) (w_or1 (t_cmp (od_ne hr.units) (QE.toO (q_callB cd_len (by rfl) T.b_len (by decide +kernel) (o_cons (q_varO 0) o_nil))) (QE.toO (q_callB cd_len (by rfl) T.b_len (by decide +kernel) (o_cons (q_varO 1) o_nil))) (nomark _)))) (ss_one (s_ret q_bl)) ss_nil) (ss_cons (s_forK 1 PassesOwn.never rfl (g_name (i := 3) sc.nd) (ss_one (s_if (t_or (t_cmp (od_notIn hr.units) (q_varO 3) (q_varO 0) (by rfl)) (w_or1 (t_not (t_val (q_callD G hr (by rfl) (qa_cons (q_ix (ixd (hu_of hr)) (q_varO 0) (q_varO 3)) (qa_cons (q_ix (ixd (hu_of hr)) (q_varO 1) (q_varO 3)) qa_nil))))))) (ss_one (s_ret q_bl)) ss_nil))) (ss_one (s_ret q_bl)))) ss_nil) (ss_cons (s_if (t_or (t_cmp (od_ne hr.units) (QE.toO (q_callB cd_isi (by rfl) T.b_isinstance (by decide +kernel) (o_cons (q_varO 0) (o_cons (QE.toO (q_ty (by rfl) T.b_tuple (by decide +kernel))) o_nil)))) (QE.toO (q_callB cd_isi (by rfl) T.b_isinstance (by decide +kernel) (o_cons (q_varO 1) (o_cons (QE.toO (q_ty (by rfl) T.b_tuple (by decide +kernel))) o_nil)))) (nomark _)) (w_or1 (t_cmp (od_ne hr.units) (QE.toO (q_callB cd_isi (by rfl) T.b_isinstance (by decide +kernel) (o_cons (q_varO 0) (o_cons (QE.toO (q_ty (by rfl) T.b_list (by decide +kernel))) o_nil)))) (QE.toO (q_callB cd_isi (by rfl) T.b_isinstance (by decide +kernel) (o_cons (q_varO 1) (o_cons (QE.toO (q_ty (by rfl) T.b_list (by decide +kernel))) o_nil)))) (nomark _)))) (ss_one (s_ret q_bl)) ss_nil) (ss_cons (s_if (t_cmp (od_ne hr.units) (QE.toO (q_callB cd_len (by rfl) T.b_len (by decide +kernel) (o_cons (q_varO 0) o_nil))) (QE.toO (q_callB cd_len (by rfl) T.b_len (by decide +kernel) (o_cons (q_varO 1) o_nil))) (nomark _)) (ss_one (s_ret q_bl)) ss_nil) (ss_cons (s_for PassesOwn.never rfl (i_range1 (by rfl) T.b_range (qa_cons (q_callB cd_len (by rfl) T.b_len (by decide +kernel) (o_cons (q_varO 1) o_nil)) qa_nil)) (g_name (i := 2) sc.nd) (ss_one (s_if (t_not (t_val (q_callD G hr (by rfl) (qa_cons (q_ix (ixd (hu_of hr)) (q_varO 0) (q_varO 2)) (qa_cons (q_ix (ixd (hu_of hr)) (q_varO 1) (q_varO 2)) qa_nil))))) (ss_one (s_ret q_bl)) ss_nil))) (ss_one (s_ret q_bl))))))))))))
theorem sc_law_sub : FnScope [(Str.ofString "one"), (Str.ofString "other")] [(Str.ofString "one"), (Str.ofString "other")] (defScope s_law_sub) := ⟨rfl, rfl, rfl, by decide +kernel, rfl, by decide +kernel, by decide +kernel⟩
theorem ok_law_sub (T : Txt K mg) (g_law_ratio : Def P w K mg (Str.ofString "_law_ratio") [(Str.ofString "p"), (Str.ofString "q")] 2 S_law_ratio) (hp : PureD p_law_sub S_law_sub 2 2) : Def P w K mg (Str.ofString "_law_sub") [(Str.ofString "one"), (Str.ofString "other")] 3 S_law_sub :=
  have sc := sc_law_sub
  fnDef T.d_law_sub (fun _ _ _ _ _ _ us hl => match us, hl with | [_, _], _ => rfl) sc hp (p := p_law_sub) (fun base f cdv A outer s H E hr => (ss_one (s_ret (q_callD g_law_ratio (hr.mono (by decide)) (by rfl) (qa_cons (q_op od_sub (QE.toO (q_op od_mul (QE.toO (q_ix (ixd (hu_of hr)) (q_varO 0) (QE.toO q_int))) (QE.toO (q_ix (ixd (hu_of hr)) (q_varO 1) (QE.toO q_int))))) (QE.toO (q_op od_mul (QE.toO (q_ix (ixd (hu_of hr)) (q_varO 1) (QE.toO q_int))) (QE.toO (q_ix (ixd (hu_of hr)) (q_varO 0) (QE.toO q_int)))))) (qa_cons (q_op od_mul (QE.toO (q_ix (ixd (hu_of hr)) (q_varO 0) (QE.toO q_int))) (QE.toO (q_ix (ixd (hu_of hr)) (q_varO 1) (QE.toO q_int)))) qa_nil))))))
theorem sc_law_made : FnScope [(Str.ofString "coupon"), (Str.ofString "price"), (Str.ofString "found")] [(Str.ofString "coupon"), (Str.ofString "price")] (defScope s_law_made) := ⟨rfl, rfl, rfl, by decide +kernel, rfl, by decide +kernel, by decide +kernel⟩
theorem ok_law_made (T : Txt K mg) (g_law_sub : Def P w K mg (Str.ofString "_law_sub") [(Str.ofString "one"), (Str.ofString "other")] 3 S_law_sub) (g_law_mul : Def P w K mg (Str.ofString "_law_mul") [(Str.ofString "one"), (Str.ofString "other")] 3 S_law_mul) (hp : PureD p_law_made S_law_made 3 2) : Def P w K mg (Str.ofString "_law_made") [(Str.ofString "coupon"), (Str.ofString "price")] 4 S_law_made :=
  have sc := sc_law_made
  fnDef T.d_law_made (fun _ _ _ _ _ _ us hl => match us, hl with | [_, _], _ => rfl) sc hp (p := p_law_made) (fun base f cdv A outer s H E hr => (ss_cons (s_set (i := 2) sc.nd (q_callD g_law_sub (hr.mono (by decide)) (by rfl) (qa_cons (q_callD g_law_mul (hr.mono (by decide)) (by rfl) (qa_cons (q_ix (ixd (hu_of hr)) (q_varO 0) (QE.toO q_int)) (qa_cons (q_var 1) qa_nil))) (qa_cons (q_ix (ixd (hu_of hr)) (q_varO 0) (QE.toO q_int)) qa_nil)))) (ss_one (s_ret (q_if (t_cmp od_lt (QE.toO (q_ix (ixd (hu_of hr)) (q_varO 2) (QE.toO q_int))) (QE.toO q_int) (nomark _)) (q_tup (qa_cons q_int (qa_cons q_int qa_nil))) (q_var 2))))))
theorem sc_law_run : FnScope [(Str.ofString "coupons"), (Str.ofString "price"), (Str.ofString "coupon")] [(Str.ofString "coupons"), (Str.ofString "price")] (defScope s_law_run) := ⟨rfl, rfl, rfl, by decide +kernel, rfl, by decide +kernel, by decide +kernel⟩
theorem ok_law_run (T : Txt K mg) (g_law_made : Def P w K mg (Str.ofString "_law_made") [(Str.ofString "coupon"), (Str.ofString "price")] 4 S_law_made) (hp : PureD p_law_run S_law_run 3 2) : Def P w K mg (Str.ofString "_law_run") [(Str.ofString "coupons"), (Str.ofString "price")] 5 S_law_run :=
  have sc := sc_law_run
  fnDef T.d_law_run (fun _ _ _ _ _ _ us hl => match us, hl with | [_, _], _ => rfl) sc hp (p := p_law_run) (fun base f cdv A outer s H E hr => (ss_cons (s_for PassesOwn.never rfl (i_seq (q_var 0)) (g_name (i := 2) sc.nd) (ss_one (s_set (i := 1) sc.nd (q_callD g_law_made (hr.mono (by decide)) (by rfl) (qa_cons (q_var 2) (qa_cons (q_var 1) qa_nil)))))) (ss_one (s_ret (q_var 1)))))
theorem sc_law_drawn : FnScope [(Str.ofString "pool"), (Str.ofString "items"), (Str.ofString "left"), (Str.ofString "found"), (Str.ofString "turn")] [(Str.ofString "pool"), (Str.ofString "items")] (defScope s_law_drawn) := ⟨rfl, rfl, rfl, by decide +kernel, rfl, by decide +kernel, by decide +kernel⟩
theorem ok_law_drawn (T : Txt K mg) (g_law_draw : Def P w K mg (Str.ofString "_law_draw") [(Str.ofString "pool"), (Str.ofString "limit")] 3 S_law_draw) (hp : PureD p_law_drawn S_law_drawn 5 2) : Def P w K mg (Str.ofString "_law_drawn") [(Str.ofString "pool"), (Str.ofString "items")] 4 S_law_drawn :=
  have sc := sc_law_drawn
  fnDef T.d_law_drawn (fun _ _ _ _ _ _ us hl => match us, hl with | [_, _], _ => rfl) sc hp (p := p_law_drawn) (fun base f cdv A outer s H E hr => (ss_cons (s_own (i := 2) sc.nd (f_callTy cdf_list (by rfl) T.b_list (by decide +kernel) (o_cons (q_varO 1) o_nil))) (ss_cons (s_own (i := 3) sc.nd (f_lst qa_nil)) (ss_cons (s_for PassesOwn.never rfl (i_range1 (by rfl) T.b_range (qa_cons (q_callB cd_len (by rfl) T.b_len (by decide +kernel) (o_cons (q_varO 1) o_nil)) qa_nil)) (g_name (i := 4) sc.nd) (ss_one (s_appPop 3 2 (by decide) (q_callD g_law_draw (hr.mono (by decide)) (by rfl) (qa_cons (q_var 0) (qa_cons (q_callB cd_len (by rfl) T.b_len (by decide +kernel) (o_cons (q_varO 2) o_nil)) qa_nil)))))) (ss_fz 3 (ss_one (s_ret (q_var 3))))))))
theorem sc_law_by_names : FnScope [(Str.ofString "coupons"), (Str.ofString "names"), (Str.ofString "found"), (Str.ofString "name"), (Str.ofString "coupon")] [(Str.ofString "coupons"), (Str.ofString "names")] (defScope s_law_by_names) := ⟨rfl, rfl, rfl, by decide +kernel, rfl, by decide +kernel, by decide +kernel⟩
theorem ok_law_by_names (T : Txt K mg)  (hp : PureD p_law_by_names S_law_by_names 5 2) : Def P w K mg (Str.ofString "_law_by_names") [(Str.ofString "coupons"), (Str.ofString "names")] 1 S_law_by_names :=
  have sc := sc_law_by_names
  fnDef T.d_law_by_names (fun _ _ _ _ _ _ us hl => match us, hl with | [_, _], _ => rfl) sc hp (p := p_law_by_names) (fun base f cdv A outer s H E hr => (ss_cons (s_set (i := 2) sc.nd (QF.toE (f_lst qa_nil))) (ss_cons (s_for PassesOwn.never rfl (i_seq (q_var 1)) (g_name (i := 3) sc.nd) (ss_one (s_set (i := 2) sc.nd (q_op od_add (q_varO 2) (QF.toO (f_lc [((Str.ofString "coupon"), 4)] rfl sc.nd (i_seq (q_var 0)) (N0 := [(Str.ofString "coupons"), (Str.ofString "names"), (Str.ofString "found"), (Str.ofString "name"), (Str.ofString "coupon")]) (sc0 := defScope s_law_by_names) (by decide +kernel) rfl (fun _ _ _ _ _ => (v_name sc.nd (by decide))) (fun _ _ _ _ _ => (ts_one (t_cmp (od_eq hr.units) (QE.toO (q_ix (ixd (hu_of hr)) (q_varO 4) (QE.toO q_int))) (q_varO 3) (nomark _)))) (fun _ _ _ _ _ => (q_var 4)))))))) (ss_one (s_ret (q_var 2))))))

theorem ladder_law_same (T : Txt K mg) : Def P w K mg (Str.ofString "_law_same") [(Str.ofString "actual"), (Str.ofString "due")] 6 S_law_same := by
  have h0 : Def P w K mg (Str.ofString "_law_same") [(Str.ofString "actual"), (Str.ofString "due")] 0 (S_same 0) := Def.none T.d_law_same (fun _ _ _ _ _ _ us hl => match us, hl with | [_, _], _ => rfl)
  have up : ∀ n, Def P w K mg (Str.ofString "_law_same") [(Str.ofString "actual"), (Str.ofString "due")] n (S_same n) → Def P w K mg (Str.ofString "_law_same") [(Str.ofString "actual"), (Str.ofString "due")] (n + 1) (S_same (n + 1)) := fun n G => ok_law_same T n (by omega) G (pure_same1 n fun _ _ h => h)
  exact up 5 (up 4 (up 3 (up 2 (up 1 (up 0 h0)))))

theorem sc_law : FnScope [(Str.ofString "script"), (Str.ofString "pool"), (Str.ofString "coupons"), (Str.ofString "names"), (Str.ofString "row"), (Str.ofString "number"), (Str.ofString "parts"), (Str.ofString "turn"), (Str.ofString "before"), (Str.ofString "k"), (Str.ofString "low"), (Str.ofString "high"), (Str.ofString "drawn"), (Str.ofString "order"), (Str.ofString "off"), (Str.ofString "cut"), (Str.ofString "first"), (Str.ofString "second"), (Str.ofString "middle"), (Str.ofString "told"), (Str.ofString "few"), (Str.ofString "coupon")] [(Str.ofString "script")] (defScope s_law) := ⟨rfl, rfl, rfl, by decide +kernel, rfl, by decide +kernel, by decide +kernel⟩
theorem ok_law (T : Txt K mg) (g_pool : DefV P w K mg (Str.ofString "_law_pool") [(Str.ofString "script")] 3 (spPool K)) (g_law_same : Def P w K mg (Str.ofString "_law_same") [(Str.ofString "actual"), (Str.ofString "due")] 6 S_law_same) (g_used : Def P w K mg (Str.ofString "used") [(Str.ofString "coupons"), (Str.ofString "order"), (Str.ofString "price")] 4 S_used) (g_law_less : Def P w K mg (Str.ofString "_law_less") [(Str.ofString "one"), (Str.ofString "other")] 1 S_law_less) (g_law_run : Def P w K mg (Str.ofString "_law_run") [(Str.ofString "coupons"), (Str.ofString "price")] 5 S_law_run) (g_law_drawn : Def P w K mg (Str.ofString "_law_drawn") [(Str.ofString "pool"), (Str.ofString "items")] 4 S_law_drawn) (g_law_by_names : Def P w K mg (Str.ofString "_law_by_names") [(Str.ofString "coupons"), (Str.ofString "names")] 1 S_law_by_names) (g_best_few : Def P w K mg (Str.ofString "best_few") [(Str.ofString "coupons"), (Str.ofString "price"), (Str.ofString "k")] 6 S_best_few) (g_law_add : Def P w K mg (Str.ofString "_law_add") [(Str.ofString "one"), (Str.ofString "other")] 3 S_law_add) (g_law_mul : Def P w K mg (Str.ofString "_law_mul") [(Str.ofString "one"), (Str.ofString "other")] 3 S_law_mul) (g_joined : Def P w K mg (Str.ofString "joined") [(Str.ofString "coupons"), (Str.ofString "order")] 3 S_joined) (g_law_draw : Def P w K mg (Str.ofString "_law_draw") [(Str.ofString "pool"), (Str.ofString "limit")] 3 S_law_draw) (g_law_off : Def P w K mg (Str.ofString "_law_off") [(Str.ofString "coupons")] 4 S_law_off) (g_law_next : Def P w K mg (Str.ofString "_law_next") [(Str.ofString "pool")] 3 S_law_next) (g_law_pick : Def P w K mg (Str.ofString "_law_pick") [(Str.ofString "pool"), (Str.ofString "options")] 4 S_law_pick) (g_law_fraction : Def P w K mg (Str.ofString "_law_fraction") [(Str.ofString "pool"), (Str.ofString "most_v"), (Str.ofString "parts")] 4 S_law_fraction) (g_bounds : Def P w K mg (Str.ofString "bounds") [(Str.ofString "coupons")] 7 S_bounds) (g_best_order : Def P w K mg (Str.ofString "best_order") [(Str.ofString "coupons")] 6 S_best_order) (g_law_coupons : DefF P w K mg (Str.ofString "_law_coupons") [(Str.ofString "pool"), (Str.ofString "most_v")] 5 S_law_coupons) {fa : Addr} (hmg : mg (Str.ofString "law") = some (.ref fa)) :
    ∃ fd, (∀ (s : Shared) (u : Value), BindsTo s fd ⟨[u], []⟩ [((Str.ofString "script"), u)]) ∧ ∀ base : Heap, K.In base → base.Ns mainGlobals mg → FnOk P w K mg base CX0 8 fa fd [(Str.ofString "script")] (spLaw K) := by
  have sc := sc_law
  refine fnLaw T.d_law (fun _ _ _ _ _ _ _ _ => .of_eq rfl) sc (fun vs H Q E h => ?_) (fun base f cdv A outer s H vs Q E hr h => ?_) hmg
  · obtain ⟨a, ns, rfl, _⟩ := h
    rfl
  · obtain ⟨a, ns, rfl, hs, hl, q⟩ := h
    exact law_run (n := 20) (p := p_law) (ps_set (i := 1) sc.nd rfl (by first | exact Or.inl rfl | exact Or.inr rfl) (pe_callV g_pool (hr.mono (by decide)) (by rfl) (pa_cons (L2.pv 0) pa_nil)))
      ((ss_cons (s_set (i := 2) sc.nd (QF.toE (f_callD g_law_coupons (hr.mono (by decide)) (by rfl) (qa_cons (q_var 1) (qa_cons q_int qa_nil))))) (ss_cons (s_expr (q_callD g_law_next (hr.mono (by decide)) (by rfl) (qa_cons (q_var 1) qa_nil))) (ss_cons (s_set (i := 3) sc.nd (q_callD g_best_order (hr.mono (by decide)) (by rfl) (qa_cons (q_var 2) qa_nil))) (ss_cons (s_set (i := 4) sc.nd (q_callD g_law_by_names (hr.mono (by decide)) (by rfl) (qa_cons (q_var 2) (qa_cons (q_var 3) qa_nil)))) (ss_cons (s_asgT (q_callD g_bounds (hr.mono (by decide)) (by rfl) (qa_cons (q_var 2) qa_nil)) (g_tup rfl (gs_cons (g_name (i := 10) sc.nd) (gs_cons (g_name (i := 11) sc.nd) gs_nil)))) (ss_cons (s_if (t_or (t_cmp (od_ne hr.units) (QF.toO (f_callB (cdf_sorted rfl hr.units) (by rfl) T.b_sorted (by decide +kernel) (o_cons (q_varO 3) o_nil))) (QF.toO (f_callB (cdf_sorted rfl hr.units) (by rfl) T.b_sorted (by decide +kernel) (o_cons (QF.toO (f_lc [((Str.ofString "coupon"), 21)] rfl sc.nd (i_seq (q_var 2)) (N0 := [(Str.ofString "script"), (Str.ofString "pool"), (Str.ofString "coupons"), (Str.ofString "names"), (Str.ofString "row"), (Str.ofString "number"), (Str.ofString "parts"), (Str.ofString "turn"), (Str.ofString "before"), (Str.ofString "k"), (Str.ofString "low"), (Str.ofString "high"), (Str.ofString "drawn"), (Str.ofString "order"), (Str.ofString "off"), (Str.ofString "cut"), (Str.ofString "first"), (Str.ofString "second"), (Str.ofString "middle"), (Str.ofString "told"), (Str.ofString "few"), (Str.ofString "coupon")]) (sc0 := defScope s_law) (by decide +kernel) rfl (fun _ _ _ _ _ => (v_name sc.nd (by decide))) (fun _ _ _ _ _ => ts_nil) (fun _ _ _ _ _ => (q_ix (ixd (hu_of hr)) (q_varO 21) (QE.toO q_int))))) o_nil))) (nomark _)) (w_or (t_cmp (od_ne hr.units) (QE.toO (q_callD g_law_off (hr.mono (by decide)) (by rfl) (qa_cons (q_var 4) qa_nil))) (q_varO 11) (nomark _)) (w_or1 (t_cmp (od_ne hr.units) (QE.toO (q_callD g_law_off (hr.mono (by decide)) (by rfl) (qa_cons (QF.toE (f_rev (q_varO 4))) qa_nil))) (q_varO 10) (nomark _))))) (ss_one (s_ret q_bl)) ss_nil) (ss_cons (s_set (i := 5) sc.nd (q_callD g_law_pick (hr.mono (by decide)) (by rfl) (qa_cons (q_var 1) (qa_cons (QF.toE (f_lst (qa_cons (q_tup (qa_cons q_int (qa_cons q_int qa_nil))) (qa_cons (q_callD g_law_fraction (hr.mono (by decide)) (by rfl) (qa_cons (q_var 1) (qa_cons q_int (qa_cons q_int qa_nil)))) (qa_cons (q_callD g_law_fraction (hr.mono (by decide)) (by rfl) (qa_cons (q_var 1) (qa_cons q_int (qa_cons q_int qa_nil)))) qa_nil))))) qa_nil)))) (ss_cons (s_set (i := 6) sc.nd (q_ix (ixd (hu_of hr)) (QE.toO (q_callD g_joined (hr.mono (by decide)) (by rfl) (qa_cons (q_var 2) (qa_cons (q_var 3) qa_nil)))) (QE.toO q_int))) (ss_cons (s_for PassesOwn.never rfl (i_range1 (by rfl) T.b_range (qa_cons q_int qa_nil)) (g_name (i := 7) sc.nd) (ss_cons (s_expr (q_callD g_law_next (hr.mono (by decide)) (by rfl) (qa_cons (q_var 1) qa_nil))) (ss_cons (s_set (i := 12) sc.nd (q_callD g_law_drawn (hr.mono (by decide)) (by rfl) (qa_cons (q_var 1) (qa_cons (q_var 2) qa_nil)))) (ss_cons (s_setLc (i := 13) [((Str.ofString "coupon"), 21)] rfl sc.nd (i_seq (q_var 12)) (N0 := [(Str.ofString "script"), (Str.ofString "pool"), (Str.ofString "coupons"), (Str.ofString "names"), (Str.ofString "row"), (Str.ofString "number"), (Str.ofString "parts"), (Str.ofString "turn"), (Str.ofString "before"), (Str.ofString "k"), (Str.ofString "low"), (Str.ofString "high"), (Str.ofString "drawn"), (Str.ofString "order"), (Str.ofString "off"), (Str.ofString "cut"), (Str.ofString "first"), (Str.ofString "second"), (Str.ofString "middle"), (Str.ofString "told"), (Str.ofString "few"), (Str.ofString "coupon")]) (sc0 := defScope s_law) (by decide +kernel) rfl (fun _ _ _ _ _ => (v_name sc.nd (by decide))) (fun _ _ _ _ _ => ts_nil) (fun _ _ _ _ _ => (q_ix (ixd (hu_of hr)) (q_varO 21) (QE.toO q_int))) (sw_true rfl rfl rfl (by decide +kernel))) (ss_cons (s_set (i := 14) sc.nd (q_callD g_law_off (hr.mono (by decide)) (by rfl) (qa_cons (q_var 12) qa_nil))) (ss_cons (s_if (t_or (t_val (q_callD g_law_less (hr.mono (by decide)) (by rfl) (qa_cons (q_var 11) (qa_cons (q_var 14) qa_nil)))) (w_or (t_val (q_callD g_law_less (hr.mono (by decide)) (by rfl) (qa_cons (q_var 14) (qa_cons (q_var 10) qa_nil)))) (w_or1 (t_not (t_val (q_callD g_law_same (hr.mono (by decide)) (by rfl) (qa_cons (q_callD g_joined (hr.mono (by decide)) (by rfl) (qa_cons (q_var 2) (qa_cons (q_var 13) qa_nil))) (qa_cons (q_tup (qa_cons (q_var 6) (qa_cons (q_var 14) qa_nil))) qa_nil)))))))) (ss_one (s_ret q_bl)) ss_nil) (ss_cons (s_set (i := 15) sc.nd (q_callD g_law_draw (hr.mono (by decide)) (by rfl) (qa_cons (q_var 1) (qa_cons (q_op od_add (QE.toO (q_callB cd_len (by rfl) T.b_len (by decide +kernel) (o_cons (q_varO 13) o_nil))) (QE.toO q_int)) qa_nil)))) (ss_cons (s_set (i := 16) sc.nd (q_callD g_joined (hr.mono (by decide)) (by rfl) (qa_cons (q_var 2) (qa_cons (q_slice (q_varO 13) p_none (p_some (q_var 15))) qa_nil)))) (ss_cons (s_set (i := 17) sc.nd (q_callD g_joined (hr.mono (by decide)) (by rfl) (qa_cons (q_var 2) (qa_cons (q_slice (q_varO 13) (p_some (q_var 15)) p_none) qa_nil)))) (ss_cons (s_if (t_or (t_cmp (od_ne hr.units) (QE.toO (q_callD g_law_mul (hr.mono (by decide)) (by rfl) (qa_cons (q_ix (ixd (hu_of hr)) (q_varO 16) (QE.toO q_int)) (qa_cons (q_ix (ixd (hu_of hr)) (q_varO 17) (QE.toO q_int)) qa_nil)))) (q_varO 6) (nomark _)) (w_or1 (t_cmp (od_ne hr.units) (QE.toO (q_callD g_law_add (hr.mono (by decide)) (by rfl) (qa_cons (q_callD g_law_mul (hr.mono (by decide)) (by rfl) (qa_cons (q_ix (ixd (hu_of hr)) (q_varO 16) (QE.toO q_int)) (qa_cons (q_ix (ixd (hu_of hr)) (q_varO 17) (QE.toO q_int)) qa_nil))) (qa_cons (q_ix (ixd (hu_of hr)) (q_varO 17) (QE.toO q_int)) qa_nil)))) (q_varO 14) (nomark _)))) (ss_one (s_ret q_bl)) ss_nil) (ss_cons (s_set (i := 18) sc.nd (q_callD g_used (hr.mono (by decide)) (by rfl) (qa_cons (q_var 2) (qa_cons (q_slice (q_varO 13) p_none (p_some (q_var 15))) (qa_cons (q_var 5) qa_nil))))) (ss_one (s_if (t_not (t_val (q_callD g_law_same (hr.mono (by decide)) (by rfl) (qa_cons (q_callD g_used (hr.mono (by decide)) (by rfl) (qa_cons (q_var 2) (qa_cons (q_slice (q_varO 13) (p_some (q_var 15)) p_none) (qa_cons (q_var 18) qa_nil)))) (qa_cons (q_callD g_used (hr.mono (by decide)) (by rfl) (qa_cons (q_var 2) (qa_cons (q_var 13) (qa_cons (q_var 5) qa_nil)))) qa_nil))))) (ss_one (s_ret q_bl)) ss_nil))))))))))))) (ss_cons (s_set (i := 8) sc.nd q_non) (ss_cons (s_for PassesOwn.never rfl (i_range1 (by rfl) T.b_range (qa_cons (q_op od_add (QE.toO (q_callB cd_len (by rfl) T.b_len (by decide +kernel) (o_cons (q_varO 2) o_nil))) (QE.toO q_int)) qa_nil)) (g_name (i := 9) sc.nd) (ss_cons (s_set (i := 19) sc.nd (q_callD g_best_few (hr.mono (by decide)) (by rfl) (qa_cons (q_var 2) (qa_cons (q_var 5) (qa_cons (q_var 9) qa_nil))))) (ss_cons (s_if (t_and (t_cmp od_isNot (q_varO 8) (QE.toO q_non) (nomark _)) (w_and1 (t_val (q_callD g_law_less (hr.mono (by decide)) (by rfl) (qa_cons (q_var 8) (qa_cons (q_ix (ixd (hu_of hr)) (q_varO 19) (QE.toO q_int)) qa_nil)))))) (ss_one (s_ret q_bl)) ss_nil) (ss_cons (s_set (i := 8) sc.nd (q_ix (ixd (hu_of hr)) (q_varO 19) (QE.toO q_int))) (ss_cons (s_if (t_or (t_cmp od_gt (QE.toO (q_callB cd_len (by rfl) T.b_len (by decide +kernel) (o_cons (QE.toO (q_ix (ixd (hu_of hr)) (q_varO 19) (QE.toO q_int))) o_nil))) (q_varO 9) (nomark _)) (w_or1 (t_cmp (od_ne hr.units) (QE.toO (q_callD g_law_run (hr.mono (by decide)) (by rfl) (qa_cons (q_callD g_law_by_names (hr.mono (by decide)) (by rfl) (qa_cons (q_var 2) (qa_cons (q_ix (ixd (hu_of hr)) (q_varO 19) (QE.toO q_int)) qa_nil))) (qa_cons (q_var 5) qa_nil)))) (QE.toO (q_ix (ixd (hu_of hr)) (q_varO 19) (QE.toO q_int))) (nomark _)))) (ss_one (s_ret q_bl)) ss_nil) (ss_cons (s_set (i := 20) sc.nd (q_slice (QE.toO (q_callD g_law_drawn (hr.mono (by decide)) (by rfl) (qa_cons (q_var 1) (qa_cons (q_var 2) qa_nil)))) p_none (p_some (q_var 9)))) (ss_one (s_if (t_val (q_callD g_law_less (hr.mono (by decide)) (by rfl) (qa_cons (q_callD g_law_run (hr.mono (by decide)) (by rfl) (qa_cons (q_var 20) (qa_cons (q_var 5) qa_nil))) (qa_cons (q_ix (ixd (hu_of hr)) (q_varO 19) (QE.toO q_int)) qa_nil)))) (ss_one (s_ret q_bl)) ss_nil)))))))) (ss_one (s_ret (q_callD g_law_same (hr.mono (by decide)) (by rfl) (qa_cons (q_var 8) (qa_cons (q_callD g_used (hr.mono (by decide)) (by rfl) (qa_cons (q_var 2) (qa_cons (q_var 3) (qa_cons (q_var 5) qa_nil)))) qa_nil))))))))))))))))) hs q pure_law
theorem all (T : Txt K mg) {fa : Addr} (hmg : mg (Str.ofString "law") = some (.ref fa)) :
    ∃ fd, (∀ (s : Shared) (u : Value), BindsTo s fd ⟨[u], []⟩ [((Str.ofString "script"), u)]) ∧ ∀ base : Heap, K.In base → base.Ns mainGlobals mg → FnOk P w K mg base CX0 8 fa fd [(Str.ofString "script")] (spLaw K) := by
  have g_law_mixed := ok_law_mixed (P := P) (w := w) T
  have g_law_rest := ok_law_rest T g_law_mixed
  have g_law_pool := ok_law_pool T g_law_rest
  have g_law_next := ok_law_next T g_law_rest
  have g_law_draw := ok_law_draw T g_law_rest
  have g_law_same := ladder_law_same (P := P) (w := w) T 
  have g_by_name := ok_by_name (P := P) (w := w) T  pure_by_name
  have g_checked := ok_checked (P := P) (w := w) T g_by_name pure_checked
  have g_less := ok_less (P := P) (w := w) T  pure_less
  have g_most := ok_most (P := P) (w := w) T g_less pure_most
  have g_frac := ok_frac (P := P) (w := w) T  pure_frac
  have g_minus := ok_minus (P := P) (w := w) T g_frac pure_minus
  have g_times := ok_times (P := P) (w := w) T g_frac pure_times
  have g_made := ok_made (P := P) (w := w) T g_most g_minus g_times pure_made
  have g_used := ok_used (P := P) (w := w) T g_checked g_made pure_used
  have g_law_less := ok_law_less (P := P) (w := w) T  pure_law_less
  have g_law_gcd := ok_law_gcd (P := P) (w := w) T  pure_law_gcd
  have g_law_ratio := ok_law_ratio (P := P) (w := w) T g_law_gcd pure_law_ratio
  have g_law_sub := ok_law_sub (P := P) (w := w) T g_law_ratio pure_law_sub
  have g_law_mul := ok_law_mul (P := P) (w := w) T g_law_ratio pure_law_mul
  have g_law_made := ok_law_made (P := P) (w := w) T g_law_sub g_law_mul pure_law_made
  have g_law_run := ok_law_run (P := P) (w := w) T g_law_made pure_law_run
  have g_law_drawn := ok_law_drawn (P := P) (w := w) T g_law_draw pure_law_drawn
  have g_law_by_names := ok_law_by_names (P := P) (w := w) T  pure_law_by_names
  have g_traced := ok_traced (P := P) (w := w) T  pure_traced
  have g_least := ok_least (P := P) (w := w) T g_less pure_least
  have g_smaller := ok_smaller (P := P) (w := w) T g_least pure_smaller
  have g_few_table := ok_few_table (P := P) (w := w) T g_smaller g_made pure_few_table
  have g_weights := ok_weights (P := P) (w := w) T g_times g_minus pure_weights
  have g_in_good_order := ok_in_good_order (P := P) (w := w) T g_less g_weights pure_in_good_order
  have g_sorted_in := ok_sorted_in (P := P) (w := w) T g_in_good_order pure_sorted_in
  have g_best_few := ok_best_few (P := P) (w := w) T g_traced g_less g_few_table g_sorted_in g_by_name pure_best_few
  have g_law_add := ok_law_add (P := P) (w := w) T g_law_ratio pure_law_add
  have g_plus := ok_plus (P := P) (w := w) T g_frac pure_plus
  have g_joined := ok_joined (P := P) (w := w) T g_checked g_plus g_times pure_joined
  have g_law_off := ok_law_off (P := P) (w := w) T g_law_add g_law_mul pure_law_off
  have g_law_pick := ok_law_pick (P := P) (w := w) T g_law_draw pure_law_pick
  have g_law_fraction := ok_law_fraction (P := P) (w := w) T g_law_ratio g_law_draw pure_law_fraction
  have g_best_order := ok_best_order (P := P) (w := w) T g_sorted_in g_by_name pure_best_order
  have g_bounds := ok_bounds (P := P) (w := w) T g_joined g_best_order pure_bounds
  have g_law_turned := ok_law_turned (P := P) (w := w) T g_law_draw pure_law_turned
  have g_law_coupons := ok_law_coupons (P := P) (w := w) T g_law_turned g_law_draw g_law_pick g_law_fraction g_law_ratio pure_law_coupons
  exact ok_law T g_law_pool g_law_same g_used g_law_less g_law_run g_law_drawn g_law_by_names g_best_few g_law_add g_law_mul g_joined g_law_draw g_law_off g_law_next g_law_pick g_law_fraction g_bounds g_best_order g_law_coupons hmg
end
end K14

open PySem PySem.W PyProof.Rows
set_option maxHeartbeats 0 in
theorem PySem.Challenge.cw_pairsave_k14_whole_long_orders_holds : PySem.Challenge.rw_pairsave_k14_whole_long_orders.Holds := by
  w_on
  o_law
  k_head
  (case hw => w_witness2)
  k_fill
  refine L2.walk_of (l := PySem.Challenge.rw_pairsave_k14_whole_long_orders) (n := 63) (k := 8) (x := (Str.ofString "script")) (CX := fun _ => L2.CX0) (sp := fun w => DL.spLaw _) rfl (by decide) rfl ⟨rfl, by decide, by decide⟩ (fun w h Y => PySem.W.kIn_of Y) ?F (fun _ _ a ns hl _ hS => ⟨a, ns, rfl, hS, hl, fun _ => rfl⟩) (fun _ _ _ _ _ h => h)
  case F =>
    intro w mg fa h KX G hmg
    refine K14.all ?T hmg
    case T =>
      refine K14.Txt.mk ?t0 ?t1 ?t2 ?t3 ?t4 ?t5 ?t6 ?t7 ?t8 ?t9 ?t10 ?t11 ?t12 ?t13 ?t14 ?t15 ?t16 ?t17 ?t18 ?t19 ?t20 ?t21 ?t22 ?t23 ?t24 ?t25 ?t26 ?t27 ?t28 ?t29 ?t30 ?t31 ?t32 ?t33 ?t34 ?t35 ?t36 ?t37 ?t38 ?t39 ?t40 ?t41 ?t42 ?t43 ?t44 ?t45 ?t46 ?t47 ?t48 ?t49 ?t50 ?t51 ?t52 ?t53 ?t54 ?t55 ?t56 ?t57
      (case t0 => refine' DL.fun_at KX G ?a ?l ?c ?k; (case a => k_is); (case l => k_is); (case c => k_is); (case k => k_is))
      (case t1 => refine' DL.fun_at KX G ?a ?l ?c ?k; (case a => k_is); (case l => k_is); (case c => k_is); (case k => k_is))
      (case t2 => refine' DL.fun_at KX G ?a ?l ?c ?k; (case a => k_is); (case l => k_is); (case c => k_is); (case k => k_is))
      (case t3 => refine' DL.fun_at KX G ?a ?l ?c ?k; (case a => k_is); (case l => k_is); (case c => k_is); (case k => k_is))
      (case t4 => refine' DL.fun_at KX G ?a ?l ?c ?k; (case a => k_is); (case l => k_is); (case c => k_is); (case k => k_is))
      (case t5 => refine' DL.fun_at KX G ?a ?l ?c ?k; (case a => k_is); (case l => k_is); (case c => k_is); (case k => k_is))
      (case t6 => refine' DL.fun_at KX G ?a ?l ?c ?k; (case a => k_is); (case l => k_is); (case c => k_is); (case k => k_is))
      (case t7 => refine' DL.fun_at KX G ?a ?l ?c ?k; (case a => k_is); (case l => k_is); (case c => k_is); (case k => k_is))
      (case t8 => refine' DL.fun_at KX G ?a ?l ?c ?k; (case a => k_is); (case l => k_is); (case c => k_is); (case k => k_is))
      (case t9 => refine' DL.fun_at KX G ?a ?l ?c ?k; (case a => k_is); (case l => k_is); (case c => k_is); (case k => k_is))
      (case t10 => refine' DL.fun_at KX G ?a ?l ?c ?k; (case a => k_is); (case l => k_is); (case c => k_is); (case k => k_is))
      (case t11 => refine' DL.fun_at KX G ?a ?l ?c ?k; (case a => k_is); (case l => k_is); (case c => k_is); (case k => k_is))
      (case t12 => refine' DL.fun_at KX G ?a ?l ?c ?k; (case a => k_is); (case l => k_is); (case c => k_is); (case k => k_is))
      (case t13 => refine' DL.fun_at KX G ?a ?l ?c ?k; (case a => k_is); (case l => k_is); (case c => k_is); (case k => k_is))
      (case t14 => refine' DL.fun_at KX G ?a ?l ?c ?k; (case a => k_is); (case l => k_is); (case c => k_is); (case k => k_is))
      (case t15 => refine' DL.fun_at KX G ?a ?l ?c ?k; (case a => k_is); (case l => k_is); (case c => k_is); (case k => k_is))
      (case t16 => refine' DL.fun_at KX G ?a ?l ?c ?k; (case a => k_is); (case l => k_is); (case c => k_is); (case k => k_is))
      (case t17 => refine' DL.fun_at KX G ?a ?l ?c ?k; (case a => k_is); (case l => k_is); (case c => k_is); (case k => k_is))
      (case t18 => refine' DL.fun_at KX G ?a ?l ?c ?k; (case a => k_is); (case l => k_is); (case c => k_is); (case k => k_is))
      (case t19 => refine' DL.fun_at KX G ?a ?l ?c ?k; (case a => k_is); (case l => k_is); (case c => k_is); (case k => k_is))
      (case t20 => refine' DL.fun_at KX G ?a ?l ?c ?k; (case a => k_is); (case l => k_is); (case c => k_is); (case k => k_is))
      (case t21 => refine' DL.fun_at KX G ?a ?l ?c ?k; (case a => k_is); (case l => k_is); (case c => k_is); (case k => k_is))
      (case t22 => refine' DL.fun_at KX G ?a ?l ?c ?k; (case a => k_is); (case l => k_is); (case c => k_is); (case k => k_is))
      (case t23 => refine' DL.fun_at KX G ?a ?l ?c ?k; (case a => k_is); (case l => k_is); (case c => k_is); (case k => k_is))
      (case t24 => refine' DL.fun_at KX G ?a ?l ?c ?k; (case a => k_is); (case l => k_is); (case c => k_is); (case k => k_is))
      (case t25 => refine' DL.fun_at KX G ?a ?l ?c ?k; (case a => k_is); (case l => k_is); (case c => k_is); (case k => k_is))
      (case t26 => refine' DL.fun_at KX G ?a ?l ?c ?k; (case a => k_is); (case l => k_is); (case c => k_is); (case k => k_is))
      (case t27 => refine' DL.fun_at KX G ?a ?l ?c ?k; (case a => k_is); (case l => k_is); (case c => k_is); (case k => k_is))
      (case t28 => refine' DL.fun_at KX G ?a ?l ?c ?k; (case a => k_is); (case l => k_is); (case c => k_is); (case k => k_is))
      (case t29 => refine' DL.fun_at KX G ?a ?l ?c ?k; (case a => k_is); (case l => k_is); (case c => k_is); (case k => k_is))
      (case t30 => refine' DL.fun_at KX G ?a ?l ?c ?k; (case a => k_is); (case l => k_is); (case c => k_is); (case k => k_is))
      (case t31 => refine' DL.fun_at KX G ?a ?l ?c ?k; (case a => k_is); (case l => k_is); (case c => k_is); (case k => k_is))
      (case t32 => refine' DL.fun_at KX G ?a ?l ?c ?k; (case a => k_is); (case l => k_is); (case c => k_is); (case k => k_is))
      (case t33 => refine' DL.fun_at KX G ?a ?l ?c ?k; (case a => k_is); (case l => k_is); (case c => k_is); (case k => k_is))
      (case t34 => refine' DL.fun_at KX G ?a ?l ?c ?k; (case a => k_is); (case l => k_is); (case c => k_is); (case k => k_is))
      (case t35 => refine' DL.fun_at KX G ?a ?l ?c ?k; (case a => k_is); (case l => k_is); (case c => k_is); (case k => k_is))
      (case t36 => refine' DL.fun_at KX G ?a ?l ?c ?k; (case a => k_is); (case l => k_is); (case c => k_is); (case k => k_is))
      (case t37 => refine' DL.fun_at KX G ?a ?l ?c ?k; (case a => k_is); (case l => k_is); (case c => k_is); (case k => k_is))
      (case t38 => refine' DL.fun_at KX G ?a ?l ?c ?k; (case a => k_is); (case l => k_is); (case c => k_is); (case k => k_is))
      (case t39 => refine' DL.fun_at KX G ?a ?l ?c ?k; (case a => k_is); (case l => k_is); (case c => k_is); (case k => k_is))
      (case t40 => refine' DL.fun_at KX G ?a ?l ?c ?k; (case a => k_is); (case l => k_is); (case c => k_is); (case k => k_is))
      (case t41 => refine' DL.fun_at KX G ?a ?l ?c ?k; (case a => k_is); (case l => k_is); (case c => k_is); (case k => k_is))
      (case t42 => refine' DL.fun_at KX G ?a ?l ?c ?k; (case a => k_is); (case l => k_is); (case c => k_is); (case k => k_is))
      (case t43 => refine PySem.W.mg_none_of KX G ?z; (case z => k_is))
      (case t44 => refine PySem.W.mg_none_of KX G ?z; (case z => k_is))
      (case t45 => refine PySem.W.mg_none_of KX G ?z; (case z => k_is))
      (case t46 => refine PySem.W.mg_of KX G ?z; (case z => k_is))
      (case t47 => refine PySem.W.mg_none_of KX G ?z; (case z => k_is))
      (case t48 => refine PySem.W.mg_none_of KX G ?z; (case z => k_is))
      (case t49 => refine PySem.W.mg_none_of KX G ?z; (case z => k_is))
      (case t50 => refine PySem.W.mg_none_of KX G ?z; (case z => k_is))
      (case t51 => refine PySem.W.mg_none_of KX G ?z; (case z => k_is))
      (case t52 => refine PySem.W.mg_none_of KX G ?z; (case z => k_is))
      (case t53 => refine PySem.W.mg_none_of KX G ?z; (case z => k_is))
      (case t54 => refine PySem.W.mg_none_of KX G ?z; (case z => k_is))
      (case t55 => refine PySem.W.mg_none_of KX G ?z; (case z => k_is))
      (case t56 => refine' DL.glob_pair KX G ?a ?l; (case a => k_is); (case l => k_is))
      (case t57 => refine' DL.glob_pair KX G ?a ?l; (case a => k_is); (case l => k_is))

