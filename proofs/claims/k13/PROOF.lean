import PyProof.Rows.All
import Wide.All
import OpenK.AllK
import Wide.FinOn
import KE.KStateDown
import HandS.ForMost
import HandS.Exc
import HandS.TryOnly
import HandS.TryMany
import HandS.ExcOwn
import HandS.ExcInit
import HandS.ExcSuper
import HandS.ExcField
import HandS.WordsExc
import HandS.Defaults
import HandS.CallSlots
import HandS.IsInst
import HandS.Zip
import HandS.Flow
import HandS.Style
import HandS.Deep
import HandS.TupMul
import HandS.TupAny
import HandS.Conv
import HandS.Evl
import HandS.Head0
import HandS.Head1
import HandS.Head2
import HandS.HeadEnd
import HandS.HeadHook1
import HandS.HeadHook2
import HandS.Wide
import HandS.HeadHook4
import KE.KIndexOf
import KE.DataAny
import PyProof.InstNe
import KE.KExcSuper
import HandS.ExcIs
import KE.KExcIs
import HandS.GenList
import HandS.GenYield
import PyProof.TupleOfGen
import PySem.Challenge.RW_wittspaces_k13_refused_forms
set_option Elab.async false
set_option linter.all false
set_option maxRecDepth 100000
set_option maxHeartbeats 4000000
/-! plain data and what a slot holds; by its own author for this project -/
namespace Dn
open PySem L2

inductive D where
  | non | bl (b : Bool) | int (i : Int) | str (s : Str) | tup (xs : List D) | lst (xs : List D) | ins (c : Nat) (xs : List D) | scr (ns : List Int)
structure Xn where
  c : Nat
  xs : List D
inductive Sl where
  | un | vl (d : D) | ow (xs : List D) | st (xs : List D) | nw (c : Nat) (xs : List D) | mx (rows : List (List D))
abbrev Sto := List Sl
inductive Out (α : Type) where
  | ok (a : α) (E : Sto) | ex (x : Xn) (E : Sto) | bad
abbrev Se := Sto → Out D
abbrev SeL := Sto → Out (List D)
abbrev SeB := Sto → Out Bool

def clsName : Nat → Str
  | 0 => "Field" | 1 => "Space" | 2 => "Isometry" | 3 => "Clifford" | 4 => "Reply" | _ => "Console"
def clsFlds : Nat → List Str
  | 0 => ["q", "p"] | 1 => ["kind", "q", "n", "matrix", "field", "_gram"] | 2 => ["space", "matrix"] | 3 => ["space", "size", "_left"]
  | 4 => ["kind", "text", "data"] | _ => ["_most", "_names", "_entries"]

/-- a tuple without a dict: laid by the call, or of the written part -/
def TupAt (K : PySem.W.Frag) (F : Hp) (a : Addr) (xs : List V) : Prop :=
  (∃ ob, F a = some (.frz ob (.tup xs)) ∧ ob.dict = none) ∨ ∃ (o : Obj) (its : Array Value) (n : Nat), K.lookup a = some o ∧ o.cls = .type "tuple" ∧ o.dict = none ∧ o.data = .seq its n ∧ its.size ≤ sizeLine ∧ Vals xs its.toList
theorem TupAt.new {K : PySem.W.Frag} {F : Hp} {a : Addr} {xs : List V} {ob : Obj} (h : ob.dict = none) : TupAt K (upd F a (.frz ob (.tup xs))) a xs := .inl ⟨ob, upd_same, h⟩
theorem TupAt.sq {K : PySem.W.Frag} {F : Hp} {a : Addr} {xs : List V} (h : TupAt K F a xs) : SqT K F a xs := by
  rcases h with ⟨ob, h, _⟩ | ⟨o, its, n, h1, h2, _, h3⟩
  · exact .inl (.inr ⟨ob, h⟩)
  · exact .inr ⟨o, its, n, h1, h2, h3⟩
theorem TupAt.mono {K : PySem.W.Frag} {F F' : Hp} {a : Addr} {xs : List V} (s : Same F F') (h : TupAt K F a xs) : TupAt K F' a xs := h.imp (fun ⟨ob, e, d⟩ => ⟨ob, s _ _ e, d⟩) fun z => z
theorem TupAt.ty {K : PySem.W.Frag} {F : Hp} {a : Addr} {xs : List V} (h : TupAt K F a xs) : TyX K F (.ref a) (.type "tuple") := by
  rcases h with ⟨ob, h, _⟩ | ⟨o, its, n, h1, h2, _⟩
  · exact .fTuple h
  · exact .kTuple h1 h2
mutual
def Rep (K : PySem.W.Frag) (F : Hp) : D → V → Prop
  | .non, v => v = .non
  | .bl b, v => v = .bl b
  | .int i, v => v = .int i
  | .str s, v => v = .str s
  | .tup ds, v => ∃ a vs, v = .ref a ∧ TupAt K F a vs ∧ RepL K F ds vs
  | .lst ds, v => ∃ a vs, v = .ref a ∧ F a = some (.lst vs) ∧ RepL K F ds vs
  | .scr ns, v => ∃ a, v = .ref a ∧ SqL K F a (ns.map V.int)
  | .ins c ds, v => ∃ a dx vs, v = .ref a ∧ F a = some (.ins (He.ga K (clsName c)) dx ((clsFlds c).zip vs)) ∧ vs.length = (clsFlds c).length ∧ RepL K F ds vs
def RepL (K : PySem.W.Frag) (F : Hp) : List D → List V → Prop
  | [], vs => vs = []
  | d :: ds, vs => ∃ v ws, vs = v :: ws ∧ Rep K F d v ∧ RepL K F ds ws
end

theorem seqT {K : PySem.W.Frag} {F F' : Hp} {a : Addr} {vs : List V} (s : Same F F') (h : SqT K F a vs) : SqT K F' a vs := Evl.ex_t s h
theorem seqL {K : PySem.W.Frag} {F F' : Hp} {a : Addr} {vs : List V} (s : Same F F') (h : SqL K F a vs) : SqL K F' a vs := Evl.ex_l s h

mutual
theorem Rep.mono {K : PySem.W.Frag} {F F' : Hp} (s : Same F F') : ∀ (d : D) (v : V), Rep K F d v → Rep K F' d v
  | .non, v, h => by simpa [Rep] using h
  | .bl b, v, h => by simpa [Rep] using h
  | .int i, v, h => by simpa [Rep] using h
  | .str x, v, h => by simpa [Rep] using h
  | .tup ds, v, h => by
    simp only [Rep] at h ⊢
    obtain ⟨a, vs, e, h1, h2⟩ := h
    exact ⟨a, vs, e, TupAt.mono s h1, RepL.mono s ds vs h2⟩
  | .lst ds, v, h => by
    simp only [Rep] at h ⊢
    obtain ⟨a, vs, e, h1, h2⟩ := h
    exact ⟨a, vs, e, s _ _ h1, RepL.mono s ds vs h2⟩
  | .scr ns, v, h => by
    simp only [Rep] at h ⊢
    obtain ⟨a, e, h1⟩ := h
    exact ⟨a, e, seqL s h1⟩
  | .ins c ds, v, h => by
    simp only [Rep] at h ⊢
    obtain ⟨a, dx, vs, e, h1, h3, h2⟩ := h
    exact ⟨a, dx, vs, e, s _ _ h1, h3, RepL.mono s ds vs h2⟩
theorem RepL.mono {K : PySem.W.Frag} {F F' : Hp} (s : Same F F') : ∀ (ds : List D) (vs : List V), RepL K F ds vs → RepL K F' ds vs
  | [], vs, h => by simpa [RepL] using h
  | d :: ds, vs, h => by
    simp only [RepL] at h ⊢
    obtain ⟨v, ws, e, h1, h2⟩ := h
    exact ⟨v, ws, e, Rep.mono s d v h1, RepL.mono s ds ws h2⟩
end
section
variable {K : PySem.W.Frag} {F F' H H' H1 : Hp}
theorem RepL.nil : RepL K F [] [] := by simp [RepL]
theorem RepL.cons {d : D} {v : V} {ds : List D} {vs : List V} (h : Rep K F d v) (t : RepL K F ds vs) : RepL K F (d :: ds) (v :: vs) := by
  simp only [RepL]
  exact ⟨v, vs, rfl, h, t⟩
theorem RepL.length : ∀ {ds : List D} {vs : List V}, RepL K F ds vs → ds.length = vs.length
  | [], vs, h => by simp only [RepL] at h; simp [h]
  | d :: ds, vs, h => by
    simp only [RepL] at h
    obtain ⟨v, ws, e, _, h2⟩ := h
    subst e
    simp [RepL.length h2]
theorem RepL.get : ∀ {ds : List D} {vs : List V} {i : Nat} {d : D}, RepL K F ds vs → ds[i]? = some d → ∃ v, vs[i]? = some v ∧ Rep K F d v
  | [], vs, i, d, h, e => by simp at e
  | d :: ds, vs, 0, d', h, e => by
    simp only [RepL] at h
    obtain ⟨v, ws, e1, h1, h2⟩ := h
    subst e1
    simp at e
    subst e
    exact ⟨v, by simp, h1⟩
  | d :: ds, vs, i + 1, d', h, e => by
    simp only [RepL] at h
    obtain ⟨v, ws, e1, h1, h2⟩ := h
    subst e1
    simpa using RepL.get (i := i) (d := d') h2 (by simpa using e)
theorem RepL.getV : ∀ {ds : List D} {vs : List V} {i : Nat} {v : V}, RepL K F ds vs → vs[i]? = some v → ∃ d, ds[i]? = some d ∧ Rep K F d v
  | [], vs, i, d, h, e => by
    simp only [RepL] at h
    subst h
    simp at e
  | d :: ds, vs, 0, d', h, e => by
    simp only [RepL] at h
    obtain ⟨v, ws, e1, h1, h2⟩ := h
    subst e1
    simp at e
    subst e
    exact ⟨d, by simp, h1⟩
  | d :: ds, vs, i + 1, d', h, e => by
    simp only [RepL] at h
    obtain ⟨v, ws, e1, h1, h2⟩ := h
    subst e1
    simpa using RepL.getV (i := i) (v := d') h2 (by simpa using e)
theorem RepL.append : ∀ {ds es : List D} {vs ws : List V}, RepL K F ds vs → RepL K F es ws → RepL K F (ds ++ es) (vs ++ ws)
  | [], es, vs, ws, h, t => by
    simp only [RepL] at h
    subst h
    exact t
  | d :: ds, es, vs, ws, h, t => by
    simp only [RepL] at h
    obtain ⟨v, us, e1, h1, h2⟩ := h
    subst e1
    exact RepL.cons h1 (RepL.append h2 t)
theorem RepL.set : ∀ {ds : List D} {vs : List V} (i : Nat) {d : D} {v : V}, RepL K F ds vs → Rep K F d v → RepL K F (ds.set i d) (vs.set i v)
  | [], vs, i, d, v, h, t => by
    simp only [RepL] at h
    subst h
    simp [RepL]
  | d :: ds, vs, 0, d', v', h, t => by
    simp only [RepL] at h
    obtain ⟨v, us, e1, h1, h2⟩ := h
    subst e1
    exact RepL.cons t h2
  | d :: ds, vs, i + 1, d', v', h, t => by
    simp only [RepL] at h
    obtain ⟨v, us, e1, h1, h2⟩ := h
    subst e1
    exact RepL.cons h1 (RepL.set i h2 t)
theorem RepL.take : ∀ {ds : List D} {vs : List V} (i : Nat), RepL K F ds vs → RepL K F (ds.take i) (vs.take i)
  | [], vs, i, h => by
    simp only [RepL] at h
    subst h
    simp [RepL]
  | d :: ds, vs, 0, h => by simp [RepL]
  | d :: ds, vs, i + 1, h => by
    simp only [RepL] at h
    obtain ⟨v, us, e1, h1, h2⟩ := h
    subst e1
    exact RepL.cons h1 (RepL.take i h2)
theorem RepL.drop : ∀ {ds : List D} {vs : List V} (i : Nat), RepL K F ds vs → RepL K F (ds.drop i) (vs.drop i)
  | [], vs, i, h => by
    simp only [RepL] at h
    subst h
    simp [RepL]
  | d :: ds, vs, 0, h => h
  | d :: ds, vs, i + 1, h => by
    simp only [RepL] at h
    obtain ⟨v, us, e1, h1, h2⟩ := h
    subst e1
    exact RepL.drop i h2
theorem RepL.eraseIdx : ∀ {ds : List D} {vs : List V} (i : Nat), RepL K F ds vs → RepL K F (ds.eraseIdx i) (vs.eraseIdx i)
  | [], vs, i, h => by
    simp only [RepL] at h
    subst h
    simp [RepL]
  | d :: ds, vs, 0, h => by
    simp only [RepL] at h
    obtain ⟨v, us, e1, h1, h2⟩ := h
    subst e1
    exact h2
  | d :: ds, vs, i + 1, h => by
    simp only [RepL] at h
    obtain ⟨v, us, e1, h1, h2⟩ := h
    subst e1
    exact RepL.cons h1 (RepL.eraseIdx i h2)
theorem RepL.replicate {d : D} {v : V} (h : Rep K F d v) : ∀ n, RepL K F (List.replicate n d) (List.replicate n v)
  | 0 => RepL.nil
  | n + 1 => RepL.cons h (RepL.replicate h n)
theorem RepL.snoc {d : D} {v : V} {ds : List D} {vs : List V} (h : RepL K F ds vs) (t : Rep K F d v) : RepL K F (ds ++ [d]) (vs ++ [v]) := h.append (.cons t .nil)

/-! ### slots -/
def SlotRel (K : PySem.W.Frag) (F H : Hp) : Sl → Option (Option V) → Prop
  | .un, _ => True
  | .vl d, o => ∃ v, o = some (some v) ∧ Rep K F d v
  | .ow ds, o => ∃ p vs, o = some (some (.ref p)) ∧ H p = some (.lst vs) ∧ F p = none ∧ RepL K F ds vs
  | .st ds, o => ∃ p vs, o = some (some (.ref p)) ∧ H p = some (.lst vs) ∧ F p = none ∧ RepL K F ds vs
  | .nw c ds, o => ∃ x dx vs, o = some (some (.ref x)) ∧ H x = some (.ins (He.ga K (clsName c)) dx ((clsFlds c).zip vs)) ∧ F x = none ∧ RepL K F ds vs
  | .mx rows, o => ∃ (q : Addr) (ps : List Addr), o = some (some (.ref q)) ∧ H q = some (.lst (ps.map V.ref)) ∧ F q = none ∧ ps.Nodup ∧ q ∉ ps ∧ ps.length = rows.length ∧
      ∀ (k : Nat) (p : Addr) (r : List D), ps[k]? = some p → rows[k]? = some r → F p = none ∧ ∃ vs, H p = some (.lst vs) ∧ RepL K F r vs
def Own (H : Hp) (σ : St) (E : Sto) (i : Nat) (p : Addr) : Prop := match E[i]? with
  | some (.ow _) => σ[i]? = some (some (.ref p))
  | some (.st _) => σ[i]? = some (some (.ref p))
  | some (.nw _ _) => σ[i]? = some (some (.ref p))
  | some (.mx _) => ∃ (q : Addr) (ps : List Addr), σ[i]? = some (some (.ref q)) ∧ H q = some (.lst (ps.map V.ref)) ∧ (p = q ∨ p ∈ ps)
  | _ => False
/-- where a def was entered: the frozen part, the heap, what may be changed all the same -/
structure E0 where
  F : Hp
  H : Hp
  M : Addr → Prop
/-- lent: the caller's own -/
def Bor (o : Option Sl) : Prop := (∃ xs, o = some (.st xs)) ∨ ∃ c xs, o = some (.nw c xs)
structure SI (K : PySem.W.Frag) (e0 : E0) (F H : Hp) (σ : St) (E : Sto) : Prop where
  len : σ.length = E.length
  sub : Same F H
  rel : ∀ (i : Nat) (s : Sl), E[i]? = some s → SlotRel K F H s σ[i]?
  apart : ∀ i j p, Own H σ E i p → Own H σ E j p → i = j
  f0 : Same e0.F F
  h0 : ∀ b o, e0.H b = some o → ¬ e0.M b → H b = some o
  nf : ∀ b, e0.H b ≠ none → e0.F b = none → F b = none
  ow : ∀ i p, Own H σ E i p → (e0.H p = none ∧ ¬ Bor E[i]?) ∨ (e0.M p ∧ Bor E[i]?)
  dm : ∀ b, e0.H b ≠ none → H b ≠ none
structure Grow (σ : St) (E : Sto) (F H : Hp) (E' : Sto) (F' H' : Hp) : Prop where
  sF : Same F F'
  keep : ∀ b o, H b = some o → (∀ i, ¬ Own H σ E i b) → H' b = some o
  nf : ∀ b, H b ≠ none → F b = none → (∀ i, ¬ Own H σ E i b) → F' b = none
  dm : ∀ b, H b ≠ none → H' b ≠ none
  own : ∀ i p, Own H' σ E' i p → Own H σ E i p
theorem Same.refl' : Same F F := fun _ _ h => h
theorem Same.tr {F1 F2 F3 : Hp} (a : Same F1 F2) (b : Same F2 F3) : Same F1 F3 := fun x o h => b x o (a x o h)
theorem Same.tr0 : True := trivial
theorem Grow.refl {σ : St} {E : Sto} : Grow σ E F H E F H := ⟨fun _ _ h => h, fun _ _ h _ => h, fun _ _ h _ => h, fun _ h => h, fun _ _ h => h⟩
theorem Grow.trans {σ : St} {E1 E2 E3 : Sto} {F1 F2 F3 H1 H2 H3 : Hp} (a : Grow σ E1 F1 H1 E2 F2 H2) (b : Grow σ E2 F2 H2 E3 F3 H3) : Grow σ E1 F1 H1 E3 F3 H3 :=
  ⟨Same.tr a.sF b.sF, fun x o h n => b.keep x o (a.keep x o h n) fun i q => n i (a.own i x q), fun x h f n => b.nf x (a.dm x h) (a.nf x h f n) fun i q => n i (a.own i x q), fun x h => b.dm x (a.dm x h), fun i p q => a.own i p (b.own i p q)⟩
/-- something new is laid; nothing else changes -/
structure Alloc (F H F' H' : Hp) : Prop where
  sF : Same F F'
  sH : Same H H'
  sub : Same F' H'
  nf : ∀ b, H b ≠ none → F b = none → F' b = none
theorem Alloc.refl (h : Same F H) : Alloc F H F H := ⟨fun _ _ h => h, fun _ _ h => h, h, fun _ _ h => h⟩
theorem Alloc.trans {F1 F2 F3 H1 H2 H3 : Hp} (a : Alloc F1 H1 F2 H2) (b : Alloc F2 H2 F3 H3) : Alloc F1 H1 F3 H3 :=
  ⟨Same.tr a.sF b.sF, Same.tr a.sH b.sH, b.sub, fun x h f => b.nf x (fun e => by
    cases q : H1 x with
    | none => exact h q
    | some o => rw [a.sH x o q] at e; cases e) (a.nf x h f)⟩
theorem fresh_F (s : Same F H) {p : Addr} (h : H p = none) : F p = none := by
  cases e : F p with
  | none => rfl
  | some o => rw [s p o e] at h; cases h
theorem same_upd {p : Addr} {o : HO} (h : H p = none) : Same H (upd H p o) := fun b u e => by
  rw [upd_ne (ne_of_none e h)]
  exact e
/-- a new frozen object -/
theorem Alloc.new (s : Same F H) {p : Addr} {o : HO} (h : H p = none) : Alloc F H (upd F p o) (upd H p o) :=
  ⟨same_upd (fresh_F s h), same_upd h, fun b u e => by
    by_cases hb : b = p
    · subst hb; rw [upd_same] at e ⊢; exact e
    · rw [upd_ne hb] at e ⊢; exact s b u e, fun b hb f => by
    have : b ≠ p := fun e => hb (e ▸ h)
    rw [upd_ne this]; exact f⟩
/-- a new object, not frozen -/
theorem Alloc.newH (s : Same F H) {p : Addr} {o : HO} (h : H p = none) : Alloc F H F (upd H p o) :=
  ⟨fun _ _ h => h, same_upd h, Same.tr s (same_upd h), fun _ _ f => f⟩
variable {e0 : E0} {σ : St} {E E' : Sto}
theorem SlotRel.alloc {s : Sl} {o : Option (Option V)} (a : Alloc F H F' H') (h : SlotRel K F H s o) : SlotRel K F' H' s o := by
  have nn : ∀ {p : Addr} {u : HO}, H p = some u → F p = none → F' p = none := fun e f => a.nf _ (by rw [e]; exact fun z => nomatch z) f
  cases s with
  | un => trivial
  | vl d =>
    obtain ⟨v, e, r⟩ := h
    exact ⟨v, e, Rep.mono a.sF _ _ r⟩
  | ow ds =>
    obtain ⟨p, vs, e, h1, h2, r⟩ := h
    exact ⟨p, vs, e, a.sH _ _ h1, nn h1 h2, RepL.mono a.sF _ _ r⟩
  | st ds =>
    obtain ⟨p, vs, e, h1, h2, r⟩ := h
    exact ⟨p, vs, e, a.sH _ _ h1, nn h1 h2, RepL.mono a.sF _ _ r⟩
  | nw c ds =>
    obtain ⟨x, dx, vs, e, h1, h2, r⟩ := h
    exact ⟨x, dx, vs, e, a.sH _ _ h1, nn h1 h2, RepL.mono a.sF _ _ r⟩
  | mx rows =>
    obtain ⟨q, ps, e, h1, h2, h3, h4, h5, h6⟩ := h
    refine ⟨q, ps, e, a.sH _ _ h1, nn h1 h2, h3, h4, h5, fun k p r e1 e2 => ?_⟩
    obtain ⟨f, vs, h7, h8⟩ := h6 k p r e1 e2
    exact ⟨nn h7 f, vs, a.sH _ _ h7, RepL.mono a.sF _ _ h8⟩
theorem own_alloc (S : SI K e0 F H σ E) (a : Same H H') (i : Nat) (p : Addr) : Own H' σ E i p ↔ Own H σ E i p := by
  unfold Own
  cases e : E[i]? with
  | none => exact Iff.rfl
  | some s =>
    cases s with
    | mx rows =>
      have r := S.rel i _ e
      obtain ⟨q, ps, e1, h1, _⟩ := r
      constructor
      · rintro ⟨q', ps', e2, h2, hp⟩
        rw [e1] at e2
        cases e2
        rw [a _ _ h1] at h2
        injection h2 with h2
        injection h2 with h2
        exact ⟨q, ps', e1, by rw [h1, h2], hp⟩
      · rintro ⟨q', ps', e2, h2, hp⟩
        exact ⟨q', ps', e2, a _ _ h2, hp⟩
    | _ => exact Iff.rfl
theorem SI.alloc (S : SI K e0 F H σ E) (a : Alloc F H F' H') : SI K e0 F' H' σ E where
  len := S.len
  sub := a.sub
  rel := fun i s e => (S.rel i s e).alloc a
  apart := fun i j p h1 h2 => S.apart i j p ((own_alloc S a.sH i p).mp h1) ((own_alloc S a.sH j p).mp h2)
  f0 := Same.tr S.f0 a.sF
  h0 := fun b o e n => a.sH b o (S.h0 b o e n)
  nf := fun b h f => a.nf b (S.dm b h) (S.nf b h f)
  ow := fun i p h => S.ow i p ((own_alloc S a.sH i p).mp h)
  dm := fun b h e => S.dm b h (by
    cases q : H b with
    | none => rfl
    | some o => rw [a.sH b o q] at e; cases e)
theorem SI.grow (S : SI K e0 F H σ E) (a : Alloc F H F' H') : Grow σ E F H E F' H' :=
  ⟨a.sF, fun b o h _ => a.sH b o h, fun b h f _ => a.nf b h f, fun b h e => h (by
    cases q : H b with
    | none => rfl
    | some o => rw [a.sH b o q] at e; cases e), fun i p => (own_alloc S a.sH i p).mp⟩
end
/-! ### tuples laid -/
section
open PyProof.Rows hiding St
variable {X : Cx} {pins : List (Addr × Obj)} {σ : L2.St} {H : Hp} {s : Shared}
abbrev tobj (us : List Value) : Obj := { cls := .type "tuple", data := .seq us.toArray }
theorem pushT {xs : List V} {us : List Value} (I : Inv X pins σ H s) (hz : xs.length ≤ sizeLine) (r : Vals xs us) :
    Inv X pins σ (upd H s.heap.objs.size (.frz (tobj us) (.tup xs))) { s with heap := s.heap.push (tobj us) } ∧ H s.heap.objs.size = none :=
  have g : (s.heap.push (tobj us)).get? s.heap.objs.size = some (tobj us) := Heap.get?_push_size _ rfl
  ⟨I.laid (t' := s.toks) (o := .frz (tobj us) (.tup xs)) (fun _ _ q => Heap.get?_push_of_some _ q) (Nat.le_refl _) ⟨g, hz, us, r, _, g, rfl, _, rfl⟩, I.hok.fresh (Nat.le_refl _)⟩
/-- a display -/
def tTupF (t : TA) : TE := fun σ H Q => t σ H fun xs H1 => xs.length ≤ sizeLine ∧ ∀ a ob, ob.dict = none → H1 a = none → Q (.ref a) (upd H1 a (.frz ob (.tup xs)))
theorem pe_tupF {k : Nat} {es : List Expr} {t : TA} {pos : Pos} (h : PA X es t) : PE X (.Tuple es k pos) (tTupF t) := ⟨fun pins s σ H Q I w => wpAny_Tuple_spliced (thn (h.run pos pins s σ H _ I w) fun us s1 ⟨xs, H1, I1, r, hz, q⟩ => by
  obtain ⟨J, f⟩ := pushT I1 hz r
  exact ⟨by rw [← r.length]; exact hz, .ref _, _, J, rfl, q _ (tobj us) rfl f⟩)⟩
/-- tuple(x) -/
theorem call_tupF : CallR X (.type "tuple") (fun xs H Q => ∃ p ys, xs = [.ref p] ∧ ((SqL X.K H p ys ∧ ∀ a ob, ob.dict = none → H a = none → Q (.ref a) (upd H a (.frz ob (.tup ys)))) ∨ (SqT X.K H p ys ∧ Q (.ref p) H))) := fun pins s σ H xs us Q I r w => by
  obtain ⟨p, ys, e, w⟩ := w
  subst e
  obtain ⟨u, e, ru⟩ := vals1 r
  subst e
  cases ru
  rcases w with ⟨hq, q⟩ | ⟨hq, q⟩
  · obtain ⟨us, ru, pl, hz⟩ := I.list hq
    refine call_tuple_list pl.isList (fun g kp => ?_) (by rw [List.size_toArray, ← ru.length]; exact hz)
    obtain ⟨J, f⟩ := pushT (I.kept (t' := s.toks) kp) hz ru
    exact ⟨.ref _, _, J, rfl, q _ (tobj us) rfl f⟩
  · obtain ⟨us, _, pl, _⟩ := I.tuple hq
    exact call_tuple_same pl ⟨.ref p, H, I, rfl, q⟩
/-- t + u -/
def rCatF (K : PySem.W.Frag) : R2 := fun x y H Q => ∃ a b xs ys, x = .ref a ∧ y = .ref b ∧ SqT K H a xs ∧ SqT K H b ys ∧ xs.length + ys.length ≤ sizeLine ∧ (xs = [] → Q (.ref b) H) ∧ (xs ≠ [] → ys = [] → Q (.ref a) H) ∧
  (xs ≠ [] → ys ≠ [] → ∀ p ob, ob.dict = none → H p = none → Q (.ref p) (upd H p (.frz ob (.tup (xs ++ ys)))))
theorem op_catF : OpR X (binaryOp .Add) (rCatF X.K) := fun pins s σ H x y v u Q I rx ry w => by
  obtain ⟨a, b, xs, ys, e1, e2, ha, hb, hz, q0, q1, q2⟩ := w
  subst e1 e2
  cases rx
  cases ry
  obtain ⟨us, ru, pu, _⟩ := I.tuple ha
  obtain ⟨ws, rw', pw, _⟩ := I.tuple hb
  by_cases hx : xs = []
  · subst hx
    cases ru
    exact cat_tup0 pu pw ⟨.ref b, H, I, rfl, q0 rfl⟩
  · refine HT.cat_tup pu pw (fun z => hx (ru.nil_iff.mp z)) (fun z => ⟨.ref a, H, I, rfl, q1 hx (rw'.nil_iff.mp z)⟩) (fun z => ?_) (by rw [← ru.length, ← rw'.length]; exact hz)
    obtain ⟨J, f⟩ := pushT I (by rw [List.length_append]; exact hz) (ru.append rw')
    exact ⟨.ref _, _, J, rfl, q2 hx (fun w => z (rw'.nil_iff.mpr w)) _ (tobj (us ++ ws)) rfl f⟩
/-- t[lo:hi] -/
def rSlF (K : PySem.W.Frag) : V → Option Int → Option Int → Hp → VK → Prop := fun x lo hi H Q => ∃ a xs, x = .ref a ∧ SqT K H a xs ∧
  (HT.sIx xs.length 0 lo = 0 ∧ HT.sIx xs.length xs.length hi = xs.length → Q (.ref a) H) ∧ (¬ (HT.sIx xs.length 0 lo = 0 ∧ HT.sIx xs.length xs.length hi = xs.length) → ∀ p ob, ob.dict = none → H p = none → Q (.ref p) (upd H p (.frz ob (.tup (cutV xs lo hi)))))
theorem sl_tupF : SlR X (rSlF X.K) := fun pins s σ H x v vl vu lo hi sl Q I rx hs pl pu w => by
  obtain ⟨a, xs, e, hx, q1, q2⟩ := w
  subst e
  cases rx
  obtain ⟨us, ru, pt, hz⟩ := I.tuple hx
  have hn : us.toArray.size = xs.length := by rw [List.size_toArray, ru.length]
  refine ⟨"tuple", _, slot_tuple_getitem.lookup, pt.typeIs, ?_⟩
  by_cases hw : HT.sIx xs.length 0 lo = 0 ∧ HT.sIx xs.length xs.length hi = xs.length
  · exact getItem_tuple_whole pt hs pl pu (hn ▸ hw) ⟨.ref a, H, I, rfl, q1 hw⟩
  · refine HT.getItem_tuple_cut pt hs pl pu (hn ▸ hw) ?_ (hn ▸ hz)
    rw [hn]
    obtain ⟨J, f⟩ := pushT I (Nat.le_trans (cutV_length xs lo hi) hz) ((ru.drop (HT.sIx xs.length 0 lo)).take (HT.sIx xs.length xs.length hi - HT.sIx xs.length 0 lo))
    exact ⟨.ref _, _, J, rfl, q2 hw _ (tobj _) rfl f⟩
/-- tuple(range(..)) -/
def tTupRgF (te : St → Hp → (Int → Int → Hp → Prop) → Prop) : TE := fun σ H Q => te σ H fun a b H1 => RgOk a b ∧ ∀ q ob, ob.dict = none → H1 q = none → Q (.ref q) (upd H1 q (.frz ob (.tup (rgV a b))))
theorem pe_tupRgF {e : Expr} {te : St → Hp → (Int → Int → Hp → Prop) → Prop} {p pos : Pos} (hc : X.calm = true) (hg : Gl X "tuple") (hm : X.mg "tuple" = none) (he : PRg X e te)
    (na : starEach [e] X.env = (false, eval e X.env) :: starEach [] X.env := by rfl) : PE X (.Call (.Name "tuple" p) [e] [] pos) (tTupRgF te) := ⟨fun pins s σ H Q I w => by
  refine Call_ (ld_blt I hg hm boot_tuple (callWith_type1 (args_cons (thn (he pins s σ H _ I w) fun x s1 k => args_nil ?_) na) na))
  obtain ⟨r, a, b, t, u, v, H1, ex, hr, I1, ⟨o1, o2, o3, o4, o5⟩, q⟩ := k
  subst ex
  refine call_tuple_range (n := (b - a).toNat) (I1.ok.hd hc) hr (small_one o1 o2 o3 o4) (rangeSize_nat a b) o5 fun g tk acc hk hi => ?_
  have J0 : Inv X pins σ H1 { s1 with heap := g, toks := tk } := I1.kept hk
  obtain ⟨J, f⟩ := pushT J0 (by rw [rgV_length, sizeLine_eq]; omega) (vals_rg hi)
  exact ⟨.ref _, _, J, rfl, q _ (tobj _) rfl f⟩⟩
end
end Dn

set_option Elab.async false
set_option linter.all false
set_option maxRecDepth 100000
set_option maxHeartbeats 4000000
namespace Dn
open PySem L2

def xnName : Nat → Str
  | 0 => "Malformed" | 1 => "Refused" | 2 => "NoText" | _ => "Fault"
def xnFld : Nat → Option Str
  | 1 => some "reason" | 2 => some "at" | _ => none
/-- an exception as it flies -/
def RepX (K : PySem.W.Frag) (F H : Hp) (x : Xn) (cls : Value) (dd : Option Addr) : Prop := cls = .ref (He.ga K (xnName x.c)) ∧ match xnFld x.c with
  | none => dd = none
  | some f => ∃ d v y, dd = some d ∧ H d = some (.xd [(f, v)]) ∧ x.xs = [y] ∧ Rep K F y v

def Out.bind {α β : Type} (r : Out α) (g : α → Sto → Out β) : Out β := match r with
  | .ok a E => g a E
  | .ex x E => .ex x E
  | .bad => .bad
@[simp] theorem Out.bind_ok {α β : Type} (a : α) (E : Sto) (g : α → Sto → Out β) : (Out.ok a E).bind g = g a E := rfl
@[simp] theorem Out.bind_ex {α β : Type} (x : Xn) (E : Sto) (g : α → Sto → Out β) : (Out.ex x E : Out α).bind g = .ex x E := rfl
@[simp] theorem Out.bind_bad {α β : Type} (g : α → Sto → Out β) : (Out.bad : Out α).bind g = .bad := rfl
/-- a value, or nothing known -/
def Out.opt {α : Type} (o : Option α) (E : Sto) : Out α := match o with
  | some a => .ok a E
  | none => .bad
@[simp] theorem Out.opt_some {α : Type} (a : α) (E : Sto) : Out.opt (some a) E = .ok a E := rfl
@[simp] theorem Out.opt_none {α : Type} (E : Sto) : (Out.opt (none : Option α) E) = .bad := rfl

section
variable (K : PySem.W.Frag) (e0 : E0) (W : WX)
def Post {α β : Type} (rep : Hp → α → β → Prop) (σ : St) (E : Sto) (F H : Hp) (r : Out α) (Q : β → Hp → Prop) : Prop := match r with
  | .ok a E' => ∀ b F' H', Grow σ E F H E' F' H' → SI K e0 F' H' σ E' → rep F' a b → Q b H'
  | .ex x E' => ∀ cls dd F' H', Grow σ E F H E' F' H' → SI K e0 F' H' σ E' → RepX K F' H' x cls dd → W cls dd σ H'
  | .bad => False
def rdG {α β : Type} (rep : Hp → α → β → Prop) (f : Sto → Out α) : St → Hp → (β → Hp → Prop) → Prop := fun σ H Q => ∃ E F, SI K e0 F H σ E ∧ Post K e0 W rep σ E F H (f E) Q
abbrev rd (f : Se) : TE := rdG K e0 W (fun F d v => Rep K F d v) f
abbrev rdL (f : SeL) : TA := rdG K e0 W (fun F d v => RepL K F d v) f
abbrev rdB (f : SeB) : TT := rdG K e0 W (fun _ (a b : Bool) => a = b) f
end
section
variable {K : PySem.W.Frag} {e0 : E0} {W : WX} {α β γ δ : Type} {rep : Hp → α → β → Prop} {rep1 : Hp → γ → δ → Prop} {σ : St} {E E1 E2 : Sto} {F F1 F2 H H1 H2 : Hp}
theorem Post.rebase {r : Out α} {Q : β → Hp → Prop} (g : Grow σ E F H E1 F1 H1) (h : Post K e0 W rep σ E F H r Q) : Post K e0 W rep σ E1 F1 H1 r Q := by
  cases r with
  | ok a E' => exact fun b F' H' g' s r => h b F' H' (g.trans g') s r
  | ex x E' => exact fun c d F' H' g' s r => h c d F' H' (g.trans g') s r
  | bad => exact h
theorem Post.bind {r : Out γ} {g : γ → Sto → Out α} {Q : β → Hp → Prop} {Q1 : δ → Hp → Prop} (h : Post K e0 W rep σ E F H (r.bind g) Q)
    (k : ∀ a b E1 F1 H1, Grow σ E F H E1 F1 H1 → SI K e0 F1 H1 σ E1 → rep1 F1 a b → Post K e0 W rep σ E1 F1 H1 (g a E1) Q → Q1 b H1) : Post K e0 W rep1 σ E F H r Q1 := by
  cases r with
  | ok a E' => exact fun b F' H' g' s r => k a b E' F' H' g' s r (Post.rebase g' h)
  | ex x E' => exact fun c d F' H' g' s r => h c d F' H' g' s r
  | bad => exact h
theorem Post.fin {a : α} {b : β} {Q : β → Hp → Prop} (h : Post K e0 W rep σ E F H (.ok a E) Q) (S : SI K e0 F H σ E) (al : Alloc F H F1 H1) (r : rep F1 a b) : Q b H1 :=
  h b F1 H1 (S.grow al) (S.alloc al) r
theorem Post.fin0 {a : α} {b : β} {Q : β → Hp → Prop} (h : Post K e0 W rep σ E F H (.ok a E) Q) (S : SI K e0 F H σ E) (r : rep F a b) : Q b H :=
  h b F H .refl S r
theorem Post.opt {o : Option α} {Q : β → Hp → Prop} (h : Post K e0 W rep σ E F H (.opt o E) Q) : ∃ a, o = some a ∧ Post K e0 W rep σ E F H (.ok a E) Q := by
  cases o with
  | some a => exact ⟨a, rfl, h⟩
  | none => exact h.elim
theorem rdG_intro {f : Sto → Out α} {Q : β → Hp → Prop} (S : SI K e0 F H σ E) (h : Post K e0 W rep σ E F H (f E) Q) : rdG K e0 W rep f σ H Q := ⟨E, F, S, h⟩
end

theorem PE.weak {X : Cx} {e : Expr} {t t' : TE} (h : PE X e t) (w : ∀ σ H Q, t' σ H Q → t σ H Q) : PE X e t' := ⟨fun pins s σ H Q I q => h.run pins s σ H Q I (w σ H Q q)⟩
theorem PT.weak {X : Cx} {e : Expr} {t t' : TT} (h : PT X e t) (w : ∀ σ H Q, t' σ H Q → t σ H Q) : PT X e t' := ⟨fun pins s σ H Q I q => h.run pins s σ H Q I (w σ H Q q)⟩
theorem PW.weak {X : Cx} {e : Expr} {t t' : TT} (h : PW X e t) (w : ∀ σ H Q, t' σ H Q → t σ H Q) : PW X e t' := ⟨fun wh pins s σ H Q I q => h.run wh pins s σ H Q I (w σ H Q q)⟩
theorem PA.weak {X : Cx} {e : List Expr} {t t' : TA} (h : PA X e t) (w : ∀ σ H Q, t' σ H Q → t σ H Q) : PA X e t' := ⟨fun pos pins s σ H Q I q => h.run pos pins s σ H Q I (w σ H Q q)⟩

/-! ### the judgements -/
def DX (X : Cx) (e0 : E0) (W : WX) (e : Expr) (f : Se) : Prop := PE X e (rd X.K e0 W f)
def DA (X : Cx) (e0 : E0) (W : WX) (e : List Expr) (f : SeL) : Prop := PA X e (rdL X.K e0 W f)
def DT (X : Cx) (e0 : E0) (W : WX) (e : Expr) (f : SeB) : Prop := PT X e (rdB X.K e0 W f)
def DW (X : Cx) (e0 : E0) (W : WX) (e : Expr) (f : SeB) : Prop := PW X e (rdB X.K e0 W f)

/-! ### semantic words -/
def sC (d : D) : Se := fun E => .ok d E
def sVar (i : Nat) : Se := fun E => match E[i]? with
  | some (.vl d) => .ok d E
  | some (.ow xs) => .ok (.lst xs) (E.set i (.vl (.lst xs)))
  | _ => .bad
def sBin (o : D → D → Option D) (a b : Se) : Se := fun E => (a E).bind fun x E1 => (b E1).bind fun y E2 => .opt (o x y) E2
def sUn (o : D → Option D) (a : Se) : Se := fun E => (a E).bind fun x E1 => .opt (o x) E1
def sNil : SeL := fun E => .ok [] E
def sCons (a : Se) (r : SeL) : SeL := fun E => (a E).bind fun x E1 => (r E1).bind fun xs E2 => .ok (x :: xs) E2
def sCall (o : List D → Option D) (a : SeL) : Se := fun E => (a E).bind fun xs E1 => .opt (o xs) E1
def sTupO (xs : List D) : Option D := if xs.length ≤ 1000000 then some (.tup xs) else none
def sLstO (xs : List D) : Option D := if xs.length ≤ 1000000 then some (.lst xs) else none
def sTup (a : SeL) : Se := sCall sTupO a
def sLst (a : SeL) : Se := sCall sLstO a
def sIf (c : SeB) (a b : Se) : Se := fun E => (c E).bind fun k E1 => if k = true then a E1 else b E1
def sAnd (a b : Se) : Se := fun E => (a E).bind fun x E1 => match x with
  | .bl true => b E1
  | .bl false => .ok (.bl false) E1
  | _ => .bad
def sOr (a b : Se) : Se := fun E => (a E).bind fun x E1 => match x with
  | .bl true => .ok (.bl true) E1
  | .bl false => b E1
  | _ => .bad
def oNot : D → Option D
  | .bl b => some (.bl (!b))
  | _ => none
def bVal (a : Se) : SeB := fun E => (a E).bind fun x E1 => match x with
  | .bl b => .ok b E1
  | _ => .bad
def bAnd (a b : SeB) : SeB := fun E => (a E).bind fun x E1 => if x = true then b E1 else .ok false E1
def bOr (a b : SeB) : SeB := fun E => (a E).bind fun x E1 => if x = true then .ok true E1 else b E1
def bNot (a : SeB) : SeB := fun E => (a E).bind fun x E1 => .ok (!x) E1
def sFld (tab : List (Nat × Nat)) (a : Se) : Se := fun E => (a E).bind fun x E1 => match x with
  | .ins c xs => (match tab.lookup c with
    | some i => .opt xs[i]? E1
    | none => .bad)
  | _ => .bad

section
variable {X : Cx} {e0 : E0} {W : WX} {a b c : Expr} {fa fb fc : Se} {pos : Pos} {es : List Expr} {g : SeL} {ba bb : SeB}

theorem dx_c {e : Expr} {v : V} {d : D} (h : PE X e (tC v)) (r : ∀ F, Rep X.K F d v) : DX X e0 W e (sC d) := PE.weak h fun σ H Q ⟨E, F, S, h⟩ => h.fin0 S (r F)
theorem dx_int {i : Int} {j : Nat} : DX X e0 W (.Constant (.int i) j pos) (sC (.int i)) := dx_c pe_int fun _ => by simp [Rep]
theorem dx_bl {b : Bool} {j : Nat} : DX X e0 W (.Constant (.bool b) j pos) (sC (.bl b)) := dx_c pe_bl fun _ => by simp [Rep]
theorem dx_non {j : Nat} : DX X e0 W (.Constant .none j pos) (sC .non) := dx_c pe_non fun _ => by simp [Rep]
theorem dx_str {x : Str} {j : Nat} : DX X e0 W (.Constant (.str x) j pos) (sC (.str x)) := dx_c pe_str fun _ => by simp [Rep]

/-- an owned list is frozen where it is read -/
theorem SI.freeze {K : PySem.W.Frag} {F H : Hp} {σ : St} {E : Sto} {i : Nat} {xs : List D} (S : SI K e0 F H σ E) (e : E[i]? = some (.ow xs)) :
    ∃ p vs, σ[i]? = some (some (.ref p)) ∧ H p = some (.lst vs) ∧ RepL K F xs vs ∧ Same F (upd F p (.lst vs)) ∧ SI K e0 (upd F p (.lst vs)) H σ (E.set i (.vl (.lst xs))) ∧ Grow σ E F H (E.set i (.vl (.lst xs))) (upd F p (.lst vs)) H := by
  obtain ⟨p, vs, e1, e2, e3, r⟩ := S.rel i _ e
  have hi : i < E.length := (List.getElem?_eq_some_iff.mp e).1
  have oi : Own H σ E i p := by
    unfold Own
    rw [e]
    exact e1
  have sF : Same F (upd F p (.lst vs)) := same_upd e3
  have ownE : ∀ j q, Own H σ (E.set i (.vl (.lst xs))) j q → Own H σ E j q ∧ j ≠ i := fun j q h => by
    by_cases hj : j = i
    · subst hj
      unfold Own at h
      rw [List.getElem?_set_self hi] at h
      exact h.elim
    · unfold Own at h ⊢
      rw [List.getElem?_set_ne (Ne.symm hj)] at h
      exact ⟨h, hj⟩
  have nfo : ∀ b, F b = none → (b ≠ p) → (upd F p (.lst vs)) b = none := fun b f n => by
    rw [upd_ne n]
    exact f
  have nop : ∀ j q, Own H σ E j q → j ≠ i → q ≠ p := fun j q h n z => by
    subst z
    exact n (S.apart j i q h oi)
  refine ⟨p, vs, e1, e2, r, sF, ⟨by simpa using S.len, fun b u h => ?_, fun j s hs => ?_, fun i' j' q h1 h2 => S.apart i' j' q (ownE _ _ h1).1 (ownE _ _ h2).1, Same.tr S.f0 sF, S.h0, fun b h f => ?_, fun j q h => ?_, S.dm⟩,
    ⟨sF, fun b o h _ => h, fun b h f n => ?_, fun _ h => h, fun j q h => (ownE j q h).1⟩⟩
  · by_cases hb : b = p
    · subst hb
      rw [upd_same] at h
      rw [← h]
      exact e2
    · rw [upd_ne hb] at h
      exact S.sub b u h
  · by_cases hj : j = i
    · subst hj
      rw [List.getElem?_set_self hi] at hs
      cases hs
      refine ⟨.ref p, e1, ?_⟩
      simp only [Rep]
      exact ⟨p, vs, rfl, upd_same, RepL.mono sF _ _ r⟩
    · rw [List.getElem?_set_ne (Ne.symm hj)] at hs
      have q := S.rel j s hs
      cases s with
      | un => trivial
      | vl d =>
        obtain ⟨v, h1, h2⟩ := q
        exact ⟨v, h1, Rep.mono sF _ _ h2⟩
      | ow ys =>
        obtain ⟨p', vs', h1, h2, h3, h4⟩ := q
        have : p' ≠ p := nop j p' (by unfold Own; rw [hs]; exact h1) hj
        exact ⟨p', vs', h1, h2, nfo _ h3 this, RepL.mono sF _ _ h4⟩
      | st ys =>
        obtain ⟨p', vs', h1, h2, h3, h4⟩ := q
        have : p' ≠ p := nop j p' (by unfold Own; rw [hs]; exact h1) hj
        exact ⟨p', vs', h1, h2, nfo _ h3 this, RepL.mono sF _ _ h4⟩
      | nw c ys =>
        obtain ⟨x, dx, vs', h1, h2, h3, h4⟩ := q
        have : x ≠ p := nop j x (by unfold Own; rw [hs]; exact h1) hj
        exact ⟨x, dx, vs', h1, h2, nfo _ h3 this, RepL.mono sF _ _ h4⟩
      | mx rows =>
        obtain ⟨q0, ps, h1, h2, h3, h4, h5, h6, h7⟩ := q
        have : q0 ≠ p := nop j q0 (by unfold Own; rw [hs]; exact ⟨q0, ps, h1, h2, .inl rfl⟩) hj
        refine ⟨q0, ps, h1, h2, nfo _ h3 this, h4, h5, h6, fun k p' r' a1 a2 => ?_⟩
        obtain ⟨b1, vs', b2, b3⟩ := h7 k p' r' a1 a2
        have : p' ≠ p := nop j p' (by unfold Own; rw [hs]; exact ⟨q0, ps, h1, h2, .inr (List.mem_of_getElem? a1)⟩) hj
        exact ⟨nfo _ b1 this, vs', b2, RepL.mono sF _ _ b3⟩
  · refine nfo b (S.nf b h f) fun z => ?_
    subst z
    rcases S.ow i b oi with q | ⟨_, q⟩
    · exact h q.1
    · rw [e] at q
      rcases q with ⟨ys, q⟩ | ⟨c, ys, q⟩ <;> cases q
  · obtain ⟨h1, h2⟩ := ownE j q h
    have q' := S.ow j q h1
    rw [List.getElem?_set_ne (Ne.symm h2)]
    exact q'
  · exact nfo b f fun z => n i (z ▸ oi)
theorem dx_var {i : Nat} {x : Str} (hN : X.N[i]? = some x) (hv : Vis X.env.scope x) (hd : (x == ("__debug__" : Str)) = false := by decide) (hcd : (x == ("__classdict__" : Str)) = false := by decide) : DX X e0 W (.Name x pos) (sVar i) := by
  refine PE.weak (pe_var hN hv hd hcd) fun σ H Q ⟨E, F, S, h⟩ => ?_
  unfold sVar at h
  cases e : E[i]? with
  | none =>
    rw [e] at h
    exact h.elim
  | some s =>
    rw [e] at h
    cases s with
    | vl d =>
      obtain ⟨v, h1, r⟩ := S.rel i _ e
      exact ⟨v, h1, h.fin0 S r⟩
    | ow xs =>
      obtain ⟨p, vs, h1, h2, r, sF, S', g⟩ := S.freeze e
      refine ⟨.ref p, h1, h (.ref p) _ H g S' ?_⟩
      simp only [Rep]
      exact ⟨p, vs, rfl, upd_same, RepL.mono sF _ _ r⟩
    | _ => exact h.elim

/-! ### operators -/
structure OpD (X : Cx) (f : Value → Value → Sem Value) (o : D → D → Option D) : Prop where
  ex : ∃ r : R2, OpR X f r ∧ ∀ x y z, o x y = some z → ∀ F H v w Q, Same F H → Rep X.K F x v → Rep X.K F y w → (∀ u F' H', Alloc F H F' H' → Rep X.K F' z u → Q u H') → r v w H Q
theorem OpR.or {f : Value → Value → Sem Value} {r r' : R2} (h : OpR X f r) (h' : OpR X f r') : OpR X f (fun x y H Q => r x y H Q ∨ r' x y H Q) := fun pins s σ H x y v u Q I rx ry q => by
  rcases q with q | q
  · exact h pins s σ H x y v u Q I rx ry q
  · exact h' pins s σ H x y v u Q I rx ry q
theorem OpD.or {f : Value → Value → Sem Value} {o o' : D → D → Option D} (h : OpD X f o) (h' : OpD X f o') : OpD X f (fun x y => (o x y).or (o' x y)) := by
  obtain ⟨r, h1, h2⟩ := h.ex
  obtain ⟨r', h1', h2'⟩ := h'.ex
  refine ⟨_, OpR.or h1 h1', fun x y z e F H v w Q s rx ry k => ?_⟩
  cases q : o x y with
  | some z' =>
    rw [q] at e
    exact .inl (h2 x y z (by rw [q]; exact e) F H v w Q s rx ry k)
  | none =>
    rw [q] at e
    exact .inr (h2' x y z e F H v w Q s rx ry k)
theorem bin_rd {o : D → D → Option D} {r : R2} (ho : ∀ x y z, o x y = some z → ∀ F H v w Q, Same F H → Rep X.K F x v → Rep X.K F y w → (∀ u F' H', Alloc F H F' H' → Rep X.K F' z u → Q u H') → r v w H Q)
    {σ : St} {H : Hp} {Q : VK} (h : rd X.K e0 W (sBin o fa fb) σ H Q) : tOp r (rd X.K e0 W fa) (rd X.K e0 W fb) σ H Q := by
  obtain ⟨E, F, S, h⟩ := h
  refine rdG_intro S (h.bind fun x v E1 F1 H1 G1 S1 R1 h1 => rdG_intro S1 (h1.bind fun y w E2 F2 H2 G2 S2 R2 h2 => ?_))
  obtain ⟨z, e, h3⟩ := h2.opt
  exact ho x y z e F2 H2 v w Q S2.sub (Rep.mono G2.sF _ _ R1) R2 fun u F' H' al r => h3.fin S2 al r
theorem dx_op {op : Operator} {o : D → D → Option D} (ho : OpD X (binaryOp op) o) (ha : DX X e0 W a fa) (hb : DX X e0 W b fb) : DX X e0 W (.BinOp a op b pos) (sBin o fa fb) := by
  obtain ⟨r, h1, h2⟩ := ho.ex
  exact PE.weak (pe_op h1 ha hb) fun σ H Q h => bin_rd h2 h
theorem dx_cmp {op : CmpOp} {o : D → D → Option D} (ho : OpD X (compareOp op) o) (ha : DX X e0 W a fa) (hb : DX X e0 W b fb) (hm : behindInMarks op b = false) : DX X e0 W (.Compare a [op] [b] pos) (sBin o fa fb) := by
  obtain ⟨r, h1, h2⟩ := ho.ex
  exact PE.weak (pe_cmpR h1 ha hb hm) fun σ H Q h => bin_rd h2 h
theorem val_rd {t : TE} {f : Se} (ht : ∀ σ H Q, rd X.K e0 W f σ H Q → t σ H Q) {σ : St} {H : Hp} {Q : Bool → Hp → Prop} (h : rdB X.K e0 W (bVal f) σ H Q) : tTest t σ H Q := by
  obtain ⟨E, F, S, h⟩ := h
  refine ht σ H _ (rdG_intro S (h.bind fun x v E1 F1 H1 G1 S1 R1 h1 => ?_))
  cases x with
  | bl k =>
    simp only [Rep] at R1
    exact ⟨k, R1, h1.fin0 S1 rfl⟩
  | _ => exact h1.elim
theorem dt_cmp {op : CmpOp} {o : D → D → Option D} (ho : OpD X (compareOp op) o) (ha : DX X e0 W a fa) (hb : DX X e0 W b fb) (hm : behindInMarks op b = false) : DT X e0 W (.Compare a [op] [b] pos) (bVal (sBin o fa fb)) := by
  obtain ⟨r, h1, h2⟩ := ho.ex
  exact PT.weak (pt_cmpR h1 ha hb hm) fun σ H Q h => val_rd (fun _ _ _ => bin_rd h2) h
theorem dt_val (h : DX X e0 W a fa) (he : ∀ whole, isTrue a X.env whole = (do let v ← whole; standAt a.pos; holding [v] (truthy v)) := by intro _; rfl) : DT X e0 W a (bVal fa) := by
  refine PT.weak (pt_val h he) fun σ H Q q => ?_
  exact val_rd (fun _ _ _ z => z) q
theorem dt_not (h : DT X e0 W a ba) : DT X e0 W (.UnaryOp .Not a pos) (bNot ba) := PT.weak (pt_not h) fun σ H Q ⟨E, F, S, h⟩ => rdG_intro S (h.bind fun x v E1 F1 H1 G1 S1 R1 h1 => by
  cases R1
  exact h1.fin0 S1 rfl)
theorem dw_one {op : BoolOp} (h : DT X e0 W a ba) : DW X e0 W (.BoolOp op [a] pos) ba := by
  cases op with
  | And => exact pw_and1 h
  | Or => exact pw_or1 h
theorem dw_and {rest : List Expr} (ha : DT X e0 W a ba) (hb : DW X e0 W (.BoolOp .And (b :: rest) pos) bb) : DW X e0 W (.BoolOp .And (a :: b :: rest) pos) (bAnd ba bb) := PW.weak (pw_and ha hb) fun σ H Q ⟨E, F, S, h⟩ => rdG_intro S (h.bind fun x v E1 F1 H1 G1 S1 R1 h1 => by
  cases R1
  cases x with
  | true => exact rdG_intro S1 h1
  | false => exact h1.fin0 S1 rfl)
theorem dw_or {rest : List Expr} (ha : DT X e0 W a ba) (hb : DW X e0 W (.BoolOp .Or (b :: rest) pos) bb) : DW X e0 W (.BoolOp .Or (a :: b :: rest) pos) (bOr ba bb) := PW.weak (pw_or ha hb) fun σ H Q ⟨E, F, S, h⟩ => rdG_intro S (h.bind fun x v E1 F1 H1 G1 S1 R1 h1 => by
  cases R1
  cases x with
  | false => exact rdG_intro S1 h1
  | true => exact h1.fin0 S1 rfl)
theorem dt_w (h : DW X e0 W a ba) : DT X e0 W a ba := PW.pt h
theorem dx_one {op : BoolOp} (h : DX X e0 W a fa) : DX X e0 W (.BoolOp op [a] pos) fa := pe_one h
theorem dx_and {rest : List Expr} (ha : DX X e0 W a fa) (hb : DX X e0 W (.BoolOp .And (b :: rest) pos) fb) : DX X e0 W (.BoolOp .And (a :: b :: rest) pos) (sAnd fa fb) := PE.weak (pe_and ha hb) fun σ H Q ⟨E, F, S, h⟩ => rdG_intro S (h.bind fun x v E1 F1 H1 G1 S1 R1 h1 => by
  cases x with
  | bl k =>
    simp only [Rep] at R1
    refine ⟨k, R1, ?_⟩
    cases k with
    | true => exact rdG_intro S1 h1
    | false => exact h1.fin0 S1 (by simp [Rep])
  | _ => exact h1.elim)
theorem dx_or {rest : List Expr} (ha : DX X e0 W a fa) (hb : DX X e0 W (.BoolOp .Or (b :: rest) pos) fb) : DX X e0 W (.BoolOp .Or (a :: b :: rest) pos) (sOr fa fb) := PE.weak (pe_or ha hb) fun σ H Q ⟨E, F, S, h⟩ => rdG_intro S (h.bind fun x v E1 F1 H1 G1 S1 R1 h1 => by
  cases x with
  | bl k =>
    simp only [Rep] at R1
    refine ⟨k, R1, ?_⟩
    cases k with
    | false => exact rdG_intro S1 h1
    | true => exact h1.fin0 S1 (by simp [Rep])
  | _ => exact h1.elim)
theorem dx_not (ha : DX X e0 W a fa) : DX X e0 W (.UnaryOp .Not a pos) (sUn oNot fa) := PE.weak (pe_not ha) fun σ H Q ⟨E, F, S, h⟩ => rdG_intro S (h.bind fun x v E1 F1 H1 G1 S1 R1 h1 => by
  obtain ⟨z, e, h3⟩ := h1.opt
  cases x with
  | bl k =>
    simp only [Rep] at R1
    cases e
    exact ⟨k, R1, h3.fin0 S1 (by simp [Rep])⟩
  | _ => cases e)
theorem dx_if (hc : DT X e0 W c ba) (ha : DX X e0 W a fa) (hb : DX X e0 W b fb) : DX X e0 W (.IfExp c a b pos) (sIf ba fa fb) := PE.weak (pe_ifExp hc ha hb) fun σ H Q ⟨E, F, S, h⟩ => rdG_intro S (h.bind fun x v E1 F1 H1 G1 S1 R1 h1 => by
  cases R1
  cases x with
  | true => exact rdG_intro S1 h1
  | false => exact rdG_intro S1 h1)

/-! ### unary -/
structure UnD (X : Cx) (f : Value → Sem Value) (o : D → Option D) : Prop where
  ex : ∃ r : V → Hp → VK → Prop, UnR X f r ∧ ∀ x z, o x = some z → ∀ F H v Q, Same F H → Rep X.K F x v → (∀ u F' H', Alloc F H F' H' → Rep X.K F' z u → Q u H') → r v H Q
theorem dx_un {op : UnaryOp} {o : D → Option D} (ho : UnD X (unaryOp op) o) (ha : DX X e0 W a fa) : DX X e0 W (.UnaryOp op a pos) (sUn o fa) := by
  obtain ⟨r, h1, h2⟩ := ho.ex
  refine PE.weak (pe_un h1 ha) fun σ H Q ⟨E, F, S, h⟩ => rdG_intro S (h.bind fun x v E1 F1 H1 G1 S1 R1 h1 => ?_)
  obtain ⟨z, e, h3⟩ := h1.opt
  exact h2 x z e F1 H1 v Q S1.sub R1 fun u F' H' al r => h3.fin S1 al r

/-! ### argument lists, displays -/
theorem da_nil : DA X e0 W [] sNil := PA.weak pa_nil fun σ H Q ⟨E, F, S, h⟩ => h.fin0 S .nil
theorem da_cons (ha : DX X e0 W a fa) (hr : DA X e0 W es g) (hs : starEach (a :: es) X.env = (false, eval a X.env) :: starEach es X.env := by rfl) : DA X e0 W (a :: es) (sCons fa g) := PA.weak (pa_cons ha hr hs) fun σ H Q ⟨E, F, S, h⟩ =>
  rdG_intro S (h.bind fun x v E1 F1 H1 G1 S1 R1 h1 => rdG_intro S1 (h1.bind fun xs vs E2 F2 H2 G2 S2 R2 h2 => h2.fin0 S2 (.cons (Rep.mono G2.sF _ _ R1) R2)))
theorem sizeLine_ok {n : Nat} (h : n ≤ 1000000) : n ≤ sizeLine := Nat.le_trans h (by decide)
theorem dx_tup {k : Nat} (h : DA X e0 W es g) : DX X e0 W (.Tuple es k pos) (sTup g) := PE.weak (pe_tupF h) fun σ H Q ⟨E, F, S, h⟩ => rdG_intro S (h.bind fun xs vs E1 F1 H1 G1 S1 R1 h1 => by
  obtain ⟨z, e, h3⟩ := h1.opt
  unfold sTupO at e
  split at e
  · rename_i hl
    cases e
    refine ⟨sizeLine_ok (by rw [← R1.length]; exact hl), fun p ob hd hp => h3.fin S1 (.new S1.sub hp) ?_⟩
    simp only [Rep]
    exact ⟨p, vs, rfl, .new hd, RepL.mono (same_upd (fresh_F S1.sub hp)) _ _ R1⟩
  · cases e)
theorem dx_lst (h : DA X e0 W es g) : DX X e0 W (.List es pos) (sLst g) := PE.weak (pe_lst h) fun σ H Q ⟨E, F, S, h⟩ => rdG_intro S (h.bind fun xs vs E1 F1 H1 G1 S1 R1 h1 => by
  obtain ⟨z, e, h3⟩ := h1.opt
  unfold sLstO at e
  split at e
  · rename_i hl
    cases e
    refine ⟨sizeLine_ok (by rw [← R1.length]; exact hl), fun p hp => h3.fin S1 (.new S1.sub hp) ?_⟩
    simp only [Rep]
    exact ⟨p, vs, rfl, upd_same, RepL.mono (same_upd (fresh_F S1.sub hp)) _ _ R1⟩
  · cases e)

/-! ### built-ins called by name -/
structure CallD (X : Cx) (f : Value) (o : List D → Option D) : Prop where
  ex : ∃ r : List V → Hp → VK → Prop, CallR X f r ∧ ∀ xs z, o xs = some z → ∀ F H vs Q, Same F H → RepL X.K F xs vs → (∀ u F' H', Alloc F H F' H' → Rep X.K F' z u → Q u H') → r vs H Q
theorem CallD.or {f : Value} {o o' : List D → Option D} (h : CallD X f o) (h' : CallD X f o') : CallD X f (fun x => (o x).or (o' x)) := by
  obtain ⟨r, h1, h2⟩ := h.ex
  obtain ⟨r', h1', h2'⟩ := h'.ex
  refine ⟨fun xs H Q => r xs H Q ∨ r' xs H Q, fun pins s σ H xs us Q I rx q => ?_, fun x z e F H v Q s rx k => ?_⟩
  · rcases q with q | q
    · exact h1 pins s σ H xs us Q I rx q
    · exact h1' pins s σ H xs us Q I rx q
  · cases q : o x with
    | some z' =>
      rw [q] at e
      exact .inl (h2 x z (by rw [q]; exact e) F H v Q s rx k)
    | none =>
      rw [q] at e
      exact .inr (h2' x z e F H v Q s rx k)
theorem call_rd {o : List D → Option D} {r : List V → Hp → VK → Prop} (h2 : ∀ xs z, o xs = some z → ∀ F H vs Q, Same F H → RepL X.K F xs vs → (∀ u F' H', Alloc F H F' H' → Rep X.K F' z u → Q u H') → r vs H Q) {σ : St} {H : Hp} {Q : VK}
    (h : rd X.K e0 W (sCall o g) σ H Q) : tCB r (rdL X.K e0 W g) σ H Q := by
  obtain ⟨E, F, S, h⟩ := h
  refine rdG_intro S (h.bind fun x v E1 F1 H1 G1 S1 R1 h1 => ?_)
  obtain ⟨z, e, h3⟩ := h1.opt
  exact h2 x z e F1 H1 v Q S1.sub R1 fun u F' H' al r => h3.fin S1 al r
theorem dx_callB {id : String} {x : Str} {p : Pos} {e : Expr} {o : List D → Option D} (hc : CallD X (.builtin id) o) (hg : Gl X x) (hm : X.mg x = none) (hv : bootBuiltins x = some (.builtin id)) (ha : DA X e0 W (e :: es) g) (hn : x ≠ "__name__" := by decide) (hdb : (x == ("__debug__" : Str)) = false := by decide)
    (he : starEach (e :: es) X.env = (false, eval e X.env) :: starEach es X.env := by rfl) (hpl : (backTo pos (starEach es X.env)).any (·.1) = false := by rfl) : DX X e0 W (.Call (.Name x p) (e :: es) [] pos) (sCall o g) := by
  obtain ⟨r, h1, h2⟩ := hc.ex
  exact PE.weak (pe_callB h1 hg hm hv ha hn hdb he hpl) fun σ H Q h => call_rd h2 h
theorem dx_callTy {T : String} {x : Str} {p : Pos} {e : Expr} {o : List D → Option D} (hc : CallD X (.type T) o) (hg : Gl X x) (hm : X.mg x = none) (hv : bootBuiltins x = some (.type T)) (ha : DA X e0 W (e :: es) g) (hn : x ≠ "__name__" := by decide) (hdb : (x == ("__debug__" : Str)) = false := by decide)
    (he : starEach (e :: es) X.env = (false, eval e X.env) :: starEach es X.env := by rfl) (hpl : (backTo pos (starEach es X.env)).any (·.1) = false := by rfl) : DX X e0 W (.Call (.Name x p) (e :: es) [] pos) (sCall o g) := by
  obtain ⟨r, h1, h2⟩ := hc.ex
  exact PE.weak (pe_callTy h1 hg hm hv ha hn hdb he hpl) fun σ H Q h => call_rd h2 h

/-! ### subscripts -/
structure IxD (X : Cx) (o : D → D → Option D) : Prop where
  ex : ∃ r : R2, IxR X r ∧ ∀ x y z, o x y = some z → ∀ F H v w Q, Same F H → Rep X.K F x v → Rep X.K F y w → (∀ u F' H', Alloc F H F' H' → Rep X.K F' z u → Q u H') → r v w H Q
theorem dx_ix {o : D → D → Option D} (ho : IxD X o) (ha : DX X e0 W a fa) (hb : DX X e0 W b fb) (hs : PlainIx b := by intro _ _; rfl) : DX X e0 W (.Subscript a b pos) (sBin o fa fb) := by
  obtain ⟨r, h1, h2⟩ := ho.ex
  exact PE.weak (pe_ix h1 ha hb hs) fun σ H Q h => bin_rd h2 h

/-! ### fields -/
structure FldOk (K : PySem.W.Frag) (f : Str) (tab : List (Nat × Nat)) : Prop where
  ok : ∀ c i, tab.lookup c = some i → Cls K (He.ga K (clsName c)) ∧ NoAttr K (He.ga K (clsName c)) f ∧ (clsFlds c).findIdx (· == f) = i ∧ i < (clsFlds c).length
theorem lookup_zip : ∀ {names : List Str} {vs : List V} {i : Nat} {f : Str} {v : V}, names.findIdx (· == f) = i → i < names.length → vs[i]? = some v → (names.zip vs).lookup f = some v
  | [], vs, i, f, v, h, hl, e => by simp at hl
  | n :: names, [], i, f, v, h, hl, e => by simp at e
  | n :: names, w :: vs, i, f, v, h, hl, e => by
    rw [List.findIdx_cons] at h
    rw [List.zip_cons_cons, List.lookup_cons]
    by_cases q : n = f
    · subst q
      simp at h
      subst h
      simpa using e
    · have b1 : (n == f) = false := by simpa using q
      have b2 : (f == n) = false := by simpa using fun z => q z.symm
      rw [b1] at h
      simp at h
      subst h
      rw [b2]
      exact lookup_zip rfl (by simpa using hl) (by simpa using e)
theorem dx_fld {f : Str} {tab : List (Nat × Nat)} (T : FldOk X.K f tab) (ha : DX X e0 W a fa) (hb : attributeBase a f X.env (eval a X.env) = eval a X.env := by rfl) : DX X e0 W (.Attribute a f pos) (sFld tab fa) := by
  refine PE.weak (pe_fld ha hb) fun σ H Q ⟨E, F, S, h⟩ => rdG_intro S (h.bind fun x v E1 F1 H1 G1 S1 R1 h1 => ?_)
  cases x with
  | ins c xs =>
    simp only [Rep] at R1
    obtain ⟨q, dx, vs, e1, e2, hl, r⟩ := R1
    cases e : tab.lookup c with
    | none =>
      simp only [e] at h1
      exact h1.elim
    | some i =>
      simp only [e] at h1
      obtain ⟨z, e3, h3⟩ := h1.opt
      obtain ⟨w, e4, r4⟩ := r.get e3
      obtain ⟨t1, t2, t3, t4⟩ := T.ok c i e
      exact ⟨q, _, dx, _, w, e1, S1.sub _ _ e2, t1, t2, lookup_zip t3 t4 e4, h3.fin0 S1 r4⟩
  | _ => exact h1.elim
end
end Dn

set_option Elab.async false
set_option linter.all false
set_option maxRecDepth 100000
set_option maxHeartbeats 4000000
namespace Dn
open PySem L2

/-- what is handed back: a value, or a new list that nobody else holds -/
inductive Rv where
  | fz (d : D) | fr (ds : List D)
inductive So where
  | nx (E : Sto) | rt (r : Rv) (E : Sto) | bk (E : Sto) | ct (E : Sto) | ex (x : Xn) (E : Sto) | bad
abbrev Ss := Sto → So
def RepR (K : PySem.W.Frag) (e0 : E0) (F H : Hp) : Rv → V → Prop
  | .fz d, v => Rep K F d v
  | .fr ds, v => ∃ p vs, v = .ref p ∧ e0.H p = none ∧ F p = none ∧ H p = some (.lst vs) ∧ RepL K F ds vs
section
variable (K : PySem.W.Frag) (e0 : E0) (W : WX)
def PostS (F : Hp) (r : So) (D : Ends) : Prop := match r with
  | .nx E => ∀ σ F' H', Same F F' → SI K e0 F' H' σ E → D.nx σ H'
  | .bk E => ∀ σ F' H', Same F F' → SI K e0 F' H' σ E → D.bk σ H'
  | .ct E => ∀ σ F' H', Same F F' → SI K e0 F' H' σ E → D.ct σ H'
  | .rt r E => ∀ v σ F' H', SI K e0 F' H' σ E → RepR K e0 F' H' r v → D.rt v H'
  | .ex x E => ∀ cls dd σ F' H', SI K e0 F' H' σ E → RepX K F' H' x cls dd → W cls dd σ H'
  | .bad => False
def rdS (f : Ss) : TS := fun D σ H => ∃ E F, SI K e0 F H σ E ∧ PostS K e0 W F (f E) D
/-- a new list that nobody else holds -/
def PostF (σ : St) (E : Sto) (F H : Hp) (r : Out (List Dn.D)) (Q : VK) : Prop := match r with
  | .ok xs E' => ∀ p vs F' H', Grow σ E F H E' F' H' → SI K e0 F' H' σ E' → H p = none → F' p = none → H' p = some (.lst vs) → RepL K F' xs vs → Q (.ref p) H'
  | .ex x E' => ∀ cls dd F' H', Grow σ E F H E' F' H' → SI K e0 F' H' σ E' → RepX K F' H' x cls dd → W cls dd σ H'
  | .bad => False
def rdF (f : SeL) : TE := fun σ H Q => ∃ E F, SI K e0 F H σ E ∧ PostF K e0 W σ E F H (f E) Q
end
def DS (X : Cx) (e0 : E0) (W : WX) (st : Stmt) (f : Ss) : Prop := PS X st (rdS X.K e0 W f)
def DSs (X : Cx) (e0 : E0) (W : WX) (st : List Stmt) (f : Ss) : Prop := PSs X st (rdS X.K e0 W f)
def DF (X : Cx) (e0 : E0) (W : WX) (e : Expr) (f : SeL) : Prop := PE X e (rdF X.K e0 W f)
theorem PS.weak {X : Cx} {e : Stmt} {t t' : TS} (h : PS X e t) (w : ∀ D σ H, t' D σ H → t D σ H) : PS X e t' := ⟨fun pins s σ H D I q => h.run pins s σ H D I (w D σ H q)⟩
theorem PSs.weak {X : Cx} {e : List Stmt} {t t' : TS} (h : PSs X e t) (w : ∀ D σ H, t' D σ H → t D σ H) : PSs X e t' := ⟨fun pins s σ H D I q => h.run pins s σ H D I (w D σ H q)⟩

section
variable {K : PySem.W.Frag} {e0 : E0} {W : WX} {σ : St} {E E1 E2 : Sto} {F F1 F2 H H1 H2 : Hp} {r : So} {D : Ends} {α β γ δ : Type} {rep1 : Hp → γ → δ → Prop}
theorem PostS.rebase (s : Same F F1) (h : PostS K e0 W F r D) : PostS K e0 W F1 r D := by
  cases r with
  | nx E => exact fun σ F' H' s' => h σ F' H' (Same.tr s s')
  | bk E => exact fun σ F' H' s' => h σ F' H' (Same.tr s s')
  | ct E => exact fun σ F' H' s' => h σ F' H' (Same.tr s s')
  | rt r E => exact h
  | ex x E => exact h
  | bad => exact h
/-- an expression, then a statement -/
def Out.then {α : Type} (r : Out α) (g : α → Sto → So) : So := match r with
  | .ok a E => g a E
  | .ex x E => .ex x E
  | .bad => .bad
@[simp] theorem Out.then_ok {α : Type} (a : α) (E : Sto) (g : α → Sto → So) : (Out.ok a E).then g = g a E := rfl
@[simp] theorem Out.then_ex {α : Type} (x : Xn) (E : Sto) (g : α → Sto → So) : (Out.ex x E : Out α).then g = .ex x E := rfl
@[simp] theorem Out.then_bad {α : Type} (g : α → Sto → So) : (Out.bad : Out α).then g = .bad := rfl
theorem PostS.bind {r : Out γ} {g : γ → Sto → So} {Q1 : δ → Hp → Prop} (h : PostS K e0 W F (r.then g) D)
    (k : ∀ a b E1 F1 H1, Grow σ E F H E1 F1 H1 → SI K e0 F1 H1 σ E1 → rep1 F1 a b → PostS K e0 W F1 (g a E1) D → Q1 b H1) : Post K e0 W rep1 σ E F H r Q1 := by
  cases r with
  | ok a E' => exact fun b F' H' g' s r => k a b E' F' H' g' s r (PostS.rebase g'.sF h)
  | ex x E' => exact fun c d F' H' g' s r => h c d σ F' H' s r
  | bad => exact h
theorem PostS.bindF {r : Out (List Dn.D)} {g : List Dn.D → Sto → So} {Q1 : VK} (h : PostS K e0 W F (r.then g) D)
    (k : ∀ xs p vs E1 F1 H1, Grow σ E F H E1 F1 H1 → SI K e0 F1 H1 σ E1 → H p = none → F1 p = none → H1 p = some (.lst vs) → RepL K F1 xs vs → PostS K e0 W F1 (g xs E1) D → Q1 (.ref p) H1) : PostF K e0 W σ E F H r Q1 := by
  cases r with
  | ok a E' => exact fun p vs F' H' g' s h1 h2 h3 h4 => k a p vs E' F' H' g' s h1 h2 h3 h4 (PostS.rebase g'.sF h)
  | ex x E' => exact fun c d F' H' g' s r => h c d σ F' H' s r
  | bad => exact h
theorem own_some (S : SI K e0 F H σ E) {i : Nat} {p : Addr} (h : Own H σ E i p) : ∃ o, H p = some o ∧ F p = none := by
  unfold Own at h
  cases e : E[i]? with
  | none => simp [e] at h
  | some s =>
    have r := S.rel i s e
    rw [e] at h
    cases s with
    | un => exact h.elim
    | vl d => exact h.elim
    | ow xs =>
      obtain ⟨q, vs, e1, e2, e3, _⟩ := r
      have h' : σ[i]? = some (some (.ref p)) := h
      rw [e1] at h'
      cases h'
      exact ⟨_, e2, e3⟩
    | st xs =>
      obtain ⟨q, vs, e1, e2, e3, _⟩ := r
      have h' : σ[i]? = some (some (.ref p)) := h
      rw [e1] at h'
      cases h'
      exact ⟨_, e2, e3⟩
    | nw c xs =>
      obtain ⟨q, dx, vs, e1, e2, e3, _⟩ := r
      have h' : σ[i]? = some (some (.ref p)) := h
      rw [e1] at h'
      cases h'
      exact ⟨_, e2, e3⟩
    | mx rows =>
      obtain ⟨q, ps, e1, e2, e3, e4, e5, e6, e7⟩ := r
      obtain ⟨q', ps', e1', e2', hp⟩ := h
      rw [e1] at e1'
      cases e1'
      rw [e2] at e2'
      injection e2' with e2'
      injection e2' with e2'
      have ep : ps = ps' := List.map_inj_right (fun a b h => by cases h; rfl) |>.mp e2'
      subst ep
      rcases hp with rfl | hp
      · exact ⟨_, e2, e3⟩
      · obtain ⟨k, hk⟩ := List.getElem?_of_mem hp
        have hl : k < rows.length := by
          have := (List.getElem?_eq_some_iff.mp hk).1
          omega
        obtain ⟨f, vs, h1, _⟩ := e7 k p rows[k] hk (by simp [hl])
        exact ⟨_, h1, f⟩
theorem SlotRel.sF {s : Sl} {o : Option (Option V)} {p : Addr} {u : HO} (sF : Same F (upd F p u)) (hs : ∀ q, F q = none → (∃ i : Unit, H q ≠ none) → True) (ne : ∀ q, (match s with
    | .ow _ => o = some (some (.ref q))
    | .st _ => o = some (some (.ref q))
    | .nw _ _ => o = some (some (.ref q))
    | .mx _ => ∃ (q0 : Addr) (ps : List Addr), o = some (some (.ref q0)) ∧ H q0 = some (.lst (ps.map V.ref)) ∧ (q = q0 ∨ q ∈ ps)
    | _ => False) → q ≠ p) (h : SlotRel K F H s o) : SlotRel K (upd F p u) H s o := by
  have nfo : ∀ b, F b = none → b ≠ p → (upd F p u) b = none := fun b f n => by
    rw [upd_ne n]
    exact f
  cases s with
  | un => trivial
  | vl d =>
    obtain ⟨v, h1, h2⟩ := h
    exact ⟨v, h1, Rep.mono sF _ _ h2⟩
  | ow ys =>
    obtain ⟨p', vs', h1, h2, h3, h4⟩ := h
    exact ⟨p', vs', h1, h2, nfo _ h3 (ne p' h1), RepL.mono sF _ _ h4⟩
  | st ys =>
    obtain ⟨p', vs', h1, h2, h3, h4⟩ := h
    exact ⟨p', vs', h1, h2, nfo _ h3 (ne p' h1), RepL.mono sF _ _ h4⟩
  | nw c ys =>
    obtain ⟨x, dx, vs', h1, h2, h3, h4⟩ := h
    exact ⟨x, dx, vs', h1, h2, nfo _ h3 (ne x h1), RepL.mono sF _ _ h4⟩
  | mx rows =>
    obtain ⟨q0, ps, h1, h2, h3, h4, h5, h6, h7⟩ := h
    refine ⟨q0, ps, h1, h2, nfo _ h3 (ne q0 ⟨q0, ps, h1, h2, .inl rfl⟩), h4, h5, h6, fun k p' r' a1 a2 => ?_⟩
    obtain ⟨b1, vs', b2, b3⟩ := h7 k p' r' a1 a2
    exact ⟨nfo _ b1 (ne p' ⟨q0, ps, h1, h2, .inr (List.mem_of_getElem? a1)⟩), vs', b2, RepL.mono sF _ _ b3⟩
theorem own_of_slot {i : Nat} {s : Sl} (e : E[i]? = some s) {q : Addr} (h : match s with
    | .ow _ => σ[i]? = some (some (.ref q))
    | .st _ => σ[i]? = some (some (.ref q))
    | .nw _ _ => σ[i]? = some (some (.ref q))
    | .mx _ => ∃ (q0 : Addr) (ps : List Addr), σ[i]? = some (some (.ref q0)) ∧ H q0 = some (.lst (ps.map V.ref)) ∧ (q = q0 ∨ q ∈ ps)
    | _ => False) : Own H σ E i q := by
  unfold Own
  rw [e]
  cases s <;> exact h
/-- a new list is frozen -/
theorem SI.freezeAt (S : SI K e0 F H σ E) {p : Addr} {u : HO} (e : H p = some u) (f : F p = none) (n : ∀ i, ¬ Own H σ E i p) (ne : e0.H p = none) : SI K e0 (upd F p u) H σ E ∧ Same F (upd F p u) := by
  have sF : Same F (upd F p u) := same_upd f
  refine ⟨⟨S.len, fun b w h => ?_, fun j s hs => (S.rel j s hs).sF sF (fun _ _ _ => trivial) fun q hq => ?_, S.apart, Same.tr S.f0 sF, S.h0, fun b h f' => ?_, S.ow, S.dm⟩, sF⟩
  · by_cases hb : b = p
    · subst hb
      rw [upd_same] at h
      rw [← h]
      exact e
    · rw [upd_ne hb] at h
      exact S.sub b w h
  · intro z
    subst z
    exact n j (own_of_slot hs (by cases s <;> exact hq))
  · have hb : b ≠ p := fun z => h (z ▸ ne)
    rw [upd_ne hb]
    exact S.nf b h f'
theorem SI.fresh0 (S : SI K e0 F H σ E) {p : Addr} (h : H p = none) : e0.H p = none := by
  cases q : e0.H p with
  | none => rfl
  | some o => exact (S.dm p (by rw [q]; exact fun z => nomatch z) h).elim
theorem Grow.notOwn (g : Grow σ E F H E1 F1 H1) (S : SI K e0 F H σ E) {p : Addr} (h : H p = none) : ∀ i, ¬ Own H1 σ E1 i p := fun i o => by
  obtain ⟨u, e, _⟩ := own_some S (g.own i p o)
  rw [h] at e
  cases e
theorem Grow.back (g : Grow σ E F H E1 F1 H1) {p : Addr} (h : H1 p = none) : H p = none := by
  cases q : H p with
  | none => rfl
  | some o => exact (g.dm p (by rw [q]; exact fun z => nomatch z) h).elim
def lstOf (r : Out (List Dn.D)) : Out Dn.D := match r with
  | .ok xs E => .ok (.lst xs) E
  | .ex x E => .ex x E
  | .bad => .bad
theorem frozen (S : SI K e0 F H σ E) {r : Out (List Dn.D)} {Q : VK} (h : Post K e0 W (fun F d v => Rep K F d v) σ E F H (lstOf r) Q) : PostF K e0 W σ E F H r Q := by
  cases r with
  | ok xs E' =>
    intro p vs F' H' g S' h1 h2 h3 h4
    have ne := S.fresh0 h1
    obtain ⟨S2, sF⟩ := S'.freezeAt h3 h2 (g.notOwn S h1) ne
    refine h (.ref p) _ H' ⟨Same.tr g.sF sF, g.keep, fun b hb f n => ?_, g.dm, g.own⟩ S2 ?_
    · have : b ≠ p := fun z => hb (z ▸ h1)
      rw [upd_ne this]
      exact g.nf b hb f n
    · simp only [Rep]
      exact ⟨p, vs, rfl, upd_same, RepL.mono sF _ _ h4⟩
  | ex x E' => exact h
  | bad => exact h
end

def sLs (f : SeL) : Se := fun E => lstOf (f E)
def sSet (i : Nat) (a : Se) : Ss := fun E => (a E).then fun d E1 => .nx (E1.set i (.vl d))
def sOwn (i : Nat) (a : SeL) : Ss := fun E => (a E).then fun d E1 => .nx (E1.set i (.ow d))
def sNext : Ss := fun E => .nx E
def sSeq (a b : Ss) : Ss := fun E => match a E with
  | .nx E1 => b E1
  | r => r
def sDrop (a : Se) : Ss := fun E => (a E).then fun _ E1 => .nx E1
def sRet (a : Se) : Ss := fun E => (a E).then fun d E1 => .rt (.fz d) E1
def sRetF (a : SeL) : Ss := fun E => (a E).then fun d E1 => .rt (.fr d) E1
def sRetN : Ss := fun E => .rt (.fz .non) E
def sCond (c : SeB) (a b : Ss) : Ss := fun E => (c E).then fun k E1 => if k = true then a E1 else b E1
def sWhile (c : SeB) (b : Ss) : Nat → Ss
  | 0 => fun _ => .bad
  | n + 1 => fun E => (c E).then fun k E1 => if k = true then (match b E1 with
    | .nx E2 => sWhile c b n E2
    | .ct E2 => sWhile c b n E2
    | .bk E2 => .nx E2
    | r => r) else .nx E1

section
variable {X : Cx} {e0 : E0} {W : WX} {a : Expr} {fa : Se} {ga : SeL} {pos : Pos} {st : Stmt} {rest : List Stmt} {s t : Ss} {c : SeB}

/-! ### slots stored -/
theorem own_set {H : Hp} {σ : St} {E : Sto} {i : Nat} {v : V} {d : D} {j : Nat} {q : Addr} (h : Own H (σ.set i (some v)) (E.set i (.vl d)) j q) : Own H σ E j q ∧ j ≠ i := by
  unfold Own at h ⊢
  by_cases hj : j = i
  · subst hj
    by_cases hi : j < E.length
    · rw [List.getElem?_set_self hi] at h
      exact h.elim
    · rw [List.getElem?_eq_none_iff.mpr (by simpa using hi)] at h
      exact h.elim
  · rw [List.getElem?_set_ne (Ne.symm hj), List.getElem?_set_ne (Ne.symm hj)] at h
    exact ⟨h, hj⟩
theorem SI.set {K : PySem.W.Frag} {F H : Hp} {σ : St} {E : Sto} (S : SI K e0 F H σ E) (i : Nat) {d : D} {v : V} (r : Rep K F d v) : SI K e0 F H (σ.set i (some v)) (E.set i (.vl d)) := by
  refine ⟨by simpa using S.len, S.sub, fun j s hs => ?_, fun a b q h1 h2 => S.apart a b q (own_set h1).1 (own_set h2).1, S.f0, S.h0, S.nf, fun j q h => ?_, S.dm⟩
  · by_cases hj : j = i
    · subst hj
      have hi : j < E.length := by
        have := (List.getElem?_eq_some_iff.mp hs).1
        simpa using this
      rw [List.getElem?_set_self hi] at hs
      cases hs
      rw [List.getElem?_set_self (by rw [S.len]; exact hi)]
      exact ⟨v, rfl, r⟩
    · rw [List.getElem?_set_ne (Ne.symm hj)] at hs ⊢
      exact S.rel j s hs
  · obtain ⟨h1, h2⟩ := own_set h
    rw [List.getElem?_set_ne (Ne.symm h2)]
    exact S.ow j q h1
theorem own_setO {H : Hp} {σ : St} {E : Sto} {i : Nat} {p : Addr} {xs : List D} {j : Nat} {q : Addr} (h : Own H (σ.set i (some (.ref p))) (E.set i (.ow xs)) j q) : (Own H σ E j q ∧ j ≠ i) ∨ (j = i ∧ q = p) := by
  unfold Own at h ⊢
  by_cases hj : j = i
  · subst hj
    by_cases hi : j < E.length
    · rw [List.getElem?_set_self hi] at h
      have h' : (σ.set j (some (.ref p)))[j]? = some (some (.ref q)) := h
      by_cases hl : j < σ.length
      · rw [List.getElem?_set_self hl] at h'
        cases h'
        exact .inr ⟨rfl, rfl⟩
      · rw [List.getElem?_eq_none_iff.mpr (by simpa using hl)] at h'
        cases h'
    · rw [List.getElem?_eq_none_iff.mpr (by simpa using hi)] at h
      exact h.elim
  · rw [List.getElem?_set_ne (Ne.symm hj), List.getElem?_set_ne (Ne.symm hj)] at h
    exact .inl ⟨h, hj⟩
theorem SI.setO {K : PySem.W.Frag} {F H : Hp} {σ : St} {E : Sto} (S : SI K e0 F H σ E) (i : Nat) {xs : List D} {vs : List V} {p : Addr} (n : ∀ i, ¬ Own H σ E i p) (ne : e0.H p = none) (f : F p = none) (e : H p = some (.lst vs)) (r : RepL K F xs vs) :
    SI K e0 F H (σ.set i (some (.ref p))) (E.set i (.ow xs)) := by
  refine ⟨by simpa using S.len, S.sub, fun j s hs => ?_, fun a b q h1 h2 => ?_, S.f0, S.h0, S.nf, fun j q h => ?_, S.dm⟩
  · by_cases hj : j = i
    · subst hj
      have hi : j < E.length := by
        have := (List.getElem?_eq_some_iff.mp hs).1
        simpa using this
      rw [List.getElem?_set_self hi] at hs
      cases hs
      rw [List.getElem?_set_self (by rw [S.len]; exact hi)]
      exact ⟨p, vs, rfl, e, f, r⟩
    · rw [List.getElem?_set_ne (Ne.symm hj)] at hs ⊢
      exact S.rel j s hs
  · rcases own_setO h1 with ⟨h1, n1⟩ | ⟨h1, n1⟩
    · rcases own_setO h2 with ⟨h2, n2⟩ | ⟨h2, n2⟩
      · exact S.apart a b q h1 h2
      · exact (n a (n2 ▸ h1)).elim
    · rcases own_setO h2 with ⟨h2, n2⟩ | ⟨h2, n2⟩
      · exact (n b (n1 ▸ h2)).elim
      · rw [h1, h2]
  · rcases own_setO h with ⟨h1, h2⟩ | ⟨h1, h2⟩
    · rw [List.getElem?_set_ne (Ne.symm h2)]
      exact S.ow j q h1
    · subst h2
      refine .inl ⟨ne, fun z => ?_⟩
      subst h1
      by_cases hi : j < E.length
      · rw [List.getElem?_set_self hi] at z
        rcases z with ⟨ys, z⟩ | ⟨c, ys, z⟩ <;> cases z
      · rw [List.getElem?_eq_none_iff.mpr (by simpa using hi)] at z
        rcases z with ⟨ys, z⟩ | ⟨c, ys, z⟩ <;> cases z

theorem dx_df (h : DF X e0 W a ga) : DX X e0 W a (sLs ga) := PE.weak h fun σ H Q ⟨E, F, S, h⟩ => ⟨E, F, S, frozen S h⟩
theorem ds_set {i : Nat} {x : Str} {pos' : Pos} (hN : X.N.Nodup) (hi : X.N[i]? = some x) (hx : Loc X.env.scope x) (he : DX X e0 W a fa) (hs : swapsWith a (some (.Name x pos')) pos.line X.env = pure false := by rfl) (hf : X.fn x = true ∨ X.env.scope.names.lookup x = some .local := by first | exact .inl rfl | exact .inr rfl | assumption) :
    DS X e0 W (.Assign [.Name x pos'] a pos) (sSet i fa) := PS.weak (ps_set hN hi hx he hs hf) fun D σ H ⟨E, F, S, h⟩ => rdG_intro S (h.bind fun d v E1 F1 H1 G1 S1 R1 h1 => h1 _ F1 H1 (fun _ _ h => h) (S1.set i R1))
theorem ds_own {i : Nat} {x : Str} {pos' : Pos} (hN : X.N.Nodup) (hi : X.N[i]? = some x) (hx : Loc X.env.scope x) (he : DF X e0 W a ga) (hs : swapsWith a (some (.Name x pos')) pos.line X.env = pure false := by rfl) (hf : X.fn x = true ∨ X.env.scope.names.lookup x = some .local := by first | exact .inl rfl | exact .inr rfl | assumption) :
    DS X e0 W (.Assign [.Name x pos'] a pos) (sOwn i ga) := PS.weak (ps_set hN hi hx he hs hf) fun D σ H ⟨E, F, S, h⟩ => ⟨E, F, S, PostS.bindF h fun xs p vs E1 F1 H1 G1 S1 h1 h2 h3 h4 h5 =>
      h5 _ F1 H1 (fun _ _ h => h) (S1.setO i (G1.notOwn S h1) (S.fresh0 h1) h2 h3 h4)⟩

/-! ### blocks -/
theorem dss_nil : DSs X e0 W [] sNext := PSs.weak pss_nil fun D σ H ⟨E, F, S, h⟩ => h σ F H (fun _ _ h => h) S
theorem dss_cons (h1 : DS X e0 W st s) (h2 : DSs X e0 W rest t) : DSs X e0 W (st :: rest) (sSeq s t) := PSs.weak (pss_cons h1 h2) fun D σ H ⟨E, F, S, h⟩ => by
  refine ⟨E, F, S, ?_⟩
  unfold sSeq at h
  cases e : s E with
  | nx E1 =>
    simp only [e] at h
    exact fun σ' F' H' s' S' => ⟨E1, F', S', PostS.rebase s' h⟩
  | rt r E1 =>
    simp only [e] at h
    exact h
  | bk E1 =>
    simp only [e] at h
    exact h
  | ct E1 =>
    simp only [e] at h
    exact h
  | ex x E1 =>
    simp only [e] at h
    exact h
  | bad =>
    simp only [e] at h
    exact h
theorem dss_one (h1 : DS X e0 W st s) : DSs X e0 W [st] s := pss_one h1
theorem ds_pass : DS X e0 W (.Pass pos) sNext := PS.weak ps_pass fun D σ H ⟨E, F, S, h⟩ => h σ F H (fun _ _ h => h) S
theorem ds_expr (h : DX X e0 W a fa) (hs : swapsWith a none pos.line X.env = pure false := by rfl) : DS X e0 W (.Expr a pos) (sDrop fa) := PS.weak (ps_expr h hs) fun D σ H ⟨E, F, S, h⟩ => rdG_intro S (h.bind fun d v E1 F1 H1 G1 S1 R1 h1 => h1 σ F1 H1 (fun _ _ h => h) S1)
theorem ds_ret (h : DX X e0 W a fa) : DS X e0 W (.Return (some a) pos) (sRet fa) := PS.weak (ps_ret h) fun D σ H ⟨E, F, S, h⟩ => rdG_intro S (h.bind fun d v E1 F1 H1 G1 S1 R1 h1 => h1 v σ F1 H1 S1 R1)
theorem ds_retF (h : DF X e0 W a ga) : DS X e0 W (.Return (some a) pos) (sRetF ga) := PS.weak (ps_ret h) fun D σ H ⟨E, F, S, h⟩ => ⟨E, F, S, PostS.bindF h fun xs p vs E1 F1 H1 G1 S1 h1 h2 h3 h4 h5 =>
  h5 _ σ F1 H1 S1 ⟨p, vs, rfl, S.fresh0 h1, h2, h3, h4⟩⟩
theorem ds_retN : DS X e0 W (.Return none pos) sRetN := PS.weak ps_retN fun D σ H ⟨E, F, S, h⟩ => h .non σ F H S (by simp [RepR, Rep])
theorem ds_if {cc : Expr} {p q : List Stmt} (hc : DT X e0 W cc c) (ha : DSs X e0 W p s) (hb : DSs X e0 W q t) : DS X e0 W (.If cc p q pos) (sCond c s t) := PS.weak (ps_if hc ha hb) fun D σ H ⟨E, F, S, h⟩ => rdG_intro S (h.bind fun d v E1 F1 H1 G1 S1 R1 h1 => by
  cases R1
  cases d with
  | true => exact ⟨E1, F1, S1, h1⟩
  | false => exact ⟨E1, F1, S1, h1⟩)
theorem ds_while {cc : Expr} {p : List Stmt} (n : Nat) (hp : PassesOwn (model X.prog X.w) X.A X.env X.xe) (hc : DT X e0 W cc c) (hb : DSs X e0 W p s) : DS X e0 W (.While cc p [] pos) (sWhile c s n) := by
  refine PS.weak (ps_while hp hc hb) fun D σ H ⟨E, F, S, h⟩ => ?_
  refine ⟨fun m σ H => ∃ E F, SI X.K e0 F H σ E ∧ PostS X.K e0 W F (sWhile c s m E) D, ⟨n, E, F, S, h⟩, ?_⟩
  rintro m σ H ⟨E, F, S, h⟩
  cases m with
  | zero => exact h.elim
  | succ m =>
    refine rdG_intro S (PostS.bind (D := D) h fun d v E1 F1 H1 G1 S1 R1 h1 => ?_)
    cases R1
    cases d with
    | false => exact h1 σ F1 H1 (fun _ _ h => h) S1
    | true =>
      refine ⟨fun σ' H' => ∃ E F, SI X.K e0 F H' σ' E ∧ PostS X.K e0 W F (sWhile c s m E) D, fun σ' H' q => ⟨m, Nat.lt_succ_self m, q⟩, E1, F1, S1, ?_⟩
      simp only [if_true] at h1
      cases e : s E1 with
      | nx E2 =>
        simp only [e] at h1
        exact fun σ' F' H' s' S' => ⟨E2, F', S', PostS.rebase s' h1⟩
      | ct E2 =>
        simp only [e] at h1
        exact fun σ' F' H' s' S' => ⟨E2, F', S', PostS.rebase s' h1⟩
      | bk E2 =>
        simp only [e] at h1
        exact h1
      | rt r E2 =>
        simp only [e] at h1
        exact h1
      | ex x E2 =>
        simp only [e] at h1
        exact h1
      | bad =>
        simp only [e] at h1
        exact h1
end
end Dn

set_option Elab.async false
set_option linter.all false
set_option maxRecDepth 100000
set_option maxHeartbeats 4000000
namespace Dn
open PySem L2

/-! ### targets -/
abbrev Tg := D → Sto → Option Sto
abbrev Tgs := List D → Sto → Option Sto
def Chg (is : List Nat) (σ σ' : St) : Prop := σ'.length = σ.length ∧ ∀ j, j ∉ is → σ'[j]? = σ[j]?
/-- of that value; a pair that zip lays is a tuple of which less is known -/
def RepW (kw : Bool) (K : PySem.W.Frag) (F : Hp) (d : D) (v : V) : Prop := Rep K F d v ∨ (kw = true ∧ ∃ ds a vs, d = .tup ds ∧ v = .ref a ∧ SqT K F a vs ∧ RepL K F ds vs)
theorem RepW.str {K : PySem.W.Frag} {F : Hp} {d : D} {v : V} (h : RepW false K F d v) : Rep K F d v := by
  rcases h with h | ⟨h, _⟩
  · exact h
  · cases h
def rdT (kw : Bool) (K : PySem.W.Frag) (e0 : E0) (is : List Nat) (t : Tg) : TG := fun v σ H Q => ∃ E F d E', SI K e0 F H σ E ∧ RepW kw K F d v ∧ t d E = some E' ∧ ∀ σ', Chg is σ σ' → SI K e0 F H σ' E' → Q σ' H
def rdTs (K : PySem.W.Frag) (e0 : E0) (is : List Nat) (t : Tgs) : TGs := fun vs σ H Q => ∃ E F ds E', SI K e0 F H σ E ∧ RepL K F ds vs ∧ t ds E = some E' ∧ ∀ σ', Chg is σ σ' → SI K e0 F H σ' E' → Q σ' H
/-- what a target changes -/
def StoChg (is : List Nat) (E E' : Sto) : Prop := E'.length = E.length ∧ (∀ j, j ∉ is → E'[j]? = E[j]?) ∧ ∀ j, j ∈ is → ∀ s, E'[j]? = some s → ∃ d, s = .vl d
structure DG (kw : Bool) (X : Cx) (e0 : E0) (is : List Nat) (e : Expr) (t : Tg) : Prop where
  pg : PG X e (rdT kw X.K e0 is t)
  chg : ∀ d E E', t d E = some E' → StoChg is E E'
structure DGs (X : Cx) (e0 : E0) (is : List Nat) (e : List Expr) (t : Tgs) (n : Nat) : Prop where
  pg : PGs X e (rdTs X.K e0 is t)
  chg : ∀ d E E', t d E = some E' → StoChg is E E'
  len : ∀ ds E E', t ds E = some E' → ds.length = n
theorem StoChg.refl {E : Sto} : StoChg [] E E := ⟨rfl, fun _ _ => rfl, fun j h => by simp at h⟩
theorem StoChg.app {is js : List Nat} {E E1 E2 : Sto} (a : StoChg is E E1) (b : StoChg js E1 E2) : StoChg (is ++ js) E E2 := ⟨b.1.trans a.1, fun j h => by
  rw [b.2.1 j (fun z => h (List.mem_append_right _ z)), a.2.1 j (fun z => h (List.mem_append_left _ z))], fun j h s hs => by
  by_cases hj : j ∈ js
  · exact b.2.2 j hj s hs
  · rw [b.2.1 j hj] at hs
    rcases List.mem_append.mp h with z | z
    · exact a.2.2 j z s hs
    · exact (hj z).elim⟩
theorem PG.weak {X : Cx} {e : Expr} {t t' : TG} (h : PG X e t) (w : ∀ v σ H Q, t' v σ H Q → t v σ H Q) : PG X e t' := ⟨fun pins s σ H v u Q I r q => h.run pins s σ H v u Q I r (w v σ H Q q)⟩
theorem PGs.weak {X : Cx} {e : List Expr} {t t' : TGs} (h : PGs X e t) (w : ∀ v σ H Q, t' v σ H Q → t v σ H Q) : PGs X e t' := ⟨fun pins s σ H v u Q I r q => h.run pins s σ H v u Q I r (w v σ H Q q)⟩
def gN (i : Nat) : Tg := fun d E => some (E.set i (.vl d))
def gNil' : Tgs := fun ds E => match ds with
  | [] => some E
  | _ => none
def gCons' (t : Tg) (u : Tgs) : Tgs := fun ds E => match ds with
  | d :: r => (t d E).bind fun E1 => u r E1
  | [] => none
def gTup' (t : Tgs) : Tg := fun d E => match d with
  | .tup ds => t ds E
  | _ => none
/-- a target list takes as many items as it has names -/
def TgLen (t : Tgs) (n : Nat) : Prop := ∀ ds E E', t ds E = some E' → ds.length = n
theorem tl_nil : TgLen gNil' 0 := fun ds E E' h => by
  cases ds with
  | nil => rfl
  | cons d ds => cases h
theorem tl_cons {t : Tg} {u : Tgs} {n : Nat} (h : TgLen u n) : TgLen (gCons' t u) (n + 1) := fun ds E E' e => by
  cases ds with
  | nil => cases e
  | cons d ds =>
    unfold gCons' at e
    cases q : t d E with
    | none => simp [q] at e
    | some E1 =>
      simp only [q, Option.bind_some] at e
      simp [h ds E1 E' e]
theorem Chg.refl {is : List Nat} {σ : St} : Chg is σ σ := ⟨rfl, fun _ _ => rfl⟩
theorem Chg.one {i : Nat} {σ : St} {o : Option V} : Chg [i] σ (σ.set i o) := ⟨by simp, fun j h => by
  rw [List.getElem?_set_ne (fun e => h (by simp [e]))]⟩
theorem Chg.app {is js : List Nat} {σ σ1 σ2 : St} (a : Chg is σ σ1) (b : Chg js σ1 σ2) : Chg (is ++ js) σ σ2 := ⟨b.1.trans a.1, fun j h => by
  rw [b.2 j (fun z => h (List.mem_append_right _ z)), a.2 j (fun z => h (List.mem_append_left _ z))]⟩
theorem Chg.wipe {is vs : List Nat} {σ σ' : St} (c : Chg is σ σ') (h : ∀ i ∈ is, i ∈ vs) : wipe σ' vs = wipe σ vs := by
  have key : ∀ (vs : List Nat) (τ : St) (j : Nat), j ∈ vs → j < τ.length → (L2.wipe τ vs)[j]? = some none := by
    intro vs
    induction vs with
    | nil => intro τ j h; simp at h
    | cons v vs ih =>
      intro τ j h hl
      show ((L2.wipe τ vs).set v none)[j]? = some none
      by_cases e : v = j
      · subst e
        rw [List.getElem?_set_self (by rw [wipe_length]; exact hl)]
      · rw [List.getElem?_set_ne e]
        refine ih τ j ?_ hl
        rcases List.mem_cons.mp h with z | z
        · exact (e z.symm).elim
        · exact z
  apply List.ext_getElem?
  intro j
  by_cases hj : j ∈ vs
  · by_cases hl : j < σ.length
    · rw [key vs σ' j hj (by rw [c.1]; exact hl), key vs σ j hj hl]
    · rw [List.getElem?_eq_none_iff.mpr (by rw [wipe_length, c.1]; omega), List.getElem?_eq_none_iff.mpr (by rw [wipe_length]; omega)]
  · rw [wipe_out hj, wipe_out hj]
    exact c.2 j fun z => hj (h j z)

/-! ### what is walked -/
structure ItOk (kw : Bool) (K : PySem.W.Frag) (F0 : Hp) (items : List D) (J : It) : Prop where
  go : ∀ i F H, i < items.length → Same F0 F → Same F H → J.go i H ∧ ∀ x H2, J.yld i H x H2 → ∃ F2 d, items[i]? = some d ∧ Alloc F H F2 H2 ∧ RepW kw K F2 d x
  stop : ∀ i F H, items.length ≤ i → Same F0 F → Same F H → J.stop i H
abbrev rdI (kw : Bool) (K : PySem.W.Frag) (e0 : E0) (W : WX) (f : SeL) : TI := rdG K e0 W (fun F ds J => ItOk kw K F ds J) f
def DI (kw : Bool) (X : Cx) (e0 : E0) (W : WX) (tg e : Expr) (f : SeL) : Prop := PI X tg e (rdI kw X.K e0 W f)
theorem PI.weak {X : Cx} {tg e : Expr} {t t' : TI} (h : PI X tg e t) (w : ∀ σ H R, t' σ H R → t σ H R) : PI X tg e t' := ⟨fun pins s σ H R I q => h.run pins s σ H R I (w σ H R q)⟩
theorem PI.or {X : Cx} {tg e : Expr} {t t' : TI} (h : PI X tg e t) (h' : PI X tg e t') : PI X tg e (fun σ H R => t σ H R ∨ t' σ H R) := ⟨fun pins s σ H R I q => by
  rcases q with q | q
  · exact h.run pins s σ H R I q
  · exact h'.run pins s σ H R I q⟩
def seqOf : D → Option (List D)
  | .lst xs => some xs
  | .tup xs => some xs
  | _ => none
def iSeq (a : Se) : SeL := fun E => (a E).bind fun d E1 => .opt (seqOf d) E1
def rng1O : List D → Option (List D)
  | [.int j] => if -4611686018427387904 ≤ j ∧ j < 4611686018427387904 then some ((List.range j.toNat).map fun k => .int (k : Nat)) else none
  | _ => none
def rng2O : List D → Option (List D)
  | [.int i, .int j] => if (-4611686018427387904 ≤ i ∧ i < 4611686018427387904) ∧ (-4611686018427387904 ≤ j ∧ j < 4611686018427387904) then some ((List.range (j - i).toNat).map fun k => .int (i + (k : Nat))) else none
  | _ => none
/-- range(a, b, c) -/
def rng3O : List D → Option (List D)
  | [.int i, .int j, .int c] => if c ≠ 0 ∧ c.natAbs < 1073741824 ∧ Builtin.Range.small i j c = true ∧ Builtin.Range.rangeSize i j c = ((Builtin.Range.rangeSize i j c).toNat : Int) then
      some ((List.range (Builtin.Range.rangeSize i j c).toNat).map fun k => .int (i + (k : Nat) * c)) else none
  | _ => none
def iCall (o : List D → Option (List D)) (a : SeL) : SeL := fun E => (a E).bind fun xs E1 => .opt (o xs) E1
def zipO : List D → Option (List D)
  | [.lst xs, .lst ys] => some ((xs.zip ys).map fun p => .tup [p.1, p.2])
  | [.tup xs, .tup ys] => some ((xs.zip ys).map fun p => .tup [p.1, p.2])
  | _ => none
section
variable {X : Cx} {e0 : E0} {W : WX} {a : Expr} {fa : Se} {ga : SeL} {pos tpos : Pos} {tg : Expr} {es : List Expr} {K : PySem.W.Frag} {F F' H H' : Hp}
theorem dg_name {i : Nat} {x : Str} (hN : X.N.Nodup) (hi : X.N[i]? = some x) (hx : Loc X.env.scope x) (hf : X.fn x = true ∨ X.env.scope.names.lookup x = some .local := by first | exact .inl rfl | exact .inr rfl | assumption) : DG false X e0 [i] (.Name x pos) (gN i) :=
  ⟨PG.weak (pg_name hN hi hx hf) fun v σ H Q ⟨E, F, d, E', S, r, e, h⟩ => by
    cases e
    exact h _ Chg.one (S.set i r.str), fun d E E' e => by
    cases e
    refine ⟨by simp, fun j h => by rw [List.getElem?_set_ne (fun e => h (by simp [e]))], fun j h s hs => ?_⟩
    have ej : j = i := by simpa using h
    subst ej
    have hi : j < E.length := by
      have := (List.getElem?_eq_some_iff.mp hs).1
      simpa using this
    rw [List.getElem?_set_self hi] at hs
    cases hs
    exact ⟨d, rfl⟩⟩
theorem dgs_nil : DGs X e0 [] [] gNil' 0 := by
  refine ⟨PGs.weak pgs_nil fun vs σ H Q ⟨E, F, ds, E', S, r, e, h⟩ => ?_, fun ds E E' e => ?_, tl_nil⟩
  · cases ds with
    | nil =>
      cases e
      simp only [RepL] at r
      exact ⟨r, h σ Chg.refl S⟩
    | cons d ds => cases e
  · cases ds with
    | nil => cases e; exact StoChg.refl
    | cons d ds => cases e
theorem dgs_cons {e : Expr} {es : List Expr} {t : Tg} {u : Tgs} {is js : List Nat} {n : Nat} (h1 : DG false X e0 is e t) (h2 : DGs X e0 js es u n)
    (hs : (assignEach (e :: es) X.env).map (·.2) = assign e X.env :: (assignEach es X.env).map (·.2) := by rfl) : DGs X e0 (is ++ js) (e :: es) (gCons' t u) (n + 1) := ⟨PGs.weak (pgs_cons h1.pg h2.pg hs) fun vs σ H Q ⟨E, F, ds, E', S, r, e, h⟩ => by
  cases ds with
  | nil => cases e
  | cons d ds =>
    simp only [RepL] at r
    obtain ⟨v, ws, e1, r1, r2⟩ := r
    unfold gCons' at e
    cases q : t d E with
    | none =>
      simp [q] at e
    | some E1 =>
      simp only [q, Option.bind_some] at e
      exact ⟨v, ws, e1, E, F, d, E1, S, .inl r1, q, fun σ1 c1 S1 => ⟨E1, F, ds, E', S1, r2, e, fun σ2 c2 S2 => h σ2 (c1.app c2) S2⟩⟩, fun ds E E' e => by
  cases ds with
  | nil => cases e
  | cons d ds =>
    unfold gCons' at e
    cases q : t d E with
    | none => simp [q] at e
    | some E1 =>
      simp only [q, Option.bind_some] at e
      exact (h1.chg d E E1 q).app (h2.chg ds E1 E' e), tl_cons h2.len⟩
theorem dg_tup {es : List Expr} {k n : Nat} {t : Tgs} {is : List Nat} (hc : X.calm = true) (h1 : DGs X e0 is es t n) (hn : (assignEach es X.env).length = n := by rfl) (hst : (assignEach es X.env).findIdx? (·.1) = none := by rfl) :
    DG true X e0 is (.Tuple es k pos) (gTup' t) := by
  refine ⟨PG.weak (pg_tup hc h1.pg hn hst) fun v σ H Q ⟨E, F, d, E', S, r, e, h⟩ => ?_, fun d E E' e => ?_⟩
  · cases d with
    | tup ds =>
      have r' : ∃ q vs, v = .ref q ∧ SqT X.K F q vs ∧ RepL X.K F ds vs := by
        rcases r with r | ⟨_, ds', q, vs, z, e1, e2, r⟩
        · simp only [Rep] at r
          obtain ⟨q, vs, e1, e2, r⟩ := r
          exact ⟨q, vs, e1, e2.sq, r⟩
        · cases z
          exact ⟨q, vs, e1, e2, r⟩
      obtain ⟨q, vs, e1, e2, r⟩ := r'
      exact ⟨q, vs, e1, seqT S.sub e2, by rw [← r.length]; exact h1.len _ _ _ e, E, F, ds, E', S, r, e, h⟩
    | _ => cases e
  · cases d with
    | tup ds => exact h1.chg ds E E' e
    | _ => cases e

theorem PI.of {kw : Bool} {wi wi' : TI} {e : Expr} (h : PI X tg e wi) (h' : PI X tg e wi') {f : SeL} (w : ∀ σ H R, rdI kw X.K e0 W f σ H R → wi σ H R ∨ wi' σ H R) : DI kw X e0 W tg e f := PI.weak (PI.or h h') w
theorem itl_ok {kw : Bool} {p : Addr} {ds : List D} {vs : List V} (h : SqL K F p vs) (r : RepL K F ds vs) : ItOk kw K F ds (Itl K p) where
  go := fun i F1 H hi s1 s2 => by
    have hv : i < vs.length := by rw [← r.length]; exact hi
    refine ⟨⟨vs, vs[i], seqL s2 (seqL s1 h), by simp [hv]⟩, fun x H2 y => ?_⟩
    obtain ⟨e, y⟩ := y
    subst e
    have e := y vs (seqL s2 (seqL s1 h))
    obtain ⟨d, e1, r1⟩ := (RepL.mono s1 _ _ r).getV e
    exact ⟨F1, d, e1, .refl s2, .inl r1⟩
  stop := fun i F1 H hi s1 s2 => ⟨vs, seqL s2 (seqL s1 h), by rw [← r.length]; exact hi⟩
theorem itt_ok {kw : Bool} {p : Addr} {ds : List D} {vs : List V} (h : SqT K F p vs) (r : RepL K F ds vs) : ItOk kw K F ds (Itt K p) where
  go := fun i F1 H hi s1 s2 => by
    have hv : i < vs.length := by rw [← r.length]; exact hi
    refine ⟨⟨vs, vs[i], seqT s2 (seqT s1 h), by simp [hv]⟩, fun x H2 y => ?_⟩
    obtain ⟨e, y⟩ := y
    subst e
    have e := y vs (seqT s2 (seqT s1 h))
    obtain ⟨d, e1, r1⟩ := (RepL.mono s1 _ _ r).getV e
    exact ⟨F1, d, e1, .refl s2, .inl r1⟩
  stop := fun i F1 H hi s1 s2 => ⟨vs, seqT s2 (seqT s1 h), by rw [← r.length]; exact hi⟩
theorem itr_ok {kw : Bool} {lo : Int} {n : Nat} : ItOk kw K F ((List.range n).map fun k => D.int (lo + (k : Nat))) (Itr lo n) where
  go := fun i F1 H hi s1 s2 => by
    have hi' : i < n := by simpa using hi
    refine ⟨hi', fun x H2 y => ?_⟩
    obtain ⟨e, y⟩ := y
    subst e
    exact ⟨F1, .int (lo + i), by simp [hi'], .refl s2, .inl (by simp [Rep, y])⟩
  stop := fun i F1 H hi s1 s2 => by
    show n ≤ i
    simpa using hi
theorem di_seq {kw : Bool} (h : DX X e0 W a fa) : DI kw X e0 W tg a (iSeq fa) := by
  refine PI.of (pi_list h) (pi_tup h) fun σ H R ⟨E, F, S, h⟩ => ?_
  unfold iSeq at h
  cases e : fa E with
  | ok d E1 =>
    simp only [e, Out.bind_ok] at h
    cases d with
    | lst ds =>
      refine .inl ⟨E, F, S, ?_⟩
      rw [e]
      intro v F1 H1 G1 S1 R1
      simp only [Rep] at R1
      obtain ⟨p, vs, e1, e2, r⟩ := R1
      exact ⟨p, e1, ⟨vs, seqL S1.sub (Evl.sq_of e2)⟩, h _ F1 H1 G1 S1 (itl_ok (Evl.sq_of e2) r)⟩
    | tup ds =>
      refine .inr ⟨E, F, S, ?_⟩
      rw [e]
      intro v F1 H1 G1 S1 R1
      simp only [Rep] at R1
      obtain ⟨p, vs, e1, e2, r⟩ := R1
      exact ⟨p, e1, ⟨vs, seqT S1.sub e2.sq⟩, h _ F1 H1 G1 S1 (itt_ok e2.sq r)⟩
    | _ => exact h.elim
  | ex x E1 =>
    simp only [e, Out.bind_ex] at h
    refine .inl ⟨E, F, S, ?_⟩
    rw [e]
    exact h
  | bad =>
    simp only [e, Out.bind_bad] at h
    exact h.elim
theorem di_range1 {kw : Bool} {p : Pos} (hg : Gl X "range") (hm : X.mg "range" = none) (ha : DA X e0 W [a] ga) (hs : starEach [a] X.env = [(false, eval a X.env)] := by rfl) : DI kw X e0 W tg (.Call (.Name "range" p) [a] [] pos) (iCall rng1O ga) := by
  refine PI.weak (pi_range1 hg hm ha hs) fun σ H R ⟨E, F, S, h⟩ => rdG_intro S (h.bind fun ds vs E1 F1 H1 G1 S1 R1 h1 => ?_)
  obtain ⟨items, e, h3⟩ := h1.opt
  unfold rng1O at e
  split at e
  · rename_i j
    split at e
    · rename_i hj
      cases e
      simp only [RepL, Rep] at R1
      obtain ⟨v, ws, e1, e2, e3⟩ := R1
      subst e1 e2 e3
      refine ⟨j, rfl, hj.1, hj.2, h3 _ F1 H1 .refl S1 ?_⟩
      have z := itr_ok (kw := kw) (K := X.K) (F := F1) (lo := 0) (n := j.toNat)
      simp only [Int.zero_add] at z
      exact z
    · cases e
  · cases e
theorem di_range2 {kw : Bool} {b : Expr} {p : Pos} (hg : Gl X "range") (hm : X.mg "range" = none) (ha : DA X e0 W [a, b] ga) (hs : starEach [a, b] X.env = [(false, eval a X.env), (false, eval b X.env)] := by rfl) (hs2 : starEach [b] X.env = [(false, eval b X.env)] := by rfl) :
    DI kw X e0 W tg (.Call (.Name "range" p) [a, b] [] pos) (iCall rng2O ga) := by
  refine PI.weak (pi_range2 hg hm ha hs hs2) fun σ H R ⟨E, F, S, h⟩ => rdG_intro S (h.bind fun ds vs E1 F1 H1 G1 S1 R1 h1 => ?_)
  obtain ⟨items, e, h3⟩ := h1.opt
  unfold rng2O at e
  split at e
  · rename_i i j
    split at e
    · rename_i hj
      cases e
      simp only [RepL, Rep] at R1
      obtain ⟨v, ws, e1, e2, v', ws', e3, e4, e5⟩ := R1
      subst e1 e2 e3 e4 e5
      exact ⟨i, j, rfl, ⟨hj.1.1, hj.1.2, hj.2.1, hj.2.2⟩, h3 _ F1 H1 .refl S1 itr_ok⟩
    · cases e
  · cases e
theorem itc_ok {kw : Bool} {lo c : Int} {n : Nat} : ItOk kw K F ((List.range n).map fun k => D.int (lo + (k : Nat) * c)) (Itc lo c n) where
  go := fun i F1 H hi s1 s2 => by
    have hi' : i < n := by simpa using hi
    refine ⟨hi', fun x H2 y => ?_⟩
    obtain ⟨e, y⟩ := y
    subst e
    exact ⟨F1, .int (lo + i * c), by simp [hi'], .refl s2, .inl (by simp [Rep, y])⟩
  stop := fun i F1 H hi s1 s2 => by
    show n ≤ i
    simpa using hi
theorem di_range3 {kw : Bool} {b c : Expr} {p : Pos} (hg : Gl X "range") (hm : X.mg "range" = none) (ha : DA X e0 W [a, b, c] ga) (hs : starEach [a, b, c] X.env = (false, eval a X.env) :: starEach [b, c] X.env := by rfl) (hpl : (backTo pos (starEach [b, c] X.env)).any (·.1) = false := by rfl) :
    DI kw X e0 W tg (.Call (.Name "range" p) [a, b, c] [] pos) (iCall rng3O ga) := by
  refine PI.weak (pi_range3 hg hm ha hs hpl) fun σ H R ⟨E, F, S, h⟩ => rdG_intro S (h.bind fun ds vs E1 F1 H1 G1 S1 R1 h1 => ?_)
  obtain ⟨items, e, h3⟩ := h1.opt
  unfold rng3O at e
  split at e
  · rename_i i j c
    split at e
    · rename_i hj
      cases e
      simp only [RepL, Rep] at R1
      obtain ⟨v, ws, e1, e2, v', ws', e3, e4, v2, ws2, e5, e6, e7⟩ := R1
      subst e1 e2 e3 e4 e5 e6 e7
      exact ⟨i, j, c, _, rfl, ⟨hj.1, hj.2.1, hj.2.2.1, hj.2.2.2⟩, h3 _ F1 H1 .refl S1 itc_ok⟩
    · cases e
  · cases e
theorem zip_get {xs ys : List D} {i : Nat} {x y : D} (h : ((xs.zip ys).map fun p => D.tup [p.1, p.2])[i]? = some (.tup [x, y])) : xs[i]? = some x ∧ ys[i]? = some y := by
  rw [List.getElem?_map] at h
  cases q : (xs.zip ys)[i]? with
  | none => rw [q] at h; cases h
  | some p =>
    rw [q] at h
    simp at h
    obtain ⟨h1, h2⟩ := h
    rw [List.getElem?_zip_eq_some] at q
    rw [← h1, ← h2]
    exact q
theorem di_zip {b : Expr} {p : Pos} {elts : List Expr} {kk : Nat} (hg : Gl X "zip") (hm : X.mg "zip" = none) (ha : DA X e0 W [a, b] ga)
    (hs : starEach [a, b] X.env = (false, eval a X.env) :: starEach [b] X.env := by rfl) (hpl : (backTo pos (starEach [b] X.env)).any (·.1) = false := by rfl) :
    DI true X e0 W (.Tuple elts kk tpos) (.Call (.Name "zip" p) [a, b] [] pos) (iCall zipO ga) := by
  refine PI.weak (RZ.pi_zipA hg hm ha hs hpl) fun σ H R ⟨E, F, S, h⟩ => rdG_intro S (h.bind fun ds vs E1 F1 H1 G1 S1 R1 h1 => ?_)
  obtain ⟨items, e, h3⟩ := h1.opt
  have al : ∀ {F1 H : Hp} {T : Addr} {x y : V} {dx dy : D}, Same F1 H → H T = none → Rep X.K F1 dx x → Rep X.K F1 dy y → ∃ F2 d, some (D.tup [dx, dy]) = some d ∧ Alloc F1 H F2 (upd H T (.tup [x, y])) ∧ RepW true X.K F2 d (.ref T) := fun {F1 H T x y dx dy} s n r1 r2 => by
    refine ⟨_, _, rfl, .new s n, ?_⟩
    have z : Same F1 (upd F1 T (.tup [x, y])) := same_upd (fresh_F s n)
    exact .inr ⟨rfl, _, T, [x, y], rfl, rfl, .inl (.inl upd_same), .cons (Rep.mono z _ _ r1) (.cons (Rep.mono z _ _ r2) .nil)⟩
  unfold zipO at e
  split at e
  · rename_i xs ys
    cases e
    simp only [RepL, Rep] at R1
    obtain ⟨v, ws, e1, ⟨p1, vs1, e2, h4', r1⟩, v', ws', e3, ⟨p2, vs2, e4, h5', r2⟩, e5⟩ := R1
    have h4 : SqL X.K F1 p1 vs1 := Evl.sq_of h4'
    have h5 : SqL X.K F1 p2 vs2 := Evl.sq_of h5'
    subst e1 e2 e3 e4 e5
    refine ⟨p1, p2, vs1, vs2, rfl, .inl ⟨seqL S1.sub h4, seqL S1.sub h5, h3 _ F1 H1 .refl S1 ⟨fun i F2 H2 hi s1 s2 => ?_, fun i F2 H2 hi s1 s2 => ?_⟩⟩⟩
    · have hz : i < min xs.length ys.length := by simpa using hi
      have hi' : i < xs.length ∧ i < ys.length := ⟨by omega, by omega⟩
      have k1 : i < vs1.length := by rw [← r1.length]; exact hi'.1
      have k2 : i < vs2.length := by rw [← r2.length]; exact hi'.2
      refine ⟨⟨vs1, vs2, vs1[i], vs2[i], seqL s2 (seqL s1 h4), seqL s2 (seqL s1 h5), by simp [k1], by simp [k2]⟩, fun x H3 y => ?_⟩
      obtain ⟨T, x1, y1, ex, hT, eH, g1, g2⟩ := y
      subst ex eH
      obtain ⟨d1, a1, b1⟩ := (RepL.mono s1 _ _ r1).getV (g1 vs1 (seqL s2 (seqL s1 h4)))
      obtain ⟨d2, a2, b2⟩ := (RepL.mono s1 _ _ r2).getV (g2 vs2 (seqL s2 (seqL s1 h5)))
      obtain ⟨F3, d, ed, A, R⟩ := al s2 hT b1 b2
      cases ed
      exact ⟨F3, _, by rw [List.getElem?_map, (List.getElem?_zip_eq_some (z := (d1, d2))).mpr ⟨a1, a2⟩]; rfl, A, R⟩
    · refine ⟨vs1, vs2, seqL s2 (seqL s1 h4), seqL s2 (seqL s1 h5), ?_⟩
      rw [← r1.length, ← r2.length]
      have : min xs.length ys.length ≤ i := by simpa using hi
      omega
  · rename_i xs ys
    cases e
    simp only [RepL, Rep] at R1
    obtain ⟨v, ws, e1, ⟨p1, vs1, e2, h4', r1⟩, v', ws', e3, ⟨p2, vs2, e4, h5', r2⟩, e5⟩ := R1
    have h4 := h4'.sq
    have h5 := h5'.sq
    subst e1 e2 e3 e4 e5
    refine ⟨p1, p2, vs1, vs2, rfl, .inr ⟨seqT S1.sub h4, seqT S1.sub h5, h3 _ F1 H1 .refl S1 ⟨fun i F2 H2 hi s1 s2 => ?_, fun i F2 H2 hi s1 s2 => ?_⟩⟩⟩
    · have hz : i < min xs.length ys.length := by simpa using hi
      have hi' : i < xs.length ∧ i < ys.length := ⟨by omega, by omega⟩
      have k1 : i < vs1.length := by rw [← r1.length]; exact hi'.1
      have k2 : i < vs2.length := by rw [← r2.length]; exact hi'.2
      refine ⟨⟨vs1, vs2, vs1[i], vs2[i], seqT s2 (seqT s1 h4), seqT s2 (seqT s1 h5), by simp [k1], by simp [k2]⟩, fun x H3 y => ?_⟩
      obtain ⟨T, x1, y1, ex, hT, eH, g1, g2⟩ := y
      subst ex eH
      obtain ⟨d1, a1, b1⟩ := (RepL.mono s1 _ _ r1).getV (g1 vs1 (seqT s2 (seqT s1 h4)))
      obtain ⟨d2, a2, b2⟩ := (RepL.mono s1 _ _ r2).getV (g2 vs2 (seqT s2 (seqT s1 h5)))
      obtain ⟨F3, d, ed, A, R⟩ := al s2 hT b1 b2
      cases ed
      exact ⟨F3, _, by rw [List.getElem?_map, (List.getElem?_zip_eq_some (z := (d1, d2))).mpr ⟨a1, a2⟩]; rfl, A, R⟩
    · refine ⟨vs1, vs2, seqT s2 (seqT s1 h4), seqT s2 (seqT s1 h5), ?_⟩
      rw [← r1.length, ← r2.length]
      have : min xs.length ys.length ≤ i := by simpa using hi
      omega
  · cases e
end
end Dn

set_option Elab.async false
set_option linter.all false
set_option maxRecDepth 100000
set_option maxHeartbeats 4000000
namespace Dn
open PySem L2

/-! ### for -/
def sLoop (t : Tg) (b : Ss) : List D → Ss
  | [] => fun E => .nx E
  | d :: ds => fun E => match t d E with
    | some E1 => (match b E1 with
      | .nx E2 => sLoop t b ds E2
      | .ct E2 => sLoop t b ds E2
      | .bk E2 => .nx E2
      | r => r)
    | none => .bad
def sFor (f : SeL) (t : Tg) (b : Ss) : Ss := fun E => (f E).then fun items E1 => sLoop t b items E1
/-! ### comprehensions -/
def wipeE (E : Sto) : List Nat → Sto
  | [] => E
  | v :: vs => (wipeE E vs).set v .un
def sComp (t : Tg) (tst : SeB) (el : Se) (vs : List Nat) : List D → Sto → Option (List D × Sto)
  | [], E => some ([], E)
  | d :: ds, E => match t d E with
    | none => none
    | some E1 => (match tst E1 with
      | .ok true E2 => (match el E2 with
        | .ok y E3 => (match sComp t tst el vs ds (wipeE E3 vs) with
          | some (ys, E4) => some (y :: ys, E4)
          | none => none)
        | _ => none)
      | .ok false E2 => sComp t tst el vs ds (wipeE E2 vs)
      | _ => none)
def sLc (f : SeL) (t : Tg) (tst : SeB) (el : Se) (vs : List Nat) : SeL := fun E => (f E).bind fun items E1 => match sComp t tst el vs items (wipeE E1 vs) with
  | some (ys, E2) => if ys.length ≤ 1000000 then .ok ys E2 else .bad
  | none => .bad
def bYes : SeB := fun E => .ok true E

theorem wipeE_length (E : Sto) : ∀ vs, (wipeE E vs).length = E.length
  | [] => rfl
  | v :: vs => by simp [wipeE, wipeE_length E vs]
theorem wipeE_out {E : Sto} {j : Nat} : ∀ {vs : List Nat}, j ∉ vs → (wipeE E vs)[j]? = E[j]?
  | [], _ => rfl
  | v :: vs, h => by
    show ((wipeE E vs).set v .un)[j]? = E[j]?
    rw [List.getElem?_set_ne (fun e => h (by simp [e]))]
    exact wipeE_out fun z => h (List.mem_cons_of_mem _ z)
theorem wipeE_in {E : Sto} {j : Nat} {s : Sl} : ∀ {vs : List Nat}, j ∈ vs → (wipeE E vs)[j]? = some s → s = .un
  | [], h, _ => by simp at h
  | v :: vs, h, e => by
    have e' : ((wipeE E vs).set v .un)[j]? = some s := e
    by_cases hj : v = j
    · subst hj
      have hi : v < (wipeE E vs).length := by
        have := (List.getElem?_eq_some_iff.mp e').1
        simpa using this
      rw [List.getElem?_set_self hi] at e'
      cases e'
      rfl
    · rw [List.getElem?_set_ne hj] at e'
      refine wipeE_in (E := E) (vs := vs) ?_ e'
      rcases List.mem_cons.mp h with z | z
      · exact (hj z.symm).elim
      · exact z
theorem wipe_wipe {σ : St} {vs : List Nat} : wipe (wipe σ vs) vs = wipe σ vs := Chg.wipe (is := vs) ⟨wipe_length σ vs, fun j h => wipe_out h⟩ fun _ h => h
section
variable {K : PySem.W.Frag} {e0 : E0} {W : WX} {σ τ : St} {E E1 E2 : Sto} {F F1 F2 H H1 H2 : Hp} {vs : List Nat}
theorem own_wipe {i : Nat} {p : Addr} (h : Own H (wipe σ vs) (wipeE E vs) i p) : Own H σ E i p ∧ i ∉ vs := by
  unfold Own at h ⊢
  by_cases hi : i ∈ vs
  · cases e : (wipeE E vs)[i]? with
    | none => simp [e] at h
    | some s =>
      have q := wipeE_in hi e
      subst q
      simp [e] at h
  · rw [wipeE_out hi, wipe_out hi] at h
    exact ⟨h, hi⟩
theorem SI.wipe (S : SI K e0 F H σ E) (vs : List Nat) : SI K e0 F H (L2.wipe σ vs) (wipeE E vs) := by
  refine ⟨by rw [wipe_length, wipeE_length]; exact S.len, S.sub, fun j s hs => ?_, fun a b q h1 h2 => S.apart a b q (own_wipe h1).1 (own_wipe h2).1, S.f0, S.h0, S.nf, fun j q h => ?_, S.dm⟩
  · by_cases hj : j ∈ vs
    · rw [wipeE_in hj hs]
      trivial
    · rw [wipeE_out hj] at hs
      rw [wipe_out hj]
      exact S.rel j s hs
  · obtain ⟨h1, h2⟩ := own_wipe h
    rw [wipeE_out h2]
    exact S.ow j q h1
/-- back to the slots as they were -/
theorem SI.unwipe (S : SI K e0 F H (L2.wipe σ vs) E) (hu : ∀ j ∈ vs, ∀ s, E[j]? = some s → s = .un) : SI K e0 F H σ E := by
  have own : ∀ i p, Own H σ E i p → Own H (L2.wipe σ vs) E i p := fun i p h => by
    have hi : i ∉ vs := fun z => by
      unfold Own at h
      cases e : E[i]? with
      | none => simp [e] at h
      | some s =>
        have q := hu i z s e
        subst q
        simp [e] at h
    unfold Own at h ⊢
    rw [wipe_out hi]
    exact h
  refine ⟨by rw [← S.len, wipe_length], S.sub, fun j s hs => ?_, fun a b q h1 h2 => S.apart a b q (own a q h1) (own b q h2), S.f0, S.h0, S.nf, fun j q h => S.ow j q (own j q h), S.dm⟩
  by_cases hj : j ∈ vs
  · rw [hu j hj s hs]
    trivial
  · have r := S.rel j s hs
    rw [wipe_out hj] at r
    exact r
theorem own_unwipe (hu : ∀ j ∈ vs, ∀ s, E[j]? = some s → s = .un) {i : Nat} {p : Addr} (h : Own H σ E i p) : Own H (L2.wipe σ vs) E i p := by
  have hi : i ∉ vs := fun z => by
    unfold Own at h
    cases e : E[i]? with
    | none => simp [e] at h
    | some s =>
      have q := hu i z s e
      subst q
      simp [e] at h
  unfold Own at h ⊢
  rw [wipe_out hi]
  exact h
theorem own_tgt {is : List Nat} {σ' : St} {E' : Sto} (c : Chg is σ σ') (e : StoChg is E E') {i : Nat} {p : Addr} (h : Own H σ' E' i p) : Own H σ E i p := by
  unfold Own at h ⊢
  by_cases hi : i ∈ is
  · cases q : E'[i]? with
    | none => simp [q] at h
    | some s =>
      obtain ⟨d, hd⟩ := e.2.2 i hi s q
      subst hd
      simp [q] at h
  · rw [e.2.1 i hi, c.2 i hi] at h
    exact h
/-- something that nobody here holds is changed -/
theorem own_mut (S : SI K e0 F H σ E) {p : Addr} {o : HO} (n : ∀ i, ¬ Own H σ E i p) {i : Nat} {q : Addr} : Own (upd H p o) σ E i q ↔ Own H σ E i q := by
  have key : ∀ rows, E[i]? = some (.mx rows) → ∃ (q0 : Addr) (ps : List Addr), σ[i]? = some (some (.ref q0)) ∧ H q0 = some (.lst (ps.map V.ref)) ∧ q0 ≠ p := fun rows e => by
    obtain ⟨q0, ps, e1, h1, _⟩ := S.rel i _ e
    refine ⟨q0, ps, e1, h1, fun z => ?_⟩
    subst z
    refine n i ?_
    unfold Own
    rw [e]
    exact ⟨q0, ps, e1, h1, .inl rfl⟩
  unfold Own
  cases e : E[i]? with
  | none => exact Iff.rfl
  | some s =>
    cases s with
    | mx rows =>
      obtain ⟨q0, ps, e1, h1, ne⟩ := key rows e
      constructor
      · rintro ⟨q', ps', e2, h2, hp⟩
        rw [e1] at e2
        cases e2
        rw [upd_ne ne] at h2
        exact ⟨q0, ps', e1, h2, hp⟩
      · rintro ⟨q', ps', e2, h2, hp⟩
        rw [e1] at e2
        cases e2
        exact ⟨q0, ps', e1, by rw [upd_ne ne]; exact h2, hp⟩
    | _ => exact Iff.rfl
theorem SI.mut (S : SI K e0 F H σ E) {p : Addr} {o : HO} (f : F p = none) (n : ∀ i, ¬ Own H σ E i p) (ne : e0.H p = none) : SI K e0 F (upd H p o) σ E where
  len := S.len
  sub := fun b u e => by
    have : b ≠ p := fun z => by
      subst z
      rw [f] at e
      cases e
    rw [upd_ne this]
    exact S.sub b u e
  rel := fun j s hs => by
    have r := S.rel j s hs
    have nn : ∀ q, Own H σ E j q → q ≠ p := fun q h z => by
      subst z
      exact n j h
    cases s with
    | un => trivial
    | vl d => exact r
    | ow ys =>
      obtain ⟨p', vs', h1, h2, h3, h4⟩ := r
      exact ⟨p', vs', h1, by rw [upd_ne (nn p' (own_of_slot hs h1))]; exact h2, h3, h4⟩
    | st ys =>
      obtain ⟨p', vs', h1, h2, h3, h4⟩ := r
      exact ⟨p', vs', h1, by rw [upd_ne (nn p' (own_of_slot hs h1))]; exact h2, h3, h4⟩
    | nw c ys =>
      obtain ⟨p', dx, vs', h1, h2, h3, h4⟩ := r
      exact ⟨p', dx, vs', h1, by rw [upd_ne (nn p' (own_of_slot hs h1))]; exact h2, h3, h4⟩
    | mx rows =>
      obtain ⟨q0, ps, h1, h2, h3, h4, h5, h6, h7⟩ := r
      refine ⟨q0, ps, h1, by rw [upd_ne (nn q0 (own_of_slot hs ⟨q0, ps, h1, h2, .inl rfl⟩))]; exact h2, h3, h4, h5, h6, fun k p' r' a1 a2 => ?_⟩
      obtain ⟨b1, vs', b2, b3⟩ := h7 k p' r' a1 a2
      exact ⟨b1, vs', by rw [upd_ne (nn p' (own_of_slot hs ⟨q0, ps, h1, h2, .inr (List.mem_of_getElem? a1)⟩))]; exact b2, b3⟩
  apart := fun a b q h1 h2 => S.apart a b q ((own_mut S n).mp h1) ((own_mut S n).mp h2)
  f0 := S.f0
  h0 := fun b u e m => by
    have : b ≠ p := fun z => by
      subst z
      rw [ne] at e
      cases e
    rw [upd_ne this]
    exact S.h0 b u e m
  nf := S.nf
  ow := fun i q h => S.ow i q ((own_mut S n).mp h)
  dm := fun b h => by
    by_cases hb : b = p
    · subst hb
      rw [upd_same]
      exact fun z => nomatch z
    · rw [upd_ne hb]
      exact S.dm b h
theorem PostF.rebase {r : Out (List D)} {Q : VK} (g : Grow σ E F H E1 F1 H1) (h : PostF K e0 W σ E F H r Q) : PostF K e0 W σ E1 F1 H1 r Q := by
  cases r with
  | ok a E' => exact fun p vs F' H' g' s h1 h2 h3 h4 => h p vs F' H' (g.trans g') s (g.back h1) h2 h3 h4
  | ex x E' => exact fun c d F' H' g' s r => h c d F' H' (g.trans g') s r
  | bad => exact h
theorem PostF.bind {γ δ : Type} {rep1 : Hp → γ → δ → Prop} {r : Out γ} {g : γ → Sto → Out (List D)} {Q : VK} {Q1 : δ → Hp → Prop} (h : PostF K e0 W σ E F H (r.bind g) Q)
    (k : ∀ a b E1 F1 H1, Grow σ E F H E1 F1 H1 → SI K e0 F1 H1 σ E1 → rep1 F1 a b → PostF K e0 W σ E1 F1 H1 (g a E1) Q → Q1 b H1) : Post K e0 W rep1 σ E F H r Q1 := by
  cases r with
  | ok a E' => exact fun b F' H' g' s r => k a b E' F' H' g' s r (PostF.rebase g' h)
  | ex x E' => exact fun c d F' H' g' s r => h c d F' H' g' s r
  | bad => exact h
/-- what an expression's reading asks where it is known what comes out -/
theorem Post.ok {α β : Type} {rep : Hp → α → β → Prop} {r : Out α} {a : α} {Q : β → Hp → Prop} (e : r = .ok a E1) (h : ∀ b F' H', Grow σ E F H E1 F' H' → SI K e0 F' H' σ E1 → rep F' a b → Q b H') : Post K e0 W rep σ E F H r Q := by
  subst e
  exact h
end

section
variable {X : Cx} {e0 : E0} {W : WX} {tg iter : Expr} {f : SeL} {t : Tg} {is : List Nat} {body : List Stmt} {b : Ss} {pos : Pos}
theorem ds_for {kw : Bool} (hp : PassesOwn (model X.prog X.w) X.A X.env X.xe) (hc : X.calm = true) (hi : DI kw X e0 W tg iter f) (hg : DG kw X e0 is tg t) (hb : DSs X e0 W body b) (hs : ∀ x, foldedSetIterable iter X.env x = pure x := by intro _; rfl) :
    DS X e0 W (.For tg iter body [] pos) (sFor f t b) := by
  refine PS.weak (ps_for hp hc hi hg.pg hb hs) fun D σ H ⟨E, F, S, h⟩ => rdG_intro S (PostS.bind (D := D) h fun items J E1 F1 H1 G1 S1 R1 h1 => ?_)
  refine ⟨fun i m σ H => m = items.length - i ∧ i ≤ items.length ∧ ∃ E F, Same F1 F ∧ SI X.K e0 F H σ E ∧ PostS X.K e0 W F (sLoop t b (items.drop i) E) D, ⟨items.length, by simp, Nat.zero_le _, E1, F1, fun _ _ h => h, S1, by simpa using h1⟩, ?_⟩
  rintro i m σ H ⟨rfl, hi, E, F, s, S, h⟩
  by_cases hlt : i < items.length
  · refine .inr ⟨(R1.go i F H hlt s S.sub).1, fun σ' H' => ∃ E F, Same F1 F ∧ SI X.K e0 F H' σ' E ∧ PostS X.K e0 W F (sLoop t b (items.drop (i + 1)) E) D, fun σ' H' q => ⟨items.length - (i + 1), by omega, rfl, hlt, q⟩, fun x H2 y => ?_⟩
    obtain ⟨F2, d, ed, al, r⟩ := (R1.go i F H hlt s S.sub).2 x H2 y
    have S2 := S.alloc al
    have dr : items.drop i = d :: items.drop (i + 1) := by
      obtain ⟨hl, e⟩ := List.getElem?_eq_some_iff.mp ed
      rw [List.drop_eq_getElem_cons hl, e]
    rw [dr] at h
    unfold sLoop at h
    cases q : t d E with
    | none =>
      simp only [q] at h
      exact h.elim
    | some E' =>
      simp only [q] at h
      refine ⟨E, F2, d, E', S2, r, q, fun σ' c S' => ⟨E', F2, S', ?_⟩⟩
      have s2 : Same F1 F2 := Same.tr s al.sF
      cases e : b E' with
      | nx E2 =>
        simp only [e] at h
        exact fun σ3 F3 H3 s3 S3 => ⟨E2, F3, Same.tr s2 s3, S3, PostS.rebase (Same.tr al.sF s3) h⟩
      | ct E2 =>
        simp only [e] at h
        exact fun σ3 F3 H3 s3 S3 => ⟨E2, F3, Same.tr s2 s3, S3, PostS.rebase (Same.tr al.sF s3) h⟩
      | bk E2 =>
        simp only [e] at h
        exact fun σ3 F3 H3 s3 S3 => h σ3 F3 H3 (Same.tr al.sF s3) S3
      | rt r E2 =>
        simp only [e] at h
        exact h
      | ex x E2 =>
        simp only [e] at h
        exact h
      | bad =>
        simp only [e] at h
        exact h
  · have e : items.drop i = [] := List.drop_eq_nil_of_le (by omega)
    rw [e] at h
    exact .inl ⟨R1.stop i F H (by omega) s S.sub, h σ F H (fun _ _ h => h) S⟩

theorem dx_tYes {X : Cx} : ∀ σ H Q, rdB X.K e0 W bYes σ H Q → tYes σ H Q := fun σ H Q ⟨E, F, S, h⟩ => h.fin0 S rfl
theorem lc_rd {kw : Bool} {K : PySem.W.Frag} {g : TG} {tt : TT} {te : TE} {vs : List Nat} {tst : SeB} {el : Se} {wi : TI} {W1 : WX}
    (hw : ∀ σ H R, rdI kw K e0 W f σ H R → wi σ H R) (hg : ∀ v σ H Q, rdT kw K e0 is t v σ H Q → g v σ H Q) (hch : ∀ d E E', t d E = some E' → StoChg is E E') (hiv : ∀ i ∈ is, i ∈ vs)
    (ht : ∀ σ H Q, rdB K e0 W1 tst σ H Q → tt σ H Q) (he : ∀ σ H Q, rd K e0 W1 el σ H Q → te σ H Q) {σ : St} {H : Hp} {Q : VK} (h : rdF K e0 W (sLc f t tst el vs) σ H Q) : tLc wi g tt te vs σ H Q := by
  obtain ⟨E, F, S, h⟩ := h
  refine hw σ H _ (rdG_intro S (PostF.bind h fun items J E1 F1 H1 G1 S1 R1 h1 => fun Dd hD => ?_))
  have hD0 : e0.H Dd = none := S1.fresh0 hD
  have fD : F1 Dd = none := fresh_F S1.sub hD
  have nD : ∀ i, ¬ Own H1 σ E1 i Dd := fun i o => by
    obtain ⟨u, e, _⟩ := own_some S1 o
    rw [hD] at e
    cases e
  cases hq : sComp t tst el vs items (wipeE E1 vs) with
  | none =>
    simp only [hq] at h1
    exact h1.elim
  | some r =>
    obtain ⟨out, E2⟩ := r
    simp only [hq] at h1
    by_cases hl : out.length ≤ 1000000
    · rw [if_pos hl] at h1
      refine ⟨fun i m H => m = items.length - i ∧ i ≤ items.length ∧ ∃ E F acc accV ys, SI K e0 F H (wipe σ vs) E ∧ Grow (wipe σ vs) (wipeE E1 vs) F1 H1 E F H ∧ H Dd = some (.lst accV) ∧ F Dd = none ∧ RepL K F acc accV ∧ (∀ j ∈ vs, ∀ s, E[j]? = some s → s = .un) ∧
        sComp t tst el vs (items.drop i) E = some (ys, E2) ∧ acc ++ ys = out, ?_, ?_⟩
      · refine ⟨items.length, by simp, Nat.zero_le _, wipeE E1 vs, F1, [], [], out, ?_, ?_, upd_same, fD, .nil, fun j hj s hs => wipeE_in hj hs, by simpa using hq, by simp⟩
        · exact (S1.wipe vs).alloc (Alloc.newH S1.sub hD)
        · exact (S1.wipe vs).grow (Alloc.newH S1.sub hD)
      · rintro i m H ⟨rfl, hi, E, F, acc, accV, ys, S2, G2, eD, fD2, rA, hu, hc, ho⟩
        by_cases hlt : i < items.length
        · refine .inr ⟨(R1.go i F H hlt G2.sF S2.sub).1, fun H' => ∃ E F acc accV ys, SI K e0 F H' (wipe σ vs) E ∧ Grow (wipe σ vs) (wipeE E1 vs) F1 H1 E F H' ∧ H' Dd = some (.lst accV) ∧ F Dd = none ∧ RepL K F acc accV ∧ (∀ j ∈ vs, ∀ s, E[j]? = some s → s = .un) ∧
            sComp t tst el vs (items.drop (i + 1)) E = some (ys, E2) ∧ acc ++ ys = out, fun H' q => ⟨items.length - (i + 1), by omega, rfl, hlt, q⟩, fun x Hx y => ?_⟩
          obtain ⟨Fx, d, ed, al, r⟩ := (R1.go i F H hlt G2.sF S2.sub).2 x Hx y
          have S3 := S2.alloc al
          have dr : items.drop i = d :: items.drop (i + 1) := by
            obtain ⟨hl, e⟩ := List.getElem?_eq_some_iff.mp ed
            rw [List.drop_eq_getElem_cons hl, e]
          rw [dr] at hc
          unfold sComp at hc
          have nD2 : ∀ i, ¬ Own H (wipe σ vs) E i Dd := fun i o => nD i (own_wipe (G2.own i Dd o)).1
          cases q : t d E with
          | none => simp [q] at hc
          | some E' =>
            simp only [q] at hc
            refine hg x _ _ _ ⟨E, Fx, d, E', S3, r, q, fun σ' c S' => ⟨by rw [c.wipe hiv, wipe_wipe], ?_⟩⟩
            have hτ : wipe σ' vs = wipe σ vs := by rw [c.wipe hiv, wipe_wipe]
            have ch := hch d E E' q
            have fx : Fx Dd = none := al.nf Dd (by rw [eD]; exact fun z => nomatch z) fD2
            have eDx : Hx Dd = some (.lst accV) := al.sH _ _ eD
            have nDx : ∀ i, ¬ Own Hx σ' E' i Dd := fun i o => nD2 i ((own_alloc S2 al.sH i Dd).mp (own_tgt c ch o))
            -- behind the element or the test: all that a turn has to keep
            have carry : ∀ (E3 : Sto) (F3 H3 : Hp), Grow σ' E' Fx Hx E3 F3 H3 → SI K e0 F3 H3 σ' E3 → SI K e0 F3 H3 (wipe σ vs) (wipeE E3 vs) ∧ Grow (wipe σ vs) (wipeE E1 vs) F1 H1 (wipeE E3 vs) F3 H3 ∧ H3 Dd = some (.lst accV) ∧ F3 Dd = none ∧ RepL K F3 acc accV ∧
                (∀ j ∈ vs, ∀ s, (wipeE E3 vs)[j]? = some s → s = .un) ∧ ∀ i, ¬ Own H3 σ' E3 i Dd := fun E3 F3 H3 g S4 => by
              have back : ∀ i p, Own H3 σ' E3 i p → Own H (wipe σ vs) E i p := fun i p o => (own_alloc S2 al.sH i p).mp (own_tgt c ch (g.own i p o))
              refine ⟨by rw [← hτ]; exact S4.wipe vs, ⟨Same.tr G2.sF (Same.tr al.sF g.sF), fun b o e n => ?_, fun b e f n => ?_, fun b e => g.dm b (?_ : Hx b ≠ none), fun i p o => ?_⟩, g.keep _ _ eDx nDx, g.nf _ (by rw [eDx]; exact fun z => nomatch z) fx nDx,
                RepL.mono (Same.tr al.sF g.sF) _ _ rA, fun j hj s hs => wipeE_in hj hs, fun i o => nD2 i (back i Dd o)⟩
              · refine g.keep b o (al.sH b o (G2.keep b o e n)) fun i o' => n i (G2.own i b ((own_alloc S2 al.sH i b).mp (own_tgt c ch o')))
              · exact g.nf b (fun z => G2.dm b e (by
                  cases w : H b with
                  | none => rfl
                  | some u => rw [al.sH b u w] at z; cases z)) (al.nf b (G2.dm b e) (G2.nf b e f n)) fun i o' => n i (G2.own i b ((own_alloc S2 al.sH i b).mp (own_tgt c ch o')))
              · exact fun z => G2.dm b e (by
                  cases w : H b with
                  | none => rfl
                  | some u => rw [al.sH b u w] at z; cases z)
              · rw [← hτ] at o
                exact G2.own i p (back i p (own_wipe o).1)
            cases e2 : tst E' with
            | ok bb E3 =>
              simp only [e2] at hc
              refine ht _ _ _ ⟨E', Fx, S', Post.ok e2 fun b' F3 H3 G3 S4 rb => ?_⟩
              subst rb
              cases bb with
              | false =>
                simp only [Bool.false_eq_true, if_false]
                obtain ⟨c1, c2, c3, c4, c5, c6, _⟩ := carry E3 F3 H3 G3 S4
                exact ⟨wipeE E3 vs, F3, acc, accV, ys, c1, c2, c3, c4, c5, c6, hc, ho⟩
              | true =>
                simp only [if_true]
                cases e3 : el E3 with
                | ok y' E4 =>
                  simp only [e3] at hc
                  refine he _ _ _ ⟨E3, F3, S4, Post.ok e3 fun v F4 H4 G4 S5 rv => ?_⟩
                  obtain ⟨c1, c2, c3, c4, c5, c6, c7⟩ := carry E4 F4 H4 (G3.trans G4) S5
                  cases e4 : sComp t tst el vs (items.drop (i + 1)) (wipeE E4 vs) with
                  | none => simp [e4] at hc
                  | some r2 =>
                    obtain ⟨ys2, E5⟩ := r2
                    simp only [e4, Option.some.injEq, Prod.mk.injEq] at hc
                    obtain ⟨h6, h7⟩ := hc
                    subst h6 h7
                    have hlen : acc.length < 1000000 := by
                      have := congrArg List.length ho
                      simp at this
                      omega
                    refine ⟨accV, c3, Nat.lt_of_lt_of_le (by rw [← c5.length]; exact hlen) (by decide), ?_⟩
                    have c8 : ∀ i, ¬ Own H4 (wipe σ vs) (wipeE E4 vs) i Dd := fun i o => by
                      rw [← hτ] at o
                      exact c7 i (own_wipe o).1
                    refine ⟨wipeE E4 vs, F4, acc ++ [y'], accV ++ [v], ys2, c1.mut c4 c8 hD0, ⟨c2.sF, fun b o e n => ?_, c2.nf, fun b e => ?_, fun i p o => c2.own i p ((own_mut c1 c8).mp o)⟩, upd_same, c4, c5.snoc rv, c6, e4, by simpa using ho⟩
                    · have : b ≠ Dd := fun z => by
                        subst z
                        rw [hD] at e
                        cases e
                      rw [upd_ne this]
                      exact c2.keep b o e n
                    · by_cases hb : b = Dd
                      · subst hb
                        rw [upd_same]
                        exact fun z => nomatch z
                      · rw [upd_ne hb]
                        exact c2.dm b e
                | ex x E4 => simp [e3] at hc
                | bad => simp [e3] at hc
            | ex x E3 => simp [e2] at hc
            | bad => simp [e2] at hc
        · have e : items.drop i = [] := List.drop_eq_nil_of_le (by omega)
          rw [e] at hc
          unfold sComp at hc
          simp only [Option.some.injEq, Prod.mk.injEq] at hc
          obtain ⟨h6, h7⟩ := hc
          subst h6 h7
          have ho' : acc = out := by simpa using ho
          subst ho'
          refine .inl ⟨R1.stop i F H (by omega) G2.sF S2.sub, h1 Dd accV F H ⟨G2.sF, fun b o e n => G2.keep b o e fun i o' => n i (own_wipe o').1, fun b e f n => G2.nf b e f fun i o' => n i (own_wipe o').1, G2.dm, fun i p o => (own_wipe (G2.own i p (own_unwipe hu o))).1⟩ (S2.unwipe hu) hD fD2 eD rA⟩
    · rw [if_neg hl] at h1
      exact h1.elim
theorem df_lc {kw : Bool} {elt : Expr} {ifs : List Expr} {scope : Scope} {own : List (Str × Nat)} {tst : SeB} {el : Se} (hc : X.calm = true) (hN : X.N.Nodup) (hi : DI kw X e0 W tg iter f) (ok : BlkOk X.N X.env.scope scope own)
    (hg : ∀ (s : Shared) (H : Hp) (C : Addr) (cl : List (Str × Addr)) (fp : List Addr), DG kw (X.blk s H scope (compEnvC scope cl C X.env) fp) e0 is tg t) (hiv : ∀ i ∈ is, i ∈ own.map (·.2))
    (ht : ∀ (s : Shared) (H : Hp) (C : Addr) (cl : List (Str × Addr)) (fp : List Addr), PTs (X.blk s H scope (compEnvC scope cl C X.env) fp) ifs (rdB X.K e0 (fun _ _ _ _ => False) tst))
    (he : ∀ (s : Shared) (H : Hp) (C : Addr) (cl : List (Str × Addr)) (fp : List Addr), DX (X.blk s H scope (compEnvC scope cl C X.env) fp) e0 (fun _ _ _ _ => False) elt el) (hs : ∀ x, foldedSetIterable iter X.env x = pure x := by intro _; rfl) :
    DF X e0 W (.ListComp elt [⟨tg, iter, ifs, 0⟩] scope pos) (sLc f t tst el (own.map (·.2))) :=
  PE.weak (pe_lc (te := rd X.K e0 (fun _ _ _ _ => False) el) (g := rdT kw X.K e0 is t) hc hN hi ok (fun s H C cl fp => (hg s H C cl fp).pg) ht he hs) fun σ H Q h => lc_rd (W1 := fun _ _ _ _ => False) (fun _ _ _ z => z) (fun _ _ _ _ z => z) (hg X.s_0 X.H_0 0 [] []).chg hiv (fun _ _ _ z => z) (fun _ _ _ z => z) h
theorem ds_ownLc {kw : Bool} {i : Nat} {y : Str} {py : Pos} {spos : Pos} {elt : Expr} {ifs : List Expr} {scope : Scope} {own : List (Str × Nat)} {tst : SeB} {el : Se} (hc : X.calm = true) (hN : X.N.Nodup) (hy : X.N[i]? = some y) (hyl : X.env.scope.names.lookup y = some .local)
    (hsw : swapsWith (.ListComp elt [⟨tg, iter, ifs, 0⟩] scope pos) (some (.Name y py)) spos.line X.env = pure true) (hi : DI kw X e0 W tg iter f) (ok : BlkOk X.N X.env.scope scope own)
    (hg : ∀ (s : Shared) (H : Hp) (C : Addr) (cl : List (Str × Addr)) (fp : List Addr), DG kw (X.blk s H scope (compEnvC scope cl C X.env) fp) e0 is tg t) (hiv : ∀ i ∈ is, i ∈ own.map (·.2))
    (ht : ∀ (s : Shared) (H : Hp) (C : Addr) (cl : List (Str × Addr)) (fp : List Addr), PTs (X.blk s H scope (compEnvC scope cl C X.env) fp) ifs (rdB X.K e0 (fun _ _ _ _ => False) tst))
    (he : ∀ (s : Shared) (H : Hp) (C : Addr) (cl : List (Str × Addr)) (fp : List Addr), DX (X.blk s H scope (compEnvC scope cl C X.env) fp) e0 (fun _ _ _ _ => False) elt el) (hs : ∀ x, foldedSetIterable iter X.env x = pure x := by intro _; rfl) :
    DS X e0 W (.Assign [.Name y py] (.ListComp elt [⟨tg, iter, ifs, 0⟩] scope pos) spos) (sOwn i (sLc f t tst el (own.map (·.2)))) :=
  PS.weak (ps_setLc (te := rd X.K e0 (fun _ _ _ _ => False) el) (g := rdT kw X.K e0 is t) hc hN hy hyl hsw hi ok (fun s H C cl fp => (hg s H C cl fp).pg) ht he hs) fun D σ H ⟨E, F, S, h⟩ => lc_rd (W1 := fun _ _ _ _ => False) (fun _ _ _ z => z) (fun _ _ _ _ z => z) (hg X.s_0 X.H_0 0 [] []).chg hiv (fun _ _ _ z => z) (fun _ _ _ z => z)
    ⟨E, F, S, PostS.bindF h fun xs p vs E1 F1 H1 G1 S1 h1 h2 h3 h4 h5 => h5 _ F1 H1 (fun _ _ h => h) (S1.setO i (G1.notOwn S h1) (S.fresh0 h1) h2 h3 h4)⟩
theorem ds_setLc {kw : Bool} {i : Nat} {y : Str} {py : Pos} {spos : Pos} {elt : Expr} {ifs : List Expr} {scope : Scope} {own : List (Str × Nat)} {tst : SeB} {el : Se} (hc : X.calm = true) (hN : X.N.Nodup) (hy : X.N[i]? = some y) (hyl : X.env.scope.names.lookup y = some .local)
    (hsw : swapsWith (.ListComp elt [⟨tg, iter, ifs, 0⟩] scope pos) (some (.Name y py)) spos.line X.env = pure true) (hi : DI kw X e0 W tg iter f) (ok : BlkOk X.N X.env.scope scope own)
    (hg : ∀ (s : Shared) (H : Hp) (C : Addr) (cl : List (Str × Addr)) (fp : List Addr), DG kw (X.blk s H scope (compEnvC scope cl C X.env) fp) e0 is tg t) (hiv : ∀ i ∈ is, i ∈ own.map (·.2))
    (ht : ∀ (s : Shared) (H : Hp) (C : Addr) (cl : List (Str × Addr)) (fp : List Addr), PTs (X.blk s H scope (compEnvC scope cl C X.env) fp) ifs (rdB X.K e0 (fun _ _ _ _ => False) tst))
    (he : ∀ (s : Shared) (H : Hp) (C : Addr) (cl : List (Str × Addr)) (fp : List Addr), DX (X.blk s H scope (compEnvC scope cl C X.env) fp) e0 (fun _ _ _ _ => False) elt el) (hs : ∀ x, foldedSetIterable iter X.env x = pure x := by intro _; rfl) :
    DS X e0 W (.Assign [.Name y py] (.ListComp elt [⟨tg, iter, ifs, 0⟩] scope pos) spos) (sSet i (sLs (sLc f t tst el (own.map (·.2))))) :=
  PS.weak (ps_setLc (te := rd X.K e0 (fun _ _ _ _ => False) el) (g := rdT kw X.K e0 is t) hc hN hy hyl hsw hi ok (fun s H C cl fp => (hg s H C cl fp).pg) ht he hs) fun D σ H ⟨E, F, S, h⟩ => lc_rd (W1 := fun _ _ _ _ => False) (fun _ _ _ z => z) (fun _ _ _ _ z => z) (hg X.s_0 X.H_0 0 [] []).chg hiv (fun _ _ _ z => z) (fun _ _ _ z => z)
    ⟨E, F, S, frozen S (PostS.bind (D := D) h fun d v E1 F1 H1 G1 S1 R1 h1 => h1 _ F1 H1 (fun _ _ h => h) (S1.set i R1))⟩
theorem dts_nil {X : Cx} {W : WX} : PTs X [] (rdB X.K e0 W bYes) := ⟨fun pins s σ H Q I h => pts_nil.run pins s σ H Q I (dx_tYes σ H Q h)⟩
theorem dts_one {X : Cx} {W : WX} {c : Expr} {g : SeB} (h : DT X e0 W c g) : PTs X [c] (rdB X.K e0 W g) := pts_one h
end
end Dn

set_option Elab.async false
set_option linter.all false
set_option maxRecDepth 100000
set_option maxHeartbeats 4000000
namespace Dn
open PySem PySem.Spec L2

inductive Rs where
  | ok (r : Rv) | ex (x : Xn) | bad
inductive Rs2 where
  | ok (r : Rv) (cs : List D) | bad
structure Fn where
  np : Nat
  run : List D → Rs
/-- a def whose first parameter is a list that it changes -/
structure Fn2 where
  np : Nat
  run : List D → List D → Rs2
def Fn.app (f : Fn) (ds : List D) : Rs := if ds.length = f.np then f.run ds else .bad
def Fn2.app (f : Fn2) (cs ds : List D) : Rs2 := if ds.length = f.np then f.run cs ds else .bad
def sto (n : Nat) (ds : List D) : Sto := ds.map .vl ++ List.replicate (n - ds.length) .un
def sto2 (n : Nat) (cs ds : List D) : Sto := .st cs :: sto (n - 1) ds
def mkFn (n np : Nat) (b : Ss) : Fn := ⟨np, fun ds => match b (sto n ds) with
  | .rt r _ => .ok r
  | .nx _ => .ok (.fz .non)
  | .ex x _ => .ex x
  | _ => .bad⟩
def mkFn2 (n np : Nat) (b : Ss) : Fn2 := ⟨np, fun cs ds => match b (sto2 n cs ds) with
  | .rt r E => (match (E[0]? : Option Sl) with
    | some (Sl.st cs') => .ok r cs'
    | _ => .bad)
  | .nx E => (match (E[0]? : Option Sl) with
    | some (Sl.st cs') => .ok (.fz .non) cs'
    | _ => .bad)
  | _ => .bad⟩
section
variable (K : PySem.W.Frag)
def PostP (F H : Hp) (r : Rs) (Q : VK) (E : XK) : Prop := match r with
  | .ok r => ∀ v F' H', Alloc F H F' H' → RepR K ⟨F, H, fun _ => False⟩ F' H' r v → Q v H'
  | .ex x => ∀ cls dd F' H', Alloc F H F' H' → RepX K F' H' x cls dd → E cls dd H'
  | .bad => False
def spP (f : Fn) : Sp := fun vs H Q E => ∃ F ds, Same F H ∧ RepL K F ds vs ∧ PostP K F H (f.app ds) Q E
/-- all but the cell at s is kept -/
structure Alloc2 (s : Addr) (F H F' H' : Hp) : Prop where
  sF : Same F F'
  keep : ∀ b o, H b = some o → b ≠ s → H' b = some o
  sub : Same F' H'
  nf : ∀ b, H b ≠ none → F b = none → F' b = none
def spS (f : Fn2) : Sp := fun vs H Q E => ∃ F s ds ws cs csV, vs = .ref s :: ws ∧ Same F H ∧ H s = some (.lst csV) ∧ F s = none ∧ RepL K F cs csV ∧ RepL K F ds ws ∧ match f.app cs ds with
  | .ok r cs' => ∀ v F' H' csV', Alloc2 s F H F' H' → H' s = some (.lst csV') → RepL K F' cs' csV' → RepR K ⟨F, H, fun _ => False⟩ F' H' r v → Q v H'
  | .bad => False
end
theorem spP_len {K : PySem.W.Frag} {f : Fn} {vs : List V} {H : Hp} {Q : VK} {E : XK} (h : spP K f vs H Q E) : vs.length = f.np := by
  obtain ⟨F, ds, s, r, p⟩ := h
  unfold Fn.app at p
  split at p
  · rename_i e
    rw [← r.length]
    exact e
  · exact p.elim
theorem spS_len {K : PySem.W.Frag} {f : Fn2} {vs : List V} {H : Hp} {Q : VK} {E : XK} (h : spS K f vs H Q E) : vs.length = f.np + 1 := by
  obtain ⟨F, s, ds, ws, cs, csV, e, s1, h1, f1, r1, r, p⟩ := h
  unfold Fn2.app at p
  by_cases e0 : ds.length = f.np
  · rw [e, List.length_cons, ← r.length, e0]
  · rw [if_neg e0] at p
    exact p.elim
section
variable {K : PySem.W.Frag} {F H : Hp} {ds : List D} {vs : List V}
theorem start_get {N : List Str} {i : Nat} {v : V} (h : vs[i]? = some v) : (L2.start N vs)[i]? = some (some v) := by
  unfold L2.start
  have hi : i < vs.length := (List.getElem?_eq_some_iff.mp h).1
  rw [List.getElem?_append_left (by simpa using hi), List.getElem?_map, h]
  rfl
theorem sto_get {n i : Nat} {s : Sl} (h : (sto n ds)[i]? = some s) : (∃ d, ds[i]? = some d ∧ s = .vl d) ∨ s = .un := by
  unfold sto at h
  by_cases hi : i < ds.length
  · rw [List.getElem?_append_left (by simpa using hi), List.getElem?_map] at h
    rw [List.getElem?_eq_getElem hi] at h
    simp at h
    exact .inl ⟨ds[i], by simp [hi], h.symm⟩
  · rw [List.getElem?_append_right (by simpa using Nat.not_lt.mp hi)] at h
    have := List.mem_of_getElem? h
    exact .inr (List.eq_of_mem_replicate this)
theorem sto_own {n i : Nat} {σ : St} {p : Addr} : ¬ Own H σ (sto n ds) i p := fun h => by
  unfold Own at h
  cases e : (sto n ds)[i]? with
  | none => simp [e] at h
  | some s =>
    rcases sto_get e with ⟨d, _, rfl⟩ | rfl <;> simp [e] at h
theorem sto_length {n : Nat} : (sto n ds).length = ds.length + (n - ds.length) := by simp [sto]
/-- at the entry -/
theorem SI.start {N : List Str} {M : Addr → Prop} (s : Same F H) (r : RepL K F ds vs) : SI K ⟨F, H, M⟩ F H (L2.start N vs) (sto N.length ds) := by
  refine ⟨?_, s, fun i t e => ?_, fun i j p h => (sto_own h).elim, fun _ _ h => h, fun b o h _ => h, fun b _ f => f, fun i p h => (sto_own h).elim, fun b h => h⟩
  · rw [sto_length, r.length]
    simp [L2.start]
  · rcases sto_get e with ⟨d, h1, rfl⟩ | rfl
    · obtain ⟨v, h2, h3⟩ := r.get h1
      exact ⟨v, start_get h2, h3⟩
    · trivial
theorem SI.out {e0 : E0} {F' H' : Hp} {σ : St} {E : Sto} (hM : ∀ b, ¬ e0.M b) (S : SI K e0 F' H' σ E) : Alloc e0.F e0.H F' H' := ⟨S.f0, fun b o h => S.h0 b o h (hM b), S.sub, S.nf⟩
end

section
variable {P : Program} {w : World} {K : PySem.W.Frag} {mg : Str → Option Value} {base : Heap} {x qual : Str} {params : Arguments} {body : List Stmt} {scope : Scope} {dvs : List V} {kws : List (Str × V)} {f : Addr} {fd : FuncData}
/-- a def whose body means b keeps the promise of b -/
theorem fn_pure {N ps : List Str} {k : Nat} {b : Ss} (F : FunD K x qual params body scope dvs kws f fd) (S : FnScope N ps scope)
    (hb : ∀ (cdv : Value) (A : Around) (outer : List Env) (s : Shared) (H : Hp) (E : XK) (e0 : E0), Room k (A.deeper (PyProof.Rows.envOfC qual scope s.heap.objs.size f cdv)) → DSs (cxOf (L2.CX P w) P w K mg base N qual scope f cdv A outer s H E) e0 (fun cls d _ H => E cls d H) body b) :
    FnOk P w K mg base (L2.CX P w) (k + 1) f fd ps (spP K (mkFn N.length ps.length b)) := by
  refine F.ok S (fun vs H Q E h => spP_len h) fun cdv A outer s H vs Q E hr h => ?_
  obtain ⟨F1, ds, s1, r, p⟩ := h
  refine ⟨_, hb cdv A outer s H E ⟨F1, H, fun _ => False⟩ hr, sto N.length ds, F1, SI.start s1 r, ?_⟩
  unfold Fn.app mkFn at p
  dsimp only at p
  split at p
  · cases q : b (sto N.length ds) with
    | rt rv E' =>
      simp only [q] at p
      exact fun v σ F' H' S' rr => p v F' H' (S'.out fun _ z => z) rr
    | nx E' =>
      simp only [q] at p
      exact fun σ F' H' s' S' => p .non F' H' (S'.out fun _ z => z) (by simp [RepR, Rep])
    | ex xn E' =>
      simp only [q] at p
      exact fun cls dd σ F' H' S' rx => p cls dd F' H' (S'.out fun _ z => z) rx
    | bk E' => simp only [q] at p; exact p.elim
    | ct E' => simp only [q] at p; exact p.elim
    | bad => simp only [q] at p; exact p.elim
  · exact p.elim
theorem sto2_get {n i : Nat} {cs ds : List D} {t : Sl} (h : (sto2 n cs ds)[i]? = some t) : (i = 0 ∧ t = .st cs) ∨ (∃ j, i = j + 1 ∧ (sto (n - 1) ds)[j]? = some t) := by
  cases i with
  | zero =>
    unfold sto2 at h
    simp at h
    exact .inl ⟨rfl, h.symm⟩
  | succ j =>
    unfold sto2 at h
    exact .inr ⟨j, rfl, by simpa using h⟩
theorem sto2_own {H : Hp} {n i : Nat} {cs ds : List D} {σ : St} {p : Addr} (h : Own H σ (sto2 n cs ds) i p) : i = 0 ∧ σ[0]? = some (some (.ref p)) := by
  cases i with
  | zero =>
    have e : (sto2 n cs ds)[0]? = some (.st cs) := rfl
    unfold Own at h
    rw [e] at h
    exact ⟨rfl, h⟩
  | succ j =>
    exfalso
    unfold Own at h
    have e : (sto2 n cs ds)[j + 1]? = (sto (n - 1) ds)[j]? := by simp [sto2]
    rw [e] at h
    cases q : (sto (n - 1) ds)[j]? with
    | none => simp [q] at h
    | some t => rcases sto_get q with ⟨d, _, rfl⟩ | rfl <;> simp [q] at h
theorem fn_cell {N ps : List Str} {k : Nat} {b : Ss} (hN : 0 < N.length) (hps : 0 < ps.length) (F : FunD K x qual params body scope dvs kws f fd) (S : FnScope N ps scope)
    (hb : ∀ (cdv : Value) (A : Around) (outer : List Env) (s : Shared) (H : Hp) (E : XK) (e0 : E0), Room k (A.deeper (PyProof.Rows.envOfC qual scope s.heap.objs.size f cdv)) → DSs (cxOf (L2.CX P w) P w K mg base N qual scope f cdv A outer s H E) e0 (fun cls d _ H => E cls d H) body b) :
    FnOk P w K mg base (L2.CX P w) (k + 1) f fd ps (spS K (mkFn2 N.length (ps.length - 1) b)) := by
  refine F.ok S (fun vs H Q E h => by rw [spS_len h]; show ps.length - 1 + 1 = ps.length; omega) fun cdv A outer s H vs Q E hr h => ?_
  obtain ⟨F1, c, ds, ws, cs, csV, ev, s1, hc, fc, rc, r, p⟩ := h
  subst ev
  have st0 : (L2.start N (V.ref c :: ws))[0]? = some (some (.ref c)) := start_get rfl
  refine ⟨_, hb cdv A outer s H E ⟨F1, H, fun b => b = c⟩ hr, sto2 N.length cs ds, F1, ⟨?_, s1, fun i t e => ?_, fun i j q h1 h2 => by rw [(sto2_own h1).1, (sto2_own h2).1], fun _ _ h => h, fun b o h _ => h, fun b _ f => f, fun i q h => ?_, fun b h => h⟩, ?_⟩
  · show (L2.start N (V.ref c :: ws)).length = (Sl.st cs :: sto (N.length - 1) ds).length
    rw [List.length_cons, sto_length, r.length]
    simp [L2.start]
    omega
  · rcases sto2_get e with ⟨rfl, rfl⟩ | ⟨j, rfl, e⟩
    · exact ⟨c, csV, st0, hc, fc, rc⟩
    · rcases sto_get e with ⟨d, h1, rfl⟩ | rfl
      · obtain ⟨v, h2, h3⟩ := r.get h1
        exact ⟨v, start_get (by simpa using h2), h3⟩
      · trivial
  · obtain ⟨rfl, e⟩ := sto2_own h
    rw [st0] at e
    cases e
    exact .inr ⟨rfl, .inl ⟨cs, rfl⟩⟩
  · have fin : ∀ {E' : Sto} {cs' : List D} {σ : St} {F' H' : Hp}, E'[0]? = some (.st cs') → SI K ⟨F1, H, fun b => b = c⟩ F' H' σ E' → Alloc2 c F1 H F' H' ∧ ∃ csV', H' c = some (.lst csV') ∧ RepL K F' cs' csV' := fun {E' cs' σ F' H'} e S' => by
      obtain ⟨q, vs', e1, e2, e3, e4⟩ := S'.rel 0 _ e
      have ho : Own H' σ E' 0 q := by
        unfold Own
        rw [e]
        exact e1
      have hq : q = c := by
        rcases S'.ow 0 q ho with z | z
        · exact (z.2 (.inl ⟨cs', e⟩)).elim
        · exact z.1
      subst hq
      exact ⟨⟨S'.f0, fun b o h n => S'.h0 b o h n, S'.sub, S'.nf⟩, vs', e2, e4⟩
    by_cases hl : ds.length = ps.length - 1
    · simp only [Fn2.app, mkFn2, hl, if_true] at p
      cases q : b (sto2 N.length cs ds) with
      | rt rv E' =>
        simp only [q] at p
        cases e : E'[0]? with
        | none => simp [e] at p
        | some t =>
          cases t with
          | st cs' =>
            simp only [e] at p
            intro v σ F' H' S' rr
            obtain ⟨a2, csV', h2, r2⟩ := fin e S'
            exact p v F' H' csV' a2 h2 r2 rr
          | _ => simp [e] at p
      | nx E' =>
        simp only [q] at p
        cases e : E'[0]? with
        | none => simp [e] at p
        | some t =>
          cases t with
          | st cs' =>
            simp only [e] at p
            intro σ F' H' s' S'
            obtain ⟨a2, csV', h2, r2⟩ := fin e S'
            exact p .non F' H' csV' a2 h2 r2 (by simp [RepR, Rep])
          | _ => simp [e] at p
      | ex xn E' => simp only [q] at p
      | bk E' => simp only [q] at p
      | ct E' => simp only [q] at p
      | bad => simp only [q] at p
    · simp only [Fn2.app, mkFn2, hl, if_false] at p
end

/-! ### a def called -/
def rsOut (r : Rs) (E : Sto) : Out D := match r with
  | .ok (.fz d) => .ok d E
  | .ok (.fr ds) => .ok (.lst ds) E
  | .ex x => .ex x E
  | .bad => .bad
def rsOutF (r : Rs) (E : Sto) : Out (List D) := match r with
  | .ok (.fr ds) => .ok ds E
  | .ex x => .ex x E
  | _ => .bad
def sFn (f : Fn) (a : SeL) : Se := fun E => (a E).bind fun ds E1 => rsOut (f.app ds) E1
def sFnF (f : Fn) (a : SeL) : SeL := fun E => (a E).bind fun ds E1 => rsOutF (f.app ds) E1
section
variable {K : PySem.W.Frag} {e0 : E0} {W : WX} {σ : St} {E : Sto} {F H : Hp} {Q : VK} {vs : List V} {ds : List D} {f : Fn}
theorem call_post (S : SI K e0 F H σ E) (r : RepL K F ds vs) (h : Post K e0 W (fun F d v => Rep K F d v) σ E F H (rsOut (f.app ds) E) Q) : spP K f vs H Q (fun cls d H' => W cls d σ H') := by
  refine ⟨F, ds, S.sub, r, ?_⟩
  cases q : f.app ds with
  | ok rv =>
    rw [q] at h
    cases rv with
    | fz d => exact fun v F' H' al rr => h.fin S al rr
    | fr xs =>
      intro v F' H' al rr
      obtain ⟨p, us, e, n0, n1, n2, rl⟩ := rr
      have n0 : H p = none := n0
      subst e
      have S' := S.alloc al
      obtain ⟨S2, sF⟩ := S'.freezeAt n2 n1 (fun i o => by
        obtain ⟨u, e, _⟩ := own_some S ((own_alloc S al.sH i p).mp o)
        rw [n0] at e
        cases e) (S.fresh0 n0)
      refine h (.ref p) _ H' ⟨Same.tr al.sF sF, fun b o e _ => al.sH b o e, fun b hb f _ => ?_, (S.grow al).dm, (S.grow al).own⟩ S2 ?_
      · have : b ≠ p := fun z => hb (z ▸ n0)
        rw [upd_ne this]
        exact al.nf b hb f
      · simp only [Rep]
        exact ⟨p, us, rfl, upd_same, RepL.mono sF _ _ rl⟩
  | ex x =>
    rw [q] at h
    exact fun cls dd F' H' al rx => h cls dd F' H' (S.grow al) (S.alloc al) rx
  | bad =>
    rw [q] at h
    exact h.elim
theorem call_postF (S : SI K e0 F H σ E) (r : RepL K F ds vs) (h : PostF K e0 W σ E F H (rsOutF (f.app ds) E) Q) : spP K f vs H Q (fun cls d H' => W cls d σ H') := by
  refine ⟨F, ds, S.sub, r, ?_⟩
  cases q : f.app ds with
  | ok rv =>
    rw [q] at h
    cases rv with
    | fz d => exact h.elim
    | fr xs =>
      intro v F' H' al rr
      obtain ⟨p, us, e, n0, n1, n2, rl⟩ := rr
      have n0 : H p = none := n0
      subst e
      exact h p us F' H' (S.grow al) (S.alloc al) n0 n1 n2 rl
  | ex x =>
    rw [q] at h
    exact fun cls dd F' H' al rx => h cls dd F' H' (S.grow al) (S.alloc al) rx
  | bad =>
    rw [q] at h
    exact h.elim
end
/-- what a caller has of a def -/
structure FnGood (X : Cx) (x : Str) (f : Fn) : Prop where
  ex : ∃ (k : Nat) (a : Addr) (fd : FuncData) (ps : List Str), FnOk X.prog X.w X.K X.mg X.base (L2.CX X.prog X.w) k a fd ps (spP X.K f) ∧ Room k X.A ∧ X.mg x = some (.ref a) ∧ PySem.W.keepIn X.K (.ref a) = true ∧ Binds X.K fd ps []
structure FnGood2 (X : Cx) (x : Str) (f : Fn2) : Prop where
  ex : ∃ (k : Nat) (a : Addr) (fd : FuncData) (ps : List Str), FnOk X.prog X.w X.K X.mg X.base (L2.CX X.prog X.w) k a fd ps (spS X.K f) ∧ Room k X.A ∧ X.mg x = some (.ref a) ∧ PySem.W.keepIn X.K (.ref a) = true ∧ Binds X.K fd ps []
section
variable {X : Cx} {e0 : E0} {W : WX} {x : Str} {f : Fn} {f2 : Fn2} {e : Expr} {es : List Expr} {g : SeL} {p pos : Pos}
theorem dx_call (G : FnGood X x f) (tk : Takes X W) (hg : Gl X x) (ha : DA X e0 W (e :: es) g) (hdb : (x == ("__debug__" : Str)) = false := by decide) (he : starEach (e :: es) X.env = (false, eval e X.env) :: starEach es X.env := by rfl)
    (hpl : (backTo pos (starEach es X.env)).any (·.1) = false := by rfl) : DX X e0 W (.Call (.Name x p) (e :: es) [] pos) (sFn f g) := by
  obtain ⟨k, a, fd, ps, F, hr, hm, hk, hb⟩ := G.ex
  exact PE.weak (pe_callS F hr hg hm hk hb (fun σ => passAt tk σ) ha hdb he hpl) fun σ H Q ⟨E, F, S, h⟩ => rdG_intro S (h.bind fun ds vs E1 F1 H1 G1 S1 R1 h1 => call_post S1 R1 h1)
theorem df_call (G : FnGood X x f) (tk : Takes X W) (hg : Gl X x) (ha : DA X e0 W (e :: es) g) (hdb : (x == ("__debug__" : Str)) = false := by decide) (he : starEach (e :: es) X.env = (false, eval e X.env) :: starEach es X.env := by rfl)
    (hpl : (backTo pos (starEach es X.env)).any (·.1) = false := by rfl) : DF X e0 W (.Call (.Name x p) (e :: es) [] pos) (sFnF f g) := by
  obtain ⟨k, a, fd, ps, F, hr, hm, hk, hb⟩ := G.ex
  exact PE.weak (pe_callS F hr hg hm hk hb (fun σ => passAt tk σ) ha hdb he hpl) fun σ H Q ⟨E, F, S, h⟩ => rdG_intro S (PostF.bind h fun ds vs E1 F1 H1 G1 S1 R1 h1 => call_postF S1 R1 h1)
end

/-! ### the content of an owned list changes -/
def Sl.put (s : Sl) (cs : List D) : Sl := match s with
  | .ow _ => .ow cs
  | .st _ => .st cs
  | s => s
def Sl.cell (s : Sl) : Option (List D) := match s with
  | .ow cs => some cs
  | .st cs => some cs
  | _ => none
section
variable {K : PySem.W.Frag} {e0 : E0} {W : WX} {σ : St} {E : Sto} {F F' H H' : Hp}
theorem SI.at_cell (S : SI K e0 F H σ E) {i : Nat} {s : Sl} {cs : List D} (e : E[i]? = some s) (hc : s.cell = some cs) : ∃ p vs, σ[i]? = some (some (.ref p)) ∧ H p = some (.lst vs) ∧ F p = none ∧ RepL K F cs vs ∧ Own H σ E i p := by
  have r := S.rel i s e
  cases s with
  | ow ys =>
    cases hc
    obtain ⟨p, vs, e1, e2, e3, e4⟩ := r
    exact ⟨p, vs, e1, e2, e3, e4, own_of_slot e e1⟩
  | st ys =>
    cases hc
    obtain ⟨p, vs, e1, e2, e3, e4⟩ := r
    exact ⟨p, vs, e1, e2, e3, e4, own_of_slot e e1⟩
  | _ => cases hc
theorem SI.put (S : SI K e0 F H σ E) {i : Nat} {s : Sl} {cs cs' : List D} {p : Addr} {vs' : List V} (e : E[i]? = some s) (hc : s.cell = some cs) (e1 : σ[i]? = some (some (.ref p))) (al : Alloc2 p F H F' H') (e' : H' p = some (.lst vs')) (r' : RepL K F' cs' vs') :
    SI K e0 F' H' σ (E.set i (s.put cs')) ∧ Grow σ E F H (E.set i (s.put cs')) F' H' := by
  have hi : i < E.length := (List.getElem?_eq_some_iff.mp e).1
  have oi : Own H σ E i p := by
    obtain ⟨q, _, e2, _, _, _, o⟩ := S.at_cell e hc
    rw [e1] at e2
    cases e2
    exact o
  obtain ⟨up, eup, fup⟩ := own_some S oi
  have fp' : F' p = none := al.nf p (by rw [eup]; exact fun z => nomatch z) fup
  have nn : ∀ {b : Addr} {o : HO}, H b = some o → F b = none → F' b = none := fun e f => al.nf _ (by rw [e]; exact fun z => nomatch z) f
  have nop : ∀ j q, Own H σ E j q → j ≠ i → q ≠ p := fun j q h n z => by
    subst z
    exact n (S.apart j i q h oi)
  have cellp : ∀ t : Sl, t = s.put cs' → (t = .ow cs' ∨ t = .st cs') := fun t ht => by
    cases s with
    | ow ys => exact .inl ht
    | st ys => exact .inr ht
    | _ => cases hc
  have own' : ∀ j q, Own H' σ (E.set i (s.put cs')) j q → Own H σ E j q := fun j q h => by
    by_cases hj : j = i
    · subst hj
      unfold Own at h
      rw [List.getElem?_set_self hi] at h
      rcases cellp _ rfl with z | z
      · rw [z] at h
        have h' : σ[j]? = some (some (.ref q)) := h
        rw [e1] at h'
        cases h'
        exact oi
      · rw [z] at h
        have h' : σ[j]? = some (some (.ref q)) := h
        rw [e1] at h'
        cases h'
        exact oi
    · unfold Own at h
      rw [List.getElem?_set_ne (Ne.symm hj)] at h
      cases e2 : E[j]? with
      | none => simp [e2] at h
      | some t =>
        rw [e2] at h
        cases t with
        | un => exact h.elim
        | vl d => exact h.elim
        | ow ys => exact own_of_slot e2 h
        | st ys => exact own_of_slot e2 h
        | nw c ys => exact own_of_slot e2 h
        | mx rows =>
          obtain ⟨q0, ps, g1, g2, _⟩ := S.rel j _ e2
          obtain ⟨q1, ps', g3, g4, hq⟩ := h
          rw [g1] at g3
          cases g3
          have ne : q0 ≠ p := nop j q0 (own_of_slot e2 ⟨q0, ps, g1, g2, .inl rfl⟩) hj
          rw [al.keep _ _ g2 ne] at g4
          injection g4 with g4
          injection g4 with g4
          exact own_of_slot e2 ⟨q0, ps', g1, by rw [g2, g4], hq⟩
  refine ⟨⟨by simpa using S.len, al.sub, fun j t hs => ?_, fun a b q h1 h2 => S.apart a b q (own' a q h1) (own' b q h2), Same.tr S.f0 al.sF, fun b o h n => ?_, fun b h f => al.nf b (S.dm b h) (S.nf b h f), fun j q h => ?_, fun b h => ?_⟩,
    ⟨al.sF, fun b o h n => al.keep b o h fun z => n i (z ▸ oi), fun b h f _ => al.nf b h f, fun b h => ?_, own'⟩⟩
  · by_cases hj : j = i
    · subst hj
      rw [List.getElem?_set_self hi] at hs
      cases hs
      rcases cellp _ rfl with z | z
      · rw [z]
        exact ⟨p, vs', e1, e', fp', r'⟩
      · rw [z]
        exact ⟨p, vs', e1, e', fp', r'⟩
    · rw [List.getElem?_set_ne (Ne.symm hj)] at hs
      have r := S.rel j t hs
      cases t with
      | un => trivial
      | vl d =>
        obtain ⟨v, h1, h2⟩ := r
        exact ⟨v, h1, Rep.mono al.sF _ _ h2⟩
      | ow ys =>
        obtain ⟨q, us, h1, h2, h3, h4⟩ := r
        exact ⟨q, us, h1, al.keep _ _ h2 (nop j q (own_of_slot hs h1) hj), nn h2 h3, RepL.mono al.sF _ _ h4⟩
      | st ys =>
        obtain ⟨q, us, h1, h2, h3, h4⟩ := r
        exact ⟨q, us, h1, al.keep _ _ h2 (nop j q (own_of_slot hs h1) hj), nn h2 h3, RepL.mono al.sF _ _ h4⟩
      | nw c ys =>
        obtain ⟨q, dx, us, h1, h2, h3, h4⟩ := r
        exact ⟨q, dx, us, h1, al.keep _ _ h2 (nop j q (own_of_slot hs h1) hj), nn h2 h3, RepL.mono al.sF _ _ h4⟩
      | mx rows =>
        obtain ⟨q0, ps, h1, h2, h3, h4, h5, h6, h7⟩ := r
        refine ⟨q0, ps, h1, al.keep _ _ h2 (nop j q0 (own_of_slot hs ⟨q0, ps, h1, h2, .inl rfl⟩) hj), nn h2 h3, h4, h5, h6, fun k p' r' a1 a2 => ?_⟩
        obtain ⟨b1, us, b2, b3⟩ := h7 k p' r' a1 a2
        exact ⟨nn b2 b1, us, al.keep _ _ b2 (nop j p' (own_of_slot hs ⟨q0, ps, h1, h2, .inr (List.mem_of_getElem? a1)⟩) hj), RepL.mono al.sF _ _ b3⟩
  · by_cases hb : b = p
    · subst hb
      rcases S.ow i b oi with z | z
      · rw [z.1] at h
        cases h
      · exact (n z.1).elim
    · exact al.keep b o (S.h0 b o h n) hb
  · have q' := S.ow j q (own' j q h)
    by_cases hj : j = i
    · subst hj
      rw [List.getElem?_set_self hi]
      rw [e] at q'
      have bb : Bor (some (s.put cs')) ↔ Bor (some s) := by
        cases s with
        | ow ys =>
          constructor
          · rintro (⟨_, y⟩ | ⟨_, _, y⟩) <;> cases y
          · rintro (⟨_, y⟩ | ⟨_, _, y⟩) <;> cases y
        | st ys => exact ⟨fun _ => .inl ⟨ys, rfl⟩, fun _ => .inl ⟨cs', rfl⟩⟩
        | _ => cases hc
      rcases q' with z | z
      · exact .inl ⟨z.1, fun y => z.2 (bb.mp y)⟩
      · exact .inr ⟨z.1, bb.mpr z.2⟩
    · rw [List.getElem?_set_ne (Ne.symm hj)]
      exact q'
  · have hb := S.dm b h
    cases q : H b with
    | none => exact (hb q).elim
    | some o =>
      by_cases hbp : b = p
      · subst hbp
        rw [e']
        exact fun z => nomatch z
      · rw [al.keep b o q hbp]
        exact fun z => nomatch z
  · cases q : H b with
    | none => exact (h q).elim
    | some o =>
      by_cases hbp : b = p
      · subst hbp
        rw [e']
        exact fun z => nomatch z
      · rw [al.keep b o q hbp]
        exact fun z => nomatch z
end
def cellAt (E : Sto) (i : Nat) : Option (Sl × List D) := match E[i]? with
  | some s => (match s.cell with
    | some cs => some (s, cs)
    | none => none)
  | none => none
theorem cellAt_some {E : Sto} {i : Nat} {s : Sl} {cs : List D} (h : cellAt E i = some (s, cs)) : E[i]? = some s ∧ s.cell = some cs := by
  unfold cellAt at h
  cases e : E[i]? with
  | none => simp [e] at h
  | some t =>
    simp only [e] at h
    cases e2 : t.cell with
    | none => simp [e2] at h
    | some c =>
      simp [e2] at h
      obtain ⟨rfl, rfl⟩ := h
      exact ⟨rfl, e2⟩
def sFn2 (i : Nat) (f : Fn2) (a : SeL) : Se := fun E => match cellAt E i with
  | none => .bad
  | some _ => (a E).bind fun ds E1 => match cellAt E1 i with
    | some (s, cs) => (match f.app cs ds with
      | .ok (.fz d) cs' => .ok d (E1.set i (s.put cs'))
      | .ok (.fr xs) cs' => .ok (.lst xs) (E1.set i (s.put cs'))
      | .bad => .bad)
    | none => .bad
def sFn2F (i : Nat) (f : Fn2) (a : SeL) : SeL := fun E => match cellAt E i with
  | none => .bad
  | some _ => (a E).bind fun ds E1 => match cellAt E1 i with
    | some (s, cs) => (match f.app cs ds with
      | .ok (.fr xs) cs' => .ok xs (E1.set i (s.put cs'))
      | _ => .bad)
    | none => .bad
section
variable {X : Cx} {e0 : E0} {W : WX} {x y : Str} {f : Fn2} {e : Expr} {es : List Expr} {g : SeL} {p p2 pos : Pos} {i : Nat}
theorem dx_call2 (G : FnGood2 X x f) (tk : Takes X W) (hg : Gl X x) (hN : X.N[i]? = some y) (hv : Vis X.env.scope y) (ha : DA X e0 W es g) (hdb : (x == ("__debug__" : Str)) = false := by decide)
    (he : starEach (.Name y p2 :: es) X.env = (false, eval (.Name y p2) X.env) :: starEach es X.env := by rfl)
    (hpl : (backTo pos (starEach es X.env)).any (·.1) = false := by rfl) (hd : (y == ("__debug__" : Str)) = false := by decide) (hcd : (y == ("__classdict__" : Str)) = false := by decide) : DX X e0 W (.Call (.Name x p) (.Name y p2 :: es) [] pos) (sFn2 i f g) := by
  obtain ⟨k, a, fd, ps, F, hr, hm, hk, hb⟩ := G.ex
  refine PE.weak (pe_callS F hr hg hm hk hb (fun σ => passAt tk σ) (pa_cons (pe_var hN hv hd hcd) ha he) hdb he hpl) fun σ H Q ⟨E, F, S, h⟩ => ?_
  unfold sFn2 at h
  cases z : cellAt E i with
  | none =>
    simp only [z] at h
    exact h.elim
  | some r0 =>
    obtain ⟨s0, cs0⟩ := r0
    simp only [z] at h
    obtain ⟨z1, z2⟩ := cellAt_some z
    obtain ⟨q, us0, a1, _⟩ := S.at_cell z1 z2
    refine ⟨.ref q, a1, rdG_intro S (h.bind fun ds vs E1 F1 H1 G1 S1 R1 h1 => ?_)⟩
    cases y : cellAt E1 i with
    | none =>
      simp only [y] at h1
      exact h1.elim
    | some r1 =>
      obtain ⟨s1, cs1⟩ := r1
      simp only [y] at h1
      obtain ⟨y1, y2⟩ := cellAt_some y
      obtain ⟨q', us1, b1, b2, b3, b4, b5⟩ := S1.at_cell y1 y2
      rw [a1] at b1
      cases b1
      refine ⟨F1, q, ds, vs, cs1, us1, rfl, S1.sub, b2, b3, b4, R1, ?_⟩
      cases v : f.app cs1 ds with
      | bad =>
        simp only [v] at h1
        exact h1.elim
      | ok rv cs' =>
        simp only [v] at h1
        cases rv with
        | fz d =>
          intro u F' H' csV' al e' r' rr
          obtain ⟨S2, G2⟩ := S1.put y1 y2 a1 al e' r'
          exact h1 u F' H' G2 S2 rr
        | fr xs =>
          intro u F' H' csV' al e' r' rr
          obtain ⟨S2, G2⟩ := S1.put y1 y2 a1 al e' r'
          obtain ⟨p, us, e, n0, n1, n2, rl⟩ := rr
          have n0 : H1 p = none := n0
          subst e
          obtain ⟨S3, sF⟩ := S2.freezeAt n2 n1 (G2.notOwn S1 n0) (S1.fresh0 n0)
          refine h1 (.ref p) _ H' ⟨Same.tr G2.sF sF, G2.keep, fun b hb f n => ?_, G2.dm, G2.own⟩ S3 ?_
          · have : b ≠ p := fun z => hb (z ▸ n0)
            rw [upd_ne this]
            exact G2.nf b hb f n
          · simp only [Rep]
            exact ⟨p, us, rfl, upd_same, RepL.mono sF _ _ rl⟩
end
end Dn

set_option Elab.async false
set_option linter.all false
set_option maxRecDepth 100000
set_option maxHeartbeats 4000000
namespace Dn
open PySem PySem.Spec L2

/-! ### plain operations on data -/
def lineOk (n : Nat) : Bool := decide (n ≤ 1000000)
def oAddI : D → D → Option D
  | .int i, .int j => some (.int (i + j))
  | _, _ => none
def oAddS : D → D → Option D
  | .str a, .str b => if a.length + b.length ≤ 1000000 then some (.str (a ++ b)) else none
  | _, _ => none
def oAddL : D → D → Option D
  | .lst xs, .lst ys => if xs.length + ys.length ≤ 1000000 then some (.lst (xs ++ ys)) else none
  | _, _ => none
def oAddT : D → D → Option D
  | .tup xs, .tup ys => if xs.length + ys.length ≤ 1000000 then some (.tup (xs ++ ys)) else none
  | _, _ => none
def oAdd : D → D → Option D
  | .int i, .int j => some (.int (i + j))
  | .str a, .str b => if a.length + b.length ≤ 1000000 then some (.str (a ++ b)) else none
  | .lst xs, .lst ys => if xs.length + ys.length ≤ 1000000 then some (.lst (xs ++ ys)) else none
  | .tup xs, .tup ys => if xs.length + ys.length ≤ 1000000 then some (.tup (xs ++ ys)) else none
  | _, _ => none
def oSub : D → D → Option D
  | .int i, .int j => some (.int (i - j))
  | _, _ => none
def mulOk (i j : Int) : Bool := (decide (-(2 ^ 64) < i) && decide (i < 2 ^ 64)) || (decide (-(2 ^ 64) < j) && decide (j < 2 ^ 64))
def oMulI : D → D → Option D
  | .int i, .int j => if mulOk i j = true then some (.int (i * j)) else none
  | _, _ => none
def oMulL : D → D → Option D
  | .lst xs, .int k => if -1000 ≤ k ∧ k ≤ 1000000 ∧ xs.length * k.toNat ≤ 1000000 then some (.lst (List.replicate k.toNat xs).flatten) else none
  | _, _ => none
def oMul : D → D → Option D
  | .int i, .int j => if mulOk i j = true then some (.int (i * j)) else none
  | .lst xs, .int k => if -1000 ≤ k ∧ k ≤ 1000000 ∧ xs.length * k.toNat ≤ 1000000 then some (.lst (List.replicate k.toNat xs).flatten) else none
  | _, _ => none
def oMod : D → D → Option D
  | .int i, .int j => if 0 < j then some (.int (i % j)) else none
  | _, _ => none
def oFdiv : D → D → Option D
  | .int i, .int j => if 0 < j ∧ j.natAbs.log2 < 9000 then some (.int (i / j)) else none
  | _, _ => none
def oNeg : D → Option D
  | .int i => some (.int (-i))
  | _ => none
def oLt : D → D → Option D
  | .int i, .int j => some (.bl (decide (i < j)))
  | _, _ => none
def oLe : D → D → Option D
  | .int i, .int j => some (.bl (decide (i ≤ j)))
  | _, _ => none
def oGt : D → D → Option D
  | .int i, .int j => some (.bl (decide (j < i)))
  | _, _ => none
def oGe : D → D → Option D
  | .int i, .int j => some (.bl (decide (j ≤ i)))
  | _, _ => none
mutual
def py : D → Option PyData
  | .non => some .none
  | .bl b => some (.bool b)
  | .int i => some (.int i)
  | .str s => some (.str s)
  | .tup xs => (match pyL xs with
    | some ys => some (.tuple ys)
    | none => none)
  | .lst xs => (match pyL xs with
    | some ys => some (.list ys)
    | none => none)
  | .ins _ _ => none
  | .scr _ => none
def pyL : List D → Option (List PyData)
  | [] => some []
  | x :: xs => (match py x, pyL xs with
    | some y, some ys => some (y :: ys)
    | _, _ => none)
end
/-- two scalars of one kind (or None beside another) -/
def oEqS : D → D → Option Bool
  | .int i, .int j => some (decide (i = j))
  | .str a, .str b => some (decide (a = b))
  | .bl a, .bl b => some (decide (a = b))
  | .non, .non => some true
  | .non, .int _ => some false
  | .int _, .non => some false
  | .non, .str _ => some false
  | .str _, .non => some false
  | .int _, .str _ => some false
  | .str _, .int _ => some false
  | _, _ => none
def oEqD (x y : D) : Option Bool := match py x, py y with
  | some d, some e => if SeqAt.shaped d = true ∧ SeqAt.shaped e = true then some (PyData.eqv d e) else none
  | _, _ => none
def dEq (x y : D) : Option Bool := (oEqS x y).or (oEqD x y)
def oEq (x y : D) : Option D := (dEq x y).map fun b => .bl b
def oNe (x y : D) : Option D := (dEq x y).map fun b => .bl (!b)
def flatD : D → Bool
  | .non => true
  | .bl _ => true
  | .int _ => true
  | .str _ => true
  | _ => false
def eqF : D → D → Bool
  | .non, .non => true
  | .bl a, .bl b => a == b
  | .bl a, .int b => (if a then 1 else 0) == b
  | .int a, .bl b => a == (if b then 1 else 0)
  | .int a, .int b => a == b
  | .str a, .str b => a == b
  | _, _ => false
def inFO (x : D) (xs : List D) : Option Bool := if flatD x = true ∧ xs.all flatD = true then some (xs.any fun y => eqF y x) else none
def inDO (x : D) (xs : List D) : Option Bool := match py x, pyL xs with
  | some d, some ds => if SeqAt.shaped d = true ∧ SeqAt.shaped (.list ds) = true then some (ds.any fun z => PyData.eqv z d) else none
  | _, _ => none
def inO : D → D → Option Bool
  | x, .lst xs => (inFO x xs).or (inDO x xs)
  | x, .tup xs => inFO x xs
  | _, _ => none
def oIn (x y : D) : Option D := (inO x y).map fun b => .bl b
def oNotIn (x y : D) : Option D := (inO x y).map fun b => .bl (!b)
def oIs : D → D → Option D
  | .non, .non => some (.bl true)
  | .bl a, .bl b => some (.bl (decide (a = b)))
  | _, .non => some (.bl false)
  | _, _ => none
def oIsNot : D → D → Option D
  | .non, .non => some (.bl false)
  | .bl a, .bl b => some (.bl (!decide (a = b)))
  | _, .non => some (.bl true)
  | _, _ => none
def oIx : D → D → Option D
  | .lst xs, .int i => atI xs i
  | .tup xs, .int i => atI xs i
  | .str s, .int i => if s.length ≤ 1000000 then (match atI s.cps.toList i with
    | some c => some (.str ⟨#[c]⟩)
    | none => none) else none
  | _, _ => none

section
variable {X : Cx} {K : PySem.W.Frag} {F H : Hp}
theorem opd_I0 {f : Value → Value → Sem Value} {g : Int → Int → D} {gv : Int → Int → V} {o : D → D → Option D} (h : OpR X f (rI0 gv)) (hr : ∀ F i j, Rep X.K F (g i j) (gv i j)) (ho : ∀ x y z, o x y = some z → ∃ i j, x = .int i ∧ y = .int j ∧ z = g i j) : OpD X f o :=
  ⟨_, h, fun x y z e F H v w Q s rx ry k => by
    obtain ⟨i, j, rfl, rfl, rfl⟩ := ho x y z e
    simp only [Rep] at rx ry
    exact ⟨i, j, rx, ry, k _ F H (.refl s) (hr F i j)⟩⟩
theorem opd_I {f : Value → Value → Sem Value} {C : Int → Int → Prop} {g : Int → Int → D} {gv : Int → Int → V} {o : D → D → Option D} (h : OpR X f (rI C gv)) (hr : ∀ F i j, Rep X.K F (g i j) (gv i j)) (ho : ∀ x y z, o x y = some z → ∃ i j, x = .int i ∧ y = .int j ∧ C i j ∧ z = g i j) : OpD X f o :=
  ⟨_, h, fun x y z e F H v w Q s rx ry k => by
    obtain ⟨i, j, rfl, rfl, c, rfl⟩ := ho x y z e
    simp only [Rep] at rx ry
    exact ⟨i, j, rx, ry, c, k _ F H (.refl s) (hr F i j)⟩⟩
theorem od_addI : OpD X (binaryOp .Add) oAddI := opd_I0 (g := fun i j => .int (i + j)) op_add (fun F i j => by simp [Rep]) fun x y z e => by
  cases x <;> cases y <;> simp [oAddI] at e
  exact ⟨_, _, rfl, rfl, e.symm⟩
theorem od_sub : OpD X (binaryOp .Sub) oSub := opd_I0 (g := fun i j => .int (i - j)) op_sub (fun F i j => by simp [Rep]) fun x y z e => by
  cases x <;> cases y <;> simp [oSub] at e
  exact ⟨_, _, rfl, rfl, e.symm⟩
theorem mulOk_c {i j : Int} (h : mulOk i j = true) : CMul i j := by
  unfold mulOk at h
  unfold CMul
  simpa using h
theorem od_mulI : OpD X (binaryOp .Mult) oMulI := opd_I (g := fun i j => .int (i * j)) op_mul (fun F i j => by simp [Rep]) fun x y z e => by
  cases x <;> cases y <;> simp [oMulI] at e
  exact ⟨_, _, rfl, rfl, mulOk_c e.1, e.2.symm⟩
theorem od_mod : OpD X (binaryOp .Mod) oMod := opd_I (g := fun i j => .int (i % j)) op_mod (fun F i j => by simp [Rep]) fun x y z e => by
  cases x <;> cases y <;> simp [oMod] at e
  exact ⟨_, _, rfl, rfl, e.1, e.2.symm⟩
theorem od_fdiv : OpD X (binaryOp .FloorDiv) oFdiv := opd_I (g := fun i j => .int (i / j)) op_fdivW (fun F i j => by simp [Rep]) fun x y z e => by
  cases x <;> cases y <;> simp [oFdiv] at e
  exact ⟨_, _, rfl, rfl, e.1, e.2.symm⟩
theorem ud_neg : UnD X (unaryOp .USub) oNeg := ⟨_, un_neg, fun x z e F H v Q s rx k => by
  cases x <;> simp [oNeg] at e
  subst e
  simp only [Rep] at rx
  exact ⟨_, rx, k _ F H (.refl s) (by simp [Rep])⟩⟩
theorem od_addS : OpD X (binaryOp .Add) oAddS := ⟨_, op_add_str, fun x y z e F H v w Q s rx ry k => by
  cases x <;> cases y <;> simp [oAddS] at e
  obtain ⟨hl, rfl⟩ := e
  simp only [Rep] at rx ry
  exact ⟨_, _, rx, ry, sizeLine_ok hl, k _ F H (.refl s) (by simp [Rep])⟩⟩
theorem od_addL : OpD X (binaryOp .Add) oAddL := ⟨_, op_cat, fun x y z e F H v w Q s rx ry k => by
  cases x <;> cases y <;> simp [oAddL] at e
  obtain ⟨hl, rfl⟩ := e
  simp only [Rep] at rx ry
  obtain ⟨a, vs, e1, h1, r1⟩ := rx
  obtain ⟨b, ws, e2, h2, r2⟩ := ry
  refine ⟨a, b, vs, ws, e1, e2, s _ _ h1, s _ _ h2, sizeLine_ok (by rw [← r1.length, ← r2.length]; exact hl), fun p hp => k _ _ _ (.new s hp) ?_⟩
  have z := same_upd (o := .lst (vs ++ ws)) (fresh_F s hp)
  simp only [Rep]
  exact ⟨p, _, rfl, upd_same, (RepL.mono z _ _ r1).append (RepL.mono z _ _ r2)⟩⟩
theorem od_addT : OpD X (binaryOp .Add) oAddT := ⟨_, op_catF, fun x y z e F H v w Q s rx ry k => by
  cases x <;> cases y <;> simp [oAddT] at e
  obtain ⟨hl, rfl⟩ := e
  simp only [Rep] at rx ry
  obtain ⟨a, vs, e1, h1, r1⟩ := rx
  obtain ⟨b, ws, e2, h2, r2⟩ := ry
  refine ⟨a, b, vs, ws, e1, e2, seqT s h1.sq, seqT s h2.sq, sizeLine_ok (by rw [← r1.length, ← r2.length]; exact hl), fun ev => ?_, fun _ ew => ?_, fun _ _ p ob hd hp => k _ _ _ (.new s hp) ?_⟩
  · subst ev
    have : ∀ {l : List D}, RepL X.K F l [] → l = [] := fun {l} r => List.length_eq_zero_iff.mp r.length
    have q := this r1
    subst q
    refine k _ F H (.refl s) ?_
    simp only [Rep, List.nil_append]
    exact ⟨b, ws, rfl, h2, r2⟩
  · subst ew
    have : ∀ {l : List D}, RepL X.K F l [] → l = [] := fun {l} r => List.length_eq_zero_iff.mp r.length
    have q := this r2
    subst q
    refine k _ F H (.refl s) ?_
    simp only [Rep, List.append_nil]
    exact ⟨a, vs, rfl, h1, r1⟩
  · have z := same_upd (o := .frz ob (.tup (vs ++ ws))) (fresh_F s hp)
    simp only [Rep]
    exact ⟨p, _, rfl, .new hd, (RepL.mono z _ _ r1).append (RepL.mono z _ _ r2)⟩⟩
theorem OpD.eq {f : Value → Value → Sem Value} {o o' : D → D → Option D} (h : OpD X f o) (e : ∀ x y, o' x y = o x y) : OpD X f o' := by
  have : o' = o := funext fun x => funext fun y => e x y
  rw [this]
  exact h
theorem od_add : OpD X (binaryOp .Add) oAdd := (od_addI.or (od_addS.or (od_addL.or od_addT))).eq fun x y => by
  cases x <;> cases y <;> simp [oAdd, oAddI, oAddS, oAddL, oAddT]
theorem rep_flat {l : List D} {vs : List V} (r : RepL K F l vs) (k : Nat) : RepL K F (List.replicate k l).flatten (List.replicate k vs).flatten := by
  induction k with
  | zero => exact RepL.nil
  | succ k ih =>
    rw [List.replicate_succ, List.replicate_succ, List.flatten_cons, List.flatten_cons]
    exact r.append ih
theorem od_mulL : OpD X (binaryOp .Mult) oMulL := ⟨_, op_rep, fun x y z e F H v w Q s rx ry k => by
  cases x <;> cases y <;> simp [oMulL] at e
  rename_i xs i
  obtain ⟨⟨h1, h2, h3⟩, rfl⟩ := e
  simp only [Rep] at rx ry
  obtain ⟨a, vs, e1, g1, r1⟩ := rx
  refine ⟨a, _, vs, e1, ry, s _ _ g1, by omega, by omega, sizeLine_ok (by rw [← r1.length]; exact h3), fun p hp => k _ _ _ (.new s hp) ?_⟩
  have z := same_upd (o := .lst (List.replicate i.toNat vs).flatten) (fresh_F s hp)
  simp only [Rep]
  exact ⟨p, _, rfl, upd_same, rep_flat (RepL.mono z _ _ r1) _⟩⟩
theorem od_mul : OpD X (binaryOp .Mult) oMul := (od_mulI.or od_mulL).eq fun x y => by
  cases x <;> cases y <;> simp [oMul, oMulI, oMulL]
theorem od_lt : OpD X (compareOp .Lt) oLt := opd_I0 (g := fun i j => .bl (decide (i < j))) op_lt (fun F i j => by simp [Rep]) fun x y z e => by
  cases x <;> cases y <;> simp [oLt] at e
  exact ⟨_, _, rfl, rfl, e.symm⟩
theorem od_le : OpD X (compareOp .LtE) oLe := opd_I0 (g := fun i j => .bl (decide (i ≤ j))) op_le (fun F i j => by simp [Rep]) fun x y z e => by
  cases x <;> cases y <;> simp [oLe] at e
  exact ⟨_, _, rfl, rfl, e.symm⟩
theorem od_gt : OpD X (compareOp .Gt) oGt := opd_I0 (g := fun i j => .bl (decide (j < i))) op_gt (fun F i j => by simp [Rep]) fun x y z e => by
  cases x <;> cases y <;> simp [oGt] at e
  exact ⟨_, _, rfl, rfl, e.symm⟩
theorem od_ge : OpD X (compareOp .GtE) oGe := opd_I0 (g := fun i j => .bl (decide (j ≤ i))) op_ge (fun F i j => by simp [Rep]) fun x y z e => by
  cases x <;> cases y <;> simp [oGe] at e
  exact ⟨_, _, rfl, rfl, e.symm⟩

/-! ### == -/
mutual
theorem py_dp : ∀ (d : D) (v : V) (p : PyData), Rep K F d v → py d = some p → Dp K F v p
  | .non, v, p, r, e => by simp only [Rep] at r; subst r; cases e; exact .non
  | .bl b, v, p, r, e => by simp only [Rep] at r; subst r; cases e; exact .bl b
  | .int i, v, p, r, e => by simp only [Rep] at r; subst r; cases e; exact .int i
  | .str x, v, p, r, e => by simp only [Rep] at r; subst r; cases e; exact .str x
  | .tup ds, v, p, r, e => by
    simp only [Rep] at r
    obtain ⟨a, vs, rfl, h, r⟩ := r
    unfold py at e
    cases q : pyL ds with
    | none => simp [q] at e
    | some ys =>
      simp only [q] at e
      cases e
      exact .tup h.sq (pyL_dp ds vs ys r q)
  | .lst ds, v, p, r, e => by
    simp only [Rep] at r
    obtain ⟨a, vs, rfl, h, r⟩ := r
    unfold py at e
    cases q : pyL ds with
    | none => simp [q] at e
    | some ys =>
      simp only [q] at e
      cases e
      exact .lst (Evl.sq_of h) (pyL_dp ds vs ys r q)
  | .ins _ _, _, _, _, e => by cases e
  | .scr _, _, _, _, e => by cases e
theorem pyL_dp : ∀ (ds : List D) (vs : List V) (ps : List PyData), RepL K F ds vs → pyL ds = some ps → DpAll K F vs ps
  | [], vs, ps, r, e => by simp only [RepL] at r; subst r; cases e; exact .nil
  | d :: ds, vs, ps, r, e => by
    simp only [RepL] at r
    obtain ⟨v, ws, rfl, r1, r2⟩ := r
    unfold pyL at e
    cases q : py d with
    | none => simp [q] at e
    | some y =>
      cases q2 : pyL ds with
      | none => simp [q, q2] at e
      | some ys =>
        simp only [q, q2] at e
        cases e
        exact .cons (py_dp d v y r1 q) (pyL_dp ds ws ys r2 q2)
end
mutual
theorem Dp.mono {F F' : Hp} (s : Same F F') : ∀ (p : PyData) (v : V), Dp K F v p → Dp K F' v p
  | .none, v, h => by cases h; exact .non
  | .bool b, v, h => by cases h; exact .bl b
  | .int i, v, h => by cases h; exact .int i
  | .str x, v, h => by cases h; exact .str x
  | .list ds, v, h => by
    cases h with
    | lst h1 h2 => exact .lst (seqL s h1) (DpAll.mono s ds _ h2)
  | .tuple ds, v, h => by
    cases h with
    | tup h1 h2 => exact .tup (seqT s h1) (DpAll.mono s ds _ h2)
  | .dict _, v, h => by cases h
theorem DpAll.mono {F F' : Hp} (s : Same F F') : ∀ (ps : List PyData) (vs : List V), DpAll K F vs ps → DpAll K F' vs ps
  | [], vs, h => by cases h; exact .nil
  | p :: ps, vs, h => by
    cases h with
    | cons h1 h2 => exact .cons (Dp.mono s p _ h1) (DpAll.mono s ps _ h2)
end
theorem rep_scal {x y : D} {v w : V} {b : Bool} (rx : Rep K F x v) (ry : Rep K F y w) (e : oEqS x y = some b) : scal v w = true ∧ b = decide (v = w) := by
  cases x <;> cases y <;> simp [oEqS] at e <;> simp only [Rep] at rx ry <;> subst rx ry <;> subst e <;> simp [scal]
theorem od_eqS : OpD X (compareOp .Eq) (fun x y => (oEqS x y).map fun b => .bl b) := ⟨_, op_eq, fun x y z e F H v w Q s rx ry k => by
  obtain ⟨b, e1, e2⟩ := Option.map_eq_some_iff.mp e
  subst e2
  obtain ⟨h1, h2⟩ := rep_scal rx ry e1
  exact ⟨h1, k _ F H (.refl s) (by simp [Rep, h2])⟩⟩
theorem od_neS : OpD X (compareOp .NotEq) (fun x y => (oEqS x y).map fun b => .bl (!b)) := ⟨_, op_ne, fun x y z e F H v w Q s rx ry k => by
  obtain ⟨b, e1, e2⟩ := Option.map_eq_some_iff.mp e
  subst e2
  obtain ⟨h1, h2⟩ := rep_scal rx ry e1
  exact ⟨h1, k _ F H (.refl s) (by simp [Rep, h2])⟩⟩
theorem oEqD_some {x y : D} {b : Bool} (e : oEqD x y = some b) : ∃ d p, py x = some d ∧ py y = some p ∧ SeqAt.shaped d = true ∧ SeqAt.shaped p = true ∧ b = PyData.eqv d p := by
  unfold oEqD at e
  cases q : py x with
  | none => simp [q] at e
  | some d =>
    cases q2 : py y with
    | none => simp [q, q2] at e
    | some p =>
      simp only [q, q2] at e
      split at e
      · rename_i h
        cases e
        exact ⟨d, p, rfl, rfl, h.1, h.2, rfl⟩
      · cases e
theorem od_eqD (hu : X.A.units + 64 < cLine) : OpD X (compareOp .Eq) (fun x y => (oEqD x y).map fun b => .bl b) := ⟨_, op_eqD hu, fun x y z e F H v w Q s rx ry k => by
  obtain ⟨b, e1, e2⟩ := Option.map_eq_some_iff.mp e
  subst e2
  obtain ⟨d, p, h1, h2, h3, h4, rfl⟩ := oEqD_some e1
  exact ⟨d, p, Dp.mono s _ _ (py_dp _ _ _ rx h1), Dp.mono s _ _ (py_dp _ _ _ ry h2), h3, h4, k _ F H (.refl s) (by simp [Rep])⟩⟩
theorem od_neD (hu : X.A.units + 64 < cLine) : OpD X (compareOp .NotEq) (fun x y => (oEqD x y).map fun b => .bl (!b)) := ⟨_, op_neD hu, fun x y z e F H v w Q s rx ry k => by
  obtain ⟨b, e1, e2⟩ := Option.map_eq_some_iff.mp e
  subst e2
  obtain ⟨d, p, h1, h2, h3, h4, rfl⟩ := oEqD_some e1
  exact ⟨d, p, Dp.mono s _ _ (py_dp _ _ _ rx h1), Dp.mono s _ _ (py_dp _ _ _ ry h2), h3, h4, k _ F H (.refl s) (by simp [Rep])⟩⟩
theorem od_eq (hu : X.A.units + 64 < cLine) : OpD X (compareOp .Eq) oEq := (od_eqS.or (od_eqD hu)).eq fun x y => by
  unfold oEq dEq
  cases oEqS x y <;> rfl
theorem od_ne (hu : X.A.units + 64 < cLine) : OpD X (compareOp .NotEq) oNe := (od_neS.or (od_neD hu)).eq fun x y => by
  unfold oNe dEq
  cases oEqS x y <;> rfl

/-! ### in -/
theorem rep_flatD {x : D} {v : V} (h : flatD x = true) (r : Rep K F x v) : flatV v = true := by
  cases x <;> simp [flatD] at h <;> simp only [Rep] at r <;> subst r <;> rfl
theorem rep_flatL : ∀ {xs : List D} {vs : List V}, xs.all flatD = true → RepL K F xs vs → vs.all flatV = true
  | [], vs, _, r => by simp only [RepL] at r; subst r; rfl
  | x :: xs, vs, h, r => by
    simp only [RepL] at r
    obtain ⟨v, ws, rfl, r1, r2⟩ := r
    simp only [List.all_cons, Bool.and_eq_true] at h ⊢
    exact ⟨rep_flatD h.1 r1, rep_flatL h.2 r2⟩
theorem rep_eqF {x y : D} {v w : V} (hx : flatD x = true) (hy : flatD y = true) (rx : Rep K F x v) (ry : Rep K F y w) : eqF x y = eqV v w := by
  cases x <;> simp [flatD] at hx <;> cases y <;> simp [flatD] at hy <;> simp only [Rep] at rx ry <;> subst rx ry <;> rfl
theorem rep_inF {x : D} {v : V} (hx : flatD x = true) (rx : Rep K F x v) : ∀ {xs : List D} {vs : List V}, xs.all flatD = true → RepL K F xs vs → (xs.any fun y => eqF y x) = inV v vs
  | [], vs, _, r => by simp only [RepL] at r; subst r; rfl
  | y :: xs, vs, h, r => by
    simp only [RepL] at r
    obtain ⟨w, ws, rfl, r1, r2⟩ := r
    simp only [List.all_cons, Bool.and_eq_true] at h
    have ih := rep_inF hx rx h.2 r2
    unfold inV at ih ⊢
    rw [List.any_cons, List.any_cons, ih, rep_eqF h.1 hx r1 rx]
theorem inFO_some {x : D} {xs : List D} {b : Bool} (e : inFO x xs = some b) : flatD x = true ∧ xs.all flatD = true ∧ b = xs.any fun y => eqF y x := by
  unfold inFO at e
  split at e
  · rename_i h
    cases e
    exact ⟨h.1, h.2, rfl⟩
  · cases e
def seqInF (neg : Bool) (x y : D) : Option D := match seqOf y with
  | some xs => (inFO x xs).map fun b => .bl (if neg then !b else b)
  | none => none
theorem rep_seq {y : D} {w : V} {xs : List D} (s : Same F H) (ry : Rep K F y w) (e : seqOf y = some xs) : ∃ p vs, w = .ref p ∧ (SqL K H p vs ∨ SqT K H p vs) ∧ RepL K F xs vs := by
  cases y <;> simp [seqOf] at e
  · subst e
    simp only [Rep] at ry
    obtain ⟨a, vs, h1, h2, h3⟩ := ry
    exact ⟨a, vs, h1, .inr (seqT s h2.sq), h3⟩
  · subst e
    simp only [Rep] at ry
    obtain ⟨a, vs, h1, h2, h3⟩ := ry
    exact ⟨a, vs, h1, .inl (seqL s (Evl.sq_of h2)), h3⟩
theorem od_inF : OpD X (compareOp .In) (seqInF false) := ⟨_, op_in_seq, fun x y z e F H v w Q s rx ry k => by
  unfold seqInF at e
  cases q : seqOf y with
  | none => simp [q] at e
  | some xs =>
    simp only [q] at e
    obtain ⟨b, e1, e2⟩ := Option.map_eq_some_iff.mp e
    subst e2
    obtain ⟨h1, h2, rfl⟩ := inFO_some e1
    obtain ⟨p, vs, rfl, hs, r⟩ := rep_seq s ry q
    exact ⟨p, vs, rfl, hs, rep_flatD h1 rx, rep_flatL h2 r, k _ F H (.refl s) (by simp [Rep, rep_inF h1 rx h2 r])⟩⟩
theorem od_notInF : OpD X (compareOp .NotIn) (seqInF true) := ⟨_, op_notIn_seq, fun x y z e F H v w Q s rx ry k => by
  unfold seqInF at e
  cases q : seqOf y with
  | none => simp [q] at e
  | some xs =>
    simp only [q] at e
    obtain ⟨b, e1, e2⟩ := Option.map_eq_some_iff.mp e
    subst e2
    obtain ⟨h1, h2, rfl⟩ := inFO_some e1
    obtain ⟨p, vs, rfl, hs, r⟩ := rep_seq s ry q
    exact ⟨p, vs, rfl, hs, rep_flatD h1 rx, rep_flatL h2 r, k _ F H (.refl s) (by simp [Rep, rep_inF h1 rx h2 r])⟩⟩
def lstInD (neg : Bool) (x y : D) : Option D := match y with
  | .lst xs => (inDO x xs).map fun b => .bl (if neg then !b else b)
  | _ => none
theorem inDO_some {x : D} {xs : List D} {b : Bool} (e : inDO x xs = some b) : ∃ d ds, py x = some d ∧ pyL xs = some ds ∧ SeqAt.shaped d = true ∧ SeqAt.shaped (.list ds) = true ∧ b = ds.any fun z => PyData.eqv z d := by
  unfold inDO at e
  cases q : py x with
  | none => simp [q] at e
  | some d =>
    cases q2 : pyL xs with
    | none => simp [q, q2] at e
    | some p =>
      simp only [q, q2] at e
      split at e
      · rename_i h
        cases e
        exact ⟨d, p, rfl, rfl, h.1, h.2, rfl⟩
      · cases e
theorem od_inD (hu : X.A.units + 65 < cLine) : OpD X (compareOp .In) (lstInD false) := ⟨_, op_inD hu, fun x y z e F H v w Q s rx ry k => by
  cases y <;> try (simp [lstInD] at e; done)
  rename_i xs
  obtain ⟨b, e1, e2⟩ := Option.map_eq_some_iff.mp (show (inDO x xs).map _ = some z from e)
  subst e2
  obtain ⟨d, ds, h1, h2, h3, h4, rfl⟩ := inDO_some e1
  exact ⟨d, ds, Dp.mono s _ _ (py_dp _ _ _ rx h1), Dp.mono s _ _ (py_dp _ _ _ ry (by unfold py; rw [h2])), h3, h4, k _ F H (.refl s) (by simp [Rep])⟩⟩
theorem od_notInD (hu : X.A.units + 65 < cLine) : OpD X (compareOp .NotIn) (lstInD true) := ⟨_, op_notInD hu, fun x y z e F H v w Q s rx ry k => by
  cases y <;> try (simp [lstInD] at e; done)
  rename_i xs
  obtain ⟨b, e1, e2⟩ := Option.map_eq_some_iff.mp (show (inDO x xs).map _ = some z from e)
  subst e2
  obtain ⟨d, ds, h1, h2, h3, h4, rfl⟩ := inDO_some e1
  exact ⟨d, ds, Dp.mono s _ _ (py_dp _ _ _ rx h1), Dp.mono s _ _ (py_dp _ _ _ ry (by unfold py; rw [h2])), h3, h4, k _ F H (.refl s) (by simp [Rep])⟩⟩
theorem od_in (hu : X.A.units + 65 < cLine) : OpD X (compareOp .In) oIn := (od_inF.or (od_inD hu)).eq fun x y => by
  unfold oIn inO seqInF lstInD
  cases y <;> simp [seqOf]
  cases inFO x _ <;> simp
theorem od_notIn (hu : X.A.units + 65 < cLine) : OpD X (compareOp .NotIn) oNotIn := (od_notInF.or (od_notInD hu)).eq fun x y => by
  unfold oNotIn inO seqInF lstInD
  cases y <;> simp [seqOf]
  cases inFO x _ <;> simp

/-! ### is -/
def oIsN : D → D → Option D
  | .non, .non => some (.bl true)
  | _, .non => some (.bl false)
  | _, _ => none
def oIsB : D → D → Option D
  | .bl a, .bl b => some (.bl (decide (a = b)))
  | _, _ => none
def oNotN : D → D → Option D
  | .non, .non => some (.bl false)
  | _, .non => some (.bl true)
  | _, _ => none
def oNotB : D → D → Option D
  | .bl a, .bl b => some (.bl (!decide (a = b)))
  | _, _ => none
theorem rep_non {x : D} {v : V} (r : Rep K F x v) : decide (v = .non) = (match x with
    | .non => true
    | _ => false) := by
  cases x <;> simp only [Rep] at r
  all_goals first
    | (subst r; simp)
    | (obtain ⟨a, vs, h, _⟩ := r; subst h; simp)
    | (obtain ⟨a, dx, vs, h, _⟩ := r; subst h; simp)
    | (obtain ⟨a, h, _⟩ := r; subst h; simp)
theorem od_isN : OpD X (compareOp .Is) oIsN := ⟨_, op_isN, fun x y z e F H v w Q s rx ry k => by
  have q := rep_non rx
  cases y <;> cases x <;> simp [oIsN] at e <;> subst e <;> simp only [Rep] at ry <;> subst ry <;> exact ⟨rfl, k _ F H (.refl s) (by simp only [Rep, q])⟩⟩
theorem od_notN : OpD X (compareOp .IsNot) oNotN := ⟨_, op_notN, fun x y z e F H v w Q s rx ry k => by
  have q := rep_non rx
  cases y <;> cases x <;> simp [oNotN] at e <;> subst e <;> simp only [Rep] at ry <;> subst ry <;> exact ⟨rfl, k _ F H (.refl s) (by simp only [Rep, q]; rfl)⟩⟩
theorem od_isB : OpD X (compareOp .Is) oIsB := ⟨_, op_isBl, fun x y z e F H v w Q s rx ry k => by
  cases x <;> cases y <;> simp [oIsB] at e
  subst e
  simp only [Rep] at rx ry
  exact ⟨_, _, rx, ry, k _ F H (.refl s) (by simp [Rep])⟩⟩
theorem od_notB : OpD X (compareOp .IsNot) oNotB := ⟨_, op_notBl, fun x y z e F H v w Q s rx ry k => by
  cases x <;> cases y <;> simp [oNotB] at e
  subst e
  simp only [Rep] at rx ry
  exact ⟨_, _, rx, ry, k _ F H (.refl s) (by simp [Rep])⟩⟩
theorem od_is : OpD X (compareOp .Is) oIs := (od_isN.or od_isB).eq fun x y => by
  cases x <;> cases y <;> simp [oIs, oIsN, oIsB]
theorem od_isNot : OpD X (compareOp .IsNot) oIsNot := (od_notN.or od_notB).eq fun x y => by
  cases x <;> cases y <;> simp [oIsNot, oNotN, oNotB]

/-! ### subscripts -/
theorem rep_at {xs : List D} {vs : List V} {i : Int} {d : D} (r : RepL K F xs vs) (h : atI xs i = some d) : ∃ v, atI vs i = some v ∧ Rep K F d v := by
  unfold atI at h ⊢
  rw [← r.length]
  cases q : ixN xs.length i with
  | none => simp [q] at h
  | some j =>
    simp only [q, Option.bind_some] at h ⊢
    exact r.get h
theorem IxD.or {o o' : D → D → Option D} (h : IxD X o) (h' : IxD X o') : IxD X (fun x y => (o x y).or (o' x y)) := by
  obtain ⟨r, h1, h2⟩ := h.ex
  obtain ⟨r', h1', h2'⟩ := h'.ex
  refine ⟨fun x y H Q => r x y H Q ∨ r' x y H Q, fun a b pins s σ H x y v u Q I rx ry q => ?_, fun x y z e F H v w Q s rx ry k => ?_⟩
  · rcases q with q | q
    · exact h1 a b pins s σ H x y v u Q I rx ry q
    · exact h1' a b pins s σ H x y v u Q I rx ry q
  · cases q : o x y with
    | some z' =>
      rw [q] at e
      exact .inl (h2 x y z (by rw [q]; exact e) F H v w Q s rx ry k)
    | none =>
      rw [q] at e
      exact .inr (h2' x y z e F H v w Q s rx ry k)
theorem IxD.eq {o o' : D → D → Option D} (h : IxD X o) (e : ∀ x y, o' x y = o x y) : IxD X o' := by
  have : o' = o := funext fun x => funext fun y => e x y
  rw [this]
  exact h
def oIxL : D → D → Option D
  | .lst xs, .int i => atI xs i
  | _, _ => none
def oIxT : D → D → Option D
  | .tup xs, .int i => atI xs i
  | _, _ => none
def oIxS : D → D → Option D
  | .str s, .int i => if s.length ≤ 1000000 then (match atI s.cps.toList i with
    | some c => some (.str ⟨#[c]⟩)
    | none => none) else none
  | _, _ => none
theorem ixd_L : IxD X oIxL := ⟨_, ix_list, fun x y z e F H v w Q s rx ry k => by
  cases x <;> cases y <;> simp [oIxL] at e
  simp only [Rep] at rx ry
  obtain ⟨a, vs, rfl, h1, r⟩ := rx
  obtain ⟨u, e2, ru⟩ := rep_at r e
  exact ⟨a, vs, _, u, rfl, ry, seqL s (Evl.sq_of h1), e2, k _ F H (.refl s) ru⟩⟩
theorem ixd_T : IxD X oIxT := ⟨_, ix_tup, fun x y z e F H v w Q s rx ry k => by
  cases x <;> cases y <;> simp [oIxT] at e
  simp only [Rep] at rx ry
  obtain ⟨a, vs, rfl, h1, r⟩ := rx
  obtain ⟨u, e2, ru⟩ := rep_at r e
  exact ⟨a, vs, _, u, rfl, ry, seqT s h1.sq, e2, k _ F H (.refl s) ru⟩⟩
theorem ixd_S : IxD X oIxS := ⟨_, ix_str, fun x y z e F H v w Q s rx ry k => by
  cases x <;> cases y <;> simp only [oIxS] at e <;> try cases e
  split at e
  · rename_i hl
    split at e
    · rename_i c hc
      cases e
      simp only [Rep] at rx ry
      exact ⟨_, _, c, rx, ry, sizeLine_ok hl, hc, k _ F H (.refl s) (by simp [Rep])⟩
    · cases e
  · cases e⟩
theorem ixd : IxD X oIx := (ixd_L.or (ixd_T.or ixd_S)).eq fun x y => by
  cases x <;> cases y <;> simp [oIx, oIxL, oIxT, oIxS]
end
end Dn

set_option Elab.async false
set_option linter.all false
set_option maxRecDepth 100000
set_option maxHeartbeats 4000000
namespace Dn
open PySem PySem.Spec L2

def oLen : List D → Option D
  | [.lst xs] => some (.int (xs.length : Nat))
  | [.tup xs] => some (.int (xs.length : Nat))
  | [.str s] => if s.length ≤ 1000000 then some (.int (s.length : Nat)) else none
  | _ => none
def oInt : List D → Option D
  | [.int i] => some (.int i)
  | [.bl b] => some (.int (if b then 1 else 0))
  | _ => none
def oAbs : List D → Option D
  | [.int i] => some (.int (if i < 0 then -i else i))
  | _ => none
def oTuple : List D → Option D
  | [.lst xs] => some (.tup xs)
  | [.tup xs] => some (.tup xs)
  | _ => none
def oList : List D → Option (List D)
  | [.lst xs] => some xs
  | [.tup xs] => some xs
  | _ => none
def bls : List D → Option (List Bool)
  | [] => some []
  | .bl b :: r => (bls r).map (b :: ·)
  | _ => none
def oAll : List D → Option D
  | [.lst xs] => (bls xs).map fun bs => .bl (bs.all id)
  | _ => none
def oAny : List D → Option D
  | [.lst xs] => (bls xs).map fun bs => .bl (bs.any id)
  | _ => none
section
variable {X : Cx} {K : PySem.W.Frag} {F H : Hp}
theorem CallD.eq {f : Value} {o o' : List D → Option D} (h : CallD X f o) (e : ∀ x, o' x = o x) : CallD X f o' := by
  have : o' = o := funext e
  rw [this]
  exact h
theorem cd_len : CallD X (.builtin "len") oLen := ⟨_, call_len, fun xs z e F H vs Q s r k => by
  unfold oLen at e
  split at e
  · cases e
    simp only [RepL, Rep] at r
    obtain ⟨v, ws, rfl, ⟨a, us, rfl, h1, r1⟩, rfl⟩ := r
    exact ⟨_, _, rfl, .inl ⟨us, seqL s (Evl.sq_of h1), r1.length⟩, k _ F H (.refl s) (by simp [Rep])⟩
  · cases e
    simp only [RepL, Rep] at r
    obtain ⟨v, ws, rfl, ⟨a, us, rfl, h1, r1⟩, rfl⟩ := r
    exact ⟨_, _, rfl, .inr ⟨us, seqT s h1.sq, r1.length⟩, k _ F H (.refl s) (by simp [Rep])⟩
  · split at e
    · rename_i hl
      cases e
      simp only [RepL, Rep] at r
      obtain ⟨v, ws, rfl, rfl, rfl⟩ := r
      exact ⟨_, _, rfl, ⟨sizeLine_ok hl, rfl⟩, k _ F H (.refl s) (by simp [Rep])⟩
    · cases e
  · cases e⟩
theorem cd_int : CallD X (.type "int") oInt := ⟨_, call_int1, fun xs z e F H vs Q s r k => by
  unfold oInt at e
  split at e
  · cases e
    simp only [RepL, Rep] at r
    obtain ⟨v, ws, rfl, rfl, rfl⟩ := r
    exact .inl ⟨_, rfl, k _ F H (.refl s) (by simp [Rep])⟩
  · cases e
    simp only [RepL, Rep] at r
    obtain ⟨v, ws, rfl, rfl, rfl⟩ := r
    exact .inr ⟨_, rfl, k _ F H (.refl s) (by simp [Rep])⟩
  · cases e⟩
theorem cd_abs : CallD X (.builtin "abs") oAbs := ⟨_, call_abs, fun xs z e F H vs Q s r k => by
  unfold oAbs at e
  split at e
  · cases e
    simp only [RepL, Rep] at r
    obtain ⟨v, ws, rfl, rfl, rfl⟩ := r
    exact ⟨_, rfl, k _ F H (.refl s) (by simp [Rep])⟩
  · cases e⟩
theorem cd_tuple : CallD X (.type "tuple") oTuple := ⟨_, call_tupF, fun xs z e F H vs Q s r k => by
  unfold oTuple at e
  split at e
  · cases e
    simp only [RepL, Rep] at r
    obtain ⟨v, ws, rfl, ⟨a, us, rfl, h1, r1⟩, rfl⟩ := r
    refine ⟨a, us, rfl, .inl ⟨seqL s (Evl.sq_of h1), fun p ob hd hp => k _ _ _ (.new s hp) ?_⟩⟩
    simp only [Rep]
    exact ⟨p, us, rfl, .new hd, RepL.mono (same_upd (fresh_F s hp)) _ _ r1⟩
  · cases e
    simp only [RepL, Rep] at r
    obtain ⟨v, ws, rfl, ⟨a, us, rfl, h1, r1⟩, rfl⟩ := r
    refine ⟨a, us, rfl, .inr ⟨seqT s h1.sq, k _ F H (.refl s) ?_⟩⟩
    simp only [Rep]
    exact ⟨a, us, rfl, h1, r1⟩
  · cases e⟩
theorem bls_map : ∀ {xs : List D} {bs : List Bool} {vs : List V}, bls xs = some bs → RepL K F xs vs → vs = bs.map V.bl
  | [], bs, vs, e, r => by
    cases e
    simp only [RepL] at r
    exact r
  | .bl b :: xs, bs, vs, e, r => by
    simp only [bls, Option.map_eq_some_iff] at e
    obtain ⟨cs, e1, e2⟩ := e
    subst e2
    simp only [RepL, Rep] at r
    obtain ⟨v, ws, rfl, rfl, r⟩ := r
    rw [bls_map e1 r]
    rfl
  | .non :: xs, bs, vs, e, r => by simp [bls] at e
  | .int _ :: xs, bs, vs, e, r => by simp [bls] at e
  | .str _ :: xs, bs, vs, e, r => by simp [bls] at e
  | .tup _ :: xs, bs, vs, e, r => by simp [bls] at e
  | .lst _ :: xs, bs, vs, e, r => by simp [bls] at e
  | .ins _ _ :: xs, bs, vs, e, r => by simp [bls] at e
  | .scr _ :: xs, bs, vs, e, r => by simp [bls] at e
theorem cd_all (hc : X.calm = true) : CallD X (.builtin "all") oAll := ⟨_, cr_all hc, fun xs z e F H vs Q s r k => by
  unfold oAll at e
  split at e
  · obtain ⟨bs, e1, rfl⟩ := Option.map_eq_some_iff.mp e
    simp only [RepL, Rep] at r
    obtain ⟨v, ws, rfl, ⟨a, us, rfl, h1, r1⟩, rfl⟩ := r
    have q := bls_map e1 r1
    subst q
    exact ⟨a, bs, rfl, seqL s (Evl.sq_of h1), k _ F H (.refl s) (by simp [Rep])⟩
  · cases e⟩
theorem cd_any (hc : X.calm = true) : CallD X (.builtin "any") oAny := ⟨_, cr_any hc, fun xs z e F H vs Q s r k => by
  unfold oAny at e
  split at e
  · obtain ⟨bs, e1, rfl⟩ := Option.map_eq_some_iff.mp e
    simp only [RepL, Rep] at r
    obtain ⟨v, ws, rfl, ⟨a, us, rfl, h1, r1⟩, rfl⟩ := r
    have q := bls_map e1 r1
    subst q
    exact ⟨a, bs, rfl, seqL s (Evl.sq_of h1), k _ F H (.refl s) (by simp [Rep])⟩
  · cases e⟩
/-- a built-in that makes a new list -/
structure CallF (X : Cx) (f : Value) (o : List D → Option (List D)) : Prop where
  ex : ∃ r : List V → Hp → VK → Prop, CallR X f r ∧ ∀ xs zs, o xs = some zs → ∀ F H vs Q, Same F H → RepL X.K F xs vs → (∀ p us, H p = none → RepL X.K F zs us → Q (.ref p) (upd H p (.lst us))) → r vs H Q
theorem cf_list : CallF X (.type "list") oList := ⟨_, call_list_of, fun xs z e F H vs Q s r k => by
  unfold oList at e
  split at e
  · cases e
    simp only [RepL, Rep] at r
    obtain ⟨v, ws, rfl, ⟨a, us, rfl, h1, r1⟩, rfl⟩ := r
    exact ⟨a, us, rfl, .inl (seqL s (Evl.sq_of h1)), fun p hp => k p us hp r1⟩
  · cases e
    simp only [RepL, Rep] at r
    obtain ⟨v, ws, rfl, ⟨a, us, rfl, h1, r1⟩, rfl⟩ := r
    exact ⟨a, us, rfl, .inr (seqT s h1.sq), fun p hp => k p us hp r1⟩
  · cases e⟩
end
def sCallF (o : List D → Option (List D)) (a : SeL) : SeL := fun E => (a E).bind fun xs E1 => .opt (o xs) E1
structure OpF (X : Cx) (f : Value → Value → Sem Value) (o : D → D → Option (List D)) : Prop where
  ex : ∃ r : R2, OpR X f r ∧ ∀ x y zs, o x y = some zs → ∀ F H v w Q, Same F H → Rep X.K F x v → Rep X.K F y w → (∀ p us, H p = none → RepL X.K F zs us → Q (.ref p) (upd H p (.lst us))) → r v w H Q
def oCat : D → D → Option (List D)
  | .lst xs, .lst ys => if xs.length + ys.length ≤ 1000000 then some (xs ++ ys) else none
  | _, _ => none
def oRep : D → D → Option (List D)
  | .lst xs, .int k => if -1000 ≤ k ∧ k ≤ 1000000 ∧ xs.length * k.toNat ≤ 1000000 then some (List.replicate k.toNat xs).flatten else none
  | _, _ => none
def sBinF (o : D → D → Option (List D)) (a b : Se) : SeL := fun E => (a E).bind fun x E1 => (b E1).bind fun y E2 => .opt (o x y) E2
section
variable {X : Cx} {e0 : E0} {W : WX} {a b : Expr} {fa fb : Se} {pos : Pos} {es : List Expr} {g : SeL}
theorem PostF.opt {K : PySem.W.Frag} {o : Option (List D)} {Q : VK} {σ : St} {E E1 : Sto} {F H : Hp} (h : PostF K e0 W σ E F H (.opt o E1) Q) : ∃ a, o = some a ∧ PostF K e0 W σ E F H (.ok a E1) Q := by
  cases o with
  | some a => exact ⟨a, rfl, h⟩
  | none => exact h.elim
theorem PostF.fin {K : PySem.W.Frag} {zs : List D} {Q : VK} {σ : St} {E : Sto} {F H : Hp} (h : PostF K e0 W σ E F H (.ok zs E) Q) (S : SI K e0 F H σ E) {p : Addr} {us : List V} (hp : H p = none) (r : RepL K F zs us) : Q (.ref p) (upd H p (.lst us)) :=
  h p us F _ (S.grow (Alloc.newH S.sub hp)) (S.alloc (Alloc.newH S.sub hp)) hp (fresh_F S.sub hp) upd_same r
theorem df_callTy {T : String} {x : Str} {p : Pos} {e : Expr} {o : List D → Option (List D)} (hc : CallF X (.type T) o) (hg : Gl X x) (hm : X.mg x = none) (hv : bootBuiltins x = some (.type T)) (ha : DA X e0 W (e :: es) g) (hn : x ≠ "__name__" := by decide) (hdb : (x == ("__debug__" : Str)) = false := by decide)
    (he : starEach (e :: es) X.env = (false, eval e X.env) :: starEach es X.env := by rfl) (hpl : (backTo pos (starEach es X.env)).any (·.1) = false := by rfl) : DF X e0 W (.Call (.Name x p) (e :: es) [] pos) (sCallF o g) := by
  obtain ⟨r, h1, h2⟩ := hc.ex
  refine PE.weak (pe_callTy h1 hg hm hv ha hn hdb he hpl) fun σ H Q ⟨E, F, S, h⟩ => rdG_intro S (PostF.bind h fun xs vs E1 F1 H1 G1 S1 R1 h3 => ?_)
  obtain ⟨zs, e, h4⟩ := h3.opt
  exact h2 xs zs e F1 H1 vs Q S1.sub R1 fun p us hp r => h4.fin S1 hp r
theorem of_cat : OpF X (binaryOp .Add) oCat := ⟨_, op_cat, fun x y z e F H v w Q s rx ry k => by
  cases x <;> cases y <;> simp [oCat] at e
  obtain ⟨hl, rfl⟩ := e
  simp only [Rep] at rx ry
  obtain ⟨a, vs, e1, h1, r1⟩ := rx
  obtain ⟨b, ws, e2, h2, r2⟩ := ry
  exact ⟨a, b, vs, ws, e1, e2, s _ _ h1, s _ _ h2, sizeLine_ok (by rw [← r1.length, ← r2.length]; exact hl), fun p hp => k p _ hp (r1.append r2)⟩⟩
theorem of_rep : OpF X (binaryOp .Mult) oRep := ⟨_, op_rep, fun x y z e F H v w Q s rx ry k => by
  cases x <;> cases y <;> simp [oRep] at e
  rename_i xs i
  obtain ⟨⟨h1, h2, h3⟩, rfl⟩ := e
  simp only [Rep] at rx ry
  obtain ⟨a, vs, e1, g1, r1⟩ := rx
  exact ⟨a, _, vs, e1, ry, s _ _ g1, by omega, by omega, sizeLine_ok (by rw [← r1.length]; exact h3), fun p hp => k p _ hp (rep_flat r1 _)⟩⟩
theorem df_op {op : Operator} {o : D → D → Option (List D)} (ho : OpF X (binaryOp op) o) (ha : DX X e0 W a fa) (hb : DX X e0 W b fb) : DF X e0 W (.BinOp a op b pos) (sBinF o fa fb) := by
  obtain ⟨r, h1, h2⟩ := ho.ex
  refine PE.weak (pe_op h1 ha hb) fun σ H Q ⟨E, F, S, h⟩ => rdG_intro S (PostF.bind h fun x v E1 F1 H1 G1 S1 R1 h3 => rdG_intro S1 (PostF.bind h3 fun y w E2 F2 H2 G2 S2 R2 h4 => ?_))
  obtain ⟨zs, e, h5⟩ := h4.opt
  exact h2 x y zs e F2 H2 v w Q S2.sub (Rep.mono G2.sF _ _ R1) R2 fun p us hp r => h5.fin S2 hp r
def chkLen (a : SeL) : SeL := fun E => (a E).bind fun xs E1 => if xs.length ≤ 1000000 then .ok xs E1 else .bad
theorem df_lst (h : DA X e0 W es g) : DF X e0 W (.List es pos) (chkLen g) := PE.weak (pe_lst h) fun σ H Q ⟨E, F, S, h⟩ => rdG_intro S (PostF.bind h fun xs vs E1 F1 H1 G1 S1 R1 h1 => by
  split at h1
  · rename_i hl
    exact ⟨sizeLine_ok (by rw [← R1.length]; exact hl), fun p hp => h1.fin S1 hp R1⟩
  · exact h1.elim)

/-! ### slices -/
def DO (X : Cx) (e0 : E0) (W : WX) (e : Option Expr) (f : Sto → Out (Option Int)) : Prop := PO X e (rdG X.K e0 W (fun _ (a b : Option Int) => a = b) f)
def oNo : Sto → Out (Option Int) := fun E => .ok none E
def oSome (a : Se) : Sto → Out (Option Int) := fun E => (a E).bind fun d E1 => match d with
  | .int i => .ok (some i) E1
  | _ => .bad
theorem PO.weak {X : Cx} {e : Option Expr} {t t' : TO} (h : PO X e t) (w : ∀ σ H Q, t' σ H Q → t σ H Q) : PO X e t' := ⟨fun pins s σ H Q I q => h.run pins s σ H Q I (w σ H Q q)⟩
theorem do_none : DO X e0 W none oNo := PO.weak po_none fun σ H Q ⟨E, F, S, h⟩ => h.fin0 S rfl
theorem do_some (h : DX X e0 W a fa) : DO X e0 W (some a) (oSome fa) := PO.weak (po_some h) fun σ H Q ⟨E, F, S, h⟩ => rdG_intro S (h.bind fun d v E1 F1 H1 G1 S1 R1 h1 => by
  cases d with
  | int i =>
    simp only [Rep] at R1
    exact ⟨i, R1, h1.fin0 S1 rfl⟩
  | _ => exact h1.elim)
def cutD {α : Type} (xs : List α) (lo hi : Option Int) : List α := (xs.drop (HT.sIx xs.length 0 lo)).take (HT.sIx xs.length xs.length hi - HT.sIx xs.length 0 lo)
def slD : D → Option Int → Option Int → Option D
  | .lst xs, lo, hi => some (.lst (cutD xs lo hi))
  | .tup xs, lo, hi => some (.tup (cutD xs lo hi))
  | .scr ns, lo, hi => some (.lst (cutD (ns.map .int) lo hi))
  | _, _, _ => none
def sSl (a : Se) (lo hi : Sto → Out (Option Int)) : Se := fun E => (a E).bind fun d E1 => (lo E1).bind fun l E2 => (hi E2).bind fun u E3 => .opt (slD d l u) E3
theorem rep_cut {K : PySem.W.Frag} {F : Hp} {xs : List D} {vs : List V} (r : RepL K F xs vs) (lo hi : Option Int) : RepL K F (cutD xs lo hi) (cutV vs lo hi) := by
  unfold cutD cutV
  rw [r.length]
  exact (r.drop _).take _
theorem cut_whole {α : Type} (xs : List α) (lo hi : Option Int) (h : HT.sIx xs.length 0 lo = 0 ∧ HT.sIx xs.length xs.length hi = xs.length) : cutD xs lo hi = xs := by
  unfold cutD
  rw [h.1, h.2]
  simp
theorem repL_ints {K : PySem.W.Frag} {F : Hp} : ∀ ns : List Int, RepL K F (ns.map D.int) (ns.map V.int)
  | [] => RepL.nil
  | n :: ns => RepL.cons (by simp [Rep]) (repL_ints ns)
theorem dx_sl {lo hi : Option Expr} {fl fh : Sto → Out (Option Int)} {p2 : Pos} (ha : DX X e0 W a fa) (hl : DO X e0 W lo fl) (hh : DO X e0 W hi fh) : DX X e0 W (.Subscript a (.Slice lo hi none p2) pos) (sSl fa fl fh) := by
  refine PE.weak (pe_slice (SlR.or sl_list sl_tupF) ha hl hh) fun σ H Q ⟨E, F, S, h⟩ => rdG_intro S (h.bind fun d v E1 F1 H1 G1 S1 R1 h1 => rdG_intro S1 (h1.bind fun l l' E2 F2 H2 G2 S2 R2 h2 => rdG_intro S2 (h2.bind fun u u' E3 F3 H3 G3 S3 R3 h3 => ?_)))
  subst R2 R3
  have R1' := Rep.mono (Same.tr G2.sF G3.sF) _ _ R1
  obtain ⟨z, e, h4⟩ := h3.opt
  cases d <;> simp [slD] at e
  · subst e
    simp only [Rep] at R1'
    obtain ⟨p, vs, rfl, k1, r1⟩ := R1'
    refine .inr ⟨p, vs, rfl, seqT S3.sub k1.sq, fun w => ?_, fun w q ob hd hq => ?_⟩
    · refine h4.fin0 S3 ?_
      rw [cut_whole _ l u (by rw [r1.length]; exact w)]
      simp only [Rep]
      exact ⟨p, vs, rfl, k1, r1⟩
    · refine h4.fin S3 (.new S3.sub hq) ?_
      simp only [Rep]
      exact ⟨q, _, rfl, .new hd, RepL.mono (same_upd (fresh_F S3.sub hq)) _ _ (rep_cut r1 l u)⟩
  · subst e
    simp only [Rep] at R1'
    obtain ⟨p, vs, rfl, k1, r1⟩ := R1'
    refine .inl ⟨p, vs, rfl, seqL S3.sub (Evl.sq_of k1), fun q hq => h4.fin S3 (.new S3.sub hq) ?_⟩
    simp only [Rep]
    exact ⟨q, _, rfl, upd_same, RepL.mono (same_upd (fresh_F S3.sub hq)) _ _ (rep_cut r1 l u)⟩
  · subst e
    simp only [Rep] at R1'
    obtain ⟨p, rfl, k1⟩ := R1'
    refine .inl ⟨p, _, rfl, seqL S3.sub k1, fun q hq => h4.fin S3 (.new S3.sub hq) ?_⟩
    simp only [Rep]
    exact ⟨q, _, rfl, upd_same, rep_cut (repL_ints _) l u⟩

/-! ### isinstance -/
def tyD (K : PySem.W.Frag) : D → Value
  | .non => .type "NoneType"
  | .bl _ => .type "bool"
  | .int _ => .type "int"
  | .str _ => .type "str"
  | .tup _ => .type "tuple"
  | .lst _ => .type "list"
  | .scr _ => .type "list"
  | .ins c _ => .ref (He.ga K (clsName c))
/-- what an instance's class must be told for isinstance -/
structure InsOk (K : PySem.W.Frag) (c : Nat) : Prop where
  cl : Cls K (He.ga K (clsName c))
  ha : PySem.W.findIn K (.ref (He.ga K (clsName c))) "__class__" = some (some (.builtin "object.__class__"))
  hn : PySem.W.specialIn K (.builtin "object.__class__") "__get__" = some (some (.builtin "getset_descriptor.__get__"))
  htk : PySem.W.takesIn K (.builtin "object.__class__") = some true
  hm : PySem.W.mroIn K (He.ga K (clsName c)) (.type "object") = some true
structure IsiOk (K : PySem.W.Frag) (T : Value) (k : D → Option Bool) : Prop where
  ok : ∀ d b, k d = some b → PySem.W.kitOne K (tyD K d) T = some b ∧ (∀ c xs, d = .ins c xs → InsOk K c) ∧ ∀ ns, d ≠ .scr ns
def sIsi (k : D → Option Bool) (a : Se) : Se := fun E => (a E).bind fun d E1 => match k d with
  | some b => .ok (.bl b) E1
  | none => .bad
theorem rep_ty {K : PySem.W.Frag} {F H : Hp} (s : Same F H) {d : D} {v : V} (r : Rep K F d v) (hi : ∀ c xs, d = .ins c xs → InsOk K c) (hs : ∀ ns, d ≠ .scr ns) : TyX K H v (tyD K d) := by
  cases d <;> simp only [Rep] at r
  · subst r; exact .base .non
  · subst r; exact .base (.bl _)
  · subst r; exact .base (.int _)
  · subst r; exact .base (.str _)
  · obtain ⟨a, vs, rfl, h, _⟩ := r
    exact (h.mono s).ty
  · obtain ⟨a, vs, rfl, h, _⟩ := r
    exact .base (.lst (s _ _ h))
  · obtain ⟨a, dx, vs, rfl, h, _⟩ := r
    have q := hi _ _ rfl
    exact .base (.ins (s _ _ h) q.cl q.ha q.hn q.htk q.hm)
  · exact (hs _ rfl).elim
theorem dx_isi {T : Value} {vT : V} {k : D → Option Bool} {x : Str} {p : Pos} {eT : Expr} (K : IsiOk X.K T k) (hT : PE X eT (tC vT)) (cT : ClsV vT T) (hg : Gl X x) (hm : X.mg x = none) (hv : bootBuiltins x = some (.builtin "isinstance")) (ha : DX X e0 W a fa) (hn : x ≠ "__name__" := by decide) (hdb : (x == ("__debug__" : Str)) = false := by decide)
    (hs1 : starEach [eT] X.env = (false, eval eT X.env) :: starEach [] X.env := by rfl) (he : starEach (a :: [eT]) X.env = (false, eval a X.env) :: starEach [eT] X.env := by rfl) (hpl : (backTo pos (starEach [eT] X.env)).any (·.1) = false := by rfl) :
    DX X e0 W (.Call (.Name x p) [a, eT] [] pos) (sIsi k fa) := by
  refine PE.weak (pe_callB call_isi hg hm hv (pa_cons ha (pa_cons hT pa_nil hs1) he) hn hdb he hpl) fun σ H Q ⟨E, F, S, h⟩ => rdG_intro S (h.bind fun d v E1 F1 H1 G1 S1 R1 h1 => ?_)
  cases q : k d with
  | none =>
    simp only [q] at h1
    exact h1.elim
  | some b =>
    simp only [q] at h1
    obtain ⟨k1, k2, k3⟩ := K.ok d b q
    exact ⟨v, vT, _, T, b, rfl, cT, rep_ty S1.sub R1 k2 k3, k1, h1.fin0 S1 (by simp [Rep])⟩

/-! ### an owned list read, changed -/
def sLenO (i : Nat) : Se := fun E => match cellAt E i with
  | some (_, cs) => .ok (.int (cs.length : Nat)) E
  | none => .bad
def sIxO (i : Nat) (b : Se) : Se := fun E => match cellAt E i with
  | none => .bad
  | some _ => (b E).bind fun k E1 => match cellAt E1 i with
    | some (_, cs) => .opt (oIx (.lst cs) k) E1
    | none => .bad
def sInO (o : D → D → Option D) (a : Se) (i : Nat) : Se := fun E => (a E).bind fun x E1 => match cellAt E1 i with
  | some (_, cs) => (match o x (.lst cs) with
    | some (.bl b) => .ok (.bl b) E1
    | _ => .bad)
  | none => .bad
def sTupO' (i : Nat) : Se := fun E => match cellAt E i with
  | some (_, cs) => .ok (.tup cs) E
  | none => .bad
def sAppend (i : Nat) (a : Se) : Ss := fun E => match cellAt E i with
  | none => .bad
  | some _ => (a E).then fun d E1 => match cellAt E1 i with
    | some (s, cs) => if cs.length < 1000000 then .nx (E1.set i (s.put (cs ++ [d]))) else .bad
    | none => .bad
def sExtend (i : Nat) (a : Se) : Ss := fun E => match cellAt E i with
  | none => .bad
  | some _ => (a E).then fun d E1 => match cellAt E1 i, d with
    | some (s, cs), .lst ds => if cs.length + ds.length ≤ 1000000 then .nx (E1.set i (s.put (cs ++ ds))) else .bad
    | _, _ => .bad
def sIxSet (i : Nat) (k a : Se) : Ss := fun E => (a E).then fun d E1 => match cellAt E1 i with
  | none => .bad
  | some _ => (k E1).then fun ki E2 => match cellAt E2 i, ki with
    | some (s, cs), .int j => (match ixN cs.length j with
      | some n => .nx (E2.set i (s.put (cs.set n d)))
      | none => .bad)
    | _, _ => .bad
def sPopAt (i : Nat) (a : Se) : Se := fun E => match cellAt E i with
  | none => .bad
  | some _ => (a E).bind fun k E1 => match cellAt E1 i, k with
    | some (s, cs), .int j => if -1000000 ≤ j ∧ j ≤ 1000000 then (match ixN cs.length j with
      | some n => (match cs[n]? with
        | some d => .ok d (E1.set i (s.put (cs.eraseIdx n)))
        | none => .bad)
      | none => .bad) else .bad
    | _, _ => .bad
variable {y : Str} {i : Nat} {p p2 : Pos} {K : PySem.W.Frag} {F H : Hp} {σ : St} {E : Sto}
theorem cell_open (S : SI K e0 F H σ E) {s : Sl} {cs : List D} (z : cellAt E i = some (s, cs)) : ∃ p vs, σ[i]? = some (some (.ref p)) ∧ H p = some (.lst vs) ∧ F p = none ∧ RepL K F cs vs := by
  obtain ⟨z1, z2⟩ := cellAt_some z
  obtain ⟨p, vs, a1, a2, a3, a4, _⟩ := S.at_cell z1 z2
  exact ⟨p, vs, a1, a2, a3, a4⟩
theorem dx_lenO {x : Str} (hg : Gl X x) (hm : X.mg x = none) (hv : bootBuiltins x = some (.builtin "len")) (hN : X.N[i]? = some y) (hvis : Vis X.env.scope y) (hd : (y == ("__debug__" : Str)) = false := by decide) (hcd : (y == ("__classdict__" : Str)) = false := by decide)
    (hn : x ≠ "__name__" := by decide) (hdb : (x == ("__debug__" : Str)) = false := by decide) : DX X e0 W (.Call (.Name x p) [.Name y p2] [] pos) (sLenO i) := by
  refine PE.weak (pe_callB call_len hg hm hv (pa_cons (pe_var hN hvis hd hcd) pa_nil) hn hdb) fun σ H Q ⟨E, F, S, h⟩ => ?_
  unfold sLenO at h
  cases z : cellAt E i with
  | none => simp only [z] at h; exact h.elim
  | some r =>
    obtain ⟨s, cs⟩ := r
    simp only [z] at h
    obtain ⟨q, vs, a1, a2, a3, a4⟩ := cell_open S z
    exact ⟨.ref q, a1, _, _, rfl, .inl ⟨vs, Evl.sq_of a2, a4.length⟩, h.fin0 S (by simp [Rep])⟩
theorem dx_ixO (hN : X.N[i]? = some y) (hvis : Vis X.env.scope y) (hb : DX X e0 W b fb) (hs : PlainIx b := by intro _ _; rfl) (hd : (y == ("__debug__" : Str)) = false := by decide) (hcd : (y == ("__classdict__" : Str)) = false := by decide) : DX X e0 W (.Subscript (.Name y p2) b pos) (sIxO i fb) := by
  refine PE.weak (pe_ix ix_list (pe_var hN hvis hd hcd) hb hs) fun σ H Q ⟨E, F, S, h⟩ => ?_
  unfold sIxO at h
  cases z : cellAt E i with
  | none => simp only [z] at h; exact h.elim
  | some r =>
    obtain ⟨s, cs⟩ := r
    simp only [z] at h
    obtain ⟨q, vs, a1, a2, a3, a4⟩ := cell_open S z
    refine ⟨.ref q, a1, rdG_intro S (h.bind fun k v E1 F1 H1 G1 S1 R1 h1 => ?_)⟩
    cases z1 : cellAt E1 i with
    | none => simp only [z1] at h1; exact h1.elim
    | some r1 =>
      obtain ⟨s1, cs1⟩ := r1
      simp only [z1] at h1
      obtain ⟨q1, vs1, b1, b2, b3, b4⟩ := cell_open S1 z1
      rw [a1] at b1
      cases b1
      obtain ⟨d, e, h2⟩ := h1.opt
      cases k <;> simp [oIx] at e
      simp only [Rep] at R1
      obtain ⟨u, e2, ru⟩ := rep_at b4 e
      exact ⟨q, vs1, _, u, rfl, R1, Evl.sq_of b2, e2, h2.fin0 S1 ru⟩
theorem dx_inO {op : CmpOp} {o : D → D → Option D} (ho : OpD X (compareOp op) o) (ha : DX X e0 W a fa) (hN : X.N[i]? = some y) (hvis : Vis X.env.scope y) (hm : behindInMarks op (.Name y p2) = false := by rfl) (hd : (y == ("__debug__" : Str)) = false := by decide) (hcd : (y == ("__classdict__" : Str)) = false := by decide) :
    DX X e0 W (.Compare a [op] [.Name y p2] pos) (sInO o fa i) := by
  obtain ⟨r, h1, h2⟩ := ho.ex
  refine PE.weak (pe_cmpR h1 ha (pe_var hN hvis hd hcd) hm) fun σ H Q ⟨E, F, S, h⟩ => rdG_intro S (h.bind fun x v E1 F1 H1 G1 S1 R1 h3 => ?_)
  cases z1 : cellAt E1 i with
  | none => simp only [z1] at h3; exact h3.elim
  | some r1 =>
    obtain ⟨s1, cs1⟩ := r1
    simp only [z1] at h3
    obtain ⟨q1, vs1, b1, b2, b3, b4⟩ := cell_open S1 z1
    refine ⟨.ref q1, b1, ?_⟩
    split at h3
    · rename_i bb hb
      have sF : Same F1 (upd F1 q1 (.lst vs1)) := same_upd b3
      refine h2 x (.lst cs1) (.bl bb) hb (upd F1 q1 (.lst vs1)) H1 v (.ref q1) Q (fun c u e => ?_) (Rep.mono sF _ _ R1) ?_ fun u F' H' al ru => ?_
      · by_cases hc : c = q1
        · subst hc
          rw [upd_same] at e
          rw [← e]
          exact b2
        · rw [upd_ne hc] at e
          exact S1.sub c u e
      · simp only [Rep]
        exact ⟨q1, vs1, rfl, upd_same, RepL.mono sF _ _ b4⟩
      · simp only [Rep] at ru
        subst ru
        exact h3.fin S1 ⟨fun _ _ e => e, al.sH, Same.tr S1.sub al.sH, fun _ _ f => f⟩ (by simp [Rep])
    · exact h3.elim
theorem dt_inO {op : CmpOp} {o : D → D → Option D} (ho : OpD X (compareOp op) o) (ha : DX X e0 W a fa) (hN : X.N[i]? = some y) (hvis : Vis X.env.scope y) (hm : behindInMarks op (.Name y p2) = false := by rfl) (hd : (y == ("__debug__" : Str)) = false := by decide) (hcd : (y == ("__classdict__" : Str)) = false := by decide) :
    DT X e0 W (.Compare a [op] [.Name y p2] pos) (bVal (sInO o fa i)) := by
  obtain ⟨r, h1, h2⟩ := ho.ex
  refine PT.weak (pt_cmpR h1 ha (pe_var hN hvis hd hcd) hm) fun σ H Q ⟨E, F, S, h⟩ => rdG_intro S (Post.bind (r := fa E) (g := fun x E1 => (match cellAt E1 i with
      | some (_, cs) => (match o x (.lst cs) with
        | some (.bl b) => (.ok b E1 : Out Bool)
        | _ => .bad)
      | none => .bad)) (Q := Q) (rep := fun _ (a b : Bool) => a = b) (by
    unfold bVal sInO at h
    cases q : fa E with
    | ok x E1 =>
      simp only [q, Out.bind_ok] at h ⊢
      cases z1 : cellAt E1 i with
      | none => simp only [z1] at h; exact h
      | some r1 =>
        simp only [z1] at h ⊢
        split at h
        · rename_i b hb
          exact h
        · exact h.elim
    | ex xn E1 => simp only [q, Out.bind_ex] at h ⊢; exact h
    | bad => simp only [q, Out.bind_bad] at h; exact h.elim) fun x v E1 F1 H1 G1 S1 R1 h3 => ?_)
  cases z1 : cellAt E1 i with
  | none => simp only [z1] at h3; exact h3.elim
  | some r1 =>
    obtain ⟨s1, cs1⟩ := r1
    simp only [z1] at h3
    obtain ⟨q1, vs1, b1, b2, b3, b4⟩ := cell_open S1 z1
    refine ⟨.ref q1, b1, ?_⟩
    split at h3
    · rename_i bb hb
      have sF : Same F1 (upd F1 q1 (.lst vs1)) := same_upd b3
      refine h2 x (.lst cs1) (.bl bb) hb (upd F1 q1 (.lst vs1)) H1 v (.ref q1) _ (fun c u e => ?_) (Rep.mono sF _ _ R1) ?_ fun u F' H' al ru => ?_
      · by_cases hc : c = q1
        · subst hc
          rw [upd_same] at e
          rw [← e]
          exact b2
        · rw [upd_ne hc] at e
          exact S1.sub c u e
      · simp only [Rep]
        exact ⟨q1, vs1, rfl, upd_same, RepL.mono sF _ _ b4⟩
      · simp only [Rep] at ru
        subst ru
        exact ⟨bb, rfl, h3.fin S1 ⟨fun _ _ e => e, al.sH, Same.tr S1.sub al.sH, fun _ _ f => f⟩ rfl⟩
    · exact h3.elim
theorem dx_tupO {x : Str} (hg : Gl X x) (hm : X.mg x = none) (hv : bootBuiltins x = some (.type "tuple")) (hN : X.N[i]? = some y) (hvis : Vis X.env.scope y) (hd : (y == ("__debug__" : Str)) = false := by decide) (hcd : (y == ("__classdict__" : Str)) = false := by decide)
    (hn : x ≠ "__name__" := by decide) (hdb : (x == ("__debug__" : Str)) = false := by decide) : DX X e0 W (.Call (.Name x p) [.Name y p2] [] pos) (sTupO' i) := by
  refine PE.weak (pe_callTy call_tupF hg hm hv (pa_cons (pe_var hN hvis hd hcd) pa_nil) hn hdb) fun σ H Q ⟨E, F, S, h⟩ => ?_
  unfold sTupO' at h
  cases z : cellAt E i with
  | none => simp only [z] at h; exact h.elim
  | some r =>
    obtain ⟨s, cs⟩ := r
    simp only [z] at h
    obtain ⟨q, vs, a1, a2, a3, a4⟩ := cell_open S z
    refine ⟨.ref q, a1, q, vs, rfl, .inl ⟨Evl.sq_of a2, fun l ob hd' hl => h.fin S (.new S.sub hl) ?_⟩⟩
    simp only [Rep]
    exact ⟨l, vs, rfl, .new hd', RepL.mono (same_upd (fresh_F S.sub hl)) _ _ a4⟩
theorem put_upd (S : SI K e0 F H σ E) {s : Sl} {cs cs' : List D} {q : Addr} {vs' : List V} (z : cellAt E i = some (s, cs)) (a1 : σ[i]? = some (some (.ref q))) (f : F q = none) (r : RepL K F cs' vs') : SI K e0 F (upd H q (.lst vs')) σ (E.set i (s.put cs')) ∧ Grow σ E F H (E.set i (s.put cs')) F (upd H q (.lst vs')) := by
  obtain ⟨z1, z2⟩ := cellAt_some z
  refine S.put z1 z2 a1 ⟨fun _ _ e => e, fun b o e n => by rw [upd_ne n]; exact e, fun b o e => ?_, fun _ _ f => f⟩ upd_same r
  have : b ≠ q := fun y => by
    subst y
    rw [f] at e
    cases e
  rw [upd_ne this]
  exact S.sub b o e
theorem ds_append {apos cpos : Pos} (hN : X.N[i]? = some y) (hvis : Vis X.env.scope y) (ha : DX X e0 W a fa) (hd : (y == ("__debug__" : Str)) = false := by decide) (hcd : (y == ("__classdict__" : Str)) = false := by decide)
    (hbase : attributeBase (.Name y p2) "append" X.env (eval (.Name y p2) X.env) = eval (.Name y p2) X.env := by rfl)
    (hfew : ((backTo cpos (starEach [a] X.env)).all (fun x => !x.1) && (backToKw cpos (keywordEach [] X.env)).all (fun x => x.1.isSome)
      && decide ([a].length + ([] : List Keyword).length + (if ([] : List Keyword).isEmpty then 0 else 1) < 30)) = true := by rfl)
    (hline : (apos.endLine == cpos.line) = true := by rfl) (hs : starEach [a] X.env = (false, eval a X.env) :: starEach [] X.env := by rfl) (hsw : swapsWith (.Call (.Attribute (.Name y p2) "append" apos) [a] [] cpos) none pos.line X.env = pure false := by rfl) :
    DS X e0 W (.Expr (.Call (.Attribute (.Name y p2) "append" apos) [a] [] cpos) pos) (sAppend i fa) := by
  refine PS.weak (ps_expr (pe_bm PySem.F.plainAttrs_list PySem.F.slot_list_append PySem.F.type_list_append mt_append (pe_var hN hvis hd hcd) (pa_cons ha pa_nil hs) hbase hfew hline hs rfl) hsw) fun D σ H ⟨E, F, S, h⟩ => ?_
  unfold sAppend at h
  cases z : cellAt E i with
  | none => simp only [z] at h; exact h.elim
  | some r =>
    obtain ⟨s, cs⟩ := r
    simp only [z] at h
    obtain ⟨q, vs, a1, a2, a3, a4⟩ := cell_open S z
    refine ⟨.ref q, a1, .inl ⟨rfl, _, Evl.sq_of a2⟩, rdG_intro S (PostS.bind (D := D) h fun d v E1 F1 H1 G1 S1 R1 h1 => ?_)⟩
    cases z1 : cellAt E1 i with
    | none => simp only [z1] at h1; exact h1.elim
    | some r1 =>
      obtain ⟨s1, cs1⟩ := r1
      simp only [z1] at h1
      obtain ⟨q1, vs1, b1, b2, b3, b4⟩ := cell_open S1 z1
      rw [a1] at b1
      cases b1
      split at h1
      · rename_i hl
        obtain ⟨S2, G2⟩ := put_upd S1 z1 a1 b3 (b4.snoc R1)
        exact ⟨q, vs1, v, rfl, rfl, b2, Nat.lt_of_lt_of_le (by rw [← b4.length]; exact hl) (by decide), h1 σ F1 _ (fun _ _ e => e) S2⟩
      · exact h1.elim
theorem ds_extend {apos cpos : Pos} (hN : X.N[i]? = some y) (hvis : Vis X.env.scope y) (ha : DX X e0 W a fa) (hd : (y == ("__debug__" : Str)) = false := by decide) (hcd : (y == ("__classdict__" : Str)) = false := by decide)
    (hbase : attributeBase (.Name y p2) "extend" X.env (eval (.Name y p2) X.env) = eval (.Name y p2) X.env := by rfl)
    (hfew : ((backTo cpos (starEach [a] X.env)).all (fun x => !x.1) && (backToKw cpos (keywordEach [] X.env)).all (fun x => x.1.isSome)
      && decide ([a].length + ([] : List Keyword).length + (if ([] : List Keyword).isEmpty then 0 else 1) < 30)) = true := by rfl)
    (hline : (apos.endLine == cpos.line) = true := by rfl) (hs : starEach [a] X.env = (false, eval a X.env) :: starEach [] X.env := by rfl) (hsw : swapsWith (.Call (.Attribute (.Name y p2) "extend" apos) [a] [] cpos) none pos.line X.env = pure false := by rfl) :
    DS X e0 W (.Expr (.Call (.Attribute (.Name y p2) "extend" apos) [a] [] cpos) pos) (sExtend i fa) := by
  refine PS.weak (ps_expr (pe_bm PySem.F.plainAttrs_list PySem.F.slot_list_extend PySem.F.type_list_extend mt_extend (pe_var hN hvis hd hcd) (pa_cons ha pa_nil hs) hbase hfew hline hs rfl) hsw) fun D σ H ⟨E, F, S, h⟩ => ?_
  unfold sExtend at h
  cases z : cellAt E i with
  | none => simp only [z] at h; exact h.elim
  | some r =>
    obtain ⟨s, cs⟩ := r
    simp only [z] at h
    obtain ⟨q, vs, a1, a2, a3, a4⟩ := cell_open S z
    refine ⟨.ref q, a1, .inl ⟨rfl, _, Evl.sq_of a2⟩, rdG_intro S (PostS.bind (D := D) h fun d v E1 F1 H1 G1 S1 R1 h1 => ?_)⟩
    cases z1 : cellAt E1 i with
    | none => simp only [z1] at h1; exact h1.elim
    | some r1 =>
      obtain ⟨s1, cs1⟩ := r1
      obtain ⟨q1, vs1, b1, b2, b3, b4⟩ := cell_open S1 z1
      rw [a1] at b1
      cases b1
      cases d <;> simp only [z1] at h1
      all_goals try exact h1.elim
      rename_i ds
      split at h1
      · rename_i hl
        simp only [Rep] at R1
        obtain ⟨pd, us, rfl, c1, c2⟩ := R1
        obtain ⟨S2, G2⟩ := put_upd S1 z1 a1 b3 (b4.append c2)
        exact ⟨q, pd, vs1, us, rfl, rfl, b2, S1.sub _ _ c1, sizeLine_ok (by rw [← b4.length, ← c2.length]; exact hl), h1 σ F1 _ (fun _ _ e => e) S2⟩
      · exact h1.elim
theorem ds_ixSet {k : Expr} {fk : Se} {tpos : Pos} (hN : X.N[i]? = some y) (hvis : Vis X.env.scope y) (ha : DX X e0 W a fa) (hk : DX X e0 W k fk) (hd : (y == ("__debug__" : Str)) = false := by decide) (hcd : (y == ("__classdict__" : Str)) = false := by decide)
    (hx : ∀ v, assign (.Subscript (.Name y p2) k tpos) X.env v = (do
      let ov ← holding [v] (eval (.Name y p2) X.env)
      let iv ← holding [v, ov] (eval k X.env)
      standAt tpos
      holding [v, ov, iv] (setItem ov iv v)
      release [v, ov, iv] []) := by intro _; rfl)
    (hs : swapsWithSole [.Subscript (.Name y p2) k tpos] a pos.line X.env = pure false := by rfl) (hw : swappedStores [.Subscript (.Name y p2) k tpos] a X.env = pure none := by rfl) :
    DS X e0 W (.Assign [.Subscript (.Name y p2) k tpos] a pos) (sIxSet i fk fa) := by
  refine PS.weak (ps_asg ha (pg_sub (pe_var hN hvis hd hcd) hk set_list hx) hs hw) fun D σ H ⟨E, F, S, h⟩ => rdG_intro S (PostS.bind (D := D) h fun d v E1 F1 H1 G1 S1 R1 h1 => ?_)
  cases z : cellAt E1 i with
  | none => simp only [z] at h1; exact h1.elim
  | some r =>
    obtain ⟨s, cs⟩ := r
    simp only [z] at h1
    obtain ⟨q, vs, a1, a2, a3, a4⟩ := cell_open S1 z
    refine ⟨.ref q, a1, rdG_intro S1 (PostS.bind (D := D) h1 fun ki w E2 F2 H2 G2 S2 R2 h2 => ?_)⟩
    cases z2 : cellAt E2 i with
    | none => simp only [z2] at h2; exact h2.elim
    | some r1 =>
      obtain ⟨s1, cs1⟩ := r1
      obtain ⟨q1, vs1, b1, b2, b3, b4⟩ := cell_open S2 z2
      rw [a1] at b1
      cases b1
      cases ki <;> simp only [z2] at h2
      all_goals try exact h2.elim
      rename_i j
      cases hj : ixN cs1.length j with
      | none => simp only [hj] at h2; exact h2.elim
      | some n =>
        simp only [hj] at h2
        simp only [Rep] at R2
        obtain ⟨S3, G3⟩ := put_upd S2 z2 a1 b3 (b4.set n (Rep.mono G2.sF _ _ R1))
        exact ⟨q, vs1, j, n, rfl, R2, b2, by rw [← b4.length]; exact hj, h2 σ F2 _ (fun _ _ e => e) S3⟩
theorem dx_popAt {apos cpos : Pos} (hN : X.N[i]? = some y) (hvis : Vis X.env.scope y) (ha : DX X e0 W a fa) (hd : (y == ("__debug__" : Str)) = false := by decide) (hcd : (y == ("__classdict__" : Str)) = false := by decide)
    (hbase : attributeBase (.Name y p2) "pop" X.env (eval (.Name y p2) X.env) = eval (.Name y p2) X.env := by rfl)
    (hfew : ((backTo cpos (starEach [a] X.env)).all (fun x => !x.1) && (backToKw cpos (keywordEach [] X.env)).all (fun x => x.1.isSome)
      && decide ([a].length + ([] : List Keyword).length + (if ([] : List Keyword).isEmpty then 0 else 1) < 30)) = true := by rfl)
    (hline : (apos.endLine == cpos.line) = true := by rfl) (hs : starEach [a] X.env = (false, eval a X.env) :: starEach [] X.env := by rfl) :
    DX X e0 W (.Call (.Attribute (.Name y p2) "pop" apos) [a] [] cpos) (sPopAt i fa) := by
  refine PE.weak (pe_bm PySem.F.plainAttrs_list PySem.F.slot_list_pop PySem.F.type_list_pop mt_popAt (pe_var hN hvis hd hcd) (pa_cons ha pa_nil hs) hbase hfew hline hs rfl) fun σ H Q ⟨E, F, S, h⟩ => ?_
  unfold sPopAt at h
  cases z : cellAt E i with
  | none => simp only [z] at h; exact h.elim
  | some r =>
    obtain ⟨s, cs⟩ := r
    simp only [z] at h
    obtain ⟨q, vs, a1, a2, a3, a4⟩ := cell_open S z
    refine ⟨.ref q, a1, .inl ⟨rfl, _, Evl.sq_of a2⟩, rdG_intro S (h.bind fun d v E1 F1 H1 G1 S1 R1 h1 => ?_)⟩
    cases z1 : cellAt E1 i with
    | none => simp only [z1] at h1; exact h1.elim
    | some r1 =>
      obtain ⟨s1, cs1⟩ := r1
      obtain ⟨q1, vs1, b1, b2, b3, b4⟩ := cell_open S1 z1
      rw [a1] at b1
      cases b1
      cases d <;> simp only [z1] at h1
      all_goals try exact h1.elim
      rename_i j
      by_cases hbd : -1000000 ≤ j ∧ j ≤ 1000000
      case neg => rw [if_neg hbd] at h1; exact h1.elim
      rw [if_pos hbd] at h1
      cases hj : ixN cs1.length j with
      | none => simp only [hj] at h1; exact h1.elim
      | some n =>
        simp only [hj] at h1
        cases hx : cs1[n]? with
        | none => simp only [hx] at h1; exact h1.elim
        | some dd =>
          simp only [hx] at h1
          obtain ⟨u, hu, ru⟩ := b4.get hx
          simp only [Rep] at R1
          obtain ⟨S2, G2⟩ := put_upd S1 z1 a1 b3 (b4.eraseIdx n)
          obtain ⟨k1, k2, k3, k4⟩ := ixN_seq (show ixN vs1.length j = some n by rw [← b4.length]; exact hj)
          exact ⟨q, vs1, j, n, u, rfl, by rw [R1], b2, by omega, by omega, k1, hu, h1 u F1 _ G2 S2 ru⟩
end
end Dn

set_option Elab.async false
set_option linter.all false
set_option maxRecDepth 100000
set_option maxHeartbeats 4000000
namespace Dn
open PySem PySem.Spec L2

def sChain (o o' : D → D → Option D) (a b c : Se) : Se := fun E => (a E).bind fun x E1 => (b E1).bind fun y E2 => match o x y with
  | some (.bl true) => (c E2).bind fun z E3 => .opt (o' y z) E3
  | some (.bl false) => .ok (.bl false) E2
  | _ => .bad
def sPar (i j : Nat) (a b : Se) : Ss := fun E => (a E).then fun x E1 => (b E1).then fun y E2 => .nx ((E2.set i (.vl x)).set j (.vl y))
def sPar3 (i j k : Nat) (a b c : Se) : Ss := fun E => (a E).then fun x E1 => (b E1).then fun y E2 => (c E2).then fun z E3 => .nx (((E3.set i (.vl x)).set j (.vl y)).set k (.vl z))
def sAsg (t : Tg) (a : Se) : Ss := fun E => (a E).then fun d E1 => match t d E1 with
  | some E2 => .nx E2
  | none => .bad
def sRetO (i : Nat) : Ss := fun E => match E[i]? with
  | some (.ow cs) => .rt (.fr cs) (E.set i .un)
  | _ => .bad
section
variable {X : Cx} {e0 : E0} {W : WX} {a b c : Expr} {fa fb fc : Se} {pos : Pos}
theorem tkF {X : Cx} : Takes X (fun _ _ _ _ => False) := fun u s' ⟨a, B, sI, pins, σ, H, cls, d, e, I, nb, up, sky, na, os, ag, w⟩ => w.elim
theorem chain_rd {o o' : D → D → Option D} {r r' : R2} (ho : ∀ x y z, o x y = some z → ∀ F H v w Q, Same F H → Rep X.K F x v → Rep X.K F y w → (∀ u F' H', Alloc F H F' H' → Rep X.K F' z u → Q u H') → r v w H Q)
    (ho' : ∀ x y z, o' x y = some z → ∀ F H v w Q, Same F H → Rep X.K F x v → Rep X.K F y w → (∀ u F' H', Alloc F H F' H' → Rep X.K F' z u → Q u H') → r' v w H Q)
    {σ : St} {H : Hp} {Q : VK} (h : rd X.K e0 W (sChain o o' fa fb fc) σ H Q) : tChain r r' (rd X.K e0 W fa) (rd X.K e0 W fb) (rd X.K e0 W fc) σ H Q := by
  obtain ⟨E, F, S, h⟩ := h
  refine rdG_intro S (h.bind fun x v E1 F1 H1 G1 S1 R1 h1 => rdG_intro S1 (h1.bind fun y w E2 F2 H2 G2 S2 R2 h2 => ?_))
  split at h2
  · rename_i e
    refine ho x y _ e F2 H2 v w _ S2.sub (Rep.mono G2.sF _ _ R1) R2 fun u F' H' al ru => ?_
    simp only [Rep] at ru
    refine ⟨true, ru, ?_⟩
    rw [if_pos rfl]
    have S3 := S2.alloc al
    refine rdG_intro S3 (Post.bind (Post.rebase (S2.grow al) h2) fun z t E3 F3 H3 G3 S4 R3 h3 => ?_)
    obtain ⟨q, e3, h4⟩ := h3.opt
    exact ho' y z q e3 F3 H3 w t Q S4.sub (Rep.mono (Same.tr al.sF G3.sF) _ _ R2) R3 fun u' F' H' al' r' => h4.fin S4 al' r'
  · rename_i e
    refine ho x y _ e F2 H2 v w _ S2.sub (Rep.mono G2.sF _ _ R1) R2 fun u F' H' al ru => ?_
    simp only [Rep] at ru
    refine ⟨false, ru, ?_⟩
    rw [if_neg Bool.false_ne_true]
    exact h2.fin S2 al (by simp [Rep])
  · exact h2.elim
theorem dx_chain {op op' : CmpOp} {o o' : D → D → Option D} (h : OpD X (compareOp op) o) (h' : OpD X (compareOp op') o') (ha : DX X e0 W a fa) (hb : DX X e0 W b fb) (hc : DX X e0 W c fc) (hm : lastMarks [op, op'] [b, c] = false := by with_unfolding_all rfl) :
    DX X e0 W (.Compare a [op, op'] [b, c] pos) (sChain o o' fa fb fc) := by
  obtain ⟨r, h1, h2⟩ := h.ex
  obtain ⟨r', h1', h2'⟩ := h'.ex
  exact PE.weak (pe_chain h1 h1' ha hb hc hm) fun σ H Q q => chain_rd h2 h2' q
theorem dt_chain {op op' : CmpOp} {o o' : D → D → Option D} (h : OpD X (compareOp op) o) (h' : OpD X (compareOp op') o') (ha : DX X e0 W a fa) (hb : DX X e0 W b fb) (hc : DX X e0 W c fc) (hm : lastMarks [op, op'] [b, c] = false := by with_unfolding_all rfl) :
    DT X e0 W (.Compare a [op, op'] [b, c] pos) (bVal (sChain o o' fa fb fc)) := by
  obtain ⟨r, h1, h2⟩ := h.ex
  obtain ⟨r', h1', h2'⟩ := h'.ex
  exact PT.weak (pt_chain h1 h1' ha hb hc hm) fun σ H Q q => val_rd (fun _ _ _ z => chain_rd h2 h2' z) q
theorem ds_asg {kw : Bool} {tg : Expr} {t : Tg} {is : List Nat} (ha : DX X e0 W a fa) (hg : DG kw X e0 is tg t) (hs : swapsWithSole [tg] a pos.line X.env = pure false := by rfl) (hw : swappedStores [tg] a X.env = pure none := by rfl) (ht : (assignEach [tg] X.env).map (·.2) = [assign tg X.env] := by rfl) :
    DS X e0 W (.Assign [tg] a pos) (sAsg t fa) := PS.weak (ps_asg ha hg.pg hs hw ht) fun D σ H ⟨E, F, S, h⟩ => rdG_intro S (PostS.bind (D := D) h fun d v E1 F1 H1 G1 S1 R1 h1 => by
  cases q : t d E1 with
  | none => simp only [q] at h1; exact h1.elim
  | some E2 =>
    simp only [q] at h1
    exact ⟨E1, F1, d, E2, S1, .inl R1, q, fun σ' _ S' => h1 σ' F1 H1 (fun _ _ e => e) S'⟩)
theorem ds_par {i j : Nat} {x y : Str} {px py pt : Pos} {kt k2 : Nat} {pt2 : Pos} (hc : X.calm = true) (hN : X.N.Nodup) (hi : X.N[i]? = some x) (hj : X.N[j]? = some y) (hij : i ≠ j)
    (hx : X.env.scope.names.lookup x = some .local) (hy : X.env.scope.names.lookup y = some .local) (ha : DX X e0 W a fa) (hb : DX X e0 W b fb)
    (hw : swappedStores [.Tuple [.Name x px, .Name y py] kt pt] (.Tuple [a, b] k2 pt2) X.env = pure (some [x, y]) := by rfl)
    (hs : swapsWithSole [.Tuple [.Name x px, .Name y py] kt pt] (.Tuple [a, b] k2 pt2) pos.line X.env = pure false := by rfl)
    (h1 : starEach [b] X.env = (false, eval b X.env) :: starEach [] X.env := by rfl) (h2 : starEach [a, b] X.env = (false, eval a X.env) :: starEach [b] X.env := by rfl) :
    DS X e0 W (.Assign [.Tuple [.Name x px, .Name y py] kt pt] (.Tuple [a, b] k2 pt2) pos) (sPar i j fa fb) :=
  PS.weak (ps_par hc hN hi hj hij hx hy (pa_cons ha (pa_cons hb pa_nil h1) h2) hw hs) fun D σ H ⟨E, F, S, h⟩ => rdG_intro S (PostS.bind (D := D) h fun d v E1 F1 H1 G1 S1 R1 h1 => rdG_intro S1 (PostS.bind (D := D) h1 fun d2 v2 E2 F2 H2 G2 S2 R2 h2 =>
    ⟨v, v2, rfl, h2 _ F2 H2 (fun _ _ e => e) ((S2.set i (Rep.mono G2.sF _ _ R1)).set j R2)⟩))
theorem ds_par3 {i j l : Nat} {x y z : Str} {px py pz pt : Pos} {kt k2 : Nat} {pt2 : Pos} (hc : X.calm = true) (hN : X.N.Nodup) (hi : X.N[i]? = some x) (hj : X.N[j]? = some y) (hl : X.N[l]? = some z) (hij : i ≠ j) (hil : i ≠ l) (hjl : j ≠ l)
    (hx : X.env.scope.names.lookup x = some .local) (hy : X.env.scope.names.lookup y = some .local) (hz : X.env.scope.names.lookup z = some .local) (ha : DX X e0 W a fa) (hb : DX X e0 W b fb) (hcc : DX X e0 W c fc)
    (hw : swappedStores [.Tuple [.Name x px, .Name y py, .Name z pz] kt pt] (.Tuple [a, b, c] k2 pt2) X.env = pure (some [x, y, z]) := by rfl)
    (h1 : starEach [c] X.env = (false, eval c X.env) :: starEach [] X.env := by rfl) (h2 : starEach [b, c] X.env = (false, eval b X.env) :: starEach [c] X.env := by rfl) (h3 : starEach [a, b, c] X.env = (false, eval a X.env) :: starEach [b, c] X.env := by rfl)
    (hs : swapsWithSole [.Tuple [.Name x px, .Name y py, .Name z pz] kt pt] (.Tuple [a, b, c] k2 pt2) pos.line X.env = pure false := by rfl) :
    DS X e0 W (.Assign [.Tuple [.Name x px, .Name y py, .Name z pz] kt pt] (.Tuple [a, b, c] k2 pt2) pos) (sPar3 i j l fa fb fc) :=
  PS.weak (ps_par3 hc hN hi hj hl hij hil hjl hx hy hz (pa_cons ha (pa_cons hb (pa_cons hcc pa_nil h1) h2) h3) hw hs) fun D σ H ⟨E, F, S, h⟩ => rdG_intro S (PostS.bind (D := D) h fun d v E1 F1 H1 G1 S1 R1 h1 => rdG_intro S1 (PostS.bind (D := D) h1 fun d2 v2 E2 F2 H2 G2 S2 R2 h2 =>
    rdG_intro S2 (PostS.bind (D := D) h2 fun d3 v3 E3 F3 H3 G3 S3 R3 h3 =>
    ⟨v, v2, v3, rfl, h3 _ F3 H3 (fun _ _ e => e) (((S3.set i (Rep.mono (Same.tr G2.sF G3.sF) _ _ R1)).set j (Rep.mono G3.sF _ _ R2)).set l R3)⟩)))
/-- an owned list handed back -/
theorem SI.drop {K : PySem.W.Frag} {F H : Hp} {σ : St} {E : Sto} (S : SI K e0 F H σ E) (i : Nat) : SI K e0 F H σ (E.set i .un) := by
  have own : ∀ j q, Own H σ (E.set i .un) j q → Own H σ E j q ∧ j ≠ i := fun j q h => by
    unfold Own at h ⊢
    by_cases hj : j = i
    · subst hj
      by_cases hi : j < E.length
      · rw [List.getElem?_set_self hi] at h
        exact h.elim
      · rw [List.getElem?_eq_none_iff.mpr (by simpa using hi)] at h
        exact h.elim
    · rw [List.getElem?_set_ne (Ne.symm hj)] at h
      exact ⟨h, hj⟩
  refine ⟨by simpa using S.len, S.sub, fun j s hs => ?_, fun a b q h1 h2 => S.apart a b q (own a q h1).1 (own b q h2).1, S.f0, S.h0, S.nf, fun j q h => ?_, S.dm⟩
  · by_cases hj : j = i
    · subst hj
      have hi : j < E.length := by
        have := (List.getElem?_eq_some_iff.mp hs).1
        simpa using this
      rw [List.getElem?_set_self hi] at hs
      cases hs
      trivial
    · rw [List.getElem?_set_ne (Ne.symm hj)] at hs
      exact S.rel j s hs
  · obtain ⟨h1, h2⟩ := own j q h
    rw [List.getElem?_set_ne (Ne.symm h2)]
    exact S.ow j q h1
theorem ds_retO {i : Nat} {x : Str} {p : Pos} (hN : X.N[i]? = some x) (hv : Vis X.env.scope x) (hd : (x == ("__debug__" : Str)) = false := by decide) (hcd : (x == ("__classdict__" : Str)) = false := by decide) : DS X e0 W (.Return (some (.Name x p)) pos) (sRetO i) := by
  refine PS.weak (ps_ret (pe_var hN hv hd hcd)) fun D σ H ⟨E, F, S, h⟩ => ?_
  unfold sRetO at h
  cases e : E[i]? with
  | none => simp only [e] at h; exact h.elim
  | some s =>
    simp only [e] at h
    cases s with
    | ow cs =>
      obtain ⟨p, vs, e1, e2, e3, e4⟩ := S.rel i _ e
      have o : Own H σ E i p := own_of_slot e e1
      refine ⟨.ref p, e1, h (.ref p) σ F H (S.drop i) ⟨p, vs, rfl, ?_, e3, e2, e4⟩⟩
      rcases S.ow i p o with z | z
      · exact z.1
      · rw [e] at z
        rcases z.2 with ⟨_, y⟩ | ⟨_, _, y⟩ <;> cases y
    | _ => exact h.elim
end

/-! ### what is known of the top's defs -/
def Gd (P : Program) (w : World) (K : PySem.W.Frag) (mg : Str → Option Value) (base : Heap) (x : Str) (k : Nat) (f : Fn) : Prop :=
  ∃ (a : Addr) (fd : FuncData) (ps : List Str), FnOk P w K mg base (L2.CX P w) k a fd ps (spP K f) ∧ mg x = some (.ref a) ∧ PySem.W.keepIn K (.ref a) = true ∧ Binds K fd ps []
def Gd2 (P : Program) (w : World) (K : PySem.W.Frag) (mg : Str → Option Value) (base : Heap) (x : Str) (k : Nat) (f : Fn2) : Prop :=
  ∃ (a : Addr) (fd : FuncData) (ps : List Str), FnOk P w K mg base (L2.CX P w) k a fd ps (spS K f) ∧ mg x = some (.ref a) ∧ PySem.W.keepIn K (.ref a) = true ∧ Binds K fd ps []
theorem Gd.good {X : Cx} {x : Str} {k : Nat} {f : Fn} (G : Gd X.prog X.w X.K X.mg X.base x k f) (hr : Room k X.A) : FnGood X x f :=
  let ⟨a, fd, ps, h1, h2, h3, h4⟩ := G
  ⟨k, a, fd, ps, h1, hr, h2, h3, h4⟩
theorem Gd2.good {X : Cx} {x : Str} {k : Nat} {f : Fn2} (G : Gd2 X.prog X.w X.K X.mg X.base x k f) (hr : Room k X.A) : FnGood2 X x f :=
  let ⟨a, fd, ps, h1, h2, h3, h4⟩ := G
  ⟨k, a, fd, ps, h1, hr, h2, h3, h4⟩
/-- the head's facts -/
structure Tx (fa : List He.Fa) (fn : List He.DefD) (K : PySem.W.Frag) (mg : Str → Option Value) : Prop where
  says : He.SaysD fa fn K
  at_ : ∃ h : Heap, K.In h ∧ h.Ns mainGlobals mg
theorem Tx.glo {fa : List He.Fa} {fn : List He.DefD} {K : PySem.W.Frag} {mg : Str → Option Value} (T : Tx fa fn K mg) (i : Nat) {x : Str} (h : fa[i]? = some (.glo x) := by rfl) : mg x = some (.ref (He.ga K x)) :=
  let ⟨_, X, G⟩ := T.at_
  He.glo_ok X G (T.says.fact i h)
theorem Tx.free {fa : List He.Fa} {fn : List He.DefD} {K : PySem.W.Frag} {mg : Str → Option Value} (T : Tx fa fn K mg) (i : Nat) {x : Str} (h : fa[i]? = some (.free x) := by rfl) : mg x = none :=
  let ⟨_, X, G⟩ := T.at_
  He.free_ok X G (T.says.fact i h)

/-! ### isinstance of built-in classes -/
def isiK (T : String) (d : D) : Option Bool := match d with
  | .non => L2.kitB "NoneType" T
  | .bl _ => L2.kitB "bool" T
  | .int _ => L2.kitB "int" T
  | .str _ => L2.kitB "str" T
  | .tup _ => L2.kitB "tuple" T
  | .lst _ => L2.kitB "list" T
  | _ => none
theorem isi_ty {K : PySem.W.Frag} {T : String} : IsiOk K (.type T) (isiK T) := ⟨fun d b e => by
  cases d with
  | non => exact ⟨L2.kit_ty (a := "NoneType") e, fun c xs h => (nomatch h), fun ns h => (nomatch h)⟩
  | bl x => exact ⟨L2.kit_ty (a := "bool") e, fun c xs h => (nomatch h), fun ns h => (nomatch h)⟩
  | int x => exact ⟨L2.kit_ty (a := "int") e, fun c xs h => (nomatch h), fun ns h => (nomatch h)⟩
  | str x => exact ⟨L2.kit_ty (a := "str") e, fun c xs h => (nomatch h), fun ns h => (nomatch h)⟩
  | tup x => exact ⟨L2.kit_ty (a := "tuple") e, fun c xs h => (nomatch h), fun ns h => (nomatch h)⟩
  | lst x => exact ⟨L2.kit_ty (a := "list") e, fun c xs h => (nomatch h), fun ns h => (nomatch h)⟩
  | ins c xs => exact nomatch e
  | scr ns => exact nomatch e⟩

/-! ### the script handed in -/
/-- law's own promise: whatever the script is, True -/
def spLaw (K : PySem.W.Frag) : Sp := fun vs H Q _ => ∃ (a : Addr) (ns : List Int), vs = [.ref a] ∧ SqL K H a (ns.map V.int) ∧ ns.length ≤ 63 ∧ ∀ H', Q (.bl true) H'
end Dn

set_option Elab.async false
set_option linter.all false
set_option maxRecDepth 100000
set_option maxHeartbeats 4000000
namespace Dn
open PySem PySem.Spec L2

def oIndex (xs : List D) (y : D) : Option D := if flatD y = true ∧ xs.all flatD = true then (xs.findIdx? fun z => eqF z y).map fun j => .int (j : Nat) else none
def sIndex (a b : Se) : Se := fun E => (a E).bind fun x E1 => match x with
  | .lst xs => (b E1).bind fun y E2 => .opt (oIndex xs y) E2
  | _ => .bad
def sTupRg1 (a : Se) : Se := fun E => (a E).bind fun d E1 => match d with
  | .int n => if -1000000 ≤ n ∧ n ≤ 1000000 then .ok (.tup ((List.range n.toNat).map fun k => .int (k : Nat))) E1 else .bad
  | _ => .bad
section
variable {X : Cx} {e0 : E0} {W : WX} {a b : Expr} {fa fb : Se} {pos p p2 : Pos} {K : PySem.W.Frag} {F H : Hp}
theorem rep_atF {xs : List D} {vs : List V} (r : RepL K F xs vs) {j : Nat} {d : D} (h : xs[j]? = some d) : ∃ v, vs[j]? = some v ∧ Rep K F d v := r.get h
theorem dx_index {apos cpos : Pos} (ha : DX X e0 W a fa) (hb : DX X e0 W b fb)
    (hbase : attributeBase a "index" X.env (eval a X.env) = eval a X.env := by rfl)
    (hfew : ((backTo cpos (starEach [b] X.env)).all (fun x => !x.1) && (backToKw cpos (keywordEach [] X.env)).all (fun x => x.1.isSome)
      && decide ([b].length + ([] : List Keyword).length + (if ([] : List Keyword).isEmpty then 0 else 1) < 30)) = true := by rfl)
    (hline : (apos.endLine == cpos.line) = true := by rfl) (hs : starEach [b] X.env = (false, eval b X.env) :: starEach [] X.env := by rfl) :
    DX X e0 W (.Call (.Attribute a "index" apos) [b] [] cpos) (sIndex fa fb) := by
  refine PE.weak (pe_bm PySem.F.plainAttrs_list PySem.F.slot_list_index PySem.F.type_list_index mt_index ha (pa_cons hb pa_nil hs) hbase hfew hline hs rfl) fun σ H Q ⟨E, F, S, h⟩ => ?_
  refine rdG_intro S (h.bind fun x v E1 F1 H1 G1 S1 R1 h1 => ?_)
  cases x with
  | lst xs =>
    simp only [Rep] at R1
    obtain ⟨q, vs, rfl, k1, r1⟩ := R1
    refine ⟨.inl ⟨rfl, vs, seqL S1.sub (Evl.sq_of k1)⟩, rdG_intro S1 (h1.bind fun y w E2 F2 H2 G2 S2 R2 h2 => ?_)⟩
    obtain ⟨z, e, h3⟩ := h2.opt
    by_cases hf : flatD y = true ∧ xs.all flatD = true
    case neg =>
      rw [oIndex, if_neg hf] at e
      cases e
    rw [oIndex, if_pos hf] at e
    obtain ⟨j, ej, rfl⟩ := Option.map_eq_some_iff.mp e
    have r2 := RepL.mono G2.sF _ _ r1
    rw [List.findIdx?_eq_some_iff_getElem] at ej
    obtain ⟨hl, hj, hno⟩ := ej
    obtain ⟨u, hu, ru⟩ := r2.get (show xs[j]? = some xs[j] by simp [hl])
    have fz := List.all_eq_true.mp hf.2
    refine ⟨q, vs, w, j, u, rfl, rfl, seqL S2.sub (Evl.sq_of (G2.sF _ _ k1)), rep_flatD hf.1 R2, rep_flatL hf.2 r2, hu, ?_, fun m z' hm hz => ?_, h3.fin0 S2 (by simp [Rep])⟩
    · rw [← rep_eqF (fz _ (List.getElem_mem hl)) hf.1 ru R2]
      exact hj
    · obtain ⟨d', e', r'⟩ := r2.getV hz
      have hm' := (List.getElem?_eq_some_iff.mp e')
      obtain ⟨hml, hme⟩ := hm'
      rw [← rep_eqF (fz _ (List.mem_of_getElem? e')) hf.1 r' R2]
      have := hno m hm
      rw [hme] at this
      simpa using this
  | _ => exact h1.elim
theorem dx_tupRg1 {p3 : Pos} (hc : X.calm = true) (hg : Gl X "tuple") (hm : X.mg "tuple" = none) (hg2 : Gl X "range") (hm2 : X.mg "range" = none) (ha : DX X e0 W a fa) (na : starEach [a] X.env = (false, eval a X.env) :: starEach [] X.env := by rfl)
    (nb : starEach [.Call (.Name "range" p2) [a] [] p3] X.env = (false, eval (.Call (.Name "range" p2) [a] [] p3) X.env) :: starEach [] X.env := by rfl) : DX X e0 W (.Call (.Name "tuple" p) [.Call (.Name "range" p2) [a] [] p3] [] pos) (sTupRg1 fa) := by
  refine PE.weak (pe_tupRgF hc hg hm (prg_1 hg2 hm2 ha na) nb) fun σ H Q ⟨E, F, S, h⟩ => rdG_intro S (h.bind fun x v E1 F1 H1 G1 S1 R1 h1 => ?_)
  cases x with
  | int n =>
    by_cases hn : -1000000 ≤ n ∧ n ≤ 1000000
    · simp only [if_pos hn] at h1
      simp only [Rep] at R1
      refine ⟨n, R1, ⟨by omega, by omega, by omega, by omega, by omega⟩, fun q ob hd hq => h1.fin S1 (.new S1.sub hq) ?_⟩
      simp only [Rep]
      refine ⟨q, _, rfl, .new hd, ?_⟩
      have key : ∀ l : List Nat, RepL X.K (upd F1 q (.frz ob (.tup (rgV 0 n)))) (l.map fun k => D.int (k : Nat)) (l.map fun i => V.int (0 + (i : Nat))) := by
        intro l
        induction l with
        | nil => exact RepL.nil
        | cons k l ih => exact RepL.cons (by simp [Rep]) ih
      have e : rgV 0 n = (List.range n.toNat).map fun i => V.int (0 + (i : Nat)) := by
        unfold rgV
        rw [Int.sub_zero]
      rw [e] at key ⊢
      exact key _
    · simp only [if_neg hn] at h1
      exact h1.elim
  | _ => exact h1.elim
end
end Dn

set_option Elab.async false
set_option linter.all false
set_option maxRecDepth 100000
set_option maxHeartbeats 4000000
namespace Dn
open PySem PySem.Spec L2
/-- from the walks to the script's run, where what may leave a call leans on the world -/
theorem leave {l : PySem.W.OpenLaw} {n k : Nat} {q : Program} {loose : List Str} {XP : (Str → Option Value) → Heap → Prop} {YP : World → Heap → Prop} {d : DefRec} {x : Str}
    (hn : l.most = some n) (hn2 : n ≤ sizeLine) (hdf : d.params.defaults = []) (hr : Room k callerA)
    (F : ∀ (w : World) (mg : Str → Option Value) (fa : Addr) (h : Heap), YP w h → h.Ns mainGlobals mg → mg d.name = some (.ref fa) →
      ∃ (K : PySem.W.Frag) (fd : FuncData) (f : Fn), K.In h ∧ (∀ (s : Shared) (u : Value), BindsTo s fd ⟨[u], []⟩ [(x, u)]) ∧
        (∀ ns : List Int, ns.length ≤ n → f.app [.scr ns] = .ok (.fz (.bl true))) ∧
        ∀ base : Heap, K.In base → base.Ns mainGlobals mg → FnOk l.prog w K mg base (L2.CX l.prog w) k fa fd [x] (spP K f)) :
    PySem.W.WalkO q loose XP YP l.row.toRowW d [] (fun f vs => PySem.call f vs) := by
  refine Att.attach_call hn hdf fun w s₀ s₁ mg mb fa o pm cd doc a vs ns G Y ho hd hcd hmg hobj hints hlen hg => ?_
  obtain ⟨K, fd, f, KX, hb, ht, hF⟩ := F w mg fa _ Y G.T.g hmg
  exact law_call KX G.T.g G.T.b G.T.builtins G.T.nolimit hg hobj hints (Nat.le_trans hlen hn2) hr hF hb (fun H hO hS => by
    refine ⟨H, [.scr ns], fun _ _ e => e, .cons (by simp only [Rep]; exact ⟨a, rfl, hS⟩) .nil, ?_⟩
    rw [ht ns hlen]
    intro v F' H' al r
    simpa [RepR, Rep] using r) fun H e s' h => by
      obtain ⟨_, _, _, _, _, _, _, _, _, _, _, _, z⟩ := h
      exact z
end Dn

set_option Elab.async false
set_option linter.all false
set_option maxRecDepth 100000
set_option maxHeartbeats 4000000
namespace Dn
open PySem PySem.Spec L2
/-! ### meanings worked out, rule by rule -/
section
variable {E E1 E2 E3 : Sto} {a b : Se} {c c2 : SeB} {as : SeL} {d x y z : D} {xs ds : List D} {i : Nat} {f : Fn} {s t : Ss} {r : So}
theorem ev_c : sC d E = .ok d E := rfl
theorem ev_var (h : E[i]? = some (.vl d)) : sVar i E = .ok d E := by
  unfold sVar
  rw [h]
theorem ev_bin {o : D → D → Option D} (h : a E = .ok x E1) (h2 : b E1 = .ok y E2) (h3 : o x y = some z) : sBin o a b E = .ok z E2 := by
  unfold sBin
  rw [h]
  show (b E1).bind _ = _
  rw [h2]
  show Out.opt (o x y) E2 = _
  rw [h3]
  rfl
theorem ev_un {o : D → Option D} (h : a E = .ok x E1) (h3 : o x = some z) : sUn o a E = .ok z E1 := by
  unfold sUn
  rw [h]
  show Out.opt (o x) E1 = _
  rw [h3]
  rfl
theorem ev_nil : sNil E = .ok [] E := rfl
theorem ev_cons (h : a E = .ok x E1) (h2 : as E1 = .ok xs E2) : sCons a as E = .ok (x :: xs) E2 := by
  unfold sCons
  rw [h]
  show (as E1).bind _ = _
  rw [h2]
  rfl
theorem ev_call {o : List D → Option D} (h : as E = .ok xs E1) (h2 : o xs = some z) : sCall o as E = .ok z E1 := by
  unfold sCall
  rw [h]
  show Out.opt (o xs) E1 = _
  rw [h2]
  rfl
theorem ev_fn (h : as E = .ok xs E1) (h2 : f.app xs = .ok (.fz d)) : sFn f as E = .ok d E1 := by
  unfold sFn
  rw [h]
  show rsOut (f.app xs) E1 = _
  rw [h2]
  rfl
theorem ev_fnL (h : as E = .ok xs E1) (h2 : f.app xs = .ok (.fr ds)) : sFn f as E = .ok (.lst ds) E1 := by
  unfold sFn
  rw [h]
  show rsOut (f.app xs) E1 = _
  rw [h2]
  rfl
theorem ev_fnF (h : as E = .ok xs E1) (h2 : f.app xs = .ok (.fr ds)) : sFnF f as E = .ok ds E1 := by
  unfold sFnF
  rw [h]
  show rsOutF (f.app xs) E1 = _
  rw [h2]
  rfl
theorem bv_val {k : Bool} (h : a E = .ok (.bl k) E1) : bVal a E = .ok k E1 := by
  unfold bVal
  rw [h]
  rfl
theorem bv_andT {k : Bool} (h : c E = .ok true E1) (h2 : c2 E1 = .ok k E2) : bAnd c c2 E = .ok k E2 := by
  unfold bAnd
  rw [h]
  exact h2
theorem bv_andF (h : c E = .ok false E1) : bAnd c c2 E = .ok false E1 := by
  unfold bAnd
  rw [h]
  rfl
theorem bv_orF {k : Bool} (h : c E = .ok false E1) (h2 : c2 E1 = .ok k E2) : bOr c c2 E = .ok k E2 := by
  unfold bOr
  rw [h]
  exact h2
theorem bv_orT (h : c E = .ok true E1) : bOr c c2 E = .ok true E1 := by
  unfold bOr
  rw [h]
  rfl
theorem es_seq (h : s E = .nx E1) : sSeq s t E = t E1 := by
  unfold sSeq
  rw [h]
theorem es_set (h : a E = .ok d E1) : sSet i a E = .nx (E1.set i (.vl d)) := by
  unfold sSet
  rw [h]
  rfl
theorem es_own (h : as E = .ok ds E1) : sOwn i as E = .nx (E1.set i (.ow ds)) := by
  unfold sOwn
  rw [h]
  rfl
theorem es_no (h : c E = .ok false E1) : sCond c s t E = t E1 := by
  unfold sCond
  rw [h]
  rfl
theorem es_yes (h : c E = .ok true E1) : sCond c s t E = s E1 := by
  unfold sCond
  rw [h]
  rfl
theorem es_next : sNext E = .nx E := rfl
theorem es_ret (h : a E = .ok d E1) : sRet a E = .rt (.fz d) E1 := by
  unfold sRet
  rw [h]
  rfl
theorem ne_self {x : Int} : oNe (.int x) (.int x) = some (.bl false) := by
  simp [oNe, dEq, oEqS]
theorem le_yes {x y : Int} (h : x ≤ y) : oLe (.int x) (.int y) = some (.bl true) := by
  simp only [oLe, h, decide_true]
theorem le_not {x y : Int} (h : ¬ x ≤ y) : oLe (.int x) (.int y) = some (.bl false) := by
  simp only [oLe, h, decide_false]
end
end Dn

set_option Elab.async false
set_option linter.all false
set_option maxRecDepth 100000
set_option maxHeartbeats 4000000
namespace Dn
open PySem PySem.Spec L2
/-! ### what is never come to -/
def sBad : Se := fun _ => .bad
def tBad : Ss := fun _ => .bad
def bBad : SeB := fun _ => .bad
def lBad : SeL := fun _ => .bad
section
variable {X : Cx} {e0 : E0} {W : WX} {e o : Expr} {es : List Expr} {st : Stmt} {K : PySem.W.Frag} {F H : Hp} {fa : Se} {ga : SeL} {m : Str} {pos apos : Pos}
theorem dx_bad : DX X e0 W e sBad := ⟨fun _ _ _ _ _ _ ⟨_, _, _, h⟩ => False.elim h⟩
theorem df_bad : DF X e0 W e lBad := ⟨fun _ _ _ _ _ _ ⟨_, _, _, h⟩ => False.elim h⟩
theorem dt_bad : DT X e0 W e bBad := ⟨fun _ _ _ _ _ _ ⟨_, _, _, h⟩ => False.elim h⟩
theorem da_bad : DA X e0 W es lBad := ⟨fun _ _ _ _ _ _ _ ⟨_, _, _, h⟩ => False.elim h⟩
theorem ds_bad : DS X e0 W st tBad := ⟨fun _ _ _ _ _ _ ⟨_, _, _, h⟩ => False.elim h⟩
theorem di_bad {kw : Bool} {tg : Expr} : DI kw X e0 W tg e lBad := ⟨fun _ _ _ _ _ _ ⟨_, _, _, h⟩ => False.elim h⟩

/-! ### methods of own classes -/
def sMeth (tab : List (Nat × Fn)) (a : Se) (as : SeL) : Se := fun E => (a E).bind fun x E1 => match x with
  | .ins c xs => (match tab.lookup c with
    | some f => (as E1).bind fun ds E2 => rsOut (f.app (.ins c xs :: ds)) E2
    | none => .bad)
  | _ => .bad
/-- a class's method, as a caller has it -/
structure MtOk (X : Cx) (c : Nat) (m : Str) (f : Fn) : Prop where
  cl : Cls X.K (He.ga X.K (clsName c))
  no : ∀ vs : List V, ((clsFlds c).zip vs).lookup m = none
  ex : ∃ (k : Nat) (g : Addr) (fd : FuncData) (ps : List Str), Meth X.K (He.ga X.K (clsName c)) m g ∧ FnOk X.prog X.w X.K X.mg X.base (L2.CX X.prog X.w) k g fd ps (spP X.K f) ∧ Room k X.A ∧ Binds X.K fd ps []
def MtTab (X : Cx) (m : Str) (tab : List (Nat × Fn)) : Prop := ∀ c f, tab.lookup c = some f → MtOk X c m f
theorem zip_no {m : Str} : ∀ {ns : List Str} {vs : List V}, ns.contains m = false → (ns.zip vs).lookup m = none
  | [], _, _ => rfl
  | n :: ns, [], _ => rfl
  | n :: ns, v :: vs, h => by
    rw [List.contains_cons, Bool.or_eq_false_iff] at h
    rw [List.zip_cons_cons, List.lookup_cons, h.1]
    exact zip_no h.2
/-- the receiver, whatever class it has, then the arguments, then the method -/
def tMt (X : Cx) (W : WX) (m : Str) (ta : TE) (t : TA) : TE := fun σ H Q => ta σ H fun x H1 => ∃ (a C dx g : Addr) (fs : List (Str × V)) (k : Nat) (fd : FuncData) (ps : List Str) (sp : Sp), x = .ref a ∧ H1 a = some (.ins C dx fs) ∧ Cls X.K C ∧ Meth X.K C m g ∧ fs.lookup m = none ∧
  FnOk X.prog X.w X.K X.mg X.base (L2.CX X.prog X.w) k g fd ps sp ∧ Room k X.A ∧ Binds X.K fd ps [] ∧ t σ H1 fun vs H2 => sp (x :: vs) H2 Q (WE W σ)
theorem pe_mt {ta : TE} {t : TA} {pl : Sem Bool} (tk : Takes X W) (he : PE X o ta) (ha : PA X (e :: es) t)
    (h1 : starEach (e :: es) X.env = (false, eval e X.env) :: starEach es X.env := by rfl) (h2 : (backTo pos (starEach es X.env)).any (·.1) = false := by rfl)
    (h3 : eval (.Call (.Attribute o m apos) (e :: es) [] pos) X.env = (do
      let r ← eval o X.env
      standAt apos.atName
      let (g, us) ← holding [r] (getMethod r m pl)
      callWith pos g us (backTo pos (starEach (e :: es) X.env)) (backToKw pos (keywordEach [] X.env))) := by rfl) :
    PE X (.Call (.Attribute o m apos) (e :: es) [] pos) (tMt X W m ta t) := ⟨fun pins s σ H Q I h => by
  refine PySem.W.methodCall_KW (pl := pl) (thn (he.run pins s σ H _ I h) fun u s1 q => ?_) h3
  obtain ⟨x, H1, I1, rx, a, C, dx, g, fs, k, fd, ps, sp, ex, ea, c, hm, l, F, hr, hb, q⟩ := q
  subst ex
  cases (show u = Value.ref a from rx)
  refine getmeth_ok I1 ea c hm l ?_
  refine PySem.W.callWith_K (first := [.ref a]) (h₀ := X.base) I1.ok.mod.kin hm.kp (thn (ha.run pos pins s1 σ H1 _ I1 q) fun us s2 q2 => ?_) h1 h2
  obtain ⟨vs, H2, I2, r, q2⟩ := q2
  exact ⟨I2.kIn, run_fnS (us := .ref a :: us) (vs := .ref a :: vs) F hr hb (passAt tk σ) I2 (.cons rfl r) q2⟩⟩
theorem pe_mt0 {ta : TE} {pl : Sem Bool} (tk : Takes X W) (he : PE X o ta)
    (h3 : eval (.Call (.Attribute o m apos) [] [] pos) X.env = (do
      let r ← eval o X.env
      standAt apos.atName
      let (g, us) ← holding [r] (getMethod r m pl)
      callWith pos g us (backTo pos (starEach [] X.env)) (backToKw pos (keywordEach [] X.env))) := by rfl) :
    PE X (.Call (.Attribute o m apos) [] [] pos) (tMt X W m ta tNil) := ⟨fun pins s σ H Q I h => by
  refine PySem.W.methodCall_KW (pl := pl) (thn (he.run pins s σ H _ I h) fun u s1 q => ?_) h3
  obtain ⟨x, H1, I1, rx, a, C, dx, g, fs, k, fd, ps, sp, ex, ea, c, hm, l, F, hr, hb, q⟩ := q
  subst ex
  cases (show u = Value.ref a from rx)
  refine getmeth_ok I1 ea c hm l ?_
  exact PySem.W.callWith_K0 (first := [.ref a]) I1.kIn hm.kp (run_fnS (us := [.ref a]) (vs := [.ref a]) F hr hb (passAt tk σ) I1 (.cons rfl .nil) q)⟩
theorem mt_rd {tab : List (Nat × Fn)} {σ : St} {Q : VK} {t : TA} (T : MtTab X m tab) (ht : ∀ σ H Q, rdL X.K e0 W ga σ H Q → t σ H Q) (h : rd X.K e0 W (sMeth tab fa ga) σ H Q) : tMt X W m (rd X.K e0 W fa) t σ H Q := by
  obtain ⟨E, F, S, h⟩ := h
  refine rdG_intro S (h.bind fun x v E1 F1 H1 G1 S1 R1 h1 => ?_)
  cases x with
  | ins c xs =>
    have R0 := R1
    simp only [Rep] at R1
    obtain ⟨q, dx, vs, e1, e2, hl, r⟩ := R1
    cases e : tab.lookup c with
    | none =>
      simp only [e] at h1
      exact h1.elim
    | some f =>
      simp only [e] at h1
      obtain ⟨cl, no, k, g, fd, ps, hm, FK, hr, hb⟩ := T c f e
      refine ⟨q, _, dx, g, _, k, fd, ps, _, e1, S1.sub _ _ e2, cl, hm, no vs, FK, hr, hb, ht _ _ _ (rdG_intro S1 (h1.bind fun ds us E2 F2 H2 G2 S2 R2 h2 => ?_))⟩
      exact call_post S2 (.cons (Rep.mono G2.sF _ _ R0) R2) h2
  | _ => exact h1.elim
theorem dx_meth {tab : List (Nat × Fn)} {pl : Sem Bool} (T : MtTab X m tab) (tk : Takes X W) (ho : DX X e0 W o fa) (ha : DA X e0 W (e :: es) ga)
    (h1 : starEach (e :: es) X.env = (false, eval e X.env) :: starEach es X.env := by rfl) (h2 : (backTo pos (starEach es X.env)).any (·.1) = false := by rfl)
    (h3 : eval (.Call (.Attribute o m apos) (e :: es) [] pos) X.env = (do
      let r ← eval o X.env
      standAt apos.atName
      let (g, us) ← holding [r] (getMethod r m pl)
      callWith pos g us (backTo pos (starEach (e :: es) X.env)) (backToKw pos (keywordEach [] X.env))) := by rfl) :
    DX X e0 W (.Call (.Attribute o m apos) (e :: es) [] pos) (sMeth tab fa ga) := PE.weak (pe_mt tk ho ha h1 h2 h3) fun σ H Q h => mt_rd T (fun _ _ _ z => z) h
theorem dx_meth0 {tab : List (Nat × Fn)} {pl : Sem Bool} (T : MtTab X m tab) (tk : Takes X W) (ho : DX X e0 W o fa)
    (h3 : eval (.Call (.Attribute o m apos) [] [] pos) X.env = (do
      let r ← eval o X.env
      standAt apos.atName
      let (g, us) ← holding [r] (getMethod r m pl)
      callWith pos g us (backTo pos (starEach [] X.env)) (backToKw pos (keywordEach [] X.env))) := by rfl) :
    DX X e0 W (.Call (.Attribute o m apos) [] [] pos) (sMeth tab fa sNil) := PE.weak (pe_mt0 tk ho h3) fun σ H Q h => mt_rd T (fun σ H Q ⟨E, F, S, z⟩ => z [] F H Grow.refl S .nil) h
end
end Dn

set_option Elab.async false
set_option linter.all false
set_option maxRecDepth 100000
set_option maxHeartbeats 4000000
namespace Dn
open PySem PySem.Spec L2
def Sl.one : Sl → Bool
  | .ow _ => true
  | .st _ => true
  | .nw _ _ => true
  | _ => false
section
variable {K : PySem.W.Frag} {e0 : E0} {W : WX} {σ : St} {E : Sto} {F F' H H' : Hp}
theorem SI.put1 (S : SI K e0 F H σ E) {i : Nat} {s s' : Sl} {p : Addr} (e : E[i]? = some s) (h1 : s.one = true) (h2 : s'.one = true) (bb : Bor (some s') ↔ Bor (some s)) (e1 : σ[i]? = some (some (.ref p))) (al : Alloc2 p F H F' H') (r' : SlotRel K F' H' s' σ[i]?) :
    SI K e0 F' H' σ (E.set i s') ∧ Grow σ E F H (E.set i s') F' H' := by
  have hi : i < E.length := (List.getElem?_eq_some_iff.mp e).1
  have oi : Own H σ E i p := by
    unfold Own
    rw [e]
    cases s with
    | ow ys => exact e1
    | st ys => exact e1
    | nw c ys => exact e1
    | _ => cases h1
  have hpn : H' p ≠ none := by
    cases s' with
    | ow ys =>
      obtain ⟨q, us, g1, g2, _⟩ := r'
      rw [e1] at g1
      cases g1
      rw [g2]
      exact fun z => nomatch z
    | st ys =>
      obtain ⟨q, us, g1, g2, _⟩ := r'
      rw [e1] at g1
      cases g1
      rw [g2]
      exact fun z => nomatch z
    | nw c ys =>
      obtain ⟨q, dx, us, g1, g2, _⟩ := r'
      rw [e1] at g1
      cases g1
      rw [g2]
      exact fun z => nomatch z
    | _ => cases h2
  obtain ⟨up, eup, fup⟩ := own_some S oi
  have fp' : F' p = none := al.nf p (by rw [eup]; exact fun z => nomatch z) fup
  have nn : ∀ {b : Addr} {o : HO}, H b = some o → F b = none → F' b = none := fun e f => al.nf _ (by rw [e]; exact fun z => nomatch z) f
  have nop : ∀ j q, Own H σ E j q → j ≠ i → q ≠ p := fun j q h n z => by
    subst z
    exact n (S.apart j i q h oi)
  have own' : ∀ j q, Own H' σ (E.set i s') j q → Own H σ E j q := fun j q h => by
    by_cases hj : j = i
    · subst hj
      unfold Own at h
      rw [List.getElem?_set_self hi] at h
      have h' : σ[j]? = some (some (.ref q)) := by
        cases s' with
        | ow ys => exact h
        | st ys => exact h
        | nw c ys => exact h
        | _ => cases h2
      rw [e1] at h'
      cases h'
      exact oi
    · unfold Own at h
      rw [List.getElem?_set_ne (Ne.symm hj)] at h
      cases e2 : E[j]? with
      | none => simp [e2] at h
      | some t =>
        rw [e2] at h
        cases t with
        | un => exact h.elim
        | vl d => exact h.elim
        | ow ys => exact own_of_slot e2 h
        | st ys => exact own_of_slot e2 h
        | nw c ys => exact own_of_slot e2 h
        | mx rows =>
          obtain ⟨q0, ps, g1, g2, _⟩ := S.rel j _ e2
          obtain ⟨q1, ps', g3, g4, hq⟩ := h
          rw [g1] at g3
          cases g3
          have ne : q0 ≠ p := nop j q0 (own_of_slot e2 ⟨q0, ps, g1, g2, .inl rfl⟩) hj
          rw [al.keep _ _ g2 ne] at g4
          injection g4 with g4
          injection g4 with g4
          exact own_of_slot e2 ⟨q0, ps', g1, by rw [g2, g4], hq⟩
  refine ⟨⟨by simpa using S.len, al.sub, fun j t hs => ?_, fun a b q h1 h2 => S.apart a b q (own' a q h1) (own' b q h2), Same.tr S.f0 al.sF, fun b o h n => ?_, fun b h f => al.nf b (S.dm b h) (S.nf b h f), fun j q h => ?_, fun b h => ?_⟩,
    ⟨al.sF, fun b o h n => al.keep b o h fun z => n i (z ▸ oi), fun b h f _ => al.nf b h f, fun b h => ?_, own'⟩⟩
  · by_cases hj : j = i
    · subst hj
      rw [List.getElem?_set_self hi] at hs
      cases hs
      exact r'
    · rw [List.getElem?_set_ne (Ne.symm hj)] at hs
      have r := S.rel j t hs
      cases t with
      | un => trivial
      | vl d =>
        obtain ⟨v, h1, h2⟩ := r
        exact ⟨v, h1, Rep.mono al.sF _ _ h2⟩
      | ow ys =>
        obtain ⟨q, us, h1, h2, h3, h4⟩ := r
        exact ⟨q, us, h1, al.keep _ _ h2 (nop j q (own_of_slot hs h1) hj), nn h2 h3, RepL.mono al.sF _ _ h4⟩
      | st ys =>
        obtain ⟨q, us, h1, h2, h3, h4⟩ := r
        exact ⟨q, us, h1, al.keep _ _ h2 (nop j q (own_of_slot hs h1) hj), nn h2 h3, RepL.mono al.sF _ _ h4⟩
      | nw c ys =>
        obtain ⟨q, dx, us, h1, h2, h3, h4⟩ := r
        exact ⟨q, dx, us, h1, al.keep _ _ h2 (nop j q (own_of_slot hs h1) hj), nn h2 h3, RepL.mono al.sF _ _ h4⟩
      | mx rows =>
        obtain ⟨q0, ps, h1, h2, h3, h4, h5, h6, h7⟩ := r
        refine ⟨q0, ps, h1, al.keep _ _ h2 (nop j q0 (own_of_slot hs ⟨q0, ps, h1, h2, .inl rfl⟩) hj), nn h2 h3, h4, h5, h6, fun k p' r' a1 a2 => ?_⟩
        obtain ⟨b1, us, b2, b3⟩ := h7 k p' r' a1 a2
        exact ⟨nn b2 b1, us, al.keep _ _ b2 (nop j p' (own_of_slot hs ⟨q0, ps, h1, h2, .inr (List.mem_of_getElem? a1)⟩) hj), RepL.mono al.sF _ _ b3⟩
  · by_cases hb : b = p
    · subst hb
      rcases S.ow i b oi with z | z
      · rw [z.1] at h
        cases h
      · exact (n z.1).elim
    · exact al.keep b o (S.h0 b o h n) hb
  · have q' := S.ow j q (own' j q h)
    by_cases hj : j = i
    · subst hj
      rw [List.getElem?_set_self hi]
      rw [e] at q'
      rcases q' with z | z
      · exact .inl ⟨z.1, fun y => z.2 (bb.mp y)⟩
      · exact .inr ⟨z.1, bb.mpr z.2⟩
    · rw [List.getElem?_set_ne (Ne.symm hj)]
      exact q'
  · have hb := S.dm b h
    cases q : H b with
    | none => exact (hb q).elim
    | some o =>
      by_cases hbp : b = p
      · subst hbp
        exact hpn
      · rw [al.keep b o q hbp]
        exact fun z => nomatch z
  · cases q : H b with
    | none => exact (h q).elim
    | some o =>
      by_cases hbp : b = p
      · subst hbp
        exact hpn
      · rw [al.keep b o q hbp]
        exact fun z => nomatch z

theorem putF_zip {f : Str} {y : V} : ∀ {ns : List Str} {vs : List V}, ns.Nodup → ns[vs.length]? = some f → putF f y (ns.zip vs) = ns.zip (vs ++ [y])
  | [], _, _, h => by cases h
  | n :: ns, [], hn, h => by
    simp only [List.length_nil, List.getElem?_cons_zero, Option.some.injEq] at h
    subst h
    simp [putF]
  | n :: ns, v :: vs, hn, h => by
    simp only [List.length_cons, List.getElem?_cons_succ] at h
    rw [List.nodup_cons] at hn
    have ne : n ≠ f := fun e => hn.1 (e ▸ List.mem_of_getElem? h)
    simp only [List.zip_cons_cons, putF, if_neg ne, List.cons_append]
    rw [putF_zip hn.2 h]
end
/-! ### an object's field, while it is made -/
def sSelf (i c j : Nat) (a : Se) : Ss := fun E => (a E).then fun d E1 => match E1[i]? with
  | some (.nw c' ds) => if c' = c ∧ ds.length = j then .nx (E1.set i (.nw c (ds ++ [d]))) else .bad
  | _ => .bad
section
variable {X : Cx} {e0 : E0} {W : WX} {a : Expr} {fa : Se} {f x : Str} {pos p p2 pos' : Pos} {i c j : Nat}
theorem ds_self (hcl : Cls X.K (He.ga X.K (clsName c))) (hno : NoAttr X.K (He.ga X.K (clsName c)) f) (hf : (clsFlds c)[j]? = some f) (hnd : (clsFlds c).Nodup) (hN : X.N[i]? = some x) (hv : Vis X.env.scope x) (ha : DX X e0 W a fa)
    (hs : swapsWith a (some (.Attribute (.Name x p) f p2)) pos.line X.env = pure false := by rfl) (hd : (x == ("__debug__" : Str)) = false := by decide) (hcd : (x == ("__classdict__" : Str)) = false := by decide) :
    DS X e0 W (.Assign [.Attribute (.Name x p) f p2] a pos) (sSelf i c j fa) := PS.weak (ps_fld (pe_var hN hv hd hcd) ha hs) fun D σ H ⟨E, F, S, h⟩ => rdG_intro S (PostS.bind (D := D) h fun d v E1 F1 H1 G1 S1 R1 h1 => by
  cases e : E1[i]? with
  | none => simp only [e] at h1; exact h1.elim
  | some s =>
    simp only [e] at h1
    cases s with
    | nw c' ds =>
      by_cases hc : c' = c ∧ ds.length = j
      · simp only [if_pos hc] at h1
        obtain ⟨hc1, hc2⟩ := hc
        subst hc1
        obtain ⟨q, dx, vs, g1, g2, g3, g4⟩ := S1.rel i _ e
        have lv : vs.length = j := by rw [← g4.length]; exact hc2
        have zp : putF f v ((clsFlds c').zip vs) = (clsFlds c').zip (vs ++ [v]) := putF_zip hnd (by rw [lv]; exact hf)
        have lz : ((clsFlds c').zip vs).length < 1000 := by
          have : (clsFlds c').length ≤ 6 := by
            match c' with
            | 0 => decide
            | 1 => decide
            | 2 => decide
            | 3 => decide
            | 4 => decide
            | n + 5 => exact (by decide : (clsFlds 5).length ≤ 6)
          have l2 := List.length_zip (l₁ := clsFlds c') (l₂ := vs)
          omega
        refine ⟨.ref q, g1, q, _, dx, _, rfl, g2, hcl, hno, lz, ?_⟩
        rw [zp]
        have al : Alloc2 q F1 H1 F1 (upd H1 q (.ins (He.ga X.K (clsName c')) dx ((clsFlds c').zip (vs ++ [v])))) := ⟨fun _ _ z => z, fun b o hb n => by rw [upd_ne n]; exact hb, fun b o hb => by
          have : b ≠ q := fun z => by rw [z, g3] at hb; cases hb
          rw [upd_ne this]
          exact S1.sub b o hb, fun _ _ z => z⟩
        obtain ⟨S2, G2⟩ := S1.put1 e rfl rfl (s' := .nw c' (ds ++ [d])) ⟨fun _ => .inr ⟨_, _, rfl⟩, fun _ => .inr ⟨_, _, rfl⟩⟩ g1 al ⟨q, dx, vs ++ [v], g1, upd_same, g3, g4.snoc R1⟩
        exact h1 σ F1 _ (fun _ _ z => z) S2
      · simp only [if_neg hc] at h1
        exact h1.elim
    | _ => exact h1.elim)
/-! ### an own exception without fields -/
def sRaise (c : Nat) : Ss := fun E => .ex ⟨c, []⟩ E
theorem ds_raise {m : Str} {k : Nat} (hx : x = xnName c) (hf : xnFld c = none) (q : PySem.W.excIn X.K (He.ga X.K x) He.veBase "ValueError.__new__" = true) (gC : X.mg x = some (.ref (He.ga X.K x))) (kC : PySem.W.keepIn X.K (.ref (He.ga X.K x)) = true)
    (h1 : PySem.W.subIn X.K (.ref (He.ga X.K x)) (.type "BaseException") = some true) (h2 : PySem.W.typeIn X.K (.ref (He.ga X.K x)) = some (.type "type")) (hg : Gl X x) (hc : X.calm = true) (tk : Takes X W) (hdb : (x == ("__debug__" : Str)) = false := by decide) :
    DS X e0 W (.Raise (some (.Call (.Name x p) [.Constant (.str m) k p2] [] pos)) none pos') (sRaise c) := PS.weak (ps_raise hc tk (pmk_own PySem.F.excBase_ValueError q gC kC (raises_own h1 h2) hg hdb)) fun D σ H ⟨E, F, S, h⟩ => by
  refine h _ none σ F H S ⟨by rw [hx], ?_⟩
  simp only [hf]
/-! ### names of the module that hold data -/
theorem dx_glInt {v : Int} (hg : Gl X x) (hm : ∃ t, X.mg x = some (.int v t)) (hd : (x == ("__debug__" : Str)) = false := by decide) : DX X e0 W (.Name x p) (sC (.int v)) :=
  let ⟨t, e⟩ := hm
  PE.weak (pe_glob (v := .int v) hg e ⟨t, rfl⟩ hd) fun σ H Q ⟨E, F, S, h⟩ => h (.int v) F H Grow.refl S (by simp [Rep])
theorem dx_glStr {v : Str} (hg : Gl X x) (hm : ∃ t, X.mg x = some (.str v t)) (hd : (x == ("__debug__" : Str)) = false := by decide) : DX X e0 W (.Name x p) (sC (.str v)) :=
  let ⟨t, e⟩ := hm
  PE.weak (pe_glob (v := .str v) hg e ⟨t, rfl⟩ hd) fun σ H Q ⟨E, F, S, h⟩ => h (.str v) F H Grow.refl S (by simp [Rep])
/-- a tuple of whole numbers and texts -/
def flatDv : D → Option He.Dv
  | .non => some .non
  | .bl b => some (.bl b)
  | .int i => some (.int i)
  | .str s => some (.str s)
  | _ => none
def flatDvs : List D → Option (List He.Dv)
  | [] => some []
  | d :: r => (flatDv d).bind fun x => (flatDvs r).map (x :: ·)
end
end Dn

set_option Elab.async false
set_option linter.all false
set_option maxRecDepth 100000
set_option maxHeartbeats 4000000
namespace Dn
open PySem PySem.Spec L2
/-! ### an own object made -/
inductive RsI where
  | ok (xs : List D) | ex (x : Xn) | bad
structure FnI where
  np : Nat
  run : List D → RsI
def FnI.app (f : FnI) (ds : List D) : RsI := if ds.length = f.np then f.run ds else .bad
def sto3 (n c : Nat) (ds : List D) : Sto := .nw c [] :: sto (n - 1) ds
def mkInit (n np c : Nat) (b : Ss) : FnI := ⟨np, fun ds => match b (sto3 n c ds) with
  | .nx E => (match (E[0]? : Option Sl) with
    | some (Sl.nw c' xs) => if c' = c ∧ xs.length = (clsFlds c).length then .ok xs else .bad
    | _ => .bad)
  | .ex x _ => .ex x
  | _ => .bad⟩
section
variable (K : PySem.W.Frag)
def spI (c : Nat) (f : FnI) : Sp := fun vs H Q E => ∃ F x dx ws ds, vs = .ref x :: ws ∧ Same F H ∧ H x = some (.ins (He.ga K (clsName c)) dx []) ∧ F x = none ∧ RepL K F ds ws ∧ match f.app ds with
  | .ok xs => ∀ F' H' dx' us, Alloc2 x F H F' H' → H' x = some (.ins (He.ga K (clsName c)) dx' ((clsFlds c).zip us)) → RepL K F' xs us → xs.length = (clsFlds c).length → Q .non H'
  | .ex y => ∀ cls dd F' H', Alloc2 x F H F' H' → RepX K F' H' y cls dd → E cls dd H'
  | .bad => False
end
theorem spI_len {K : PySem.W.Frag} {c : Nat} {f : FnI} {vs : List V} {H : Hp} {Q : VK} {E : XK} (h : spI K c f vs H Q E) : vs.length = f.np + 1 := by
  obtain ⟨F, x, dx, ws, ds, e, s1, h1, f1, r, p⟩ := h
  unfold FnI.app at p
  by_cases e0 : ds.length = f.np
  · rw [e, List.length_cons, ← r.length, e0]
  · rw [if_neg e0] at p
    exact p.elim
section
variable {P : Program} {w : World} {K : PySem.W.Frag} {mg : Str → Option Value} {base : Heap} {x qual : Str} {params : Arguments} {body : List Stmt} {scope : Scope} {dvs : List V} {kws : List (Str × V)} {f : Addr} {fd : FuncData}
theorem sto3_get {n c i : Nat} {ds : List D} {t : Sl} (h : (sto3 n c ds)[i]? = some t) : (i = 0 ∧ t = .nw c []) ∨ (∃ j, i = j + 1 ∧ (sto (n - 1) ds)[j]? = some t) := by
  cases i with
  | zero =>
    unfold sto3 at h
    simp at h
    exact .inl ⟨rfl, h.symm⟩
  | succ j =>
    unfold sto3 at h
    exact .inr ⟨j, rfl, by simpa using h⟩
theorem sto3_own {H : Hp} {n c i : Nat} {ds : List D} {σ : St} {p : Addr} (h : Own H σ (sto3 n c ds) i p) : i = 0 ∧ σ[0]? = some (some (.ref p)) := by
  cases i with
  | zero =>
    have e : (sto3 n c ds)[0]? = some (.nw c []) := rfl
    unfold Own at h
    rw [e] at h
    exact ⟨rfl, h⟩
  | succ j =>
    exfalso
    unfold Own at h
    have e : (sto3 n c ds)[j + 1]? = (sto (n - 1) ds)[j]? := by simp [sto3]
    rw [e] at h
    cases q : (sto (n - 1) ds)[j]? with
    | none => simp [q] at h
    | some t => rcases sto_get q with ⟨d, _, rfl⟩ | rfl <;> simp [q] at h
theorem fn_init {N ps : List Str} {k c : Nat} {b : Ss} (hN : 0 < N.length) (hps : 0 < ps.length) (F : FunD K x qual params body scope dvs kws f fd) (S : FnScope N ps scope)
    (hb : ∀ (cdv : Value) (A : Around) (outer : List Env) (s : Shared) (H : Hp) (E : XK) (e0 : E0), Room k (A.deeper (PyProof.Rows.envOfC qual scope s.heap.objs.size f cdv)) → DSs (cxOf (L2.CX P w) P w K mg base N qual scope f cdv A outer s H E) e0 (fun cls d _ H => E cls d H) body b) :
    FnOk P w K mg base (L2.CX P w) (k + 1) f fd ps (spI K c (mkInit N.length (ps.length - 1) c b)) := by
  refine F.ok S (fun vs H Q E h => by rw [spI_len h]; show ps.length - 1 + 1 = ps.length; omega) fun cdv A outer s H vs Q E hr h => ?_
  obtain ⟨F1, o, dx, ws, ds, ev, s1, hc, fc, r, p⟩ := h
  subst ev
  have st0 : (L2.start N (V.ref o :: ws))[0]? = some (some (.ref o)) := start_get rfl
  refine ⟨_, hb cdv A outer s H E ⟨F1, H, fun b => b = o⟩ hr, sto3 N.length c ds, F1, ⟨?_, s1, fun i t e => ?_, fun i j q h1 h2 => by rw [(sto3_own h1).1, (sto3_own h2).1], fun _ _ h => h, fun b u h _ => h, fun b _ f => f, fun i q h => ?_, fun b h => h⟩, ?_⟩
  · show (L2.start N (V.ref o :: ws)).length = (Sl.nw c [] :: sto (N.length - 1) ds).length
    rw [List.length_cons, sto_length, r.length]
    simp [L2.start]
    omega
  · rcases sto3_get e with ⟨rfl, rfl⟩ | ⟨j, rfl, e⟩
    · exact ⟨o, dx, [], st0, by rw [List.zip_nil_right]; exact hc, fc, RepL.nil⟩
    · rcases sto_get e with ⟨d, h1, rfl⟩ | rfl
      · obtain ⟨v, h2, h3⟩ := r.get h1
        exact ⟨v, start_get (by simpa using h2), h3⟩
      · trivial
  · obtain ⟨rfl, e⟩ := sto3_own h
    rw [st0] at e
    cases e
    exact .inr ⟨rfl, .inr ⟨c, [], rfl⟩⟩
  · have al2 : ∀ {E' : Sto} {σ : St} {F' H' : Hp}, SI K ⟨F1, H, fun b => b = o⟩ F' H' σ E' → Alloc2 o F1 H F' H' := fun S' => ⟨S'.f0, fun b u h n => S'.h0 b u h n, S'.sub, S'.nf⟩
    have fin : ∀ {E' : Sto} {xs : List D} {σ : St} {F' H' : Hp}, E'[0]? = some (.nw c xs) → SI K ⟨F1, H, fun b => b = o⟩ F' H' σ E' → ∃ dx' us, H' o = some (.ins (He.ga K (clsName c)) dx' ((clsFlds c).zip us)) ∧ RepL K F' xs us := fun {E' xs σ F' H'} e S' => by
      obtain ⟨q, dx', us, e1, e2, e3, e4⟩ := S'.rel 0 _ e
      have ho : Own H' σ E' 0 q := by
        unfold Own
        rw [e]
        exact e1
      have hq : q = o := by
        rcases S'.ow 0 q ho with z | z
        · exact (z.2 (by rw [e]; exact .inr ⟨c, xs, rfl⟩)).elim
        · exact z.1
      subst hq
      exact ⟨dx', us, e2, e4⟩
    by_cases hl : ds.length = ps.length - 1
    · simp only [FnI.app, mkInit, hl, if_true] at p
      cases q : b (sto3 N.length c ds) with
      | rt rv E' => simp only [q] at p
      | nx E' =>
        simp only [q] at p
        cases e : E'[0]? with
        | none => simp [e] at p
        | some t =>
          cases t with
          | nw c' xs =>
            simp only [e] at p
            by_cases hc : c' = c ∧ xs.length = (clsFlds c).length
            · simp only [if_pos hc] at p
              obtain ⟨rfl, hc2⟩ := hc
              intro σ F' H' s' S'
              obtain ⟨dx', us, h2, r2⟩ := fin e S'
              exact p F' H' dx' us (al2 S') h2 r2 hc2
            · simp only [if_neg hc] at p
          | _ => simp [e] at p
      | ex xn E' =>
        simp only [q] at p
        intro cls dd σ F' H' S' rx
        exact p cls dd F' H' (al2 S') rx
      | bk E' => simp only [q] at p
      | ct E' => simp only [q] at p
      | bad => simp only [q] at p
    · simp only [FnI.app, mkInit, hl, if_false] at p
end

/-! ### C(..) -/
def riOut (c : Nat) (r : RsI) (E : Sto) : Out D := match r with
  | .ok xs => .ok (.ins c xs) E
  | .ex x => .ex x E
  | .bad => .bad
def sMake (c : Nat) (f : FnI) (a : SeL) : Se := fun E => (a E).bind fun ds E1 => riOut c (f.app ds) E1
structure MkOk (X : Cx) (x : Str) (c : Nat) (f : FnI) : Prop where
  ex : ∃ (k : Nat) (g : Addr) (fd : FuncData) (ps : List Str), Mk X.K (He.ga X.K (clsName c)) g ∧ FnOk X.prog X.w X.K X.mg X.base (L2.CX X.prog X.w) k g fd ps (spI X.K c f) ∧ Room (k + 1) X.A ∧ X.mg x = some (.ref (He.ga X.K (clsName c))) ∧ Binds X.K fd ps []
def tMk (C : Addr) (sp : Sp) (E : St → XK) (t : TA) : TE := fun σ H Q => t σ H fun vs H1 => ∀ x dx, H1 x = none → H1 dx = none → dx ≠ x →
  sp (.ref x :: vs) (upd (upd H1 dx (.own x)) x (.ins C dx [])) (fun v H2 => v = .non ∧ Q (.ref x) H2) (E σ)
section
variable {X : Cx} {e0 : E0} {W : WX} {CX : CXT} {e : Expr} {es : List Expr} {ga : SeL} {x : Str} {p pos : Pos} {c k : Nat} {f : FnI} {C g : Addr} {fd : FuncData} {ps : List Str} {sp : Sp} {E : St → XK} {t : TA}
theorem run_mk {pins : List (Addr × Obj)} {σ : St} {H : Hp} {s : Shared} {Q : VK} {us : List Value} {vs : List V} (M : Mk X.K C g) (Fk : FnOk X.prog X.w X.K X.mg X.base CX k g fd ps sp) (hr : Room (k + 1) X.A) (hb : Binds X.K fd ps []) (hx : PassesAt CX X σ (E σ)) (I : Inv X pins σ H s) (r : Vals vs us)
    (h : ∀ x dx, H x = none → H dx = none → dx ≠ x → sp (.ref x :: vs) (upd (upd H dx (.own x)) x (.ins C dx [])) (fun v H2 => v = .non ∧ Q (.ref x) H2) (E σ)) : wpAny (model X.prog X.w) X.A (call (.ref C) us) (EP X pins σ Q) X.xe s := by
  have q := h (s.heap.objs.size + 1) s.heap.objs.size (I.hok.fresh (Nat.le_succ _)) (I.hok.fresh (Nat.le_refl _)) (Nat.ne_of_lt (Nat.lt_succ_self _))
  have J := Inv.made (C := C) I
  have rr : Vals (V.ref (s.heap.objs.size + 1) :: vs) (Value.ref (s.heap.objs.size + 1) :: us) := .cons rfl r
  have hl : (Value.ref (s.heap.objs.size + 1) :: us).length = ps.length := by rw [← rr.length]; exact Fk.len _ _ _ _ q
  have b := hb _ (Value.ref (s.heap.objs.size + 1) :: us) J.kIn (by rw [List.append_nil]; exact hl)
  rw [List.append_nil] at b
  refine wpAny_call (make_map (f := g) I.kIn M.makes M.init (beq_iff_eq.mp M.fn) (codeAny_mono (Fk.run _ X.stack _ _ ⟨Value.ref (s.heap.objs.size + 1) :: us, []⟩ (Value.ref (s.heap.objs.size + 1) :: us) _ _ (E σ) (hr.make C us []) (J.env0.make C us []) b rr q) fun z s' hz => ?_))
  cases z with
  | error y => exact hx pins _ _ y s' J hz
  | ok fl =>
    cases fl with
    | ret u =>
      obtain ⟨v, H', I3, rv, ev, q3⟩ := J.after hz
      subst ev
      exact ⟨rv, ⟨V.ref (s.heap.objs.size + 1), H', I3, rfl, q3⟩⟩
    | next => exact hz.elim
    | brk => exact hz.elim
    | cont => exact hz.elim
theorem pe_mkS (M : Mk X.K C g) (Fk : FnOk X.prog X.w X.K X.mg X.base CX k g fd ps sp) (hr : Room (k + 1) X.A) (hg : Gl X x) (hm : X.mg x = some (.ref C)) (hb : Binds X.K fd ps []) (hx : ∀ σ, PassesAt CX X σ (E σ))
    (ha : PA X (e :: es) t) (hdb : (x == ("__debug__" : Str)) = false := by decide) (h1 : starEach (e :: es) X.env = (false, eval e X.env) :: starEach es X.env := by rfl) (h2 : (backTo pos (starEach es X.env)).any (·.1) = false := by rfl) :
    PE X (.Call (.Name x p) (e :: es) [] pos) (tMk C sp E t) := ⟨fun pins s σ H Q I h => by
  refine wpAny_Call_Name_kw (ld_glob I hg hm ?_ hdb)
  refine PySem.W.callWith_K (h₀ := X.base) I.ok.mod.kin M.kp (thn (ha.run pos pins s σ H _ I h) fun us s1 q => ?_) h1 h2
  obtain ⟨vs, H1, I1, r, q⟩ := q
  exact ⟨I1.kIn, run_mk M Fk hr hb (hx σ) I1 r q⟩⟩
theorem dx_make (G : MkOk X x c f) (tk : Takes X W) (hg : Gl X x) (ha : DA X e0 W (e :: es) ga) (hdb : (x == ("__debug__" : Str)) = false := by decide) (h1 : starEach (e :: es) X.env = (false, eval e X.env) :: starEach es X.env := by rfl) (h2 : (backTo pos (starEach es X.env)).any (·.1) = false := by rfl) :
    DX X e0 W (.Call (.Name x p) (e :: es) [] pos) (sMake c f ga) := by
  obtain ⟨k, g, fd, ps, M, Fk, hr, hm, hb⟩ := G.ex
  refine PE.weak (pe_mkS M Fk hr hg hm hb (fun σ => passAt tk σ) ha hdb h1 h2) fun σ H Q ⟨E, F, S, h⟩ => rdG_intro S (h.bind fun ds vs E1 F1 H1 G1 S1 R1 h1 => ?_)
  intro o dx n1 n2 n3
  have sm : Same H1 (upd (upd H1 dx (.own o)) o (.ins (He.ga X.K (clsName c)) dx [])) := Same.tr (same_upd n2) (same_upd (by rw [upd_ne (Ne.symm n3)]; exact n1))
  have mid : ∀ {F' H' : Hp}, Alloc2 o F1 (upd (upd H1 dx (.own o)) o (.ins (He.ga X.K (clsName c)) dx [])) F' H' → Same H1 H' ∧ (∀ b, H1 b ≠ none → F1 b = none → F' b = none) ∧ F' o = none := fun {F' H'} al => by
    refine ⟨fun b u hb => ?_, fun b hb f => al.nf b (fun z => ?_) f, al.nf o (by rw [upd_same]; exact fun z => nomatch z) (fresh_F S1.sub n1)⟩
    · have ne : b ≠ o := fun z => by rw [z, n1] at hb; cases hb
      exact al.keep b u (sm b u hb) ne
    · cases q : H1 b with
      | none => exact hb q
      | some u =>
        rw [sm b u q] at z
        cases z
  refine ⟨F1, o, dx, vs, ds, rfl, Same.tr S1.sub sm, upd_same, fresh_F S1.sub n1, R1, ?_⟩
  cases q : f.app ds with
  | ok xs =>
    rw [q] at h1
    intro F' H' dx' us al e' r' hl
    obtain ⟨m1, m2, m3⟩ := mid al
    refine ⟨rfl, Post.fin h1 S1 (F1 := upd F' o (.ins (He.ga X.K (clsName c)) dx' ((clsFlds c).zip us))) ⟨Same.tr al.sF (same_upd m3), m1, fun b u hb => ?_, fun b hb f' => ?_⟩ ?_⟩
    · by_cases hbo : b = o
      · subst hbo
        rw [upd_same] at hb
        rw [e']
        exact hb
      · rw [upd_ne hbo] at hb
        exact al.sub b u hb
    · have ne : b ≠ o := fun z => hb (z ▸ n1)
      rw [upd_ne ne]
      exact m2 b hb f'
    · simp only [Rep]
      exact ⟨o, dx', us, rfl, upd_same, by rw [← r'.length]; exact hl, RepL.mono (same_upd m3) _ _ r'⟩
  | ex y =>
    rw [q] at h1
    intro cls dd F' H' al rx
    obtain ⟨m1, m2, m3⟩ := mid al
    have al' : Alloc F1 H1 F' H' := ⟨al.sF, m1, al.sub, m2⟩
    exact h1 cls dd F' H' (S1.grow al') (S1.alloc al') rx
  | bad =>
    rw [q] at h1
    exact h1.elim
/-! ### a tuple of the module -/
theorem repL_flat {K : PySem.W.Frag} {F : Hp} : ∀ {ds : List D} {vs : List He.Dv}, flatDvs ds = some vs → RepL K F ds (vs.map (He.Dv.v K))
  | [], vs, h => by
    simp only [flatDvs, Option.some.injEq] at h
    subst h
    exact RepL.nil
  | d :: ds, vs, h => by
    simp only [flatDvs] at h
    obtain ⟨y, h1, h2⟩ := Option.bind_eq_some_iff.mp h
    obtain ⟨ys, h3, rfl⟩ := Option.map_eq_some_iff.mp h2
    refine RepL.cons ?_ (repL_flat h3)
    cases d <;> simp only [flatDv, Option.some.injEq, reduceCtorEq] at h1 <;> subst h1 <;> simp [Rep, He.Dv.v]
def tupM (K : PySem.W.Frag) (x : Str) (vs : List He.Dv) : Bool := He.tupB K x vs && match K.lookup (He.ga K x) with
  | some o => o.dict.isNone
  | none => false
theorem dx_glTup {ds : List D} {vs : List He.Dv} (hg : Gl X x) (hm : X.mg x = some (.ref (He.ga X.K x))) (hb : tupM X.K x vs = true) (hr : flatDvs ds = some vs) (hd : (x == ("__debug__" : Str)) = false := by decide) : DX X e0 W (.Name x p) (sC (.tup ds)) :=
  PE.weak (pe_glob (v := .ref (He.ga X.K x)) hg hm rfl hd) fun σ H Q ⟨E, F, S, h⟩ => h (.ref (He.ga X.K x)) F H Grow.refl S (by
    obtain ⟨hb, hb2⟩ := Bool.and_eq_true_iff.mp hb
    simp only [Rep]
    refine ⟨_, _, rfl, ?_, repL_flat hr⟩
    rcases He.tupB_ok hb (fun _ => none) with z | ⟨o, its, n, z1, z2, z3⟩
    · rcases z with z | z
      · cases z
      · obtain ⟨_, z⟩ := z
        cases z
    · rw [z1] at hb2
      exact .inr ⟨o, its, n, z1, z2, Option.isNone_iff_eq_none.mp hb2, z3⟩)
end
end Dn

set_option Elab.async false
set_option linter.all false
set_option maxRecDepth 100000
set_option maxHeartbeats 4000000
namespace Dn
open PySem PySem.Spec L2
/-! ### what the head tells, with more facts -/
structure Ty (fa : List He.Fa) (fn : List He.DefD) (ex : PySem.W.Frag → Bool) (K : PySem.W.Frag) (mg : Str → Option Value) : Prop extends Tx fa fn K mg where
  more : ex K = true
section
variable {fa : List He.Fa} {fn : List He.DefD} {K : PySem.W.Frag} {mg : Str → Option Value} {x m f : Str}
theorem Tx.cls (T : Tx fa fn K mg) (i : Nat) (h : fa[i]? = some (.cls x) := by rfl) : Cls K (He.ga K x) := He.cls_ok (T.says.fact i h)
theorem Tx.noat (T : Tx fa fn K mg) (i : Nat) (h : fa[i]? = some (.noat x f) := by rfl) : NoAttr K (He.ga K x) f := He.noat_ok (T.says.fact i h)
theorem Tx.meth (T : Tx fa fn K mg) (i : Nat) (h : fa[i]? = some (.meth x m) := by rfl) : Meth K (He.ga K x) m (He.ma K (He.ga K x) m) := He.meth_ok (T.says.fact i h)
theorem Tx.mkr (T : Tx fa fn K mg) (i : Nat) (h : fa[i]? = some (.mkr x) := by rfl) : Mk K (He.ga K x) (He.ma K (He.ga K x) "__init__") := He.mkr_ok (T.says.fact i h)
theorem Tx.exc (T : Tx fa fn K mg) (i : Nat) (h : fa[i]? = some (.exc x) := by rfl) : PySem.W.excIn K (He.ga K x) He.veBase "ValueError.__new__" = true ∧ PySem.W.keepIn K (.ref (He.ga K x)) = true ∧ PySem.W.subIn K (.ref (He.ga K x)) (.type "BaseException") = some true ∧
    PySem.W.typeIn K (.ref (He.ga K x)) = some (.type "type") := He.exc_ok (T.says.fact i h)
theorem Tx.exm (T : Tx fa fn K mg) (i : Nat) {y : Str} {b : Bool} (h : fa[i]? = some (.exm x y b) := by rfl) : PySem.W.exmOne K (.ref (He.ga K x)) (.ref (He.ga K y)) = some b := He.exm_ok (T.says.fact i h)
theorem Tx.keep (T : Tx fa fn K mg) (i : Nat) (h : fa[i]? = some (.keep x) := by rfl) : PySem.W.keepIn K (.ref (He.ga K x)) = true := He.keep_ok (T.says.fact i h)
theorem Tx.int (T : Tx fa fn K mg) (i : Nat) {v : Int} (h : fa[i]? = some (.int x v) := by rfl) : ∃ t, mg x = some (.int v t) :=
  let ⟨_, X, G⟩ := T.at_
  He.int_ok X G (T.says.fact i h)
theorem Tx.str (T : Tx fa fn K mg) (i : Nat) {v : Str} (h : fa[i]? = some (.str x v) := by rfl) : ∃ t, mg x = some (.str v t) :=
  let ⟨_, X, G⟩ := T.at_
  He.str_ok X G (T.says.fact i h)
end
/-- a method; an __init__ -/
def GdM (P : Program) (w : World) (K : PySem.W.Frag) (mg : Str → Option Value) (base : Heap) (c : Nat) (m : Str) (k : Nat) (f : Fn) : Prop :=
  ∃ (g : Addr) (fd : FuncData) (ps : List Str), Cls K (He.ga K (clsName c)) ∧ Meth K (He.ga K (clsName c)) m g ∧ FnOk P w K mg base (L2.CX P w) k g fd ps (spP K f) ∧ Binds K fd ps [] ∧ (clsFlds c).contains m = false
def GdI (P : Program) (w : World) (K : PySem.W.Frag) (mg : Str → Option Value) (base : Heap) (c k : Nat) (f : FnI) : Prop :=
  ∃ (g : Addr) (fd : FuncData) (ps : List Str), Mk K (He.ga K (clsName c)) g ∧ FnOk P w K mg base (L2.CX P w) k g fd ps (spI K c f) ∧ mg (clsName c) = some (.ref (He.ga K (clsName c))) ∧ Binds K fd ps []
section
variable {X : Cx} {c k i : Nat} {m x : Str} {f : Fn}
theorem GdM.good (G : GdM X.prog X.w X.K X.mg X.base c m k f) (hr : Room k X.A) : MtOk X c m f :=
  let ⟨g, fd, ps, h1, h2, h3, h4, h5⟩ := G
  ⟨h1, fun _ => zip_no h5, k, g, fd, ps, h2, h3, hr, h4⟩
theorem GdI.good {f : FnI} (G : GdI X.prog X.w X.K X.mg X.base c k f) (hr : Room (k + 1) X.A) : MkOk X (clsName c) c f :=
  let ⟨g, fd, ps, h1, h2, h3, h4⟩ := G
  ⟨k, g, fd, ps, h1, h2, hr, h3, h4⟩
theorem MtTab.nil : MtTab X m [] := fun _ _ h => by cases h
theorem MtTab.cons {tab : List (Nat × Fn)} (G : MtOk X c m f) (T : MtTab X m tab) : MtTab X m ((c, f) :: tab) := fun c' f' h => by
  rw [List.lookup_cons] at h
  by_cases e : c' = c
  · subst e
    simp only [beq_self_eq_true] at h
    cases h
    exact G
  · rw [beq_eq_false_iff_ne.mpr e] at h
    exact T c' f' h
variable {K : PySem.W.Frag}
theorem FldOk.nil : FldOk K x [] := ⟨fun _ _ h => by cases h⟩
theorem FldOk.cons {tab : List (Nat × Nat)} (h1 : Cls K (He.ga K (clsName c))) (h2 : NoAttr K (He.ga K (clsName c)) x) (h3 : (clsFlds c).findIdx (· == x) = i) (h4 : i < (clsFlds c).length) (T : FldOk K x tab) : FldOk K x ((c, i) :: tab) := ⟨fun c' i' h => by
  rw [List.lookup_cons] at h
  by_cases e : c' = c
  · subst e
    simp only [beq_self_eq_true] at h
    cases h
    exact ⟨h1, h2, h3, h4⟩
  · rw [beq_eq_false_iff_ne.mpr e] at h
    exact T.ok c' i' h⟩
end
end Dn

set_option Elab.async false
set_option linter.all false
set_option maxRecDepth 100000
set_option maxHeartbeats 4000000
namespace Dn
open PySem PySem.Spec L2
/-! ### tuple.index, whole numbers and texts -/
def intsOf : List D → Option (List Int)
  | [] => some []
  | .int i :: r => (intsOf r).map (i :: ·)
  | _ => none
def oIndexT (xs : List D) (y : D) : Option D := match y with
  | .int k => (intsOf xs).bind fun ns => if ns.contains k = true then some (.int (ns.idxOf k : Nat)) else none
  | _ => none
/-- T.index(y), T a tuple of whole numbers of the module -/
def sIndexC (ns : List Int) (b : Se) : Se := fun E => (b E).bind fun y E1 => match y with
  | .int k => if ns.contains k = true then .ok (.int (ns.idxOf k : Nat)) E1 else .bad
  | _ => .bad
def tupN (K : PySem.W.Frag) (x : Str) (ns : List Int) : Bool := He.tupB K x (ns.map .int) && match K.lookup (He.ga K x) with
  | some o => (match o.cls with
    | .type c => decide (c = "tuple")
    | _ => false) && o.dict.isNone
  | none => false
theorem tupN_ok {K : PySem.W.Frag} {x : Str} {ns : List Int} (h : tupN K x ns = true) : He.tupB K x (ns.map .int) = true ∧ ∃ o, K.lookup (He.ga K x) = some o ∧ o.cls = .type "tuple" ∧ o.dict = none := by
  unfold tupN at h
  obtain ⟨h1, h2⟩ := He.ba h
  refine ⟨h1, ?_⟩
  cases q : K.lookup (He.ga K x) with
  | none => rw [q] at h2; cases h2
  | some o =>
    rw [q] at h2
    obtain ⟨h3, h4⟩ := He.ba h2
    refine ⟨o, rfl, ?_, Option.isNone_iff_eq_none.mp h4⟩
    cases z : o.cls with
    | type c =>
      rw [z] at h3
      rw [of_decide_eq_true h3]
    | _ => rw [z] at h3; cases h3
theorem repL_intsOf {K : PySem.W.Frag} {F : Hp} : ∀ {xs : List D} {ns : List Int} {vs : List V}, intsOf xs = some ns → RepL K F xs vs → vs = ns.map V.int
  | [], ns, vs, h, r => by
    simp only [intsOf, Option.some.injEq] at h
    subst h
    simpa [RepL] using r
  | .int i :: xs, ns, vs, h, r => by
    simp only [intsOf] at h
    obtain ⟨ms, h1, rfl⟩ := Option.map_eq_some_iff.mp h
    simp only [RepL] at r
    obtain ⟨v, ws, rfl, h2, h3⟩ := r
    simp only [Rep] at h2
    rw [h2, repL_intsOf h1 h3]
    rfl
  | .non :: _, _, _, h, _ => by simp [intsOf] at h
  | .bl _ :: _, _, _, h, _ => by simp [intsOf] at h
  | .str _ :: _, _, _, h, _ => by simp [intsOf] at h
  | .tup _ :: _, _, _, h, _ => by simp [intsOf] at h
  | .lst _ :: _, _, _, h, _ => by simp [intsOf] at h
  | .ins _ _ :: _, _, _, h, _ => by simp [intsOf] at h
  | .scr _ :: _, _, _, h, _ => by simp [intsOf] at h
def rIxT (K : PySem.W.Frag) : V → List V → Hp → VK → Prop := fun x xs H Q => ∃ (a : Addr) (ns : List Int) (k : Int), x = .ref a ∧ xs = [.int k] ∧ SqT K H a (ns.map V.int) ∧ k ∈ ns ∧ Q (.int (ns.idxOf k : Nat)) H
theorem mt_ixT {X : Cx} : MtR X "tuple.index" (rIxT X.K) := by
  intro pins s σ H x xs v us Q I rx rxs h
  obtain ⟨a, ns, k, rfl, rfl, hs, hk, q⟩ := h
  cases rx
  cases rxs with
  | cons ry rt =>
    cases rt
    obtain ⟨t, rfl⟩ := ry
    obtain ⟨its, rv, ht, _⟩ := I.tuple hs
    exact SeqAt.tuple_index_ints (vs := its) (show s.heap.IsTuple a its.toArray from ht) rv.ints hk ⟨.int (ns.idxOf k : Nat), H, I.tok _, ⟨_, rfl⟩, q⟩
section
variable {X : Cx} {e0 : E0} {W : WX} {a b : Expr} {fa fb : Se} {pos p p2 : Pos} {K : PySem.W.Frag} {F H : Hp}
theorem dx_indexC {x : Str} {ns : List Int} {apos cpos : Pos} (hg : Gl X x) (hm : X.mg x = some (.ref (He.ga X.K x))) (hT : tupN X.K x ns = true) (hb : DX X e0 W b fb) (hd : (x == ("__debug__" : Str)) = false := by decide)
    (hbase : attributeBase (.Name x p) "index" X.env (eval (.Name x p) X.env) = eval (.Name x p) X.env := by rfl)
    (hfew : ((backTo cpos (starEach [b] X.env)).all (fun x => !x.1) && (backToKw cpos (keywordEach [] X.env)).all (fun x => x.1.isSome)
      && decide ([b].length + ([] : List Keyword).length + (if ([] : List Keyword).isEmpty then 0 else 1) < 30)) = true := by rfl)
    (hline : (apos.endLine == cpos.line) = true := by rfl) (hs : starEach [b] X.env = (false, eval b X.env) :: starEach [] X.env := by rfl) :
    DX X e0 W (.Call (.Attribute (.Name x p) "index" apos) [b] [] cpos) (sIndexC ns fb) := by
  obtain ⟨t1, o, t2, t3, t4⟩ := tupN_ok hT
  refine PE.weak (pe_bm PySem.F.plainAttrs_tuple PySem.F.slot_tuple_index PySem.F.type_tuple_index mt_ixT (pe_glob (v := .ref (He.ga X.K x)) hg hm rfl hd) (pa_cons hb pa_nil hs) hbase hfew hline hs rfl) fun σ H Q ⟨E, F, S, h⟩ => ?_
  refine ⟨.inr (.inl ⟨rfl, o, t2, t3, t4⟩), rdG_intro S (h.bind fun y u E2 F2 H2 G2 S2 R2 h2 => ?_)⟩
  cases y with
  | int k =>
    by_cases hk : ns.contains k = true
    · simp only [if_pos hk] at h2
      simp only [Rep] at R2
      subst R2
      have e : (ns.map He.Dv.int).map (He.Dv.v X.K) = ns.map V.int := by rw [List.map_map]; rfl
      exact ⟨_, ns, k, rfl, rfl, e ▸ He.tupB_ok t1 H2, List.contains_iff_mem.mp hk, h2.fin0 S2 (by simp [Rep])⟩
    · simp only [if_neg hk] at h2
      exact h2.elim
  | _ => exact h2.elim
/-- what the heap says of a tuple without a dict -/
theorem tupAt_is {pins : List (Addr × Obj)} {σ : St} {H : Hp} {s : Shared} {a : Addr} {ys : List V} (I : Inv X pins σ H s) (h : TupAt X.K H a ys) : s.TypeIs (.ref a) "tuple" ∧ ∀ b, Value.ref a = .ref b → ∃ ob, s.heap.get? b = some ob ∧ ob.dict = none := by
  rcases h with ⟨ob, e, hd⟩ | ⟨o, its, n, e, hc, hd, _⟩
  · obtain ⟨g, _, us, _, o2, g2, hc, _⟩ := I.hok a _ e
    rw [g] at g2
    cases g2
    exact ⟨⟨ob, g, hc⟩, fun b z => by cases z; exact ⟨ob, g, hd⟩⟩
  · have g := I.kIn a o e
    exact ⟨⟨o, g, hc⟩, fun b z => by cases z; exact ⟨o, g, hd⟩⟩
/-- a method that lists and tuples have -/
def tBM2 (K : PySem.W.Frag) (r1 r2 : V → List V → Hp → VK → Prop) (to : TE) (t : TA) : TE := fun σ H Q => to σ H fun x H1 =>
  (tyV K "list" x H1 ∧ t σ H1 fun xs H2 => r1 x xs H2 Q) ∨ ((∃ a ys, x = .ref a ∧ TupAt K H1 a ys) ∧ t σ H1 fun xs H2 => r2 x xs H2 Q)
theorem pe_bm2 {name : Str} {i1 i2 : String} {r1 r2 : V → List V → Hp → VK → Prop} {to : TE} {t : TA} {o e : Expr} {es : List Expr} {apos cpos : Pos} (pa1 : PlainAttrs "list") (sl1 : Slot "list" name i1) (ty1 : typeOf (.builtin i1) = pure (.type "method_descriptor")) (m1 : MtR X i1 r1)
    (pa2 : PlainAttrs "tuple") (sl2 : Slot "tuple" name i2) (ty2 : typeOf (.builtin i2) = pure (.type "method_descriptor")) (m2 : MtR X i2 r2) (ho : PE X o to) (ha : PA X (e :: es) t)
    (hbase : attributeBase o name X.env (eval o X.env) = eval o X.env := by rfl)
    (hfew : ((backTo cpos (starEach (e :: es) X.env)).all (fun x => !x.1) && (backToKw cpos (keywordEach [] X.env)).all (fun x => x.1.isSome)
      && decide ((e :: es).length + ([] : List Keyword).length + (if ([] : List Keyword).isEmpty then 0 else 1) < 30)) = true := by rfl)
    (hline : (apos.endLine == cpos.line) = true := by rfl) (hs : starEach (e :: es) X.env = (false, eval e X.env) :: starEach es X.env := by rfl) (hpl : (backTo cpos (starEach es X.env)).any (·.1) = false := by rfl) :
    PE X (.Call (.Attribute o name apos) (e :: es) [] cpos) (tBM2 X.K r1 r2 to t) := ⟨fun pins s σ H Q I w => by
  refine wpAny_Call_method_late hbase hfew hline rfl (thn (ho.run pins s σ H _ I w) fun v s1 k => ?_)
  obtain ⟨x, H1, I1, rx, k⟩ := k
  have args : ∀ {id : String} {r : V → List V → Hp → VK → Prop}, MtR X id r → (t σ H1 fun xs H2 => r x xs H2 Q) → wpAny (model X.prog X.w) X.A (PySem.callWith cpos (.builtin id) [v] (backTo cpos (starEach (e :: es) X.env)) []) (EP X pins σ Q) X.xe s1 := fun {id r} m k => by
    have z := ha.run cpos pins s1 σ H1 _ I1 k
    rw [hs] at z ⊢
    refine PySem.Calls.callWith_builtin (by show (false || (backTo cpos (starEach es X.env)).any (·.1)) = false; rw [hpl] <;> rfl) (PySem.Calls.evalArgs_plain (thn z fun us s2 k2 => ?_))
    obtain ⟨vs, H2, I2, r2, k2⟩ := k2
    exact m pins s2 σ H2 x vs v us Q I2 rx r2 k2
  rcases k with ⟨ty, k⟩ | ⟨⟨a, ys, ex, ta⟩, k⟩
  · obtain ⟨h1, h2⟩ := tyV_is I1 rx ty
    exact ⟨_, _, pa1, sl1, ty1, h1, h2, args m1 k⟩
  · subst ex
    cases rx
    obtain ⟨h1, h2⟩ := tupAt_is I1 ta
    exact ⟨_, _, pa2, sl2, ty2, h1, h2, args m2 k⟩⟩
/-- x.index(y), x a list or a tuple -/
def sIndexA (a b : Se) : Se := fun E => (a E).bind fun x E1 => match x with
  | .lst xs => (b E1).bind fun y E2 => .opt (oIndex xs y) E2
  | .tup xs => (b E1).bind fun y E2 => .opt (oIndexT xs y) E2
  | _ => .bad
theorem dx_indexA {apos cpos : Pos} (ha : DX X e0 W a fa) (hb : DX X e0 W b fb) (hbase : attributeBase a "index" X.env (eval a X.env) = eval a X.env := by rfl)
    (hfew : ((backTo cpos (starEach [b] X.env)).all (fun x => !x.1) && (backToKw cpos (keywordEach [] X.env)).all (fun x => x.1.isSome)
      && decide ([b].length + ([] : List Keyword).length + (if ([] : List Keyword).isEmpty then 0 else 1) < 30)) = true := by rfl)
    (hline : (apos.endLine == cpos.line) = true := by rfl) (hs : starEach [b] X.env = (false, eval b X.env) :: starEach [] X.env := by rfl) :
    DX X e0 W (.Call (.Attribute a "index" apos) [b] [] cpos) (sIndexA fa fb) := by
  refine PE.weak (pe_bm2 PySem.F.plainAttrs_list PySem.F.slot_list_index PySem.F.type_list_index mt_index PySem.F.plainAttrs_tuple PySem.F.slot_tuple_index PySem.F.type_tuple_index mt_ixT ha (pa_cons hb pa_nil hs) hbase hfew hline hs) fun σ H Q ⟨E, F, S, h⟩ => ?_
  refine rdG_intro S (h.bind fun x v E1 F1 H1 G1 S1 R1 h1 => ?_)
  cases x with
  | lst xs =>
    simp only [Rep] at R1
    obtain ⟨q, vs, rfl, k1, r1⟩ := R1
    refine .inl ⟨.inl ⟨rfl, vs, seqL S1.sub (Evl.sq_of k1)⟩, rdG_intro S1 (h1.bind fun y w E2 F2 H2 G2 S2 R2 h2 => ?_)⟩
    obtain ⟨z, e, h3⟩ := h2.opt
    by_cases hf : flatD y = true ∧ xs.all flatD = true
    case neg =>
      rw [oIndex, if_neg hf] at e
      cases e
    rw [oIndex, if_pos hf] at e
    obtain ⟨j, ej, rfl⟩ := Option.map_eq_some_iff.mp e
    have r2 := RepL.mono G2.sF _ _ r1
    rw [List.findIdx?_eq_some_iff_getElem] at ej
    obtain ⟨hl, hj, hno⟩ := ej
    obtain ⟨u, hu, ru⟩ := r2.get (show xs[j]? = some xs[j] by simp [hl])
    have fz := List.all_eq_true.mp hf.2
    refine ⟨q, vs, w, j, u, rfl, rfl, seqL S2.sub (Evl.sq_of (G2.sF _ _ k1)), rep_flatD hf.1 R2, rep_flatL hf.2 r2, hu, ?_, fun m z' hm hz => ?_, h3.fin0 S2 (by simp [Rep])⟩
    · rw [← rep_eqF (fz _ (List.getElem_mem hl)) hf.1 ru R2]
      exact hj
    · obtain ⟨d', e', r'⟩ := r2.getV hz
      have hm' := (List.getElem?_eq_some_iff.mp e')
      obtain ⟨hml, hme⟩ := hm'
      rw [← rep_eqF (fz _ (List.mem_of_getElem? e')) hf.1 r' R2]
      have := hno m hm
      rw [hme] at this
      simpa using this
  | tup xs =>
    simp only [Rep] at R1
    obtain ⟨q, vs, rfl, k1, r1⟩ := R1
    refine .inr ⟨⟨q, vs, rfl, k1.mono S1.sub⟩, rdG_intro S1 (h1.bind fun y u E2 F2 H2 G2 S2 R2 h2 => ?_)⟩
    obtain ⟨z, e, h3⟩ := h2.opt
    unfold oIndexT at e
    split at e
    · rename_i k
      obtain ⟨ns, e1, e2⟩ := Option.bind_eq_some_iff.mp e
      split at e2
      · rename_i hk
        cases e2
        simp only [Rep] at R2
        subst R2
        have r2 := RepL.mono G2.sF _ _ r1
        have q2 := repL_intsOf e1 r2
        subst q2
        exact ⟨q, ns, k, rfl, rfl, seqT S2.sub (k1.mono G2.sF).sq, List.contains_iff_mem.mp hk, h3.fin0 S2 (by simp [Rep])⟩
      · cases e2
    · cases e
  | _ => exact h1.elim
end
end Dn

set_option Elab.async false
set_option linter.all false
set_option maxRecDepth 100000
set_option maxHeartbeats 4000000
namespace Dn
open PySem PySem.Spec L2
/-! ### loops and comprehensions, worked out -/
theorem sComp_map {α : Type} {t : Tg} {tst : SeB} {el : Se} {vs : List Nat} {E0 : Sto} {g : α → D} {y : α → D} : ∀ {items : List α},
    (∀ x ∈ items, ∃ E1 E2 E3, t (g x) E0 = some E1 ∧ tst E1 = .ok true E2 ∧ el E2 = .ok (y x) E3 ∧ wipeE E3 vs = E0) → sComp t tst el vs (items.map g) E0 = some (items.map y, E0)
  | [], _ => rfl
  | x :: items, h => by
    obtain ⟨E1, E2, E3, h1, h2, h3, h4⟩ := h x (by simp)
    have ih := sComp_map (items := items) fun z hz => h z (by simp [hz])
    simp only [List.map_cons, sComp, h1, h2, h3, h4, ih]
theorem sComp_filter {α : Type} {t : Tg} {tst : SeB} {el : Se} {vs : List Nat} {E0 : Sto} {g : α → D} {y : α → D} {k : α → Bool} : ∀ {items : List α},
    (∀ x ∈ items, ∃ E1 E2, t (g x) E0 = some E1 ∧ tst E1 = .ok (k x) E2 ∧ (k x = true → ∃ E3, el E2 = .ok (y x) E3 ∧ wipeE E3 vs = E0) ∧ (k x = false → wipeE E2 vs = E0)) → sComp t tst el vs (items.map g) E0 = some ((items.filter k).map y, E0)
  | [], _ => rfl
  | x :: items, h => by
    obtain ⟨E1, E2, h1, h2, h3, h4⟩ := h x (by simp)
    have ih := sComp_filter (items := items) fun z hz => h z (by simp [hz])
    cases hk : k x with
    | true =>
      obtain ⟨E3, h5, h6⟩ := h3 hk
      rw [hk] at h2
      simp only [List.map_cons, sComp, h1, h2, h5, h6, ih, List.filter_cons, hk, if_true]
    | false =>
      have h5 := h4 hk
      rw [hk] at h2
      simp only [List.map_cons, sComp, h1, h2, h5, ih, List.filter_cons, hk, Bool.false_eq_true, if_false]
theorem sLoop_rel {α σ : Type} {t : Tg} {b : Ss} {g : α → D} {st : σ → α → σ} {Inv : σ → Sto → Prop} : ∀ {items : List α} {s : σ} {E : Sto},
    (∀ x ∈ items, ∀ s E, Inv s E → ∃ E1 E2, t (g x) E = some E1 ∧ b E1 = .nx E2 ∧ Inv (st s x) E2) → Inv s E → ∃ E', sLoop t b (items.map g) E = .nx E' ∧ Inv (items.foldl st s) E'
  | [], s, E, _, h => ⟨E, rfl, h⟩
  | x :: items, s, E, hs, h => by
    obtain ⟨E1, E2, h1, h2, h3⟩ := hs x (by simp) s E h
    obtain ⟨E', h4, h5⟩ := sLoop_rel (items := items) (fun z hz => hs z (by simp [hz])) h3
    refine ⟨E', ?_, h5⟩
    simp only [List.map_cons, sLoop, h1, h2]
    exact h4
theorem ev_lc {f : SeL} {t : Tg} {tst : SeB} {el : Se} {vs : List Nat} {E E1 E2 : Sto} {items ys : List D} (h : f E = .ok items E1) (h2 : sComp t tst el vs items (wipeE E1 vs) = some (ys, E2)) (h3 : ys.length ≤ 1000000) : sLc f t tst el vs E = .ok ys E2 := by
  unfold sLc
  rw [h]
  show (match sComp t tst el vs items (wipeE E1 vs) with | some (ys, E2) => if ys.length ≤ 1000000 then Out.ok ys E2 else .bad | none => .bad) = _
  rw [h2]
  show (if ys.length ≤ 1000000 then Out.ok ys E2 else .bad) = _
  rw [if_pos h3]
theorem ev_ls {f : SeL} {E E1 : Sto} {ys : List D} (h : f E = .ok ys E1) : sLs f E = .ok (.lst ys) E1 := by
  unfold sLs
  rw [h]
  rfl
theorem ev_icall {o : List D → Option (List D)} {a : SeL} {E E1 : Sto} {xs ys : List D} (h : a E = .ok xs E1) (h2 : o xs = some ys) : iCall o a E = .ok ys E1 := by
  unfold iCall
  rw [h]
  show Out.opt (o xs) E1 = _
  rw [h2]
  rfl
theorem ev_iseq {a : Se} {E E1 : Sto} {x : D} {ys : List D} (h : a E = .ok x E1) (h2 : seqOf x = some ys) : iSeq a E = .ok ys E1 := by
  unfold iSeq
  rw [h]
  show Out.opt (seqOf x) E1 = _
  rw [h2]
  rfl
theorem es_for {f : SeL} {t : Tg} {b : Ss} {E E1 : Sto} {items : List D} (h : f E = .ok items E1) : sFor f t b E = sLoop t b items E1 := by
  unfold sFor
  rw [h]
  rfl
theorem es_retF {a : SeL} {E E1 : Sto} {ds : List D} (h : a E = .ok ds E1) : sRetF a E = .rt (.fr ds) E1 := by
  unfold sRetF
  rw [h]
  rfl
theorem es_drop {a : Se} {E E1 : Sto} {d : D} (h : a E = .ok d E1) : sDrop a E = .nx E1 := by
  unfold sDrop
  rw [h]
  rfl
theorem rng1_nat (n : Nat) (h : n < 1000000) : rng1O [.int n] = some ((List.range n).map fun k => .int (k : Nat)) := by
  have h1 : (-4611686018427387904 : Int) ≤ n ∧ (n : Int) < 4611686018427387904 := by omega
  simp only [rng1O, if_pos h1, Int.toNat_natCast]
/-- from the meaning of the body to the meaning of the def -/
theorem app_ret {n np : Nat} {b : Ss} {ds : List D} {r : Rv} {E : Sto} (hl : ds.length = np) (h : b (sto n ds) = .rt r E) : (mkFn n np b).app ds = .ok r := by
  simp only [Fn.app, mkFn, if_pos hl, h]
theorem app_next {n np : Nat} {b : Ss} {ds : List D} {E : Sto} (hl : ds.length = np) (h : b (sto n ds) = .nx E) : (mkFn n np b).app ds = .ok (.fz .non) := by
  simp only [Fn.app, mkFn, if_pos hl, h]
theorem ev_meth {tab : List (Nat × Fn)} {a : Se} {as : SeL} {E E1 E2 : Sto} {c : Nat} {xs ds : List D} {f : Fn} {d : D} (h : a E = .ok (.ins c xs) E1) (ht : tab.lookup c = some f) (h2 : as E1 = .ok ds E2) (h3 : f.app (.ins c xs :: ds) = .ok (.fz d)) : sMeth tab a as E = .ok d E2 := by
  unfold sMeth
  rw [h]
  show (match tab.lookup c with | some f => (as E1).bind fun ds E2 => rsOut (f.app (.ins c xs :: ds)) E2 | none => .bad) = _
  rw [ht]
  show (as E1).bind _ = _
  rw [h2]
  show rsOut (f.app (.ins c xs :: ds)) E2 = _
  rw [h3]
  rfl
end Dn

set_option Elab.async false
set_option linter.all false
set_option maxRecDepth 100000
set_option maxHeartbeats 4000000
namespace Dn
open PySem PySem.Spec L2
/-! ### any of a tuple of whole numbers -/
theorem reads_ints {h : Heap} : ∀ {its : List Value} {ns : List Int}, PyProof.Rows.IntsAre its ns → ReadsAll h its (ns.map PyData.int) []
  | _, _, .nil => .nil
  | _, _, .cons i t r => .cons (as := []) (bs := []) (.int i t) (reads_ints r)
theorem cr_anyT {X : Cx} (hc : X.calm = true) : CallR X (.builtin "any") (fun xs H Q => ∃ (a : Addr) (ns : List Int), xs = [.ref a] ∧ SqT X.K H a (ns.map V.int) ∧ Q (.bl (ns.any fun i => decide (i ≠ 0))) H) := by
  intro pins s σ H vs us Q I r h
  obtain ⟨a, ns, rfl, hs, q⟩ := h
  obtain ⟨its, rv, ht, _⟩ := I.tuple hs
  rw [Vals.ref1 r]
  refine PySem.W.any_tuple_data (xs := ns.map PyData.int) (as := []) (I.ok.hd hc) (show s.heap.IsTuple a its.toArray from ht) (by simpa using reads_ints rv.ints) ?_ ?_ fun h' tk hk => ?_
  · have : ∀ l : List Int, PyData.plainAll (l.map PyData.int) = true := fun l => by
      induction l with
      | nil => rfl
      | cons i l ih => exact ih
    exact this ns
  · intro x hx
    obtain ⟨i, _, rfl⟩ := List.mem_map.mp hx
    trivial
  refine ⟨.bl _, H, I.kept fun b o eo => hk b o eo, ?_, q⟩
  show Value.bool _ = Value.bool _
  congr 1
  rw [List.any_map]
  congr 1
  funext i
  show (i != 0) = decide (i ≠ 0)
  simp [bne, BEq.beq]
def oAnyT (xs : List D) : Option D := match xs with
  | [.tup ds] => (intsOf ds).map fun ns => .bl (ns.any fun i => decide (i ≠ 0))
  | _ => none
theorem cd_anyT {X : Cx} (hc : X.calm = true) : CallD X (.builtin "any") oAnyT := ⟨_, cr_anyT hc, fun xs z e F H vs Q s r k => by
  unfold oAnyT at e
  split at e
  · obtain ⟨ns, e1, rfl⟩ := Option.map_eq_some_iff.mp e
    simp only [RepL, Rep] at r
    obtain ⟨v, ws, rfl, ⟨a, us, rfl, h1, r1⟩, rfl⟩ := r
    have q := repL_intsOf e1 r1
    subst q
    exact ⟨a, ns, rfl, seqT s h1.sq, k _ F H (.refl s) (by simp [Rep])⟩
  · cases e⟩
theorem cr_anyL {X : Cx} (hc : X.calm = true) : CallR X (.builtin "any") (fun xs H Q => ∃ (a : Addr) (ns : List Int), xs = [.ref a] ∧ SqL X.K H a (ns.map V.int) ∧ Q (.bl (ns.any fun i => decide (i ≠ 0))) H) := by
  intro pins s σ H vs us Q I r h
  obtain ⟨a, ns, rfl, hs, q⟩ := h
  obtain ⟨its, rv, ht, _⟩ := I.list hs
  rw [Vals.ref1 r]
  refine PySem.W.any_list_data (xs := ns.map PyData.int) (as := []) (I.ok.hd hc) (show s.heap.IsList a its.toArray from ht.isList) (by simpa using reads_ints rv.ints) ?_ ?_ fun h' tk hk => ?_
  · have : ∀ l : List Int, PyData.plainAll (l.map PyData.int) = true := fun l => by
      induction l with
      | nil => rfl
      | cons i l ih => exact ih
    exact this ns
  · intro x hx
    obtain ⟨i, _, rfl⟩ := List.mem_map.mp hx
    trivial
  refine ⟨.bl _, H, I.kept fun b o eo => hk b o eo, ?_, q⟩
  show Value.bool _ = Value.bool _
  congr 1
  rw [List.any_map]
  congr 1
  funext i
  show (i != 0) = decide (i ≠ 0)
  simp [bne, BEq.beq]
def oAnyL (xs : List D) : Option D := match xs with
  | [.lst ds] => (intsOf ds).map fun ns => .bl (ns.any fun i => decide (i ≠ 0))
  | _ => none
theorem cd_anyL {X : Cx} (hc : X.calm = true) : CallD X (.builtin "any") oAnyL := ⟨_, cr_anyL hc, fun xs z e F H vs Q s r k => by
  unfold oAnyL at e
  split at e
  · obtain ⟨ns, e1, rfl⟩ := Option.map_eq_some_iff.mp e
    simp only [RepL, Rep] at r
    obtain ⟨v, ws, rfl, ⟨a, us, rfl, h1, r1⟩, rfl⟩ := r
    have q := repL_intsOf e1 r1
    subst q
    exact ⟨a, ns, rfl, seqL s (Evl.sq_of h1), k _ F H (.refl s) (by simp [Rep])⟩
  · cases e⟩
/-- any of a list of booleans, of a tuple or a list of whole numbers -/
def oAnyA (xs : List D) : Option D := ((oAny xs).or (oAnyT xs)).or (oAnyL xs)
theorem cd_anyA {X : Cx} (hc : X.calm = true) : CallD X (.builtin "any") oAnyA := ((cd_any hc).or (cd_anyT hc)).or (cd_anyL hc)
end Dn

set_option Elab.async false
set_option linter.all false
set_option maxRecDepth 100000
set_option maxHeartbeats 4000000
namespace Dn
open PySem PySem.Spec L2
/-! ### meanings worked out by rewriting -/
section
variable {α β γ : Type} {E : Sto} {a b c : Se} {ba bb : SeB} {g : SeL} {s t : Ss} {x y z d : D} {i j k : Nat} {xs ys ds cs : List D} {o : D → D → Option D} {o1 : D → Option D} {ol : List D → Option D} {of : List D → Option (List D)} {X : Xn} {f : Fn} {tg : Tg} {lo hi : Sto → Out (Option Int)} {sl : Sl}
/-- one of two -/
def cnd (b : Bool) (x y : α) : α := if b = true then x else y
theorem cnd_t (x y : α) : cnd true x y = x := by unfold cnd; simp
theorem cnd_f (x y : α) : cnd false x y = y := by unfold cnd; simp
def optM (o : Option α) (E : Sto) : Out α := Out.opt o E
theorem x_opt (v : α) : optM (some v) E = .ok v E := by unfold optM; simp
theorem x_c : sC d E = .ok d E := by unfold sC; simp
def varM (o : Option Sl) (i : Nat) (E : Sto) : Out D := match o with
  | some (.vl d) => .ok d E
  | some (.ow xs) => .ok (.lst xs) (E.set i (.vl (.lst xs)))
  | _ => .bad
theorem x_var : sVar i E = varM E[i]? i E := by unfold sVar varM; rfl
theorem x_varV : varM (some (.vl d)) i E = .ok d E := by unfold varM; simp
theorem x_varO : varM (some (.ow xs)) i E = .ok (.lst xs) (E.set i (.vl (.lst xs))) := by unfold varM; simp
def bin2M (r : Out D) (x : D) (o : D → D → Option D) : Out D := r.bind fun v E1 => optM (o x v) E1
theorem x_bin2O {v : D} {x : D} {o : D → D → Option D} : bin2M (.ok v E) x o = optM (o x v) E := by unfold bin2M; rfl
theorem x_bin2X {x : D} {o : D → D → Option D} : bin2M (.ex X E) x o = .ex X E := by unfold bin2M; rfl
def binM (r : Out D) (b : Se) (o : D → D → Option D) : Out D := r.bind fun v E1 => bin2M (b E1) v o
theorem x_bin : sBin o a b E = binM (a E) b o := by unfold binM; rfl
theorem x_binO {v : D} : binM (.ok v E) b o = bin2M (b E) v o := by unfold binM; rfl
theorem x_binX : binM (.ex X E) b o = .ex X E := by unfold binM; rfl
def unM (r : Out D) (o1 : D → Option D) : Out D := r.bind fun v E1 => optM (o1 v) E1
theorem x_un : sUn o1 a E = unM (a E) o1 := by unfold unM; rfl
theorem x_unO {v : D} : unM (.ok v E) o1 = optM (o1 v) E := by unfold unM; rfl
theorem x_unX : unM (.ex X E) o1 = .ex X E := by unfold unM; rfl
theorem x_nil : sNil E = .ok [] E := by unfold sNil; simp
def cons2M (r : Out (List D)) (x : D) : Out (List D) := r.bind fun v E1 => .ok (x :: v) E1
theorem x_cons2O {v : (List D)} {x : D} : cons2M (.ok v E) x = .ok (x :: v) E := by unfold cons2M; rfl
theorem x_cons2X {x : D} : cons2M (.ex X E) x = .ex X E := by unfold cons2M; rfl
def consM (r : Out D) (g : SeL) : Out (List D) := r.bind fun v E1 => cons2M (g E1) v
theorem x_cons : sCons a g E = consM (a E) g := by unfold consM; rfl
theorem x_consO {v : D} : consM (.ok v E) g = cons2M (g E) v := by unfold consM; rfl
theorem x_consX : consM (.ex X E) g = .ex X E := by unfold consM; rfl
def callM (r : Out (List D)) (ol : List D → Option D) : Out D := r.bind fun v E1 => optM (ol v) E1
theorem x_call : sCall ol g E = callM (g E) ol := by unfold callM; rfl
theorem x_callO {v : (List D)} : callM (.ok v E) ol = optM (ol v) E := by unfold callM; rfl
theorem x_callX : callM (.ex X E) ol = .ex X E := by unfold callM; rfl
def callFM (r : Out (List D)) (of : List D → Option (List D)) : Out (List D) := r.bind fun v E1 => optM (of v) E1
theorem x_callF : sCallF of g E = callFM (g E) of := by unfold callFM; rfl
theorem x_callFO {v : (List D)} : callFM (.ok v E) of = optM (of v) E := by unfold callFM; rfl
theorem x_callFX : callFM (.ex X E) of = .ex X E := by unfold callFM; rfl
theorem x_tup : sTup g E = callM (g E) sTupO := by unfold callM; rfl
theorem x_lst : sLst g E = callM (g E) sLstO := by unfold callM; rfl
def selE (k : Bool) (s t : Se) (E : Sto) : Out D := if k = true then s E else t E
theorem x_selEt {s t : Se} : selE true s t E = s E := by unfold selE; simp
theorem x_selEf {s t : Se} : selE false s t E = t E := by unfold selE; simp
def selB (k : Bool) (s t : SeB) (E : Sto) : Out Bool := if k = true then s E else t E
theorem x_selBt {s t : SeB} : selB true s t E = s E := by unfold selB; simp
theorem x_selBf {s t : SeB} : selB false s t E = t E := by unfold selB; simp
def selS (k : Bool) (s t : Ss) (E : Sto) : So := if k = true then s E else t E
theorem x_selSt {s t : Ss} : selS true s t E = s E := by unfold selS; simp
theorem x_selSf {s t : Ss} : selS false s t E = t E := by unfold selS; simp
def kB (b : Bool) : SeB := fun E => .ok b E
theorem x_kB : ∀ {q : Bool}, kB q E = .ok q E := by intro q; unfold kB; rfl
def ifM (r : Out Bool) (a : Se) (b : Se) : Out D := r.bind fun v E1 => selE v a b E1
theorem x_if : sIf ba a b E = ifM (ba E) a b := by unfold ifM; rfl
theorem x_ifO {v : Bool} : ifM (.ok v E) a b = selE v a b E := by unfold ifM; rfl
theorem x_ifX : ifM (.ex X E) a b = .ex X E := by unfold ifM; rfl
def kE (d : D) : Se := fun E => .ok d E
theorem x_kE : kE d E = .ok d E := by unfold kE; rfl
def andV (x : D) (b : Se) (E1 : Sto) : Out D := match x with
  | .bl true => b E1
  | .bl false => .ok (.bl false) E1
  | _ => .bad
def orV (x : D) (b : Se) (E1 : Sto) : Out D := match x with
  | .bl true => .ok (.bl true) E1
  | .bl false => b E1
  | _ => .bad
def andM (r : Out D) (b : Se) : Out D := r.bind fun v E1 => andV v b E1
theorem x_and : sAnd a b E = andM (a E) b := by unfold andM; rfl
theorem x_andO {v : D} : andM (.ok v E) b = andV v b E := by unfold andM; rfl
theorem x_andX : andM (.ex X E) b = .ex X E := by unfold andM; rfl
def orM (r : Out D) (b : Se) : Out D := r.bind fun v E1 => orV v b E1
theorem x_or : sOr a b E = orM (a E) b := by unfold orM; rfl
theorem x_orO {v : D} : orM (.ok v E) b = orV v b E := by unfold orM; rfl
theorem x_orX : orM (.ex X E) b = .ex X E := by unfold orM; rfl
theorem x_andV : ∀ {k : Bool}, andV (.bl k) b E = selE k b (kE (.bl false)) E := by intro k; unfold andV selE; cases k <;> simp [kE]
theorem x_orV : ∀ {k : Bool}, orV (.bl k) b E = selE k (kE (.bl true)) b E := by intro k; unfold orV selE; cases k <;> simp [kE]
def valV (x : D) (E1 : Sto) : Out Bool := match x with
  | .bl b => .ok b E1
  | _ => .bad
def bvalM (r : Out D)  : Out Bool := r.bind fun v E1 => valV v E1
theorem x_bval : bVal a E = bvalM (a E)  := by unfold bvalM; rfl
theorem x_bvalO {v : D} : bvalM (.ok v E)  = valV v E := by unfold bvalM; rfl
theorem x_bvalX : bvalM (.ex X E)  = .ex X E := by unfold bvalM; rfl
theorem x_valV : ∀ {k : Bool}, valV (.bl k) E = .ok k E := by intro k; unfold valV; rfl
def bandM (r : Out Bool) (bb : SeB) : Out Bool := r.bind fun v E1 => selB v bb (kB false) E1
theorem x_band : bAnd ba bb E = bandM (ba E) bb := by unfold bandM; rfl
theorem x_bandO {v : Bool} : bandM (.ok v E) bb = selB v bb (kB false) E := by unfold bandM; rfl
theorem x_bandX : bandM (.ex X E) bb = .ex X E := by unfold bandM; rfl
def borM (r : Out Bool) (bb : SeB) : Out Bool := r.bind fun v E1 => selB v (kB true) bb E1
theorem x_bor : bOr ba bb E = borM (ba E) bb := by unfold borM; rfl
theorem x_borO {v : Bool} : borM (.ok v E) bb = selB v (kB true) bb E := by unfold borM; rfl
theorem x_borX : borM (.ex X E) bb = .ex X E := by unfold borM; rfl
def bnotM (r : Out Bool)  : Out Bool := r.bind fun v E1 => .ok (!v) E1
theorem x_bnot : bNot ba E = bnotM (ba E)  := by unfold bnotM; rfl
theorem x_bnotO {v : Bool} : bnotM (.ok v E)  = .ok (!v) E := by unfold bnotM; rfl
theorem x_bnotX : bnotM (.ex X E)  = .ex X E := by unfold bnotM; rfl
theorem x_bYes : bYes E = .ok true E := by unfold bYes; simp
def fldV (x : D) (tab : List (Nat × Nat)) (E1 : Sto) : Out D := match x with
  | .ins c xs => (match tab.lookup c with
    | some i => optM xs[i]? E1
    | none => .bad)
  | _ => .bad
def fldM (r : Out D) (tb : List (Nat × Nat)) : Out D := r.bind fun v E1 => fldV v tb E1
theorem x_fld : sFld tb a E = fldM (a E) tb := by unfold fldM; rfl
theorem x_fldO {v : D} : fldM (.ok v E) tb = fldV v tb E := by unfold fldM; rfl
theorem x_fldX : fldM (.ex X E) tb = .ex X E := by unfold fldM; rfl
theorem x_fldV {c n : Nat} {tb : List (Nat × Nat)} : fldV (.ins c xs) ((c, n) :: tb) E = optM xs[n]? E := by
  unfold fldV; simp
theorem x_fldN {c c' n : Nat} {tb : List (Nat × Nat)} (h : (c == c') = false) : fldV (.ins c xs) ((c', n) :: tb) E = fldV (.ins c xs) tb E := by
  unfold fldV; simp only [List.lookup_cons, h]
def lsM (r : Out (List D)) : Out D := lstOf r
theorem x_ls : sLs g E = lsM (g E) := by unfold sLs lsM; rfl
theorem x_lsO : lsM (.ok xs E) = .ok (.lst xs) E := by unfold lsM lstOf; simp
def fnM (r : Out (List D)) (f : Fn) : Out D := r.bind fun v E1 => rsOut (f.app v) E1
theorem x_fn : sFn f g E = fnM (g E) f := by unfold fnM; rfl
theorem x_fnO {v : (List D)} : fnM (.ok v E) f = rsOut (f.app v) E := by unfold fnM; rfl
theorem x_fnX : fnM (.ex X E) f = .ex X E := by unfold fnM; rfl
def fnFM (r : Out (List D)) (f : Fn) : Out (List D) := r.bind fun v E1 => rsOutF (f.app v) E1
theorem x_fnF : sFnF f g E = fnFM (g E) f := by unfold fnFM; rfl
theorem x_fnFO {v : (List D)} : fnFM (.ok v E) f = rsOutF (f.app v) E := by unfold fnFM; rfl
theorem x_fnFX : fnFM (.ex X E) f = .ex X E := by unfold fnFM; rfl
theorem x_rsZ : rsOut (.ok (.fz d)) E = .ok d E := by unfold rsOut; simp
theorem x_rsR : rsOut (.ok (.fr ds)) E = .ok (.lst ds) E := by unfold rsOut; simp
theorem x_rsX : rsOut (.ex X) E = .ex X E := by unfold rsOut; simp
theorem x_rsF : rsOutF (.ok (.fr ds)) E = .ok ds E := by unfold rsOutF; simp
theorem x_rsFX : rsOutF (.ex X) E = .ex X E := by unfold rsOutF; simp
def methV (x : D) (tb : List (Nat × Fn)) (as : SeL) (E1 : Sto) : Out D := match x with
  | .ins c xs => (match tb.lookup c with
    | some f => (as E1).bind fun ds E2 => rsOut (f.app (.ins c xs :: ds)) E2
    | none => .bad)
  | _ => .bad
def meth2M (r : Out (List D)) (x : D) (f : Fn) : Out D := r.bind fun v E1 => rsOut (f.app (x :: v)) E1
theorem x_meth2O {v : (List D)} {x : D} {f : Fn} : meth2M (.ok v E) x f = rsOut (f.app (x :: v)) E := by unfold meth2M; rfl
theorem x_meth2X {x : D} {f : Fn} : meth2M (.ex X E) x f = .ex X E := by unfold meth2M; rfl
def methM (r : Out D) (tm : List (Nat × Fn)) (g : SeL) : Out D := r.bind fun v E1 => methV v tm g E1
theorem x_meth : sMeth tm a g E = methM (a E) tm g := by unfold methM; rfl
theorem x_methO {v : D} : methM (.ok v E) tm g = methV v tm g E := by unfold methM; rfl
theorem x_methX : methM (.ex X E) tm g = .ex X E := by unfold methM; rfl
theorem x_methV {c : Nat} {tm : List (Nat × Fn)} : methV (.ins c xs) ((c, f) :: tm) g E = meth2M (g E) (.ins c xs) f := by
  unfold methV meth2M; simp
theorem x_methN {c c' : Nat} {tm : List (Nat × Fn)} (h : (c == c') = false) : methV (.ins c xs) ((c', f) :: tm) g E = methV (.ins c xs) tm g E := by
  unfold methV; simp only [List.lookup_cons, h]
def icallM (r : Out (List D)) (of : List D → Option (List D)) : Out (List D) := r.bind fun v E1 => optM (of v) E1
theorem x_icall : iCall of g E = icallM (g E) of := by unfold icallM; rfl
theorem x_icallO {v : (List D)} : icallM (.ok v E) of = optM (of v) E := by unfold icallM; rfl
theorem x_icallX : icallM (.ex X E) of = .ex X E := by unfold icallM; rfl
def iseqM (r : Out D)  : Out (List D) := r.bind fun v E1 => optM (seqOf v) E1
theorem x_iseq : iSeq a E = iseqM (a E)  := by unfold iseqM; rfl
theorem x_iseqO {v : D} : iseqM (.ok v E)  = optM (seqOf v) E := by unfold iseqM; rfl
theorem x_iseqX : iseqM (.ex X E)  = .ex X E := by unfold iseqM; rfl
def lcV (o : Option (List D × Sto)) : Out (List D) := match o with
  | some (ys, E2) => if ys.length ≤ 1000000 then .ok ys E2 else .bad
  | none => .bad
variable {tst : SeB} {el : Se} {vs : List Nat}
def lcM (r : Out (List D)) (tg : Tg) (tst : SeB) (el : Se) (vs : List Nat) : Out (List D) := r.bind fun v E1 => lcV (sComp tg tst el vs v (wipeE E1 vs))
theorem x_lc : sLc g tg tst el vs E = lcM (g E) tg tst el vs := by unfold lcM; rfl
theorem x_lcO {v : (List D)} : lcM (.ok v E) tg tst el vs = lcV (sComp tg tst el vs v (wipeE E vs)) := by unfold lcM; rfl
theorem x_lcX : lcM (.ex X E) tg tst el vs = .ex X E := by unfold lcM; rfl
theorem x_lcV (h : xs.length ≤ 1000000) : lcV (some (xs, E)) = .ok xs E := by unfold lcV; simp [h]
theorem x_wipe0 : wipeE E [] = E := by unfold wipeE; rfl
theorem x_wipe1 : ∀ {v : Nat} {vs : List Nat}, wipeE E (v :: vs) = (wipeE E vs).set v .un := by intro v vs; rw [wipeE]
theorem x_gN : gN i d E = some (E.set i (.vl d)) := by unfold gN; rfl
theorem x_gTup : ∀ {u : Tgs}, gTup' u (.tup ds) E = u ds E := by intro u; unfold gTup'; rfl
theorem x_gNil : gNil' [] E = some E := by unfold gNil'; rfl
def gM (o : Option Sto) (u : Tgs) (ds : List D) : Option Sto := o.bind fun E1 => u ds E1
theorem x_gCons : ∀ {u : Tgs}, gCons' tg u (d :: ds) E = gM (tg d E) u ds := by intro u; unfold gCons' gM; rfl
theorem x_gM : ∀ {u : Tgs}, gM (some E) u ds = u ds E := by intro u; unfold gM; rfl
def sl3M (r : Out (Option Int)) (x : D) (l : Option Int) : Out D := r.bind fun v E1 => optM (slD x l v) E1
theorem x_sl3O {v : (Option Int)} {x : D} {l : Option Int} : sl3M (.ok v E) x l = optM (slD x l v) E := by unfold sl3M; rfl
theorem x_sl3X {x : D} {l : Option Int} : sl3M (.ex X E) x l = .ex X E := by unfold sl3M; rfl
def sl2M (r : Out (Option Int)) (x : D) (hi : Sto → Out (Option Int)) : Out D := r.bind fun v E1 => sl3M (hi E1) x v
theorem x_sl2O {v : (Option Int)} {x : D} {hi : Sto → Out (Option Int)} : sl2M (.ok v E) x hi = sl3M (hi E) x v := by unfold sl2M; rfl
theorem x_sl2X {x : D} {hi : Sto → Out (Option Int)} : sl2M (.ex X E) x hi = .ex X E := by unfold sl2M; rfl
def slM (r : Out D) (lo : Sto → Out (Option Int)) (hi : Sto → Out (Option Int)) : Out D := r.bind fun v E1 => sl2M (lo E1) v hi
theorem x_sl : sSl a lo hi E = slM (a E) lo hi := by unfold slM; rfl
theorem x_slO {v : D} : slM (.ok v E) lo hi = sl2M (lo E) v hi := by unfold slM; rfl
theorem x_slX : slM (.ex X E) lo hi = .ex X E := by unfold slM; rfl
theorem x_oNo : oNo E = .ok none E := by unfold oNo; rfl
def oSomeV (d : D) (E : Sto) : Out (Option Int) := match d with
  | .int i => .ok (some i) E
  | _ => .bad
def osM (r : Out D) : Out (Option Int) := r.bind fun v E1 => oSomeV v E1
theorem x_oSome : oSome a E = osM (a E) := by
  unfold oSome osM oSomeV
  congr
theorem x_osO : osM (.ok d E) = oSomeV d E := by unfold osM; rfl
theorem x_osX : osM (.ex X E) = .ex X E := by unfold osM; rfl
theorem x_oSomeV : ∀ {n : Int}, oSomeV (.int n) E = .ok (some n) E := by intro n; unfold oSomeV; rfl
def isiW (o : Option Bool) (E : Sto) : Out D := match o with
  | some b => .ok (.bl b) E
  | none => .bad
variable {ki : D → Option Bool}
def isiM (r : Out D) (ki : D → Option Bool) : Out D := r.bind fun v E1 => isiW (ki v) E1
theorem x_isi : sIsi ki a E = isiM (a E) ki := by
  unfold sIsi isiM isiW
  congr
theorem x_isiO : isiM (.ok d E) ki = isiW (ki d) E := by unfold isiM; rfl
theorem x_isiX : isiM (.ex X E) ki = .ex X E := by unfold isiM; rfl
theorem x_isiW {q : Bool} : isiW (some q) E = .ok (.bl q) E := by unfold isiW; rfl
variable {o2 : D → D → Option D}
def ch3M (r : Out D) (y : D) (o2 : D → D → Option D) : Out D := r.bind fun v E1 => optM (o2 y v) E1
theorem x_ch3O {v : D} {y : D} {o2 : D → D → Option D} : ch3M (.ok v E) y o2 = optM (o2 y v) E := by unfold ch3M; rfl
theorem x_ch3X {y : D} {o2 : D → D → Option D} : ch3M (.ex X E) y o2 = .ex X E := by unfold ch3M; rfl
def chV (r : Option D) (c : Se) (y : D) (o2 : D → D → Option D) (E2 : Sto) : Out D := match r with
  | some (.bl true) => ch3M (c E2) y o2
  | some (.bl false) => .ok (.bl false) E2
  | _ => .bad
theorem x_chVt : chV (some (.bl true)) c y o2 E = ch3M (c E) y o2 := by unfold chV; rfl
theorem x_chVf : chV (some (.bl false)) c y o2 E = .ok (.bl false) E := by unfold chV; rfl
def ch2M (r : Out D) (x : D) (c : Se) (o : D → D → Option D) (o2 : D → D → Option D) : Out D := r.bind fun v E1 => chV (o x v) c v o2 E1
theorem x_ch2O {v : D} {x : D} {c : Se} {o : D → D → Option D} {o2 : D → D → Option D} : ch2M (.ok v E) x c o o2 = chV (o x v) c v o2 E := by unfold ch2M; rfl
theorem x_ch2X {x : D} {c : Se} {o : D → D → Option D} {o2 : D → D → Option D} : ch2M (.ex X E) x c o o2 = .ex X E := by unfold ch2M; rfl
def chM (r : Out D) (b c : Se) (o o2 : D → D → Option D) : Out D := r.bind fun v E1 => ch2M (b E1) v c o o2
theorem x_chain : sChain o o2 a b c E = chM (a E) b c o o2 := by
  unfold sChain chM ch2M chV ch3M
  congr
theorem x_chO : chM (.ok x E) b c o o2 = ch2M (b E) x c o o2 := by unfold chM; rfl
theorem x_chX : chM (.ex X E) b c o o2 = .ex X E := by unfold chM; rfl
/-! owned lists -/
def celV (o : Option Sl) : Option (Sl × List D) := match o with
  | some s => (match s.cell with
    | some cs => some (s, cs)
    | none => none)
  | none => none
theorem x_cellAt : cellAt E i = celV E[i]? := by unfold cellAt celV; rfl
theorem x_celO : celV (some (.ow xs)) = some (.ow xs, xs) := by unfold celV; simp [Sl.cell]
theorem x_celS : celV (some (.st xs)) = some (.st xs, xs) := by unfold celV; simp [Sl.cell]
theorem x_putO : Sl.put (.ow xs) ys = .ow ys := by unfold Sl.put; rfl
theorem x_putS : Sl.put (.st xs) ys = .st ys := by unfold Sl.put; rfl
def lenV (o : Option (Sl × List D)) (E : Sto) : Out D := match o with
  | some (_, cs) => .ok (.int (cs.length : Nat)) E
  | none => .bad
theorem x_lenO : sLenO i E = lenV (cellAt E i) E := by unfold sLenO lenV; rfl
theorem x_lenV : lenV (some (sl, cs)) E = .ok (.int (cs.length : Nat)) E := by unfold lenV; rfl
def ixV2 (o : Option (Sl × List D)) (k : D) (E : Sto) : Out D := match o with
  | some (_, cs) => optM (oIx (.lst cs) k) E
  | none => .bad
def ix3M (r : Out D) (i : Nat) : Out D := r.bind fun v E1 => ixV2 (cellAt E1 i) v E1
theorem x_ix3O {v : D} {i : Nat} : ix3M (.ok v E) i = ixV2 (cellAt E i) v E := by unfold ix3M; rfl
theorem x_ix3X {i : Nat} : ix3M (.ex X E) i = .ex X E := by unfold ix3M; rfl
def ixV (o : Option (Sl × List D)) (i : Nat) (b : Se) (E : Sto) : Out D := match o with
  | none => .bad
  | some _ => ix3M (b E) i
theorem x_ixO : sIxO i b E = ixV (cellAt E i) i b E := by unfold sIxO ixV ix3M ixV2; rfl
theorem x_ixV : ixV (some (sl, cs)) i b E = ix3M (b E) i := by unfold ixV; rfl
theorem x_ixV2 : ixV2 (some (sl, cs)) d E = optM (oIx (.lst cs) d) E := by unfold ixV2; rfl
def inV2 (r : Option D) (E : Sto) : Out D := match r with
  | some (.bl b) => .ok (.bl b) E
  | _ => .bad
def inV (w : Option (Sl × List D)) (o : D → D → Option D) (x : D) (E : Sto) : Out D := match w with
  | some (_, cs) => inV2 (o x (.lst cs)) E
  | none => .bad
theorem x_inV2 : ∀ {q : Bool}, inV2 (some (.bl q)) E = .ok (.bl q) E := by intro q; unfold inV2; rfl
theorem x_inV : inV (some (sl, cs)) o x E = inV2 (o x (.lst cs)) E := by unfold inV; rfl
def inOM (r : Out D) (o : D → D → Option D) (i : Nat) : Out D := r.bind fun v E1 => inV (cellAt E1 i) o v E1
theorem x_inO : sInO o a i E = inOM (a E) o i := by
  unfold sInO inOM inV inV2
  congr
theorem x_inOO : inOM (.ok d E) o i = inV (cellAt E i) o d E := by unfold inOM; rfl
theorem x_inOX : inOM (.ex X E) o i = .ex X E := by unfold inOM; rfl
def tupV (o : Option (Sl × List D)) (E : Sto) : Out D := match o with
  | some (_, cs) => .ok (.tup cs) E
  | none => .bad
theorem x_tupO : sTupO' i E = tupV (cellAt E i) E := by unfold sTupO' tupV; rfl
theorem x_tupV : tupV (some (sl, cs)) E = .ok (.tup cs) E := by unfold tupV; rfl
def apV2 (o : Option (Sl × List D)) (d : D) (i : Nat) (E : Sto) : So := match o with
  | some (s, cs) => if cs.length < 1000000 then .nx (E.set i (s.put (cs ++ [d]))) else .bad
  | none => .bad
def ap3M (r : Out D) (i : Nat) : So := r.then fun v E1 => apV2 (cellAt E1 i) v i E1
theorem x_ap3O {v : D} {i : Nat} : ap3M (.ok v E) i = apV2 (cellAt E i) v i E := by unfold ap3M; rfl
theorem x_ap3X {i : Nat} : ap3M (.ex X E) i = .ex X E := by unfold ap3M; rfl
def apV (o : Option (Sl × List D)) (i : Nat) (a : Se) (E : Sto) : So := match o with
  | none => .bad
  | some _ => ap3M (a E) i
theorem x_append : sAppend i a E = apV (cellAt E i) i a E := by unfold sAppend apV ap3M apV2; rfl
theorem x_apV : apV (some (sl, cs)) i a E = ap3M (a E) i := by unfold apV; rfl
theorem x_apV2 (h : cs.length < 1000000) : apV2 (some (sl, cs)) d i E = .nx (E.set i (sl.put (cs ++ [d]))) := by unfold apV2; simp [h]
def siR (r : Option Nat) (d : D) (s : Sl) (cs : List D) (i : Nat) (E : Sto) : So := match r with
  | some n => .nx (E.set i (s.put (cs.set n d)))
  | none => .bad
def siK (k : D) (d : D) (s : Sl) (cs : List D) (i : Nat) (E : Sto) : So := match k with
  | .int j => siR (ixN cs.length j) d s cs i E
  | _ => .bad
def siV2 (o : Option (Sl × List D)) (k d : D) (i : Nat) (E : Sto) : So := match o with
  | some (s, cs) => siK k d s cs i E
  | none => .bad
def si3M (r : Out D) (d : D) (i : Nat) : So := r.then fun v E1 => siV2 (cellAt E1 i) v d i E1
theorem x_si3O {v : D} {d : D} {i : Nat} : si3M (.ok v E) d i = siV2 (cellAt E i) v d i E := by unfold si3M; rfl
theorem x_si3X {d : D} {i : Nat} : si3M (.ex X E) d i = .ex X E := by unfold si3M; rfl
def siV (o : Option (Sl × List D)) (fk : Se) (d : D) (i : Nat) (E : Sto) : So := match o with
  | none => .bad
  | some _ => si3M (fk E) d i
def siM (r : Out D) (fk : Se) (i : Nat) : So := r.then fun v E1 => siV (cellAt E1 i) fk v i E1
theorem x_ixSet {fk : Se} : sIxSet i fk a E = siM (a E) fk i := by
  unfold sIxSet siM siV si3M siV2 siK siR
  congr
  funext d E1
  cases cellAt E1 i with
  | none => rfl
  | some p =>
    show (fk E1).then _ = (fk E1).then _
    congr
    funext k E2
    cases cellAt E2 i with
    | none => rfl
    | some p => cases k <;> rfl
theorem x_siO {fk : Se} : siM (.ok d E) fk i = siV (cellAt E i) fk d i E := by unfold siM; rfl
theorem x_siX {fk : Se} : siM (.ex X E) fk i = .ex X E := by unfold siM; rfl
theorem x_siV {fk : Se} : siV (some (sl, cs)) fk d i E = si3M (fk E) d i := by unfold siV; rfl
theorem x_siV2 {kd : D} : siV2 (some (sl, cs)) kd d i E = siK kd d sl cs i E := by unfold siV2; rfl
theorem x_siK {n : Int} : siK (.int n) d sl cs i E = siR (ixN cs.length n) d sl cs i E := by unfold siK; rfl
theorem x_siR {n : Nat} : siR (some n) d sl cs i E = .nx (E.set i (sl.put (cs.set n d))) := by unfold siR; rfl
theorem x_ixNn {n m : Nat} (h : m < n) : ixN n (m : Int) = some m := by unfold ixN; rw [if_pos (by omega), if_pos (by omega)]; simp
theorem x_ixN0 {n : Nat} (h : 0 < n) : ixN n 0 = some 0 := x_ixNn (m := 0) h
theorem x_ixN1 {n : Nat} (h : 1 < n) : ixN n 1 = some 1 := x_ixNn (m := 1) h
theorem x_ixN2 {n : Nat} (h : 2 < n) : ixN n 2 = some 2 := x_ixNn (m := 2) h
def paR (r : Option D) (n : Nat) (s : Sl) (cs : List D) (i : Nat) (E : Sto) : Out D := match r with
  | some d => .ok d (E.set i (s.put (cs.eraseIdx n)))
  | none => .bad
def paN (r : Option Nat) (s : Sl) (cs : List D) (i : Nat) (E : Sto) : Out D := match r with
  | some n => paR cs[n]? n s cs i E
  | none => .bad
def paK (k : D) (s : Sl) (cs : List D) (i : Nat) (E : Sto) : Out D := match k with
  | .int j => if -1000000 ≤ j ∧ j ≤ 1000000 then paN (ixN cs.length j) s cs i E else .bad
  | _ => .bad
def paV2 (o : Option (Sl × List D)) (k : D) (i : Nat) (E : Sto) : Out D := match o with
  | some (s, cs) => paK k s cs i E
  | none => .bad
def pa3M (r : Out D) (i : Nat) : Out D := r.bind fun v E1 => paV2 (cellAt E1 i) v i E1
theorem x_pa3O {v : D} {i : Nat} : pa3M (.ok v E) i = paV2 (cellAt E i) v i E := by unfold pa3M; rfl
theorem x_pa3X {i : Nat} : pa3M (.ex X E) i = .ex X E := by unfold pa3M; rfl
def paV (o : Option (Sl × List D)) (i : Nat) (a : Se) (E : Sto) : Out D := match o with
  | none => .bad
  | some _ => pa3M (a E) i
theorem x_popAt : sPopAt i a E = paV (cellAt E i) i a E := by
  unfold sPopAt paV pa3M paV2 paK paN paR
  cases cellAt E i with
  | none => rfl
  | some p =>
    show (a E).bind _ = (a E).bind _
    congr
    funext k E2
    cases cellAt E2 i with
    | none => rfl
    | some p => cases k <;> rfl
theorem x_paV : paV (some (sl, cs)) i a E = pa3M (a E) i := by unfold paV; rfl
theorem x_paV2 {kd : D} : paV2 (some (sl, cs)) kd i E = paK kd sl cs i E := by unfold paV2; rfl
theorem x_paK {n : Int} (h : -1000000 ≤ n ∧ n ≤ 1000000) : paK (.int n) sl cs i E = paN (ixN cs.length n) sl cs i E := by unfold paK; simp [h]
theorem x_paN {n : Nat} : paN (some n) sl cs i E = paR cs[n]? n sl cs i E := by unfold paN; rfl
theorem x_paR {n : Nat} : paR (some d) n sl cs i E = .ok d (E.set i (sl.put (cs.eraseIdx n))) := by unfold paR; rfl
def f2R (r : Rs2) (s : Sl) (i : Nat) (E : Sto) : Out D := match r with
  | .ok (.fz d) cs' => .ok d (E.set i (s.put cs'))
  | .ok (.fr xs) cs' => .ok (.lst xs) (E.set i (s.put cs'))
  | .bad => .bad
def f2V2 (o : Option (Sl × List D)) (f : Fn2) (ds : List D) (i : Nat) (E : Sto) : Out D := match o with
  | some (s, cs) => f2R (f.app cs ds) s i E
  | none => .bad
def f23M (r : Out (List D)) (f2 : Fn2) (i : Nat) : Out D := r.bind fun v E1 => f2V2 (cellAt E1 i) f2 v i E1
theorem x_f23O {v : (List D)} {f2 : Fn2} {i : Nat} : f23M (.ok v E) f2 i = f2V2 (cellAt E i) f2 v i E := by unfold f23M; rfl
theorem x_f23X {f2 : Fn2} {i : Nat} : f23M (.ex X E) f2 i = .ex X E := by unfold f23M; rfl
def f2V (o : Option (Sl × List D)) (f2 : Fn2) (g : SeL) (i : Nat) (E : Sto) : Out D := match o with
  | none => .bad
  | some _ => f23M (g E) f2 i
theorem x_fn2 {f2 : Fn2} : sFn2 i f2 g E = f2V (cellAt E i) f2 g i E := by unfold sFn2 f2V f23M f2V2 f2R; rfl
theorem x_f2V {f2 : Fn2} : f2V (some (sl, cs)) f2 g i E = f23M (g E) f2 i := by unfold f2V; rfl
theorem x_f2V2 {f2 : Fn2} : f2V2 (some (sl, cs)) f2 ds i E = f2R (f2.app cs ds) sl i E := by unfold f2V2; rfl
theorem x_f2RZ : f2R (.ok (.fz d) cs) sl i E = .ok d (E.set i (sl.put cs)) := by unfold f2R; rfl
theorem x_f2RR : f2R (.ok (.fr xs) cs) sl i E = .ok (.lst xs) (E.set i (sl.put cs)) := by unfold f2R; rfl
variable {of2 : D → D → Option (List D)} {f2 : Fn2}
def binF2M (r : Out D) (x : D) (of2 : D → D → Option (List D)) : Out (List D) := r.bind fun v E1 => optM (of2 x v) E1
theorem x_binF2O {v : D} {x : D} {of2 : D → D → Option (List D)} : binF2M (.ok v E) x of2 = optM (of2 x v) E := by unfold binF2M; rfl
theorem x_binF2X {x : D} {of2 : D → D → Option (List D)} : binF2M (.ex X E) x of2 = .ex X E := by unfold binF2M; rfl
def binFM (r : Out D) (b : Se) (of2 : D → D → Option (List D)) : Out (List D) := r.bind fun v E1 => binF2M (b E1) v of2
theorem x_binF : sBinF of2 a b E = binFM (a E) b of2 := by unfold binFM; rfl
theorem x_binFO {v : D} : binFM (.ok v E) b of2 = binF2M (b E) v of2 := by unfold binFM; rfl
theorem x_binFX : binFM (.ex X E) b of2 = .ex X E := by unfold binFM; rfl
def ixl2M (r : Out D) (xs : List D) : Out D := r.bind fun v E1 => optM (oIndex xs v) E1
theorem x_ixl2O {v : D} {xs : List D} : ixl2M (.ok v E) xs = optM (oIndex xs v) E := by unfold ixl2M; rfl
theorem x_ixl2X {xs : List D} : ixl2M (.ex X E) xs = .ex X E := by unfold ixl2M; rfl
def ixlV (x : D) (b : Se) (E1 : Sto) : Out D := match x with
  | .lst xs => ixl2M (b E1) xs
  | _ => .bad
def ixlM (r : Out D) (b : Se) : Out D := r.bind fun v E1 => ixlV v b E1
theorem x_index : sIndex a b E = ixlM (a E) b := by
  unfold sIndex ixlM ixlV ixl2M
  congr
theorem x_ixlO : ixlM (.ok d E) b = ixlV d b E := by unfold ixlM; rfl
theorem x_ixlX : ixlM (.ex X E) b = .ex X E := by unfold ixlM; rfl
theorem x_ixlV : ixlV (.lst xs) b E = ixl2M (b E) xs := by unfold ixlV; rfl
def ixt2M (r : Out D) (xs : List D) : Out D := r.bind fun v E1 => optM (oIndexT xs v) E1
theorem x_ixt2O {v : D} {xs : List D} : ixt2M (.ok v E) xs = optM (oIndexT xs v) E := by unfold ixt2M; rfl
theorem x_ixt2X {xs : List D} : ixt2M (.ex X E) xs = .ex X E := by unfold ixt2M; rfl
def ixaV (x : D) (b : Se) (E1 : Sto) : Out D := match x with
  | .lst xs => ixl2M (b E1) xs
  | .tup xs => ixt2M (b E1) xs
  | _ => .bad
def ixaM (r : Out D) (b : Se) : Out D := r.bind fun v E1 => ixaV v b E1
theorem x_indexA : sIndexA a b E = ixaM (a E) b := by
  unfold sIndexA ixaM ixaV ixl2M ixt2M
  congr
theorem x_ixaO : ixaM (.ok d E) b = ixaV d b E := by unfold ixaM; rfl
theorem x_ixaX : ixaM (.ex X E) b = .ex X E := by unfold ixaM; rfl
theorem x_ixaL : ixaV (.lst xs) b E = ixl2M (b E) xs := by unfold ixaV; rfl
theorem x_ixaT : ixaV (.tup xs) b E = ixt2M (b E) xs := by unfold ixaV; rfl
def tr1V (d : D) (E : Sto) : Out D := match d with
  | .int n => if -1000000 ≤ n ∧ n ≤ 1000000 then .ok (.tup ((List.range n.toNat).map fun k => .int (k : Nat))) E else .bad
  | _ => .bad
theorem x_tr1V {n : Int} (h : -1000000 ≤ n ∧ n ≤ 1000000) : tr1V (.int n) E = .ok (.tup ((List.range n.toNat).map fun k => .int (k : Nat))) E := by unfold tr1V; exact if_pos h
def tr1M (r : Out D) : Out D := r.bind fun v E1 => tr1V v E1
theorem x_tr1 : sTupRg1 a E = tr1M (a E) := by
  unfold sTupRg1 tr1M tr1V
  congr
theorem x_tr1O : tr1M (.ok d E) = tr1V d E := by unfold tr1M; rfl
theorem x_tr1X : tr1M (.ex X E) = .ex X E := by unfold tr1M; rfl
def f2RF (r : Rs2) (s : Sl) (i : Nat) (E : Sto) : Out (List D) := match r with
  | .ok (.fr xs) cs' => .ok xs (E.set i (s.put cs'))
  | _ => .bad
def f2W2 (o : Option (Sl × List D)) (f : Fn2) (ds : List D) (i : Nat) (E : Sto) : Out (List D) := match o with
  | some (s, cs) => f2RF (f.app cs ds) s i E
  | none => .bad
def f24M (r : Out (List D)) (f2 : Fn2) (i : Nat) : Out (List D) := r.bind fun v E1 => f2W2 (cellAt E1 i) f2 v i E1
theorem x_f24O {v : (List D)} {f2 : Fn2} {i : Nat} : f24M (.ok v E) f2 i = f2W2 (cellAt E i) f2 v i E := by unfold f24M; rfl
theorem x_f24X {f2 : Fn2} {i : Nat} : f24M (.ex X E) f2 i = .ex X E := by unfold f24M; rfl
def f2W (o : Option (Sl × List D)) (f2 : Fn2) (g : SeL) (i : Nat) (E : Sto) : Out (List D) := match o with
  | none => .bad
  | some _ => f24M (g E) f2 i
theorem x_fn2F : sFn2F i f2 g E = f2W (cellAt E i) f2 g i E := by
  unfold sFn2F f2W f24M f2W2 f2RF
  cases cellAt E i with
  | none => rfl
  | some p =>
    show (g E).bind _ = (g E).bind _
    congr
theorem x_f2W : f2W (some (sl, cs)) f2 g i E = f24M (g E) f2 i := by unfold f2W; rfl
theorem x_f2W2 : f2W2 (some (sl, cs)) f2 ds i E = f2RF (f2.app cs ds) sl i E := by unfold f2W2; rfl
theorem x_f2RFR : f2RF (.ok (.fr xs) cs) sl i E = .ok xs (E.set i (sl.put cs)) := by unfold f2RF; rfl
def wh2 (r : So) (c : SeB) (b : Ss) (n : Nat) : So := match r with
  | .nx E2 => sWhile c b n E2
  | .ct E2 => sWhile c b n E2
  | .bk E2 => .nx E2
  | r => r
def wh1 (r : Out Bool) (c : SeB) (b : Ss) (n : Nat) : So := match r with
  | .ok k E => if k = true then wh2 (b E) c b n else .nx E
  | .ex x E => .ex x E
  | .bad => .bad
variable {n : Nat}
theorem x_while : sWhile ba s (n + 1) E = wh1 (ba E) ba s n := by
  rw [sWhile]
  unfold wh1 wh2
  cases h : ba E with
  | ok k E1 => cases k <;> simp [h] <;> rfl
  | ex x E1 => simp [h]
  | bad => simp [h]
theorem x_wh1t : wh1 (.ok true E) ba s n = wh2 (s E) ba s n := by unfold wh1; simp
theorem x_wh1f : wh1 (.ok false E) ba s n = .nx E := by unfold wh1; simp
theorem x_wh2n : wh2 (.nx E) ba s n = sWhile ba s n E := by unfold wh2; rfl
theorem x_wh2r {r : Rv} : wh2 (.rt r E) ba s n = .rt r E := by unfold wh2; rfl
theorem x_wh2x : wh2 (.ex X E) ba s n = .ex X E := by unfold wh2; rfl
/-! statements -/
def seqM (r : So) (t : Ss) : So := match r with
  | .nx E1 => t E1
  | r => r
theorem x_seq : sSeq s t E = seqM (s E) t := by unfold sSeq seqM; rfl
theorem x_seqN : seqM (.nx E) t = t E := by unfold seqM; rfl
theorem x_seqR : ∀ {r : Rv}, seqM (.rt r E) t = .rt r E := by intro r; unfold seqM; rfl
theorem x_seqX : seqM (.ex X E) t = .ex X E := by unfold seqM; rfl
def setM (r : Out D) (i : Nat) : So := r.then fun v E1 => .nx (E1.set i (.vl v))
theorem x_set : sSet i a E = setM (a E) i := by unfold setM; rfl
theorem x_setO {v : D} : setM (.ok v E) i = .nx (E.set i (.vl v)) := by unfold setM; rfl
theorem x_setX : setM (.ex X E) i = .ex X E := by unfold setM; rfl
def ownM (r : Out (List D)) (i : Nat) : So := r.then fun v E1 => .nx (E1.set i (.ow v))
theorem x_own : sOwn i g E = ownM (g E) i := by unfold ownM; rfl
theorem x_ownO {v : (List D)} : ownM (.ok v E) i = .nx (E.set i (.ow v)) := by unfold ownM; rfl
theorem x_ownX : ownM (.ex X E) i = .ex X E := by unfold ownM; rfl
theorem x_next : sNext E = .nx E := by unfold sNext; rfl
def dropM (r : Out D)  : So := r.then fun v E1 => .nx E1
theorem x_drop : sDrop a E = dropM (a E)  := by unfold dropM; rfl
theorem x_dropO {v : D} : dropM (.ok v E)  = .nx E := by unfold dropM; rfl
theorem x_dropX : dropM (.ex X E)  = .ex X E := by unfold dropM; rfl
def retM (r : Out D)  : So := r.then fun v E1 => .rt (.fz v) E1
theorem x_ret : sRet a E = retM (a E)  := by unfold retM; rfl
theorem x_retO {v : D} : retM (.ok v E)  = .rt (.fz v) E := by unfold retM; rfl
theorem x_retX : retM (.ex X E)  = .ex X E := by unfold retM; rfl
def retFM (r : Out (List D))  : So := r.then fun v E1 => .rt (.fr v) E1
theorem x_retF : sRetF g E = retFM (g E)  := by unfold retFM; rfl
theorem x_retFO {v : (List D)} : retFM (.ok v E)  = .rt (.fr v) E := by unfold retFM; rfl
theorem x_retFX : retFM (.ex X E)  = .ex X E := by unfold retFM; rfl
theorem x_retN : sRetN E = .rt (.fz .non) E := by unfold sRetN; rfl
def condM (r : Out Bool) (s : Ss) (t : Ss) : So := r.then fun v E1 => selS v s t E1
theorem x_cond : sCond ba s t E = condM (ba E) s t := by unfold condM; rfl
theorem x_condO {v : Bool} : condM (.ok v E) s t = selS v s t E := by unfold condM; rfl
theorem x_condX : condM (.ex X E) s t = .ex X E := by unfold condM; rfl
def par2M (r : Out D) (x : D) (i : Nat) (j : Nat) : So := r.then fun v E1 => .nx ((E1.set i (.vl x)).set j (.vl v))
theorem x_par2O {v : D} {x : D} {i : Nat} {j : Nat} : par2M (.ok v E) x i j = .nx ((E.set i (.vl x)).set j (.vl v)) := by unfold par2M; rfl
theorem x_par2X {x : D} {i : Nat} {j : Nat} : par2M (.ex X E) x i j = .ex X E := by unfold par2M; rfl
def parM (r : Out D) (b : Se) (i : Nat) (j : Nat) : So := r.then fun v E1 => par2M (b E1) v i j
theorem x_par : sPar i j a b E = parM (a E) b i j := by unfold parM; rfl
theorem x_parO {v : D} : parM (.ok v E) b i j = par2M (b E) v i j := by unfold parM; rfl
theorem x_parX : parM (.ex X E) b i j = .ex X E := by unfold parM; rfl
def parCM (r : Out D) (x : D) (y : D) (i : Nat) (j : Nat) (k : Nat) : So := r.then fun v E1 => .nx (((E1.set i (.vl x)).set j (.vl y)).set k (.vl v))
theorem x_parCO {v : D} {x : D} {y : D} {i : Nat} {j : Nat} {k : Nat} : parCM (.ok v E) x y i j k = .nx (((E.set i (.vl x)).set j (.vl y)).set k (.vl v)) := by unfold parCM; rfl
theorem x_parCX {x : D} {y : D} {i : Nat} {j : Nat} {k : Nat} : parCM (.ex X E) x y i j k = .ex X E := by unfold parCM; rfl
def parBM (r : Out D) (x : D) (c : Se) (i : Nat) (j : Nat) (k : Nat) : So := r.then fun v E1 => parCM (c E1) x v i j k
theorem x_parBO {v : D} {x : D} {c : Se} {i : Nat} {j : Nat} {k : Nat} : parBM (.ok v E) x c i j k = parCM (c E) x v i j k := by unfold parBM; rfl
theorem x_parBX {x : D} {c : Se} {i : Nat} {j : Nat} {k : Nat} : parBM (.ex X E) x c i j k = .ex X E := by unfold parBM; rfl
def parAM (r : Out D) (b : Se) (c : Se) (i : Nat) (j : Nat) (k : Nat) : So := r.then fun v E1 => parBM (b E1) v c i j k
theorem x_parA : sPar3 i j k a b c E = parAM (a E) b c i j k := by unfold parAM; rfl
theorem x_parAO {v : D} : parAM (.ok v E) b c i j k = parBM (b E) v c i j k := by unfold parAM; rfl
theorem x_parAX : parAM (.ex X E) b c i j k = .ex X E := by unfold parAM; rfl
def asgV (o : Option Sto) : So := match o with
  | some E => .nx E
  | none => .bad
def asgM (r : Out D) (tg : Tg) : So := r.then fun v E1 => asgV (tg v E1)
theorem x_asg : sAsg tg a E = asgM (a E) tg := by
  unfold sAsg asgM asgV
  congr
theorem x_asgO : asgM (.ok d E) tg = asgV (tg d E) := by unfold asgM; rfl
theorem x_asgX : asgM (.ex X E) tg = .ex X E := by unfold asgM; rfl
theorem x_asgV : asgV (some E) = .nx E := by unfold asgV; rfl
def forM (r : Out (List D)) (tg : Tg) (s : Ss) : So := r.then fun v E1 => sLoop tg s v E1
theorem x_for : sFor g tg s E = forM (g E) tg s := by unfold forM; rfl
theorem x_forO {v : (List D)} : forM (.ok v E) tg s = sLoop tg s v E := by unfold forM; rfl
theorem x_forX : forM (.ex X E) tg s = .ex X E := by unfold forM; rfl
def ckV (xs : List D) (E : Sto) : Out (List D) := if xs.length ≤ 1000000 then .ok xs E else .bad
theorem x_ckV (h : xs.length ≤ 1000000) : ckV xs E = .ok xs E := by unfold ckV; simp [h]
def chkLenM (r : Out (List D))  : Out (List D) := r.bind fun v E1 => ckV v E1
theorem x_chkLen : chkLen g E = chkLenM (g E)  := by unfold chkLenM; rfl
theorem x_chkLenO {v : (List D)} : chkLenM (.ok v E)  = ckV v E := by unfold chkLenM; rfl
theorem x_chkLenX : chkLenM (.ex X E)  = .ex X E := by unfold chkLenM; rfl
def roV (o : Option Sl) (i : Nat) (E : Sto) : So := match o with
  | some (.ow cs) => .rt (.fr cs) (E.set i .un)
  | _ => .bad
theorem x_rowO : sRetO i E = roV E[i]? i E := by unfold sRetO roV; rfl
theorem x_roV : roV (some (.ow cs)) i E = .rt (.fr cs) (E.set i .un) := by unfold roV; rfl
theorem x_raise : sRaise k E = .ex ⟨k, []⟩ E := by unfold sRaise; rfl
def riM (c : Nat) (r : RsI) (E : Sto) : Out D := riOut c r E
variable {fi : FnI}
def makeM (r : Out (List D)) (k : Nat) (fi : FnI) : Out D := r.bind fun v E1 => riM k (fi.app v) E1
theorem x_make : sMake k fi g E = makeM (g E) k fi := by unfold makeM; rfl
theorem x_makeO {v : (List D)} : makeM (.ok v E) k fi = riM k (fi.app v) E := by unfold makeM; rfl
theorem x_makeX : makeM (.ex X E) k fi = .ex X E := by unfold makeM; rfl
theorem x_riO : riM k (.ok xs) E = .ok (.ins k xs) E := by unfold riM riOut; rfl
theorem x_riX : riM k (.ex X) E = .ex X E := by unfold riM riOut; rfl
end
/-! whole defs -/
section
variable {n np : Nat} {b : Ss} {ds cs : List D} {E : Sto}
def appV (r : So) : Rs := match r with
  | .rt r _ => .ok r
  | .nx _ => .ok (.fz .non)
  | .ex x _ => .ex x
  | _ => .bad
theorem x_app (h : ds.length = np) : (mkFn n np b).app ds = appV (b (sto n ds)) := by
  unfold Fn.app mkFn appV
  exact (if_pos h).trans rfl
theorem x_appR {r : Rv} : appV (.rt r E) = .ok r := by unfold appV; rfl
theorem x_appN : appV (.nx E) = .ok (.fz .non) := by unfold appV; rfl
theorem x_appX {x : Xn} : appV (.ex x E) = .ex x := by unfold appV; rfl
def ap2S (r : Option Sl) (v : Rv) : Rs2 := match r with
  | some (.st cs) => .ok v cs
  | _ => .bad
def app2V (r : So) : Rs2 := match r with
  | .rt r E => ap2S E[0]? r
  | .nx E => ap2S E[0]? (.fz .non)
  | _ => .bad
theorem x_app2 (h : ds.length = np) : (mkFn2 n np b).app cs ds = app2V (b (sto2 n cs ds)) := by 
  unfold Fn2.app mkFn2 app2V ap2S
  exact (if_pos h).trans rfl
theorem x_app2R {r : Rv} : app2V (.rt r E) = ap2S E[0]? r := by unfold app2V; rfl
theorem x_app2N : app2V (.nx E) = ap2S E[0]? (.fz .non) := by unfold app2V; rfl
theorem x_ap2S {v : Rv} : ap2S (some (.st cs)) v = .ok v cs := by unfold ap2S; rfl
theorem x_sto : sto n ds = ds.map .vl ++ List.replicate (n - ds.length) .un := by unfold sto; rfl
theorem x_sto2 : sto2 n cs ds = .st cs :: sto (n - 1) ds := by unfold sto2; rfl
end
/-! plain operations -/
section
variable {a b : Int} {xs ys : List D} {p q : Bool} {s t : Str}
theorem o_add : oAdd (.int a) (.int b) = some (.int (a + b)) := by simp [oAdd]
theorem o_addL (h : xs.length + ys.length ≤ 1000000) : oAdd (.lst xs) (.lst ys) = some (.lst (xs ++ ys)) := by simp [oAdd, h]
theorem o_addT (h : xs.length + ys.length ≤ 1000000) : oAdd (.tup xs) (.tup ys) = some (.tup (xs ++ ys)) := by simp [oAdd, h]
theorem o_sub : oSub (.int a) (.int b) = some (.int (a - b)) := by simp [oSub]
theorem o_mul (h : mulOk a b = true) : oMul (.int a) (.int b) = some (.int (a * b)) := by simp [oMul, h]
theorem o_mod (h : 0 < b) : oMod (.int a) (.int b) = some (.int (a % b)) := by simp [oMod, h]
theorem o_neg : oNeg (.int a) = some (.int (-a)) := by simp [oNeg]
theorem o_not : oNot (.bl p) = some (.bl (!p)) := by simp [oNot]
theorem o_lt : oLt (.int a) (.int b) = some (.bl (decide (a < b))) := by simp [oLt]
theorem o_le : oLe (.int a) (.int b) = some (.bl (decide (a ≤ b))) := by simp [oLe]
theorem o_gt : oGt (.int a) (.int b) = some (.bl (decide (b < a))) := by simp [oGt]
theorem o_ge : oGe (.int a) (.int b) = some (.bl (decide (b ≤ a))) := by simp [oGe]
theorem o_eq : oEq (.int a) (.int b) = some (.bl (decide (a = b))) := by simp [oEq, dEq, oEqS]
theorem o_ne : oNe (.int a) (.int b) = some (.bl (!decide (a = b))) := by simp [oNe, dEq, oEqS]
theorem o_eqB : oEq (.bl p) (.bl q) = some (.bl (decide (p = q))) := by simp [oEq, dEq, oEqS]
theorem o_neB : oNe (.bl p) (.bl q) = some (.bl (!decide (p = q))) := by simp [oNe, dEq, oEqS]
theorem o_eqN : oEq .non .non = some (.bl true) := by simp [oEq, dEq, oEqS]
theorem o_isB : oIs (.bl p) (.bl q) = some (.bl (decide (p = q))) := by simp [oIs]
theorem o_isNotB : oIsNot (.bl p) (.bl q) = some (.bl (!decide (p = q))) := by simp [oIsNot]
theorem o_lenL : oLen [.lst xs] = some (.int (xs.length : Nat)) := by simp [oLen]
theorem o_lenT : oLen [.tup xs] = some (.int (xs.length : Nat)) := by simp [oLen]
theorem o_int : oInt [.int a] = some (.int a) := by simp [oInt]
theorem o_intB : oInt [.bl p] = some (.int (if p then 1 else 0)) := by simp [oInt]
theorem o_tupL : oTuple [.lst xs] = some (.tup xs) := by simp [oTuple]
theorem o_tupT : oTuple [.tup xs] = some (.tup xs) := by simp [oTuple]
theorem o_listL : oList [.lst xs] = some xs := by simp [oList]
theorem o_listT : oList [.tup xs] = some xs := by simp [oList]
theorem o_seqL : seqOf (.lst xs) = some xs := by simp [seqOf]
theorem o_seqT : seqOf (.tup xs) = some xs := by simp [seqOf]
theorem o_tup (h : xs.length ≤ 1000000) : sTupO xs = some (.tup xs) := by simp [sTupO, h]
theorem o_lst (h : xs.length ≤ 1000000) : sLstO xs = some (.lst xs) := by simp [sLstO, h]
theorem o_zipL : zipO [.lst xs, .lst ys] = some ((xs.zip ys).map fun p => .tup [p.1, p.2]) := by simp [zipO]
theorem o_zipT : zipO [.tup xs, .tup ys] = some ((xs.zip ys).map fun p => .tup [p.1, p.2]) := by simp [zipO]
end
end Dn

set_option Elab.async false
set_option linter.all false
set_option maxRecDepth 100000
set_option maxHeartbeats 4000000
namespace Dn
open PySem PySem.Spec L2
/-! ### comprehensions and loops, by one step -/
def st3 (r : Out D) (vs : List Nat) : Option (Option D × Sto) := match r with
  | .ok y E3 => some (some y, wipeE E3 vs)
  | _ => none
def selO (k : Bool) (el : Se) (vs : List Nat) (E : Sto) : Option (Option D × Sto) := if k = true then st3 (el E) vs else some (none, wipeE E vs)
def st2 (r : Out Bool) (el : Se) (vs : List Nat) : Option (Option D × Sto) := match r with
  | .ok k E2 => selO k el vs E2
  | _ => none
def st1 (o : Option Sto) (tst : SeB) (el : Se) (vs : List Nat) : Option (Option D × Sto) := match o with
  | some E1 => st2 (tst E1) el vs
  | none => none
section
variable {t : Tg} {tst : SeB} {el : Se} {vs : List Nat} {E : Sto} {y : D} {k : Bool}
theorem x_st3 : st3 (.ok y E) vs = some (some y, wipeE E vs) := by unfold st3; rfl
theorem x_st2 : st2 (.ok k E) el vs = selO k el vs E := by unfold st2; rfl
theorem x_st1 : st1 (some E) tst el vs = st2 (tst E) el vs := by unfold st1; rfl
theorem x_selOt : selO true el vs E = st3 (el E) vs := by unfold selO; rfl
theorem x_selOf : selO false el vs E = some (none, wipeE E vs) := by unfold selO; rfl
theorem comp_cons {d : D} {ds : List D} {o : Option D} {E1 : Sto} (h : st1 (t d E) tst el vs = some (o, E1)) : sComp t tst el vs (d :: ds) E = (sComp t tst el vs ds E1).map fun p => (o.toList ++ p.1, p.2) := by
  rw [sComp]
  unfold st1 at h
  cases e1 : t d E with
  | none => rw [e1] at h; cases h
  | some E2 =>
    rw [e1] at h
    unfold st2 at h
    simp only at h ⊢
    cases e2 : tst E2 with
    | ok k E3 =>
      rw [e2] at h
      unfold selO at h
      cases k with
      | true =>
        simp only [if_true] at h ⊢
        unfold st3 at h
        cases e3 : el E3 with
        | ok y E4 =>
          rw [e3] at h
          simp only [Option.some.injEq, Prod.mk.injEq] at h ⊢
          obtain ⟨rfl, rfl⟩ := h
          cases sComp t tst el vs ds (wipeE E4 vs) with
          | none => rfl
          | some p => rfl
        | ex x E4 => rw [e3] at h; cases h
        | bad => rw [e3] at h; cases h
      | false =>
        simp only [Bool.false_eq_true, if_false, Option.some.injEq, Prod.mk.injEq] at h ⊢
        obtain ⟨rfl, rfl⟩ := h
        cases sComp t tst el vs ds (wipeE E3 vs) with
        | none => rfl
        | some p => rfl
    | ex x E3 => rw [e2] at h; cases h
    | bad => rw [e2] at h; cases h
theorem c_map {α : Type} {g : α → D} (y : α → D) {xs : List α} (h : ∀ x ∈ xs, st1 (t (g x) E) tst el vs = some (some (y x), E)) : sComp t tst el vs (xs.map g) E = some (xs.map y, E) := by
  induction xs with
  | nil => rfl
  | cons x xs ih =>
    rw [List.map_cons, comp_cons (h x (by simp)), ih fun z hz => h z (by simp [hz])]
    rfl
theorem c_filter {α : Type} {g : α → D} (k : α → Bool) (y : α → D) {xs : List α} (h1 : ∀ x ∈ xs, k x = true → st1 (t (g x) E) tst el vs = some (some (y x), E)) (h2 : ∀ x ∈ xs, k x = false → st1 (t (g x) E) tst el vs = some (none, E)) : sComp t tst el vs (xs.map g) E = some ((xs.filter k).map y, E) := by
  induction xs with
  | nil => rfl
  | cons x xs ih =>
    have ih := ih (fun z hz => h1 z (by simp [hz])) (fun z hz => h2 z (by simp [hz]))
    cases hk : k x with
    | true =>
      rw [List.map_cons, comp_cons (h1 x (by simp) hk), ih, List.filter_cons, if_pos hk]
      rfl
    | false =>
      rw [List.map_cons, comp_cons (h2 x (by simp) hk), ih, List.filter_cons, if_neg (by simp [hk])]
      rfl
/-- with a state that the items change -/
theorem c_thread {α σ : Type} {g : α → D} (st : σ → Sto) (y : σ → α → D × σ) {xs : List α} {s : σ} (I : σ → Prop) (hI : I s) (h : ∀ x ∈ xs, ∀ s, I s → st1 (t (g x) (st s)) tst el vs = some (some (y s x).1, st (y s x).2) ∧ I (y s x).2) : ∃ s', I s' ∧ ∃ ys : List D, ys.length = xs.length ∧ sComp t tst el vs (xs.map g) (st s) = some (ys, st s') := by
  induction xs generalizing s with
  | nil => exact ⟨s, hI, [], rfl, rfl⟩
  | cons x xs ih =>
    obtain ⟨e, i⟩ := h x (by simp) s hI
    obtain ⟨s', i', ys, l, e'⟩ := ih (s := (y s x).2) i fun z hz => h z (by simp [hz])
    refine ⟨s', i', (y s x).1 :: ys, by simp [l], ?_⟩
    rw [List.map_cons, comp_cons e, e']
    rfl
end
/-! loops -/
def lpB (r : So) : So := match r with
  | .ct E => .nx E
  | r => r
def lp1 (o : Option Sto) (b : Ss) : So := match o with
  | some E1 => lpB (b E1)
  | none => .bad
section
variable {t : Tg} {b : Ss} {E E1 : Sto}
theorem x_lp1 : lp1 (some E) b = lpB (b E) := by unfold lp1; rfl
theorem x_lpN : lpB (.nx E) = .nx E := by unfold lpB; rfl
theorem x_lpC : lpB (.ct E) = .nx E := by unfold lpB; rfl
theorem x_lpR {r : Rv} : lpB (.rt r E) = .rt r E := by unfold lpB; rfl
theorem x_lpX {x : Xn} : lpB (.ex x E) = .ex x E := by unfold lpB; rfl
theorem x_loop0 : sLoop t b [] E = .nx E := by unfold sLoop; rfl
theorem loop_cons {d : D} {ds : List D} (h : lp1 (t d E) b = .nx E1) : sLoop t b (d :: ds) E = sLoop t b ds E1 := by
  rw [sLoop]
  unfold lp1 at h
  cases e1 : t d E with
  | none => rw [e1] at h; cases h
  | some E2 =>
    rw [e1] at h
    simp only at h ⊢
    unfold lpB at h
    cases e2 : b E2 with
    | nx E3 => rw [e2] at h; cases h; simp only [e1, e2]
    | ct E3 => rw [e2] at h; cases h; simp only [e1, e2]
    | bk E3 => rw [e2] at h; cases h
    | rt r E3 => rw [e2] at h; cases h
    | ex x E3 => rw [e2] at h; cases h
    | bad => rw [e2] at h; cases h
theorem loop_ret {d : D} {ds : List D} {r : Rv} (h : lp1 (t d E) b = .rt r E1) : sLoop t b (d :: ds) E = .rt r E1 := by
  rw [sLoop]
  unfold lp1 at h
  cases e1 : t d E with
  | none => rw [e1] at h; cases h
  | some E2 =>
    rw [e1] at h
    simp only at h ⊢
    unfold lpB at h
    cases e2 : b E2 with
    | nx E3 => rw [e2] at h; cases h
    | ct E3 => rw [e2] at h; cases h
    | bk E3 => rw [e2] at h; cases h
    | rt r E3 => rw [e2] at h; cases h; simp only [e1, e2]
    | ex x E3 => rw [e2] at h; cases h
    | bad => rw [e2] at h; cases h
theorem loop_exc {d : D} {ds : List D} {r : Xn} (h : lp1 (t d E) b = .ex r E1) : sLoop t b (d :: ds) E = .ex r E1 := by
  rw [sLoop]
  unfold lp1 at h
  cases e1 : t d E with
  | none => rw [e1] at h; cases h
  | some E2 =>
    rw [e1] at h
    simp only at h ⊢
    unfold lpB at h
    cases e2 : b E2 with
    | nx E3 => rw [e2] at h; cases h
    | ct E3 => rw [e2] at h; cases h
    | bk E3 => rw [e2] at h; cases h
    | rt r E3 => rw [e2] at h; cases h
    | ex x E3 => rw [e2] at h; cases h; simp only [e1, e2]
    | bad => rw [e2] at h; cases h
/-- P: what holds of the store when the items up to an index are done -/
theorem loop_list {α : Type} {g : α → D} (P : Nat → Sto → Prop) {xs : List α} (h : ∀ (k : Nat) (hk : k < xs.length) (E : Sto), P k E → ∃ E2, lp1 (t (g xs[k]) E) b = .nx E2 ∧ P (k + 1) E2) (h0 : P 0 E) : ∃ E', sLoop t b (xs.map g) E = .nx E' ∧ P xs.length E' := by
  suffices H : ∀ n k E, n + k = xs.length → P k E → ∃ E', sLoop t b ((xs.drop k).map g) E = .nx E' ∧ P xs.length E' by
    simpa using H xs.length 0 E (by omega) h0
  intro n
  induction n with
  | zero =>
    intro k E e p
    rw [List.drop_eq_nil_of_le (by omega)]
    exact ⟨E, x_loop0, (show k = xs.length by omega) ▸ p⟩
  | succ n ih =>
    intro k E e p
    obtain ⟨E2, h1, h2⟩ := h k (by omega) E p
    obtain ⟨E', h3, h4⟩ := ih (k + 1) E2 (by omega) h2
    refine ⟨E', ?_, h4⟩
    rw [List.drop_eq_getElem_cons (by omega), List.map_cons, loop_cons h1]
    exact h3
theorem loop_rng {w : Nat} (P : Nat → Sto → Prop) (h : ∀ k, k < w → ∀ E, P k E → ∃ E2, lp1 (t (.int (k : Nat)) E) b = .nx E2 ∧ P (k + 1) E2) (h0 : P 0 E) : ∃ E', sLoop t b ((List.range w).map fun k => .int (k : Nat)) E = .nx E' ∧ P w E' := by
  have := loop_list (t := t) (b := b) (E := E) (g := fun k : Nat => D.int k) P (xs := List.range w) (fun k hk E p => by
    simpa using h k (by simpa using hk) E p) h0
  simpa using this
/-- a loop that leaves all but passing slots as it found them -/
theorem loop_same {α : Type} {g : α → D} (P : Sto → Prop) {xs : List α} (h : ∀ x ∈ xs, ∀ E, P E → ∃ E2, lp1 (t (g x) E) b = .nx E2 ∧ P E2) (h0 : P E) : ∃ E', sLoop t b (xs.map g) E = .nx E' ∧ P E' :=
  loop_list (fun _ => P) (fun k hk E p => h _ (List.getElem_mem hk) E p) h0
/-- a loop that looks at items until one is met: the first item that ends it -/
theorem loop_find {α : Type} {g : α → D} (P : Sto → Prop) (bad : α → Bool) (r : Rv) {xs : List α} (h : ∀ x ∈ xs, ∀ E, P E → bad x = false → ∃ E2, lp1 (t (g x) E) b = .nx E2 ∧ P E2) (h2 : ∀ x ∈ xs, ∀ E, P E → bad x = true → ∃ E2, lp1 (t (g x) E) b = .rt r E2) (h0 : P E) :
    (xs.any bad = false ∧ ∃ E', sLoop t b (xs.map g) E = .nx E' ∧ P E') ∨ (xs.any bad = true ∧ ∃ E', sLoop t b (xs.map g) E = .rt r E') := by
  induction xs generalizing E with
  | nil => exact .inl ⟨rfl, E, x_loop0, h0⟩
  | cons x xs ih =>
    cases hb : bad x with
    | true =>
      obtain ⟨E2, e⟩ := h2 x (by simp) E h0 hb
      exact .inr ⟨by simp [hb], E2, by rw [List.map_cons]; exact loop_ret e⟩
    | false =>
      obtain ⟨E2, e, p⟩ := h x (by simp) E h0 hb
      rcases ih (E := E2) (fun z hz => h z (by simp [hz])) (fun z hz => h2 z (by simp [hz])) p with ⟨a, E', e', p'⟩ | ⟨a, E', e'⟩
      · exact .inl ⟨by simp [hb, a], E', by rw [List.map_cons, loop_cons e]; exact e', p'⟩
      · exact .inr ⟨by simp [hb, a], E', by rw [List.map_cons, loop_cons e]; exact e'⟩
theorem o_rng {n : Int} {m : Nat} (e : n = (m : Int)) (h : m < 4611686018427387904) : rng1O [.int n] = some ((List.range m).map fun k => .int (k : Nat)) := by
  subst e
  have h1 : (-4611686018427387904 : Int) ≤ m ∧ (m : Int) < 4611686018427387904 := by omega
  simp only [rng1O, if_pos h1, Int.toNat_natCast]
end
end Dn
namespace Dn
open PySem PySem.Spec L2
/-! ### drawing -/
def drawN {α σ : Type} (f : σ → α × σ) : Nat → σ → List α × σ
  | 0, s => ([], s)
  | n + 1, s => let p := f s; let r := drawN f n p.2; (p.1 :: r.1, r.2)
theorem drawN_len {α σ : Type} (f : σ → α × σ) : ∀ n s, (drawN f n s).1.length = n
  | 0, _ => rfl
  | n + 1, s => by
    show (drawN f n (f s).2).1.length + 1 = _
    rw [drawN_len f n]
theorem drawN_all {α σ : Type} {f : σ → α × σ} {P : α → Prop} (h : ∀ s, P (f s).1) : ∀ n s, ∀ a ∈ (drawN f n s).1, P a
  | 0, _, a, m => by simp [drawN] at m
  | n + 1, s, a, m => by
    have m' : a ∈ (f s).1 :: (drawN f n (f s).2).1 := m
    rcases List.mem_cons.mp m' with rfl | m'
    · exact h s
    · exact drawN_all h n _ a m'
theorem c_draw {α β σ : Type} {t : Tg} {tst : SeB} {el : Se} {vs : List Nat} {g : β → D} (st : σ → Sto) (f : σ → α × σ) (y : α → D) (h : ∀ (x : β) s, st1 (t (g x) (st s)) tst el vs = some (some (y (f s).1), st (f s).2)) : ∀ (xs : List β) (s : σ), sComp t tst el vs (xs.map g) (st s) = some ((drawN f xs.length s).1.map y, st (drawN f xs.length s).2)
  | [], s => rfl
  | x :: xs, s => by
    rw [List.map_cons, comp_cons (h x s), c_draw st f y h xs]
    rfl
abbrev Rng := Int × Int
def rgD (p : Rng) : List D := [.int p.1, .int p.2]
def tk (p : Rng) (m : Nat) : Nat × Rng := if 0 < p.1 then ((p.1 % m).toNat, (p.1 / m, p.2)) else ((((p.2 * 48271 + 11) % 2147483647) / 7 % m).toNat, (p.1, (p.2 * 48271 + 11) % 2147483647))
theorem tk_lt (p : Rng) {m : Nat} (h : 0 < m) : (tk p m).1 < m := by
  unfold tk
  have hm : (0 : Int) < m := by omega
  split
  · have := Int.emod_lt_of_pos p.1 hm
    have := Int.emod_nonneg p.1 (b := (m : Int)) (by omega)
    show (p.1 % (m : Int)).toNat < m
    omega
  · have := Int.emod_lt_of_pos (((p.2 * 48271 + 11) % 2147483647) / 7) hm
    have := Int.emod_nonneg (((p.2 * 48271 + 11) % 2147483647) / 7) (b := (m : Int)) (by omega)
    show ((((p.2 * 48271 + 11) % 2147483647) / 7) % (m : Int)).toNat < m
    omega
theorem log2_small {n : Nat} (h : n < 2 ^ 64) : n.log2 < 9000 := by
  by_cases e : n = 0
  · subst e; decide
  · have := (Nat.log2_lt e).mpr h
    omega
theorem o_fdiv {a b : Int} (h : 0 < b ∧ b < 18446744073709551616) : oFdiv (.int a) (.int b) = some (.int (a / b)) := by
  have h2 : b.natAbs.log2 < 9000 := log2_small (by omega)
  simp only [oFdiv, h.1, h2, and_self, if_true]
theorem o_mulL {a b : Int} (h : -18446744073709551616 < a ∧ a < 18446744073709551616) : oMul (.int a) (.int b) = some (.int (a * b)) := o_mul (by simp only [mulOk, Int.reducePow, Int.reduceNeg, h.1, h.2, decide_true, Bool.and_self, Bool.true_or])
theorem o_mulR {a b : Int} (h : -18446744073709551616 < b ∧ b < 18446744073709551616) : oMul (.int a) (.int b) = some (.int (a * b)) := o_mul (by simp only [mulOk, Int.reducePow, Int.reduceNeg, h.1, h.2, decide_true, Bool.and_self, Bool.or_true])
theorem ix_n {xs : List D} {j : Nat} {d : D} (h : xs[j]? = some d) : oIx (.lst xs) (.int (j : Nat)) = some d := by
  have hj : j < xs.length := (List.getElem?_eq_some_iff.mp h).1
  show atI xs (j : Int) = some d
  unfold atI ixN
  rw [if_pos (by omega), if_pos (by omega)]
  simpa using h
theorem ix_nT {xs : List D} {j : Nat} {d : D} (h : xs[j]? = some d) : oIx (.tup xs) (.int (j : Nat)) = some d := ix_n (xs := xs) h
section
variable {x0 x1 x2 x3 : D} {xs : List D}
theorem ix_0 : oIx (.lst (x0 :: xs)) (.int 0) = some x0 := ix_n (j := 0) (by simp)
theorem ix_1 : oIx (.lst (x0 :: x1 :: xs)) (.int 1) = some x1 := ix_n (j := 1) (by simp)
theorem ix_2 : oIx (.lst (x0 :: x1 :: x2 :: xs)) (.int 2) = some x2 := ix_n (j := 2) (by simp)
theorem ix_0T : oIx (.tup (x0 :: xs)) (.int 0) = some x0 := ix_nT (j := 0) (by simp)
theorem ix_1T : oIx (.tup (x0 :: x1 :: xs)) (.int 1) = some x1 := ix_nT (j := 1) (by simp)
theorem ix_2T : oIx (.tup (x0 :: x1 :: x2 :: xs)) (.int 2) = some x2 := ix_nT (j := 2) (by simp)
end
end Dn
namespace Dn
open PySem PySem.Spec L2
/-! loops over written lists -/
def lp0 (o : Option Sto) (b : Ss) : So := match o with
  | some E1 => b E1
  | none => .bad
def lpK (r : So) (t : Tg) (b : Ss) (ds : List D) : So := match r with
  | .nx E => sLoop t b ds E
  | .ct E => sLoop t b ds E
  | .bk E => .nx E
  | r => r
section
variable {t : Tg} {b : Ss} {d : D} {ds : List D} {E : Sto}
theorem x_loopC : sLoop t b (d :: ds) E = lpK (lp0 (t d E) b) t b ds := by
  rw [sLoop]
  unfold lpK lp0
  cases h : t d E with
  | none => simp only [h]
  | some E1 => first | (simp only [h]; done) | (simp only [h]; cases b E1 <;> rfl)
theorem x_lp0 : lp0 (some E) b = b E := by unfold lp0; rfl
theorem x_lpKn : lpK (.nx E) t b ds = sLoop t b ds E := by unfold lpK; rfl
theorem x_lpKc : lpK (.ct E) t b ds = sLoop t b ds E := by unfold lpK; rfl
theorem x_lpKb : lpK (.bk E) t b ds = .nx E := by unfold lpK; rfl
theorem x_lpKr {r : Rv} : lpK (.rt r E) t b ds = .rt r E := by unfold lpK; rfl
theorem x_lpKx {x : Xn} : lpK (.ex x E) t b ds = .ex x E := by unfold lpK; rfl
end
end Dn
namespace Dn
open PySem PySem.Spec L2
theorem loop_fold {α σ : Type} {t : Tg} {b : Ss} {E : Sto} {g : α → D} (st : σ → Sto → Prop) (step : σ → α → σ) {xs : List α} {s0 : σ} (h : ∀ x ∈ xs, ∀ s E, st s E → ∃ E2, lp1 (t (g x) E) b = .nx E2 ∧ st (step s x) E2) (h0 : st s0 E) : ∃ E', sLoop t b (xs.map g) E = .nx E' ∧ st (xs.foldl step s0) E' := by
  induction xs generalizing s0 E with
  | nil => exact ⟨E, x_loop0, h0⟩
  | cons x xs ih =>
    obtain ⟨E2, h1, h2⟩ := h x (by simp) s0 E h0
    obtain ⟨E', h3, h4⟩ := ih (fun z hz => h z (by simp [hz])) h2
    exact ⟨E', by rw [List.map_cons, loop_cons h1]; exact h3, h4⟩
theorem o_zipTL {xs ys : List D} : zipO [.tup xs, .lst ys] = none := by simp [zipO]
theorem zip_items {α β : Type} {f : α → D} {g : β → D} {xs : List α} {ys : List β} : ((xs.map f).zip (ys.map g)).map (fun p => D.tup [p.1, p.2]) = (xs.zip ys).map fun z => D.tup [f z.1, g z.2] := by
  rw [List.zip_map, List.map_map]
  rfl
end Dn

set_option Elab.async false
set_option linter.all false
set_option maxRecDepth 100000
set_option maxHeartbeats 4000000
namespace Dn
open PySem PySem.Spec L2
/-! ### isinstance(x, (T, U)) -/
def isiK2 (T U : String) (d : D) : Option Bool := match isiK T d, isiK U d with
  | some a, some b => some (a || b)
  | _, _ => none
section
variable {X : Cx} {e0 : E0} {W : WX} {a : Expr} {fa : Se} {pos p p3 : Pos}
theorem dx_isi2 {T U : String} {x : Str} {e1 e2 : Expr} {k : Nat} (h1 : PE X e1 (tC (.ty T))) (h2 : PE X e2 (tC (.ty U))) (hg : Gl X x) (hm : X.mg x = none) (hv : bootBuiltins x = some (.builtin "isinstance")) (ha : DX X e0 W a fa) (hn : x ≠ "__name__" := by decide) (hdb : (x == ("__debug__" : Str)) = false := by decide)
    (s1 : starEach [e2] X.env = (false, eval e2 X.env) :: starEach [] X.env := by rfl) (s2 : starEach [e1, e2] X.env = (false, eval e1 X.env) :: starEach [e2] X.env := by rfl)
    (hs1 : starEach [.Tuple [e1, e2] k p3] X.env = (false, eval (.Tuple [e1, e2] k p3) X.env) :: starEach [] X.env := by rfl) (he : starEach [a, .Tuple [e1, e2] k p3] X.env = (false, eval a X.env) :: starEach [.Tuple [e1, e2] k p3] X.env := by rfl) (hpl : (backTo pos (starEach [.Tuple [e1, e2] k p3] X.env)).any (·.1) = false := by rfl) :
    DX X e0 W (.Call (.Name x p) [a, .Tuple [e1, e2] k p3] [] pos) (sIsi (isiK2 T U) fa) := by
  refine PE.weak (pe_callB call_isiT hg hm hv (pa_cons ha (pa_cons (pe_tup (pa_cons h1 (pa_cons h2 pa_nil s1) s2)) pa_nil hs1) he) hn hdb he hpl) fun σ H Q ⟨E, F, S, h⟩ => rdG_intro S (h.bind fun d v E1 F1 H1 G1 S1 R1 h1 => ?_)
  cases q : isiK2 T U d with
  | none =>
    simp only [q] at h1
    exact h1.elim
  | some b =>
    simp only [q] at h1
    unfold isiK2 at q
    split at q
    · rename_i b1 b2 q1 q2
      cases q
      obtain ⟨k1, k2, k3⟩ := (isi_ty (K := X.K) (T := T)).ok d b1 q1
      obtain ⟨k4, _, _⟩ := (isi_ty (K := X.K) (T := U)).ok d b2 q2
      refine ⟨by show 2 ≤ sizeLine; decide, fun t ht => ?_⟩
      have al : Alloc F1 H1 F1 (upd H1 t (.tup [.ty T, .ty U])) := .newH S1.sub ht
      refine ⟨v, t, [.ty T, .ty U], _, [.type T, .type U], b1 || b2, rfl, upd_same, .cons (.ty T) (.cons (.ty U) .nil), rep_ty al.sub R1 k2 k3, ?_, h1.fin S1 al (by simp [Rep])⟩
      refine kitAny_cons k1 (fun z => ?_) (fun z => by rw [z]; rfl)
      rw [z, Bool.false_or]
      exact kitAny_cons k4 (fun z => by rw [z]; exact kitAny_nil) (fun z => z)
    · cases q
end
/-! ### a matrix of own lists, made -/
def sCompF (t : Tg) (el : SeL) (vs : List Nat) : List D → Sto → Option (List (List D) × Sto)
  | [], E => some ([], E)
  | d :: ds, E => match t d E with
    | none => none
    | some E1 => (match el E1 with
      | .ok y E3 => (match sCompF t el vs ds (wipeE E3 vs) with
        | some (ys, E4) => some (y :: ys, E4)
        | none => none)
      | _ => none)
def sMx (i : Nat) (f : SeL) (t : Tg) (el : SeL) (vs : List Nat) : Ss := fun E => match f E with
  | .ok items E1 => (match sCompF t el vs items (wipeE E1 vs) with
    | some (rows, E2) => if rows.length ≤ 1000000 then .nx (E2.set i (.mx rows)) else .bad
    | none => .bad)
  | _ => .bad
/-- new lists, all different -/
structure FR (K : PySem.W.Frag) (F H : Hp) (ps : List Addr) (rows : List (List D)) : Prop where
  nd : ps.Nodup
  len : ps.length = rows.length
  at_ : ∀ (k : Nat) (p : Addr) (r : List D), ps[k]? = some p → rows[k]? = some r → F p = none ∧ ∃ vs, H p = some (.lst vs) ∧ RepL K F r vs
section
variable {K : PySem.W.Frag} {e0 : E0} {σ : St} {E : Sto} {F H F' H' : Hp} {ps : List Addr} {rows : List (List D)}
theorem FR.mem (R : FR K F H ps rows) {p : Addr} (hp : p ∈ ps) : F p = none ∧ ∃ vs, H p = some (.lst vs) := by
  obtain ⟨k, hk⟩ := List.getElem?_of_mem hp
  have hl : k < rows.length := by
    have := (List.getElem?_eq_some_iff.mp hk).1
    rw [← R.len]
    exact this
  obtain ⟨f, vs, h, _⟩ := R.at_ k p _ hk (List.getElem?_eq_getElem hl)
  exact ⟨f, vs, h⟩
/-- kept where nothing of it is held -/
theorem FR.keep (R : FR K F H ps rows) (sF : Same F F') (k : ∀ p ∈ ps, ∀ o, H p = some o → H' p = some o) (nf : ∀ p ∈ ps, F' p = none) : FR K F' H' ps rows :=
  ⟨R.nd, R.len, fun j p r h1 h2 => by
    obtain ⟨_, vs, h, q⟩ := R.at_ j p r h1 h2
    have hp := List.mem_of_getElem? h1
    exact ⟨nf p hp, vs, k p hp _ h, RepL.mono sF _ _ q⟩⟩
theorem FR.nil : FR K F H [] [] := ⟨List.Pairwise.nil, rfl, fun _ _ _ h => by simp at h⟩
theorem FR.snoc (R : FR K F H ps rows) {p : Addr} {r : List D} {vs : List V} (n : p ∉ ps) (f : F p = none) (h : H p = some (.lst vs)) (q : RepL K F r vs) : FR K F H (ps ++ [p]) (rows ++ [r]) := by
  refine ⟨?_, by simp [R.len], fun k a b h1 h2 => ?_⟩
  · rw [List.nodup_append]
    exact ⟨R.nd, by simp, fun a ha b hb e => by
      rw [List.mem_singleton] at hb
      exact n (hb ▸ e ▸ ha)⟩
  · by_cases hk : k < ps.length
    · rw [List.getElem?_append_left hk] at h1
      rw [List.getElem?_append_left (by rw [← R.len]; exact hk)] at h2
      exact R.at_ k a b h1 h2
    · rw [List.getElem?_append_right (by omega)] at h1
      rw [List.getElem?_append_right (by rw [← R.len]; omega)] at h2
      rw [R.len] at h1
      cases e : k - rows.length with
      | zero =>
        rw [e] at h1 h2
        simp at h1 h2
        subst h1 h2
        exact ⟨f, vs, h, q⟩
      | succ m =>
        rw [e] at h1
        simp at h1
theorem own_setM {i : Nat} {q : Addr} {j : Nat} {p : Addr} (hq : H q = some (.lst (ps.map V.ref))) (h : Own H (σ.set i (some (.ref q))) (E.set i (.mx rows)) j p) : (Own H σ E j p ∧ j ≠ i) ∨ (j = i ∧ (p = q ∨ p ∈ ps)) := by
  unfold Own at h ⊢
  by_cases hj : j = i
  · subst hj
    by_cases hi : j < E.length
    · rw [List.getElem?_set_self hi] at h
      obtain ⟨q', ps', h1, h2, h3⟩ := h
      by_cases hl : j < σ.length
      · rw [List.getElem?_set_self hl] at h1
        cases h1
        rw [hq] at h2
        injection h2 with h2
        injection h2 with h2
        have ep : ps = ps' := List.map_inj_right (fun a b h => by cases h; rfl) |>.mp h2
        subst ep
        exact .inr ⟨rfl, h3⟩
      · rw [List.getElem?_eq_none_iff.mpr (by simpa using hl)] at h1
        cases h1
    · rw [List.getElem?_eq_none_iff.mpr (by simpa using hi)] at h
      exact h.elim
  · rw [List.getElem?_set_ne (Ne.symm hj), List.getElem?_set_ne (Ne.symm hj)] at h
    exact .inl ⟨h, hj⟩
theorem SI.setM (S : SI K e0 F H σ E) (i : Nat) {q : Addr} (hq : H q = some (.lst (ps.map V.ref))) (fq : F q = none) (nq : q ∉ ps) (R : FR K F H ps rows) (n : ∀ p, (p = q ∨ p ∈ ps) → (∀ i, ¬ Own H σ E i p) ∧ e0.H p = none) :
    SI K e0 F H (σ.set i (some (.ref q))) (E.set i (.mx rows)) := by
  refine ⟨by simpa using S.len, S.sub, fun j s hs => ?_, fun a b p h1 h2 => ?_, S.f0, S.h0, S.nf, fun j p h => ?_, S.dm⟩
  · by_cases hj : j = i
    · subst hj
      have hi : j < E.length := by
        have := (List.getElem?_eq_some_iff.mp hs).1
        simpa using this
      rw [List.getElem?_set_self hi] at hs
      cases hs
      rw [List.getElem?_set_self (by rw [S.len]; exact hi)]
      exact ⟨q, ps, rfl, hq, fq, R.nd, nq, R.len, R.at_⟩
    · rw [List.getElem?_set_ne (Ne.symm hj)] at hs ⊢
      exact S.rel j s hs
  · rcases own_setM hq h1 with ⟨h1, n1⟩ | ⟨h1, n1⟩
    · rcases own_setM hq h2 with ⟨h2, n2⟩ | ⟨h2, n2⟩
      · exact S.apart a b p h1 h2
      · exact ((n p n2).1 a h1).elim
    · rcases own_setM hq h2 with ⟨h2, n2⟩ | ⟨h2, n2⟩
      · exact ((n p n1).1 b h2).elim
      · rw [h1, h2]
  · rcases own_setM hq h with ⟨h1, h2⟩ | ⟨h1, h2⟩
    · rw [List.getElem?_set_ne (Ne.symm h2)]
      exact S.ow j p h1
    · subst h1
      refine .inl ⟨(n p h2).2, fun z => ?_⟩
      by_cases hi : j < E.length
      · rw [List.getElem?_set_self hi] at z
        rcases z with ⟨ys, z⟩ | ⟨c, ys, z⟩ <;> cases z
      · rw [List.getElem?_eq_none_iff.mpr (by simpa using hi)] at z
        rcases z with ⟨ys, z⟩ | ⟨c, ys, z⟩ <;> cases z
end
section
variable {X : Cx} {e0 : E0} {W : WX} {tg iter : Expr} {f : SeL} {t : Tg} {is : List Nat} {el : SeL}
/-- what a new matrix is handed to -/
def PostM (K : PySem.W.Frag) (e0 : E0) (σ : St) (E : Sto) (F H : Hp) (rows : List (List D)) (E' : Sto) (Q : VK) : Prop := ∀ q ps F' H', Grow σ E F H E' F' H' → SI K e0 F' H' σ E' → H q = none → F' q = none → H' q = some (.lst (ps.map V.ref)) → q ∉ ps → FR K F' H' ps rows →
  (∀ p ∈ ps, H p = none ∧ ∀ i, ¬ Own H' σ E' i p) → (∀ i, ¬ Own H' σ E' i q) → Q (.ref q) H'
theorem mx_rd {kw : Bool} {K : PySem.W.Frag} {g : TG} {tt : TT} {te : TE} {vs : List Nat} {wi : TI} {W1 : WX}
    (hw : ∀ σ H R, rdI kw K e0 W f σ H R → wi σ H R) (hg : ∀ v σ H Q, rdT kw K e0 is t v σ H Q → g v σ H Q) (hch : ∀ d E E', t d E = some E' → StoChg is E E') (hiv : ∀ i ∈ is, i ∈ vs)
    (ht : ∀ σ H Q, rdB K e0 W1 bYes σ H Q → tt σ H Q) (he : ∀ σ H Q, rdF K e0 W1 el σ H Q → te σ H Q) {σ : St} {H : Hp} {Q : VK} {E : Sto} {F : Hp} (S : SI K e0 F H σ E) {items : List D} {E1 E2 : Sto} {rows : List (List D)} (hf : f E = .ok items E1)
    (hq : sCompF t el vs items (wipeE E1 vs) = some (rows, E2)) (hl : rows.length ≤ 1000000) (hM : ∀ F1 H1, Grow σ E F H E1 F1 H1 → SI K e0 F1 H1 σ E1 → PostM K e0 σ E1 F1 H1 rows E2 Q) : tLc wi g tt te vs σ H Q := by
  refine hw σ H _ (rdG_intro S (Post.ok hf fun J F1 H1 G1 S1 R1 => fun Dd hD => ?_))
  have h1 := hM F1 H1 G1 S1
  have hD0 : e0.H Dd = none := S1.fresh0 hD
  have fD : F1 Dd = none := fresh_F S1.sub hD
  have nD : ∀ i, ¬ Own H1 σ E1 i Dd := fun i o => by
    obtain ⟨u, e, _⟩ := own_some S1 o
    rw [hD] at e
    cases e
  refine ⟨fun i m H => m = items.length - i ∧ i ≤ items.length ∧ ∃ E F acc ps ys, SI K e0 F H (wipe σ vs) E ∧ Grow (wipe σ vs) (wipeE E1 vs) F1 H1 E F H ∧ H Dd = some (.lst (ps.map V.ref)) ∧ F Dd = none ∧ Dd ∉ ps ∧ FR K F H ps acc ∧ (∀ p ∈ ps, H1 p = none ∧ ∀ i, ¬ Own H (wipe σ vs) E i p) ∧
    (∀ j ∈ vs, ∀ s, E[j]? = some s → s = .un) ∧ sCompF t el vs (items.drop i) E = some (ys, E2) ∧ acc ++ ys = rows, ?_, ?_⟩
  · refine ⟨items.length, by simp, Nat.zero_le _, wipeE E1 vs, F1, [], [], rows, ?_, ?_, upd_same, fD, by simp, .nil, fun p hp => by simp at hp, fun j hj s hs => wipeE_in hj hs, by simpa using hq, by simp⟩
    · exact (S1.wipe vs).alloc (Alloc.newH S1.sub hD)
    · exact (S1.wipe vs).grow (Alloc.newH S1.sub hD)
  · rintro i m H ⟨rfl, hi, E, F, acc, ps, ys, S2, G2, eD, fD2, nDp, rA, hps, hu, hc, ho⟩
    by_cases hlt : i < items.length
    · refine .inr ⟨(R1.go i F H hlt G2.sF S2.sub).1, fun H' => ∃ E F acc ps ys, SI K e0 F H' (wipe σ vs) E ∧ Grow (wipe σ vs) (wipeE E1 vs) F1 H1 E F H' ∧ H' Dd = some (.lst (ps.map V.ref)) ∧ F Dd = none ∧ Dd ∉ ps ∧ FR K F H' ps acc ∧ (∀ p ∈ ps, H1 p = none ∧ ∀ i, ¬ Own H' (wipe σ vs) E i p) ∧
        (∀ j ∈ vs, ∀ s, E[j]? = some s → s = .un) ∧ sCompF t el vs (items.drop (i + 1)) E = some (ys, E2) ∧ acc ++ ys = rows, fun H' q => ⟨items.length - (i + 1), by omega, rfl, hlt, q⟩, fun x Hx y => ?_⟩
      obtain ⟨Fx, d, ed, al, r⟩ := (R1.go i F H hlt G2.sF S2.sub).2 x Hx y
      have S3 := S2.alloc al
      have dr : items.drop i = d :: items.drop (i + 1) := by
        obtain ⟨hl, e⟩ := List.getElem?_eq_some_iff.mp ed
        rw [List.drop_eq_getElem_cons hl, e]
      rw [dr] at hc
      unfold sCompF at hc
      have nD2 : ∀ i, ¬ Own H (wipe σ vs) E i Dd := fun i o => nD i (own_wipe (G2.own i Dd o)).1
      cases q : t d E with
      | none => simp [q] at hc
      | some E' =>
        simp only [q] at hc
        refine hg x _ _ _ ⟨E, Fx, d, E', S3, r, q, fun σ' c S' => ⟨by rw [c.wipe hiv, wipe_wipe], ?_⟩⟩
        have hτ : wipe σ' vs = wipe σ vs := by rw [c.wipe hiv, wipe_wipe]
        have ch := hch d E E' q
        have nn : ∀ {b : Addr} {u : HO}, H b = some u → F b = none → Fx b = none := fun e f => al.nf _ (by rw [e]; exact fun z => nomatch z) f
        have fx : Fx Dd = none := nn eD fD2
        have eDx : Hx Dd = some (.lst (ps.map V.ref)) := al.sH _ _ eD
        have bk : ∀ i p, Own Hx σ' E' i p → Own H (wipe σ vs) E i p := fun i p o => (own_alloc S2 al.sH i p).mp (own_tgt c ch o)
        refine ht _ _ _ ⟨E', Fx, S', Post.ok (show bYes E' = .ok true E' from rfl) fun b' F3 H3 G3 S4 rb => ?_⟩
        subst rb
        simp only [if_true]
        cases e3 : el E' with
        | ok y' E4 =>
          simp only [e3] at hc
          refine he _ _ _ ⟨E', F3, S4, ?_⟩
          show PostF K e0 W1 σ' E' F3 H3 (el E') _
          rw [e3]
          intro pn vn F4 H4 G4 S5 np3 fp hp4 rl
          have g := G3.trans G4
          have bk4 : ∀ i p, Own H4 σ' E4 i p → Own H (wipe σ vs) E i p := fun i p o => bk i p (g.own i p o)
          cases e4 : sCompF t el vs (items.drop (i + 1)) (wipeE E4 vs) with
          | none => simp [e4] at hc
          | some r2 =>
            obtain ⟨ys2, E5⟩ := r2
            simp only [e4, Option.some.injEq, Prod.mk.injEq] at hc
            obtain ⟨h6, h7⟩ := hc
            subst h6 h7
            have hlen : acc.length < 1000000 := by
              have := congrArg List.length ho
              simp at this
              omega
            -- what is kept
            have keepx : ∀ b o, H b = some o → (∀ i, ¬ Own H (wipe σ vs) E i b) → H4 b = some o := fun b o e n => g.keep b o (al.sH b o e) fun i o' => n i (bk i b o')
            have nfx : ∀ b, H b ≠ none → F b = none → (∀ i, ¬ Own H (wipe σ vs) E i b) → F4 b = none := fun b e f n => by
              cases w : H b with
              | none => exact (e w).elim
              | some u => exact g.nf b (by rw [al.sH b u w]; exact fun z => nomatch z) (nn w f) fun i o' => n i (bk i b o')
            have eD4 : H4 Dd = some (.lst (ps.map V.ref)) := keepx _ _ eD nD2
            have fD4 : F4 Dd = none := nfx _ (by rw [eD]; exact fun z => nomatch z) fD2 nD2
            have old : ∀ {b : Addr} {u : HO}, H b = some u → b ≠ pn := fun {b u} e z => by
              subst z
              have := G3.dm b (by rw [al.sH _ _ e]; exact fun z => nomatch z)
              exact this np3
            have pD : pn ≠ Dd := fun z => old eD z.symm
            have npn : pn ∉ ps := fun z => by
              obtain ⟨_, w, hw⟩ := rA.mem z
              exact old hw rfl
            have rA4 : FR K F4 H4 ps acc := rA.keep (Same.tr al.sF g.sF) (fun p hp o e => keepx p o e (hps p hp).2) fun p hp => by
              obtain ⟨f, w, hw⟩ := rA.mem hp
              exact nfx p (by rw [hw]; exact fun z => nomatch z) f (hps p hp).2
            have c1 : SI K e0 F4 H4 (wipe σ vs) (wipeE E4 vs) := by rw [← hτ]; exact S5.wipe vs
            have c8 : ∀ i, ¬ Own H4 (wipe σ vs) (wipeE E4 vs) i Dd := fun i o => by
              rw [← hτ] at o
              exact nD2 i (bk4 i _ (own_wipe o).1)
            have H1pn : H1 pn = none := by
              cases w : H1 pn with
              | none => rfl
              | some u => exact (G3.dm pn (by
                  have z := G2.dm pn (by rw [w]; exact fun z => nomatch z)
                  cases w2 : H pn with
                  | none => exact (z w2).elim
                  | some u2 => rw [al.sH _ _ w2]; exact fun z => nomatch z) np3).elim
            refine ⟨ps.map V.ref, eD4, Nat.lt_of_lt_of_le (by rw [List.length_map, rA.len]; exact hlen) (by decide), wipeE E4 vs, F4, acc ++ [y'], ps ++ [pn], ys2, c1.mut fD4 c8 hD0, ⟨Same.tr G2.sF (Same.tr al.sF g.sF), fun b o e n => ?_, fun b e f n => ?_, fun b e => ?_, fun i p o => ?_⟩, by rw [upd_same, List.map_append]; rfl, fD4, ?_, ?_, fun p hp => ?_, fun j hj s hs => wipeE_in hj hs, e4, by simpa using ho⟩
            · have hb : b ≠ Dd := fun z => by
                subst z
                rw [hD] at e
                cases e
              rw [upd_ne hb]
              exact keepx b o (G2.keep b o e n) fun i o' => n i (G2.own i b o')
            · exact nfx b (G2.dm b e) (G2.nf b e f n) fun i o' => n i (G2.own i b o')
            · by_cases hb : b = Dd
              · subst hb
                rw [upd_same]
                exact fun z => nomatch z
              · rw [upd_ne hb]
                refine g.dm b ?_
                have z := G2.dm b e
                cases w2 : H b with
                | none => exact (z w2).elim
                | some u2 => rw [al.sH _ _ w2]; exact fun z => nomatch z
            · have o' := (own_mut c1 c8).mp o
              rw [← hτ] at o'
              exact G2.own i p (bk4 i p (own_wipe o').1)
            · intro z
              rcases List.mem_append.mp z with z | z
              · exact nDp z
              · exact pD (List.mem_singleton.mp z).symm
            · have R5 := rA4.snoc npn fp hp4 rl
              exact R5.keep (fun _ _ z => z) (fun p hp o e => by
                have : p ≠ Dd := fun z => by
                  rcases List.mem_append.mp hp with w | w
                  · exact nDp (z ▸ w)
                  · exact pD ((List.mem_singleton.mp w).symm.trans z)
                rw [upd_ne this]
                exact e) fun p hp => (R5.mem hp).1
            · have no : ∀ p, (∀ i, ¬ Own H (wipe σ vs) E i p) → ∀ i, ¬ Own (upd H4 Dd (.lst (ps.map V.ref ++ [V.ref pn]))) (wipe σ vs) (wipeE E4 vs) i p := fun p h i o => by
                have o' := (own_mut c1 c8).mp o
                rw [← hτ] at o'
                exact h i (bk4 i p (own_wipe o').1)
              rcases List.mem_append.mp hp with hp | hp
              · exact ⟨(hps p hp).1, no p (hps p hp).2⟩
              · have e := List.mem_singleton.mp hp
                subst e
                refine ⟨H1pn, no p fun i o => ?_⟩
                obtain ⟨u, e, _⟩ := own_some S2 o
                exact old e rfl
        | ex x E4 => simp [e3] at hc
        | bad => simp [e3] at hc
    · have e : items.drop i = [] := List.drop_eq_nil_of_le (by omega)
      rw [e] at hc
      unfold sCompF at hc
      simp only [Option.some.injEq, Prod.mk.injEq] at hc
      obtain ⟨h6, h7⟩ := hc
      subst h6 h7
      have ho' : acc = rows := by simpa using ho
      subst ho'
      refine .inl ⟨R1.stop i F H (by omega) G2.sF S2.sub, h1 Dd ps F H ⟨G2.sF, fun b o e n => G2.keep b o e fun i o' => n i (own_wipe o').1, fun b e f n => G2.nf b e f fun i o' => n i (own_wipe o').1, G2.dm, fun i p o => (own_wipe (G2.own i p (own_unwipe hu o))).1⟩ (S2.unwipe hu) hD fD2 eD nDp rA ?_ ?_⟩
      · exact fun p hp => ⟨(hps p hp).1, fun i o => (hps p hp).2 i (own_unwipe hu o)⟩
      · exact fun i o => nD i (own_wipe (G2.own i _ (own_unwipe hu o))).1
end
section
variable {K : PySem.W.Frag} {e0 : E0} {σ : St} {E : Sto} {F H : Hp}
theorem own_un {i j : Nat} {p : Addr} (h : Own H σ (E.set i .un) j p) : Own H σ E j p ∧ j ≠ i := by
  unfold Own at h ⊢
  by_cases hj : j = i
  · subst hj
    by_cases hi : j < E.length
    · rw [List.getElem?_set_self hi] at h
      exact h.elim
    · rw [List.getElem?_eq_none_iff.mpr (by simpa using hi)] at h
      exact h.elim
  · rw [List.getElem?_set_ne (Ne.symm hj)] at h
    exact ⟨h, hj⟩
theorem SI.unslot (S : SI K e0 F H σ E) (i : Nat) : SI K e0 F H σ (E.set i .un) := by
  refine ⟨by simpa using S.len, S.sub, fun j s hs => ?_, fun a b p h1 h2 => S.apart a b p (own_un h1).1 (own_un h2).1, S.f0, S.h0, S.nf, fun j p h => ?_, S.dm⟩
  · by_cases hj : j = i
    · subst hj
      have hi : j < E.length := by
        have := (List.getElem?_eq_some_iff.mp hs).1
        simpa using this
      rw [List.getElem?_set_self hi] at hs
      cases hs
      trivial
    · rw [List.getElem?_set_ne (Ne.symm hj)] at hs
      exact S.rel j s hs
  · obtain ⟨h1, h2⟩ := own_un h
    rw [List.getElem?_set_ne (Ne.symm h2)]
    exact S.ow j p h1
/-- some lists are frozen, one after the other -/
theorem freezeAll : ∀ (L : List Addr) {F : Hp}, SI K e0 F H σ E → L.Nodup → (∀ p ∈ L, H p ≠ none ∧ F p = none ∧ (∀ i, ¬ Own H σ E i p) ∧ e0.H p = none) → ∃ F', SI K e0 F' H σ E ∧ Same F F' ∧ (∀ p ∈ L, F' p = H p) ∧ ∀ b, b ∉ L → F' b = F b
  | [], F, S, _, _ => ⟨F, S, fun _ _ h => h, fun p h => by simp at h, fun _ _ => rfl⟩
  | p :: L, F, S, nd, h => by
    rw [List.nodup_cons] at nd
    obtain ⟨h1, h2, h3, h4⟩ := h p (by simp)
    cases w : H p with
    | none => exact (h1 w).elim
    | some u =>
      obtain ⟨S1, s1⟩ := S.freezeAt w h2 h3 h4
      obtain ⟨F', S', s', a, b⟩ := freezeAll L S1 nd.2 fun q hq => by
        obtain ⟨g1, g2, g3, g4⟩ := h q (by simp [hq])
        exact ⟨g1, by rw [upd_ne (show q ≠ p from fun z => nd.1 (z ▸ hq))]; exact g2, g3, g4⟩
      refine ⟨F', S', Same.tr s1 s', fun q hq => ?_, fun q hq => ?_⟩
      · by_cases e : q = p
        · subst e
          rw [b q nd.1, upd_same, w]
        · exact a q (by
            rcases List.mem_cons.mp hq with z | z
            · exact (e z).elim
            · exact z)
      · rw [b q fun z => hq (by simp [z]), upd_ne fun e => hq (by simp [e])]
theorem SI.freezeM {i : Nat} {rows : List (List D)} (S : SI K e0 F H σ E) (e : E[i]? = some (.mx rows)) :
    ∃ q F', σ[i]? = some (some (.ref q)) ∧ Rep K F' (.lst (rows.map .lst)) (.ref q) ∧ SI K e0 F' H σ (E.set i (.vl (.lst (rows.map .lst)))) ∧ Grow σ E F H (E.set i (.vl (.lst (rows.map .lst)))) F' H := by
  obtain ⟨q, ps, e1, e2, e3, e4, e5, e6, e7⟩ := S.rel i _ e
  have hi : i < E.length := (List.getElem?_eq_some_iff.mp e).1
  have own : ∀ p, (p = q ∨ p ∈ ps) → Own H σ E i p := fun p hp => by
    unfold Own
    rw [e]
    exact ⟨q, ps, e1, e2, hp⟩
  have nb : ¬ Bor E[i]? := by
    rw [e]
    rintro (⟨xs, z⟩ | ⟨c, xs, z⟩) <;> cases z
  have there : ∀ p, (p = q ∨ p ∈ ps) → H p ≠ none ∧ F p = none ∧ (∀ j, ¬ Own H σ (E.set i .un) j p) ∧ e0.H p = none := fun p hp => by
    obtain ⟨u, h1, h2⟩ := own_some S (own p hp)
    refine ⟨by rw [h1]; simp, h2, fun j o => ?_, ?_⟩
    · obtain ⟨o1, o2⟩ := own_un o
      exact o2 (S.apart j i p o1 (own p hp))
    · rcases S.ow i p (own p hp) with ⟨z, _⟩ | ⟨_, z⟩
      · exact z
      · exact (nb z).elim
  obtain ⟨F', S', s', a, b⟩ := freezeAll (q :: ps) (S.unslot i) (List.nodup_cons.mpr ⟨e5, e4⟩) fun p hp => there p (by simpa using hp)
  have rq : Rep K F' (.lst (rows.map .lst)) (.ref q) := by
    simp only [Rep]
    refine ⟨q, ps.map V.ref, rfl, by rw [a q (by simp)]; exact e2, ?_⟩
    have key : ∀ (ps : List Addr) (rows : List (List D)), ps.length = rows.length → (∀ (k : Nat) (p : Addr) (r : List D), ps[k]? = some p → rows[k]? = some r → ∃ vs, F' p = some (.lst vs) ∧ RepL K F' r vs) → RepL K F' (rows.map D.lst) (ps.map V.ref) := by
      intro ps
      induction ps with
      | nil =>
        intro rows l _
        cases rows with
        | nil => exact .nil
        | cons r rows => simp at l
      | cons p ps ih =>
        intro rows l h
        cases rows with
        | nil => simp at l
        | cons r rows =>
          obtain ⟨vs, h1, h2⟩ := h 0 p r rfl rfl
          exact .cons (by simp only [Rep]; exact ⟨p, vs, rfl, h1, h2⟩) (ih rows (by simpa using l) fun k p r h1 h2 => h (k + 1) p r (by simpa using h1) (by simpa using h2))
    exact key ps rows e6 fun k p r h1 h2 => by
      obtain ⟨_, vs, h3, h4⟩ := e7 k p r h1 h2
      exact ⟨vs, by rw [a p (by simp [List.mem_of_getElem? h1])]; exact h3, RepL.mono s' _ _ h4⟩
  have S2 := S'.set i rq
  have es : σ.set i (some (.ref q)) = σ := by
    apply List.ext_getElem?
    intro j
    by_cases hj : j = i
    · subst hj
      rw [List.getElem?_set_self (by rw [S.len]; exact hi), e1]
    · rw [List.getElem?_set_ne (Ne.symm hj)]
  rw [es, List.set_set] at S2
  refine ⟨q, F', e1, rq, S2, s', fun _ _ h _ => h, fun p h f n => ?_, fun _ h => h, fun j p o => ?_⟩
  · rw [b p fun z => n i (own p (by simpa using z))]
    exact f
  · by_cases hj : j = i
    · subst hj
      unfold Own at o
      rw [List.getElem?_set_self hi] at o
      exact o.elim
    · unfold Own at o ⊢
      rw [List.getElem?_set_ne (Ne.symm hj)] at o
      exact o
end
section
variable {X : Cx} {e0 : E0} {W : WX} {tg iter : Expr} {f : SeL} {t : Tg} {is : List Nat} {el : SeL}
theorem ds_mx {kw : Bool} {i : Nat} {y : Str} {py : Pos} {pos spos : Pos} {elt : Expr} {scope : Scope} {own : List (Str × Nat)} (hc : X.calm = true) (hN : X.N.Nodup) (hy : X.N[i]? = some y) (hyl : X.env.scope.names.lookup y = some .local)
    (hsw : swapsWith (.ListComp elt [⟨tg, iter, [], 0⟩] scope pos) (some (.Name y py)) spos.line X.env = pure true) (hi : DI kw X e0 W tg iter f) (ok : BlkOk X.N X.env.scope scope own)
    (hg : ∀ (s : Shared) (H : Hp) (C : Addr) (cl : List (Str × Addr)) (fp : List Addr), DG kw (X.blk s H scope (compEnvC scope cl C X.env) fp) e0 is tg t) (hiv : ∀ i ∈ is, i ∈ own.map (·.2))
    (he : ∀ (s : Shared) (H : Hp) (C : Addr) (cl : List (Str × Addr)) (fp : List Addr), DF (X.blk s H scope (compEnvC scope cl C X.env) fp) e0 (fun _ _ _ _ => False) elt el) (hs : ∀ x, foldedSetIterable iter X.env x = pure x := by intro _; rfl) :
    DS X e0 W (.Assign [.Name y py] (.ListComp elt [⟨tg, iter, [], 0⟩] scope pos) spos) (sMx i f t el (own.map (·.2))) :=
  PS.weak (ps_setLc (te := rdF X.K e0 (fun _ _ _ _ => False) el) (g := rdT kw X.K e0 is t) hc hN hy hyl hsw hi ok (fun s H C cl fp => (hg s H C cl fp).pg) (fun s H C cl fp => dts_nil (W := fun _ _ _ _ => False)) he hs) fun D σ H ⟨E, F, S, h⟩ => by
  unfold sMx at h
  cases hf : f E with
  | ok items E1 =>
    rw [hf] at h
    simp only at h
    cases hq : sCompF t el (own.map (·.2)) items (wipeE E1 (own.map (·.2))) with
    | none => rw [hq] at h; exact h.elim
    | some r =>
      obtain ⟨rows, E2⟩ := r
      rw [hq] at h
      simp only at h
      by_cases hl : rows.length ≤ 1000000
      · rw [if_pos hl] at h
        refine mx_rd (W := W) (W1 := fun _ _ _ _ => False) (fun _ _ _ z => z) (fun _ _ _ _ z => z) (hg X.s_0 X.H_0 0 [] []).chg hiv (fun _ _ _ z => z) (fun _ _ _ z => z) S hf hq hl fun F1 H1 G1 S1 => ?_
        intro q ps F' H' G2 S2 nq fq hq' nqp R hps hq2
        refine h _ F' H' (Same.tr G1.sF G2.sF) (S2.setM i hq' fq nqp R fun p hp => ?_)
        rcases hp with rfl | hp
        · exact ⟨hq2, S1.fresh0 nq⟩
        · exact ⟨(hps p hp).2, S1.fresh0 (hps p hp).1⟩
      · rw [if_neg hl] at h
        exact h.elim
  | ex x E1 =>
    rw [hf] at h
    exact h.elim
  | bad =>
    rw [hf] at h
    exact h.elim
/-- the whole matrix, read -/
def sVarX (i : Nat) : Se := fun E => match E[i]? with
  | some (.mx rows) => .ok (.lst (rows.map .lst)) (E.set i (.vl (.lst (rows.map .lst))))
  | some (.vl d) => .ok d E
  | _ => .bad
theorem dx_varX {i : Nat} {x : Str} {pos : Pos} (hN : X.N[i]? = some x) (hv : Vis X.env.scope x) (hd : (x == ("__debug__" : Str)) = false := by decide) (hcd : (x == ("__classdict__" : Str)) = false := by decide) : DX X e0 W (.Name x pos) (sVarX i) := by
  refine PE.weak (pe_var hN hv hd hcd) fun σ H Q ⟨E, F, S, h⟩ => ?_
  unfold sVarX at h
  cases e : E[i]? with
  | none => rw [e] at h; exact h.elim
  | some s =>
    rw [e] at h
    cases s with
    | vl d =>
      obtain ⟨v, h1, r⟩ := S.rel i _ e
      exact ⟨v, h1, h.fin0 S r⟩
    | mx rows =>
      obtain ⟨q, F', h1, r, S', g⟩ := S.freezeM e
      exact ⟨.ref q, h1, h (.ref q) F' H g S' r⟩
    | _ => exact h.elim
/-! whole numbers read off the slots -/
def rdP (K : PySem.W.Frag) (e0 : E0) (p : Sto → Option Int) : TE := fun σ H Q => ∃ E F n, SI K e0 F H σ E ∧ p E = some n ∧ Q (.int n) H
def DP (X : Cx) (e0 : E0) (e : Expr) (p : Sto → Option Int) : Prop := PE X e (rdP X.K e0 p)
def pV (i : Nat) : Sto → Option Int := fun E => match E[i]? with
  | some (.vl (.int n)) => some n
  | _ => none
def pC (n : Int) : Sto → Option Int := fun _ => some n
def pA (a b : Sto → Option Int) : Sto → Option Int := fun E => match a E, b E with
  | some x, some y => some (x + y)
  | _, _ => none
def pS (a b : Sto → Option Int) : Sto → Option Int := fun E => match a E, b E with
  | some x, some y => some (x - y)
  | _, _ => none
theorem dp_var {i : Nat} {x : Str} {pos : Pos} (hN : X.N[i]? = some x) (hv : Vis X.env.scope x) (hd : (x == ("__debug__" : Str)) = false := by decide) (hcd : (x == ("__classdict__" : Str)) = false := by decide) : DP X e0 (.Name x pos) (pV i) :=
  PE.weak (pe_var hN hv hd hcd) fun σ H Q ⟨E, F, n, S, h, q⟩ => by
    unfold pV at h
    split at h
    · rename_i m e
      cases h
      obtain ⟨v, h1, r⟩ := S.rel i _ e
      simp only [Rep] at r
      subst r
      exact ⟨_, h1, q⟩
    · cases h
theorem dp_int {i : Int} {j : Nat} {pos : Pos} : DP X e0 (.Constant (.int i) j pos) (pC i) := PE.weak pe_int fun σ H Q ⟨E, F, n, S, h, q⟩ => by
  cases h
  exact q
theorem dp_add {a b : Expr} {p p' : Sto → Option Int} {pos : Pos} (ha : DP X e0 a p) (hb : DP X e0 b p') : DP X e0 (.BinOp a .Add b pos) (pA p p') := PE.weak (pe_add ha hb) fun σ H Q ⟨E, F, n, S, h, q⟩ => by
  unfold pA at h
  split at h
  · rename_i x y e1 e2
    cases h
    exact ⟨E, F, x, S, e1, E, F, y, S, e2, x, y, rfl, rfl, q⟩
  · cases h
theorem dp_sub {a b : Expr} {p p' : Sto → Option Int} {pos : Pos} (ha : DP X e0 a p) (hb : DP X e0 b p') : DP X e0 (.BinOp a .Sub b pos) (pS p p') := PE.weak (pe_sub ha hb) fun σ H Q ⟨E, F, n, S, h, q⟩ => by
  unfold pS at h
  split at h
  · rename_i x y e1 e2
    cases h
    exact ⟨E, F, x, S, e1, E, F, y, S, e2, x, y, rfl, rfl, q⟩
  · cases h
theorem set_self {σ : St} {i : Nat} {v : Option V} (h : σ[i]? = some v) : σ.set i v = σ := by
  apply List.ext_getElem?
  intro j
  by_cases hj : j = i
  · subst hj
    rw [List.getElem?_set_self (List.getElem?_eq_some_iff.mp h).1, h]
  · rw [List.getElem?_set_ne (Ne.symm hj)]
/-- one item of an own matrix is stored -/
theorem SI.putM {K : PySem.W.Frag} {σ : St} {E : Sto} {F H : Hp} (S : SI K e0 F H σ E) {i : Nat} {rows : List (List D)} (e : E[i]? = some (.mx rows)) {q : Addr} {ps : List Addr} (e1 : σ[i]? = some (some (.ref q))) (e2 : H q = some (.lst (ps.map V.ref))) (e3 : F q = none) (e5 : q ∉ ps) (R : FR K F H ps rows)
    {k : Nat} {p : Addr} {row row' : List D} {vs' : List V} (hp : ps[k]? = some p) (hr : rows[k]? = some row) (r : RepL K F row' vs') : SI K e0 F (upd H p (.lst vs')) σ (E.set i (.mx (rows.set k row'))) := by
  have hi : i < E.length := (List.getElem?_eq_some_iff.mp e).1
  have pm : p ∈ ps := List.mem_of_getElem? hp
  have own : ∀ p, (p = q ∨ p ∈ ps) → Own H σ E i p := fun p hp => by
    unfold Own
    rw [e]
    exact ⟨q, ps, e1, e2, hp⟩
  have un : ∀ p, (p = q ∨ p ∈ ps) → (∀ j, ¬ Own H σ (E.set i .un) j p) ∧ e0.H p = none := fun p hp => by
    refine ⟨fun j o => ?_, ?_⟩
    · obtain ⟨o1, o2⟩ := own_un o
      exact o2 (S.apart j i p o1 (own p hp))
    · rcases S.ow i p (own p hp) with ⟨z, _⟩ | ⟨_, z⟩
      · exact z
      · rw [e] at z
        rcases z with ⟨xs, z⟩ | ⟨c, xs, z⟩ <;> cases z
  have hk : k < ps.length := (List.getElem?_eq_some_iff.mp hp).1
  have fp : F p = none := (R.at_ k p row hp hr).1
  have S0 := S.unslot i
  have n0 := (un p (.inr pm)).1
  have S2 := S0.mut (o := .lst vs') fp n0 (un p (.inr pm)).2
  have hq : (upd H p (.lst vs')) q = some (.lst (ps.map V.ref)) := by
    rw [upd_ne (show q ≠ p from fun z => e5 (z ▸ pm))]
    exact e2
  have R2 : FR K F (upd H p (.lst vs')) ps (rows.set k row') := by
    refine ⟨R.nd, by rw [List.length_set]; exact R.len, fun a b c h1 h2 => ?_⟩
    by_cases ha : a = k
    · subst ha
      rw [hp] at h1
      cases h1
      rw [List.getElem?_set_self (by rw [← R.len]; exact hk)] at h2
      cases h2
      exact ⟨fp, vs', upd_same, r⟩
    · rw [List.getElem?_set_ne (Ne.symm ha)] at h2
      obtain ⟨f, w, h3, h4⟩ := R.at_ a b c h1 h2
      have : b ≠ p := fun z => by
        subst z
        obtain ⟨l1, g1⟩ := List.getElem?_eq_some_iff.mp h1
        obtain ⟨l2, g2⟩ := List.getElem?_eq_some_iff.mp hp
        exact ha ((List.getElem_inj R.nd).mp (g1.trans g2.symm))
      exact ⟨f, w, by rw [upd_ne this]; exact h3, h4⟩
  have S3 := S2.setM i hq e3 e5 R2 fun b hb => ⟨fun j o => (un b hb).1 j ((own_mut S0 n0).mp o), (un b hb).2⟩
  rw [set_self e1, List.set_set] at S3
  exact S3
/-- m[a][b] = v -/
def sMxSet (i : Nat) (p1 p2 : Sto → Option Int) (a : Se) : Ss := fun E => (a E).then fun d E1 => match E1[i]?, p1 E1, p2 E1 with
  | some (.mx rows), some n1, some n2 => (match ixN rows.length n1 with
    | some k => (match rows[k]? with
      | some row => (match ixN row.length n2 with
        | some j => .nx (E1.set i (.mx (rows.set k (row.set j d))))
        | none => .bad)
      | none => .bad)
    | none => .bad)
  | _, _, _ => .bad
theorem ds_mxSet {i : Nat} {y : Str} {a k1 k2 : Expr} {p1 p2 : Sto → Option Int} {fa : Se} {px pos1 pos2 pos : Pos} (hN : X.N[i]? = some y) (hvis : Vis X.env.scope y) (ha : DX X e0 W a fa) (h1 : DP X e0 k1 p1) (h2 : DP X e0 k2 p2) (hs1 : PlainIx k1 := by intro _ _; rfl) (hd : (y == ("__debug__" : Str)) = false := by decide) (hcd : (y == ("__classdict__" : Str)) = false := by decide)
    (hx : ∀ v, assign (.Subscript (.Subscript (.Name y px) k1 pos1) k2 pos2) X.env v = (do
      let ov ← holding [v] (eval (.Subscript (.Name y px) k1 pos1) X.env)
      let iv ← holding [v, ov] (eval k2 X.env)
      standAt pos2
      holding [v, ov, iv] (setItem ov iv v)
      release [v, ov, iv] []) := by intro _; rfl)
    (hs : swapsWithSole [.Subscript (.Subscript (.Name y px) k1 pos1) k2 pos2] a pos.line X.env = pure false := by rfl) (hw : swappedStores [.Subscript (.Subscript (.Name y px) k1 pos1) k2 pos2] a X.env = pure none := by rfl) :
    DS X e0 W (.Assign [.Subscript (.Subscript (.Name y px) k1 pos1) k2 pos2] a pos) (sMxSet i p1 p2 fa) := by
  refine PS.weak (ps_asg ha (pg_sub (pe_ix ix_list (pe_var hN hvis hd hcd) h1 hs1) h2 set_list hx) hs hw) fun D σ H ⟨E, F, S, h⟩ => rdG_intro S (PostS.bind (D := D) h fun d v E1 F1 H1 G1 S1 R1 h3 => ?_)
  cases z1 : E1[i]? with
  | none => simp only [z1] at h3; exact h3.elim
  | some s =>
    cases z2 : p1 E1 with
    | none => cases s <;> simp only [z1, z2] at h3 <;> exact h3.elim
    | some n1 =>
      cases z3 : p2 E1 with
      | none => cases s <;> simp only [z1, z2, z3] at h3 <;> exact h3.elim
      | some n2 =>
        cases s with
        | mx rows =>
          simp only [z1, z2, z3] at h3
          obtain ⟨q, ps, e1, e2, e3, e4, e5, e6, e7⟩ := S1.rel i _ z1
          cases z4 : ixN rows.length n1 with
          | none => simp only [z4] at h3; exact h3.elim
          | some k =>
            simp only [z4] at h3
            cases z5 : rows[k]? with
            | none => simp only [z5] at h3; exact h3.elim
            | some row =>
              simp only [z5] at h3
              cases z6 : ixN row.length n2 with
              | none => simp only [z6] at h3; exact h3.elim
              | some j =>
                simp only [z6] at h3
                have hk : k < ps.length := by
                  rw [e6]
                  exact (List.getElem?_eq_some_iff.mp z5).1
                have hp : ps[k]? = some ps[k] := List.getElem?_eq_getElem hk
                obtain ⟨fp, vs, h4, r4⟩ := e7 k _ row hp z5
                have at1 : atI (ps.map V.ref) n1 = some (.ref ps[k]) := by
                  unfold atI
                  rw [List.length_map, e6, z4]
                  show (ps.map V.ref)[k]? = _
                  rw [List.getElem?_map, hp]
                  rfl
                refine ⟨.ref q, e1, E1, F1, n1, S1, z2, q, ps.map V.ref, n1, .ref ps[k], rfl, rfl, Evl.sq_of e2, at1, E1, F1, n2, S1, z3, ps[k], vs, n2, j, rfl, rfl, h4, by rw [← r4.length]; exact z6, ?_⟩
                exact h3 σ F1 _ (fun _ _ e => e) (S1.putM z1 e1 e2 e3 e5 ⟨e4, e6, e7⟩ hp z5 (r4.set j R1))
        | _ => simp only [z1] at h3; exact h3.elim
end
end Dn

set_option Elab.async false
set_option linter.all false
set_option maxRecDepth 100000
set_option maxHeartbeats 4000000
namespace Dn
open PySem PySem.Spec L2
/-! ### one reading or the other -/
def sAlt (f g : Se) : Se := fun E => match f E with
  | .bad => g E
  | r => r
theorem dx_alt {X : Cx} {e0 : E0} {W : WX} {e : Expr} {f g : Se} (h1 : DX X e0 W e f) (h2 : DX X e0 W e g) : DX X e0 W e (sAlt f g) := by
  refine ⟨fun pins s σ H Q I q => ?_⟩
  obtain ⟨E, F, S, h⟩ := q
  unfold sAlt at h
  cases r : f E with
  | bad =>
    rw [r] at h
    exact h2.run pins s σ H Q I ⟨E, F, S, h⟩
  | ok a E1 =>
    refine h1.run pins s σ H Q I ⟨E, F, S, ?_⟩
    rw [r] at h ⊢
    exact h
  | ex x E1 =>
    refine h1.run pins s σ H Q I ⟨E, F, S, ?_⟩
    rw [r] at h ⊢
    exact h
section
variable {E : Sto} {f g : Se} {d : D} {i : Nat} {X : Xn} {b : Se}
def altM (r : Out D) (g : Se) (E : Sto) : Out D := match r with
  | .bad => g E
  | r => r
theorem x_alt : sAlt f g E = altM (f E) g E := by
  unfold sAlt altM
  rfl
theorem x_altO {E1 : Sto} : altM (.ok d E1) g E = .ok d E1 := rfl
theorem x_altX {E1 : Sto} : altM (.ex X E1) g E = .ex X E1 := rfl
theorem x_altB : altM .bad g E = g E := rfl
theorem x_celV : celV (some (.vl d)) = none := rfl
theorem x_lenB : lenV none E = .bad := rfl
theorem x_tupB : tupV none E = .bad := rfl
theorem x_ixB : ixV none i b E = .bad := rfl
end
/-! ### meanings worked out: matrices, makers -/
section
variable {E : Sto} {X : Xn} {i c j : Nat} {xs ds : List D} {d : D} {rows : List (List D)} {t : Tg} {el : SeL} {vs : List Nat} {f : SeL} {a : Se} {p1 p2 : Sto → Option Int}
def mxV (o : Option (List (List D) × Sto)) (i : Nat) : So := match o with
  | some (rows, E2) => if rows.length ≤ 1000000 then .nx (E2.set i (.mx rows)) else .bad
  | none => .bad
def mxM (r : Out (List D)) (t : Tg) (el : SeL) (vs : List Nat) (i : Nat) : So := match r with
  | .ok items E1 => mxV (sCompF t el vs items (wipeE E1 vs)) i
  | _ => .bad
theorem x_mx : sMx i f t el vs E = mxM (f E) t el vs i := by
  unfold sMx mxM mxV
  cases f E with
  | ok items E1 => cases sCompF t el vs items (wipeE E1 vs) <;> rfl
  | _ => rfl
theorem x_mxO : mxM (.ok xs E) t el vs i = mxV (sCompF t el vs xs (wipeE E vs)) i := by unfold mxM; rfl
theorem x_mxV (h : rows.length ≤ 1000000) : mxV (some (rows, E)) i = .nx (E.set i (.mx rows)) := by unfold mxV; simp [h]
theorem c_mapF {α : Type} {g : α → D} (y : α → List D) {xs : List α} (h : ∀ x ∈ xs, ∃ E1 E3, t (g x) E = some E1 ∧ el E1 = .ok (y x) E3 ∧ wipeE E3 vs = E) : sCompF t el vs (xs.map g) E = some (xs.map y, E) := by
  induction xs with
  | nil => rfl
  | cons x xs ih =>
    obtain ⟨E1, E3, h1, h2, h3⟩ := h x (by simp)
    have ih := ih fun z hz => h z (by simp [hz])
    rw [List.map_cons, sCompF]
    simp only [h1, h2, h3, ih]
    rfl
def mxsV (o : Option Sl) (a b : Option Int) (d : D) (i : Nat) (E1 : Sto) : So := match o, a, b with
  | some (.mx rows), some n1, some n2 => (match ixN rows.length n1 with
    | some k => (match rows[k]? with
      | some row => (match ixN row.length n2 with
        | some j => .nx (E1.set i (.mx (rows.set k (row.set j d))))
        | none => .bad)
      | none => .bad)
    | none => .bad)
  | _, _, _ => .bad
def mxsM (r : Out D) (p1 p2 : Sto → Option Int) (i : Nat) : So := r.then fun d E1 => mxsV E1[i]? (p1 E1) (p2 E1) d i E1
theorem x_mxs : sMxSet i p1 p2 a E = mxsM (a E) p1 p2 i := by
  unfold sMxSet mxsM mxsV
  rfl
theorem x_mxsO : mxsM (.ok d E) p1 p2 i = mxsV E[i]? (p1 E) (p2 E) d i E := by unfold mxsM; rfl
theorem x_mxsV {k j : Nat} {row : List D} {n1 n2 : Int} (e1 : n1 = (k : Nat)) (e2 : n2 = (j : Nat)) (hr : rows[k]? = some row) (hj : j < row.length) : mxsV (some (.mx rows)) (some n1) (some n2) d i E = .nx (E.set i (.mx (rows.set k (row.set j d)))) := by
  subst e1 e2
  have hk : k < rows.length := (List.getElem?_eq_some_iff.mp hr).1
  unfold mxsV
  simp only [x_ixNn hk, hr, x_ixNn hj]
def pvV (o : Option Sl) : Option Int := match o with
  | some (.vl (.int n)) => some n
  | _ => none
theorem x_pV : pV i E = pvV E[i]? := by
  unfold pV pvV
  rfl
theorem x_pvV {n : Int} : pvV (some (.vl (.int n))) = some n := rfl
def paI (a b : Option Int) : Option Int := match a, b with
  | some x, some y => some (x + y)
  | _, _ => none
theorem x_pA : pA p1 p2 E = paI (p1 E) (p2 E) := by
  unfold pA paI
  rfl
theorem x_paI {x y : Int} : paI (some x) (some y) = some (x + y) := rfl
theorem x_pC {n : Int} : pC n E = some n := rfl
def varXM (o : Option Sl) (i : Nat) (E : Sto) : Out D := match o with
  | some (.mx rows) => .ok (.lst (rows.map .lst)) (E.set i (.vl (.lst (rows.map .lst))))
  | some (.vl d) => .ok d E
  | _ => .bad
theorem x_varX : sVarX i E = varXM E[i]? i E := by
  unfold sVarX varXM
  rfl
theorem x_varXO : varXM (some (.mx rows)) i E = .ok (.lst (rows.map .lst)) (E.set i (.vl (.lst (rows.map .lst)))) := rfl
def rtoV (o : Option Sl) (i : Nat) (E : Sto) : So := match o with
  | some (.ow cs) => .rt (.fr cs) (E.set i .un)
  | _ => .bad
theorem x_rtoM : sRetO i E = rtoV E[i]? i E := by
  unfold sRetO rtoV
  rfl
theorem x_rtoV : rtoV (some (.ow xs)) i E = .rt (.fr xs) (E.set i .un) := rfl
def initV (o : Option Sl) (c : Nat) : RsI := match o with
  | some (.nw c' xs) => if c' = c ∧ xs.length = (clsFlds c).length then .ok xs else .bad
  | _ => .bad
def initM (r : So) (c : Nat) : RsI := match r with
  | .nx E => initV E[0]? c
  | .ex x _ => .ex x
  | _ => .bad
theorem x_appI {n np : Nat} {b : Ss} (h : ds.length = np) : (mkInit n np c b).app ds = initM (b (sto3 n c ds)) c := by
  unfold FnI.app mkInit initM initV
  exact (if_pos h).trans rfl
theorem x_initN : initM (.nx E) c = initV E[0]? c := rfl
theorem x_initX : initM (.ex X E) c = .ex X := rfl
theorem x_initV (h : xs.length = (clsFlds c).length) : initV (some (.nw c xs)) c = .ok xs := by
  unfold initV
  exact if_pos ⟨rfl, h⟩
theorem x_sto3 {n : Nat} : sto3 n c ds = .nw c [] :: sto (n - 1) ds := rfl
def slfV (o : Option Sl) (d : D) (i c j : Nat) (E1 : Sto) : So := match o with
  | some (.nw c' ds) => if c' = c ∧ ds.length = j then .nx (E1.set i (.nw c (ds ++ [d]))) else .bad
  | _ => .bad
def slfM (r : Out D) (i c j : Nat) : So := r.then fun d E1 => slfV E1[i]? d i c j E1
theorem x_slf : sSelf i c j a E = slfM (a E) i c j := by
  unfold sSelf slfM slfV
  rfl
theorem x_slfO : slfM (.ok d E) i c j = slfV E[i]? d i c j E := by unfold slfM; rfl
theorem x_slfX : slfM (.ex X E) i c j = .ex X E := by unfold slfM; rfl
theorem x_slfV (h : ds.length = j) : slfV (some (.nw c ds)) d i c j E = .nx (E.set i (.nw c (ds ++ [d]))) := by
  unfold slfV
  exact if_pos ⟨rfl, h⟩
end
end Dn

set_option Elab.async false
set_option linter.all false
set_option maxRecDepth 100000
set_option maxHeartbeats 4000000
/-! isinstance of an own class; == and != by an own __eq__; by its own author for this project -/
namespace DnE
open PySem PySem.W PySem.Calls PyProof.Rows
section
variable {prog : Program} {w : World} {A : Around} {E : Value → Shared → Prop} {s : Shared} {K : Frag} {x C f L : Addr} {h₀ : Heap} {m : Str → Option Value} {ox : Obj} {od : Option Obj} {tb b : Value}
theorem slot_ne : Slot "object" "__ne__" "object.__ne__" := F.slot_object_ne
theorem bind_ne (self : Value) : bindSpecial (.builtin "object.__ne__") self = pure (.builtin "object.__ne__", [self]) := slot_ne.bind self
theorem ifBound_ne {M : Model} {args : List Value} {Q : Option Value → Shared → Prop} (X : K.In s.heap) (I : InstAt s.heap x ox C od) (hne : findIn K (.ref C) "__ne__" = some (some (.builtin "object.__ne__")))
    (h : wpAny M A (call (.builtin "object.__ne__") (.ref x :: args)) (fun v => Q (some v)) E s) : wpAny M A (callSpecialIfBound? (.ref x) "__ne__" args) Q E s := by
  have two : wpAny M A (call (.builtin "object.__ne__") ([.ref x] ++ args) >>= fun v => pure (some v)) Q E s := wpAny_bind (wpAny_mono h (fun v s' h' => wpAny_pure h') fun _ _ h' => h')
  simp only [callSpecialIfBound?, bindSpecialIfBound?]
  refine wpAny_holding (wpAny_bind (wpAny_bind (wpAny_bind (I.type.here ((looks_findIn X hne).here ?_)))))
  simp only [bind_ne]
  refine wpAny_bind (wpAny_askSetting (wpAny_ite ?_))
  split
  · exact wpAny_bind (wpAny_pure (wpAny_pure two))
  · exact wpAny_tryCatch (wpAny_bind (wpAny_pure (wpAny_pure two)))
/-- != of an object whose class has == of its own and no != -/
theorem ne_K {Q : Value → Shared → Prop} (hu : A.units + 1 < cLine) (F0 : Fr h₀ L s.heap m) (X₀ : K.In h₀) (I : InstAt s.heap x ox C od) (hb : Looks (model prog w) s.heap (typeOf b) tb) (hn : notFirst K C tb = true)
    (hs : findIn K (.ref C) "__eq__" = some (some (.ref f))) (hf : isFn K (.ref f) = true) (hne : findIn K (.ref C) "__ne__" = some (some (.builtin "object.__ne__"))) (hob : mroIn K C (.type "object") = some true)
    (h : wpAny (model prog w) A.in1 (call (.ref f) [.ref x, b]) (fun v s' => ∃ r, v = .bool r ∧ Q (.bool (!r)) s') E s) : wpAny (model prog w) A (richCompare .NotEq (.ref x) b) Q E s := by
  have X := X₀.keeps F0.keep
  have body : wpAny (model prog w) A.in1 (Builtin.«object.__ne__» ⟨[.ref x, b], []⟩) (fun fin s' => match fin with
      | .done f => wants (fun v s' => v ≠ .notImplemented ∧ Q v s') E (.ok f) s'
      | .again c' => c'.quiet = true ∧ codeAny (model prog w) A c' (wants (fun v s' => v ≠ .notImplemented ∧ Q v s') E) s') (fun e s' => wants (fun v s' => v ≠ .notImplemented ∧ Q v s') E (.error e) s') s := by
    unfold Builtin.«object.__ne__»
    repeat (first
      | with_reducible refine wpAny_cRoomFor (show A.in1.units < cLine from hu) ?_
      | (refine wpAny_bind (m := callSpecialIfBound? (.ref x) (Str.ofString "__eq__") [b]) (ifBound_K X I hs hf (wpAny_mono h (fun r s' hr => by
          obtain ⟨b', rfl, hq⟩ := hr
          repeat (first | exact ⟨(fun z => nomatch z), hq⟩ | exact wpAny_truthy_bool ⟨(fun z => nomatch z), hq⟩ | (refine wpAny_bind (m := truthy (.bool _)) (wpAny_truthy_bool ?_)) | wp_step)) fun _ _ e => e)))
      | wp_step)
  have one : wpAny (model prog w) A (tryCompare (.ref x) "__ne__" b) (fun r s' => ∃ v, r = some v ∧ Q v s') E s := by
    have sub : Looks (model prog w) s.heap (isInstance (.ref x) (.type "object")) true := I.type.andThen (looks_mroIn X hob)
    have run : wpAny (model prog w) A (call (.builtin "object.__ne__") [.ref x, b]) (fun v s' => v ≠ .notImplemented ∧ Q v s') E s :=
      wpAny_call (codeAny_call_builtin slot_ne.plain F.cmpEntry_ne (check_slot F.cmpKind_ne F.cmpSplit_ne sub (F.cmpArgs_ne _ _) body))
    unfold tryCompare
    refine wpAny_bind (ifBound_ne X I hne (wpAny_mono run (fun v s' hv => ?_) fun _ _ e => e))
    obtain ⟨n, hq⟩ := hv
    cases v <;> first | exact (n rfl).elim | exact wpAny_pure ⟨_, rfl, hq⟩
  unfold richCompare
  simp only [oneThing_ref]
  refine wpAny_holding (wpAny_bind (wpAny_cRoomFor (Nat.lt_of_succ_lt hu) ?_))
  refine wpAny_bind (I.type.here (wpAny_bind (hb.here ?_)))
  split
  · rename_i q
    have e : subIn K tb (.ref C) = some false := by
      rcases Bool.or_eq_true_iff.mp hn with e | e
      · rw [beq_iff_eq.mp e] at q; simp at q
      · exact beq_iff_eq.mp e
    refine wpAny_bind ((looks_subIn X e).here ?_)
    simp only [Bool.false_eq_true, if_false]
    refine wpAny_bind (wpAny_mono one (fun r s' z => ?_) fun _ _ e => e)
    obtain ⟨v, rfl, hq⟩ := z
    exact wpAny_pure hq
  · refine wpAny_bind (wpAny_pure ?_)
    simp only [Bool.false_eq_true, if_false]
    refine wpAny_bind (wpAny_mono one (fun r s' z => ?_) fun _ _ e => e)
    obtain ⟨v, rfl, hq⟩ := z
    exact wpAny_pure hq
end
end DnE
namespace Dn
open PySem PySem.Spec L2
/-! ### isinstance of an own class -/
def insB (K : PySem.W.Frag) (c : Nat) : Bool := decide (PySem.W.findIn K (.ref (He.ga K (clsName c))) "__class__" = some (some (.builtin "object.__class__"))) && (decide (PySem.W.specialIn K (.builtin "object.__class__") "__get__" = some (some (.builtin "getset_descriptor.__get__"))) &&
  (decide (PySem.W.takesIn K (.builtin "object.__class__") = some true) && decide (PySem.W.mroIn K (He.ga K (clsName c)) (.type "object") = some true)))
theorem ins_ok {K : PySem.W.Frag} {c : Nat} (cl : Cls K (He.ga K (clsName c))) (h : insB K c = true) : InsOk K c := by
  obtain ⟨h1, h⟩ := He.ba h
  obtain ⟨h2, h⟩ := He.ba h
  obtain ⟨h3, h4⟩ := He.ba h
  exact ⟨cl, of_decide_eq_true h1, of_decide_eq_true h2, of_decide_eq_true h3, of_decide_eq_true h4⟩
def flatTys : List String := ["NoneType", "bool", "int", "str", "tuple", "list"]
def isiB (K : PySem.W.Frag) (c : Nat) : Bool := (flatTys.all fun T => decide (PySem.W.kitOne K (.type T) (.ref (He.ga K (clsName c))) = some false)) && insB K c
def isiO (c : Nat) (d : D) : Option Bool := match d with
  | .ins c' _ => if c' = c then some true else none
  | .scr _ => none
  | _ => some false
theorem isi_own {K : PySem.W.Frag} {c : Nat} (cl : Cls K (He.ga K (clsName c))) (h : isiB K c = true) : IsiOk K (.ref (He.ga K (clsName c))) (isiO c) := by
  obtain ⟨h1, h2⟩ := He.ba h
  have fl : ∀ T ∈ flatTys, PySem.W.kitOne K (.type T) (.ref (He.ga K (clsName c))) = some false := fun T hT => of_decide_eq_true (List.all_eq_true.mp h1 T hT)
  refine ⟨fun d b e => ?_⟩
  cases d with
  | non => cases e; exact ⟨fl _ (by decide), fun c xs h => (nomatch h), fun ns h => (nomatch h)⟩
  | bl x => cases e; exact ⟨fl _ (by decide), fun c xs h => (nomatch h), fun ns h => (nomatch h)⟩
  | int x => cases e; exact ⟨fl _ (by decide), fun c xs h => (nomatch h), fun ns h => (nomatch h)⟩
  | str x => cases e; exact ⟨fl _ (by decide), fun c xs h => (nomatch h), fun ns h => (nomatch h)⟩
  | tup x => cases e; exact ⟨fl _ (by decide), fun c xs h => (nomatch h), fun ns h => (nomatch h)⟩
  | lst x => cases e; exact ⟨fl _ (by decide), fun c xs h => (nomatch h), fun ns h => (nomatch h)⟩
  | ins c' xs =>
    unfold isiO at e
    simp only at e
    split at e
    · rename_i hc
      subst hc
      cases e
      refine ⟨?_, fun c'' xs' z => ?_, fun ns h => (nomatch h)⟩
      · show PySem.W.kitOne K (.ref _) (.ref _) = _
        unfold PySem.W.kitOne
        rw [if_pos (by simp)]
      · cases z
        exact ins_ok cl h2
    · cases e
  | scr ns => cases e
/-! ### == and != by an own __eq__ -/
def eqB (K : PySem.W.Frag) (c : Nat) : Bool := decide (PySem.W.findIn K (.ref (He.ga K (clsName c))) "__ne__" = some (some (.builtin "object.__ne__"))) && ((flatTys.all fun T => PySem.W.notFirst K (He.ga K (clsName c)) (.type T)) && insB K c)
structure EqMt (X : Cx) (c : Nat) (f : Fn) : Prop where
  cl : Cls X.K (He.ga X.K (clsName c))
  eb : eqB X.K c = true
  ex : ∃ (k : Nat) (g : Addr) (fd : FuncData) (ps : List Str), Meth X.K (He.ga X.K (clsName c)) "__eq__" g ∧ FnOk X.prog X.w X.K X.mg X.base (L2.CX X.prog X.w) k g fd ps (spP X.K f) ∧ Room (k + 1) X.A ∧ Binds X.K fd ps []
theorem GdM.goodEq {X : Cx} {c k : Nat} {f : Fn} (G : GdM X.prog X.w X.K X.mg X.base c "__eq__" k f) (e : eqB X.K c = true) (hr : Room (k + 1) X.A) : EqMt X c f :=
  let ⟨g, fd, ps, h1, h2, h3, h4, _⟩ := G
  ⟨h1, e, k, g, fd, ps, h2, h3, hr, h4⟩
/-- what the other one may be -/
def okY (c : Nat) : D → Bool
  | .ins c' _ => decide (c' = c)
  | .scr _ => false
  | _ => true
def oEqC (c : Nat) (f : Fn) (neg : Bool) (x y : D) : Option D := match x with
  | .ins c' xs => if c' = c ∧ okY c y = true then (match f.app [.ins c' xs, y] with
    | .ok (.fz (.bl b)) => some (.bl (xor neg b))
    | _ => none) else none
  | _ => none
section
variable {X : Cx} {c : Nat} {f : Fn}
/-- what is asked of the two -/
def rEqC (X : Cx) (c : Nat) (f : Fn) (neg : Bool) : R2 := fun v w H Q => ∃ F xs y b, okY c y = true ∧ f.app [.ins c xs, y] = .ok (.fz (.bl b)) ∧ Same F H ∧ Rep X.K F (.ins c xs) v ∧ Rep X.K F y w ∧ ∀ F' H', Alloc F H F' H' → Q (.bl (xor neg b)) H'
theorem oEqC_r {neg : Bool} : ∀ x y z, oEqC c f neg x y = some z → ∀ F H v w Q, Same F H → Rep X.K F x v → Rep X.K F y w → (∀ u F' H', Alloc F H F' H' → Rep X.K F' z u → Q u H') → rEqC X c f neg v w H Q := by
  intro x y z e F H v w Q s rx ry q
  unfold oEqC at e
  split at e
  · rename_i c' xs
    split at e
    · rename_i hc
      obtain ⟨rfl, hy⟩ := hc
      split at e
      · rename_i b e2
        cases e
        exact ⟨F, xs, y, b, hy, e2, s, rx, ry, fun F' H' al => q _ F' H' al (by simp [Rep])⟩
      · cases e
    · cases e
  · cases e
theorem notFirst_ok {K : PySem.W.Frag} (h : eqB K c = true) {y : D} (hy : okY c y = true) : PySem.W.notFirst K (He.ga K (clsName c)) (tyD K y) = true := by
  obtain ⟨_, h⟩ := He.ba h
  obtain ⟨h1, _⟩ := He.ba h
  have fl := List.all_eq_true.mp h1
  cases y with
  | non => exact fl "NoneType" (by decide)
  | bl x => exact fl "bool" (by decide)
  | int x => exact fl "int" (by decide)
  | str x => exact fl "str" (by decide)
  | tup x => exact fl "tuple" (by decide)
  | lst x => exact fl "list" (by decide)
  | ins c' xs =>
    have : c' = c := of_decide_eq_true hy
    subst this
    simp [PySem.W.notFirst, tyD]
  | scr ns => cases hy
theorem run_eq (T : EqMt X c f) {B : Around} (hB : ∀ k, Room (k + 1) X.A → Room k B) (hfr : B.frames = X.A.frames) {pins : List (Addr × Obj)} {σ : St} {H F : Hp} {s : Shared} {a : Addr} {w : V} {u : Value} {xs : List D} {y : D} {b : Bool} (I : Inv X pins σ H s) (g : Addr) (hg : Meth X.K (He.ga X.K (clsName c)) "__eq__" g)
    (ra : Rep X.K F (.ins c xs) (.ref a)) (ry : Rep X.K F y w) (rw' : RelV w u) (e : f.app [.ins c xs, y] = .ok (.fz (.bl b))) (sF : Same F H) :
    wpAny (model X.prog X.w) B (call (.ref g) [.ref a, u]) (fun v s' => v = .bool b ∧ ∃ H' F', Inv X pins σ H' s' ∧ Alloc F H F' H') X.xe s := by
  obtain ⟨k, g', fd, ps, hm, F1, hr, hb⟩ := T.ex
  have eg : g' = g := by
    have := hm.at_.symm.trans hg.at_
    simpa using this
  subst eg
  have hsp : spP X.K f [.ref a, w] H (fun v H' => v = .bl b ∧ ∃ F', Alloc F H F' H') (WE (fun _ _ _ _ => False) σ) := by
    refine ⟨F, [.ins c xs, y], sF, .cons ra (.cons ry .nil), ?_⟩
    rw [e]
    intro v F' H' al r
    have r' : v = .bl b := by simpa [RepR, Rep] using r
    exact ⟨r', F', al⟩
  have e0 : Env0 X.prog X.w X.K X.mg X.base B X.stack s H := by
    have e := I.env0
    exact ⟨by rw [hfr]; exact e.frames, e.mod, e.bs, e.bsz, e.funs, e.frf, e.hok, e.bare⟩
  have hl := F1.len _ _ _ _ hsp
  have r2 : Vals [V.ref a, w] [Value.ref a, u] := .cons rfl (.cons rw' .nil)
  have hbt := hb s [.ref a, u] I.kIn (by simpa using hl)
  refine wpAny_call (codeAny_mono (F1.run B X.stack s H ⟨[.ref a, u], []⟩ [.ref a, u] [.ref a, w] _ _ (hB k hr) e0 (by simpa using hbt) r2 hsp) fun r s' hq => ?_)
  cases r with
  | error er => exact passAt tkF σ pins H s er s' I hq
  | ok fl =>
    cases fl with
    | ret z =>
      obtain ⟨v, H', I', rv, ev, F', al⟩ := I.after hq
      subst ev
      cases rv
      exact ⟨rfl, H', F', I', al⟩
    | next => exact False.elim hq
    | brk => exact False.elim hq
    | cont => exact False.elim hq
theorem op_eqC (T : EqMt X c f) : OpD X (compareOp .Eq) (oEqC c f false) := by
  refine ⟨⟨rEqC X c f false, ?_, oEqC_r⟩⟩
  intro pins s σ H x w v u Q I rx ry ⟨F, xs, y, b, hy, e, sF, r1, r2, q⟩
  have r1' := r1
  simp only [Rep] at r1
  obtain ⟨a, dx, vs, rfl, ha, _⟩ := r1
  cases rx
  obtain ⟨k, g, fd, ps, hm, F1, hr, hb⟩ := T.ex
  obtain ⟨h1, h2⟩ := He.ba T.eb
  obtain ⟨h3, h4⟩ := He.ba h2
  have IO := ins_ok T.cl h4
  obtain ⟨mA, J, _⟩ := ins_get I.hok (sF _ _ ha)
  obtain ⟨od, J, _⟩ := J.look
  obtain ⟨m, hF⟩ := I.fr
  obtain ⟨P, Z, p, _⟩ := kit_of I ry (rep_ty sF r2 (fun c' xs' z => by
    subst z
    have : c' = c := of_decide_eq_true hy
    subst this
    exact IO) fun ns z => by
    subst z
    cases hy)
  have hu : X.A.units < cLine := by have := hr.un; omega
  show wpAny (model X.prog X.w) X.A (richCompare .Eq (.ref a) u) (EP X pins σ Q) X.xe s
  refine PySem.W.cmp_K (op := .Eq) hu hF I.ok.mod.kin J (Z.ty _ _ I.kIn p) (notFirst_ok T.eb hy) hm.at_ hm.fn (wpAny_mono (run_eq T (fun k h => h.mono (Nat.le_succ k)) rfl I g hm r1' r2 ry e sF) (fun z s' hz => ?_) fun _ _ z => z)
  obtain ⟨rfl, H', F', I', al⟩ := hz
  exact ⟨.bl b, H', I', rfl, by simpa using q F' H' al⟩
theorem op_neC (T : EqMt X c f) : OpD X (compareOp .NotEq) (oEqC c f true) := by
  refine ⟨⟨rEqC X c f true, ?_, oEqC_r⟩⟩
  intro pins s σ H x w v u Q I rx ry ⟨F, xs, y, b, hy, e, sF, r1, r2, q⟩
  have r1' := r1
  simp only [Rep] at r1
  obtain ⟨a, dx, vs, rfl, ha, _⟩ := r1
  cases rx
  obtain ⟨k, g, fd, ps, hm, F1, hr, hb⟩ := T.ex
  obtain ⟨h1, h2⟩ := He.ba T.eb
  obtain ⟨h3, h4⟩ := He.ba h2
  have IO := ins_ok T.cl h4
  obtain ⟨mA, J, _⟩ := ins_get I.hok (sF _ _ ha)
  obtain ⟨od, J, _⟩ := J.look
  obtain ⟨m, hF⟩ := I.fr
  obtain ⟨P, Z, p, _⟩ := kit_of I ry (rep_ty sF r2 (fun c' xs' z => by
    subst z
    have : c' = c := of_decide_eq_true hy
    subst this
    exact IO) fun ns z => by
    subst z
    cases hy)
  have hu : X.A.units + 1 < cLine := by have := hr.un; omega
  show wpAny (model X.prog X.w) X.A (richCompare .NotEq (.ref a) u) (EP X pins σ Q) X.xe s
  refine DnE.ne_K hu hF I.ok.mod.kin J (Z.ty _ _ I.kIn p) (notFirst_ok T.eb hy) hm.at_ hm.fn (of_decide_eq_true h1) IO.hm (wpAny_mono (run_eq T (fun k h => h.in1) rfl I g hm r1' r2 ry e sF) (fun z s' hz => ?_) fun _ _ z => z)
  obtain ⟨rfl, H', F', I', al⟩ := hz
  refine ⟨b, rfl, .bl (!b), H', I', rfl, ?_⟩
  have := q F' H' al
  simpa using this
end
end Dn
namespace Dn
open PySem PySem.Spec L2
/-- by the own == where the left one is an object of the class, by the other rule elsewhere -/
def oEqW (c : Nat) (f : Fn) (neg : Bool) (o : D → D → Option D) : D → D → Option D := fun x y => (oEqC c f neg x y).or (o x y)
section
variable {X : Cx} {c : Nat} {f : Fn} {o : D → D → Option D}
theorem op_eqW (T : EqMt X c f) (h : OpD X (compareOp .Eq) o) : OpD X (compareOp .Eq) (oEqW c f false o) := (op_eqC T).or h
theorem op_neW (T : EqMt X c f) (h : OpD X (compareOp .NotEq) o) : OpD X (compareOp .NotEq) (oEqW c f true o) := (op_neC T).or h
theorem o_eqW {neg b : Bool} {xs : List D} {y : D} (h : okY c y = true) (e : f.app [.ins c xs, y] = .ok (.fz (.bl b))) : oEqW c f neg o (.ins c xs) y = some (.bl (xor neg b)) := by
  unfold oEqW oEqC
  simp only [h, and_self, if_true, e]
  rfl
theorem o_eqWn {neg : Bool} {x y : D} (h : ∀ c' xs, x ≠ .ins c' xs) : oEqW c f neg o x y = o x y := by
  unfold oEqW oEqC
  cases x with
  | ins c' xs => exact (h c' xs rfl).elim
  | _ => rfl
end
end Dn

set_option Elab.async false
set_option linter.all false
set_option maxRecDepth 100000
set_option maxHeartbeats 4000000
namespace Dn
open PySem PySem.Spec L2
/-! ### {'a': x, ..}[e] -/
def lookS (ks : List Str) (ds : List D) (k : D) : Option D := match k with
  | .str s => (ks.zip ds).lookup s
  | _ => none
def sDictIx (ks : List Str) (g : SeL) (b : Se) : Se := fun E => match g E with
  | .ok ds E1 => (match b E1 with
    | .ok k E2 => (match lookS ks ds k with
      | some d => .ok d E2
      | none => .bad)
    | _ => .bad)
  | _ => .bad
section
variable {X : Cx} {e0 : E0} {W : WX} {a b : Expr} {fa fb : Se} {g : SeL}
/-- the pairs, the keys written -/
def DPs (X : Cx) (e0 : E0) (W : WX) (keys : List (Option Expr)) (vals : List Expr) (ks : List Str) (g : SeL) : Prop :=
  ∀ pos : Pos, ∃ trs, PPs X pos keys vals trs ∧ ∀ σ H Q, rdL X.K e0 W g σ H (fun vs H' => Q ((ks.map V.str).zip vs) H') → tPairs trs σ H Q
theorem dps_nil : DPs X e0 W [] [] [] sNil := fun pos => ⟨[], pps_nil, fun σ H Q ⟨E, F, S, h⟩ => h [] F H Grow.refl S .nil⟩
theorem dps_cons {k : Str} {j : Nat} {p : Pos} {keys : List (Option Expr)} {vals : List Expr} {ks : List Str} (ha : DX X e0 W a fa) (hr : DPs X e0 W keys vals ks g) : DPs X e0 W (some (.Constant (.str k) j p) :: keys) (a :: vals) (k :: ks) (sCons fa g) := fun pos => by
  obtain ⟨trs, h1, h2⟩ := hr pos
  refine ⟨(tC (.str k), rd X.K e0 W fa) :: trs, pps_cons pe_str ha h1, fun σ H Q ⟨E, F, S, h⟩ => ?_⟩
  show rd X.K e0 W fa σ H fun y H2 => tPairs trs σ H2 fun ps H3 => Q ((.str k, y) :: ps) H3
  exact rdG_intro S (h.bind fun x v E1 F1 H1 G1 S1 R1 h3 => h2 _ _ _ (rdG_intro S1 (h3.bind fun xs vs E2 F2 H2 G2 S2 R2 h4 => h4.fin0 S2 (.cons (Rep.mono G2.sF _ _ R1) R2))))
/-- the dict's pairs by written keys -/
def kvsOf (ks : List Str) (vs : List V) : List (Key × V) := (ks.map Sum.inr).zip vs
theorem kvs_map : ∀ (ks : List Str) (vs : List V), (ks.map V.str).zip vs = (kvsOf ks vs).map fun kv => (kV kv.1, kv.2)
  | [], _ => rfl
  | _ :: _, [] => rfl
  | k :: ks, v :: vs => by
    have ih := kvs_map ks vs
    unfold kvsOf at ih ⊢
    simp only [List.map_cons, List.zip_cons_cons, ih]
    rfl
theorem putK_new {kvs : List (Key × V)} {k : Key} {v : V} (h : ∀ kv ∈ kvs, kv.1 ≠ k) : putK kvs k v = kvs ++ [(k, v)] := by
  unfold putK
  rw [if_neg]
  intro z
  obtain ⟨kv, h1, h2⟩ := List.any_eq_true.mp z
  exact h kv h1 (of_decide_eq_true h2)
theorem merge_app : ∀ (more kvs : List (Key × V)), (more.map (·.1)).Nodup → (∀ a ∈ kvs, ∀ b ∈ more, a.1 ≠ b.1) → mergeK kvs more = kvs ++ more
  | [], kvs, _, _ => by simp [mergeK]
  | p :: more, kvs, nd, h => by
    rw [List.map_cons, List.nodup_cons] at nd
    have e : mergeK kvs (p :: more) = mergeK (putK kvs p.1 p.2) more := rfl
    rw [e, putK_new fun kv hk => h kv hk p (by simp), merge_app more _ nd.2 fun a ha b hb => ?_]
    · simp
    · rcases List.mem_append.mp ha with ha | ha
      · exact h a ha b (by simp [hb])
      · rw [List.mem_singleton] at ha
        subst ha
        exact fun z => nd.1 (List.mem_map.mpr ⟨b, hb, z.symm⟩)
theorem val_look {K : PySem.W.Frag} {F : Hp} {s : Str} {d : D} : ∀ {ks : List Str} {ds : List D} {vs : List V}, RepL K F ds vs → (ks.zip ds).lookup s = some d → ∃ v, L2.valV (kvsOf ks vs) (.inr s) = some v ∧ Rep K F d v
  | [], _, _, _, h => by simp at h
  | _ :: _, [], _, _, h => by simp at h
  | k :: ks, d' :: ds, vs, r, h => by
    simp only [RepL] at r
    obtain ⟨v, ws, rfl, r1, r2⟩ := r
    rw [List.zip_cons_cons, List.lookup_cons] at h
    by_cases c : s = k
    · subst c
      simp only [beq_self_eq_true] at h
      cases h
      exact ⟨v, by unfold kvsOf; exact L2.valV_pos rfl, r1⟩
    · have cb : (s == k) = false := beq_eq_false_iff_ne.mpr c
      simp only [cb] at h
      obtain ⟨v', e, r'⟩ := val_look r2 h
      refine ⟨v', ?_, r'⟩
      unfold kvsOf at e ⊢
      rw [List.map_cons, List.zip_cons_cons]
      unfold L2.valV at e ⊢
      rw [List.find?_cons]
      have : decide ((Sum.inr k : Key) = Sum.inr s) = false := decide_eq_false fun z => c (Sum.inr.inj z).symm
      simp only [this]
      exact e
theorem keys_nd : ∀ {ks : List Str} (vs : List V), ks.Nodup → ((kvsOf ks vs).map (·.1)).Nodup := by
  intro ks vs nd
  have sub : ∀ (ks : List Str) (vs : List V), ((kvsOf ks vs).map (·.1)).Sublist (ks.map Sum.inr) := by
    intro ks
    induction ks with
    | nil => intro vs; exact List.Sublist.refl _
    | cons k ks ih =>
      intro vs
      cases vs with
      | nil => exact List.nil_sublist _
      | cons v vs => exact (ih vs).cons₂ _
  refine (sub ks vs).nodup ?_
  exact List.pairwise_map.mpr (nd.imp fun h e => h (Sum.inr.inj e))
theorem dx_dictIx {keys : List (Option Expr)} {vals : List Expr} {ks : List Str} {pos pos2 : Pos} (hu : X.A.units + 1 < cLine) (h : DPs X e0 W keys vals ks g) (hb : DX X e0 W b fb) (nd : ks.Nodup) (l15 : ks.length ≤ 15)
    (hall : keys.all (·.isSome) = true := by rfl) (hl : keys.length = vals.length := by rfl) (h0 : keys ≠ [] := by simp) (h15 : keys.length ≤ 15 := by decide) (hs : NoSl b := by intro _ _; rfl) :
    DX X e0 W (.Subscript (.Dict keys vals pos) b pos2) (sDictIx ks g fb) := by
  obtain ⟨trs, h1, h2⟩ := h pos
  refine PE.weak (pe_dget hu (pe_disp h1 hall hl h0 h15) hb hs) fun σ H Q ⟨E, F, S, hq⟩ => ?_
  unfold sDictIx at hq
  cases eg : g E with
  | ex x E1 => rw [eg] at hq; exact hq.elim
  | bad => rw [eg] at hq; exact hq.elim
  | ok ds E1 =>
    rw [eg] at hq
    simp only at hq
    cases eb : fb E1 with
    | ex x E2 => rw [eb] at hq; exact hq.elim
    | bad => rw [eb] at hq; exact hq.elim
    | ok k E2 =>
      rw [eb] at hq
      simp only at hq
      cases el : lookS ks ds k with
      | none => rw [el] at hq; exact hq.elim
      | some d =>
        rw [el] at hq
        simp only at hq
        unfold lookS at el
        split at el
        · rename_i s
          intro p hp
          have S1 := S.alloc (Alloc.newH S.sub hp (o := .dK []))
          have G1 := S.grow (Alloc.newH S.sub hp (o := .dK []))
          have fp : F p = none := fresh_F S.sub hp
          have np : ∀ i, ¬ Own (upd H p (.dK [])) σ E i p := fun i o => by
            obtain ⟨u, e, _⟩ := own_some S (G1.own i p o)
            rw [hp] at e
            cases e
          refine h2 _ _ _ (rdG_intro S1 (Post.ok eg fun vs F2 H2 G2 S2 R2 => ?_))
          have h2p : H2 p = some (.dK []) := G2.keep p _ upd_same np
          have f2p : F2 p = none := G2.nf p (by rw [upd_same]; exact fun z => nomatch z) fp np
          have n2p : ∀ i, ¬ Own H2 σ E1 i p := fun i o => np i (G2.own i p o)
          refine ⟨h2p, kvsOf ks vs, kvs_map ks vs, ?_, ?_⟩
          · unfold kvsOf
            rw [List.length_zip, List.length_map]
            omega
          · rw [merge_app _ _ (keys_nd vs nd) (fun a ha => by simp at ha), List.nil_append]
            have e0p : e0.H p = none := S.fresh0 hp
            have S3 := S2.mut (o := .dK (kvsOf ks vs)) f2p n2p e0p
            refine rdG_intro S3 (Post.ok eb fun y F4 H4 G4 S4 R4 => ?_)
            have n3p : ∀ i, ¬ Own (upd H2 p (.dK (kvsOf ks vs))) σ E1 i p := fun i o => n2p i ((own_mut S2 n2p).mp o)
            have h4p : H4 p = some (.dK (kvsOf ks vs)) := G4.keep p _ upd_same n3p
            simp only [Rep] at R4
            subst R4
            obtain ⟨v, ev, rv⟩ := val_look R2 el
            refine ⟨p, v, rfl, ?_, ?_⟩
            · have := DGet.k (k := .inr s) h4p
              rw [ev] at this
              exact this
            · refine hq v F4 H4 ⟨Same.tr (Same.tr G1.sF G2.sF) G4.sF, fun c o hc nc => ?_, fun c hc fc nc => ?_, fun c hc => ?_, fun i c o => ?_⟩ S4 (Rep.mono G4.sF _ _ rv)
              · have cp : c ≠ p := fun z => by subst z; rw [hp] at hc; cases hc
                have a1 : upd H p (.dK []) c = some o := by rw [upd_ne cp]; exact hc
                have n1 : ∀ i, ¬ Own (upd H p (.dK [])) σ E i c := fun i o' => nc i (G1.own i c o')
                have a2 := G2.keep c o a1 n1
                have a3 : upd H2 p (.dK (kvsOf ks vs)) c = some o := by rw [upd_ne cp]; exact a2
                exact G4.keep c o a3 fun i o' => n1 i (G2.own i c ((own_mut S2 n2p).mp o'))
              · have cp : c ≠ p := fun z => by subst z; exact hc hp
                have n1 : ∀ i, ¬ Own (upd H p (.dK [])) σ E i c := fun i o' => nc i (G1.own i c o')
                have a1 : upd H p (.dK []) c ≠ none := by rw [upd_ne cp]; exact hc
                have a2 := G2.nf c a1 fc n1
                have a3 : upd H2 p (.dK (kvsOf ks vs)) c ≠ none := by rw [upd_ne cp]; exact G2.dm c a1
                exact G4.nf c a3 a2 fun i o' => n1 i (G2.own i c ((own_mut S2 n2p).mp o'))
              · have cp : c ≠ p := fun z => by subst z; exact hc hp
                have a1 : upd H p (.dK []) c ≠ none := by rw [upd_ne cp]; exact hc
                exact G4.dm c (by rw [upd_ne cp]; exact G2.dm c a1)
              · exact G1.own i c (G2.own i c ((own_mut S2 n2p).mp (G4.own i c o)))
        · cases el
end
/-! meanings worked out -/
section
variable {E E1 : Sto} {ks : List Str} {g : SeL} {b : Se} {ds : List D} {k d : D}
def diM (r : Out (List D)) (ks : List Str) (b : Se) : Out D := match r with
  | .ok ds E1 => (match b E1 with
    | .ok k E2 => (match lookS ks ds k with
      | some d => .ok d E2
      | none => .bad)
    | _ => .bad)
  | _ => .bad
def di2M (r : Out D) (ks : List Str) (ds : List D) : Out D := match r with
  | .ok k E2 => (match lookS ks ds k with
    | some d => .ok d E2
    | none => .bad)
  | _ => .bad
def di3 (o : Option D) (E : Sto) : Out D := match o with
  | some d => .ok d E
  | none => .bad
theorem x_dictIx : sDictIx ks g b E = diM (g E) ks b := by
  unfold sDictIx diM
  rfl
theorem x_diO : diM (.ok ds E) ks b = di2M (b E) ks ds := by
  unfold diM di2M
  rfl
theorem x_di2 : di2M (.ok k E) ks ds = di3 (lookS ks ds k) E := by
  unfold di2M di3
  rfl
theorem x_di3 : di3 (some d) E = .ok d E := rfl
end
end Dn

set_option Elab.async false
set_option linter.all false
set_option maxRecDepth 100000
set_option maxHeartbeats 4000000
/-! a tuple, repeated; by its own author for this project -/
namespace DnE
open PySem PySem.Spec PyProof.Rows L2
theorem tuple_mul1 (l : Addr) (items : Array Value) (n : Nat) (dd : Option Addr) (sl : Array (Option Value)) (u : Tok) :
    Meets (Builtin.«tuple.__mul__» ⟨[.ref l, .int 1 u], []⟩) (fun _ R s => s.heap.get? l = some { cls := .type "tuple", dict := dd, data := .seq items n, slots := sl } ∧ R (.ok (.ret (Value.ref l))) s) :=
  .of_wp fun prog w A R s h => by
    obtain ⟨hp, g, d, tk, os⟩ := s
    obtain ⟨hl, h⟩ := h
    have f1 := AutoSeq1.idx_int
    have c0 : (decide ((1 : Int) < -(2 ^ 63)) || decide ((1 : Int) ≥ 2 ^ 63)) = false := by decide
    have c1 : (items.isEmpty || (1 : Int) == 1) = true := by simp
    wp_walk using wpAny_loadPart' hl
    repeat (first
      | (refine wpAny_ite_false (decide_eq_false (by rw [c0]; exact Bool.false_ne_true)) ?_; wp_walk using wpAny_loadPart' hl)
      | (refine wpAny_ite_true (decide_eq_true (by rw [c1])) ?_; wp_walk using wpAny_loadPart' hl))
    exact ⟨_, rfl, h⟩
theorem tuple_mul0 (l : Addr) (items : Array Value) (n : Nat) (dd : Option Addr) (sl : Array (Option Value)) (u : Tok) (hne : items.isEmpty = false) :
    Meets (Builtin.«tuple.__mul__» ⟨[.ref l, .int 0 u], []⟩) (fun _ R s => s.heap.get? l = some { cls := .type "tuple", dict := dd, data := .seq items n, slots := sl } ∧ R (.ok (.ret (Value.ref s.heap.objs.size))) { s with heap := s.heap.push (Dn.tobj []) }) :=
  .of_wp fun prog w A R s h => by
    obtain ⟨hp, g, d, tk, os⟩ := s
    obtain ⟨hl, h⟩ := h
    have f1 := AutoSeq1.idx_int
    have c0 : (decide ((0 : Int) < -(2 ^ 63)) || decide ((0 : Int) ≥ 2 ^ 63)) = false := by decide
    have c1 : (items.isEmpty || (0 : Int) == 1) = false := by rw [hne]; rfl
    have c2 : (decide ((0 : Int) ≤ 0) || items.isEmpty) = true := by simp
    wp_walk using wpAny_loadPart' hl
    repeat (first
      | (refine wpAny_ite_false (decide_eq_false (by rw [c0]; exact Bool.false_ne_true)) ?_; wp_walk using wpAny_loadPart' hl)
      | (refine wpAny_ite_false (decide_eq_false (by rw [c1]; exact Bool.false_ne_true)) ?_; wp_walk using wpAny_loadPart' hl)
      | (refine wpAny_ite_true (decide_eq_true (by rw [c2])) ?_; wp_walk using wpAny_loadPart' hl))
    exact ⟨_, rfl, h⟩
def rMulF (K : PySem.W.Frag) : R2 := fun x y H Q => ∃ l k xs, x = .ref l ∧ y = .int k ∧ SqT K H l xs ∧ xs ≠ [] ∧ 0 ≤ k ∧ k ≤ 1000 ∧ xs.length ≤ 1000 ∧ (k = 1 → Q (.ref l) H) ∧ (k ≠ 1 → ∀ p ob, ob.dict = none → H p = none → Q (.ref p) (upd H p (.frz ob (.tup (List.replicate k.toNat xs).flatten))))
theorem op_mulF {X : Cx} : OpR X (binaryOp .Mult) (rMulF X.K) := by
  intro pins s σ H x y v u Q I rx ry h
  obtain ⟨l, k, xs, rfl, rfl, hT, hne, h1, h2, hz, q1, q2⟩ := h
  cases rx
  obtain ⟨t, rfl⟩ := ry
  obtain ⟨its, r, ⟨⟨cls, dd, data, sl⟩, ho, hc, n, hd⟩, hs⟩ := I.tuple hT
  simp only at hc hd
  subst hc hd
  have hle : its.length = xs.length := r.length.symm
  have hn : its ≠ [] := fun e => hne (by
    rw [e] at hle
    exact List.eq_nil_of_length_eq_zero hle.symm)
  have hi : its.toArray.isEmpty = false := by
    cases its with
    | nil => exact absurd rfl hn
    | cons a b => rfl
  have hsz0 : its.toArray.size = xs.length := by rw [List.size_toArray, hle]
  have go : ∀ {G : Value → Shared → Prop}, wpAny (model X.prog X.w) X.A (call (.builtin "tuple.__mul__") [.ref l, .int k t]) G X.xe s → wpAny (model X.prog X.w) X.A (binaryOp .Mult (.ref l) (.int k t)) G X.xe s := fun {G} z =>
    wpAny_binaryOp_repeat_ref (T := "tuple") (U := "int") (by decide) ⟨_, ho, rfl⟩ (fun s' => typeIs_int s' k t) noFill_tuple_mul F.fills_int_mul F.slot_int_rmul repeat_tuple F.slot_int_index.lookup
      (call_meets F.slot_int_rmul (typeIs_int s k t) F.entry_int_rmul (F.args_int_rmul_2 _ _) (int_rmul_tuple k t l its.toArray n dd sl) ⟨ho, rfl, ⟨_, ho, rfl⟩, z⟩)
  refine go ?_
  have c3 : k = 1 ∨ k = 0 ∨ 2 ≤ k := by omega
  rcases c3 with rfl | rfl | h3
  · exact call_meets F.slot_tuple_mul ⟨_, ho, rfl⟩ F.entry_tuple_mul (F.args_tuple_mul_2 _ _) (tuple_mul1 l its.toArray n dd sl t) ⟨ho, ⟨.ref l, H, I, rfl, q1 rfl⟩⟩
  · refine call_meets F.slot_tuple_mul ⟨_, ho, rfl⟩ F.entry_tuple_mul (F.args_tuple_mul_2 _ _) (tuple_mul0 l its.toArray n dd sl t hi) ⟨ho, ?_⟩
    obtain ⟨J, f⟩ := Dn.pushT I (xs := []) (us := []) (Nat.zero_le _) .nil
    exact ⟨.ref _, _, J, rfl, q2 (by omega) _ (Dn.tobj []) rfl f⟩
  · have hm : ((its.toArray.size : Nat) : Int) * k ≤ 1000000 := by
      rw [hsz0]
      have a1 : ((xs.length : Nat) : Int) * k ≤ 1000 * k := Int.mul_le_mul_of_nonneg_right (by omega) (by omega)
      omega
    have flen : (List.replicate k.toNat its).flatten.length ≤ sizeLine := by
      rw [PyProof.Rows.lm_len_rep_flat, hle, sizeLine_eq]
      have a1 : k.toNat * xs.length ≤ 1000 * 1000 := Nat.mul_le_mul (by omega) hz
      omega
    have c0 : (decide (k < -(2 ^ 63)) || decide (k ≥ 2 ^ 63)) = false := by
      rw [decide_eq_false (by omega), decide_eq_false (by omega)] <;> rfl
    have c1 : (its.toArray.isEmpty || k == 1) = false := by
      rw [hi, Bool.false_or]
      exact beq_eq_false_iff_ne.mpr (by omega)
    have c2 : (decide (k ≤ 0) || its.toArray.isEmpty) = false := by
      rw [hi, Bool.or_false]
      exact decide_eq_false (by omega)
    have c4 : Builtin.Tuple.tupleTooMany (((its.toArray.size : Nat) : Int) * k) = false := by
      unfold Builtin.Tuple.tupleTooMany
      rw [sizeLine_eq]
      exact decide_eq_false (by omega)
    refine call_meets F.slot_tuple_mul ⟨_, ho, rfl⟩ F.entry_tuple_mul (F.args_tuple_mul_2 _ _) (tuple_mulW l its.toArray n dd sl k t c0 c1 c2 (by omega) c4 (by rw [size_rep, List.size_toArray]; exact flen)) ⟨ho, ?_⟩
    rw [size_rep]
    obtain ⟨J, f⟩ := Dn.pushT I (xs := (List.replicate k.toNat xs).flatten) (us := (List.replicate k.toNat its).flatten) (by rw [PyProof.Rows.lm_len_rep_flat, sizeLine_eq]; have a1 : k.toNat * xs.length ≤ 1000 * 1000 := Nat.mul_le_mul (by omega) hz; omega) (r.rep k.toNat)
    exact ⟨.ref _, _, J, rfl, q2 (by omega) _ (Dn.tobj _) rfl f⟩
end DnE
namespace Dn
open PySem PySem.Spec L2
/-- tuple * int -/
def oMulT : D → D → Option D
  | .tup xs, .int k => if xs ≠ [] ∧ 0 ≤ k ∧ k ≤ 1000 ∧ xs.length ≤ 1000 then some (.tup (List.replicate k.toNat xs).flatten) else none
  | _, _ => none
theorem od_mulT {X : Cx} : OpD X (binaryOp .Mult) oMulT := ⟨_, DnE.op_mulF, fun x y z e F H v w Q s rx ry k => by
  unfold oMulT at e
  split at e
  · rename_i xs i
    split at e
    · rename_i hc
      cases e
      simp only [Rep] at rx ry
      obtain ⟨a, vs, e1, g1, r1⟩ := rx
      subst e1 ry
      refine ⟨a, i, vs, rfl, rfl, (g1.mono s).sq, fun z => hc.1 (by
        subst z
        exact List.length_eq_zero_iff.mp r1.length), hc.2.1, hc.2.2.1, by rw [← r1.length]; exact hc.2.2.2, fun e1 => ?_, fun _ p ob hd hp => k _ _ _ (.new s hp) ?_⟩
      · subst e1
        refine k _ F H (.refl s) ?_
        simp only [Rep]
        exact ⟨a, vs, rfl, g1, by simpa using r1⟩
      · have z := same_upd (o := .frz ob (.tup (List.replicate i.toNat vs).flatten)) (fresh_F s hp)
        simp only [Rep]
        exact ⟨p, _, rfl, .new hd, rep_flat (RepL.mono z _ _ r1) _⟩
    · cases e
  · cases e⟩
end Dn
namespace Dn
open PySem PySem.Spec L2
def oPow : D → D → Option D
  | .int i, .int j => if 0 ≤ i ∧ i ≤ 1000 ∧ 0 ≤ j ∧ j ≤ 60 then some (.int (i ^ j.toNat)) else none
  | _, _ => none
theorem od_pow {X : Cx} : OpD X (binaryOp .Pow) oPow := opd_I (g := fun i j => .int (i ^ j.toNat)) op_pow (fun F i j => by simp [Rep]) fun x y z e => by
  cases x <;> cases y <;> simp [oPow] at e
  rename_i i j
  obtain ⟨⟨h1, h2, h3, h4⟩, rfl⟩ := e
  refine ⟨_, _, rfl, rfl, ?_, rfl⟩
  unfold CPow
  have h5 : i.natAbs ≤ 1000 := by omega
  exact ⟨h3, by omega, Nat.lt_of_le_of_lt h5 (by decide)⟩
end Dn

set_option Elab.async false
set_option linter.all false
set_option maxRecDepth 100000
set_option maxHeartbeats 4000000
/-! an own exception over ValueError whose __init__ says super().__init__(x); self.f = x -/
namespace Dn
open PySem PySem.Spec PyProof.Rows L2

def sxP (p : Arguments) : Option (Str × Str) := match p with
  | ⟨[], [⟨n1, none, _⟩, ⟨n2, none, _⟩], none, [], [], none, []⟩ => some (n1, n2)
  | _ => none
theorem sxP_ok {p : Arguments} {n1 n2 : Str} (h : sxP p = some (n1, n2)) : ∃ p1 p2, p = ⟨[], [⟨n1, none, p1⟩, ⟨n2, none, p2⟩], none, [], [], none, []⟩ := by
  unfold sxP at h
  split at h
  · simp only [Option.some.injEq, Prod.mk.injEq] at h
    obtain ⟨rfl, rfl⟩ := h
    exact ⟨_, _, rfl⟩
  · cases h
def sxS (b : FuncBody) : Option (List Str) := match b with
  | .stmts [.Expr (.Call (.Attribute (.Call (.Name n3 _) [] [] _) n4 q3) [.Name n5 _] [] q5) _, .Assign [.Attribute (.Name n6 _) n7 _] (.Name n8 _) _] => if (q3.endLine == q5.line) = true then some [n3, n4, n5, n6, n7, n8] else none
  | _ => none
theorem sxS_ok {b : FuncBody} {n3 n4 n5 n6 n7 n8 : Str} (h : sxS b = some [n3, n4, n5, n6, n7, n8]) : ∃ p1 p2 p3 p4 p5 p6 p7 p8 p9 p10,
    b = .stmts [.Expr (.Call (.Attribute (.Call (.Name n3 p1) [] [] p2) n4 p3) [.Name n5 p4] [] p5) p6, .Assign [.Attribute (.Name n6 p7) n7 p8] (.Name n8 p9) p10] ∧ (p3.endLine == p5.line) = true := by
  unfold sxS at h
  split at h
  · split at h
    · rename_i hq
      simp only [Option.some.injEq, List.cons.injEq, and_true] at h
      obtain ⟨rfl, rfl, rfl, rfl, rfl, rfl⟩ := h
      exact ⟨_, _, _, _, _, _, _, _, _, _, rfl, hq⟩
    · cases h
  · cases h
def sxC (K : PySem.W.Frag) (C : Addr) (cl : List (Str × Addr)) : Bool := match cl with
  | [(n, cc)] => decide (n = "__class__") && (match K.lookup cc with
    | some ⟨_, _, .cell (some (.ref D)), _⟩ => decide (D = C)
    | _ => false)
  | _ => false
theorem sxC_ok {K : PySem.W.Frag} {C : Addr} {cl : List (Str × Addr)} (h : sxC K C cl = true) : ∃ cc c1 c2 c3, cl = [(("__class__" : Str), cc)] ∧ K.lookup cc = some ⟨c1, c2, .cell (some (.ref C)), c3⟩ := by
  unfold sxC at h
  split at h
  · obtain ⟨h1, h2⟩ := Bool.and_eq_true_iff.mp h
    obtain rfl := of_decide_eq_true h1
    split at h2
    · obtain rfl := of_decide_eq_true h2
      exact ⟨_, _, _, _, rfl, by assumption⟩
    · cases h2
  · cases h
def sxF (K : PySem.W.Frag) (file : Str) (cd : Value) : Bool := match cd with
  | .ref cda => (match K.lookup cda with
    | some ⟨_, _, .fields vs, _⟩ => (match (vs[2]? : Option Value) with
      | some (Value.str fl _) => file == fl
      | _ => false)
    | _ => false)
  | _ => false
theorem sxF_ok {K : PySem.W.Frag} {file : Str} {cd : Value} (h : sxF K file cd = true) : ∃ cda c1 c2 vs c3 fl tf, cd = .ref cda ∧ K.lookup cda = some ⟨c1, c2, .fields vs, c3⟩ ∧ vs[2]? = some (.str fl tf) ∧ (file == fl) = true := by
  unfold sxF at h
  split at h
  · split at h
    · split at h
      · exact ⟨_, _, _, _, _, _, _, rfl, by assumption, by assumption, h⟩
      · cases h
    · cases h
  · cases h
def sxN (sc : Scope) (x : Str) : Bool := decide (sc.names.lookup ("super" : Str) = some .globalImplicit) && (decide (sc.names.lookup ("__class__" : Str) = some .free) && (decide (sc.names.lookup ("self" : Str) = some .local) && (decide (sc.names.lookup x = some .local) &&
  (sc.names.all (fun y => decide (y.2 ≠ .cell)) && (decide (sc.kind = .function) && (decide (sc.isCoroutine = false) && decide (sc.isGenerator = false)))))))
/-- the def C.__init__ -/
def sxD (K : PySem.W.Frag) (C : Addr) (file f x : Str) : Bool := match K.lookup (He.ma K C "__init__") with
  | some ⟨_, _, .func fd, _⟩ => decide (sxP fd.params = some (("self" : Str), x)) && (decide (sxS fd.body = some [("super" : Str), "__init__", x, "self", f, x]) && (decide (fd.globals = mainGlobals) && (decide (fd.builtins = builtinsNs) && (sxC K C fd.closure &&
      (decide (fd.defaults = .none) && (PySem.W.codeIn K fd.code fd.qualname && (sxF K file fd.code && sxN fd.scope x)))))))
  | _ => false
/-- the class C -/
def sxK (K : PySem.W.Frag) (C : Addr) (f : Str) : Bool := (match K.lookup C with
  | some ⟨.type "type", _, .cls cd, sl⟩ => (match cd.mro, sl.toList with
    | .ref C' :: bm, [_, _, _, _, some (.builtin n), _] => decide (C' = C) && (decide (n = "ValueError.__new__") && (decide (cd.hasDel = false) && (decide (cd.hasDict = true) && PySem.HandSPX.refsVE bm)))
    | _, _ => false)
  | _ => false) && (decide (PySem.W.findIn K (.ref C) "__setattr__" = some (some (.builtin "object.__setattr__"))) && (decide (PySem.W.subIn K (.ref C) (.type "BaseException") = some true) && (decide (PySem.W.typeIn K (.ref C) = some (.type "type")) && (PySem.W.keepIn K (.ref C) &&
   (decide (PySem.W.findIn K (.ref C) "__init__" = some (some (.ref (He.ma K C "__init__")))) && (decide (PySem.W.typeIn K (.ref (He.ma K C "__init__")) = some (.type "function")) && (decide (PySem.W.findIn K (.ref C) f = some none) &&
   (decide (PySem.W.ks_superIn K C C "__init__" = some (some (.builtin "ValueError.__init__"))) && (decide (PySem.W.subIn K (.ref C) (.type "ValueError") = some true) && decide (PySem.W.nsIn K cStatics "thirdparty.any" = some none))))))))))
def sxB (K : PySem.W.Frag) (file x f a : Str) : Bool := sxD K (He.ga K x) file f a && sxK K (He.ga K x) f
structure SxK (K : PySem.W.Frag) (C : Addr) (f : Str) : Prop extends OexC K C where
  ini : PySem.W.findIn K (.ref C) "__init__" = some (some (.ref (He.ma K C "__init__")))
  tyI : PySem.W.typeIn K (.ref (He.ma K C "__init__")) = some (.type "function")
  no : PySem.W.findIn K (.ref C) f = some none
  sup : PySem.W.ks_superIn K C C "__init__" = some (some (.builtin "ValueError.__init__"))
  ve : PySem.W.subIn K (.ref C) (.type "ValueError") = some true
  opq : PySem.W.nsIn K cStatics "thirdparty.any" = some none
theorem sxK_ok {K : PySem.W.Frag} {C : Addr} {f : Str} (h : sxK K C f = true) : SxK K C f := by
  unfold sxK at h
  obtain ⟨h1, h⟩ := Bool.and_eq_true_iff.mp h
  obtain ⟨h2, h⟩ := Bool.and_eq_true_iff.mp h
  obtain ⟨h3, h⟩ := Bool.and_eq_true_iff.mp h
  obtain ⟨h4, h⟩ := Bool.and_eq_true_iff.mp h
  obtain ⟨h5, h⟩ := Bool.and_eq_true_iff.mp h
  obtain ⟨h6, h⟩ := Bool.and_eq_true_iff.mp h
  obtain ⟨h7, h⟩ := Bool.and_eq_true_iff.mp h
  obtain ⟨h8, h⟩ := Bool.and_eq_true_iff.mp h
  obtain ⟨h9, h⟩ := Bool.and_eq_true_iff.mp h
  obtain ⟨h10, h11⟩ := Bool.and_eq_true_iff.mp h
  refine ⟨⟨?_, of_decide_eq_true h2, of_decide_eq_true h3, of_decide_eq_true h4, h5⟩, of_decide_eq_true h6, of_decide_eq_true h7, of_decide_eq_true h8, of_decide_eq_true h9, of_decide_eq_true h10, of_decide_eq_true h11⟩
  split at h1
  · rename_i dd cd sl ho
    split at h1
    · rename_i C' bm k0 k1 k2 k3 n k5 hm hs
      obtain ⟨g1, h1⟩ := Bool.and_eq_true_iff.mp h1
      obtain ⟨g2, h1⟩ := Bool.and_eq_true_iff.mp h1
      obtain ⟨g3, h1⟩ := Bool.and_eq_true_iff.mp h1
      obtain ⟨g4, g5⟩ := Bool.and_eq_true_iff.mp h1
      obtain rfl := of_decide_eq_true g1
      obtain rfl := of_decide_eq_true g2
      obtain ⟨nm, bs, mro, ns, qn, hd, sn, sub, ab, col, del⟩ := cd
      have g3' : del = false := of_decide_eq_true g3
      have g4' : hd = true := of_decide_eq_true g4
      have hm' : mro = .ref C' :: bm := hm
      subst g3' g4' hm'
      have hsl : sl = #[k0, k1, k2, k3, some (.builtin "ValueError.__new__"), k5] := by
        obtain ⟨l⟩ := sl
        simp only at hs
        rw [hs]
      subst hsl
      exact ⟨nm, qn, ns, bs, bm, sn, sub, ab, col, dd, k0, k1, k2, k3, k5, ho, g5⟩
    · cases h1
  · cases h1
/-- the def, taken apart -/
structure SxD (K : PySem.W.Frag) (C : Addr) (file f x : Str) (fI : Addr) : Prop where
  ex : ∃ (oc : Value) (od : Option Addr) (nm qual : Str) (scope : Scope) (kV doc pm : Value) (an : Option Addr) (cda : Addr) (ct : Value) (osl : Array (Option Value)) (cc : Addr) (c1 : Value) (c2 : Option Addr) (c3 : Array (Option Value)) (d1 : Value) (d2 : Option Addr) (d3 : Array (Option Value)) (vs : Array Value) (fl : Str) (tf : Tok)
    (a1 a2 p1 p2 p3 p4 p5 p6 p7 p8 p9 p10 : Pos),
    K.lookup fI = some ⟨oc, od, .func (PySem.W.fnX nm qual ⟨[], [⟨"self", none, a1⟩, ⟨x, none, a2⟩], none, [], [], none, []⟩
      [.Expr (.Call (.Attribute (.Call (.Name "super" p1) [] [] p2) "__init__" p3) [.Name x p4] [] p5) p6, .Assign [.Attribute (.Name "self" p7) f p8] (.Name x p9) p10] scope [(("__class__" : Str), cc)] .none kV doc pm an (.ref cda) ct), osl⟩ ∧
    K.lookup cc = some ⟨c1, c2, .cell (some (.ref C)), c3⟩ ∧ PySem.W.codeIn K (.ref cda) qual = true ∧ K.lookup cda = some ⟨d1, d2, .fields vs, d3⟩ ∧ vs[2]? = some (.str fl tf) ∧ (file == fl) = true ∧
    scope.names.lookup ("super" : Str) = some .globalImplicit ∧ scope.names.lookup ("__class__" : Str) = some .free ∧ scope.names.lookup ("self" : Str) = some .local ∧ scope.names.lookup x = some .local ∧ (∀ y ∈ scope.names, y.2 ≠ .cell) ∧ scope.kind = .function ∧ scope.isCoroutine = false ∧ scope.isGenerator = false ∧ (p3.endLine == p5.line) = true
theorem sxD_ok {K : PySem.W.Frag} {C : Addr} {file f x : Str} (h : sxD K C file f x = true) : SxD K C file f x (He.ma K C "__init__") := by
  unfold sxD at h
  split at h
  · rename_i oc od fd osl lk
    obtain ⟨h1, h⟩ := Bool.and_eq_true_iff.mp h
    obtain ⟨h2, h⟩ := Bool.and_eq_true_iff.mp h
    obtain ⟨h3, h⟩ := Bool.and_eq_true_iff.mp h
    obtain ⟨h4, h⟩ := Bool.and_eq_true_iff.mp h
    obtain ⟨h5, h⟩ := Bool.and_eq_true_iff.mp h
    obtain ⟨h6, h⟩ := Bool.and_eq_true_iff.mp h
    obtain ⟨h7, h⟩ := Bool.and_eq_true_iff.mp h
    obtain ⟨h8, h9⟩ := Bool.and_eq_true_iff.mp h
    unfold sxN at h9
    obtain ⟨n1, h9⟩ := Bool.and_eq_true_iff.mp h9
    obtain ⟨n2, h9⟩ := Bool.and_eq_true_iff.mp h9
    obtain ⟨n3, h9⟩ := Bool.and_eq_true_iff.mp h9
    obtain ⟨n4, h9⟩ := Bool.and_eq_true_iff.mp h9
    obtain ⟨n5, h9⟩ := Bool.and_eq_true_iff.mp h9
    obtain ⟨n6, h9⟩ := Bool.and_eq_true_iff.mp h9
    obtain ⟨n7, n8⟩ := Bool.and_eq_true_iff.mp h9
    obtain ⟨a1, a2, e1⟩ := sxP_ok (of_decide_eq_true h1)
    obtain ⟨p1, p2, p3, p4, p5, p6, p7, p8, p9, p10, e2, hq35⟩ := sxS_ok (of_decide_eq_true h2)
    obtain ⟨cc, c1, c2, c3, e5, lc⟩ := sxC_ok h5
    obtain ⟨cda, d1, d2, vs, d3, fl, tf, e8, ld, hv, hf⟩ := sxF_ok h8
    have e3 : fd.globals = mainGlobals := of_decide_eq_true h3
    have e4 : fd.builtins = builtinsNs := of_decide_eq_true h4
    have e6 : fd.defaults = .none := of_decide_eq_true h6
    obtain ⟨nm, qual, params, body, scope, gl, cl, dV, kV, doc, pm, an, cd, ct, bl⟩ := fd
    dsimp only at e1 e2 e3 e4 e5 e6 e8 h7 n1 n2 n3 n4 n5 n6 n7 n8
    subst e1 e2 e3 e4 e5 e6 e8
    exact ⟨oc, od, nm, qual, scope, kV, doc, pm, an, cda, ct, osl, cc, c1, c2, c3, d1, d2, d3, vs, fl, tf, a1, a2, p1, p2, p3, p4, p5, p6, p7, p8, p9, p10, lk, lc, h7, ld, hv, hf, of_decide_eq_true n1, of_decide_eq_true n2, of_decide_eq_true n3, of_decide_eq_true n4,
      fun y hy => of_decide_eq_true (List.all_eq_true.mp n5 y hy), of_decide_eq_true n6, of_decide_eq_true n7, of_decide_eq_true n8, hq35⟩
  · cases h

/-! ### the run of __init__ -/
section
variable {P : Program} {w : World} {K : PySem.W.Frag} {C fI : Addr} {file f x : Str} {mg mb : Str → Option Value} {A : Around} {R : Result → Shared → Prop}
theorem bind_sx {nm qual : Str} {body : List Stmt} {scope : Scope} {cl : List (Str × Addr)} {kV doc pm cdv ct : Value} {an : Option Addr} {a1 a2 : Pos} {u1 u2 : Value} (hx : x = "reason" ∨ x = "at") :
    bindArgs (PySem.W.fnX nm qual ⟨[], [⟨"self", none, a1⟩, ⟨x, none, a2⟩], none, [], [], none, []⟩ body scope cl .none kV doc pm an cdv ct) ⟨[u1, u2], []⟩ = pure [(("self" : Str), u1), (x, u2)] := by
  rcases hx with rfl | rfl <;> rfl
theorem eval_mc {o a1 : Expr} {y name : Str} {py apos pos : Pos} {env : Env} (h : (apos.endLine == pos.line) = true) : eval (.Call (.Attribute o name apos) [.Name y py] [] pos) env = (do
      let ov ← attributeBase o name env (eval o env)
      standAt apos.atName
      let (f, first) ← holding [ov] (getMethod ov name (do return (← importBound o env).getD true))
      callWith pos f first (backTo pos (starEach [.Name y py] env)) []) := by
  have e1 : methodCallPos true o env apos pos = pure pos := by
    unfold methodCallPos
    rw [h]
    rfl
  show (attributeBase o name env (eval o env) >>= fun ov => standAt apos.atName >>= fun _ => (holding [ov] (calleeOf true o env ov name) >>= fun p => methodCallPos true o env apos pos >>= fun cp => callWith cp p.1 p.2 (backTo pos (starEach [.Name y py] env)) [])) = _
  rw [e1]
  rfl
theorem sx_call {q e t0 : Addr} {u : Value} {nm qn : Str} {N : Addr} {bs bm : List Value} {hdct : Bool} {sn : List Str} {sub : List Value} {ab : Bool} {col : Option Bool} {dd : Option Addr} {k0 k1 k2 k3 k5 : Option Value} {h : Heap} {g : Array GenState} {d : Drawn} {t : Nat} {os : OsState} {Q : Value → Shared → Prop} {E : Value → Shared → Prop}
    (hC : h.get? C = some (excClassObj nm qn C N bs bm hdct sn sub ab col dd k0 k1 k2 k3 k5 "ValueError.__new__")) (he : h.get? e = some (PySem.HandSPX.excO C t0)) (hmw : h.get? q = some (PySem.W.kxs_mw "ValueError.__init__" e))
    (hq : ∀ h' t1, (∀ b o, b ≠ e → h.get? b = some o → h'.get? b = some o) → h'.get? e = some (PySem.HandSPX.excO C t1) → Q .none ⟨h', g, d, t, os⟩) :
    wpAny (model P w) A (call (.ref q) [u]) Q E ⟨h, g, d, t, os⟩ := by
  refine wpAny_call (codeAny_of_tree ?_)
  show wpAny _ A.in1 (callAny (.ref q) ⟨[u], []⟩) _ _ _
  simp only [callAny]
  refine wpAny_bind (wpAny_load hmw ?_)
  simp only [PySem.W.kxs_mw, show (Value.type "method-wrapper" == Value.type "method" || Value.type "method-wrapper" == Value.type "builtin_function_or_method" || Value.type "method-wrapper" == Value.type "method-wrapper") = true by decide, if_true]
  refine PySem.W.KFB.if_so (by decide) ?_
  refine wpAny_bind (PySem.W.check_bound_init PySem.F.excBase_ValueError.toExcCallFacts hC he rfl ?_)
  refine wpAny_bind (wpAny_pure (wpAny_pure ?_))
  refine ⟨plainId_quiet PySem.F.excBase_ValueError.init.plain _, codeAny_builtin PySem.F.excBase_ValueError.initEntry ?_⟩
  exact PySem.W.exc_init_tree (cls := .ref C) (t0 := t0) (dv := none) (c2 := .none) (c3 := .none) (b4 := .bool false) he (by simp [sizeLine_eq]) fun h4 k4 he4 _ => hq h4 _ k4 he4
theorem sx_run {e t0 : Addr} {u : Value} {hp : Heap} {g : Array GenState} {d : Drawn} {t : Nat} {os : OsState} (S : SxD K C file f x fI) (T : SxK K C f) (hx : x = "reason" ∨ x = "at") (hfile : (P.main.file == file) = true)
    (htop : (P.main.scope.names.lookup ("super" : Str)).isSome = false) (hroom : A.depth < recursionLimit) (X : K.In hp) (lim : hp.NoLimit) (G : hp.Ns mainGlobals mg) (hmg : mg "super" = none) (B : hp.Ns builtinsNs mb) (hmb : mb "super" = some (.type "super"))
    (he : hp.get? e = some (PySem.HandSPX.excO C t0)) (hKe : ∀ o, K.lookup e ≠ some o)
    (hq : ∀ h' t' (dx t1 : Addr), (∀ b o, b ≠ e → hp.get? b = some o → h'.get? b = some o) → hp.objs.size ≤ dx → dx ≠ e → h'.get? e = some ({ cls := .ref C, dict := some dx, data := .fields #[.ref t1, .none, .none, .none, .bool false, .none] } : Obj) →
      h'.Ns1 dx (fun y => if y = f then some u else none) → R (.ok (.ret .none)) ⟨h', g, d, t', os⟩) :
    codeAny (model P w) A (.call (.ref fI) ⟨[.ref e, u], []⟩) R ⟨hp, g, d, t, os⟩ := by
  obtain ⟨oc, od, nm, qual, scope, kV, doc, pm, an, cda, ct, osl, cc, c1, c2, c3, d1, d2, d3, vs, fl, tf, a1, a2, p1, p2, p3, p4, p5, p6, p7, p8, p9, p10, lk, lc, hcd, ld, hvs, hfl, n1, n2, n3, n4, n5, n6, n7, n8, hq35⟩ := S.ex
  obtain ⟨cnm, cq, N, bs, bm, sn, sub, ab, col, dd, k0, k1, k2, k3, k5, hC, hbm⟩ := T.cls
  have hcl : PySem.W.clsIn K C = some { name := cnm, bases := bs, mro := .ref C :: bm, ns := N, qualname := cq, hasDict := true, slotNames := sn, subclasses := sub, abstract := ab, collection := col, hasDel := false } := by unfold PySem.W.clsIn; rw [hC] <;> rfl
  obtain ⟨skind, snames, sgen, sco, smore⟩ := scope
  dsimp only at n1 n2 n3 n4 n5 n6 n7 n8
  subst n6 n7 n8
  have n6 : ScopeKind.function = ScopeKind.function := rfl
  have hxs : x ≠ ("self" : Str) := by rcases hx with rfl | rfl <;> decide
  have hfile2 : ((P.main.file : Str) == fl) = true := by
    rw [eq_of_beq hfile]
    exact hfl
  have hxdb : (x == ("__debug__" : Str)) = false := by rcases hx with rfl | rfl <;> decide
  refine ks_codeAny_call_defAt (binds := [(("self" : Str), Value.ref e), (x, u)]) hroom (X _ _ lk) rfl lim (PySem.W.codeRec_of X hcd) rfl (.of_eq (bind_sx hx)) n5 (fun y hy => ?_) (fun h₁ hns hk => ?_) rfl rfl rfl
  · rcases List.mem_cons.mp hy with rfl | hy
    · exact n3
    · rcases List.mem_cons.mp hy with rfl | hy
      · exact n4
      · simp at hy
  have X1 : K.In h₁ := X.keeps hk
  have he1 := hk _ _ he
  have hself : List.lookup ("self" : Str) ([(("self" : Str), Value.ref e), (x, u)] : List (Str × Value)).reverse = some (Value.ref e) := by
    have : (("self" : Str) == x) = false := by simpa using Ne.symm hxs
    simp [List.lookup, this]
  have hxv : List.lookup x ([(("self" : Str), Value.ref e), (x, u)] : List (Str × Value)).reverse = some u := by
    simp [List.lookup]
  refine ks_wpAt_execs_cons (ks_wpAt_Expr_any (ks_wpAt_MethodCall (he := eval_mc (a1 := .Name x p4) hq35) ?_))
  refine ks_wpAt_super_base n1 n2 (by decide) rfl (X1 _ _ lk) rfl rfl rfl (X1 _ _ ld) rfl hvs hfile2 htop ?_
  refine PySem.W.ks_loadName_global n6 n1 (PySem.Calls.loadGlobal_builtin (G.keeps hk) hmg (B.keeps hk) hmb ⟨rfl, ?_⟩)
  refine wpAny_loadName_free n6 n2 rfl ⟨_, X1 _ _ lc, rfl⟩ ?_
  refine wpAny_loadName_local n6 n3 hns hself ?_
  refine ks_wpAny_isType_cls (X1 _ _ hC) rfl ⟨rfl, ?_⟩
  have hmr : PySem.W.mroIn K C (.ref C) = some true := by
    unfold PySem.W.mroIn
    rw [hcl, Option.bind_some, if_neg (show ¬ (List.isEmpty (Value.ref C :: bm) = true) from Bool.false_ne_true)]
    simp
  refine ks_wpAny_call_super (X1 _ _ hC) rfl he1 rfl (fun c z => by cases z) (PySem.W.looks_mroIn X1 hmr) (fun h₂ hso hk2 => ?_)
  have X2 : K.In h₂ := X1.keeps hk2
  have he2 := hk2 _ _ he1
  have hns2 := hns.keeps hk2
  have hsup := T.sup
  unfold PySem.W.ks_superIn at hsup
  rw [hcl] at hsup
  have I2 : PySem.W.InstAt h₂ e (PySem.HandSPX.excO C t0) C none := ⟨he2, rfl, rfl, trivial⟩
  have hI : PySem.W.Looks (model P w) h₂ (isInstance (.ref e) (.type "ValueError")) true := I2.type.andThen (PySem.W.looks_subIn X2 T.ve)
  refine PySem.W.kxs_getMethod PySem.W.kxs_ValueError hso (PySem.W.looks_opaque X2 T.opq) (l₀ := .ref C :: bm) ?_ rfl X2 hsup hI (PySem.W.ks_ne X2 I2 hcl) (by decide) ?_
  · exact fun A Q E s k q => wpAny_bind ((PySem.W.looks_clsIn X2 hcl) A _ E s k (wpAny_pure q))
  have hmw : (h₂.push (PySem.W.kxs_mw "ValueError.__init__" e)).get? h₂.objs.size = some (PySem.W.kxs_mw "ValueError.__init__" e) := Heap.get?_push_at rfl rfl
  have hk3 : ∀ b o, h₂.get? b = some o → (h₂.push (PySem.W.kxs_mw "ValueError.__init__" e)).get? b = some o := fun b o z => Heap.get?_push_of_some _ z
  have hns3 := hns2.keeps hk3
  have X3 := X2.keeps hk3
  have he3 := hk3 _ _ he2
  refine PySem.W.kxs_callWith (i := "ValueError.__init__") (x := e) rfl (PySem.Calls.evalArgs_plain (PySem.Calls.spliced_cons (wpAny_Name (wpAny_loadName_local n6 n4 hns3 hxv (PySem.Calls.spliced_nil ⟨hmw, ?_⟩)) hxdb)))
  have hmw3 := hmw
  generalize h₂.push (PySem.W.kxs_mw "ValueError.__init__" e) = h₃ at hmw3 hk3 hns3 X3 he3 ⊢
  show wpAny _ _ (call (.ref h₂.objs.size) [u]) _ _ _
  refine sx_call (X3 _ _ hC) he3 hmw3 fun h₄ t4 k4 he4 => ?_
  have X4 : K.In h₄ := fun b o lb => k4 b o (fun z => hKe o (by rw [← z]; exact lb)) (X3 b o lb)
  have hLe : hp.objs.size ≠ e := Nat.ne_of_gt (Heap.lt_size he)
  have hns4 := hns3.at' fun o z => k4 _ o hLe z
  refine ks_wpAt_execs_cons (ks_wpAt_Assign_Attr (wpAt_of_wpAny (wpAny_Name (wpAny_loadName_local n6 n4 hns4 hxv (wpAny_Name (wpAny_loadName_local n6 n3 hns4 hself ?_) (by decide))) hxdb)))
  refine PySem.W.set_plain X4 (ox := PySem.HandSPX.excO C t4) (od := none) ⟨he4, rfl, rfl, trivial⟩ T.sa ?_
  refine PySem.HandSPX.exc_osa X4 he4 hcl hbm rfl T.no (fun h₅ tk dx k5 dn dne hx5 hn5 => ?_)
  have up : ∀ b o, b ≠ e → hp.get? b = some o → h₄.get? b = some o := fun b o nb z => k4 b o nb (hk3 b o (hk2 b o (hk b o z)))
  have sz : hp.objs.size ≤ h₄.objs.size := by
    obtain ⟨o, es, ep, ho, _⟩ := hns4
    exact Nat.le_of_lt (Heap.lt_size ho)
  refine wpAt_of_wpAny (wpAny_execs_nil ?_)
  exact hq h₅ _ dx t4 (fun b o nb z => k5 b o nb (up b o nb z)) (Nat.le_trans sz dn) dne hx5 hn5
end
end Dn

set_option Elab.async false
set_option linter.all false
set_option maxRecDepth 100000
set_option maxHeartbeats 4000000
/-! raise C(x) of such a class -/
namespace Dn
open PySem PySem.Spec PyProof.Rows L2

/-- the program's file, no global of the name super -/
structure PFile (P : Program) (file : Str) : Prop where
  file : (P.main.file == file) = true
  sup : (P.main.scope.names.lookup ("super" : Str)).isSome = false
def tSx (C : Addr) (f : Str) (ta : TA) : L2.St → Hp → XK → Prop := fun σ H Q => ta σ H fun vs H1 => ∃ v, vs = [v] ∧ ∀ d, H1 d = none → Q (.ref C) (some d) (upd H1 d (.xd [(f, v)]))
section
variable {X : Cx} {C : Addr} {file f a nm : Str} {e : Expr} {ta : TA} {p pos : Pos}
theorem pmk_sx (S : SxD X.K C file f a (He.ma X.K C "__init__")) (T : SxK X.K C f) (ha2 : a = "reason" ∨ a = "at") (PF : PFile X.prog file) (hs : X.mg "super" = none) (hr : Room 0 X.A) (hg : Gl X nm) (hm : X.mg nm = some (.ref C)) (ha : PA X [e] ta)
    (hdb : (nm == ("__debug__" : Str)) = false := by decide) (he : starEach [e] X.env = (false, eval e X.env) :: starEach [] X.env := by rfl) (hpl : (backTo pos (starEach [] X.env)).any (·.1) = false := by rfl) :
    PMk X (.Call (.Name nm p) [e] [] pos) (tSx C f ta) := by
  intro pins s σ H Q I h
  obtain ⟨cnm, cq, N, bs, bm, sn, sub, ab, col, dd, k0, k1, k2, k3, k5, hC, hbm⟩ := T.cls
  refine wpAny_Call_Name_kw (ld_glob I hg hm ?_ hdb)
  refine PySem.W.callWith_K (h₀ := X.base) I.ok.mod.kin T.kC (thn (ha.run pos pins s σ H _ I h) fun us s1 ⟨vs, H1, I1, r1, v, ev, q1⟩ => ⟨I1.kIn, ?_⟩) he hpl
  subst ev
  obtain ⟨u, rfl, rv⟩ : ∃ u, us = [u] ∧ RelV v u := by
    cases r1 with
    | cons r rs =>
      cases rs
      exact ⟨_, rfl, r⟩
  show wpAny _ _ (call (.ref C) [u]) _ _ _
  obtain ⟨hp, g, dr, tk, os⟩ := s1
  have hsz : hp.objs.size ≤ hp.objs.size + 1 := Nat.le_succ _
  have hn : H1 (hp.objs.size + 1) = none := I1.hok.fresh hsz
  have kk : ∀ b o, hp.get? b = some o → ((hp.push (PySem.W.kdv_tup [u])).push (PySem.HandSPX.excO C hp.objs.size)).get? b = some o := fun b o e => Heap.get?_push_of_some _ (Heap.get?_push_of_some _ e)
  have hget : ((hp.push (PySem.W.kdv_tup [u])).push (PySem.HandSPX.excO C hp.objs.size)).get? (hp.objs.size + 1) = some (PySem.HandSPX.excO C hp.objs.size) := by heap_get
  have I2 : Inv X pins σ (upd H1 (hp.objs.size + 1) (exo (hp.objs.size + 1) C none)) ⟨(hp.push (PySem.W.kdv_tup [u])).push (PySem.HandSPX.excO C hp.objs.size), g, dr, tk, os⟩ :=
    I1.laid (t' := tk) (a := hp.objs.size + 1) (o := exo (hp.objs.size + 1) C none) (h' := (hp.push (PySem.W.kdv_tup [u])).push (PySem.HandSPX.excO C hp.objs.size)) kk hsz (exo_ok hget)
  have hps : hp.objs.size ≤ ((hp.push (PySem.W.kdv_tup [u])).push (PySem.HandSPX.excO C hp.objs.size)).objs.size := Nat.le_of_lt (Nat.lt_of_le_of_lt hsz (Heap.lt_size hget))
  obtain ⟨mb, hb1, hb2⟩ := I2.mod.blt
  have hKe : ∀ o, X.K.lookup (hp.objs.size + 1) ≠ some o := fun o z => absurd (Heap.lt_size (I1.kIn _ _ z)) (Nat.not_lt.mpr hsz)
  refine wpAny_call (PySem.HandSPX.call_own PySem.F.excBase_ValueError (fun Y => PySem.HandSPX.refsVE_contains Y bm hbm) (I1.kIn _ _ hC) (PySem.W.looks_findIn I1.kIn T.ini) (fun self => PySem.W.bind_fn I1.kIn self T.tyI) (by simp [sizeLine_eq])
    (sx_run S T ha2 PF.file PF.sup (by rw [make_depth]; have := hr.dp; omega) I2.kIn I2.nolimit (I2.mod.glob.keeps I2.bk) hs (hb1.keeps I2.bk) ((hb2 "super" (by decide)).trans (by decide +kernel)) hget hKe fun h' t' dx t1 k dn dne hx hns => ?_))
  refine ⟨rfl, ?_⟩
  have hd1 : H1 dx = none := I1.hok.fresh (Nat.le_trans hps dn)
  have nd : ∀ {b : Addr} {o : Obj}, ((hp.push (PySem.W.kdv_tup [u])).push (PySem.HandSPX.excO C hp.objs.size)).get? b = some o → b ≠ dx := fun {b o} q => Nat.ne_of_lt (Nat.lt_of_lt_of_le (Heap.lt_size q) dn)
  generalize hb : hp.objs.size + 1 = ea at *
  have e1 : (upd H1 ea (exo ea C none)) ea = some (exo ea C none) := upd_same
  have hnd : (upd H1 ea (exo ea C none)) dx = none := by rw [upd_ne dne]; exact hd1
  have na : ∀ {b : Addr}, (upd H1 ea (exo ea C none)) b = none → b ≠ ea := fun {b} n z => by
    rw [z, e1] at n
    cases n
  generalize hG : upd H1 ea (exo ea C none) = G at *
  have Un1 : Un (frs X.stack) [] G (upd (upd G dx (exd dx [(f, v)])) ea (exo ea C (some dx))) ((hp.push (PySem.W.kdv_tup [u])).push (PySem.HandSPX.excO C hp.objs.size)) h' := {
    keep := fun b o q n _ _ => k b o (na n) q
    slot := fun b o q n _ _ => ⟨o.slots, k b o (na n) q⟩
    free := fun b o q n _ => by rw [upd_ne (na n), upd_ne (nd q)]; exact n
    there := fun b o q _ => by
      by_cases hb : b = ea
      · exact ⟨_, by rw [hb]; exact hx⟩
      · exact ⟨o, k b o hb q⟩
    tups := fun b xs q => by rw [upd_ne (at_ne e1 q exo_tup), upd_ne (ne_of_none q hnd)]; exact q
    frzs := fun b o v q => by rw [upd_ne (at_ne e1 q exo_frz), upd_ne (ne_of_none q hnd)]; exact q
    tbls := fun b ps q => ⟨#[], by rw [upd_ne (at_ne e1 q exo_tbl), upd_ne (ne_of_none q hnd), q]; simp⟩ }
  have hok2 : HOk X.prog X.w (upd (upd G dx (exd dx [(f, v)])) ea (exo ea C (some dx))) h' := fun b o q => by
    by_cases hb : b = ea
    · subst hb
      rw [upd_same] at q
      cases q
      exact exo_ok hx
    · rw [upd_ne hb] at q
      by_cases hd : b = dx
      · subst hd
        rw [upd_same] at q
        cases q
        exact exd_ok hns (relO_put (fs := []) rv fun g => True.intro)
      · rw [upd_ne hd] at q
        exact (I2.hok b o q).stay (fun c v hc z => k c v (by
            rcases hc with hc | hc
            · rw [hc]
              exact hb
            · exact at_ne e1 hc exo_own) z)
          (fun c hc => by rw [upd_ne (at_ne e1 hc exo_own), upd_ne (ne_of_none hc hnd)]; exact hc) (fun c xs hc => by rw [upd_ne (at_ne e1 hc exo_tup), upd_ne (ne_of_none hc hnd)]; exact hc)
  have q2 := q1 dx hd1
  subst hG
  refine mk_end (C := C) (d := dx) (fs := [(f, v)]) (raises_own T.exC T.tyC) I1 hsz kk Un1 hok2 rfl I1.bare upd_same (by rw [upd_ne dne, upd_same]) hd1 ?_
  have hfin : upd (del (upd (upd (upd H1 ea (exo ea C none)) dx (exd dx [(f, v)])) ea (exo ea C (some dx))) ea) dx (.xd [(f, v)]) = upd H1 dx (.xd [(f, v)]) := by
    funext b
    by_cases h1 : b = dx
    · rw [h1, upd_same, upd_same]
    · rw [upd_ne h1, upd_ne h1]
      by_cases h2 : b = ea
      · rw [h2, del_same, hn]
      · rw [del_ne h2, upd_ne h2, upd_ne h1, upd_ne h2]
  rw [hfin]
  exact q2
end
section
variable {X : Cx} {e0 : E0} {W : WX} {f x a file : Str} {c : Nat} {e : Expr} {g : SeL} {p pos pos' : Pos}
def sRaiseF (c : Nat) (g : SeL) : Ss := fun E => (g E).then fun ds E1 => match ds with
  | [d] => .ex ⟨c, [d]⟩ E1
  | _ => .bad
theorem ds_raiseF (hx : x = xnName c) (hf : xnFld c = some f) (hB : sxB X.K file x f a = true) (ha2 : a = "reason" ∨ a = "at") (PF : PFile X.prog file) (hs : X.mg "super" = none) (hr : Room 0 X.A) (gC : X.mg x = some (.ref (He.ga X.K x))) (hg : Gl X x) (hc : X.calm = true) (tk : Takes X W)
    (ha : DA X e0 W [e] g) (hdb : (x == ("__debug__" : Str)) = false := by decide) (he : starEach [e] X.env = (false, eval e X.env) :: starEach [] X.env := by rfl) :
    DS X e0 W (.Raise (some (.Call (.Name x p) [e] [] pos)) none pos') (sRaiseF c g) := by
  obtain ⟨h1, h2⟩ := Bool.and_eq_true_iff.mp hB
  refine PS.weak (ps_raise hc tk (pmk_sx (sxD_ok h1) (sxK_ok h2) ha2 PF hs hr hg gC ha hdb he rfl)) fun D σ H ⟨E, F, S, h⟩ => ?_
  refine rdG_intro S (PostS.bind h fun ds vs E1 F1 H1 G1 S1 R1 h1 => ?_)
  match ds, R1, h1 with
  | [d], R1, h1 =>
    simp only [RepL] at R1
    obtain ⟨v, ws, rfl, r, rfl⟩ := R1
    refine ⟨v, rfl, fun dd hd => ?_⟩
    have S2 := S1.mut (o := .xd [(f, v)]) (fresh_F S1.sub hd) (fun i o => by
      obtain ⟨u, z, _⟩ := own_some S1 o
      rw [hd] at z
      cases z) (S1.fresh0 hd)
    refine h1 _ _ σ F1 _ S2 ⟨by rw [hx], ?_⟩
    simp only [hf]
    exact ⟨dd, v, d, rfl, upd_same, rfl, r⟩
  | [], R1, h1 => exact h1.elim
  | _ :: _ :: _, R1, h1 => exact h1.elim
end
end Dn

set_option Elab.async false
set_option linter.all false
set_option maxRecDepth 100000
set_option maxHeartbeats 4000000
/-! try with one clause whose suite hands back a value -/
namespace Dn
open PySem PySem.Spec PyProof.Rows L2

/-- the clause of class h takes of the classes cs just h -/
def HitOk (K : PySem.W.Frag) (cs : List Nat) (h : Nat) : Prop := ∀ k ∈ cs, PySem.W.exmOne K (.ref (He.ga K (xnName k))) (.ref (He.ga K (xnName h))) = some (k == h)
def hitB (K : PySem.W.Frag) (cs : List Nat) (h : Nat) : Bool := cs.all fun k => decide (PySem.W.exmOne K (.ref (He.ga K (xnName k))) (.ref (He.ga K (xnName h))) = some (k == h))
theorem hitB_ok {K : PySem.W.Frag} {cs : List Nat} {h : Nat} (e : hitB K cs h = true) : HitOk K cs h := fun k hk => of_decide_eq_true (List.all_eq_true.mp e k hk)
def sTry (b : Ss) (cs : List Nat) (h : Nat) (t : Xn → Sto → So) : Ss := fun E => match b E with
  | .ex x E1 => if cs.contains x.c = true then (if x.c = h then (match t x E1 with
    | .rt r E2 => .rt r E2
    | _ => .bad) else .ex x E1) else .bad
  | r => r
/-- the value of an expression over the exception, handed back -/
def hRet (i : Nat) (t : Xn → Option D) : Xn → Sto → So := fun x E => match t x with
  | some y => if i < E.length then .rt (.fz y) (E.set i .un) else .bad
  | none => .bad
def hPlain (f : Ss) : Xn → Sto → So := fun _ E => f E
section
variable {K : PySem.W.Frag} {e0 : E0} {F H : Hp} {σ : L2.St} {E : Sto}
theorem own_setUn {i j : Nat} {o : Option V} {p : Addr} (h : Own H (σ.set i o) (E.set i .un) j p) : Own H σ E j p := by
  unfold Own at h ⊢
  by_cases e : j = i
  · subst e
    cases q : E[j]? with
    | none =>
      have hl : ¬ j < E.length := by
        rw [List.getElem?_eq_none_iff] at q
        omega
      rw [List.getElem?_eq_none (by simp; omega)] at h
      exact h.elim
    | some s =>
      have hl : j < E.length := (List.getElem?_eq_some_iff.mp q).1
      rw [List.getElem?_set_self hl] at h
      exact h.elim
  · rw [List.getElem?_set_ne (Ne.symm e), List.getElem?_set_ne (Ne.symm e)] at h
    exact h
theorem bor_setUn {i j : Nat} {o : Option V} {p : Addr} (h : Own H (σ.set i o) (E.set i .un) j p) : (E.set i .un)[j]? = E[j]? := by
  by_cases e : j = i
  · subst e
    unfold Own at h
    by_cases hl : j < E.length
    · rw [List.getElem?_set_self hl] at h
      exact h.elim
    · rw [List.getElem?_eq_none (by simp; omega), List.getElem?_eq_none (by omega)]
  · rw [List.getElem?_set_ne (Ne.symm e)]
theorem SI.setUn (S : SI K e0 F H σ E) (i : Nat) (o : Option V) : SI K e0 F H (σ.set i o) (E.set i .un) where
  len := by simp [S.len]
  sub := S.sub
  rel := fun j s hj => by
    by_cases e : j = i
    · subst e
      have hl : j < E.length := by
        by_cases hl : j < E.length
        · exact hl
        · rw [List.getElem?_eq_none (by simp; omega)] at hj
          cases hj
      rw [List.getElem?_set_self hl] at hj
      cases hj
      trivial
    · rw [List.getElem?_set_ne (Ne.symm e)] at hj ⊢
      exact S.rel j s hj
  apart := fun j k p a b => S.apart j k p (own_setUn a) (own_setUn b)
  f0 := S.f0
  h0 := S.h0
  nf := S.nf
  ow := fun j p h => by
    rw [bor_setUn h]
    exact S.ow j p (own_setUn h)
  dm := S.dm
end
/-- an expression of the suite: y is its value where the exception is x -/
def rdE (K : PySem.W.Frag) (e0 : E0) (i h : Nat) (a : Addr) (cls : Value) (d : Option Addr) (t : Xn → Option D) : TE := fun σ H Q => ∃ x E F y, SI K e0 F H σ E ∧ RepX K F H x cls d ∧ x.c = h ∧ σ[i]? = some (some (.ref a)) ∧ t x = some y ∧
  ∀ v F' H', Alloc F H F' H' → Rep K F' y v → Q v H'
def DE (X : Cx) (e0 : E0) (i h : Nat) (e : Expr) (t : Xn → Option D) : Prop := ∀ (a : Addr) (oe : Obj) (cls : Value) (d : Option Addr) (pn : List (Addr × Obj)), Zc cls d oe → (∃ vs, oe.data = .fields vs) → PE (X.suite a ((a, oe) :: pn)) e (rdE X.K e0 i h a cls d t)
section
variable {X : Cx} {e0 : E0} {W : WX} {x n : Str} {i h : Nat} {cs : List Nat} {body suite : List Stmt} {b₀ : Stmt} {np pos pos' : Pos} {fb fs : Ss} {t : Xn → Option D} {e : Expr} {f : Str}
/-- e.f -/
def tFld (x : Xn) : Option D := x.xs.head?
theorem de_fld {p p' : Pos} (T : XfC X.K (He.ga X.K (xnName h))) (hno : PySem.W.findIn X.K (.ref (He.ga X.K (xnName h))) f = some none) (hf : xnFld h = some f) (hN : X.N[i]? = some n) (hv : Vis X.env.scope n)
    (hd : (n == ("__debug__" : Str)) = false := by decide) (hcd : (n == ("__classdict__" : Str)) = false := by decide) : DE X e0 i h (.Attribute (.Name n p) f p') tFld := fun a oe cls d pn hz ho => by
  refine PE.weak (pe_xf T hno hz ho (pe_var (X := X.suite a ((a, oe) :: pn)) (i := i) hN hv hd hcd) rfl) fun σ H Q hh => ?_
  obtain ⟨x, E, F, y, S, ⟨hc, r⟩, ex, e1, ht, k⟩ := hh
  subst ex
  rw [hf] at r
  obtain ⟨dd, v, y', e2, e3, e4, e5⟩ := r
  have ey : y' = y := by
    unfold tFld at ht
    rw [e4] at ht
    exact Option.some.inj ht
  subst ey
  refine ⟨.ref a, e1, rfl, hc, dd, _, v, e2, e3, by simp [List.lookup], k v F H (Alloc.refl S.sub) e5⟩
theorem ds_tryA (hs : X.stack = X.env :: X.outer) (hf : X.env.frame = some X.env.locals) (hN : X.N.Nodup) (hi : X.N[i]? = some n) (hln : X.env.kindOf n = some .local) (hc : Names X x (.ref (He.ga X.K (xnName h)))) (tk : Takes X W) (hk : HitOk X.K cs h)
    (hb : ∀ (W' : WX) (pn : List (Addr × Obj)) (xe : Value → Shared → Prop), Takes (X.tr pn xe) W' → PassesOwn (model X.prog X.w) X.A X.env xe → DSs (X.tr pn xe) e0 W' body fb)
    (he : DE X e0 i h e t) {pr : Pos} : DS X e0 W (.Try body [.ExceptHandler (some (.Name x np)) (some n) [.Return (some e) pr] pos'] [] [] pos) (sTry fb cs h (hRet i t)) := by
  refine PS.weak (ps_try_as hs hf hN hi hln hc tk (tb := fun W' => rdS X.K e0 W' fb) (fun W' pn xe t o => hb W' pn xe t o) (ts := fun a cls d D σ H => rdE X.K e0 i h a cls d t σ H D.rt)
    (fun a oe cls d pn hz ho => PSs.weak (pss_cons (ps_ret (he a oe cls d pn hz ho)) pss_nil) fun D σ H h => h)) fun D σ H ⟨E, F, S, q⟩ => ⟨E, F, S, ?_⟩
  unfold sTry at q
  cases hb : fb E with
  | ex x E1 =>
    rw [hb] at q
    simp only at q
    by_cases hm : cs.contains x.c = true
    · rw [if_pos hm] at q
      intro cls dd σ1 F1 H1 S1 R1
      refine ⟨x.c == h, ?_, fun hy a ha => ?_, fun hy => ?_⟩
      · rw [R1.1]
        exact hk x.c (List.contains_iff_mem.mp hm)
      · have e1 : x.c = h := by simpa using hy
        rw [if_pos e1] at q
        unfold hRet at q
        cases ht : t x with
        | none =>
          rw [ht] at q
          exact q.elim
        | some y =>
          rw [ht] at q
          have hlE : i < E1.length := by
            by_cases hlE : i < E1.length
            · exact hlE
            · simp only [if_neg hlE] at q
              exact q.elim
          simp only [if_pos hlE] at q
          have S2 := S1.setUn i (some (V.ref a))
          refine ⟨x, E1.set i .un, F1, y, S2, ?_, e1, ?_, ht, fun v F' H' al r => q v _ F' H' (S2.alloc al) r⟩
          · exact R1
          · have hl : i < σ1.length := by
              have := S1.len
              omega
            rw [List.getElem?_set_self hl]
      · have e1 : ¬ x.c = h := by simpa using hy
        rw [if_neg e1] at q
        exact q cls dd σ1 F1 H1 S1 R1
    · rw [if_neg hm] at q
      exact q.elim
  | _ =>
    rw [hb] at q
    exact q
theorem ds_try0 (hs : X.stack = X.env :: X.outer) (hf : X.env.frame = some X.env.locals) (hc : Names X x (.ref (He.ga X.K (xnName h)))) (tk : Takes X W) (hk : HitOk X.K cs h)
    (hb : ∀ (W' : WX) (pn : List (Addr × Obj)) (xe : Value → Shared → Prop), Takes (X.tr pn xe) W' → PassesOwn (model X.prog X.w) X.A X.env xe → DSs (X.tr pn xe) e0 W' body fb)
    (hsu : ∀ (a : Addr) (oe : Obj) (pn : List (Addr × Obj)), DSs (X.suite a ((a, oe) :: pn)) e0 (fun _ _ _ _ => False) (b₀ :: suite) fs) : DS X e0 W (.Try body [.ExceptHandler (some (.Name x np)) none (b₀ :: suite) pos'] [] [] pos) (sTry fb cs h (hPlain fs)) := by
  refine PS.weak (ps_try_only hs hf hc tk (tb := fun W' => rdS X.K e0 W' fb) (fun W' pn xe t o => hb W' pn xe t o) (ts := fun a cls d => rdS X.K e0 (fun _ _ _ _ => False) fs) (fun a oe cls d pn _ _ => hsu a oe pn)) fun D σ H ⟨E, F, S, q⟩ => ⟨E, F, S, ?_⟩
  unfold sTry at q
  cases hb : fb E with
  | ex x E1 =>
    rw [hb] at q
    simp only at q
    by_cases hm : cs.contains x.c = true
    · rw [if_pos hm] at q
      intro cls dd σ1 F1 H1 S1 R1
      refine ⟨x.c == h, ?_, fun hy a ha => ⟨E1, F1, S1, ?_⟩, fun hy => ?_⟩
      · rw [R1.1]
        exact hk x.c (List.contains_iff_mem.mp hm)
      · have e1 : x.c = h := by simpa using hy
        rw [if_pos e1] at q
        unfold hPlain at q
        cases ht : fs E1 with
        | rt r E2 =>
          rw [ht] at q
          exact q
        | _ =>
          rw [ht] at q
          exact q.elim
      · have e1 : ¬ x.c = h := by simpa using hy
        rw [if_neg e1] at q
        exact q cls dd σ1 F1 H1 S1 R1
    · rw [if_neg hm] at q
      exact q.elim
  | _ =>
    rw [hb] at q
    exact q
end
end Dn

set_option Elab.async false
set_option linter.all false
set_option maxRecDepth 100000
set_option maxHeartbeats 4000000
namespace Dn
open PySem PySem.Spec PyProof.Rows L2
/-! ### the least of a list of whole numbers -/
def inL : List D → Option (List Int)
  | [] => some []
  | .int i :: r => (inL r).map (i :: ·)
  | _ => none
theorem inL_rep {K : PySem.W.Frag} {F : Hp} : ∀ {xs : List D} {ns : List Int} {vs : List V}, inL xs = some ns → RepL K F xs vs → vs = ns.map V.int
  | [], ns, vs, e, r => by
    cases e
    simpa [RepL] using r
  | .int i :: xs, ns, vs, e, r => by
    obtain ⟨ms, e1, e2⟩ := Option.map_eq_some_iff.mp (show (inL xs).map (i :: ·) = some ns from e)
    subst e2
    simp only [RepL, Rep] at r
    obtain ⟨v, ws, rfl, rfl, r2⟩ := r
    rw [inL_rep e1 r2]
    rfl
  | .non :: xs, ns, vs, e, r => by simp [inL] at e
  | .bl _ :: xs, ns, vs, e, r => by simp [inL] at e
  | .str _ :: xs, ns, vs, e, r => by simp [inL] at e
  | .tup _ :: xs, ns, vs, e, r => by simp [inL] at e
  | .lst _ :: xs, ns, vs, e, r => by simp [inL] at e
  | .ins _ _ :: xs, ns, vs, e, r => by simp [inL] at e
  | .scr _ :: xs, ns, vs, e, r => by simp [inL] at e
theorem fmin_le : ∀ (r : List Int) (n : Int), r.foldl min n ≤ n ∧ ∀ y ∈ r, r.foldl min n ≤ y
  | [], n => ⟨Int.le_refl n, fun y h => by simp at h⟩
  | a :: r, n => by
    obtain ⟨h1, h2⟩ := fmin_le r (min n a)
    refine ⟨Int.le_trans h1 (Int.min_le_left n a), fun y hy => ?_⟩
    rcases List.mem_cons.mp hy with e | hy
    · rw [e]
      exact Int.le_trans h1 (Int.min_le_right n a)
    · exact h2 y hy
theorem fmin_in : ∀ (r : List Int) (n : Int), r.foldl min n ∈ n :: r
  | [], n => by simp
  | a :: r, n => by
    have h := fmin_in r (min n a)
    rcases List.mem_cons.mp h with e | h
    · show r.foldl min (min n a) ∈ n :: a :: r
      rw [e]
      by_cases q : n ≤ a
      · rw [Int.min_eq_left q]
        simp
      · rw [Int.min_eq_right (by omega)]
        simp
    · exact List.mem_cons_of_mem _ (List.mem_cons_of_mem _ h)
def oMin (xs : List D) : Option D := match xs with
  | [.lst l] => (match inL l with
    | some (n :: r) => some (.int (r.foldl min n))
    | _ => none)
  | _ => none
theorem cd_min {X : Cx} (hc : X.calm = true) : CallD X (.builtin "min") oMin := ⟨_, cr_min hc, fun xs z e F H vs Q s r k => by
  unfold oMin at e
  split at e
  · rename_i l
    split at e
    · rename_i n rr hl
      cases e
      simp only [RepL, Rep] at r
      obtain ⟨v, ws, rfl, ⟨a, us, rfl, h1, r1⟩, rfl⟩ := r
      have q := inL_rep hl r1
      subst q
      refine ⟨a, n :: rr, rfl, seqL s (Evl.sq_of h1), by simp, fun m hm hall => ?_⟩
      have e1 : m = rr.foldl min n := by
        have g1 := hall _ (fmin_in rr n)
        obtain ⟨g2, g3⟩ := fmin_le rr n
        rcases List.mem_cons.mp hm with q | q
        · omega
        · have := g3 m q
          omega
      subst e1
      exact k _ F H (.refl s) (by simp [Rep])
    · cases e
  · cases e⟩
end Dn

set_option Elab.async false
set_option linter.all false
set_option maxRecDepth 100000
set_option maxHeartbeats 4000000
/-! isinstance of the exception that a suite holds; and, not, == over it -/
namespace Dn
open PySem PySem.Spec PyProof.Rows L2

theorem RepX.more {K : PySem.W.Frag} {F H F' H' : Hp} {x : Xn} {cls : Value} {dd : Option Addr} (al : Alloc F H F' H') (h : RepX K F H x cls dd) : RepX K F' H' x cls dd := by
  obtain ⟨h1, h2⟩ := h
  refine ⟨h1, ?_⟩
  cases q : xnFld x.c with
  | none =>
    rw [q] at h2
    exact h2
  | some f =>
    rw [q] at h2
    obtain ⟨d, v, y, e1, e2, e3, e4⟩ := h2
    exact ⟨d, v, y, e1, al.sH _ _ e2, e3, Rep.mono al.sF _ _ e4⟩
/-- the dict, if there is one, lies there -/
def DictAt (H : Hp) (d : Option Addr) : Prop := d = none ∨ ∃ dd fs, d = some dd ∧ H dd = some (.xd fs)
theorem RepX.dict {K : PySem.W.Frag} {F H : Hp} {x : Xn} {cls : Value} {dd : Option Addr} (h : RepX K F H x cls dd) : DictAt H dd := by
  obtain ⟨h1, h2⟩ := h
  cases q : xnFld x.c with
  | none =>
    rw [q] at h2
    exact .inl h2
  | some f =>
    rw [q] at h2
    obtain ⟨d, v, y, e1, e2, e3, e4⟩ := h2
    exact .inr ⟨d, _, e1, e2⟩
theorem inst_of {X : Cx} {pins : List (Addr × Obj)} {σ : L2.St} {H : Hp} {s : Shared} {a D : Addr} {oe : Obj} {d : Option Addr} {pn : List (Addr × Obj)} (I : Inv (X.suite a ((a, oe) :: pn)) pins σ H s) (hz : Zc (.ref D) d oe) (ho : ∃ vs, oe.data = .fields vs) (hd : DictAt H d) :
    ∃ od, PySem.W.InstAt s.heap a oe D od := by
  obtain ⟨ha, _⟩ := I.pin (a, oe) (List.mem_append_left _ List.mem_cons_self)
  obtain ⟨vs, hv⟩ := ho
  rcases hd with rfl | ⟨dd, fs, rfl, hdd⟩
  · exact ⟨none, ha, hz.1, by unfold PySem.W.notCls; rw [hv] <;> rfl, by rw [hz.2]; trivial⟩
  · have hx : ObjOk X.prog X.w H s.heap dd (.xd fs) := I.hok dd _ hdd
    obtain ⟨mA, hns, hr⟩ := hx
    obtain ⟨od, ho, _⟩ := lookIn_ns hns
    exact ⟨some od, ha, hz.1, by unfold PySem.W.notCls; rw [hv] <;> rfl, by rw [hz.2]; exact ho⟩
section
variable {K : PySem.W.Frag} {D : Addr}
theorem exc_kit (C : ExcC K D) {a : Addr} {oe : Obj} {od : Option Obj} : PySem.W.KitX K (.ref a) (.ref D) (fun h => PySem.W.InstAt h a oe D od) :=
  PySem.W.kitx_exc (by obtain ⟨cd, hc, _⟩ := PySem.W.any_some C.hd; rw [hc]; rfl) C.hg C.hk C.hs C.ha C.hn C.ht C.hm
def excCB (K : PySem.W.Frag) (D : Addr) : Bool := decide (PySem.W.findIn K (.ref D) "__getattribute__" = some (some (.builtin "BaseException.__getattribute__"))) && (decide (PySem.W.findIn K (.ref D) "__getattr__" = some none) && (decide (PySem.W.subIn K (.ref D) (.type "BaseException") = some true) && (decide (PySem.W.hasDictIn K D = true) &&
  (decide (PySem.W.findIn K (.ref D) "__class__" = some (some (.builtin "object.__class__"))) && (decide (PySem.W.specialIn K (.builtin "object.__class__") "__get__" = some (some (.builtin "getset_descriptor.__get__"))) && (decide (PySem.W.takesIn K (.builtin "object.__class__") = some true) && decide (PySem.W.mroIn K D (.type "object") = some true)))))))
theorem excCB_ok (h : excCB K D = true) : ExcC K D := by
  unfold excCB at h
  obtain ⟨h1, h⟩ := Bool.and_eq_true_iff.mp h
  obtain ⟨h2, h⟩ := Bool.and_eq_true_iff.mp h
  obtain ⟨h3, h⟩ := Bool.and_eq_true_iff.mp h
  obtain ⟨h4, h⟩ := Bool.and_eq_true_iff.mp h
  obtain ⟨h5, h⟩ := Bool.and_eq_true_iff.mp h
  obtain ⟨h6, h⟩ := Bool.and_eq_true_iff.mp h
  obtain ⟨h7, h8⟩ := Bool.and_eq_true_iff.mp h
  exact ⟨of_decide_eq_true h1, of_decide_eq_true h2, of_decide_eq_true h3, of_decide_eq_true h4, of_decide_eq_true h5, of_decide_eq_true h6, of_decide_eq_true h7, of_decide_eq_true h8⟩
end
def rIs1 (K : PySem.W.Frag) (D a : Addr) (d : Option Addr) : List V → Hp → VK → Prop := fun xs H Q => ∃ (c : V) (cv : Value) (b : Bool), xs = [.ref a, c] ∧ (∀ u, RelV c u → u = cv) ∧ DictAt H d ∧ PySem.W.kitOne K (.ref D) cv = some b ∧ Q (.bl b) H
def rIs2 (K : PySem.W.Frag) (D a : Addr) (d : Option Addr) : List V → Hp → VK → Prop := fun xs H Q => ∃ (t : Addr) (cs : List V) (ws : List Value) (b : Bool), xs = [.ref a, .ref t] ∧ H t = some (.tup cs) ∧ (∀ us, Vals cs us → us = ws) ∧ DictAt H d ∧ PySem.W.kitAny K (.ref D) ws = some b ∧ Q (.bl b) H
section
variable {X : Cx} {a D : Addr} {oe : Obj} {d : Option Addr} {pn : List (Addr × Obj)}
theorem call_is1 (C : ExcC X.K D) (hz : Zc (.ref D) d oe) (ho : ∃ vs, oe.data = .fields vs) : CallR (X.suite a ((a, oe) :: pn)) (.builtin "isinstance") (rIs1 X.K D a d) := by
  intro pins s σ H xs us Q I r h
  obtain ⟨c, cv, b, rfl, hcv, hd, e, q⟩ := h
  obtain ⟨u1, u2, rfl, r1, r2⟩ := vals2 r
  cases r1
  obtain rfl := hcv _ r2
  obtain ⟨od, J⟩ := inst_of I hz ho hd
  exact PySem.W.kia_one (exc_kit C) I.kIn J e (fun z => nomatch z) fun tk => ⟨.bl b, H, I.tok tk, rfl, q⟩
theorem call_is2 (C : ExcC X.K D) (hz : Zc (.ref D) d oe) (ho : ∃ vs, oe.data = .fields vs) : CallR (X.suite a ((a, oe) :: pn)) (.builtin "isinstance") (rIs2 X.K D a d) := by
  intro pins s σ H xs us Q I r h
  obtain ⟨t, cs, ws, b, rfl, hT, hws, hd, e, q⟩ := h
  obtain ⟨u1, u2, rfl, r1, r2⟩ := vals2 r
  cases r1
  cases r2
  obtain ⟨od, J⟩ := inst_of I hz ho hd
  obtain ⟨_, its, rv, o, h1, h2, n, h3⟩ := (show ObjOk X.prog X.w H s.heap t (.tup cs) from I.hok t _ hT)
  obtain rfl := hws _ rv
  obtain ⟨oc, od2, dt, sl⟩ := o
  simp only at h2 h3
  subst h2 h3
  exact PySem.W.kia_tup (exc_kit C) I.kIn J h1 e (fun z => nomatch z) fun tk => ⟨.bl b, H, I.tok tk, rfl, q⟩
end
section
variable {X : Cx} {e0 : E0} {i h : Nat} {n : Str} {e e' : Expr} {t t' : Xn → Option D} {pos p1 p2 : Pos}
/-- a class written in a suite -/
structure SCls (X : Cx) (e : Expr) (c : V) (cv : Value) : Prop where
  run : ∀ (a : Addr) (oe : Obj) (pn : List (Addr × Obj)), PE (X.suite a ((a, oe) :: pn)) e (tC c)
  rel : ∀ u, RelV c u → u = cv
theorem scls_ty {T : String} {x : Str} {p : Pos} (hg : Gl X x) (hm : X.mg x = none) (hv : bootBuiltins x = some (.type T)) (hn : x ≠ "__name__" := by decide) (hdb : (x == ("__debug__" : Str)) = false := by decide) : SCls X (.Name x p) (.ty T) (.type T) :=
  ⟨fun a oe pn => pe_bltn (X := X.suite a ((a, oe) :: pn)) hg hm hv rfl hn hdb, fun u r => r⟩
theorem scls_ref {c : Addr} {x : Str} {p : Pos} (hg : Gl X x) (hm : X.mg x = some (.ref c)) (hdb : (x == ("__debug__" : Str)) = false := by decide) : SCls X (.Name x p) (.ref c) (.ref c) :=
  ⟨fun a oe pn => pe_glob (X := X.suite a ((a, oe) :: pn)) hg hm rfl hdb, fun u r => r⟩
theorem de_is1 {eT : Expr} {c : V} {cv : Value} {b : Bool} {x : Str} {p : Pos} (C : ExcC X.K (He.ga X.K (xnName h))) (hT : SCls X eT c cv) (hk : PySem.W.kitOne X.K (.ref (He.ga X.K (xnName h))) cv = some b) (hg : Gl X x) (hm : X.mg x = none) (hvb : bootBuiltins x = some (.builtin "isinstance"))
    (hN : X.N[i]? = some n) (hv : Vis X.env.scope n) (hn : x ≠ "__name__" := by decide) (hdb : (x == ("__debug__" : Str)) = false := by decide) (hd : (n == ("__debug__" : Str)) = false := by decide) (hcd : (n == ("__classdict__" : Str)) = false := by decide)
    (hs1 : starEach [eT] X.env = (false, eval eT X.env) :: starEach [] X.env := by rfl) (he : starEach [.Name n p1, eT] X.env = (false, eval (.Name n p1) X.env) :: starEach [eT] X.env := by rfl) (hpl : (backTo pos (starEach [eT] X.env)).any (·.1) = false := by rfl) :
    DE X e0 i h (.Call (.Name x p) [.Name n p1, eT] [] pos) (fun _ => some (.bl b)) := fun a oe cls d pn hz ho => by
  by_cases hcls : cls = .ref (He.ga X.K (xnName h))
  · subst hcls
    refine PE.weak (pe_callB (X := X.suite a ((a, oe) :: pn)) (call_is1 C hz ho) hg hm hvb (pa_cons (pe_var (X := X.suite a ((a, oe) :: pn)) (i := i) hN hv hd hcd) (pa_cons (hT.run a oe pn) pa_nil hs1) he) hn hdb he hpl) fun σ H Q hh => ?_
    obtain ⟨x, E, F, y, S, R, ex, e1, ht, k⟩ := hh
    cases ht
    exact ⟨.ref a, e1, c, cv, b, rfl, hT.rel, R.dict, hk, k (.bl b) F H (Alloc.refl S.sub) (by simp [Rep])⟩
  · refine ⟨fun pins s σ H Q I hh => ?_⟩
    obtain ⟨x, E, F, y, S, R, ex, e1, ht, k⟩ := hh
    exact absurd (by rw [← ex]; exact R.1) hcls
theorem de_is2 {eA eB : Expr} {cA cB : V} {vA vB : Value} {b : Bool} {x : Str} {p p3 : Pos} {kk : Nat} (C : ExcC X.K (He.ga X.K (xnName h))) (hA : SCls X eA cA vA) (hB : SCls X eB cB vB) (hk : PySem.W.kitAny X.K (.ref (He.ga X.K (xnName h))) [vA, vB] = some b) (hg : Gl X x) (hm : X.mg x = none) (hvb : bootBuiltins x = some (.builtin "isinstance"))
    (hN : X.N[i]? = some n) (hv : Vis X.env.scope n) (hn : x ≠ "__name__" := by decide) (hdb : (x == ("__debug__" : Str)) = false := by decide) (hd : (n == ("__debug__" : Str)) = false := by decide) (hcd : (n == ("__classdict__" : Str)) = false := by decide)
    (s1 : starEach [eB] X.env = (false, eval eB X.env) :: starEach [] X.env := by rfl) (s2 : starEach [eA, eB] X.env = (false, eval eA X.env) :: starEach [eB] X.env := by rfl)
    (hs1 : starEach [.Tuple [eA, eB] kk p3] X.env = (false, eval (.Tuple [eA, eB] kk p3) X.env) :: starEach [] X.env := by rfl) (he : starEach [.Name n p1, .Tuple [eA, eB] kk p3] X.env = (false, eval (.Name n p1) X.env) :: starEach [.Tuple [eA, eB] kk p3] X.env := by rfl) (hpl : (backTo pos (starEach [.Tuple [eA, eB] kk p3] X.env)).any (·.1) = false := by rfl) :
    DE X e0 i h (.Call (.Name x p) [.Name n p1, .Tuple [eA, eB] kk p3] [] pos) (fun _ => some (.bl b)) := fun a oe cls d pn hz ho => by
  by_cases hcls : cls = .ref (He.ga X.K (xnName h))
  · subst hcls
    refine PE.weak (pe_callB (X := X.suite a ((a, oe) :: pn)) (call_is2 C hz ho) hg hm hvb (pa_cons (pe_var (X := X.suite a ((a, oe) :: pn)) (i := i) hN hv hd hcd) (pa_cons (pe_tup (X := X.suite a ((a, oe) :: pn)) (pa_cons (hA.run a oe pn) (pa_cons (hB.run a oe pn) pa_nil s1) s2)) pa_nil hs1) he) hn hdb he hpl) fun σ H Q hh => ?_
    obtain ⟨x, E, F, y, S, R, ex, e1, ht, k⟩ := hh
    cases ht
    refine ⟨.ref a, e1, by show 2 ≤ sizeLine; decide, fun t ht => ?_⟩
    have al : Alloc F H F (upd H t (.tup [cA, cB])) := .newH S.sub ht
    refine ⟨t, [cA, cB], [vA, vB], b, rfl, upd_same, fun us r => ?_, (R.more al).dict, hk, k (.bl b) F _ al (by simp [Rep])⟩
    cases r with
    | cons r1 r2 =>
      cases r2 with
      | cons r2 r3 =>
        cases r3
        rw [hA.rel _ r1, hB.rel _ r2]
  · refine ⟨fun pins s σ H Q I hh => ?_⟩
    obtain ⟨x, E, F, y, S, R, ex, e1, ht, k⟩ := hh
    exact absurd (by rw [← ex]; exact R.1) hcls
/-! and, not, == -/
def tAndX (t u : Xn → Option D) : Xn → Option D := fun x => match t x with
  | some (.bl true) => u x
  | some (.bl false) => some (.bl false)
  | _ => none
def tNotX (t : Xn → Option D) : Xn → Option D := fun x => match t x with
  | some (.bl b) => some (.bl (!b))
  | _ => none
theorem de_one {op : BoolOp} (he : DE X e0 i h e t) : DE X e0 i h (.BoolOp op [e] pos) t := fun a oe cls d pn hz ho => pe_one (he a oe cls d pn hz ho)
theorem de_and {rest : List Expr} (h1 : DE X e0 i h e t) (h2 : DE X e0 i h (.BoolOp .And (e' :: rest) pos) t') : DE X e0 i h (.BoolOp .And (e :: e' :: rest) pos) (tAndX t t') := fun a oe cls d pn hz ho => by
  refine PE.weak (pe_and (h1 a oe cls d pn hz ho) (h2 a oe cls d pn hz ho)) fun σ H Q hh => ?_
  obtain ⟨x, E, F, y, S, R, ex, e1, ht, k⟩ := hh
  unfold tAndX at ht
  split at ht
  · rename_i q
    refine ⟨x, E, F, .bl true, S, R, ex, e1, q, fun v F' H' al r => ?_⟩
    simp only [Rep] at r
    subst r
    refine ⟨true, rfl, ?_⟩
    rw [if_pos rfl]
    exact ⟨x, E, F', y, S.alloc al, R.more al, ex, e1, ht, fun v2 F2 H2 al2 r2 => k v2 F2 H2 (al.trans al2) r2⟩
  · rename_i q
    cases ht
    refine ⟨x, E, F, .bl false, S, R, ex, e1, q, fun v F' H' al r => ?_⟩
    have r' := r
    simp only [Rep] at r'
    subst r'
    refine ⟨false, rfl, ?_⟩
    rw [if_neg Bool.false_ne_true]
    exact k _ F' H' al r
  · cases ht
theorem de_not (h1 : DE X e0 i h e t) : DE X e0 i h (.UnaryOp .Not e pos) (tNotX t) := fun a oe cls d pn hz ho => by
  refine PE.weak (pe_not (h1 a oe cls d pn hz ho)) fun σ H Q hh => ?_
  obtain ⟨x, E, F, y, S, R, ex, e1, ht, k⟩ := hh
  unfold tNotX at ht
  split at ht
  · rename_i b q
    cases ht
    refine ⟨x, E, F, .bl b, S, R, ex, e1, q, fun v F' H' al r => ?_⟩
    simp only [Rep] at r
    subst r
    exact ⟨b, rfl, k _ F' H' al (by simp [Rep])⟩
  · cases ht
theorem de_str {m : Str} {j : Nat} : DE X e0 i h (.Constant (.str m) j pos) (fun _ => some (.str m)) := fun a oe cls d pn hz ho => by
  refine PE.weak pe_str fun σ H Q hh => ?_
  obtain ⟨x, E, F, y, S, R, ex, e1, ht, k⟩ := hh
  cases ht
  exact k _ F H (Alloc.refl S.sub) (by simp [Rep])
def tCmpX (o : D → D → Option D) (t u : Xn → Option D) : Xn → Option D := fun x => (t x).bind fun y => (u x).bind fun z => o y z
theorem de_cmp {op : CmpOp} {o : D → D → Option D} (hop : ∀ (a : Addr) (oe : Obj) (pn : List (Addr × Obj)), OpD (X.suite a ((a, oe) :: pn)) (compareOp op) o) (h1 : DE X e0 i h e t) (h2 : DE X e0 i h e' t') (hm : behindInMarks op e' = false) : DE X e0 i h (.Compare e [op] [e'] pos) (tCmpX o t t') := fun a oe cls d pn hz ho => by
  obtain ⟨r, q1, q2⟩ := (hop a oe pn).ex
  refine PE.weak (pe_cmpR q1 (h1 a oe cls d pn hz ho) (h2 a oe cls d pn hz ho) hm) fun σ H Q hh => ?_
  obtain ⟨x, E, F, y, S, R, ex, e1, ht, k⟩ := hh
  obtain ⟨y1, g1, ht⟩ := Option.bind_eq_some_iff.mp ht
  obtain ⟨y2, g2, ht⟩ := Option.bind_eq_some_iff.mp ht
  refine ⟨x, E, F, y1, S, R, ex, e1, g1, fun v F' H' al r1 => ?_⟩
  refine ⟨x, E, F', y2, S.alloc al, R.more al, ex, e1, g2, fun v2 F2 H2 al2 r2 => ?_⟩
  exact q2 y1 y2 y ht F2 H2 v v2 Q al2.sub (Rep.mono al2.sF _ _ r1) r2 fun u F3 H3 al3 r3 => k u F3 H3 ((al.trans al2).trans al3) r3
end
end Dn

set_option Elab.async false
set_option linter.all false
set_option maxRecDepth 100000
set_option maxHeartbeats 4000000
/-! the written part with the statics -/
namespace Dn
open PySem PySem.Spec PyProof.Rows L2
abbrev AlZ : Type := He.AlD × Bool
def obsZ (n : Nat) (fa : List He.Fa) (fn : List He.DefD) (ex : PySem.W.Frag → Bool) (g : Addr → Option Obj) : AlZ := (He.obsD fa fn (He.frG g (cStatics :: He.asD g n)), ex (He.frG g (cStatics :: He.asD g n)))
def hookZ (n : Nat) (fa : List He.Fa) (fn : List He.DefD) (ex : PySem.W.Frag → Bool) : PySem.W.Hook where
  α := AlZ
  obs := fun s => obsZ n fa fn ex s.heap.get?
  val := fun _ => (He.valD fn, true)
  says := fun _ h => ∃ K : PySem.W.Frag, K.In h ∧ He.SaysD fa fn K ∧ ex K = true
  of := fun _ _ e => ⟨_, He.frG_in, congrArg (fun z : AlZ => z.1) e, congrArg (fun z : AlZ => z.2) e⟩
  keeps := fun _ _ _ ⟨K, hK, c⟩ k => ⟨K, PySem.W.Frag.In.keeps hK k, c⟩
theorem obsZ_eq {n : Nat} {fa : List He.Fa} {fn : List He.DefD} {ex : PySem.W.Frag → Bool} {g : Addr → Option Obj} {s : Shared} (h : ∀ a, g a = s.heap.get? a) : obsZ n fa fn ex g = (hookZ n fa fn ex).obs s := by
  have e : g = s.heap.get? := funext h
  rw [e] <;> rfl
end Dn

set_option Elab.async false
set_option linter.all false
set_option maxRecDepth 100000
set_option maxHeartbeats 4000000
/-! two clauses: the first one without a name, the second one with -/
namespace Dn
open PySem PySem.Spec PyProof.Rows L2

def wTwo (K : PySem.W.Frag) (c1 c2 : Value) (i : Nat) (t1 t2 : Addr → Value → Option Addr → TS) (Wo : WX) (D : Ends) : WX := fun cls d σ H =>
  ∃ b1, PySem.W.exmOne K cls c1 = some b1 ∧ (b1 = true → ∀ a, H a = none → t1 a cls d D σ H) ∧ (b1 = false →
    ∃ b2, PySem.W.exmOne K cls c2 = some b2 ∧ (b2 = true → ∀ a, H a = none → t2 a cls d { nx := fun σ' H' => D.nx (σ'.set i none) H', rt := D.rt, bk := fun σ' H' => D.bk (σ'.set i none) H', ct := fun σ' H' => D.ct (σ'.set i none) H' } (σ.set i (some (.ref a))) H) ∧ (b2 = false → Wo cls d σ H))
section
variable {X : Cx} {x1 x2 n : Str} {c1 c2 : Value} {i : Nat} {body s1 s2 : List Stmt} {f1 f2 : Stmt} {np1 np2 q1 q2 pos : Pos} {tb : WX → TS} {t1 t2 : Addr → Value → Option Addr → TS} {Wo : WX}
theorem ps_try_two (hst : X.stack = X.env :: X.outer) (hfr : X.env.frame = some X.env.locals) (hN : X.N.Nodup) (hi : X.N[i]? = some n) (hln : X.env.kindOf n = some .local) (hc1 : Names X x1 c1) (hc2 : Names X x2 c2) (tk : Takes X Wo)
    (hbody : ∀ (W : WX) (pn : List (Addr × Obj)) (xe : Value → Shared → Prop), Takes (X.tr pn xe) W → PassesOwn (model X.prog X.w) X.A X.env xe → PSs (X.tr pn xe) body (tb W))
    (h1 : ∀ (a : Addr) (oe : Obj) (cls : Value) (d : Option Addr) (pn : List (Addr × Obj)), Zc cls d oe → (∃ vs, oe.data = .fields vs) → PSs (X.suite a ((a, oe) :: pn)) (f1 :: s1) (t1 a cls d))
    (h2 : ∀ (a : Addr) (oe : Obj) (cls : Value) (d : Option Addr) (pn : List (Addr × Obj)), Zc cls d oe → (∃ vs, oe.data = .fields vs) → PSs (X.suite a ((a, oe) :: pn)) (f2 :: s2) (t2 a cls d)) :
    PS X (.Try body [.ExceptHandler (some (.Name x1 np1)) none (f1 :: s1) q1, .ExceptHandler (some (.Name x2 np2)) (some n) (f2 :: s2) q2] [] [] pos) (fun D σ H => tb (wTwo X.K c1 c2 i t1 t2 Wo D) D σ H) := by
  refine ⟨fun pins s σ H D I hh => ?_⟩
  have okX := I.ok
  have hframes : X.A.frames = some (X.env :: X.outer) := by rw [okX.frames, hst]
  have hlocN : Loc X.env.scope n := .inl hln
  refine wpAny_Try_except ?_
  refine wpAny_mono ((hbody (wTwo X.K c1 c2 i t1 t2 Wo D) (X.pn ++ pins) (fun u z1 => wpAny (model X.prog X.w) X.A (noteFrame u X.env) (fun _ z2 => wpAny (model X.prog X.w) X.A (setFlight u none) (fun _ z3 =>
    wpAny (model X.prog X.w) X.A (handleBy u X.env [.ExceptHandler (some (.Name x1 np1)) none (f1 :: s1) q1, .ExceptHandler (some (.Name x2 np2)) (some n) (f2 :: s2) q2]) (SP X pins D) X.xe z3) X.xe z2) X.xe z1) (fun u s' xx => ?_) PassesOwn.looking).run [] s σ H D (I.toTry _) hh) (fun f z hsp => ?_) (fun u z hz => hz)
  · obtain ⟨a, B, sI, pins', σ', H', cls, d, rfl, J', nb, up, sky, na, os, ag, b1, hb1, yes1, no1⟩ := xx
    have J : Inv X pins σ' H' sI := J'.ofTry okX
    have skyX : Sky B (X.env :: X.outer) a (Zc cls d) X.env.locals s'.heap := by rw [← hst]; exact sky
    show wpAny (model X.prog X.w) X.A (noteFrame (.ref a) X.env) _ _ _
    refine Sky.land Zc.steady hframes hfr skyX fun g3 fl3 up3 => ?_
    have J3 : Inv X pins σ' H' { s' with heap := g3 } := J.landed nb fl3.1 (up.trans up3) os ag
    obtain ⟨o3, w3, at3, zc3, dt3⟩ := fl3.there
    have noFrame : ∀ {h : Heap} {o : Obj} {ws : Array Value}, h.FunFrames B (X.env :: X.outer) → h.get? a = some o → o.data = .fields ws → a ∉ frs (X.env :: X.outer) := fun {h o ws} ff ea dd hm => by
      obtain ⟨_, o', e', hnf⟩ := ff.mem hm
      rw [ea] at e'
      cases e'
      exact hnf _ dd
    have nfr := noFrame fl3.2.2.1 at3 dt3
    have nLoc : a ≠ X.env.locals := fun z => nfr (List.mem_filterMap.mpr ⟨X.env, List.mem_cons_self, by rw [hfr, z]⟩)
    have nFs : a ∉ X.fs := fun hm => by
      obtain ⟨en, hen, qq⟩ := List.mem_filterMap.mp hm
      exact nfr (List.mem_filterMap.mpr ⟨en, List.mem_cons_of_mem _ hen, qq⟩)
    have S3 := J3.suite at3 dt3 na nLoc nFs
    have LT : PySem.W.Looks (model X.prog X.w) g3 (typeOf (.ref a)) cls := fun A Q E s k q => wpAny_typeOf_ref (k _ _ at3) (by rw [zc3.1]; exact q)
    have name : ∀ {x : Str} {c : Value} {np : Pos} {Q : Value → Shared → Prop} {E : Value → Shared → Prop}, Names X x c → Q c { s' with heap := g3 } → wpAny (model X.prog X.w) (X.A.mark (some (.ref a))) (eval (.Name x np) X.env) Q E { s' with heap := g3 } := fun {x c np Q E} hc q => by
      obtain ⟨hg, hdbg, hm | ⟨hm, hv, hnn⟩⟩ := hc
      · exact ld_glob (X := X.suite a ((a, o3) :: (X.pn ++ pins))) S3 hg hm q hdbg
      · exact ld_blt (X := X.suite a ((a, o3) :: (X.pn ++ pins))) S3 hg hm hv q hnn hdbg
    refine wpAny_handleBy_cons (codeAny_handlers_test ?_) (by intro q; cases q)
    have LM := PySem.W.exm_one (M := model X.prog X.w) (J3.kIn) LT hb1
    refine name hc1 (LM.here ?_)
    cases b1 with
    | true =>
      refine codeAny_handlers_suite ?_
      refine HandSPX.lands_againZ fl3 fun g4 fl4 up4 => ?_
      have J4 : Inv X pins σ' H' { s' with heap := g4 } := J.landed nb fl4.1 ((up.trans up3).trans up4) os ag
      obtain ⟨o4, w4, at4, zc4, dt4⟩ := fl4.there
      have S4 := J4.suite at4 dt4 na nLoc nFs
      refine wpAny_mono ((h1 a o4 cls d (X.pn ++ pins) zc4 ⟨_, dt4⟩).run [] _ _ H' _ S4 (yes1 rfl a na)) (fun f z6 hsp => ?_) (fun _ _ z => False.elim z)
      cases f with
      | ret u =>
        obtain ⟨v6, σ6, H6, S6, r6, q6⟩ := hsp
        exact ⟨_, _, _, S6.unsuite okX, r6, q6⟩
      | next =>
        obtain ⟨σ6, H6, S6, q6⟩ := hsp
        exact ⟨_, _, S6.unsuite okX, q6⟩
      | brk =>
        obtain ⟨σ6, H6, S6, q6⟩ := hsp
        exact ⟨_, _, S6.unsuite okX, q6⟩
      | cont =>
        obtain ⟨σ6, H6, S6, q6⟩ := hsp
        exact ⟨_, _, S6.unsuite okX, q6⟩
    | false =>
      obtain ⟨b2, hb2, yes2, no2⟩ := no1 rfl
      show wpAny _ X.A (handleBy (.ref a) X.env [.ExceptHandler (some (.Name x2 np2)) (some n) (f2 :: s2) q2]) _ _ _
      refine wpAny_handleBy_cons (codeAny_handlers_test ?_) (by intro q; cases q)
      have LM2 := PySem.W.exm_one (M := model X.prog X.w) (J3.kIn) LT hb2
      refine name hc2 (LM2.here ?_)
      cases b2 with
      | true =>
        refine codeAny_handlers_suite_as ?_
        refine HandSPX.lands_againZ fl3 fun g4 fl4 up4 => ?_
        have J4 : Inv X pins σ' H' { s' with heap := g4 } := J.landed nb fl4.1 ((up.trans up3).trans up4) os ag
        obtain ⟨o4, w4, at4, zc4, dt4⟩ := fl4.there
        have S4 := J4.suite at4 dt4 na nLoc nFs
        refine store_ok (X := X.suite a ((a, o4) :: (X.pn ++ pins))) (v := .ref a) S4 hN hi hlocN rfl (fun z5 S5 => ?_) (.inr hln)
        refine wpAny_mono ((h2 a o4 cls d (X.pn ++ pins) zc4 ⟨_, dt4⟩).run [] z5 _ H' _ S5 (yes2 rfl a na)) (fun f z6 hsp => ?_) (fun _ _ z => False.elim z)
        have fin : ∀ {σ6 : L2.St} {H6 : Hp} {Q : Shared → Prop}, Inv (X.suite a ((a, o4) :: (X.pn ++ pins))) [] σ6 H6 z6 → (∀ z7, Inv X pins (σ6.set i none) H6 z7 → Q z7) →
            wpAny (model X.prog X.w) X.A (do bindName X.env n .none; unbindBehindTheSuite X.env n q2) (fun _ z7 => Q z7) X.xe z6 := fun {σ6 H6 Q} S6 hq => gone_ok (S6.unsuite okX) hN hi hln hq
        cases f with
        | ret u =>
          obtain ⟨v6, σ6, H6, S6, r6, q6⟩ := hsp
          exact fin S6 fun z7 J7 => ⟨_, _, _, J7, r6, q6⟩
        | next =>
          obtain ⟨σ6, H6, S6, q6⟩ := hsp
          exact fin S6 fun z7 J7 => ⟨_, _, J7, q6⟩
        | brk =>
          obtain ⟨σ6, H6, S6, q6⟩ := hsp
          exact fin S6 fun z7 J7 => ⟨_, _, J7, q6⟩
        | cont =>
          obtain ⟨σ6, H6, S6, q6⟩ := hsp
          exact fin S6 fun z7 J7 => ⟨_, _, J7, q6⟩
      | false =>
        show wpAny _ X.A (handleBy (.ref a) X.env []) _ _ _
        refine wpAny_handleBy_nil ?_
        obtain ⟨k1, k2, k3, oe, vs, T, oT, ts', he, hz, hd, hh1, hr⟩ := id fl3
        unfold PySem.passOn
        refine wpAny_bind (wpAny_field he hd hh1 ?_)
        rw [if_neg (show ¬ ((Value.ref T == Value.none) = true) from by simp)]
        have on : wpAny (model X.prog X.w) X.A (setFlight (.ref a) X.env.frame) (fun _ z4 => wpAny (model X.prog X.w) X.A (throw (.ref a) : Sem Flow) (SP X pins D) X.xe z4) X.xe { s' with heap := g3 } := by
          rw [hfr]
          refine HandSPX.setFlight_upZ fl3 fun g4 hh4 up4 => wpAny_throw (tk _ _ ?_)
          exact ⟨a, B, sI, pins, σ', H', cls, d, rfl, J, nb, (up.trans up3).trans up4, .inr (.inr (by rw [hst]; exact hh4)), na, os, ag, no2 rfl⟩
        first
          | exact wpAny_bind (wpAny_pure (wpAny_bind on))
          | exact wpAny_bind on
  · cases f with
    | ret u =>
      obtain ⟨v, σ', H', J', r, q⟩ := hsp
      exact ⟨v, σ', H', J'.ofTry okX, r, q⟩
    | next =>
      obtain ⟨σ', H', J', q⟩ := hsp
      exact wpAny_execs_nil ⟨σ', H', J'.ofTry okX, q⟩
    | brk =>
      obtain ⟨σ', H', J', q⟩ := hsp
      exact ⟨σ', H', J'.ofTry okX, q⟩
    | cont =>
      obtain ⟨σ', H', J', q⟩ := hsp
      exact ⟨σ', H', J'.ofTry okX, q⟩
end
/-- class h1 without a name, class h2 with -/
def sTry2 (b : Ss) (cs : List Nat) (h1 h2 : Nat) (t1 t2 : Xn → Sto → So) : Ss := fun E => match b E with
  | .ex x E1 => if cs.contains x.c = true then (if x.c = h1 then (match t1 x E1 with
    | .rt r E2 => .rt r E2
    | _ => .bad) else (if x.c = h2 then (match t2 x E1 with
    | .rt r E2 => .rt r E2
    | _ => .bad) else .ex x E1)) else .bad
  | r => r
section
variable {X : Cx} {e0 : E0} {W : WX} {x1 x2 n : Str} {i h1 h2 : Nat} {cs : List Nat} {body s1 : List Stmt} {f1 : Stmt} {np1 np2 q1 q2 pos : Pos} {fb fs : Ss} {t : Xn → Option D} {e : Expr}
theorem ds_try2 (hst : X.stack = X.env :: X.outer) (hfr : X.env.frame = some X.env.locals) (hN : X.N.Nodup) (hi : X.N[i]? = some n) (hln : X.env.kindOf n = some .local) (hc1 : Names X x1 (.ref (He.ga X.K (xnName h1)))) (hc2 : Names X x2 (.ref (He.ga X.K (xnName h2)))) (tk : Takes X W) (hk1 : HitOk X.K cs h1) (hk2 : HitOk X.K cs h2)
    (hbody : ∀ (W' : WX) (pn : List (Addr × Obj)) (xe : Value → Shared → Prop), Takes (X.tr pn xe) W' → PassesOwn (model X.prog X.w) X.A X.env xe → DSs (X.tr pn xe) e0 W' body fb)
    (hsu : ∀ (a : Addr) (oe : Obj) (pn : List (Addr × Obj)), DSs (X.suite a ((a, oe) :: pn)) e0 (fun _ _ _ _ => False) (f1 :: s1) fs)
    (he : DE X e0 i h2 e t) {pr : Pos} : DS X e0 W (.Try body [.ExceptHandler (some (.Name x1 np1)) none (f1 :: s1) q1, .ExceptHandler (some (.Name x2 np2)) (some n) [.Return (some e) pr] q2] [] [] pos) (sTry2 fb cs h1 h2 (hPlain fs) (hRet i t)) := by
  refine PS.weak (ps_try_two hst hfr hN hi hln hc1 hc2 tk (tb := fun W' => rdS X.K e0 W' fb) (fun W' pn xe t o => hbody W' pn xe t o) (t1 := fun a cls d => rdS X.K e0 (fun _ _ _ _ => False) fs) (t2 := fun a cls d D σ H => rdE X.K e0 i h2 a cls d t σ H D.rt) (fun a oe cls d pn _ _ => hsu a oe pn)
    (fun a oe cls d pn hz ho => PSs.weak (pss_cons (ps_ret (he a oe cls d pn hz ho)) pss_nil) fun D σ H h => h)) fun D σ H ⟨E, F, S, q⟩ => ⟨E, F, S, ?_⟩
  unfold sTry2 at q
  cases hb : fb E with
  | ex x E1 =>
    rw [hb] at q
    simp only at q
    by_cases hm : cs.contains x.c = true
    · rw [if_pos hm] at q
      intro cls dd σ1 F1 H1 S1 R1
      have hmem := List.contains_iff_mem.mp hm
      refine ⟨x.c == h1, by rw [R1.1]; exact hk1 x.c hmem, fun hy a ha => ⟨E1, F1, S1, ?_⟩, fun hy => ?_⟩
      · have e1 : x.c = h1 := by simpa using hy
        rw [if_pos e1] at q
        unfold hPlain at q
        cases ht : fs E1 with
        | rt r E2 =>
          rw [ht] at q
          exact q
        | _ =>
          rw [ht] at q
          exact q.elim
      · have e1 : ¬ x.c = h1 := by simpa using hy
        rw [if_neg e1] at q
        refine ⟨x.c == h2, by rw [R1.1]; exact hk2 x.c hmem, fun hy a ha => ?_, fun hy => ?_⟩
        · have e2 : x.c = h2 := by simpa using hy
          rw [if_pos e2] at q
          unfold hRet at q
          cases ht : t x with
          | none =>
            rw [ht] at q
            exact q.elim
          | some y =>
            rw [ht] at q
            have hlE : i < E1.length := by
              by_cases hlE : i < E1.length
              · exact hlE
              · simp only [if_neg hlE] at q
                exact q.elim
            simp only [if_pos hlE] at q
            have S2 := S1.setUn i (some (V.ref a))
            refine ⟨x, E1.set i .un, F1, y, S2, R1, e2, ?_, ht, fun v F' H' al r => q v _ F' H' (S2.alloc al) r⟩
            have hl : i < σ1.length := by
              have := S1.len
              omega
            rw [List.getElem?_set_self hl]
        · have e2 : ¬ x.c = h2 := by simpa using hy
          rw [if_neg e2] at q
          exact q cls dd σ1 F1 H1 S1 R1
    · rw [if_neg hm] at q
      exact q.elim
  | _ =>
    rw [hb] at q
    exact q
end
/-! ### str of a whole number -/
def oStrI (xs : List D) : Option D := match xs with
  | [.int i] => if i.natAbs.log2 < 1920 then some (.str (toString i)) else none
  | _ => none
theorem cd_str {X : Cx} : CallD X (.type "str") oStrI := ⟨_, call_str_int, fun xs z e F H vs Q s r k => by
  unfold oStrI at e
  split at e
  · rename_i i
    by_cases hl : i.natAbs.log2 < 1920
    · rw [if_pos hl] at e
      cases e
      simp only [RepL, Rep] at r
      obtain ⟨v, ws, rfl, rfl, rfl⟩ := r
      exact ⟨i, rfl, hl, k _ F H (.refl s) (by simp [Rep])⟩
    · rw [if_neg hl] at e
      cases e
  · cases e⟩
end Dn

set_option Elab.async false
set_option linter.all false
set_option maxRecDepth 100000
set_option maxHeartbeats 4000000
/-! a def that hands back a matrix of new lists -/
namespace Dn
open PySem PySem.Spec PyProof.Rows L2

structure Fm where
  np : Nat
  run : List D → Option (List (List D))
def Fm.app (f : Fm) (ds : List D) : Option (List (List D)) := if ds.length = f.np then f.run ds else none
def spM (K : PySem.W.Frag) (f : Fm) : Sp := fun vs H Q _ => ∃ F ds rows, Same F H ∧ RepL K F ds vs ∧ f.app ds = some rows ∧
  ∀ (q : Addr) (ps : List Addr) (F' H' : Hp), Alloc F H F' H' → F' q = none → H' q = some (.lst (ps.map V.ref)) → q ∉ ps → FR K F' H' ps rows → (∀ p, (p = q ∨ p ∈ ps) → H p = none) → Q (.ref q) H'
def rdM (K : PySem.W.Frag) (e0 : E0) (m : Sto → Option (List (List D))) : TE := fun σ H Q => ∃ E F rows, SI K e0 F H σ E ∧ m E = some rows ∧
  ∀ (q : Addr) (ps : List Addr) (F' H' : Hp) (E' : Sto), Grow σ E F H E' F' H' → SI K e0 F' H' σ E' → F' q = none → H' q = some (.lst (ps.map V.ref)) → q ∉ ps → FR K F' H' ps rows → (∀ p, (p = q ∨ p ∈ ps) → H p = none) → Q (.ref q) H'
def DM (X : Cx) (e0 : E0) (e : Expr) (m : Sto → Option (List (List D))) : Prop := PE X e (rdM X.K e0 m)
def sMxV (f : SeL) (t : Tg) (el : SeL) (vs : List Nat) : Sto → Option (List (List D)) := fun E => match f E with
  | .ok items E1 => (match sCompF t el vs items (wipeE E1 vs) with
    | some (rows, _) => if rows.length ≤ 1000000 then some rows else none
    | none => none)
  | _ => none
section
variable {X : Cx} {e0 : E0} {W : WX} {tg iter : Expr} {f : SeL} {t : Tg} {is : List Nat} {el : SeL} {pos : Pos}
theorem dm_lc {kw : Bool} {elt : Expr} {scope : Scope} {own : List (Str × Nat)} (hc : X.calm = true) (hN : X.N.Nodup) (hi : DI kw X e0 W tg iter f) (ok : BlkOk X.N X.env.scope scope own)
    (hg : ∀ (s : Shared) (H : Hp) (C : Addr) (cl : List (Str × Addr)) (fp : List Addr), DG kw (X.blk s H scope (compEnvC scope cl C X.env) fp) e0 is tg t) (hiv : ∀ i ∈ is, i ∈ own.map (·.2))
    (he : ∀ (s : Shared) (H : Hp) (C : Addr) (cl : List (Str × Addr)) (fp : List Addr), DF (X.blk s H scope (compEnvC scope cl C X.env) fp) e0 (fun _ _ _ _ => False) elt el) (hs : ∀ x, foldedSetIterable iter X.env x = pure x := by intro _; rfl) :
    DM X e0 (.ListComp elt [⟨tg, iter, [], 0⟩] scope pos) (sMxV f t el (own.map (·.2))) :=
  PE.weak (pe_lc (te := rdF X.K e0 (fun _ _ _ _ => False) el) (g := rdT kw X.K e0 is t) hc hN hi ok (fun s H C cl fp => (hg s H C cl fp).pg) (fun s H C cl fp => dts_nil (W := fun _ _ _ _ => False)) he hs) fun σ H Q hh => by
  obtain ⟨E, F, rows, S, hm, k⟩ := hh
  unfold sMxV at hm
  cases hf : f E with
  | ok items E1 =>
    rw [hf] at hm
    simp only at hm
    cases hq : sCompF t el (own.map (·.2)) items (wipeE E1 (own.map (·.2))) with
    | none =>
      rw [hq] at hm
      cases hm
    | some r =>
      obtain ⟨rows', E2⟩ := r
      rw [hq] at hm
      simp only at hm
      by_cases hl : rows'.length ≤ 1000000
      · rw [if_pos hl] at hm
        cases hm
        refine mx_rd (W := W) (W1 := fun _ _ _ _ => False) (fun _ _ _ z => z) (fun _ _ _ _ z => z) (hg X.s_0 X.H_0 0 [] []).chg hiv (fun _ _ _ z => z) (fun _ _ _ z => z) S hf hq hl fun F1 H1 G1 S1 => ?_
        intro q ps F' H' G2 S2 nq fq hq' nqp R hps hq2
        have back : ∀ p, H1 p = none → H p = none := fun p hp => by
          cases z : H p with
          | none => rfl
          | some o => exact (G1.dm p (by rw [z]; exact fun y => nomatch y) hp).elim
        refine k q ps F' H' E2 (G1.trans G2) S2 fq hq' nqp R fun p hp => back p ?_
        rcases hp with rfl | hp
        · exact nq
        · exact (hps p hp).1
      · rw [if_neg hl] at hm
        cases hm
  | ex x E1 =>
    rw [hf] at hm
    cases hm
  | bad =>
    rw [hf] at hm
    cases hm
end
section
variable {P : Program} {w : World} {K : PySem.W.Frag} {mg : Str → Option Value} {base : Heap} {x qual : Str} {params : Arguments} {scope : Scope} {dvs : List V} {kws : List (Str × V)} {f : Addr} {fd : FuncData}
theorem spM_len {fm : Fm} {vs : List V} {H : Hp} {Q : VK} {E : XK} (h : spM K fm vs H Q E) : vs.length = fm.np := by
  obtain ⟨F, ds, rows, s, r, e, _⟩ := h
  unfold Fm.app at e
  split at e
  · rename_i hl
    rw [← r.length]
    exact hl
  · cases e
theorem fn_mx {N ps : List Str} {k : Nat} {e : Expr} {pr : Pos} {m : Sto → Option (List (List D))} (F : FunD K x qual params [.Return (some e) pr] scope dvs kws f fd) (S : FnScope N ps scope)
    (hb : ∀ (cdv : Value) (A : Around) (outer : List Env) (s : Shared) (H : Hp) (E : XK) (e0 : E0), Room k (A.deeper (PyProof.Rows.envOfC qual scope s.heap.objs.size f cdv)) → DM (cxOf (L2.CX P w) P w K mg base N qual scope f cdv A outer s H E) e0 e m) :
    FnOk P w K mg base (L2.CX P w) (k + 1) f fd ps (spM K ⟨ps.length, fun ds => m (sto N.length ds)⟩) := by
  refine F.ok S (fun vs H Q E h => spM_len h) fun cdv A outer s H vs Q E hr h => ?_
  obtain ⟨F1, ds, rows, s1, r, e1, kk⟩ := h
  refine ⟨_, pss_cons (ps_ret (hb cdv A outer s H E ⟨F1, H, fun _ => False⟩ hr)) pss_nil, ?_⟩
  unfold Fm.app at e1
  dsimp only at e1
  split at e1
  · refine ⟨sto N.length ds, F1, rows, SI.start s1 r, e1, fun q ps' F' H' E' G S' fq hq nq R hn => ?_⟩
    exact kk q ps' F' H' (S'.out fun _ z => z) fq hq nq R hn
  · cases e1
end
def GdX (P : Program) (w : World) (K : PySem.W.Frag) (mg : Str → Option Value) (base : Heap) (x : Str) (k : Nat) (f : Fm) : Prop :=
  ∃ (a : Addr) (fd : FuncData) (ps : List Str), FnOk P w K mg base (L2.CX P w) k a fd ps (spM K f) ∧ mg x = some (.ref a) ∧ PySem.W.keepIn K (.ref a) = true ∧ Binds K fd ps []
/-- x = f(..), the rows all new -/
def sMxCall (i : Nat) (f : Fm) (g : SeL) : Ss := fun E => (g E).then fun ds E1 => match f.app ds with
  | some rows => .nx (E1.set i (.mx rows))
  | none => .bad
theorem ds_mxCall {X : Cx} {e0 : E0} {W : WX} {i k : Nat} {y x : Str} {f : Fm} {e : Expr} {es : List Expr} {g : SeL} {p py pos spos : Pos} (G : GdX X.prog X.w X.K X.mg X.base x k f) (hr : Room k X.A) (tk : Takes X W) (hN : X.N.Nodup) (hi : X.N[i]? = some y) (hx : Loc X.env.scope y) (hg : Gl X x) (ha : DA X e0 W (e :: es) g)
    (hdb : (x == ("__debug__" : Str)) = false := by decide) (he : starEach (e :: es) X.env = (false, eval e X.env) :: starEach es X.env := by rfl) (hpl : (backTo pos (starEach es X.env)).any (·.1) = false := by rfl)
    (hs : swapsWith (.Call (.Name x p) (e :: es) [] pos) (some (.Name y py)) spos.line X.env = pure false := by rfl) (hf : X.fn y = true ∨ X.env.scope.names.lookup y = some .local := by first | exact .inl rfl | exact .inr rfl | assumption) :
    DS X e0 W (.Assign [.Name y py] (.Call (.Name x p) (e :: es) [] pos) spos) (sMxCall i f g) := by
  obtain ⟨a, fd, ps, F, hm, hk, hb⟩ := G
  refine PS.weak (ps_set hN hi hx (pe_callS F hr hg hm hk hb (fun σ => passAt tk σ) ha hdb he hpl) hs hf) fun D σ H ⟨E, F, S, h⟩ => rdG_intro S (PostS.bind h fun ds vs E1 F1 H1 G1 S1 R1 h1 => ?_)
  cases hq : f.app ds with
  | none =>
    rw [hq] at h1
    exact h1.elim
  | some rows =>
    rw [hq] at h1
    refine ⟨F1, ds, rows, S1.sub, R1, hq, fun q ps' F' H' al fq hq' nq R hn => ?_⟩
    refine h1 _ F' H' al.sF ((S1.alloc al).setM i hq' fq nq R fun p hp => ⟨fun j o => ?_, S1.fresh0 (hn p hp)⟩)
    obtain ⟨u, z, _⟩ := own_some S1 ((own_alloc S1 al.sH j p).mp o)
    rw [hn p hp] at z
    cases z
end Dn

set_option Elab.async false
set_option linter.all false
set_option maxRecDepth 100000
set_option maxHeartbeats 0
namespace My
open PySem PySem.Spec PyProof.Rows L2 Dn
abbrev tab_q : List (Nat × Nat) := [(0, 0), (1, 1)]
abbrev tab_p : List (Nat × Nat) := [(0, 1)]
abbrev tab_kind : List (Nat × Nat) := [(1, 0)]
abbrev tab_matrix : List (Nat × Nat) := [(1, 3)]
abbrev tab_n : List (Nat × Nat) := [(1, 2)]
abbrev tab_field : List (Nat × Nat) := [(1, 4)]
abbrev tab__gram : List (Nat × Nat) := [(1, 5)]
def S_is_integer : Ss := (sRet (sAnd (sIsi (isiK "int") (sVar 0)) (sUn oNot (sIsi (isiK "bool") (sVar 0)))))
def F_is_integer : Fn := mkFn 1 1 S_is_integer
def S_Field___init__ : Ss := (sSeq (sCond (bOr (bNot (bVal (sFn F_is_integer (sCons (sVar 1) sNil)))) (bVal (sBin oNotIn (sVar 1) (sC (.tup [.int 2, .int 3, .int 4, .int 5, .int 7, .int 9]))))) (sRaise 0) sNext) (sSeq (sSelf 0 0 0 (sVar 1)) (sSelf 0 0 1 (sBin oIx (sC (.tup [.int 2, .int 3, .int 2, .int 5, .int 7, .int 3])) (sIndexC [2, 3, 4, 5, 7, 9] (sVar 1))))))
def F_Field___init__ : FnI := mkInit 2 1 0 S_Field___init__
def S_Field___eq__ : Ss := (sRet (sAnd (sIsi (isiO 0) (sVar 1)) (sBin oEq (sFld tab_q (sVar 0)) (sFld tab_q (sVar 1)))))
def F_Field___eq__ : Fn := mkFn 2 2 S_Field___eq__
def S_Field_is_number : Ss := (sRet (sAnd (sFn F_is_integer (sCons (sVar 1) sNil)) (sChain oLe oLt (sC (.int 0)) (sVar 1) (sFld tab_q (sVar 0)))))
def F_Field_is_number : Fn := mkFn 2 2 S_Field_is_number
def S_Field_numbers : Ss := (sRet (sTupRg1 (sFld tab_q (sVar 0))))
def F_Field_numbers : Fn := mkFn 1 1 S_Field_numbers
def S_Field_joined : Ss := (sSeq (sCond (bVal (sBin oEq (sFld tab_q (sVar 0)) (sFld tab_p (sVar 0)))) (sRet (sBin oMod (sVar 1) (sFld tab_p (sVar 0)))) sNext) (sRet (sBin oAdd (sBin oMod (sVar 1) (sFld tab_p (sVar 0))) (sBin oMul (sFld tab_p (sVar 0)) (sBin oMod (sVar 2) (sFld tab_p (sVar 0)))))))
def F_Field_joined : Fn := mkFn 3 3 S_Field_joined
def S_Field_add : Ss := (sRet (sMeth [(0, F_Field_joined)] (sVar 0) (sCons (sBin oAdd (sBin oMod (sVar 1) (sFld tab_p (sVar 0))) (sBin oMod (sVar 2) (sFld tab_p (sVar 0)))) (sCons (sBin oAdd (sBin oFdiv (sVar 1) (sFld tab_p (sVar 0))) (sBin oFdiv (sVar 2) (sFld tab_p (sVar 0)))) sNil))))
def F_Field_add : Fn := mkFn 3 3 S_Field_add
def S_Field_negative : Ss := (sRet (sMeth [(0, F_Field_joined)] (sVar 0) (sCons (sUn oNeg (sBin oMod (sVar 1) (sFld tab_p (sVar 0)))) (sCons (sUn oNeg (sBin oFdiv (sVar 1) (sFld tab_p (sVar 0)))) sNil))))
def F_Field_negative : Fn := mkFn 2 2 S_Field_negative
def S_Field_multiply : Ss := (sSeq (sCond (bVal (sBin oEq (sFld tab_q (sVar 0)) (sFld tab_p (sVar 0)))) (sRet (sBin oMod (sBin oMul (sVar 1) (sVar 2)) (sFld tab_p (sVar 0)))) sNext) (sSeq (sPar 3 4 (sBin oMod (sVar 1) (sFld tab_p (sVar 0))) (sBin oFdiv (sVar 1) (sFld tab_p (sVar 0)))) (sSeq (sPar 5 6 (sBin oMod (sVar 2) (sFld tab_p (sVar 0))) (sBin oFdiv (sVar 2) (sFld tab_p (sVar 0)))) (sSeq (sSet 7 (sBin oAdd (sBin oMul (sVar 3) (sVar 6)) (sBin oMul (sVar 4) (sVar 5)))) (sSeq (sCond (bVal (sBin oEq (sFld tab_p (sVar 0)) (sC (.int 2)))) (sRet (sMeth [(0, F_Field_joined)] (sVar 0) (sCons (sBin oAdd (sBin oMul (sVar 3) (sVar 5)) (sBin oMul (sVar 4) (sVar 6))) (sCons (sBin oAdd (sVar 7) (sBin oMul (sVar 4) (sVar 6))) sNil)))) sNext) (sRet (sMeth [(0, F_Field_joined)] (sVar 0) (sCons (sBin oSub (sBin oMul (sVar 3) (sVar 5)) (sBin oMul (sVar 4) (sVar 6))) (sCons (sVar 7) sNil)))))))))
def F_Field_multiply : Fn := mkFn 8 3 S_Field_multiply
def S_Field_power : Ss := (sSeq (sSet 3 (sC (.int 1))) (sSeq (sSet 4 (sVar 2)) (sSeq (sWhile (bVal (sBin oGt (sVar 4) (sC (.int 0)))) (sSeq (sCond (bVal (sBin oEq (sBin oMod (sVar 4) (sC (.int 2))) (sC (.int 1)))) (sSet 3 (sMeth [(0, F_Field_multiply)] (sVar 0) (sCons (sVar 3) (sCons (sVar 1) sNil)))) sNext) (sSeq (sSet 1 (sMeth [(0, F_Field_multiply)] (sVar 0) (sCons (sVar 1) (sCons (sVar 1) sNil)))) (sSet 4 (sBin oFdiv (sVar 4) (sC (.int 2)))))) 100000) (sRet (sVar 3)))))
def F_Field_power : Fn := mkFn 5 3 S_Field_power
def S_Field_mirrored : Ss := (sSeq (sCond (bVal (sBin oEq (sFld tab_q (sVar 0)) (sFld tab_p (sVar 0)))) (sRet (sVar 1)) sNext) (sRet (sMeth [(0, F_Field_power)] (sVar 0) (sCons (sVar 1) (sCons (sFld tab_p (sVar 0)) sNil)))))
def F_Field_mirrored : Fn := mkFn 2 2 S_Field_mirrored
def S_Field_is_fixed : Ss := (sRet (sBin oEq (sMeth [(0, F_Field_mirrored)] (sVar 0) (sCons (sVar 1) sNil)) (sVar 1)))
def F_Field_is_fixed : Fn := mkFn 2 2 S_Field_is_fixed
def S_is_row : Ss := (sRet (sAnd (sIsi (isiK "tuple") (sVar 1)) (sAnd (sBin oEq (sCall oLen (sCons (sVar 1) sNil)) (sVar 2)) (sCall oAll (sCons (sLs (sLc (iSeq (sVar 1)) (gN 3) bYes (sMeth [(0, F_Field_is_number)] (sVar 0) (sCons (sVar 3) sNil)) [3])) sNil)))))
def F_is_row : Fn := mkFn 4 3 S_is_row
def S_unit_row : Ss := (sRet (sCall oTuple (sCons (sLs (sLc (iCall rng1O (sCons (sVar 0) sNil)) (gN 2) bYes (sCall oInt (sCons (sBin oEq (sVar 2) (sVar 1)) sNil)) [2])) sNil)))
def F_unit_row : Fn := mkFn 3 2 S_unit_row
def S_add : Ss := (sRet (sCall oTuple (sCons (sLs (sLc (iCall zipO (sCons (sVar 1) (sCons (sVar 2) sNil))) (gTup' (gCons' (gN 3) (gCons' (gN 4) gNil'))) bYes (sMeth [(0, F_Field_add)] (sVar 0) (sCons (sVar 3) (sCons (sVar 4) sNil))) [3, 4])) sNil)))
def F_add : Fn := mkFn 5 3 S_add
def S_scaled : Ss := (sRet (sCall oTuple (sCons (sLs (sLc (iSeq (sVar 1)) (gN 3) bYes (sMeth [(0, F_Field_multiply)] (sVar 0) (sCons (sVar 3) (sCons (sVar 2) sNil))) [3])) sNil)))
def F_scaled : Fn := mkFn 4 3 S_scaled
def S_dot : Ss := (sSeq (sSet 3 (sC (.int 0))) (sSeq (sFor (iCall zipO (sCons (sVar 1) (sCons (sVar 2) sNil))) (gTup' (gCons' (gN 4) (gCons' (gN 5) gNil'))) (sSet 3 (sMeth [(0, F_Field_add)] (sVar 0) (sCons (sVar 3) (sCons (sMeth [(0, F_Field_multiply)] (sVar 0) (sCons (sVar 4) (sCons (sVar 5) sNil))) sNil))))) (sRet (sVar 3))))
def F_dot : Fn := mkFn 6 3 S_dot
def S_combine : Ss := (sSeq (sSet 4 (sCall oTuple (sCons (sBin oMul (sLst (sCons (sC (.int 0)) sNil)) (sVar 3)) sNil))) (sSeq (sFor (iCall zipO (sCons (sVar 1) (sCons (sVar 2) sNil))) (gTup' (gCons' (gN 5) (gCons' (gN 6) gNil'))) (sSet 4 (sFn F_add (sCons (sVar 0) (sCons (sVar 4) (sCons (sFn F_scaled (sCons (sVar 0) (sCons (sVar 5) (sCons (sVar 6) sNil)))) sNil)))))) (sRet (sVar 4))))
def F_combine : Fn := mkFn 7 4 S_combine
def S_identity : Ss := (sRet (sCall oTuple (sCons (sLs (sLc (iCall rng1O (sCons (sVar 0) sNil)) (gN 1) bYes (sFn F_unit_row (sCons (sVar 0) (sCons (sVar 1) sNil))) [1])) sNil)))
def F_identity : Fn := mkFn 2 1 S_identity
def S_check_kind : Ss := (sSeq (sCond (bOr (bNot (bVal (sIsi (isiK "str") (sVar 0)))) (bVal (sBin oNotIn (sVar 0) (sC (.tup [.str "alternating", .str "quadratic", .str "hermitian"]))))) (sRaise 0) sNext) (sSeq (sCond (bOr (bNot (bVal (sFn F_is_integer (sCons (sVar 1) sNil)))) (bVal (sBin oNotIn (sVar 1) (sC (.tup [.int 2, .int 3, .int 4, .int 5, .int 7, .int 9]))))) (sRaise 0) sNext) (sCond (bAnd (bVal (sBin oEq (sVar 0) (sC (.str "hermitian")))) (bVal (sBin oNotIn (sVar 1) (sTup (sCons (sC (.int 4)) (sCons (sC (.int 9)) sNil)))))) (sRaise 0) sNext)))
def F_check_kind : Fn := mkFn 2 2 S_check_kind
def S_taken : Ss := (sSeq (sCond (bNot (bVal (sIsi (isiK2 "list" "tuple") (sVar 1)))) (sRaise 0) sNext) (sSeq (sSet 2 (sCall oLen (sCons (sVar 1) sNil))) (sSeq (sFor (iSeq (sVar 1)) (gN 3) (sSeq (sCond (bOr (bNot (bVal (sIsi (isiK2 "list" "tuple") (sVar 3)))) (bVal (sBin oNe (sCall oLen (sCons (sVar 3) sNil)) (sVar 2)))) (sRaise 0) sNext) (sCond (bNot (bVal (sCall oAll (sCons (sLs (sLc (iSeq (sVar 3)) (gN 4) bYes (sMeth [(0, F_Field_is_number)] (sVar 0) (sCons (sVar 4) sNil)) [4])) sNil)))) (sRaise 0) sNext))) (sRet (sCall oTuple (sCons (sLs (sLc (iSeq (sVar 1)) (gN 3) bYes (sCall oTuple (sCons (sVar 3) sNil)) [3])) sNil))))))
def F_taken : Fn := mkFn 5 2 S_taken
def S_has_form : Ss := (sSeq (sFor (iCall rng1O (sCons (sCall oLen (sCons (sVar 2) sNil)) sNil)) (gN 3) (sSeq (sCond (bAnd (bVal (sBin oEq (sVar 1) (sC (.str "alternating")))) (bVal (sBin oNe (sBin oIx (sBin oIx (sVar 2) (sVar 3)) (sVar 3)) (sC (.int 0))))) (sRet (sC (.bl false))) sNext) (sFor (iCall rng1O (sCons (sBin oAdd (sVar 3) (sC (.int 1))) sNil)) (gN 4) (sSeq (sPar 5 6 (sBin oIx (sBin oIx (sVar 2) (sVar 4)) (sVar 3)) (sBin oIx (sBin oIx (sVar 2) (sVar 3)) (sVar 4))) (sSeq (sCond (bAnd (bVal (sBin oEq (sVar 1) (sC (.str "alternating")))) (bVal (sBin oNe (sVar 6) (sMeth [(0, F_Field_negative)] (sVar 0) (sCons (sVar 5) sNil))))) (sRet (sC (.bl false))) sNext) (sSeq (sCond (bAnd (bVal (sBin oEq (sVar 1) (sC (.str "hermitian")))) (bVal (sBin oNe (sVar 6) (sMeth [(0, F_Field_mirrored)] (sVar 0) (sCons (sVar 5) sNil))))) (sRet (sC (.bl false))) sNext) (sCond (bAnd (bVal (sBin oEq (sVar 1) (sC (.str "quadratic")))) (bAnd (bVal (sBin oLt (sVar 4) (sVar 3))) (bVal (sBin oNe (sVar 6) (sC (.int 0)))))) (sRet (sC (.bl false))) sNext))))))) (sRet (sC (.bl true))))
def F_has_form : Fn := mkFn 7 3 S_has_form
def S_gram_of : Ss := (sSeq (sCond (bVal (sBin oNe (sVar 1) (sC (.str "quadratic")))) (sRet (sVar 2)) sNext) (sSeq (sSet 3 (sCall oLen (sCons (sVar 2) sNil))) (sRet (sCall oTuple (sCons (sLs (sLc (iCall rng1O (sCons (sVar 3) sNil)) (gN 4) bYes (sCall oTuple (sCons (sLs (sLc (iCall rng1O (sCons (sVar 3) sNil)) (gN 5) bYes (sMeth [(0, F_Field_add)] (sVar 0) (sCons (sBin oIx (sBin oIx (sVar 2) (sVar 4)) (sVar 5)) (sCons (sBin oIx (sBin oIx (sVar 2) (sVar 5)) (sVar 4)) sNil))) [5])) sNil)) [4])) sNil)))))
def F_gram_of : Fn := mkFn 6 3 S_gram_of
def S_Space___init__ : Ss := (sSeq (sDrop (sFn F_check_kind (sCons (sVar 1) (sCons (sVar 2) sNil)))) (sSeq (sSet 4 (sMake 0 F_Field___init__ (sCons (sVar 2) sNil))) (sSeq (sSet 5 (sFn F_taken (sCons (sVar 4) (sCons (sVar 3) sNil)))) (sSeq (sCond (bNot (bVal (sFn F_has_form (sCons (sVar 4) (sCons (sVar 1) (sCons (sVar 5) sNil)))))) (sRaise 0) sNext) (sSeq (sCond (bVal (sBin oGt (sCall oLen (sCons (sVar 5) sNil)) (sC (.int 6)))) (sRaiseF 1 (sCons (sC (.str "large")) sNil)) sNext) (sSeq (sSelf 0 1 0 (sVar 1)) (sSeq (sSelf 0 1 1 (sVar 2)) (sSeq (sSelf 0 1 2 (sCall oLen (sCons (sVar 5) sNil))) (sSeq (sSelf 0 1 3 (sVar 5)) (sSeq (sSelf 0 1 4 (sVar 4)) (sSelf 0 1 5 (sFn F_gram_of (sCons (sVar 4) (sCons (sVar 1) (sCons (sVar 5) sNil)))))))))))))))
def F_Space___init__ : FnI := mkInit 6 3 1 S_Space___init__
def S_Space___eq__ : Ss := (sSeq (sCond (bNot (bVal (sIsi (isiO 1) (sVar 1)))) (sRet (sC (.bl false))) sNext) (sRet (sAnd (sBin oEq (sFld tab_kind (sVar 0)) (sFld tab_kind (sVar 1))) (sAnd (sBin oEq (sFld tab_q (sVar 0)) (sFld tab_q (sVar 1))) (sBin oEq (sFld tab_matrix (sVar 0)) (sFld tab_matrix (sVar 1)))))))
def F_Space___eq__ : Fn := mkFn 2 2 S_Space___eq__
def S_Space___str__ : Ss := (sSeq tBad (sSeq tBad tBad))
def F_Space___str__ : Fn := mkFn 5 1 S_Space___str__
def S_Space_is_row : Ss := (sRet (sFn F_is_row (sCons (sFld tab_field (sVar 0)) (sCons (sVar 1) (sCons (sFld tab_n (sVar 0)) sNil)))))
def F_Space_is_row : Fn := mkFn 2 2 S_Space_is_row
def S_Space_zero : Ss := (sRet (sBin oMulT (sTup (sCons (sC (.int 0)) sNil)) (sFld tab_n (sVar 0))))
def F_Space_zero : Fn := mkFn 1 1 S_Space_zero
def S_Space_unit : Ss := (sRet (sFn F_unit_row (sCons (sFld tab_n (sVar 0)) (sCons (sVar 1) sNil))))
def F_Space_unit : Fn := mkFn 2 2 S_Space_unit
def S_Space_rows : Ss := (sSeq (sSet 1 (sFn F_identity (sCons (sFld tab_n (sVar 0)) sNil))) tBad)
def F_Space_rows : Fn := mkFn 2 1 S_Space_rows
def S_Space_facing : Ss := (sSeq (sCond (bVal (sBin oEq (sFld tab_kind (sVar 0)) (sC (.str "hermitian")))) (sSet 1 (sCall oTuple (sCons (sLs (sLc (iSeq (sVar 1)) (gN 2) bYes (sMeth [(0, F_Field_mirrored)] (sFld tab_field (sVar 0)) (sCons (sVar 2) sNil)) [2])) sNil))) sNext) (sRet (sCall oTuple (sCons (sLs (sLc (iSeq (sFld tab__gram (sVar 0))) (gN 3) bYes (sFn F_dot (sCons (sFld tab_field (sVar 0)) (sCons (sVar 3) (sCons (sVar 1) sNil)))) [3])) sNil))))
def F_Space_facing : Fn := mkFn 4 2 S_Space_facing
def S_Space_product : Ss := (sRet (sFn F_dot (sCons (sFld tab_field (sVar 0)) (sCons (sVar 1) (sCons (sMeth [(1, F_Space_facing)] (sVar 0) (sCons (sVar 2) sNil)) sNil)))))
def F_Space_product : Fn := mkFn 3 3 S_Space_product
def S_Space_value : Ss := (sSeq (sCond (bVal (sBin oEq (sFld tab_kind (sVar 0)) (sC (.str "alternating")))) (sRet (sC (.int 0))) sNext) (sSeq (sCond (bVal (sBin oEq (sFld tab_kind (sVar 0)) (sC (.str "hermitian")))) (sRet (sMeth [(1, F_Space_product)] (sVar 0) (sCons (sVar 1) (sCons (sVar 1) sNil)))) sNext) (sSeq (sSet 2 (sC (.int 0))) (sSeq (sFor (iCall rng1O (sCons (sFld tab_n (sVar 0)) sNil)) (gN 3) (sSet 2 (sMeth [(0, F_Field_add)] (sFld tab_field (sVar 0)) (sCons (sVar 2) (sCons (sMeth [(0, F_Field_multiply)] (sFld tab_field (sVar 0)) (sCons (sBin oIx (sVar 1) (sVar 3)) (sCons (sFn F_dot (sCons (sFld tab_field (sVar 0)) (sCons (sBin oIx (sFld tab_matrix (sVar 0)) (sVar 3)) (sCons (sVar 1) sNil)))) sNil))) sNil))))) (sRet (sVar 2))))))
def F_Space_value : Fn := mkFn 4 2 S_Space_value
def S_check_count : Ss := (sCond (bOr (bNot (bVal (sFn F_is_integer (sCons (sVar 0) sNil)))) (bVal (sBin oLt (sVar 0) (sC (.int 0))))) (sRaise 0) sNext)
def F_check_count : Fn := mkFn 1 1 S_check_count
def S_zero_space : Ss := (sSeq (sDrop (sFn F_check_kind (sCons (sVar 0) (sCons (sVar 1) sNil)))) (sSeq (sDrop (sFn F_check_count (sCons (sVar 2) sNil))) (sSeq (sCond (bVal (sBin oGt (sVar 2) (sC (.int 6)))) (sRaiseF 1 (sCons (sC (.str "large")) sNil)) sNext) (sRet (sMake 1 F_Space___init__ (sCons (sVar 0) (sCons (sVar 1) (sCons (sBin oMulT (sTup (sCons (sBin oMulT (sTup (sCons (sC (.int 0)) sNil)) (sVar 2)) sNil)) (sVar 2)) sNil))))))))
def F_zero_space : Fn := mkFn 3 3 S_zero_space
def S_hyperbolic : Ss := (sSeq (sDrop (sFn F_check_kind (sCons (sVar 0) (sCons (sVar 1) sNil)))) (sSeq (sDrop (sFn F_check_count (sCons (sVar 2) sNil))) (sSeq (sCond (bVal (sBin oGt (sBin oMul (sC (.int 2)) (sVar 2)) (sC (.int 6)))) (sRaiseF 1 (sCons (sC (.str "large")) sNil)) sNext) (sSeq (sSet 3 (sDictIx ["alternating", "quadratic", "hermitian"] (sCons (sMeth [(0, F_Field_negative)] (sMake 0 F_Field___init__ (sCons (sVar 1) sNil)) (sCons (sC (.int 1)) sNil)) (sCons (sC (.int 0)) (sCons (sC (.int 1)) sNil))) (sVar 0))) (sSeq (sOwn 4 (chkLen sNil)) (sSeq (sFor (iCall rng1O (sCons (sVar 2) sNil)) (gN 5) (sSeq (sAppend 4 (sBin oAdd (sBin oAdd (sBin oMulT (sTup (sCons (sC (.int 0)) sNil)) (sBin oMul (sC (.int 2)) (sVar 5))) (sTup (sCons (sC (.int 0)) (sCons (sC (.int 1)) sNil)))) (sBin oMulT (sTup (sCons (sC (.int 0)) sNil)) (sBin oMul (sC (.int 2)) (sBin oSub (sBin oSub (sVar 2) (sVar 5)) (sC (.int 1))))))) (sAppend 4 (sBin oAdd (sBin oAdd (sBin oMulT (sTup (sCons (sC (.int 0)) sNil)) (sBin oMul (sC (.int 2)) (sVar 5))) (sTup (sCons (sVar 3) (sCons (sC (.int 0)) sNil)))) (sBin oMulT (sTup (sCons (sC (.int 0)) sNil)) (sBin oMul (sC (.int 2)) (sBin oSub (sBin oSub (sVar 2) (sVar 5)) (sC (.int 1))))))))) (sRet (sMake 1 F_Space___init__ (sCons (sVar 0) (sCons (sVar 1) (sCons (sVar 4) sNil)))))))))))
def F_hyperbolic : Fn := mkFn 6 3 S_hyperbolic
def S_of_matrix : Ss := (sSeq (sDrop (sFn F_check_kind (sCons (sC (.str "quadratic")) (sCons (sVar 0) sNil)))) (sSeq (sSet 2 (sMake 0 F_Field___init__ (sCons (sVar 0) sNil))) (sSeq (sSet 3 (sFn F_taken (sCons (sVar 2) (sCons (sVar 1) sNil)))) (sSeq (sSet 4 (sCall oLen (sCons (sVar 3) sNil))) (sSeq (sOwn 5 (chkLen sNil)) (sSeq (sFor (iCall rng1O (sCons (sVar 4) sNil)) (gN 6) (sSeq (sSet 7 (sLs (sLc (iCall rng2O (sCons (sBin oAdd (sVar 6) (sC (.int 1))) (sCons (sVar 4) sNil))) (gN 8) bYes (sMeth [(0, F_Field_add)] (sVar 2) (sCons (sBin oIx (sBin oIx (sVar 3) (sVar 6)) (sVar 8)) (sCons (sBin oIx (sBin oIx (sVar 3) (sVar 8)) (sVar 6)) sNil))) [8]))) (sAppend 5 (sBin oAdd (sBin oAdd (sBin oMulT (sTup (sCons (sC (.int 0)) sNil)) (sVar 6)) (sTup (sCons (sBin oIx (sBin oIx (sVar 3) (sVar 6)) (sVar 6)) sNil))) (sCall oTuple (sCons (sVar 7) sNil)))))) (sRet (sMake 1 F_Space___init__ (sCons (sC (.str "quadratic")) (sCons (sVar 0) (sCons (sVar 5) sNil)))))))))))
def F_of_matrix : Fn := mkFn 9 2 S_of_matrix
def S_direct_sum : Ss := (sSeq (sCond (bOr (bVal (sBin oNe (sFld tab_kind (sVar 0)) (sFld tab_kind (sVar 1)))) (bVal (sBin oNe (sFld tab_q (sVar 0)) (sFld tab_q (sVar 1))))) (sRaise 0) sNext) (sSeq (sCond (bVal (sBin oGt (sBin oAdd (sFld tab_n (sVar 0)) (sFld tab_n (sVar 1))) (sC (.int 6)))) (sRaiseF 1 (sCons (sC (.str "large")) sNil)) sNext) (sSeq (sSet 2 (sBin oAdd (sLs (sLc (iSeq (sFld tab_matrix (sVar 0))) (gN 3) bYes (sBin oAdd (sVar 3) (sBin oMulT (sTup (sCons (sC (.int 0)) sNil)) (sFld tab_n (sVar 1)))) [3])) (sLs (sLc (iSeq (sFld tab_matrix (sVar 1))) (gN 3) bYes (sBin oAdd (sBin oMulT (sTup (sCons (sC (.int 0)) sNil)) (sFld tab_n (sVar 0))) (sVar 3)) [3])))) (sRet (sMake 1 F_Space___init__ (sCons (sFld tab_kind (sVar 0)) (sCons (sFld tab_q (sVar 0)) (sCons (sVar 2) sNil))))))))
def F_direct_sum : Fn := mkFn 4 2 S_direct_sum
def S_scaled_2 : Ss := (sSeq (sSet 2 (sFld tab_field (sVar 0))) (sSeq (sCond (bOr (bNot (bVal (sMeth [(0, F_Field_is_number)] (sVar 2) (sCons (sVar 1) sNil)))) (bAnd (bVal (sBin oEq (sFld tab_kind (sVar 0)) (sC (.str "hermitian")))) (bNot (bVal (sMeth [(0, F_Field_is_fixed)] (sVar 2) (sCons (sVar 1) sNil)))))) (sRaise 0) sNext) (sSeq (sSet 3 (sLs (sLc (iSeq (sFld tab_matrix (sVar 0))) (gN 4) bYes (sCall oTuple (sCons (sLs (sLc (iSeq (sVar 4)) (gN 5) bYes (sMeth [(0, F_Field_multiply)] (sVar 2) (sCons (sVar 1) (sCons (sVar 5) sNil))) [5])) sNil)) [4]))) (sRet (sMake 1 F_Space___init__ (sCons (sFld tab_kind (sVar 0)) (sCons (sFld tab_q (sVar 0)) (sCons (sVar 3) sNil))))))))
def F_scaled_2 : Fn := mkFn 6 2 S_scaled_2
def S_form_on : Ss := (sSeq (sOwn 2 (chkLen sNil)) (sSeq (sFor (iCall rng1O (sCons (sCall oLen (sCons (sVar 1) sNil)) sNil)) (gN 3) (sCond (bVal (sBin oEq (sFld tab_kind (sVar 0)) (sC (.str "quadratic")))) (sSeq (sSet 4 (sLs (sLc (iCall rng2O (sCons (sBin oAdd (sVar 3) (sC (.int 1))) (sCons (sCall oLen (sCons (sVar 1) sNil)) sNil))) (gN 5) bYes (sMeth [(1, F_Space_product)] (sVar 0) (sCons (sBin oIx (sVar 1) (sVar 3)) (sCons (sBin oIx (sVar 1) (sVar 5)) sNil))) [5]))) (sAppend 2 (sBin oAdd (sBin oAdd (sBin oMulT (sTup (sCons (sC (.int 0)) sNil)) (sVar 3)) (sTup (sCons (sMeth [(1, F_Space_value)] (sVar 0) (sCons (sBin oIx (sVar 1) (sVar 3)) sNil)) sNil))) (sCall oTuple (sCons (sVar 4) sNil))))) (sAppend 2 (sCall oTuple (sCons (sLs (sLc (iSeq (sVar 1)) (gN 6) bYes (sMeth [(1, F_Space_product)] (sVar 0) (sCons (sBin oIx (sVar 1) (sVar 3)) (sCons (sVar 6) sNil))) [6])) sNil))))) (sRet (sMake 1 F_Space___init__ (sCons (sFld tab_kind (sVar 0)) (sCons (sFld tab_q (sVar 0)) (sCons (sVar 2) sNil)))))))
def F_form_on : Fn := mkFn 7 2 S_form_on
def S_check_rows : Ss := (sCond (bOr (bNot (bVal (sIsi (isiK2 "list" "tuple") (sVar 1)))) (bNot (bVal (sCall oAll (sCons (sLs (sLc (iSeq (sVar 1)) (gN 2) bYes (sMeth [(1, F_Space_is_row)] (sVar 0) (sCons (sVar 2) sNil)) [2])) sNil))))) (sRaise 0) sNext)
def F_check_rows : Fn := mkFn 3 2 S_check_rows
def S_restricted : Ss := (sSeq (sDrop (sFn F_check_rows (sCons (sVar 0) (sCons (sVar 1) sNil)))) (sSeq (sCond (bVal (sBin oGt (sCall oLen (sCons (sVar 1) sNil)) (sC (.int 6)))) (sRaiseF 1 (sCons (sC (.str "large")) sNil)) sNext) (sRet (sFn F_form_on (sCons (sVar 0) (sCons (sVar 1) sNil))))))
def F_restricted : Fn := mkFn 2 2 S_restricted
def S__law_state : Ss := (sSeq (sSet 1 (sC (.int 0))) (sSeq (sSet 2 (sC (.int 1))) (sSeq (sFor (iSeq (sSl (sVar 0) oNo (oSome (sC (.int 63))))) (gN 3) (sSeq (sSet 1 (sBin oAdd (sBin oMul (sVar 1) (sC (.int 1000003))) (sCall oAbs (sCons (sVar 3) sNil)))) (sSet 2 (sBin oMod (sCall oInt (sCons (sBin oAdd (sBin oMul (sVar 2) (sC (.int 48271))) (sVar 3)) sNil)) (sC (.int 2147483647)))))) (sRetF (chkLen (sCons (sVar 1) (sCons (sVar 2) sNil)))))))
def F__law_state : Fn := mkFn 4 1 S__law_state
def S__law_take : Ss := (sSeq (sCond (bVal (sBin oGt (sIxO 0 (sC (.int 0))) (sC (.int 0)))) (sSeq (sSet 2 (sBin oMod (sCall oInt (sCons (sIxO 0 (sC (.int 0))) sNil)) (sVar 1))) (sSeq (sIxSet 0 (sC (.int 0)) (sBin oFdiv (sIxO 0 (sC (.int 0))) (sVar 1))) (sRet (sVar 2)))) sNext) (sSeq (sIxSet 0 (sC (.int 1)) (sBin oMod (sCall oInt (sCons (sBin oAdd (sBin oMul (sIxO 0 (sC (.int 1))) (sC (.int 48271))) (sC (.int 11))) sNil)) (sC (.int 2147483647)))) (sRet (sBin oMod (sCall oInt (sCons (sBin oFdiv (sIxO 0 (sC (.int 1))) (sC (.int 7))) sNil)) (sVar 1)))))
def F__law_take : Fn2 := mkFn2 3 1 S__law_take
def S__law_reason : Ss := (sSeq (sTry2 (sSeq (sCond (bVal (sBin oEq (sVar 0) (sC (.str "space")))) (sDrop (sMake 1 F_Space___init__ (sCons (sVar 1) (sCons (sVar 2) (sCons (sVar 3) sNil))))) sNext) (sSeq (sCond (bVal (sBin oEq (sVar 0) (sC (.str "planes")))) (sDrop (sFn F_hyperbolic (sCons (sVar 1) (sCons (sVar 2) (sCons (sVar 3) sNil))))) sNext) (sSeq (sCond (bVal (sBin oEq (sVar 0) (sC (.str "zero")))) (sDrop (sFn F_zero_space (sCons (sVar 1) (sCons (sVar 2) (sCons (sVar 3) sNil))))) sNext) (sSeq (sCond (bVal (sBin oEq (sVar 0) (sC (.str "matrix")))) (sDrop (sFn F_of_matrix (sCons (sVar 1) (sCons (sVar 2) sNil)))) sNext) (sSeq (sCond (bVal (sBin oEq (sVar 0) (sC (.str "sum")))) (sDrop (sFn F_direct_sum (sCons (sVar 1) (sCons (sVar 2) sNil)))) sNext) (sSeq (sCond (bVal (sBin oEq (sVar 0) (sC (.str "scaled")))) (sDrop (sFn F_scaled_2 (sCons (sVar 1) (sCons (sVar 2) sNil)))) sNext) (sCond (bVal (sBin oEq (sVar 0) (sC (.str "rows")))) (sDrop (sFn F_restricted (sCons (sVar 1) (sCons (sVar 2) sNil)))) sNext))))))) [0, 1] 0 1 (hPlain (sRet (sC (.str "malformed")))) (hRet 4 tFld)) (sRet (sC (.str "none"))))
def F__law_reason : Fn := mkFn 5 4 S__law_reason
def S__law_zeros : Ss := (sRetF (sLc (iCall rng1O (sCons (sVar 0) sNil)) (gN 1) bYes (sLs (sLc (iCall rng1O (sCons (sVar 0) sNil)) (gN 2) bYes (sC (.int 0)) [2])) [1]))
def F__law_zeros : Fn := mkFn 3 1 S__law_zeros
def Fm__law_zeros : Fm := ⟨1, fun ds => sMxV (iCall rng1O (sCons (sVar 0) sNil)) (gN 1) (sLc (iCall rng1O (sCons (sVar 0) sNil)) (gN 2) bYes (sC (.int 0)) [2]) [1] (sto 3 ds)⟩
def S__law_bad_matrices : Ss := (sSeq (sSet 2 (sLst (sCons (sC .non) (sCons (sC (.int 5)) (sCons (sC (.str "00")) (sCons (sLst (sCons (sLst (sCons (sC (.int 0)) (sCons (sC (.int 0)) sNil))) sNil)) (sCons (sLst (sCons (sLst (sCons (sC (.int 0)) sNil)) (sCons (sLst (sCons (sC (.int 0)) sNil)) sNil))) (sCons (sLst (sCons (sC (.int 0)) sNil)) (sCons (sLst (sCons (sC .non) sNil)) (sCons (sLst (sCons (sLst (sCons (sVar 1) sNil)) sNil)) (sCons (sLst (sCons (sLst (sCons (sUn oNeg (sC (.int 1))) sNil)) sNil)) (sCons (sLst (sCons (sLst (sCons (sC (.bl true)) sNil)) sNil)) (sCons (sLst (sCons (sLst (sCons (sC .non) sNil)) sNil)) (sCons (sLst (sCons (sLst (sCons (sC (.str "0")) sNil)) sNil)) (sCons (sLst (sCons (sLst (sCons (sBin oPow (sC (.int 10)) (sC (.int 30))) sNil)) sNil)) sNil))))))))))))))) (sSeq (sSet 2 (sBin oAdd (sVar 2) (sLst (sCons (sLst (sCons (sLst (sCons (sC (.int 0)) (sCons (sC (.int 0)) sNil))) (sCons (sLst (sCons (sC (.int 0)) sNil)) sNil))) (sCons (sTup (sCons (sTup (sCons (sC (.int 0)) (sCons (sC (.int 0)) sNil))) (sCons (sC (.str "00")) sNil))) sNil))))) (sSeq (sOwn 3 (sFnF F__law_zeros (sCons (sC (.int 7)) sNil))) (sSeq (sIxSet 3 (sC (.int 6)) (sLs (sLc (iCall rng1O (sCons (sC (.int 6)) sNil)) (gN 4) bYes (sC (.int 0)) [4]))) (sSeq (sCond (bVal (sBin oEq (sVar 0) (sC (.str "alternating")))) (sSeq (sSet 2 (sBin oAdd (sVar 2) (sLst (sCons (sLst (sCons (sLst (sCons (sC (.int 1)) sNil)) sNil)) (sCons (sLst (sCons (sLst (sCons (sC (.int 0)) (sCons (sC (.int 1)) sNil))) (sCons (sLst (sCons (sC (.int 0)) (sCons (sC (.int 0)) sNil))) sNil))) (sCons (sLst (sCons (sLst (sCons (sC (.int 0)) (sCons (sC (.int 0)) sNil))) (sCons (sLst (sCons (sC (.int 1)) (sCons (sC (.int 0)) sNil))) sNil))) sNil)))))) (sSeq (sMxCall 3 Fm__law_zeros (sCons (sC (.int 7)) sNil)) (sMxSet 3 (pC 6) (pC 6) (sC (.int 1))))) sNext) (sSeq (sCond (bVal (sBin oEq (sVar 0) (sC (.str "quadratic")))) (sSet 2 (sBin oAdd (sVar 2) (sLst (sCons (sLst (sCons (sLst (sCons (sC (.int 0)) (sCons (sC (.int 0)) sNil))) (sCons (sLst (sCons (sC (.int 1)) (sCons (sC (.int 0)) sNil))) sNil))) (sCons (sLst (sCons (sLst (sCons (sC (.int 1)) (sCons (sC (.int 1)) sNil))) (sCons (sLst (sCons (sC (.int 1)) (sCons (sC (.int 1)) sNil))) sNil))) sNil))))) sNext) (sSeq (sCond (bVal (sBin oEq (sVar 0) (sC (.str "hermitian")))) (sSet 2 (sBin oAdd (sVar 2) (sLst (sCons (sLst (sCons (sLst (sCons (sBin oAdd (sC (.int 2)) (sCall oInt (sCons (sBin oEq (sVar 1) (sC (.int 9))) sNil))) sNil)) sNil)) (sCons (sLst (sCons (sLst (sCons (sC (.int 0)) (sCons (sC (.int 1)) sNil))) (sCons (sLst (sCons (sC (.int 0)) (sCons (sC (.int 0)) sNil))) sNil))) (sCons (sLst (sCons (sLst (sCons (sC (.int 0)) (sCons (sBin oAdd (sC (.int 2)) (sCall oInt (sCons (sBin oEq (sVar 1) (sC (.int 9))) sNil))) sNil))) (sCons (sLst (sCons (sBin oAdd (sC (.int 2)) (sCall oInt (sCons (sBin oEq (sVar 1) (sC (.int 9))) sNil))) (sCons (sC (.int 0)) sNil))) sNil))) sNil)))))) sNext) (sRetF (sBinF oCat (sVar 2) (sLst (sCons (sAlt (sVar 3) (sVarX 3)) sNil)))))))))))
def F__law_bad_matrices : Fn := mkFn 5 2 S__law_bad_matrices
def S_law : Ss := (sSeq (sOwn 1 (sFnF F__law_state (sCons (sVar 0) sNil))) (sSeq (sSet 2 (sBin oIx (sLst (sCons (sC (.str "alternating")) (sCons (sC (.str "quadratic")) (sCons (sC (.str "hermitian")) sNil)))) (sFn2 1 F__law_take (sCons (sC (.int 3)) sNil)))) (sSeq (sSet 3 (sBin oIx (sLst (sCons (sC (.int 2)) (sCons (sC (.int 3)) (sCons (sC (.int 4)) (sCons (sC (.int 5)) (sCons (sC (.int 7)) (sCons (sC (.int 9)) sNil))))))) (sFn2 1 F__law_take (sCons (sC (.int 6)) sNil)))) (sSeq (sCond (bVal (sBin oEq (sVar 2) (sC (.str "hermitian")))) (sSet 3 (sBin oIx (sLst (sCons (sC (.int 4)) (sCons (sC (.int 9)) sNil))) (sFn2 1 F__law_take (sCons (sC (.int 2)) sNil)))) sNext) (sSeq (sFor (iSeq (sLst (sCons (sTup (sCons (sC (.str "space")) (sCons (sLst sNil) sNil))) (sCons (sTup (sCons (sC (.str "planes")) (sCons (sC (.int 1)) sNil))) (sCons (sTup (sCons (sC (.str "zero")) (sCons (sC (.int 1)) sNil))) sNil))))) (gTup' (gCons' (gN 4) (gCons' (gN 5) gNil'))) (sSeq (sFor (iSeq (sLst (sCons (sC .non) (sCons (sC (.str "Alternating")) (sCons (sC (.str "symmetric")) (sCons (sC (.int 3)) (sCons (sLst (sCons (sC (.str "quadratic")) sNil)) (sCons (sC (.str "")) (sCons (sC (.str "quadratic ")) sNil))))))))) (gN 6) (sCond (bVal (sBin oNe (sFn F__law_reason (sCons (sVar 4) (sCons (sVar 6) (sCons (sVar 3) (sCons (sVar 5) sNil))))) (sC (.str "malformed")))) (sRet (sC (.bl false))) sNext)) (sSeq (sFor (iSeq (sLst (sCons (sC (.int 0)) (sCons (sC (.int 1)) (sCons (sC (.int 6)) (sCons (sC (.int 8)) (sCons (sC (.int 11)) (sCons (sC (.bl true)) (sCons (sC .non) (sCons (sCall oStrI (sCons (sVar 3) sNil)) (sCons (sUn oNeg (sVar 3)) (sCons (sBin oPow (sC (.int 10)) (sC (.int 30))) (sCons (sLst (sCons (sVar 3) sNil)) sNil))))))))))))) (gN 6) (sCond (bVal (sBin oNe (sFn F__law_reason (sCons (sVar 4) (sCons (sVar 2) (sCons (sVar 6) (sCons (sVar 5) sNil))))) (sC (.str "malformed")))) (sRet (sC (.bl false))) sNext)) (sCond (bOr (bVal (sBin oNe (sFn F__law_reason (sCons (sVar 4) (sCons (sC (.str "hermitian")) (sCons (sC (.int 5)) (sCons (sVar 5) sNil))))) (sC (.str "malformed")))) (bVal (sBin oNe (sFn F__law_reason (sCons (sVar 4) (sCons (sVar 2) (sCons (sVar 3) (sCons (sVar 5) sNil))))) (sC (.str "none"))))) (sRet (sC (.bl false))) sNext)))) (sSeq (sFor (iSeq (sFn F__law_bad_matrices (sCons (sVar 2) (sCons (sVar 3) sNil)))) (gN 7) (sCond (bVal (sBin oNe (sFn F__law_reason (sCons (sC (.str "space")) (sCons (sVar 2) (sCons (sVar 3) (sCons (sVar 7) sNil))))) (sC (.str "malformed")))) (sRet (sC (.bl false))) sNext)) (sSeq (sCond (bOr (bVal (sBin oNe (sFn F__law_reason (sCons (sC (.str "space")) (sCons (sVar 2) (sCons (sVar 3) (sCons (sFn F__law_zeros (sCons (sC (.int 7)) sNil)) sNil))))) (sC (.str "large")))) (bVal (sBin oNe (sFn F__law_reason (sCons (sC (.str "matrix")) (sCons (sVar 3) (sCons (sFn F__law_zeros (sCons (sC (.int 7)) sNil)) (sCons (sC (.int 0)) sNil))))) (sC (.str "large"))))) (sRet (sC (.bl false))) sNext) (sSeq (sFor (iSeq (sLst (sCons (sUn oNeg (sC (.int 1))) (sCons (sC (.bl true)) (sCons (sC .non) (sCons (sC (.str "1")) (sCons (sLst (sCons (sC (.int 1)) sNil)) sNil))))))) (gN 8) (sCond (bOr (bVal (sBin oNe (sFn F__law_reason (sCons (sC (.str "planes")) (sCons (sVar 2) (sCons (sVar 3) (sCons (sVar 8) sNil))))) (sC (.str "malformed")))) (bVal (sBin oNe (sFn F__law_reason (sCons (sC (.str "zero")) (sCons (sVar 2) (sCons (sVar 3) (sCons (sVar 8) sNil))))) (sC (.str "malformed"))))) (sRet (sC (.bl false))) sNext)) (sSeq (sFor (iSeq (sLst (sCons (sC (.int 7)) (sCons (sBin oPow (sC (.int 10)) (sC (.int 40))) sNil)))) (gN 8) (sCond (bOr (bVal (sBin oNe (sFn F__law_reason (sCons (sC (.str "planes")) (sCons (sVar 2) (sCons (sVar 3) (sCons (sVar 8) sNil))))) (sC (.str "large")))) (bVal (sBin oNe (sFn F__law_reason (sCons (sC (.str "zero")) (sCons (sVar 2) (sCons (sVar 3) (sCons (sVar 8) sNil))))) (sC (.str "large"))))) (sRet (sC (.bl false))) sNext)) (sSeq (sCond (bOr (bVal (sBin oNe (sFn F__law_reason (sCons (sC (.str "planes")) (sCons (sVar 2) (sCons (sVar 3) (sCons (sC (.int 4)) sNil))))) (sC (.str "large")))) (bVal (sBin oNe (sFn F__law_reason (sCons (sC (.str "planes")) (sCons (sVar 2) (sCons (sVar 3) (sCons (sC (.int 3)) sNil))))) (sC (.str "none"))))) (sRet (sC (.bl false))) sNext) (sSeq (sFor (iSeq (sLst (sCons (sC .non) (sCons (sLst (sCons (sLst (sCons (sC (.int 0)) (sCons (sC (.int 0)) sNil))) sNil)) (sCons (sLst (sCons (sLst (sCons (sVar 3) sNil)) sNil)) (sCons (sLst (sCons (sLst (sCons (sC (.bl true)) sNil)) sNil)) (sCons (sC (.str "0")) (sCons (sLst (sCons (sLst (sCons (sC (.int 0)) sNil)) (sCons (sLst (sCons (sC (.int 0)) (sCons (sC (.int 0)) sNil))) sNil))) sNil)))))))) (gN 7) (sCond (bOr (bVal (sBin oNe (sFn F__law_reason (sCons (sC (.str "matrix")) (sCons (sVar 3) (sCons (sVar 7) (sCons (sC (.int 0)) sNil))))) (sC (.str "malformed")))) (bVal (sBin oNe (sFn F__law_reason (sCons (sC (.str "matrix")) (sCons (sC (.int 6)) (sCons (sLst sNil) (sCons (sC (.int 0)) sNil))))) (sC (.str "malformed"))))) (sRet (sC (.bl false))) sNext)) (sSeq (sSet 9 (sMake 1 F_Space___init__ (sCons (sVar 2) (sCons (sVar 3) (sCons (sFn F__law_zeros (sCons (sC (.int 4)) sNil)) sNil))))) (sSeq (sSet 10 (sMake 1 F_Space___init__ (sCons (sIf (bVal (sBin oEq (sVar 2) (sC (.str "quadratic")))) (sC (.str "alternating")) (sC (.str "quadratic"))) (sCons (sVar 3) (sCons (sFn F__law_zeros (sCons (sC (.int 3)) sNil)) sNil))))) (sSeq (sSet 11 (sMake 1 F_Space___init__ (sCons (sC (.str "alternating")) (sCons (sBin oAdd (sC (.int 2)) (sCall oInt (sCons (sBin oEq (sVar 3) (sC (.int 2))) sNil))) (sCons (sFn F__law_zeros (sCons (sC (.int 3)) sNil)) sNil))))) (sSeq (sCond (bOr (bVal (sBin oNe (sFn F__law_reason (sCons (sC (.str "sum")) (sCons (sVar 9) (sCons (sVar 10) (sCons (sC (.int 0)) sNil))))) (sC (.str "malformed")))) (bVal (sBin oNe (sFn F__law_reason (sCons (sC (.str "sum")) (sCons (sVar 9) (sCons (sVar 11) (sCons (sC (.int 0)) sNil))))) (sC (.str "malformed"))))) (sRet (sC (.bl false))) sNext) (sSeq (sCond (bVal (sBin oNe (sFn F__law_reason (sCons (sC (.str "sum")) (sCons (sVar 9) (sCons (sMake 1 F_Space___init__ (sCons (sVar 2) (sCons (sVar 3) (sCons (sFn F__law_zeros (sCons (sC (.int 3)) sNil)) sNil)))) (sCons (sC (.int 0)) sNil))))) (sC (.str "large")))) (sRet (sC (.bl false))) sNext) (sSeq (sFor (iSeq (sLst (sCons (sVar 3) (sCons (sUn oNeg (sC (.int 1))) (sCons (sC (.bl true)) (sCons (sC .non) (sCons (sC (.str "1")) sNil))))))) (gN 12) (sCond (bVal (sBin oNe (sFn F__law_reason (sCons (sC (.str "scaled")) (sCons (sVar 9) (sCons (sVar 12) (sCons (sC (.int 0)) sNil))))) (sC (.str "malformed")))) (sRet (sC (.bl false))) sNext)) (sSeq (sCond (bAnd (bVal (sBin oEq (sVar 2) (sC (.str "hermitian")))) (bVal (sBin oNe (sFn F__law_reason (sCons (sC (.str "scaled")) (sCons (sVar 9) (sCons (sBin oAdd (sC (.int 2)) (sCall oInt (sCons (sBin oEq (sVar 3) (sC (.int 9))) sNil))) (sCons (sC (.int 0)) sNil))))) (sC (.str "malformed"))))) (sRet (sC (.bl false))) sNext) (sSeq (sSet 13 (sTup (sCons (sC (.int 0)) (sCons (sC (.int 0)) (sCons (sC (.int 0)) (sCons (sC (.int 0)) sNil)))))) (sSeq (sFor (iSeq (sLst (sCons (sC .non) (sCons (sC (.int 3)) (sCons (sC (.str "0")) (sCons (sVar 13) (sCons (sLst (sCons (sVar 13) (sCons (sC .non) sNil))) (sCons (sLst (sCons (sLs (sCallF oList (sCons (sVar 13) sNil))) sNil)) (sCons (sLst (sCons (sSl (sVar 13) (oSome (sC (.int 1))) oNo) sNil)) (sCons (sLst (sCons (sBin oAdd (sVar 13) (sTup (sCons (sC (.int 0)) sNil))) sNil)) (sCons (sLst (sCons (sTup (sCons (sC (.int 0)) (sCons (sC (.int 0)) (sCons (sC (.int 0)) (sCons (sVar 3) sNil))))) sNil)) (sCons (sBin oAdd (sLs (sLc (iCall rng1O (sCons (sC (.int 7)) sNil)) (gN 15) bYes (sVar 13) [15])) (sLst (sCons (sC .non) sNil))) sNil)))))))))))) (gN 14) (sCond (bVal (sBin oNe (sFn F__law_reason (sCons (sC (.str "rows")) (sCons (sVar 9) (sCons (sVar 14) (sCons (sC (.int 0)) sNil))))) (sC (.str "malformed")))) (sRet (sC (.bl false))) sNext)) (sRet (sBin oEq (sFn F__law_reason (sCons (sC (.str "rows")) (sCons (sVar 9) (sCons (sLs (sLc (iCall rng1O (sCons (sC (.int 7)) sNil)) (gN 15) bYes (sVar 13) [15])) (sCons (sC (.int 0)) sNil))))) (sC (.str "large"))))))))))))))))))))))))
def F_law : Fn := mkFn 16 1 S_law
def mfile : Str := PySem.Challenge.pw_wittspaces_k13_refused_forms.main.file
end My

set_option Elab.async false
set_option linter.all false
set_option maxRecDepth 100000
set_option maxHeartbeats 0
namespace My
open PySem PySem.Spec PyProof.Rows L2 Dn
def fa : List He.Fa := [.free "int", .free "isinstance", .free "bool", .glo "SIZES_field", .exc "Malformed", .glo "Malformed", .cls "Field", .noat "Field" "q", .glo "CHARACTERISTICS", .noat "Field" "p", .glo "Field", .cls "Space", .noat "Space" "q", .free "tuple", .free "range", .free "len", .free "all", .free "zip", .free "str", .glo "KINDS", .glo "SIZES_space", .free "list", .int "MOST" 6, .free "super", .glo "Refused", .noat "Space" "kind", .noat "Space" "n", .noat "Space" "matrix", .noat "Space" "field", .noat "Space" "_gram", .glo "Space", .free "abs", .glo "is_integer", .mkr "Field", .meth "Field" "__eq__", .meth "Field" "is_number", .meth "Field" "numbers", .meth "Field" "joined", .meth "Field" "add", .meth "Field" "negative", .meth "Field" "multiply", .meth "Field" "power", .meth "Field" "mirrored", .meth "Field" "is_fixed", .glo "is_row", .glo "is_row_linear", .glo "unit_row", .glo "add", .glo "scaled_linear", .glo "dot", .glo "combine", .glo "identity", .glo "check_kind", .glo "taken", .glo "has_form", .glo "gram_of", .mkr "Space", .meth "Space" "__eq__", .meth "Space" "__str__", .meth "Space" "is_row", .meth "Space" "zero", .meth "Space" "unit", .meth "Space" "rows", .meth "Space" "facing", .meth "Space" "product", .meth "Space" "value", .glo "check_count", .glo "zero_space", .glo "hyperbolic", .glo "of_matrix", .glo "direct_sum", .glo "scaled", .glo "scaled_build", .glo "form_on", .glo "check_rows", .glo "restricted", .glo "_law_state", .glo "_law_take", .glo "_law_reason", .glo "_law_zeros", .glo "_law_bad_matrices", .glo "law"]
def ex (K : PySem.W.Frag) : Bool := tupM K "SIZES_field" [.int 2, .int 3, .int 4, .int 5, .int 7, .int 9] && (tupN K "SIZES_field" [2, 3, 4, 5, 7, 9] && (tupM K "CHARACTERISTICS" [.int 2, .int 3, .int 2, .int 5, .int 7, .int 3] && (isiB K 0 && (tupM K "KINDS" [.str "alternating", .str "quadratic", .str "hermitian"] && (tupM K "SIZES_space" [.int 2, .int 3, .int 4, .int 5, .int 7, .int 9] && (sxB K mfile "Refused" "reason" "reason" && (isiB K 1 && (hitB K [0, 1] 0 && (hitB K [0, 1] 1 && (xfB K (He.ga K "Refused") && (decide (PySem.W.findIn K (.ref (He.ga K "Refused")) "reason" = some none) && (true))))))))))))
def top (i : Nat) : Stmt := PySem.Challenge.pw_wittspaces_k13_refused_forms.main.body.getD i (.Pass ⟨0, 0, 0, 0⟩)
abbrev st_is_integer : Stmt := top 6
def d_is_integer : He.DefD := ⟨("is_integer", none), "is_integer", "is_integer", defArgs st_is_integer, defBody st_is_integer, defScope st_is_integer, [], []⟩
abbrev st_Field___init__ : Stmt := inClass (top 10) 0
def d_Field___init__ : He.DefD := ⟨("Field", some "__init__"), "__init__", "Field.__init__", defArgs st_Field___init__, defBody st_Field___init__, defScope st_Field___init__, [], []⟩
abbrev st_Field___eq__ : Stmt := inClass (top 10) 1
def d_Field___eq__ : He.DefD := ⟨("Field", some "__eq__"), "__eq__", "Field.__eq__", defArgs st_Field___eq__, defBody st_Field___eq__, defScope st_Field___eq__, [], []⟩
abbrev st_Field_is_number : Stmt := inClass (top 10) 2
def d_Field_is_number : He.DefD := ⟨("Field", some "is_number"), "is_number", "Field.is_number", defArgs st_Field_is_number, defBody st_Field_is_number, defScope st_Field_is_number, [], []⟩
abbrev st_Field_numbers : Stmt := inClass (top 10) 3
def d_Field_numbers : He.DefD := ⟨("Field", some "numbers"), "numbers", "Field.numbers", defArgs st_Field_numbers, defBody st_Field_numbers, defScope st_Field_numbers, [], []⟩
abbrev st_Field_joined : Stmt := inClass (top 10) 4
def d_Field_joined : He.DefD := ⟨("Field", some "joined"), "joined", "Field.joined", defArgs st_Field_joined, defBody st_Field_joined, defScope st_Field_joined, [], []⟩
abbrev st_Field_add : Stmt := inClass (top 10) 5
def d_Field_add : He.DefD := ⟨("Field", some "add"), "add", "Field.add", defArgs st_Field_add, defBody st_Field_add, defScope st_Field_add, [], []⟩
abbrev st_Field_negative : Stmt := inClass (top 10) 6
def d_Field_negative : He.DefD := ⟨("Field", some "negative"), "negative", "Field.negative", defArgs st_Field_negative, defBody st_Field_negative, defScope st_Field_negative, [], []⟩
abbrev st_Field_multiply : Stmt := inClass (top 10) 8
def d_Field_multiply : He.DefD := ⟨("Field", some "multiply"), "multiply", "Field.multiply", defArgs st_Field_multiply, defBody st_Field_multiply, defScope st_Field_multiply, [], []⟩
abbrev st_Field_power : Stmt := inClass (top 10) 9
def d_Field_power : He.DefD := ⟨("Field", some "power"), "power", "Field.power", defArgs st_Field_power, defBody st_Field_power, defScope st_Field_power, [], []⟩
abbrev st_Field_mirrored : Stmt := inClass (top 10) 11
def d_Field_mirrored : He.DefD := ⟨("Field", some "mirrored"), "mirrored", "Field.mirrored", defArgs st_Field_mirrored, defBody st_Field_mirrored, defScope st_Field_mirrored, [], []⟩
abbrev st_Field_is_fixed : Stmt := inClass (top 10) 12
def d_Field_is_fixed : He.DefD := ⟨("Field", some "is_fixed"), "is_fixed", "Field.is_fixed", defArgs st_Field_is_fixed, defBody st_Field_is_fixed, defScope st_Field_is_fixed, [], []⟩
abbrev st_is_row : Stmt := top 12
def d_is_row : He.DefD := ⟨("is_row", none), "is_row", "is_row", defArgs st_is_row, defBody st_is_row, defScope st_is_row, [], []⟩
abbrev st_is_row_linear : Stmt := top 12
def d_is_row_linear : He.DefD := ⟨("is_row_linear", none), "is_row", "is_row", defArgs st_is_row_linear, defBody st_is_row_linear, defScope st_is_row_linear, [], []⟩
abbrev st_unit_row : Stmt := top 14
def d_unit_row : He.DefD := ⟨("unit_row", none), "unit_row", "unit_row", defArgs st_unit_row, defBody st_unit_row, defScope st_unit_row, [], []⟩
abbrev st_add : Stmt := top 15
def d_add : He.DefD := ⟨("add", none), "add", "add", defArgs st_add, defBody st_add, defScope st_add, [], []⟩
abbrev st_scaled_linear : Stmt := top 16
def d_scaled_linear : He.DefD := ⟨("scaled_linear", none), "scaled", "scaled", defArgs st_scaled_linear, defBody st_scaled_linear, defScope st_scaled_linear, [], []⟩
abbrev st_dot : Stmt := top 18
def d_dot : He.DefD := ⟨("dot", none), "dot", "dot", defArgs st_dot, defBody st_dot, defScope st_dot, [], []⟩
abbrev st_combine : Stmt := top 19
def d_combine : He.DefD := ⟨("combine", none), "combine", "combine", defArgs st_combine, defBody st_combine, defScope st_combine, [], []⟩
abbrev st_identity : Stmt := top 21
def d_identity : He.DefD := ⟨("identity", none), "identity", "identity", defArgs st_identity, defBody st_identity, defScope st_identity, [], []⟩
abbrev st_check_kind : Stmt := top 26
def d_check_kind : He.DefD := ⟨("check_kind", none), "check_kind", "check_kind", defArgs st_check_kind, defBody st_check_kind, defScope st_check_kind, [], []⟩
abbrev st_taken : Stmt := top 27
def d_taken : He.DefD := ⟨("taken", none), "taken", "taken", defArgs st_taken, defBody st_taken, defScope st_taken, [], []⟩
abbrev st_has_form : Stmt := top 28
def d_has_form : He.DefD := ⟨("has_form", none), "has_form", "has_form", defArgs st_has_form, defBody st_has_form, defScope st_has_form, [], []⟩
abbrev st_gram_of : Stmt := top 29
def d_gram_of : He.DefD := ⟨("gram_of", none), "gram_of", "gram_of", defArgs st_gram_of, defBody st_gram_of, defScope st_gram_of, [], []⟩
abbrev st_Space___init__ : Stmt := inClass (top 30) 0
def d_Space___init__ : He.DefD := ⟨("Space", some "__init__"), "__init__", "Space.__init__", defArgs st_Space___init__, defBody st_Space___init__, defScope st_Space___init__, [], []⟩
abbrev st_Space___eq__ : Stmt := inClass (top 30) 1
def d_Space___eq__ : He.DefD := ⟨("Space", some "__eq__"), "__eq__", "Space.__eq__", defArgs st_Space___eq__, defBody st_Space___eq__, defScope st_Space___eq__, [], []⟩
abbrev st_Space___str__ : Stmt := inClass (top 30) 2
def d_Space___str__ : He.DefD := ⟨("Space", some "__str__"), "__str__", "Space.__str__", defArgs st_Space___str__, defBody st_Space___str__, defScope st_Space___str__, [], []⟩
abbrev st_Space_is_row : Stmt := inClass (top 30) 3
def d_Space_is_row : He.DefD := ⟨("Space", some "is_row"), "is_row", "Space.is_row", defArgs st_Space_is_row, defBody st_Space_is_row, defScope st_Space_is_row, [], []⟩
abbrev st_Space_zero : Stmt := inClass (top 30) 4
def d_Space_zero : He.DefD := ⟨("Space", some "zero"), "zero", "Space.zero", defArgs st_Space_zero, defBody st_Space_zero, defScope st_Space_zero, [], []⟩
abbrev st_Space_unit : Stmt := inClass (top 30) 5
def d_Space_unit : He.DefD := ⟨("Space", some "unit"), "unit", "Space.unit", defArgs st_Space_unit, defBody st_Space_unit, defScope st_Space_unit, [], []⟩
abbrev st_Space_rows : Stmt := inClass (top 30) 6
def d_Space_rows : He.DefD := ⟨("Space", some "rows"), "rows", "Space.rows", defArgs st_Space_rows, defBody st_Space_rows, defScope st_Space_rows, [], []⟩
abbrev st_Space_facing : Stmt := inClass (top 30) 8
def d_Space_facing : He.DefD := ⟨("Space", some "facing"), "facing", "Space.facing", defArgs st_Space_facing, defBody st_Space_facing, defScope st_Space_facing, [], []⟩
abbrev st_Space_product : Stmt := inClass (top 30) 9
def d_Space_product : He.DefD := ⟨("Space", some "product"), "product", "Space.product", defArgs st_Space_product, defBody st_Space_product, defScope st_Space_product, [], []⟩
abbrev st_Space_value : Stmt := inClass (top 30) 10
def d_Space_value : He.DefD := ⟨("Space", some "value"), "value", "Space.value", defArgs st_Space_value, defBody st_Space_value, defScope st_Space_value, [], []⟩
abbrev st_check_count : Stmt := top 32
def d_check_count : He.DefD := ⟨("check_count", none), "check_count", "check_count", defArgs st_check_count, defBody st_check_count, defScope st_check_count, [], []⟩
abbrev st_zero_space : Stmt := top 33
def d_zero_space : He.DefD := ⟨("zero_space", none), "zero_space", "zero_space", defArgs st_zero_space, defBody st_zero_space, defScope st_zero_space, [], []⟩
abbrev st_hyperbolic : Stmt := top 34
def d_hyperbolic : He.DefD := ⟨("hyperbolic", none), "hyperbolic", "hyperbolic", defArgs st_hyperbolic, defBody st_hyperbolic, defScope st_hyperbolic, [], []⟩
abbrev st_of_matrix : Stmt := top 35
def d_of_matrix : He.DefD := ⟨("of_matrix", none), "of_matrix", "of_matrix", defArgs st_of_matrix, defBody st_of_matrix, defScope st_of_matrix, [], []⟩
abbrev st_direct_sum : Stmt := top 36
def d_direct_sum : He.DefD := ⟨("direct_sum", none), "direct_sum", "direct_sum", defArgs st_direct_sum, defBody st_direct_sum, defScope st_direct_sum, [], []⟩
abbrev st_scaled : Stmt := top 37
def d_scaled : He.DefD := ⟨("scaled", none), "scaled", "scaled", defArgs st_scaled, defBody st_scaled, defScope st_scaled, [], []⟩
abbrev st_scaled_build : Stmt := top 37
def d_scaled_build : He.DefD := ⟨("scaled_build", none), "scaled", "scaled", defArgs st_scaled_build, defBody st_scaled_build, defScope st_scaled_build, [], []⟩
abbrev st_form_on : Stmt := top 39
def d_form_on : He.DefD := ⟨("form_on", none), "form_on", "form_on", defArgs st_form_on, defBody st_form_on, defScope st_form_on, [], []⟩
abbrev st_check_rows : Stmt := top 40
def d_check_rows : He.DefD := ⟨("check_rows", none), "check_rows", "check_rows", defArgs st_check_rows, defBody st_check_rows, defScope st_check_rows, [], []⟩
abbrev st_restricted : Stmt := top 41
def d_restricted : He.DefD := ⟨("restricted", none), "restricted", "restricted", defArgs st_restricted, defBody st_restricted, defScope st_restricted, [], []⟩
abbrev st__law_state : Stmt := top 43
def d__law_state : He.DefD := ⟨("_law_state", none), "_law_state", "_law_state", defArgs st__law_state, defBody st__law_state, defScope st__law_state, [], []⟩
abbrev st__law_take : Stmt := top 44
def d__law_take : He.DefD := ⟨("_law_take", none), "_law_take", "_law_take", defArgs st__law_take, defBody st__law_take, defScope st__law_take, [], []⟩
abbrev st__law_reason : Stmt := top 45
def d__law_reason : He.DefD := ⟨("_law_reason", none), "_law_reason", "_law_reason", defArgs st__law_reason, defBody st__law_reason, defScope st__law_reason, [], []⟩
abbrev st__law_zeros : Stmt := top 46
def d__law_zeros : He.DefD := ⟨("_law_zeros", none), "_law_zeros", "_law_zeros", defArgs st__law_zeros, defBody st__law_zeros, defScope st__law_zeros, [], []⟩
abbrev st__law_bad_matrices : Stmt := top 47
def d__law_bad_matrices : He.DefD := ⟨("_law_bad_matrices", none), "_law_bad_matrices", "_law_bad_matrices", defArgs st__law_bad_matrices, defBody st__law_bad_matrices, defScope st__law_bad_matrices, [], []⟩
abbrev st_law : Stmt := top 48
def d_law : He.DefD := ⟨("law", none), "law", "law", defArgs st_law, defBody st_law, defScope st_law, [], []⟩
def fn : List He.DefD := [d_is_integer, d_Field___init__, d_Field___eq__, d_Field_is_number, d_Field_numbers, d_Field_joined, d_Field_add, d_Field_negative, d_Field_multiply, d_Field_power, d_Field_mirrored, d_Field_is_fixed, d_is_row, d_is_row_linear, d_unit_row, d_add, d_scaled_linear, d_dot, d_combine, d_identity, d_check_kind, d_taken, d_has_form, d_gram_of, d_Space___init__, d_Space___eq__, d_Space___str__, d_Space_is_row, d_Space_zero, d_Space_unit, d_Space_rows, d_Space_facing, d_Space_product, d_Space_value, d_check_count, d_zero_space, d_hyperbolic, d_of_matrix, d_direct_sum, d_scaled, d_scaled_build, d_form_on, d_check_rows, d_restricted, d__law_state, d__law_take, d__law_reason, d__law_zeros, d__law_bad_matrices, d_law]
end My
set_option Elab.async false
set_option linter.all false
set_option maxRecDepth 100000
set_option maxHeartbeats 0
namespace My
open PySem PySem.Spec PyProof.Rows L2 Dn
def nm0 : List Str := ["_wall", "Fault", "Malformed", "Refused", "is_integer", "SIZES_field", "CHARACTERISTICS", "Field", "is_row", "is_row_linear", "unit_row", "add", "scaled", "scaled_linear", "dot", "combine", "all_rows", "identity", "KINDS", "SIZES_space", "MOST", "check_kind", "taken", "has_form", "gram_of", "Space", "check_count", "zero_space", "hyperbolic", "of_matrix"]
def nm1 : List Str := ["direct_sum", "scaled", "scaled_build", "form_on", "check_rows", "restricted", "_law_state", "_law_take", "_law_reason", "_law_zeros", "_law_bad_matrices"]
def names : List Str := nm0 ++ nm1
abbrev R : PySem.W.OpenRow := PySem.W.OpenLaw.row PySem.Challenge.rw_wittspaces_k13_refused_forms
abbrev hk : PySem.W.Hook := Dn.hookZ 5 fa fn ex
def ob (s : PySem.W.SharedT) : Dn.AlZ := Dn.obsZ 5 fa fn ex (HandSHeadRun.getT s)
theorem ob_eq (s : PySem.W.SharedT) : ob s = hk.obs s.abs := Dn.obsZ_eq (HandSHeadRun.getT_eq s)
abbrev qv : Program := PySem.W.view R.prog [48]
theorem join3 {α β γ δ : Type} {o : Option α} {f : α → β} {g : α → γ} {h : α → δ} {a : β} {b : γ} {c : δ} (h1 : o.map f = some a) (h2 : o.map g = some b) (h3 : o.map h = some c) : o.map (fun s => (f s, g s, h s)) = some (a, b, c) := by
  cases o with
  | none => cases h1
  | some s =>
    simp only [Option.map_some, Option.some.injEq] at h1 h2 h3 ⊢
    rw [h1, h2, h3]
theorem run1 (w : World) (os : PySem.OsState) : (HandSHeadRun.endF (HandSHeadRun.stepQ (HandSHeadRun.denQ HandSHeadRun.tabQ) R.prog w) 5000 R.prog w os).map (fun s => HandSHeadRun.looksF R.prog (PySem.W.boot_heap w.params) s.abs) = some true := by
  kernel_rfl
theorem run2 (w : World) (os : PySem.OsState) : (HandSHeadRun.endF (HandSHeadRun.stepQ (HandSHeadRun.denQ HandSHeadRun.tabQ) R.prog w) 5000 R.prog w os).map (fun s => HandSHeadRun.seenQ qv names (importedModules R.prog.main.body) (fun s => PySem.W.xlAt qv [] s && PySem.W.recOk R.toRowW.records s) s.abs) = some (PySem.W.openGood qv names) := by
  kernel_rfl
theorem run3 (w : World) (os : PySem.OsState) : (HandSHeadRun.endF (HandSHeadRun.stepQ (HandSHeadRun.denQ HandSHeadRun.tabQ) R.prog w) 5000 R.prog w os).map ob = some (hk.val w) := by
  kernel_rfl
theorem run (w : World) : HandSHeadRun.RunEq R qv hk ob 5000 names w := fun os => join3 (run1 w os) (run2 w os) (run3 w os)

end My
set_option Elab.async false
set_option linter.all false
set_option maxRecDepth 100000
set_option maxHeartbeats 4000000
/-! The six fields, in plain Lean. -/
namespace Pl
def six : List Nat := [2, 3, 4, 5, 7, 9]
class Six (q : Nat) : Prop where
  mem : q ∈ six
def pOf (q : Nat) : Nat := if q = 4 then 2 else if q = 9 then 3 else q
def fadd (q a b : Nat) : Nat := let p := pOf q; (a % p + b % p) % p + p * ((a / p + b / p) % p)
def fneg (q a : Nat) : Nat := let p := pOf q; (p - a % p) % p + p * ((p - a / p) % p)
def fmul (q a b : Nat) : Nat := let p := pOf q
  if q = 4 then (a % p * (b % p) + a / p * (b / p)) % p + p * ((a % p * (b / p) + a / p * (b % p) + a / p * (b / p)) % p)
  else if q = 9 then (a % p * (b % p) + 2 * (a / p * (b / p))) % p + p * ((a % p * (b / p) + a / p * (b % p)) % p)
  else a * b % q
def finv (q a : Nat) : Nat := ((List.range q).find? fun b => fmul q a b == 1).getD 0
def all1 (f : Nat → Nat → Bool) : Bool := six.all fun q => (List.range q).all fun a => f q a
def all2 (f : Nat → Nat → Nat → Bool) : Bool := six.all fun q => (List.range q).all fun a => (List.range q).all fun b => f q a b
def all3 (f : Nat → Nat → Nat → Nat → Bool) : Bool := six.all fun q => (List.range q).all fun a => (List.range q).all fun b => (List.range q).all fun c => f q a b c
theorem of1 {f : Nat → Nat → Bool} (h : all1 f = true) {q a : Nat} (hq : q ∈ six) (ha : a < q) : f q a = true :=
  List.all_eq_true.mp (List.all_eq_true.mp h q hq) a (List.mem_range.mpr ha)
theorem of2 {f : Nat → Nat → Nat → Bool} (h : all2 f = true) {q a b : Nat} (hq : q ∈ six) (ha : a < q) (hb : b < q) : f q a b = true :=
  List.all_eq_true.mp (List.all_eq_true.mp (List.all_eq_true.mp h q hq) a (List.mem_range.mpr ha)) b (List.mem_range.mpr hb)
theorem of3 {f : Nat → Nat → Nat → Nat → Bool} (h : all3 f = true) {q a b c : Nat} (hq : q ∈ six) (ha : a < q) (hb : b < q) (hc : c < q) : f q a b c = true :=
  List.all_eq_true.mp (List.all_eq_true.mp (List.all_eq_true.mp (List.all_eq_true.mp h q hq) a (List.mem_range.mpr ha)) b (List.mem_range.mpr hb)) c (List.mem_range.mpr hc)
theorem c_lt : all2 (fun q a b => decide (fadd q a b < q) && decide (fmul q a b < q) && decide (fneg q a < q) && decide (finv q a < q)) = true := by decide +kernel
theorem c_comm : all2 (fun q a b => decide (fadd q a b = fadd q b a) && decide (fmul q a b = fmul q b a)) = true := by decide +kernel
theorem c_one : all1 (fun q a => decide (fadd q a 0 = a) && decide (fmul q a 1 = a) && decide (fmul q 0 a = 0) && decide (fadd q (fneg q a) a = 0)) = true := by decide +kernel
theorem c_inv : all1 (fun q a => decide (a = 0) || decide (fmul q a (finv q a) = 1)) = true := by decide +kernel
theorem c_inv0 : (six.all fun q => decide (finv q 0 = 0)) = true := by decide +kernel
theorem c_assoc : all3 (fun q a b c => decide (fadd q (fadd q a b) c = fadd q a (fadd q b c)) && decide (fmul q (fmul q a b) c = fmul q a (fmul q b c)) && decide (fmul q a (fadd q b c) = fadd q (fmul q a b) (fmul q a c))) = true := by decide +kernel
structure El (q : Nat) where
  v : Nat
  lt : v < q
theorem El.ext {q : Nat} {a b : El q} (h : a.v = b.v) : a = b := by
  cases a; cases b; cases h; rfl
instance {q : Nat} : DecidableEq (El q) := fun a b => if h : a.v = b.v then isTrue (El.ext h) else isFalse fun e => h (by rw [e])
section
variable {q : Nat} [s : Six q]
theorem two_le : 2 ≤ q := by
  have := s.mem
  simp only [six, List.mem_cons, List.not_mem_nil, or_false] at this
  omega
theorem lts (a b : El q) : fadd q a.v b.v < q ∧ fmul q a.v b.v < q ∧ fneg q a.v < q ∧ finv q a.v < q := by
  have := of2 c_lt s.mem a.lt b.lt
  simp only [Bool.and_eq_true, decide_eq_true_eq] at this
  exact ⟨this.1.1.1, this.1.1.2, this.1.2, this.2⟩
def E0 : El q := ⟨0, by have := two_le (q := q); omega⟩
def E1 : El q := ⟨1, by have := two_le (q := q); omega⟩
instance : Add (El q) := ⟨fun a b => ⟨fadd q a.v b.v, (lts a b).1⟩⟩
instance : Mul (El q) := ⟨fun a b => ⟨fmul q a.v b.v, (lts a b).2.1⟩⟩
instance : Neg (El q) := ⟨fun a => ⟨fneg q a.v, (lts a a).2.2.1⟩⟩
instance : Inv (El q) := ⟨fun a => ⟨finv q a.v, (lts a a).2.2.2⟩⟩
def nc : Nat → El q
  | 0 => E0
  | 1 => E1
  | n + 2 => nc (n + 1) + E1
def ic : Int → El q
  | .ofNat n => nc n
  | .negSucc n => -nc (n + 1)
def npw (a : El q) : Nat → El q
  | 0 => E1
  | n + 1 => npw a n * a
def zpw (a : El q) : Int → El q
  | .ofNat n => npw a n
  | .negSucc n => (npw a (n + 1))⁻¹
instance : NatCast (El q) := ⟨nc⟩
instance (n : Nat) : OfNat (El q) n := ⟨nc n⟩
instance : IntCast (El q) := ⟨ic⟩
instance : SMul Nat (El q) := ⟨fun n a => nc n * a⟩
instance : SMul Int (El q) := ⟨fun n a => ic n * a⟩
instance : HPow (El q) Nat (El q) := ⟨npw⟩
instance : HPow (El q) Int (El q) := ⟨zpw⟩
instance : Sub (El q) := ⟨fun a b => a + -b⟩
instance : Div (El q) := ⟨fun a b => a * b⁻¹⟩
theorem add_v (a b : El q) : (a + b).v = fadd q a.v b.v := rfl
theorem mul_v (a b : El q) : (a * b).v = fmul q a.v b.v := rfl
theorem neg_v (a : El q) : (-a).v = fneg q a.v := rfl
theorem inv_v (a : El q) : (a⁻¹).v = finv q a.v := rfl
theorem zero_v : (0 : El q).v = 0 := rfl
theorem one_v : (1 : El q).v = 1 := rfl
theorem e_comm (a b : El q) : a + b = b + a ∧ a * b = b * a := by
  have := of2 c_comm s.mem a.lt b.lt
  simp only [Bool.and_eq_true, decide_eq_true_eq] at this
  exact ⟨El.ext this.1, El.ext this.2⟩
theorem e_one (a : El q) : a + 0 = a ∧ a * 1 = a ∧ 0 * a = 0 ∧ -a + a = 0 := by
  have := of1 c_one s.mem a.lt
  simp only [Bool.and_eq_true, decide_eq_true_eq] at this
  exact ⟨El.ext this.1.1.1, El.ext this.1.1.2, El.ext this.1.2, El.ext this.2⟩
theorem e_assoc (a b c : El q) : a + b + c = a + (b + c) ∧ a * b * c = a * (b * c) ∧ a * (b + c) = a * b + a * c := by
  have := of3 c_assoc s.mem a.lt b.lt c.lt
  simp only [Bool.and_eq_true, decide_eq_true_eq] at this
  exact ⟨El.ext this.1.1, El.ext this.1.2, El.ext this.2⟩
theorem e_inv (a : El q) (h : a ≠ 0) : a * a⁻¹ = 1 := by
  have := of1 c_inv s.mem a.lt
  simp only [Bool.or_eq_true, decide_eq_true_eq] at this
  rcases this with h2 | h2
  · exact (h (El.ext h2)).elim
  · exact El.ext h2
theorem e_zadd (a : El q) : 0 + a = a := by rw [(e_comm 0 a).1, (e_one a).1]
theorem e_negU (a b : El q) (h : a + b = 0) : b = -a := by
  have h1 : -a + (a + b) = -a + 0 := by rw [h]
  rw [← (e_assoc _ _ _).1, (e_one a).2.2.2, e_zadd, (e_one _).1] at h1
  exact h1
theorem e_negmul (a b : El q) : -a * b = -(a * b) := by
  apply e_negU
  have : a * b + -a * b = (a + -a) * b := by rw [(e_comm (a + -a) b).2, (e_assoc b a (-a)).2.2, (e_comm b a).2, (e_comm b (-a)).2]
  rw [this, (e_comm a (-a)).1, (e_one a).2.2.2, (e_one b).2.2.1]
theorem e_negneg (a : El q) : - -a = a := (e_negU (-a) a (e_one a).2.2.2).symm
theorem e_neg0 : -(0 : El q) = 0 := (e_negU 0 0 (e_one 0).1).symm
theorem e_inv0 : (0 : El q)⁻¹ = 0 := El.ext (of_decide_eq_true (List.all_eq_true.mp c_inv0 q s.mem))
theorem e_onemul (a : El q) : 1 * a = a := by rw [(e_comm 1 a).2, (e_one a).2.1]
theorem e_01 : (0 : El q) ≠ 1 := fun h => by
  have := congrArg El.v h
  cases this
theorem e_inv1 : (1 : El q)⁻¹ = 1 := by
  have := e_inv (1 : El q) (fun h => e_01 h.symm)
  rw [e_onemul] at this
  exact this
theorem e_invinv (a : El q) : a⁻¹⁻¹ = a := by
  by_cases h : a = 0
  · rw [h, e_inv0, e_inv0]
  · have h1 := e_inv a h
    have h2 : a⁻¹ ≠ 0 := fun z => by
      rw [z, (e_comm a 0).2, (e_one a).2.2.1] at h1
      exact e_01 h1
    have h3 := e_inv a⁻¹ h2
    have h4 : a * (a⁻¹ * a⁻¹⁻¹) = a := by rw [h3, (e_one a).2.1]
    rw [← (e_assoc _ _ _).2.1, h1, e_onemul] at h4
    exact h4
instance : Lean.Grind.Field (El q) where
  one_mul a := e_onemul a
  right_distrib a b c := by rw [(e_comm (a + b) c).2, (e_assoc c a b).2.2, (e_comm c a).2, (e_comm c b).2]
  mul_zero a := by rw [(e_comm a 0).2, (e_one a).2.2.1]
  add_zero a := (e_one a).1
  add_comm a b := (e_comm a b).1
  add_assoc a b c := (e_assoc a b c).1
  mul_assoc a b c := (e_assoc a b c).2.1
  mul_comm a b := (e_comm a b).2
  mul_one a := (e_one a).2.1
  left_distrib a b c := (e_assoc a b c).2.2
  zero_mul a := (e_one a).2.2.1
  pow_zero a := rfl
  pow_succ a n := rfl
  ofNat_succ n := match n with
    | 0 => (e_zadd (1 : El q)).symm
    | n + 1 => rfl
  neg_add_cancel a := (e_one a).2.2.2
  sub_eq_add_neg a b := rfl
  neg_zsmul i a := by
    show ic (-i) * a = -(ic i * a)
    rw [← e_negmul]
    congr 1
    cases i with
    | ofNat n =>
      cases n with
      | zero => exact e_neg0.symm
      | succ n => rfl
    | negSucc n => exact (e_negneg _).symm
  intCast_neg i := by
    show ic (-i) = -ic i
    cases i with
    | ofNat n =>
      cases n with
      | zero => exact e_neg0.symm
      | succ n => rfl
    | negSucc n => exact (e_negneg _).symm
  div_eq_mul_inv a b := rfl
  zero_ne_one h := by
    have := congrArg El.v h
    cases this
  inv_zero := e_inv0
  mul_inv_cancel h := e_inv _ h
  zpow_zero a := rfl
  zpow_succ a n := rfl
  zpow_neg a n := by
    show zpw a (-n) = (zpw a n)⁻¹
    cases n with
    | ofNat n =>
      cases n with
      | zero => exact e_inv1.symm
      | succ n => rfl
    | negSucc n => exact (e_invinv _).symm
theorem t1 (a b c : El q) : (a + b) * c = c * b + a * c := by grind
theorem t2 (a b c : El q) (h : b ≠ 0) : a * b⁻¹ * b = a := by grind
end
end Pl

set_option Elab.async false
set_option linter.all false
set_option maxRecDepth 100000
set_option maxHeartbeats 4000000
/-! Rows and their reduction over any field, in plain Lean. -/
namespace Pl
section
variable {F : Type} [Lean.Grind.Field F] [DecidableEq F]
abbrev at' (v : List F) (j : Nat) : F := v.getD j 0
def addR (v w : List F) : List F := v.zipWith (· + ·) w
def scR (v : List F) (c : F) : List F := v.map (· * c)
def clr (row lead : List F) (k : Nat) : List F := addR row (scR lead (-(at' row k)))
theorem scR_at (v : List F) (c : F) (j : Nat) : at' (scR v c) j = at' v j * c := by
  unfold at' scR
  rw [List.getD_eq_getElem?_getD, List.getD_eq_getElem?_getD, List.getElem?_map]
  cases v[j]? with
  | none => simp; grind
  | some x => rfl
theorem addR_at {v w : List F} (h : v.length = w.length) (j : Nat) : at' (addR v w) j = at' v j + at' w j := by
  unfold at' addR
  rw [List.getD_eq_getElem?_getD, List.getD_eq_getElem?_getD, List.getD_eq_getElem?_getD, List.getElem?_zipWith]
  by_cases hj : j < v.length
  · have hw : j < w.length := h ▸ hj
    rw [List.getElem?_eq_getElem hj, List.getElem?_eq_getElem hw]
    rfl
  · have hw : ¬ j < w.length := h ▸ hj
    rw [List.getElem?_eq_none (by omega), List.getElem?_eq_none (by omega)]
    simp; grind
theorem scR_len (v : List F) (c : F) : (scR v c).length = v.length := by simp [scR]
theorem addR_len {v w : List F} (h : v.length = w.length) : (addR v w).length = v.length := by simp [addR, h]
theorem clr_len {r l : List F} (h : r.length = l.length) (k : Nat) : (clr r l k).length = r.length := addR_len (by rw [scR_len]; exact h)
theorem clr_at {r l : List F} (h : r.length = l.length) (k j : Nat) : at' (clr r l k) j = at' r j - at' r k * at' l j := by
  unfold clr
  rw [addR_at (by rw [scR_len]; exact h), scR_at]
  grind
theorem row_ext {v w : List F} (h : v.length = w.length) (e : ∀ j, at' v j = at' w j) : v = w := by
  apply List.ext_getElem h
  intro j h1 h2
  have := e j
  unfold at' at this
  rw [List.getD_eq_getElem?_getD, List.getD_eq_getElem?_getD, List.getElem?_eq_getElem h1, List.getElem?_eq_getElem h2] at this
  exact this
/-- the sum of the rows times numbers, at a place -/
def lin : List (List F) → List F → Nat → F
  | r :: rs, c :: cs, j => at' r j * c + lin rs cs j
  | _, _, _ => 0
theorem lin_clr {l : List F} {k j : Nat} : ∀ {rs : List (List F)} {cs : List F}, (∀ r ∈ rs, r.length = l.length) → lin (rs.map fun r => clr r l k) cs j = lin rs cs j - lin rs cs k * at' l j
  | [], cs, _ => by simp only [List.map_nil, lin]; grind
  | r :: rs, [], _ => by simp only [List.map_cons, lin]; grind
  | r :: rs, c :: cs, h => by
    simp only [List.map_cons, lin]
    rw [lin_clr fun z hz => h z (by simp [hz]), clr_at (h r (by simp))]
    grind
theorem lin_snoc {l : List F} {c : F} {j : Nat} : ∀ {rs : List (List F)} {cs : List F}, rs.length = cs.length → lin (rs ++ [l]) (cs ++ [c]) j = lin rs cs j + at' l j * c
  | [], [], _ => by simp only [List.nil_append, lin]; grind
  | r :: rs, c' :: cs, h => by
    simp only [List.cons_append, lin]
    rw [lin_snoc (by simpa using h)]
    grind
  | [], _ :: _, h => by cases h
  | _ :: _, [], h => by cases h
/-! ### the reduction -/
structure Rd (F : Type) where
  left : List (List F)
  tab : List (List F)
  piv : List Nat
def lead (h : List F) (k : Nat) : List F := scR h (at' h k)⁻¹
def stp (s : Rd F) (k : Nat) : Rd F := match s.left.filter (fun r => decide (at' r k ≠ 0)) with
  | [] => s
  | h :: _ => ⟨s.left.map fun r => clr r (lead h k) k, (s.tab.map fun r => clr r (lead h k) k) ++ [lead h k], s.piv ++ [k]⟩
def red (rs : List (List F)) (w : Nat) : Rd F := (List.range w).foldl stp ⟨rs, [], []⟩
/-- a reduced table with its pivots -/
structure IsRR (w : Nat) (tab : List (List F)) (piv : List Nat) : Prop where
  len : ∀ r ∈ tab, r.length = w
  same : tab.length = piv.length
  sorted : piv.Pairwise (· < ·)
  top : ∀ p ∈ piv, p < w
  unit : ∀ (i j : Nat) (r : List F) (p : Nat), tab[i]? = some r → piv[j]? = some p → at' r p = if i = j then 1 else 0
  first : ∀ (i : Nat) (r : List F) (p : Nat), tab[i]? = some r → piv[i]? = some p → ∀ j, j < p → at' r j = 0
structure Inv (rs : List (List F)) (w k : Nat) (s : Rd F) : Prop where
  rr : IsRR w s.tab s.piv
  top : ∀ p ∈ s.piv, p < k
  llen : ∀ r ∈ s.left, r.length = w
  size : s.left.length = rs.length
  zero : ∀ r ∈ s.left, ∀ j, j < k → at' r j = 0
  comb : ∀ (i : Nat) (r l : List F), rs[i]? = some r → s.left[i]? = some l → ∀ j, at' r j = lin s.tab (s.piv.map (at' r)) j + at' l j
theorem inv0 {rs : List (List F)} {w : Nat} (h : ∀ r ∈ rs, r.length = w) : Inv rs w 0 (⟨rs, [], []⟩ : Rd F) :=
  ⟨⟨fun _ h => by simp at h, rfl, List.Pairwise.nil, fun _ h => by simp at h, fun i j r p h => by simp at h, fun i r p h => by simp at h⟩, fun _ h => by simp at h, h, rfl, fun _ _ j h => by omega,
    fun i r l h1 h2 j => by
      have h3 : rs[i]? = some l := h2
      rw [h1] at h3
      cases h3
      simp only [List.map_nil, lin]
      grind⟩
theorem inv_step {rs : List (List F)} {w k : Nat} {s : Rd F} (hk : k < w) (I : Inv rs w k s) : Inv rs w (k + 1) (stp s k) := by
  unfold stp
  cases hf : s.left.filter (fun r => decide (at' r k ≠ 0)) with
  | nil =>
    have hz : ∀ r ∈ s.left, at' r k = 0 := fun r hr => by
      have := List.filter_eq_nil_iff.mp hf r hr
      simpa using this
    refine ⟨I.rr, fun p hp => Nat.lt_succ_of_lt (I.top p hp), I.llen, I.size, fun r hr j hj => ?_, I.comb⟩
    by_cases e : j = k
    · rw [e]; exact hz r hr
    · exact I.zero r hr j (by omega)
  | cons h t =>
    have hh : h ∈ s.left.filter (fun r => decide (at' r k ≠ 0)) := by rw [hf]; simp
    rw [List.mem_filter] at hh
    obtain ⟨hm, hne⟩ := hh
    have hne : at' h k ≠ 0 := by simpa using hne
    have lh : h.length = w := I.llen h hm
    have ll : (lead h k).length = w := by unfold lead; rw [scR_len]; exact lh
    have l1 : at' (lead h k) k = 1 := by unfold lead; rw [scR_at]; grind
    have l0 : ∀ j, j < k → at' (lead h k) j = 0 := fun j hj => by
      unfold lead
      rw [scR_at, I.zero h hm j hj]
      grind
    have tl : ∀ r ∈ s.tab, r.length = (lead h k).length := fun r hr => by rw [ll]; exact I.rr.len r hr
    refine ⟨⟨fun r hr => ?_, ?_, ?_, fun p hp => ?_, fun i j r p h1 h2 => ?_, fun i r p h1 h2 j hj => ?_⟩, fun p hp => ?_, fun r hr => ?_, ?_, fun r hr j hj => ?_, fun i r l h1 h2 j => ?_⟩
    · rcases List.mem_append.mp hr with hr | hr
      · obtain ⟨r0, h0, rfl⟩ := List.mem_map.mp hr
        rw [clr_len (tl r0 h0)]
        exact I.rr.len r0 h0
      · simp only [List.mem_singleton] at hr
        rw [hr]; exact ll
    · simp [I.rr.same]
    · refine List.pairwise_append.mpr ⟨I.rr.sorted, List.pairwise_singleton _ _, fun a ha b hb => ?_⟩
      simp only [List.mem_singleton] at hb
      rw [hb]
      exact I.top a ha
    · rcases List.mem_append.mp hp with hp | hp
      · exact I.rr.top p hp
      · simp only [List.mem_singleton] at hp
        rw [hp]; exact hk
    · have hi : (i < s.tab.length ∧ ∃ r0, s.tab[i]? = some r0 ∧ r = clr r0 (lead h k) k) ∨ (i = s.tab.length ∧ r = lead h k) := by
        by_cases e : i < s.tab.length
        · rw [List.getElem?_append_left (by simpa using e), List.getElem?_map] at h1
          obtain ⟨r0, h3, h4⟩ := Option.map_eq_some_iff.mp h1
          exact .inl ⟨e, r0, h3, h4.symm⟩
        · rw [List.getElem?_append_right (by simpa using e), List.length_map] at h1
          have := (List.getElem?_eq_some_iff.mp h1).1
          simp only [List.length_cons, List.length_nil] at this
          have e2 : i = s.tab.length := by omega
          rw [e2] at h1
          simp at h1
          exact .inr ⟨e2, h1.symm⟩
      have hj : (j < s.piv.length ∧ s.piv[j]? = some p) ∨ (j = s.piv.length ∧ p = k) := by
        by_cases e : j < s.piv.length
        · rw [List.getElem?_append_left e] at h2
          exact .inl ⟨e, h2⟩
        · rw [List.getElem?_append_right (by omega)] at h2
          have := (List.getElem?_eq_some_iff.mp h2).1
          simp only [List.length_cons, List.length_nil] at this
          have e2 : j = s.piv.length := by omega
          rw [e2] at h2
          simp at h2
          exact .inr ⟨e2, h2.symm⟩
      have sm := I.rr.same
      rcases hi with ⟨i1, r0, h3, rfl⟩ | ⟨i1, rfl⟩ <;> rcases hj with ⟨j1, h4⟩ | ⟨j1, rfl⟩
      · rw [clr_at (tl r0 (List.mem_of_getElem? h3)), l0 p (I.top p (List.mem_of_getElem? h4)), I.rr.unit i j r0 p h3 h4]
        grind
      · rw [clr_at (tl r0 (List.mem_of_getElem? h3)), l1, if_neg (by omega)]
        grind
      · rw [l0 p (I.top p (List.mem_of_getElem? h4)), if_neg (by omega)]
      · rw [l1, if_pos (by omega)]
    · by_cases e : i < s.tab.length
      · rw [List.getElem?_append_left (by simpa using e), List.getElem?_map] at h1
        obtain ⟨r0, h3, rfl⟩ := Option.map_eq_some_iff.mp h1
        rw [List.getElem?_append_left (by rw [← I.rr.same]; exact e)] at h2
        have hp := I.top p (List.mem_of_getElem? h2)
        rw [clr_at (tl r0 (List.mem_of_getElem? h3)), l0 j (by omega), I.rr.first i r0 p h3 h2 j hj]
        grind
      · rw [List.getElem?_append_right (by simpa using e), List.length_map] at h1
        have := (List.getElem?_eq_some_iff.mp h1).1
        simp only [List.length_cons, List.length_nil] at this
        have e2 : i = s.tab.length := by omega
        rw [e2] at h1 h2
        simp at h1
        rw [I.rr.same, List.getElem?_append_right (by omega)] at h2
        simp at h2
        rw [← h1]
        exact l0 j (by omega)
    · rcases List.mem_append.mp hp with hp | hp
      · exact Nat.lt_succ_of_lt (I.top p hp)
      · simp only [List.mem_singleton] at hp
        omega
    · obtain ⟨r0, h0, rfl⟩ := List.mem_map.mp hr
      rw [clr_len (by rw [ll]; exact I.llen r0 h0)]
      exact I.llen r0 h0
    · simp [I.size]
    · obtain ⟨r0, h0, rfl⟩ := List.mem_map.mp hr
      rw [clr_at (by rw [ll]; exact I.llen r0 h0)]
      by_cases e : j = k
      · rw [e, l1]; grind
      · rw [l0 j (by omega), I.zero r0 h0 j (by omega)]; grind
    · simp only [List.getElem?_map] at h2
      obtain ⟨l0', h3, rfl⟩ := Option.map_eq_some_iff.mp h2
      have c1 := I.comb i r l0' h1 h3 j
      have c2 := I.comb i r l0' h1 h3 k
      rw [List.map_append, List.map_cons, List.map_nil, lin_snoc (by simp [I.rr.same]), lin_clr tl, clr_at (by rw [ll]; exact I.llen l0' (List.mem_of_getElem? h3))]
      grind
theorem inv_fold {rs : List (List F)} {w : Nat} : ∀ (n k : Nat) (s : Rd F), k + n ≤ w → Inv rs w k s → Inv rs w (k + n) ((List.range' k n).foldl stp s)
  | 0, k, s, _, I => I
  | n + 1, k, s, h, I => by
    rw [List.range'_succ, List.foldl_cons]
    have := inv_fold n (k + 1) (stp s k) (by omega) (inv_step (by omega) I)
    rw [show k + (n + 1) = k + 1 + n by omega]
    exact this
theorem red_inv {rs : List (List F)} {w : Nat} (h : ∀ r ∈ rs, r.length = w) : Inv rs w w (red rs w) := by
  have := inv_fold w 0 _ (by omega) (inv0 h)
  rw [Nat.zero_add] at this
  unfold red
  rw [List.range_eq_range']
  exact this
theorem red_comb {rs : List (List F)} {w : Nat} (h : ∀ r ∈ rs, r.length = w) {r : List F} (hr : r ∈ rs) (j : Nat) (hj : j < w) : at' r j = lin (red rs w).tab ((red rs w).piv.map (at' r)) j := by
  have I := red_inv h
  obtain ⟨i, hi⟩ := List.getElem?_of_mem hr
  have hl : i < (red rs w).left.length := by rw [I.size]; exact (List.getElem?_eq_some_iff.mp hi).1
  rw [I.comb i r _ hi (List.getElem?_eq_getElem hl) j, I.zero _ (List.getElem_mem hl) j hj]
  grind
end
end Pl

set_option Elab.async false
set_option linter.all false
set_option maxRecDepth 100000
set_option maxHeartbeats 4000000
/-! A reduced table is its own reduction; the rank. -/
namespace Pl
section
variable {F : Type} [Lean.Grind.Field F] [DecidableEq F]
def zeroR (w : Nat) : List F := List.replicate w 0
theorem zeroR_at (w j : Nat) : at' (zeroR w : List F) j = 0 := by
  unfold at' zeroR
  rw [List.getD_eq_getElem?_getD, List.getElem?_replicate]
  split <;> rfl
theorem zeroR_len (w : Nat) : (zeroR w : List F).length = w := by simp [zeroR]
theorem zero_of {w : Nat} {r : List F} (hl : r.length = w) (h : ∀ j, j < w → at' r j = 0) : r = zeroR w := by
  apply row_ext (by rw [hl, zeroR_len])
  intro j
  rw [zeroR_at]
  by_cases hj : j < w
  · exact h j hj
  · unfold at'
    rw [List.getD_eq_getElem?_getD, List.getElem?_eq_none (by omega)]
    rfl
theorem clr_none {r l : List F} {k : Nat} (hl : r.length = l.length) (h : at' r k = 0) : clr r l k = r := by
  apply row_ext (clr_len hl k)
  intro j
  rw [clr_at hl, h]
  grind
theorem lead_one {h : List F} {k : Nat} (e : at' h k = 1) : lead h k = h := by
  unfold lead
  apply row_ext (scR_len _ _)
  intro j
  rw [scR_at, e]
  grind
theorem clr_self {w : Nat} {r : List F} {k : Nat} (hl : r.length = w) (h : at' r k = 1) : clr r r k = zeroR w := by
  apply zero_of (by rw [clr_len rfl]; exact hl)
  intro j _
  rw [clr_at rfl, h]
  grind
/-- left at the place k of a run over a reduced table: m rows are done -/
structure Slf (w : Nat) (tab : List (List F)) (piv : List Nat) (z m k : Nat) (s : Rd F) : Prop where
  le : m ≤ tab.length
  done : ∀ i p, i < m → piv[i]? = some p → p < k
  todo : ∀ i p, m ≤ i → piv[i]? = some p → k ≤ p
  left : s.left = List.replicate m (zeroR w) ++ tab.drop m ++ List.replicate z (zeroR w)
  tb : s.tab = tab.take m
  pv : s.piv = piv.take m
theorem slf_step {w z m k : Nat} {tab : List (List F)} {piv : List Nat} {s : Rd F} (R : IsRR w tab piv) (I : Slf w tab piv z m k s) : ∃ m', Slf w tab piv z m' (k + 1) (stp s k) := by
  by_cases hm : ∃ p, piv[m]? = some p ∧ p = k
  · obtain ⟨p, h1, rfl⟩ := hm
    have mlt : m < piv.length := (List.getElem?_eq_some_iff.mp h1).1
    have mlt2 : m < tab.length := by rw [R.same]; exact mlt
    have ht : tab[m]? = some tab[m] := List.getElem?_eq_getElem mlt2
    have u1 : at' tab[m] p = 1 := by rw [R.unit m m _ p ht h1, if_pos rfl]
    have hw : tab[m].length = w := R.len _ (List.getElem_mem mlt2)
    have dr : tab.drop m = tab[m] :: tab.drop (m + 1) := List.drop_eq_getElem_cons mlt2
    have other : ∀ r ∈ tab.drop (m + 1), at' r p = 0 := fun r hr => by
      obtain ⟨i, hi⟩ := List.getElem?_of_mem hr
      rw [List.getElem?_drop] at hi
      rw [R.unit _ m r p hi h1, if_neg (by omega)]
    have ear : ∀ r ∈ tab.take m, at' r p = 0 := fun r hr => by
      obtain ⟨i, hi⟩ := List.getElem?_of_mem hr
      have hi2 := (List.getElem?_eq_some_iff.mp hi).1
      rw [List.length_take] at hi2
      rw [List.getElem?_take_of_lt (by omega)] at hi
      rw [R.unit i m r p hi h1, if_neg (by omega)]
    have hz : at' (zeroR w : List F) p = 0 := zeroR_at _ _
    have lr : ∀ r ∈ tab, clr r tab[m] p = r ∨ at' r p ≠ 0 := fun r hr => by
      by_cases e : at' r p = 0
      · exact .inl (clr_none (by rw [R.len r hr, hw]) e)
      · exact .inr e
    have one : (1 : F) ≠ 0 := fun e => Lean.Grind.Field.zero_ne_one e.symm
    have fl : s.left.filter (fun r => decide (at' r p ≠ 0)) = [tab[m]] := by
      rw [I.left, dr, List.filter_append, List.filter_append, List.filter_cons, u1]
      have f1 : ∀ n, (List.replicate n (zeroR w : List F)).filter (fun r => decide (at' r p ≠ 0)) = [] := fun n => List.filter_eq_nil_iff.mpr fun r hr => by
        rw [(List.mem_replicate.mp hr).2, hz]
        simp
      have f2 : (tab.drop (m + 1)).filter (fun r => decide (at' r p ≠ 0)) = [] := List.filter_eq_nil_iff.mpr fun r hr => by
        rw [other r hr]
        simp
      rw [f1, f1, f2]
      simp [one]
    have ld : lead tab[m] p = tab[m] := lead_one u1
    refine ⟨m + 1, ?_⟩
    unfold stp
    rw [fl]
    simp only [ld]
    have cz : clr (zeroR w : List F) tab[m] p = zeroR w := clr_none (by rw [zeroR_len, hw]) hz
    refine ⟨mlt2, fun i q hi hq => ?_, fun i q hi hq => ?_, ?_, ?_, ?_⟩
    · by_cases e : i = m
      · subst e
        rw [h1] at hq
        cases hq
        omega
      · exact Nat.lt_succ_of_lt (I.done i q (by omega) hq)
    · have hi2 : i < piv.length := (List.getElem?_eq_some_iff.mp hq).1
      have := List.pairwise_iff_getElem.mp R.sorted m i mlt hi2 (by omega)
      rw [List.getElem?_eq_getElem mlt] at h1
      rw [List.getElem?_eq_getElem hi2] at hq
      cases h1
      cases hq
      omega
    · show s.left.map _ = _
      rw [I.left, dr]
      simp only [List.map_append, List.map_replicate, List.map_cons, cz, clr_self hw u1]
      have d2 : (tab.drop (m + 1)).map (fun r => clr r tab[m] p) = tab.drop (m + 1) := by
        conv => rhs; rw [← List.map_id (tab.drop (m + 1))]
        exact List.map_congr_left fun r hr => clr_none (by rw [R.len r (List.mem_of_mem_drop hr), hw]) (other r hr)
      rw [d2, List.replicate_succ']
      simp
    · show s.tab.map _ ++ _ = _
      rw [I.tb]
      have d2 : (tab.take m).map (fun r => clr r tab[m] p) = tab.take m := by
        conv => rhs; rw [← List.map_id (tab.take m)]
        exact List.map_congr_left fun r hr => clr_none (by rw [R.len r (List.mem_of_mem_take hr), hw]) (ear r hr)
      rw [d2, List.take_succ, ht]
      rfl
    · show s.piv ++ _ = _
      rw [I.pv, List.take_succ, h1]
      rfl
  · refine ⟨m, ?_⟩
    have gt : ∀ i p, m ≤ i → piv[i]? = some p → k < p := fun i p hi hp => by
      have h1 := I.todo i p hi hp
      by_cases e : p = k
      · exfalso
        by_cases e2 : i = m
        · exact hm ⟨p, e2 ▸ hp, e⟩
        · have hi2 : i < piv.length := (List.getElem?_eq_some_iff.mp hp).1
          have hm2 : m < piv.length := by omega
          have h3 := I.todo m piv[m] (Nat.le_refl _) (List.getElem?_eq_getElem hm2)
          have h4 := List.pairwise_iff_getElem.mp R.sorted m i hm2 hi2 (by omega)
          rw [List.getElem?_eq_getElem hi2] at hp
          cases hp
          omega
      · omega
    have fl : s.left.filter (fun r => decide (at' r k ≠ 0)) = [] := List.filter_eq_nil_iff.mpr fun r hr => by
      rw [I.left] at hr
      rcases List.mem_append.mp hr with hr | hr
      · rcases List.mem_append.mp hr with hr | hr
        · rw [(List.mem_replicate.mp hr).2, zeroR_at]
          simp
        · obtain ⟨i, hi⟩ := List.getElem?_of_mem hr
          rw [List.getElem?_drop] at hi
          have hl : m + i < piv.length := by rw [← R.same]; exact (List.getElem?_eq_some_iff.mp hi).1
          have hp := List.getElem?_eq_getElem hl
          rw [R.first _ r _ hi hp k (gt _ _ (by omega) hp)]
          simp
      · rw [(List.mem_replicate.mp hr).2, zeroR_at]
        simp
    unfold stp
    rw [fl]
    exact ⟨I.le, fun i p h1 h2 => Nat.lt_succ_of_lt (I.done i p h1 h2), fun i p h1 h2 => gt i p h1 h2, I.left, I.tb, I.pv⟩
theorem slf_fold {w z : Nat} {tab : List (List F)} {piv : List Nat} (R : IsRR w tab piv) : ∀ (n k m : Nat) (s : Rd F), Slf w tab piv z m k s → ∃ m', Slf w tab piv z m' (k + n) ((List.range' k n).foldl stp s)
  | 0, k, m, s, I => ⟨m, I⟩
  | n + 1, k, m, s, I => by
    rw [List.range'_succ, List.foldl_cons]
    obtain ⟨m1, I1⟩ := slf_step R I
    rw [show k + (n + 1) = k + 1 + n by omega]
    exact slf_fold R n (k + 1) m1 _ I1
/-- a reduced table, with rows of zeros behind it, has itself as reduction -/
theorem red_self {w z : Nat} {tab : List (List F)} {piv : List Nat} (R : IsRR w tab piv) : (red (tab ++ List.replicate z (zeroR w)) w).tab = tab ∧ (red (tab ++ List.replicate z (zeroR w)) w).piv = piv := by
  have h0 : Slf w tab piv z 0 0 (⟨tab ++ List.replicate z (zeroR w), [], []⟩ : Rd F) := ⟨Nat.zero_le _, fun _ _ h => by omega, fun _ _ _ _ => Nat.zero_le _, by simp, rfl, rfl⟩
  obtain ⟨m, I⟩ := slf_fold R w 0 0 _ h0
  rw [Nat.zero_add, ← List.range_eq_range'] at I
  have hm : m = tab.length := by
    by_cases e : m < tab.length
    · exfalso
      have e2 : m < piv.length := by rw [← R.same]; exact e
      have h1 := I.todo m piv[m] (Nat.le_refl _) (List.getElem?_eq_getElem e2)
      have h2 := R.top piv[m] (List.getElem_mem e2)
      omega
    · have := I.le
      omega
  refine ⟨?_, ?_⟩
  · have := I.tb
    rw [hm, List.take_length] at this
    exact this
  · have := I.pv
    rw [hm, R.same, List.take_length] at this
    exact this
end
end Pl

set_option Elab.async false
set_option linter.all false
set_option maxRecDepth 100000
set_option maxHeartbeats 4000000
/-! The field's functions, on data. -/
namespace My
open PySem PySem.Spec L2 Dn Pl
abbrev fD (q : Nat) : D := .ins 0 [.int q, .int (pOf q : Nat)]
def isI (r : Rs) (x : Nat) : Bool := match r with
  | .ok (.fz (.int y)) => y == (x : Int)
  | _ => false
theorem isI_of {r : Rs} {x : Nat} (h : isI r x = true) : r = .ok (.fz (.int x)) := by
  unfold isI at h
  split at h
  · rename_i y
    rw [beq_iff_eq.mp h]
  · cases h
def isB (r : Rs) (b : Bool) : Bool := match r with
  | .ok (.fz (.bl y)) => y == b
  | _ => false
theorem isB_of {r : Rs} {b : Bool} (h : isB r b = true) : r = .ok (.fz (.bl b)) := by
  unfold isB at h
  split at h
  · rw [beq_iff_eq.mp h]
  · cases h
theorem k_add : all2 (fun q a b => isI (F_Field_add.app [fD q, .int a, .int b]) (fadd q a b)) = true := by decide +kernel
theorem k_mul : all2 (fun q a b => isI (F_Field_multiply.app [fD q, .int a, .int b]) (fmul q a b)) = true := by decide +kernel
theorem k_neg : all1 (fun q a => isI (F_Field_negative.app [fD q, .int a]) (fneg q a)) = true := by decide +kernel
theorem k_num : all1 (fun q a => isB (F_Field_is_number.app [fD q, .int a]) true) = true := by decide +kernel
section
variable {q : Nat} [s : Six q] (a b : El q)
abbrev eD (a : El q) : D := .int (a.v : Nat)
theorem f_add : F_Field_add.app [fD q, eD a, eD b] = .ok (.fz (eD (a + b))) := isI_of (of2 k_add s.mem a.lt b.lt)
theorem f_mul : F_Field_multiply.app [fD q, eD a, eD b] = .ok (.fz (eD (a * b))) := isI_of (of2 k_mul s.mem a.lt b.lt)
theorem f_neg : F_Field_negative.app [fD q, eD a] = .ok (.fz (eD (-a))) := isI_of (of1 k_neg s.mem a.lt)
theorem f_num : F_Field_is_number.app [fD q, eD a] = .ok (.fz (.bl true)) := isB_of (of1 k_num s.mem a.lt)
end
/-- a row, a table of rows -/
abbrev rD {q : Nat} (v : List (El q)) : D := .tup (v.map eD)
def rsD {q : Nat} (t : List (List (El q))) : List D := t.map rD
/-- the law's field -/
def lfD (q : Nat) : D := .tup [.int q, .lst ((List.range q).map fun a => .lst ((List.range q).map fun b => .int (fadd q a b : Nat))), .lst ((List.range q).map fun a => .lst ((List.range q).map fun b => .int (fmul q a b : Nat)))]
end My

set_option Elab.async false
set_option linter.all false
set_option maxRecDepth 100000
set_option maxHeartbeats 4000000
/-! Rows, on data. -/
namespace My
open PySem PySem.Spec L2 Dn Pl
section
variable {q : Nat} [s : Six q]
theorem f_addR {v w : List (El q)} (hl : v.length ≤ 1000) : F_add.app [fD q, rD v, rD w] = .ok (.fz (rD (addR v w))) := by
  refine app_ret (E := [.vl (fD q), .vl (rD v), .vl (rD w), .un, .un]) rfl (es_ret (ev_call (ev_cons (ev_ls (ev_lc (ev_icall (ev_cons (ev_var rfl) (ev_cons (ev_var rfl) ev_nil)) rfl) (ys := (addR v w).map eD) (E2 := [.vl (fD q), .vl (rD v), .vl (rD w), .un, .un]) ?_ ?_)) ev_nil) rfl))
  · have e : ((v.map eD).zip (w.map eD)).map (fun p => D.tup [p.1, p.2]) = (v.zip w).map fun p => D.tup [eD p.1, eD p.2] := by rw [List.zip_map, List.map_map]; rfl
    have e2 : (addR v w).map eD = (v.zip w).map fun p => eD (p.1 + p.2) := by unfold addR; rw [List.map_zipWith, ← List.map_uncurry_zip_eq_zipWith]; rfl
    rw [e, e2]
    exact sComp_map (fun p _ => ⟨[.vl (fD q), .vl (rD v), .vl (rD w), .vl (eD p.1), .vl (eD p.2)], _, _, rfl, rfl, ev_meth (ev_var rfl) rfl (ev_cons (ev_var rfl) (ev_cons (ev_var rfl) ev_nil)) (f_add p.1 p.2), rfl⟩)
  · have : (addR v w).length ≤ v.length := by simp [addR]; omega
    simp only [List.length_map]
    omega
theorem f_scR {v : List (El q)} (c : El q) (hl : v.length ≤ 1000) : F_scaled.app [fD q, rD v, eD c] = .ok (.fz (rD (scR v c))) := by
  refine app_ret (E := [.vl (fD q), .vl (rD v), .vl (eD c), .un]) rfl (es_ret (ev_call (ev_cons (ev_ls (ev_lc (ev_iseq (ev_var rfl) rfl) (ys := (scR v c).map eD) (E2 := [.vl (fD q), .vl (rD v), .vl (eD c), .un]) ?_ ?_)) ev_nil) rfl))
  · have e2 : (scR v c).map eD = v.map fun x => eD (x * c) := by unfold scR; rw [List.map_map]; rfl
    rw [e2]
    exact sComp_map (fun x _ => ⟨[.vl (fD q), .vl (rD v), .vl (eD c), .vl (eD x)], _, _, rfl, rfl, ev_meth (ev_var rfl) rfl (ev_cons (ev_var rfl) (ev_cons (ev_var rfl) ev_nil)) (f_mul x c), rfl⟩)
  · rw [List.length_map, scR_len]; omega
theorem atI_nat {xs : List D} {j : Nat} {d : D} (h : xs[j]? = some d) : oIx (.tup xs) (.int j) = some d := by
  have hj : j < xs.length := (List.getElem?_eq_some_iff.mp h).1
  show atI xs (j : Int) = some d
  unfold atI ixN
  rw [if_pos (by omega), if_pos (by omega)]
  simpa using h
theorem ix_row {v : List (El q)} {j : Nat} (hj : j < v.length) : oIx (rD v) (.int j) = some (eD (at' v j)) := atI_nat (by
  unfold at'
  rw [List.getElem?_map, List.getElem?_eq_getElem hj, List.getD_eq_getElem?_getD, List.getElem?_eq_getElem hj]
  rfl)
end
end My

set_option Elab.async false
set_option linter.all false
set_option maxRecDepth 100000
set_option maxHeartbeats 4000000
/-! The reduction, on data. -/
namespace My
open PySem PySem.Spec L2 Dn Pl
section
variable {q : Nat} [s : Six q]
theorem sLoop_range {t : Tg} {b : Ss} {w : Nat} {P : Nat → Sto → Prop} (h : ∀ k, k < w → ∀ E, P k E → ∃ E1 E2, t (.int k) E = some E1 ∧ b E1 = .nx E2 ∧ P (k + 1) E2) : ∀ n k E, k + n = w → P k E → ∃ E', sLoop t b ((List.range' k n).map fun i => .int (i : Nat)) E = .nx E' ∧ P w E'
  | 0, k, E, e, p => ⟨E, rfl, (show k = w by omega) ▸ p⟩
  | n + 1, k, E, e, p => by
    obtain ⟨E1, E2, h1, h2, h3⟩ := h k (by omega) E p
    obtain ⟨E', h4, h5⟩ := sLoop_range h n (k + 1) E2 (by omega) h3
    refine ⟨E', ?_, h5⟩
    rw [List.range'_succ, List.map_cons]
    simp only [sLoop, h1, h2]
    exact h4
theorem head0 (x : D) (xs : List D) : oIx (.lst (x :: xs)) (.int 0) = some x := by
  show atI (x :: xs) 0 = some x
  unfold atI ixN
  rw [if_pos (by omega), if_pos (by simp only [List.length_cons]; omega)]
  rfl
theorem ne_zero (x : El q) : oNe (eD x) (.int 0) = some (.bl (decide (x ≠ 0))) := by
  have : ((x.v : Int) = 0) ↔ x = 0 := ⟨fun h => El.ext (show x.v = 0 by omega), fun h => by rw [h]; rfl⟩
  by_cases e : x = 0
  · simp [oNe, dEq, oEqS, eD, e, zero_v]
  · have : ¬ (x.v : Int) = 0 := fun h => e (this.mp h)
    simp [oNe, dEq, oEqS, eD, e]
    omega
end
end My

set_option Elab.async false
set_option linter.all false
set_option maxRecDepth 100000
set_option maxHeartbeats 4000000
/-! The law's own rows, on data. -/
namespace My
open PySem PySem.Spec L2 Dn Pl
section
variable {q : Nat} [s : Six q]
theorem atL_nat {xs : List D} {j : Nat} {d : D} (h : xs[j]? = some d) : oIx (.lst xs) (.int j) = some d := by
  have hj : j < xs.length := (List.getElem?_eq_some_iff.mp h).1
  show atI xs (j : Int) = some d
  unfold atI ixN
  rw [if_pos (by omega), if_pos (by omega)]
  simpa using h
theorem lf_1 : oIx (lfD q) (.int 1) = some (.lst ((List.range q).map fun a => .lst ((List.range q).map fun b => .int (fadd q a b : Nat)))) := rfl
theorem lf_2 : oIx (lfD q) (.int 2) = some (.lst ((List.range q).map fun a => .lst ((List.range q).map fun b => .int (fmul q a b : Nat)))) := rfl
theorem lf_0 : oIx (lfD q) (.int 0) = some (.int q) := rfl
theorem ix_rng {f : Nat → D} {a : Nat} (h : a < q) : oIx (.lst ((List.range q).map f)) (.int a) = some (f a) := atL_nat (by rw [List.getElem?_map, List.getElem?_range h]; rfl)
theorem lf_add (a b : El q) : oIx (.lst ((List.range q).map fun b => .int (fadd q a.v b : Nat))) (eD b) = some (eD (a + b)) := ix_rng b.lt
theorem lf_mul (a b : El q) : oIx (.lst ((List.range q).map fun b => .int (fmul q a.v b : Nat))) (eD b) = some (eD (a * b)) := ix_rng b.lt
theorem addR_rng {v w : List (El q)} (h : v.length = w.length) : (addR v w).map eD = (List.range v.length).map fun k => eD (at' v k + at' w k) := by
  apply List.ext_getElem
  · simp [addR_len h]
  · intro j h1 h2
    have hj : j < v.length := by simpa [addR_len h] using h1
    have := addR_at h j
    unfold at' at this
    rw [List.getD_eq_getElem?_getD, List.getElem?_eq_getElem (by rw [addR_len h]; exact hj)] at this
    simp only [List.getElem_map, List.getElem_range]
    exact congrArg eD this
end
section
variable {q : Nat} [s : Six q]
end
end My

set_option Elab.async false
set_option linter.all false
set_option maxRecDepth 100000
set_option maxHeartbeats 4000000
/-! The law's sums of rows, on data. -/
namespace My
open PySem PySem.Spec L2 Dn Pl
section
variable {q : Nat} [s : Six q]
def accR (tab : List (List (El q))) (ws : List (El q)) (w : Nat) : Nat → List (El q)
  | 0 => zeroR w
  | k + 1 => addR (accR tab ws w k) (scR (tab.getD k []) (ws.getD k 0))
theorem accR_ok {tab : List (List (El q))} {ws : List (El q)} {w : Nat} (ht : ∀ r ∈ tab, r.length = w) (hs : tab.length = ws.length) : ∀ k, k ≤ tab.length → (accR tab ws w k).length = w ∧ ∀ j, at' (accR tab ws w k) j = lin (tab.take k) (ws.take k) j
  | 0, _ => ⟨zeroR_len w, fun j => by simp only [List.take_zero, lin]; exact zeroR_at w j⟩
  | k + 1, h => by
    obtain ⟨h1, h2⟩ := accR_ok ht hs k (by omega)
    have hk : k < tab.length := by omega
    have hk2 : k < ws.length := by omega
    have e1 : tab.getD k [] = tab[k] := by rw [List.getD_eq_getElem?_getD, List.getElem?_eq_getElem hk]; rfl
    have e2 : ws.getD k 0 = ws[k] := by rw [List.getD_eq_getElem?_getD, List.getElem?_eq_getElem hk2]; rfl
    have hl : (accR tab ws w k).length = (scR (tab.getD k []) (ws.getD k 0)).length := by rw [scR_len, e1, ht _ (List.getElem_mem hk)]; exact h1
    refine ⟨(addR_len hl).trans h1, fun j => ?_⟩
    show at' (addR (accR tab ws w k) (scR (tab.getD k []) (ws.getD k 0))) j = _
    rw [addR_at hl, scR_at, h2, e1, e2, List.take_succ, List.take_succ, List.getElem?_eq_getElem hk, List.getElem?_eq_getElem hk2]
    exact (lin_snoc (by simp; omega)).symm
theorem zeros_comp (w : Nat) {E0 : Sto} {i : Nat} (hi : ∀ d : D, ((E0.set i (.vl d)).set i .un) = E0) : sComp (gN i) bYes (sC (.int 0)) [i] ((List.range w).map fun k => .int (k : Nat)) E0 = some ((zeroR w : List (El q)).map eD, E0) := by
  have e : (zeroR w : List (El q)).map eD = (List.range w).map fun _ => D.int 0 := by
    apply List.ext_getElem
    · simp [zeroR]
    · intro j h1 h2
      simp [zeroR, eD, zero_v]
  rw [e]
  exact sComp_map (fun k _ => ⟨_, _, _, rfl, rfl, rfl, hi _⟩)
end
end My

set_option Elab.async false
set_option linter.all false
set_option maxRecDepth 100000
set_option maxHeartbeats 4000000
/-! The rank by taking rows away. -/
namespace Pl
section
variable {F : Type} [Lean.Grind.Field F] [DecidableEq F]
def dropH (k : Nat) : List (List F) → Option (List F × List (List F))
  | [] => none
  | r :: L => if at' r k ≠ 0 then some (r, L) else (dropH k L).map fun p => (p.1, r :: p.2)
def stpL (s : List (List F) × Nat) (k : Nat) : List (List F) × Nat := match dropH k s.1 with
  | none => s
  | some (h, L) => (L.map fun r => clr r (lead h k) k, s.2 + 1)
/-- the same rows, with rows of zeros strewn in -/
inductive Sb (w : Nat) : List (List F) → List (List F) → Prop
  | nil : Sb w [] []
  | keep {L P : List (List F)} (r : List F) : Sb w L P → Sb w (r :: L) (r :: P)
  | skip {L P : List (List F)} : Sb w L P → Sb w L (zeroR w :: P)
theorem Sb.refl {w : Nat} : ∀ {L : List (List F)}, Sb w L L
  | [] => .nil
  | _ :: _ => .keep _ Sb.refl
theorem Sb.map {w : Nat} {f : List F → List F} (hf : f (zeroR w) = zeroR w) {L P : List (List F)} (h : Sb w L P) : Sb w (L.map f) (P.map f) := by
  induction h with
  | nil => exact .nil
  | keep r _ ih => exact .keep _ ih
  | skip _ ih =>
    rw [List.map_cons, hf]
    exact .skip ih
abbrev nz (k : Nat) (r : List F) : Bool := decide (at' r k ≠ 0)
theorem nz_t {k : Nat} {r : List F} (h : at' r k ≠ 0) : nz k r = true := decide_eq_true h
theorem nz_f {k : Nat} {r : List F} (h : at' r k = 0) : ¬ nz k r = true := fun z => of_decide_eq_true z h
theorem nz_zero {w k : Nat} : nz k (zeroR w : List F) = false := by
  unfold nz
  rw [zeroR_at]
  simp
theorem sb_none {w k : Nat} {L P : List (List F)} (h : Sb w L P) (e : dropH k L = none) : P.filter (nz k) = [] := by
  induction h with
  | nil => rfl
  | keep r _ ih =>
    unfold dropH at e
    split at e
    · cases e
    · rename_i hr
      have hr2 : at' r k = 0 := Classical.byContradiction hr
      rw [List.filter_cons, if_neg (nz_f hr2)]
      exact ih (Option.map_eq_none_iff.mp e)
  | skip _ ih =>
    rw [List.filter_cons, nz_zero]
    exact ih e
theorem clr_head {w k : Nat} {h : List F} (hl : h.length = w) (hn : at' h k ≠ 0) : clr h (lead h k) k = zeroR w := by
  apply zero_of (by rw [clr_len (by unfold lead; rw [scR_len])]; exact hl)
  intro j _
  rw [clr_at (by unfold lead; rw [scR_len])]
  unfold lead
  rw [scR_at]
  grind
theorem sb_some {w k : Nat} {L P : List (List F)} (h : Sb w L P) : ∀ {r : List F} {L' : List (List F)}, (∀ x ∈ L, x.length = w) → dropH k L = some (r, L') →
    r.length = w ∧ at' r k ≠ 0 ∧ (∃ t, P.filter (nz k) = r :: t) ∧ Sb w (L'.map fun x => clr x (lead r k) k) (P.map fun x => clr x (lead r k) k) := by
  induction h with
  | nil => intro r L' _ e; cases e
  | @keep L P r0 hs ih =>
    intro r L' hl e
    unfold dropH at e
    split at e
    · rename_i hr
      obtain ⟨rfl, rfl⟩ := Prod.mk.inj (Option.some.inj e)
      have h0 : r0.length = w := hl r0 (by simp)
      refine ⟨h0, hr, ⟨P.filter (nz k), by rw [List.filter_cons, if_pos (nz_t hr)]⟩, ?_⟩
      rw [List.map_cons, clr_head h0 hr]
      exact .skip (hs.map (clr_none (by rw [zeroR_len]; unfold lead; rw [scR_len]; exact h0.symm) (zeroR_at _ _)))
    · rename_i hr
      have hr2 : at' r0 k = 0 := Classical.byContradiction hr
      obtain ⟨p, e1, e2⟩ := Option.map_eq_some_iff.mp e
      obtain ⟨h1, L1⟩ := p
      cases e2
      obtain ⟨i0, i1, ⟨t, i2⟩, i3⟩ := ih (fun x hx => hl x (by simp [hx])) e1
      refine ⟨i0, i1, ⟨t, by rw [List.filter_cons, if_neg (nz_f hr2)]; exact i2⟩, ?_⟩
      exact .keep _ i3
  | @skip L P hs ih =>
    intro r L' hl e
    obtain ⟨i0, i1, ⟨t, i2⟩, i3⟩ := ih hl e
    refine ⟨i0, i1, ⟨t, by rw [List.filter_cons, nz_zero]; exact i2⟩, ?_⟩
    rw [List.map_cons, clr_none (by rw [zeroR_len]; unfold lead; rw [scR_len]; exact i0.symm) (zeroR_at _ _)]
    exact .skip i3
theorem dropH_len {w k : Nat} : ∀ {L : List (List F)} {r : List F} {L' : List (List F)}, (∀ x ∈ L, x.length = w) → dropH k L = some (r, L') → (∀ x ∈ L', x.length = w) ∧ L.length = L'.length + 1
  | [], _, _, _, e => by cases e
  | r0 :: L, r, L', hl, e => by
    unfold dropH at e
    split at e
    · cases e
      exact ⟨fun x hx => hl x (by simp [hx]), rfl⟩
    · obtain ⟨p, e1, e2⟩ := Option.map_eq_some_iff.mp e
      obtain ⟨h1, L1⟩ := p
      cases e2
      obtain ⟨i1, i2⟩ := dropH_len (fun x hx => hl x (by simp [hx])) e1
      refine ⟨fun x hx => ?_, by simp [i2]⟩
      rcases List.mem_cons.mp hx with rfl | hx
      · exact hl _ (by simp)
      · exact i1 x hx
theorem rank_step {w k : Nat} {L : List (List F)} {n : Nat} {s : Rd F} (hl : ∀ x ∈ L, x.length = w) (h : Sb w L s.left) (e : n = s.piv.length) :
    (∀ x ∈ (stpL (L, n) k).1, x.length = w) ∧ Sb w (stpL (L, n) k).1 (stp s k).left ∧ (stpL (L, n) k).2 = (stp s k).piv.length ∧ (stpL (L, n) k).1.length ≤ L.length := by
  unfold stpL stp
  cases q : dropH k L with
  | none =>
    have := sb_none h q
    simp only [this]
    exact ⟨hl, h, e, Nat.le_refl _⟩
  | some p =>
    obtain ⟨r, L'⟩ := p
    obtain ⟨i0, i1, ⟨t, i2⟩, i3⟩ := sb_some h hl q
    obtain ⟨j1, j2⟩ := dropH_len hl q
    simp only [i2]
    refine ⟨fun x hx => ?_, i3, by simp [e], by simp; omega⟩
    obtain ⟨y, hy, rfl⟩ := List.mem_map.mp hx
    rw [clr_len (by rw [j1 y hy]; unfold lead; rw [scR_len]; exact i0.symm)]
    exact j1 y hy
/-- the heads' places -/
theorem heads_of {k : Nat} : ∀ {L : List (List F)}, match dropH k L with
    | none => (List.range L.length).filter (fun i => nz k (L.getD i [])) = []
    | some (r, L') => ∃ i t, (List.range L.length).filter (fun i => nz k (L.getD i [])) = i :: t ∧ L[i]? = some r ∧ L.eraseIdx i = L'
  | [] => rfl
  | r0 :: L => by
    have ih := heads_of (k := k) (L := L)
    have sh : (List.range (r0 :: L).length).filter (fun i => nz k ((r0 :: L).getD i [])) = (if nz k r0 = true then [0] else []) ++ ((List.range L.length).filter (fun i => nz k (L.getD i []))).map (· + 1) := by
      rw [List.length_cons, List.range_succ_eq_map, List.filter_cons, List.filter_map]
      have : ((fun i => nz k ((r0 :: L).getD i [])) ∘ Nat.succ) = fun i => nz k (L.getD i []) := by
        funext i
        simp [Function.comp]
      rw [this]
      by_cases h0 : nz k r0 = true
      · have : nz k ((r0 :: L).getD 0 []) = true := h0
        rw [if_pos this, if_pos h0]
        rfl
      · have : ¬ nz k ((r0 :: L).getD 0 []) = true := h0
        rw [if_neg this, if_neg h0]
        rfl
    unfold dropH
    by_cases h0 : at' r0 k ≠ 0
    · rw [if_pos h0]
      refine ⟨0, ((List.range L.length).filter (fun i => nz k (L.getD i []))).map (· + 1), ?_, rfl, rfl⟩
      rw [sh, if_pos (nz_t h0)]
      rfl
    · rw [if_neg h0, sh, if_neg (nz_f (Classical.byContradiction h0))]
      cases q : dropH k L with
      | none =>
        rw [q] at ih
        simp only [Option.map_none] at ih ⊢
        rw [ih]
        rfl
      | some p =>
        obtain ⟨h1, L1⟩ := p
        rw [q] at ih
        obtain ⟨i, t, e1, e2, e3⟩ := ih
        refine ⟨i + 1, t.map (· + 1), ?_, by simpa using e2, by simp [e3]⟩
        rw [e1]
        rfl
end
end Pl

set_option Elab.async false
set_option linter.all false
set_option maxRecDepth 100000
set_option maxHeartbeats 4000000
/-! The law's rank, on data. -/
namespace My
open PySem PySem.Spec L2 Dn Pl
theorem ev_lenO {E : Sto} {i : Nat} {cs : List D} (h : E[i]? = some (.ow cs)) : sLenO i E = .ok (.int (cs.length : Nat)) E := by
  unfold sLenO cellAt
  rw [h]
  rfl
theorem ev_ixO {E E1 : Sto} {i : Nat} {cs : List D} {b : Se} {k d : D} (h : E[i]? = some (.ow cs)) (h2 : b E = .ok k E1) (h3 : E1[i]? = some (.ow cs)) (h4 : oIx (.lst cs) k = some d) : sIxO i b E = .ok d E1 := by
  unfold sIxO cellAt
  rw [h]
  show (b E).bind _ = _
  rw [h2]
  show (match (match E1[i]? with | some s => (match s.cell with | some cs => some (s, cs) | none => none) | none => none) with | some (_, cs) => Out.opt (oIx (.lst cs) k) E1 | none => .bad) = _
  rw [h3]
  show Out.opt (oIx (.lst cs) k) E1 = _
  rw [h4]
  rfl
theorem ev_varO {E : Sto} {i : Nat} {cs : List D} (h : E[i]? = some (.ow cs)) : sVar i E = .ok (.lst cs) (E.set i (.vl (.lst cs))) := by
  unfold sVar
  rw [h]
theorem rsD_len {q : Nat} (t : List (List (El q))) : (rsD t).length = t.length := by simp [rsD]
theorem rsD_at {q : Nat} {t : List (List (El q))} {k : Nat} {v : List (El q)} (h : t[k]? = some v) : (rsD t)[k]? = some (rD v) := by unfold rsD; rw [List.getElem?_map, h]; rfl
section
variable {q : Nat} [s : Six q]
def rkS (rows : List (List (El q))) (k : Nat) : List (List (El q)) × Nat := (List.range k).foldl stpL (rows, 0)
theorem rkS_succ (rows : List (List (El q))) (k : Nat) : rkS rows (k + 1) = stpL (rkS rows k) k := by
  unfold rkS
  rw [List.range_succ, List.foldl_append]
  rfl
theorem rk_inv {rows : List (List (El q))} {w : Nat} (hl : ∀ r ∈ rows, r.length = w) : ∀ k, (∀ x ∈ (rkS rows k).1, x.length = w) ∧ Sb w (rkS rows k).1 ((List.range k).foldl stp ⟨rows, [], []⟩).left ∧ (rkS rows k).2 = ((List.range k).foldl stp ⟨rows, [], []⟩).piv.length ∧ (rkS rows k).1.length ≤ rows.length
  | 0 => ⟨hl, Sb.refl, rfl, Nat.le_refl _⟩
  | k + 1 => by
    obtain ⟨i1, i2, i3, i4⟩ := rk_inv hl k
    have := rank_step (k := k) (n := (rkS rows k).2) i1 i2 i3
    rw [rkS_succ, List.range_succ, List.foldl_append]
    exact ⟨this.1, this.2.1, this.2.2.1, Nat.le_trans this.2.2.2 i4⟩
theorem rk_tab {rows : List (List (El q))} {w : Nat} (hl : ∀ r ∈ rows, r.length = w) : (rkS rows w).2 = (red rows w).tab.length := by
  rw [(rk_inv hl w).2.2.1]
  exact (red_inv hl).rr.same.symm
theorem heads_comp {L : List (List (El q))} {w k : Nat} {E0 E1' : Nat → Sto} {E : Sto} (hk : k < w) (hl : ∀ x ∈ L, x.length = w) (h0 : E[3]? = some (.ow (rsD L))) (h5 : E[5]? = some (.vl (.int k)))
    (hE : ∀ i : Nat, (E.set 8 (.vl (.int i)))[3]? = some (.ow (rsD L)) ∧ (E.set 8 (.vl (.int i)))[5]? = some (.vl (.int k)) ∧ (E.set 8 (.vl (.int i)))[8]? = some (.vl (.int i)) ∧ (E.set 8 (.vl (.int i))).set 8 .un = E) :
    sComp (gN 8) (bVal (sBin oNe (sBin oIx (sIxO 3 (sVar 8)) (sVar 5)) (sC (.int 0)))) (sVar 8) [8] ((List.range L.length).map fun i => .int (i : Nat)) E = some (((List.range L.length).filter fun i => nz k (L.getD i [])).map fun i => .int (i : Nat), E) :=
  sComp_filter (k := fun i => nz k (L.getD i [])) (fun i hi => by
    have hi := List.mem_range.mp hi
    obtain ⟨a, b, c, d⟩ := hE i
    have e : L.getD i [] = L[i] := by rw [List.getD_eq_getElem?_getD, List.getElem?_eq_getElem hi]; rfl
    refine ⟨E.set 8 (.vl (.int i)), E.set 8 (.vl (.int i)), rfl, ?_, fun _ => ⟨_, ev_var c, d⟩, fun _ => d⟩
    rw [e]
    exact bv_val (ev_bin (ev_bin (ev_ixO a (ev_var c) a (atL_nat (rsD_at (List.getElem?_eq_getElem hi)))) (ev_var b) (ix_row (by rw [hl _ (List.getElem_mem hi)]; exact hk))) ev_c (ne_zero _)))
end
end My

set_option Elab.async false
set_option linter.all false
set_option maxRecDepth 100000
set_option maxHeartbeats 4000000
namespace My
open PySem PySem.Spec L2 Dn Pl
section
variable {q : Nat} [s : Six q]
theorem erase_map {α β : Type} {f : α → β} : ∀ (l : List α) (i : Nat), (l.map f).eraseIdx i = (l.eraseIdx i).map f
  | [], _ => rfl
  | _ :: _, 0 => rfl
  | _ :: l, i + 1 => by
    simp only [List.map_cons, List.eraseIdx_cons_succ]
    rw [erase_map l i]
end
end My

set_option Elab.async false
set_option linter.all false
set_option maxRecDepth 100000
set_option maxHeartbeats 4000000
/-! span, is_row, on data. -/
namespace My
open PySem PySem.Spec L2 Dn Pl
theorem ev_isi {E E1 : Sto} {a : Se} {k : D → Option Bool} {d : D} {b : Bool} (h : a E = .ok d E1) (h2 : k d = some b) : sIsi k a E = .ok (D.bl b) E1 := by
  unfold sIsi
  rw [h]
  show (match k d with | some b => Out.ok (D.bl b) E1 | none => .bad) = _
  rw [h2]
theorem ev_andT {E E1 E2 : Sto} {a b : Se} {d : D} (h : a E = .ok (.bl true) E1) (h2 : b E1 = .ok d E2) : sAnd a b E = .ok d E2 := by
  unfold sAnd
  rw [h]
  exact h2
theorem ev_andF {E E1 : Sto} {a b : Se} (h : a E = .ok (.bl false) E1) : sAnd a b E = .ok (.bl false) E1 := by
  unfold sAnd
  rw [h]
  rfl
theorem bls_map_bl {α : Type} {f : α → Bool} : ∀ l : List α, bls (l.map fun x => D.bl (f x)) = some (l.map f)
  | [] => rfl
  | x :: l => by
    simp only [List.map_cons, bls, bls_map_bl l]
    rfl
theorem eq_int {x y : Int} : oEq (.int x) (.int y) = some (.bl (decide (x = y))) := by
  simp [oEq, dEq, oEqS]
section
variable {q : Nat} [s : Six q]
/-- is_row of a row -/
theorem f_row {v : List (El q)} (n : Nat) (hl : v.length ≤ 1000) : F_is_row.app [fD q, rD v, .int n] = .ok (.fz (.bl (decide (v.length = n)))) := by
  have hlen : oLen [rD v] = some (.int (v.length : Nat)) := by show some (D.int ((v.map eD).length : Nat)) = _; rw [List.length_map]
  have hk : isiK "tuple" (rD v) = some true := by kernel_rfl
  by_cases e : v.length = n
  · have e2 : ((v.length : Nat) : Int) = (n : Nat) := by omega
    have c : sComp (gN 3) bYes (sMeth [(0, F_Field_is_number)] (sVar 0) (sCons (sVar 3) sNil)) [3] (v.map eD) [.vl (fD q), .vl (rD v), .vl (.int n), .un] = some (v.map fun _ => D.bl true, [.vl (fD q), .vl (rD v), .vl (.int n), .un]) :=
      sComp_map (fun x _ => ⟨[.vl (fD q), .vl (rD v), .vl (.int n), .vl (eD x)], _, _, rfl, rfl, ev_meth (ev_var rfl) rfl (ev_cons (ev_var rfl) ev_nil) (f_num x), rfl⟩)
    have ha : oAll [.lst (v.map fun _ => D.bl true)] = some (.bl true) := by
      show (bls (v.map fun _ => D.bl true)).map _ = _
      rw [bls_map_bl (f := fun _ => true)]
      simp
    rw [decide_eq_true e]
    exact app_ret (n := 4) (E := [.vl (fD q), .vl (rD v), .vl (.int n), .un]) rfl (es_ret (ev_andT (ev_isi (ev_var rfl) hk) (ev_andT (ev_bin (ev_call (ev_cons (ev_var rfl) ev_nil) hlen) (ev_var rfl) (by rw [eq_int, decide_eq_true e2])) (ev_call (ev_cons (ev_ls (ev_lc (E1 := [.vl (fD q), .vl (rD v), .vl (.int n), .un]) (ev_iseq (ev_var rfl) rfl) c (by rw [List.length_map]; omega))) ev_nil) ha))))
  · have e2 : ¬ ((v.length : Nat) : Int) = (n : Nat) := by omega
    rw [decide_eq_false e]
    exact app_ret (n := 4) (E := [.vl (fD q), .vl (rD v), .vl (.int n), .un]) rfl (es_ret (ev_andT (ev_isi (ev_var rfl) hk) (ev_andF (ev_bin (ev_call (ev_cons (ev_var rfl) ev_nil) hlen) (ev_var rfl) (by rw [eq_int, decide_eq_false e2])))))
end
end My

set_option Elab.async false
set_option linter.all false
set_option maxRecDepth 100000
set_option maxHeartbeats 4000000
/-! == of rows and tables, on data. -/
namespace My
open PySem PySem.Spec L2 Dn Pl
section
variable {q : Nat}
def pR (v : List (El q)) : PyData := .tuple (v.map fun x => .int (x.v : Nat))
def pT (t : List (List (El q))) : PyData := .tuple (t.map pR)
theorem pyL_row : ∀ v : List (El q), pyL (v.map eD) = some (v.map fun x => PyData.int (x.v : Nat))
  | [] => rfl
  | x :: v => by
    simp only [List.map_cons, pyL, py, pyL_row v]
theorem py_row (v : List (El q)) : py (rD v) = some (pR v) := by
  simp only [rD, py, pyL_row v]
  rfl
theorem pyL_tab : ∀ t : List (List (El q)), pyL (rsD t) = some (t.map pR)
  | [] => rfl
  | v :: t => by
    have ih := pyL_tab t
    unfold rsD at ih ⊢
    simp only [List.map_cons, pyL, py_row v, ih]
theorem py_tab (t : List (List (El q))) : py (.tup (rsD t)) = some (pT t) := by
  simp only [py, pyL_tab t]
  rfl
theorem lay_row : ∀ v : List (El q), PyData.canLayAll0 (v.map fun x => PyData.int (x.v : Nat)) = true ∧ PyData.depthAll (v.map fun x => PyData.int (x.v : Nat)) = 0
  | [] => ⟨rfl, rfl⟩
  | x :: v => by
    obtain ⟨h1, h2⟩ := lay_row v
    simp only [List.map_cons, PyData.canLayAll0, PyData.canLay0, h1, PyData.depthAll, PyData.depth, h2]
    exact ⟨rfl, rfl⟩
theorem lay_tab : ∀ t : List (List (El q)), PyData.canLayAll0 (t.map pR) = true ∧ PyData.depthAll (t.map pR) ≤ 1
  | [] => ⟨rfl, Nat.zero_le _⟩
  | v :: t => by
    obtain ⟨h1, h2⟩ := lay_tab t
    obtain ⟨h3, h4⟩ := lay_row v
    simp only [List.map_cons, PyData.canLayAll0, pR, PyData.canLay0, h3, h1, PyData.depthAll, PyData.depth, h4, Bool.and_self, true_and]
    exact Nat.max_le.mpr ⟨Nat.le_refl _, h2⟩
theorem sh_row (v : List (El q)) : SeqAt.shaped (pR v) = true := by
  obtain ⟨h3, h4⟩ := lay_row v
  unfold SeqAt.shaped pR
  simp only [PyData.canLay0, h3, PyData.depth, h4, Bool.true_and]
  decide
theorem sh_tab (t : List (List (El q))) : SeqAt.shaped (pT t) = true := by
  obtain ⟨h3, h4⟩ := lay_tab t
  unfold SeqAt.shaped pT
  simp only [PyData.canLay0, h3, PyData.depth, Bool.true_and]
  exact decide_eq_true (show PyData.depthAll (t.map pR) + 1 ≤ 64 by omega)
theorem eqv_row : ∀ v w : List (El q), PyData.eqvAll (v.map fun x => PyData.int (x.v : Nat)) (w.map fun x => PyData.int (x.v : Nat)) = decide (v = w)
  | [], [] => rfl
  | [], _ :: _ => rfl
  | _ :: _, [] => rfl
  | x :: v, y :: w => by
    simp only [List.map_cons, PyData.eqvAll, PyData.eqv, eqv_row v w, List.cons.injEq]
    by_cases e : x = y
    · simp [e]
    · have : ¬ (x.v : Int) = (y.v : Int) := fun h => e (El.ext (by omega))
      simp [e, this]
theorem eqv_tab : ∀ a b : List (List (El q)), PyData.eqvAll (a.map pR) (b.map pR) = decide (a = b)
  | [], [] => rfl
  | [], _ :: _ => rfl
  | _ :: _, [] => rfl
  | v :: a, w :: b => by
    simp only [List.map_cons, PyData.eqvAll, pR, PyData.eqv, eqv_row, eqv_tab a b, List.cons.injEq, Bool.decide_and]
theorem dEq_row (v w : List (El q)) : dEq (rD v) (rD w) = some (decide (v = w)) := by
  unfold dEq
  rw [show oEqS (rD v) (rD w) = none from rfl]
  simp only [Option.none_or, oEqD, py_row, sh_row, and_self, if_true]
  unfold pR
  simp only [PyData.eqv, eqv_row]
theorem dEq_tab (a b : List (List (El q))) : dEq (.tup (rsD a)) (.tup (rsD b)) = some (decide (a = b)) := by
  unfold dEq
  rw [show oEqS (.tup (rsD a)) (.tup (rsD b)) = none from rfl]
  simp only [Option.none_or, oEqD, py_tab, sh_tab, and_self, if_true]
  unfold pT
  simp only [PyData.eqv, eqv_tab]
end
section
variable {q : Nat} [s : Six q]
end
end My

set_option Elab.async false
set_option linter.all false
set_option maxRecDepth 100000
set_option maxHeartbeats 4000000
/-! The law's look at a reduced table, on data. -/
namespace My
open PySem PySem.Spec L2 Dn Pl
theorem ev_sl {E E1 E2 E3 : Sto} {a : Se} {lo hi : Sto → Out (Option Int)} {d z : D} {l u : Option Int} (h : a E = .ok d E1) (h2 : lo E1 = .ok l E2) (h3 : hi E2 = .ok u E3) (h4 : slD d l u = some z) : sSl a lo hi E = .ok z E3 := by
  unfold sSl
  rw [h]
  show (lo E1).bind _ = _
  rw [h2]
  show (hi E2).bind _ = _
  rw [h3]
  show Out.opt (slD d l u) E3 = _
  rw [h4]
  rfl
theorem ev_oSome {E E1 : Sto} {a : Se} {i : Int} (h : a E = .ok (.int i) E1) : oSome a E = .ok (some i) E1 := by
  unfold oSome
  rw [h]
  rfl
theorem le_bl {x y : Int} : oLe (.int x) (.int y) = some (.bl (decide (x ≤ y))) := rfl
theorem ne_int {x y : Int} : oNe (.int x) (.int y) = some (.bl (!decide (x = y))) := by
  simp [oNe, dEq, oEqS]
section
variable {q : Nat} [s : Six q]
theorem cut_row {v : List (El q)} {k : Nat} (h : k ≤ v.length) : slD (rD v) none (some (k : Int)) = some (rD (v.take k)) := by
  show some (D.tup (Dn.cutD (v.map eD) none (some (k : Int)))) = _
  unfold Dn.cutD
  rw [HT.sIx_none, HT.sIx_nat, List.length_map, Nat.min_eq_left h, List.drop_zero, Nat.sub_zero, ← List.map_take]
theorem ints_row : ∀ l : List (El q), intsOf (l.map eD) = some (l.map fun x => (x.v : Int))
  | [] => rfl
  | x :: l => by simp only [List.map_cons, intsOf, ints_row l]; rfl
theorem any_ints (v : List (El q)) : ((v.map fun x => (x.v : Int)).any fun i => decide (i ≠ 0)) = v.any fun x => decide (x ≠ 0) := by
  rw [List.any_map]
  congr 1
  funext x
  have : ((x.v : Int) = 0) ↔ x = 0 := ⟨fun h => El.ext (show x.v = 0 by omega), fun h => by rw [h]; rfl⟩
  by_cases e : x = 0
  · rw [decide_eq_false (fun h => h e)]
    exact decide_eq_false fun h => h (this.mpr e)
  · rw [decide_eq_true e]
    exact decide_eq_true fun h => e (this.mp h)
/-- any of a row -/
theorem any_row (v : List (El q)) : oAnyA [rD v] = some (.bl (v.any fun x => decide (x ≠ 0))) := by
  unfold oAnyA
  rw [show oAny [rD v] = none from rfl, Option.none_or]
  have e : oAnyT [rD v] = some (.bl (v.any fun x => decide (x ≠ 0))) := by
    show (intsOf (v.map eD)).map _ = _
    rw [ints_row, Option.map_some, any_ints]
  rw [e, Option.some_or]
/-- any of a list of numbers -/
theorem any_lst (v : List (El q)) : oAnyA [.lst (v.map eD)] = some (.bl (v.any fun x => decide (x ≠ 0))) := by
  unfold oAnyA
  cases v with
  | nil => rfl
  | cons x v =>
    rw [show oAny [.lst ((x :: v).map eD)] = none from rfl, Option.none_or, show oAnyT [.lst ((x :: v).map eD)] = none from rfl, Option.none_or]
    show (intsOf ((x :: v).map eD)).map _ = _
    rw [ints_row, Option.map_some, any_ints]
theorem any_zero {v : List (El q)} (h : ∀ x ∈ v, x = 0) : oAnyA [rD v] = some (.bl false) := by
  rw [any_row, show (v.any fun x => decide (x ≠ 0)) = false by
    simp only [List.any_eq_false, decide_eq_true_eq]
    intro x hx hn
    exact hn (h x hx)]
theorem any_zeroL {v : List (El q)} (h : ∀ x ∈ v, x = 0) : oAnyA [.lst (v.map eD)] = some (.bl false) := by
  rw [any_lst, show (v.any fun x => decide (x ≠ 0)) = false by
    simp only [List.any_eq_false, decide_eq_true_eq]
    intro x hx hn
    exact hn (h x hx)]
end
end My

set_option Elab.async false
set_option linter.all false
set_option maxRecDepth 100000
set_option maxHeartbeats 4000000
namespace My
open PySem PySem.Spec L2 Dn Pl
local macro_rules | `(tactic| exists $es,*) => `(tactic| simp -implicitDefEqProofs (disch := first | assumption | omega | (simp only [List.length_map, List.length_range, List.length_cons, List.length_nil, List.length_append, rsD_len, zeroR_len, List.length_zip, List.length_set, Nat.reduceAdd, Nat.zero_add]; done) | (simp only [List.length_map, List.length_range, List.length_cons, List.length_nil, List.length_append, rsD_len, zeroR_len, List.length_zip, List.length_replicate, List.length_set]; omega)) only [cnd_t, cnd_f, x_opt, x_c, x_var, x_varV, x_varO, x_bin2O, x_bin2X, x_bin, x_binO, x_binX, x_un, x_unO, x_unX, x_nil, x_cons2O, x_cons2X, x_cons, x_consO, x_consX, x_call, x_callO, x_callX, x_callF, x_callFO, x_callFX, x_tup, x_lst, x_selEt, x_selEf, x_selBt, x_selBf, x_selSt, x_selSf, x_kB, x_if, x_ifO, x_ifX, x_kE, x_and, x_andO, x_andX, x_or, x_orO, x_orX, x_andV, x_orV, x_bval, x_bvalO, x_bvalX, x_valV, x_band, x_bandO, x_bandX, x_bor, x_borO, x_borX, x_bnot, x_bnotO, x_bnotX, x_bYes, x_fld, x_fldO, x_fldX, x_fldV, x_fldN, x_ls, x_lsO, x_fn, x_fnO, x_fnX, x_fnF, x_fnFO, x_fnFX, x_rsZ, x_rsR, x_rsX, x_rsF, x_rsFX, x_meth2O, x_meth2X, x_meth, x_methO, x_methX, x_methV, x_methN, x_icall, x_icallO, x_icallX, x_iseq, x_iseqO, x_iseqX, x_lc, x_lcO, x_lcX, x_lcV, x_wipe0, x_wipe1, x_gN, x_gTup, x_gNil, x_gCons, x_gM, x_sl3O, x_sl3X, x_sl2O, x_sl2X, x_sl, x_slO, x_slX, x_oNo, x_oSome, x_osO, x_osX, x_oSomeV, x_isi, x_isiO, x_isiX, x_isiW, x_ch3O, x_ch3X, x_chVt, x_chVf, x_ch2O, x_ch2X, x_chain, x_chO, x_chX, x_cellAt, x_celO, x_celS, x_putO, x_putS, x_lenO, x_lenV, x_ix3O, x_ix3X, x_ixO, x_ixV, x_ixV2, x_inV2, x_inV, x_inO, x_inOO, x_inOX, x_tupO, x_tupV, x_ap3O, x_ap3X, x_append, x_apV, x_apV2, x_si3O, x_si3X, x_ixSet, x_siO, x_siX, x_siV, x_siV2, x_siK, x_siR, x_pa3O, x_pa3X, x_popAt, x_paV, x_paV2, x_paK, x_paN, x_paR, x_f23O, x_f23X, x_fn2, x_f2V, x_f2V2, x_f2RZ, x_f2RR, x_binF2O, x_binF2X, x_binF, x_binFO, x_binFX, x_ixl2O, x_ixl2X, x_index, x_ixlO, x_ixlX, x_ixlV, x_ixt2O, x_ixt2X, x_indexA, x_ixaO, x_ixaX, x_ixaL, x_ixaT, x_tr1V, x_tr1, x_tr1O, x_tr1X, x_f24O, x_f24X, x_fn2F, x_f2W, x_f2W2, x_f2RFR, x_wh1t, x_wh1f, x_wh2n, x_wh2r, x_wh2x, x_seq, x_seqN, x_seqR, x_seqX, x_set, x_setO, x_setX, x_own, x_ownO, x_ownX, x_next, x_drop, x_dropO, x_dropX, x_ret, x_retO, x_retX, x_retF, x_retFO, x_retFX, x_retN, x_cond, x_condO, x_condX, x_par2O, x_par2X, x_par, x_parO, x_parX, x_parCO, x_parCX, x_parBO, x_parBX, x_parA, x_parAO, x_parAX, x_asg, x_asgO, x_asgX, x_asgV, x_for, x_forO, x_forX, x_ckV, x_chkLen, x_chkLenO, x_chkLenX, x_rowO, x_roV, x_raise, x_make, x_makeO, x_makeX, x_riO, x_riX, x_app, x_appR, x_appN, x_appX, x_app2, x_app2R, x_app2N, x_ap2S, x_sto, x_sto2, o_add, o_addL, o_addT, o_sub, o_mod, o_neg, o_not, o_lt, o_le, o_gt, o_ge, o_eq, o_ne, o_eqB, o_neB, o_eqN, o_isB, o_isNotB, o_lenL, o_lenT, o_int, o_intB, o_tupL, o_tupT, o_listL, o_listT, o_seqL, o_seqT, o_tup, o_lst, o_zipL, o_zipT, x_loopC, x_lp0, x_lpKn, x_lpKc, x_lpKb, x_lpKr, x_lpKx, x_st1, x_st2, x_st3, x_selOt, x_selOf, x_lp1, x_lpN, x_lpC, x_lpR, x_lpX, x_loop0, o_fdiv, o_mulL, o_mulR, ix_0, ix_1, ix_2, ix_0T, ix_1T, ix_2T, x_ixNn, x_ixN0, x_ixN1, x_ixN2, List.getElem?_cons_succ, List.getElem?_cons_zero, List.set_cons_succ, List.set_cons_zero, List.map_cons, List.map_nil, List.length_cons, List.length_nil, List.cons_append, List.nil_append, Nat.reduceAdd, Nat.reduceSub, List.replicate_succ, List.replicate_zero, Nat.zero_add, Int.reduceAdd, Int.reduceNeg, Int.reduceSub, Int.toNat_natCast, Int.reduceToNat, List.length_range, List.length_map, Int.cast_ofNat_Int, eq_self, Int.reduceEq, Int.reduceLT, Int.reduceLE, Int.reduceMul, reduceCtorEq, Bool.or_self, Bool.false_eq_true, Bool.true_eq_false, ite_true, ite_false, decide_true, decide_false, Bool.not_true, Bool.not_false, List.eraseIdx_cons_zero, List.eraseIdx_cons_succ, rsD_len, zeroR_len, $[$es:term],*])

/-! the script's numbers; drawing -/
theorem o_abs {a : Int} : oAbs [.int a] = some (.int (if a < 0 then -a else a)) := by simp [oAbs]
theorem cut_ints (ns : List Int) (lo hi : Option Int) : Dn.cutD (ns.map D.int) lo hi = (Dn.cutD ns lo hi).map D.int := by
  simp only [Dn.cutD, List.map_take, List.map_drop, List.length_map]
theorem sl_scr (ns : List Int) (lo hi : Option Int) : slD (.scr ns) lo hi = some (.lst ((Dn.cutD ns lo hi).map D.int)) := by
  show some (D.lst (Dn.cutD (ns.map D.int) lo hi)) = _
  rw [cut_ints]
theorem l_state (ns : List Int) : ∃ p : Rng, F__law_state.app [.scr ns] = .ok (.fr (rgD p)) := by
  unfold F__law_state S__law_state
  suffices H : ∃ p : Rng, (mkFn 4 1 S__law_state).app [.scr ns] = .ok (.fr (rgD p)) from H
  simp only [S__law_state]
  obtain ⟨E, e, a, b, x, rfl⟩ := loop_same (t := gN 3) (b := (sSeq (sSet 1 (sBin oAdd (sBin oMul (sVar 1) (sC (.int 1000003))) (sCall oAbs (sCons (sVar 3) sNil)))) (sSet 2 (sBin oMod (sCall oInt (sCons (sBin oAdd (sBin oMul (sVar 2) (sC (.int 48271))) (sVar 3)) sNil)) (sC (.int 2147483647)))))) (g := D.int) (xs := Dn.cutD ns none (some 63)) (E := [.vl (.scr ns), .vl (.int 0), .vl (.int 1), .un]) (fun E => ∃ (a b : Int) (x : Sl), E = [.vl (.scr ns), .vl (.int a), .vl (.int b), x]) (fun n _ E ⟨a, b, x, e⟩ => by
    subst e
    exists o_abs
    exact ⟨_, rfl, _, _, _, rfl⟩) ⟨_, _, _, rfl⟩
  refine ⟨(a, b), ?_⟩
  exists rgD, sl_scr, e
theorem l_take (p : Rng) {m : Int} (h : 0 < m ∧ m < 1000000) : F__law_take.app (rgD p) [.int m] = .ok (.fz (.int ((tk p m.toNat).1 : Nat))) (rgD (tk p m.toNat).2) := by
  have e : (m.toNat : Int) = m := by omega
  unfold F__law_take S__law_take rgD tk
  by_cases hp : 0 < p.1
  · have h1 : ((p.1 % m).toNat : Int) = p.1 % m := Int.toNat_of_nonneg (Int.emod_nonneg _ (by omega))
    exists hp, e, h1, if_true
  · have h1 : (((p.2 * 48271 + 11) % 2147483647 / 7 % m).toNat : Int) = (p.2 * 48271 + 11) % 2147483647 / 7 % m := Int.toNat_of_nonneg (Int.emod_nonneg _ (by omega))
    exists hp, e, h1, if_false

end My

set_option Elab.async false
set_option linter.all false
set_option maxRecDepth 100000
set_option maxHeartbeats 4000000
namespace My
open PySem PySem.Spec L2 Dn Pl
local macro_rules | `(tactic| exists $es,*) => `(tactic| simp -implicitDefEqProofs (disch := first | assumption | omega | (simp only [List.length_map, List.length_range, List.length_cons, List.length_nil, List.length_append, rsD_len, zeroR_len, List.length_zip, List.length_set, Nat.reduceAdd, Nat.zero_add]; done) | (simp only [List.length_map, List.length_range, List.length_cons, List.length_nil, List.length_append, rsD_len, zeroR_len, List.length_zip, List.length_replicate, List.length_set]; omega)) only [cnd_t, cnd_f, x_opt, x_c, x_var, x_varV, x_varO, x_bin2O, x_bin2X, x_bin, x_binO, x_binX, x_un, x_unO, x_unX, x_nil, x_cons2O, x_cons2X, x_cons, x_consO, x_consX, x_call, x_callO, x_callX, x_callF, x_callFO, x_callFX, x_tup, x_lst, x_selEt, x_selEf, x_selBt, x_selBf, x_selSt, x_selSf, x_kB, x_if, x_ifO, x_ifX, x_kE, x_and, x_andO, x_andX, x_or, x_orO, x_orX, x_andV, x_orV, x_bval, x_bvalO, x_bvalX, x_valV, x_band, x_bandO, x_bandX, x_bor, x_borO, x_borX, x_bnot, x_bnotO, x_bnotX, x_bYes, x_fld, x_fldO, x_fldX, x_fldV, x_fldN, x_ls, x_lsO, x_fn, x_fnO, x_fnX, x_fnF, x_fnFO, x_fnFX, x_rsZ, x_rsR, x_rsX, x_rsF, x_rsFX, x_meth2O, x_meth2X, x_meth, x_methO, x_methX, x_methV, x_methN, x_icall, x_icallO, x_icallX, x_iseq, x_iseqO, x_iseqX, x_lc, x_lcO, x_lcX, x_lcV, x_wipe0, x_wipe1, x_gN, x_gTup, x_gNil, x_gCons, x_gM, x_sl3O, x_sl3X, x_sl2O, x_sl2X, x_sl, x_slO, x_slX, x_oNo, x_oSome, x_osO, x_osX, x_oSomeV, x_isi, x_isiO, x_isiX, x_isiW, x_ch3O, x_ch3X, x_chVt, x_chVf, x_ch2O, x_ch2X, x_chain, x_chO, x_chX, x_cellAt, x_celO, x_celS, x_putO, x_putS, x_lenO, x_lenV, x_ix3O, x_ix3X, x_ixO, x_ixV, x_ixV2, x_inV2, x_inV, x_inO, x_inOO, x_inOX, x_tupO, x_tupV, x_ap3O, x_ap3X, x_append, x_apV, x_apV2, x_si3O, x_si3X, x_ixSet, x_siO, x_siX, x_siV, x_siV2, x_siK, x_siR, x_pa3O, x_pa3X, x_popAt, x_paV, x_paV2, x_paK, x_paN, x_paR, x_f23O, x_f23X, x_fn2, x_f2V, x_f2V2, x_f2RZ, x_f2RR, x_binF2O, x_binF2X, x_binF, x_binFO, x_binFX, x_ixl2O, x_ixl2X, x_index, x_ixlO, x_ixlX, x_ixlV, x_ixt2O, x_ixt2X, x_indexA, x_ixaO, x_ixaX, x_ixaL, x_ixaT, x_tr1V, x_tr1, x_tr1O, x_tr1X, x_f24O, x_f24X, x_fn2F, x_f2W, x_f2W2, x_f2RFR, x_wh1t, x_wh1f, x_wh2n, x_wh2r, x_wh2x, x_seq, x_seqN, x_seqR, x_seqX, x_set, x_setO, x_setX, x_own, x_ownO, x_ownX, x_next, x_drop, x_dropO, x_dropX, x_ret, x_retO, x_retX, x_retF, x_retFO, x_retFX, x_retN, x_cond, x_condO, x_condX, x_par2O, x_par2X, x_par, x_parO, x_parX, x_parCO, x_parCX, x_parBO, x_parBX, x_parA, x_parAO, x_parAX, x_asg, x_asgO, x_asgX, x_asgV, x_for, x_forO, x_forX, x_ckV, x_chkLen, x_chkLenO, x_chkLenX, x_rowO, x_roV, x_raise, x_make, x_makeO, x_makeX, x_riO, x_riX, x_app, x_appR, x_appN, x_appX, x_app2, x_app2R, x_app2N, x_ap2S, x_sto, x_sto2, o_add, o_addL, o_addT, o_sub, o_mod, o_neg, o_not, o_lt, o_le, o_gt, o_ge, o_eq, o_ne, o_eqB, o_neB, o_eqN, o_isB, o_isNotB, o_lenL, o_lenT, o_int, o_intB, o_tupL, o_tupT, o_listL, o_listT, o_seqL, o_seqT, o_tup, o_lst, o_zipL, o_zipT, x_loopC, x_lp0, x_lpKn, x_lpKc, x_lpKb, x_lpKr, x_lpKx, x_st1, x_st2, x_st3, x_selOt, x_selOf, x_lp1, x_lpN, x_lpC, x_lpR, x_lpX, x_loop0, o_fdiv, o_mulL, o_mulR, ix_0, ix_1, ix_2, ix_0T, ix_1T, ix_2T, x_ixNn, x_ixN0, x_ixN1, x_ixN2, List.getElem?_cons_succ, List.getElem?_cons_zero, List.set_cons_succ, List.set_cons_zero, List.map_cons, List.map_nil, List.length_cons, List.length_nil, List.cons_append, List.nil_append, Nat.reduceAdd, Nat.reduceSub, List.replicate_succ, List.replicate_zero, Nat.zero_add, Int.reduceAdd, Int.reduceNeg, Int.reduceSub, Int.toNat_natCast, Int.reduceToNat, List.length_range, List.length_map, Int.cast_ofNat_Int, eq_self, Int.reduceEq, Int.reduceLT, Int.reduceLE, Int.reduceMul, reduceCtorEq, Bool.or_self, Bool.false_eq_true, Bool.true_eq_false, ite_true, ite_false, decide_true, decide_false, Bool.not_true, Bool.not_false, List.eraseIdx_cons_zero, List.eraseIdx_cons_succ, rsD_len, zeroR_len, $[$es:term],*])

def rtT : So → Bool
  | .rt (.fz (.bl true)) _ => true
  | _ => false
def RST : Ss := (sSeq (sFor (iSeq (sLst (sCons (sTup (sCons (sC (.str "space")) (sCons (sLst sNil) sNil))) (sCons (sTup (sCons (sC (.str "planes")) (sCons (sC (.int 1)) sNil))) (sCons (sTup (sCons (sC (.str "zero")) (sCons (sC (.int 1)) sNil))) sNil))))) (gTup' (gCons' (gN 4) (gCons' (gN 5) gNil'))) (sSeq (sFor (iSeq (sLst (sCons (sC .non) (sCons (sC (.str "Alternating")) (sCons (sC (.str "symmetric")) (sCons (sC (.int 3)) (sCons (sLst (sCons (sC (.str "quadratic")) sNil)) (sCons (sC (.str "")) (sCons (sC (.str "quadratic ")) sNil))))))))) (gN 6) (sCond (bVal (sBin oNe (sFn F__law_reason (sCons (sVar 4) (sCons (sVar 6) (sCons (sVar 3) (sCons (sVar 5) sNil))))) (sC (.str "malformed")))) (sRet (sC (.bl false))) sNext)) (sSeq (sFor (iSeq (sLst (sCons (sC (.int 0)) (sCons (sC (.int 1)) (sCons (sC (.int 6)) (sCons (sC (.int 8)) (sCons (sC (.int 11)) (sCons (sC (.bl true)) (sCons (sC .non) (sCons (sCall oStrI (sCons (sVar 3) sNil)) (sCons (sUn oNeg (sVar 3)) (sCons (sBin oPow (sC (.int 10)) (sC (.int 30))) (sCons (sLst (sCons (sVar 3) sNil)) sNil))))))))))))) (gN 6) (sCond (bVal (sBin oNe (sFn F__law_reason (sCons (sVar 4) (sCons (sVar 2) (sCons (sVar 6) (sCons (sVar 5) sNil))))) (sC (.str "malformed")))) (sRet (sC (.bl false))) sNext)) (sCond (bOr (bVal (sBin oNe (sFn F__law_reason (sCons (sVar 4) (sCons (sC (.str "hermitian")) (sCons (sC (.int 5)) (sCons (sVar 5) sNil))))) (sC (.str "malformed")))) (bVal (sBin oNe (sFn F__law_reason (sCons (sVar 4) (sCons (sVar 2) (sCons (sVar 3) (sCons (sVar 5) sNil))))) (sC (.str "none"))))) (sRet (sC (.bl false))) sNext)))) (sSeq (sFor (iSeq (sFn F__law_bad_matrices (sCons (sVar 2) (sCons (sVar 3) sNil)))) (gN 7) (sCond (bVal (sBin oNe (sFn F__law_reason (sCons (sC (.str "space")) (sCons (sVar 2) (sCons (sVar 3) (sCons (sVar 7) sNil))))) (sC (.str "malformed")))) (sRet (sC (.bl false))) sNext)) (sSeq (sCond (bOr (bVal (sBin oNe (sFn F__law_reason (sCons (sC (.str "space")) (sCons (sVar 2) (sCons (sVar 3) (sCons (sFn F__law_zeros (sCons (sC (.int 7)) sNil)) sNil))))) (sC (.str "large")))) (bVal (sBin oNe (sFn F__law_reason (sCons (sC (.str "matrix")) (sCons (sVar 3) (sCons (sFn F__law_zeros (sCons (sC (.int 7)) sNil)) (sCons (sC (.int 0)) sNil))))) (sC (.str "large"))))) (sRet (sC (.bl false))) sNext) (sSeq (sFor (iSeq (sLst (sCons (sUn oNeg (sC (.int 1))) (sCons (sC (.bl true)) (sCons (sC .non) (sCons (sC (.str "1")) (sCons (sLst (sCons (sC (.int 1)) sNil)) sNil))))))) (gN 8) (sCond (bOr (bVal (sBin oNe (sFn F__law_reason (sCons (sC (.str "planes")) (sCons (sVar 2) (sCons (sVar 3) (sCons (sVar 8) sNil))))) (sC (.str "malformed")))) (bVal (sBin oNe (sFn F__law_reason (sCons (sC (.str "zero")) (sCons (sVar 2) (sCons (sVar 3) (sCons (sVar 8) sNil))))) (sC (.str "malformed"))))) (sRet (sC (.bl false))) sNext)) (sSeq (sFor (iSeq (sLst (sCons (sC (.int 7)) (sCons (sBin oPow (sC (.int 10)) (sC (.int 40))) sNil)))) (gN 8) (sCond (bOr (bVal (sBin oNe (sFn F__law_reason (sCons (sC (.str "planes")) (sCons (sVar 2) (sCons (sVar 3) (sCons (sVar 8) sNil))))) (sC (.str "large")))) (bVal (sBin oNe (sFn F__law_reason (sCons (sC (.str "zero")) (sCons (sVar 2) (sCons (sVar 3) (sCons (sVar 8) sNil))))) (sC (.str "large"))))) (sRet (sC (.bl false))) sNext)) (sSeq (sCond (bOr (bVal (sBin oNe (sFn F__law_reason (sCons (sC (.str "planes")) (sCons (sVar 2) (sCons (sVar 3) (sCons (sC (.int 4)) sNil))))) (sC (.str "large")))) (bVal (sBin oNe (sFn F__law_reason (sCons (sC (.str "planes")) (sCons (sVar 2) (sCons (sVar 3) (sCons (sC (.int 3)) sNil))))) (sC (.str "none"))))) (sRet (sC (.bl false))) sNext) (sSeq (sFor (iSeq (sLst (sCons (sC .non) (sCons (sLst (sCons (sLst (sCons (sC (.int 0)) (sCons (sC (.int 0)) sNil))) sNil)) (sCons (sLst (sCons (sLst (sCons (sVar 3) sNil)) sNil)) (sCons (sLst (sCons (sLst (sCons (sC (.bl true)) sNil)) sNil)) (sCons (sC (.str "0")) (sCons (sLst (sCons (sLst (sCons (sC (.int 0)) sNil)) (sCons (sLst (sCons (sC (.int 0)) (sCons (sC (.int 0)) sNil))) sNil))) sNil)))))))) (gN 7) (sCond (bOr (bVal (sBin oNe (sFn F__law_reason (sCons (sC (.str "matrix")) (sCons (sVar 3) (sCons (sVar 7) (sCons (sC (.int 0)) sNil))))) (sC (.str "malformed")))) (bVal (sBin oNe (sFn F__law_reason (sCons (sC (.str "matrix")) (sCons (sC (.int 6)) (sCons (sLst sNil) (sCons (sC (.int 0)) sNil))))) (sC (.str "malformed"))))) (sRet (sC (.bl false))) sNext)) (sSeq (sSet 9 (sMake 1 F_Space___init__ (sCons (sVar 2) (sCons (sVar 3) (sCons (sFn F__law_zeros (sCons (sC (.int 4)) sNil)) sNil))))) (sSeq (sSet 10 (sMake 1 F_Space___init__ (sCons (sIf (bVal (sBin oEq (sVar 2) (sC (.str "quadratic")))) (sC (.str "alternating")) (sC (.str "quadratic"))) (sCons (sVar 3) (sCons (sFn F__law_zeros (sCons (sC (.int 3)) sNil)) sNil))))) (sSeq (sSet 11 (sMake 1 F_Space___init__ (sCons (sC (.str "alternating")) (sCons (sBin oAdd (sC (.int 2)) (sCall oInt (sCons (sBin oEq (sVar 3) (sC (.int 2))) sNil))) (sCons (sFn F__law_zeros (sCons (sC (.int 3)) sNil)) sNil))))) (sSeq (sCond (bOr (bVal (sBin oNe (sFn F__law_reason (sCons (sC (.str "sum")) (sCons (sVar 9) (sCons (sVar 10) (sCons (sC (.int 0)) sNil))))) (sC (.str "malformed")))) (bVal (sBin oNe (sFn F__law_reason (sCons (sC (.str "sum")) (sCons (sVar 9) (sCons (sVar 11) (sCons (sC (.int 0)) sNil))))) (sC (.str "malformed"))))) (sRet (sC (.bl false))) sNext) (sSeq (sCond (bVal (sBin oNe (sFn F__law_reason (sCons (sC (.str "sum")) (sCons (sVar 9) (sCons (sMake 1 F_Space___init__ (sCons (sVar 2) (sCons (sVar 3) (sCons (sFn F__law_zeros (sCons (sC (.int 3)) sNil)) sNil)))) (sCons (sC (.int 0)) sNil))))) (sC (.str "large")))) (sRet (sC (.bl false))) sNext) (sSeq (sFor (iSeq (sLst (sCons (sVar 3) (sCons (sUn oNeg (sC (.int 1))) (sCons (sC (.bl true)) (sCons (sC .non) (sCons (sC (.str "1")) sNil))))))) (gN 12) (sCond (bVal (sBin oNe (sFn F__law_reason (sCons (sC (.str "scaled")) (sCons (sVar 9) (sCons (sVar 12) (sCons (sC (.int 0)) sNil))))) (sC (.str "malformed")))) (sRet (sC (.bl false))) sNext)) (sSeq (sCond (bAnd (bVal (sBin oEq (sVar 2) (sC (.str "hermitian")))) (bVal (sBin oNe (sFn F__law_reason (sCons (sC (.str "scaled")) (sCons (sVar 9) (sCons (sBin oAdd (sC (.int 2)) (sCall oInt (sCons (sBin oEq (sVar 3) (sC (.int 9))) sNil))) (sCons (sC (.int 0)) sNil))))) (sC (.str "malformed"))))) (sRet (sC (.bl false))) sNext) (sSeq (sSet 13 (sTup (sCons (sC (.int 0)) (sCons (sC (.int 0)) (sCons (sC (.int 0)) (sCons (sC (.int 0)) sNil)))))) (sSeq (sFor (iSeq (sLst (sCons (sC .non) (sCons (sC (.int 3)) (sCons (sC (.str "0")) (sCons (sVar 13) (sCons (sLst (sCons (sVar 13) (sCons (sC .non) sNil))) (sCons (sLst (sCons (sLs (sCallF oList (sCons (sVar 13) sNil))) sNil)) (sCons (sLst (sCons (sSl (sVar 13) (oSome (sC (.int 1))) oNo) sNil)) (sCons (sLst (sCons (sBin oAdd (sVar 13) (sTup (sCons (sC (.int 0)) sNil))) sNil)) (sCons (sLst (sCons (sTup (sCons (sC (.int 0)) (sCons (sC (.int 0)) (sCons (sC (.int 0)) (sCons (sVar 3) sNil))))) sNil)) (sCons (sBin oAdd (sLs (sLc (iCall rng1O (sCons (sC (.int 7)) sNil)) (gN 15) bYes (sVar 13) [15])) (sLst (sCons (sC .non) sNil))) sNil)))))))))))) (gN 14) (sCond (bVal (sBin oNe (sFn F__law_reason (sCons (sC (.str "rows")) (sCons (sVar 9) (sCons (sVar 14) (sCons (sC (.int 0)) sNil))))) (sC (.str "malformed")))) (sRet (sC (.bl false))) sNext)) (sRet (sBin oEq (sFn F__law_reason (sCons (sC (.str "rows")) (sCons (sVar 9) (sCons (sLs (sLc (iCall rng1O (sCons (sC (.int 7)) sNil)) (gN 15) bYes (sVar 13) [15])) (sCons (sC (.int 0)) sNil))))) (sC (.str "large"))))))))))))))))))))
theorem rtT_ok {r : So} (h : rtT r = true) : ∃ E, r = .rt (.fz (.bl true)) E := by
  unfold rtT at h
  split at h
  · exact ⟨_, rfl⟩
  · cases h
theorem rst_a_2 (a b : Sl) : rtT (RST [a, b, .vl (.str "alternating"), .vl (.int 2), .un, .un, .un, .un, .un, .un, .un, .un, .un, .un, .un, .un]) = true := by kernel_rfl
theorem rst_a_3 (a b : Sl) : rtT (RST [a, b, .vl (.str "alternating"), .vl (.int 3), .un, .un, .un, .un, .un, .un, .un, .un, .un, .un, .un, .un]) = true := by kernel_rfl
theorem rst_a_4 (a b : Sl) : rtT (RST [a, b, .vl (.str "alternating"), .vl (.int 4), .un, .un, .un, .un, .un, .un, .un, .un, .un, .un, .un, .un]) = true := by kernel_rfl
theorem rst_a_5 (a b : Sl) : rtT (RST [a, b, .vl (.str "alternating"), .vl (.int 5), .un, .un, .un, .un, .un, .un, .un, .un, .un, .un, .un, .un]) = true := by kernel_rfl
theorem rst_a_7 (a b : Sl) : rtT (RST [a, b, .vl (.str "alternating"), .vl (.int 7), .un, .un, .un, .un, .un, .un, .un, .un, .un, .un, .un, .un]) = true := by kernel_rfl
theorem rst_a_9 (a b : Sl) : rtT (RST [a, b, .vl (.str "alternating"), .vl (.int 9), .un, .un, .un, .un, .un, .un, .un, .un, .un, .un, .un, .un]) = true := by kernel_rfl
theorem rst_q_2 (a b : Sl) : rtT (RST [a, b, .vl (.str "quadratic"), .vl (.int 2), .un, .un, .un, .un, .un, .un, .un, .un, .un, .un, .un, .un]) = true := by kernel_rfl
theorem rst_q_3 (a b : Sl) : rtT (RST [a, b, .vl (.str "quadratic"), .vl (.int 3), .un, .un, .un, .un, .un, .un, .un, .un, .un, .un, .un, .un]) = true := by kernel_rfl
theorem rst_q_4 (a b : Sl) : rtT (RST [a, b, .vl (.str "quadratic"), .vl (.int 4), .un, .un, .un, .un, .un, .un, .un, .un, .un, .un, .un, .un]) = true := by kernel_rfl
theorem rst_q_5 (a b : Sl) : rtT (RST [a, b, .vl (.str "quadratic"), .vl (.int 5), .un, .un, .un, .un, .un, .un, .un, .un, .un, .un, .un, .un]) = true := by kernel_rfl
theorem rst_q_7 (a b : Sl) : rtT (RST [a, b, .vl (.str "quadratic"), .vl (.int 7), .un, .un, .un, .un, .un, .un, .un, .un, .un, .un, .un, .un]) = true := by kernel_rfl
theorem rst_q_9 (a b : Sl) : rtT (RST [a, b, .vl (.str "quadratic"), .vl (.int 9), .un, .un, .un, .un, .un, .un, .un, .un, .un, .un, .un, .un]) = true := by kernel_rfl
theorem rst_h_4 (a b : Sl) : rtT (RST [a, b, .vl (.str "hermitian"), .vl (.int 4), .un, .un, .un, .un, .un, .un, .un, .un, .un, .un, .un, .un]) = true := by kernel_rfl
theorem rst_h_9 (a b : Sl) : rtT (RST [a, b, .vl (.str "hermitian"), .vl (.int 9), .un, .un, .un, .un, .un, .un, .un, .un, .un, .un, .un, .un]) = true := by kernel_rfl

end My

set_option Elab.async false
set_option linter.all false
set_option maxRecDepth 100000
set_option maxHeartbeats 4000000
namespace My
open PySem PySem.Spec L2 Dn Pl
local macro_rules | `(tactic| exists $es,*) => `(tactic| simp -implicitDefEqProofs (disch := first | assumption | omega | (simp only [List.length_map, List.length_range, List.length_cons, List.length_nil, List.length_append, rsD_len, zeroR_len, List.length_zip, List.length_set, Nat.reduceAdd, Nat.zero_add]; done) | (simp only [List.length_map, List.length_range, List.length_cons, List.length_nil, List.length_append, rsD_len, zeroR_len, List.length_zip, List.length_replicate, List.length_set]; omega)) only [cnd_t, cnd_f, x_opt, x_c, x_var, x_varV, x_varO, x_bin2O, x_bin2X, x_bin, x_binO, x_binX, x_un, x_unO, x_unX, x_nil, x_cons2O, x_cons2X, x_cons, x_consO, x_consX, x_call, x_callO, x_callX, x_callF, x_callFO, x_callFX, x_tup, x_lst, x_selEt, x_selEf, x_selBt, x_selBf, x_selSt, x_selSf, x_kB, x_if, x_ifO, x_ifX, x_kE, x_and, x_andO, x_andX, x_or, x_orO, x_orX, x_andV, x_orV, x_bval, x_bvalO, x_bvalX, x_valV, x_band, x_bandO, x_bandX, x_bor, x_borO, x_borX, x_bnot, x_bnotO, x_bnotX, x_bYes, x_fld, x_fldO, x_fldX, x_fldV, x_fldN, x_ls, x_lsO, x_fn, x_fnO, x_fnX, x_fnF, x_fnFO, x_fnFX, x_rsZ, x_rsR, x_rsX, x_rsF, x_rsFX, x_meth2O, x_meth2X, x_meth, x_methO, x_methX, x_methV, x_methN, x_icall, x_icallO, x_icallX, x_iseq, x_iseqO, x_iseqX, x_lc, x_lcO, x_lcX, x_lcV, x_wipe0, x_wipe1, x_gN, x_gTup, x_gNil, x_gCons, x_gM, x_sl3O, x_sl3X, x_sl2O, x_sl2X, x_sl, x_slO, x_slX, x_oNo, x_oSome, x_osO, x_osX, x_oSomeV, x_isi, x_isiO, x_isiX, x_isiW, x_ch3O, x_ch3X, x_chVt, x_chVf, x_ch2O, x_ch2X, x_chain, x_chO, x_chX, x_cellAt, x_celO, x_celS, x_putO, x_putS, x_lenO, x_lenV, x_ix3O, x_ix3X, x_ixO, x_ixV, x_ixV2, x_inV2, x_inV, x_inO, x_inOO, x_inOX, x_tupO, x_tupV, x_ap3O, x_ap3X, x_append, x_apV, x_apV2, x_si3O, x_si3X, x_ixSet, x_siO, x_siX, x_siV, x_siV2, x_siK, x_siR, x_pa3O, x_pa3X, x_popAt, x_paV, x_paV2, x_paK, x_paN, x_paR, x_f23O, x_f23X, x_fn2, x_f2V, x_f2V2, x_f2RZ, x_f2RR, x_binF2O, x_binF2X, x_binF, x_binFO, x_binFX, x_ixl2O, x_ixl2X, x_index, x_ixlO, x_ixlX, x_ixlV, x_ixt2O, x_ixt2X, x_indexA, x_ixaO, x_ixaX, x_ixaL, x_ixaT, x_tr1V, x_tr1, x_tr1O, x_tr1X, x_f24O, x_f24X, x_fn2F, x_f2W, x_f2W2, x_f2RFR, x_wh1t, x_wh1f, x_wh2n, x_wh2r, x_wh2x, x_seq, x_seqN, x_seqR, x_seqX, x_set, x_setO, x_setX, x_own, x_ownO, x_ownX, x_next, x_drop, x_dropO, x_dropX, x_ret, x_retO, x_retX, x_retF, x_retFO, x_retFX, x_retN, x_cond, x_condO, x_condX, x_par2O, x_par2X, x_par, x_parO, x_parX, x_parCO, x_parCX, x_parBO, x_parBX, x_parA, x_parAO, x_parAX, x_asg, x_asgO, x_asgX, x_asgV, x_for, x_forO, x_forX, x_ckV, x_chkLen, x_chkLenO, x_chkLenX, x_rowO, x_roV, x_raise, x_make, x_makeO, x_makeX, x_riO, x_riX, x_app, x_appR, x_appN, x_appX, x_app2, x_app2R, x_app2N, x_ap2S, x_sto, x_sto2, o_add, o_addL, o_addT, o_sub, o_mod, o_neg, o_not, o_lt, o_le, o_gt, o_ge, o_eq, o_ne, o_eqB, o_neB, o_eqN, o_isB, o_isNotB, o_lenL, o_lenT, o_int, o_intB, o_tupL, o_tupT, o_listL, o_listT, o_seqL, o_seqT, o_tup, o_lst, o_zipL, o_zipT, x_loopC, x_lp0, x_lpKn, x_lpKc, x_lpKb, x_lpKr, x_lpKx, x_st1, x_st2, x_st3, x_selOt, x_selOf, x_lp1, x_lpN, x_lpC, x_lpR, x_lpX, x_loop0, o_fdiv, o_mulL, o_mulR, ix_0, ix_1, ix_2, ix_0T, ix_1T, ix_2T, x_ixNn, x_ixN0, x_ixN1, x_ixN2, List.getElem?_cons_succ, List.getElem?_cons_zero, List.set_cons_succ, List.set_cons_zero, List.map_cons, List.map_nil, List.length_cons, List.length_nil, List.cons_append, List.nil_append, Nat.reduceAdd, Nat.reduceSub, List.replicate_succ, List.replicate_zero, Nat.zero_add, Int.reduceAdd, Int.reduceNeg, Int.reduceSub, Int.toNat_natCast, Int.reduceToNat, List.length_range, List.length_map, Int.cast_ofNat_Int, eq_self, Int.reduceEq, Int.reduceLT, Int.reduceLE, Int.reduceMul, reduceCtorEq, Bool.or_self, Bool.false_eq_true, Bool.true_eq_false, ite_true, ite_false, decide_true, decide_false, Bool.not_true, Bool.not_false, List.eraseIdx_cons_zero, List.eraseIdx_cons_succ, rsD_len, zeroR_len, $[$es:term],*])
def T0 : Ss := (sOwn 1 (sFnF F__law_state (sCons (sVar 0) sNil)))
def T1 : Ss := (sSet 2 (sBin oIx (sLst (sCons (sC (.str "alternating")) (sCons (sC (.str "quadratic")) (sCons (sC (.str "hermitian")) sNil)))) (sFn2 1 F__law_take (sCons (sC (.int 3)) sNil))))
def T2 : Ss := (sSet 3 (sBin oIx (sLst (sCons (sC (.int 2)) (sCons (sC (.int 3)) (sCons (sC (.int 4)) (sCons (sC (.int 5)) (sCons (sC (.int 7)) (sCons (sC (.int 9)) sNil))))))) (sFn2 1 F__law_take (sCons (sC (.int 6)) sNil))))
def T3 : Ss := (sCond (bVal (sBin oEq (sVar 2) (sC (.str "hermitian")))) (sSet 3 (sBin oIx (sLst (sCons (sC (.int 4)) (sCons (sC (.int 9)) sNil))) (sFn2 1 F__law_take (sCons (sC (.int 2)) sNil)))) sNext)
theorem six_at (v : Nat) (h : v < 6) : v = 0 ∨ v = 1 ∨ v = 2 ∨ v = 3 ∨ v = 4 ∨ v = 5 := by omega
theorem law_true : ∀ ns : List Int, ns.length ≤ 63 → F_law.app [.scr ns] = .ok (.fz (.bl true)) := by
  intro ns _
  obtain ⟨p, e0⟩ := l_state ns
  have t3 := tk_lt p (m := 3) (by omega)
  have e1 := l_take p (m := 3) (by omega)
  rw [show (3 : Int).toNat = 3 from rfl] at e1
  generalize (tk p 3).1 = j1 at t3 e1
  generalize (tk p 3).2 = p1 at e1
  have t6 := tk_lt p1 (m := 6) (by omega)
  have e2 := l_take p1 (m := 6) (by omega)
  rw [show (6 : Int).toNat = 6 from rfl] at e2
  generalize (tk p1 6).1 = j2 at t6 e2
  generalize (tk p1 6).2 = p2 at e2
  have t2 := tk_lt p2 (m := 2) (by omega)
  have e3 := l_take p2 (m := 2) (by omega)
  rw [show (2 : Int).toNat = 2 from rfl] at e3
  generalize (tk p2 2).1 = j3 at t2 e3
  generalize (tk p2 2).2 = p3 at e3
  have hF : F_law = mkFn 16 1 (sSeq T0 (sSeq T1 (sSeq T2 (sSeq T3 RST)))) := by
    unfold F_law S_law T0 T1 T2 T3 RST
    rfl
  rw [hF]
  have h0 : T0 [.vl (.scr ns), .un, .un, .un, .un, .un, .un, .un, .un, .un, .un, .un, .un, .un, .un, .un] = .nx [.vl (.scr ns), .ow (rgD p), .un, .un, .un, .un, .un, .un, .un, .un, .un, .un, .un, .un, .un, .un] := by
    unfold T0
    exists e0
  have hj1 : j1 = 0 ∨ j1 = 1 ∨ j1 = 2 := by omega
  rcases hj1 with hj | hj | hj
  · have ix1 : oIx (.lst [.str "alternating", .str "quadratic", .str "hermitian"]) (.int 0) = some (.str "alternating") := by rfl
    rw [hj] at e1
    have h1 : T1 [.vl (.scr ns), .ow (rgD p), .un, .un, .un, .un, .un, .un, .un, .un, .un, .un, .un, .un, .un, .un] = .nx [.vl (.scr ns), .ow (rgD p1), .vl (.str "alternating"), .un, .un, .un, .un, .un, .un, .un, .un, .un, .un, .un, .un, .un] := by
      unfold T1
      exists e1, ix1
    rcases six_at j2 t6 with hi | hi | hi | hi | hi | hi
    · have ix2 : oIx (.lst [.int 2, .int 3, .int 4, .int 5, .int 7, .int 9]) (.int 0) = some (.int 2) := by rfl
      rw [hi] at e2
      have h2 : T2 [.vl (.scr ns), .ow (rgD p1), .vl (.str "alternating"), .un, .un, .un, .un, .un, .un, .un, .un, .un, .un, .un, .un, .un] = .nx [.vl (.scr ns), .ow (rgD p2), .vl (.str "alternating"), .vl (.int 2), .un, .un, .un, .un, .un, .un, .un, .un, .un, .un, .un, .un] := by
        unfold T2
        exists e2, ix2
      have hk : oEq (.str "alternating") (.str "hermitian") = some (.bl false) := by rfl
      have h3 : T3 [.vl (.scr ns), .ow (rgD p2), .vl (.str "alternating"), .vl (.int 2), .un, .un, .un, .un, .un, .un, .un, .un, .un, .un, .un, .un] = .nx [.vl (.scr ns), .ow (rgD p2), .vl (.str "alternating"), .vl (.int 2), .un, .un, .un, .un, .un, .un, .un, .un, .un, .un, .un, .un] := by
        unfold T3
        exists hk
      obtain ⟨E, hR⟩ := rtT_ok (rst_a_2 (.vl (.scr ns)) (.ow (rgD p2)))
      exists h0, h1, h2, h3, hR
    · have ix2 : oIx (.lst [.int 2, .int 3, .int 4, .int 5, .int 7, .int 9]) (.int 1) = some (.int 3) := by rfl
      rw [hi] at e2
      have h2 : T2 [.vl (.scr ns), .ow (rgD p1), .vl (.str "alternating"), .un, .un, .un, .un, .un, .un, .un, .un, .un, .un, .un, .un, .un] = .nx [.vl (.scr ns), .ow (rgD p2), .vl (.str "alternating"), .vl (.int 3), .un, .un, .un, .un, .un, .un, .un, .un, .un, .un, .un, .un] := by
        unfold T2
        exists e2, ix2
      have hk : oEq (.str "alternating") (.str "hermitian") = some (.bl false) := by rfl
      have h3 : T3 [.vl (.scr ns), .ow (rgD p2), .vl (.str "alternating"), .vl (.int 3), .un, .un, .un, .un, .un, .un, .un, .un, .un, .un, .un, .un] = .nx [.vl (.scr ns), .ow (rgD p2), .vl (.str "alternating"), .vl (.int 3), .un, .un, .un, .un, .un, .un, .un, .un, .un, .un, .un, .un] := by
        unfold T3
        exists hk
      obtain ⟨E, hR⟩ := rtT_ok (rst_a_3 (.vl (.scr ns)) (.ow (rgD p2)))
      exists h0, h1, h2, h3, hR
    · have ix2 : oIx (.lst [.int 2, .int 3, .int 4, .int 5, .int 7, .int 9]) (.int 2) = some (.int 4) := by rfl
      rw [hi] at e2
      have h2 : T2 [.vl (.scr ns), .ow (rgD p1), .vl (.str "alternating"), .un, .un, .un, .un, .un, .un, .un, .un, .un, .un, .un, .un, .un] = .nx [.vl (.scr ns), .ow (rgD p2), .vl (.str "alternating"), .vl (.int 4), .un, .un, .un, .un, .un, .un, .un, .un, .un, .un, .un, .un] := by
        unfold T2
        exists e2, ix2
      have hk : oEq (.str "alternating") (.str "hermitian") = some (.bl false) := by rfl
      have h3 : T3 [.vl (.scr ns), .ow (rgD p2), .vl (.str "alternating"), .vl (.int 4), .un, .un, .un, .un, .un, .un, .un, .un, .un, .un, .un, .un] = .nx [.vl (.scr ns), .ow (rgD p2), .vl (.str "alternating"), .vl (.int 4), .un, .un, .un, .un, .un, .un, .un, .un, .un, .un, .un, .un] := by
        unfold T3
        exists hk
      obtain ⟨E, hR⟩ := rtT_ok (rst_a_4 (.vl (.scr ns)) (.ow (rgD p2)))
      exists h0, h1, h2, h3, hR
    · have ix2 : oIx (.lst [.int 2, .int 3, .int 4, .int 5, .int 7, .int 9]) (.int 3) = some (.int 5) := by rfl
      rw [hi] at e2
      have h2 : T2 [.vl (.scr ns), .ow (rgD p1), .vl (.str "alternating"), .un, .un, .un, .un, .un, .un, .un, .un, .un, .un, .un, .un, .un] = .nx [.vl (.scr ns), .ow (rgD p2), .vl (.str "alternating"), .vl (.int 5), .un, .un, .un, .un, .un, .un, .un, .un, .un, .un, .un, .un] := by
        unfold T2
        exists e2, ix2
      have hk : oEq (.str "alternating") (.str "hermitian") = some (.bl false) := by rfl
      have h3 : T3 [.vl (.scr ns), .ow (rgD p2), .vl (.str "alternating"), .vl (.int 5), .un, .un, .un, .un, .un, .un, .un, .un, .un, .un, .un, .un] = .nx [.vl (.scr ns), .ow (rgD p2), .vl (.str "alternating"), .vl (.int 5), .un, .un, .un, .un, .un, .un, .un, .un, .un, .un, .un, .un] := by
        unfold T3
        exists hk
      obtain ⟨E, hR⟩ := rtT_ok (rst_a_5 (.vl (.scr ns)) (.ow (rgD p2)))
      exists h0, h1, h2, h3, hR
    · have ix2 : oIx (.lst [.int 2, .int 3, .int 4, .int 5, .int 7, .int 9]) (.int 4) = some (.int 7) := by rfl
      rw [hi] at e2
      have h2 : T2 [.vl (.scr ns), .ow (rgD p1), .vl (.str "alternating"), .un, .un, .un, .un, .un, .un, .un, .un, .un, .un, .un, .un, .un] = .nx [.vl (.scr ns), .ow (rgD p2), .vl (.str "alternating"), .vl (.int 7), .un, .un, .un, .un, .un, .un, .un, .un, .un, .un, .un, .un] := by
        unfold T2
        exists e2, ix2
      have hk : oEq (.str "alternating") (.str "hermitian") = some (.bl false) := by rfl
      have h3 : T3 [.vl (.scr ns), .ow (rgD p2), .vl (.str "alternating"), .vl (.int 7), .un, .un, .un, .un, .un, .un, .un, .un, .un, .un, .un, .un] = .nx [.vl (.scr ns), .ow (rgD p2), .vl (.str "alternating"), .vl (.int 7), .un, .un, .un, .un, .un, .un, .un, .un, .un, .un, .un, .un] := by
        unfold T3
        exists hk
      obtain ⟨E, hR⟩ := rtT_ok (rst_a_7 (.vl (.scr ns)) (.ow (rgD p2)))
      exists h0, h1, h2, h3, hR
    · have ix2 : oIx (.lst [.int 2, .int 3, .int 4, .int 5, .int 7, .int 9]) (.int 5) = some (.int 9) := by rfl
      rw [hi] at e2
      have h2 : T2 [.vl (.scr ns), .ow (rgD p1), .vl (.str "alternating"), .un, .un, .un, .un, .un, .un, .un, .un, .un, .un, .un, .un, .un] = .nx [.vl (.scr ns), .ow (rgD p2), .vl (.str "alternating"), .vl (.int 9), .un, .un, .un, .un, .un, .un, .un, .un, .un, .un, .un, .un] := by
        unfold T2
        exists e2, ix2
      have hk : oEq (.str "alternating") (.str "hermitian") = some (.bl false) := by rfl
      have h3 : T3 [.vl (.scr ns), .ow (rgD p2), .vl (.str "alternating"), .vl (.int 9), .un, .un, .un, .un, .un, .un, .un, .un, .un, .un, .un, .un] = .nx [.vl (.scr ns), .ow (rgD p2), .vl (.str "alternating"), .vl (.int 9), .un, .un, .un, .un, .un, .un, .un, .un, .un, .un, .un, .un] := by
        unfold T3
        exists hk
      obtain ⟨E, hR⟩ := rtT_ok (rst_a_9 (.vl (.scr ns)) (.ow (rgD p2)))
      exists h0, h1, h2, h3, hR
  · have ix1 : oIx (.lst [.str "alternating", .str "quadratic", .str "hermitian"]) (.int 1) = some (.str "quadratic") := by rfl
    rw [hj] at e1
    have h1 : T1 [.vl (.scr ns), .ow (rgD p), .un, .un, .un, .un, .un, .un, .un, .un, .un, .un, .un, .un, .un, .un] = .nx [.vl (.scr ns), .ow (rgD p1), .vl (.str "quadratic"), .un, .un, .un, .un, .un, .un, .un, .un, .un, .un, .un, .un, .un] := by
      unfold T1
      exists e1, ix1
    rcases six_at j2 t6 with hi | hi | hi | hi | hi | hi
    · have ix2 : oIx (.lst [.int 2, .int 3, .int 4, .int 5, .int 7, .int 9]) (.int 0) = some (.int 2) := by rfl
      rw [hi] at e2
      have h2 : T2 [.vl (.scr ns), .ow (rgD p1), .vl (.str "quadratic"), .un, .un, .un, .un, .un, .un, .un, .un, .un, .un, .un, .un, .un] = .nx [.vl (.scr ns), .ow (rgD p2), .vl (.str "quadratic"), .vl (.int 2), .un, .un, .un, .un, .un, .un, .un, .un, .un, .un, .un, .un] := by
        unfold T2
        exists e2, ix2
      have hk : oEq (.str "quadratic") (.str "hermitian") = some (.bl false) := by rfl
      have h3 : T3 [.vl (.scr ns), .ow (rgD p2), .vl (.str "quadratic"), .vl (.int 2), .un, .un, .un, .un, .un, .un, .un, .un, .un, .un, .un, .un] = .nx [.vl (.scr ns), .ow (rgD p2), .vl (.str "quadratic"), .vl (.int 2), .un, .un, .un, .un, .un, .un, .un, .un, .un, .un, .un, .un] := by
        unfold T3
        exists hk
      obtain ⟨E, hR⟩ := rtT_ok (rst_q_2 (.vl (.scr ns)) (.ow (rgD p2)))
      exists h0, h1, h2, h3, hR
    · have ix2 : oIx (.lst [.int 2, .int 3, .int 4, .int 5, .int 7, .int 9]) (.int 1) = some (.int 3) := by rfl
      rw [hi] at e2
      have h2 : T2 [.vl (.scr ns), .ow (rgD p1), .vl (.str "quadratic"), .un, .un, .un, .un, .un, .un, .un, .un, .un, .un, .un, .un, .un] = .nx [.vl (.scr ns), .ow (rgD p2), .vl (.str "quadratic"), .vl (.int 3), .un, .un, .un, .un, .un, .un, .un, .un, .un, .un, .un, .un] := by
        unfold T2
        exists e2, ix2
      have hk : oEq (.str "quadratic") (.str "hermitian") = some (.bl false) := by rfl
      have h3 : T3 [.vl (.scr ns), .ow (rgD p2), .vl (.str "quadratic"), .vl (.int 3), .un, .un, .un, .un, .un, .un, .un, .un, .un, .un, .un, .un] = .nx [.vl (.scr ns), .ow (rgD p2), .vl (.str "quadratic"), .vl (.int 3), .un, .un, .un, .un, .un, .un, .un, .un, .un, .un, .un, .un] := by
        unfold T3
        exists hk
      obtain ⟨E, hR⟩ := rtT_ok (rst_q_3 (.vl (.scr ns)) (.ow (rgD p2)))
      exists h0, h1, h2, h3, hR
    · have ix2 : oIx (.lst [.int 2, .int 3, .int 4, .int 5, .int 7, .int 9]) (.int 2) = some (.int 4) := by rfl
      rw [hi] at e2
      have h2 : T2 [.vl (.scr ns), .ow (rgD p1), .vl (.str "quadratic"), .un, .un, .un, .un, .un, .un, .un, .un, .un, .un, .un, .un, .un] = .nx [.vl (.scr ns), .ow (rgD p2), .vl (.str "quadratic"), .vl (.int 4), .un, .un, .un, .un, .un, .un, .un, .un, .un, .un, .un, .un] := by
        unfold T2
        exists e2, ix2
      have hk : oEq (.str "quadratic") (.str "hermitian") = some (.bl false) := by rfl
      have h3 : T3 [.vl (.scr ns), .ow (rgD p2), .vl (.str "quadratic"), .vl (.int 4), .un, .un, .un, .un, .un, .un, .un, .un, .un, .un, .un, .un] = .nx [.vl (.scr ns), .ow (rgD p2), .vl (.str "quadratic"), .vl (.int 4), .un, .un, .un, .un, .un, .un, .un, .un, .un, .un, .un, .un] := by
        unfold T3
        exists hk
      obtain ⟨E, hR⟩ := rtT_ok (rst_q_4 (.vl (.scr ns)) (.ow (rgD p2)))
      exists h0, h1, h2, h3, hR
    · have ix2 : oIx (.lst [.int 2, .int 3, .int 4, .int 5, .int 7, .int 9]) (.int 3) = some (.int 5) := by rfl
      rw [hi] at e2
      have h2 : T2 [.vl (.scr ns), .ow (rgD p1), .vl (.str "quadratic"), .un, .un, .un, .un, .un, .un, .un, .un, .un, .un, .un, .un, .un] = .nx [.vl (.scr ns), .ow (rgD p2), .vl (.str "quadratic"), .vl (.int 5), .un, .un, .un, .un, .un, .un, .un, .un, .un, .un, .un, .un] := by
        unfold T2
        exists e2, ix2
      have hk : oEq (.str "quadratic") (.str "hermitian") = some (.bl false) := by rfl
      have h3 : T3 [.vl (.scr ns), .ow (rgD p2), .vl (.str "quadratic"), .vl (.int 5), .un, .un, .un, .un, .un, .un, .un, .un, .un, .un, .un, .un] = .nx [.vl (.scr ns), .ow (rgD p2), .vl (.str "quadratic"), .vl (.int 5), .un, .un, .un, .un, .un, .un, .un, .un, .un, .un, .un, .un] := by
        unfold T3
        exists hk
      obtain ⟨E, hR⟩ := rtT_ok (rst_q_5 (.vl (.scr ns)) (.ow (rgD p2)))
      exists h0, h1, h2, h3, hR
    · have ix2 : oIx (.lst [.int 2, .int 3, .int 4, .int 5, .int 7, .int 9]) (.int 4) = some (.int 7) := by rfl
      rw [hi] at e2
      have h2 : T2 [.vl (.scr ns), .ow (rgD p1), .vl (.str "quadratic"), .un, .un, .un, .un, .un, .un, .un, .un, .un, .un, .un, .un, .un] = .nx [.vl (.scr ns), .ow (rgD p2), .vl (.str "quadratic"), .vl (.int 7), .un, .un, .un, .un, .un, .un, .un, .un, .un, .un, .un, .un] := by
        unfold T2
        exists e2, ix2
      have hk : oEq (.str "quadratic") (.str "hermitian") = some (.bl false) := by rfl
      have h3 : T3 [.vl (.scr ns), .ow (rgD p2), .vl (.str "quadratic"), .vl (.int 7), .un, .un, .un, .un, .un, .un, .un, .un, .un, .un, .un, .un] = .nx [.vl (.scr ns), .ow (rgD p2), .vl (.str "quadratic"), .vl (.int 7), .un, .un, .un, .un, .un, .un, .un, .un, .un, .un, .un, .un] := by
        unfold T3
        exists hk
      obtain ⟨E, hR⟩ := rtT_ok (rst_q_7 (.vl (.scr ns)) (.ow (rgD p2)))
      exists h0, h1, h2, h3, hR
    · have ix2 : oIx (.lst [.int 2, .int 3, .int 4, .int 5, .int 7, .int 9]) (.int 5) = some (.int 9) := by rfl
      rw [hi] at e2
      have h2 : T2 [.vl (.scr ns), .ow (rgD p1), .vl (.str "quadratic"), .un, .un, .un, .un, .un, .un, .un, .un, .un, .un, .un, .un, .un] = .nx [.vl (.scr ns), .ow (rgD p2), .vl (.str "quadratic"), .vl (.int 9), .un, .un, .un, .un, .un, .un, .un, .un, .un, .un, .un, .un] := by
        unfold T2
        exists e2, ix2
      have hk : oEq (.str "quadratic") (.str "hermitian") = some (.bl false) := by rfl
      have h3 : T3 [.vl (.scr ns), .ow (rgD p2), .vl (.str "quadratic"), .vl (.int 9), .un, .un, .un, .un, .un, .un, .un, .un, .un, .un, .un, .un] = .nx [.vl (.scr ns), .ow (rgD p2), .vl (.str "quadratic"), .vl (.int 9), .un, .un, .un, .un, .un, .un, .un, .un, .un, .un, .un, .un] := by
        unfold T3
        exists hk
      obtain ⟨E, hR⟩ := rtT_ok (rst_q_9 (.vl (.scr ns)) (.ow (rgD p2)))
      exists h0, h1, h2, h3, hR
  · have ix1 : oIx (.lst [.str "alternating", .str "quadratic", .str "hermitian"]) (.int 2) = some (.str "hermitian") := by rfl
    rw [hj] at e1
    have h1 : T1 [.vl (.scr ns), .ow (rgD p), .un, .un, .un, .un, .un, .un, .un, .un, .un, .un, .un, .un, .un, .un] = .nx [.vl (.scr ns), .ow (rgD p1), .vl (.str "hermitian"), .un, .un, .un, .un, .un, .un, .un, .un, .un, .un, .un, .un, .un] := by
      unfold T1
      exists e1, ix1
    rcases six_at j2 t6 with hi | hi | hi | hi | hi | hi
    · have ix2 : oIx (.lst [.int 2, .int 3, .int 4, .int 5, .int 7, .int 9]) (.int 0) = some (.int 2) := by rfl
      rw [hi] at e2
      have h2 : T2 [.vl (.scr ns), .ow (rgD p1), .vl (.str "hermitian"), .un, .un, .un, .un, .un, .un, .un, .un, .un, .un, .un, .un, .un] = .nx [.vl (.scr ns), .ow (rgD p2), .vl (.str "hermitian"), .vl (.int 2), .un, .un, .un, .un, .un, .un, .un, .un, .un, .un, .un, .un] := by
        unfold T2
        exists e2, ix2
      have hk : oEq (.str "hermitian") (.str "hermitian") = some (.bl true) := by rfl
      have hj3 : j3 = 0 ∨ j3 = 1 := by omega
      rcases hj3 with hl | hl
      · have ix3 : oIx (.lst [.int 4, .int 9]) (.int 0) = some (.int 4) := by rfl
        rw [hl] at e3
        have h3 : T3 [.vl (.scr ns), .ow (rgD p2), .vl (.str "hermitian"), .vl (.int 2), .un, .un, .un, .un, .un, .un, .un, .un, .un, .un, .un, .un] = .nx [.vl (.scr ns), .ow (rgD p3), .vl (.str "hermitian"), .vl (.int 4), .un, .un, .un, .un, .un, .un, .un, .un, .un, .un, .un, .un] := by
          unfold T3
          exists hk, e3, ix3
        obtain ⟨E, hR⟩ := rtT_ok (rst_h_4 (.vl (.scr ns)) (.ow (rgD p3)))
        exists h0, h1, h2, h3, hR
      · have ix3 : oIx (.lst [.int 4, .int 9]) (.int 1) = some (.int 9) := by rfl
        rw [hl] at e3
        have h3 : T3 [.vl (.scr ns), .ow (rgD p2), .vl (.str "hermitian"), .vl (.int 2), .un, .un, .un, .un, .un, .un, .un, .un, .un, .un, .un, .un] = .nx [.vl (.scr ns), .ow (rgD p3), .vl (.str "hermitian"), .vl (.int 9), .un, .un, .un, .un, .un, .un, .un, .un, .un, .un, .un, .un] := by
          unfold T3
          exists hk, e3, ix3
        obtain ⟨E, hR⟩ := rtT_ok (rst_h_9 (.vl (.scr ns)) (.ow (rgD p3)))
        exists h0, h1, h2, h3, hR
    · have ix2 : oIx (.lst [.int 2, .int 3, .int 4, .int 5, .int 7, .int 9]) (.int 1) = some (.int 3) := by rfl
      rw [hi] at e2
      have h2 : T2 [.vl (.scr ns), .ow (rgD p1), .vl (.str "hermitian"), .un, .un, .un, .un, .un, .un, .un, .un, .un, .un, .un, .un, .un] = .nx [.vl (.scr ns), .ow (rgD p2), .vl (.str "hermitian"), .vl (.int 3), .un, .un, .un, .un, .un, .un, .un, .un, .un, .un, .un, .un] := by
        unfold T2
        exists e2, ix2
      have hk : oEq (.str "hermitian") (.str "hermitian") = some (.bl true) := by rfl
      have hj3 : j3 = 0 ∨ j3 = 1 := by omega
      rcases hj3 with hl | hl
      · have ix3 : oIx (.lst [.int 4, .int 9]) (.int 0) = some (.int 4) := by rfl
        rw [hl] at e3
        have h3 : T3 [.vl (.scr ns), .ow (rgD p2), .vl (.str "hermitian"), .vl (.int 3), .un, .un, .un, .un, .un, .un, .un, .un, .un, .un, .un, .un] = .nx [.vl (.scr ns), .ow (rgD p3), .vl (.str "hermitian"), .vl (.int 4), .un, .un, .un, .un, .un, .un, .un, .un, .un, .un, .un, .un] := by
          unfold T3
          exists hk, e3, ix3
        obtain ⟨E, hR⟩ := rtT_ok (rst_h_4 (.vl (.scr ns)) (.ow (rgD p3)))
        exists h0, h1, h2, h3, hR
      · have ix3 : oIx (.lst [.int 4, .int 9]) (.int 1) = some (.int 9) := by rfl
        rw [hl] at e3
        have h3 : T3 [.vl (.scr ns), .ow (rgD p2), .vl (.str "hermitian"), .vl (.int 3), .un, .un, .un, .un, .un, .un, .un, .un, .un, .un, .un, .un] = .nx [.vl (.scr ns), .ow (rgD p3), .vl (.str "hermitian"), .vl (.int 9), .un, .un, .un, .un, .un, .un, .un, .un, .un, .un, .un, .un] := by
          unfold T3
          exists hk, e3, ix3
        obtain ⟨E, hR⟩ := rtT_ok (rst_h_9 (.vl (.scr ns)) (.ow (rgD p3)))
        exists h0, h1, h2, h3, hR
    · have ix2 : oIx (.lst [.int 2, .int 3, .int 4, .int 5, .int 7, .int 9]) (.int 2) = some (.int 4) := by rfl
      rw [hi] at e2
      have h2 : T2 [.vl (.scr ns), .ow (rgD p1), .vl (.str "hermitian"), .un, .un, .un, .un, .un, .un, .un, .un, .un, .un, .un, .un, .un] = .nx [.vl (.scr ns), .ow (rgD p2), .vl (.str "hermitian"), .vl (.int 4), .un, .un, .un, .un, .un, .un, .un, .un, .un, .un, .un, .un] := by
        unfold T2
        exists e2, ix2
      have hk : oEq (.str "hermitian") (.str "hermitian") = some (.bl true) := by rfl
      have hj3 : j3 = 0 ∨ j3 = 1 := by omega
      rcases hj3 with hl | hl
      · have ix3 : oIx (.lst [.int 4, .int 9]) (.int 0) = some (.int 4) := by rfl
        rw [hl] at e3
        have h3 : T3 [.vl (.scr ns), .ow (rgD p2), .vl (.str "hermitian"), .vl (.int 4), .un, .un, .un, .un, .un, .un, .un, .un, .un, .un, .un, .un] = .nx [.vl (.scr ns), .ow (rgD p3), .vl (.str "hermitian"), .vl (.int 4), .un, .un, .un, .un, .un, .un, .un, .un, .un, .un, .un, .un] := by
          unfold T3
          exists hk, e3, ix3
        obtain ⟨E, hR⟩ := rtT_ok (rst_h_4 (.vl (.scr ns)) (.ow (rgD p3)))
        exists h0, h1, h2, h3, hR
      · have ix3 : oIx (.lst [.int 4, .int 9]) (.int 1) = some (.int 9) := by rfl
        rw [hl] at e3
        have h3 : T3 [.vl (.scr ns), .ow (rgD p2), .vl (.str "hermitian"), .vl (.int 4), .un, .un, .un, .un, .un, .un, .un, .un, .un, .un, .un, .un] = .nx [.vl (.scr ns), .ow (rgD p3), .vl (.str "hermitian"), .vl (.int 9), .un, .un, .un, .un, .un, .un, .un, .un, .un, .un, .un, .un] := by
          unfold T3
          exists hk, e3, ix3
        obtain ⟨E, hR⟩ := rtT_ok (rst_h_9 (.vl (.scr ns)) (.ow (rgD p3)))
        exists h0, h1, h2, h3, hR
    · have ix2 : oIx (.lst [.int 2, .int 3, .int 4, .int 5, .int 7, .int 9]) (.int 3) = some (.int 5) := by rfl
      rw [hi] at e2
      have h2 : T2 [.vl (.scr ns), .ow (rgD p1), .vl (.str "hermitian"), .un, .un, .un, .un, .un, .un, .un, .un, .un, .un, .un, .un, .un] = .nx [.vl (.scr ns), .ow (rgD p2), .vl (.str "hermitian"), .vl (.int 5), .un, .un, .un, .un, .un, .un, .un, .un, .un, .un, .un, .un] := by
        unfold T2
        exists e2, ix2
      have hk : oEq (.str "hermitian") (.str "hermitian") = some (.bl true) := by rfl
      have hj3 : j3 = 0 ∨ j3 = 1 := by omega
      rcases hj3 with hl | hl
      · have ix3 : oIx (.lst [.int 4, .int 9]) (.int 0) = some (.int 4) := by rfl
        rw [hl] at e3
        have h3 : T3 [.vl (.scr ns), .ow (rgD p2), .vl (.str "hermitian"), .vl (.int 5), .un, .un, .un, .un, .un, .un, .un, .un, .un, .un, .un, .un] = .nx [.vl (.scr ns), .ow (rgD p3), .vl (.str "hermitian"), .vl (.int 4), .un, .un, .un, .un, .un, .un, .un, .un, .un, .un, .un, .un] := by
          unfold T3
          exists hk, e3, ix3
        obtain ⟨E, hR⟩ := rtT_ok (rst_h_4 (.vl (.scr ns)) (.ow (rgD p3)))
        exists h0, h1, h2, h3, hR
      · have ix3 : oIx (.lst [.int 4, .int 9]) (.int 1) = some (.int 9) := by rfl
        rw [hl] at e3
        have h3 : T3 [.vl (.scr ns), .ow (rgD p2), .vl (.str "hermitian"), .vl (.int 5), .un, .un, .un, .un, .un, .un, .un, .un, .un, .un, .un, .un] = .nx [.vl (.scr ns), .ow (rgD p3), .vl (.str "hermitian"), .vl (.int 9), .un, .un, .un, .un, .un, .un, .un, .un, .un, .un, .un, .un] := by
          unfold T3
          exists hk, e3, ix3
        obtain ⟨E, hR⟩ := rtT_ok (rst_h_9 (.vl (.scr ns)) (.ow (rgD p3)))
        exists h0, h1, h2, h3, hR
    · have ix2 : oIx (.lst [.int 2, .int 3, .int 4, .int 5, .int 7, .int 9]) (.int 4) = some (.int 7) := by rfl
      rw [hi] at e2
      have h2 : T2 [.vl (.scr ns), .ow (rgD p1), .vl (.str "hermitian"), .un, .un, .un, .un, .un, .un, .un, .un, .un, .un, .un, .un, .un] = .nx [.vl (.scr ns), .ow (rgD p2), .vl (.str "hermitian"), .vl (.int 7), .un, .un, .un, .un, .un, .un, .un, .un, .un, .un, .un, .un] := by
        unfold T2
        exists e2, ix2
      have hk : oEq (.str "hermitian") (.str "hermitian") = some (.bl true) := by rfl
      have hj3 : j3 = 0 ∨ j3 = 1 := by omega
      rcases hj3 with hl | hl
      · have ix3 : oIx (.lst [.int 4, .int 9]) (.int 0) = some (.int 4) := by rfl
        rw [hl] at e3
        have h3 : T3 [.vl (.scr ns), .ow (rgD p2), .vl (.str "hermitian"), .vl (.int 7), .un, .un, .un, .un, .un, .un, .un, .un, .un, .un, .un, .un] = .nx [.vl (.scr ns), .ow (rgD p3), .vl (.str "hermitian"), .vl (.int 4), .un, .un, .un, .un, .un, .un, .un, .un, .un, .un, .un, .un] := by
          unfold T3
          exists hk, e3, ix3
        obtain ⟨E, hR⟩ := rtT_ok (rst_h_4 (.vl (.scr ns)) (.ow (rgD p3)))
        exists h0, h1, h2, h3, hR
      · have ix3 : oIx (.lst [.int 4, .int 9]) (.int 1) = some (.int 9) := by rfl
        rw [hl] at e3
        have h3 : T3 [.vl (.scr ns), .ow (rgD p2), .vl (.str "hermitian"), .vl (.int 7), .un, .un, .un, .un, .un, .un, .un, .un, .un, .un, .un, .un] = .nx [.vl (.scr ns), .ow (rgD p3), .vl (.str "hermitian"), .vl (.int 9), .un, .un, .un, .un, .un, .un, .un, .un, .un, .un, .un, .un] := by
          unfold T3
          exists hk, e3, ix3
        obtain ⟨E, hR⟩ := rtT_ok (rst_h_9 (.vl (.scr ns)) (.ow (rgD p3)))
        exists h0, h1, h2, h3, hR
    · have ix2 : oIx (.lst [.int 2, .int 3, .int 4, .int 5, .int 7, .int 9]) (.int 5) = some (.int 9) := by rfl
      rw [hi] at e2
      have h2 : T2 [.vl (.scr ns), .ow (rgD p1), .vl (.str "hermitian"), .un, .un, .un, .un, .un, .un, .un, .un, .un, .un, .un, .un, .un] = .nx [.vl (.scr ns), .ow (rgD p2), .vl (.str "hermitian"), .vl (.int 9), .un, .un, .un, .un, .un, .un, .un, .un, .un, .un, .un, .un] := by
        unfold T2
        exists e2, ix2
      have hk : oEq (.str "hermitian") (.str "hermitian") = some (.bl true) := by rfl
      have hj3 : j3 = 0 ∨ j3 = 1 := by omega
      rcases hj3 with hl | hl
      · have ix3 : oIx (.lst [.int 4, .int 9]) (.int 0) = some (.int 4) := by rfl
        rw [hl] at e3
        have h3 : T3 [.vl (.scr ns), .ow (rgD p2), .vl (.str "hermitian"), .vl (.int 9), .un, .un, .un, .un, .un, .un, .un, .un, .un, .un, .un, .un] = .nx [.vl (.scr ns), .ow (rgD p3), .vl (.str "hermitian"), .vl (.int 4), .un, .un, .un, .un, .un, .un, .un, .un, .un, .un, .un, .un] := by
          unfold T3
          exists hk, e3, ix3
        obtain ⟨E, hR⟩ := rtT_ok (rst_h_4 (.vl (.scr ns)) (.ow (rgD p3)))
        exists h0, h1, h2, h3, hR
      · have ix3 : oIx (.lst [.int 4, .int 9]) (.int 1) = some (.int 9) := by rfl
        rw [hl] at e3
        have h3 : T3 [.vl (.scr ns), .ow (rgD p2), .vl (.str "hermitian"), .vl (.int 9), .un, .un, .un, .un, .un, .un, .un, .un, .un, .un, .un, .un] = .nx [.vl (.scr ns), .ow (rgD p3), .vl (.str "hermitian"), .vl (.int 9), .un, .un, .un, .un, .un, .un, .un, .un, .un, .un, .un, .un] := by
          unfold T3
          exists hk, e3, ix3
        obtain ⟨E, hR⟩ := rtT_ok (rst_h_9 (.vl (.scr ns)) (.ow (rgD p3)))
        exists h0, h1, h2, h3, hR

end My

set_option Elab.async false
set_option linter.all false
set_option maxRecDepth 100000
set_option maxHeartbeats 0
namespace My
open PySem PySem.Spec PyProof.Rows L2 Dn
theorem ex_tup_SIZES_field {K : PySem.W.Frag} {mg : Str → Option Value} (T : Ty fa fn ex K mg) : tupM K "SIZES_field" [.int 2, .int 3, .int 4, .int 5, .int 7, .int 9] = true := by
  have h := T.more
  unfold ex at h
  simp only [Bool.and_eq_true] at h
  exact h.1
theorem ex_tupn_SIZES_field {K : PySem.W.Frag} {mg : Str → Option Value} (T : Ty fa fn ex K mg) : tupN K "SIZES_field" [2, 3, 4, 5, 7, 9] = true := by
  have h := T.more
  unfold ex at h
  simp only [Bool.and_eq_true] at h
  exact h.2.1
theorem ex_tup_CHARACTERISTICS {K : PySem.W.Frag} {mg : Str → Option Value} (T : Ty fa fn ex K mg) : tupM K "CHARACTERISTICS" [.int 2, .int 3, .int 2, .int 5, .int 7, .int 3] = true := by
  have h := T.more
  unfold ex at h
  simp only [Bool.and_eq_true] at h
  exact h.2.2.1
theorem ex_isi_Field {K : PySem.W.Frag} {mg : Str → Option Value} (T : Ty fa fn ex K mg) : isiB K 0 = true := by
  have h := T.more
  unfold ex at h
  simp only [Bool.and_eq_true] at h
  exact h.2.2.2.1
theorem ex_tup_KINDS {K : PySem.W.Frag} {mg : Str → Option Value} (T : Ty fa fn ex K mg) : tupM K "KINDS" [.str "alternating", .str "quadratic", .str "hermitian"] = true := by
  have h := T.more
  unfold ex at h
  simp only [Bool.and_eq_true] at h
  exact h.2.2.2.2.1
theorem ex_tup_SIZES_space {K : PySem.W.Frag} {mg : Str → Option Value} (T : Ty fa fn ex K mg) : tupM K "SIZES_space" [.int 2, .int 3, .int 4, .int 5, .int 7, .int 9] = true := by
  have h := T.more
  unfold ex at h
  simp only [Bool.and_eq_true] at h
  exact h.2.2.2.2.2.1
theorem ex_sx_Refused {K : PySem.W.Frag} {mg : Str → Option Value} (T : Ty fa fn ex K mg) : sxB K mfile "Refused" "reason" "reason" = true := by
  have h := T.more
  unfold ex at h
  simp only [Bool.and_eq_true] at h
  exact h.2.2.2.2.2.2.1
theorem ex_isi_Space {K : PySem.W.Frag} {mg : Str → Option Value} (T : Ty fa fn ex K mg) : isiB K 1 = true := by
  have h := T.more
  unfold ex at h
  simp only [Bool.and_eq_true] at h
  exact h.2.2.2.2.2.2.2.1
theorem ex_hit_Malformed {K : PySem.W.Frag} {mg : Str → Option Value} (T : Ty fa fn ex K mg) : hitB K [0, 1] 0 = true := by
  have h := T.more
  unfold ex at h
  simp only [Bool.and_eq_true] at h
  exact h.2.2.2.2.2.2.2.2.1
theorem ex_hit_Refused {K : PySem.W.Frag} {mg : Str → Option Value} (T : Ty fa fn ex K mg) : hitB K [0, 1] 1 = true := by
  have h := T.more
  unfold ex at h
  simp only [Bool.and_eq_true] at h
  exact h.2.2.2.2.2.2.2.2.2.1
theorem ex_xf_Refused {K : PySem.W.Frag} {mg : Str → Option Value} (T : Ty fa fn ex K mg) : xfB K (He.ga K "Refused") = true := by
  have h := T.more
  unfold ex at h
  simp only [Bool.and_eq_true] at h
  exact h.2.2.2.2.2.2.2.2.2.2.1
theorem ex_nof_Refused {K : PySem.W.Frag} {mg : Str → Option Value} (T : Ty fa fn ex K mg) : decide (PySem.W.findIn K (.ref (He.ga K "Refused")) "reason" = some none) = true := by
  have h := T.more
  unfold ex at h
  simp only [Bool.and_eq_true] at h
  exact h.2.2.2.2.2.2.2.2.2.2.2.1
theorem fld_q {K : PySem.W.Frag} {mg : Str → Option Value} (T : Ty fa fn ex K mg) : FldOk K "q" tab_q := (FldOk.cons (T.cls 6) (T.noat 7) (by decide +kernel) (by decide +kernel) (FldOk.cons (T.cls 11) (T.noat 12) (by decide +kernel) (by decide +kernel) FldOk.nil))
theorem fld_p {K : PySem.W.Frag} {mg : Str → Option Value} (T : Ty fa fn ex K mg) : FldOk K "p" tab_p := (FldOk.cons (T.cls 6) (T.noat 9) (by decide +kernel) (by decide +kernel) FldOk.nil)
theorem fld_kind {K : PySem.W.Frag} {mg : Str → Option Value} (T : Ty fa fn ex K mg) : FldOk K "kind" tab_kind := (FldOk.cons (T.cls 11) (T.noat 25) (by decide +kernel) (by decide +kernel) FldOk.nil)
theorem fld_matrix {K : PySem.W.Frag} {mg : Str → Option Value} (T : Ty fa fn ex K mg) : FldOk K "matrix" tab_matrix := (FldOk.cons (T.cls 11) (T.noat 27) (by decide +kernel) (by decide +kernel) FldOk.nil)
theorem fld_n {K : PySem.W.Frag} {mg : Str → Option Value} (T : Ty fa fn ex K mg) : FldOk K "n" tab_n := (FldOk.cons (T.cls 11) (T.noat 26) (by decide +kernel) (by decide +kernel) FldOk.nil)
theorem fld_field {K : PySem.W.Frag} {mg : Str → Option Value} (T : Ty fa fn ex K mg) : FldOk K "field" tab_field := (FldOk.cons (T.cls 11) (T.noat 28) (by decide +kernel) (by decide +kernel) FldOk.nil)
theorem fld__gram {K : PySem.W.Frag} {mg : Str → Option Value} (T : Ty fa fn ex K mg) : FldOk K "_gram" tab__gram := (FldOk.cons (T.cls 11) (T.noat 29) (by decide +kernel) (by decide +kernel) FldOk.nil)
section
variable {P : Program} {w : World} {K : PySem.W.Frag} {mg : Str → Option Value} {base : Heap}
theorem sc_is_integer : FnScope ["value"] ["value"] d_is_integer.scope := ⟨rfl, rfl, rfl, by decide +kernel, rfl, by decide +kernel, by decide +kernel⟩
theorem ok_is_integer (HP : PFile P mfile) (T : Ty fa fn ex K mg) : Gd P w K mg base "is_integer" 1 F_is_integer := by
  obtain ⟨fd, F⟩ := T.says.def_ 0 (d := d_is_integer) rfl
  refine ⟨_, fd, ["value"], fn_pure F sc_is_integer (fun cdv A outer s H E e0 hr => ?_), (T.glo 32), F.kp, F.bindsN fun _ _ _ _ _ _ us hl => match us, hl with | [_], _ => rfl⟩
  have hu64 := hr.units
  have hu65 : (A.deeper (PyProof.Rows.envOfC d_is_integer.qual d_is_integer.scope s.heap.objs.size (He.fAd K d_is_integer.at_) cdv)).units + 65 < cLine := by have := hr.un; omega
  have nd := sc_is_integer.nd
  have tk : Takes (cxOf (L2.CX P w) P w K mg base ["value"] d_is_integer.qual d_is_integer.scope (He.fAd K d_is_integer.at_) cdv A outer s H E) (fun cls d _ H => E cls d H) := takes_of rfl rfl rfl rfl
  have po : PassesOwn (model P w) (A.deeper (PyProof.Rows.envOfC d_is_integer.qual d_is_integer.scope s.heap.objs.size (He.fAd K d_is_integer.at_) cdv)) (PyProof.Rows.envOfC d_is_integer.qual d_is_integer.scope s.heap.objs.size (He.fAd K d_is_integer.at_) cdv) (cxOf (L2.CX P w) P w K mg base ["value"] d_is_integer.qual d_is_integer.scope (He.fAd K d_is_integer.at_) cdv A outer s H E).xe := PassesOwn.leaving
  exact (dss_one (ds_ret (dx_and (dx_isi isi_ty (pe_bltn (v := .ty "int") (by rfl) (T.free 0) (by decide +kernel) rfl) (.ty _) (by rfl) (T.free 1) (by decide +kernel) (dx_var (i := 0) rfl (.inl rfl))) (dx_one (dx_not (dx_isi isi_ty (pe_bltn (v := .ty "bool") (by rfl) (T.free 2) (by decide +kernel) rfl) (.ty _) (by rfl) (T.free 1) (by decide +kernel) (dx_var (i := 0) rfl (.inl rfl))))))))
theorem sc_Field___init__ : FnScope ["self", "q"] ["self", "q"] d_Field___init__.scope := ⟨rfl, rfl, rfl, by decide +kernel, rfl, by decide +kernel, by decide +kernel⟩
theorem ok_Field___init__ (HP : PFile P mfile) (T : Ty fa fn ex K mg) : GdI P w K mg base 0 2 F_Field___init__ := by
  have G_is_integer := ok_is_integer (P := P) (w := w) (base := base) HP T
  obtain ⟨fd, F⟩ := T.says.def_ 1 (d := d_Field___init__) rfl
  refine ⟨_, fd, ["self", "q"], T.mkr 33, fn_init (by decide) (by decide) F sc_Field___init__ (fun cdv A outer s H E e0 hr => ?_), (T.glo 10), F.bindsN fun _ _ _ _ _ _ us hl => match us, hl with | [_, _], _ => rfl⟩
  have hu64 := hr.units
  have hu65 : (A.deeper (PyProof.Rows.envOfC d_Field___init__.qual d_Field___init__.scope s.heap.objs.size (He.fAd K d_Field___init__.at_) cdv)).units + 65 < cLine := by have := hr.un; omega
  have nd := sc_Field___init__.nd
  have tk : Takes (cxOf (L2.CX P w) P w K mg base ["self", "q"] d_Field___init__.qual d_Field___init__.scope (He.fAd K d_Field___init__.at_) cdv A outer s H E) (fun cls d _ H => E cls d H) := takes_of rfl rfl rfl rfl
  have po : PassesOwn (model P w) (A.deeper (PyProof.Rows.envOfC d_Field___init__.qual d_Field___init__.scope s.heap.objs.size (He.fAd K d_Field___init__.at_) cdv)) (PyProof.Rows.envOfC d_Field___init__.qual d_Field___init__.scope s.heap.objs.size (He.fAd K d_Field___init__.at_) cdv) (cxOf (L2.CX P w) P w K mg base ["self", "q"] d_Field___init__.qual d_Field___init__.scope (He.fAd K d_Field___init__.at_) cdv A outer s H E).xe := PassesOwn.leaving
  exact (dss_cons (ds_if (dt_w (dw_or (dt_not (dt_val (dx_call ((G_is_integer).good (hr.mono (by decide))) tk (by rfl) (da_cons (dx_var (i := 1) rfl (.inl rfl)) da_nil)))) (dw_one (dt_cmp (od_notIn hu65) (dx_var (i := 1) rfl (.inl rfl)) (dx_glTup (by rfl) (T.glo 3) (ex_tup_SIZES_field T) rfl) (by rfl))))) (dss_one (ds_raise (c := 0) rfl rfl (T.exc 4).1 (T.glo 5) (T.exc 4).2.1 (T.exc 4).2.2.1 (T.exc 4).2.2.2 (by rfl) (by rfl) tk)) dss_nil) (dss_cons (ds_self (i := 0) (c := 0) (j := 0) (T.cls 6) (T.noat 7) rfl (by decide +kernel) rfl (.inl rfl) (dx_var (i := 1) rfl (.inl rfl))) (dss_one (ds_self (i := 0) (c := 0) (j := 1) (T.cls 6) (T.noat 9) rfl (by decide +kernel) rfl (.inl rfl) (dx_ix ixd (dx_glTup (by rfl) (T.glo 8) (ex_tup_CHARACTERISTICS T) rfl) (dx_indexC (by rfl) (T.glo 3) (ex_tupn_SIZES_field T) (dx_var (i := 1) rfl (.inl rfl))))))))
theorem sc_Field___eq__ : FnScope ["self", "other"] ["self", "other"] d_Field___eq__.scope := ⟨rfl, rfl, rfl, by decide +kernel, rfl, by decide +kernel, by decide +kernel⟩
theorem ok_Field___eq__ (HP : PFile P mfile) (T : Ty fa fn ex K mg) : GdM P w K mg base 0 "__eq__" 1 F_Field___eq__ := by
  obtain ⟨fd, F⟩ := T.says.def_ 2 (d := d_Field___eq__) rfl
  refine ⟨_, fd, ["self", "other"], T.cls 6, T.meth 34, fn_pure F sc_Field___eq__ (fun cdv A outer s H E e0 hr => ?_), F.bindsN fun _ _ _ _ _ _ us hl => match us, hl with | [_, _], _ => rfl, by decide +kernel⟩
  have hu64 := hr.units
  have hu65 : (A.deeper (PyProof.Rows.envOfC d_Field___eq__.qual d_Field___eq__.scope s.heap.objs.size (He.fAd K d_Field___eq__.at_) cdv)).units + 65 < cLine := by have := hr.un; omega
  have nd := sc_Field___eq__.nd
  have tk : Takes (cxOf (L2.CX P w) P w K mg base ["self", "other"] d_Field___eq__.qual d_Field___eq__.scope (He.fAd K d_Field___eq__.at_) cdv A outer s H E) (fun cls d _ H => E cls d H) := takes_of rfl rfl rfl rfl
  have po : PassesOwn (model P w) (A.deeper (PyProof.Rows.envOfC d_Field___eq__.qual d_Field___eq__.scope s.heap.objs.size (He.fAd K d_Field___eq__.at_) cdv)) (PyProof.Rows.envOfC d_Field___eq__.qual d_Field___eq__.scope s.heap.objs.size (He.fAd K d_Field___eq__.at_) cdv) (cxOf (L2.CX P w) P w K mg base ["self", "other"] d_Field___eq__.qual d_Field___eq__.scope (He.fAd K d_Field___eq__.at_) cdv A outer s H E).xe := PassesOwn.leaving
  exact (dss_one (ds_ret (dx_and (dx_isi (isi_own (c := 0) (T.cls 6) (ex_isi_Field T)) (pe_glob (v := .ref (He.ga K "Field")) (by rfl) (T.glo 10) rfl) (.own _) (by rfl) (T.free 1) (by decide +kernel) (dx_var (i := 1) rfl (.inl rfl))) (dx_one (dx_cmp (od_eq hu64) (dx_fld (fld_q T) (dx_var (i := 0) rfl (.inl rfl))) (dx_fld (fld_q T) (dx_var (i := 1) rfl (.inl rfl))) (nomark _))))))
theorem sc_Field_is_number : FnScope ["self", "value"] ["self", "value"] d_Field_is_number.scope := ⟨rfl, rfl, rfl, by decide +kernel, rfl, by decide +kernel, by decide +kernel⟩
theorem ok_Field_is_number (HP : PFile P mfile) (T : Ty fa fn ex K mg) : GdM P w K mg base 0 "is_number" 2 F_Field_is_number := by
  have G_is_integer := ok_is_integer (P := P) (w := w) (base := base) HP T
  obtain ⟨fd, F⟩ := T.says.def_ 3 (d := d_Field_is_number) rfl
  refine ⟨_, fd, ["self", "value"], T.cls 6, T.meth 35, fn_pure F sc_Field_is_number (fun cdv A outer s H E e0 hr => ?_), F.bindsN fun _ _ _ _ _ _ us hl => match us, hl with | [_, _], _ => rfl, by decide +kernel⟩
  have hu64 := hr.units
  have hu65 : (A.deeper (PyProof.Rows.envOfC d_Field_is_number.qual d_Field_is_number.scope s.heap.objs.size (He.fAd K d_Field_is_number.at_) cdv)).units + 65 < cLine := by have := hr.un; omega
  have nd := sc_Field_is_number.nd
  have tk : Takes (cxOf (L2.CX P w) P w K mg base ["self", "value"] d_Field_is_number.qual d_Field_is_number.scope (He.fAd K d_Field_is_number.at_) cdv A outer s H E) (fun cls d _ H => E cls d H) := takes_of rfl rfl rfl rfl
  have po : PassesOwn (model P w) (A.deeper (PyProof.Rows.envOfC d_Field_is_number.qual d_Field_is_number.scope s.heap.objs.size (He.fAd K d_Field_is_number.at_) cdv)) (PyProof.Rows.envOfC d_Field_is_number.qual d_Field_is_number.scope s.heap.objs.size (He.fAd K d_Field_is_number.at_) cdv) (cxOf (L2.CX P w) P w K mg base ["self", "value"] d_Field_is_number.qual d_Field_is_number.scope (He.fAd K d_Field_is_number.at_) cdv A outer s H E).xe := PassesOwn.leaving
  exact (dss_one (ds_ret (dx_and (dx_call ((G_is_integer).good (hr.mono (by decide))) tk (by rfl) (da_cons (dx_var (i := 1) rfl (.inl rfl)) da_nil)) (dx_one (dx_chain od_le od_lt dx_int (dx_var (i := 1) rfl (.inl rfl)) (dx_fld (fld_q T) (dx_var (i := 0) rfl (.inl rfl))))))))
theorem sc_Field_numbers : FnScope ["self"] ["self"] d_Field_numbers.scope := ⟨rfl, rfl, rfl, by decide +kernel, rfl, by decide +kernel, by decide +kernel⟩
theorem ok_Field_numbers (HP : PFile P mfile) (T : Ty fa fn ex K mg) : GdM P w K mg base 0 "numbers" 1 F_Field_numbers := by
  obtain ⟨fd, F⟩ := T.says.def_ 4 (d := d_Field_numbers) rfl
  refine ⟨_, fd, ["self"], T.cls 6, T.meth 36, fn_pure F sc_Field_numbers (fun cdv A outer s H E e0 hr => ?_), F.bindsN fun _ _ _ _ _ _ us hl => match us, hl with | [_], _ => rfl, by decide +kernel⟩
  have hu64 := hr.units
  have hu65 : (A.deeper (PyProof.Rows.envOfC d_Field_numbers.qual d_Field_numbers.scope s.heap.objs.size (He.fAd K d_Field_numbers.at_) cdv)).units + 65 < cLine := by have := hr.un; omega
  have nd := sc_Field_numbers.nd
  have tk : Takes (cxOf (L2.CX P w) P w K mg base ["self"] d_Field_numbers.qual d_Field_numbers.scope (He.fAd K d_Field_numbers.at_) cdv A outer s H E) (fun cls d _ H => E cls d H) := takes_of rfl rfl rfl rfl
  have po : PassesOwn (model P w) (A.deeper (PyProof.Rows.envOfC d_Field_numbers.qual d_Field_numbers.scope s.heap.objs.size (He.fAd K d_Field_numbers.at_) cdv)) (PyProof.Rows.envOfC d_Field_numbers.qual d_Field_numbers.scope s.heap.objs.size (He.fAd K d_Field_numbers.at_) cdv) (cxOf (L2.CX P w) P w K mg base ["self"] d_Field_numbers.qual d_Field_numbers.scope (He.fAd K d_Field_numbers.at_) cdv A outer s H E).xe := PassesOwn.leaving
  exact (dss_one (ds_ret (dx_tupRg1 (by rfl) (by rfl) (T.free 13) (by rfl) (T.free 14) (dx_fld (fld_q T) (dx_var (i := 0) rfl (.inl rfl))))))
theorem sc_Field_joined : FnScope ["self", "low", "high"] ["self", "low", "high"] d_Field_joined.scope := ⟨rfl, rfl, rfl, by decide +kernel, rfl, by decide +kernel, by decide +kernel⟩
theorem ok_Field_joined (HP : PFile P mfile) (T : Ty fa fn ex K mg) : GdM P w K mg base 0 "joined" 1 F_Field_joined := by
  obtain ⟨fd, F⟩ := T.says.def_ 5 (d := d_Field_joined) rfl
  refine ⟨_, fd, ["self", "low", "high"], T.cls 6, T.meth 37, fn_pure F sc_Field_joined (fun cdv A outer s H E e0 hr => ?_), F.bindsN fun _ _ _ _ _ _ us hl => match us, hl with | [_, _, _], _ => rfl, by decide +kernel⟩
  have hu64 := hr.units
  have hu65 : (A.deeper (PyProof.Rows.envOfC d_Field_joined.qual d_Field_joined.scope s.heap.objs.size (He.fAd K d_Field_joined.at_) cdv)).units + 65 < cLine := by have := hr.un; omega
  have nd := sc_Field_joined.nd
  have tk : Takes (cxOf (L2.CX P w) P w K mg base ["self", "low", "high"] d_Field_joined.qual d_Field_joined.scope (He.fAd K d_Field_joined.at_) cdv A outer s H E) (fun cls d _ H => E cls d H) := takes_of rfl rfl rfl rfl
  have po : PassesOwn (model P w) (A.deeper (PyProof.Rows.envOfC d_Field_joined.qual d_Field_joined.scope s.heap.objs.size (He.fAd K d_Field_joined.at_) cdv)) (PyProof.Rows.envOfC d_Field_joined.qual d_Field_joined.scope s.heap.objs.size (He.fAd K d_Field_joined.at_) cdv) (cxOf (L2.CX P w) P w K mg base ["self", "low", "high"] d_Field_joined.qual d_Field_joined.scope (He.fAd K d_Field_joined.at_) cdv A outer s H E).xe := PassesOwn.leaving
  exact (dss_cons (ds_if (dt_cmp (od_eq hu64) (dx_fld (fld_q T) (dx_var (i := 0) rfl (.inl rfl))) (dx_fld (fld_p T) (dx_var (i := 0) rfl (.inl rfl))) (nomark _)) (dss_one (ds_ret (dx_op od_mod (dx_var (i := 1) rfl (.inl rfl)) (dx_fld (fld_p T) (dx_var (i := 0) rfl (.inl rfl)))))) dss_nil) (dss_one (ds_ret (dx_op od_add (dx_op od_mod (dx_var (i := 1) rfl (.inl rfl)) (dx_fld (fld_p T) (dx_var (i := 0) rfl (.inl rfl)))) (dx_op od_mul (dx_fld (fld_p T) (dx_var (i := 0) rfl (.inl rfl))) (dx_op od_mod (dx_var (i := 2) rfl (.inl rfl)) (dx_fld (fld_p T) (dx_var (i := 0) rfl (.inl rfl)))))))))
theorem sc_Field_add : FnScope ["self", "a", "b"] ["self", "a", "b"] d_Field_add.scope := ⟨rfl, rfl, rfl, by decide +kernel, rfl, by decide +kernel, by decide +kernel⟩
theorem ok_Field_add (HP : PFile P mfile) (T : Ty fa fn ex K mg) : GdM P w K mg base 0 "add" 2 F_Field_add := by
  have G_Field_joined := ok_Field_joined (P := P) (w := w) (base := base) HP T
  obtain ⟨fd, F⟩ := T.says.def_ 6 (d := d_Field_add) rfl
  refine ⟨_, fd, ["self", "a", "b"], T.cls 6, T.meth 38, fn_pure F sc_Field_add (fun cdv A outer s H E e0 hr => ?_), F.bindsN fun _ _ _ _ _ _ us hl => match us, hl with | [_, _, _], _ => rfl, by decide +kernel⟩
  have hu64 := hr.units
  have hu65 : (A.deeper (PyProof.Rows.envOfC d_Field_add.qual d_Field_add.scope s.heap.objs.size (He.fAd K d_Field_add.at_) cdv)).units + 65 < cLine := by have := hr.un; omega
  have nd := sc_Field_add.nd
  have tk : Takes (cxOf (L2.CX P w) P w K mg base ["self", "a", "b"] d_Field_add.qual d_Field_add.scope (He.fAd K d_Field_add.at_) cdv A outer s H E) (fun cls d _ H => E cls d H) := takes_of rfl rfl rfl rfl
  have po : PassesOwn (model P w) (A.deeper (PyProof.Rows.envOfC d_Field_add.qual d_Field_add.scope s.heap.objs.size (He.fAd K d_Field_add.at_) cdv)) (PyProof.Rows.envOfC d_Field_add.qual d_Field_add.scope s.heap.objs.size (He.fAd K d_Field_add.at_) cdv) (cxOf (L2.CX P w) P w K mg base ["self", "a", "b"] d_Field_add.qual d_Field_add.scope (He.fAd K d_Field_add.at_) cdv A outer s H E).xe := PassesOwn.leaving
  exact (dss_one (ds_ret (dx_meth (MtTab.cons ((G_Field_joined).good (hr.mono (by decide))) MtTab.nil) tk (dx_var (i := 0) rfl (.inl rfl)) (da_cons (dx_op od_add (dx_op od_mod (dx_var (i := 1) rfl (.inl rfl)) (dx_fld (fld_p T) (dx_var (i := 0) rfl (.inl rfl)))) (dx_op od_mod (dx_var (i := 2) rfl (.inl rfl)) (dx_fld (fld_p T) (dx_var (i := 0) rfl (.inl rfl))))) (da_cons (dx_op od_add (dx_op od_fdiv (dx_var (i := 1) rfl (.inl rfl)) (dx_fld (fld_p T) (dx_var (i := 0) rfl (.inl rfl)))) (dx_op od_fdiv (dx_var (i := 2) rfl (.inl rfl)) (dx_fld (fld_p T) (dx_var (i := 0) rfl (.inl rfl))))) da_nil)))))
theorem sc_Field_negative : FnScope ["self", "a"] ["self", "a"] d_Field_negative.scope := ⟨rfl, rfl, rfl, by decide +kernel, rfl, by decide +kernel, by decide +kernel⟩
theorem ok_Field_negative (HP : PFile P mfile) (T : Ty fa fn ex K mg) : GdM P w K mg base 0 "negative" 2 F_Field_negative := by
  have G_Field_joined := ok_Field_joined (P := P) (w := w) (base := base) HP T
  obtain ⟨fd, F⟩ := T.says.def_ 7 (d := d_Field_negative) rfl
  refine ⟨_, fd, ["self", "a"], T.cls 6, T.meth 39, fn_pure F sc_Field_negative (fun cdv A outer s H E e0 hr => ?_), F.bindsN fun _ _ _ _ _ _ us hl => match us, hl with | [_, _], _ => rfl, by decide +kernel⟩
  have hu64 := hr.units
  have hu65 : (A.deeper (PyProof.Rows.envOfC d_Field_negative.qual d_Field_negative.scope s.heap.objs.size (He.fAd K d_Field_negative.at_) cdv)).units + 65 < cLine := by have := hr.un; omega
  have nd := sc_Field_negative.nd
  have tk : Takes (cxOf (L2.CX P w) P w K mg base ["self", "a"] d_Field_negative.qual d_Field_negative.scope (He.fAd K d_Field_negative.at_) cdv A outer s H E) (fun cls d _ H => E cls d H) := takes_of rfl rfl rfl rfl
  have po : PassesOwn (model P w) (A.deeper (PyProof.Rows.envOfC d_Field_negative.qual d_Field_negative.scope s.heap.objs.size (He.fAd K d_Field_negative.at_) cdv)) (PyProof.Rows.envOfC d_Field_negative.qual d_Field_negative.scope s.heap.objs.size (He.fAd K d_Field_negative.at_) cdv) (cxOf (L2.CX P w) P w K mg base ["self", "a"] d_Field_negative.qual d_Field_negative.scope (He.fAd K d_Field_negative.at_) cdv A outer s H E).xe := PassesOwn.leaving
  exact (dss_one (ds_ret (dx_meth (MtTab.cons ((G_Field_joined).good (hr.mono (by decide))) MtTab.nil) tk (dx_var (i := 0) rfl (.inl rfl)) (da_cons (dx_un ud_neg (dx_op od_mod (dx_var (i := 1) rfl (.inl rfl)) (dx_fld (fld_p T) (dx_var (i := 0) rfl (.inl rfl))))) (da_cons (dx_un ud_neg (dx_op od_fdiv (dx_var (i := 1) rfl (.inl rfl)) (dx_fld (fld_p T) (dx_var (i := 0) rfl (.inl rfl))))) da_nil)))))
theorem sc_Field_multiply : FnScope ["self", "a", "b", "low", "high", "own", "top", "middle"] ["self", "a", "b"] d_Field_multiply.scope := ⟨rfl, rfl, rfl, by decide +kernel, rfl, by decide +kernel, by decide +kernel⟩
theorem ok_Field_multiply (HP : PFile P mfile) (T : Ty fa fn ex K mg) : GdM P w K mg base 0 "multiply" 2 F_Field_multiply := by
  have G_Field_joined := ok_Field_joined (P := P) (w := w) (base := base) HP T
  obtain ⟨fd, F⟩ := T.says.def_ 8 (d := d_Field_multiply) rfl
  refine ⟨_, fd, ["self", "a", "b"], T.cls 6, T.meth 40, fn_pure F sc_Field_multiply (fun cdv A outer s H E e0 hr => ?_), F.bindsN fun _ _ _ _ _ _ us hl => match us, hl with | [_, _, _], _ => rfl, by decide +kernel⟩
  have hu64 := hr.units
  have hu65 : (A.deeper (PyProof.Rows.envOfC d_Field_multiply.qual d_Field_multiply.scope s.heap.objs.size (He.fAd K d_Field_multiply.at_) cdv)).units + 65 < cLine := by have := hr.un; omega
  have nd := sc_Field_multiply.nd
  have tk : Takes (cxOf (L2.CX P w) P w K mg base ["self", "a", "b", "low", "high", "own", "top", "middle"] d_Field_multiply.qual d_Field_multiply.scope (He.fAd K d_Field_multiply.at_) cdv A outer s H E) (fun cls d _ H => E cls d H) := takes_of rfl rfl rfl rfl
  have po : PassesOwn (model P w) (A.deeper (PyProof.Rows.envOfC d_Field_multiply.qual d_Field_multiply.scope s.heap.objs.size (He.fAd K d_Field_multiply.at_) cdv)) (PyProof.Rows.envOfC d_Field_multiply.qual d_Field_multiply.scope s.heap.objs.size (He.fAd K d_Field_multiply.at_) cdv) (cxOf (L2.CX P w) P w K mg base ["self", "a", "b", "low", "high", "own", "top", "middle"] d_Field_multiply.qual d_Field_multiply.scope (He.fAd K d_Field_multiply.at_) cdv A outer s H E).xe := PassesOwn.leaving
  exact (dss_cons (ds_if (dt_cmp (od_eq hu64) (dx_fld (fld_q T) (dx_var (i := 0) rfl (.inl rfl))) (dx_fld (fld_p T) (dx_var (i := 0) rfl (.inl rfl))) (nomark _)) (dss_one (ds_ret (dx_op od_mod (dx_op od_mul (dx_var (i := 1) rfl (.inl rfl)) (dx_var (i := 2) rfl (.inl rfl))) (dx_fld (fld_p T) (dx_var (i := 0) rfl (.inl rfl)))))) dss_nil) (dss_cons (ds_par rfl nd rfl rfl (by decide) rfl rfl (dx_op od_mod (dx_var (i := 1) rfl (.inl rfl)) (dx_fld (fld_p T) (dx_var (i := 0) rfl (.inl rfl)))) (dx_op od_fdiv (dx_var (i := 1) rfl (.inl rfl)) (dx_fld (fld_p T) (dx_var (i := 0) rfl (.inl rfl))))) (dss_cons (ds_par rfl nd rfl rfl (by decide) rfl rfl (dx_op od_mod (dx_var (i := 2) rfl (.inl rfl)) (dx_fld (fld_p T) (dx_var (i := 0) rfl (.inl rfl)))) (dx_op od_fdiv (dx_var (i := 2) rfl (.inl rfl)) (dx_fld (fld_p T) (dx_var (i := 0) rfl (.inl rfl))))) (dss_cons (ds_set nd rfl (.inl rfl) (dx_op od_add (dx_op od_mul (dx_var (i := 3) rfl (.inl rfl)) (dx_var (i := 6) rfl (.inl rfl))) (dx_op od_mul (dx_var (i := 4) rfl (.inl rfl)) (dx_var (i := 5) rfl (.inl rfl))))) (dss_cons (ds_if (dt_cmp (od_eq hu64) (dx_fld (fld_p T) (dx_var (i := 0) rfl (.inl rfl))) dx_int (nomark _)) (dss_one (ds_ret (dx_meth (MtTab.cons ((G_Field_joined).good (hr.mono (by decide))) MtTab.nil) tk (dx_var (i := 0) rfl (.inl rfl)) (da_cons (dx_op od_add (dx_op od_mul (dx_var (i := 3) rfl (.inl rfl)) (dx_var (i := 5) rfl (.inl rfl))) (dx_op od_mul (dx_var (i := 4) rfl (.inl rfl)) (dx_var (i := 6) rfl (.inl rfl)))) (da_cons (dx_op od_add (dx_var (i := 7) rfl (.inl rfl)) (dx_op od_mul (dx_var (i := 4) rfl (.inl rfl)) (dx_var (i := 6) rfl (.inl rfl)))) da_nil))))) dss_nil) (dss_one (ds_ret (dx_meth (MtTab.cons ((G_Field_joined).good (hr.mono (by decide))) MtTab.nil) tk (dx_var (i := 0) rfl (.inl rfl)) (da_cons (dx_op od_sub (dx_op od_mul (dx_var (i := 3) rfl (.inl rfl)) (dx_var (i := 5) rfl (.inl rfl))) (dx_op od_mul (dx_var (i := 4) rfl (.inl rfl)) (dx_var (i := 6) rfl (.inl rfl)))) (da_cons (dx_var (i := 7) rfl (.inl rfl)) da_nil))))))))))
theorem sc_Field_power : FnScope ["self", "a", "k", "found", "left"] ["self", "a", "k"] d_Field_power.scope := ⟨rfl, rfl, rfl, by decide +kernel, rfl, by decide +kernel, by decide +kernel⟩
theorem ok_Field_power (HP : PFile P mfile) (T : Ty fa fn ex K mg) : GdM P w K mg base 0 "power" 3 F_Field_power := by
  have G_Field_multiply := ok_Field_multiply (P := P) (w := w) (base := base) HP T
  obtain ⟨fd, F⟩ := T.says.def_ 9 (d := d_Field_power) rfl
  refine ⟨_, fd, ["self", "a", "k"], T.cls 6, T.meth 41, fn_pure F sc_Field_power (fun cdv A outer s H E e0 hr => ?_), F.bindsN fun _ _ _ _ _ _ us hl => match us, hl with | [_, _, _], _ => rfl, by decide +kernel⟩
  have hu64 := hr.units
  have hu65 : (A.deeper (PyProof.Rows.envOfC d_Field_power.qual d_Field_power.scope s.heap.objs.size (He.fAd K d_Field_power.at_) cdv)).units + 65 < cLine := by have := hr.un; omega
  have nd := sc_Field_power.nd
  have tk : Takes (cxOf (L2.CX P w) P w K mg base ["self", "a", "k", "found", "left"] d_Field_power.qual d_Field_power.scope (He.fAd K d_Field_power.at_) cdv A outer s H E) (fun cls d _ H => E cls d H) := takes_of rfl rfl rfl rfl
  have po : PassesOwn (model P w) (A.deeper (PyProof.Rows.envOfC d_Field_power.qual d_Field_power.scope s.heap.objs.size (He.fAd K d_Field_power.at_) cdv)) (PyProof.Rows.envOfC d_Field_power.qual d_Field_power.scope s.heap.objs.size (He.fAd K d_Field_power.at_) cdv) (cxOf (L2.CX P w) P w K mg base ["self", "a", "k", "found", "left"] d_Field_power.qual d_Field_power.scope (He.fAd K d_Field_power.at_) cdv A outer s H E).xe := PassesOwn.leaving
  exact (dss_cons (ds_set nd rfl (.inl rfl) dx_int) (dss_cons (ds_set nd rfl (.inl rfl) (dx_var (i := 2) rfl (.inl rfl))) (dss_cons (ds_while 100000 po (dt_cmp od_gt (dx_var (i := 4) rfl (.inl rfl)) dx_int (nomark _)) (dss_cons (ds_if (dt_cmp (od_eq hu64) (dx_op od_mod (dx_var (i := 4) rfl (.inl rfl)) dx_int) dx_int (nomark _)) (dss_one (ds_set nd rfl (.inl rfl) (dx_meth (MtTab.cons ((G_Field_multiply).good (hr.mono (by decide))) MtTab.nil) tk (dx_var (i := 0) rfl (.inl rfl)) (da_cons (dx_var (i := 3) rfl (.inl rfl)) (da_cons (dx_var (i := 1) rfl (.inl rfl)) da_nil))))) dss_nil) (dss_cons (ds_set nd rfl (.inl rfl) (dx_meth (MtTab.cons ((G_Field_multiply).good (hr.mono (by decide))) MtTab.nil) tk (dx_var (i := 0) rfl (.inl rfl)) (da_cons (dx_var (i := 1) rfl (.inl rfl)) (da_cons (dx_var (i := 1) rfl (.inl rfl)) da_nil)))) (dss_one (ds_set nd rfl (.inl rfl) (dx_op od_fdiv (dx_var (i := 4) rfl (.inl rfl)) dx_int)))))) (dss_one (ds_ret (dx_var (i := 3) rfl (.inl rfl)))))))
theorem sc_Field_mirrored : FnScope ["self", "a"] ["self", "a"] d_Field_mirrored.scope := ⟨rfl, rfl, rfl, by decide +kernel, rfl, by decide +kernel, by decide +kernel⟩
theorem ok_Field_mirrored (HP : PFile P mfile) (T : Ty fa fn ex K mg) : GdM P w K mg base 0 "mirrored" 4 F_Field_mirrored := by
  have G_Field_power := ok_Field_power (P := P) (w := w) (base := base) HP T
  obtain ⟨fd, F⟩ := T.says.def_ 10 (d := d_Field_mirrored) rfl
  refine ⟨_, fd, ["self", "a"], T.cls 6, T.meth 42, fn_pure F sc_Field_mirrored (fun cdv A outer s H E e0 hr => ?_), F.bindsN fun _ _ _ _ _ _ us hl => match us, hl with | [_, _], _ => rfl, by decide +kernel⟩
  have hu64 := hr.units
  have hu65 : (A.deeper (PyProof.Rows.envOfC d_Field_mirrored.qual d_Field_mirrored.scope s.heap.objs.size (He.fAd K d_Field_mirrored.at_) cdv)).units + 65 < cLine := by have := hr.un; omega
  have nd := sc_Field_mirrored.nd
  have tk : Takes (cxOf (L2.CX P w) P w K mg base ["self", "a"] d_Field_mirrored.qual d_Field_mirrored.scope (He.fAd K d_Field_mirrored.at_) cdv A outer s H E) (fun cls d _ H => E cls d H) := takes_of rfl rfl rfl rfl
  have po : PassesOwn (model P w) (A.deeper (PyProof.Rows.envOfC d_Field_mirrored.qual d_Field_mirrored.scope s.heap.objs.size (He.fAd K d_Field_mirrored.at_) cdv)) (PyProof.Rows.envOfC d_Field_mirrored.qual d_Field_mirrored.scope s.heap.objs.size (He.fAd K d_Field_mirrored.at_) cdv) (cxOf (L2.CX P w) P w K mg base ["self", "a"] d_Field_mirrored.qual d_Field_mirrored.scope (He.fAd K d_Field_mirrored.at_) cdv A outer s H E).xe := PassesOwn.leaving
  exact (dss_cons (ds_if (dt_cmp (od_eq hu64) (dx_fld (fld_q T) (dx_var (i := 0) rfl (.inl rfl))) (dx_fld (fld_p T) (dx_var (i := 0) rfl (.inl rfl))) (nomark _)) (dss_one (ds_ret (dx_var (i := 1) rfl (.inl rfl)))) dss_nil) (dss_one (ds_ret (dx_meth (MtTab.cons ((G_Field_power).good (hr.mono (by decide))) MtTab.nil) tk (dx_var (i := 0) rfl (.inl rfl)) (da_cons (dx_var (i := 1) rfl (.inl rfl)) (da_cons (dx_fld (fld_p T) (dx_var (i := 0) rfl (.inl rfl))) da_nil))))))
theorem sc_Field_is_fixed : FnScope ["self", "a"] ["self", "a"] d_Field_is_fixed.scope := ⟨rfl, rfl, rfl, by decide +kernel, rfl, by decide +kernel, by decide +kernel⟩
theorem ok_Field_is_fixed (HP : PFile P mfile) (T : Ty fa fn ex K mg) : GdM P w K mg base 0 "is_fixed" 5 F_Field_is_fixed := by
  have G_Field_mirrored := ok_Field_mirrored (P := P) (w := w) (base := base) HP T
  obtain ⟨fd, F⟩ := T.says.def_ 11 (d := d_Field_is_fixed) rfl
  refine ⟨_, fd, ["self", "a"], T.cls 6, T.meth 43, fn_pure F sc_Field_is_fixed (fun cdv A outer s H E e0 hr => ?_), F.bindsN fun _ _ _ _ _ _ us hl => match us, hl with | [_, _], _ => rfl, by decide +kernel⟩
  have hu64 := hr.units
  have hu65 : (A.deeper (PyProof.Rows.envOfC d_Field_is_fixed.qual d_Field_is_fixed.scope s.heap.objs.size (He.fAd K d_Field_is_fixed.at_) cdv)).units + 65 < cLine := by have := hr.un; omega
  have nd := sc_Field_is_fixed.nd
  have tk : Takes (cxOf (L2.CX P w) P w K mg base ["self", "a"] d_Field_is_fixed.qual d_Field_is_fixed.scope (He.fAd K d_Field_is_fixed.at_) cdv A outer s H E) (fun cls d _ H => E cls d H) := takes_of rfl rfl rfl rfl
  have po : PassesOwn (model P w) (A.deeper (PyProof.Rows.envOfC d_Field_is_fixed.qual d_Field_is_fixed.scope s.heap.objs.size (He.fAd K d_Field_is_fixed.at_) cdv)) (PyProof.Rows.envOfC d_Field_is_fixed.qual d_Field_is_fixed.scope s.heap.objs.size (He.fAd K d_Field_is_fixed.at_) cdv) (cxOf (L2.CX P w) P w K mg base ["self", "a"] d_Field_is_fixed.qual d_Field_is_fixed.scope (He.fAd K d_Field_is_fixed.at_) cdv A outer s H E).xe := PassesOwn.leaving
  exact (dss_one (ds_ret (dx_cmp (od_eq hu64) (dx_meth (MtTab.cons ((G_Field_mirrored).good (hr.mono (by decide))) MtTab.nil) tk (dx_var (i := 0) rfl (.inl rfl)) (da_cons (dx_var (i := 1) rfl (.inl rfl)) da_nil)) (dx_var (i := 1) rfl (.inl rfl)) (nomark _))))
theorem sc_is_row : FnScope ["field", "value", "n", "item"] ["field", "value", "n"] d_is_row.scope := ⟨rfl, rfl, rfl, by decide +kernel, rfl, by decide +kernel, by decide +kernel⟩
theorem ok_is_row (HP : PFile P mfile) (T : Ty fa fn ex K mg) : Gd P w K mg base "is_row" 3 F_is_row := by
  have G_Field_is_number := ok_Field_is_number (P := P) (w := w) (base := base) HP T
  obtain ⟨fd, F⟩ := T.says.def_ 12 (d := d_is_row) rfl
  refine ⟨_, fd, ["field", "value", "n"], fn_pure F sc_is_row (fun cdv A outer s H E e0 hr => ?_), (T.glo 44), F.kp, F.bindsN fun _ _ _ _ _ _ us hl => match us, hl with | [_, _, _], _ => rfl⟩
  have hu64 := hr.units
  have hu65 : (A.deeper (PyProof.Rows.envOfC d_is_row.qual d_is_row.scope s.heap.objs.size (He.fAd K d_is_row.at_) cdv)).units + 65 < cLine := by have := hr.un; omega
  have nd := sc_is_row.nd
  have tk : Takes (cxOf (L2.CX P w) P w K mg base ["field", "value", "n", "item"] d_is_row.qual d_is_row.scope (He.fAd K d_is_row.at_) cdv A outer s H E) (fun cls d _ H => E cls d H) := takes_of rfl rfl rfl rfl
  have po : PassesOwn (model P w) (A.deeper (PyProof.Rows.envOfC d_is_row.qual d_is_row.scope s.heap.objs.size (He.fAd K d_is_row.at_) cdv)) (PyProof.Rows.envOfC d_is_row.qual d_is_row.scope s.heap.objs.size (He.fAd K d_is_row.at_) cdv) (cxOf (L2.CX P w) P w K mg base ["field", "value", "n", "item"] d_is_row.qual d_is_row.scope (He.fAd K d_is_row.at_) cdv A outer s H E).xe := PassesOwn.leaving
  exact (dss_one (ds_ret (dx_and (dx_isi isi_ty (pe_bltn (v := .ty "tuple") (by rfl) (T.free 13) (by decide +kernel) rfl) (.ty _) (by rfl) (T.free 1) (by decide +kernel) (dx_var (i := 1) rfl (.inl rfl))) (dx_and (dx_cmp (od_eq hu64) (dx_callB cd_len (by rfl) (T.free 15) (by decide +kernel) (da_cons (dx_var (i := 1) rfl (.inl rfl)) da_nil)) (dx_var (i := 2) rfl (.inl rfl)) (nomark _)) (dx_one (dx_callB (cd_all rfl) (by rfl) (T.free 16) (by decide +kernel) (da_cons (dx_df (df_lc (own := [("item", 3)]) rfl nd (di_seq (dx_var (i := 1) rfl (.inl rfl))) (blkOk_by (by kernel_rfl)) (fun _ _ _ _ _ => (dg_name nd rfl (.inl rfl))) (by decide) (fun _ _ _ _ _ => dts_nil) (fun _ _ _ _ _ => (dx_meth (MtTab.cons ((G_Field_is_number).good (hr.mono (by decide))) MtTab.nil) tkF (dx_var (i := 0) rfl (.inr (.inl rfl))) (da_cons (dx_var (i := 3) rfl (.inl rfl)) da_nil))))) da_nil)))))))
theorem sc_is_row_linear : FnScope ["field", "value", "n", "item"] ["field", "value", "n"] d_is_row_linear.scope := ⟨rfl, rfl, rfl, by decide +kernel, rfl, by decide +kernel, by decide +kernel⟩
theorem ok_is_row_linear (HP : PFile P mfile) (T : Ty fa fn ex K mg) : Gd P w K mg base "is_row_linear" 3 F_is_row := by
  have G_Field_is_number := ok_Field_is_number (P := P) (w := w) (base := base) HP T
  obtain ⟨fd, F⟩ := T.says.def_ 13 (d := d_is_row_linear) rfl
  refine ⟨_, fd, ["field", "value", "n"], fn_pure F sc_is_row_linear (fun cdv A outer s H E e0 hr => ?_), (T.glo 45), F.kp, F.bindsN fun _ _ _ _ _ _ us hl => match us, hl with | [_, _, _], _ => rfl⟩
  have hu64 := hr.units
  have hu65 : (A.deeper (PyProof.Rows.envOfC d_is_row_linear.qual d_is_row_linear.scope s.heap.objs.size (He.fAd K d_is_row_linear.at_) cdv)).units + 65 < cLine := by have := hr.un; omega
  have nd := sc_is_row_linear.nd
  have tk : Takes (cxOf (L2.CX P w) P w K mg base ["field", "value", "n", "item"] d_is_row_linear.qual d_is_row_linear.scope (He.fAd K d_is_row_linear.at_) cdv A outer s H E) (fun cls d _ H => E cls d H) := takes_of rfl rfl rfl rfl
  have po : PassesOwn (model P w) (A.deeper (PyProof.Rows.envOfC d_is_row_linear.qual d_is_row_linear.scope s.heap.objs.size (He.fAd K d_is_row_linear.at_) cdv)) (PyProof.Rows.envOfC d_is_row_linear.qual d_is_row_linear.scope s.heap.objs.size (He.fAd K d_is_row_linear.at_) cdv) (cxOf (L2.CX P w) P w K mg base ["field", "value", "n", "item"] d_is_row_linear.qual d_is_row_linear.scope (He.fAd K d_is_row_linear.at_) cdv A outer s H E).xe := PassesOwn.leaving
  exact (dss_one (ds_ret (dx_and (dx_isi isi_ty (pe_bltn (v := .ty "tuple") (by rfl) (T.free 13) (by decide +kernel) rfl) (.ty _) (by rfl) (T.free 1) (by decide +kernel) (dx_var (i := 1) rfl (.inl rfl))) (dx_and (dx_cmp (od_eq hu64) (dx_callB cd_len (by rfl) (T.free 15) (by decide +kernel) (da_cons (dx_var (i := 1) rfl (.inl rfl)) da_nil)) (dx_var (i := 2) rfl (.inl rfl)) (nomark _)) (dx_one (dx_callB (cd_all rfl) (by rfl) (T.free 16) (by decide +kernel) (da_cons (dx_df (df_lc (own := [("item", 3)]) rfl nd (di_seq (dx_var (i := 1) rfl (.inl rfl))) (blkOk_by (by kernel_rfl)) (fun _ _ _ _ _ => (dg_name nd rfl (.inl rfl))) (by decide) (fun _ _ _ _ _ => dts_nil) (fun _ _ _ _ _ => (dx_meth (MtTab.cons ((G_Field_is_number).good (hr.mono (by decide))) MtTab.nil) tkF (dx_var (i := 0) rfl (.inr (.inl rfl))) (da_cons (dx_var (i := 3) rfl (.inl rfl)) da_nil))))) da_nil)))))))
theorem sc_unit_row : FnScope ["n", "i", "k"] ["n", "i"] d_unit_row.scope := ⟨rfl, rfl, rfl, by decide +kernel, rfl, by decide +kernel, by decide +kernel⟩
theorem ok_unit_row (HP : PFile P mfile) (T : Ty fa fn ex K mg) : Gd P w K mg base "unit_row" 1 F_unit_row := by
  obtain ⟨fd, F⟩ := T.says.def_ 14 (d := d_unit_row) rfl
  refine ⟨_, fd, ["n", "i"], fn_pure F sc_unit_row (fun cdv A outer s H E e0 hr => ?_), (T.glo 46), F.kp, F.bindsN fun _ _ _ _ _ _ us hl => match us, hl with | [_, _], _ => rfl⟩
  have hu64 := hr.units
  have hu65 : (A.deeper (PyProof.Rows.envOfC d_unit_row.qual d_unit_row.scope s.heap.objs.size (He.fAd K d_unit_row.at_) cdv)).units + 65 < cLine := by have := hr.un; omega
  have nd := sc_unit_row.nd
  have tk : Takes (cxOf (L2.CX P w) P w K mg base ["n", "i", "k"] d_unit_row.qual d_unit_row.scope (He.fAd K d_unit_row.at_) cdv A outer s H E) (fun cls d _ H => E cls d H) := takes_of rfl rfl rfl rfl
  have po : PassesOwn (model P w) (A.deeper (PyProof.Rows.envOfC d_unit_row.qual d_unit_row.scope s.heap.objs.size (He.fAd K d_unit_row.at_) cdv)) (PyProof.Rows.envOfC d_unit_row.qual d_unit_row.scope s.heap.objs.size (He.fAd K d_unit_row.at_) cdv) (cxOf (L2.CX P w) P w K mg base ["n", "i", "k"] d_unit_row.qual d_unit_row.scope (He.fAd K d_unit_row.at_) cdv A outer s H E).xe := PassesOwn.leaving
  exact (dss_one (ds_ret (dx_callTy cd_tuple (by rfl) (T.free 13) (by decide +kernel) (da_cons (dx_df (df_lc (own := [("k", 2)]) rfl nd (di_range1 (by rfl) (T.free 14) (da_cons (dx_var (i := 0) rfl (.inl rfl)) da_nil)) (blkOk_by (by kernel_rfl)) (fun _ _ _ _ _ => (dg_name nd rfl (.inl rfl))) (by decide) (fun _ _ _ _ _ => dts_nil) (fun _ _ _ _ _ => (dx_callTy cd_int (by rfl) (T.free 0) (by decide +kernel) (da_cons (dx_cmp (od_eq hu64) (dx_var (i := 2) rfl (.inl rfl)) (dx_var (i := 1) rfl (.inr (.inl rfl))) (nomark _)) da_nil))))) da_nil))))
theorem sc_add : FnScope ["field", "v", "w", "a", "b"] ["field", "v", "w"] d_add.scope := ⟨rfl, rfl, rfl, by decide +kernel, rfl, by decide +kernel, by decide +kernel⟩
theorem ok_add (HP : PFile P mfile) (T : Ty fa fn ex K mg) : Gd P w K mg base "add" 3 F_add := by
  have G_Field_add := ok_Field_add (P := P) (w := w) (base := base) HP T
  obtain ⟨fd, F⟩ := T.says.def_ 15 (d := d_add) rfl
  refine ⟨_, fd, ["field", "v", "w"], fn_pure F sc_add (fun cdv A outer s H E e0 hr => ?_), (T.glo 47), F.kp, F.bindsN fun _ _ _ _ _ _ us hl => match us, hl with | [_, _, _], _ => rfl⟩
  have hu64 := hr.units
  have hu65 : (A.deeper (PyProof.Rows.envOfC d_add.qual d_add.scope s.heap.objs.size (He.fAd K d_add.at_) cdv)).units + 65 < cLine := by have := hr.un; omega
  have nd := sc_add.nd
  have tk : Takes (cxOf (L2.CX P w) P w K mg base ["field", "v", "w", "a", "b"] d_add.qual d_add.scope (He.fAd K d_add.at_) cdv A outer s H E) (fun cls d _ H => E cls d H) := takes_of rfl rfl rfl rfl
  have po : PassesOwn (model P w) (A.deeper (PyProof.Rows.envOfC d_add.qual d_add.scope s.heap.objs.size (He.fAd K d_add.at_) cdv)) (PyProof.Rows.envOfC d_add.qual d_add.scope s.heap.objs.size (He.fAd K d_add.at_) cdv) (cxOf (L2.CX P w) P w K mg base ["field", "v", "w", "a", "b"] d_add.qual d_add.scope (He.fAd K d_add.at_) cdv A outer s H E).xe := PassesOwn.leaving
  exact (dss_one (ds_ret (dx_callTy cd_tuple (by rfl) (T.free 13) (by decide +kernel) (da_cons (dx_df (df_lc (own := [("a", 3), ("b", 4)]) rfl nd (di_zip (by rfl) (T.free 17) (da_cons (dx_var (i := 1) rfl (.inl rfl)) (da_cons (dx_var (i := 2) rfl (.inl rfl)) da_nil))) (blkOk_by (by kernel_rfl)) (fun _ _ _ _ _ => (dg_tup rfl (dgs_cons (dg_name nd rfl (.inl rfl)) (dgs_cons (dg_name nd rfl (.inl rfl)) dgs_nil)))) (by decide) (fun _ _ _ _ _ => dts_nil) (fun _ _ _ _ _ => (dx_meth (MtTab.cons ((G_Field_add).good (hr.mono (by decide))) MtTab.nil) tkF (dx_var (i := 0) rfl (.inr (.inl rfl))) (da_cons (dx_var (i := 3) rfl (.inl rfl)) (da_cons (dx_var (i := 4) rfl (.inl rfl)) da_nil)))))) da_nil))))
theorem sc_scaled_linear : FnScope ["field", "v", "c", "a"] ["field", "v", "c"] d_scaled_linear.scope := ⟨rfl, rfl, rfl, by decide +kernel, rfl, by decide +kernel, by decide +kernel⟩
theorem ok_scaled_linear (HP : PFile P mfile) (T : Ty fa fn ex K mg) : Gd P w K mg base "scaled_linear" 3 F_scaled := by
  have G_Field_multiply := ok_Field_multiply (P := P) (w := w) (base := base) HP T
  obtain ⟨fd, F⟩ := T.says.def_ 16 (d := d_scaled_linear) rfl
  refine ⟨_, fd, ["field", "v", "c"], fn_pure F sc_scaled_linear (fun cdv A outer s H E e0 hr => ?_), (T.glo 48), F.kp, F.bindsN fun _ _ _ _ _ _ us hl => match us, hl with | [_, _, _], _ => rfl⟩
  have hu64 := hr.units
  have hu65 : (A.deeper (PyProof.Rows.envOfC d_scaled_linear.qual d_scaled_linear.scope s.heap.objs.size (He.fAd K d_scaled_linear.at_) cdv)).units + 65 < cLine := by have := hr.un; omega
  have nd := sc_scaled_linear.nd
  have tk : Takes (cxOf (L2.CX P w) P w K mg base ["field", "v", "c", "a"] d_scaled_linear.qual d_scaled_linear.scope (He.fAd K d_scaled_linear.at_) cdv A outer s H E) (fun cls d _ H => E cls d H) := takes_of rfl rfl rfl rfl
  have po : PassesOwn (model P w) (A.deeper (PyProof.Rows.envOfC d_scaled_linear.qual d_scaled_linear.scope s.heap.objs.size (He.fAd K d_scaled_linear.at_) cdv)) (PyProof.Rows.envOfC d_scaled_linear.qual d_scaled_linear.scope s.heap.objs.size (He.fAd K d_scaled_linear.at_) cdv) (cxOf (L2.CX P w) P w K mg base ["field", "v", "c", "a"] d_scaled_linear.qual d_scaled_linear.scope (He.fAd K d_scaled_linear.at_) cdv A outer s H E).xe := PassesOwn.leaving
  exact (dss_one (ds_ret (dx_callTy cd_tuple (by rfl) (T.free 13) (by decide +kernel) (da_cons (dx_df (df_lc (own := [("a", 3)]) rfl nd (di_seq (dx_var (i := 1) rfl (.inl rfl))) (blkOk_by (by kernel_rfl)) (fun _ _ _ _ _ => (dg_name nd rfl (.inl rfl))) (by decide) (fun _ _ _ _ _ => dts_nil) (fun _ _ _ _ _ => (dx_meth (MtTab.cons ((G_Field_multiply).good (hr.mono (by decide))) MtTab.nil) tkF (dx_var (i := 0) rfl (.inr (.inl rfl))) (da_cons (dx_var (i := 3) rfl (.inl rfl)) (da_cons (dx_var (i := 2) rfl (.inr (.inl rfl))) da_nil)))))) da_nil))))
theorem sc_dot : FnScope ["field", "v", "w", "found", "a", "b"] ["field", "v", "w"] d_dot.scope := ⟨rfl, rfl, rfl, by decide +kernel, rfl, by decide +kernel, by decide +kernel⟩
theorem ok_dot (HP : PFile P mfile) (T : Ty fa fn ex K mg) : Gd P w K mg base "dot" 3 F_dot := by
  have G_Field_add := ok_Field_add (P := P) (w := w) (base := base) HP T
  have G_Field_multiply := ok_Field_multiply (P := P) (w := w) (base := base) HP T
  obtain ⟨fd, F⟩ := T.says.def_ 17 (d := d_dot) rfl
  refine ⟨_, fd, ["field", "v", "w"], fn_pure F sc_dot (fun cdv A outer s H E e0 hr => ?_), (T.glo 49), F.kp, F.bindsN fun _ _ _ _ _ _ us hl => match us, hl with | [_, _, _], _ => rfl⟩
  have hu64 := hr.units
  have hu65 : (A.deeper (PyProof.Rows.envOfC d_dot.qual d_dot.scope s.heap.objs.size (He.fAd K d_dot.at_) cdv)).units + 65 < cLine := by have := hr.un; omega
  have nd := sc_dot.nd
  have tk : Takes (cxOf (L2.CX P w) P w K mg base ["field", "v", "w", "found", "a", "b"] d_dot.qual d_dot.scope (He.fAd K d_dot.at_) cdv A outer s H E) (fun cls d _ H => E cls d H) := takes_of rfl rfl rfl rfl
  have po : PassesOwn (model P w) (A.deeper (PyProof.Rows.envOfC d_dot.qual d_dot.scope s.heap.objs.size (He.fAd K d_dot.at_) cdv)) (PyProof.Rows.envOfC d_dot.qual d_dot.scope s.heap.objs.size (He.fAd K d_dot.at_) cdv) (cxOf (L2.CX P w) P w K mg base ["field", "v", "w", "found", "a", "b"] d_dot.qual d_dot.scope (He.fAd K d_dot.at_) cdv A outer s H E).xe := PassesOwn.leaving
  exact (dss_cons (ds_set nd rfl (.inl rfl) dx_int) (dss_cons (ds_for po rfl (di_zip (by rfl) (T.free 17) (da_cons (dx_var (i := 1) rfl (.inl rfl)) (da_cons (dx_var (i := 2) rfl (.inl rfl)) da_nil))) (dg_tup rfl (dgs_cons (dg_name nd rfl (.inl rfl)) (dgs_cons (dg_name nd rfl (.inl rfl)) dgs_nil))) (dss_one (ds_set nd rfl (.inl rfl) (dx_meth (MtTab.cons ((G_Field_add).good (hr.mono (by decide))) MtTab.nil) tk (dx_var (i := 0) rfl (.inl rfl)) (da_cons (dx_var (i := 3) rfl (.inl rfl)) (da_cons (dx_meth (MtTab.cons ((G_Field_multiply).good (hr.mono (by decide))) MtTab.nil) tk (dx_var (i := 0) rfl (.inl rfl)) (da_cons (dx_var (i := 4) rfl (.inl rfl)) (da_cons (dx_var (i := 5) rfl (.inl rfl)) da_nil))) da_nil)))))) (dss_one (ds_ret (dx_var (i := 3) rfl (.inl rfl))))))
theorem sc_combine : FnScope ["field", "rows", "weights", "width", "found", "row", "c"] ["field", "rows", "weights", "width"] d_combine.scope := ⟨rfl, rfl, rfl, by decide +kernel, rfl, by decide +kernel, by decide +kernel⟩
theorem ok_combine (HP : PFile P mfile) (T : Ty fa fn ex K mg) : Gd P w K mg base "combine" 4 F_combine := by
  have G_add := ok_add (P := P) (w := w) (base := base) HP T
  have G_scaled_linear := ok_scaled_linear (P := P) (w := w) (base := base) HP T
  obtain ⟨fd, F⟩ := T.says.def_ 18 (d := d_combine) rfl
  refine ⟨_, fd, ["field", "rows", "weights", "width"], fn_pure F sc_combine (fun cdv A outer s H E e0 hr => ?_), (T.glo 50), F.kp, F.bindsN fun _ _ _ _ _ _ us hl => match us, hl with | [_, _, _, _], _ => rfl⟩
  have hu64 := hr.units
  have hu65 : (A.deeper (PyProof.Rows.envOfC d_combine.qual d_combine.scope s.heap.objs.size (He.fAd K d_combine.at_) cdv)).units + 65 < cLine := by have := hr.un; omega
  have nd := sc_combine.nd
  have tk : Takes (cxOf (L2.CX P w) P w K mg base ["field", "rows", "weights", "width", "found", "row", "c"] d_combine.qual d_combine.scope (He.fAd K d_combine.at_) cdv A outer s H E) (fun cls d _ H => E cls d H) := takes_of rfl rfl rfl rfl
  have po : PassesOwn (model P w) (A.deeper (PyProof.Rows.envOfC d_combine.qual d_combine.scope s.heap.objs.size (He.fAd K d_combine.at_) cdv)) (PyProof.Rows.envOfC d_combine.qual d_combine.scope s.heap.objs.size (He.fAd K d_combine.at_) cdv) (cxOf (L2.CX P w) P w K mg base ["field", "rows", "weights", "width", "found", "row", "c"] d_combine.qual d_combine.scope (He.fAd K d_combine.at_) cdv A outer s H E).xe := PassesOwn.leaving
  exact (dss_cons (ds_set nd rfl (.inl rfl) (dx_callTy cd_tuple (by rfl) (T.free 13) (by decide +kernel) (da_cons (dx_op od_mul (dx_lst (da_cons dx_int da_nil)) (dx_var (i := 3) rfl (.inl rfl))) da_nil))) (dss_cons (ds_for po rfl (di_zip (by rfl) (T.free 17) (da_cons (dx_var (i := 1) rfl (.inl rfl)) (da_cons (dx_var (i := 2) rfl (.inl rfl)) da_nil))) (dg_tup rfl (dgs_cons (dg_name nd rfl (.inl rfl)) (dgs_cons (dg_name nd rfl (.inl rfl)) dgs_nil))) (dss_one (ds_set nd rfl (.inl rfl) (dx_call ((G_add).good (hr.mono (by decide))) tk (by rfl) (da_cons (dx_var (i := 0) rfl (.inl rfl)) (da_cons (dx_var (i := 4) rfl (.inl rfl)) (da_cons (dx_call ((G_scaled_linear).good (hr.mono (by decide))) tk (by rfl) (da_cons (dx_var (i := 0) rfl (.inl rfl)) (da_cons (dx_var (i := 5) rfl (.inl rfl)) (da_cons (dx_var (i := 6) rfl (.inl rfl)) da_nil)))) da_nil))))))) (dss_one (ds_ret (dx_var (i := 4) rfl (.inl rfl))))))
theorem sc_identity : FnScope ["n", "i"] ["n"] d_identity.scope := ⟨rfl, rfl, rfl, by decide +kernel, rfl, by decide +kernel, by decide +kernel⟩
theorem ok_identity (HP : PFile P mfile) (T : Ty fa fn ex K mg) : Gd P w K mg base "identity" 2 F_identity := by
  have G_unit_row := ok_unit_row (P := P) (w := w) (base := base) HP T
  obtain ⟨fd, F⟩ := T.says.def_ 19 (d := d_identity) rfl
  refine ⟨_, fd, ["n"], fn_pure F sc_identity (fun cdv A outer s H E e0 hr => ?_), (T.glo 51), F.kp, F.bindsN fun _ _ _ _ _ _ us hl => match us, hl with | [_], _ => rfl⟩
  have hu64 := hr.units
  have hu65 : (A.deeper (PyProof.Rows.envOfC d_identity.qual d_identity.scope s.heap.objs.size (He.fAd K d_identity.at_) cdv)).units + 65 < cLine := by have := hr.un; omega
  have nd := sc_identity.nd
  have tk : Takes (cxOf (L2.CX P w) P w K mg base ["n", "i"] d_identity.qual d_identity.scope (He.fAd K d_identity.at_) cdv A outer s H E) (fun cls d _ H => E cls d H) := takes_of rfl rfl rfl rfl
  have po : PassesOwn (model P w) (A.deeper (PyProof.Rows.envOfC d_identity.qual d_identity.scope s.heap.objs.size (He.fAd K d_identity.at_) cdv)) (PyProof.Rows.envOfC d_identity.qual d_identity.scope s.heap.objs.size (He.fAd K d_identity.at_) cdv) (cxOf (L2.CX P w) P w K mg base ["n", "i"] d_identity.qual d_identity.scope (He.fAd K d_identity.at_) cdv A outer s H E).xe := PassesOwn.leaving
  exact (dss_one (ds_ret (dx_callTy cd_tuple (by rfl) (T.free 13) (by decide +kernel) (da_cons (dx_df (df_lc (own := [("i", 1)]) rfl nd (di_range1 (by rfl) (T.free 14) (da_cons (dx_var (i := 0) rfl (.inr (.inl rfl))) da_nil)) (blkOk_by (by kernel_rfl)) (fun _ _ _ _ _ => (dg_name nd rfl (.inl rfl))) (by decide) (fun _ _ _ _ _ => dts_nil) (fun _ _ _ _ _ => (dx_call ((G_unit_row).good (hr.mono (by decide))) tkF (by rfl) (da_cons (dx_var (i := 0) rfl (.inr (.inl rfl))) (da_cons (dx_var (i := 1) rfl (.inl rfl)) da_nil)))))) da_nil))))
theorem sc_check_kind : FnScope ["kind", "q"] ["kind", "q"] d_check_kind.scope := ⟨rfl, rfl, rfl, by decide +kernel, rfl, by decide +kernel, by decide +kernel⟩
theorem ok_check_kind (HP : PFile P mfile) (T : Ty fa fn ex K mg) : Gd P w K mg base "check_kind" 2 F_check_kind := by
  have G_is_integer := ok_is_integer (P := P) (w := w) (base := base) HP T
  obtain ⟨fd, F⟩ := T.says.def_ 20 (d := d_check_kind) rfl
  refine ⟨_, fd, ["kind", "q"], fn_pure F sc_check_kind (fun cdv A outer s H E e0 hr => ?_), (T.glo 52), F.kp, F.bindsN fun _ _ _ _ _ _ us hl => match us, hl with | [_, _], _ => rfl⟩
  have hu64 := hr.units
  have hu65 : (A.deeper (PyProof.Rows.envOfC d_check_kind.qual d_check_kind.scope s.heap.objs.size (He.fAd K d_check_kind.at_) cdv)).units + 65 < cLine := by have := hr.un; omega
  have nd := sc_check_kind.nd
  have tk : Takes (cxOf (L2.CX P w) P w K mg base ["kind", "q"] d_check_kind.qual d_check_kind.scope (He.fAd K d_check_kind.at_) cdv A outer s H E) (fun cls d _ H => E cls d H) := takes_of rfl rfl rfl rfl
  have po : PassesOwn (model P w) (A.deeper (PyProof.Rows.envOfC d_check_kind.qual d_check_kind.scope s.heap.objs.size (He.fAd K d_check_kind.at_) cdv)) (PyProof.Rows.envOfC d_check_kind.qual d_check_kind.scope s.heap.objs.size (He.fAd K d_check_kind.at_) cdv) (cxOf (L2.CX P w) P w K mg base ["kind", "q"] d_check_kind.qual d_check_kind.scope (He.fAd K d_check_kind.at_) cdv A outer s H E).xe := PassesOwn.leaving
  exact (dss_cons (ds_if (dt_w (dw_or (dt_not (dt_val (dx_isi isi_ty (pe_bltn (v := .ty "str") (by rfl) (T.free 18) (by decide +kernel) rfl) (.ty _) (by rfl) (T.free 1) (by decide +kernel) (dx_var (i := 0) rfl (.inl rfl))))) (dw_one (dt_cmp (od_notIn hu65) (dx_var (i := 0) rfl (.inl rfl)) (dx_glTup (by rfl) (T.glo 19) (ex_tup_KINDS T) rfl) (by rfl))))) (dss_one (ds_raise (c := 0) rfl rfl (T.exc 4).1 (T.glo 5) (T.exc 4).2.1 (T.exc 4).2.2.1 (T.exc 4).2.2.2 (by rfl) (by rfl) tk)) dss_nil) (dss_cons (ds_if (dt_w (dw_or (dt_not (dt_val (dx_call ((G_is_integer).good (hr.mono (by decide))) tk (by rfl) (da_cons (dx_var (i := 1) rfl (.inl rfl)) da_nil)))) (dw_one (dt_cmp (od_notIn hu65) (dx_var (i := 1) rfl (.inl rfl)) (dx_glTup (by rfl) (T.glo 20) (ex_tup_SIZES_space T) rfl) (by rfl))))) (dss_one (ds_raise (c := 0) rfl rfl (T.exc 4).1 (T.glo 5) (T.exc 4).2.1 (T.exc 4).2.2.1 (T.exc 4).2.2.2 (by rfl) (by rfl) tk)) dss_nil) (dss_one (ds_if (dt_w (dw_and (dt_cmp (od_eq hu64) (dx_var (i := 0) rfl (.inl rfl)) dx_str (nomark _)) (dw_one (dt_cmp (od_notIn hu65) (dx_var (i := 1) rfl (.inl rfl)) (dx_tup (da_cons dx_int (da_cons dx_int da_nil))) (by rfl))))) (dss_one (ds_raise (c := 0) rfl rfl (T.exc 4).1 (T.glo 5) (T.exc 4).2.1 (T.exc 4).2.2.1 (T.exc 4).2.2.2 (by rfl) (by rfl) tk)) dss_nil))))
theorem sc_taken : FnScope ["field", "matrix", "size", "row", "item"] ["field", "matrix"] d_taken.scope := ⟨rfl, rfl, rfl, by decide +kernel, rfl, by decide +kernel, by decide +kernel⟩
theorem ok_taken (HP : PFile P mfile) (T : Ty fa fn ex K mg) : Gd P w K mg base "taken" 3 F_taken := by
  have G_Field_is_number := ok_Field_is_number (P := P) (w := w) (base := base) HP T
  obtain ⟨fd, F⟩ := T.says.def_ 21 (d := d_taken) rfl
  refine ⟨_, fd, ["field", "matrix"], fn_pure F sc_taken (fun cdv A outer s H E e0 hr => ?_), (T.glo 53), F.kp, F.bindsN fun _ _ _ _ _ _ us hl => match us, hl with | [_, _], _ => rfl⟩
  have hu64 := hr.units
  have hu65 : (A.deeper (PyProof.Rows.envOfC d_taken.qual d_taken.scope s.heap.objs.size (He.fAd K d_taken.at_) cdv)).units + 65 < cLine := by have := hr.un; omega
  have nd := sc_taken.nd
  have tk : Takes (cxOf (L2.CX P w) P w K mg base ["field", "matrix", "size", "row", "item"] d_taken.qual d_taken.scope (He.fAd K d_taken.at_) cdv A outer s H E) (fun cls d _ H => E cls d H) := takes_of rfl rfl rfl rfl
  have po : PassesOwn (model P w) (A.deeper (PyProof.Rows.envOfC d_taken.qual d_taken.scope s.heap.objs.size (He.fAd K d_taken.at_) cdv)) (PyProof.Rows.envOfC d_taken.qual d_taken.scope s.heap.objs.size (He.fAd K d_taken.at_) cdv) (cxOf (L2.CX P w) P w K mg base ["field", "matrix", "size", "row", "item"] d_taken.qual d_taken.scope (He.fAd K d_taken.at_) cdv A outer s H E).xe := PassesOwn.leaving
  exact (dss_cons (ds_if (dt_not (dt_val (dx_isi2 (pe_bltn (v := .ty "list") (by rfl) (T.free 21) (by decide +kernel) rfl) (pe_bltn (v := .ty "tuple") (by rfl) (T.free 13) (by decide +kernel) rfl) (by rfl) (T.free 1) (by decide +kernel) (dx_var (i := 1) rfl (.inl rfl))))) (dss_one (ds_raise (c := 0) rfl rfl (T.exc 4).1 (T.glo 5) (T.exc 4).2.1 (T.exc 4).2.2.1 (T.exc 4).2.2.2 (by rfl) (by rfl) tk)) dss_nil) (dss_cons (ds_set nd rfl (.inl rfl) (dx_callB cd_len (by rfl) (T.free 15) (by decide +kernel) (da_cons (dx_var (i := 1) rfl (.inl rfl)) da_nil))) (dss_cons (ds_for po rfl (di_seq (dx_var (i := 1) rfl (.inl rfl))) (dg_name nd rfl (.inl rfl)) (dss_cons (ds_if (dt_w (dw_or (dt_not (dt_val (dx_isi2 (pe_bltn (v := .ty "list") (by rfl) (T.free 21) (by decide +kernel) rfl) (pe_bltn (v := .ty "tuple") (by rfl) (T.free 13) (by decide +kernel) rfl) (by rfl) (T.free 1) (by decide +kernel) (dx_var (i := 3) rfl (.inl rfl))))) (dw_one (dt_cmp (od_ne hu64) (dx_callB cd_len (by rfl) (T.free 15) (by decide +kernel) (da_cons (dx_var (i := 3) rfl (.inl rfl)) da_nil)) (dx_var (i := 2) rfl (.inl rfl)) (nomark _))))) (dss_one (ds_raise (c := 0) rfl rfl (T.exc 4).1 (T.glo 5) (T.exc 4).2.1 (T.exc 4).2.2.1 (T.exc 4).2.2.2 (by rfl) (by rfl) tk)) dss_nil) (dss_one (ds_if (dt_not (dt_val (dx_callB (cd_all rfl) (by rfl) (T.free 16) (by decide +kernel) (da_cons (dx_df (df_lc (own := [("item", 4)]) rfl nd (di_seq (dx_var (i := 3) rfl (.inl rfl))) (blkOk_by (by kernel_rfl)) (fun _ _ _ _ _ => (dg_name nd rfl (.inl rfl))) (by decide) (fun _ _ _ _ _ => dts_nil) (fun _ _ _ _ _ => (dx_meth (MtTab.cons ((G_Field_is_number).good (hr.mono (by decide))) MtTab.nil) tkF (dx_var (i := 0) rfl (.inr (.inl rfl))) (da_cons (dx_var (i := 4) rfl (.inl rfl)) da_nil))))) da_nil)))) (dss_one (ds_raise (c := 0) rfl rfl (T.exc 4).1 (T.glo 5) (T.exc 4).2.1 (T.exc 4).2.2.1 (T.exc 4).2.2.2 (by rfl) (by rfl) tk)) dss_nil)))) (dss_one (ds_ret (dx_callTy cd_tuple (by rfl) (T.free 13) (by decide +kernel) (da_cons (dx_df (df_lc (own := [("row", 3)]) rfl nd (di_seq (dx_var (i := 1) rfl (.inl rfl))) (blkOk_by (by kernel_rfl)) (fun _ _ _ _ _ => (dg_name nd rfl (.inl rfl))) (by decide) (fun _ _ _ _ _ => dts_nil) (fun _ _ _ _ _ => (dx_callTy cd_tuple (by rfl) (T.free 13) (by decide +kernel) (da_cons (dx_var (i := 3) rfl (.inl rfl)) da_nil))))) da_nil)))))))
theorem sc_has_form : FnScope ["field", "kind", "rows", "i", "j", "one", "two"] ["field", "kind", "rows"] d_has_form.scope := ⟨rfl, rfl, rfl, by decide +kernel, rfl, by decide +kernel, by decide +kernel⟩
theorem ok_has_form (HP : PFile P mfile) (T : Ty fa fn ex K mg) : Gd P w K mg base "has_form" 5 F_has_form := by
  have G_Field_mirrored := ok_Field_mirrored (P := P) (w := w) (base := base) HP T
  have G_Field_negative := ok_Field_negative (P := P) (w := w) (base := base) HP T
  obtain ⟨fd, F⟩ := T.says.def_ 22 (d := d_has_form) rfl
  refine ⟨_, fd, ["field", "kind", "rows"], fn_pure F sc_has_form (fun cdv A outer s H E e0 hr => ?_), (T.glo 54), F.kp, F.bindsN fun _ _ _ _ _ _ us hl => match us, hl with | [_, _, _], _ => rfl⟩
  have hu64 := hr.units
  have hu65 : (A.deeper (PyProof.Rows.envOfC d_has_form.qual d_has_form.scope s.heap.objs.size (He.fAd K d_has_form.at_) cdv)).units + 65 < cLine := by have := hr.un; omega
  have nd := sc_has_form.nd
  have tk : Takes (cxOf (L2.CX P w) P w K mg base ["field", "kind", "rows", "i", "j", "one", "two"] d_has_form.qual d_has_form.scope (He.fAd K d_has_form.at_) cdv A outer s H E) (fun cls d _ H => E cls d H) := takes_of rfl rfl rfl rfl
  have po : PassesOwn (model P w) (A.deeper (PyProof.Rows.envOfC d_has_form.qual d_has_form.scope s.heap.objs.size (He.fAd K d_has_form.at_) cdv)) (PyProof.Rows.envOfC d_has_form.qual d_has_form.scope s.heap.objs.size (He.fAd K d_has_form.at_) cdv) (cxOf (L2.CX P w) P w K mg base ["field", "kind", "rows", "i", "j", "one", "two"] d_has_form.qual d_has_form.scope (He.fAd K d_has_form.at_) cdv A outer s H E).xe := PassesOwn.leaving
  exact (dss_cons (ds_for po rfl (di_range1 (by rfl) (T.free 14) (da_cons (dx_callB cd_len (by rfl) (T.free 15) (by decide +kernel) (da_cons (dx_var (i := 2) rfl (.inl rfl)) da_nil)) da_nil)) (dg_name nd rfl (.inl rfl)) (dss_cons (ds_if (dt_w (dw_and (dt_cmp (od_eq hu64) (dx_var (i := 1) rfl (.inl rfl)) dx_str (nomark _)) (dw_one (dt_cmp (od_ne hu64) (dx_ix ixd (dx_ix ixd (dx_var (i := 2) rfl (.inl rfl)) (dx_var (i := 3) rfl (.inl rfl))) (dx_var (i := 3) rfl (.inl rfl))) dx_int (nomark _))))) (dss_one (ds_ret dx_bl)) dss_nil) (dss_one (ds_for po rfl (di_range1 (by rfl) (T.free 14) (da_cons (dx_op od_add (dx_var (i := 3) rfl (.inl rfl)) dx_int) da_nil)) (dg_name nd rfl (.inl rfl)) (dss_cons (ds_par rfl nd rfl rfl (by decide) rfl rfl (dx_ix ixd (dx_ix ixd (dx_var (i := 2) rfl (.inl rfl)) (dx_var (i := 4) rfl (.inl rfl))) (dx_var (i := 3) rfl (.inl rfl))) (dx_ix ixd (dx_ix ixd (dx_var (i := 2) rfl (.inl rfl)) (dx_var (i := 3) rfl (.inl rfl))) (dx_var (i := 4) rfl (.inl rfl)))) (dss_cons (ds_if (dt_w (dw_and (dt_cmp (od_eq hu64) (dx_var (i := 1) rfl (.inl rfl)) dx_str (nomark _)) (dw_one (dt_cmp (od_ne hu64) (dx_var (i := 6) rfl (.inl rfl)) (dx_meth (MtTab.cons ((G_Field_negative).good (hr.mono (by decide))) MtTab.nil) tk (dx_var (i := 0) rfl (.inl rfl)) (da_cons (dx_var (i := 5) rfl (.inl rfl)) da_nil)) (nomark _))))) (dss_one (ds_ret dx_bl)) dss_nil) (dss_cons (ds_if (dt_w (dw_and (dt_cmp (od_eq hu64) (dx_var (i := 1) rfl (.inl rfl)) dx_str (nomark _)) (dw_one (dt_cmp (od_ne hu64) (dx_var (i := 6) rfl (.inl rfl)) (dx_meth (MtTab.cons ((G_Field_mirrored).good (hr.mono (by decide))) MtTab.nil) tk (dx_var (i := 0) rfl (.inl rfl)) (da_cons (dx_var (i := 5) rfl (.inl rfl)) da_nil)) (nomark _))))) (dss_one (ds_ret dx_bl)) dss_nil) (dss_one (ds_if (dt_w (dw_and (dt_cmp (od_eq hu64) (dx_var (i := 1) rfl (.inl rfl)) dx_str (nomark _)) (dw_and (dt_cmp od_lt (dx_var (i := 4) rfl (.inl rfl)) (dx_var (i := 3) rfl (.inl rfl)) (nomark _)) (dw_one (dt_cmp (od_ne hu64) (dx_var (i := 6) rfl (.inl rfl)) dx_int (nomark _)))))) (dss_one (ds_ret dx_bl)) dss_nil))))))))) (dss_one (ds_ret dx_bl)))
theorem sc_gram_of : FnScope ["field", "kind", "rows", "size", "i", "j"] ["field", "kind", "rows"] d_gram_of.scope := ⟨rfl, rfl, rfl, by decide +kernel, rfl, by decide +kernel, by decide +kernel⟩
theorem ok_gram_of (HP : PFile P mfile) (T : Ty fa fn ex K mg) : Gd P w K mg base "gram_of" 3 F_gram_of := by
  have G_Field_add := ok_Field_add (P := P) (w := w) (base := base) HP T
  obtain ⟨fd, F⟩ := T.says.def_ 23 (d := d_gram_of) rfl
  refine ⟨_, fd, ["field", "kind", "rows"], fn_pure F sc_gram_of (fun cdv A outer s H E e0 hr => ?_), (T.glo 55), F.kp, F.bindsN fun _ _ _ _ _ _ us hl => match us, hl with | [_, _, _], _ => rfl⟩
  have hu64 := hr.units
  have hu65 : (A.deeper (PyProof.Rows.envOfC d_gram_of.qual d_gram_of.scope s.heap.objs.size (He.fAd K d_gram_of.at_) cdv)).units + 65 < cLine := by have := hr.un; omega
  have nd := sc_gram_of.nd
  have tk : Takes (cxOf (L2.CX P w) P w K mg base ["field", "kind", "rows", "size", "i", "j"] d_gram_of.qual d_gram_of.scope (He.fAd K d_gram_of.at_) cdv A outer s H E) (fun cls d _ H => E cls d H) := takes_of rfl rfl rfl rfl
  have po : PassesOwn (model P w) (A.deeper (PyProof.Rows.envOfC d_gram_of.qual d_gram_of.scope s.heap.objs.size (He.fAd K d_gram_of.at_) cdv)) (PyProof.Rows.envOfC d_gram_of.qual d_gram_of.scope s.heap.objs.size (He.fAd K d_gram_of.at_) cdv) (cxOf (L2.CX P w) P w K mg base ["field", "kind", "rows", "size", "i", "j"] d_gram_of.qual d_gram_of.scope (He.fAd K d_gram_of.at_) cdv A outer s H E).xe := PassesOwn.leaving
  exact (dss_cons (ds_if (dt_cmp (od_ne hu64) (dx_var (i := 1) rfl (.inl rfl)) dx_str (nomark _)) (dss_one (ds_ret (dx_var (i := 2) rfl (.inr (.inl rfl))))) dss_nil) (dss_cons (ds_set nd rfl (.inr rfl) (dx_callB cd_len (by rfl) (T.free 15) (by decide +kernel) (da_cons (dx_var (i := 2) rfl (.inr (.inl rfl))) da_nil))) (dss_one (ds_ret (dx_callTy cd_tuple (by rfl) (T.free 13) (by decide +kernel) (da_cons (dx_df (df_lc (own := [("i", 4)]) rfl nd (di_range1 (by rfl) (T.free 14) (da_cons (dx_var (i := 3) rfl (.inr (.inl rfl))) da_nil)) (blkOk_by (by kernel_rfl)) (fun _ _ _ _ _ => (dg_name nd rfl (.inr rfl))) (by decide) (fun _ _ _ _ _ => dts_nil) (fun _ _ _ _ _ => (dx_callTy cd_tuple (by rfl) (T.free 13) (by decide +kernel) (da_cons (dx_df (df_lc (own := [("j", 5)]) rfl nd (di_range1 (by rfl) (T.free 14) (da_cons (dx_var (i := 3) rfl (.inr (.inl rfl))) da_nil)) (blkOk_by (by kernel_rfl)) (fun _ _ _ _ _ => (dg_name nd rfl (.inl rfl))) (by decide) (fun _ _ _ _ _ => dts_nil) (fun _ _ _ _ _ => (dx_meth (MtTab.cons ((G_Field_add).good (hr.mono (by decide))) MtTab.nil) tkF (dx_var (i := 0) rfl (.inr (.inl rfl))) (da_cons (dx_ix ixd (dx_ix ixd (dx_var (i := 2) rfl (.inr (.inl rfl))) (dx_var (i := 4) rfl (.inr (.inl rfl)))) (dx_var (i := 5) rfl (.inl rfl))) (da_cons (dx_ix ixd (dx_ix ixd (dx_var (i := 2) rfl (.inr (.inl rfl))) (dx_var (i := 5) rfl (.inl rfl))) (dx_var (i := 4) rfl (.inr (.inl rfl)))) da_nil)))))) da_nil))))) da_nil))))))
theorem sc_Space___init__ : FnScope ["self", "kind", "q", "matrix", "field", "rows"] ["self", "kind", "q", "matrix"] d_Space___init__.scope := ⟨rfl, rfl, rfl, by decide +kernel, rfl, by decide +kernel, by decide +kernel⟩
theorem ok_Space___init__ (HP : PFile P mfile) (T : Ty fa fn ex K mg) : GdI P w K mg base 1 6 F_Space___init__ := by
  have G_Field___init__ := ok_Field___init__ (P := P) (w := w) (base := base) HP T
  have G_check_kind := ok_check_kind (P := P) (w := w) (base := base) HP T
  have G_gram_of := ok_gram_of (P := P) (w := w) (base := base) HP T
  have G_has_form := ok_has_form (P := P) (w := w) (base := base) HP T
  have G_taken := ok_taken (P := P) (w := w) (base := base) HP T
  obtain ⟨fd, F⟩ := T.says.def_ 24 (d := d_Space___init__) rfl
  refine ⟨_, fd, ["self", "kind", "q", "matrix"], T.mkr 56, fn_init (by decide) (by decide) F sc_Space___init__ (fun cdv A outer s H E e0 hr => ?_), (T.glo 30), F.bindsN fun _ _ _ _ _ _ us hl => match us, hl with | [_, _, _, _], _ => rfl⟩
  have hu64 := hr.units
  have hu65 : (A.deeper (PyProof.Rows.envOfC d_Space___init__.qual d_Space___init__.scope s.heap.objs.size (He.fAd K d_Space___init__.at_) cdv)).units + 65 < cLine := by have := hr.un; omega
  have nd := sc_Space___init__.nd
  have tk : Takes (cxOf (L2.CX P w) P w K mg base ["self", "kind", "q", "matrix", "field", "rows"] d_Space___init__.qual d_Space___init__.scope (He.fAd K d_Space___init__.at_) cdv A outer s H E) (fun cls d _ H => E cls d H) := takes_of rfl rfl rfl rfl
  have po : PassesOwn (model P w) (A.deeper (PyProof.Rows.envOfC d_Space___init__.qual d_Space___init__.scope s.heap.objs.size (He.fAd K d_Space___init__.at_) cdv)) (PyProof.Rows.envOfC d_Space___init__.qual d_Space___init__.scope s.heap.objs.size (He.fAd K d_Space___init__.at_) cdv) (cxOf (L2.CX P w) P w K mg base ["self", "kind", "q", "matrix", "field", "rows"] d_Space___init__.qual d_Space___init__.scope (He.fAd K d_Space___init__.at_) cdv A outer s H E).xe := PassesOwn.leaving
  exact (dss_cons (ds_expr (dx_call ((G_check_kind).good (hr.mono (by decide))) tk (by rfl) (da_cons (dx_var (i := 1) rfl (.inl rfl)) (da_cons (dx_var (i := 2) rfl (.inl rfl)) da_nil)))) (dss_cons (ds_set nd rfl (.inl rfl) (dx_make (c := 0) (GdI.good (c := 0) (G_Field___init__) (hr.mono (by decide))) tk (by rfl) (da_cons (dx_var (i := 2) rfl (.inl rfl)) da_nil))) (dss_cons (ds_set nd rfl (.inl rfl) (dx_call ((G_taken).good (hr.mono (by decide))) tk (by rfl) (da_cons (dx_var (i := 4) rfl (.inl rfl)) (da_cons (dx_var (i := 3) rfl (.inl rfl)) da_nil)))) (dss_cons (ds_if (dt_not (dt_val (dx_call ((G_has_form).good (hr.mono (by decide))) tk (by rfl) (da_cons (dx_var (i := 4) rfl (.inl rfl)) (da_cons (dx_var (i := 1) rfl (.inl rfl)) (da_cons (dx_var (i := 5) rfl (.inl rfl)) da_nil)))))) (dss_one (ds_raise (c := 0) rfl rfl (T.exc 4).1 (T.glo 5) (T.exc 4).2.1 (T.exc 4).2.2.1 (T.exc 4).2.2.2 (by rfl) (by rfl) tk)) dss_nil) (dss_cons (ds_if (dt_cmp od_gt (dx_callB cd_len (by rfl) (T.free 15) (by decide +kernel) (da_cons (dx_var (i := 5) rfl (.inl rfl)) da_nil)) (dx_glInt (by rfl) (T.int 22)) (nomark _)) (dss_one (ds_raiseF (c := 1) (file := mfile) rfl rfl (ex_sx_Refused T) (.inl rfl) HP (T.free 23) (hr.mono (by decide)) (T.glo 24) (by rfl) (by rfl) tk (da_cons dx_str da_nil))) dss_nil) (dss_cons (ds_self (i := 0) (c := 1) (j := 0) (T.cls 11) (T.noat 25) rfl (by decide +kernel) rfl (.inl rfl) (dx_var (i := 1) rfl (.inl rfl))) (dss_cons (ds_self (i := 0) (c := 1) (j := 1) (T.cls 11) (T.noat 12) rfl (by decide +kernel) rfl (.inl rfl) (dx_var (i := 2) rfl (.inl rfl))) (dss_cons (ds_self (i := 0) (c := 1) (j := 2) (T.cls 11) (T.noat 26) rfl (by decide +kernel) rfl (.inl rfl) (dx_callB cd_len (by rfl) (T.free 15) (by decide +kernel) (da_cons (dx_var (i := 5) rfl (.inl rfl)) da_nil))) (dss_cons (ds_self (i := 0) (c := 1) (j := 3) (T.cls 11) (T.noat 27) rfl (by decide +kernel) rfl (.inl rfl) (dx_var (i := 5) rfl (.inl rfl))) (dss_cons (ds_self (i := 0) (c := 1) (j := 4) (T.cls 11) (T.noat 28) rfl (by decide +kernel) rfl (.inl rfl) (dx_var (i := 4) rfl (.inl rfl))) (dss_one (ds_self (i := 0) (c := 1) (j := 5) (T.cls 11) (T.noat 29) rfl (by decide +kernel) rfl (.inl rfl) (dx_call ((G_gram_of).good (hr.mono (by decide))) tk (by rfl) (da_cons (dx_var (i := 4) rfl (.inl rfl)) (da_cons (dx_var (i := 1) rfl (.inl rfl)) (da_cons (dx_var (i := 5) rfl (.inl rfl)) da_nil))))))))))))))))
theorem sc_Space___eq__ : FnScope ["self", "other"] ["self", "other"] d_Space___eq__.scope := ⟨rfl, rfl, rfl, by decide +kernel, rfl, by decide +kernel, by decide +kernel⟩
theorem ok_Space___eq__ (HP : PFile P mfile) (T : Ty fa fn ex K mg) : GdM P w K mg base 1 "__eq__" 1 F_Space___eq__ := by
  obtain ⟨fd, F⟩ := T.says.def_ 25 (d := d_Space___eq__) rfl
  refine ⟨_, fd, ["self", "other"], T.cls 11, T.meth 57, fn_pure F sc_Space___eq__ (fun cdv A outer s H E e0 hr => ?_), F.bindsN fun _ _ _ _ _ _ us hl => match us, hl with | [_, _], _ => rfl, by decide +kernel⟩
  have hu64 := hr.units
  have hu65 : (A.deeper (PyProof.Rows.envOfC d_Space___eq__.qual d_Space___eq__.scope s.heap.objs.size (He.fAd K d_Space___eq__.at_) cdv)).units + 65 < cLine := by have := hr.un; omega
  have nd := sc_Space___eq__.nd
  have tk : Takes (cxOf (L2.CX P w) P w K mg base ["self", "other"] d_Space___eq__.qual d_Space___eq__.scope (He.fAd K d_Space___eq__.at_) cdv A outer s H E) (fun cls d _ H => E cls d H) := takes_of rfl rfl rfl rfl
  have po : PassesOwn (model P w) (A.deeper (PyProof.Rows.envOfC d_Space___eq__.qual d_Space___eq__.scope s.heap.objs.size (He.fAd K d_Space___eq__.at_) cdv)) (PyProof.Rows.envOfC d_Space___eq__.qual d_Space___eq__.scope s.heap.objs.size (He.fAd K d_Space___eq__.at_) cdv) (cxOf (L2.CX P w) P w K mg base ["self", "other"] d_Space___eq__.qual d_Space___eq__.scope (He.fAd K d_Space___eq__.at_) cdv A outer s H E).xe := PassesOwn.leaving
  exact (dss_cons (ds_if (dt_not (dt_val (dx_isi (isi_own (c := 1) (T.cls 11) (ex_isi_Space T)) (pe_glob (v := .ref (He.ga K "Space")) (by rfl) (T.glo 30) rfl) (.own _) (by rfl) (T.free 1) (by decide +kernel) (dx_var (i := 1) rfl (.inl rfl))))) (dss_one (ds_ret dx_bl)) dss_nil) (dss_one (ds_ret (dx_and (dx_cmp (od_eq hu64) (dx_fld (fld_kind T) (dx_var (i := 0) rfl (.inl rfl))) (dx_fld (fld_kind T) (dx_var (i := 1) rfl (.inl rfl))) (nomark _)) (dx_and (dx_cmp (od_eq hu64) (dx_fld (fld_q T) (dx_var (i := 0) rfl (.inl rfl))) (dx_fld (fld_q T) (dx_var (i := 1) rfl (.inl rfl))) (nomark _)) (dx_one (dx_cmp (od_eq hu64) (dx_fld (fld_matrix T) (dx_var (i := 0) rfl (.inl rfl))) (dx_fld (fld_matrix T) (dx_var (i := 1) rfl (.inl rfl))) (nomark _))))))))
theorem sc_Space___str__ : FnScope ["self", "lines", "body", "row", "item"] ["self"] d_Space___str__.scope := ⟨rfl, rfl, rfl, by decide +kernel, rfl, by decide +kernel, by decide +kernel⟩
theorem ok_Space___str__ (HP : PFile P mfile) (T : Ty fa fn ex K mg) : GdM P w K mg base 1 "__str__" 1 F_Space___str__ := by
  obtain ⟨fd, F⟩ := T.says.def_ 26 (d := d_Space___str__) rfl
  refine ⟨_, fd, ["self"], T.cls 11, T.meth 58, fn_pure F sc_Space___str__ (fun cdv A outer s H E e0 hr => ?_), F.bindsN fun _ _ _ _ _ _ us hl => match us, hl with | [_], _ => rfl, by decide +kernel⟩
  have hu64 := hr.units
  have hu65 : (A.deeper (PyProof.Rows.envOfC d_Space___str__.qual d_Space___str__.scope s.heap.objs.size (He.fAd K d_Space___str__.at_) cdv)).units + 65 < cLine := by have := hr.un; omega
  have nd := sc_Space___str__.nd
  have tk : Takes (cxOf (L2.CX P w) P w K mg base ["self", "lines", "body", "row", "item"] d_Space___str__.qual d_Space___str__.scope (He.fAd K d_Space___str__.at_) cdv A outer s H E) (fun cls d _ H => E cls d H) := takes_of rfl rfl rfl rfl
  have po : PassesOwn (model P w) (A.deeper (PyProof.Rows.envOfC d_Space___str__.qual d_Space___str__.scope s.heap.objs.size (He.fAd K d_Space___str__.at_) cdv)) (PyProof.Rows.envOfC d_Space___str__.qual d_Space___str__.scope s.heap.objs.size (He.fAd K d_Space___str__.at_) cdv) (cxOf (L2.CX P w) P w K mg base ["self", "lines", "body", "row", "item"] d_Space___str__.qual d_Space___str__.scope (He.fAd K d_Space___str__.at_) cdv A outer s H E).xe := PassesOwn.leaving
  exact (dss_cons ds_bad (dss_cons ds_bad (dss_one ds_bad)))
theorem sc_Space_is_row : FnScope ["self", "value"] ["self", "value"] d_Space_is_row.scope := ⟨rfl, rfl, rfl, by decide +kernel, rfl, by decide +kernel, by decide +kernel⟩
theorem ok_Space_is_row (HP : PFile P mfile) (T : Ty fa fn ex K mg) : GdM P w K mg base 1 "is_row" 4 F_Space_is_row := by
  have G_is_row_linear := ok_is_row_linear (P := P) (w := w) (base := base) HP T
  obtain ⟨fd, F⟩ := T.says.def_ 27 (d := d_Space_is_row) rfl
  refine ⟨_, fd, ["self", "value"], T.cls 11, T.meth 59, fn_pure F sc_Space_is_row (fun cdv A outer s H E e0 hr => ?_), F.bindsN fun _ _ _ _ _ _ us hl => match us, hl with | [_, _], _ => rfl, by decide +kernel⟩
  have hu64 := hr.units
  have hu65 : (A.deeper (PyProof.Rows.envOfC d_Space_is_row.qual d_Space_is_row.scope s.heap.objs.size (He.fAd K d_Space_is_row.at_) cdv)).units + 65 < cLine := by have := hr.un; omega
  have nd := sc_Space_is_row.nd
  have tk : Takes (cxOf (L2.CX P w) P w K mg base ["self", "value"] d_Space_is_row.qual d_Space_is_row.scope (He.fAd K d_Space_is_row.at_) cdv A outer s H E) (fun cls d _ H => E cls d H) := takes_of rfl rfl rfl rfl
  have po : PassesOwn (model P w) (A.deeper (PyProof.Rows.envOfC d_Space_is_row.qual d_Space_is_row.scope s.heap.objs.size (He.fAd K d_Space_is_row.at_) cdv)) (PyProof.Rows.envOfC d_Space_is_row.qual d_Space_is_row.scope s.heap.objs.size (He.fAd K d_Space_is_row.at_) cdv) (cxOf (L2.CX P w) P w K mg base ["self", "value"] d_Space_is_row.qual d_Space_is_row.scope (He.fAd K d_Space_is_row.at_) cdv A outer s H E).xe := PassesOwn.leaving
  exact (dss_one (ds_ret (dx_call ((G_is_row_linear).good (hr.mono (by decide))) tk (by rfl) (da_cons (dx_fld (fld_field T) (dx_var (i := 0) rfl (.inl rfl))) (da_cons (dx_var (i := 1) rfl (.inl rfl)) (da_cons (dx_fld (fld_n T) (dx_var (i := 0) rfl (.inl rfl))) da_nil))))))
theorem sc_Space_zero : FnScope ["self"] ["self"] d_Space_zero.scope := ⟨rfl, rfl, rfl, by decide +kernel, rfl, by decide +kernel, by decide +kernel⟩
theorem ok_Space_zero (HP : PFile P mfile) (T : Ty fa fn ex K mg) : GdM P w K mg base 1 "zero" 1 F_Space_zero := by
  obtain ⟨fd, F⟩ := T.says.def_ 28 (d := d_Space_zero) rfl
  refine ⟨_, fd, ["self"], T.cls 11, T.meth 60, fn_pure F sc_Space_zero (fun cdv A outer s H E e0 hr => ?_), F.bindsN fun _ _ _ _ _ _ us hl => match us, hl with | [_], _ => rfl, by decide +kernel⟩
  have hu64 := hr.units
  have hu65 : (A.deeper (PyProof.Rows.envOfC d_Space_zero.qual d_Space_zero.scope s.heap.objs.size (He.fAd K d_Space_zero.at_) cdv)).units + 65 < cLine := by have := hr.un; omega
  have nd := sc_Space_zero.nd
  have tk : Takes (cxOf (L2.CX P w) P w K mg base ["self"] d_Space_zero.qual d_Space_zero.scope (He.fAd K d_Space_zero.at_) cdv A outer s H E) (fun cls d _ H => E cls d H) := takes_of rfl rfl rfl rfl
  have po : PassesOwn (model P w) (A.deeper (PyProof.Rows.envOfC d_Space_zero.qual d_Space_zero.scope s.heap.objs.size (He.fAd K d_Space_zero.at_) cdv)) (PyProof.Rows.envOfC d_Space_zero.qual d_Space_zero.scope s.heap.objs.size (He.fAd K d_Space_zero.at_) cdv) (cxOf (L2.CX P w) P w K mg base ["self"] d_Space_zero.qual d_Space_zero.scope (He.fAd K d_Space_zero.at_) cdv A outer s H E).xe := PassesOwn.leaving
  exact (dss_one (ds_ret (dx_op od_mulT (dx_tup (da_cons dx_int da_nil)) (dx_fld (fld_n T) (dx_var (i := 0) rfl (.inl rfl))))))
theorem sc_Space_unit : FnScope ["self", "i"] ["self", "i"] d_Space_unit.scope := ⟨rfl, rfl, rfl, by decide +kernel, rfl, by decide +kernel, by decide +kernel⟩
theorem ok_Space_unit (HP : PFile P mfile) (T : Ty fa fn ex K mg) : GdM P w K mg base 1 "unit" 2 F_Space_unit := by
  have G_unit_row := ok_unit_row (P := P) (w := w) (base := base) HP T
  obtain ⟨fd, F⟩ := T.says.def_ 29 (d := d_Space_unit) rfl
  refine ⟨_, fd, ["self", "i"], T.cls 11, T.meth 61, fn_pure F sc_Space_unit (fun cdv A outer s H E e0 hr => ?_), F.bindsN fun _ _ _ _ _ _ us hl => match us, hl with | [_, _], _ => rfl, by decide +kernel⟩
  have hu64 := hr.units
  have hu65 : (A.deeper (PyProof.Rows.envOfC d_Space_unit.qual d_Space_unit.scope s.heap.objs.size (He.fAd K d_Space_unit.at_) cdv)).units + 65 < cLine := by have := hr.un; omega
  have nd := sc_Space_unit.nd
  have tk : Takes (cxOf (L2.CX P w) P w K mg base ["self", "i"] d_Space_unit.qual d_Space_unit.scope (He.fAd K d_Space_unit.at_) cdv A outer s H E) (fun cls d _ H => E cls d H) := takes_of rfl rfl rfl rfl
  have po : PassesOwn (model P w) (A.deeper (PyProof.Rows.envOfC d_Space_unit.qual d_Space_unit.scope s.heap.objs.size (He.fAd K d_Space_unit.at_) cdv)) (PyProof.Rows.envOfC d_Space_unit.qual d_Space_unit.scope s.heap.objs.size (He.fAd K d_Space_unit.at_) cdv) (cxOf (L2.CX P w) P w K mg base ["self", "i"] d_Space_unit.qual d_Space_unit.scope (He.fAd K d_Space_unit.at_) cdv A outer s H E).xe := PassesOwn.leaving
  exact (dss_one (ds_ret (dx_call ((G_unit_row).good (hr.mono (by decide))) tk (by rfl) (da_cons (dx_fld (fld_n T) (dx_var (i := 0) rfl (.inl rfl))) (da_cons (dx_var (i := 1) rfl (.inl rfl)) da_nil)))))
theorem sc_Space_rows : FnScope ["self", "table"] ["self"] d_Space_rows.scope := ⟨rfl, rfl, rfl, by decide +kernel, rfl, by decide +kernel, by decide +kernel⟩
theorem ok_Space_rows (HP : PFile P mfile) (T : Ty fa fn ex K mg) : GdM P w K mg base 1 "rows" 3 F_Space_rows := by
  have G_identity := ok_identity (P := P) (w := w) (base := base) HP T
  obtain ⟨fd, F⟩ := T.says.def_ 30 (d := d_Space_rows) rfl
  refine ⟨_, fd, ["self"], T.cls 11, T.meth 62, fn_pure F sc_Space_rows (fun cdv A outer s H E e0 hr => ?_), F.bindsN fun _ _ _ _ _ _ us hl => match us, hl with | [_], _ => rfl, by decide +kernel⟩
  have hu64 := hr.units
  have hu65 : (A.deeper (PyProof.Rows.envOfC d_Space_rows.qual d_Space_rows.scope s.heap.objs.size (He.fAd K d_Space_rows.at_) cdv)).units + 65 < cLine := by have := hr.un; omega
  have nd := sc_Space_rows.nd
  have tk : Takes (cxOf (L2.CX P w) P w K mg base ["self", "table"] d_Space_rows.qual d_Space_rows.scope (He.fAd K d_Space_rows.at_) cdv A outer s H E) (fun cls d _ H => E cls d H) := takes_of rfl rfl rfl rfl
  have po : PassesOwn (model P w) (A.deeper (PyProof.Rows.envOfC d_Space_rows.qual d_Space_rows.scope s.heap.objs.size (He.fAd K d_Space_rows.at_) cdv)) (PyProof.Rows.envOfC d_Space_rows.qual d_Space_rows.scope s.heap.objs.size (He.fAd K d_Space_rows.at_) cdv) (cxOf (L2.CX P w) P w K mg base ["self", "table"] d_Space_rows.qual d_Space_rows.scope (He.fAd K d_Space_rows.at_) cdv A outer s H E).xe := PassesOwn.leaving
  exact (dss_cons (ds_set nd rfl (.inl rfl) (dx_call ((G_identity).good (hr.mono (by decide))) tk (by rfl) (da_cons (dx_fld (fld_n T) (dx_var (i := 0) rfl (.inl rfl))) da_nil))) (dss_one ds_bad))
theorem sc_Space_facing : FnScope ["self", "y", "item", "row"] ["self", "y"] d_Space_facing.scope := ⟨rfl, rfl, rfl, by decide +kernel, rfl, by decide +kernel, by decide +kernel⟩
theorem ok_Space_facing (HP : PFile P mfile) (T : Ty fa fn ex K mg) : GdM P w K mg base 1 "facing" 5 F_Space_facing := by
  have G_Field_mirrored := ok_Field_mirrored (P := P) (w := w) (base := base) HP T
  have G_dot := ok_dot (P := P) (w := w) (base := base) HP T
  obtain ⟨fd, F⟩ := T.says.def_ 31 (d := d_Space_facing) rfl
  refine ⟨_, fd, ["self", "y"], T.cls 11, T.meth 63, fn_pure F sc_Space_facing (fun cdv A outer s H E e0 hr => ?_), F.bindsN fun _ _ _ _ _ _ us hl => match us, hl with | [_, _], _ => rfl, by decide +kernel⟩
  have hu64 := hr.units
  have hu65 : (A.deeper (PyProof.Rows.envOfC d_Space_facing.qual d_Space_facing.scope s.heap.objs.size (He.fAd K d_Space_facing.at_) cdv)).units + 65 < cLine := by have := hr.un; omega
  have nd := sc_Space_facing.nd
  have tk : Takes (cxOf (L2.CX P w) P w K mg base ["self", "y", "item", "row"] d_Space_facing.qual d_Space_facing.scope (He.fAd K d_Space_facing.at_) cdv A outer s H E) (fun cls d _ H => E cls d H) := takes_of rfl rfl rfl rfl
  have po : PassesOwn (model P w) (A.deeper (PyProof.Rows.envOfC d_Space_facing.qual d_Space_facing.scope s.heap.objs.size (He.fAd K d_Space_facing.at_) cdv)) (PyProof.Rows.envOfC d_Space_facing.qual d_Space_facing.scope s.heap.objs.size (He.fAd K d_Space_facing.at_) cdv) (cxOf (L2.CX P w) P w K mg base ["self", "y", "item", "row"] d_Space_facing.qual d_Space_facing.scope (He.fAd K d_Space_facing.at_) cdv A outer s H E).xe := PassesOwn.leaving
  exact (dss_cons (ds_if (dt_cmp (od_eq hu64) (dx_fld (fld_kind T) (dx_var (i := 0) rfl (.inr (.inl rfl)))) dx_str (nomark _)) (dss_one (ds_set nd rfl (.inr rfl) (dx_callTy cd_tuple (by rfl) (T.free 13) (by decide +kernel) (da_cons (dx_df (df_lc (own := [("item", 2)]) rfl nd (di_seq (dx_var (i := 1) rfl (.inr (.inl rfl)))) (blkOk_by (by kernel_rfl)) (fun _ _ _ _ _ => (dg_name nd rfl (.inl rfl))) (by decide) (fun _ _ _ _ _ => dts_nil) (fun _ _ _ _ _ => (dx_meth (MtTab.cons ((G_Field_mirrored).good (hr.mono (by decide))) MtTab.nil) tkF (dx_fld (fld_field T) (dx_var (i := 0) rfl (.inr (.inl rfl)))) (da_cons (dx_var (i := 2) rfl (.inl rfl)) da_nil))))) da_nil)))) dss_nil) (dss_one (ds_ret (dx_callTy cd_tuple (by rfl) (T.free 13) (by decide +kernel) (da_cons (dx_df (df_lc (own := [("row", 3)]) rfl nd (di_seq (dx_fld (fld__gram T) (dx_var (i := 0) rfl (.inr (.inl rfl))))) (blkOk_by (by kernel_rfl)) (fun _ _ _ _ _ => (dg_name nd rfl (.inl rfl))) (by decide) (fun _ _ _ _ _ => dts_nil) (fun _ _ _ _ _ => (dx_call ((G_dot).good (hr.mono (by decide))) tkF (by rfl) (da_cons (dx_fld (fld_field T) (dx_var (i := 0) rfl (.inr (.inl rfl)))) (da_cons (dx_var (i := 3) rfl (.inl rfl)) (da_cons (dx_var (i := 1) rfl (.inr (.inl rfl))) da_nil))))))) da_nil)))))
theorem sc_Space_product : FnScope ["self", "x", "y"] ["self", "x", "y"] d_Space_product.scope := ⟨rfl, rfl, rfl, by decide +kernel, rfl, by decide +kernel, by decide +kernel⟩
theorem ok_Space_product (HP : PFile P mfile) (T : Ty fa fn ex K mg) : GdM P w K mg base 1 "product" 6 F_Space_product := by
  have G_Space_facing := ok_Space_facing (P := P) (w := w) (base := base) HP T
  have G_dot := ok_dot (P := P) (w := w) (base := base) HP T
  obtain ⟨fd, F⟩ := T.says.def_ 32 (d := d_Space_product) rfl
  refine ⟨_, fd, ["self", "x", "y"], T.cls 11, T.meth 64, fn_pure F sc_Space_product (fun cdv A outer s H E e0 hr => ?_), F.bindsN fun _ _ _ _ _ _ us hl => match us, hl with | [_, _, _], _ => rfl, by decide +kernel⟩
  have hu64 := hr.units
  have hu65 : (A.deeper (PyProof.Rows.envOfC d_Space_product.qual d_Space_product.scope s.heap.objs.size (He.fAd K d_Space_product.at_) cdv)).units + 65 < cLine := by have := hr.un; omega
  have nd := sc_Space_product.nd
  have tk : Takes (cxOf (L2.CX P w) P w K mg base ["self", "x", "y"] d_Space_product.qual d_Space_product.scope (He.fAd K d_Space_product.at_) cdv A outer s H E) (fun cls d _ H => E cls d H) := takes_of rfl rfl rfl rfl
  have po : PassesOwn (model P w) (A.deeper (PyProof.Rows.envOfC d_Space_product.qual d_Space_product.scope s.heap.objs.size (He.fAd K d_Space_product.at_) cdv)) (PyProof.Rows.envOfC d_Space_product.qual d_Space_product.scope s.heap.objs.size (He.fAd K d_Space_product.at_) cdv) (cxOf (L2.CX P w) P w K mg base ["self", "x", "y"] d_Space_product.qual d_Space_product.scope (He.fAd K d_Space_product.at_) cdv A outer s H E).xe := PassesOwn.leaving
  exact (dss_one (ds_ret (dx_call ((G_dot).good (hr.mono (by decide))) tk (by rfl) (da_cons (dx_fld (fld_field T) (dx_var (i := 0) rfl (.inl rfl))) (da_cons (dx_var (i := 1) rfl (.inl rfl)) (da_cons (dx_meth (MtTab.cons ((G_Space_facing).good (hr.mono (by decide))) MtTab.nil) tk (dx_var (i := 0) rfl (.inl rfl)) (da_cons (dx_var (i := 2) rfl (.inl rfl)) da_nil)) da_nil))))))
theorem sc_Space_value : FnScope ["self", "x", "total", "i"] ["self", "x"] d_Space_value.scope := ⟨rfl, rfl, rfl, by decide +kernel, rfl, by decide +kernel, by decide +kernel⟩
theorem ok_Space_value (HP : PFile P mfile) (T : Ty fa fn ex K mg) : GdM P w K mg base 1 "value" 7 F_Space_value := by
  have G_Field_add := ok_Field_add (P := P) (w := w) (base := base) HP T
  have G_Field_multiply := ok_Field_multiply (P := P) (w := w) (base := base) HP T
  have G_Space_product := ok_Space_product (P := P) (w := w) (base := base) HP T
  have G_dot := ok_dot (P := P) (w := w) (base := base) HP T
  obtain ⟨fd, F⟩ := T.says.def_ 33 (d := d_Space_value) rfl
  refine ⟨_, fd, ["self", "x"], T.cls 11, T.meth 65, fn_pure F sc_Space_value (fun cdv A outer s H E e0 hr => ?_), F.bindsN fun _ _ _ _ _ _ us hl => match us, hl with | [_, _], _ => rfl, by decide +kernel⟩
  have hu64 := hr.units
  have hu65 : (A.deeper (PyProof.Rows.envOfC d_Space_value.qual d_Space_value.scope s.heap.objs.size (He.fAd K d_Space_value.at_) cdv)).units + 65 < cLine := by have := hr.un; omega
  have nd := sc_Space_value.nd
  have tk : Takes (cxOf (L2.CX P w) P w K mg base ["self", "x", "total", "i"] d_Space_value.qual d_Space_value.scope (He.fAd K d_Space_value.at_) cdv A outer s H E) (fun cls d _ H => E cls d H) := takes_of rfl rfl rfl rfl
  have po : PassesOwn (model P w) (A.deeper (PyProof.Rows.envOfC d_Space_value.qual d_Space_value.scope s.heap.objs.size (He.fAd K d_Space_value.at_) cdv)) (PyProof.Rows.envOfC d_Space_value.qual d_Space_value.scope s.heap.objs.size (He.fAd K d_Space_value.at_) cdv) (cxOf (L2.CX P w) P w K mg base ["self", "x", "total", "i"] d_Space_value.qual d_Space_value.scope (He.fAd K d_Space_value.at_) cdv A outer s H E).xe := PassesOwn.leaving
  exact (dss_cons (ds_if (dt_cmp (od_eq hu64) (dx_fld (fld_kind T) (dx_var (i := 0) rfl (.inl rfl))) dx_str (nomark _)) (dss_one (ds_ret dx_int)) dss_nil) (dss_cons (ds_if (dt_cmp (od_eq hu64) (dx_fld (fld_kind T) (dx_var (i := 0) rfl (.inl rfl))) dx_str (nomark _)) (dss_one (ds_ret (dx_meth (MtTab.cons ((G_Space_product).good (hr.mono (by decide))) MtTab.nil) tk (dx_var (i := 0) rfl (.inl rfl)) (da_cons (dx_var (i := 1) rfl (.inl rfl)) (da_cons (dx_var (i := 1) rfl (.inl rfl)) da_nil))))) dss_nil) (dss_cons (ds_set nd rfl (.inl rfl) dx_int) (dss_cons (ds_for po rfl (di_range1 (by rfl) (T.free 14) (da_cons (dx_fld (fld_n T) (dx_var (i := 0) rfl (.inl rfl))) da_nil)) (dg_name nd rfl (.inl rfl)) (dss_one (ds_set nd rfl (.inl rfl) (dx_meth (MtTab.cons ((G_Field_add).good (hr.mono (by decide))) MtTab.nil) tk (dx_fld (fld_field T) (dx_var (i := 0) rfl (.inl rfl))) (da_cons (dx_var (i := 2) rfl (.inl rfl)) (da_cons (dx_meth (MtTab.cons ((G_Field_multiply).good (hr.mono (by decide))) MtTab.nil) tk (dx_fld (fld_field T) (dx_var (i := 0) rfl (.inl rfl))) (da_cons (dx_ix ixd (dx_var (i := 1) rfl (.inl rfl)) (dx_var (i := 3) rfl (.inl rfl))) (da_cons (dx_call ((G_dot).good (hr.mono (by decide))) tk (by rfl) (da_cons (dx_fld (fld_field T) (dx_var (i := 0) rfl (.inl rfl))) (da_cons (dx_ix ixd (dx_fld (fld_matrix T) (dx_var (i := 0) rfl (.inl rfl))) (dx_var (i := 3) rfl (.inl rfl))) (da_cons (dx_var (i := 1) rfl (.inl rfl)) da_nil)))) da_nil))) da_nil)))))) (dss_one (ds_ret (dx_var (i := 2) rfl (.inl rfl))))))))
theorem sc_check_count : FnScope ["value"] ["value"] d_check_count.scope := ⟨rfl, rfl, rfl, by decide +kernel, rfl, by decide +kernel, by decide +kernel⟩
theorem ok_check_count (HP : PFile P mfile) (T : Ty fa fn ex K mg) : Gd P w K mg base "check_count" 2 F_check_count := by
  have G_is_integer := ok_is_integer (P := P) (w := w) (base := base) HP T
  obtain ⟨fd, F⟩ := T.says.def_ 34 (d := d_check_count) rfl
  refine ⟨_, fd, ["value"], fn_pure F sc_check_count (fun cdv A outer s H E e0 hr => ?_), (T.glo 66), F.kp, F.bindsN fun _ _ _ _ _ _ us hl => match us, hl with | [_], _ => rfl⟩
  have hu64 := hr.units
  have hu65 : (A.deeper (PyProof.Rows.envOfC d_check_count.qual d_check_count.scope s.heap.objs.size (He.fAd K d_check_count.at_) cdv)).units + 65 < cLine := by have := hr.un; omega
  have nd := sc_check_count.nd
  have tk : Takes (cxOf (L2.CX P w) P w K mg base ["value"] d_check_count.qual d_check_count.scope (He.fAd K d_check_count.at_) cdv A outer s H E) (fun cls d _ H => E cls d H) := takes_of rfl rfl rfl rfl
  have po : PassesOwn (model P w) (A.deeper (PyProof.Rows.envOfC d_check_count.qual d_check_count.scope s.heap.objs.size (He.fAd K d_check_count.at_) cdv)) (PyProof.Rows.envOfC d_check_count.qual d_check_count.scope s.heap.objs.size (He.fAd K d_check_count.at_) cdv) (cxOf (L2.CX P w) P w K mg base ["value"] d_check_count.qual d_check_count.scope (He.fAd K d_check_count.at_) cdv A outer s H E).xe := PassesOwn.leaving
  exact (dss_one (ds_if (dt_w (dw_or (dt_not (dt_val (dx_call ((G_is_integer).good (hr.mono (by decide))) tk (by rfl) (da_cons (dx_var (i := 0) rfl (.inl rfl)) da_nil)))) (dw_one (dt_cmp od_lt (dx_var (i := 0) rfl (.inl rfl)) dx_int (nomark _))))) (dss_one (ds_raise (c := 0) rfl rfl (T.exc 4).1 (T.glo 5) (T.exc 4).2.1 (T.exc 4).2.2.1 (T.exc 4).2.2.2 (by rfl) (by rfl) tk)) dss_nil))
theorem sc_zero_space : FnScope ["kind", "q", "n"] ["kind", "q", "n"] d_zero_space.scope := ⟨rfl, rfl, rfl, by decide +kernel, rfl, by decide +kernel, by decide +kernel⟩
theorem ok_zero_space (HP : PFile P mfile) (T : Ty fa fn ex K mg) : Gd P w K mg base "zero_space" 8 F_zero_space := by
  have G_Space___init__ := ok_Space___init__ (P := P) (w := w) (base := base) HP T
  have G_check_count := ok_check_count (P := P) (w := w) (base := base) HP T
  have G_check_kind := ok_check_kind (P := P) (w := w) (base := base) HP T
  obtain ⟨fd, F⟩ := T.says.def_ 35 (d := d_zero_space) rfl
  refine ⟨_, fd, ["kind", "q", "n"], fn_pure F sc_zero_space (fun cdv A outer s H E e0 hr => ?_), (T.glo 67), F.kp, F.bindsN fun _ _ _ _ _ _ us hl => match us, hl with | [_, _, _], _ => rfl⟩
  have hu64 := hr.units
  have hu65 : (A.deeper (PyProof.Rows.envOfC d_zero_space.qual d_zero_space.scope s.heap.objs.size (He.fAd K d_zero_space.at_) cdv)).units + 65 < cLine := by have := hr.un; omega
  have nd := sc_zero_space.nd
  have tk : Takes (cxOf (L2.CX P w) P w K mg base ["kind", "q", "n"] d_zero_space.qual d_zero_space.scope (He.fAd K d_zero_space.at_) cdv A outer s H E) (fun cls d _ H => E cls d H) := takes_of rfl rfl rfl rfl
  have po : PassesOwn (model P w) (A.deeper (PyProof.Rows.envOfC d_zero_space.qual d_zero_space.scope s.heap.objs.size (He.fAd K d_zero_space.at_) cdv)) (PyProof.Rows.envOfC d_zero_space.qual d_zero_space.scope s.heap.objs.size (He.fAd K d_zero_space.at_) cdv) (cxOf (L2.CX P w) P w K mg base ["kind", "q", "n"] d_zero_space.qual d_zero_space.scope (He.fAd K d_zero_space.at_) cdv A outer s H E).xe := PassesOwn.leaving
  exact (dss_cons (ds_expr (dx_call ((G_check_kind).good (hr.mono (by decide))) tk (by rfl) (da_cons (dx_var (i := 0) rfl (.inl rfl)) (da_cons (dx_var (i := 1) rfl (.inl rfl)) da_nil)))) (dss_cons (ds_expr (dx_call ((G_check_count).good (hr.mono (by decide))) tk (by rfl) (da_cons (dx_var (i := 2) rfl (.inl rfl)) da_nil))) (dss_cons (ds_if (dt_cmp od_gt (dx_var (i := 2) rfl (.inl rfl)) (dx_glInt (by rfl) (T.int 22)) (nomark _)) (dss_one (ds_raiseF (c := 1) (file := mfile) rfl rfl (ex_sx_Refused T) (.inl rfl) HP (T.free 23) (hr.mono (by decide)) (T.glo 24) (by rfl) (by rfl) tk (da_cons dx_str da_nil))) dss_nil) (dss_one (ds_ret (dx_make (c := 1) (GdI.good (c := 1) (G_Space___init__) (hr.mono (by decide))) tk (by rfl) (da_cons (dx_var (i := 0) rfl (.inl rfl)) (da_cons (dx_var (i := 1) rfl (.inl rfl)) (da_cons (dx_op od_mulT (dx_tup (da_cons (dx_op od_mulT (dx_tup (da_cons dx_int da_nil)) (dx_var (i := 2) rfl (.inl rfl))) da_nil)) (dx_var (i := 2) rfl (.inl rfl))) da_nil)))))))))
theorem sc_hyperbolic : FnScope ["kind", "q", "m", "below", "rows", "i"] ["kind", "q", "m"] d_hyperbolic.scope := ⟨rfl, rfl, rfl, by decide +kernel, rfl, by decide +kernel, by decide +kernel⟩
theorem ok_hyperbolic (HP : PFile P mfile) (T : Ty fa fn ex K mg) : Gd P w K mg base "hyperbolic" 8 F_hyperbolic := by
  have G_Field___init__ := ok_Field___init__ (P := P) (w := w) (base := base) HP T
  have G_Field_negative := ok_Field_negative (P := P) (w := w) (base := base) HP T
  have G_Space___init__ := ok_Space___init__ (P := P) (w := w) (base := base) HP T
  have G_check_count := ok_check_count (P := P) (w := w) (base := base) HP T
  have G_check_kind := ok_check_kind (P := P) (w := w) (base := base) HP T
  obtain ⟨fd, F⟩ := T.says.def_ 36 (d := d_hyperbolic) rfl
  refine ⟨_, fd, ["kind", "q", "m"], fn_pure F sc_hyperbolic (fun cdv A outer s H E e0 hr => ?_), (T.glo 68), F.kp, F.bindsN fun _ _ _ _ _ _ us hl => match us, hl with | [_, _, _], _ => rfl⟩
  have hu64 := hr.units
  have hu65 : (A.deeper (PyProof.Rows.envOfC d_hyperbolic.qual d_hyperbolic.scope s.heap.objs.size (He.fAd K d_hyperbolic.at_) cdv)).units + 65 < cLine := by have := hr.un; omega
  have nd := sc_hyperbolic.nd
  have tk : Takes (cxOf (L2.CX P w) P w K mg base ["kind", "q", "m", "below", "rows", "i"] d_hyperbolic.qual d_hyperbolic.scope (He.fAd K d_hyperbolic.at_) cdv A outer s H E) (fun cls d _ H => E cls d H) := takes_of rfl rfl rfl rfl
  have po : PassesOwn (model P w) (A.deeper (PyProof.Rows.envOfC d_hyperbolic.qual d_hyperbolic.scope s.heap.objs.size (He.fAd K d_hyperbolic.at_) cdv)) (PyProof.Rows.envOfC d_hyperbolic.qual d_hyperbolic.scope s.heap.objs.size (He.fAd K d_hyperbolic.at_) cdv) (cxOf (L2.CX P w) P w K mg base ["kind", "q", "m", "below", "rows", "i"] d_hyperbolic.qual d_hyperbolic.scope (He.fAd K d_hyperbolic.at_) cdv A outer s H E).xe := PassesOwn.leaving
  exact (dss_cons (ds_expr (dx_call ((G_check_kind).good (hr.mono (by decide))) tk (by rfl) (da_cons (dx_var (i := 0) rfl (.inl rfl)) (da_cons (dx_var (i := 1) rfl (.inl rfl)) da_nil)))) (dss_cons (ds_expr (dx_call ((G_check_count).good (hr.mono (by decide))) tk (by rfl) (da_cons (dx_var (i := 2) rfl (.inl rfl)) da_nil))) (dss_cons (ds_if (dt_cmp od_gt (dx_op od_mul dx_int (dx_var (i := 2) rfl (.inl rfl))) (dx_glInt (by rfl) (T.int 22)) (nomark _)) (dss_one (ds_raiseF (c := 1) (file := mfile) rfl rfl (ex_sx_Refused T) (.inl rfl) HP (T.free 23) (hr.mono (by decide)) (T.glo 24) (by rfl) (by rfl) tk (da_cons dx_str da_nil))) dss_nil) (dss_cons (ds_set nd rfl (.inl rfl) (dx_dictIx (Nat.lt_of_le_of_lt (Nat.add_le_add_left (by decide) _) hu65) (dps_cons (dx_meth (MtTab.cons ((G_Field_negative).good (hr.mono (by decide))) MtTab.nil) tk (dx_make (c := 0) (GdI.good (c := 0) (G_Field___init__) (hr.mono (by decide))) tk (by rfl) (da_cons (dx_var (i := 1) rfl (.inl rfl)) da_nil)) (da_cons dx_int da_nil)) (dps_cons dx_int (dps_cons dx_int dps_nil))) (dx_var (i := 0) rfl (.inl rfl)) (by decide) (by decide))) (dss_cons (ds_own nd rfl (.inl rfl) (df_lst da_nil)) (dss_cons (ds_for po rfl (di_range1 (by rfl) (T.free 14) (da_cons (dx_var (i := 2) rfl (.inl rfl)) da_nil)) (dg_name nd rfl (.inl rfl)) (dss_cons (ds_append (i := 4) rfl (.inl rfl) (dx_op od_add (dx_op od_add (dx_op od_mulT (dx_tup (da_cons dx_int da_nil)) (dx_op od_mul dx_int (dx_var (i := 5) rfl (.inl rfl)))) (dx_tup (da_cons dx_int (da_cons dx_int da_nil)))) (dx_op od_mulT (dx_tup (da_cons dx_int da_nil)) (dx_op od_mul dx_int (dx_op od_sub (dx_op od_sub (dx_var (i := 2) rfl (.inl rfl)) (dx_var (i := 5) rfl (.inl rfl))) dx_int))))) (dss_one (ds_append (i := 4) rfl (.inl rfl) (dx_op od_add (dx_op od_add (dx_op od_mulT (dx_tup (da_cons dx_int da_nil)) (dx_op od_mul dx_int (dx_var (i := 5) rfl (.inl rfl)))) (dx_tup (da_cons (dx_var (i := 3) rfl (.inl rfl)) (da_cons dx_int da_nil)))) (dx_op od_mulT (dx_tup (da_cons dx_int da_nil)) (dx_op od_mul dx_int (dx_op od_sub (dx_op od_sub (dx_var (i := 2) rfl (.inl rfl)) (dx_var (i := 5) rfl (.inl rfl))) dx_int)))))))) (dss_one (ds_ret (dx_make (c := 1) (GdI.good (c := 1) (G_Space___init__) (hr.mono (by decide))) tk (by rfl) (da_cons (dx_var (i := 0) rfl (.inl rfl)) (da_cons (dx_var (i := 1) rfl (.inl rfl)) (da_cons (dx_var (i := 4) rfl (.inl rfl)) da_nil))))))))))))
theorem sc_of_matrix : FnScope ["q", "matrix", "field", "own", "size", "rows", "i", "later", "j"] ["q", "matrix"] d_of_matrix.scope := ⟨rfl, rfl, rfl, by decide +kernel, rfl, by decide +kernel, by decide +kernel⟩
theorem ok_of_matrix (HP : PFile P mfile) (T : Ty fa fn ex K mg) : Gd P w K mg base "of_matrix" 8 F_of_matrix := by
  have G_Field___init__ := ok_Field___init__ (P := P) (w := w) (base := base) HP T
  have G_Field_add := ok_Field_add (P := P) (w := w) (base := base) HP T
  have G_Space___init__ := ok_Space___init__ (P := P) (w := w) (base := base) HP T
  have G_check_kind := ok_check_kind (P := P) (w := w) (base := base) HP T
  have G_taken := ok_taken (P := P) (w := w) (base := base) HP T
  obtain ⟨fd, F⟩ := T.says.def_ 37 (d := d_of_matrix) rfl
  refine ⟨_, fd, ["q", "matrix"], fn_pure F sc_of_matrix (fun cdv A outer s H E e0 hr => ?_), (T.glo 69), F.kp, F.bindsN fun _ _ _ _ _ _ us hl => match us, hl with | [_, _], _ => rfl⟩
  have hu64 := hr.units
  have hu65 : (A.deeper (PyProof.Rows.envOfC d_of_matrix.qual d_of_matrix.scope s.heap.objs.size (He.fAd K d_of_matrix.at_) cdv)).units + 65 < cLine := by have := hr.un; omega
  have nd := sc_of_matrix.nd
  have tk : Takes (cxOf (L2.CX P w) P w K mg base ["q", "matrix", "field", "own", "size", "rows", "i", "later", "j"] d_of_matrix.qual d_of_matrix.scope (He.fAd K d_of_matrix.at_) cdv A outer s H E) (fun cls d _ H => E cls d H) := takes_of rfl rfl rfl rfl
  have po : PassesOwn (model P w) (A.deeper (PyProof.Rows.envOfC d_of_matrix.qual d_of_matrix.scope s.heap.objs.size (He.fAd K d_of_matrix.at_) cdv)) (PyProof.Rows.envOfC d_of_matrix.qual d_of_matrix.scope s.heap.objs.size (He.fAd K d_of_matrix.at_) cdv) (cxOf (L2.CX P w) P w K mg base ["q", "matrix", "field", "own", "size", "rows", "i", "later", "j"] d_of_matrix.qual d_of_matrix.scope (He.fAd K d_of_matrix.at_) cdv A outer s H E).xe := PassesOwn.leaving
  exact (dss_cons (ds_expr (dx_call ((G_check_kind).good (hr.mono (by decide))) tk (by rfl) (da_cons dx_str (da_cons (dx_var (i := 0) rfl (.inl rfl)) da_nil)))) (dss_cons (ds_set nd rfl (.inr rfl) (dx_make (c := 0) (GdI.good (c := 0) (G_Field___init__) (hr.mono (by decide))) tk (by rfl) (da_cons (dx_var (i := 0) rfl (.inl rfl)) da_nil))) (dss_cons (ds_set nd rfl (.inr rfl) (dx_call ((G_taken).good (hr.mono (by decide))) tk (by rfl) (da_cons (dx_var (i := 2) rfl (.inr (.inl rfl))) (da_cons (dx_var (i := 1) rfl (.inl rfl)) da_nil)))) (dss_cons (ds_set nd rfl (.inl rfl) (dx_callB cd_len (by rfl) (T.free 15) (by decide +kernel) (da_cons (dx_var (i := 3) rfl (.inr (.inl rfl))) da_nil))) (dss_cons (ds_own nd rfl (.inl rfl) (df_lst da_nil)) (dss_cons (ds_for po rfl (di_range1 (by rfl) (T.free 14) (da_cons (dx_var (i := 4) rfl (.inl rfl)) da_nil)) (dg_name nd rfl (.inr rfl)) (dss_cons (ds_setLc (own := [("j", 8)]) rfl nd rfl rfl (sw_true rfl rfl rfl (by decide +kernel)) (di_range2 (by rfl) (T.free 14) (da_cons (dx_op od_add (dx_var (i := 6) rfl (.inr (.inl rfl))) dx_int) (da_cons (dx_var (i := 4) rfl (.inl rfl)) da_nil))) (blkOk_by (by kernel_rfl)) (fun _ _ _ _ _ => (dg_name nd rfl (.inl rfl))) (by decide) (fun _ _ _ _ _ => dts_nil) (fun _ _ _ _ _ => (dx_meth (MtTab.cons ((G_Field_add).good (hr.mono (by decide))) MtTab.nil) tkF (dx_var (i := 2) rfl (.inr (.inl rfl))) (da_cons (dx_ix ixd (dx_ix ixd (dx_var (i := 3) rfl (.inr (.inl rfl))) (dx_var (i := 6) rfl (.inr (.inl rfl)))) (dx_var (i := 8) rfl (.inl rfl))) (da_cons (dx_ix ixd (dx_ix ixd (dx_var (i := 3) rfl (.inr (.inl rfl))) (dx_var (i := 8) rfl (.inl rfl))) (dx_var (i := 6) rfl (.inr (.inl rfl)))) da_nil))))) (dss_one (ds_append (i := 5) rfl (.inl rfl) (dx_op od_add (dx_op od_add (dx_op od_mulT (dx_tup (da_cons dx_int da_nil)) (dx_var (i := 6) rfl (.inr (.inl rfl)))) (dx_tup (da_cons (dx_ix ixd (dx_ix ixd (dx_var (i := 3) rfl (.inr (.inl rfl))) (dx_var (i := 6) rfl (.inr (.inl rfl)))) (dx_var (i := 6) rfl (.inr (.inl rfl)))) da_nil))) (dx_callTy cd_tuple (by rfl) (T.free 13) (by decide +kernel) (da_cons (dx_var (i := 7) rfl (.inl rfl)) da_nil))))))) (dss_one (ds_ret (dx_make (c := 1) (GdI.good (c := 1) (G_Space___init__) (hr.mono (by decide))) tk (by rfl) (da_cons dx_str (da_cons (dx_var (i := 0) rfl (.inl rfl)) (da_cons (dx_var (i := 5) rfl (.inl rfl)) da_nil))))))))))))
theorem sc_direct_sum : FnScope ["a", "b", "rows", "row"] ["a", "b"] d_direct_sum.scope := ⟨rfl, rfl, rfl, by decide +kernel, rfl, by decide +kernel, by decide +kernel⟩
theorem ok_direct_sum (HP : PFile P mfile) (T : Ty fa fn ex K mg) : Gd P w K mg base "direct_sum" 8 F_direct_sum := by
  have G_Space___init__ := ok_Space___init__ (P := P) (w := w) (base := base) HP T
  obtain ⟨fd, F⟩ := T.says.def_ 38 (d := d_direct_sum) rfl
  refine ⟨_, fd, ["a", "b"], fn_pure F sc_direct_sum (fun cdv A outer s H E e0 hr => ?_), (T.glo 70), F.kp, F.bindsN fun _ _ _ _ _ _ us hl => match us, hl with | [_, _], _ => rfl⟩
  have hu64 := hr.units
  have hu65 : (A.deeper (PyProof.Rows.envOfC d_direct_sum.qual d_direct_sum.scope s.heap.objs.size (He.fAd K d_direct_sum.at_) cdv)).units + 65 < cLine := by have := hr.un; omega
  have nd := sc_direct_sum.nd
  have tk : Takes (cxOf (L2.CX P w) P w K mg base ["a", "b", "rows", "row"] d_direct_sum.qual d_direct_sum.scope (He.fAd K d_direct_sum.at_) cdv A outer s H E) (fun cls d _ H => E cls d H) := takes_of rfl rfl rfl rfl
  have po : PassesOwn (model P w) (A.deeper (PyProof.Rows.envOfC d_direct_sum.qual d_direct_sum.scope s.heap.objs.size (He.fAd K d_direct_sum.at_) cdv)) (PyProof.Rows.envOfC d_direct_sum.qual d_direct_sum.scope s.heap.objs.size (He.fAd K d_direct_sum.at_) cdv) (cxOf (L2.CX P w) P w K mg base ["a", "b", "rows", "row"] d_direct_sum.qual d_direct_sum.scope (He.fAd K d_direct_sum.at_) cdv A outer s H E).xe := PassesOwn.leaving
  exact (dss_cons (ds_if (dt_w (dw_or (dt_cmp (od_ne hu64) (dx_fld (fld_kind T) (dx_var (i := 0) rfl (.inr (.inl rfl)))) (dx_fld (fld_kind T) (dx_var (i := 1) rfl (.inr (.inl rfl)))) (nomark _)) (dw_one (dt_cmp (od_ne hu64) (dx_fld (fld_q T) (dx_var (i := 0) rfl (.inr (.inl rfl)))) (dx_fld (fld_q T) (dx_var (i := 1) rfl (.inr (.inl rfl)))) (nomark _))))) (dss_one (ds_raise (c := 0) rfl rfl (T.exc 4).1 (T.glo 5) (T.exc 4).2.1 (T.exc 4).2.2.1 (T.exc 4).2.2.2 (by rfl) (by rfl) tk)) dss_nil) (dss_cons (ds_if (dt_cmp od_gt (dx_op od_add (dx_fld (fld_n T) (dx_var (i := 0) rfl (.inr (.inl rfl)))) (dx_fld (fld_n T) (dx_var (i := 1) rfl (.inr (.inl rfl))))) (dx_glInt (by rfl) (T.int 22)) (nomark _)) (dss_one (ds_raiseF (c := 1) (file := mfile) rfl rfl (ex_sx_Refused T) (.inl rfl) HP (T.free 23) (hr.mono (by decide)) (T.glo 24) (by rfl) (by rfl) tk (da_cons dx_str da_nil))) dss_nil) (dss_cons (ds_set nd rfl (.inl rfl) (dx_op od_add (dx_df (df_lc (own := [("row", 3)]) rfl nd (di_seq (dx_fld (fld_matrix T) (dx_var (i := 0) rfl (.inr (.inl rfl))))) (blkOk_by (by kernel_rfl)) (fun _ _ _ _ _ => (dg_name nd rfl (.inl rfl))) (by decide) (fun _ _ _ _ _ => dts_nil) (fun _ _ _ _ _ => (dx_op od_add (dx_var (i := 3) rfl (.inl rfl)) (dx_op od_mulT (dx_tup (da_cons dx_int da_nil)) (dx_fld (fld_n T) (dx_var (i := 1) rfl (.inr (.inl rfl))))))))) (dx_df (df_lc (own := [("row", 3)]) rfl nd (di_seq (dx_fld (fld_matrix T) (dx_var (i := 1) rfl (.inr (.inl rfl))))) (blkOk_by (by kernel_rfl)) (fun _ _ _ _ _ => (dg_name nd rfl (.inl rfl))) (by decide) (fun _ _ _ _ _ => dts_nil) (fun _ _ _ _ _ => (dx_op od_add (dx_op od_mulT (dx_tup (da_cons dx_int da_nil)) (dx_fld (fld_n T) (dx_var (i := 0) rfl (.inr (.inl rfl))))) (dx_var (i := 3) rfl (.inl rfl)))))))) (dss_one (ds_ret (dx_make (c := 1) (GdI.good (c := 1) (G_Space___init__) (hr.mono (by decide))) tk (by rfl) (da_cons (dx_fld (fld_kind T) (dx_var (i := 0) rfl (.inr (.inl rfl)))) (da_cons (dx_fld (fld_q T) (dx_var (i := 0) rfl (.inr (.inl rfl)))) (da_cons (dx_var (i := 2) rfl (.inl rfl)) da_nil)))))))))
theorem sc_scaled : FnScope ["space", "c", "field", "rows", "row", "item"] ["space", "c"] d_scaled.scope := ⟨rfl, rfl, rfl, by decide +kernel, rfl, by decide +kernel, by decide +kernel⟩
theorem ok_scaled (HP : PFile P mfile) (T : Ty fa fn ex K mg) : Gd P w K mg base "scaled" 8 F_scaled_2 := by
  have G_Field_is_fixed := ok_Field_is_fixed (P := P) (w := w) (base := base) HP T
  have G_Field_is_number := ok_Field_is_number (P := P) (w := w) (base := base) HP T
  have G_Field_multiply := ok_Field_multiply (P := P) (w := w) (base := base) HP T
  have G_Space___init__ := ok_Space___init__ (P := P) (w := w) (base := base) HP T
  obtain ⟨fd, F⟩ := T.says.def_ 39 (d := d_scaled) rfl
  refine ⟨_, fd, ["space", "c"], fn_pure F sc_scaled (fun cdv A outer s H E e0 hr => ?_), (T.glo 71), F.kp, F.bindsN fun _ _ _ _ _ _ us hl => match us, hl with | [_, _], _ => rfl⟩
  have hu64 := hr.units
  have hu65 : (A.deeper (PyProof.Rows.envOfC d_scaled.qual d_scaled.scope s.heap.objs.size (He.fAd K d_scaled.at_) cdv)).units + 65 < cLine := by have := hr.un; omega
  have nd := sc_scaled.nd
  have tk : Takes (cxOf (L2.CX P w) P w K mg base ["space", "c", "field", "rows", "row", "item"] d_scaled.qual d_scaled.scope (He.fAd K d_scaled.at_) cdv A outer s H E) (fun cls d _ H => E cls d H) := takes_of rfl rfl rfl rfl
  have po : PassesOwn (model P w) (A.deeper (PyProof.Rows.envOfC d_scaled.qual d_scaled.scope s.heap.objs.size (He.fAd K d_scaled.at_) cdv)) (PyProof.Rows.envOfC d_scaled.qual d_scaled.scope s.heap.objs.size (He.fAd K d_scaled.at_) cdv) (cxOf (L2.CX P w) P w K mg base ["space", "c", "field", "rows", "row", "item"] d_scaled.qual d_scaled.scope (He.fAd K d_scaled.at_) cdv A outer s H E).xe := PassesOwn.leaving
  exact (dss_cons (ds_set nd rfl (.inr rfl) (dx_fld (fld_field T) (dx_var (i := 0) rfl (.inl rfl)))) (dss_cons (ds_if (dt_w (dw_or (dt_not (dt_val (dx_meth (MtTab.cons ((G_Field_is_number).good (hr.mono (by decide))) MtTab.nil) tk (dx_var (i := 2) rfl (.inr (.inl rfl))) (da_cons (dx_var (i := 1) rfl (.inr (.inl rfl))) da_nil)))) (dw_one (dt_w (dw_and (dt_cmp (od_eq hu64) (dx_fld (fld_kind T) (dx_var (i := 0) rfl (.inl rfl))) dx_str (nomark _)) (dw_one (dt_not (dt_val (dx_meth (MtTab.cons ((G_Field_is_fixed).good (hr.mono (by decide))) MtTab.nil) tk (dx_var (i := 2) rfl (.inr (.inl rfl))) (da_cons (dx_var (i := 1) rfl (.inr (.inl rfl))) da_nil)))))))))) (dss_one (ds_raise (c := 0) rfl rfl (T.exc 4).1 (T.glo 5) (T.exc 4).2.1 (T.exc 4).2.2.1 (T.exc 4).2.2.2 (by rfl) (by rfl) tk)) dss_nil) (dss_cons (ds_setLc (own := [("row", 4)]) rfl nd rfl rfl (sw_true rfl rfl rfl (by decide +kernel)) (di_seq (dx_fld (fld_matrix T) (dx_var (i := 0) rfl (.inl rfl)))) (blkOk_by (by kernel_rfl)) (fun _ _ _ _ _ => (dg_name nd rfl (.inl rfl))) (by decide) (fun _ _ _ _ _ => dts_nil) (fun _ _ _ _ _ => (dx_callTy cd_tuple (by rfl) (T.free 13) (by decide +kernel) (da_cons (dx_df (df_lc (own := [("item", 5)]) rfl nd (di_seq (dx_var (i := 4) rfl (.inl rfl))) (blkOk_by (by kernel_rfl)) (fun _ _ _ _ _ => (dg_name nd rfl (.inl rfl))) (by decide) (fun _ _ _ _ _ => dts_nil) (fun _ _ _ _ _ => (dx_meth (MtTab.cons ((G_Field_multiply).good (hr.mono (by decide))) MtTab.nil) tkF (dx_var (i := 2) rfl (.inr (.inl rfl))) (da_cons (dx_var (i := 1) rfl (.inr (.inl rfl))) (da_cons (dx_var (i := 5) rfl (.inl rfl)) da_nil)))))) da_nil)))) (dss_one (ds_ret (dx_make (c := 1) (GdI.good (c := 1) (G_Space___init__) (hr.mono (by decide))) tk (by rfl) (da_cons (dx_fld (fld_kind T) (dx_var (i := 0) rfl (.inl rfl))) (da_cons (dx_fld (fld_q T) (dx_var (i := 0) rfl (.inl rfl))) (da_cons (dx_var (i := 3) rfl (.inl rfl)) da_nil)))))))))
theorem sc_scaled_build : FnScope ["space", "c", "field", "rows", "row", "item"] ["space", "c"] d_scaled_build.scope := ⟨rfl, rfl, rfl, by decide +kernel, rfl, by decide +kernel, by decide +kernel⟩
theorem ok_scaled_build (HP : PFile P mfile) (T : Ty fa fn ex K mg) : Gd P w K mg base "scaled_build" 8 F_scaled_2 := by
  have G_Field_is_fixed := ok_Field_is_fixed (P := P) (w := w) (base := base) HP T
  have G_Field_is_number := ok_Field_is_number (P := P) (w := w) (base := base) HP T
  have G_Field_multiply := ok_Field_multiply (P := P) (w := w) (base := base) HP T
  have G_Space___init__ := ok_Space___init__ (P := P) (w := w) (base := base) HP T
  obtain ⟨fd, F⟩ := T.says.def_ 40 (d := d_scaled_build) rfl
  refine ⟨_, fd, ["space", "c"], fn_pure F sc_scaled_build (fun cdv A outer s H E e0 hr => ?_), (T.glo 72), F.kp, F.bindsN fun _ _ _ _ _ _ us hl => match us, hl with | [_, _], _ => rfl⟩
  have hu64 := hr.units
  have hu65 : (A.deeper (PyProof.Rows.envOfC d_scaled_build.qual d_scaled_build.scope s.heap.objs.size (He.fAd K d_scaled_build.at_) cdv)).units + 65 < cLine := by have := hr.un; omega
  have nd := sc_scaled_build.nd
  have tk : Takes (cxOf (L2.CX P w) P w K mg base ["space", "c", "field", "rows", "row", "item"] d_scaled_build.qual d_scaled_build.scope (He.fAd K d_scaled_build.at_) cdv A outer s H E) (fun cls d _ H => E cls d H) := takes_of rfl rfl rfl rfl
  have po : PassesOwn (model P w) (A.deeper (PyProof.Rows.envOfC d_scaled_build.qual d_scaled_build.scope s.heap.objs.size (He.fAd K d_scaled_build.at_) cdv)) (PyProof.Rows.envOfC d_scaled_build.qual d_scaled_build.scope s.heap.objs.size (He.fAd K d_scaled_build.at_) cdv) (cxOf (L2.CX P w) P w K mg base ["space", "c", "field", "rows", "row", "item"] d_scaled_build.qual d_scaled_build.scope (He.fAd K d_scaled_build.at_) cdv A outer s H E).xe := PassesOwn.leaving
  exact (dss_cons (ds_set nd rfl (.inr rfl) (dx_fld (fld_field T) (dx_var (i := 0) rfl (.inl rfl)))) (dss_cons (ds_if (dt_w (dw_or (dt_not (dt_val (dx_meth (MtTab.cons ((G_Field_is_number).good (hr.mono (by decide))) MtTab.nil) tk (dx_var (i := 2) rfl (.inr (.inl rfl))) (da_cons (dx_var (i := 1) rfl (.inr (.inl rfl))) da_nil)))) (dw_one (dt_w (dw_and (dt_cmp (od_eq hu64) (dx_fld (fld_kind T) (dx_var (i := 0) rfl (.inl rfl))) dx_str (nomark _)) (dw_one (dt_not (dt_val (dx_meth (MtTab.cons ((G_Field_is_fixed).good (hr.mono (by decide))) MtTab.nil) tk (dx_var (i := 2) rfl (.inr (.inl rfl))) (da_cons (dx_var (i := 1) rfl (.inr (.inl rfl))) da_nil)))))))))) (dss_one (ds_raise (c := 0) rfl rfl (T.exc 4).1 (T.glo 5) (T.exc 4).2.1 (T.exc 4).2.2.1 (T.exc 4).2.2.2 (by rfl) (by rfl) tk)) dss_nil) (dss_cons (ds_setLc (own := [("row", 4)]) rfl nd rfl rfl (sw_true rfl rfl rfl (by decide +kernel)) (di_seq (dx_fld (fld_matrix T) (dx_var (i := 0) rfl (.inl rfl)))) (blkOk_by (by kernel_rfl)) (fun _ _ _ _ _ => (dg_name nd rfl (.inl rfl))) (by decide) (fun _ _ _ _ _ => dts_nil) (fun _ _ _ _ _ => (dx_callTy cd_tuple (by rfl) (T.free 13) (by decide +kernel) (da_cons (dx_df (df_lc (own := [("item", 5)]) rfl nd (di_seq (dx_var (i := 4) rfl (.inl rfl))) (blkOk_by (by kernel_rfl)) (fun _ _ _ _ _ => (dg_name nd rfl (.inl rfl))) (by decide) (fun _ _ _ _ _ => dts_nil) (fun _ _ _ _ _ => (dx_meth (MtTab.cons ((G_Field_multiply).good (hr.mono (by decide))) MtTab.nil) tkF (dx_var (i := 2) rfl (.inr (.inl rfl))) (da_cons (dx_var (i := 1) rfl (.inr (.inl rfl))) (da_cons (dx_var (i := 5) rfl (.inl rfl)) da_nil)))))) da_nil)))) (dss_one (ds_ret (dx_make (c := 1) (GdI.good (c := 1) (G_Space___init__) (hr.mono (by decide))) tk (by rfl) (da_cons (dx_fld (fld_kind T) (dx_var (i := 0) rfl (.inl rfl))) (da_cons (dx_fld (fld_q T) (dx_var (i := 0) rfl (.inl rfl))) (da_cons (dx_var (i := 3) rfl (.inl rfl)) da_nil)))))))))
theorem sc_form_on : FnScope ["space", "rows", "found", "i", "later", "j", "other"] ["space", "rows"] d_form_on.scope := ⟨rfl, rfl, rfl, by decide +kernel, rfl, by decide +kernel, by decide +kernel⟩
theorem ok_form_on (HP : PFile P mfile) (T : Ty fa fn ex K mg) : Gd P w K mg base "form_on" 8 F_form_on := by
  have G_Space___init__ := ok_Space___init__ (P := P) (w := w) (base := base) HP T
  have G_Space_product := ok_Space_product (P := P) (w := w) (base := base) HP T
  have G_Space_value := ok_Space_value (P := P) (w := w) (base := base) HP T
  obtain ⟨fd, F⟩ := T.says.def_ 41 (d := d_form_on) rfl
  refine ⟨_, fd, ["space", "rows"], fn_pure F sc_form_on (fun cdv A outer s H E e0 hr => ?_), (T.glo 73), F.kp, F.bindsN fun _ _ _ _ _ _ us hl => match us, hl with | [_, _], _ => rfl⟩
  have hu64 := hr.units
  have hu65 : (A.deeper (PyProof.Rows.envOfC d_form_on.qual d_form_on.scope s.heap.objs.size (He.fAd K d_form_on.at_) cdv)).units + 65 < cLine := by have := hr.un; omega
  have nd := sc_form_on.nd
  have tk : Takes (cxOf (L2.CX P w) P w K mg base ["space", "rows", "found", "i", "later", "j", "other"] d_form_on.qual d_form_on.scope (He.fAd K d_form_on.at_) cdv A outer s H E) (fun cls d _ H => E cls d H) := takes_of rfl rfl rfl rfl
  have po : PassesOwn (model P w) (A.deeper (PyProof.Rows.envOfC d_form_on.qual d_form_on.scope s.heap.objs.size (He.fAd K d_form_on.at_) cdv)) (PyProof.Rows.envOfC d_form_on.qual d_form_on.scope s.heap.objs.size (He.fAd K d_form_on.at_) cdv) (cxOf (L2.CX P w) P w K mg base ["space", "rows", "found", "i", "later", "j", "other"] d_form_on.qual d_form_on.scope (He.fAd K d_form_on.at_) cdv A outer s H E).xe := PassesOwn.leaving
  exact (dss_cons (ds_own nd rfl (.inl rfl) (df_lst da_nil)) (dss_cons (ds_for po rfl (di_range1 (by rfl) (T.free 14) (da_cons (dx_callB cd_len (by rfl) (T.free 15) (by decide +kernel) (da_cons (dx_var (i := 1) rfl (.inr (.inl rfl))) da_nil)) da_nil)) (dg_name nd rfl (.inr rfl)) (dss_one (ds_if (dt_cmp (od_eq hu64) (dx_fld (fld_kind T) (dx_var (i := 0) rfl (.inr (.inl rfl)))) dx_str (nomark _)) (dss_cons (ds_setLc (own := [("j", 5)]) rfl nd rfl rfl (sw_true rfl rfl rfl (by decide +kernel)) (di_range2 (by rfl) (T.free 14) (da_cons (dx_op od_add (dx_var (i := 3) rfl (.inr (.inl rfl))) dx_int) (da_cons (dx_callB cd_len (by rfl) (T.free 15) (by decide +kernel) (da_cons (dx_var (i := 1) rfl (.inr (.inl rfl))) da_nil)) da_nil))) (blkOk_by (by kernel_rfl)) (fun _ _ _ _ _ => (dg_name nd rfl (.inl rfl))) (by decide) (fun _ _ _ _ _ => dts_nil) (fun _ _ _ _ _ => (dx_meth (MtTab.cons ((G_Space_product).good (hr.mono (by decide))) MtTab.nil) tkF (dx_var (i := 0) rfl (.inr (.inl rfl))) (da_cons (dx_ix ixd (dx_var (i := 1) rfl (.inr (.inl rfl))) (dx_var (i := 3) rfl (.inr (.inl rfl)))) (da_cons (dx_ix ixd (dx_var (i := 1) rfl (.inr (.inl rfl))) (dx_var (i := 5) rfl (.inl rfl))) da_nil))))) (dss_one (ds_append (i := 2) rfl (.inl rfl) (dx_op od_add (dx_op od_add (dx_op od_mulT (dx_tup (da_cons dx_int da_nil)) (dx_var (i := 3) rfl (.inr (.inl rfl)))) (dx_tup (da_cons (dx_meth (MtTab.cons ((G_Space_value).good (hr.mono (by decide))) MtTab.nil) tk (dx_var (i := 0) rfl (.inr (.inl rfl))) (da_cons (dx_ix ixd (dx_var (i := 1) rfl (.inr (.inl rfl))) (dx_var (i := 3) rfl (.inr (.inl rfl)))) da_nil)) da_nil))) (dx_callTy cd_tuple (by rfl) (T.free 13) (by decide +kernel) (da_cons (dx_var (i := 4) rfl (.inl rfl)) da_nil)))))) (dss_one (ds_append (i := 2) rfl (.inl rfl) (dx_callTy cd_tuple (by rfl) (T.free 13) (by decide +kernel) (da_cons (dx_df (df_lc (own := [("other", 6)]) rfl nd (di_seq (dx_var (i := 1) rfl (.inr (.inl rfl)))) (blkOk_by (by kernel_rfl)) (fun _ _ _ _ _ => (dg_name nd rfl (.inl rfl))) (by decide) (fun _ _ _ _ _ => dts_nil) (fun _ _ _ _ _ => (dx_meth (MtTab.cons ((G_Space_product).good (hr.mono (by decide))) MtTab.nil) tkF (dx_var (i := 0) rfl (.inr (.inl rfl))) (da_cons (dx_ix ixd (dx_var (i := 1) rfl (.inr (.inl rfl))) (dx_var (i := 3) rfl (.inr (.inl rfl)))) (da_cons (dx_var (i := 6) rfl (.inl rfl)) da_nil)))))) da_nil))))))) (dss_one (ds_ret (dx_make (c := 1) (GdI.good (c := 1) (G_Space___init__) (hr.mono (by decide))) tk (by rfl) (da_cons (dx_fld (fld_kind T) (dx_var (i := 0) rfl (.inr (.inl rfl)))) (da_cons (dx_fld (fld_q T) (dx_var (i := 0) rfl (.inr (.inl rfl)))) (da_cons (dx_var (i := 2) rfl (.inl rfl)) da_nil))))))))
theorem sc_check_rows : FnScope ["space", "rows", "row"] ["space", "rows"] d_check_rows.scope := ⟨rfl, rfl, rfl, by decide +kernel, rfl, by decide +kernel, by decide +kernel⟩
theorem ok_check_rows (HP : PFile P mfile) (T : Ty fa fn ex K mg) : Gd P w K mg base "check_rows" 5 F_check_rows := by
  have G_Space_is_row := ok_Space_is_row (P := P) (w := w) (base := base) HP T
  obtain ⟨fd, F⟩ := T.says.def_ 42 (d := d_check_rows) rfl
  refine ⟨_, fd, ["space", "rows"], fn_pure F sc_check_rows (fun cdv A outer s H E e0 hr => ?_), (T.glo 74), F.kp, F.bindsN fun _ _ _ _ _ _ us hl => match us, hl with | [_, _], _ => rfl⟩
  have hu64 := hr.units
  have hu65 : (A.deeper (PyProof.Rows.envOfC d_check_rows.qual d_check_rows.scope s.heap.objs.size (He.fAd K d_check_rows.at_) cdv)).units + 65 < cLine := by have := hr.un; omega
  have nd := sc_check_rows.nd
  have tk : Takes (cxOf (L2.CX P w) P w K mg base ["space", "rows", "row"] d_check_rows.qual d_check_rows.scope (He.fAd K d_check_rows.at_) cdv A outer s H E) (fun cls d _ H => E cls d H) := takes_of rfl rfl rfl rfl
  have po : PassesOwn (model P w) (A.deeper (PyProof.Rows.envOfC d_check_rows.qual d_check_rows.scope s.heap.objs.size (He.fAd K d_check_rows.at_) cdv)) (PyProof.Rows.envOfC d_check_rows.qual d_check_rows.scope s.heap.objs.size (He.fAd K d_check_rows.at_) cdv) (cxOf (L2.CX P w) P w K mg base ["space", "rows", "row"] d_check_rows.qual d_check_rows.scope (He.fAd K d_check_rows.at_) cdv A outer s H E).xe := PassesOwn.leaving
  exact (dss_one (ds_if (dt_w (dw_or (dt_not (dt_val (dx_isi2 (pe_bltn (v := .ty "list") (by rfl) (T.free 21) (by decide +kernel) rfl) (pe_bltn (v := .ty "tuple") (by rfl) (T.free 13) (by decide +kernel) rfl) (by rfl) (T.free 1) (by decide +kernel) (dx_var (i := 1) rfl (.inl rfl))))) (dw_one (dt_not (dt_val (dx_callB (cd_all rfl) (by rfl) (T.free 16) (by decide +kernel) (da_cons (dx_df (df_lc (own := [("row", 2)]) rfl nd (di_seq (dx_var (i := 1) rfl (.inl rfl))) (blkOk_by (by kernel_rfl)) (fun _ _ _ _ _ => (dg_name nd rfl (.inl rfl))) (by decide) (fun _ _ _ _ _ => dts_nil) (fun _ _ _ _ _ => (dx_meth (MtTab.cons ((G_Space_is_row).good (hr.mono (by decide))) MtTab.nil) tkF (dx_var (i := 0) rfl (.inr (.inl rfl))) (da_cons (dx_var (i := 2) rfl (.inl rfl)) da_nil))))) da_nil))))))) (dss_one (ds_raise (c := 0) rfl rfl (T.exc 4).1 (T.glo 5) (T.exc 4).2.1 (T.exc 4).2.2.1 (T.exc 4).2.2.2 (by rfl) (by rfl) tk)) dss_nil))
theorem sc_restricted : FnScope ["space", "rows"] ["space", "rows"] d_restricted.scope := ⟨rfl, rfl, rfl, by decide +kernel, rfl, by decide +kernel, by decide +kernel⟩
theorem ok_restricted (HP : PFile P mfile) (T : Ty fa fn ex K mg) : Gd P w K mg base "restricted" 9 F_restricted := by
  have G_check_rows := ok_check_rows (P := P) (w := w) (base := base) HP T
  have G_form_on := ok_form_on (P := P) (w := w) (base := base) HP T
  obtain ⟨fd, F⟩ := T.says.def_ 43 (d := d_restricted) rfl
  refine ⟨_, fd, ["space", "rows"], fn_pure F sc_restricted (fun cdv A outer s H E e0 hr => ?_), (T.glo 75), F.kp, F.bindsN fun _ _ _ _ _ _ us hl => match us, hl with | [_, _], _ => rfl⟩
  have hu64 := hr.units
  have hu65 : (A.deeper (PyProof.Rows.envOfC d_restricted.qual d_restricted.scope s.heap.objs.size (He.fAd K d_restricted.at_) cdv)).units + 65 < cLine := by have := hr.un; omega
  have nd := sc_restricted.nd
  have tk : Takes (cxOf (L2.CX P w) P w K mg base ["space", "rows"] d_restricted.qual d_restricted.scope (He.fAd K d_restricted.at_) cdv A outer s H E) (fun cls d _ H => E cls d H) := takes_of rfl rfl rfl rfl
  have po : PassesOwn (model P w) (A.deeper (PyProof.Rows.envOfC d_restricted.qual d_restricted.scope s.heap.objs.size (He.fAd K d_restricted.at_) cdv)) (PyProof.Rows.envOfC d_restricted.qual d_restricted.scope s.heap.objs.size (He.fAd K d_restricted.at_) cdv) (cxOf (L2.CX P w) P w K mg base ["space", "rows"] d_restricted.qual d_restricted.scope (He.fAd K d_restricted.at_) cdv A outer s H E).xe := PassesOwn.leaving
  exact (dss_cons (ds_expr (dx_call ((G_check_rows).good (hr.mono (by decide))) tk (by rfl) (da_cons (dx_var (i := 0) rfl (.inl rfl)) (da_cons (dx_var (i := 1) rfl (.inl rfl)) da_nil)))) (dss_cons (ds_if (dt_cmp od_gt (dx_callB cd_len (by rfl) (T.free 15) (by decide +kernel) (da_cons (dx_var (i := 1) rfl (.inl rfl)) da_nil)) (dx_glInt (by rfl) (T.int 22)) (nomark _)) (dss_one (ds_raiseF (c := 1) (file := mfile) rfl rfl (ex_sx_Refused T) (.inl rfl) HP (T.free 23) (hr.mono (by decide)) (T.glo 24) (by rfl) (by rfl) tk (da_cons dx_str da_nil))) dss_nil) (dss_one (ds_ret (dx_call ((G_form_on).good (hr.mono (by decide))) tk (by rfl) (da_cons (dx_var (i := 0) rfl (.inl rfl)) (da_cons (dx_var (i := 1) rfl (.inl rfl)) da_nil)))))))
theorem sc__law_state : FnScope ["_law_script", "_law_seed", "_law_total", "_law_cell"] ["_law_script"] d__law_state.scope := ⟨rfl, rfl, rfl, by decide +kernel, rfl, by decide +kernel, by decide +kernel⟩
theorem ok__law_state (HP : PFile P mfile) (T : Ty fa fn ex K mg) : Gd P w K mg base "_law_state" 1 F__law_state := by
  obtain ⟨fd, F⟩ := T.says.def_ 44 (d := d__law_state) rfl
  refine ⟨_, fd, ["_law_script"], fn_pure F sc__law_state (fun cdv A outer s H E e0 hr => ?_), (T.glo 76), F.kp, F.bindsN fun _ _ _ _ _ _ us hl => match us, hl with | [_], _ => rfl⟩
  have hu64 := hr.units
  have hu65 : (A.deeper (PyProof.Rows.envOfC d__law_state.qual d__law_state.scope s.heap.objs.size (He.fAd K d__law_state.at_) cdv)).units + 65 < cLine := by have := hr.un; omega
  have nd := sc__law_state.nd
  have tk : Takes (cxOf (L2.CX P w) P w K mg base ["_law_script", "_law_seed", "_law_total", "_law_cell"] d__law_state.qual d__law_state.scope (He.fAd K d__law_state.at_) cdv A outer s H E) (fun cls d _ H => E cls d H) := takes_of rfl rfl rfl rfl
  have po : PassesOwn (model P w) (A.deeper (PyProof.Rows.envOfC d__law_state.qual d__law_state.scope s.heap.objs.size (He.fAd K d__law_state.at_) cdv)) (PyProof.Rows.envOfC d__law_state.qual d__law_state.scope s.heap.objs.size (He.fAd K d__law_state.at_) cdv) (cxOf (L2.CX P w) P w K mg base ["_law_script", "_law_seed", "_law_total", "_law_cell"] d__law_state.qual d__law_state.scope (He.fAd K d__law_state.at_) cdv A outer s H E).xe := PassesOwn.leaving
  exact (dss_cons (ds_set nd rfl (.inl rfl) dx_int) (dss_cons (ds_set nd rfl (.inl rfl) dx_int) (dss_cons (ds_for po rfl (di_seq (dx_sl (dx_var (i := 0) rfl (.inl rfl)) do_none (do_some dx_int))) (dg_name nd rfl (.inl rfl)) (dss_cons (ds_set nd rfl (.inl rfl) (dx_op od_add (dx_op od_mul (dx_var (i := 1) rfl (.inl rfl)) dx_int) (dx_callB cd_abs (by rfl) (T.free 31) (by decide +kernel) (da_cons (dx_var (i := 3) rfl (.inl rfl)) da_nil)))) (dss_one (ds_set nd rfl (.inl rfl) (dx_op od_mod (dx_callTy cd_int (by rfl) (T.free 0) (by decide +kernel) (da_cons (dx_op od_add (dx_op od_mul (dx_var (i := 2) rfl (.inl rfl)) dx_int) (dx_var (i := 3) rfl (.inl rfl))) da_nil)) dx_int))))) (dss_one (ds_retF (df_lst (da_cons (dx_var (i := 1) rfl (.inl rfl)) (da_cons (dx_var (i := 2) rfl (.inl rfl)) da_nil))))))))
theorem sc__law_take : FnScope ["_law_state_here", "_law_m", "_law_value"] ["_law_state_here", "_law_m"] d__law_take.scope := ⟨rfl, rfl, rfl, by decide +kernel, rfl, by decide +kernel, by decide +kernel⟩
theorem ok__law_take (HP : PFile P mfile) (T : Ty fa fn ex K mg) : Gd2 P w K mg base "_law_take" 1 F__law_take := by
  obtain ⟨fd, F⟩ := T.says.def_ 45 (d := d__law_take) rfl
  refine ⟨_, fd, ["_law_state_here", "_law_m"], fn_cell (by decide) (by decide) F sc__law_take (fun cdv A outer s H E e0 hr => ?_), (T.glo 77), F.kp, F.bindsN fun _ _ _ _ _ _ us hl => match us, hl with | [_, _], _ => rfl⟩
  have hu64 := hr.units
  have hu65 : (A.deeper (PyProof.Rows.envOfC d__law_take.qual d__law_take.scope s.heap.objs.size (He.fAd K d__law_take.at_) cdv)).units + 65 < cLine := by have := hr.un; omega
  have nd := sc__law_take.nd
  have tk : Takes (cxOf (L2.CX P w) P w K mg base ["_law_state_here", "_law_m", "_law_value"] d__law_take.qual d__law_take.scope (He.fAd K d__law_take.at_) cdv A outer s H E) (fun cls d _ H => E cls d H) := takes_of rfl rfl rfl rfl
  have po : PassesOwn (model P w) (A.deeper (PyProof.Rows.envOfC d__law_take.qual d__law_take.scope s.heap.objs.size (He.fAd K d__law_take.at_) cdv)) (PyProof.Rows.envOfC d__law_take.qual d__law_take.scope s.heap.objs.size (He.fAd K d__law_take.at_) cdv) (cxOf (L2.CX P w) P w K mg base ["_law_state_here", "_law_m", "_law_value"] d__law_take.qual d__law_take.scope (He.fAd K d__law_take.at_) cdv A outer s H E).xe := PassesOwn.leaving
  exact (dss_cons (ds_if (dt_cmp od_gt (dx_ixO (i := 0) rfl (.inl rfl) dx_int) dx_int (nomark _)) (dss_cons (ds_set nd rfl (.inl rfl) (dx_op od_mod (dx_callTy cd_int (by rfl) (T.free 0) (by decide +kernel) (da_cons (dx_ixO (i := 0) rfl (.inl rfl) dx_int) da_nil)) (dx_var (i := 1) rfl (.inl rfl)))) (dss_cons (ds_ixSet (i := 0) rfl (.inl rfl) (dx_op od_fdiv (dx_ixO (i := 0) rfl (.inl rfl) dx_int) (dx_var (i := 1) rfl (.inl rfl))) dx_int) (dss_one (ds_ret (dx_var (i := 2) rfl (.inl rfl)))))) dss_nil) (dss_cons (ds_ixSet (i := 0) rfl (.inl rfl) (dx_op od_mod (dx_callTy cd_int (by rfl) (T.free 0) (by decide +kernel) (da_cons (dx_op od_add (dx_op od_mul (dx_ixO (i := 0) rfl (.inl rfl) dx_int) dx_int) dx_int) da_nil)) dx_int) dx_int) (dss_one (ds_ret (dx_op od_mod (dx_callTy cd_int (by rfl) (T.free 0) (by decide +kernel) (da_cons (dx_op od_fdiv (dx_ixO (i := 0) rfl (.inl rfl) dx_int) dx_int) da_nil)) (dx_var (i := 1) rfl (.inl rfl)))))))
theorem sc__law_reason : FnScope ["_law_name", "_law_a", "_law_b", "_law_c", "e"] ["_law_name", "_law_a", "_law_b", "_law_c"] d__law_reason.scope := ⟨rfl, rfl, rfl, by decide +kernel, rfl, by decide +kernel, by decide +kernel⟩
theorem ok__law_reason (HP : PFile P mfile) (T : Ty fa fn ex K mg) : Gd P w K mg base "_law_reason" 10 F__law_reason := by
  have G_Space___init__ := ok_Space___init__ (P := P) (w := w) (base := base) HP T
  have G_direct_sum := ok_direct_sum (P := P) (w := w) (base := base) HP T
  have G_hyperbolic := ok_hyperbolic (P := P) (w := w) (base := base) HP T
  have G_of_matrix := ok_of_matrix (P := P) (w := w) (base := base) HP T
  have G_restricted := ok_restricted (P := P) (w := w) (base := base) HP T
  have G_scaled_build := ok_scaled_build (P := P) (w := w) (base := base) HP T
  have G_zero_space := ok_zero_space (P := P) (w := w) (base := base) HP T
  obtain ⟨fd, F⟩ := T.says.def_ 46 (d := d__law_reason) rfl
  refine ⟨_, fd, ["_law_name", "_law_a", "_law_b", "_law_c"], fn_pure F sc__law_reason (fun cdv A outer s H E e0 hr => ?_), (T.glo 78), F.kp, F.bindsN fun _ _ _ _ _ _ us hl => match us, hl with | [_, _, _, _], _ => rfl⟩
  have hu64 := hr.units
  have hu65 : (A.deeper (PyProof.Rows.envOfC d__law_reason.qual d__law_reason.scope s.heap.objs.size (He.fAd K d__law_reason.at_) cdv)).units + 65 < cLine := by have := hr.un; omega
  have nd := sc__law_reason.nd
  have tk : Takes (cxOf (L2.CX P w) P w K mg base ["_law_name", "_law_a", "_law_b", "_law_c", "e"] d__law_reason.qual d__law_reason.scope (He.fAd K d__law_reason.at_) cdv A outer s H E) (fun cls d _ H => E cls d H) := takes_of rfl rfl rfl rfl
  have po : PassesOwn (model P w) (A.deeper (PyProof.Rows.envOfC d__law_reason.qual d__law_reason.scope s.heap.objs.size (He.fAd K d__law_reason.at_) cdv)) (PyProof.Rows.envOfC d__law_reason.qual d__law_reason.scope s.heap.objs.size (He.fAd K d__law_reason.at_) cdv) (cxOf (L2.CX P w) P w K mg base ["_law_name", "_law_a", "_law_b", "_law_c", "e"] d__law_reason.qual d__law_reason.scope (He.fAd K d__law_reason.at_) cdv A outer s H E).xe := PassesOwn.leaving
  exact (dss_cons (ds_try2 (i := 4) (h1 := 0) (h2 := 1) rfl rfl nd rfl rfl ⟨by rfl, by decide, .inl (T.glo 5)⟩ ⟨by rfl, by decide, .inl (T.glo 24)⟩ tk (hitB_ok (ex_hit_Malformed T)) (hitB_ok (ex_hit_Refused T)) (fun _ _ _ tk po => (dss_cons (ds_if (dt_cmp (od_eq hu64) (dx_var (i := 0) rfl (.inl rfl)) dx_str (nomark _)) (dss_one (ds_expr (dx_make (c := 1) (GdI.good (c := 1) (G_Space___init__) (hr.mono (by decide))) tk (by rfl) (da_cons (dx_var (i := 1) rfl (.inl rfl)) (da_cons (dx_var (i := 2) rfl (.inl rfl)) (da_cons (dx_var (i := 3) rfl (.inl rfl)) da_nil)))))) dss_nil) (dss_cons (ds_if (dt_cmp (od_eq hu64) (dx_var (i := 0) rfl (.inl rfl)) dx_str (nomark _)) (dss_one (ds_expr (dx_call ((G_hyperbolic).good (hr.mono (by decide))) tk (by rfl) (da_cons (dx_var (i := 1) rfl (.inl rfl)) (da_cons (dx_var (i := 2) rfl (.inl rfl)) (da_cons (dx_var (i := 3) rfl (.inl rfl)) da_nil)))))) dss_nil) (dss_cons (ds_if (dt_cmp (od_eq hu64) (dx_var (i := 0) rfl (.inl rfl)) dx_str (nomark _)) (dss_one (ds_expr (dx_call ((G_zero_space).good (hr.mono (by decide))) tk (by rfl) (da_cons (dx_var (i := 1) rfl (.inl rfl)) (da_cons (dx_var (i := 2) rfl (.inl rfl)) (da_cons (dx_var (i := 3) rfl (.inl rfl)) da_nil)))))) dss_nil) (dss_cons (ds_if (dt_cmp (od_eq hu64) (dx_var (i := 0) rfl (.inl rfl)) dx_str (nomark _)) (dss_one (ds_expr (dx_call ((G_of_matrix).good (hr.mono (by decide))) tk (by rfl) (da_cons (dx_var (i := 1) rfl (.inl rfl)) (da_cons (dx_var (i := 2) rfl (.inl rfl)) da_nil))))) dss_nil) (dss_cons (ds_if (dt_cmp (od_eq hu64) (dx_var (i := 0) rfl (.inl rfl)) dx_str (nomark _)) (dss_one (ds_expr (dx_call ((G_direct_sum).good (hr.mono (by decide))) tk (by rfl) (da_cons (dx_var (i := 1) rfl (.inl rfl)) (da_cons (dx_var (i := 2) rfl (.inl rfl)) da_nil))))) dss_nil) (dss_cons (ds_if (dt_cmp (od_eq hu64) (dx_var (i := 0) rfl (.inl rfl)) dx_str (nomark _)) (dss_one (ds_expr (dx_call ((G_scaled_build).good (hr.mono (by decide))) tk (by rfl) (da_cons (dx_var (i := 1) rfl (.inl rfl)) (da_cons (dx_var (i := 2) rfl (.inl rfl)) da_nil))))) dss_nil) (dss_one (ds_if (dt_cmp (od_eq hu64) (dx_var (i := 0) rfl (.inl rfl)) dx_str (nomark _)) (dss_one (ds_expr (dx_call ((G_restricted).good (hr.mono (by decide))) tk (by rfl) (da_cons (dx_var (i := 1) rfl (.inl rfl)) (da_cons (dx_var (i := 2) rfl (.inl rfl)) da_nil))))) dss_nil))))))))) (fun _ _ _ => dss_one (ds_ret dx_str)) (de_fld (xfB_ok (ex_xf_Refused T)) (of_decide_eq_true (ex_nof_Refused T)) rfl rfl (.inl rfl))) (dss_one (ds_ret dx_str)))
theorem sc__law_zeros : FnScope ["_law_n", "_law_i", "_law_j"] ["_law_n"] d__law_zeros.scope := ⟨rfl, rfl, rfl, by decide +kernel, rfl, by decide +kernel, by decide +kernel⟩
theorem ok__law_zeros (HP : PFile P mfile) (T : Ty fa fn ex K mg) : Gd P w K mg base "_law_zeros" 1 F__law_zeros := by
  obtain ⟨fd, F⟩ := T.says.def_ 47 (d := d__law_zeros) rfl
  refine ⟨_, fd, ["_law_n"], fn_pure F sc__law_zeros (fun cdv A outer s H E e0 hr => ?_), (T.glo 79), F.kp, F.bindsN fun _ _ _ _ _ _ us hl => match us, hl with | [_], _ => rfl⟩
  have hu64 := hr.units
  have hu65 : (A.deeper (PyProof.Rows.envOfC d__law_zeros.qual d__law_zeros.scope s.heap.objs.size (He.fAd K d__law_zeros.at_) cdv)).units + 65 < cLine := by have := hr.un; omega
  have nd := sc__law_zeros.nd
  have tk : Takes (cxOf (L2.CX P w) P w K mg base ["_law_n", "_law_i", "_law_j"] d__law_zeros.qual d__law_zeros.scope (He.fAd K d__law_zeros.at_) cdv A outer s H E) (fun cls d _ H => E cls d H) := takes_of rfl rfl rfl rfl
  have po : PassesOwn (model P w) (A.deeper (PyProof.Rows.envOfC d__law_zeros.qual d__law_zeros.scope s.heap.objs.size (He.fAd K d__law_zeros.at_) cdv)) (PyProof.Rows.envOfC d__law_zeros.qual d__law_zeros.scope s.heap.objs.size (He.fAd K d__law_zeros.at_) cdv) (cxOf (L2.CX P w) P w K mg base ["_law_n", "_law_i", "_law_j"] d__law_zeros.qual d__law_zeros.scope (He.fAd K d__law_zeros.at_) cdv A outer s H E).xe := PassesOwn.leaving
  exact (dss_one (ds_retF (df_lc (own := [("_law_i", 1)]) rfl nd (di_range1 (by rfl) (T.free 14) (da_cons (dx_var (i := 0) rfl (.inr (.inl rfl))) da_nil)) (blkOk_by (by kernel_rfl)) (fun _ _ _ _ _ => (dg_name nd rfl (.inl rfl))) (by decide) (fun _ _ _ _ _ => dts_nil) (fun _ _ _ _ _ => (dx_df (df_lc (own := [("_law_j", 2)]) rfl nd (di_range1 (by rfl) (T.free 14) (da_cons (dx_var (i := 0) rfl (.inr (.inl rfl))) da_nil)) (blkOk_by (by kernel_rfl)) (fun _ _ _ _ _ => (dg_name nd rfl (.inl rfl))) (by decide) (fun _ _ _ _ _ => dts_nil) (fun _ _ _ _ _ => dx_int)))))))
theorem okx__law_zeros (HP : PFile P mfile) (T : Ty fa fn ex K mg) : GdX P w K mg base "_law_zeros" 1 Fm__law_zeros := by
  obtain ⟨fd, F⟩ := T.says.def_ 47 (d := d__law_zeros) rfl
  refine ⟨_, fd, ["_law_n"], fn_mx F sc__law_zeros (fun cdv A outer s H E e0 hr => ?_), (T.glo 79), F.kp, F.bindsN fun _ _ _ _ _ _ us hl => match us, hl with | [_], _ => rfl⟩
  have nd := sc__law_zeros.nd
  exact (dm_lc (W := fun _ _ _ _ => False) (own := [("_law_i", 1)]) rfl nd (di_range1 (by rfl) (T.free 14) (da_cons (dx_var (i := 0) rfl (.inr (.inl rfl))) da_nil)) (blkOk_by (by kernel_rfl)) (fun _ _ _ _ _ => (dg_name nd rfl (.inl rfl))) (by decide) (fun _ _ _ _ _ => (df_lc (own := [("_law_j", 2)]) rfl nd (di_range1 (by rfl) (T.free 14) (da_cons (dx_var (i := 0) rfl (.inr (.inl rfl))) da_nil)) (blkOk_by (by kernel_rfl)) (fun _ _ _ _ _ => (dg_name nd rfl (.inl rfl))) (by decide) (fun _ _ _ _ _ => dts_nil) (fun _ _ _ _ _ => dx_int))))
theorem sc__law_bad_matrices : FnScope ["_law_kind", "_law_q", "_law_bad", "_law_wide", "_law_k"] ["_law_kind", "_law_q"] d__law_bad_matrices.scope := ⟨rfl, rfl, rfl, by decide +kernel, rfl, by decide +kernel, by decide +kernel⟩
theorem ok__law_bad_matrices (HP : PFile P mfile) (T : Ty fa fn ex K mg) : Gd P w K mg base "_law_bad_matrices" 2 F__law_bad_matrices := by
  have G__law_zeros := ok__law_zeros (P := P) (w := w) (base := base) HP T
  have GX__law_zeros := okx__law_zeros (P := P) (w := w) (base := base) HP T
  obtain ⟨fd, F⟩ := T.says.def_ 48 (d := d__law_bad_matrices) rfl
  refine ⟨_, fd, ["_law_kind", "_law_q"], fn_pure F sc__law_bad_matrices (fun cdv A outer s H E e0 hr => ?_), (T.glo 80), F.kp, F.bindsN fun _ _ _ _ _ _ us hl => match us, hl with | [_, _], _ => rfl⟩
  have hu64 := hr.units
  have hu65 : (A.deeper (PyProof.Rows.envOfC d__law_bad_matrices.qual d__law_bad_matrices.scope s.heap.objs.size (He.fAd K d__law_bad_matrices.at_) cdv)).units + 65 < cLine := by have := hr.un; omega
  have nd := sc__law_bad_matrices.nd
  have tk : Takes (cxOf (L2.CX P w) P w K mg base ["_law_kind", "_law_q", "_law_bad", "_law_wide", "_law_k"] d__law_bad_matrices.qual d__law_bad_matrices.scope (He.fAd K d__law_bad_matrices.at_) cdv A outer s H E) (fun cls d _ H => E cls d H) := takes_of rfl rfl rfl rfl
  have po : PassesOwn (model P w) (A.deeper (PyProof.Rows.envOfC d__law_bad_matrices.qual d__law_bad_matrices.scope s.heap.objs.size (He.fAd K d__law_bad_matrices.at_) cdv)) (PyProof.Rows.envOfC d__law_bad_matrices.qual d__law_bad_matrices.scope s.heap.objs.size (He.fAd K d__law_bad_matrices.at_) cdv) (cxOf (L2.CX P w) P w K mg base ["_law_kind", "_law_q", "_law_bad", "_law_wide", "_law_k"] d__law_bad_matrices.qual d__law_bad_matrices.scope (He.fAd K d__law_bad_matrices.at_) cdv A outer s H E).xe := PassesOwn.leaving
  exact (dss_cons (ds_set nd rfl (.inl rfl) (dx_lst (da_cons dx_non (da_cons dx_int (da_cons dx_str (da_cons (dx_lst (da_cons (dx_lst (da_cons dx_int (da_cons dx_int da_nil))) da_nil)) (da_cons (dx_lst (da_cons (dx_lst (da_cons dx_int da_nil)) (da_cons (dx_lst (da_cons dx_int da_nil)) da_nil))) (da_cons (dx_lst (da_cons dx_int da_nil)) (da_cons (dx_lst (da_cons dx_non da_nil)) (da_cons (dx_lst (da_cons (dx_lst (da_cons (dx_var (i := 1) rfl (.inl rfl)) da_nil)) da_nil)) (da_cons (dx_lst (da_cons (dx_lst (da_cons (dx_un ud_neg dx_int) da_nil)) da_nil)) (da_cons (dx_lst (da_cons (dx_lst (da_cons dx_bl da_nil)) da_nil)) (da_cons (dx_lst (da_cons (dx_lst (da_cons dx_non da_nil)) da_nil)) (da_cons (dx_lst (da_cons (dx_lst (da_cons dx_str da_nil)) da_nil)) (da_cons (dx_lst (da_cons (dx_lst (da_cons (dx_op od_pow dx_int dx_int) da_nil)) da_nil)) da_nil))))))))))))))) (dss_cons (ds_set nd rfl (.inl rfl) (dx_op od_add (dx_var (i := 2) rfl (.inl rfl)) (dx_lst (da_cons (dx_lst (da_cons (dx_lst (da_cons dx_int (da_cons dx_int da_nil))) (da_cons (dx_lst (da_cons dx_int da_nil)) da_nil))) (da_cons (dx_tup (da_cons (dx_tup (da_cons dx_int (da_cons dx_int da_nil))) (da_cons dx_str da_nil))) da_nil))))) (dss_cons (ds_own nd rfl (.inl rfl) (df_call ((G__law_zeros).good (hr.mono (by decide))) tk (by rfl) (da_cons dx_int da_nil))) (dss_cons (ds_ixSet (i := 3) rfl (.inl rfl) (dx_df (df_lc (own := [("_law_k", 4)]) rfl nd (di_range1 (by rfl) (T.free 14) (da_cons dx_int da_nil)) (blkOk_by (by kernel_rfl)) (fun _ _ _ _ _ => (dg_name nd rfl (.inl rfl))) (by decide) (fun _ _ _ _ _ => dts_nil) (fun _ _ _ _ _ => dx_int))) dx_int) (dss_cons (ds_if (dt_cmp (od_eq hu64) (dx_var (i := 0) rfl (.inl rfl)) dx_str (nomark _)) (dss_cons (ds_set nd rfl (.inl rfl) (dx_op od_add (dx_var (i := 2) rfl (.inl rfl)) (dx_lst (da_cons (dx_lst (da_cons (dx_lst (da_cons dx_int da_nil)) da_nil)) (da_cons (dx_lst (da_cons (dx_lst (da_cons dx_int (da_cons dx_int da_nil))) (da_cons (dx_lst (da_cons dx_int (da_cons dx_int da_nil))) da_nil))) (da_cons (dx_lst (da_cons (dx_lst (da_cons dx_int (da_cons dx_int da_nil))) (da_cons (dx_lst (da_cons dx_int (da_cons dx_int da_nil))) da_nil))) da_nil)))))) (dss_cons (ds_mxCall (i := 3) GX__law_zeros (hr.mono (by decide)) tk nd rfl (.inl rfl) (by rfl) (da_cons dx_int da_nil)) (dss_one (ds_mxSet (i := 3) rfl (.inl rfl) dx_int dp_int dp_int)))) dss_nil) (dss_cons (ds_if (dt_cmp (od_eq hu64) (dx_var (i := 0) rfl (.inl rfl)) dx_str (nomark _)) (dss_one (ds_set nd rfl (.inl rfl) (dx_op od_add (dx_var (i := 2) rfl (.inl rfl)) (dx_lst (da_cons (dx_lst (da_cons (dx_lst (da_cons dx_int (da_cons dx_int da_nil))) (da_cons (dx_lst (da_cons dx_int (da_cons dx_int da_nil))) da_nil))) (da_cons (dx_lst (da_cons (dx_lst (da_cons dx_int (da_cons dx_int da_nil))) (da_cons (dx_lst (da_cons dx_int (da_cons dx_int da_nil))) da_nil))) da_nil)))))) dss_nil) (dss_cons (ds_if (dt_cmp (od_eq hu64) (dx_var (i := 0) rfl (.inl rfl)) dx_str (nomark _)) (dss_one (ds_set nd rfl (.inl rfl) (dx_op od_add (dx_var (i := 2) rfl (.inl rfl)) (dx_lst (da_cons (dx_lst (da_cons (dx_lst (da_cons (dx_op od_add dx_int (dx_callTy cd_int (by rfl) (T.free 0) (by decide +kernel) (da_cons (dx_cmp (od_eq hu64) (dx_var (i := 1) rfl (.inl rfl)) dx_int (nomark _)) da_nil))) da_nil)) da_nil)) (da_cons (dx_lst (da_cons (dx_lst (da_cons dx_int (da_cons dx_int da_nil))) (da_cons (dx_lst (da_cons dx_int (da_cons dx_int da_nil))) da_nil))) (da_cons (dx_lst (da_cons (dx_lst (da_cons dx_int (da_cons (dx_op od_add dx_int (dx_callTy cd_int (by rfl) (T.free 0) (by decide +kernel) (da_cons (dx_cmp (od_eq hu64) (dx_var (i := 1) rfl (.inl rfl)) dx_int (nomark _)) da_nil))) da_nil))) (da_cons (dx_lst (da_cons (dx_op od_add dx_int (dx_callTy cd_int (by rfl) (T.free 0) (by decide +kernel) (da_cons (dx_cmp (od_eq hu64) (dx_var (i := 1) rfl (.inl rfl)) dx_int (nomark _)) da_nil))) (da_cons dx_int da_nil))) da_nil))) da_nil))))))) dss_nil) (dss_one (ds_retF (df_op of_cat (dx_var (i := 2) rfl (.inl rfl)) (dx_lst (da_cons (dx_alt (dx_var (i := 3) rfl (.inl rfl)) (dx_varX (i := 3) rfl (.inl rfl))) da_nil))))))))))))
theorem sc_law : FnScope ["_law_script", "_law_state_here", "_law_kind", "_law_q", "_law_name", "_law_empty", "_law_other", "_law_matrix", "_law_many", "_law_a", "_law_unlike", "_law_far", "_law_c", "_law_row", "_law_rows", "_law_k"] ["_law_script"] d_law.scope := ⟨rfl, rfl, rfl, by decide +kernel, rfl, by decide +kernel, by decide +kernel⟩
theorem law_ok {fd : FuncData} (F : FunD K d_law.name d_law.qual d_law.params d_law.body d_law.scope (d_law.dvs K) (d_law.kws K) (He.fAd K d_law.at_) fd) (HP : PFile P mfile) (T : Ty fa fn ex K mg) : FnOk P w K mg base (L2.CX P w) 11 (He.fAd K d_law.at_) fd ["_law_script"] (spP K F_law) := by
  have G_Space___init__ := ok_Space___init__ (P := P) (w := w) (base := base) HP T
  have G__law_bad_matrices := ok__law_bad_matrices (P := P) (w := w) (base := base) HP T
  have G__law_reason := ok__law_reason (P := P) (w := w) (base := base) HP T
  have G__law_state := ok__law_state (P := P) (w := w) (base := base) HP T
  have G__law_take := ok__law_take (P := P) (w := w) (base := base) HP T
  have G__law_zeros := ok__law_zeros (P := P) (w := w) (base := base) HP T
  refine fn_pure F sc_law (fun cdv A outer s H E e0 hr => ?_)
  have hu64 := hr.units
  have hu65 : (A.deeper (PyProof.Rows.envOfC d_law.qual d_law.scope s.heap.objs.size (He.fAd K d_law.at_) cdv)).units + 65 < cLine := by have := hr.un; omega
  have nd := sc_law.nd
  have tk : Takes (cxOf (L2.CX P w) P w K mg base ["_law_script", "_law_state_here", "_law_kind", "_law_q", "_law_name", "_law_empty", "_law_other", "_law_matrix", "_law_many", "_law_a", "_law_unlike", "_law_far", "_law_c", "_law_row", "_law_rows", "_law_k"] d_law.qual d_law.scope (He.fAd K d_law.at_) cdv A outer s H E) (fun cls d _ H => E cls d H) := takes_of rfl rfl rfl rfl
  have po : PassesOwn (model P w) (A.deeper (PyProof.Rows.envOfC d_law.qual d_law.scope s.heap.objs.size (He.fAd K d_law.at_) cdv)) (PyProof.Rows.envOfC d_law.qual d_law.scope s.heap.objs.size (He.fAd K d_law.at_) cdv) (cxOf (L2.CX P w) P w K mg base ["_law_script", "_law_state_here", "_law_kind", "_law_q", "_law_name", "_law_empty", "_law_other", "_law_matrix", "_law_many", "_law_a", "_law_unlike", "_law_far", "_law_c", "_law_row", "_law_rows", "_law_k"] d_law.qual d_law.scope (He.fAd K d_law.at_) cdv A outer s H E).xe := PassesOwn.leaving
  exact (dss_cons (ds_own nd rfl (.inl rfl) (df_call ((G__law_state).good (hr.mono (by decide))) tk (by rfl) (da_cons (dx_var (i := 0) rfl (.inl rfl)) da_nil))) (dss_cons (ds_set nd rfl (.inl rfl) (dx_ix ixd (dx_lst (da_cons dx_str (da_cons dx_str (da_cons dx_str da_nil)))) (dx_call2 ((G__law_take).good (hr.mono (by decide))) tk (by rfl) (i := 1) rfl (.inl rfl) (da_cons dx_int da_nil)))) (dss_cons (ds_set nd rfl (.inl rfl) (dx_ix ixd (dx_lst (da_cons dx_int (da_cons dx_int (da_cons dx_int (da_cons dx_int (da_cons dx_int (da_cons dx_int da_nil))))))) (dx_call2 ((G__law_take).good (hr.mono (by decide))) tk (by rfl) (i := 1) rfl (.inl rfl) (da_cons dx_int da_nil)))) (dss_cons (ds_if (dt_cmp (od_eq hu64) (dx_var (i := 2) rfl (.inl rfl)) dx_str (nomark _)) (dss_one (ds_set nd rfl (.inl rfl) (dx_ix ixd (dx_lst (da_cons dx_int (da_cons dx_int da_nil))) (dx_call2 ((G__law_take).good (hr.mono (by decide))) tk (by rfl) (i := 1) rfl (.inl rfl) (da_cons dx_int da_nil))))) dss_nil) (dss_cons (ds_for po rfl (di_seq (dx_lst (da_cons (dx_tup (da_cons dx_str (da_cons (dx_lst da_nil) da_nil))) (da_cons (dx_tup (da_cons dx_str (da_cons dx_int da_nil))) (da_cons (dx_tup (da_cons dx_str (da_cons dx_int da_nil))) da_nil))))) (dg_tup rfl (dgs_cons (dg_name nd rfl (.inl rfl)) (dgs_cons (dg_name nd rfl (.inl rfl)) dgs_nil))) (dss_cons (ds_for po rfl (di_seq (dx_lst (da_cons dx_non (da_cons dx_str (da_cons dx_str (da_cons dx_int (da_cons (dx_lst (da_cons dx_str da_nil)) (da_cons dx_str (da_cons dx_str da_nil))))))))) (dg_name nd rfl (.inl rfl)) (dss_one (ds_if (dt_cmp (od_ne hu64) (dx_call ((G__law_reason).good (hr.mono (by decide))) tk (by rfl) (da_cons (dx_var (i := 4) rfl (.inl rfl)) (da_cons (dx_var (i := 6) rfl (.inl rfl)) (da_cons (dx_var (i := 3) rfl (.inl rfl)) (da_cons (dx_var (i := 5) rfl (.inl rfl)) da_nil))))) dx_str (nomark _)) (dss_one (ds_ret dx_bl)) dss_nil))) (dss_cons (ds_for po rfl (di_seq (dx_lst (da_cons dx_int (da_cons dx_int (da_cons dx_int (da_cons dx_int (da_cons dx_int (da_cons dx_bl (da_cons dx_non (da_cons (dx_callTy cd_str (by rfl) (T.free 18) (by decide +kernel) (da_cons (dx_var (i := 3) rfl (.inl rfl)) da_nil)) (da_cons (dx_un ud_neg (dx_var (i := 3) rfl (.inl rfl))) (da_cons (dx_op od_pow dx_int dx_int) (da_cons (dx_lst (da_cons (dx_var (i := 3) rfl (.inl rfl)) da_nil)) da_nil))))))))))))) (dg_name nd rfl (.inl rfl)) (dss_one (ds_if (dt_cmp (od_ne hu64) (dx_call ((G__law_reason).good (hr.mono (by decide))) tk (by rfl) (da_cons (dx_var (i := 4) rfl (.inl rfl)) (da_cons (dx_var (i := 2) rfl (.inl rfl)) (da_cons (dx_var (i := 6) rfl (.inl rfl)) (da_cons (dx_var (i := 5) rfl (.inl rfl)) da_nil))))) dx_str (nomark _)) (dss_one (ds_ret dx_bl)) dss_nil))) (dss_one (ds_if (dt_w (dw_or (dt_cmp (od_ne hu64) (dx_call ((G__law_reason).good (hr.mono (by decide))) tk (by rfl) (da_cons (dx_var (i := 4) rfl (.inl rfl)) (da_cons dx_str (da_cons dx_int (da_cons (dx_var (i := 5) rfl (.inl rfl)) da_nil))))) dx_str (nomark _)) (dw_one (dt_cmp (od_ne hu64) (dx_call ((G__law_reason).good (hr.mono (by decide))) tk (by rfl) (da_cons (dx_var (i := 4) rfl (.inl rfl)) (da_cons (dx_var (i := 2) rfl (.inl rfl)) (da_cons (dx_var (i := 3) rfl (.inl rfl)) (da_cons (dx_var (i := 5) rfl (.inl rfl)) da_nil))))) dx_str (nomark _))))) (dss_one (ds_ret dx_bl)) dss_nil))))) (dss_cons (ds_for po rfl (di_seq (dx_call ((G__law_bad_matrices).good (hr.mono (by decide))) tk (by rfl) (da_cons (dx_var (i := 2) rfl (.inl rfl)) (da_cons (dx_var (i := 3) rfl (.inl rfl)) da_nil)))) (dg_name nd rfl (.inl rfl)) (dss_one (ds_if (dt_cmp (od_ne hu64) (dx_call ((G__law_reason).good (hr.mono (by decide))) tk (by rfl) (da_cons dx_str (da_cons (dx_var (i := 2) rfl (.inl rfl)) (da_cons (dx_var (i := 3) rfl (.inl rfl)) (da_cons (dx_var (i := 7) rfl (.inl rfl)) da_nil))))) dx_str (nomark _)) (dss_one (ds_ret dx_bl)) dss_nil))) (dss_cons (ds_if (dt_w (dw_or (dt_cmp (od_ne hu64) (dx_call ((G__law_reason).good (hr.mono (by decide))) tk (by rfl) (da_cons dx_str (da_cons (dx_var (i := 2) rfl (.inl rfl)) (da_cons (dx_var (i := 3) rfl (.inl rfl)) (da_cons (dx_call ((G__law_zeros).good (hr.mono (by decide))) tk (by rfl) (da_cons dx_int da_nil)) da_nil))))) dx_str (nomark _)) (dw_one (dt_cmp (od_ne hu64) (dx_call ((G__law_reason).good (hr.mono (by decide))) tk (by rfl) (da_cons dx_str (da_cons (dx_var (i := 3) rfl (.inl rfl)) (da_cons (dx_call ((G__law_zeros).good (hr.mono (by decide))) tk (by rfl) (da_cons dx_int da_nil)) (da_cons dx_int da_nil))))) dx_str (nomark _))))) (dss_one (ds_ret dx_bl)) dss_nil) (dss_cons (ds_for po rfl (di_seq (dx_lst (da_cons (dx_un ud_neg dx_int) (da_cons dx_bl (da_cons dx_non (da_cons dx_str (da_cons (dx_lst (da_cons dx_int da_nil)) da_nil))))))) (dg_name nd rfl (.inl rfl)) (dss_one (ds_if (dt_w (dw_or (dt_cmp (od_ne hu64) (dx_call ((G__law_reason).good (hr.mono (by decide))) tk (by rfl) (da_cons dx_str (da_cons (dx_var (i := 2) rfl (.inl rfl)) (da_cons (dx_var (i := 3) rfl (.inl rfl)) (da_cons (dx_var (i := 8) rfl (.inl rfl)) da_nil))))) dx_str (nomark _)) (dw_one (dt_cmp (od_ne hu64) (dx_call ((G__law_reason).good (hr.mono (by decide))) tk (by rfl) (da_cons dx_str (da_cons (dx_var (i := 2) rfl (.inl rfl)) (da_cons (dx_var (i := 3) rfl (.inl rfl)) (da_cons (dx_var (i := 8) rfl (.inl rfl)) da_nil))))) dx_str (nomark _))))) (dss_one (ds_ret dx_bl)) dss_nil))) (dss_cons (ds_for po rfl (di_seq (dx_lst (da_cons dx_int (da_cons (dx_op od_pow dx_int dx_int) da_nil)))) (dg_name nd rfl (.inl rfl)) (dss_one (ds_if (dt_w (dw_or (dt_cmp (od_ne hu64) (dx_call ((G__law_reason).good (hr.mono (by decide))) tk (by rfl) (da_cons dx_str (da_cons (dx_var (i := 2) rfl (.inl rfl)) (da_cons (dx_var (i := 3) rfl (.inl rfl)) (da_cons (dx_var (i := 8) rfl (.inl rfl)) da_nil))))) dx_str (nomark _)) (dw_one (dt_cmp (od_ne hu64) (dx_call ((G__law_reason).good (hr.mono (by decide))) tk (by rfl) (da_cons dx_str (da_cons (dx_var (i := 2) rfl (.inl rfl)) (da_cons (dx_var (i := 3) rfl (.inl rfl)) (da_cons (dx_var (i := 8) rfl (.inl rfl)) da_nil))))) dx_str (nomark _))))) (dss_one (ds_ret dx_bl)) dss_nil))) (dss_cons (ds_if (dt_w (dw_or (dt_cmp (od_ne hu64) (dx_call ((G__law_reason).good (hr.mono (by decide))) tk (by rfl) (da_cons dx_str (da_cons (dx_var (i := 2) rfl (.inl rfl)) (da_cons (dx_var (i := 3) rfl (.inl rfl)) (da_cons dx_int da_nil))))) dx_str (nomark _)) (dw_one (dt_cmp (od_ne hu64) (dx_call ((G__law_reason).good (hr.mono (by decide))) tk (by rfl) (da_cons dx_str (da_cons (dx_var (i := 2) rfl (.inl rfl)) (da_cons (dx_var (i := 3) rfl (.inl rfl)) (da_cons dx_int da_nil))))) dx_str (nomark _))))) (dss_one (ds_ret dx_bl)) dss_nil) (dss_cons (ds_for po rfl (di_seq (dx_lst (da_cons dx_non (da_cons (dx_lst (da_cons (dx_lst (da_cons dx_int (da_cons dx_int da_nil))) da_nil)) (da_cons (dx_lst (da_cons (dx_lst (da_cons (dx_var (i := 3) rfl (.inl rfl)) da_nil)) da_nil)) (da_cons (dx_lst (da_cons (dx_lst (da_cons dx_bl da_nil)) da_nil)) (da_cons dx_str (da_cons (dx_lst (da_cons (dx_lst (da_cons dx_int da_nil)) (da_cons (dx_lst (da_cons dx_int (da_cons dx_int da_nil))) da_nil))) da_nil)))))))) (dg_name nd rfl (.inl rfl)) (dss_one (ds_if (dt_w (dw_or (dt_cmp (od_ne hu64) (dx_call ((G__law_reason).good (hr.mono (by decide))) tk (by rfl) (da_cons dx_str (da_cons (dx_var (i := 3) rfl (.inl rfl)) (da_cons (dx_var (i := 7) rfl (.inl rfl)) (da_cons dx_int da_nil))))) dx_str (nomark _)) (dw_one (dt_cmp (od_ne hu64) (dx_call ((G__law_reason).good (hr.mono (by decide))) tk (by rfl) (da_cons dx_str (da_cons dx_int (da_cons (dx_lst da_nil) (da_cons dx_int da_nil))))) dx_str (nomark _))))) (dss_one (ds_ret dx_bl)) dss_nil))) (dss_cons (ds_set nd rfl (.inl rfl) (dx_make (c := 1) (GdI.good (c := 1) (G_Space___init__) (hr.mono (by decide))) tk (by rfl) (da_cons (dx_var (i := 2) rfl (.inl rfl)) (da_cons (dx_var (i := 3) rfl (.inl rfl)) (da_cons (dx_call ((G__law_zeros).good (hr.mono (by decide))) tk (by rfl) (da_cons dx_int da_nil)) da_nil))))) (dss_cons (ds_set nd rfl (.inl rfl) (dx_make (c := 1) (GdI.good (c := 1) (G_Space___init__) (hr.mono (by decide))) tk (by rfl) (da_cons (dx_if (dt_cmp (od_eq hu64) (dx_var (i := 2) rfl (.inl rfl)) dx_str (nomark _)) dx_str dx_str) (da_cons (dx_var (i := 3) rfl (.inl rfl)) (da_cons (dx_call ((G__law_zeros).good (hr.mono (by decide))) tk (by rfl) (da_cons dx_int da_nil)) da_nil))))) (dss_cons (ds_set nd rfl (.inl rfl) (dx_make (c := 1) (GdI.good (c := 1) (G_Space___init__) (hr.mono (by decide))) tk (by rfl) (da_cons dx_str (da_cons (dx_op od_add dx_int (dx_callTy cd_int (by rfl) (T.free 0) (by decide +kernel) (da_cons (dx_cmp (od_eq hu64) (dx_var (i := 3) rfl (.inl rfl)) dx_int (nomark _)) da_nil))) (da_cons (dx_call ((G__law_zeros).good (hr.mono (by decide))) tk (by rfl) (da_cons dx_int da_nil)) da_nil))))) (dss_cons (ds_if (dt_w (dw_or (dt_cmp (od_ne hu64) (dx_call ((G__law_reason).good (hr.mono (by decide))) tk (by rfl) (da_cons dx_str (da_cons (dx_var (i := 9) rfl (.inl rfl)) (da_cons (dx_var (i := 10) rfl (.inl rfl)) (da_cons dx_int da_nil))))) dx_str (nomark _)) (dw_one (dt_cmp (od_ne hu64) (dx_call ((G__law_reason).good (hr.mono (by decide))) tk (by rfl) (da_cons dx_str (da_cons (dx_var (i := 9) rfl (.inl rfl)) (da_cons (dx_var (i := 11) rfl (.inl rfl)) (da_cons dx_int da_nil))))) dx_str (nomark _))))) (dss_one (ds_ret dx_bl)) dss_nil) (dss_cons (ds_if (dt_cmp (od_ne hu64) (dx_call ((G__law_reason).good (hr.mono (by decide))) tk (by rfl) (da_cons dx_str (da_cons (dx_var (i := 9) rfl (.inl rfl)) (da_cons (dx_make (c := 1) (GdI.good (c := 1) (G_Space___init__) (hr.mono (by decide))) tk (by rfl) (da_cons (dx_var (i := 2) rfl (.inl rfl)) (da_cons (dx_var (i := 3) rfl (.inl rfl)) (da_cons (dx_call ((G__law_zeros).good (hr.mono (by decide))) tk (by rfl) (da_cons dx_int da_nil)) da_nil)))) (da_cons dx_int da_nil))))) dx_str (nomark _)) (dss_one (ds_ret dx_bl)) dss_nil) (dss_cons (ds_for po rfl (di_seq (dx_lst (da_cons (dx_var (i := 3) rfl (.inl rfl)) (da_cons (dx_un ud_neg dx_int) (da_cons dx_bl (da_cons dx_non (da_cons dx_str da_nil))))))) (dg_name nd rfl (.inl rfl)) (dss_one (ds_if (dt_cmp (od_ne hu64) (dx_call ((G__law_reason).good (hr.mono (by decide))) tk (by rfl) (da_cons dx_str (da_cons (dx_var (i := 9) rfl (.inl rfl)) (da_cons (dx_var (i := 12) rfl (.inl rfl)) (da_cons dx_int da_nil))))) dx_str (nomark _)) (dss_one (ds_ret dx_bl)) dss_nil))) (dss_cons (ds_if (dt_w (dw_and (dt_cmp (od_eq hu64) (dx_var (i := 2) rfl (.inl rfl)) dx_str (nomark _)) (dw_one (dt_cmp (od_ne hu64) (dx_call ((G__law_reason).good (hr.mono (by decide))) tk (by rfl) (da_cons dx_str (da_cons (dx_var (i := 9) rfl (.inl rfl)) (da_cons (dx_op od_add dx_int (dx_callTy cd_int (by rfl) (T.free 0) (by decide +kernel) (da_cons (dx_cmp (od_eq hu64) (dx_var (i := 3) rfl (.inl rfl)) dx_int (nomark _)) da_nil))) (da_cons dx_int da_nil))))) dx_str (nomark _))))) (dss_one (ds_ret dx_bl)) dss_nil) (dss_cons (ds_set nd rfl (.inr rfl) (dx_tup (da_cons dx_int (da_cons dx_int (da_cons dx_int (da_cons dx_int da_nil)))))) (dss_cons (ds_for po rfl (di_seq (dx_lst (da_cons dx_non (da_cons dx_int (da_cons dx_str (da_cons (dx_var (i := 13) rfl (.inr (.inl rfl))) (da_cons (dx_lst (da_cons (dx_var (i := 13) rfl (.inr (.inl rfl))) (da_cons dx_non da_nil))) (da_cons (dx_lst (da_cons (dx_df (df_callTy cf_list (by rfl) (T.free 21) (by decide +kernel) (da_cons (dx_var (i := 13) rfl (.inr (.inl rfl))) da_nil))) da_nil)) (da_cons (dx_lst (da_cons (dx_sl (dx_var (i := 13) rfl (.inr (.inl rfl))) (do_some dx_int) do_none) da_nil)) (da_cons (dx_lst (da_cons (dx_op od_add (dx_var (i := 13) rfl (.inr (.inl rfl))) (dx_tup (da_cons dx_int da_nil))) da_nil)) (da_cons (dx_lst (da_cons (dx_tup (da_cons dx_int (da_cons dx_int (da_cons dx_int (da_cons (dx_var (i := 3) rfl (.inl rfl)) da_nil))))) da_nil)) (da_cons (dx_op od_add (dx_df (df_lc (own := [("_law_k", 15)]) rfl nd (di_range1 (by rfl) (T.free 14) (da_cons dx_int da_nil)) (blkOk_by (by kernel_rfl)) (fun _ _ _ _ _ => (dg_name nd rfl (.inl rfl))) (by decide) (fun _ _ _ _ _ => dts_nil) (fun _ _ _ _ _ => (dx_var (i := 13) rfl (.inr (.inl rfl)))))) (dx_lst (da_cons dx_non da_nil))) da_nil)))))))))))) (dg_name nd rfl (.inl rfl)) (dss_one (ds_if (dt_cmp (od_ne hu64) (dx_call ((G__law_reason).good (hr.mono (by decide))) tk (by rfl) (da_cons dx_str (da_cons (dx_var (i := 9) rfl (.inl rfl)) (da_cons (dx_var (i := 14) rfl (.inl rfl)) (da_cons dx_int da_nil))))) dx_str (nomark _)) (dss_one (ds_ret dx_bl)) dss_nil))) (dss_one (ds_ret (dx_cmp (od_eq hu64) (dx_call ((G__law_reason).good (hr.mono (by decide))) tk (by rfl) (da_cons dx_str (da_cons (dx_var (i := 9) rfl (.inl rfl)) (da_cons (dx_df (df_lc (own := [("_law_k", 15)]) rfl nd (di_range1 (by rfl) (T.free 14) (da_cons dx_int da_nil)) (blkOk_by (by kernel_rfl)) (fun _ _ _ _ _ => (dg_name nd rfl (.inl rfl))) (by decide) (fun _ _ _ _ _ => dts_nil) (fun _ _ _ _ _ => (dx_var (i := 13) rfl (.inr (.inl rfl)))))) (da_cons dx_int da_nil))))) dx_str (nomark _))))))))))))))))))))))))
end
end My

set_option Elab.async false
set_option linter.all false
set_option maxRecDepth 100000
set_option maxHeartbeats 0
namespace My
open PySem PySem.Spec PyProof.Rows L2 Dn
theorem facts {P : Program} {w : World} {K : PySem.W.Frag} {h : Heap} {mg : Str → Option Value} {f : Addr} (HP : PFile P mfile) (X : K.In h) (G : h.Ns mainGlobals mg) (hfa : mg ("law" : Str) = some (.ref f)) (c : He.SaysD fa fn K ∧ ex K = true) :
    ∃ fd : FuncData, (∀ (s : Shared) (v : Value), BindsTo s fd ⟨[v], []⟩ [("_law_script", v)]) ∧ ∀ base : Heap, K.In base → base.Ns mainGlobals mg → FnOk P w K mg base (L2.CX P w) 11 f fd ["_law_script"] (spP K F_law) := by
  have T : Ty fa fn ex K mg := ⟨⟨c.1, h, X, G⟩, c.2⟩
  obtain ⟨fd0, F⟩ := c.1.def_ 49 (d := d_law) rfl
  have e := hfa.symm.trans (T.glo 81)
  cases e
  have b := FunD.bindsA (ps := ["_law_script"]) F fun _ _ _ _ _ _ us hl => match us, hl with | [_], _ => rfl
  refine ⟨fd0, fun s v => b s [v] rfl, fun base _ _ => ?_⟩
  exact law_ok F HP T
end My
open PySem PySem.W PySem.Calls PyProof.Rows
theorem PySem.Challenge.cw_wittspaces_k13_refused_forms_holds : PySem.Challenge.rw_wittspaces_k13_refused_forms.Holds := by
  w_on; o_law
  refine HandSHeadRun.head_any (r := OpenLaw.row PySem.Challenge.rw_wittspaces_k13_refused_forms) (q := view (OpenLaw.row PySem.Challenge.rw_wittspaces_k13_refused_forms).prog [48]) (H := My.hk) (ob := My.ob) (M := 5000) (loose := My.names) (d := HandSHeadRun.topDef (OpenLaw.row PySem.Challenge.rw_wittspaces_k13_refused_forms).prog 48) (kwd := []) My.ob_eq
    (by kernel_rfl) (fun s => by kernel_rfl) My.run (by kernel_rfl) (by kernel_rfl) (by kernel_rfl) (by rfl) (by first | assumption | decide +kernel) (by decide +kernel) ⟨rfl, rfl, rfl, rfl, rfl, by decide +kernel⟩ ?hw ?hc
  case hw => w_witness2
  case hc =>
    refine Dn.leave (l := PySem.Challenge.rw_wittspaces_k13_refused_forms) (n := 63) (k := 11) (x := "_law_script") rfl (by decide) (by kernel_rfl) ⟨rfl, by decide, by decide⟩ ?F
    intro w mg fa h Y G hmg0
    obtain ⟨K, KX, c⟩ := Y
    have hmg : mg ("law" : PySem.Str) = some (.ref fa) := by
      have e : (HandSHeadRun.topDef (OpenLaw.row PySem.Challenge.rw_wittspaces_k13_refused_forms).prog 48).name = ("law" : PySem.Str) := by kernel_rfl
      rw [← e]
      exact hmg0
    obtain ⟨fd, hb, hF⟩ := My.facts (P := (PySem.Challenge.rw_wittspaces_k13_refused_forms).prog) (w := w) ⟨by kernel_rfl, by kernel_rfl⟩ KX G hmg c
    exact ⟨K, fd, My.F_law, KX, hb, fun ns hl => My.law_true ns hl, hF⟩

