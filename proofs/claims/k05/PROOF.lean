import PyProof.Rows.All
import Wide.All
import OpenK.AllK
import Wide.FinOn
import KE.KStateDown
import HandS.ForMost
import HandS.Exc
import HandS.TryOnly
import HandS.TryMany
import HandS.ExcOwn
import HandS.ExcInit
import HandS.ExcSuper
import HandS.ExcField
import HandS.WordsExc
import HandS.Defaults
import HandS.CallSlots
import HandS.IsInst
import HandS.Zip
import HandS.Flow
import HandS.Style
import HandS.Deep
import HandS.TupMul
import HandS.TupAny
import HandS.Conv
import HandS.Evl
import HandS.Head0
import HandS.Head1
import HandS.Head2
import HandS.HeadEnd
import HandS.HeadHook1
import HandS.HeadHook2
import HandS.Wide
import PySem.Challenge.RW_wittspaces_k05_numbers_of_spaces
set_option Elab.async false
set_option linter.all false
set_option maxRecDepth 100000
set_option maxHeartbeats 4000000
/-! plain data and what a slot holds; by its own author for this project -/
namespace Dn
open PySem L2

inductive D where
  | non | bl (b : Bool) | int (i : Int) | str (s : Str) | tup (xs : List D) | lst (xs : List D) | ins (c : Nat) (xs : List D) | scr (ns : List Int)
structure Xn where
  c : Nat
  xs : List D
inductive Sl where
  | un | vl (d : D) | ow (xs : List D) | st (xs : List D) | nw (c : Nat) (xs : List D) | mx (rows : List (List D))
abbrev Sto := List Sl
inductive Out (α : Type) where
  | ok (a : α) (E : Sto) | ex (x : Xn) (E : Sto) | bad
abbrev Se := Sto → Out D
abbrev SeL := Sto → Out (List D)
abbrev SeB := Sto → Out Bool

def clsName : Nat → Str
  | 0 => "Field" | 1 => "Space" | 2 => "Isometry" | 3 => "Clifford" | 4 => "Reply" | _ => "Console"
def clsFlds : Nat → List Str
  | 0 => ["q", "p"] | 1 => ["kind", "q", "n", "matrix", "field", "_gram"] | 2 => ["space", "matrix"] | 3 => ["space", "size", "_left"]
  | 4 => ["kind", "text", "data"] | _ => ["_most", "_names", "_entries"]

/-- a tuple: laid by the call, or of the written part -/
def TupAt (K : PySem.W.Frag) (F : Hp) (a : Addr) (xs : List V) : Prop :=
  F a = some (.tup xs) ∨ ∃ (o : Obj) (its : Array Value) (n : Nat), K.lookup a = some o ∧ o.cls = .type "tuple" ∧ o.data = .seq its n ∧ its.size ≤ sizeLine ∧ Vals xs its.toList
theorem TupAt.sq {K : PySem.W.Frag} {F : Hp} {a : Addr} {xs : List V} (h : TupAt K F a xs) : SqT K F a xs := h.imp .inl fun z => z
theorem TupAt.mono {K : PySem.W.Frag} {F F' : Hp} {a : Addr} {xs : List V} (s : Same F F') (h : TupAt K F a xs) : TupAt K F' a xs := h.imp (s _ _) fun z => z
theorem TupAt.ty {K : PySem.W.Frag} {F : Hp} {a : Addr} {xs : List V} (h : TupAt K F a xs) : TyX K F (.ref a) (.type "tuple") := by
  rcases h with h | ⟨o, its, n, h1, h2, _⟩
  · exact .base (.tup h)
  · exact .kTuple h1 h2
mutual
def Rep (K : PySem.W.Frag) (F : Hp) : D → V → Prop
  | .non, v => v = .non
  | .bl b, v => v = .bl b
  | .int i, v => v = .int i
  | .str s, v => v = .str s
  | .tup ds, v => ∃ a vs, v = .ref a ∧ TupAt K F a vs ∧ RepL K F ds vs
  | .lst ds, v => ∃ a vs, v = .ref a ∧ F a = some (.lst vs) ∧ RepL K F ds vs
  | .scr ns, v => ∃ a, v = .ref a ∧ SqL K F a (ns.map V.int)
  | .ins c ds, v => ∃ a dx vs, v = .ref a ∧ F a = some (.ins (He.ga K (clsName c)) dx ((clsFlds c).zip vs)) ∧ vs.length = (clsFlds c).length ∧ RepL K F ds vs
def RepL (K : PySem.W.Frag) (F : Hp) : List D → List V → Prop
  | [], vs => vs = []
  | d :: ds, vs => ∃ v ws, vs = v :: ws ∧ Rep K F d v ∧ RepL K F ds ws
end

theorem seqT {K : PySem.W.Frag} {F F' : Hp} {a : Addr} {vs : List V} (s : Same F F') (h : SqT K F a vs) : SqT K F' a vs := Evl.ex_t s h
theorem seqL {K : PySem.W.Frag} {F F' : Hp} {a : Addr} {vs : List V} (s : Same F F') (h : SqL K F a vs) : SqL K F' a vs := Evl.ex_l s h

mutual
theorem Rep.mono {K : PySem.W.Frag} {F F' : Hp} (s : Same F F') : ∀ (d : D) (v : V), Rep K F d v → Rep K F' d v
  | .non, v, h => by simpa [Rep] using h
  | .bl b, v, h => by simpa [Rep] using h
  | .int i, v, h => by simpa [Rep] using h
  | .str x, v, h => by simpa [Rep] using h
  | .tup ds, v, h => by
    simp only [Rep] at h ⊢
    obtain ⟨a, vs, e, h1, h2⟩ := h
    exact ⟨a, vs, e, TupAt.mono s h1, RepL.mono s ds vs h2⟩
  | .lst ds, v, h => by
    simp only [Rep] at h ⊢
    obtain ⟨a, vs, e, h1, h2⟩ := h
    exact ⟨a, vs, e, s _ _ h1, RepL.mono s ds vs h2⟩
  | .scr ns, v, h => by
    simp only [Rep] at h ⊢
    obtain ⟨a, e, h1⟩ := h
    exact ⟨a, e, seqL s h1⟩
  | .ins c ds, v, h => by
    simp only [Rep] at h ⊢
    obtain ⟨a, dx, vs, e, h1, h3, h2⟩ := h
    exact ⟨a, dx, vs, e, s _ _ h1, h3, RepL.mono s ds vs h2⟩
theorem RepL.mono {K : PySem.W.Frag} {F F' : Hp} (s : Same F F') : ∀ (ds : List D) (vs : List V), RepL K F ds vs → RepL K F' ds vs
  | [], vs, h => by simpa [RepL] using h
  | d :: ds, vs, h => by
    simp only [RepL] at h ⊢
    obtain ⟨v, ws, e, h1, h2⟩ := h
    exact ⟨v, ws, e, Rep.mono s d v h1, RepL.mono s ds ws h2⟩
end
section
variable {K : PySem.W.Frag} {F F' H H' H1 : Hp}
theorem RepL.nil : RepL K F [] [] := by simp [RepL]
theorem RepL.cons {d : D} {v : V} {ds : List D} {vs : List V} (h : Rep K F d v) (t : RepL K F ds vs) : RepL K F (d :: ds) (v :: vs) := by
  simp only [RepL]
  exact ⟨v, vs, rfl, h, t⟩
theorem RepL.length : ∀ {ds : List D} {vs : List V}, RepL K F ds vs → ds.length = vs.length
  | [], vs, h => by simp only [RepL] at h; simp [h]
  | d :: ds, vs, h => by
    simp only [RepL] at h
    obtain ⟨v, ws, e, _, h2⟩ := h
    subst e
    simp [RepL.length h2]
theorem RepL.get : ∀ {ds : List D} {vs : List V} {i : Nat} {d : D}, RepL K F ds vs → ds[i]? = some d → ∃ v, vs[i]? = some v ∧ Rep K F d v
  | [], vs, i, d, h, e => by simp at e
  | d :: ds, vs, 0, d', h, e => by
    simp only [RepL] at h
    obtain ⟨v, ws, e1, h1, h2⟩ := h
    subst e1
    simp at e
    subst e
    exact ⟨v, by simp, h1⟩
  | d :: ds, vs, i + 1, d', h, e => by
    simp only [RepL] at h
    obtain ⟨v, ws, e1, h1, h2⟩ := h
    subst e1
    simpa using RepL.get (i := i) (d := d') h2 (by simpa using e)
theorem RepL.getV : ∀ {ds : List D} {vs : List V} {i : Nat} {v : V}, RepL K F ds vs → vs[i]? = some v → ∃ d, ds[i]? = some d ∧ Rep K F d v
  | [], vs, i, d, h, e => by
    simp only [RepL] at h
    subst h
    simp at e
  | d :: ds, vs, 0, d', h, e => by
    simp only [RepL] at h
    obtain ⟨v, ws, e1, h1, h2⟩ := h
    subst e1
    simp at e
    subst e
    exact ⟨d, by simp, h1⟩
  | d :: ds, vs, i + 1, d', h, e => by
    simp only [RepL] at h
    obtain ⟨v, ws, e1, h1, h2⟩ := h
    subst e1
    simpa using RepL.getV (i := i) (v := d') h2 (by simpa using e)
theorem RepL.append : ∀ {ds es : List D} {vs ws : List V}, RepL K F ds vs → RepL K F es ws → RepL K F (ds ++ es) (vs ++ ws)
  | [], es, vs, ws, h, t => by
    simp only [RepL] at h
    subst h
    exact t
  | d :: ds, es, vs, ws, h, t => by
    simp only [RepL] at h
    obtain ⟨v, us, e1, h1, h2⟩ := h
    subst e1
    exact RepL.cons h1 (RepL.append h2 t)
theorem RepL.set : ∀ {ds : List D} {vs : List V} (i : Nat) {d : D} {v : V}, RepL K F ds vs → Rep K F d v → RepL K F (ds.set i d) (vs.set i v)
  | [], vs, i, d, v, h, t => by
    simp only [RepL] at h
    subst h
    simp [RepL]
  | d :: ds, vs, 0, d', v', h, t => by
    simp only [RepL] at h
    obtain ⟨v, us, e1, h1, h2⟩ := h
    subst e1
    exact RepL.cons t h2
  | d :: ds, vs, i + 1, d', v', h, t => by
    simp only [RepL] at h
    obtain ⟨v, us, e1, h1, h2⟩ := h
    subst e1
    exact RepL.cons h1 (RepL.set i h2 t)
theorem RepL.take : ∀ {ds : List D} {vs : List V} (i : Nat), RepL K F ds vs → RepL K F (ds.take i) (vs.take i)
  | [], vs, i, h => by
    simp only [RepL] at h
    subst h
    simp [RepL]
  | d :: ds, vs, 0, h => by simp [RepL]
  | d :: ds, vs, i + 1, h => by
    simp only [RepL] at h
    obtain ⟨v, us, e1, h1, h2⟩ := h
    subst e1
    exact RepL.cons h1 (RepL.take i h2)
theorem RepL.drop : ∀ {ds : List D} {vs : List V} (i : Nat), RepL K F ds vs → RepL K F (ds.drop i) (vs.drop i)
  | [], vs, i, h => by
    simp only [RepL] at h
    subst h
    simp [RepL]
  | d :: ds, vs, 0, h => h
  | d :: ds, vs, i + 1, h => by
    simp only [RepL] at h
    obtain ⟨v, us, e1, h1, h2⟩ := h
    subst e1
    exact RepL.drop i h2
theorem RepL.eraseIdx : ∀ {ds : List D} {vs : List V} (i : Nat), RepL K F ds vs → RepL K F (ds.eraseIdx i) (vs.eraseIdx i)
  | [], vs, i, h => by
    simp only [RepL] at h
    subst h
    simp [RepL]
  | d :: ds, vs, 0, h => by
    simp only [RepL] at h
    obtain ⟨v, us, e1, h1, h2⟩ := h
    subst e1
    exact h2
  | d :: ds, vs, i + 1, h => by
    simp only [RepL] at h
    obtain ⟨v, us, e1, h1, h2⟩ := h
    subst e1
    exact RepL.cons h1 (RepL.eraseIdx i h2)
theorem RepL.replicate {d : D} {v : V} (h : Rep K F d v) : ∀ n, RepL K F (List.replicate n d) (List.replicate n v)
  | 0 => RepL.nil
  | n + 1 => RepL.cons h (RepL.replicate h n)
theorem RepL.snoc {d : D} {v : V} {ds : List D} {vs : List V} (h : RepL K F ds vs) (t : Rep K F d v) : RepL K F (ds ++ [d]) (vs ++ [v]) := h.append (.cons t .nil)

/-! ### slots -/
def SlotRel (K : PySem.W.Frag) (F H : Hp) : Sl → Option (Option V) → Prop
  | .un, _ => True
  | .vl d, o => ∃ v, o = some (some v) ∧ Rep K F d v
  | .ow ds, o => ∃ p vs, o = some (some (.ref p)) ∧ H p = some (.lst vs) ∧ F p = none ∧ RepL K F ds vs
  | .st ds, o => ∃ p vs, o = some (some (.ref p)) ∧ H p = some (.lst vs) ∧ F p = none ∧ RepL K F ds vs
  | .nw c ds, o => ∃ x dx vs, o = some (some (.ref x)) ∧ H x = some (.ins (He.ga K (clsName c)) dx ((clsFlds c).zip vs)) ∧ F x = none ∧ RepL K F ds vs
  | .mx rows, o => ∃ (q : Addr) (ps : List Addr), o = some (some (.ref q)) ∧ H q = some (.lst (ps.map V.ref)) ∧ F q = none ∧ ps.Nodup ∧ q ∉ ps ∧ ps.length = rows.length ∧
      ∀ (k : Nat) (p : Addr) (r : List D), ps[k]? = some p → rows[k]? = some r → F p = none ∧ ∃ vs, H p = some (.lst vs) ∧ RepL K F r vs
def Own (H : Hp) (σ : St) (E : Sto) (i : Nat) (p : Addr) : Prop := match E[i]? with
  | some (.ow _) => σ[i]? = some (some (.ref p))
  | some (.st _) => σ[i]? = some (some (.ref p))
  | some (.nw _ _) => σ[i]? = some (some (.ref p))
  | some (.mx _) => ∃ (q : Addr) (ps : List Addr), σ[i]? = some (some (.ref q)) ∧ H q = some (.lst (ps.map V.ref)) ∧ (p = q ∨ p ∈ ps)
  | _ => False
/-- where a def was entered: the frozen part, the heap, what may be changed all the same -/
structure E0 where
  F : Hp
  H : Hp
  M : Addr → Prop
/-- lent: the caller's own -/
def Bor (o : Option Sl) : Prop := (∃ xs, o = some (.st xs)) ∨ ∃ c xs, o = some (.nw c xs)
structure SI (K : PySem.W.Frag) (e0 : E0) (F H : Hp) (σ : St) (E : Sto) : Prop where
  len : σ.length = E.length
  sub : Same F H
  rel : ∀ (i : Nat) (s : Sl), E[i]? = some s → SlotRel K F H s σ[i]?
  apart : ∀ i j p, Own H σ E i p → Own H σ E j p → i = j
  f0 : Same e0.F F
  h0 : ∀ b o, e0.H b = some o → ¬ e0.M b → H b = some o
  nf : ∀ b, e0.H b ≠ none → e0.F b = none → F b = none
  ow : ∀ i p, Own H σ E i p → (e0.H p = none ∧ ¬ Bor E[i]?) ∨ (e0.M p ∧ Bor E[i]?)
  dm : ∀ b, e0.H b ≠ none → H b ≠ none
structure Grow (σ : St) (E : Sto) (F H : Hp) (E' : Sto) (F' H' : Hp) : Prop where
  sF : Same F F'
  keep : ∀ b o, H b = some o → (∀ i, ¬ Own H σ E i b) → H' b = some o
  nf : ∀ b, H b ≠ none → F b = none → (∀ i, ¬ Own H σ E i b) → F' b = none
  dm : ∀ b, H b ≠ none → H' b ≠ none
  own : ∀ i p, Own H' σ E' i p → Own H σ E i p
theorem Same.refl' : Same F F := fun _ _ h => h
theorem Same.tr {F1 F2 F3 : Hp} (a : Same F1 F2) (b : Same F2 F3) : Same F1 F3 := fun x o h => b x o (a x o h)
theorem Same.tr0 : True := trivial
theorem Grow.refl {σ : St} {E : Sto} : Grow σ E F H E F H := ⟨fun _ _ h => h, fun _ _ h _ => h, fun _ _ h _ => h, fun _ h => h, fun _ _ h => h⟩
theorem Grow.trans {σ : St} {E1 E2 E3 : Sto} {F1 F2 F3 H1 H2 H3 : Hp} (a : Grow σ E1 F1 H1 E2 F2 H2) (b : Grow σ E2 F2 H2 E3 F3 H3) : Grow σ E1 F1 H1 E3 F3 H3 :=
  ⟨Same.tr a.sF b.sF, fun x o h n => b.keep x o (a.keep x o h n) fun i q => n i (a.own i x q), fun x h f n => b.nf x (a.dm x h) (a.nf x h f n) fun i q => n i (a.own i x q), fun x h => b.dm x (a.dm x h), fun i p q => a.own i p (b.own i p q)⟩
/-- something new is laid; nothing else changes -/
structure Alloc (F H F' H' : Hp) : Prop where
  sF : Same F F'
  sH : Same H H'
  sub : Same F' H'
  nf : ∀ b, H b ≠ none → F b = none → F' b = none
theorem Alloc.refl (h : Same F H) : Alloc F H F H := ⟨fun _ _ h => h, fun _ _ h => h, h, fun _ _ h => h⟩
theorem Alloc.trans {F1 F2 F3 H1 H2 H3 : Hp} (a : Alloc F1 H1 F2 H2) (b : Alloc F2 H2 F3 H3) : Alloc F1 H1 F3 H3 :=
  ⟨Same.tr a.sF b.sF, Same.tr a.sH b.sH, b.sub, fun x h f => b.nf x (fun e => by
    cases q : H1 x with
    | none => exact h q
    | some o => rw [a.sH x o q] at e; cases e) (a.nf x h f)⟩
theorem fresh_F (s : Same F H) {p : Addr} (h : H p = none) : F p = none := by
  cases e : F p with
  | none => rfl
  | some o => rw [s p o e] at h; cases h
theorem same_upd {p : Addr} {o : HO} (h : H p = none) : Same H (upd H p o) := fun b u e => by
  rw [upd_ne (ne_of_none e h)]
  exact e
/-- a new frozen object -/
theorem Alloc.new (s : Same F H) {p : Addr} {o : HO} (h : H p = none) : Alloc F H (upd F p o) (upd H p o) :=
  ⟨same_upd (fresh_F s h), same_upd h, fun b u e => by
    by_cases hb : b = p
    · subst hb; rw [upd_same] at e ⊢; exact e
    · rw [upd_ne hb] at e ⊢; exact s b u e, fun b hb f => by
    have : b ≠ p := fun e => hb (e ▸ h)
    rw [upd_ne this]; exact f⟩
/-- a new object, not frozen -/
theorem Alloc.newH (s : Same F H) {p : Addr} {o : HO} (h : H p = none) : Alloc F H F (upd H p o) :=
  ⟨fun _ _ h => h, same_upd h, Same.tr s (same_upd h), fun _ _ f => f⟩
variable {e0 : E0} {σ : St} {E E' : Sto}
theorem SlotRel.alloc {s : Sl} {o : Option (Option V)} (a : Alloc F H F' H') (h : SlotRel K F H s o) : SlotRel K F' H' s o := by
  have nn : ∀ {p : Addr} {u : HO}, H p = some u → F p = none → F' p = none := fun e f => a.nf _ (by rw [e]; exact fun z => nomatch z) f
  cases s with
  | un => trivial
  | vl d =>
    obtain ⟨v, e, r⟩ := h
    exact ⟨v, e, Rep.mono a.sF _ _ r⟩
  | ow ds =>
    obtain ⟨p, vs, e, h1, h2, r⟩ := h
    exact ⟨p, vs, e, a.sH _ _ h1, nn h1 h2, RepL.mono a.sF _ _ r⟩
  | st ds =>
    obtain ⟨p, vs, e, h1, h2, r⟩ := h
    exact ⟨p, vs, e, a.sH _ _ h1, nn h1 h2, RepL.mono a.sF _ _ r⟩
  | nw c ds =>
    obtain ⟨x, dx, vs, e, h1, h2, r⟩ := h
    exact ⟨x, dx, vs, e, a.sH _ _ h1, nn h1 h2, RepL.mono a.sF _ _ r⟩
  | mx rows =>
    obtain ⟨q, ps, e, h1, h2, h3, h4, h5, h6⟩ := h
    refine ⟨q, ps, e, a.sH _ _ h1, nn h1 h2, h3, h4, h5, fun k p r e1 e2 => ?_⟩
    obtain ⟨f, vs, h7, h8⟩ := h6 k p r e1 e2
    exact ⟨nn h7 f, vs, a.sH _ _ h7, RepL.mono a.sF _ _ h8⟩
theorem own_alloc (S : SI K e0 F H σ E) (a : Same H H') (i : Nat) (p : Addr) : Own H' σ E i p ↔ Own H σ E i p := by
  unfold Own
  cases e : E[i]? with
  | none => exact Iff.rfl
  | some s =>
    cases s with
    | mx rows =>
      have r := S.rel i _ e
      obtain ⟨q, ps, e1, h1, _⟩ := r
      constructor
      · rintro ⟨q', ps', e2, h2, hp⟩
        rw [e1] at e2
        cases e2
        rw [a _ _ h1] at h2
        injection h2 with h2
        injection h2 with h2
        exact ⟨q, ps', e1, by rw [h1, h2], hp⟩
      · rintro ⟨q', ps', e2, h2, hp⟩
        exact ⟨q', ps', e2, a _ _ h2, hp⟩
    | _ => exact Iff.rfl
theorem SI.alloc (S : SI K e0 F H σ E) (a : Alloc F H F' H') : SI K e0 F' H' σ E where
  len := S.len
  sub := a.sub
  rel := fun i s e => (S.rel i s e).alloc a
  apart := fun i j p h1 h2 => S.apart i j p ((own_alloc S a.sH i p).mp h1) ((own_alloc S a.sH j p).mp h2)
  f0 := Same.tr S.f0 a.sF
  h0 := fun b o e n => a.sH b o (S.h0 b o e n)
  nf := fun b h f => a.nf b (S.dm b h) (S.nf b h f)
  ow := fun i p h => S.ow i p ((own_alloc S a.sH i p).mp h)
  dm := fun b h e => S.dm b h (by
    cases q : H b with
    | none => rfl
    | some o => rw [a.sH b o q] at e; cases e)
theorem SI.grow (S : SI K e0 F H σ E) (a : Alloc F H F' H') : Grow σ E F H E F' H' :=
  ⟨a.sF, fun b o h _ => a.sH b o h, fun b h f _ => a.nf b h f, fun b h e => h (by
    cases q : H b with
    | none => rfl
    | some o => rw [a.sH b o q] at e; cases e), fun i p => (own_alloc S a.sH i p).mp⟩
end
end Dn

set_option Elab.async false
set_option linter.all false
set_option maxRecDepth 100000
set_option maxHeartbeats 4000000
namespace Dn
open PySem L2

def xnName : Nat → Str
  | 0 => "Malformed" | 1 => "Refused" | 2 => "NoText" | _ => "Fault"
def xnFld : Nat → Option Str
  | 1 => some "reason" | 2 => some "at" | _ => none
/-- an exception as it flies -/
def RepX (K : PySem.W.Frag) (F H : Hp) (x : Xn) (cls : Value) (dd : Option Addr) : Prop := cls = .ref (He.ga K (xnName x.c)) ∧ match xnFld x.c with
  | none => dd = none
  | some f => ∃ d v y, dd = some d ∧ H d = some (.xd [(f, v)]) ∧ x.xs = [y] ∧ Rep K F y v

def Out.bind {α β : Type} (r : Out α) (g : α → Sto → Out β) : Out β := match r with
  | .ok a E => g a E
  | .ex x E => .ex x E
  | .bad => .bad
@[simp] theorem Out.bind_ok {α β : Type} (a : α) (E : Sto) (g : α → Sto → Out β) : (Out.ok a E).bind g = g a E := rfl
@[simp] theorem Out.bind_ex {α β : Type} (x : Xn) (E : Sto) (g : α → Sto → Out β) : (Out.ex x E : Out α).bind g = .ex x E := rfl
@[simp] theorem Out.bind_bad {α β : Type} (g : α → Sto → Out β) : (Out.bad : Out α).bind g = .bad := rfl
/-- a value, or nothing known -/
def Out.opt {α : Type} (o : Option α) (E : Sto) : Out α := match o with
  | some a => .ok a E
  | none => .bad
@[simp] theorem Out.opt_some {α : Type} (a : α) (E : Sto) : Out.opt (some a) E = .ok a E := rfl
@[simp] theorem Out.opt_none {α : Type} (E : Sto) : (Out.opt (none : Option α) E) = .bad := rfl

section
variable (K : PySem.W.Frag) (e0 : E0) (W : WX)
def Post {α β : Type} (rep : Hp → α → β → Prop) (σ : St) (E : Sto) (F H : Hp) (r : Out α) (Q : β → Hp → Prop) : Prop := match r with
  | .ok a E' => ∀ b F' H', Grow σ E F H E' F' H' → SI K e0 F' H' σ E' → rep F' a b → Q b H'
  | .ex x E' => ∀ cls dd F' H', Grow σ E F H E' F' H' → SI K e0 F' H' σ E' → RepX K F' H' x cls dd → W cls dd σ H'
  | .bad => False
def rdG {α β : Type} (rep : Hp → α → β → Prop) (f : Sto → Out α) : St → Hp → (β → Hp → Prop) → Prop := fun σ H Q => ∃ E F, SI K e0 F H σ E ∧ Post K e0 W rep σ E F H (f E) Q
abbrev rd (f : Se) : TE := rdG K e0 W (fun F d v => Rep K F d v) f
abbrev rdL (f : SeL) : TA := rdG K e0 W (fun F d v => RepL K F d v) f
abbrev rdB (f : SeB) : TT := rdG K e0 W (fun _ (a b : Bool) => a = b) f
end
section
variable {K : PySem.W.Frag} {e0 : E0} {W : WX} {α β γ δ : Type} {rep : Hp → α → β → Prop} {rep1 : Hp → γ → δ → Prop} {σ : St} {E E1 E2 : Sto} {F F1 F2 H H1 H2 : Hp}
theorem Post.rebase {r : Out α} {Q : β → Hp → Prop} (g : Grow σ E F H E1 F1 H1) (h : Post K e0 W rep σ E F H r Q) : Post K e0 W rep σ E1 F1 H1 r Q := by
  cases r with
  | ok a E' => exact fun b F' H' g' s r => h b F' H' (g.trans g') s r
  | ex x E' => exact fun c d F' H' g' s r => h c d F' H' (g.trans g') s r
  | bad => exact h
theorem Post.bind {r : Out γ} {g : γ → Sto → Out α} {Q : β → Hp → Prop} {Q1 : δ → Hp → Prop} (h : Post K e0 W rep σ E F H (r.bind g) Q)
    (k : ∀ a b E1 F1 H1, Grow σ E F H E1 F1 H1 → SI K e0 F1 H1 σ E1 → rep1 F1 a b → Post K e0 W rep σ E1 F1 H1 (g a E1) Q → Q1 b H1) : Post K e0 W rep1 σ E F H r Q1 := by
  cases r with
  | ok a E' => exact fun b F' H' g' s r => k a b E' F' H' g' s r (Post.rebase g' h)
  | ex x E' => exact fun c d F' H' g' s r => h c d F' H' g' s r
  | bad => exact h
theorem Post.fin {a : α} {b : β} {Q : β → Hp → Prop} (h : Post K e0 W rep σ E F H (.ok a E) Q) (S : SI K e0 F H σ E) (al : Alloc F H F1 H1) (r : rep F1 a b) : Q b H1 :=
  h b F1 H1 (S.grow al) (S.alloc al) r
theorem Post.fin0 {a : α} {b : β} {Q : β → Hp → Prop} (h : Post K e0 W rep σ E F H (.ok a E) Q) (S : SI K e0 F H σ E) (r : rep F a b) : Q b H :=
  h b F H .refl S r
theorem Post.opt {o : Option α} {Q : β → Hp → Prop} (h : Post K e0 W rep σ E F H (.opt o E) Q) : ∃ a, o = some a ∧ Post K e0 W rep σ E F H (.ok a E) Q := by
  cases o with
  | some a => exact ⟨a, rfl, h⟩
  | none => exact h.elim
theorem rdG_intro {f : Sto → Out α} {Q : β → Hp → Prop} (S : SI K e0 F H σ E) (h : Post K e0 W rep σ E F H (f E) Q) : rdG K e0 W rep f σ H Q := ⟨E, F, S, h⟩
end

theorem PE.weak {X : Cx} {e : Expr} {t t' : TE} (h : PE X e t) (w : ∀ σ H Q, t' σ H Q → t σ H Q) : PE X e t' := ⟨fun pins s σ H Q I q => h.run pins s σ H Q I (w σ H Q q)⟩
theorem PT.weak {X : Cx} {e : Expr} {t t' : TT} (h : PT X e t) (w : ∀ σ H Q, t' σ H Q → t σ H Q) : PT X e t' := ⟨fun pins s σ H Q I q => h.run pins s σ H Q I (w σ H Q q)⟩
theorem PW.weak {X : Cx} {e : Expr} {t t' : TT} (h : PW X e t) (w : ∀ σ H Q, t' σ H Q → t σ H Q) : PW X e t' := ⟨fun wh pins s σ H Q I q => h.run wh pins s σ H Q I (w σ H Q q)⟩
theorem PA.weak {X : Cx} {e : List Expr} {t t' : TA} (h : PA X e t) (w : ∀ σ H Q, t' σ H Q → t σ H Q) : PA X e t' := ⟨fun pos pins s σ H Q I q => h.run pos pins s σ H Q I (w σ H Q q)⟩

/-! ### the judgements -/
def DX (X : Cx) (e0 : E0) (W : WX) (e : Expr) (f : Se) : Prop := PE X e (rd X.K e0 W f)
def DA (X : Cx) (e0 : E0) (W : WX) (e : List Expr) (f : SeL) : Prop := PA X e (rdL X.K e0 W f)
def DT (X : Cx) (e0 : E0) (W : WX) (e : Expr) (f : SeB) : Prop := PT X e (rdB X.K e0 W f)
def DW (X : Cx) (e0 : E0) (W : WX) (e : Expr) (f : SeB) : Prop := PW X e (rdB X.K e0 W f)

/-! ### semantic words -/
def sC (d : D) : Se := fun E => .ok d E
def sVar (i : Nat) : Se := fun E => match E[i]? with
  | some (.vl d) => .ok d E
  | some (.ow xs) => .ok (.lst xs) (E.set i (.vl (.lst xs)))
  | _ => .bad
def sBin (o : D → D → Option D) (a b : Se) : Se := fun E => (a E).bind fun x E1 => (b E1).bind fun y E2 => .opt (o x y) E2
def sUn (o : D → Option D) (a : Se) : Se := fun E => (a E).bind fun x E1 => .opt (o x) E1
def sNil : SeL := fun E => .ok [] E
def sCons (a : Se) (r : SeL) : SeL := fun E => (a E).bind fun x E1 => (r E1).bind fun xs E2 => .ok (x :: xs) E2
def sCall (o : List D → Option D) (a : SeL) : Se := fun E => (a E).bind fun xs E1 => .opt (o xs) E1
def sTupO (xs : List D) : Option D := if xs.length ≤ 1000000 then some (.tup xs) else none
def sLstO (xs : List D) : Option D := if xs.length ≤ 1000000 then some (.lst xs) else none
def sTup (a : SeL) : Se := sCall sTupO a
def sLst (a : SeL) : Se := sCall sLstO a
def sIf (c : SeB) (a b : Se) : Se := fun E => (c E).bind fun k E1 => if k = true then a E1 else b E1
def sAnd (a b : Se) : Se := fun E => (a E).bind fun x E1 => match x with
  | .bl true => b E1
  | .bl false => .ok (.bl false) E1
  | _ => .bad
def sOr (a b : Se) : Se := fun E => (a E).bind fun x E1 => match x with
  | .bl true => .ok (.bl true) E1
  | .bl false => b E1
  | _ => .bad
def oNot : D → Option D
  | .bl b => some (.bl (!b))
  | _ => none
def bVal (a : Se) : SeB := fun E => (a E).bind fun x E1 => match x with
  | .bl b => .ok b E1
  | _ => .bad
def bAnd (a b : SeB) : SeB := fun E => (a E).bind fun x E1 => if x = true then b E1 else .ok false E1
def bOr (a b : SeB) : SeB := fun E => (a E).bind fun x E1 => if x = true then .ok true E1 else b E1
def bNot (a : SeB) : SeB := fun E => (a E).bind fun x E1 => .ok (!x) E1
def sFld (tab : List (Nat × Nat)) (a : Se) : Se := fun E => (a E).bind fun x E1 => match x with
  | .ins c xs => (match tab.lookup c with
    | some i => .opt xs[i]? E1
    | none => .bad)
  | _ => .bad

section
variable {X : Cx} {e0 : E0} {W : WX} {a b c : Expr} {fa fb fc : Se} {pos : Pos} {es : List Expr} {g : SeL} {ba bb : SeB}

theorem dx_c {e : Expr} {v : V} {d : D} (h : PE X e (tC v)) (r : ∀ F, Rep X.K F d v) : DX X e0 W e (sC d) := PE.weak h fun σ H Q ⟨E, F, S, h⟩ => h.fin0 S (r F)
theorem dx_int {i : Int} {j : Nat} : DX X e0 W (.Constant (.int i) j pos) (sC (.int i)) := dx_c pe_int fun _ => by simp [Rep]
theorem dx_bl {b : Bool} {j : Nat} : DX X e0 W (.Constant (.bool b) j pos) (sC (.bl b)) := dx_c pe_bl fun _ => by simp [Rep]
theorem dx_non {j : Nat} : DX X e0 W (.Constant .none j pos) (sC .non) := dx_c pe_non fun _ => by simp [Rep]
theorem dx_str {x : Str} {j : Nat} : DX X e0 W (.Constant (.str x) j pos) (sC (.str x)) := dx_c pe_str fun _ => by simp [Rep]

/-- an owned list is frozen where it is read -/
theorem SI.freeze {K : PySem.W.Frag} {F H : Hp} {σ : St} {E : Sto} {i : Nat} {xs : List D} (S : SI K e0 F H σ E) (e : E[i]? = some (.ow xs)) :
    ∃ p vs, σ[i]? = some (some (.ref p)) ∧ H p = some (.lst vs) ∧ RepL K F xs vs ∧ Same F (upd F p (.lst vs)) ∧ SI K e0 (upd F p (.lst vs)) H σ (E.set i (.vl (.lst xs))) ∧ Grow σ E F H (E.set i (.vl (.lst xs))) (upd F p (.lst vs)) H := by
  obtain ⟨p, vs, e1, e2, e3, r⟩ := S.rel i _ e
  have hi : i < E.length := (List.getElem?_eq_some_iff.mp e).1
  have oi : Own H σ E i p := by
    unfold Own
    rw [e]
    exact e1
  have sF : Same F (upd F p (.lst vs)) := same_upd e3
  have ownE : ∀ j q, Own H σ (E.set i (.vl (.lst xs))) j q → Own H σ E j q ∧ j ≠ i := fun j q h => by
    by_cases hj : j = i
    · subst hj
      unfold Own at h
      rw [List.getElem?_set_self hi] at h
      exact h.elim
    · unfold Own at h ⊢
      rw [List.getElem?_set_ne (Ne.symm hj)] at h
      exact ⟨h, hj⟩
  have nfo : ∀ b, F b = none → (b ≠ p) → (upd F p (.lst vs)) b = none := fun b f n => by
    rw [upd_ne n]
    exact f
  have nop : ∀ j q, Own H σ E j q → j ≠ i → q ≠ p := fun j q h n z => by
    subst z
    exact n (S.apart j i q h oi)
  refine ⟨p, vs, e1, e2, r, sF, ⟨by simpa using S.len, fun b u h => ?_, fun j s hs => ?_, fun i' j' q h1 h2 => S.apart i' j' q (ownE _ _ h1).1 (ownE _ _ h2).1, Same.tr S.f0 sF, S.h0, fun b h f => ?_, fun j q h => ?_, S.dm⟩,
    ⟨sF, fun b o h _ => h, fun b h f n => ?_, fun _ h => h, fun j q h => (ownE j q h).1⟩⟩
  · by_cases hb : b = p
    · subst hb
      rw [upd_same] at h
      rw [← h]
      exact e2
    · rw [upd_ne hb] at h
      exact S.sub b u h
  · by_cases hj : j = i
    · subst hj
      rw [List.getElem?_set_self hi] at hs
      cases hs
      refine ⟨.ref p, e1, ?_⟩
      simp only [Rep]
      exact ⟨p, vs, rfl, upd_same, RepL.mono sF _ _ r⟩
    · rw [List.getElem?_set_ne (Ne.symm hj)] at hs
      have q := S.rel j s hs
      cases s with
      | un => trivial
      | vl d =>
        obtain ⟨v, h1, h2⟩ := q
        exact ⟨v, h1, Rep.mono sF _ _ h2⟩
      | ow ys =>
        obtain ⟨p', vs', h1, h2, h3, h4⟩ := q
        have : p' ≠ p := nop j p' (by unfold Own; rw [hs]; exact h1) hj
        exact ⟨p', vs', h1, h2, nfo _ h3 this, RepL.mono sF _ _ h4⟩
      | st ys =>
        obtain ⟨p', vs', h1, h2, h3, h4⟩ := q
        have : p' ≠ p := nop j p' (by unfold Own; rw [hs]; exact h1) hj
        exact ⟨p', vs', h1, h2, nfo _ h3 this, RepL.mono sF _ _ h4⟩
      | nw c ys =>
        obtain ⟨x, dx, vs', h1, h2, h3, h4⟩ := q
        have : x ≠ p := nop j x (by unfold Own; rw [hs]; exact h1) hj
        exact ⟨x, dx, vs', h1, h2, nfo _ h3 this, RepL.mono sF _ _ h4⟩
      | mx rows =>
        obtain ⟨q0, ps, h1, h2, h3, h4, h5, h6, h7⟩ := q
        have : q0 ≠ p := nop j q0 (by unfold Own; rw [hs]; exact ⟨q0, ps, h1, h2, .inl rfl⟩) hj
        refine ⟨q0, ps, h1, h2, nfo _ h3 this, h4, h5, h6, fun k p' r' a1 a2 => ?_⟩
        obtain ⟨b1, vs', b2, b3⟩ := h7 k p' r' a1 a2
        have : p' ≠ p := nop j p' (by unfold Own; rw [hs]; exact ⟨q0, ps, h1, h2, .inr (List.mem_of_getElem? a1)⟩) hj
        exact ⟨nfo _ b1 this, vs', b2, RepL.mono sF _ _ b3⟩
  · refine nfo b (S.nf b h f) fun z => ?_
    subst z
    rcases S.ow i b oi with q | ⟨_, q⟩
    · exact h q.1
    · rw [e] at q
      rcases q with ⟨ys, q⟩ | ⟨c, ys, q⟩ <;> cases q
  · obtain ⟨h1, h2⟩ := ownE j q h
    have q' := S.ow j q h1
    rw [List.getElem?_set_ne (Ne.symm h2)]
    exact q'
  · exact nfo b f fun z => n i (z ▸ oi)
theorem dx_var {i : Nat} {x : Str} (hN : X.N[i]? = some x) (hv : Vis X.env.scope x) (hd : (x == ("__debug__" : Str)) = false := by decide) (hcd : (x == ("__classdict__" : Str)) = false := by decide) : DX X e0 W (.Name x pos) (sVar i) := by
  refine PE.weak (pe_var hN hv hd hcd) fun σ H Q ⟨E, F, S, h⟩ => ?_
  unfold sVar at h
  cases e : E[i]? with
  | none =>
    rw [e] at h
    exact h.elim
  | some s =>
    rw [e] at h
    cases s with
    | vl d =>
      obtain ⟨v, h1, r⟩ := S.rel i _ e
      exact ⟨v, h1, h.fin0 S r⟩
    | ow xs =>
      obtain ⟨p, vs, h1, h2, r, sF, S', g⟩ := S.freeze e
      refine ⟨.ref p, h1, h (.ref p) _ H g S' ?_⟩
      simp only [Rep]
      exact ⟨p, vs, rfl, upd_same, RepL.mono sF _ _ r⟩
    | _ => exact h.elim

/-! ### operators -/
structure OpD (X : Cx) (f : Value → Value → Sem Value) (o : D → D → Option D) : Prop where
  ex : ∃ r : R2, OpR X f r ∧ ∀ x y z, o x y = some z → ∀ F H v w Q, Same F H → Rep X.K F x v → Rep X.K F y w → (∀ u F' H', Alloc F H F' H' → Rep X.K F' z u → Q u H') → r v w H Q
theorem OpR.or {f : Value → Value → Sem Value} {r r' : R2} (h : OpR X f r) (h' : OpR X f r') : OpR X f (fun x y H Q => r x y H Q ∨ r' x y H Q) := fun pins s σ H x y v u Q I rx ry q => by
  rcases q with q | q
  · exact h pins s σ H x y v u Q I rx ry q
  · exact h' pins s σ H x y v u Q I rx ry q
theorem OpD.or {f : Value → Value → Sem Value} {o o' : D → D → Option D} (h : OpD X f o) (h' : OpD X f o') : OpD X f (fun x y => (o x y).or (o' x y)) := by
  obtain ⟨r, h1, h2⟩ := h.ex
  obtain ⟨r', h1', h2'⟩ := h'.ex
  refine ⟨_, OpR.or h1 h1', fun x y z e F H v w Q s rx ry k => ?_⟩
  cases q : o x y with
  | some z' =>
    rw [q] at e
    exact .inl (h2 x y z (by rw [q]; exact e) F H v w Q s rx ry k)
  | none =>
    rw [q] at e
    exact .inr (h2' x y z e F H v w Q s rx ry k)
theorem bin_rd {o : D → D → Option D} {r : R2} (ho : ∀ x y z, o x y = some z → ∀ F H v w Q, Same F H → Rep X.K F x v → Rep X.K F y w → (∀ u F' H', Alloc F H F' H' → Rep X.K F' z u → Q u H') → r v w H Q)
    {σ : St} {H : Hp} {Q : VK} (h : rd X.K e0 W (sBin o fa fb) σ H Q) : tOp r (rd X.K e0 W fa) (rd X.K e0 W fb) σ H Q := by
  obtain ⟨E, F, S, h⟩ := h
  refine rdG_intro S (h.bind fun x v E1 F1 H1 G1 S1 R1 h1 => rdG_intro S1 (h1.bind fun y w E2 F2 H2 G2 S2 R2 h2 => ?_))
  obtain ⟨z, e, h3⟩ := h2.opt
  exact ho x y z e F2 H2 v w Q S2.sub (Rep.mono G2.sF _ _ R1) R2 fun u F' H' al r => h3.fin S2 al r
theorem dx_op {op : Operator} {o : D → D → Option D} (ho : OpD X (binaryOp op) o) (ha : DX X e0 W a fa) (hb : DX X e0 W b fb) : DX X e0 W (.BinOp a op b pos) (sBin o fa fb) := by
  obtain ⟨r, h1, h2⟩ := ho.ex
  exact PE.weak (pe_op h1 ha hb) fun σ H Q h => bin_rd h2 h
theorem dx_cmp {op : CmpOp} {o : D → D → Option D} (ho : OpD X (compareOp op) o) (ha : DX X e0 W a fa) (hb : DX X e0 W b fb) (hm : behindInMarks op b = false) : DX X e0 W (.Compare a [op] [b] pos) (sBin o fa fb) := by
  obtain ⟨r, h1, h2⟩ := ho.ex
  exact PE.weak (pe_cmpR h1 ha hb hm) fun σ H Q h => bin_rd h2 h
theorem val_rd {t : TE} {f : Se} (ht : ∀ σ H Q, rd X.K e0 W f σ H Q → t σ H Q) {σ : St} {H : Hp} {Q : Bool → Hp → Prop} (h : rdB X.K e0 W (bVal f) σ H Q) : tTest t σ H Q := by
  obtain ⟨E, F, S, h⟩ := h
  refine ht σ H _ (rdG_intro S (h.bind fun x v E1 F1 H1 G1 S1 R1 h1 => ?_))
  cases x with
  | bl k =>
    simp only [Rep] at R1
    exact ⟨k, R1, h1.fin0 S1 rfl⟩
  | _ => exact h1.elim
theorem dt_cmp {op : CmpOp} {o : D → D → Option D} (ho : OpD X (compareOp op) o) (ha : DX X e0 W a fa) (hb : DX X e0 W b fb) (hm : behindInMarks op b = false) : DT X e0 W (.Compare a [op] [b] pos) (bVal (sBin o fa fb)) := by
  obtain ⟨r, h1, h2⟩ := ho.ex
  exact PT.weak (pt_cmpR h1 ha hb hm) fun σ H Q h => val_rd (fun _ _ _ => bin_rd h2) h
theorem dt_val (h : DX X e0 W a fa) (he : ∀ whole, isTrue a X.env whole = (do let v ← whole; standAt a.pos; holding [v] (truthy v)) := by intro _; rfl) : DT X e0 W a (bVal fa) := by
  refine PT.weak (pt_val h he) fun σ H Q q => ?_
  exact val_rd (fun _ _ _ z => z) q
theorem dt_not (h : DT X e0 W a ba) : DT X e0 W (.UnaryOp .Not a pos) (bNot ba) := PT.weak (pt_not h) fun σ H Q ⟨E, F, S, h⟩ => rdG_intro S (h.bind fun x v E1 F1 H1 G1 S1 R1 h1 => by
  cases R1
  exact h1.fin0 S1 rfl)
theorem dw_one {op : BoolOp} (h : DT X e0 W a ba) : DW X e0 W (.BoolOp op [a] pos) ba := by
  cases op with
  | And => exact pw_and1 h
  | Or => exact pw_or1 h
theorem dw_and {rest : List Expr} (ha : DT X e0 W a ba) (hb : DW X e0 W (.BoolOp .And (b :: rest) pos) bb) : DW X e0 W (.BoolOp .And (a :: b :: rest) pos) (bAnd ba bb) := PW.weak (pw_and ha hb) fun σ H Q ⟨E, F, S, h⟩ => rdG_intro S (h.bind fun x v E1 F1 H1 G1 S1 R1 h1 => by
  cases R1
  cases x with
  | true => exact rdG_intro S1 h1
  | false => exact h1.fin0 S1 rfl)
theorem dw_or {rest : List Expr} (ha : DT X e0 W a ba) (hb : DW X e0 W (.BoolOp .Or (b :: rest) pos) bb) : DW X e0 W (.BoolOp .Or (a :: b :: rest) pos) (bOr ba bb) := PW.weak (pw_or ha hb) fun σ H Q ⟨E, F, S, h⟩ => rdG_intro S (h.bind fun x v E1 F1 H1 G1 S1 R1 h1 => by
  cases R1
  cases x with
  | false => exact rdG_intro S1 h1
  | true => exact h1.fin0 S1 rfl)
theorem dt_w (h : DW X e0 W a ba) : DT X e0 W a ba := PW.pt h
theorem dx_one {op : BoolOp} (h : DX X e0 W a fa) : DX X e0 W (.BoolOp op [a] pos) fa := pe_one h
theorem dx_and {rest : List Expr} (ha : DX X e0 W a fa) (hb : DX X e0 W (.BoolOp .And (b :: rest) pos) fb) : DX X e0 W (.BoolOp .And (a :: b :: rest) pos) (sAnd fa fb) := PE.weak (pe_and ha hb) fun σ H Q ⟨E, F, S, h⟩ => rdG_intro S (h.bind fun x v E1 F1 H1 G1 S1 R1 h1 => by
  cases x with
  | bl k =>
    simp only [Rep] at R1
    refine ⟨k, R1, ?_⟩
    cases k with
    | true => exact rdG_intro S1 h1
    | false => exact h1.fin0 S1 (by simp [Rep])
  | _ => exact h1.elim)
theorem dx_or {rest : List Expr} (ha : DX X e0 W a fa) (hb : DX X e0 W (.BoolOp .Or (b :: rest) pos) fb) : DX X e0 W (.BoolOp .Or (a :: b :: rest) pos) (sOr fa fb) := PE.weak (pe_or ha hb) fun σ H Q ⟨E, F, S, h⟩ => rdG_intro S (h.bind fun x v E1 F1 H1 G1 S1 R1 h1 => by
  cases x with
  | bl k =>
    simp only [Rep] at R1
    refine ⟨k, R1, ?_⟩
    cases k with
    | false => exact rdG_intro S1 h1
    | true => exact h1.fin0 S1 (by simp [Rep])
  | _ => exact h1.elim)
theorem dx_not (ha : DX X e0 W a fa) : DX X e0 W (.UnaryOp .Not a pos) (sUn oNot fa) := PE.weak (pe_not ha) fun σ H Q ⟨E, F, S, h⟩ => rdG_intro S (h.bind fun x v E1 F1 H1 G1 S1 R1 h1 => by
  obtain ⟨z, e, h3⟩ := h1.opt
  cases x with
  | bl k =>
    simp only [Rep] at R1
    cases e
    exact ⟨k, R1, h3.fin0 S1 (by simp [Rep])⟩
  | _ => cases e)
theorem dx_if (hc : DT X e0 W c ba) (ha : DX X e0 W a fa) (hb : DX X e0 W b fb) : DX X e0 W (.IfExp c a b pos) (sIf ba fa fb) := PE.weak (pe_ifExp hc ha hb) fun σ H Q ⟨E, F, S, h⟩ => rdG_intro S (h.bind fun x v E1 F1 H1 G1 S1 R1 h1 => by
  cases R1
  cases x with
  | true => exact rdG_intro S1 h1
  | false => exact rdG_intro S1 h1)

/-! ### unary -/
structure UnD (X : Cx) (f : Value → Sem Value) (o : D → Option D) : Prop where
  ex : ∃ r : V → Hp → VK → Prop, UnR X f r ∧ ∀ x z, o x = some z → ∀ F H v Q, Same F H → Rep X.K F x v → (∀ u F' H', Alloc F H F' H' → Rep X.K F' z u → Q u H') → r v H Q
theorem dx_un {op : UnaryOp} {o : D → Option D} (ho : UnD X (unaryOp op) o) (ha : DX X e0 W a fa) : DX X e0 W (.UnaryOp op a pos) (sUn o fa) := by
  obtain ⟨r, h1, h2⟩ := ho.ex
  refine PE.weak (pe_un h1 ha) fun σ H Q ⟨E, F, S, h⟩ => rdG_intro S (h.bind fun x v E1 F1 H1 G1 S1 R1 h1 => ?_)
  obtain ⟨z, e, h3⟩ := h1.opt
  exact h2 x z e F1 H1 v Q S1.sub R1 fun u F' H' al r => h3.fin S1 al r

/-! ### argument lists, displays -/
theorem da_nil : DA X e0 W [] sNil := PA.weak pa_nil fun σ H Q ⟨E, F, S, h⟩ => h.fin0 S .nil
theorem da_cons (ha : DX X e0 W a fa) (hr : DA X e0 W es g) (hs : starEach (a :: es) X.env = (false, eval a X.env) :: starEach es X.env := by rfl) : DA X e0 W (a :: es) (sCons fa g) := PA.weak (pa_cons ha hr hs) fun σ H Q ⟨E, F, S, h⟩ =>
  rdG_intro S (h.bind fun x v E1 F1 H1 G1 S1 R1 h1 => rdG_intro S1 (h1.bind fun xs vs E2 F2 H2 G2 S2 R2 h2 => h2.fin0 S2 (.cons (Rep.mono G2.sF _ _ R1) R2)))
theorem sizeLine_ok {n : Nat} (h : n ≤ 1000000) : n ≤ sizeLine := Nat.le_trans h (by decide)
theorem dx_tup {k : Nat} (h : DA X e0 W es g) : DX X e0 W (.Tuple es k pos) (sTup g) := PE.weak (pe_tup h) fun σ H Q ⟨E, F, S, h⟩ => rdG_intro S (h.bind fun xs vs E1 F1 H1 G1 S1 R1 h1 => by
  obtain ⟨z, e, h3⟩ := h1.opt
  unfold sTupO at e
  split at e
  · rename_i hl
    cases e
    refine ⟨sizeLine_ok (by rw [← R1.length]; exact hl), fun p hp => h3.fin S1 (.new S1.sub hp) ?_⟩
    simp only [Rep]
    exact ⟨p, vs, rfl, .inl upd_same, RepL.mono (same_upd (fresh_F S1.sub hp)) _ _ R1⟩
  · cases e)
theorem dx_lst (h : DA X e0 W es g) : DX X e0 W (.List es pos) (sLst g) := PE.weak (pe_lst h) fun σ H Q ⟨E, F, S, h⟩ => rdG_intro S (h.bind fun xs vs E1 F1 H1 G1 S1 R1 h1 => by
  obtain ⟨z, e, h3⟩ := h1.opt
  unfold sLstO at e
  split at e
  · rename_i hl
    cases e
    refine ⟨sizeLine_ok (by rw [← R1.length]; exact hl), fun p hp => h3.fin S1 (.new S1.sub hp) ?_⟩
    simp only [Rep]
    exact ⟨p, vs, rfl, upd_same, RepL.mono (same_upd (fresh_F S1.sub hp)) _ _ R1⟩
  · cases e)

/-! ### built-ins called by name -/
structure CallD (X : Cx) (f : Value) (o : List D → Option D) : Prop where
  ex : ∃ r : List V → Hp → VK → Prop, CallR X f r ∧ ∀ xs z, o xs = some z → ∀ F H vs Q, Same F H → RepL X.K F xs vs → (∀ u F' H', Alloc F H F' H' → Rep X.K F' z u → Q u H') → r vs H Q
theorem CallD.or {f : Value} {o o' : List D → Option D} (h : CallD X f o) (h' : CallD X f o') : CallD X f (fun x => (o x).or (o' x)) := by
  obtain ⟨r, h1, h2⟩ := h.ex
  obtain ⟨r', h1', h2'⟩ := h'.ex
  refine ⟨fun xs H Q => r xs H Q ∨ r' xs H Q, fun pins s σ H xs us Q I rx q => ?_, fun x z e F H v Q s rx k => ?_⟩
  · rcases q with q | q
    · exact h1 pins s σ H xs us Q I rx q
    · exact h1' pins s σ H xs us Q I rx q
  · cases q : o x with
    | some z' =>
      rw [q] at e
      exact .inl (h2 x z (by rw [q]; exact e) F H v Q s rx k)
    | none =>
      rw [q] at e
      exact .inr (h2' x z e F H v Q s rx k)
theorem call_rd {o : List D → Option D} {r : List V → Hp → VK → Prop} (h2 : ∀ xs z, o xs = some z → ∀ F H vs Q, Same F H → RepL X.K F xs vs → (∀ u F' H', Alloc F H F' H' → Rep X.K F' z u → Q u H') → r vs H Q) {σ : St} {H : Hp} {Q : VK}
    (h : rd X.K e0 W (sCall o g) σ H Q) : tCB r (rdL X.K e0 W g) σ H Q := by
  obtain ⟨E, F, S, h⟩ := h
  refine rdG_intro S (h.bind fun x v E1 F1 H1 G1 S1 R1 h1 => ?_)
  obtain ⟨z, e, h3⟩ := h1.opt
  exact h2 x z e F1 H1 v Q S1.sub R1 fun u F' H' al r => h3.fin S1 al r
theorem dx_callB {id : String} {x : Str} {p : Pos} {e : Expr} {o : List D → Option D} (hc : CallD X (.builtin id) o) (hg : Gl X x) (hm : X.mg x = none) (hv : bootBuiltins x = some (.builtin id)) (ha : DA X e0 W (e :: es) g) (hn : x ≠ "__name__" := by decide) (hdb : (x == ("__debug__" : Str)) = false := by decide)
    (he : starEach (e :: es) X.env = (false, eval e X.env) :: starEach es X.env := by rfl) (hpl : (backTo pos (starEach es X.env)).any (·.1) = false := by rfl) : DX X e0 W (.Call (.Name x p) (e :: es) [] pos) (sCall o g) := by
  obtain ⟨r, h1, h2⟩ := hc.ex
  exact PE.weak (pe_callB h1 hg hm hv ha hn hdb he hpl) fun σ H Q h => call_rd h2 h
theorem dx_callTy {T : String} {x : Str} {p : Pos} {e : Expr} {o : List D → Option D} (hc : CallD X (.type T) o) (hg : Gl X x) (hm : X.mg x = none) (hv : bootBuiltins x = some (.type T)) (ha : DA X e0 W (e :: es) g) (hn : x ≠ "__name__" := by decide) (hdb : (x == ("__debug__" : Str)) = false := by decide)
    (he : starEach (e :: es) X.env = (false, eval e X.env) :: starEach es X.env := by rfl) (hpl : (backTo pos (starEach es X.env)).any (·.1) = false := by rfl) : DX X e0 W (.Call (.Name x p) (e :: es) [] pos) (sCall o g) := by
  obtain ⟨r, h1, h2⟩ := hc.ex
  exact PE.weak (pe_callTy h1 hg hm hv ha hn hdb he hpl) fun σ H Q h => call_rd h2 h

/-! ### subscripts -/
structure IxD (X : Cx) (o : D → D → Option D) : Prop where
  ex : ∃ r : R2, IxR X r ∧ ∀ x y z, o x y = some z → ∀ F H v w Q, Same F H → Rep X.K F x v → Rep X.K F y w → (∀ u F' H', Alloc F H F' H' → Rep X.K F' z u → Q u H') → r v w H Q
theorem dx_ix {o : D → D → Option D} (ho : IxD X o) (ha : DX X e0 W a fa) (hb : DX X e0 W b fb) (hs : PlainIx b := by intro _ _; rfl) : DX X e0 W (.Subscript a b pos) (sBin o fa fb) := by
  obtain ⟨r, h1, h2⟩ := ho.ex
  exact PE.weak (pe_ix h1 ha hb hs) fun σ H Q h => bin_rd h2 h

/-! ### fields -/
structure FldOk (K : PySem.W.Frag) (f : Str) (tab : List (Nat × Nat)) : Prop where
  ok : ∀ c i, tab.lookup c = some i → Cls K (He.ga K (clsName c)) ∧ NoAttr K (He.ga K (clsName c)) f ∧ (clsFlds c).findIdx (· == f) = i ∧ i < (clsFlds c).length
theorem lookup_zip : ∀ {names : List Str} {vs : List V} {i : Nat} {f : Str} {v : V}, names.findIdx (· == f) = i → i < names.length → vs[i]? = some v → (names.zip vs).lookup f = some v
  | [], vs, i, f, v, h, hl, e => by simp at hl
  | n :: names, [], i, f, v, h, hl, e => by simp at e
  | n :: names, w :: vs, i, f, v, h, hl, e => by
    rw [List.findIdx_cons] at h
    rw [List.zip_cons_cons, List.lookup_cons]
    by_cases q : n = f
    · subst q
      simp at h
      subst h
      simpa using e
    · have b1 : (n == f) = false := by simpa using q
      have b2 : (f == n) = false := by simpa using fun z => q z.symm
      rw [b1] at h
      simp at h
      subst h
      rw [b2]
      exact lookup_zip rfl (by simpa using hl) (by simpa using e)
theorem dx_fld {f : Str} {tab : List (Nat × Nat)} (T : FldOk X.K f tab) (ha : DX X e0 W a fa) (hb : attributeBase a f X.env (eval a X.env) = eval a X.env := by rfl) : DX X e0 W (.Attribute a f pos) (sFld tab fa) := by
  refine PE.weak (pe_fld ha hb) fun σ H Q ⟨E, F, S, h⟩ => rdG_intro S (h.bind fun x v E1 F1 H1 G1 S1 R1 h1 => ?_)
  cases x with
  | ins c xs =>
    simp only [Rep] at R1
    obtain ⟨q, dx, vs, e1, e2, hl, r⟩ := R1
    cases e : tab.lookup c with
    | none =>
      simp only [e] at h1
      exact h1.elim
    | some i =>
      simp only [e] at h1
      obtain ⟨z, e3, h3⟩ := h1.opt
      obtain ⟨w, e4, r4⟩ := r.get e3
      obtain ⟨t1, t2, t3, t4⟩ := T.ok c i e
      exact ⟨q, _, dx, _, w, e1, S1.sub _ _ e2, t1, t2, lookup_zip t3 t4 e4, h3.fin0 S1 r4⟩
  | _ => exact h1.elim
end
end Dn

set_option Elab.async false
set_option linter.all false
set_option maxRecDepth 100000
set_option maxHeartbeats 4000000
namespace Dn
open PySem L2

/-- what is handed back: a value, or a new list that nobody else holds -/
inductive Rv where
  | fz (d : D) | fr (ds : List D)
inductive So where
  | nx (E : Sto) | rt (r : Rv) (E : Sto) | bk (E : Sto) | ct (E : Sto) | ex (x : Xn) (E : Sto) | bad
abbrev Ss := Sto → So
def RepR (K : PySem.W.Frag) (e0 : E0) (F H : Hp) : Rv → V → Prop
  | .fz d, v => Rep K F d v
  | .fr ds, v => ∃ p vs, v = .ref p ∧ e0.H p = none ∧ F p = none ∧ H p = some (.lst vs) ∧ RepL K F ds vs
section
variable (K : PySem.W.Frag) (e0 : E0) (W : WX)
def PostS (F : Hp) (r : So) (D : Ends) : Prop := match r with
  | .nx E => ∀ σ F' H', Same F F' → SI K e0 F' H' σ E → D.nx σ H'
  | .bk E => ∀ σ F' H', Same F F' → SI K e0 F' H' σ E → D.bk σ H'
  | .ct E => ∀ σ F' H', Same F F' → SI K e0 F' H' σ E → D.ct σ H'
  | .rt r E => ∀ v σ F' H', SI K e0 F' H' σ E → RepR K e0 F' H' r v → D.rt v H'
  | .ex x E => ∀ cls dd σ F' H', SI K e0 F' H' σ E → RepX K F' H' x cls dd → W cls dd σ H'
  | .bad => False
def rdS (f : Ss) : TS := fun D σ H => ∃ E F, SI K e0 F H σ E ∧ PostS K e0 W F (f E) D
/-- a new list that nobody else holds -/
def PostF (σ : St) (E : Sto) (F H : Hp) (r : Out (List Dn.D)) (Q : VK) : Prop := match r with
  | .ok xs E' => ∀ p vs F' H', Grow σ E F H E' F' H' → SI K e0 F' H' σ E' → H p = none → F' p = none → H' p = some (.lst vs) → RepL K F' xs vs → Q (.ref p) H'
  | .ex x E' => ∀ cls dd F' H', Grow σ E F H E' F' H' → SI K e0 F' H' σ E' → RepX K F' H' x cls dd → W cls dd σ H'
  | .bad => False
def rdF (f : SeL) : TE := fun σ H Q => ∃ E F, SI K e0 F H σ E ∧ PostF K e0 W σ E F H (f E) Q
end
def DS (X : Cx) (e0 : E0) (W : WX) (st : Stmt) (f : Ss) : Prop := PS X st (rdS X.K e0 W f)
def DSs (X : Cx) (e0 : E0) (W : WX) (st : List Stmt) (f : Ss) : Prop := PSs X st (rdS X.K e0 W f)
def DF (X : Cx) (e0 : E0) (W : WX) (e : Expr) (f : SeL) : Prop := PE X e (rdF X.K e0 W f)
theorem PS.weak {X : Cx} {e : Stmt} {t t' : TS} (h : PS X e t) (w : ∀ D σ H, t' D σ H → t D σ H) : PS X e t' := ⟨fun pins s σ H D I q => h.run pins s σ H D I (w D σ H q)⟩
theorem PSs.weak {X : Cx} {e : List Stmt} {t t' : TS} (h : PSs X e t) (w : ∀ D σ H, t' D σ H → t D σ H) : PSs X e t' := ⟨fun pins s σ H D I q => h.run pins s σ H D I (w D σ H q)⟩

section
variable {K : PySem.W.Frag} {e0 : E0} {W : WX} {σ : St} {E E1 E2 : Sto} {F F1 F2 H H1 H2 : Hp} {r : So} {D : Ends} {α β γ δ : Type} {rep1 : Hp → γ → δ → Prop}
theorem PostS.rebase (s : Same F F1) (h : PostS K e0 W F r D) : PostS K e0 W F1 r D := by
  cases r with
  | nx E => exact fun σ F' H' s' => h σ F' H' (Same.tr s s')
  | bk E => exact fun σ F' H' s' => h σ F' H' (Same.tr s s')
  | ct E => exact fun σ F' H' s' => h σ F' H' (Same.tr s s')
  | rt r E => exact h
  | ex x E => exact h
  | bad => exact h
/-- an expression, then a statement -/
def Out.then {α : Type} (r : Out α) (g : α → Sto → So) : So := match r with
  | .ok a E => g a E
  | .ex x E => .ex x E
  | .bad => .bad
@[simp] theorem Out.then_ok {α : Type} (a : α) (E : Sto) (g : α → Sto → So) : (Out.ok a E).then g = g a E := rfl
@[simp] theorem Out.then_ex {α : Type} (x : Xn) (E : Sto) (g : α → Sto → So) : (Out.ex x E : Out α).then g = .ex x E := rfl
@[simp] theorem Out.then_bad {α : Type} (g : α → Sto → So) : (Out.bad : Out α).then g = .bad := rfl
theorem PostS.bind {r : Out γ} {g : γ → Sto → So} {Q1 : δ → Hp → Prop} (h : PostS K e0 W F (r.then g) D)
    (k : ∀ a b E1 F1 H1, Grow σ E F H E1 F1 H1 → SI K e0 F1 H1 σ E1 → rep1 F1 a b → PostS K e0 W F1 (g a E1) D → Q1 b H1) : Post K e0 W rep1 σ E F H r Q1 := by
  cases r with
  | ok a E' => exact fun b F' H' g' s r => k a b E' F' H' g' s r (PostS.rebase g'.sF h)
  | ex x E' => exact fun c d F' H' g' s r => h c d σ F' H' s r
  | bad => exact h
theorem PostS.bindF {r : Out (List Dn.D)} {g : List Dn.D → Sto → So} {Q1 : VK} (h : PostS K e0 W F (r.then g) D)
    (k : ∀ xs p vs E1 F1 H1, Grow σ E F H E1 F1 H1 → SI K e0 F1 H1 σ E1 → H p = none → F1 p = none → H1 p = some (.lst vs) → RepL K F1 xs vs → PostS K e0 W F1 (g xs E1) D → Q1 (.ref p) H1) : PostF K e0 W σ E F H r Q1 := by
  cases r with
  | ok a E' => exact fun p vs F' H' g' s h1 h2 h3 h4 => k a p vs E' F' H' g' s h1 h2 h3 h4 (PostS.rebase g'.sF h)
  | ex x E' => exact fun c d F' H' g' s r => h c d σ F' H' s r
  | bad => exact h
theorem own_some (S : SI K e0 F H σ E) {i : Nat} {p : Addr} (h : Own H σ E i p) : ∃ o, H p = some o ∧ F p = none := by
  unfold Own at h
  cases e : E[i]? with
  | none => simp [e] at h
  | some s =>
    have r := S.rel i s e
    rw [e] at h
    cases s with
    | un => exact h.elim
    | vl d => exact h.elim
    | ow xs =>
      obtain ⟨q, vs, e1, e2, e3, _⟩ := r
      have h' : σ[i]? = some (some (.ref p)) := h
      rw [e1] at h'
      cases h'
      exact ⟨_, e2, e3⟩
    | st xs =>
      obtain ⟨q, vs, e1, e2, e3, _⟩ := r
      have h' : σ[i]? = some (some (.ref p)) := h
      rw [e1] at h'
      cases h'
      exact ⟨_, e2, e3⟩
    | nw c xs =>
      obtain ⟨q, dx, vs, e1, e2, e3, _⟩ := r
      have h' : σ[i]? = some (some (.ref p)) := h
      rw [e1] at h'
      cases h'
      exact ⟨_, e2, e3⟩
    | mx rows =>
      obtain ⟨q, ps, e1, e2, e3, e4, e5, e6, e7⟩ := r
      obtain ⟨q', ps', e1', e2', hp⟩ := h
      rw [e1] at e1'
      cases e1'
      rw [e2] at e2'
      injection e2' with e2'
      injection e2' with e2'
      have ep : ps = ps' := List.map_inj_right (fun a b h => by cases h; rfl) |>.mp e2'
      subst ep
      rcases hp with rfl | hp
      · exact ⟨_, e2, e3⟩
      · obtain ⟨k, hk⟩ := List.getElem?_of_mem hp
        have hl : k < rows.length := by
          have := (List.getElem?_eq_some_iff.mp hk).1
          omega
        obtain ⟨f, vs, h1, _⟩ := e7 k p rows[k] hk (by simp [hl])
        exact ⟨_, h1, f⟩
theorem SlotRel.sF {s : Sl} {o : Option (Option V)} {p : Addr} {u : HO} (sF : Same F (upd F p u)) (hs : ∀ q, F q = none → (∃ i : Unit, H q ≠ none) → True) (ne : ∀ q, (match s with
    | .ow _ => o = some (some (.ref q))
    | .st _ => o = some (some (.ref q))
    | .nw _ _ => o = some (some (.ref q))
    | .mx _ => ∃ (q0 : Addr) (ps : List Addr), o = some (some (.ref q0)) ∧ H q0 = some (.lst (ps.map V.ref)) ∧ (q = q0 ∨ q ∈ ps)
    | _ => False) → q ≠ p) (h : SlotRel K F H s o) : SlotRel K (upd F p u) H s o := by
  have nfo : ∀ b, F b = none → b ≠ p → (upd F p u) b = none := fun b f n => by
    rw [upd_ne n]
    exact f
  cases s with
  | un => trivial
  | vl d =>
    obtain ⟨v, h1, h2⟩ := h
    exact ⟨v, h1, Rep.mono sF _ _ h2⟩
  | ow ys =>
    obtain ⟨p', vs', h1, h2, h3, h4⟩ := h
    exact ⟨p', vs', h1, h2, nfo _ h3 (ne p' h1), RepL.mono sF _ _ h4⟩
  | st ys =>
    obtain ⟨p', vs', h1, h2, h3, h4⟩ := h
    exact ⟨p', vs', h1, h2, nfo _ h3 (ne p' h1), RepL.mono sF _ _ h4⟩
  | nw c ys =>
    obtain ⟨x, dx, vs', h1, h2, h3, h4⟩ := h
    exact ⟨x, dx, vs', h1, h2, nfo _ h3 (ne x h1), RepL.mono sF _ _ h4⟩
  | mx rows =>
    obtain ⟨q0, ps, h1, h2, h3, h4, h5, h6, h7⟩ := h
    refine ⟨q0, ps, h1, h2, nfo _ h3 (ne q0 ⟨q0, ps, h1, h2, .inl rfl⟩), h4, h5, h6, fun k p' r' a1 a2 => ?_⟩
    obtain ⟨b1, vs', b2, b3⟩ := h7 k p' r' a1 a2
    exact ⟨nfo _ b1 (ne p' ⟨q0, ps, h1, h2, .inr (List.mem_of_getElem? a1)⟩), vs', b2, RepL.mono sF _ _ b3⟩
theorem own_of_slot {i : Nat} {s : Sl} (e : E[i]? = some s) {q : Addr} (h : match s with
    | .ow _ => σ[i]? = some (some (.ref q))
    | .st _ => σ[i]? = some (some (.ref q))
    | .nw _ _ => σ[i]? = some (some (.ref q))
    | .mx _ => ∃ (q0 : Addr) (ps : List Addr), σ[i]? = some (some (.ref q0)) ∧ H q0 = some (.lst (ps.map V.ref)) ∧ (q = q0 ∨ q ∈ ps)
    | _ => False) : Own H σ E i q := by
  unfold Own
  rw [e]
  cases s <;> exact h
/-- a new list is frozen -/
theorem SI.freezeAt (S : SI K e0 F H σ E) {p : Addr} {u : HO} (e : H p = some u) (f : F p = none) (n : ∀ i, ¬ Own H σ E i p) (ne : e0.H p = none) : SI K e0 (upd F p u) H σ E ∧ Same F (upd F p u) := by
  have sF : Same F (upd F p u) := same_upd f
  refine ⟨⟨S.len, fun b w h => ?_, fun j s hs => (S.rel j s hs).sF sF (fun _ _ _ => trivial) fun q hq => ?_, S.apart, Same.tr S.f0 sF, S.h0, fun b h f' => ?_, S.ow, S.dm⟩, sF⟩
  · by_cases hb : b = p
    · subst hb
      rw [upd_same] at h
      rw [← h]
      exact e
    · rw [upd_ne hb] at h
      exact S.sub b w h
  · intro z
    subst z
    exact n j (own_of_slot hs (by cases s <;> exact hq))
  · have hb : b ≠ p := fun z => h (z ▸ ne)
    rw [upd_ne hb]
    exact S.nf b h f'
theorem SI.fresh0 (S : SI K e0 F H σ E) {p : Addr} (h : H p = none) : e0.H p = none := by
  cases q : e0.H p with
  | none => rfl
  | some o => exact (S.dm p (by rw [q]; exact fun z => nomatch z) h).elim
theorem Grow.notOwn (g : Grow σ E F H E1 F1 H1) (S : SI K e0 F H σ E) {p : Addr} (h : H p = none) : ∀ i, ¬ Own H1 σ E1 i p := fun i o => by
  obtain ⟨u, e, _⟩ := own_some S (g.own i p o)
  rw [h] at e
  cases e
theorem Grow.back (g : Grow σ E F H E1 F1 H1) {p : Addr} (h : H1 p = none) : H p = none := by
  cases q : H p with
  | none => rfl
  | some o => exact (g.dm p (by rw [q]; exact fun z => nomatch z) h).elim
def lstOf (r : Out (List Dn.D)) : Out Dn.D := match r with
  | .ok xs E => .ok (.lst xs) E
  | .ex x E => .ex x E
  | .bad => .bad
theorem frozen (S : SI K e0 F H σ E) {r : Out (List Dn.D)} {Q : VK} (h : Post K e0 W (fun F d v => Rep K F d v) σ E F H (lstOf r) Q) : PostF K e0 W σ E F H r Q := by
  cases r with
  | ok xs E' =>
    intro p vs F' H' g S' h1 h2 h3 h4
    have ne := S.fresh0 h1
    obtain ⟨S2, sF⟩ := S'.freezeAt h3 h2 (g.notOwn S h1) ne
    refine h (.ref p) _ H' ⟨Same.tr g.sF sF, g.keep, fun b hb f n => ?_, g.dm, g.own⟩ S2 ?_
    · have : b ≠ p := fun z => hb (z ▸ h1)
      rw [upd_ne this]
      exact g.nf b hb f n
    · simp only [Rep]
      exact ⟨p, vs, rfl, upd_same, RepL.mono sF _ _ h4⟩
  | ex x E' => exact h
  | bad => exact h
end

def sLs (f : SeL) : Se := fun E => lstOf (f E)
def sSet (i : Nat) (a : Se) : Ss := fun E => (a E).then fun d E1 => .nx (E1.set i (.vl d))
def sOwn (i : Nat) (a : SeL) : Ss := fun E => (a E).then fun d E1 => .nx (E1.set i (.ow d))
def sNext : Ss := fun E => .nx E
def sSeq (a b : Ss) : Ss := fun E => match a E with
  | .nx E1 => b E1
  | r => r
def sDrop (a : Se) : Ss := fun E => (a E).then fun _ E1 => .nx E1
def sRet (a : Se) : Ss := fun E => (a E).then fun d E1 => .rt (.fz d) E1
def sRetF (a : SeL) : Ss := fun E => (a E).then fun d E1 => .rt (.fr d) E1
def sRetN : Ss := fun E => .rt (.fz .non) E
def sCond (c : SeB) (a b : Ss) : Ss := fun E => (c E).then fun k E1 => if k = true then a E1 else b E1
def sWhile (c : SeB) (b : Ss) : Nat → Ss
  | 0 => fun _ => .bad
  | n + 1 => fun E => (c E).then fun k E1 => if k = true then (match b E1 with
    | .nx E2 => sWhile c b n E2
    | .ct E2 => sWhile c b n E2
    | .bk E2 => .nx E2
    | r => r) else .nx E1

section
variable {X : Cx} {e0 : E0} {W : WX} {a : Expr} {fa : Se} {ga : SeL} {pos : Pos} {st : Stmt} {rest : List Stmt} {s t : Ss} {c : SeB}

/-! ### slots stored -/
theorem own_set {H : Hp} {σ : St} {E : Sto} {i : Nat} {v : V} {d : D} {j : Nat} {q : Addr} (h : Own H (σ.set i (some v)) (E.set i (.vl d)) j q) : Own H σ E j q ∧ j ≠ i := by
  unfold Own at h ⊢
  by_cases hj : j = i
  · subst hj
    by_cases hi : j < E.length
    · rw [List.getElem?_set_self hi] at h
      exact h.elim
    · rw [List.getElem?_eq_none_iff.mpr (by simpa using hi)] at h
      exact h.elim
  · rw [List.getElem?_set_ne (Ne.symm hj), List.getElem?_set_ne (Ne.symm hj)] at h
    exact ⟨h, hj⟩
theorem SI.set {K : PySem.W.Frag} {F H : Hp} {σ : St} {E : Sto} (S : SI K e0 F H σ E) (i : Nat) {d : D} {v : V} (r : Rep K F d v) : SI K e0 F H (σ.set i (some v)) (E.set i (.vl d)) := by
  refine ⟨by simpa using S.len, S.sub, fun j s hs => ?_, fun a b q h1 h2 => S.apart a b q (own_set h1).1 (own_set h2).1, S.f0, S.h0, S.nf, fun j q h => ?_, S.dm⟩
  · by_cases hj : j = i
    · subst hj
      have hi : j < E.length := by
        have := (List.getElem?_eq_some_iff.mp hs).1
        simpa using this
      rw [List.getElem?_set_self hi] at hs
      cases hs
      rw [List.getElem?_set_self (by rw [S.len]; exact hi)]
      exact ⟨v, rfl, r⟩
    · rw [List.getElem?_set_ne (Ne.symm hj)] at hs ⊢
      exact S.rel j s hs
  · obtain ⟨h1, h2⟩ := own_set h
    rw [List.getElem?_set_ne (Ne.symm h2)]
    exact S.ow j q h1
theorem own_setO {H : Hp} {σ : St} {E : Sto} {i : Nat} {p : Addr} {xs : List D} {j : Nat} {q : Addr} (h : Own H (σ.set i (some (.ref p))) (E.set i (.ow xs)) j q) : (Own H σ E j q ∧ j ≠ i) ∨ (j = i ∧ q = p) := by
  unfold Own at h ⊢
  by_cases hj : j = i
  · subst hj
    by_cases hi : j < E.length
    · rw [List.getElem?_set_self hi] at h
      have h' : (σ.set j (some (.ref p)))[j]? = some (some (.ref q)) := h
      by_cases hl : j < σ.length
      · rw [List.getElem?_set_self hl] at h'
        cases h'
        exact .inr ⟨rfl, rfl⟩
      · rw [List.getElem?_eq_none_iff.mpr (by simpa using hl)] at h'
        cases h'
    · rw [List.getElem?_eq_none_iff.mpr (by simpa using hi)] at h
      exact h.elim
  · rw [List.getElem?_set_ne (Ne.symm hj), List.getElem?_set_ne (Ne.symm hj)] at h
    exact .inl ⟨h, hj⟩
theorem SI.setO {K : PySem.W.Frag} {F H : Hp} {σ : St} {E : Sto} (S : SI K e0 F H σ E) (i : Nat) {xs : List D} {vs : List V} {p : Addr} (n : ∀ i, ¬ Own H σ E i p) (ne : e0.H p = none) (f : F p = none) (e : H p = some (.lst vs)) (r : RepL K F xs vs) :
    SI K e0 F H (σ.set i (some (.ref p))) (E.set i (.ow xs)) := by
  refine ⟨by simpa using S.len, S.sub, fun j s hs => ?_, fun a b q h1 h2 => ?_, S.f0, S.h0, S.nf, fun j q h => ?_, S.dm⟩
  · by_cases hj : j = i
    · subst hj
      have hi : j < E.length := by
        have := (List.getElem?_eq_some_iff.mp hs).1
        simpa using this
      rw [List.getElem?_set_self hi] at hs
      cases hs
      rw [List.getElem?_set_self (by rw [S.len]; exact hi)]
      exact ⟨p, vs, rfl, e, f, r⟩
    · rw [List.getElem?_set_ne (Ne.symm hj)] at hs ⊢
      exact S.rel j s hs
  · rcases own_setO h1 with ⟨h1, n1⟩ | ⟨h1, n1⟩
    · rcases own_setO h2 with ⟨h2, n2⟩ | ⟨h2, n2⟩
      · exact S.apart a b q h1 h2
      · exact (n a (n2 ▸ h1)).elim
    · rcases own_setO h2 with ⟨h2, n2⟩ | ⟨h2, n2⟩
      · exact (n b (n1 ▸ h2)).elim
      · rw [h1, h2]
  · rcases own_setO h with ⟨h1, h2⟩ | ⟨h1, h2⟩
    · rw [List.getElem?_set_ne (Ne.symm h2)]
      exact S.ow j q h1
    · subst h2
      refine .inl ⟨ne, fun z => ?_⟩
      subst h1
      by_cases hi : j < E.length
      · rw [List.getElem?_set_self hi] at z
        rcases z with ⟨ys, z⟩ | ⟨c, ys, z⟩ <;> cases z
      · rw [List.getElem?_eq_none_iff.mpr (by simpa using hi)] at z
        rcases z with ⟨ys, z⟩ | ⟨c, ys, z⟩ <;> cases z

theorem dx_df (h : DF X e0 W a ga) : DX X e0 W a (sLs ga) := PE.weak h fun σ H Q ⟨E, F, S, h⟩ => ⟨E, F, S, frozen S h⟩
theorem ds_set {i : Nat} {x : Str} {pos' : Pos} (hN : X.N.Nodup) (hi : X.N[i]? = some x) (hx : Loc X.env.scope x) (he : DX X e0 W a fa) (hs : swapsWith a (some (.Name x pos')) pos.line X.env = pure false := by rfl) (hf : X.fn x = true ∨ X.env.scope.names.lookup x = some .local := by first | exact .inl rfl | exact .inr rfl | assumption) :
    DS X e0 W (.Assign [.Name x pos'] a pos) (sSet i fa) := PS.weak (ps_set hN hi hx he hs hf) fun D σ H ⟨E, F, S, h⟩ => rdG_intro S (h.bind fun d v E1 F1 H1 G1 S1 R1 h1 => h1 _ F1 H1 (fun _ _ h => h) (S1.set i R1))
theorem ds_own {i : Nat} {x : Str} {pos' : Pos} (hN : X.N.Nodup) (hi : X.N[i]? = some x) (hx : Loc X.env.scope x) (he : DF X e0 W a ga) (hs : swapsWith a (some (.Name x pos')) pos.line X.env = pure false := by rfl) (hf : X.fn x = true ∨ X.env.scope.names.lookup x = some .local := by first | exact .inl rfl | exact .inr rfl | assumption) :
    DS X e0 W (.Assign [.Name x pos'] a pos) (sOwn i ga) := PS.weak (ps_set hN hi hx he hs hf) fun D σ H ⟨E, F, S, h⟩ => ⟨E, F, S, PostS.bindF h fun xs p vs E1 F1 H1 G1 S1 h1 h2 h3 h4 h5 =>
      h5 _ F1 H1 (fun _ _ h => h) (S1.setO i (G1.notOwn S h1) (S.fresh0 h1) h2 h3 h4)⟩

/-! ### blocks -/
theorem dss_nil : DSs X e0 W [] sNext := PSs.weak pss_nil fun D σ H ⟨E, F, S, h⟩ => h σ F H (fun _ _ h => h) S
theorem dss_cons (h1 : DS X e0 W st s) (h2 : DSs X e0 W rest t) : DSs X e0 W (st :: rest) (sSeq s t) := PSs.weak (pss_cons h1 h2) fun D σ H ⟨E, F, S, h⟩ => by
  refine ⟨E, F, S, ?_⟩
  unfold sSeq at h
  cases e : s E with
  | nx E1 =>
    simp only [e] at h
    exact fun σ' F' H' s' S' => ⟨E1, F', S', PostS.rebase s' h⟩
  | rt r E1 =>
    simp only [e] at h
    exact h
  | bk E1 =>
    simp only [e] at h
    exact h
  | ct E1 =>
    simp only [e] at h
    exact h
  | ex x E1 =>
    simp only [e] at h
    exact h
  | bad =>
    simp only [e] at h
    exact h
theorem dss_one (h1 : DS X e0 W st s) : DSs X e0 W [st] s := pss_one h1
theorem ds_pass : DS X e0 W (.Pass pos) sNext := PS.weak ps_pass fun D σ H ⟨E, F, S, h⟩ => h σ F H (fun _ _ h => h) S
theorem ds_expr (h : DX X e0 W a fa) (hs : swapsWith a none pos.line X.env = pure false := by rfl) : DS X e0 W (.Expr a pos) (sDrop fa) := PS.weak (ps_expr h hs) fun D σ H ⟨E, F, S, h⟩ => rdG_intro S (h.bind fun d v E1 F1 H1 G1 S1 R1 h1 => h1 σ F1 H1 (fun _ _ h => h) S1)
theorem ds_ret (h : DX X e0 W a fa) : DS X e0 W (.Return (some a) pos) (sRet fa) := PS.weak (ps_ret h) fun D σ H ⟨E, F, S, h⟩ => rdG_intro S (h.bind fun d v E1 F1 H1 G1 S1 R1 h1 => h1 v σ F1 H1 S1 R1)
theorem ds_retF (h : DF X e0 W a ga) : DS X e0 W (.Return (some a) pos) (sRetF ga) := PS.weak (ps_ret h) fun D σ H ⟨E, F, S, h⟩ => ⟨E, F, S, PostS.bindF h fun xs p vs E1 F1 H1 G1 S1 h1 h2 h3 h4 h5 =>
  h5 _ σ F1 H1 S1 ⟨p, vs, rfl, S.fresh0 h1, h2, h3, h4⟩⟩
theorem ds_retN : DS X e0 W (.Return none pos) sRetN := PS.weak ps_retN fun D σ H ⟨E, F, S, h⟩ => h .non σ F H S (by simp [RepR, Rep])
theorem ds_if {cc : Expr} {p q : List Stmt} (hc : DT X e0 W cc c) (ha : DSs X e0 W p s) (hb : DSs X e0 W q t) : DS X e0 W (.If cc p q pos) (sCond c s t) := PS.weak (ps_if hc ha hb) fun D σ H ⟨E, F, S, h⟩ => rdG_intro S (h.bind fun d v E1 F1 H1 G1 S1 R1 h1 => by
  cases R1
  cases d with
  | true => exact ⟨E1, F1, S1, h1⟩
  | false => exact ⟨E1, F1, S1, h1⟩)
theorem ds_while {cc : Expr} {p : List Stmt} (n : Nat) (hp : PassesOwn (model X.prog X.w) X.A X.env X.xe) (hc : DT X e0 W cc c) (hb : DSs X e0 W p s) : DS X e0 W (.While cc p [] pos) (sWhile c s n) := by
  refine PS.weak (ps_while hp hc hb) fun D σ H ⟨E, F, S, h⟩ => ?_
  refine ⟨fun m σ H => ∃ E F, SI X.K e0 F H σ E ∧ PostS X.K e0 W F (sWhile c s m E) D, ⟨n, E, F, S, h⟩, ?_⟩
  rintro m σ H ⟨E, F, S, h⟩
  cases m with
  | zero => exact h.elim
  | succ m =>
    refine rdG_intro S (PostS.bind (D := D) h fun d v E1 F1 H1 G1 S1 R1 h1 => ?_)
    cases R1
    cases d with
    | false => exact h1 σ F1 H1 (fun _ _ h => h) S1
    | true =>
      refine ⟨fun σ' H' => ∃ E F, SI X.K e0 F H' σ' E ∧ PostS X.K e0 W F (sWhile c s m E) D, fun σ' H' q => ⟨m, Nat.lt_succ_self m, q⟩, E1, F1, S1, ?_⟩
      simp only [if_true] at h1
      cases e : s E1 with
      | nx E2 =>
        simp only [e] at h1
        exact fun σ' F' H' s' S' => ⟨E2, F', S', PostS.rebase s' h1⟩
      | ct E2 =>
        simp only [e] at h1
        exact fun σ' F' H' s' S' => ⟨E2, F', S', PostS.rebase s' h1⟩
      | bk E2 =>
        simp only [e] at h1
        exact h1
      | rt r E2 =>
        simp only [e] at h1
        exact h1
      | ex x E2 =>
        simp only [e] at h1
        exact h1
      | bad =>
        simp only [e] at h1
        exact h1
end
end Dn

set_option Elab.async false
set_option linter.all false
set_option maxRecDepth 100000
set_option maxHeartbeats 4000000
namespace Dn
open PySem L2

/-! ### targets -/
abbrev Tg := D → Sto → Option Sto
abbrev Tgs := List D → Sto → Option Sto
def Chg (is : List Nat) (σ σ' : St) : Prop := σ'.length = σ.length ∧ ∀ j, j ∉ is → σ'[j]? = σ[j]?
def rdT (K : PySem.W.Frag) (e0 : E0) (is : List Nat) (t : Tg) : TG := fun v σ H Q => ∃ E F d E', SI K e0 F H σ E ∧ Rep K F d v ∧ t d E = some E' ∧ ∀ σ', Chg is σ σ' → SI K e0 F H σ' E' → Q σ' H
def rdTs (K : PySem.W.Frag) (e0 : E0) (is : List Nat) (t : Tgs) : TGs := fun vs σ H Q => ∃ E F ds E', SI K e0 F H σ E ∧ RepL K F ds vs ∧ t ds E = some E' ∧ ∀ σ', Chg is σ σ' → SI K e0 F H σ' E' → Q σ' H
/-- what a target changes -/
def StoChg (is : List Nat) (E E' : Sto) : Prop := E'.length = E.length ∧ (∀ j, j ∉ is → E'[j]? = E[j]?) ∧ ∀ j, j ∈ is → ∀ s, E'[j]? = some s → ∃ d, s = .vl d
structure DG (X : Cx) (e0 : E0) (is : List Nat) (e : Expr) (t : Tg) : Prop where
  pg : PG X e (rdT X.K e0 is t)
  chg : ∀ d E E', t d E = some E' → StoChg is E E'
structure DGs (X : Cx) (e0 : E0) (is : List Nat) (e : List Expr) (t : Tgs) (n : Nat) : Prop where
  pg : PGs X e (rdTs X.K e0 is t)
  chg : ∀ d E E', t d E = some E' → StoChg is E E'
  len : ∀ ds E E', t ds E = some E' → ds.length = n
theorem StoChg.refl {E : Sto} : StoChg [] E E := ⟨rfl, fun _ _ => rfl, fun j h => by simp at h⟩
theorem StoChg.app {is js : List Nat} {E E1 E2 : Sto} (a : StoChg is E E1) (b : StoChg js E1 E2) : StoChg (is ++ js) E E2 := ⟨b.1.trans a.1, fun j h => by
  rw [b.2.1 j (fun z => h (List.mem_append_right _ z)), a.2.1 j (fun z => h (List.mem_append_left _ z))], fun j h s hs => by
  by_cases hj : j ∈ js
  · exact b.2.2 j hj s hs
  · rw [b.2.1 j hj] at hs
    rcases List.mem_append.mp h with z | z
    · exact a.2.2 j z s hs
    · exact (hj z).elim⟩
theorem PG.weak {X : Cx} {e : Expr} {t t' : TG} (h : PG X e t) (w : ∀ v σ H Q, t' v σ H Q → t v σ H Q) : PG X e t' := ⟨fun pins s σ H v u Q I r q => h.run pins s σ H v u Q I r (w v σ H Q q)⟩
theorem PGs.weak {X : Cx} {e : List Expr} {t t' : TGs} (h : PGs X e t) (w : ∀ v σ H Q, t' v σ H Q → t v σ H Q) : PGs X e t' := ⟨fun pins s σ H v u Q I r q => h.run pins s σ H v u Q I r (w v σ H Q q)⟩
def gN (i : Nat) : Tg := fun d E => some (E.set i (.vl d))
def gNil' : Tgs := fun ds E => match ds with
  | [] => some E
  | _ => none
def gCons' (t : Tg) (u : Tgs) : Tgs := fun ds E => match ds with
  | d :: r => (t d E).bind fun E1 => u r E1
  | [] => none
def gTup' (t : Tgs) : Tg := fun d E => match d with
  | .tup ds => t ds E
  | _ => none
/-- a target list takes as many items as it has names -/
def TgLen (t : Tgs) (n : Nat) : Prop := ∀ ds E E', t ds E = some E' → ds.length = n
theorem tl_nil : TgLen gNil' 0 := fun ds E E' h => by
  cases ds with
  | nil => rfl
  | cons d ds => cases h
theorem tl_cons {t : Tg} {u : Tgs} {n : Nat} (h : TgLen u n) : TgLen (gCons' t u) (n + 1) := fun ds E E' e => by
  cases ds with
  | nil => cases e
  | cons d ds =>
    unfold gCons' at e
    cases q : t d E with
    | none => simp [q] at e
    | some E1 =>
      simp only [q, Option.bind_some] at e
      simp [h ds E1 E' e]
theorem Chg.refl {is : List Nat} {σ : St} : Chg is σ σ := ⟨rfl, fun _ _ => rfl⟩
theorem Chg.one {i : Nat} {σ : St} {o : Option V} : Chg [i] σ (σ.set i o) := ⟨by simp, fun j h => by
  rw [List.getElem?_set_ne (fun e => h (by simp [e]))]⟩
theorem Chg.app {is js : List Nat} {σ σ1 σ2 : St} (a : Chg is σ σ1) (b : Chg js σ1 σ2) : Chg (is ++ js) σ σ2 := ⟨b.1.trans a.1, fun j h => by
  rw [b.2 j (fun z => h (List.mem_append_right _ z)), a.2 j (fun z => h (List.mem_append_left _ z))]⟩
theorem Chg.wipe {is vs : List Nat} {σ σ' : St} (c : Chg is σ σ') (h : ∀ i ∈ is, i ∈ vs) : wipe σ' vs = wipe σ vs := by
  have key : ∀ (vs : List Nat) (τ : St) (j : Nat), j ∈ vs → j < τ.length → (L2.wipe τ vs)[j]? = some none := by
    intro vs
    induction vs with
    | nil => intro τ j h; simp at h
    | cons v vs ih =>
      intro τ j h hl
      show ((L2.wipe τ vs).set v none)[j]? = some none
      by_cases e : v = j
      · subst e
        rw [List.getElem?_set_self (by rw [wipe_length]; exact hl)]
      · rw [List.getElem?_set_ne e]
        refine ih τ j ?_ hl
        rcases List.mem_cons.mp h with z | z
        · exact (e z.symm).elim
        · exact z
  apply List.ext_getElem?
  intro j
  by_cases hj : j ∈ vs
  · by_cases hl : j < σ.length
    · rw [key vs σ' j hj (by rw [c.1]; exact hl), key vs σ j hj hl]
    · rw [List.getElem?_eq_none_iff.mpr (by rw [wipe_length, c.1]; omega), List.getElem?_eq_none_iff.mpr (by rw [wipe_length]; omega)]
  · rw [wipe_out hj, wipe_out hj]
    exact c.2 j fun z => hj (h j z)

/-! ### what is walked -/
structure ItOk (K : PySem.W.Frag) (F0 : Hp) (items : List D) (J : It) : Prop where
  go : ∀ i F H, i < items.length → Same F0 F → Same F H → J.go i H ∧ ∀ x H2, J.yld i H x H2 → ∃ F2 d, items[i]? = some d ∧ Alloc F H F2 H2 ∧ Rep K F2 d x
  stop : ∀ i F H, items.length ≤ i → Same F0 F → Same F H → J.stop i H
abbrev rdI (K : PySem.W.Frag) (e0 : E0) (W : WX) (f : SeL) : TI := rdG K e0 W (fun F ds J => ItOk K F ds J) f
def DI (X : Cx) (e0 : E0) (W : WX) (tg e : Expr) (f : SeL) : Prop := PI X tg e (rdI X.K e0 W f)
theorem PI.weak {X : Cx} {tg e : Expr} {t t' : TI} (h : PI X tg e t) (w : ∀ σ H R, t' σ H R → t σ H R) : PI X tg e t' := ⟨fun pins s σ H R I q => h.run pins s σ H R I (w σ H R q)⟩
theorem PI.or {X : Cx} {tg e : Expr} {t t' : TI} (h : PI X tg e t) (h' : PI X tg e t') : PI X tg e (fun σ H R => t σ H R ∨ t' σ H R) := ⟨fun pins s σ H R I q => by
  rcases q with q | q
  · exact h.run pins s σ H R I q
  · exact h'.run pins s σ H R I q⟩
def seqOf : D → Option (List D)
  | .lst xs => some xs
  | .tup xs => some xs
  | _ => none
def iSeq (a : Se) : SeL := fun E => (a E).bind fun d E1 => .opt (seqOf d) E1
def rng1O : List D → Option (List D)
  | [.int j] => if -4611686018427387904 ≤ j ∧ j < 4611686018427387904 then some ((List.range j.toNat).map fun k => .int (k : Nat)) else none
  | _ => none
def rng2O : List D → Option (List D)
  | [.int i, .int j] => if (-4611686018427387904 ≤ i ∧ i < 4611686018427387904) ∧ (-4611686018427387904 ≤ j ∧ j < 4611686018427387904) then some ((List.range (j - i).toNat).map fun k => .int (i + (k : Nat))) else none
  | _ => none
/-- range(a, b, c) -/
def rng3O : List D → Option (List D)
  | [.int i, .int j, .int c] => if c ≠ 0 ∧ c.natAbs < 1073741824 ∧ Builtin.Range.small i j c = true ∧ Builtin.Range.rangeSize i j c = ((Builtin.Range.rangeSize i j c).toNat : Int) then
      some ((List.range (Builtin.Range.rangeSize i j c).toNat).map fun k => .int (i + (k : Nat) * c)) else none
  | _ => none
def iCall (o : List D → Option (List D)) (a : SeL) : SeL := fun E => (a E).bind fun xs E1 => .opt (o xs) E1
def zipO : List D → Option (List D)
  | [.lst xs, .lst ys] => some ((xs.zip ys).map fun p => .tup [p.1, p.2])
  | [.tup xs, .tup ys] => some ((xs.zip ys).map fun p => .tup [p.1, p.2])
  | _ => none
section
variable {X : Cx} {e0 : E0} {W : WX} {a : Expr} {fa : Se} {ga : SeL} {pos tpos : Pos} {tg : Expr} {es : List Expr} {K : PySem.W.Frag} {F F' H H' : Hp}
theorem dg_name {i : Nat} {x : Str} (hN : X.N.Nodup) (hi : X.N[i]? = some x) (hx : Loc X.env.scope x) (hf : X.fn x = true ∨ X.env.scope.names.lookup x = some .local := by first | exact .inl rfl | exact .inr rfl | assumption) : DG X e0 [i] (.Name x pos) (gN i) :=
  ⟨PG.weak (pg_name hN hi hx hf) fun v σ H Q ⟨E, F, d, E', S, r, e, h⟩ => by
    cases e
    exact h _ Chg.one (S.set i r), fun d E E' e => by
    cases e
    refine ⟨by simp, fun j h => by rw [List.getElem?_set_ne (fun e => h (by simp [e]))], fun j h s hs => ?_⟩
    have ej : j = i := by simpa using h
    subst ej
    have hi : j < E.length := by
      have := (List.getElem?_eq_some_iff.mp hs).1
      simpa using this
    rw [List.getElem?_set_self hi] at hs
    cases hs
    exact ⟨d, rfl⟩⟩
theorem dgs_nil : DGs X e0 [] [] gNil' 0 := by
  refine ⟨PGs.weak pgs_nil fun vs σ H Q ⟨E, F, ds, E', S, r, e, h⟩ => ?_, fun ds E E' e => ?_, tl_nil⟩
  · cases ds with
    | nil =>
      cases e
      simp only [RepL] at r
      exact ⟨r, h σ Chg.refl S⟩
    | cons d ds => cases e
  · cases ds with
    | nil => cases e; exact StoChg.refl
    | cons d ds => cases e
theorem dgs_cons {e : Expr} {es : List Expr} {t : Tg} {u : Tgs} {is js : List Nat} {n : Nat} (h1 : DG X e0 is e t) (h2 : DGs X e0 js es u n)
    (hs : (assignEach (e :: es) X.env).map (·.2) = assign e X.env :: (assignEach es X.env).map (·.2) := by rfl) : DGs X e0 (is ++ js) (e :: es) (gCons' t u) (n + 1) := ⟨PGs.weak (pgs_cons h1.pg h2.pg hs) fun vs σ H Q ⟨E, F, ds, E', S, r, e, h⟩ => by
  cases ds with
  | nil => cases e
  | cons d ds =>
    simp only [RepL] at r
    obtain ⟨v, ws, e1, r1, r2⟩ := r
    unfold gCons' at e
    cases q : t d E with
    | none =>
      simp [q] at e
    | some E1 =>
      simp only [q, Option.bind_some] at e
      exact ⟨v, ws, e1, E, F, d, E1, S, r1, q, fun σ1 c1 S1 => ⟨E1, F, ds, E', S1, r2, e, fun σ2 c2 S2 => h σ2 (c1.app c2) S2⟩⟩, fun ds E E' e => by
  cases ds with
  | nil => cases e
  | cons d ds =>
    unfold gCons' at e
    cases q : t d E with
    | none => simp [q] at e
    | some E1 =>
      simp only [q, Option.bind_some] at e
      exact (h1.chg d E E1 q).app (h2.chg ds E1 E' e), tl_cons h2.len⟩
theorem dg_tup {es : List Expr} {k n : Nat} {t : Tgs} {is : List Nat} (hc : X.calm = true) (h1 : DGs X e0 is es t n) (hn : (assignEach es X.env).length = n := by rfl) (hst : (assignEach es X.env).findIdx? (·.1) = none := by rfl) :
    DG X e0 is (.Tuple es k pos) (gTup' t) := by
  refine ⟨PG.weak (pg_tup hc h1.pg hn hst) fun v σ H Q ⟨E, F, d, E', S, r, e, h⟩ => ?_, fun d E E' e => ?_⟩
  · cases d with
    | tup ds =>
      simp only [Rep] at r
      obtain ⟨q, vs, e1, e2, r⟩ := r
      exact ⟨q, vs, e1, seqT S.sub e2.sq, by rw [← r.length]; exact h1.len _ _ _ e, E, F, ds, E', S, r, e, h⟩
    | _ => cases e
  · cases d with
    | tup ds => exact h1.chg ds E E' e
    | _ => cases e

theorem PI.of {wi wi' : TI} {e : Expr} (h : PI X tg e wi) (h' : PI X tg e wi') {f : SeL} (w : ∀ σ H R, rdI X.K e0 W f σ H R → wi σ H R ∨ wi' σ H R) : DI X e0 W tg e f := PI.weak (PI.or h h') w
theorem itl_ok {p : Addr} {ds : List D} {vs : List V} (h : SqL K F p vs) (r : RepL K F ds vs) : ItOk K F ds (Itl K p) where
  go := fun i F1 H hi s1 s2 => by
    have hv : i < vs.length := by rw [← r.length]; exact hi
    refine ⟨⟨vs, vs[i], seqL s2 (seqL s1 h), by simp [hv]⟩, fun x H2 y => ?_⟩
    obtain ⟨e, y⟩ := y
    subst e
    have e := y vs (seqL s2 (seqL s1 h))
    obtain ⟨d, e1, r1⟩ := (RepL.mono s1 _ _ r).getV e
    exact ⟨F1, d, e1, .refl s2, r1⟩
  stop := fun i F1 H hi s1 s2 => ⟨vs, seqL s2 (seqL s1 h), by rw [← r.length]; exact hi⟩
theorem itt_ok {p : Addr} {ds : List D} {vs : List V} (h : SqT K F p vs) (r : RepL K F ds vs) : ItOk K F ds (Itt K p) where
  go := fun i F1 H hi s1 s2 => by
    have hv : i < vs.length := by rw [← r.length]; exact hi
    refine ⟨⟨vs, vs[i], seqT s2 (seqT s1 h), by simp [hv]⟩, fun x H2 y => ?_⟩
    obtain ⟨e, y⟩ := y
    subst e
    have e := y vs (seqT s2 (seqT s1 h))
    obtain ⟨d, e1, r1⟩ := (RepL.mono s1 _ _ r).getV e
    exact ⟨F1, d, e1, .refl s2, r1⟩
  stop := fun i F1 H hi s1 s2 => ⟨vs, seqT s2 (seqT s1 h), by rw [← r.length]; exact hi⟩
theorem itr_ok {lo : Int} {n : Nat} : ItOk K F ((List.range n).map fun k => D.int (lo + (k : Nat))) (Itr lo n) where
  go := fun i F1 H hi s1 s2 => by
    have hi' : i < n := by simpa using hi
    refine ⟨hi', fun x H2 y => ?_⟩
    obtain ⟨e, y⟩ := y
    subst e
    exact ⟨F1, .int (lo + i), by simp [hi'], .refl s2, by simp [Rep, y]⟩
  stop := fun i F1 H hi s1 s2 => by
    show n ≤ i
    simpa using hi
theorem di_seq (h : DX X e0 W a fa) : DI X e0 W tg a (iSeq fa) := by
  refine PI.of (pi_list h) (pi_tup h) fun σ H R ⟨E, F, S, h⟩ => ?_
  unfold iSeq at h
  cases e : fa E with
  | ok d E1 =>
    simp only [e, Out.bind_ok] at h
    cases d with
    | lst ds =>
      refine .inl ⟨E, F, S, ?_⟩
      rw [e]
      intro v F1 H1 G1 S1 R1
      simp only [Rep] at R1
      obtain ⟨p, vs, e1, e2, r⟩ := R1
      exact ⟨p, e1, ⟨vs, seqL S1.sub (Evl.sq_of e2)⟩, h _ F1 H1 G1 S1 (itl_ok (Evl.sq_of e2) r)⟩
    | tup ds =>
      refine .inr ⟨E, F, S, ?_⟩
      rw [e]
      intro v F1 H1 G1 S1 R1
      simp only [Rep] at R1
      obtain ⟨p, vs, e1, e2, r⟩ := R1
      exact ⟨p, e1, ⟨vs, seqT S1.sub e2.sq⟩, h _ F1 H1 G1 S1 (itt_ok e2.sq r)⟩
    | _ => exact h.elim
  | ex x E1 =>
    simp only [e, Out.bind_ex] at h
    refine .inl ⟨E, F, S, ?_⟩
    rw [e]
    exact h
  | bad =>
    simp only [e, Out.bind_bad] at h
    exact h.elim
theorem di_range1 {p : Pos} (hg : Gl X "range") (hm : X.mg "range" = none) (ha : DA X e0 W [a] ga) (hs : starEach [a] X.env = [(false, eval a X.env)] := by rfl) : DI X e0 W tg (.Call (.Name "range" p) [a] [] pos) (iCall rng1O ga) := by
  refine PI.weak (pi_range1 hg hm ha hs) fun σ H R ⟨E, F, S, h⟩ => rdG_intro S (h.bind fun ds vs E1 F1 H1 G1 S1 R1 h1 => ?_)
  obtain ⟨items, e, h3⟩ := h1.opt
  unfold rng1O at e
  split at e
  · rename_i j
    split at e
    · rename_i hj
      cases e
      simp only [RepL, Rep] at R1
      obtain ⟨v, ws, e1, e2, e3⟩ := R1
      subst e1 e2 e3
      refine ⟨j, rfl, hj.1, hj.2, h3 _ F1 H1 .refl S1 ?_⟩
      have z := itr_ok (K := X.K) (F := F1) (lo := 0) (n := j.toNat)
      simp only [Int.zero_add] at z
      exact z
    · cases e
  · cases e
theorem di_range2 {b : Expr} {p : Pos} (hg : Gl X "range") (hm : X.mg "range" = none) (ha : DA X e0 W [a, b] ga) (hs : starEach [a, b] X.env = [(false, eval a X.env), (false, eval b X.env)] := by rfl) (hs2 : starEach [b] X.env = [(false, eval b X.env)] := by rfl) :
    DI X e0 W tg (.Call (.Name "range" p) [a, b] [] pos) (iCall rng2O ga) := by
  refine PI.weak (pi_range2 hg hm ha hs hs2) fun σ H R ⟨E, F, S, h⟩ => rdG_intro S (h.bind fun ds vs E1 F1 H1 G1 S1 R1 h1 => ?_)
  obtain ⟨items, e, h3⟩ := h1.opt
  unfold rng2O at e
  split at e
  · rename_i i j
    split at e
    · rename_i hj
      cases e
      simp only [RepL, Rep] at R1
      obtain ⟨v, ws, e1, e2, v', ws', e3, e4, e5⟩ := R1
      subst e1 e2 e3 e4 e5
      exact ⟨i, j, rfl, ⟨hj.1.1, hj.1.2, hj.2.1, hj.2.2⟩, h3 _ F1 H1 .refl S1 itr_ok⟩
    · cases e
  · cases e
theorem itc_ok {lo c : Int} {n : Nat} : ItOk K F ((List.range n).map fun k => D.int (lo + (k : Nat) * c)) (Itc lo c n) where
  go := fun i F1 H hi s1 s2 => by
    have hi' : i < n := by simpa using hi
    refine ⟨hi', fun x H2 y => ?_⟩
    obtain ⟨e, y⟩ := y
    subst e
    exact ⟨F1, .int (lo + i * c), by simp [hi'], .refl s2, by simp [Rep, y]⟩
  stop := fun i F1 H hi s1 s2 => by
    show n ≤ i
    simpa using hi
theorem di_range3 {b c : Expr} {p : Pos} (hg : Gl X "range") (hm : X.mg "range" = none) (ha : DA X e0 W [a, b, c] ga) (hs : starEach [a, b, c] X.env = (false, eval a X.env) :: starEach [b, c] X.env := by rfl) (hpl : (backTo pos (starEach [b, c] X.env)).any (·.1) = false := by rfl) :
    DI X e0 W tg (.Call (.Name "range" p) [a, b, c] [] pos) (iCall rng3O ga) := by
  refine PI.weak (pi_range3 hg hm ha hs hpl) fun σ H R ⟨E, F, S, h⟩ => rdG_intro S (h.bind fun ds vs E1 F1 H1 G1 S1 R1 h1 => ?_)
  obtain ⟨items, e, h3⟩ := h1.opt
  unfold rng3O at e
  split at e
  · rename_i i j c
    split at e
    · rename_i hj
      cases e
      simp only [RepL, Rep] at R1
      obtain ⟨v, ws, e1, e2, v', ws', e3, e4, v2, ws2, e5, e6, e7⟩ := R1
      subst e1 e2 e3 e4 e5 e6 e7
      exact ⟨i, j, c, _, rfl, ⟨hj.1, hj.2.1, hj.2.2.1, hj.2.2.2⟩, h3 _ F1 H1 .refl S1 itc_ok⟩
    · cases e
  · cases e
theorem zip_get {xs ys : List D} {i : Nat} {x y : D} (h : ((xs.zip ys).map fun p => D.tup [p.1, p.2])[i]? = some (.tup [x, y])) : xs[i]? = some x ∧ ys[i]? = some y := by
  rw [List.getElem?_map] at h
  cases q : (xs.zip ys)[i]? with
  | none => rw [q] at h; cases h
  | some p =>
    rw [q] at h
    simp at h
    obtain ⟨h1, h2⟩ := h
    rw [List.getElem?_zip_eq_some] at q
    rw [← h1, ← h2]
    exact q
theorem di_zip {b : Expr} {p : Pos} {elts : List Expr} {kk : Nat} (hg : Gl X "zip") (hm : X.mg "zip" = none) (ha : DA X e0 W [a, b] ga)
    (hs : starEach [a, b] X.env = (false, eval a X.env) :: starEach [b] X.env := by rfl) (hpl : (backTo pos (starEach [b] X.env)).any (·.1) = false := by rfl) :
    DI X e0 W (.Tuple elts kk tpos) (.Call (.Name "zip" p) [a, b] [] pos) (iCall zipO ga) := by
  refine PI.weak (RZ.pi_zipA hg hm ha hs hpl) fun σ H R ⟨E, F, S, h⟩ => rdG_intro S (h.bind fun ds vs E1 F1 H1 G1 S1 R1 h1 => ?_)
  obtain ⟨items, e, h3⟩ := h1.opt
  have al : ∀ {F1 H : Hp} {T : Addr} {x y : V} {dx dy : D}, Same F1 H → H T = none → Rep X.K F1 dx x → Rep X.K F1 dy y → ∃ F2 d, some (D.tup [dx, dy]) = some d ∧ Alloc F1 H F2 (upd H T (.tup [x, y])) ∧ Rep X.K F2 d (.ref T) := fun {F1 H T x y dx dy} s n r1 r2 => by
    refine ⟨_, _, rfl, .new s n, ?_⟩
    have z : Same F1 (upd F1 T (.tup [x, y])) := same_upd (fresh_F s n)
    simp only [Rep, RepL]
    exact ⟨T, [x, y], rfl, .inl upd_same, x, [y], rfl, Rep.mono z _ _ r1, y, [], rfl, Rep.mono z _ _ r2, rfl⟩
  unfold zipO at e
  split at e
  · rename_i xs ys
    cases e
    simp only [RepL, Rep] at R1
    obtain ⟨v, ws, e1, ⟨p1, vs1, e2, h4', r1⟩, v', ws', e3, ⟨p2, vs2, e4, h5', r2⟩, e5⟩ := R1
    have h4 : SqL X.K F1 p1 vs1 := Evl.sq_of h4'
    have h5 : SqL X.K F1 p2 vs2 := Evl.sq_of h5'
    subst e1 e2 e3 e4 e5
    refine ⟨p1, p2, vs1, vs2, rfl, .inl ⟨seqL S1.sub h4, seqL S1.sub h5, h3 _ F1 H1 .refl S1 ⟨fun i F2 H2 hi s1 s2 => ?_, fun i F2 H2 hi s1 s2 => ?_⟩⟩⟩
    · have hz : i < min xs.length ys.length := by simpa using hi
      have hi' : i < xs.length ∧ i < ys.length := ⟨by omega, by omega⟩
      have k1 : i < vs1.length := by rw [← r1.length]; exact hi'.1
      have k2 : i < vs2.length := by rw [← r2.length]; exact hi'.2
      refine ⟨⟨vs1, vs2, vs1[i], vs2[i], seqL s2 (seqL s1 h4), seqL s2 (seqL s1 h5), by simp [k1], by simp [k2]⟩, fun x H3 y => ?_⟩
      obtain ⟨T, x1, y1, ex, hT, eH, g1, g2⟩ := y
      subst ex eH
      obtain ⟨d1, a1, b1⟩ := (RepL.mono s1 _ _ r1).getV (g1 vs1 (seqL s2 (seqL s1 h4)))
      obtain ⟨d2, a2, b2⟩ := (RepL.mono s1 _ _ r2).getV (g2 vs2 (seqL s2 (seqL s1 h5)))
      obtain ⟨F3, d, ed, A, R⟩ := al s2 hT b1 b2
      cases ed
      exact ⟨F3, _, by rw [List.getElem?_map, (List.getElem?_zip_eq_some (z := (d1, d2))).mpr ⟨a1, a2⟩]; rfl, A, R⟩
    · refine ⟨vs1, vs2, seqL s2 (seqL s1 h4), seqL s2 (seqL s1 h5), ?_⟩
      rw [← r1.length, ← r2.length]
      have : min xs.length ys.length ≤ i := by simpa using hi
      omega
  · rename_i xs ys
    cases e
    simp only [RepL, Rep] at R1
    obtain ⟨v, ws, e1, ⟨p1, vs1, e2, h4', r1⟩, v', ws', e3, ⟨p2, vs2, e4, h5', r2⟩, e5⟩ := R1
    have h4 := h4'.sq
    have h5 := h5'.sq
    subst e1 e2 e3 e4 e5
    refine ⟨p1, p2, vs1, vs2, rfl, .inr ⟨seqT S1.sub h4, seqT S1.sub h5, h3 _ F1 H1 .refl S1 ⟨fun i F2 H2 hi s1 s2 => ?_, fun i F2 H2 hi s1 s2 => ?_⟩⟩⟩
    · have hz : i < min xs.length ys.length := by simpa using hi
      have hi' : i < xs.length ∧ i < ys.length := ⟨by omega, by omega⟩
      have k1 : i < vs1.length := by rw [← r1.length]; exact hi'.1
      have k2 : i < vs2.length := by rw [← r2.length]; exact hi'.2
      refine ⟨⟨vs1, vs2, vs1[i], vs2[i], seqT s2 (seqT s1 h4), seqT s2 (seqT s1 h5), by simp [k1], by simp [k2]⟩, fun x H3 y => ?_⟩
      obtain ⟨T, x1, y1, ex, hT, eH, g1, g2⟩ := y
      subst ex eH
      obtain ⟨d1, a1, b1⟩ := (RepL.mono s1 _ _ r1).getV (g1 vs1 (seqT s2 (seqT s1 h4)))
      obtain ⟨d2, a2, b2⟩ := (RepL.mono s1 _ _ r2).getV (g2 vs2 (seqT s2 (seqT s1 h5)))
      obtain ⟨F3, d, ed, A, R⟩ := al s2 hT b1 b2
      cases ed
      exact ⟨F3, _, by rw [List.getElem?_map, (List.getElem?_zip_eq_some (z := (d1, d2))).mpr ⟨a1, a2⟩]; rfl, A, R⟩
    · refine ⟨vs1, vs2, seqT s2 (seqT s1 h4), seqT s2 (seqT s1 h5), ?_⟩
      rw [← r1.length, ← r2.length]
      have : min xs.length ys.length ≤ i := by simpa using hi
      omega
  · cases e
end
end Dn

set_option Elab.async false
set_option linter.all false
set_option maxRecDepth 100000
set_option maxHeartbeats 4000000
namespace Dn
open PySem L2

/-! ### for -/
def sLoop (t : Tg) (b : Ss) : List D → Ss
  | [] => fun E => .nx E
  | d :: ds => fun E => match t d E with
    | some E1 => (match b E1 with
      | .nx E2 => sLoop t b ds E2
      | .ct E2 => sLoop t b ds E2
      | .bk E2 => .nx E2
      | r => r)
    | none => .bad
def sFor (f : SeL) (t : Tg) (b : Ss) : Ss := fun E => (f E).then fun items E1 => sLoop t b items E1
/-! ### comprehensions -/
def wipeE (E : Sto) : List Nat → Sto
  | [] => E
  | v :: vs => (wipeE E vs).set v .un
def sComp (t : Tg) (tst : SeB) (el : Se) (vs : List Nat) : List D → Sto → Option (List D × Sto)
  | [], E => some ([], E)
  | d :: ds, E => match t d E with
    | none => none
    | some E1 => (match tst E1 with
      | .ok true E2 => (match el E2 with
        | .ok y E3 => (match sComp t tst el vs ds (wipeE E3 vs) with
          | some (ys, E4) => some (y :: ys, E4)
          | none => none)
        | _ => none)
      | .ok false E2 => sComp t tst el vs ds (wipeE E2 vs)
      | _ => none)
def sLc (f : SeL) (t : Tg) (tst : SeB) (el : Se) (vs : List Nat) : SeL := fun E => (f E).bind fun items E1 => match sComp t tst el vs items (wipeE E1 vs) with
  | some (ys, E2) => if ys.length ≤ 1000000 then .ok ys E2 else .bad
  | none => .bad
def bYes : SeB := fun E => .ok true E

theorem wipeE_length (E : Sto) : ∀ vs, (wipeE E vs).length = E.length
  | [] => rfl
  | v :: vs => by simp [wipeE, wipeE_length E vs]
theorem wipeE_out {E : Sto} {j : Nat} : ∀ {vs : List Nat}, j ∉ vs → (wipeE E vs)[j]? = E[j]?
  | [], _ => rfl
  | v :: vs, h => by
    show ((wipeE E vs).set v .un)[j]? = E[j]?
    rw [List.getElem?_set_ne (fun e => h (by simp [e]))]
    exact wipeE_out fun z => h (List.mem_cons_of_mem _ z)
theorem wipeE_in {E : Sto} {j : Nat} {s : Sl} : ∀ {vs : List Nat}, j ∈ vs → (wipeE E vs)[j]? = some s → s = .un
  | [], h, _ => by simp at h
  | v :: vs, h, e => by
    have e' : ((wipeE E vs).set v .un)[j]? = some s := e
    by_cases hj : v = j
    · subst hj
      have hi : v < (wipeE E vs).length := by
        have := (List.getElem?_eq_some_iff.mp e').1
        simpa using this
      rw [List.getElem?_set_self hi] at e'
      cases e'
      rfl
    · rw [List.getElem?_set_ne hj] at e'
      refine wipeE_in (E := E) (vs := vs) ?_ e'
      rcases List.mem_cons.mp h with z | z
      · exact (hj z.symm).elim
      · exact z
theorem wipe_wipe {σ : St} {vs : List Nat} : wipe (wipe σ vs) vs = wipe σ vs := Chg.wipe (is := vs) ⟨wipe_length σ vs, fun j h => wipe_out h⟩ fun _ h => h
section
variable {K : PySem.W.Frag} {e0 : E0} {W : WX} {σ τ : St} {E E1 E2 : Sto} {F F1 F2 H H1 H2 : Hp} {vs : List Nat}
theorem own_wipe {i : Nat} {p : Addr} (h : Own H (wipe σ vs) (wipeE E vs) i p) : Own H σ E i p ∧ i ∉ vs := by
  unfold Own at h ⊢
  by_cases hi : i ∈ vs
  · cases e : (wipeE E vs)[i]? with
    | none => simp [e] at h
    | some s =>
      have q := wipeE_in hi e
      subst q
      simp [e] at h
  · rw [wipeE_out hi, wipe_out hi] at h
    exact ⟨h, hi⟩
theorem SI.wipe (S : SI K e0 F H σ E) (vs : List Nat) : SI K e0 F H (L2.wipe σ vs) (wipeE E vs) := by
  refine ⟨by rw [wipe_length, wipeE_length]; exact S.len, S.sub, fun j s hs => ?_, fun a b q h1 h2 => S.apart a b q (own_wipe h1).1 (own_wipe h2).1, S.f0, S.h0, S.nf, fun j q h => ?_, S.dm⟩
  · by_cases hj : j ∈ vs
    · rw [wipeE_in hj hs]
      trivial
    · rw [wipeE_out hj] at hs
      rw [wipe_out hj]
      exact S.rel j s hs
  · obtain ⟨h1, h2⟩ := own_wipe h
    rw [wipeE_out h2]
    exact S.ow j q h1
/-- back to the slots as they were -/
theorem SI.unwipe (S : SI K e0 F H (L2.wipe σ vs) E) (hu : ∀ j ∈ vs, ∀ s, E[j]? = some s → s = .un) : SI K e0 F H σ E := by
  have own : ∀ i p, Own H σ E i p → Own H (L2.wipe σ vs) E i p := fun i p h => by
    have hi : i ∉ vs := fun z => by
      unfold Own at h
      cases e : E[i]? with
      | none => simp [e] at h
      | some s =>
        have q := hu i z s e
        subst q
        simp [e] at h
    unfold Own at h ⊢
    rw [wipe_out hi]
    exact h
  refine ⟨by rw [← S.len, wipe_length], S.sub, fun j s hs => ?_, fun a b q h1 h2 => S.apart a b q (own a q h1) (own b q h2), S.f0, S.h0, S.nf, fun j q h => S.ow j q (own j q h), S.dm⟩
  by_cases hj : j ∈ vs
  · rw [hu j hj s hs]
    trivial
  · have r := S.rel j s hs
    rw [wipe_out hj] at r
    exact r
theorem own_unwipe (hu : ∀ j ∈ vs, ∀ s, E[j]? = some s → s = .un) {i : Nat} {p : Addr} (h : Own H σ E i p) : Own H (L2.wipe σ vs) E i p := by
  have hi : i ∉ vs := fun z => by
    unfold Own at h
    cases e : E[i]? with
    | none => simp [e] at h
    | some s =>
      have q := hu i z s e
      subst q
      simp [e] at h
  unfold Own at h ⊢
  rw [wipe_out hi]
  exact h
theorem own_tgt {is : List Nat} {σ' : St} {E' : Sto} (c : Chg is σ σ') (e : StoChg is E E') {i : Nat} {p : Addr} (h : Own H σ' E' i p) : Own H σ E i p := by
  unfold Own at h ⊢
  by_cases hi : i ∈ is
  · cases q : E'[i]? with
    | none => simp [q] at h
    | some s =>
      obtain ⟨d, hd⟩ := e.2.2 i hi s q
      subst hd
      simp [q] at h
  · rw [e.2.1 i hi, c.2 i hi] at h
    exact h
/-- something that nobody here holds is changed -/
theorem own_mut (S : SI K e0 F H σ E) {p : Addr} {o : HO} (n : ∀ i, ¬ Own H σ E i p) {i : Nat} {q : Addr} : Own (upd H p o) σ E i q ↔ Own H σ E i q := by
  have key : ∀ rows, E[i]? = some (.mx rows) → ∃ (q0 : Addr) (ps : List Addr), σ[i]? = some (some (.ref q0)) ∧ H q0 = some (.lst (ps.map V.ref)) ∧ q0 ≠ p := fun rows e => by
    obtain ⟨q0, ps, e1, h1, _⟩ := S.rel i _ e
    refine ⟨q0, ps, e1, h1, fun z => ?_⟩
    subst z
    refine n i ?_
    unfold Own
    rw [e]
    exact ⟨q0, ps, e1, h1, .inl rfl⟩
  unfold Own
  cases e : E[i]? with
  | none => exact Iff.rfl
  | some s =>
    cases s with
    | mx rows =>
      obtain ⟨q0, ps, e1, h1, ne⟩ := key rows e
      constructor
      · rintro ⟨q', ps', e2, h2, hp⟩
        rw [e1] at e2
        cases e2
        rw [upd_ne ne] at h2
        exact ⟨q0, ps', e1, h2, hp⟩
      · rintro ⟨q', ps', e2, h2, hp⟩
        rw [e1] at e2
        cases e2
        exact ⟨q0, ps', e1, by rw [upd_ne ne]; exact h2, hp⟩
    | _ => exact Iff.rfl
theorem SI.mut (S : SI K e0 F H σ E) {p : Addr} {o : HO} (f : F p = none) (n : ∀ i, ¬ Own H σ E i p) (ne : e0.H p = none) : SI K e0 F (upd H p o) σ E where
  len := S.len
  sub := fun b u e => by
    have : b ≠ p := fun z => by
      subst z
      rw [f] at e
      cases e
    rw [upd_ne this]
    exact S.sub b u e
  rel := fun j s hs => by
    have r := S.rel j s hs
    have nn : ∀ q, Own H σ E j q → q ≠ p := fun q h z => by
      subst z
      exact n j h
    cases s with
    | un => trivial
    | vl d => exact r
    | ow ys =>
      obtain ⟨p', vs', h1, h2, h3, h4⟩ := r
      exact ⟨p', vs', h1, by rw [upd_ne (nn p' (own_of_slot hs h1))]; exact h2, h3, h4⟩
    | st ys =>
      obtain ⟨p', vs', h1, h2, h3, h4⟩ := r
      exact ⟨p', vs', h1, by rw [upd_ne (nn p' (own_of_slot hs h1))]; exact h2, h3, h4⟩
    | nw c ys =>
      obtain ⟨p', dx, vs', h1, h2, h3, h4⟩ := r
      exact ⟨p', dx, vs', h1, by rw [upd_ne (nn p' (own_of_slot hs h1))]; exact h2, h3, h4⟩
    | mx rows =>
      obtain ⟨q0, ps, h1, h2, h3, h4, h5, h6, h7⟩ := r
      refine ⟨q0, ps, h1, by rw [upd_ne (nn q0 (own_of_slot hs ⟨q0, ps, h1, h2, .inl rfl⟩))]; exact h2, h3, h4, h5, h6, fun k p' r' a1 a2 => ?_⟩
      obtain ⟨b1, vs', b2, b3⟩ := h7 k p' r' a1 a2
      exact ⟨b1, vs', by rw [upd_ne (nn p' (own_of_slot hs ⟨q0, ps, h1, h2, .inr (List.mem_of_getElem? a1)⟩))]; exact b2, b3⟩
  apart := fun a b q h1 h2 => S.apart a b q ((own_mut S n).mp h1) ((own_mut S n).mp h2)
  f0 := S.f0
  h0 := fun b u e m => by
    have : b ≠ p := fun z => by
      subst z
      rw [ne] at e
      cases e
    rw [upd_ne this]
    exact S.h0 b u e m
  nf := S.nf
  ow := fun i q h => S.ow i q ((own_mut S n).mp h)
  dm := fun b h => by
    by_cases hb : b = p
    · subst hb
      rw [upd_same]
      exact fun z => nomatch z
    · rw [upd_ne hb]
      exact S.dm b h
theorem PostF.rebase {r : Out (List D)} {Q : VK} (g : Grow σ E F H E1 F1 H1) (h : PostF K e0 W σ E F H r Q) : PostF K e0 W σ E1 F1 H1 r Q := by
  cases r with
  | ok a E' => exact fun p vs F' H' g' s h1 h2 h3 h4 => h p vs F' H' (g.trans g') s (g.back h1) h2 h3 h4
  | ex x E' => exact fun c d F' H' g' s r => h c d F' H' (g.trans g') s r
  | bad => exact h
theorem PostF.bind {γ δ : Type} {rep1 : Hp → γ → δ → Prop} {r : Out γ} {g : γ → Sto → Out (List D)} {Q : VK} {Q1 : δ → Hp → Prop} (h : PostF K e0 W σ E F H (r.bind g) Q)
    (k : ∀ a b E1 F1 H1, Grow σ E F H E1 F1 H1 → SI K e0 F1 H1 σ E1 → rep1 F1 a b → PostF K e0 W σ E1 F1 H1 (g a E1) Q → Q1 b H1) : Post K e0 W rep1 σ E F H r Q1 := by
  cases r with
  | ok a E' => exact fun b F' H' g' s r => k a b E' F' H' g' s r (PostF.rebase g' h)
  | ex x E' => exact fun c d F' H' g' s r => h c d F' H' g' s r
  | bad => exact h
/-- what an expression's reading asks where it is known what comes out -/
theorem Post.ok {α β : Type} {rep : Hp → α → β → Prop} {r : Out α} {a : α} {Q : β → Hp → Prop} (e : r = .ok a E1) (h : ∀ b F' H', Grow σ E F H E1 F' H' → SI K e0 F' H' σ E1 → rep F' a b → Q b H') : Post K e0 W rep σ E F H r Q := by
  subst e
  exact h
end

section
variable {X : Cx} {e0 : E0} {W : WX} {tg iter : Expr} {f : SeL} {t : Tg} {is : List Nat} {body : List Stmt} {b : Ss} {pos : Pos}
theorem ds_for (hp : PassesOwn (model X.prog X.w) X.A X.env X.xe) (hc : X.calm = true) (hi : DI X e0 W tg iter f) (hg : DG X e0 is tg t) (hb : DSs X e0 W body b) (hs : ∀ x, foldedSetIterable iter X.env x = pure x := by intro _; rfl) :
    DS X e0 W (.For tg iter body [] pos) (sFor f t b) := by
  refine PS.weak (ps_for hp hc hi hg.pg hb hs) fun D σ H ⟨E, F, S, h⟩ => rdG_intro S (PostS.bind (D := D) h fun items J E1 F1 H1 G1 S1 R1 h1 => ?_)
  refine ⟨fun i m σ H => m = items.length - i ∧ i ≤ items.length ∧ ∃ E F, Same F1 F ∧ SI X.K e0 F H σ E ∧ PostS X.K e0 W F (sLoop t b (items.drop i) E) D, ⟨items.length, by simp, Nat.zero_le _, E1, F1, fun _ _ h => h, S1, by simpa using h1⟩, ?_⟩
  rintro i m σ H ⟨rfl, hi, E, F, s, S, h⟩
  by_cases hlt : i < items.length
  · refine .inr ⟨(R1.go i F H hlt s S.sub).1, fun σ' H' => ∃ E F, Same F1 F ∧ SI X.K e0 F H' σ' E ∧ PostS X.K e0 W F (sLoop t b (items.drop (i + 1)) E) D, fun σ' H' q => ⟨items.length - (i + 1), by omega, rfl, hlt, q⟩, fun x H2 y => ?_⟩
    obtain ⟨F2, d, ed, al, r⟩ := (R1.go i F H hlt s S.sub).2 x H2 y
    have S2 := S.alloc al
    have dr : items.drop i = d :: items.drop (i + 1) := by
      obtain ⟨hl, e⟩ := List.getElem?_eq_some_iff.mp ed
      rw [List.drop_eq_getElem_cons hl, e]
    rw [dr] at h
    unfold sLoop at h
    cases q : t d E with
    | none =>
      simp only [q] at h
      exact h.elim
    | some E' =>
      simp only [q] at h
      refine ⟨E, F2, d, E', S2, r, q, fun σ' c S' => ⟨E', F2, S', ?_⟩⟩
      have s2 : Same F1 F2 := Same.tr s al.sF
      cases e : b E' with
      | nx E2 =>
        simp only [e] at h
        exact fun σ3 F3 H3 s3 S3 => ⟨E2, F3, Same.tr s2 s3, S3, PostS.rebase (Same.tr al.sF s3) h⟩
      | ct E2 =>
        simp only [e] at h
        exact fun σ3 F3 H3 s3 S3 => ⟨E2, F3, Same.tr s2 s3, S3, PostS.rebase (Same.tr al.sF s3) h⟩
      | bk E2 =>
        simp only [e] at h
        exact fun σ3 F3 H3 s3 S3 => h σ3 F3 H3 (Same.tr al.sF s3) S3
      | rt r E2 =>
        simp only [e] at h
        exact h
      | ex x E2 =>
        simp only [e] at h
        exact h
      | bad =>
        simp only [e] at h
        exact h
  · have e : items.drop i = [] := List.drop_eq_nil_of_le (by omega)
    rw [e] at h
    exact .inl ⟨R1.stop i F H (by omega) s S.sub, h σ F H (fun _ _ h => h) S⟩

theorem dx_tYes {X : Cx} : ∀ σ H Q, rdB X.K e0 W bYes σ H Q → tYes σ H Q := fun σ H Q ⟨E, F, S, h⟩ => h.fin0 S rfl
theorem lc_rd {K : PySem.W.Frag} {g : TG} {tt : TT} {te : TE} {vs : List Nat} {tst : SeB} {el : Se} {wi : TI} {W1 : WX}
    (hw : ∀ σ H R, rdI K e0 W f σ H R → wi σ H R) (hg : ∀ v σ H Q, rdT K e0 is t v σ H Q → g v σ H Q) (hch : ∀ d E E', t d E = some E' → StoChg is E E') (hiv : ∀ i ∈ is, i ∈ vs)
    (ht : ∀ σ H Q, rdB K e0 W1 tst σ H Q → tt σ H Q) (he : ∀ σ H Q, rd K e0 W1 el σ H Q → te σ H Q) {σ : St} {H : Hp} {Q : VK} (h : rdF K e0 W (sLc f t tst el vs) σ H Q) : tLc wi g tt te vs σ H Q := by
  obtain ⟨E, F, S, h⟩ := h
  refine hw σ H _ (rdG_intro S (PostF.bind h fun items J E1 F1 H1 G1 S1 R1 h1 => fun Dd hD => ?_))
  have hD0 : e0.H Dd = none := S1.fresh0 hD
  have fD : F1 Dd = none := fresh_F S1.sub hD
  have nD : ∀ i, ¬ Own H1 σ E1 i Dd := fun i o => by
    obtain ⟨u, e, _⟩ := own_some S1 o
    rw [hD] at e
    cases e
  cases hq : sComp t tst el vs items (wipeE E1 vs) with
  | none =>
    simp only [hq] at h1
    exact h1.elim
  | some r =>
    obtain ⟨out, E2⟩ := r
    simp only [hq] at h1
    by_cases hl : out.length ≤ 1000000
    · rw [if_pos hl] at h1
      refine ⟨fun i m H => m = items.length - i ∧ i ≤ items.length ∧ ∃ E F acc accV ys, SI K e0 F H (wipe σ vs) E ∧ Grow (wipe σ vs) (wipeE E1 vs) F1 H1 E F H ∧ H Dd = some (.lst accV) ∧ F Dd = none ∧ RepL K F acc accV ∧ (∀ j ∈ vs, ∀ s, E[j]? = some s → s = .un) ∧
        sComp t tst el vs (items.drop i) E = some (ys, E2) ∧ acc ++ ys = out, ?_, ?_⟩
      · refine ⟨items.length, by simp, Nat.zero_le _, wipeE E1 vs, F1, [], [], out, ?_, ?_, upd_same, fD, .nil, fun j hj s hs => wipeE_in hj hs, by simpa using hq, by simp⟩
        · exact (S1.wipe vs).alloc (Alloc.newH S1.sub hD)
        · exact (S1.wipe vs).grow (Alloc.newH S1.sub hD)
      · rintro i m H ⟨rfl, hi, E, F, acc, accV, ys, S2, G2, eD, fD2, rA, hu, hc, ho⟩
        by_cases hlt : i < items.length
        · refine .inr ⟨(R1.go i F H hlt G2.sF S2.sub).1, fun H' => ∃ E F acc accV ys, SI K e0 F H' (wipe σ vs) E ∧ Grow (wipe σ vs) (wipeE E1 vs) F1 H1 E F H' ∧ H' Dd = some (.lst accV) ∧ F Dd = none ∧ RepL K F acc accV ∧ (∀ j ∈ vs, ∀ s, E[j]? = some s → s = .un) ∧
            sComp t tst el vs (items.drop (i + 1)) E = some (ys, E2) ∧ acc ++ ys = out, fun H' q => ⟨items.length - (i + 1), by omega, rfl, hlt, q⟩, fun x Hx y => ?_⟩
          obtain ⟨Fx, d, ed, al, r⟩ := (R1.go i F H hlt G2.sF S2.sub).2 x Hx y
          have S3 := S2.alloc al
          have dr : items.drop i = d :: items.drop (i + 1) := by
            obtain ⟨hl, e⟩ := List.getElem?_eq_some_iff.mp ed
            rw [List.drop_eq_getElem_cons hl, e]
          rw [dr] at hc
          unfold sComp at hc
          have nD2 : ∀ i, ¬ Own H (wipe σ vs) E i Dd := fun i o => nD i (own_wipe (G2.own i Dd o)).1
          cases q : t d E with
          | none => simp [q] at hc
          | some E' =>
            simp only [q] at hc
            refine hg x _ _ _ ⟨E, Fx, d, E', S3, r, q, fun σ' c S' => ⟨by rw [c.wipe hiv, wipe_wipe], ?_⟩⟩
            have hτ : wipe σ' vs = wipe σ vs := by rw [c.wipe hiv, wipe_wipe]
            have ch := hch d E E' q
            have fx : Fx Dd = none := al.nf Dd (by rw [eD]; exact fun z => nomatch z) fD2
            have eDx : Hx Dd = some (.lst accV) := al.sH _ _ eD
            have nDx : ∀ i, ¬ Own Hx σ' E' i Dd := fun i o => nD2 i ((own_alloc S2 al.sH i Dd).mp (own_tgt c ch o))
            -- behind the element or the test: all that a turn has to keep
            have carry : ∀ (E3 : Sto) (F3 H3 : Hp), Grow σ' E' Fx Hx E3 F3 H3 → SI K e0 F3 H3 σ' E3 → SI K e0 F3 H3 (wipe σ vs) (wipeE E3 vs) ∧ Grow (wipe σ vs) (wipeE E1 vs) F1 H1 (wipeE E3 vs) F3 H3 ∧ H3 Dd = some (.lst accV) ∧ F3 Dd = none ∧ RepL K F3 acc accV ∧
                (∀ j ∈ vs, ∀ s, (wipeE E3 vs)[j]? = some s → s = .un) ∧ ∀ i, ¬ Own H3 σ' E3 i Dd := fun E3 F3 H3 g S4 => by
              have back : ∀ i p, Own H3 σ' E3 i p → Own H (wipe σ vs) E i p := fun i p o => (own_alloc S2 al.sH i p).mp (own_tgt c ch (g.own i p o))
              refine ⟨by rw [← hτ]; exact S4.wipe vs, ⟨Same.tr G2.sF (Same.tr al.sF g.sF), fun b o e n => ?_, fun b e f n => ?_, fun b e => g.dm b (?_ : Hx b ≠ none), fun i p o => ?_⟩, g.keep _ _ eDx nDx, g.nf _ (by rw [eDx]; exact fun z => nomatch z) fx nDx,
                RepL.mono (Same.tr al.sF g.sF) _ _ rA, fun j hj s hs => wipeE_in hj hs, fun i o => nD2 i (back i Dd o)⟩
              · refine g.keep b o (al.sH b o (G2.keep b o e n)) fun i o' => n i (G2.own i b ((own_alloc S2 al.sH i b).mp (own_tgt c ch o')))
              · exact g.nf b (fun z => G2.dm b e (by
                  cases w : H b with
                  | none => rfl
                  | some u => rw [al.sH b u w] at z; cases z)) (al.nf b (G2.dm b e) (G2.nf b e f n)) fun i o' => n i (G2.own i b ((own_alloc S2 al.sH i b).mp (own_tgt c ch o')))
              · exact fun z => G2.dm b e (by
                  cases w : H b with
                  | none => rfl
                  | some u => rw [al.sH b u w] at z; cases z)
              · rw [← hτ] at o
                exact G2.own i p (back i p (own_wipe o).1)
            cases e2 : tst E' with
            | ok bb E3 =>
              simp only [e2] at hc
              refine ht _ _ _ ⟨E', Fx, S', Post.ok e2 fun b' F3 H3 G3 S4 rb => ?_⟩
              subst rb
              cases bb with
              | false =>
                simp only [Bool.false_eq_true, if_false]
                obtain ⟨c1, c2, c3, c4, c5, c6, _⟩ := carry E3 F3 H3 G3 S4
                exact ⟨wipeE E3 vs, F3, acc, accV, ys, c1, c2, c3, c4, c5, c6, hc, ho⟩
              | true =>
                simp only [if_true]
                cases e3 : el E3 with
                | ok y' E4 =>
                  simp only [e3] at hc
                  refine he _ _ _ ⟨E3, F3, S4, Post.ok e3 fun v F4 H4 G4 S5 rv => ?_⟩
                  obtain ⟨c1, c2, c3, c4, c5, c6, c7⟩ := carry E4 F4 H4 (G3.trans G4) S5
                  cases e4 : sComp t tst el vs (items.drop (i + 1)) (wipeE E4 vs) with
                  | none => simp [e4] at hc
                  | some r2 =>
                    obtain ⟨ys2, E5⟩ := r2
                    simp only [e4, Option.some.injEq, Prod.mk.injEq] at hc
                    obtain ⟨h6, h7⟩ := hc
                    subst h6 h7
                    have hlen : acc.length < 1000000 := by
                      have := congrArg List.length ho
                      simp at this
                      omega
                    refine ⟨accV, c3, Nat.lt_of_lt_of_le (by rw [← c5.length]; exact hlen) (by decide), ?_⟩
                    have c8 : ∀ i, ¬ Own H4 (wipe σ vs) (wipeE E4 vs) i Dd := fun i o => by
                      rw [← hτ] at o
                      exact c7 i (own_wipe o).1
                    refine ⟨wipeE E4 vs, F4, acc ++ [y'], accV ++ [v], ys2, c1.mut c4 c8 hD0, ⟨c2.sF, fun b o e n => ?_, c2.nf, fun b e => ?_, fun i p o => c2.own i p ((own_mut c1 c8).mp o)⟩, upd_same, c4, c5.snoc rv, c6, e4, by simpa using ho⟩
                    · have : b ≠ Dd := fun z => by
                        subst z
                        rw [hD] at e
                        cases e
                      rw [upd_ne this]
                      exact c2.keep b o e n
                    · by_cases hb : b = Dd
                      · subst hb
                        rw [upd_same]
                        exact fun z => nomatch z
                      · rw [upd_ne hb]
                        exact c2.dm b e
                | ex x E4 => simp [e3] at hc
                | bad => simp [e3] at hc
            | ex x E3 => simp [e2] at hc
            | bad => simp [e2] at hc
        · have e : items.drop i = [] := List.drop_eq_nil_of_le (by omega)
          rw [e] at hc
          unfold sComp at hc
          simp only [Option.some.injEq, Prod.mk.injEq] at hc
          obtain ⟨h6, h7⟩ := hc
          subst h6 h7
          have ho' : acc = out := by simpa using ho
          subst ho'
          refine .inl ⟨R1.stop i F H (by omega) G2.sF S2.sub, h1 Dd accV F H ⟨G2.sF, fun b o e n => G2.keep b o e fun i o' => n i (own_wipe o').1, fun b e f n => G2.nf b e f fun i o' => n i (own_wipe o').1, G2.dm, fun i p o => (own_wipe (G2.own i p (own_unwipe hu o))).1⟩ (S2.unwipe hu) hD fD2 eD rA⟩
    · rw [if_neg hl] at h1
      exact h1.elim
theorem df_lc {elt : Expr} {ifs : List Expr} {scope : Scope} {own : List (Str × Nat)} {tst : SeB} {el : Se} (hc : X.calm = true) (hN : X.N.Nodup) (hi : DI X e0 W tg iter f) (ok : BlkOk X.N X.env.scope scope own)
    (hg : ∀ (s : Shared) (H : Hp) (C : Addr) (cl : List (Str × Addr)) (fp : List Addr), DG (X.blk s H scope (compEnvC scope cl C X.env) fp) e0 is tg t) (hiv : ∀ i ∈ is, i ∈ own.map (·.2))
    (ht : ∀ (s : Shared) (H : Hp) (C : Addr) (cl : List (Str × Addr)) (fp : List Addr), PTs (X.blk s H scope (compEnvC scope cl C X.env) fp) ifs (rdB X.K e0 (fun _ _ _ _ => False) tst))
    (he : ∀ (s : Shared) (H : Hp) (C : Addr) (cl : List (Str × Addr)) (fp : List Addr), DX (X.blk s H scope (compEnvC scope cl C X.env) fp) e0 (fun _ _ _ _ => False) elt el) (hs : ∀ x, foldedSetIterable iter X.env x = pure x := by intro _; rfl) :
    DF X e0 W (.ListComp elt [⟨tg, iter, ifs, 0⟩] scope pos) (sLc f t tst el (own.map (·.2))) :=
  PE.weak (pe_lc (te := rd X.K e0 (fun _ _ _ _ => False) el) (g := rdT X.K e0 is t) hc hN hi ok (fun s H C cl fp => (hg s H C cl fp).pg) ht he hs) fun σ H Q h => lc_rd (W1 := fun _ _ _ _ => False) (fun _ _ _ z => z) (fun _ _ _ _ z => z) (hg X.s_0 X.H_0 0 [] []).chg hiv (fun _ _ _ z => z) (fun _ _ _ z => z) h
theorem ds_ownLc {i : Nat} {y : Str} {py : Pos} {spos : Pos} {elt : Expr} {ifs : List Expr} {scope : Scope} {own : List (Str × Nat)} {tst : SeB} {el : Se} (hc : X.calm = true) (hN : X.N.Nodup) (hy : X.N[i]? = some y) (hyl : X.env.scope.names.lookup y = some .local)
    (hsw : swapsWith (.ListComp elt [⟨tg, iter, ifs, 0⟩] scope pos) (some (.Name y py)) spos.line X.env = pure true) (hi : DI X e0 W tg iter f) (ok : BlkOk X.N X.env.scope scope own)
    (hg : ∀ (s : Shared) (H : Hp) (C : Addr) (cl : List (Str × Addr)) (fp : List Addr), DG (X.blk s H scope (compEnvC scope cl C X.env) fp) e0 is tg t) (hiv : ∀ i ∈ is, i ∈ own.map (·.2))
    (ht : ∀ (s : Shared) (H : Hp) (C : Addr) (cl : List (Str × Addr)) (fp : List Addr), PTs (X.blk s H scope (compEnvC scope cl C X.env) fp) ifs (rdB X.K e0 (fun _ _ _ _ => False) tst))
    (he : ∀ (s : Shared) (H : Hp) (C : Addr) (cl : List (Str × Addr)) (fp : List Addr), DX (X.blk s H scope (compEnvC scope cl C X.env) fp) e0 (fun _ _ _ _ => False) elt el) (hs : ∀ x, foldedSetIterable iter X.env x = pure x := by intro _; rfl) :
    DS X e0 W (.Assign [.Name y py] (.ListComp elt [⟨tg, iter, ifs, 0⟩] scope pos) spos) (sOwn i (sLc f t tst el (own.map (·.2)))) :=
  PS.weak (ps_setLc (te := rd X.K e0 (fun _ _ _ _ => False) el) (g := rdT X.K e0 is t) hc hN hy hyl hsw hi ok (fun s H C cl fp => (hg s H C cl fp).pg) ht he hs) fun D σ H ⟨E, F, S, h⟩ => lc_rd (W1 := fun _ _ _ _ => False) (fun _ _ _ z => z) (fun _ _ _ _ z => z) (hg X.s_0 X.H_0 0 [] []).chg hiv (fun _ _ _ z => z) (fun _ _ _ z => z)
    ⟨E, F, S, PostS.bindF h fun xs p vs E1 F1 H1 G1 S1 h1 h2 h3 h4 h5 => h5 _ F1 H1 (fun _ _ h => h) (S1.setO i (G1.notOwn S h1) (S.fresh0 h1) h2 h3 h4)⟩
theorem ds_setLc {i : Nat} {y : Str} {py : Pos} {spos : Pos} {elt : Expr} {ifs : List Expr} {scope : Scope} {own : List (Str × Nat)} {tst : SeB} {el : Se} (hc : X.calm = true) (hN : X.N.Nodup) (hy : X.N[i]? = some y) (hyl : X.env.scope.names.lookup y = some .local)
    (hsw : swapsWith (.ListComp elt [⟨tg, iter, ifs, 0⟩] scope pos) (some (.Name y py)) spos.line X.env = pure true) (hi : DI X e0 W tg iter f) (ok : BlkOk X.N X.env.scope scope own)
    (hg : ∀ (s : Shared) (H : Hp) (C : Addr) (cl : List (Str × Addr)) (fp : List Addr), DG (X.blk s H scope (compEnvC scope cl C X.env) fp) e0 is tg t) (hiv : ∀ i ∈ is, i ∈ own.map (·.2))
    (ht : ∀ (s : Shared) (H : Hp) (C : Addr) (cl : List (Str × Addr)) (fp : List Addr), PTs (X.blk s H scope (compEnvC scope cl C X.env) fp) ifs (rdB X.K e0 (fun _ _ _ _ => False) tst))
    (he : ∀ (s : Shared) (H : Hp) (C : Addr) (cl : List (Str × Addr)) (fp : List Addr), DX (X.blk s H scope (compEnvC scope cl C X.env) fp) e0 (fun _ _ _ _ => False) elt el) (hs : ∀ x, foldedSetIterable iter X.env x = pure x := by intro _; rfl) :
    DS X e0 W (.Assign [.Name y py] (.ListComp elt [⟨tg, iter, ifs, 0⟩] scope pos) spos) (sSet i (sLs (sLc f t tst el (own.map (·.2))))) :=
  PS.weak (ps_setLc (te := rd X.K e0 (fun _ _ _ _ => False) el) (g := rdT X.K e0 is t) hc hN hy hyl hsw hi ok (fun s H C cl fp => (hg s H C cl fp).pg) ht he hs) fun D σ H ⟨E, F, S, h⟩ => lc_rd (W1 := fun _ _ _ _ => False) (fun _ _ _ z => z) (fun _ _ _ _ z => z) (hg X.s_0 X.H_0 0 [] []).chg hiv (fun _ _ _ z => z) (fun _ _ _ z => z)
    ⟨E, F, S, frozen S (PostS.bind (D := D) h fun d v E1 F1 H1 G1 S1 R1 h1 => h1 _ F1 H1 (fun _ _ h => h) (S1.set i R1))⟩
theorem dts_nil {X : Cx} {W : WX} : PTs X [] (rdB X.K e0 W bYes) := ⟨fun pins s σ H Q I h => pts_nil.run pins s σ H Q I (dx_tYes σ H Q h)⟩
theorem dts_one {X : Cx} {W : WX} {c : Expr} {g : SeB} (h : DT X e0 W c g) : PTs X [c] (rdB X.K e0 W g) := pts_one h
end
end Dn

set_option Elab.async false
set_option linter.all false
set_option maxRecDepth 100000
set_option maxHeartbeats 4000000
namespace Dn
open PySem PySem.Spec L2

inductive Rs where
  | ok (r : Rv) | ex (x : Xn) | bad
inductive Rs2 where
  | ok (r : Rv) (cs : List D) | bad
structure Fn where
  np : Nat
  run : List D → Rs
/-- a def whose first parameter is a list that it changes -/
structure Fn2 where
  np : Nat
  run : List D → List D → Rs2
def Fn.app (f : Fn) (ds : List D) : Rs := if ds.length = f.np then f.run ds else .bad
def Fn2.app (f : Fn2) (cs ds : List D) : Rs2 := if ds.length = f.np then f.run cs ds else .bad
def sto (n : Nat) (ds : List D) : Sto := ds.map .vl ++ List.replicate (n - ds.length) .un
def sto2 (n : Nat) (cs ds : List D) : Sto := .st cs :: sto (n - 1) ds
def mkFn (n np : Nat) (b : Ss) : Fn := ⟨np, fun ds => match b (sto n ds) with
  | .rt r _ => .ok r
  | .nx _ => .ok (.fz .non)
  | .ex x _ => .ex x
  | _ => .bad⟩
def mkFn2 (n np : Nat) (b : Ss) : Fn2 := ⟨np, fun cs ds => match b (sto2 n cs ds) with
  | .rt r E => (match (E[0]? : Option Sl) with
    | some (Sl.st cs') => .ok r cs'
    | _ => .bad)
  | .nx E => (match (E[0]? : Option Sl) with
    | some (Sl.st cs') => .ok (.fz .non) cs'
    | _ => .bad)
  | _ => .bad⟩
section
variable (K : PySem.W.Frag)
def PostP (F H : Hp) (r : Rs) (Q : VK) (E : XK) : Prop := match r with
  | .ok r => ∀ v F' H', Alloc F H F' H' → RepR K ⟨F, H, fun _ => False⟩ F' H' r v → Q v H'
  | .ex x => ∀ cls dd F' H', Alloc F H F' H' → RepX K F' H' x cls dd → E cls dd H'
  | .bad => False
def spP (f : Fn) : Sp := fun vs H Q E => ∃ F ds, Same F H ∧ RepL K F ds vs ∧ PostP K F H (f.app ds) Q E
/-- all but the cell at s is kept -/
structure Alloc2 (s : Addr) (F H F' H' : Hp) : Prop where
  sF : Same F F'
  keep : ∀ b o, H b = some o → b ≠ s → H' b = some o
  sub : Same F' H'
  nf : ∀ b, H b ≠ none → F b = none → F' b = none
def spS (f : Fn2) : Sp := fun vs H Q E => ∃ F s ds ws cs csV, vs = .ref s :: ws ∧ Same F H ∧ H s = some (.lst csV) ∧ F s = none ∧ RepL K F cs csV ∧ RepL K F ds ws ∧ match f.app cs ds with
  | .ok r cs' => ∀ v F' H' csV', Alloc2 s F H F' H' → H' s = some (.lst csV') → RepL K F' cs' csV' → RepR K ⟨F, H, fun _ => False⟩ F' H' r v → Q v H'
  | .bad => False
end
theorem spP_len {K : PySem.W.Frag} {f : Fn} {vs : List V} {H : Hp} {Q : VK} {E : XK} (h : spP K f vs H Q E) : vs.length = f.np := by
  obtain ⟨F, ds, s, r, p⟩ := h
  unfold Fn.app at p
  split at p
  · rename_i e
    rw [← r.length]
    exact e
  · exact p.elim
theorem spS_len {K : PySem.W.Frag} {f : Fn2} {vs : List V} {H : Hp} {Q : VK} {E : XK} (h : spS K f vs H Q E) : vs.length = f.np + 1 := by
  obtain ⟨F, s, ds, ws, cs, csV, e, s1, h1, f1, r1, r, p⟩ := h
  unfold Fn2.app at p
  by_cases e0 : ds.length = f.np
  · rw [e, List.length_cons, ← r.length, e0]
  · rw [if_neg e0] at p
    exact p.elim
section
variable {K : PySem.W.Frag} {F H : Hp} {ds : List D} {vs : List V}
theorem start_get {N : List Str} {i : Nat} {v : V} (h : vs[i]? = some v) : (L2.start N vs)[i]? = some (some v) := by
  unfold L2.start
  have hi : i < vs.length := (List.getElem?_eq_some_iff.mp h).1
  rw [List.getElem?_append_left (by simpa using hi), List.getElem?_map, h]
  rfl
theorem sto_get {n i : Nat} {s : Sl} (h : (sto n ds)[i]? = some s) : (∃ d, ds[i]? = some d ∧ s = .vl d) ∨ s = .un := by
  unfold sto at h
  by_cases hi : i < ds.length
  · rw [List.getElem?_append_left (by simpa using hi), List.getElem?_map] at h
    rw [List.getElem?_eq_getElem hi] at h
    simp at h
    exact .inl ⟨ds[i], by simp [hi], h.symm⟩
  · rw [List.getElem?_append_right (by simpa using Nat.not_lt.mp hi)] at h
    have := List.mem_of_getElem? h
    exact .inr (List.eq_of_mem_replicate this)
theorem sto_own {n i : Nat} {σ : St} {p : Addr} : ¬ Own H σ (sto n ds) i p := fun h => by
  unfold Own at h
  cases e : (sto n ds)[i]? with
  | none => simp [e] at h
  | some s =>
    rcases sto_get e with ⟨d, _, rfl⟩ | rfl <;> simp [e] at h
theorem sto_length {n : Nat} : (sto n ds).length = ds.length + (n - ds.length) := by simp [sto]
/-- at the entry -/
theorem SI.start {N : List Str} {M : Addr → Prop} (s : Same F H) (r : RepL K F ds vs) : SI K ⟨F, H, M⟩ F H (L2.start N vs) (sto N.length ds) := by
  refine ⟨?_, s, fun i t e => ?_, fun i j p h => (sto_own h).elim, fun _ _ h => h, fun b o h _ => h, fun b _ f => f, fun i p h => (sto_own h).elim, fun b h => h⟩
  · rw [sto_length, r.length]
    simp [L2.start]
  · rcases sto_get e with ⟨d, h1, rfl⟩ | rfl
    · obtain ⟨v, h2, h3⟩ := r.get h1
      exact ⟨v, start_get h2, h3⟩
    · trivial
theorem SI.out {e0 : E0} {F' H' : Hp} {σ : St} {E : Sto} (hM : ∀ b, ¬ e0.M b) (S : SI K e0 F' H' σ E) : Alloc e0.F e0.H F' H' := ⟨S.f0, fun b o h => S.h0 b o h (hM b), S.sub, S.nf⟩
end

section
variable {P : Program} {w : World} {K : PySem.W.Frag} {mg : Str → Option Value} {base : Heap} {x qual : Str} {params : Arguments} {body : List Stmt} {scope : Scope} {dvs : List V} {kws : List (Str × V)} {f : Addr} {fd : FuncData}
/-- a def whose body means b keeps the promise of b -/
theorem fn_pure {N ps : List Str} {k : Nat} {b : Ss} (F : FunD K x qual params body scope dvs kws f fd) (S : FnScope N ps scope)
    (hb : ∀ (cdv : Value) (A : Around) (outer : List Env) (s : Shared) (H : Hp) (E : XK) (e0 : E0), Room k (A.deeper (PyProof.Rows.envOfC qual scope s.heap.objs.size f cdv)) → DSs (cxOf (L2.CX P w) P w K mg base N qual scope f cdv A outer s H E) e0 (fun cls d _ H => E cls d H) body b) :
    FnOk P w K mg base (L2.CX P w) (k + 1) f fd ps (spP K (mkFn N.length ps.length b)) := by
  refine F.ok S (fun vs H Q E h => spP_len h) fun cdv A outer s H vs Q E hr h => ?_
  obtain ⟨F1, ds, s1, r, p⟩ := h
  refine ⟨_, hb cdv A outer s H E ⟨F1, H, fun _ => False⟩ hr, sto N.length ds, F1, SI.start s1 r, ?_⟩
  unfold Fn.app mkFn at p
  dsimp only at p
  split at p
  · cases q : b (sto N.length ds) with
    | rt rv E' =>
      simp only [q] at p
      exact fun v σ F' H' S' rr => p v F' H' (S'.out fun _ z => z) rr
    | nx E' =>
      simp only [q] at p
      exact fun σ F' H' s' S' => p .non F' H' (S'.out fun _ z => z) (by simp [RepR, Rep])
    | ex xn E' =>
      simp only [q] at p
      exact fun cls dd σ F' H' S' rx => p cls dd F' H' (S'.out fun _ z => z) rx
    | bk E' => simp only [q] at p; exact p.elim
    | ct E' => simp only [q] at p; exact p.elim
    | bad => simp only [q] at p; exact p.elim
  · exact p.elim
theorem sto2_get {n i : Nat} {cs ds : List D} {t : Sl} (h : (sto2 n cs ds)[i]? = some t) : (i = 0 ∧ t = .st cs) ∨ (∃ j, i = j + 1 ∧ (sto (n - 1) ds)[j]? = some t) := by
  cases i with
  | zero =>
    unfold sto2 at h
    simp at h
    exact .inl ⟨rfl, h.symm⟩
  | succ j =>
    unfold sto2 at h
    exact .inr ⟨j, rfl, by simpa using h⟩
theorem sto2_own {H : Hp} {n i : Nat} {cs ds : List D} {σ : St} {p : Addr} (h : Own H σ (sto2 n cs ds) i p) : i = 0 ∧ σ[0]? = some (some (.ref p)) := by
  cases i with
  | zero =>
    have e : (sto2 n cs ds)[0]? = some (.st cs) := rfl
    unfold Own at h
    rw [e] at h
    exact ⟨rfl, h⟩
  | succ j =>
    exfalso
    unfold Own at h
    have e : (sto2 n cs ds)[j + 1]? = (sto (n - 1) ds)[j]? := by simp [sto2]
    rw [e] at h
    cases q : (sto (n - 1) ds)[j]? with
    | none => simp [q] at h
    | some t => rcases sto_get q with ⟨d, _, rfl⟩ | rfl <;> simp [q] at h
theorem fn_cell {N ps : List Str} {k : Nat} {b : Ss} (hN : 0 < N.length) (hps : 0 < ps.length) (F : FunD K x qual params body scope dvs kws f fd) (S : FnScope N ps scope)
    (hb : ∀ (cdv : Value) (A : Around) (outer : List Env) (s : Shared) (H : Hp) (E : XK) (e0 : E0), Room k (A.deeper (PyProof.Rows.envOfC qual scope s.heap.objs.size f cdv)) → DSs (cxOf (L2.CX P w) P w K mg base N qual scope f cdv A outer s H E) e0 (fun cls d _ H => E cls d H) body b) :
    FnOk P w K mg base (L2.CX P w) (k + 1) f fd ps (spS K (mkFn2 N.length (ps.length - 1) b)) := by
  refine F.ok S (fun vs H Q E h => by rw [spS_len h]; show ps.length - 1 + 1 = ps.length; omega) fun cdv A outer s H vs Q E hr h => ?_
  obtain ⟨F1, c, ds, ws, cs, csV, ev, s1, hc, fc, rc, r, p⟩ := h
  subst ev
  have st0 : (L2.start N (V.ref c :: ws))[0]? = some (some (.ref c)) := start_get rfl
  refine ⟨_, hb cdv A outer s H E ⟨F1, H, fun b => b = c⟩ hr, sto2 N.length cs ds, F1, ⟨?_, s1, fun i t e => ?_, fun i j q h1 h2 => by rw [(sto2_own h1).1, (sto2_own h2).1], fun _ _ h => h, fun b o h _ => h, fun b _ f => f, fun i q h => ?_, fun b h => h⟩, ?_⟩
  · show (L2.start N (V.ref c :: ws)).length = (Sl.st cs :: sto (N.length - 1) ds).length
    rw [List.length_cons, sto_length, r.length]
    simp [L2.start]
    omega
  · rcases sto2_get e with ⟨rfl, rfl⟩ | ⟨j, rfl, e⟩
    · exact ⟨c, csV, st0, hc, fc, rc⟩
    · rcases sto_get e with ⟨d, h1, rfl⟩ | rfl
      · obtain ⟨v, h2, h3⟩ := r.get h1
        exact ⟨v, start_get (by simpa using h2), h3⟩
      · trivial
  · obtain ⟨rfl, e⟩ := sto2_own h
    rw [st0] at e
    cases e
    exact .inr ⟨rfl, .inl ⟨cs, rfl⟩⟩
  · have fin : ∀ {E' : Sto} {cs' : List D} {σ : St} {F' H' : Hp}, E'[0]? = some (.st cs') → SI K ⟨F1, H, fun b => b = c⟩ F' H' σ E' → Alloc2 c F1 H F' H' ∧ ∃ csV', H' c = some (.lst csV') ∧ RepL K F' cs' csV' := fun {E' cs' σ F' H'} e S' => by
      obtain ⟨q, vs', e1, e2, e3, e4⟩ := S'.rel 0 _ e
      have ho : Own H' σ E' 0 q := by
        unfold Own
        rw [e]
        exact e1
      have hq : q = c := by
        rcases S'.ow 0 q ho with z | z
        · exact (z.2 (.inl ⟨cs', e⟩)).elim
        · exact z.1
      subst hq
      exact ⟨⟨S'.f0, fun b o h n => S'.h0 b o h n, S'.sub, S'.nf⟩, vs', e2, e4⟩
    by_cases hl : ds.length = ps.length - 1
    · simp only [Fn2.app, mkFn2, hl, if_true] at p
      cases q : b (sto2 N.length cs ds) with
      | rt rv E' =>
        simp only [q] at p
        cases e : E'[0]? with
        | none => simp [e] at p
        | some t =>
          cases t with
          | st cs' =>
            simp only [e] at p
            intro v σ F' H' S' rr
            obtain ⟨a2, csV', h2, r2⟩ := fin e S'
            exact p v F' H' csV' a2 h2 r2 rr
          | _ => simp [e] at p
      | nx E' =>
        simp only [q] at p
        cases e : E'[0]? with
        | none => simp [e] at p
        | some t =>
          cases t with
          | st cs' =>
            simp only [e] at p
            intro σ F' H' s' S'
            obtain ⟨a2, csV', h2, r2⟩ := fin e S'
            exact p .non F' H' csV' a2 h2 r2 (by simp [RepR, Rep])
          | _ => simp [e] at p
      | ex xn E' => simp only [q] at p
      | bk E' => simp only [q] at p
      | ct E' => simp only [q] at p
      | bad => simp only [q] at p
    · simp only [Fn2.app, mkFn2, hl, if_false] at p
end

/-! ### a def called -/
def rsOut (r : Rs) (E : Sto) : Out D := match r with
  | .ok (.fz d) => .ok d E
  | .ok (.fr ds) => .ok (.lst ds) E
  | .ex x => .ex x E
  | .bad => .bad
def rsOutF (r : Rs) (E : Sto) : Out (List D) := match r with
  | .ok (.fr ds) => .ok ds E
  | .ex x => .ex x E
  | _ => .bad
def sFn (f : Fn) (a : SeL) : Se := fun E => (a E).bind fun ds E1 => rsOut (f.app ds) E1
def sFnF (f : Fn) (a : SeL) : SeL := fun E => (a E).bind fun ds E1 => rsOutF (f.app ds) E1
section
variable {K : PySem.W.Frag} {e0 : E0} {W : WX} {σ : St} {E : Sto} {F H : Hp} {Q : VK} {vs : List V} {ds : List D} {f : Fn}
theorem call_post (S : SI K e0 F H σ E) (r : RepL K F ds vs) (h : Post K e0 W (fun F d v => Rep K F d v) σ E F H (rsOut (f.app ds) E) Q) : spP K f vs H Q (fun cls d H' => W cls d σ H') := by
  refine ⟨F, ds, S.sub, r, ?_⟩
  cases q : f.app ds with
  | ok rv =>
    rw [q] at h
    cases rv with
    | fz d => exact fun v F' H' al rr => h.fin S al rr
    | fr xs =>
      intro v F' H' al rr
      obtain ⟨p, us, e, n0, n1, n2, rl⟩ := rr
      have n0 : H p = none := n0
      subst e
      have S' := S.alloc al
      obtain ⟨S2, sF⟩ := S'.freezeAt n2 n1 (fun i o => by
        obtain ⟨u, e, _⟩ := own_some S ((own_alloc S al.sH i p).mp o)
        rw [n0] at e
        cases e) (S.fresh0 n0)
      refine h (.ref p) _ H' ⟨Same.tr al.sF sF, fun b o e _ => al.sH b o e, fun b hb f _ => ?_, (S.grow al).dm, (S.grow al).own⟩ S2 ?_
      · have : b ≠ p := fun z => hb (z ▸ n0)
        rw [upd_ne this]
        exact al.nf b hb f
      · simp only [Rep]
        exact ⟨p, us, rfl, upd_same, RepL.mono sF _ _ rl⟩
  | ex x =>
    rw [q] at h
    exact fun cls dd F' H' al rx => h cls dd F' H' (S.grow al) (S.alloc al) rx
  | bad =>
    rw [q] at h
    exact h.elim
theorem call_postF (S : SI K e0 F H σ E) (r : RepL K F ds vs) (h : PostF K e0 W σ E F H (rsOutF (f.app ds) E) Q) : spP K f vs H Q (fun cls d H' => W cls d σ H') := by
  refine ⟨F, ds, S.sub, r, ?_⟩
  cases q : f.app ds with
  | ok rv =>
    rw [q] at h
    cases rv with
    | fz d => exact h.elim
    | fr xs =>
      intro v F' H' al rr
      obtain ⟨p, us, e, n0, n1, n2, rl⟩ := rr
      have n0 : H p = none := n0
      subst e
      exact h p us F' H' (S.grow al) (S.alloc al) n0 n1 n2 rl
  | ex x =>
    rw [q] at h
    exact fun cls dd F' H' al rx => h cls dd F' H' (S.grow al) (S.alloc al) rx
  | bad =>
    rw [q] at h
    exact h.elim
end
/-- what a caller has of a def -/
structure FnGood (X : Cx) (x : Str) (f : Fn) : Prop where
  ex : ∃ (k : Nat) (a : Addr) (fd : FuncData) (ps : List Str), FnOk X.prog X.w X.K X.mg X.base (L2.CX X.prog X.w) k a fd ps (spP X.K f) ∧ Room k X.A ∧ X.mg x = some (.ref a) ∧ PySem.W.keepIn X.K (.ref a) = true ∧ Binds X.K fd ps []
structure FnGood2 (X : Cx) (x : Str) (f : Fn2) : Prop where
  ex : ∃ (k : Nat) (a : Addr) (fd : FuncData) (ps : List Str), FnOk X.prog X.w X.K X.mg X.base (L2.CX X.prog X.w) k a fd ps (spS X.K f) ∧ Room k X.A ∧ X.mg x = some (.ref a) ∧ PySem.W.keepIn X.K (.ref a) = true ∧ Binds X.K fd ps []
section
variable {X : Cx} {e0 : E0} {W : WX} {x : Str} {f : Fn} {f2 : Fn2} {e : Expr} {es : List Expr} {g : SeL} {p pos : Pos}
theorem dx_call (G : FnGood X x f) (tk : Takes X W) (hg : Gl X x) (ha : DA X e0 W (e :: es) g) (hdb : (x == ("__debug__" : Str)) = false := by decide) (he : starEach (e :: es) X.env = (false, eval e X.env) :: starEach es X.env := by rfl)
    (hpl : (backTo pos (starEach es X.env)).any (·.1) = false := by rfl) : DX X e0 W (.Call (.Name x p) (e :: es) [] pos) (sFn f g) := by
  obtain ⟨k, a, fd, ps, F, hr, hm, hk, hb⟩ := G.ex
  exact PE.weak (pe_callS F hr hg hm hk hb (fun σ => passAt tk σ) ha hdb he hpl) fun σ H Q ⟨E, F, S, h⟩ => rdG_intro S (h.bind fun ds vs E1 F1 H1 G1 S1 R1 h1 => call_post S1 R1 h1)
theorem df_call (G : FnGood X x f) (tk : Takes X W) (hg : Gl X x) (ha : DA X e0 W (e :: es) g) (hdb : (x == ("__debug__" : Str)) = false := by decide) (he : starEach (e :: es) X.env = (false, eval e X.env) :: starEach es X.env := by rfl)
    (hpl : (backTo pos (starEach es X.env)).any (·.1) = false := by rfl) : DF X e0 W (.Call (.Name x p) (e :: es) [] pos) (sFnF f g) := by
  obtain ⟨k, a, fd, ps, F, hr, hm, hk, hb⟩ := G.ex
  exact PE.weak (pe_callS F hr hg hm hk hb (fun σ => passAt tk σ) ha hdb he hpl) fun σ H Q ⟨E, F, S, h⟩ => rdG_intro S (PostF.bind h fun ds vs E1 F1 H1 G1 S1 R1 h1 => call_postF S1 R1 h1)
end

/-! ### the content of an owned list changes -/
def Sl.put (s : Sl) (cs : List D) : Sl := match s with
  | .ow _ => .ow cs
  | .st _ => .st cs
  | s => s
def Sl.cell (s : Sl) : Option (List D) := match s with
  | .ow cs => some cs
  | .st cs => some cs
  | _ => none
section
variable {K : PySem.W.Frag} {e0 : E0} {W : WX} {σ : St} {E : Sto} {F F' H H' : Hp}
theorem SI.at_cell (S : SI K e0 F H σ E) {i : Nat} {s : Sl} {cs : List D} (e : E[i]? = some s) (hc : s.cell = some cs) : ∃ p vs, σ[i]? = some (some (.ref p)) ∧ H p = some (.lst vs) ∧ F p = none ∧ RepL K F cs vs ∧ Own H σ E i p := by
  have r := S.rel i s e
  cases s with
  | ow ys =>
    cases hc
    obtain ⟨p, vs, e1, e2, e3, e4⟩ := r
    exact ⟨p, vs, e1, e2, e3, e4, own_of_slot e e1⟩
  | st ys =>
    cases hc
    obtain ⟨p, vs, e1, e2, e3, e4⟩ := r
    exact ⟨p, vs, e1, e2, e3, e4, own_of_slot e e1⟩
  | _ => cases hc
theorem SI.put (S : SI K e0 F H σ E) {i : Nat} {s : Sl} {cs cs' : List D} {p : Addr} {vs' : List V} (e : E[i]? = some s) (hc : s.cell = some cs) (e1 : σ[i]? = some (some (.ref p))) (al : Alloc2 p F H F' H') (e' : H' p = some (.lst vs')) (r' : RepL K F' cs' vs') :
    SI K e0 F' H' σ (E.set i (s.put cs')) ∧ Grow σ E F H (E.set i (s.put cs')) F' H' := by
  have hi : i < E.length := (List.getElem?_eq_some_iff.mp e).1
  have oi : Own H σ E i p := by
    obtain ⟨q, _, e2, _, _, _, o⟩ := S.at_cell e hc
    rw [e1] at e2
    cases e2
    exact o
  obtain ⟨up, eup, fup⟩ := own_some S oi
  have fp' : F' p = none := al.nf p (by rw [eup]; exact fun z => nomatch z) fup
  have nn : ∀ {b : Addr} {o : HO}, H b = some o → F b = none → F' b = none := fun e f => al.nf _ (by rw [e]; exact fun z => nomatch z) f
  have nop : ∀ j q, Own H σ E j q → j ≠ i → q ≠ p := fun j q h n z => by
    subst z
    exact n (S.apart j i q h oi)
  have cellp : ∀ t : Sl, t = s.put cs' → (t = .ow cs' ∨ t = .st cs') := fun t ht => by
    cases s with
    | ow ys => exact .inl ht
    | st ys => exact .inr ht
    | _ => cases hc
  have own' : ∀ j q, Own H' σ (E.set i (s.put cs')) j q → Own H σ E j q := fun j q h => by
    by_cases hj : j = i
    · subst hj
      unfold Own at h
      rw [List.getElem?_set_self hi] at h
      rcases cellp _ rfl with z | z
      · rw [z] at h
        have h' : σ[j]? = some (some (.ref q)) := h
        rw [e1] at h'
        cases h'
        exact oi
      · rw [z] at h
        have h' : σ[j]? = some (some (.ref q)) := h
        rw [e1] at h'
        cases h'
        exact oi
    · unfold Own at h
      rw [List.getElem?_set_ne (Ne.symm hj)] at h
      cases e2 : E[j]? with
      | none => simp [e2] at h
      | some t =>
        rw [e2] at h
        cases t with
        | un => exact h.elim
        | vl d => exact h.elim
        | ow ys => exact own_of_slot e2 h
        | st ys => exact own_of_slot e2 h
        | nw c ys => exact own_of_slot e2 h
        | mx rows =>
          obtain ⟨q0, ps, g1, g2, _⟩ := S.rel j _ e2
          obtain ⟨q1, ps', g3, g4, hq⟩ := h
          rw [g1] at g3
          cases g3
          have ne : q0 ≠ p := nop j q0 (own_of_slot e2 ⟨q0, ps, g1, g2, .inl rfl⟩) hj
          rw [al.keep _ _ g2 ne] at g4
          injection g4 with g4
          injection g4 with g4
          exact own_of_slot e2 ⟨q0, ps', g1, by rw [g2, g4], hq⟩
  refine ⟨⟨by simpa using S.len, al.sub, fun j t hs => ?_, fun a b q h1 h2 => S.apart a b q (own' a q h1) (own' b q h2), Same.tr S.f0 al.sF, fun b o h n => ?_, fun b h f => al.nf b (S.dm b h) (S.nf b h f), fun j q h => ?_, fun b h => ?_⟩,
    ⟨al.sF, fun b o h n => al.keep b o h fun z => n i (z ▸ oi), fun b h f _ => al.nf b h f, fun b h => ?_, own'⟩⟩
  · by_cases hj : j = i
    · subst hj
      rw [List.getElem?_set_self hi] at hs
      cases hs
      rcases cellp _ rfl with z | z
      · rw [z]
        exact ⟨p, vs', e1, e', fp', r'⟩
      · rw [z]
        exact ⟨p, vs', e1, e', fp', r'⟩
    · rw [List.getElem?_set_ne (Ne.symm hj)] at hs
      have r := S.rel j t hs
      cases t with
      | un => trivial
      | vl d =>
        obtain ⟨v, h1, h2⟩ := r
        exact ⟨v, h1, Rep.mono al.sF _ _ h2⟩
      | ow ys =>
        obtain ⟨q, us, h1, h2, h3, h4⟩ := r
        exact ⟨q, us, h1, al.keep _ _ h2 (nop j q (own_of_slot hs h1) hj), nn h2 h3, RepL.mono al.sF _ _ h4⟩
      | st ys =>
        obtain ⟨q, us, h1, h2, h3, h4⟩ := r
        exact ⟨q, us, h1, al.keep _ _ h2 (nop j q (own_of_slot hs h1) hj), nn h2 h3, RepL.mono al.sF _ _ h4⟩
      | nw c ys =>
        obtain ⟨q, dx, us, h1, h2, h3, h4⟩ := r
        exact ⟨q, dx, us, h1, al.keep _ _ h2 (nop j q (own_of_slot hs h1) hj), nn h2 h3, RepL.mono al.sF _ _ h4⟩
      | mx rows =>
        obtain ⟨q0, ps, h1, h2, h3, h4, h5, h6, h7⟩ := r
        refine ⟨q0, ps, h1, al.keep _ _ h2 (nop j q0 (own_of_slot hs ⟨q0, ps, h1, h2, .inl rfl⟩) hj), nn h2 h3, h4, h5, h6, fun k p' r' a1 a2 => ?_⟩
        obtain ⟨b1, us, b2, b3⟩ := h7 k p' r' a1 a2
        exact ⟨nn b2 b1, us, al.keep _ _ b2 (nop j p' (own_of_slot hs ⟨q0, ps, h1, h2, .inr (List.mem_of_getElem? a1)⟩) hj), RepL.mono al.sF _ _ b3⟩
  · by_cases hb : b = p
    · subst hb
      rcases S.ow i b oi with z | z
      · rw [z.1] at h
        cases h
      · exact (n z.1).elim
    · exact al.keep b o (S.h0 b o h n) hb
  · have q' := S.ow j q (own' j q h)
    by_cases hj : j = i
    · subst hj
      rw [List.getElem?_set_self hi]
      rw [e] at q'
      have bb : Bor (some (s.put cs')) ↔ Bor (some s) := by
        cases s with
        | ow ys =>
          constructor
          · rintro (⟨_, y⟩ | ⟨_, _, y⟩) <;> cases y
          · rintro (⟨_, y⟩ | ⟨_, _, y⟩) <;> cases y
        | st ys => exact ⟨fun _ => .inl ⟨ys, rfl⟩, fun _ => .inl ⟨cs', rfl⟩⟩
        | _ => cases hc
      rcases q' with z | z
      · exact .inl ⟨z.1, fun y => z.2 (bb.mp y)⟩
      · exact .inr ⟨z.1, bb.mpr z.2⟩
    · rw [List.getElem?_set_ne (Ne.symm hj)]
      exact q'
  · have hb := S.dm b h
    cases q : H b with
    | none => exact (hb q).elim
    | some o =>
      by_cases hbp : b = p
      · subst hbp
        rw [e']
        exact fun z => nomatch z
      · rw [al.keep b o q hbp]
        exact fun z => nomatch z
  · cases q : H b with
    | none => exact (h q).elim
    | some o =>
      by_cases hbp : b = p
      · subst hbp
        rw [e']
        exact fun z => nomatch z
      · rw [al.keep b o q hbp]
        exact fun z => nomatch z
end
def cellAt (E : Sto) (i : Nat) : Option (Sl × List D) := match E[i]? with
  | some s => (match s.cell with
    | some cs => some (s, cs)
    | none => none)
  | none => none
theorem cellAt_some {E : Sto} {i : Nat} {s : Sl} {cs : List D} (h : cellAt E i = some (s, cs)) : E[i]? = some s ∧ s.cell = some cs := by
  unfold cellAt at h
  cases e : E[i]? with
  | none => simp [e] at h
  | some t =>
    simp only [e] at h
    cases e2 : t.cell with
    | none => simp [e2] at h
    | some c =>
      simp [e2] at h
      obtain ⟨rfl, rfl⟩ := h
      exact ⟨rfl, e2⟩
def sFn2 (i : Nat) (f : Fn2) (a : SeL) : Se := fun E => match cellAt E i with
  | none => .bad
  | some _ => (a E).bind fun ds E1 => match cellAt E1 i with
    | some (s, cs) => (match f.app cs ds with
      | .ok (.fz d) cs' => .ok d (E1.set i (s.put cs'))
      | .ok (.fr xs) cs' => .ok (.lst xs) (E1.set i (s.put cs'))
      | .bad => .bad)
    | none => .bad
def sFn2F (i : Nat) (f : Fn2) (a : SeL) : SeL := fun E => match cellAt E i with
  | none => .bad
  | some _ => (a E).bind fun ds E1 => match cellAt E1 i with
    | some (s, cs) => (match f.app cs ds with
      | .ok (.fr xs) cs' => .ok xs (E1.set i (s.put cs'))
      | _ => .bad)
    | none => .bad
section
variable {X : Cx} {e0 : E0} {W : WX} {x y : Str} {f : Fn2} {e : Expr} {es : List Expr} {g : SeL} {p p2 pos : Pos} {i : Nat}
theorem dx_call2 (G : FnGood2 X x f) (tk : Takes X W) (hg : Gl X x) (hN : X.N[i]? = some y) (hv : Vis X.env.scope y) (ha : DA X e0 W es g) (hdb : (x == ("__debug__" : Str)) = false := by decide)
    (he : starEach (.Name y p2 :: es) X.env = (false, eval (.Name y p2) X.env) :: starEach es X.env := by rfl)
    (hpl : (backTo pos (starEach es X.env)).any (·.1) = false := by rfl) (hd : (y == ("__debug__" : Str)) = false := by decide) (hcd : (y == ("__classdict__" : Str)) = false := by decide) : DX X e0 W (.Call (.Name x p) (.Name y p2 :: es) [] pos) (sFn2 i f g) := by
  obtain ⟨k, a, fd, ps, F, hr, hm, hk, hb⟩ := G.ex
  refine PE.weak (pe_callS F hr hg hm hk hb (fun σ => passAt tk σ) (pa_cons (pe_var hN hv hd hcd) ha he) hdb he hpl) fun σ H Q ⟨E, F, S, h⟩ => ?_
  unfold sFn2 at h
  cases z : cellAt E i with
  | none =>
    simp only [z] at h
    exact h.elim
  | some r0 =>
    obtain ⟨s0, cs0⟩ := r0
    simp only [z] at h
    obtain ⟨z1, z2⟩ := cellAt_some z
    obtain ⟨q, us0, a1, _⟩ := S.at_cell z1 z2
    refine ⟨.ref q, a1, rdG_intro S (h.bind fun ds vs E1 F1 H1 G1 S1 R1 h1 => ?_)⟩
    cases y : cellAt E1 i with
    | none =>
      simp only [y] at h1
      exact h1.elim
    | some r1 =>
      obtain ⟨s1, cs1⟩ := r1
      simp only [y] at h1
      obtain ⟨y1, y2⟩ := cellAt_some y
      obtain ⟨q', us1, b1, b2, b3, b4, b5⟩ := S1.at_cell y1 y2
      rw [a1] at b1
      cases b1
      refine ⟨F1, q, ds, vs, cs1, us1, rfl, S1.sub, b2, b3, b4, R1, ?_⟩
      cases v : f.app cs1 ds with
      | bad =>
        simp only [v] at h1
        exact h1.elim
      | ok rv cs' =>
        simp only [v] at h1
        cases rv with
        | fz d =>
          intro u F' H' csV' al e' r' rr
          obtain ⟨S2, G2⟩ := S1.put y1 y2 a1 al e' r'
          exact h1 u F' H' G2 S2 rr
        | fr xs =>
          intro u F' H' csV' al e' r' rr
          obtain ⟨S2, G2⟩ := S1.put y1 y2 a1 al e' r'
          obtain ⟨p, us, e, n0, n1, n2, rl⟩ := rr
          have n0 : H1 p = none := n0
          subst e
          obtain ⟨S3, sF⟩ := S2.freezeAt n2 n1 (G2.notOwn S1 n0) (S1.fresh0 n0)
          refine h1 (.ref p) _ H' ⟨Same.tr G2.sF sF, G2.keep, fun b hb f n => ?_, G2.dm, G2.own⟩ S3 ?_
          · have : b ≠ p := fun z => hb (z ▸ n0)
            rw [upd_ne this]
            exact G2.nf b hb f n
          · simp only [Rep]
            exact ⟨p, us, rfl, upd_same, RepL.mono sF _ _ rl⟩
end
end Dn

set_option Elab.async false
set_option linter.all false
set_option maxRecDepth 100000
set_option maxHeartbeats 4000000
namespace Dn
open PySem PySem.Spec L2

/-! ### plain operations on data -/
def lineOk (n : Nat) : Bool := decide (n ≤ 1000000)
def oAddI : D → D → Option D
  | .int i, .int j => some (.int (i + j))
  | _, _ => none
def oAddS : D → D → Option D
  | .str a, .str b => if a.length + b.length ≤ 1000000 then some (.str (a ++ b)) else none
  | _, _ => none
def oAddL : D → D → Option D
  | .lst xs, .lst ys => if xs.length + ys.length ≤ 1000000 then some (.lst (xs ++ ys)) else none
  | _, _ => none
def oAddT : D → D → Option D
  | .tup xs, .tup ys => if xs.length + ys.length ≤ 1000000 then some (.tup (xs ++ ys)) else none
  | _, _ => none
def oAdd : D → D → Option D
  | .int i, .int j => some (.int (i + j))
  | .str a, .str b => if a.length + b.length ≤ 1000000 then some (.str (a ++ b)) else none
  | .lst xs, .lst ys => if xs.length + ys.length ≤ 1000000 then some (.lst (xs ++ ys)) else none
  | .tup xs, .tup ys => if xs.length + ys.length ≤ 1000000 then some (.tup (xs ++ ys)) else none
  | _, _ => none
def oSub : D → D → Option D
  | .int i, .int j => some (.int (i - j))
  | _, _ => none
def mulOk (i j : Int) : Bool := (decide (-(2 ^ 64) < i) && decide (i < 2 ^ 64)) || (decide (-(2 ^ 64) < j) && decide (j < 2 ^ 64))
def oMulI : D → D → Option D
  | .int i, .int j => if mulOk i j = true then some (.int (i * j)) else none
  | _, _ => none
def oMulL : D → D → Option D
  | .lst xs, .int k => if -1000 ≤ k ∧ k ≤ 1000000 ∧ xs.length * k.toNat ≤ 1000000 then some (.lst (List.replicate k.toNat xs).flatten) else none
  | _, _ => none
def oMul : D → D → Option D
  | .int i, .int j => if mulOk i j = true then some (.int (i * j)) else none
  | .lst xs, .int k => if -1000 ≤ k ∧ k ≤ 1000000 ∧ xs.length * k.toNat ≤ 1000000 then some (.lst (List.replicate k.toNat xs).flatten) else none
  | _, _ => none
def oMod : D → D → Option D
  | .int i, .int j => if 0 < j then some (.int (i % j)) else none
  | _, _ => none
def oFdiv : D → D → Option D
  | .int i, .int j => if 0 < j ∧ j.natAbs.log2 < 9000 then some (.int (i / j)) else none
  | _, _ => none
def oNeg : D → Option D
  | .int i => some (.int (-i))
  | _ => none
def oLt : D → D → Option D
  | .int i, .int j => some (.bl (decide (i < j)))
  | _, _ => none
def oLe : D → D → Option D
  | .int i, .int j => some (.bl (decide (i ≤ j)))
  | _, _ => none
def oGt : D → D → Option D
  | .int i, .int j => some (.bl (decide (j < i)))
  | _, _ => none
def oGe : D → D → Option D
  | .int i, .int j => some (.bl (decide (j ≤ i)))
  | _, _ => none
mutual
def py : D → Option PyData
  | .non => some .none
  | .bl b => some (.bool b)
  | .int i => some (.int i)
  | .str s => some (.str s)
  | .tup xs => (match pyL xs with
    | some ys => some (.tuple ys)
    | none => none)
  | .lst xs => (match pyL xs with
    | some ys => some (.list ys)
    | none => none)
  | .ins _ _ => none
  | .scr _ => none
def pyL : List D → Option (List PyData)
  | [] => some []
  | x :: xs => (match py x, pyL xs with
    | some y, some ys => some (y :: ys)
    | _, _ => none)
end
/-- two scalars of one kind (or None beside another) -/
def oEqS : D → D → Option Bool
  | .int i, .int j => some (decide (i = j))
  | .str a, .str b => some (decide (a = b))
  | .bl a, .bl b => some (decide (a = b))
  | .non, .non => some true
  | .non, .int _ => some false
  | .int _, .non => some false
  | .non, .str _ => some false
  | .str _, .non => some false
  | .int _, .str _ => some false
  | .str _, .int _ => some false
  | _, _ => none
def oEqD (x y : D) : Option Bool := match py x, py y with
  | some d, some e => if SeqAt.shaped d = true ∧ SeqAt.shaped e = true then some (PyData.eqv d e) else none
  | _, _ => none
def dEq (x y : D) : Option Bool := (oEqS x y).or (oEqD x y)
def oEq (x y : D) : Option D := (dEq x y).map fun b => .bl b
def oNe (x y : D) : Option D := (dEq x y).map fun b => .bl (!b)
def flatD : D → Bool
  | .non => true
  | .bl _ => true
  | .int _ => true
  | .str _ => true
  | _ => false
def eqF : D → D → Bool
  | .non, .non => true
  | .bl a, .bl b => a == b
  | .bl a, .int b => (if a then 1 else 0) == b
  | .int a, .bl b => a == (if b then 1 else 0)
  | .int a, .int b => a == b
  | .str a, .str b => a == b
  | _, _ => false
def inFO (x : D) (xs : List D) : Option Bool := if flatD x = true ∧ xs.all flatD = true then some (xs.any fun y => eqF y x) else none
def inDO (x : D) (xs : List D) : Option Bool := match py x, pyL xs with
  | some d, some ds => if SeqAt.shaped d = true ∧ SeqAt.shaped (.list ds) = true then some (ds.any fun z => PyData.eqv z d) else none
  | _, _ => none
def inO : D → D → Option Bool
  | x, .lst xs => (inFO x xs).or (inDO x xs)
  | x, .tup xs => inFO x xs
  | _, _ => none
def oIn (x y : D) : Option D := (inO x y).map fun b => .bl b
def oNotIn (x y : D) : Option D := (inO x y).map fun b => .bl (!b)
def oIs : D → D → Option D
  | .non, .non => some (.bl true)
  | .bl a, .bl b => some (.bl (decide (a = b)))
  | _, .non => some (.bl false)
  | _, _ => none
def oIsNot : D → D → Option D
  | .non, .non => some (.bl false)
  | .bl a, .bl b => some (.bl (!decide (a = b)))
  | _, .non => some (.bl true)
  | _, _ => none
def oIx : D → D → Option D
  | .lst xs, .int i => atI xs i
  | .tup xs, .int i => atI xs i
  | .str s, .int i => if s.length ≤ 1000000 then (match atI s.cps.toList i with
    | some c => some (.str ⟨#[c]⟩)
    | none => none) else none
  | _, _ => none

section
variable {X : Cx} {K : PySem.W.Frag} {F H : Hp}
theorem opd_I0 {f : Value → Value → Sem Value} {g : Int → Int → D} {gv : Int → Int → V} {o : D → D → Option D} (h : OpR X f (rI0 gv)) (hr : ∀ F i j, Rep X.K F (g i j) (gv i j)) (ho : ∀ x y z, o x y = some z → ∃ i j, x = .int i ∧ y = .int j ∧ z = g i j) : OpD X f o :=
  ⟨_, h, fun x y z e F H v w Q s rx ry k => by
    obtain ⟨i, j, rfl, rfl, rfl⟩ := ho x y z e
    simp only [Rep] at rx ry
    exact ⟨i, j, rx, ry, k _ F H (.refl s) (hr F i j)⟩⟩
theorem opd_I {f : Value → Value → Sem Value} {C : Int → Int → Prop} {g : Int → Int → D} {gv : Int → Int → V} {o : D → D → Option D} (h : OpR X f (rI C gv)) (hr : ∀ F i j, Rep X.K F (g i j) (gv i j)) (ho : ∀ x y z, o x y = some z → ∃ i j, x = .int i ∧ y = .int j ∧ C i j ∧ z = g i j) : OpD X f o :=
  ⟨_, h, fun x y z e F H v w Q s rx ry k => by
    obtain ⟨i, j, rfl, rfl, c, rfl⟩ := ho x y z e
    simp only [Rep] at rx ry
    exact ⟨i, j, rx, ry, c, k _ F H (.refl s) (hr F i j)⟩⟩
theorem od_addI : OpD X (binaryOp .Add) oAddI := opd_I0 (g := fun i j => .int (i + j)) op_add (fun F i j => by simp [Rep]) fun x y z e => by
  cases x <;> cases y <;> simp [oAddI] at e
  exact ⟨_, _, rfl, rfl, e.symm⟩
theorem od_sub : OpD X (binaryOp .Sub) oSub := opd_I0 (g := fun i j => .int (i - j)) op_sub (fun F i j => by simp [Rep]) fun x y z e => by
  cases x <;> cases y <;> simp [oSub] at e
  exact ⟨_, _, rfl, rfl, e.symm⟩
theorem mulOk_c {i j : Int} (h : mulOk i j = true) : CMul i j := by
  unfold mulOk at h
  unfold CMul
  simpa using h
theorem od_mulI : OpD X (binaryOp .Mult) oMulI := opd_I (g := fun i j => .int (i * j)) op_mul (fun F i j => by simp [Rep]) fun x y z e => by
  cases x <;> cases y <;> simp [oMulI] at e
  exact ⟨_, _, rfl, rfl, mulOk_c e.1, e.2.symm⟩
theorem od_mod : OpD X (binaryOp .Mod) oMod := opd_I (g := fun i j => .int (i % j)) op_mod (fun F i j => by simp [Rep]) fun x y z e => by
  cases x <;> cases y <;> simp [oMod] at e
  exact ⟨_, _, rfl, rfl, e.1, e.2.symm⟩
theorem od_fdiv : OpD X (binaryOp .FloorDiv) oFdiv := opd_I (g := fun i j => .int (i / j)) op_fdivW (fun F i j => by simp [Rep]) fun x y z e => by
  cases x <;> cases y <;> simp [oFdiv] at e
  exact ⟨_, _, rfl, rfl, e.1, e.2.symm⟩
theorem ud_neg : UnD X (unaryOp .USub) oNeg := ⟨_, un_neg, fun x z e F H v Q s rx k => by
  cases x <;> simp [oNeg] at e
  subst e
  simp only [Rep] at rx
  exact ⟨_, rx, k _ F H (.refl s) (by simp [Rep])⟩⟩
theorem od_addS : OpD X (binaryOp .Add) oAddS := ⟨_, op_add_str, fun x y z e F H v w Q s rx ry k => by
  cases x <;> cases y <;> simp [oAddS] at e
  obtain ⟨hl, rfl⟩ := e
  simp only [Rep] at rx ry
  exact ⟨_, _, rx, ry, sizeLine_ok hl, k _ F H (.refl s) (by simp [Rep])⟩⟩
theorem od_addL : OpD X (binaryOp .Add) oAddL := ⟨_, op_cat, fun x y z e F H v w Q s rx ry k => by
  cases x <;> cases y <;> simp [oAddL] at e
  obtain ⟨hl, rfl⟩ := e
  simp only [Rep] at rx ry
  obtain ⟨a, vs, e1, h1, r1⟩ := rx
  obtain ⟨b, ws, e2, h2, r2⟩ := ry
  refine ⟨a, b, vs, ws, e1, e2, s _ _ h1, s _ _ h2, sizeLine_ok (by rw [← r1.length, ← r2.length]; exact hl), fun p hp => k _ _ _ (.new s hp) ?_⟩
  have z := same_upd (o := .lst (vs ++ ws)) (fresh_F s hp)
  simp only [Rep]
  exact ⟨p, _, rfl, upd_same, (RepL.mono z _ _ r1).append (RepL.mono z _ _ r2)⟩⟩
theorem od_addT : OpD X (binaryOp .Add) oAddT := ⟨_, op_catA, fun x y z e F H v w Q s rx ry k => by
  cases x <;> cases y <;> simp [oAddT] at e
  obtain ⟨hl, rfl⟩ := e
  simp only [Rep] at rx ry
  obtain ⟨a, vs, e1, h1, r1⟩ := rx
  obtain ⟨b, ws, e2, h2, r2⟩ := ry
  refine ⟨a, b, vs, ws, e1, e2, seqT s h1.sq, seqT s h2.sq, sizeLine_ok (by rw [← r1.length, ← r2.length]; exact hl), fun ev => ?_, fun _ ew => ?_, fun _ _ p hp => k _ _ _ (.new s hp) ?_⟩
  · subst ev
    have : ∀ {l : List D}, RepL X.K F l [] → l = [] := fun {l} r => List.length_eq_zero_iff.mp r.length
    have q := this r1
    subst q
    refine k _ F H (.refl s) ?_
    simp only [Rep, List.nil_append]
    exact ⟨b, ws, rfl, h2, r2⟩
  · subst ew
    have : ∀ {l : List D}, RepL X.K F l [] → l = [] := fun {l} r => List.length_eq_zero_iff.mp r.length
    have q := this r2
    subst q
    refine k _ F H (.refl s) ?_
    simp only [Rep, List.append_nil]
    exact ⟨a, vs, rfl, h1, r1⟩
  · have z := same_upd (o := .tup (vs ++ ws)) (fresh_F s hp)
    simp only [Rep]
    exact ⟨p, _, rfl, .inl upd_same, (RepL.mono z _ _ r1).append (RepL.mono z _ _ r2)⟩⟩
theorem OpD.eq {f : Value → Value → Sem Value} {o o' : D → D → Option D} (h : OpD X f o) (e : ∀ x y, o' x y = o x y) : OpD X f o' := by
  have : o' = o := funext fun x => funext fun y => e x y
  rw [this]
  exact h
theorem od_add : OpD X (binaryOp .Add) oAdd := (od_addI.or (od_addS.or (od_addL.or od_addT))).eq fun x y => by
  cases x <;> cases y <;> simp [oAdd, oAddI, oAddS, oAddL, oAddT]
theorem rep_flat {l : List D} {vs : List V} (r : RepL K F l vs) (k : Nat) : RepL K F (List.replicate k l).flatten (List.replicate k vs).flatten := by
  induction k with
  | zero => exact RepL.nil
  | succ k ih =>
    rw [List.replicate_succ, List.replicate_succ, List.flatten_cons, List.flatten_cons]
    exact r.append ih
theorem od_mulL : OpD X (binaryOp .Mult) oMulL := ⟨_, op_rep, fun x y z e F H v w Q s rx ry k => by
  cases x <;> cases y <;> simp [oMulL] at e
  rename_i xs i
  obtain ⟨⟨h1, h2, h3⟩, rfl⟩ := e
  simp only [Rep] at rx ry
  obtain ⟨a, vs, e1, g1, r1⟩ := rx
  refine ⟨a, _, vs, e1, ry, s _ _ g1, by omega, by omega, sizeLine_ok (by rw [← r1.length]; exact h3), fun p hp => k _ _ _ (.new s hp) ?_⟩
  have z := same_upd (o := .lst (List.replicate i.toNat vs).flatten) (fresh_F s hp)
  simp only [Rep]
  exact ⟨p, _, rfl, upd_same, rep_flat (RepL.mono z _ _ r1) _⟩⟩
theorem od_mul : OpD X (binaryOp .Mult) oMul := (od_mulI.or od_mulL).eq fun x y => by
  cases x <;> cases y <;> simp [oMul, oMulI, oMulL]
theorem od_lt : OpD X (compareOp .Lt) oLt := opd_I0 (g := fun i j => .bl (decide (i < j))) op_lt (fun F i j => by simp [Rep]) fun x y z e => by
  cases x <;> cases y <;> simp [oLt] at e
  exact ⟨_, _, rfl, rfl, e.symm⟩
theorem od_le : OpD X (compareOp .LtE) oLe := opd_I0 (g := fun i j => .bl (decide (i ≤ j))) op_le (fun F i j => by simp [Rep]) fun x y z e => by
  cases x <;> cases y <;> simp [oLe] at e
  exact ⟨_, _, rfl, rfl, e.symm⟩
theorem od_gt : OpD X (compareOp .Gt) oGt := opd_I0 (g := fun i j => .bl (decide (j < i))) op_gt (fun F i j => by simp [Rep]) fun x y z e => by
  cases x <;> cases y <;> simp [oGt] at e
  exact ⟨_, _, rfl, rfl, e.symm⟩
theorem od_ge : OpD X (compareOp .GtE) oGe := opd_I0 (g := fun i j => .bl (decide (j ≤ i))) op_ge (fun F i j => by simp [Rep]) fun x y z e => by
  cases x <;> cases y <;> simp [oGe] at e
  exact ⟨_, _, rfl, rfl, e.symm⟩

/-! ### == -/
mutual
theorem py_dp : ∀ (d : D) (v : V) (p : PyData), Rep K F d v → py d = some p → Dp K F v p
  | .non, v, p, r, e => by simp only [Rep] at r; subst r; cases e; exact .non
  | .bl b, v, p, r, e => by simp only [Rep] at r; subst r; cases e; exact .bl b
  | .int i, v, p, r, e => by simp only [Rep] at r; subst r; cases e; exact .int i
  | .str x, v, p, r, e => by simp only [Rep] at r; subst r; cases e; exact .str x
  | .tup ds, v, p, r, e => by
    simp only [Rep] at r
    obtain ⟨a, vs, rfl, h, r⟩ := r
    unfold py at e
    cases q : pyL ds with
    | none => simp [q] at e
    | some ys =>
      simp only [q] at e
      cases e
      exact .tup h.sq (pyL_dp ds vs ys r q)
  | .lst ds, v, p, r, e => by
    simp only [Rep] at r
    obtain ⟨a, vs, rfl, h, r⟩ := r
    unfold py at e
    cases q : pyL ds with
    | none => simp [q] at e
    | some ys =>
      simp only [q] at e
      cases e
      exact .lst (Evl.sq_of h) (pyL_dp ds vs ys r q)
  | .ins _ _, _, _, _, e => by cases e
  | .scr _, _, _, _, e => by cases e
theorem pyL_dp : ∀ (ds : List D) (vs : List V) (ps : List PyData), RepL K F ds vs → pyL ds = some ps → DpAll K F vs ps
  | [], vs, ps, r, e => by simp only [RepL] at r; subst r; cases e; exact .nil
  | d :: ds, vs, ps, r, e => by
    simp only [RepL] at r
    obtain ⟨v, ws, rfl, r1, r2⟩ := r
    unfold pyL at e
    cases q : py d with
    | none => simp [q] at e
    | some y =>
      cases q2 : pyL ds with
      | none => simp [q, q2] at e
      | some ys =>
        simp only [q, q2] at e
        cases e
        exact .cons (py_dp d v y r1 q) (pyL_dp ds ws ys r2 q2)
end
mutual
theorem Dp.mono {F F' : Hp} (s : Same F F') : ∀ (p : PyData) (v : V), Dp K F v p → Dp K F' v p
  | .none, v, h => by cases h; exact .non
  | .bool b, v, h => by cases h; exact .bl b
  | .int i, v, h => by cases h; exact .int i
  | .str x, v, h => by cases h; exact .str x
  | .list ds, v, h => by
    cases h with
    | lst h1 h2 => exact .lst (seqL s h1) (DpAll.mono s ds _ h2)
  | .tuple ds, v, h => by
    cases h with
    | tup h1 h2 => exact .tup (seqT s h1) (DpAll.mono s ds _ h2)
  | .dict _, v, h => by cases h
theorem DpAll.mono {F F' : Hp} (s : Same F F') : ∀ (ps : List PyData) (vs : List V), DpAll K F vs ps → DpAll K F' vs ps
  | [], vs, h => by cases h; exact .nil
  | p :: ps, vs, h => by
    cases h with
    | cons h1 h2 => exact .cons (Dp.mono s p _ h1) (DpAll.mono s ps _ h2)
end
theorem rep_scal {x y : D} {v w : V} {b : Bool} (rx : Rep K F x v) (ry : Rep K F y w) (e : oEqS x y = some b) : scal v w = true ∧ b = decide (v = w) := by
  cases x <;> cases y <;> simp [oEqS] at e <;> simp only [Rep] at rx ry <;> subst rx ry <;> subst e <;> simp [scal]
theorem od_eqS : OpD X (compareOp .Eq) (fun x y => (oEqS x y).map fun b => .bl b) := ⟨_, op_eq, fun x y z e F H v w Q s rx ry k => by
  obtain ⟨b, e1, e2⟩ := Option.map_eq_some_iff.mp e
  subst e2
  obtain ⟨h1, h2⟩ := rep_scal rx ry e1
  exact ⟨h1, k _ F H (.refl s) (by simp [Rep, h2])⟩⟩
theorem od_neS : OpD X (compareOp .NotEq) (fun x y => (oEqS x y).map fun b => .bl (!b)) := ⟨_, op_ne, fun x y z e F H v w Q s rx ry k => by
  obtain ⟨b, e1, e2⟩ := Option.map_eq_some_iff.mp e
  subst e2
  obtain ⟨h1, h2⟩ := rep_scal rx ry e1
  exact ⟨h1, k _ F H (.refl s) (by simp [Rep, h2])⟩⟩
theorem oEqD_some {x y : D} {b : Bool} (e : oEqD x y = some b) : ∃ d p, py x = some d ∧ py y = some p ∧ SeqAt.shaped d = true ∧ SeqAt.shaped p = true ∧ b = PyData.eqv d p := by
  unfold oEqD at e
  cases q : py x with
  | none => simp [q] at e
  | some d =>
    cases q2 : py y with
    | none => simp [q, q2] at e
    | some p =>
      simp only [q, q2] at e
      split at e
      · rename_i h
        cases e
        exact ⟨d, p, rfl, rfl, h.1, h.2, rfl⟩
      · cases e
theorem od_eqD (hu : X.A.units + 64 < cLine) : OpD X (compareOp .Eq) (fun x y => (oEqD x y).map fun b => .bl b) := ⟨_, op_eqD hu, fun x y z e F H v w Q s rx ry k => by
  obtain ⟨b, e1, e2⟩ := Option.map_eq_some_iff.mp e
  subst e2
  obtain ⟨d, p, h1, h2, h3, h4, rfl⟩ := oEqD_some e1
  exact ⟨d, p, Dp.mono s _ _ (py_dp _ _ _ rx h1), Dp.mono s _ _ (py_dp _ _ _ ry h2), h3, h4, k _ F H (.refl s) (by simp [Rep])⟩⟩
theorem od_neD (hu : X.A.units + 64 < cLine) : OpD X (compareOp .NotEq) (fun x y => (oEqD x y).map fun b => .bl (!b)) := ⟨_, op_neD hu, fun x y z e F H v w Q s rx ry k => by
  obtain ⟨b, e1, e2⟩ := Option.map_eq_some_iff.mp e
  subst e2
  obtain ⟨d, p, h1, h2, h3, h4, rfl⟩ := oEqD_some e1
  exact ⟨d, p, Dp.mono s _ _ (py_dp _ _ _ rx h1), Dp.mono s _ _ (py_dp _ _ _ ry h2), h3, h4, k _ F H (.refl s) (by simp [Rep])⟩⟩
theorem od_eq (hu : X.A.units + 64 < cLine) : OpD X (compareOp .Eq) oEq := (od_eqS.or (od_eqD hu)).eq fun x y => by
  unfold oEq dEq
  cases oEqS x y <;> rfl
theorem od_ne (hu : X.A.units + 64 < cLine) : OpD X (compareOp .NotEq) oNe := (od_neS.or (od_neD hu)).eq fun x y => by
  unfold oNe dEq
  cases oEqS x y <;> rfl

/-! ### in -/
theorem rep_flatD {x : D} {v : V} (h : flatD x = true) (r : Rep K F x v) : flatV v = true := by
  cases x <;> simp [flatD] at h <;> simp only [Rep] at r <;> subst r <;> rfl
theorem rep_flatL : ∀ {xs : List D} {vs : List V}, xs.all flatD = true → RepL K F xs vs → vs.all flatV = true
  | [], vs, _, r => by simp only [RepL] at r; subst r; rfl
  | x :: xs, vs, h, r => by
    simp only [RepL] at r
    obtain ⟨v, ws, rfl, r1, r2⟩ := r
    simp only [List.all_cons, Bool.and_eq_true] at h ⊢
    exact ⟨rep_flatD h.1 r1, rep_flatL h.2 r2⟩
theorem rep_eqF {x y : D} {v w : V} (hx : flatD x = true) (hy : flatD y = true) (rx : Rep K F x v) (ry : Rep K F y w) : eqF x y = eqV v w := by
  cases x <;> simp [flatD] at hx <;> cases y <;> simp [flatD] at hy <;> simp only [Rep] at rx ry <;> subst rx ry <;> rfl
theorem rep_inF {x : D} {v : V} (hx : flatD x = true) (rx : Rep K F x v) : ∀ {xs : List D} {vs : List V}, xs.all flatD = true → RepL K F xs vs → (xs.any fun y => eqF y x) = inV v vs
  | [], vs, _, r => by simp only [RepL] at r; subst r; rfl
  | y :: xs, vs, h, r => by
    simp only [RepL] at r
    obtain ⟨w, ws, rfl, r1, r2⟩ := r
    simp only [List.all_cons, Bool.and_eq_true] at h
    have ih := rep_inF hx rx h.2 r2
    unfold inV at ih ⊢
    rw [List.any_cons, List.any_cons, ih, rep_eqF h.1 hx r1 rx]
theorem inFO_some {x : D} {xs : List D} {b : Bool} (e : inFO x xs = some b) : flatD x = true ∧ xs.all flatD = true ∧ b = xs.any fun y => eqF y x := by
  unfold inFO at e
  split at e
  · rename_i h
    cases e
    exact ⟨h.1, h.2, rfl⟩
  · cases e
def seqInF (neg : Bool) (x y : D) : Option D := match seqOf y with
  | some xs => (inFO x xs).map fun b => .bl (if neg then !b else b)
  | none => none
theorem rep_seq {y : D} {w : V} {xs : List D} (s : Same F H) (ry : Rep K F y w) (e : seqOf y = some xs) : ∃ p vs, w = .ref p ∧ (SqL K H p vs ∨ SqT K H p vs) ∧ RepL K F xs vs := by
  cases y <;> simp [seqOf] at e
  · subst e
    simp only [Rep] at ry
    obtain ⟨a, vs, h1, h2, h3⟩ := ry
    exact ⟨a, vs, h1, .inr (seqT s h2.sq), h3⟩
  · subst e
    simp only [Rep] at ry
    obtain ⟨a, vs, h1, h2, h3⟩ := ry
    exact ⟨a, vs, h1, .inl (seqL s (Evl.sq_of h2)), h3⟩
theorem od_inF : OpD X (compareOp .In) (seqInF false) := ⟨_, op_in_seq, fun x y z e F H v w Q s rx ry k => by
  unfold seqInF at e
  cases q : seqOf y with
  | none => simp [q] at e
  | some xs =>
    simp only [q] at e
    obtain ⟨b, e1, e2⟩ := Option.map_eq_some_iff.mp e
    subst e2
    obtain ⟨h1, h2, rfl⟩ := inFO_some e1
    obtain ⟨p, vs, rfl, hs, r⟩ := rep_seq s ry q
    exact ⟨p, vs, rfl, hs, rep_flatD h1 rx, rep_flatL h2 r, k _ F H (.refl s) (by simp [Rep, rep_inF h1 rx h2 r])⟩⟩
theorem od_notInF : OpD X (compareOp .NotIn) (seqInF true) := ⟨_, op_notIn_seq, fun x y z e F H v w Q s rx ry k => by
  unfold seqInF at e
  cases q : seqOf y with
  | none => simp [q] at e
  | some xs =>
    simp only [q] at e
    obtain ⟨b, e1, e2⟩ := Option.map_eq_some_iff.mp e
    subst e2
    obtain ⟨h1, h2, rfl⟩ := inFO_some e1
    obtain ⟨p, vs, rfl, hs, r⟩ := rep_seq s ry q
    exact ⟨p, vs, rfl, hs, rep_flatD h1 rx, rep_flatL h2 r, k _ F H (.refl s) (by simp [Rep, rep_inF h1 rx h2 r])⟩⟩
def lstInD (neg : Bool) (x y : D) : Option D := match y with
  | .lst xs => (inDO x xs).map fun b => .bl (if neg then !b else b)
  | _ => none
theorem inDO_some {x : D} {xs : List D} {b : Bool} (e : inDO x xs = some b) : ∃ d ds, py x = some d ∧ pyL xs = some ds ∧ SeqAt.shaped d = true ∧ SeqAt.shaped (.list ds) = true ∧ b = ds.any fun z => PyData.eqv z d := by
  unfold inDO at e
  cases q : py x with
  | none => simp [q] at e
  | some d =>
    cases q2 : pyL xs with
    | none => simp [q, q2] at e
    | some p =>
      simp only [q, q2] at e
      split at e
      · rename_i h
        cases e
        exact ⟨d, p, rfl, rfl, h.1, h.2, rfl⟩
      · cases e
theorem od_inD (hu : X.A.units + 65 < cLine) : OpD X (compareOp .In) (lstInD false) := ⟨_, op_inD hu, fun x y z e F H v w Q s rx ry k => by
  cases y <;> try (simp [lstInD] at e; done)
  rename_i xs
  obtain ⟨b, e1, e2⟩ := Option.map_eq_some_iff.mp (show (inDO x xs).map _ = some z from e)
  subst e2
  obtain ⟨d, ds, h1, h2, h3, h4, rfl⟩ := inDO_some e1
  exact ⟨d, ds, Dp.mono s _ _ (py_dp _ _ _ rx h1), Dp.mono s _ _ (py_dp _ _ _ ry (by unfold py; rw [h2])), h3, h4, k _ F H (.refl s) (by simp [Rep])⟩⟩
theorem od_notInD (hu : X.A.units + 65 < cLine) : OpD X (compareOp .NotIn) (lstInD true) := ⟨_, op_notInD hu, fun x y z e F H v w Q s rx ry k => by
  cases y <;> try (simp [lstInD] at e; done)
  rename_i xs
  obtain ⟨b, e1, e2⟩ := Option.map_eq_some_iff.mp (show (inDO x xs).map _ = some z from e)
  subst e2
  obtain ⟨d, ds, h1, h2, h3, h4, rfl⟩ := inDO_some e1
  exact ⟨d, ds, Dp.mono s _ _ (py_dp _ _ _ rx h1), Dp.mono s _ _ (py_dp _ _ _ ry (by unfold py; rw [h2])), h3, h4, k _ F H (.refl s) (by simp [Rep])⟩⟩
theorem od_in (hu : X.A.units + 65 < cLine) : OpD X (compareOp .In) oIn := (od_inF.or (od_inD hu)).eq fun x y => by
  unfold oIn inO seqInF lstInD
  cases y <;> simp [seqOf]
  cases inFO x _ <;> simp
theorem od_notIn (hu : X.A.units + 65 < cLine) : OpD X (compareOp .NotIn) oNotIn := (od_notInF.or (od_notInD hu)).eq fun x y => by
  unfold oNotIn inO seqInF lstInD
  cases y <;> simp [seqOf]
  cases inFO x _ <;> simp

/-! ### is -/
def oIsN : D → D → Option D
  | .non, .non => some (.bl true)
  | _, .non => some (.bl false)
  | _, _ => none
def oIsB : D → D → Option D
  | .bl a, .bl b => some (.bl (decide (a = b)))
  | _, _ => none
def oNotN : D → D → Option D
  | .non, .non => some (.bl false)
  | _, .non => some (.bl true)
  | _, _ => none
def oNotB : D → D → Option D
  | .bl a, .bl b => some (.bl (!decide (a = b)))
  | _, _ => none
theorem rep_non {x : D} {v : V} (r : Rep K F x v) : decide (v = .non) = (match x with
    | .non => true
    | _ => false) := by
  cases x <;> simp only [Rep] at r
  all_goals first
    | (subst r; simp)
    | (obtain ⟨a, vs, h, _⟩ := r; subst h; simp)
    | (obtain ⟨a, dx, vs, h, _⟩ := r; subst h; simp)
    | (obtain ⟨a, h, _⟩ := r; subst h; simp)
theorem od_isN : OpD X (compareOp .Is) oIsN := ⟨_, op_isN, fun x y z e F H v w Q s rx ry k => by
  have q := rep_non rx
  cases y <;> cases x <;> simp [oIsN] at e <;> subst e <;> simp only [Rep] at ry <;> subst ry <;> exact ⟨rfl, k _ F H (.refl s) (by simp only [Rep, q])⟩⟩
theorem od_notN : OpD X (compareOp .IsNot) oNotN := ⟨_, op_notN, fun x y z e F H v w Q s rx ry k => by
  have q := rep_non rx
  cases y <;> cases x <;> simp [oNotN] at e <;> subst e <;> simp only [Rep] at ry <;> subst ry <;> exact ⟨rfl, k _ F H (.refl s) (by simp only [Rep, q]; rfl)⟩⟩
theorem od_isB : OpD X (compareOp .Is) oIsB := ⟨_, op_isBl, fun x y z e F H v w Q s rx ry k => by
  cases x <;> cases y <;> simp [oIsB] at e
  subst e
  simp only [Rep] at rx ry
  exact ⟨_, _, rx, ry, k _ F H (.refl s) (by simp [Rep])⟩⟩
theorem od_notB : OpD X (compareOp .IsNot) oNotB := ⟨_, op_notBl, fun x y z e F H v w Q s rx ry k => by
  cases x <;> cases y <;> simp [oNotB] at e
  subst e
  simp only [Rep] at rx ry
  exact ⟨_, _, rx, ry, k _ F H (.refl s) (by simp [Rep])⟩⟩
theorem od_is : OpD X (compareOp .Is) oIs := (od_isN.or od_isB).eq fun x y => by
  cases x <;> cases y <;> simp [oIs, oIsN, oIsB]
theorem od_isNot : OpD X (compareOp .IsNot) oIsNot := (od_notN.or od_notB).eq fun x y => by
  cases x <;> cases y <;> simp [oIsNot, oNotN, oNotB]

/-! ### subscripts -/
theorem rep_at {xs : List D} {vs : List V} {i : Int} {d : D} (r : RepL K F xs vs) (h : atI xs i = some d) : ∃ v, atI vs i = some v ∧ Rep K F d v := by
  unfold atI at h ⊢
  rw [← r.length]
  cases q : ixN xs.length i with
  | none => simp [q] at h
  | some j =>
    simp only [q, Option.bind_some] at h ⊢
    exact r.get h
theorem IxD.or {o o' : D → D → Option D} (h : IxD X o) (h' : IxD X o') : IxD X (fun x y => (o x y).or (o' x y)) := by
  obtain ⟨r, h1, h2⟩ := h.ex
  obtain ⟨r', h1', h2'⟩ := h'.ex
  refine ⟨fun x y H Q => r x y H Q ∨ r' x y H Q, fun a b pins s σ H x y v u Q I rx ry q => ?_, fun x y z e F H v w Q s rx ry k => ?_⟩
  · rcases q with q | q
    · exact h1 a b pins s σ H x y v u Q I rx ry q
    · exact h1' a b pins s σ H x y v u Q I rx ry q
  · cases q : o x y with
    | some z' =>
      rw [q] at e
      exact .inl (h2 x y z (by rw [q]; exact e) F H v w Q s rx ry k)
    | none =>
      rw [q] at e
      exact .inr (h2' x y z e F H v w Q s rx ry k)
theorem IxD.eq {o o' : D → D → Option D} (h : IxD X o) (e : ∀ x y, o' x y = o x y) : IxD X o' := by
  have : o' = o := funext fun x => funext fun y => e x y
  rw [this]
  exact h
def oIxL : D → D → Option D
  | .lst xs, .int i => atI xs i
  | _, _ => none
def oIxT : D → D → Option D
  | .tup xs, .int i => atI xs i
  | _, _ => none
def oIxS : D → D → Option D
  | .str s, .int i => if s.length ≤ 1000000 then (match atI s.cps.toList i with
    | some c => some (.str ⟨#[c]⟩)
    | none => none) else none
  | _, _ => none
theorem ixd_L : IxD X oIxL := ⟨_, ix_list, fun x y z e F H v w Q s rx ry k => by
  cases x <;> cases y <;> simp [oIxL] at e
  simp only [Rep] at rx ry
  obtain ⟨a, vs, rfl, h1, r⟩ := rx
  obtain ⟨u, e2, ru⟩ := rep_at r e
  exact ⟨a, vs, _, u, rfl, ry, seqL s (Evl.sq_of h1), e2, k _ F H (.refl s) ru⟩⟩
theorem ixd_T : IxD X oIxT := ⟨_, ix_tup, fun x y z e F H v w Q s rx ry k => by
  cases x <;> cases y <;> simp [oIxT] at e
  simp only [Rep] at rx ry
  obtain ⟨a, vs, rfl, h1, r⟩ := rx
  obtain ⟨u, e2, ru⟩ := rep_at r e
  exact ⟨a, vs, _, u, rfl, ry, seqT s h1.sq, e2, k _ F H (.refl s) ru⟩⟩
theorem ixd_S : IxD X oIxS := ⟨_, ix_str, fun x y z e F H v w Q s rx ry k => by
  cases x <;> cases y <;> simp only [oIxS] at e <;> try cases e
  split at e
  · rename_i hl
    split at e
    · rename_i c hc
      cases e
      simp only [Rep] at rx ry
      exact ⟨_, _, c, rx, ry, sizeLine_ok hl, hc, k _ F H (.refl s) (by simp [Rep])⟩
    · cases e
  · cases e⟩
theorem ixd : IxD X oIx := (ixd_L.or (ixd_T.or ixd_S)).eq fun x y => by
  cases x <;> cases y <;> simp [oIx, oIxL, oIxT, oIxS]
end
end Dn

set_option Elab.async false
set_option linter.all false
set_option maxRecDepth 100000
set_option maxHeartbeats 4000000
namespace Dn
open PySem PySem.Spec L2

def oLen : List D → Option D
  | [.lst xs] => some (.int (xs.length : Nat))
  | [.tup xs] => some (.int (xs.length : Nat))
  | [.str s] => if s.length ≤ 1000000 then some (.int (s.length : Nat)) else none
  | _ => none
def oInt : List D → Option D
  | [.int i] => some (.int i)
  | [.bl b] => some (.int (if b then 1 else 0))
  | _ => none
def oAbs : List D → Option D
  | [.int i] => some (.int (if i < 0 then -i else i))
  | _ => none
def oTuple : List D → Option D
  | [.lst xs] => some (.tup xs)
  | [.tup xs] => some (.tup xs)
  | _ => none
def oList : List D → Option (List D)
  | [.lst xs] => some xs
  | [.tup xs] => some xs
  | _ => none
def bls : List D → Option (List Bool)
  | [] => some []
  | .bl b :: r => (bls r).map (b :: ·)
  | _ => none
def oAll : List D → Option D
  | [.lst xs] => (bls xs).map fun bs => .bl (bs.all id)
  | _ => none
def oAny : List D → Option D
  | [.lst xs] => (bls xs).map fun bs => .bl (bs.any id)
  | _ => none
section
variable {X : Cx} {K : PySem.W.Frag} {F H : Hp}
theorem CallD.eq {f : Value} {o o' : List D → Option D} (h : CallD X f o) (e : ∀ x, o' x = o x) : CallD X f o' := by
  have : o' = o := funext e
  rw [this]
  exact h
theorem cd_len : CallD X (.builtin "len") oLen := ⟨_, call_len, fun xs z e F H vs Q s r k => by
  unfold oLen at e
  split at e
  · cases e
    simp only [RepL, Rep] at r
    obtain ⟨v, ws, rfl, ⟨a, us, rfl, h1, r1⟩, rfl⟩ := r
    exact ⟨_, _, rfl, .inl ⟨us, seqL s (Evl.sq_of h1), r1.length⟩, k _ F H (.refl s) (by simp [Rep])⟩
  · cases e
    simp only [RepL, Rep] at r
    obtain ⟨v, ws, rfl, ⟨a, us, rfl, h1, r1⟩, rfl⟩ := r
    exact ⟨_, _, rfl, .inr ⟨us, seqT s h1.sq, r1.length⟩, k _ F H (.refl s) (by simp [Rep])⟩
  · split at e
    · rename_i hl
      cases e
      simp only [RepL, Rep] at r
      obtain ⟨v, ws, rfl, rfl, rfl⟩ := r
      exact ⟨_, _, rfl, ⟨sizeLine_ok hl, rfl⟩, k _ F H (.refl s) (by simp [Rep])⟩
    · cases e
  · cases e⟩
theorem cd_int : CallD X (.type "int") oInt := ⟨_, call_int1, fun xs z e F H vs Q s r k => by
  unfold oInt at e
  split at e
  · cases e
    simp only [RepL, Rep] at r
    obtain ⟨v, ws, rfl, rfl, rfl⟩ := r
    exact .inl ⟨_, rfl, k _ F H (.refl s) (by simp [Rep])⟩
  · cases e
    simp only [RepL, Rep] at r
    obtain ⟨v, ws, rfl, rfl, rfl⟩ := r
    exact .inr ⟨_, rfl, k _ F H (.refl s) (by simp [Rep])⟩
  · cases e⟩
theorem cd_abs : CallD X (.builtin "abs") oAbs := ⟨_, call_abs, fun xs z e F H vs Q s r k => by
  unfold oAbs at e
  split at e
  · cases e
    simp only [RepL, Rep] at r
    obtain ⟨v, ws, rfl, rfl, rfl⟩ := r
    exact ⟨_, rfl, k _ F H (.refl s) (by simp [Rep])⟩
  · cases e⟩
theorem cd_tuple : CallD X (.type "tuple") oTuple := ⟨_, call_tuple_of, fun xs z e F H vs Q s r k => by
  unfold oTuple at e
  split at e
  · cases e
    simp only [RepL, Rep] at r
    obtain ⟨v, ws, rfl, ⟨a, us, rfl, h1, r1⟩, rfl⟩ := r
    refine ⟨a, us, rfl, .inl ⟨seqL s (Evl.sq_of h1), fun p hp => k _ _ _ (.new s hp) ?_⟩⟩
    simp only [Rep]
    exact ⟨p, us, rfl, .inl upd_same, RepL.mono (same_upd (fresh_F s hp)) _ _ r1⟩
  · cases e
    simp only [RepL, Rep] at r
    obtain ⟨v, ws, rfl, ⟨a, us, rfl, h1, r1⟩, rfl⟩ := r
    refine ⟨a, us, rfl, .inr ⟨seqT s h1.sq, k _ F H (.refl s) ?_⟩⟩
    simp only [Rep]
    exact ⟨a, us, rfl, h1, r1⟩
  · cases e⟩
theorem bls_map : ∀ {xs : List D} {bs : List Bool} {vs : List V}, bls xs = some bs → RepL K F xs vs → vs = bs.map V.bl
  | [], bs, vs, e, r => by
    cases e
    simp only [RepL] at r
    exact r
  | .bl b :: xs, bs, vs, e, r => by
    simp only [bls, Option.map_eq_some_iff] at e
    obtain ⟨cs, e1, e2⟩ := e
    subst e2
    simp only [RepL, Rep] at r
    obtain ⟨v, ws, rfl, rfl, r⟩ := r
    rw [bls_map e1 r]
    rfl
  | .non :: xs, bs, vs, e, r => by simp [bls] at e
  | .int _ :: xs, bs, vs, e, r => by simp [bls] at e
  | .str _ :: xs, bs, vs, e, r => by simp [bls] at e
  | .tup _ :: xs, bs, vs, e, r => by simp [bls] at e
  | .lst _ :: xs, bs, vs, e, r => by simp [bls] at e
  | .ins _ _ :: xs, bs, vs, e, r => by simp [bls] at e
  | .scr _ :: xs, bs, vs, e, r => by simp [bls] at e
theorem cd_all (hc : X.calm = true) : CallD X (.builtin "all") oAll := ⟨_, cr_all hc, fun xs z e F H vs Q s r k => by
  unfold oAll at e
  split at e
  · obtain ⟨bs, e1, rfl⟩ := Option.map_eq_some_iff.mp e
    simp only [RepL, Rep] at r
    obtain ⟨v, ws, rfl, ⟨a, us, rfl, h1, r1⟩, rfl⟩ := r
    have q := bls_map e1 r1
    subst q
    exact ⟨a, bs, rfl, seqL s (Evl.sq_of h1), k _ F H (.refl s) (by simp [Rep])⟩
  · cases e⟩
theorem cd_any (hc : X.calm = true) : CallD X (.builtin "any") oAny := ⟨_, cr_any hc, fun xs z e F H vs Q s r k => by
  unfold oAny at e
  split at e
  · obtain ⟨bs, e1, rfl⟩ := Option.map_eq_some_iff.mp e
    simp only [RepL, Rep] at r
    obtain ⟨v, ws, rfl, ⟨a, us, rfl, h1, r1⟩, rfl⟩ := r
    have q := bls_map e1 r1
    subst q
    exact ⟨a, bs, rfl, seqL s (Evl.sq_of h1), k _ F H (.refl s) (by simp [Rep])⟩
  · cases e⟩
/-- a built-in that makes a new list -/
structure CallF (X : Cx) (f : Value) (o : List D → Option (List D)) : Prop where
  ex : ∃ r : List V → Hp → VK → Prop, CallR X f r ∧ ∀ xs zs, o xs = some zs → ∀ F H vs Q, Same F H → RepL X.K F xs vs → (∀ p us, H p = none → RepL X.K F zs us → Q (.ref p) (upd H p (.lst us))) → r vs H Q
theorem cf_list : CallF X (.type "list") oList := ⟨_, call_list_of, fun xs z e F H vs Q s r k => by
  unfold oList at e
  split at e
  · cases e
    simp only [RepL, Rep] at r
    obtain ⟨v, ws, rfl, ⟨a, us, rfl, h1, r1⟩, rfl⟩ := r
    exact ⟨a, us, rfl, .inl (seqL s (Evl.sq_of h1)), fun p hp => k p us hp r1⟩
  · cases e
    simp only [RepL, Rep] at r
    obtain ⟨v, ws, rfl, ⟨a, us, rfl, h1, r1⟩, rfl⟩ := r
    exact ⟨a, us, rfl, .inr (seqT s h1.sq), fun p hp => k p us hp r1⟩
  · cases e⟩
end
def sCallF (o : List D → Option (List D)) (a : SeL) : SeL := fun E => (a E).bind fun xs E1 => .opt (o xs) E1
structure OpF (X : Cx) (f : Value → Value → Sem Value) (o : D → D → Option (List D)) : Prop where
  ex : ∃ r : R2, OpR X f r ∧ ∀ x y zs, o x y = some zs → ∀ F H v w Q, Same F H → Rep X.K F x v → Rep X.K F y w → (∀ p us, H p = none → RepL X.K F zs us → Q (.ref p) (upd H p (.lst us))) → r v w H Q
def oCat : D → D → Option (List D)
  | .lst xs, .lst ys => if xs.length + ys.length ≤ 1000000 then some (xs ++ ys) else none
  | _, _ => none
def oRep : D → D → Option (List D)
  | .lst xs, .int k => if -1000 ≤ k ∧ k ≤ 1000000 ∧ xs.length * k.toNat ≤ 1000000 then some (List.replicate k.toNat xs).flatten else none
  | _, _ => none
def sBinF (o : D → D → Option (List D)) (a b : Se) : SeL := fun E => (a E).bind fun x E1 => (b E1).bind fun y E2 => .opt (o x y) E2
section
variable {X : Cx} {e0 : E0} {W : WX} {a b : Expr} {fa fb : Se} {pos : Pos} {es : List Expr} {g : SeL}
theorem PostF.opt {K : PySem.W.Frag} {o : Option (List D)} {Q : VK} {σ : St} {E E1 : Sto} {F H : Hp} (h : PostF K e0 W σ E F H (.opt o E1) Q) : ∃ a, o = some a ∧ PostF K e0 W σ E F H (.ok a E1) Q := by
  cases o with
  | some a => exact ⟨a, rfl, h⟩
  | none => exact h.elim
theorem PostF.fin {K : PySem.W.Frag} {zs : List D} {Q : VK} {σ : St} {E : Sto} {F H : Hp} (h : PostF K e0 W σ E F H (.ok zs E) Q) (S : SI K e0 F H σ E) {p : Addr} {us : List V} (hp : H p = none) (r : RepL K F zs us) : Q (.ref p) (upd H p (.lst us)) :=
  h p us F _ (S.grow (Alloc.newH S.sub hp)) (S.alloc (Alloc.newH S.sub hp)) hp (fresh_F S.sub hp) upd_same r
theorem df_callTy {T : String} {x : Str} {p : Pos} {e : Expr} {o : List D → Option (List D)} (hc : CallF X (.type T) o) (hg : Gl X x) (hm : X.mg x = none) (hv : bootBuiltins x = some (.type T)) (ha : DA X e0 W (e :: es) g) (hn : x ≠ "__name__" := by decide) (hdb : (x == ("__debug__" : Str)) = false := by decide)
    (he : starEach (e :: es) X.env = (false, eval e X.env) :: starEach es X.env := by rfl) (hpl : (backTo pos (starEach es X.env)).any (·.1) = false := by rfl) : DF X e0 W (.Call (.Name x p) (e :: es) [] pos) (sCallF o g) := by
  obtain ⟨r, h1, h2⟩ := hc.ex
  refine PE.weak (pe_callTy h1 hg hm hv ha hn hdb he hpl) fun σ H Q ⟨E, F, S, h⟩ => rdG_intro S (PostF.bind h fun xs vs E1 F1 H1 G1 S1 R1 h3 => ?_)
  obtain ⟨zs, e, h4⟩ := h3.opt
  exact h2 xs zs e F1 H1 vs Q S1.sub R1 fun p us hp r => h4.fin S1 hp r
theorem of_cat : OpF X (binaryOp .Add) oCat := ⟨_, op_cat, fun x y z e F H v w Q s rx ry k => by
  cases x <;> cases y <;> simp [oCat] at e
  obtain ⟨hl, rfl⟩ := e
  simp only [Rep] at rx ry
  obtain ⟨a, vs, e1, h1, r1⟩ := rx
  obtain ⟨b, ws, e2, h2, r2⟩ := ry
  exact ⟨a, b, vs, ws, e1, e2, s _ _ h1, s _ _ h2, sizeLine_ok (by rw [← r1.length, ← r2.length]; exact hl), fun p hp => k p _ hp (r1.append r2)⟩⟩
theorem of_rep : OpF X (binaryOp .Mult) oRep := ⟨_, op_rep, fun x y z e F H v w Q s rx ry k => by
  cases x <;> cases y <;> simp [oRep] at e
  rename_i xs i
  obtain ⟨⟨h1, h2, h3⟩, rfl⟩ := e
  simp only [Rep] at rx ry
  obtain ⟨a, vs, e1, g1, r1⟩ := rx
  exact ⟨a, _, vs, e1, ry, s _ _ g1, by omega, by omega, sizeLine_ok (by rw [← r1.length]; exact h3), fun p hp => k p _ hp (rep_flat r1 _)⟩⟩
theorem df_op {op : Operator} {o : D → D → Option (List D)} (ho : OpF X (binaryOp op) o) (ha : DX X e0 W a fa) (hb : DX X e0 W b fb) : DF X e0 W (.BinOp a op b pos) (sBinF o fa fb) := by
  obtain ⟨r, h1, h2⟩ := ho.ex
  refine PE.weak (pe_op h1 ha hb) fun σ H Q ⟨E, F, S, h⟩ => rdG_intro S (PostF.bind h fun x v E1 F1 H1 G1 S1 R1 h3 => rdG_intro S1 (PostF.bind h3 fun y w E2 F2 H2 G2 S2 R2 h4 => ?_))
  obtain ⟨zs, e, h5⟩ := h4.opt
  exact h2 x y zs e F2 H2 v w Q S2.sub (Rep.mono G2.sF _ _ R1) R2 fun p us hp r => h5.fin S2 hp r
def chkLen (a : SeL) : SeL := fun E => (a E).bind fun xs E1 => if xs.length ≤ 1000000 then .ok xs E1 else .bad
theorem df_lst (h : DA X e0 W es g) : DF X e0 W (.List es pos) (chkLen g) := PE.weak (pe_lst h) fun σ H Q ⟨E, F, S, h⟩ => rdG_intro S (PostF.bind h fun xs vs E1 F1 H1 G1 S1 R1 h1 => by
  split at h1
  · rename_i hl
    exact ⟨sizeLine_ok (by rw [← R1.length]; exact hl), fun p hp => h1.fin S1 hp R1⟩
  · exact h1.elim)

/-! ### slices -/
def DO (X : Cx) (e0 : E0) (W : WX) (e : Option Expr) (f : Sto → Out (Option Int)) : Prop := PO X e (rdG X.K e0 W (fun _ (a b : Option Int) => a = b) f)
def oNo : Sto → Out (Option Int) := fun E => .ok none E
def oSome (a : Se) : Sto → Out (Option Int) := fun E => (a E).bind fun d E1 => match d with
  | .int i => .ok (some i) E1
  | _ => .bad
theorem PO.weak {X : Cx} {e : Option Expr} {t t' : TO} (h : PO X e t) (w : ∀ σ H Q, t' σ H Q → t σ H Q) : PO X e t' := ⟨fun pins s σ H Q I q => h.run pins s σ H Q I (w σ H Q q)⟩
theorem do_none : DO X e0 W none oNo := PO.weak po_none fun σ H Q ⟨E, F, S, h⟩ => h.fin0 S rfl
theorem do_some (h : DX X e0 W a fa) : DO X e0 W (some a) (oSome fa) := PO.weak (po_some h) fun σ H Q ⟨E, F, S, h⟩ => rdG_intro S (h.bind fun d v E1 F1 H1 G1 S1 R1 h1 => by
  cases d with
  | int i =>
    simp only [Rep] at R1
    exact ⟨i, R1, h1.fin0 S1 rfl⟩
  | _ => exact h1.elim)
def cutD {α : Type} (xs : List α) (lo hi : Option Int) : List α := (xs.drop (HT.sIx xs.length 0 lo)).take (HT.sIx xs.length xs.length hi - HT.sIx xs.length 0 lo)
def slD : D → Option Int → Option Int → Option D
  | .lst xs, lo, hi => some (.lst (cutD xs lo hi))
  | .tup xs, lo, hi => some (.tup (cutD xs lo hi))
  | .scr ns, lo, hi => some (.lst (cutD (ns.map .int) lo hi))
  | _, _, _ => none
def sSl (a : Se) (lo hi : Sto → Out (Option Int)) : Se := fun E => (a E).bind fun d E1 => (lo E1).bind fun l E2 => (hi E2).bind fun u E3 => .opt (slD d l u) E3
theorem rep_cut {K : PySem.W.Frag} {F : Hp} {xs : List D} {vs : List V} (r : RepL K F xs vs) (lo hi : Option Int) : RepL K F (cutD xs lo hi) (cutV vs lo hi) := by
  unfold cutD cutV
  rw [r.length]
  exact (r.drop _).take _
theorem cut_whole {α : Type} (xs : List α) (lo hi : Option Int) (h : HT.sIx xs.length 0 lo = 0 ∧ HT.sIx xs.length xs.length hi = xs.length) : cutD xs lo hi = xs := by
  unfold cutD
  rw [h.1, h.2]
  simp
theorem repL_ints {K : PySem.W.Frag} {F : Hp} : ∀ ns : List Int, RepL K F (ns.map D.int) (ns.map V.int)
  | [] => RepL.nil
  | n :: ns => RepL.cons (by simp [Rep]) (repL_ints ns)
theorem dx_sl {lo hi : Option Expr} {fl fh : Sto → Out (Option Int)} {p2 : Pos} (ha : DX X e0 W a fa) (hl : DO X e0 W lo fl) (hh : DO X e0 W hi fh) : DX X e0 W (.Subscript a (.Slice lo hi none p2) pos) (sSl fa fl fh) := by
  refine PE.weak (pe_slice (SlR.or sl_list sl_tupA) ha hl hh) fun σ H Q ⟨E, F, S, h⟩ => rdG_intro S (h.bind fun d v E1 F1 H1 G1 S1 R1 h1 => rdG_intro S1 (h1.bind fun l l' E2 F2 H2 G2 S2 R2 h2 => rdG_intro S2 (h2.bind fun u u' E3 F3 H3 G3 S3 R3 h3 => ?_)))
  subst R2 R3
  have R1' := Rep.mono (Same.tr G2.sF G3.sF) _ _ R1
  obtain ⟨z, e, h4⟩ := h3.opt
  cases d <;> simp [slD] at e
  · subst e
    simp only [Rep] at R1'
    obtain ⟨p, vs, rfl, k1, r1⟩ := R1'
    refine .inr ⟨p, vs, rfl, seqT S3.sub k1.sq, fun w => ?_, fun w q hq => ?_⟩
    · refine h4.fin0 S3 ?_
      rw [cut_whole _ l u (by rw [r1.length]; exact w)]
      simp only [Rep]
      exact ⟨p, vs, rfl, k1, r1⟩
    · refine h4.fin S3 (.new S3.sub hq) ?_
      simp only [Rep]
      exact ⟨q, _, rfl, .inl upd_same, RepL.mono (same_upd (fresh_F S3.sub hq)) _ _ (rep_cut r1 l u)⟩
  · subst e
    simp only [Rep] at R1'
    obtain ⟨p, vs, rfl, k1, r1⟩ := R1'
    refine .inl ⟨p, vs, rfl, seqL S3.sub (Evl.sq_of k1), fun q hq => h4.fin S3 (.new S3.sub hq) ?_⟩
    simp only [Rep]
    exact ⟨q, _, rfl, upd_same, RepL.mono (same_upd (fresh_F S3.sub hq)) _ _ (rep_cut r1 l u)⟩
  · subst e
    simp only [Rep] at R1'
    obtain ⟨p, rfl, k1⟩ := R1'
    refine .inl ⟨p, _, rfl, seqL S3.sub k1, fun q hq => h4.fin S3 (.new S3.sub hq) ?_⟩
    simp only [Rep]
    exact ⟨q, _, rfl, upd_same, rep_cut (repL_ints _) l u⟩

/-! ### isinstance -/
def tyD (K : PySem.W.Frag) : D → Value
  | .non => .type "NoneType"
  | .bl _ => .type "bool"
  | .int _ => .type "int"
  | .str _ => .type "str"
  | .tup _ => .type "tuple"
  | .lst _ => .type "list"
  | .scr _ => .type "list"
  | .ins c _ => .ref (He.ga K (clsName c))
/-- what an instance's class must be told for isinstance -/
structure InsOk (K : PySem.W.Frag) (c : Nat) : Prop where
  cl : Cls K (He.ga K (clsName c))
  ha : PySem.W.findIn K (.ref (He.ga K (clsName c))) "__class__" = some (some (.builtin "object.__class__"))
  hn : PySem.W.specialIn K (.builtin "object.__class__") "__get__" = some (some (.builtin "getset_descriptor.__get__"))
  htk : PySem.W.takesIn K (.builtin "object.__class__") = some true
  hm : PySem.W.mroIn K (He.ga K (clsName c)) (.type "object") = some true
structure IsiOk (K : PySem.W.Frag) (T : Value) (k : D → Option Bool) : Prop where
  ok : ∀ d b, k d = some b → PySem.W.kitOne K (tyD K d) T = some b ∧ (∀ c xs, d = .ins c xs → InsOk K c) ∧ ∀ ns, d ≠ .scr ns
def sIsi (k : D → Option Bool) (a : Se) : Se := fun E => (a E).bind fun d E1 => match k d with
  | some b => .ok (.bl b) E1
  | none => .bad
theorem rep_ty {K : PySem.W.Frag} {F H : Hp} (s : Same F H) {d : D} {v : V} (r : Rep K F d v) (hi : ∀ c xs, d = .ins c xs → InsOk K c) (hs : ∀ ns, d ≠ .scr ns) : TyX K H v (tyD K d) := by
  cases d <;> simp only [Rep] at r
  · subst r; exact .base .non
  · subst r; exact .base (.bl _)
  · subst r; exact .base (.int _)
  · subst r; exact .base (.str _)
  · obtain ⟨a, vs, rfl, h, _⟩ := r
    exact (h.mono s).ty
  · obtain ⟨a, vs, rfl, h, _⟩ := r
    exact .base (.lst (s _ _ h))
  · obtain ⟨a, dx, vs, rfl, h, _⟩ := r
    have q := hi _ _ rfl
    exact .base (.ins (s _ _ h) q.cl q.ha q.hn q.htk q.hm)
  · exact (hs _ rfl).elim
theorem dx_isi {T : Value} {vT : V} {k : D → Option Bool} {x : Str} {p : Pos} {eT : Expr} (K : IsiOk X.K T k) (hT : PE X eT (tC vT)) (cT : ClsV vT T) (hg : Gl X x) (hm : X.mg x = none) (hv : bootBuiltins x = some (.builtin "isinstance")) (ha : DX X e0 W a fa) (hn : x ≠ "__name__" := by decide) (hdb : (x == ("__debug__" : Str)) = false := by decide)
    (hs1 : starEach [eT] X.env = (false, eval eT X.env) :: starEach [] X.env := by rfl) (he : starEach (a :: [eT]) X.env = (false, eval a X.env) :: starEach [eT] X.env := by rfl) (hpl : (backTo pos (starEach [eT] X.env)).any (·.1) = false := by rfl) :
    DX X e0 W (.Call (.Name x p) [a, eT] [] pos) (sIsi k fa) := by
  refine PE.weak (pe_callB call_isi hg hm hv (pa_cons ha (pa_cons hT pa_nil hs1) he) hn hdb he hpl) fun σ H Q ⟨E, F, S, h⟩ => rdG_intro S (h.bind fun d v E1 F1 H1 G1 S1 R1 h1 => ?_)
  cases q : k d with
  | none =>
    simp only [q] at h1
    exact h1.elim
  | some b =>
    simp only [q] at h1
    obtain ⟨k1, k2, k3⟩ := K.ok d b q
    exact ⟨v, vT, _, T, b, rfl, cT, rep_ty S1.sub R1 k2 k3, k1, h1.fin0 S1 (by simp [Rep])⟩

/-! ### an owned list read, changed -/
def sLenO (i : Nat) : Se := fun E => match cellAt E i with
  | some (_, cs) => .ok (.int (cs.length : Nat)) E
  | none => .bad
def sIxO (i : Nat) (b : Se) : Se := fun E => match cellAt E i with
  | none => .bad
  | some _ => (b E).bind fun k E1 => match cellAt E1 i with
    | some (_, cs) => .opt (oIx (.lst cs) k) E1
    | none => .bad
def sInO (o : D → D → Option D) (a : Se) (i : Nat) : Se := fun E => (a E).bind fun x E1 => match cellAt E1 i with
  | some (_, cs) => (match o x (.lst cs) with
    | some (.bl b) => .ok (.bl b) E1
    | _ => .bad)
  | none => .bad
def sTupO' (i : Nat) : Se := fun E => match cellAt E i with
  | some (_, cs) => .ok (.tup cs) E
  | none => .bad
def sAppend (i : Nat) (a : Se) : Ss := fun E => match cellAt E i with
  | none => .bad
  | some _ => (a E).then fun d E1 => match cellAt E1 i with
    | some (s, cs) => if cs.length < 1000000 then .nx (E1.set i (s.put (cs ++ [d]))) else .bad
    | none => .bad
def sExtend (i : Nat) (a : Se) : Ss := fun E => match cellAt E i with
  | none => .bad
  | some _ => (a E).then fun d E1 => match cellAt E1 i, d with
    | some (s, cs), .lst ds => if cs.length + ds.length ≤ 1000000 then .nx (E1.set i (s.put (cs ++ ds))) else .bad
    | _, _ => .bad
def sIxSet (i : Nat) (k a : Se) : Ss := fun E => (a E).then fun d E1 => match cellAt E1 i with
  | none => .bad
  | some _ => (k E1).then fun ki E2 => match cellAt E2 i, ki with
    | some (s, cs), .int j => (match ixN cs.length j with
      | some n => .nx (E2.set i (s.put (cs.set n d)))
      | none => .bad)
    | _, _ => .bad
def sPopAt (i : Nat) (a : Se) : Se := fun E => match cellAt E i with
  | none => .bad
  | some _ => (a E).bind fun k E1 => match cellAt E1 i, k with
    | some (s, cs), .int j => if -1000000 ≤ j ∧ j ≤ 1000000 then (match ixN cs.length j with
      | some n => (match cs[n]? with
        | some d => .ok d (E1.set i (s.put (cs.eraseIdx n)))
        | none => .bad)
      | none => .bad) else .bad
    | _, _ => .bad
variable {y : Str} {i : Nat} {p p2 : Pos} {K : PySem.W.Frag} {F H : Hp} {σ : St} {E : Sto}
theorem cell_open (S : SI K e0 F H σ E) {s : Sl} {cs : List D} (z : cellAt E i = some (s, cs)) : ∃ p vs, σ[i]? = some (some (.ref p)) ∧ H p = some (.lst vs) ∧ F p = none ∧ RepL K F cs vs := by
  obtain ⟨z1, z2⟩ := cellAt_some z
  obtain ⟨p, vs, a1, a2, a3, a4, _⟩ := S.at_cell z1 z2
  exact ⟨p, vs, a1, a2, a3, a4⟩
theorem dx_lenO {x : Str} (hg : Gl X x) (hm : X.mg x = none) (hv : bootBuiltins x = some (.builtin "len")) (hN : X.N[i]? = some y) (hvis : Vis X.env.scope y) (hd : (y == ("__debug__" : Str)) = false := by decide) (hcd : (y == ("__classdict__" : Str)) = false := by decide)
    (hn : x ≠ "__name__" := by decide) (hdb : (x == ("__debug__" : Str)) = false := by decide) : DX X e0 W (.Call (.Name x p) [.Name y p2] [] pos) (sLenO i) := by
  refine PE.weak (pe_callB call_len hg hm hv (pa_cons (pe_var hN hvis hd hcd) pa_nil) hn hdb) fun σ H Q ⟨E, F, S, h⟩ => ?_
  unfold sLenO at h
  cases z : cellAt E i with
  | none => simp only [z] at h; exact h.elim
  | some r =>
    obtain ⟨s, cs⟩ := r
    simp only [z] at h
    obtain ⟨q, vs, a1, a2, a3, a4⟩ := cell_open S z
    exact ⟨.ref q, a1, _, _, rfl, .inl ⟨vs, Evl.sq_of a2, a4.length⟩, h.fin0 S (by simp [Rep])⟩
theorem dx_ixO (hN : X.N[i]? = some y) (hvis : Vis X.env.scope y) (hb : DX X e0 W b fb) (hs : PlainIx b := by intro _ _; rfl) (hd : (y == ("__debug__" : Str)) = false := by decide) (hcd : (y == ("__classdict__" : Str)) = false := by decide) : DX X e0 W (.Subscript (.Name y p2) b pos) (sIxO i fb) := by
  refine PE.weak (pe_ix ix_list (pe_var hN hvis hd hcd) hb hs) fun σ H Q ⟨E, F, S, h⟩ => ?_
  unfold sIxO at h
  cases z : cellAt E i with
  | none => simp only [z] at h; exact h.elim
  | some r =>
    obtain ⟨s, cs⟩ := r
    simp only [z] at h
    obtain ⟨q, vs, a1, a2, a3, a4⟩ := cell_open S z
    refine ⟨.ref q, a1, rdG_intro S (h.bind fun k v E1 F1 H1 G1 S1 R1 h1 => ?_)⟩
    cases z1 : cellAt E1 i with
    | none => simp only [z1] at h1; exact h1.elim
    | some r1 =>
      obtain ⟨s1, cs1⟩ := r1
      simp only [z1] at h1
      obtain ⟨q1, vs1, b1, b2, b3, b4⟩ := cell_open S1 z1
      rw [a1] at b1
      cases b1
      obtain ⟨d, e, h2⟩ := h1.opt
      cases k <;> simp [oIx] at e
      simp only [Rep] at R1
      obtain ⟨u, e2, ru⟩ := rep_at b4 e
      exact ⟨q, vs1, _, u, rfl, R1, Evl.sq_of b2, e2, h2.fin0 S1 ru⟩
theorem dx_inO {op : CmpOp} {o : D → D → Option D} (ho : OpD X (compareOp op) o) (ha : DX X e0 W a fa) (hN : X.N[i]? = some y) (hvis : Vis X.env.scope y) (hm : behindInMarks op (.Name y p2) = false := by rfl) (hd : (y == ("__debug__" : Str)) = false := by decide) (hcd : (y == ("__classdict__" : Str)) = false := by decide) :
    DX X e0 W (.Compare a [op] [.Name y p2] pos) (sInO o fa i) := by
  obtain ⟨r, h1, h2⟩ := ho.ex
  refine PE.weak (pe_cmpR h1 ha (pe_var hN hvis hd hcd) hm) fun σ H Q ⟨E, F, S, h⟩ => rdG_intro S (h.bind fun x v E1 F1 H1 G1 S1 R1 h3 => ?_)
  cases z1 : cellAt E1 i with
  | none => simp only [z1] at h3; exact h3.elim
  | some r1 =>
    obtain ⟨s1, cs1⟩ := r1
    simp only [z1] at h3
    obtain ⟨q1, vs1, b1, b2, b3, b4⟩ := cell_open S1 z1
    refine ⟨.ref q1, b1, ?_⟩
    split at h3
    · rename_i bb hb
      have sF : Same F1 (upd F1 q1 (.lst vs1)) := same_upd b3
      refine h2 x (.lst cs1) (.bl bb) hb (upd F1 q1 (.lst vs1)) H1 v (.ref q1) Q (fun c u e => ?_) (Rep.mono sF _ _ R1) ?_ fun u F' H' al ru => ?_
      · by_cases hc : c = q1
        · subst hc
          rw [upd_same] at e
          rw [← e]
          exact b2
        · rw [upd_ne hc] at e
          exact S1.sub c u e
      · simp only [Rep]
        exact ⟨q1, vs1, rfl, upd_same, RepL.mono sF _ _ b4⟩
      · simp only [Rep] at ru
        subst ru
        exact h3.fin S1 ⟨fun _ _ e => e, al.sH, Same.tr S1.sub al.sH, fun _ _ f => f⟩ (by simp [Rep])
    · exact h3.elim
theorem dt_inO {op : CmpOp} {o : D → D → Option D} (ho : OpD X (compareOp op) o) (ha : DX X e0 W a fa) (hN : X.N[i]? = some y) (hvis : Vis X.env.scope y) (hm : behindInMarks op (.Name y p2) = false := by rfl) (hd : (y == ("__debug__" : Str)) = false := by decide) (hcd : (y == ("__classdict__" : Str)) = false := by decide) :
    DT X e0 W (.Compare a [op] [.Name y p2] pos) (bVal (sInO o fa i)) := by
  obtain ⟨r, h1, h2⟩ := ho.ex
  refine PT.weak (pt_cmpR h1 ha (pe_var hN hvis hd hcd) hm) fun σ H Q ⟨E, F, S, h⟩ => rdG_intro S (Post.bind (r := fa E) (g := fun x E1 => (match cellAt E1 i with
      | some (_, cs) => (match o x (.lst cs) with
        | some (.bl b) => (.ok b E1 : Out Bool)
        | _ => .bad)
      | none => .bad)) (Q := Q) (rep := fun _ (a b : Bool) => a = b) (by
    unfold bVal sInO at h
    cases q : fa E with
    | ok x E1 =>
      simp only [q, Out.bind_ok] at h ⊢
      cases z1 : cellAt E1 i with
      | none => simp only [z1] at h; exact h
      | some r1 =>
        simp only [z1] at h ⊢
        split at h
        · rename_i b hb
          exact h
        · exact h.elim
    | ex xn E1 => simp only [q, Out.bind_ex] at h ⊢; exact h
    | bad => simp only [q, Out.bind_bad] at h; exact h.elim) fun x v E1 F1 H1 G1 S1 R1 h3 => ?_)
  cases z1 : cellAt E1 i with
  | none => simp only [z1] at h3; exact h3.elim
  | some r1 =>
    obtain ⟨s1, cs1⟩ := r1
    simp only [z1] at h3
    obtain ⟨q1, vs1, b1, b2, b3, b4⟩ := cell_open S1 z1
    refine ⟨.ref q1, b1, ?_⟩
    split at h3
    · rename_i bb hb
      have sF : Same F1 (upd F1 q1 (.lst vs1)) := same_upd b3
      refine h2 x (.lst cs1) (.bl bb) hb (upd F1 q1 (.lst vs1)) H1 v (.ref q1) _ (fun c u e => ?_) (Rep.mono sF _ _ R1) ?_ fun u F' H' al ru => ?_
      · by_cases hc : c = q1
        · subst hc
          rw [upd_same] at e
          rw [← e]
          exact b2
        · rw [upd_ne hc] at e
          exact S1.sub c u e
      · simp only [Rep]
        exact ⟨q1, vs1, rfl, upd_same, RepL.mono sF _ _ b4⟩
      · simp only [Rep] at ru
        subst ru
        exact ⟨bb, rfl, h3.fin S1 ⟨fun _ _ e => e, al.sH, Same.tr S1.sub al.sH, fun _ _ f => f⟩ rfl⟩
    · exact h3.elim
theorem dx_tupO {x : Str} (hg : Gl X x) (hm : X.mg x = none) (hv : bootBuiltins x = some (.type "tuple")) (hN : X.N[i]? = some y) (hvis : Vis X.env.scope y) (hd : (y == ("__debug__" : Str)) = false := by decide) (hcd : (y == ("__classdict__" : Str)) = false := by decide)
    (hn : x ≠ "__name__" := by decide) (hdb : (x == ("__debug__" : Str)) = false := by decide) : DX X e0 W (.Call (.Name x p) [.Name y p2] [] pos) (sTupO' i) := by
  refine PE.weak (pe_callTy call_tuple_of hg hm hv (pa_cons (pe_var hN hvis hd hcd) pa_nil) hn hdb) fun σ H Q ⟨E, F, S, h⟩ => ?_
  unfold sTupO' at h
  cases z : cellAt E i with
  | none => simp only [z] at h; exact h.elim
  | some r =>
    obtain ⟨s, cs⟩ := r
    simp only [z] at h
    obtain ⟨q, vs, a1, a2, a3, a4⟩ := cell_open S z
    refine ⟨.ref q, a1, q, vs, rfl, .inl ⟨Evl.sq_of a2, fun l hl => h.fin S (.new S.sub hl) ?_⟩⟩
    simp only [Rep]
    exact ⟨l, vs, rfl, .inl upd_same, RepL.mono (same_upd (fresh_F S.sub hl)) _ _ a4⟩
theorem put_upd (S : SI K e0 F H σ E) {s : Sl} {cs cs' : List D} {q : Addr} {vs' : List V} (z : cellAt E i = some (s, cs)) (a1 : σ[i]? = some (some (.ref q))) (f : F q = none) (r : RepL K F cs' vs') : SI K e0 F (upd H q (.lst vs')) σ (E.set i (s.put cs')) ∧ Grow σ E F H (E.set i (s.put cs')) F (upd H q (.lst vs')) := by
  obtain ⟨z1, z2⟩ := cellAt_some z
  refine S.put z1 z2 a1 ⟨fun _ _ e => e, fun b o e n => by rw [upd_ne n]; exact e, fun b o e => ?_, fun _ _ f => f⟩ upd_same r
  have : b ≠ q := fun y => by
    subst y
    rw [f] at e
    cases e
  rw [upd_ne this]
  exact S.sub b o e
theorem ds_append {apos cpos : Pos} (hN : X.N[i]? = some y) (hvis : Vis X.env.scope y) (ha : DX X e0 W a fa) (hd : (y == ("__debug__" : Str)) = false := by decide) (hcd : (y == ("__classdict__" : Str)) = false := by decide)
    (hbase : attributeBase (.Name y p2) "append" X.env (eval (.Name y p2) X.env) = eval (.Name y p2) X.env := by rfl)
    (hfew : ((backTo cpos (starEach [a] X.env)).all (fun x => !x.1) && (backToKw cpos (keywordEach [] X.env)).all (fun x => x.1.isSome)
      && decide ([a].length + ([] : List Keyword).length + (if ([] : List Keyword).isEmpty then 0 else 1) < 30)) = true := by rfl)
    (hline : (apos.endLine == cpos.line) = true := by rfl) (hs : starEach [a] X.env = (false, eval a X.env) :: starEach [] X.env := by rfl) (hsw : swapsWith (.Call (.Attribute (.Name y p2) "append" apos) [a] [] cpos) none pos.line X.env = pure false := by rfl) :
    DS X e0 W (.Expr (.Call (.Attribute (.Name y p2) "append" apos) [a] [] cpos) pos) (sAppend i fa) := by
  refine PS.weak (ps_expr (pe_bm PySem.F.plainAttrs_list PySem.F.slot_list_append PySem.F.type_list_append mt_append (pe_var hN hvis hd hcd) (pa_cons ha pa_nil hs) hbase hfew hline hs rfl) hsw) fun D σ H ⟨E, F, S, h⟩ => ?_
  unfold sAppend at h
  cases z : cellAt E i with
  | none => simp only [z] at h; exact h.elim
  | some r =>
    obtain ⟨s, cs⟩ := r
    simp only [z] at h
    obtain ⟨q, vs, a1, a2, a3, a4⟩ := cell_open S z
    refine ⟨.ref q, a1, .inl ⟨rfl, _, Evl.sq_of a2⟩, rdG_intro S (PostS.bind (D := D) h fun d v E1 F1 H1 G1 S1 R1 h1 => ?_)⟩
    cases z1 : cellAt E1 i with
    | none => simp only [z1] at h1; exact h1.elim
    | some r1 =>
      obtain ⟨s1, cs1⟩ := r1
      simp only [z1] at h1
      obtain ⟨q1, vs1, b1, b2, b3, b4⟩ := cell_open S1 z1
      rw [a1] at b1
      cases b1
      split at h1
      · rename_i hl
        obtain ⟨S2, G2⟩ := put_upd S1 z1 a1 b3 (b4.snoc R1)
        exact ⟨q, vs1, v, rfl, rfl, b2, Nat.lt_of_lt_of_le (by rw [← b4.length]; exact hl) (by decide), h1 σ F1 _ (fun _ _ e => e) S2⟩
      · exact h1.elim
theorem ds_extend {apos cpos : Pos} (hN : X.N[i]? = some y) (hvis : Vis X.env.scope y) (ha : DX X e0 W a fa) (hd : (y == ("__debug__" : Str)) = false := by decide) (hcd : (y == ("__classdict__" : Str)) = false := by decide)
    (hbase : attributeBase (.Name y p2) "extend" X.env (eval (.Name y p2) X.env) = eval (.Name y p2) X.env := by rfl)
    (hfew : ((backTo cpos (starEach [a] X.env)).all (fun x => !x.1) && (backToKw cpos (keywordEach [] X.env)).all (fun x => x.1.isSome)
      && decide ([a].length + ([] : List Keyword).length + (if ([] : List Keyword).isEmpty then 0 else 1) < 30)) = true := by rfl)
    (hline : (apos.endLine == cpos.line) = true := by rfl) (hs : starEach [a] X.env = (false, eval a X.env) :: starEach [] X.env := by rfl) (hsw : swapsWith (.Call (.Attribute (.Name y p2) "extend" apos) [a] [] cpos) none pos.line X.env = pure false := by rfl) :
    DS X e0 W (.Expr (.Call (.Attribute (.Name y p2) "extend" apos) [a] [] cpos) pos) (sExtend i fa) := by
  refine PS.weak (ps_expr (pe_bm PySem.F.plainAttrs_list PySem.F.slot_list_extend PySem.F.type_list_extend mt_extend (pe_var hN hvis hd hcd) (pa_cons ha pa_nil hs) hbase hfew hline hs rfl) hsw) fun D σ H ⟨E, F, S, h⟩ => ?_
  unfold sExtend at h
  cases z : cellAt E i with
  | none => simp only [z] at h; exact h.elim
  | some r =>
    obtain ⟨s, cs⟩ := r
    simp only [z] at h
    obtain ⟨q, vs, a1, a2, a3, a4⟩ := cell_open S z
    refine ⟨.ref q, a1, .inl ⟨rfl, _, Evl.sq_of a2⟩, rdG_intro S (PostS.bind (D := D) h fun d v E1 F1 H1 G1 S1 R1 h1 => ?_)⟩
    cases z1 : cellAt E1 i with
    | none => simp only [z1] at h1; exact h1.elim
    | some r1 =>
      obtain ⟨s1, cs1⟩ := r1
      obtain ⟨q1, vs1, b1, b2, b3, b4⟩ := cell_open S1 z1
      rw [a1] at b1
      cases b1
      cases d <;> simp only [z1] at h1
      all_goals try exact h1.elim
      rename_i ds
      split at h1
      · rename_i hl
        simp only [Rep] at R1
        obtain ⟨pd, us, rfl, c1, c2⟩ := R1
        obtain ⟨S2, G2⟩ := put_upd S1 z1 a1 b3 (b4.append c2)
        exact ⟨q, pd, vs1, us, rfl, rfl, b2, S1.sub _ _ c1, sizeLine_ok (by rw [← b4.length, ← c2.length]; exact hl), h1 σ F1 _ (fun _ _ e => e) S2⟩
      · exact h1.elim
theorem ds_ixSet {k : Expr} {fk : Se} {tpos : Pos} (hN : X.N[i]? = some y) (hvis : Vis X.env.scope y) (ha : DX X e0 W a fa) (hk : DX X e0 W k fk) (hd : (y == ("__debug__" : Str)) = false := by decide) (hcd : (y == ("__classdict__" : Str)) = false := by decide)
    (hx : ∀ v, assign (.Subscript (.Name y p2) k tpos) X.env v = (do
      let ov ← holding [v] (eval (.Name y p2) X.env)
      let iv ← holding [v, ov] (eval k X.env)
      standAt tpos
      holding [v, ov, iv] (setItem ov iv v)
      release [v, ov, iv] []) := by intro _; rfl)
    (hs : swapsWithSole [.Subscript (.Name y p2) k tpos] a pos.line X.env = pure false := by rfl) (hw : swappedStores [.Subscript (.Name y p2) k tpos] a X.env = pure none := by rfl) :
    DS X e0 W (.Assign [.Subscript (.Name y p2) k tpos] a pos) (sIxSet i fk fa) := by
  refine PS.weak (ps_asg ha (pg_sub (pe_var hN hvis hd hcd) hk set_list hx) hs hw) fun D σ H ⟨E, F, S, h⟩ => rdG_intro S (PostS.bind (D := D) h fun d v E1 F1 H1 G1 S1 R1 h1 => ?_)
  cases z : cellAt E1 i with
  | none => simp only [z] at h1; exact h1.elim
  | some r =>
    obtain ⟨s, cs⟩ := r
    simp only [z] at h1
    obtain ⟨q, vs, a1, a2, a3, a4⟩ := cell_open S1 z
    refine ⟨.ref q, a1, rdG_intro S1 (PostS.bind (D := D) h1 fun ki w E2 F2 H2 G2 S2 R2 h2 => ?_)⟩
    cases z2 : cellAt E2 i with
    | none => simp only [z2] at h2; exact h2.elim
    | some r1 =>
      obtain ⟨s1, cs1⟩ := r1
      obtain ⟨q1, vs1, b1, b2, b3, b4⟩ := cell_open S2 z2
      rw [a1] at b1
      cases b1
      cases ki <;> simp only [z2] at h2
      all_goals try exact h2.elim
      rename_i j
      cases hj : ixN cs1.length j with
      | none => simp only [hj] at h2; exact h2.elim
      | some n =>
        simp only [hj] at h2
        simp only [Rep] at R2
        obtain ⟨S3, G3⟩ := put_upd S2 z2 a1 b3 (b4.set n (Rep.mono G2.sF _ _ R1))
        exact ⟨q, vs1, j, n, rfl, R2, b2, by rw [← b4.length]; exact hj, h2 σ F2 _ (fun _ _ e => e) S3⟩
theorem dx_popAt {apos cpos : Pos} (hN : X.N[i]? = some y) (hvis : Vis X.env.scope y) (ha : DX X e0 W a fa) (hd : (y == ("__debug__" : Str)) = false := by decide) (hcd : (y == ("__classdict__" : Str)) = false := by decide)
    (hbase : attributeBase (.Name y p2) "pop" X.env (eval (.Name y p2) X.env) = eval (.Name y p2) X.env := by rfl)
    (hfew : ((backTo cpos (starEach [a] X.env)).all (fun x => !x.1) && (backToKw cpos (keywordEach [] X.env)).all (fun x => x.1.isSome)
      && decide ([a].length + ([] : List Keyword).length + (if ([] : List Keyword).isEmpty then 0 else 1) < 30)) = true := by rfl)
    (hline : (apos.endLine == cpos.line) = true := by rfl) (hs : starEach [a] X.env = (false, eval a X.env) :: starEach [] X.env := by rfl) :
    DX X e0 W (.Call (.Attribute (.Name y p2) "pop" apos) [a] [] cpos) (sPopAt i fa) := by
  refine PE.weak (pe_bm PySem.F.plainAttrs_list PySem.F.slot_list_pop PySem.F.type_list_pop mt_popAt (pe_var hN hvis hd hcd) (pa_cons ha pa_nil hs) hbase hfew hline hs rfl) fun σ H Q ⟨E, F, S, h⟩ => ?_
  unfold sPopAt at h
  cases z : cellAt E i with
  | none => simp only [z] at h; exact h.elim
  | some r =>
    obtain ⟨s, cs⟩ := r
    simp only [z] at h
    obtain ⟨q, vs, a1, a2, a3, a4⟩ := cell_open S z
    refine ⟨.ref q, a1, .inl ⟨rfl, _, Evl.sq_of a2⟩, rdG_intro S (h.bind fun d v E1 F1 H1 G1 S1 R1 h1 => ?_)⟩
    cases z1 : cellAt E1 i with
    | none => simp only [z1] at h1; exact h1.elim
    | some r1 =>
      obtain ⟨s1, cs1⟩ := r1
      obtain ⟨q1, vs1, b1, b2, b3, b4⟩ := cell_open S1 z1
      rw [a1] at b1
      cases b1
      cases d <;> simp only [z1] at h1
      all_goals try exact h1.elim
      rename_i j
      by_cases hbd : -1000000 ≤ j ∧ j ≤ 1000000
      case neg => rw [if_neg hbd] at h1; exact h1.elim
      rw [if_pos hbd] at h1
      cases hj : ixN cs1.length j with
      | none => simp only [hj] at h1; exact h1.elim
      | some n =>
        simp only [hj] at h1
        cases hx : cs1[n]? with
        | none => simp only [hx] at h1; exact h1.elim
        | some dd =>
          simp only [hx] at h1
          obtain ⟨u, hu, ru⟩ := b4.get hx
          simp only [Rep] at R1
          obtain ⟨S2, G2⟩ := put_upd S1 z1 a1 b3 (b4.eraseIdx n)
          obtain ⟨k1, k2, k3, k4⟩ := ixN_seq (show ixN vs1.length j = some n by rw [← b4.length]; exact hj)
          exact ⟨q, vs1, j, n, u, rfl, by rw [R1], b2, by omega, by omega, k1, hu, h1 u F1 _ G2 S2 ru⟩
end
end Dn

set_option Elab.async false
set_option linter.all false
set_option maxRecDepth 100000
set_option maxHeartbeats 4000000
namespace Dn
open PySem PySem.Spec L2

def sChain (o o' : D → D → Option D) (a b c : Se) : Se := fun E => (a E).bind fun x E1 => (b E1).bind fun y E2 => match o x y with
  | some (.bl true) => (c E2).bind fun z E3 => .opt (o' y z) E3
  | some (.bl false) => .ok (.bl false) E2
  | _ => .bad
def sPar (i j : Nat) (a b : Se) : Ss := fun E => (a E).then fun x E1 => (b E1).then fun y E2 => .nx ((E2.set i (.vl x)).set j (.vl y))
def sPar3 (i j k : Nat) (a b c : Se) : Ss := fun E => (a E).then fun x E1 => (b E1).then fun y E2 => (c E2).then fun z E3 => .nx (((E3.set i (.vl x)).set j (.vl y)).set k (.vl z))
def sAsg (t : Tg) (a : Se) : Ss := fun E => (a E).then fun d E1 => match t d E1 with
  | some E2 => .nx E2
  | none => .bad
def sRetO (i : Nat) : Ss := fun E => match E[i]? with
  | some (.ow cs) => .rt (.fr cs) (E.set i .un)
  | _ => .bad
section
variable {X : Cx} {e0 : E0} {W : WX} {a b c : Expr} {fa fb fc : Se} {pos : Pos}
theorem tkF {X : Cx} : Takes X (fun _ _ _ _ => False) := fun u s' ⟨a, B, sI, pins, σ, H, cls, d, e, I, nb, up, sky, na, os, ag, w⟩ => w.elim
theorem chain_rd {o o' : D → D → Option D} {r r' : R2} (ho : ∀ x y z, o x y = some z → ∀ F H v w Q, Same F H → Rep X.K F x v → Rep X.K F y w → (∀ u F' H', Alloc F H F' H' → Rep X.K F' z u → Q u H') → r v w H Q)
    (ho' : ∀ x y z, o' x y = some z → ∀ F H v w Q, Same F H → Rep X.K F x v → Rep X.K F y w → (∀ u F' H', Alloc F H F' H' → Rep X.K F' z u → Q u H') → r' v w H Q)
    {σ : St} {H : Hp} {Q : VK} (h : rd X.K e0 W (sChain o o' fa fb fc) σ H Q) : tChain r r' (rd X.K e0 W fa) (rd X.K e0 W fb) (rd X.K e0 W fc) σ H Q := by
  obtain ⟨E, F, S, h⟩ := h
  refine rdG_intro S (h.bind fun x v E1 F1 H1 G1 S1 R1 h1 => rdG_intro S1 (h1.bind fun y w E2 F2 H2 G2 S2 R2 h2 => ?_))
  split at h2
  · rename_i e
    refine ho x y _ e F2 H2 v w _ S2.sub (Rep.mono G2.sF _ _ R1) R2 fun u F' H' al ru => ?_
    simp only [Rep] at ru
    refine ⟨true, ru, ?_⟩
    rw [if_pos rfl]
    have S3 := S2.alloc al
    refine rdG_intro S3 (Post.bind (Post.rebase (S2.grow al) h2) fun z t E3 F3 H3 G3 S4 R3 h3 => ?_)
    obtain ⟨q, e3, h4⟩ := h3.opt
    exact ho' y z q e3 F3 H3 w t Q S4.sub (Rep.mono (Same.tr al.sF G3.sF) _ _ R2) R3 fun u' F' H' al' r' => h4.fin S4 al' r'
  · rename_i e
    refine ho x y _ e F2 H2 v w _ S2.sub (Rep.mono G2.sF _ _ R1) R2 fun u F' H' al ru => ?_
    simp only [Rep] at ru
    refine ⟨false, ru, ?_⟩
    rw [if_neg Bool.false_ne_true]
    exact h2.fin S2 al (by simp [Rep])
  · exact h2.elim
theorem dx_chain {op op' : CmpOp} {o o' : D → D → Option D} (h : OpD X (compareOp op) o) (h' : OpD X (compareOp op') o') (ha : DX X e0 W a fa) (hb : DX X e0 W b fb) (hc : DX X e0 W c fc) (hm : lastMarks [op, op'] [b, c] = false := by with_unfolding_all rfl) :
    DX X e0 W (.Compare a [op, op'] [b, c] pos) (sChain o o' fa fb fc) := by
  obtain ⟨r, h1, h2⟩ := h.ex
  obtain ⟨r', h1', h2'⟩ := h'.ex
  exact PE.weak (pe_chain h1 h1' ha hb hc hm) fun σ H Q q => chain_rd h2 h2' q
theorem dt_chain {op op' : CmpOp} {o o' : D → D → Option D} (h : OpD X (compareOp op) o) (h' : OpD X (compareOp op') o') (ha : DX X e0 W a fa) (hb : DX X e0 W b fb) (hc : DX X e0 W c fc) (hm : lastMarks [op, op'] [b, c] = false := by with_unfolding_all rfl) :
    DT X e0 W (.Compare a [op, op'] [b, c] pos) (bVal (sChain o o' fa fb fc)) := by
  obtain ⟨r, h1, h2⟩ := h.ex
  obtain ⟨r', h1', h2'⟩ := h'.ex
  exact PT.weak (pt_chain h1 h1' ha hb hc hm) fun σ H Q q => val_rd (fun _ _ _ z => chain_rd h2 h2' z) q
theorem ds_asg {tg : Expr} {t : Tg} {is : List Nat} (ha : DX X e0 W a fa) (hg : DG X e0 is tg t) (hs : swapsWithSole [tg] a pos.line X.env = pure false := by rfl) (hw : swappedStores [tg] a X.env = pure none := by rfl) (ht : (assignEach [tg] X.env).map (·.2) = [assign tg X.env] := by rfl) :
    DS X e0 W (.Assign [tg] a pos) (sAsg t fa) := PS.weak (ps_asg ha hg.pg hs hw ht) fun D σ H ⟨E, F, S, h⟩ => rdG_intro S (PostS.bind (D := D) h fun d v E1 F1 H1 G1 S1 R1 h1 => by
  cases q : t d E1 with
  | none => simp only [q] at h1; exact h1.elim
  | some E2 =>
    simp only [q] at h1
    exact ⟨E1, F1, d, E2, S1, R1, q, fun σ' _ S' => h1 σ' F1 H1 (fun _ _ e => e) S'⟩)
theorem ds_par {i j : Nat} {x y : Str} {px py pt : Pos} {kt k2 : Nat} {pt2 : Pos} (hc : X.calm = true) (hN : X.N.Nodup) (hi : X.N[i]? = some x) (hj : X.N[j]? = some y) (hij : i ≠ j)
    (hx : X.env.scope.names.lookup x = some .local) (hy : X.env.scope.names.lookup y = some .local) (ha : DX X e0 W a fa) (hb : DX X e0 W b fb)
    (hw : swappedStores [.Tuple [.Name x px, .Name y py] kt pt] (.Tuple [a, b] k2 pt2) X.env = pure (some [x, y]) := by rfl)
    (hs : swapsWithSole [.Tuple [.Name x px, .Name y py] kt pt] (.Tuple [a, b] k2 pt2) pos.line X.env = pure false := by rfl)
    (h1 : starEach [b] X.env = (false, eval b X.env) :: starEach [] X.env := by rfl) (h2 : starEach [a, b] X.env = (false, eval a X.env) :: starEach [b] X.env := by rfl) :
    DS X e0 W (.Assign [.Tuple [.Name x px, .Name y py] kt pt] (.Tuple [a, b] k2 pt2) pos) (sPar i j fa fb) :=
  PS.weak (ps_par hc hN hi hj hij hx hy (pa_cons ha (pa_cons hb pa_nil h1) h2) hw hs) fun D σ H ⟨E, F, S, h⟩ => rdG_intro S (PostS.bind (D := D) h fun d v E1 F1 H1 G1 S1 R1 h1 => rdG_intro S1 (PostS.bind (D := D) h1 fun d2 v2 E2 F2 H2 G2 S2 R2 h2 =>
    ⟨v, v2, rfl, h2 _ F2 H2 (fun _ _ e => e) ((S2.set i (Rep.mono G2.sF _ _ R1)).set j R2)⟩))
theorem ds_par3 {i j l : Nat} {x y z : Str} {px py pz pt : Pos} {kt k2 : Nat} {pt2 : Pos} (hc : X.calm = true) (hN : X.N.Nodup) (hi : X.N[i]? = some x) (hj : X.N[j]? = some y) (hl : X.N[l]? = some z) (hij : i ≠ j) (hil : i ≠ l) (hjl : j ≠ l)
    (hx : X.env.scope.names.lookup x = some .local) (hy : X.env.scope.names.lookup y = some .local) (hz : X.env.scope.names.lookup z = some .local) (ha : DX X e0 W a fa) (hb : DX X e0 W b fb) (hcc : DX X e0 W c fc)
    (hw : swappedStores [.Tuple [.Name x px, .Name y py, .Name z pz] kt pt] (.Tuple [a, b, c] k2 pt2) X.env = pure (some [x, y, z]) := by rfl)
    (h1 : starEach [c] X.env = (false, eval c X.env) :: starEach [] X.env := by rfl) (h2 : starEach [b, c] X.env = (false, eval b X.env) :: starEach [c] X.env := by rfl) (h3 : starEach [a, b, c] X.env = (false, eval a X.env) :: starEach [b, c] X.env := by rfl)
    (hs : swapsWithSole [.Tuple [.Name x px, .Name y py, .Name z pz] kt pt] (.Tuple [a, b, c] k2 pt2) pos.line X.env = pure false := by rfl) :
    DS X e0 W (.Assign [.Tuple [.Name x px, .Name y py, .Name z pz] kt pt] (.Tuple [a, b, c] k2 pt2) pos) (sPar3 i j l fa fb fc) :=
  PS.weak (ps_par3 hc hN hi hj hl hij hil hjl hx hy hz (pa_cons ha (pa_cons hb (pa_cons hcc pa_nil h1) h2) h3) hw hs) fun D σ H ⟨E, F, S, h⟩ => rdG_intro S (PostS.bind (D := D) h fun d v E1 F1 H1 G1 S1 R1 h1 => rdG_intro S1 (PostS.bind (D := D) h1 fun d2 v2 E2 F2 H2 G2 S2 R2 h2 =>
    rdG_intro S2 (PostS.bind (D := D) h2 fun d3 v3 E3 F3 H3 G3 S3 R3 h3 =>
    ⟨v, v2, v3, rfl, h3 _ F3 H3 (fun _ _ e => e) (((S3.set i (Rep.mono (Same.tr G2.sF G3.sF) _ _ R1)).set j (Rep.mono G3.sF _ _ R2)).set l R3)⟩)))
/-- an owned list handed back -/
theorem SI.drop {K : PySem.W.Frag} {F H : Hp} {σ : St} {E : Sto} (S : SI K e0 F H σ E) (i : Nat) : SI K e0 F H σ (E.set i .un) := by
  have own : ∀ j q, Own H σ (E.set i .un) j q → Own H σ E j q ∧ j ≠ i := fun j q h => by
    unfold Own at h ⊢
    by_cases hj : j = i
    · subst hj
      by_cases hi : j < E.length
      · rw [List.getElem?_set_self hi] at h
        exact h.elim
      · rw [List.getElem?_eq_none_iff.mpr (by simpa using hi)] at h
        exact h.elim
    · rw [List.getElem?_set_ne (Ne.symm hj)] at h
      exact ⟨h, hj⟩
  refine ⟨by simpa using S.len, S.sub, fun j s hs => ?_, fun a b q h1 h2 => S.apart a b q (own a q h1).1 (own b q h2).1, S.f0, S.h0, S.nf, fun j q h => ?_, S.dm⟩
  · by_cases hj : j = i
    · subst hj
      have hi : j < E.length := by
        have := (List.getElem?_eq_some_iff.mp hs).1
        simpa using this
      rw [List.getElem?_set_self hi] at hs
      cases hs
      trivial
    · rw [List.getElem?_set_ne (Ne.symm hj)] at hs
      exact S.rel j s hs
  · obtain ⟨h1, h2⟩ := own j q h
    rw [List.getElem?_set_ne (Ne.symm h2)]
    exact S.ow j q h1
theorem ds_retO {i : Nat} {x : Str} {p : Pos} (hN : X.N[i]? = some x) (hv : Vis X.env.scope x) (hd : (x == ("__debug__" : Str)) = false := by decide) (hcd : (x == ("__classdict__" : Str)) = false := by decide) : DS X e0 W (.Return (some (.Name x p)) pos) (sRetO i) := by
  refine PS.weak (ps_ret (pe_var hN hv hd hcd)) fun D σ H ⟨E, F, S, h⟩ => ?_
  unfold sRetO at h
  cases e : E[i]? with
  | none => simp only [e] at h; exact h.elim
  | some s =>
    simp only [e] at h
    cases s with
    | ow cs =>
      obtain ⟨p, vs, e1, e2, e3, e4⟩ := S.rel i _ e
      have o : Own H σ E i p := own_of_slot e e1
      refine ⟨.ref p, e1, h (.ref p) σ F H (S.drop i) ⟨p, vs, rfl, ?_, e3, e2, e4⟩⟩
      rcases S.ow i p o with z | z
      · exact z.1
      · rw [e] at z
        rcases z.2 with ⟨_, y⟩ | ⟨_, _, y⟩ <;> cases y
    | _ => exact h.elim
end

/-! ### what is known of the top's defs -/
def Gd (P : Program) (w : World) (K : PySem.W.Frag) (mg : Str → Option Value) (base : Heap) (x : Str) (k : Nat) (f : Fn) : Prop :=
  ∃ (a : Addr) (fd : FuncData) (ps : List Str), FnOk P w K mg base (L2.CX P w) k a fd ps (spP K f) ∧ mg x = some (.ref a) ∧ PySem.W.keepIn K (.ref a) = true ∧ Binds K fd ps []
def Gd2 (P : Program) (w : World) (K : PySem.W.Frag) (mg : Str → Option Value) (base : Heap) (x : Str) (k : Nat) (f : Fn2) : Prop :=
  ∃ (a : Addr) (fd : FuncData) (ps : List Str), FnOk P w K mg base (L2.CX P w) k a fd ps (spS K f) ∧ mg x = some (.ref a) ∧ PySem.W.keepIn K (.ref a) = true ∧ Binds K fd ps []
theorem Gd.good {X : Cx} {x : Str} {k : Nat} {f : Fn} (G : Gd X.prog X.w X.K X.mg X.base x k f) (hr : Room k X.A) : FnGood X x f :=
  let ⟨a, fd, ps, h1, h2, h3, h4⟩ := G
  ⟨k, a, fd, ps, h1, hr, h2, h3, h4⟩
theorem Gd2.good {X : Cx} {x : Str} {k : Nat} {f : Fn2} (G : Gd2 X.prog X.w X.K X.mg X.base x k f) (hr : Room k X.A) : FnGood2 X x f :=
  let ⟨a, fd, ps, h1, h2, h3, h4⟩ := G
  ⟨k, a, fd, ps, h1, hr, h2, h3, h4⟩
/-- the head's facts -/
structure Tx (fa : List He.Fa) (fn : List He.DefD) (K : PySem.W.Frag) (mg : Str → Option Value) : Prop where
  says : He.SaysD fa fn K
  at_ : ∃ h : Heap, K.In h ∧ h.Ns mainGlobals mg
theorem Tx.glo {fa : List He.Fa} {fn : List He.DefD} {K : PySem.W.Frag} {mg : Str → Option Value} (T : Tx fa fn K mg) (i : Nat) {x : Str} (h : fa[i]? = some (.glo x) := by rfl) : mg x = some (.ref (He.ga K x)) :=
  let ⟨_, X, G⟩ := T.at_
  He.glo_ok X G (T.says.fact i h)
theorem Tx.free {fa : List He.Fa} {fn : List He.DefD} {K : PySem.W.Frag} {mg : Str → Option Value} (T : Tx fa fn K mg) (i : Nat) {x : Str} (h : fa[i]? = some (.free x) := by rfl) : mg x = none :=
  let ⟨_, X, G⟩ := T.at_
  He.free_ok X G (T.says.fact i h)

/-! ### isinstance of built-in classes -/
def isiK (T : String) (d : D) : Option Bool := match d with
  | .non => L2.kitB "NoneType" T
  | .bl _ => L2.kitB "bool" T
  | .int _ => L2.kitB "int" T
  | .str _ => L2.kitB "str" T
  | .tup _ => L2.kitB "tuple" T
  | .lst _ => L2.kitB "list" T
  | _ => none
theorem isi_ty {K : PySem.W.Frag} {T : String} : IsiOk K (.type T) (isiK T) := ⟨fun d b e => by
  cases d with
  | non => exact ⟨L2.kit_ty (a := "NoneType") e, fun c xs h => (nomatch h), fun ns h => (nomatch h)⟩
  | bl x => exact ⟨L2.kit_ty (a := "bool") e, fun c xs h => (nomatch h), fun ns h => (nomatch h)⟩
  | int x => exact ⟨L2.kit_ty (a := "int") e, fun c xs h => (nomatch h), fun ns h => (nomatch h)⟩
  | str x => exact ⟨L2.kit_ty (a := "str") e, fun c xs h => (nomatch h), fun ns h => (nomatch h)⟩
  | tup x => exact ⟨L2.kit_ty (a := "tuple") e, fun c xs h => (nomatch h), fun ns h => (nomatch h)⟩
  | lst x => exact ⟨L2.kit_ty (a := "list") e, fun c xs h => (nomatch h), fun ns h => (nomatch h)⟩
  | ins c xs => exact nomatch e
  | scr ns => exact nomatch e⟩

/-! ### the script handed in -/
/-- law's own promise: whatever the script is, True -/
def spLaw (K : PySem.W.Frag) : Sp := fun vs H Q _ => ∃ (a : Addr) (ns : List Int), vs = [.ref a] ∧ SqL K H a (ns.map V.int) ∧ ns.length ≤ 63 ∧ ∀ H', Q (.bl true) H'
end Dn

set_option Elab.async false
set_option linter.all false
set_option maxRecDepth 100000
set_option maxHeartbeats 4000000
namespace Dn
open PySem PySem.Spec L2

def oIndex (xs : List D) (y : D) : Option D := if flatD y = true ∧ xs.all flatD = true then (xs.findIdx? fun z => eqF z y).map fun j => .int (j : Nat) else none
def sIndex (a b : Se) : Se := fun E => (a E).bind fun x E1 => match x with
  | .lst xs => (b E1).bind fun y E2 => .opt (oIndex xs y) E2
  | _ => .bad
def sTupRg1 (a : Se) : Se := fun E => (a E).bind fun d E1 => match d with
  | .int n => if -1000000 ≤ n ∧ n ≤ 1000000 then .ok (.tup ((List.range n.toNat).map fun k => .int (k : Nat))) E1 else .bad
  | _ => .bad
section
variable {X : Cx} {e0 : E0} {W : WX} {a b : Expr} {fa fb : Se} {pos p p2 : Pos} {K : PySem.W.Frag} {F H : Hp}
theorem rep_atF {xs : List D} {vs : List V} (r : RepL K F xs vs) {j : Nat} {d : D} (h : xs[j]? = some d) : ∃ v, vs[j]? = some v ∧ Rep K F d v := r.get h
theorem dx_index {apos cpos : Pos} (ha : DX X e0 W a fa) (hb : DX X e0 W b fb)
    (hbase : attributeBase a "index" X.env (eval a X.env) = eval a X.env := by rfl)
    (hfew : ((backTo cpos (starEach [b] X.env)).all (fun x => !x.1) && (backToKw cpos (keywordEach [] X.env)).all (fun x => x.1.isSome)
      && decide ([b].length + ([] : List Keyword).length + (if ([] : List Keyword).isEmpty then 0 else 1) < 30)) = true := by rfl)
    (hline : (apos.endLine == cpos.line) = true := by rfl) (hs : starEach [b] X.env = (false, eval b X.env) :: starEach [] X.env := by rfl) :
    DX X e0 W (.Call (.Attribute a "index" apos) [b] [] cpos) (sIndex fa fb) := by
  refine PE.weak (pe_bm PySem.F.plainAttrs_list PySem.F.slot_list_index PySem.F.type_list_index mt_index ha (pa_cons hb pa_nil hs) hbase hfew hline hs rfl) fun σ H Q ⟨E, F, S, h⟩ => ?_
  refine rdG_intro S (h.bind fun x v E1 F1 H1 G1 S1 R1 h1 => ?_)
  cases x with
  | lst xs =>
    simp only [Rep] at R1
    obtain ⟨q, vs, rfl, k1, r1⟩ := R1
    refine ⟨.inl ⟨rfl, vs, seqL S1.sub (Evl.sq_of k1)⟩, rdG_intro S1 (h1.bind fun y w E2 F2 H2 G2 S2 R2 h2 => ?_)⟩
    obtain ⟨z, e, h3⟩ := h2.opt
    by_cases hf : flatD y = true ∧ xs.all flatD = true
    case neg =>
      rw [oIndex, if_neg hf] at e
      cases e
    rw [oIndex, if_pos hf] at e
    obtain ⟨j, ej, rfl⟩ := Option.map_eq_some_iff.mp e
    have r2 := RepL.mono G2.sF _ _ r1
    rw [List.findIdx?_eq_some_iff_getElem] at ej
    obtain ⟨hl, hj, hno⟩ := ej
    obtain ⟨u, hu, ru⟩ := r2.get (show xs[j]? = some xs[j] by simp [hl])
    have fz := List.all_eq_true.mp hf.2
    refine ⟨q, vs, w, j, u, rfl, rfl, seqL S2.sub (Evl.sq_of (G2.sF _ _ k1)), rep_flatD hf.1 R2, rep_flatL hf.2 r2, hu, ?_, fun m z' hm hz => ?_, h3.fin0 S2 (by simp [Rep])⟩
    · rw [← rep_eqF (fz _ (List.getElem_mem hl)) hf.1 ru R2]
      exact hj
    · obtain ⟨d', e', r'⟩ := r2.getV hz
      have hm' := (List.getElem?_eq_some_iff.mp e')
      obtain ⟨hml, hme⟩ := hm'
      rw [← rep_eqF (fz _ (List.mem_of_getElem? e')) hf.1 r' R2]
      have := hno m hm
      rw [hme] at this
      simpa using this
  | _ => exact h1.elim
theorem dx_tupRg1 {p3 : Pos} (hc : X.calm = true) (hg : Gl X "tuple") (hm : X.mg "tuple" = none) (hg2 : Gl X "range") (hm2 : X.mg "range" = none) (ha : DX X e0 W a fa) (na : starEach [a] X.env = (false, eval a X.env) :: starEach [] X.env := by rfl)
    (nb : starEach [.Call (.Name "range" p2) [a] [] p3] X.env = (false, eval (.Call (.Name "range" p2) [a] [] p3) X.env) :: starEach [] X.env := by rfl) : DX X e0 W (.Call (.Name "tuple" p) [.Call (.Name "range" p2) [a] [] p3] [] pos) (sTupRg1 fa) := by
  refine PE.weak (pe_tupRg hc hg hm (prg_1 hg2 hm2 ha na) nb) fun σ H Q ⟨E, F, S, h⟩ => rdG_intro S (h.bind fun x v E1 F1 H1 G1 S1 R1 h1 => ?_)
  cases x with
  | int n =>
    by_cases hn : -1000000 ≤ n ∧ n ≤ 1000000
    · simp only [if_pos hn] at h1
      simp only [Rep] at R1
      refine ⟨n, R1, ⟨by omega, by omega, by omega, by omega, by omega⟩, fun q hq => h1.fin S1 (.new S1.sub hq) ?_⟩
      simp only [Rep]
      refine ⟨q, _, rfl, .inl upd_same, ?_⟩
      have key : ∀ l : List Nat, RepL X.K (upd F1 q (.tup (rgV 0 n))) (l.map fun k => D.int (k : Nat)) (l.map fun i => V.int (0 + (i : Nat))) := by
        intro l
        induction l with
        | nil => exact RepL.nil
        | cons k l ih => exact RepL.cons (by simp [Rep]) ih
      have e : rgV 0 n = (List.range n.toNat).map fun i => V.int (0 + (i : Nat)) := by
        unfold rgV
        rw [Int.sub_zero]
      rw [e] at key ⊢
      exact key _
    · simp only [if_neg hn] at h1
      exact h1.elim
  | _ => exact h1.elim
end
end Dn

set_option Elab.async false
set_option linter.all false
set_option maxRecDepth 100000
set_option maxHeartbeats 4000000
namespace Dn
open PySem PySem.Spec L2
/-- from the walks to the script's run, where what may leave a call leans on the world -/
theorem leave {l : PySem.W.OpenLaw} {n k : Nat} {q : Program} {loose : List Str} {XP : (Str → Option Value) → Heap → Prop} {YP : World → Heap → Prop} {d : DefRec} {x : Str}
    (hn : l.most = some n) (hn2 : n ≤ sizeLine) (hdf : d.params.defaults = []) (hr : Room k callerA)
    (F : ∀ (w : World) (mg : Str → Option Value) (fa : Addr) (h : Heap), YP w h → h.Ns mainGlobals mg → mg d.name = some (.ref fa) →
      ∃ (K : PySem.W.Frag) (fd : FuncData) (f : Fn), K.In h ∧ (∀ (s : Shared) (u : Value), BindsTo s fd ⟨[u], []⟩ [(x, u)]) ∧
        (∀ ns : List Int, ns.length ≤ n → f.app [.scr ns] = .ok (.fz (.bl true))) ∧
        ∀ base : Heap, K.In base → base.Ns mainGlobals mg → FnOk l.prog w K mg base (L2.CX l.prog w) k fa fd [x] (spP K f)) :
    PySem.W.WalkO q loose XP YP l.row.toRowW d [] (fun f vs => PySem.call f vs) := by
  refine Att.attach_call hn hdf fun w s₀ s₁ mg mb fa o pm cd doc a vs ns G Y ho hd hcd hmg hobj hints hlen hg => ?_
  obtain ⟨K, fd, f, KX, hb, ht, hF⟩ := F w mg fa _ Y G.T.g hmg
  exact law_call KX G.T.g G.T.b G.T.builtins G.T.nolimit hg hobj hints (Nat.le_trans hlen hn2) hr hF hb (fun H hO hS => by
    refine ⟨H, [.scr ns], fun _ _ e => e, .cons (by simp only [Rep]; exact ⟨a, rfl, hS⟩) .nil, ?_⟩
    rw [ht ns hlen]
    intro v F' H' al r
    simpa [RepR, Rep] using r) fun H e s' h => by
      obtain ⟨_, _, _, _, _, _, _, _, _, _, _, _, z⟩ := h
      exact z
end Dn

set_option Elab.async false
set_option linter.all false
set_option maxRecDepth 100000
set_option maxHeartbeats 4000000
namespace Dn
open PySem PySem.Spec L2
/-! ### meanings worked out, rule by rule -/
section
variable {E E1 E2 E3 : Sto} {a b : Se} {c c2 : SeB} {as : SeL} {d x y z : D} {xs ds : List D} {i : Nat} {f : Fn} {s t : Ss} {r : So}
theorem ev_c : sC d E = .ok d E := rfl
theorem ev_var (h : E[i]? = some (.vl d)) : sVar i E = .ok d E := by
  unfold sVar
  rw [h]
theorem ev_bin {o : D → D → Option D} (h : a E = .ok x E1) (h2 : b E1 = .ok y E2) (h3 : o x y = some z) : sBin o a b E = .ok z E2 := by
  unfold sBin
  rw [h]
  show (b E1).bind _ = _
  rw [h2]
  show Out.opt (o x y) E2 = _
  rw [h3]
  rfl
theorem ev_un {o : D → Option D} (h : a E = .ok x E1) (h3 : o x = some z) : sUn o a E = .ok z E1 := by
  unfold sUn
  rw [h]
  show Out.opt (o x) E1 = _
  rw [h3]
  rfl
theorem ev_nil : sNil E = .ok [] E := rfl
theorem ev_cons (h : a E = .ok x E1) (h2 : as E1 = .ok xs E2) : sCons a as E = .ok (x :: xs) E2 := by
  unfold sCons
  rw [h]
  show (as E1).bind _ = _
  rw [h2]
  rfl
theorem ev_call {o : List D → Option D} (h : as E = .ok xs E1) (h2 : o xs = some z) : sCall o as E = .ok z E1 := by
  unfold sCall
  rw [h]
  show Out.opt (o xs) E1 = _
  rw [h2]
  rfl
theorem ev_fn (h : as E = .ok xs E1) (h2 : f.app xs = .ok (.fz d)) : sFn f as E = .ok d E1 := by
  unfold sFn
  rw [h]
  show rsOut (f.app xs) E1 = _
  rw [h2]
  rfl
theorem ev_fnL (h : as E = .ok xs E1) (h2 : f.app xs = .ok (.fr ds)) : sFn f as E = .ok (.lst ds) E1 := by
  unfold sFn
  rw [h]
  show rsOut (f.app xs) E1 = _
  rw [h2]
  rfl
theorem ev_fnF (h : as E = .ok xs E1) (h2 : f.app xs = .ok (.fr ds)) : sFnF f as E = .ok ds E1 := by
  unfold sFnF
  rw [h]
  show rsOutF (f.app xs) E1 = _
  rw [h2]
  rfl
theorem bv_val {k : Bool} (h : a E = .ok (.bl k) E1) : bVal a E = .ok k E1 := by
  unfold bVal
  rw [h]
  rfl
theorem bv_andT {k : Bool} (h : c E = .ok true E1) (h2 : c2 E1 = .ok k E2) : bAnd c c2 E = .ok k E2 := by
  unfold bAnd
  rw [h]
  exact h2
theorem bv_andF (h : c E = .ok false E1) : bAnd c c2 E = .ok false E1 := by
  unfold bAnd
  rw [h]
  rfl
theorem bv_orF {k : Bool} (h : c E = .ok false E1) (h2 : c2 E1 = .ok k E2) : bOr c c2 E = .ok k E2 := by
  unfold bOr
  rw [h]
  exact h2
theorem bv_orT (h : c E = .ok true E1) : bOr c c2 E = .ok true E1 := by
  unfold bOr
  rw [h]
  rfl
theorem es_seq (h : s E = .nx E1) : sSeq s t E = t E1 := by
  unfold sSeq
  rw [h]
theorem es_set (h : a E = .ok d E1) : sSet i a E = .nx (E1.set i (.vl d)) := by
  unfold sSet
  rw [h]
  rfl
theorem es_own (h : as E = .ok ds E1) : sOwn i as E = .nx (E1.set i (.ow ds)) := by
  unfold sOwn
  rw [h]
  rfl
theorem es_no (h : c E = .ok false E1) : sCond c s t E = t E1 := by
  unfold sCond
  rw [h]
  rfl
theorem es_yes (h : c E = .ok true E1) : sCond c s t E = s E1 := by
  unfold sCond
  rw [h]
  rfl
theorem es_next : sNext E = .nx E := rfl
theorem es_ret (h : a E = .ok d E1) : sRet a E = .rt (.fz d) E1 := by
  unfold sRet
  rw [h]
  rfl
theorem ne_self {x : Int} : oNe (.int x) (.int x) = some (.bl false) := by
  simp [oNe, dEq, oEqS]
theorem le_yes {x y : Int} (h : x ≤ y) : oLe (.int x) (.int y) = some (.bl true) := by
  simp only [oLe, h, decide_true]
theorem le_not {x y : Int} (h : ¬ x ≤ y) : oLe (.int x) (.int y) = some (.bl false) := by
  simp only [oLe, h, decide_false]
end
end Dn

set_option Elab.async false
set_option linter.all false
set_option maxRecDepth 100000
set_option maxHeartbeats 0
namespace My
open PySem PySem.Spec PyProof.Rows L2 Dn
def S_is_integer : Ss := (sRet (sAnd (sIsi (isiK "int") (sVar 0)) (sUn oNot (sIsi (isiK "bool") (sVar 0)))))
def F_is_integer : Fn := mkFn 1 1 S_is_integer
def S_power : Ss := (sSeq (sSet 2 (sC (.int 1))) (sSeq (sFor (iCall rng1O (sCons (sVar 1) sNil)) (gN 3) (sSet 2 (sBin oMul (sVar 2) (sVar 0)))) (sRet (sVar 2))))
def F_power : Fn := mkFn 4 2 S_power
def S_gauss : Ss := (sSeq (sCond (bOr (bVal (sBin oLt (sVar 1) (sC (.int 0)))) (bVal (sBin oGt (sVar 1) (sVar 0)))) (sRet (sC (.int 0))) sNext) (sSeq (sSet 3 (sC (.int 1))) (sSeq (sSet 4 (sC (.int 1))) (sSeq (sFor (iCall rng2O (sCons (sC (.int 1)) (sCons (sBin oAdd (sVar 1) (sC (.int 1))) sNil))) (gN 5) (sSeq (sSet 3 (sBin oMul (sVar 3) (sBin oSub (sFn F_power (sCons (sVar 2) (sCons (sBin oAdd (sBin oSub (sVar 0) (sVar 5)) (sC (.int 1))) sNil))) (sC (.int 1))))) (sSet 4 (sBin oMul (sVar 4) (sBin oSub (sFn F_power (sCons (sVar 2) (sCons (sVar 5) sNil))) (sC (.int 1))))))) (sRet (sBin oFdiv (sVar 3) (sVar 4)))))))
def F_gauss : Fn := mkFn 6 3 S_gauss
def S_invertible_count : Ss := (sSeq (sSet 2 (sC (.int 1))) (sSeq (sFor (iCall rng1O (sCons (sVar 0) sNil)) (gN 3) (sSet 2 (sBin oMul (sVar 2) (sBin oSub (sFn F_power (sCons (sVar 1) (sCons (sVar 0) sNil))) (sFn F_power (sCons (sVar 1) (sCons (sVar 3) sNil))))))) (sRet (sVar 2))))
def F_invertible_count : Fn := mkFn 4 2 S_invertible_count
def S__law_state : Ss := (sSeq (sSet 1 (sC (.int 0))) (sSeq (sSet 2 (sC (.int 1))) (sSeq (sFor (iSeq (sSl (sVar 0) oNo (oSome (sC (.int 63))))) (gN 3) (sSeq (sSet 1 (sBin oAdd (sBin oMul (sVar 1) (sC (.int 1000003))) (sCall oAbs (sCons (sVar 3) sNil)))) (sSet 2 (sBin oMod (sCall oInt (sCons (sBin oAdd (sBin oMul (sVar 2) (sC (.int 48271))) (sVar 3)) sNil)) (sC (.int 2147483647)))))) (sRetF (chkLen (sCons (sVar 1) (sCons (sVar 2) sNil)))))))
def F__law_state : Fn := mkFn 4 1 S__law_state
def S__law_take : Ss := (sSeq (sCond (bVal (sBin oGt (sIxO 0 (sC (.int 0))) (sC (.int 0)))) (sSeq (sSet 2 (sBin oMod (sCall oInt (sCons (sIxO 0 (sC (.int 0))) sNil)) (sVar 1))) (sSeq (sIxSet 0 (sC (.int 0)) (sBin oFdiv (sIxO 0 (sC (.int 0))) (sVar 1))) (sRet (sVar 2)))) sNext) (sSeq (sIxSet 0 (sC (.int 1)) (sBin oMod (sCall oInt (sCons (sBin oAdd (sBin oMul (sIxO 0 (sC (.int 1))) (sC (.int 48271))) (sC (.int 11))) sNil)) (sC (.int 2147483647)))) (sRet (sBin oMod (sCall oInt (sCons (sBin oFdiv (sIxO 0 (sC (.int 1))) (sC (.int 7))) sNil)) (sVar 1)))))
def F__law_take : Fn2 := mkFn2 3 1 S__law_take
def S__law_prime : Ss := (sRet (sBin oIx (sLst (sCons (sC (.int 2)) (sCons (sC (.int 3)) (sCons (sC (.int 2)) (sCons (sC (.int 5)) (sCons (sC (.int 7)) (sCons (sC (.int 3)) sNil))))))) (sIndex (sLst (sCons (sC (.int 2)) (sCons (sC (.int 3)) (sCons (sC (.int 4)) (sCons (sC (.int 5)) (sCons (sC (.int 7)) (sCons (sC (.int 9)) sNil))))))) (sVar 0))))
def F__law_prime : Fn := mkFn 1 1 S__law_prime
def S__law_joined : Ss := (sSeq (sSet 3 (sFn F__law_prime (sCons (sVar 0) sNil))) (sSeq (sCond (bVal (sBin oEq (sVar 3) (sVar 0))) (sRet (sBin oMod (sCall oInt (sCons (sVar 1) sNil)) (sVar 3))) sNext) (sRet (sBin oAdd (sBin oMod (sCall oInt (sCons (sVar 1) sNil)) (sVar 3)) (sBin oMul (sVar 3) (sBin oMod (sCall oInt (sCons (sVar 2) sNil)) (sVar 3)))))))
def F__law_joined : Fn := mkFn 4 3 S__law_joined
def S__law_field : Ss := (sSeq (sSet 1 (sFn F__law_prime (sCons (sVar 0) sNil))) (sSeq (sOwn 2 (chkLen sNil)) (sSeq (sOwn 3 (chkLen sNil)) (sSeq (sFor (iCall rng1O (sCons (sVar 0) sNil)) (gN 4) (sSeq (sOwn 5 (chkLen sNil)) (sSeq (sOwn 6 (chkLen sNil)) (sSeq (sFor (iCall rng1O (sCons (sVar 0) sNil)) (gN 7) (sSeq (sAsg (gTup' (gCons' (gN 8) (gCons' (gN 9) (gCons' (gN 10) (gCons' (gN 11) gNil'))))) (sTup (sCons (sBin oMod (sCall oInt (sCons (sVar 4) sNil)) (sVar 1)) (sCons (sBin oFdiv (sVar 4) (sVar 1)) (sCons (sBin oMod (sCall oInt (sCons (sVar 7) sNil)) (sVar 1)) (sCons (sBin oFdiv (sVar 7) (sVar 1)) sNil)))))) (sSeq (sAppend 5 (sFn F__law_joined (sCons (sVar 0) (sCons (sBin oAdd (sVar 8) (sVar 10)) (sCons (sBin oAdd (sVar 9) (sVar 11)) sNil))))) (sSeq (sSet 12 (sBin oAdd (sBin oMul (sVar 8) (sVar 11)) (sBin oMul (sVar 9) (sVar 10)))) (sCond (bVal (sBin oEq (sVar 0) (sC (.int 4)))) (sAppend 6 (sFn F__law_joined (sCons (sVar 0) (sCons (sBin oAdd (sBin oMul (sVar 8) (sVar 10)) (sBin oMul (sVar 9) (sVar 11))) (sCons (sBin oAdd (sVar 12) (sBin oMul (sVar 9) (sVar 11))) sNil))))) (sCond (bVal (sBin oEq (sVar 0) (sC (.int 9)))) (sAppend 6 (sFn F__law_joined (sCons (sVar 0) (sCons (sBin oAdd (sBin oMul (sVar 8) (sVar 10)) (sBin oMul (sBin oMul (sC (.int 2)) (sVar 9)) (sVar 11))) (sCons (sVar 12) sNil))))) (sAppend 6 (sBin oMod (sCall oInt (sCons (sBin oMul (sVar 4) (sVar 7)) sNil)) (sVar 0))))))))) (sSeq (sAppend 2 (sVar 5)) (sAppend 3 (sVar 6))))))) (sRet (sTup (sCons (sVar 0) (sCons (sVar 2) (sCons (sVar 3) sNil)))))))))
def F__law_field : Fn := mkFn 13 1 S__law_field
def S__law_sum : Ss := (sRet (sCall oTuple (sCons (sLs (sLc (iCall rng1O (sCons (sCall oLen (sCons (sVar 1) sNil)) sNil)) (gN 3) bYes (sBin oIx (sBin oIx (sBin oIx (sVar 0) (sC (.int 1))) (sBin oIx (sVar 1) (sVar 3))) (sBin oIx (sVar 2) (sVar 3))) [3])) sNil)))
def F__law_sum : Fn := mkFn 4 3 S__law_sum
def S__law_times : Ss := (sRet (sCall oTuple (sCons (sLs (sLc (iSeq (sVar 1)) (gN 3) bYes (sBin oIx (sBin oIx (sBin oIx (sVar 0) (sC (.int 2))) (sVar 3)) (sVar 2)) [3])) sNil)))
def F__law_times : Fn := mkFn 4 3 S__law_times
def S__law_rows : Ss := (sSeq (sSet 2 (sLst (sCons (sTup sNil) sNil))) (sSeq (sFor (iCall rng1O (sCons (sVar 1) sNil)) (gN 3) (sSeq (sSet 4 (sLst sNil)) (sSeq (sFor (iSeq (sVar 2)) (gN 5) (sSet 4 (sBin oAdd (sVar 4) (sLs (sLc (iCall rng1O (sCons (sBin oIx (sVar 0) (sC (.int 0))) sNil)) (gN 6) bYes (sBin oAdd (sVar 5) (sTup (sCons (sVar 6) sNil))) [6]))))) (sSet 2 (sLs (sCallF oList (sCons (sVar 4) sNil))))))) (sRet (sVar 2))))
def F__law_rows : Fn := mkFn 7 2 S__law_rows
def S__law_spanned : Ss := (sSeq (sSet 3 (sLst (sCons (sCall oTuple (sCons (sLs (sLc (iCall rng1O (sCons (sVar 2) sNil)) (gN 7) bYes (sC (.int 0)) [7])) sNil)) sNil))) (sSeq (sFor (iSeq (sVar 1)) (gN 4) (sCond (bVal (sBin oNotIn (sVar 4) (sVar 3))) (sSeq (sSet 5 (sLst sNil)) (sSeq (sFor (iSeq (sVar 3)) (gN 6) (sSet 5 (sBin oAdd (sVar 5) (sLs (sLc (iCall rng1O (sCons (sBin oIx (sVar 0) (sC (.int 0))) sNil)) (gN 8) bYes (sFn F__law_sum (sCons (sVar 0) (sCons (sVar 6) (sCons (sFn F__law_times (sCons (sVar 0) (sCons (sVar 4) (sCons (sVar 8) sNil)))) sNil)))) [8]))))) (sSet 3 (sLs (sCallF oList (sCons (sVar 5) sNil)))))) sNext)) (sRet (sVar 3))))
def F__law_spanned : Fn := mkFn 9 3 S__law_spanned
def S__law_is_free : Ss := (sSeq (sSet 3 (sC (.int 1))) (sSeq (sFor (iSeq (sVar 1)) (gN 4) (sSet 3 (sBin oMul (sVar 3) (sBin oIx (sVar 0) (sC (.int 0)))))) (sRet (sBin oEq (sCall oLen (sCons (sFn F__law_spanned (sCons (sVar 0) (sCons (sVar 1) (sCons (sVar 2) sNil)))) sNil)) (sVar 3)))))
def F__law_is_free : Fn := mkFn 5 3 S__law_is_free
def S__law_power : Ss := (sSeq (sSet 2 (sC (.int 1))) (sSeq (sFor (iCall rng1O (sCons (sVar 1) sNil)) (gN 3) (sSet 2 (sBin oMul (sVar 2) (sVar 0)))) (sRet (sVar 2))))
def F__law_power : Fn := mkFn 4 2 S__law_power
def S__law_tables : Ss := (sSeq (sSet 3 (sC (.int 0))) (sSeq (sFor (iCall rng1O (sCons (sFn F__law_power (sCons (sC (.int 2)) (sCons (sVar 0) sNil))) sNil)) (gN 4) (sSeq (sSet 5 (sLs (sLc (iCall rng1O (sCons (sVar 0) sNil)) (gN 8) (bVal (sBin oEq (sBin oMod (sBin oFdiv (sVar 4) (sFn F__law_power (sCons (sC (.int 2)) (sCons (sVar 8) sNil)))) (sC (.int 2))) (sC (.int 1)))) (sVar 8) [8]))) (sCond (bVal (sBin oEq (sCall oLen (sCons (sVar 5) sNil)) (sVar 1))) (sSeq (sSet 6 (sC (.int 0))) (sSeq (sFor (iSeq (sVar 5)) (gN 7) (sSet 6 (sBin oAdd (sVar 6) (sCall oLen (sCons (sLs (sLc (iCall rng2O (sCons (sVar 7) (sCons (sVar 0) sNil))) (gN 8) (bVal (sBin oNotIn (sVar 8) (sVar 5))) (sVar 8) [8])) sNil))))) (sSet 3 (sBin oAdd (sVar 3) (sFn F__law_power (sCons (sVar 2) (sCons (sVar 6) sNil))))))) sNext))) (sRet (sVar 3))))
def F__law_tables : Fn := mkFn 9 3 S__law_tables
def S__law_walked : Ss := (sSeq (sSet 2 (sFn F__law_field (sCons (sVar 0) sNil))) (sSeq (sSet 3 (sLst (sCons (sTup sNil) sNil))) (sSeq (sSet 4 (sFn F__law_rows (sCons (sVar 2) (sCons (sVar 1) sNil)))) (sSeq (sFor (iCall rng1O (sCons (sVar 1) sNil)) (gN 5) (sSeq (sSet 6 (sLst sNil)) (sSeq (sFor (iSeq (sVar 3)) (gN 7) (sSet 6 (sBin oAdd (sVar 6) (sLs (sLc (iSeq (sVar 4)) (gN 8) bYes (sBin oAdd (sVar 7) (sTup (sCons (sVar 8) sNil))) [8]))))) (sSet 3 (sLs (sCallF oList (sCons (sVar 6) sNil))))))) (sRet (sCall oLen (sCons (sLs (sLc (iSeq (sVar 3)) (gN 9) (bVal (sFn F__law_is_free (sCons (sVar 2) (sCons (sVar 9) (sCons (sVar 1) sNil))))) (sVar 9) [9])) sNil)))))))
def F__law_walked : Fn := mkFn 10 2 S__law_walked
def S_law : Ss := (sSeq (sOwn 1 (sFnF F__law_state (sCons (sVar 0) sNil))) (sSeq (sSet 2 (sBin oIx (sLst (sCons (sC (.int 2)) (sCons (sC (.int 3)) (sCons (sC (.int 4)) (sCons (sC (.int 5)) (sCons (sC (.int 7)) (sCons (sC (.int 9)) sNil))))))) (sFn2 1 F__law_take (sCons (sC (.int 6)) sNil)))) (sSeq (sPar 3 4 (sFn2 1 F__law_take (sCons (sC (.int 7)) sNil)) (sBin oSub (sFn2 1 F__law_take (sCons (sC (.int 9)) sNil)) (sC (.int 1)))) (sSeq (sCond (bVal (sBin oNe (sFn F_gauss (sCons (sVar 3) (sCons (sVar 4) (sCons (sVar 2) sNil)))) (sFn F__law_tables (sCons (sVar 3) (sCons (sVar 4) (sCons (sVar 2) sNil)))))) (sRet (sC (.bl false))) sNext) (sSeq (sSet 5 (sC (.int 1))) (sSeq (sFor (iCall rng1O (sCons (sVar 3) sNil)) (gN 6) (sSet 5 (sBin oMul (sVar 5) (sBin oSub (sFn F__law_power (sCons (sVar 2) (sCons (sVar 3) sNil))) (sFn F__law_power (sCons (sVar 2) (sCons (sVar 6) sNil))))))) (sSeq (sCond (bVal (sBin oNe (sFn F_invertible_count (sCons (sVar 3) (sCons (sVar 2) sNil))) (sVar 5))) (sRet (sC (.bl false))) sNext) (sSeq (sCond (bAnd (bVal (sBin oLe (sFn F__law_power (sCons (sVar 2) (sCons (sBin oMul (sVar 3) (sVar 3)) sNil))) (sC (.int 81)))) (bVal (sBin oNe (sFn F_invertible_count (sCons (sVar 3) (sCons (sVar 2) sNil))) (sFn F__law_walked (sCons (sVar 2) (sCons (sVar 3) sNil)))))) (sRet (sC (.bl false))) sNext) (sSeq (sPar 7 8 (sBin oSub (sFn2 1 F__law_take (sCons (sC (.int 21)) sNil)) (sC (.int 10))) (sFn2 1 F__law_take (sCons (sC (.int 40)) sNil))) (sSeq (sCond (bVal (sBin oNe (sFn F_power (sCons (sVar 7) (sCons (sVar 8) sNil))) (sFn F__law_power (sCons (sVar 7) (sCons (sVar 8) sNil))))) (sRet (sC (.bl false))) sNext) (sSeq (sFor (iSeq (sTup (sCons (sC (.bl true)) (sCons (sC (.bl false)) (sCons (sC .non) (sCons (sC (.str "1")) (sCons (sTup (sCons (sC (.int 1)) sNil)) (sCons (sLst (sCons (sC (.int 2)) sNil)) sNil)))))))) (gN 9) (sCond (bVal (sBin oIsNot (sFn F_is_integer (sCons (sVar 9) sNil)) (sC (.bl false)))) (sRet (sC (.bl false))) sNext)) (sRet (sBin oIs (sFn F_is_integer (sCons (sVar 7) sNil)) (sC (.bl true)))))))))))))))
def F_law : Fn := mkFn 10 1 S_law
def fa : List He.Fa := [.free "int", .free "isinstance", .free "bool", .free "range", .free "abs", .free "len", .free "tuple", .free "list", .glo "is_integer", .glo "power", .glo "gauss", .glo "invertible_count", .glo "_law_state", .glo "_law_take", .glo "_law_prime", .glo "_law_joined", .glo "_law_field", .glo "_law_sum", .glo "_law_times", .glo "_law_rows", .glo "_law_spanned", .glo "_law_is_free", .glo "_law_power", .glo "_law_tables", .glo "_law_walked", .glo "law"]
def top (i : Nat) : Stmt := PySem.Challenge.pw_wittspaces_k05_numbers_of_spaces.main.body.getD i (.Pass ⟨0, 0, 0, 0⟩)
abbrev st_is_integer : Stmt := top 1
def d_is_integer : He.DefD := ⟨("is_integer", none), "is_integer", "is_integer", defArgs st_is_integer, defBody st_is_integer, defScope st_is_integer, [], []⟩
abbrev st_power : Stmt := top 2
def d_power : He.DefD := ⟨("power", none), "power", "power", defArgs st_power, defBody st_power, defScope st_power, [], []⟩
abbrev st_gauss : Stmt := top 3
def d_gauss : He.DefD := ⟨("gauss", none), "gauss", "gauss", defArgs st_gauss, defBody st_gauss, defScope st_gauss, [], []⟩
abbrev st_invertible_count : Stmt := top 4
def d_invertible_count : He.DefD := ⟨("invertible_count", none), "invertible_count", "invertible_count", defArgs st_invertible_count, defBody st_invertible_count, defScope st_invertible_count, [], []⟩
abbrev st__law_state : Stmt := top 6
def d__law_state : He.DefD := ⟨("_law_state", none), "_law_state", "_law_state", defArgs st__law_state, defBody st__law_state, defScope st__law_state, [], []⟩
abbrev st__law_take : Stmt := top 7
def d__law_take : He.DefD := ⟨("_law_take", none), "_law_take", "_law_take", defArgs st__law_take, defBody st__law_take, defScope st__law_take, [], []⟩
abbrev st__law_prime : Stmt := top 8
def d__law_prime : He.DefD := ⟨("_law_prime", none), "_law_prime", "_law_prime", defArgs st__law_prime, defBody st__law_prime, defScope st__law_prime, [], []⟩
abbrev st__law_joined : Stmt := top 9
def d__law_joined : He.DefD := ⟨("_law_joined", none), "_law_joined", "_law_joined", defArgs st__law_joined, defBody st__law_joined, defScope st__law_joined, [], []⟩
abbrev st__law_field : Stmt := top 10
def d__law_field : He.DefD := ⟨("_law_field", none), "_law_field", "_law_field", defArgs st__law_field, defBody st__law_field, defScope st__law_field, [], []⟩
abbrev st__law_sum : Stmt := top 11
def d__law_sum : He.DefD := ⟨("_law_sum", none), "_law_sum", "_law_sum", defArgs st__law_sum, defBody st__law_sum, defScope st__law_sum, [], []⟩
abbrev st__law_times : Stmt := top 12
def d__law_times : He.DefD := ⟨("_law_times", none), "_law_times", "_law_times", defArgs st__law_times, defBody st__law_times, defScope st__law_times, [], []⟩
abbrev st__law_rows : Stmt := top 13
def d__law_rows : He.DefD := ⟨("_law_rows", none), "_law_rows", "_law_rows", defArgs st__law_rows, defBody st__law_rows, defScope st__law_rows, [], []⟩
abbrev st__law_spanned : Stmt := top 14
def d__law_spanned : He.DefD := ⟨("_law_spanned", none), "_law_spanned", "_law_spanned", defArgs st__law_spanned, defBody st__law_spanned, defScope st__law_spanned, [], []⟩
abbrev st__law_is_free : Stmt := top 15
def d__law_is_free : He.DefD := ⟨("_law_is_free", none), "_law_is_free", "_law_is_free", defArgs st__law_is_free, defBody st__law_is_free, defScope st__law_is_free, [], []⟩
abbrev st__law_power : Stmt := top 16
def d__law_power : He.DefD := ⟨("_law_power", none), "_law_power", "_law_power", defArgs st__law_power, defBody st__law_power, defScope st__law_power, [], []⟩
abbrev st__law_tables : Stmt := top 17
def d__law_tables : He.DefD := ⟨("_law_tables", none), "_law_tables", "_law_tables", defArgs st__law_tables, defBody st__law_tables, defScope st__law_tables, [], []⟩
abbrev st__law_walked : Stmt := top 18
def d__law_walked : He.DefD := ⟨("_law_walked", none), "_law_walked", "_law_walked", defArgs st__law_walked, defBody st__law_walked, defScope st__law_walked, [], []⟩
abbrev st_law : Stmt := top 19
def d_law : He.DefD := ⟨("law", none), "law", "law", defArgs st_law, defBody st_law, defScope st_law, [], []⟩
def fn : List He.DefD := [d_is_integer, d_power, d_gauss, d_invertible_count, d__law_state, d__law_take, d__law_prime, d__law_joined, d__law_field, d__law_sum, d__law_times, d__law_rows, d__law_spanned, d__law_is_free, d__law_power, d__law_tables, d__law_walked, d_law]
section
variable {P : Program} {w : World} {K : PySem.W.Frag} {mg : Str → Option Value} {base : Heap}
theorem sc_is_integer : FnScope ["value"] ["value"] d_is_integer.scope := ⟨rfl, rfl, rfl, by decide +kernel, rfl, by decide +kernel, by decide +kernel⟩
theorem ok_is_integer (T : Tx fa fn K mg) : Gd P w K mg base "is_integer" 1 F_is_integer := by
  obtain ⟨fd, F⟩ := T.says.def_ 0 (d := d_is_integer) rfl
  refine ⟨_, fd, ["value"], fn_pure F sc_is_integer (fun cdv A outer s H E e0 hr => ?_), (T.glo 8), F.kp, F.bindsN fun _ _ _ _ _ _ us hl => match us, hl with | [_], _ => rfl⟩
  have hu64 := hr.units
  have hu65 : (A.deeper (PyProof.Rows.envOfC d_is_integer.qual d_is_integer.scope s.heap.objs.size (He.fAd K d_is_integer.at_) cdv)).units + 65 < cLine := by have := hr.un; omega
  have nd := sc_is_integer.nd
  have tk : Takes (cxOf (L2.CX P w) P w K mg base ["value"] d_is_integer.qual d_is_integer.scope (He.fAd K d_is_integer.at_) cdv A outer s H E) (fun cls d _ H => E cls d H) := takes_of rfl rfl rfl rfl
  have po : PassesOwn (model P w) (A.deeper (PyProof.Rows.envOfC d_is_integer.qual d_is_integer.scope s.heap.objs.size (He.fAd K d_is_integer.at_) cdv)) (PyProof.Rows.envOfC d_is_integer.qual d_is_integer.scope s.heap.objs.size (He.fAd K d_is_integer.at_) cdv) (cxOf (L2.CX P w) P w K mg base ["value"] d_is_integer.qual d_is_integer.scope (He.fAd K d_is_integer.at_) cdv A outer s H E).xe := PassesOwn.leaving
  exact (dss_one (ds_ret (dx_and (dx_isi isi_ty (pe_bltn (v := .ty "int") (by rfl) (T.free 0) (by decide +kernel) rfl) (.ty _) (by rfl) (T.free 1) (by decide +kernel) (dx_var (i := 0) rfl (.inl rfl))) (dx_one (dx_not (dx_isi isi_ty (pe_bltn (v := .ty "bool") (by rfl) (T.free 2) (by decide +kernel) rfl) (.ty _) (by rfl) (T.free 1) (by decide +kernel) (dx_var (i := 0) rfl (.inl rfl))))))))
theorem sc_power : FnScope ["a", "k", "found", "turn"] ["a", "k"] d_power.scope := ⟨rfl, rfl, rfl, by decide +kernel, rfl, by decide +kernel, by decide +kernel⟩
theorem ok_power (T : Tx fa fn K mg) : Gd P w K mg base "power" 1 F_power := by
  obtain ⟨fd, F⟩ := T.says.def_ 1 (d := d_power) rfl
  refine ⟨_, fd, ["a", "k"], fn_pure F sc_power (fun cdv A outer s H E e0 hr => ?_), (T.glo 9), F.kp, F.bindsN fun _ _ _ _ _ _ us hl => match us, hl with | [_, _], _ => rfl⟩
  have hu64 := hr.units
  have hu65 : (A.deeper (PyProof.Rows.envOfC d_power.qual d_power.scope s.heap.objs.size (He.fAd K d_power.at_) cdv)).units + 65 < cLine := by have := hr.un; omega
  have nd := sc_power.nd
  have tk : Takes (cxOf (L2.CX P w) P w K mg base ["a", "k", "found", "turn"] d_power.qual d_power.scope (He.fAd K d_power.at_) cdv A outer s H E) (fun cls d _ H => E cls d H) := takes_of rfl rfl rfl rfl
  have po : PassesOwn (model P w) (A.deeper (PyProof.Rows.envOfC d_power.qual d_power.scope s.heap.objs.size (He.fAd K d_power.at_) cdv)) (PyProof.Rows.envOfC d_power.qual d_power.scope s.heap.objs.size (He.fAd K d_power.at_) cdv) (cxOf (L2.CX P w) P w K mg base ["a", "k", "found", "turn"] d_power.qual d_power.scope (He.fAd K d_power.at_) cdv A outer s H E).xe := PassesOwn.leaving
  exact (dss_cons (ds_set nd rfl (.inl rfl) dx_int) (dss_cons (ds_for po rfl (di_range1 (by rfl) (T.free 3) (da_cons (dx_var (i := 1) rfl (.inl rfl)) da_nil)) (dg_name nd rfl (.inl rfl)) (dss_one (ds_set nd rfl (.inl rfl) (dx_op od_mul (dx_var (i := 2) rfl (.inl rfl)) (dx_var (i := 0) rfl (.inl rfl)))))) (dss_one (ds_ret (dx_var (i := 2) rfl (.inl rfl))))))
theorem sc_gauss : FnScope ["n", "k", "q", "top", "low", "i"] ["n", "k", "q"] d_gauss.scope := ⟨rfl, rfl, rfl, by decide +kernel, rfl, by decide +kernel, by decide +kernel⟩
theorem ok_gauss (T : Tx fa fn K mg) : Gd P w K mg base "gauss" 2 F_gauss := by
  have G_power := ok_power (P := P) (w := w) (base := base) T
  obtain ⟨fd, F⟩ := T.says.def_ 2 (d := d_gauss) rfl
  refine ⟨_, fd, ["n", "k", "q"], fn_pure F sc_gauss (fun cdv A outer s H E e0 hr => ?_), (T.glo 10), F.kp, F.bindsN fun _ _ _ _ _ _ us hl => match us, hl with | [_, _, _], _ => rfl⟩
  have hu64 := hr.units
  have hu65 : (A.deeper (PyProof.Rows.envOfC d_gauss.qual d_gauss.scope s.heap.objs.size (He.fAd K d_gauss.at_) cdv)).units + 65 < cLine := by have := hr.un; omega
  have nd := sc_gauss.nd
  have tk : Takes (cxOf (L2.CX P w) P w K mg base ["n", "k", "q", "top", "low", "i"] d_gauss.qual d_gauss.scope (He.fAd K d_gauss.at_) cdv A outer s H E) (fun cls d _ H => E cls d H) := takes_of rfl rfl rfl rfl
  have po : PassesOwn (model P w) (A.deeper (PyProof.Rows.envOfC d_gauss.qual d_gauss.scope s.heap.objs.size (He.fAd K d_gauss.at_) cdv)) (PyProof.Rows.envOfC d_gauss.qual d_gauss.scope s.heap.objs.size (He.fAd K d_gauss.at_) cdv) (cxOf (L2.CX P w) P w K mg base ["n", "k", "q", "top", "low", "i"] d_gauss.qual d_gauss.scope (He.fAd K d_gauss.at_) cdv A outer s H E).xe := PassesOwn.leaving
  exact (dss_cons (ds_if (dt_w (dw_or (dt_cmp od_lt (dx_var (i := 1) rfl (.inl rfl)) dx_int (nomark _)) (dw_one (dt_cmp od_gt (dx_var (i := 1) rfl (.inl rfl)) (dx_var (i := 0) rfl (.inl rfl)) (nomark _))))) (dss_one (ds_ret dx_int)) dss_nil) (dss_cons (ds_set nd rfl (.inl rfl) dx_int) (dss_cons (ds_set nd rfl (.inl rfl) dx_int) (dss_cons (ds_for po rfl (di_range2 (by rfl) (T.free 3) (da_cons dx_int (da_cons (dx_op od_add (dx_var (i := 1) rfl (.inl rfl)) dx_int) da_nil))) (dg_name nd rfl (.inl rfl)) (dss_cons (ds_set nd rfl (.inl rfl) (dx_op od_mul (dx_var (i := 3) rfl (.inl rfl)) (dx_op od_sub (dx_call ((G_power).good (hr.mono (by decide))) tk (by rfl) (da_cons (dx_var (i := 2) rfl (.inl rfl)) (da_cons (dx_op od_add (dx_op od_sub (dx_var (i := 0) rfl (.inl rfl)) (dx_var (i := 5) rfl (.inl rfl))) dx_int) da_nil))) dx_int))) (dss_one (ds_set nd rfl (.inl rfl) (dx_op od_mul (dx_var (i := 4) rfl (.inl rfl)) (dx_op od_sub (dx_call ((G_power).good (hr.mono (by decide))) tk (by rfl) (da_cons (dx_var (i := 2) rfl (.inl rfl)) (da_cons (dx_var (i := 5) rfl (.inl rfl)) da_nil))) dx_int)))))) (dss_one (ds_ret (dx_op od_fdiv (dx_var (i := 3) rfl (.inl rfl)) (dx_var (i := 4) rfl (.inl rfl)))))))))
theorem sc_invertible_count : FnScope ["n", "q", "found", "i"] ["n", "q"] d_invertible_count.scope := ⟨rfl, rfl, rfl, by decide +kernel, rfl, by decide +kernel, by decide +kernel⟩
theorem ok_invertible_count (T : Tx fa fn K mg) : Gd P w K mg base "invertible_count" 2 F_invertible_count := by
  have G_power := ok_power (P := P) (w := w) (base := base) T
  obtain ⟨fd, F⟩ := T.says.def_ 3 (d := d_invertible_count) rfl
  refine ⟨_, fd, ["n", "q"], fn_pure F sc_invertible_count (fun cdv A outer s H E e0 hr => ?_), (T.glo 11), F.kp, F.bindsN fun _ _ _ _ _ _ us hl => match us, hl with | [_, _], _ => rfl⟩
  have hu64 := hr.units
  have hu65 : (A.deeper (PyProof.Rows.envOfC d_invertible_count.qual d_invertible_count.scope s.heap.objs.size (He.fAd K d_invertible_count.at_) cdv)).units + 65 < cLine := by have := hr.un; omega
  have nd := sc_invertible_count.nd
  have tk : Takes (cxOf (L2.CX P w) P w K mg base ["n", "q", "found", "i"] d_invertible_count.qual d_invertible_count.scope (He.fAd K d_invertible_count.at_) cdv A outer s H E) (fun cls d _ H => E cls d H) := takes_of rfl rfl rfl rfl
  have po : PassesOwn (model P w) (A.deeper (PyProof.Rows.envOfC d_invertible_count.qual d_invertible_count.scope s.heap.objs.size (He.fAd K d_invertible_count.at_) cdv)) (PyProof.Rows.envOfC d_invertible_count.qual d_invertible_count.scope s.heap.objs.size (He.fAd K d_invertible_count.at_) cdv) (cxOf (L2.CX P w) P w K mg base ["n", "q", "found", "i"] d_invertible_count.qual d_invertible_count.scope (He.fAd K d_invertible_count.at_) cdv A outer s H E).xe := PassesOwn.leaving
  exact (dss_cons (ds_set nd rfl (.inl rfl) dx_int) (dss_cons (ds_for po rfl (di_range1 (by rfl) (T.free 3) (da_cons (dx_var (i := 0) rfl (.inl rfl)) da_nil)) (dg_name nd rfl (.inl rfl)) (dss_one (ds_set nd rfl (.inl rfl) (dx_op od_mul (dx_var (i := 2) rfl (.inl rfl)) (dx_op od_sub (dx_call ((G_power).good (hr.mono (by decide))) tk (by rfl) (da_cons (dx_var (i := 1) rfl (.inl rfl)) (da_cons (dx_var (i := 0) rfl (.inl rfl)) da_nil))) (dx_call ((G_power).good (hr.mono (by decide))) tk (by rfl) (da_cons (dx_var (i := 1) rfl (.inl rfl)) (da_cons (dx_var (i := 3) rfl (.inl rfl)) da_nil)))))))) (dss_one (ds_ret (dx_var (i := 2) rfl (.inl rfl))))))
theorem sc__law_state : FnScope ["_law_script", "_law_seed", "_law_total", "_law_cell"] ["_law_script"] d__law_state.scope := ⟨rfl, rfl, rfl, by decide +kernel, rfl, by decide +kernel, by decide +kernel⟩
theorem ok__law_state (T : Tx fa fn K mg) : Gd P w K mg base "_law_state" 1 F__law_state := by
  obtain ⟨fd, F⟩ := T.says.def_ 4 (d := d__law_state) rfl
  refine ⟨_, fd, ["_law_script"], fn_pure F sc__law_state (fun cdv A outer s H E e0 hr => ?_), (T.glo 12), F.kp, F.bindsN fun _ _ _ _ _ _ us hl => match us, hl with | [_], _ => rfl⟩
  have hu64 := hr.units
  have hu65 : (A.deeper (PyProof.Rows.envOfC d__law_state.qual d__law_state.scope s.heap.objs.size (He.fAd K d__law_state.at_) cdv)).units + 65 < cLine := by have := hr.un; omega
  have nd := sc__law_state.nd
  have tk : Takes (cxOf (L2.CX P w) P w K mg base ["_law_script", "_law_seed", "_law_total", "_law_cell"] d__law_state.qual d__law_state.scope (He.fAd K d__law_state.at_) cdv A outer s H E) (fun cls d _ H => E cls d H) := takes_of rfl rfl rfl rfl
  have po : PassesOwn (model P w) (A.deeper (PyProof.Rows.envOfC d__law_state.qual d__law_state.scope s.heap.objs.size (He.fAd K d__law_state.at_) cdv)) (PyProof.Rows.envOfC d__law_state.qual d__law_state.scope s.heap.objs.size (He.fAd K d__law_state.at_) cdv) (cxOf (L2.CX P w) P w K mg base ["_law_script", "_law_seed", "_law_total", "_law_cell"] d__law_state.qual d__law_state.scope (He.fAd K d__law_state.at_) cdv A outer s H E).xe := PassesOwn.leaving
  exact (dss_cons (ds_set nd rfl (.inl rfl) dx_int) (dss_cons (ds_set nd rfl (.inl rfl) dx_int) (dss_cons (ds_for po rfl (di_seq (dx_sl (dx_var (i := 0) rfl (.inl rfl)) do_none (do_some dx_int))) (dg_name nd rfl (.inl rfl)) (dss_cons (ds_set nd rfl (.inl rfl) (dx_op od_add (dx_op od_mul (dx_var (i := 1) rfl (.inl rfl)) dx_int) (dx_callB cd_abs (by rfl) (T.free 4) (by decide +kernel) (da_cons (dx_var (i := 3) rfl (.inl rfl)) da_nil)))) (dss_one (ds_set nd rfl (.inl rfl) (dx_op od_mod (dx_callTy cd_int (by rfl) (T.free 0) (by decide +kernel) (da_cons (dx_op od_add (dx_op od_mul (dx_var (i := 2) rfl (.inl rfl)) dx_int) (dx_var (i := 3) rfl (.inl rfl))) da_nil)) dx_int))))) (dss_one (ds_retF (df_lst (da_cons (dx_var (i := 1) rfl (.inl rfl)) (da_cons (dx_var (i := 2) rfl (.inl rfl)) da_nil))))))))
theorem sc__law_take : FnScope ["_law_state_here", "_law_m", "_law_value"] ["_law_state_here", "_law_m"] d__law_take.scope := ⟨rfl, rfl, rfl, by decide +kernel, rfl, by decide +kernel, by decide +kernel⟩
theorem ok__law_take (T : Tx fa fn K mg) : Gd2 P w K mg base "_law_take" 1 F__law_take := by
  obtain ⟨fd, F⟩ := T.says.def_ 5 (d := d__law_take) rfl
  refine ⟨_, fd, ["_law_state_here", "_law_m"], fn_cell (by decide) (by decide) F sc__law_take (fun cdv A outer s H E e0 hr => ?_), (T.glo 13), F.kp, F.bindsN fun _ _ _ _ _ _ us hl => match us, hl with | [_, _], _ => rfl⟩
  have hu64 := hr.units
  have hu65 : (A.deeper (PyProof.Rows.envOfC d__law_take.qual d__law_take.scope s.heap.objs.size (He.fAd K d__law_take.at_) cdv)).units + 65 < cLine := by have := hr.un; omega
  have nd := sc__law_take.nd
  have tk : Takes (cxOf (L2.CX P w) P w K mg base ["_law_state_here", "_law_m", "_law_value"] d__law_take.qual d__law_take.scope (He.fAd K d__law_take.at_) cdv A outer s H E) (fun cls d _ H => E cls d H) := takes_of rfl rfl rfl rfl
  have po : PassesOwn (model P w) (A.deeper (PyProof.Rows.envOfC d__law_take.qual d__law_take.scope s.heap.objs.size (He.fAd K d__law_take.at_) cdv)) (PyProof.Rows.envOfC d__law_take.qual d__law_take.scope s.heap.objs.size (He.fAd K d__law_take.at_) cdv) (cxOf (L2.CX P w) P w K mg base ["_law_state_here", "_law_m", "_law_value"] d__law_take.qual d__law_take.scope (He.fAd K d__law_take.at_) cdv A outer s H E).xe := PassesOwn.leaving
  exact (dss_cons (ds_if (dt_cmp od_gt (dx_ixO (i := 0) rfl (.inl rfl) dx_int) dx_int (nomark _)) (dss_cons (ds_set nd rfl (.inl rfl) (dx_op od_mod (dx_callTy cd_int (by rfl) (T.free 0) (by decide +kernel) (da_cons (dx_ixO (i := 0) rfl (.inl rfl) dx_int) da_nil)) (dx_var (i := 1) rfl (.inl rfl)))) (dss_cons (ds_ixSet (i := 0) rfl (.inl rfl) (dx_op od_fdiv (dx_ixO (i := 0) rfl (.inl rfl) dx_int) (dx_var (i := 1) rfl (.inl rfl))) dx_int) (dss_one (ds_ret (dx_var (i := 2) rfl (.inl rfl)))))) dss_nil) (dss_cons (ds_ixSet (i := 0) rfl (.inl rfl) (dx_op od_mod (dx_callTy cd_int (by rfl) (T.free 0) (by decide +kernel) (da_cons (dx_op od_add (dx_op od_mul (dx_ixO (i := 0) rfl (.inl rfl) dx_int) dx_int) dx_int) da_nil)) dx_int) dx_int) (dss_one (ds_ret (dx_op od_mod (dx_callTy cd_int (by rfl) (T.free 0) (by decide +kernel) (da_cons (dx_op od_fdiv (dx_ixO (i := 0) rfl (.inl rfl) dx_int) dx_int) da_nil)) (dx_var (i := 1) rfl (.inl rfl)))))))
theorem sc__law_prime : FnScope ["_law_q"] ["_law_q"] d__law_prime.scope := ⟨rfl, rfl, rfl, by decide +kernel, rfl, by decide +kernel, by decide +kernel⟩
theorem ok__law_prime (T : Tx fa fn K mg) : Gd P w K mg base "_law_prime" 1 F__law_prime := by
  obtain ⟨fd, F⟩ := T.says.def_ 6 (d := d__law_prime) rfl
  refine ⟨_, fd, ["_law_q"], fn_pure F sc__law_prime (fun cdv A outer s H E e0 hr => ?_), (T.glo 14), F.kp, F.bindsN fun _ _ _ _ _ _ us hl => match us, hl with | [_], _ => rfl⟩
  have hu64 := hr.units
  have hu65 : (A.deeper (PyProof.Rows.envOfC d__law_prime.qual d__law_prime.scope s.heap.objs.size (He.fAd K d__law_prime.at_) cdv)).units + 65 < cLine := by have := hr.un; omega
  have nd := sc__law_prime.nd
  have tk : Takes (cxOf (L2.CX P w) P w K mg base ["_law_q"] d__law_prime.qual d__law_prime.scope (He.fAd K d__law_prime.at_) cdv A outer s H E) (fun cls d _ H => E cls d H) := takes_of rfl rfl rfl rfl
  have po : PassesOwn (model P w) (A.deeper (PyProof.Rows.envOfC d__law_prime.qual d__law_prime.scope s.heap.objs.size (He.fAd K d__law_prime.at_) cdv)) (PyProof.Rows.envOfC d__law_prime.qual d__law_prime.scope s.heap.objs.size (He.fAd K d__law_prime.at_) cdv) (cxOf (L2.CX P w) P w K mg base ["_law_q"] d__law_prime.qual d__law_prime.scope (He.fAd K d__law_prime.at_) cdv A outer s H E).xe := PassesOwn.leaving
  exact (dss_one (ds_ret (dx_ix ixd (dx_lst (da_cons dx_int (da_cons dx_int (da_cons dx_int (da_cons dx_int (da_cons dx_int (da_cons dx_int da_nil))))))) (dx_index (dx_lst (da_cons dx_int (da_cons dx_int (da_cons dx_int (da_cons dx_int (da_cons dx_int (da_cons dx_int da_nil))))))) (dx_var (i := 0) rfl (.inl rfl))))))
theorem sc__law_joined : FnScope ["_law_q", "_law_low", "_law_high", "_law_p"] ["_law_q", "_law_low", "_law_high"] d__law_joined.scope := ⟨rfl, rfl, rfl, by decide +kernel, rfl, by decide +kernel, by decide +kernel⟩
theorem ok__law_joined (T : Tx fa fn K mg) : Gd P w K mg base "_law_joined" 2 F__law_joined := by
  have G__law_prime := ok__law_prime (P := P) (w := w) (base := base) T
  obtain ⟨fd, F⟩ := T.says.def_ 7 (d := d__law_joined) rfl
  refine ⟨_, fd, ["_law_q", "_law_low", "_law_high"], fn_pure F sc__law_joined (fun cdv A outer s H E e0 hr => ?_), (T.glo 15), F.kp, F.bindsN fun _ _ _ _ _ _ us hl => match us, hl with | [_, _, _], _ => rfl⟩
  have hu64 := hr.units
  have hu65 : (A.deeper (PyProof.Rows.envOfC d__law_joined.qual d__law_joined.scope s.heap.objs.size (He.fAd K d__law_joined.at_) cdv)).units + 65 < cLine := by have := hr.un; omega
  have nd := sc__law_joined.nd
  have tk : Takes (cxOf (L2.CX P w) P w K mg base ["_law_q", "_law_low", "_law_high", "_law_p"] d__law_joined.qual d__law_joined.scope (He.fAd K d__law_joined.at_) cdv A outer s H E) (fun cls d _ H => E cls d H) := takes_of rfl rfl rfl rfl
  have po : PassesOwn (model P w) (A.deeper (PyProof.Rows.envOfC d__law_joined.qual d__law_joined.scope s.heap.objs.size (He.fAd K d__law_joined.at_) cdv)) (PyProof.Rows.envOfC d__law_joined.qual d__law_joined.scope s.heap.objs.size (He.fAd K d__law_joined.at_) cdv) (cxOf (L2.CX P w) P w K mg base ["_law_q", "_law_low", "_law_high", "_law_p"] d__law_joined.qual d__law_joined.scope (He.fAd K d__law_joined.at_) cdv A outer s H E).xe := PassesOwn.leaving
  exact (dss_cons (ds_set nd rfl (.inl rfl) (dx_call ((G__law_prime).good (hr.mono (by decide))) tk (by rfl) (da_cons (dx_var (i := 0) rfl (.inl rfl)) da_nil))) (dss_cons (ds_if (dt_cmp (od_eq hu64) (dx_var (i := 3) rfl (.inl rfl)) (dx_var (i := 0) rfl (.inl rfl)) (nomark _)) (dss_one (ds_ret (dx_op od_mod (dx_callTy cd_int (by rfl) (T.free 0) (by decide +kernel) (da_cons (dx_var (i := 1) rfl (.inl rfl)) da_nil)) (dx_var (i := 3) rfl (.inl rfl))))) dss_nil) (dss_one (ds_ret (dx_op od_add (dx_op od_mod (dx_callTy cd_int (by rfl) (T.free 0) (by decide +kernel) (da_cons (dx_var (i := 1) rfl (.inl rfl)) da_nil)) (dx_var (i := 3) rfl (.inl rfl))) (dx_op od_mul (dx_var (i := 3) rfl (.inl rfl)) (dx_op od_mod (dx_callTy cd_int (by rfl) (T.free 0) (by decide +kernel) (da_cons (dx_var (i := 2) rfl (.inl rfl)) da_nil)) (dx_var (i := 3) rfl (.inl rfl)))))))))
theorem sc__law_field : FnScope ["_law_q", "_law_p", "_law_sums", "_law_products", "_law_a", "_law_line", "_law_own", "_law_b", "_law_low", "_law_high", "_law_one", "_law_two", "_law_mixed"] ["_law_q"] d__law_field.scope := ⟨rfl, rfl, rfl, by decide +kernel, rfl, by decide +kernel, by decide +kernel⟩
theorem ok__law_field (T : Tx fa fn K mg) : Gd P w K mg base "_law_field" 3 F__law_field := by
  have G__law_joined := ok__law_joined (P := P) (w := w) (base := base) T
  have G__law_prime := ok__law_prime (P := P) (w := w) (base := base) T
  obtain ⟨fd, F⟩ := T.says.def_ 8 (d := d__law_field) rfl
  refine ⟨_, fd, ["_law_q"], fn_pure F sc__law_field (fun cdv A outer s H E e0 hr => ?_), (T.glo 16), F.kp, F.bindsN fun _ _ _ _ _ _ us hl => match us, hl with | [_], _ => rfl⟩
  have hu64 := hr.units
  have hu65 : (A.deeper (PyProof.Rows.envOfC d__law_field.qual d__law_field.scope s.heap.objs.size (He.fAd K d__law_field.at_) cdv)).units + 65 < cLine := by have := hr.un; omega
  have nd := sc__law_field.nd
  have tk : Takes (cxOf (L2.CX P w) P w K mg base ["_law_q", "_law_p", "_law_sums", "_law_products", "_law_a", "_law_line", "_law_own", "_law_b", "_law_low", "_law_high", "_law_one", "_law_two", "_law_mixed"] d__law_field.qual d__law_field.scope (He.fAd K d__law_field.at_) cdv A outer s H E) (fun cls d _ H => E cls d H) := takes_of rfl rfl rfl rfl
  have po : PassesOwn (model P w) (A.deeper (PyProof.Rows.envOfC d__law_field.qual d__law_field.scope s.heap.objs.size (He.fAd K d__law_field.at_) cdv)) (PyProof.Rows.envOfC d__law_field.qual d__law_field.scope s.heap.objs.size (He.fAd K d__law_field.at_) cdv) (cxOf (L2.CX P w) P w K mg base ["_law_q", "_law_p", "_law_sums", "_law_products", "_law_a", "_law_line", "_law_own", "_law_b", "_law_low", "_law_high", "_law_one", "_law_two", "_law_mixed"] d__law_field.qual d__law_field.scope (He.fAd K d__law_field.at_) cdv A outer s H E).xe := PassesOwn.leaving
  exact (dss_cons (ds_set nd rfl (.inl rfl) (dx_call ((G__law_prime).good (hr.mono (by decide))) tk (by rfl) (da_cons (dx_var (i := 0) rfl (.inl rfl)) da_nil))) (dss_cons (ds_own nd rfl (.inl rfl) (df_lst da_nil)) (dss_cons (ds_own nd rfl (.inl rfl) (df_lst da_nil)) (dss_cons (ds_for po rfl (di_range1 (by rfl) (T.free 3) (da_cons (dx_var (i := 0) rfl (.inl rfl)) da_nil)) (dg_name nd rfl (.inl rfl)) (dss_cons (ds_own nd rfl (.inl rfl) (df_lst da_nil)) (dss_cons (ds_own nd rfl (.inl rfl) (df_lst da_nil)) (dss_cons (ds_for po rfl (di_range1 (by rfl) (T.free 3) (da_cons (dx_var (i := 0) rfl (.inl rfl)) da_nil)) (dg_name nd rfl (.inl rfl)) (dss_cons (ds_asg (dx_tup (da_cons (dx_op od_mod (dx_callTy cd_int (by rfl) (T.free 0) (by decide +kernel) (da_cons (dx_var (i := 4) rfl (.inl rfl)) da_nil)) (dx_var (i := 1) rfl (.inl rfl))) (da_cons (dx_op od_fdiv (dx_var (i := 4) rfl (.inl rfl)) (dx_var (i := 1) rfl (.inl rfl))) (da_cons (dx_op od_mod (dx_callTy cd_int (by rfl) (T.free 0) (by decide +kernel) (da_cons (dx_var (i := 7) rfl (.inl rfl)) da_nil)) (dx_var (i := 1) rfl (.inl rfl))) (da_cons (dx_op od_fdiv (dx_var (i := 7) rfl (.inl rfl)) (dx_var (i := 1) rfl (.inl rfl))) da_nil))))) (dg_tup rfl (dgs_cons (dg_name nd rfl (.inl rfl)) (dgs_cons (dg_name nd rfl (.inl rfl)) (dgs_cons (dg_name nd rfl (.inl rfl)) (dgs_cons (dg_name nd rfl (.inl rfl)) dgs_nil)))))) (dss_cons (ds_append (i := 5) rfl (.inl rfl) (dx_call ((G__law_joined).good (hr.mono (by decide))) tk (by rfl) (da_cons (dx_var (i := 0) rfl (.inl rfl)) (da_cons (dx_op od_add (dx_var (i := 8) rfl (.inl rfl)) (dx_var (i := 10) rfl (.inl rfl))) (da_cons (dx_op od_add (dx_var (i := 9) rfl (.inl rfl)) (dx_var (i := 11) rfl (.inl rfl))) da_nil))))) (dss_cons (ds_set nd rfl (.inl rfl) (dx_op od_add (dx_op od_mul (dx_var (i := 8) rfl (.inl rfl)) (dx_var (i := 11) rfl (.inl rfl))) (dx_op od_mul (dx_var (i := 9) rfl (.inl rfl)) (dx_var (i := 10) rfl (.inl rfl))))) (dss_one (ds_if (dt_cmp (od_eq hu64) (dx_var (i := 0) rfl (.inl rfl)) dx_int (nomark _)) (dss_one (ds_append (i := 6) rfl (.inl rfl) (dx_call ((G__law_joined).good (hr.mono (by decide))) tk (by rfl) (da_cons (dx_var (i := 0) rfl (.inl rfl)) (da_cons (dx_op od_add (dx_op od_mul (dx_var (i := 8) rfl (.inl rfl)) (dx_var (i := 10) rfl (.inl rfl))) (dx_op od_mul (dx_var (i := 9) rfl (.inl rfl)) (dx_var (i := 11) rfl (.inl rfl)))) (da_cons (dx_op od_add (dx_var (i := 12) rfl (.inl rfl)) (dx_op od_mul (dx_var (i := 9) rfl (.inl rfl)) (dx_var (i := 11) rfl (.inl rfl)))) da_nil)))))) (dss_one (ds_if (dt_cmp (od_eq hu64) (dx_var (i := 0) rfl (.inl rfl)) dx_int (nomark _)) (dss_one (ds_append (i := 6) rfl (.inl rfl) (dx_call ((G__law_joined).good (hr.mono (by decide))) tk (by rfl) (da_cons (dx_var (i := 0) rfl (.inl rfl)) (da_cons (dx_op od_add (dx_op od_mul (dx_var (i := 8) rfl (.inl rfl)) (dx_var (i := 10) rfl (.inl rfl))) (dx_op od_mul (dx_op od_mul dx_int (dx_var (i := 9) rfl (.inl rfl))) (dx_var (i := 11) rfl (.inl rfl)))) (da_cons (dx_var (i := 12) rfl (.inl rfl)) da_nil)))))) (dss_one (ds_append (i := 6) rfl (.inl rfl) (dx_op od_mod (dx_callTy cd_int (by rfl) (T.free 0) (by decide +kernel) (da_cons (dx_op od_mul (dx_var (i := 4) rfl (.inl rfl)) (dx_var (i := 7) rfl (.inl rfl))) da_nil)) (dx_var (i := 0) rfl (.inl rfl))))))))))))) (dss_cons (ds_append (i := 2) rfl (.inl rfl) (dx_var (i := 5) rfl (.inl rfl))) (dss_one (ds_append (i := 3) rfl (.inl rfl) (dx_var (i := 6) rfl (.inl rfl))))))))) (dss_one (ds_ret (dx_tup (da_cons (dx_var (i := 0) rfl (.inl rfl)) (da_cons (dx_var (i := 2) rfl (.inl rfl)) (da_cons (dx_var (i := 3) rfl (.inl rfl)) da_nil))))))))))
theorem sc__law_sum : FnScope ["_law_f", "_law_v", "_law_w", "_law_k"] ["_law_f", "_law_v", "_law_w"] d__law_sum.scope := ⟨rfl, rfl, rfl, by decide +kernel, rfl, by decide +kernel, by decide +kernel⟩
theorem ok__law_sum (T : Tx fa fn K mg) : Gd P w K mg base "_law_sum" 1 F__law_sum := by
  obtain ⟨fd, F⟩ := T.says.def_ 9 (d := d__law_sum) rfl
  refine ⟨_, fd, ["_law_f", "_law_v", "_law_w"], fn_pure F sc__law_sum (fun cdv A outer s H E e0 hr => ?_), (T.glo 17), F.kp, F.bindsN fun _ _ _ _ _ _ us hl => match us, hl with | [_, _, _], _ => rfl⟩
  have hu64 := hr.units
  have hu65 : (A.deeper (PyProof.Rows.envOfC d__law_sum.qual d__law_sum.scope s.heap.objs.size (He.fAd K d__law_sum.at_) cdv)).units + 65 < cLine := by have := hr.un; omega
  have nd := sc__law_sum.nd
  have tk : Takes (cxOf (L2.CX P w) P w K mg base ["_law_f", "_law_v", "_law_w", "_law_k"] d__law_sum.qual d__law_sum.scope (He.fAd K d__law_sum.at_) cdv A outer s H E) (fun cls d _ H => E cls d H) := takes_of rfl rfl rfl rfl
  have po : PassesOwn (model P w) (A.deeper (PyProof.Rows.envOfC d__law_sum.qual d__law_sum.scope s.heap.objs.size (He.fAd K d__law_sum.at_) cdv)) (PyProof.Rows.envOfC d__law_sum.qual d__law_sum.scope s.heap.objs.size (He.fAd K d__law_sum.at_) cdv) (cxOf (L2.CX P w) P w K mg base ["_law_f", "_law_v", "_law_w", "_law_k"] d__law_sum.qual d__law_sum.scope (He.fAd K d__law_sum.at_) cdv A outer s H E).xe := PassesOwn.leaving
  exact (dss_one (ds_ret (dx_callTy cd_tuple (by rfl) (T.free 6) (by decide +kernel) (da_cons (dx_df (df_lc (own := [("_law_k", 3)]) rfl nd (di_range1 (by rfl) (T.free 3) (da_cons (dx_callB cd_len (by rfl) (T.free 5) (by decide +kernel) (da_cons (dx_var (i := 1) rfl (.inr (.inl rfl))) da_nil)) da_nil)) (blkOk_by (by kernel_rfl)) (fun _ _ _ _ _ => (dg_name nd rfl (.inl rfl))) (by decide) (fun _ _ _ _ _ => dts_nil) (fun _ _ _ _ _ => (dx_ix ixd (dx_ix ixd (dx_ix ixd (dx_var (i := 0) rfl (.inr (.inl rfl))) dx_int) (dx_ix ixd (dx_var (i := 1) rfl (.inr (.inl rfl))) (dx_var (i := 3) rfl (.inl rfl)))) (dx_ix ixd (dx_var (i := 2) rfl (.inr (.inl rfl))) (dx_var (i := 3) rfl (.inl rfl))))))) da_nil))))
theorem sc__law_times : FnScope ["_law_f", "_law_v", "_law_c", "_law_x"] ["_law_f", "_law_v", "_law_c"] d__law_times.scope := ⟨rfl, rfl, rfl, by decide +kernel, rfl, by decide +kernel, by decide +kernel⟩
theorem ok__law_times (T : Tx fa fn K mg) : Gd P w K mg base "_law_times" 1 F__law_times := by
  obtain ⟨fd, F⟩ := T.says.def_ 10 (d := d__law_times) rfl
  refine ⟨_, fd, ["_law_f", "_law_v", "_law_c"], fn_pure F sc__law_times (fun cdv A outer s H E e0 hr => ?_), (T.glo 18), F.kp, F.bindsN fun _ _ _ _ _ _ us hl => match us, hl with | [_, _, _], _ => rfl⟩
  have hu64 := hr.units
  have hu65 : (A.deeper (PyProof.Rows.envOfC d__law_times.qual d__law_times.scope s.heap.objs.size (He.fAd K d__law_times.at_) cdv)).units + 65 < cLine := by have := hr.un; omega
  have nd := sc__law_times.nd
  have tk : Takes (cxOf (L2.CX P w) P w K mg base ["_law_f", "_law_v", "_law_c", "_law_x"] d__law_times.qual d__law_times.scope (He.fAd K d__law_times.at_) cdv A outer s H E) (fun cls d _ H => E cls d H) := takes_of rfl rfl rfl rfl
  have po : PassesOwn (model P w) (A.deeper (PyProof.Rows.envOfC d__law_times.qual d__law_times.scope s.heap.objs.size (He.fAd K d__law_times.at_) cdv)) (PyProof.Rows.envOfC d__law_times.qual d__law_times.scope s.heap.objs.size (He.fAd K d__law_times.at_) cdv) (cxOf (L2.CX P w) P w K mg base ["_law_f", "_law_v", "_law_c", "_law_x"] d__law_times.qual d__law_times.scope (He.fAd K d__law_times.at_) cdv A outer s H E).xe := PassesOwn.leaving
  exact (dss_one (ds_ret (dx_callTy cd_tuple (by rfl) (T.free 6) (by decide +kernel) (da_cons (dx_df (df_lc (own := [("_law_x", 3)]) rfl nd (di_seq (dx_var (i := 1) rfl (.inl rfl))) (blkOk_by (by kernel_rfl)) (fun _ _ _ _ _ => (dg_name nd rfl (.inl rfl))) (by decide) (fun _ _ _ _ _ => dts_nil) (fun _ _ _ _ _ => (dx_ix ixd (dx_ix ixd (dx_ix ixd (dx_var (i := 0) rfl (.inr (.inl rfl))) dx_int) (dx_var (i := 3) rfl (.inl rfl))) (dx_var (i := 2) rfl (.inr (.inl rfl))))))) da_nil))))
theorem sc__law_rows : FnScope ["_law_f", "_law_n", "_law_found", "_law_k", "_law_longer", "_law_head", "_law_c"] ["_law_f", "_law_n"] d__law_rows.scope := ⟨rfl, rfl, rfl, by decide +kernel, rfl, by decide +kernel, by decide +kernel⟩
theorem ok__law_rows (T : Tx fa fn K mg) : Gd P w K mg base "_law_rows" 1 F__law_rows := by
  obtain ⟨fd, F⟩ := T.says.def_ 11 (d := d__law_rows) rfl
  refine ⟨_, fd, ["_law_f", "_law_n"], fn_pure F sc__law_rows (fun cdv A outer s H E e0 hr => ?_), (T.glo 19), F.kp, F.bindsN fun _ _ _ _ _ _ us hl => match us, hl with | [_, _], _ => rfl⟩
  have hu64 := hr.units
  have hu65 : (A.deeper (PyProof.Rows.envOfC d__law_rows.qual d__law_rows.scope s.heap.objs.size (He.fAd K d__law_rows.at_) cdv)).units + 65 < cLine := by have := hr.un; omega
  have nd := sc__law_rows.nd
  have tk : Takes (cxOf (L2.CX P w) P w K mg base ["_law_f", "_law_n", "_law_found", "_law_k", "_law_longer", "_law_head", "_law_c"] d__law_rows.qual d__law_rows.scope (He.fAd K d__law_rows.at_) cdv A outer s H E) (fun cls d _ H => E cls d H) := takes_of rfl rfl rfl rfl
  have po : PassesOwn (model P w) (A.deeper (PyProof.Rows.envOfC d__law_rows.qual d__law_rows.scope s.heap.objs.size (He.fAd K d__law_rows.at_) cdv)) (PyProof.Rows.envOfC d__law_rows.qual d__law_rows.scope s.heap.objs.size (He.fAd K d__law_rows.at_) cdv) (cxOf (L2.CX P w) P w K mg base ["_law_f", "_law_n", "_law_found", "_law_k", "_law_longer", "_law_head", "_law_c"] d__law_rows.qual d__law_rows.scope (He.fAd K d__law_rows.at_) cdv A outer s H E).xe := PassesOwn.leaving
  exact (dss_cons (ds_set nd rfl (.inl rfl) (dx_lst (da_cons (dx_tup da_nil) da_nil))) (dss_cons (ds_for po rfl (di_range1 (by rfl) (T.free 3) (da_cons (dx_var (i := 1) rfl (.inl rfl)) da_nil)) (dg_name nd rfl (.inl rfl)) (dss_cons (ds_set nd rfl (.inl rfl) (dx_lst da_nil)) (dss_cons (ds_for po rfl (di_seq (dx_var (i := 2) rfl (.inl rfl))) (dg_name nd rfl (.inr rfl)) (dss_one (ds_set nd rfl (.inl rfl) (dx_op od_add (dx_var (i := 4) rfl (.inl rfl)) (dx_df (df_lc (own := [("_law_c", 6)]) rfl nd (di_range1 (by rfl) (T.free 3) (da_cons (dx_ix ixd (dx_var (i := 0) rfl (.inl rfl)) dx_int) da_nil)) (blkOk_by (by kernel_rfl)) (fun _ _ _ _ _ => (dg_name nd rfl (.inl rfl))) (by decide) (fun _ _ _ _ _ => dts_nil) (fun _ _ _ _ _ => (dx_op od_add (dx_var (i := 5) rfl (.inr (.inl rfl))) (dx_tup (da_cons (dx_var (i := 6) rfl (.inl rfl)) da_nil)))))))))) (dss_one (ds_set nd rfl (.inl rfl) (dx_df (df_callTy cf_list (by rfl) (T.free 7) (by decide +kernel) (da_cons (dx_var (i := 4) rfl (.inl rfl)) da_nil)))))))) (dss_one (ds_ret (dx_var (i := 2) rfl (.inl rfl))))))
theorem sc__law_spanned : FnScope ["_law_f", "_law_rows_here", "_law_n", "_law_found", "_law_row", "_law_longer", "_law_x", "_law_k", "_law_c"] ["_law_f", "_law_rows_here", "_law_n"] d__law_spanned.scope := ⟨rfl, rfl, rfl, by decide +kernel, rfl, by decide +kernel, by decide +kernel⟩
theorem ok__law_spanned (T : Tx fa fn K mg) : Gd P w K mg base "_law_spanned" 2 F__law_spanned := by
  have G__law_sum := ok__law_sum (P := P) (w := w) (base := base) T
  have G__law_times := ok__law_times (P := P) (w := w) (base := base) T
  obtain ⟨fd, F⟩ := T.says.def_ 12 (d := d__law_spanned) rfl
  refine ⟨_, fd, ["_law_f", "_law_rows_here", "_law_n"], fn_pure F sc__law_spanned (fun cdv A outer s H E e0 hr => ?_), (T.glo 20), F.kp, F.bindsN fun _ _ _ _ _ _ us hl => match us, hl with | [_, _, _], _ => rfl⟩
  have hu64 := hr.units
  have hu65 : (A.deeper (PyProof.Rows.envOfC d__law_spanned.qual d__law_spanned.scope s.heap.objs.size (He.fAd K d__law_spanned.at_) cdv)).units + 65 < cLine := by have := hr.un; omega
  have nd := sc__law_spanned.nd
  have tk : Takes (cxOf (L2.CX P w) P w K mg base ["_law_f", "_law_rows_here", "_law_n", "_law_found", "_law_row", "_law_longer", "_law_x", "_law_k", "_law_c"] d__law_spanned.qual d__law_spanned.scope (He.fAd K d__law_spanned.at_) cdv A outer s H E) (fun cls d _ H => E cls d H) := takes_of rfl rfl rfl rfl
  have po : PassesOwn (model P w) (A.deeper (PyProof.Rows.envOfC d__law_spanned.qual d__law_spanned.scope s.heap.objs.size (He.fAd K d__law_spanned.at_) cdv)) (PyProof.Rows.envOfC d__law_spanned.qual d__law_spanned.scope s.heap.objs.size (He.fAd K d__law_spanned.at_) cdv) (cxOf (L2.CX P w) P w K mg base ["_law_f", "_law_rows_here", "_law_n", "_law_found", "_law_row", "_law_longer", "_law_x", "_law_k", "_law_c"] d__law_spanned.qual d__law_spanned.scope (He.fAd K d__law_spanned.at_) cdv A outer s H E).xe := PassesOwn.leaving
  exact (dss_cons (ds_set nd rfl (.inl rfl) (dx_lst (da_cons (dx_callTy cd_tuple (by rfl) (T.free 6) (by decide +kernel) (da_cons (dx_df (df_lc (own := [("_law_k", 7)]) rfl nd (di_range1 (by rfl) (T.free 3) (da_cons (dx_var (i := 2) rfl (.inl rfl)) da_nil)) (blkOk_by (by kernel_rfl)) (fun _ _ _ _ _ => (dg_name nd rfl (.inl rfl))) (by decide) (fun _ _ _ _ _ => dts_nil) (fun _ _ _ _ _ => dx_int))) da_nil)) da_nil))) (dss_cons (ds_for po rfl (di_seq (dx_var (i := 1) rfl (.inl rfl))) (dg_name nd rfl (.inr rfl)) (dss_one (ds_if (dt_cmp (od_notIn hu65) (dx_var (i := 4) rfl (.inr (.inl rfl))) (dx_var (i := 3) rfl (.inl rfl)) (by rfl)) (dss_cons (ds_set nd rfl (.inl rfl) (dx_lst da_nil)) (dss_cons (ds_for po rfl (di_seq (dx_var (i := 3) rfl (.inl rfl))) (dg_name nd rfl (.inr rfl)) (dss_one (ds_set nd rfl (.inl rfl) (dx_op od_add (dx_var (i := 5) rfl (.inl rfl)) (dx_df (df_lc (own := [("_law_c", 8)]) rfl nd (di_range1 (by rfl) (T.free 3) (da_cons (dx_ix ixd (dx_var (i := 0) rfl (.inr (.inl rfl))) dx_int) da_nil)) (blkOk_by (by kernel_rfl)) (fun _ _ _ _ _ => (dg_name nd rfl (.inl rfl))) (by decide) (fun _ _ _ _ _ => dts_nil) (fun _ _ _ _ _ => (dx_call ((G__law_sum).good (hr.mono (by decide))) tkF (by rfl) (da_cons (dx_var (i := 0) rfl (.inr (.inl rfl))) (da_cons (dx_var (i := 6) rfl (.inr (.inl rfl))) (da_cons (dx_call ((G__law_times).good (hr.mono (by decide))) tkF (by rfl) (da_cons (dx_var (i := 0) rfl (.inr (.inl rfl))) (da_cons (dx_var (i := 4) rfl (.inr (.inl rfl))) (da_cons (dx_var (i := 8) rfl (.inl rfl)) da_nil)))) da_nil))))))))))) (dss_one (ds_set nd rfl (.inl rfl) (dx_df (df_callTy cf_list (by rfl) (T.free 7) (by decide +kernel) (da_cons (dx_var (i := 5) rfl (.inl rfl)) da_nil))))))) dss_nil))) (dss_one (ds_ret (dx_var (i := 3) rfl (.inl rfl))))))
theorem sc__law_is_free : FnScope ["_law_f", "_law_rows_here", "_law_n", "_law_size", "_law_row"] ["_law_f", "_law_rows_here", "_law_n"] d__law_is_free.scope := ⟨rfl, rfl, rfl, by decide +kernel, rfl, by decide +kernel, by decide +kernel⟩
theorem ok__law_is_free (T : Tx fa fn K mg) : Gd P w K mg base "_law_is_free" 3 F__law_is_free := by
  have G__law_spanned := ok__law_spanned (P := P) (w := w) (base := base) T
  obtain ⟨fd, F⟩ := T.says.def_ 13 (d := d__law_is_free) rfl
  refine ⟨_, fd, ["_law_f", "_law_rows_here", "_law_n"], fn_pure F sc__law_is_free (fun cdv A outer s H E e0 hr => ?_), (T.glo 21), F.kp, F.bindsN fun _ _ _ _ _ _ us hl => match us, hl with | [_, _, _], _ => rfl⟩
  have hu64 := hr.units
  have hu65 : (A.deeper (PyProof.Rows.envOfC d__law_is_free.qual d__law_is_free.scope s.heap.objs.size (He.fAd K d__law_is_free.at_) cdv)).units + 65 < cLine := by have := hr.un; omega
  have nd := sc__law_is_free.nd
  have tk : Takes (cxOf (L2.CX P w) P w K mg base ["_law_f", "_law_rows_here", "_law_n", "_law_size", "_law_row"] d__law_is_free.qual d__law_is_free.scope (He.fAd K d__law_is_free.at_) cdv A outer s H E) (fun cls d _ H => E cls d H) := takes_of rfl rfl rfl rfl
  have po : PassesOwn (model P w) (A.deeper (PyProof.Rows.envOfC d__law_is_free.qual d__law_is_free.scope s.heap.objs.size (He.fAd K d__law_is_free.at_) cdv)) (PyProof.Rows.envOfC d__law_is_free.qual d__law_is_free.scope s.heap.objs.size (He.fAd K d__law_is_free.at_) cdv) (cxOf (L2.CX P w) P w K mg base ["_law_f", "_law_rows_here", "_law_n", "_law_size", "_law_row"] d__law_is_free.qual d__law_is_free.scope (He.fAd K d__law_is_free.at_) cdv A outer s H E).xe := PassesOwn.leaving
  exact (dss_cons (ds_set nd rfl (.inl rfl) dx_int) (dss_cons (ds_for po rfl (di_seq (dx_var (i := 1) rfl (.inl rfl))) (dg_name nd rfl (.inl rfl)) (dss_one (ds_set nd rfl (.inl rfl) (dx_op od_mul (dx_var (i := 3) rfl (.inl rfl)) (dx_ix ixd (dx_var (i := 0) rfl (.inl rfl)) dx_int))))) (dss_one (ds_ret (dx_cmp (od_eq hu64) (dx_callB cd_len (by rfl) (T.free 5) (by decide +kernel) (da_cons (dx_call ((G__law_spanned).good (hr.mono (by decide))) tk (by rfl) (da_cons (dx_var (i := 0) rfl (.inl rfl)) (da_cons (dx_var (i := 1) rfl (.inl rfl)) (da_cons (dx_var (i := 2) rfl (.inl rfl)) da_nil)))) da_nil)) (dx_var (i := 3) rfl (.inl rfl)) (nomark _))))))
theorem sc__law_power : FnScope ["_law_a", "_law_k", "_law_total", "_law_turn"] ["_law_a", "_law_k"] d__law_power.scope := ⟨rfl, rfl, rfl, by decide +kernel, rfl, by decide +kernel, by decide +kernel⟩
theorem ok__law_power (T : Tx fa fn K mg) : Gd P w K mg base "_law_power" 1 F__law_power := by
  obtain ⟨fd, F⟩ := T.says.def_ 14 (d := d__law_power) rfl
  refine ⟨_, fd, ["_law_a", "_law_k"], fn_pure F sc__law_power (fun cdv A outer s H E e0 hr => ?_), (T.glo 22), F.kp, F.bindsN fun _ _ _ _ _ _ us hl => match us, hl with | [_, _], _ => rfl⟩
  have hu64 := hr.units
  have hu65 : (A.deeper (PyProof.Rows.envOfC d__law_power.qual d__law_power.scope s.heap.objs.size (He.fAd K d__law_power.at_) cdv)).units + 65 < cLine := by have := hr.un; omega
  have nd := sc__law_power.nd
  have tk : Takes (cxOf (L2.CX P w) P w K mg base ["_law_a", "_law_k", "_law_total", "_law_turn"] d__law_power.qual d__law_power.scope (He.fAd K d__law_power.at_) cdv A outer s H E) (fun cls d _ H => E cls d H) := takes_of rfl rfl rfl rfl
  have po : PassesOwn (model P w) (A.deeper (PyProof.Rows.envOfC d__law_power.qual d__law_power.scope s.heap.objs.size (He.fAd K d__law_power.at_) cdv)) (PyProof.Rows.envOfC d__law_power.qual d__law_power.scope s.heap.objs.size (He.fAd K d__law_power.at_) cdv) (cxOf (L2.CX P w) P w K mg base ["_law_a", "_law_k", "_law_total", "_law_turn"] d__law_power.qual d__law_power.scope (He.fAd K d__law_power.at_) cdv A outer s H E).xe := PassesOwn.leaving
  exact (dss_cons (ds_set nd rfl (.inl rfl) dx_int) (dss_cons (ds_for po rfl (di_range1 (by rfl) (T.free 3) (da_cons (dx_var (i := 1) rfl (.inl rfl)) da_nil)) (dg_name nd rfl (.inl rfl)) (dss_one (ds_set nd rfl (.inl rfl) (dx_op od_mul (dx_var (i := 2) rfl (.inl rfl)) (dx_var (i := 0) rfl (.inl rfl)))))) (dss_one (ds_ret (dx_var (i := 2) rfl (.inl rfl))))))
theorem sc__law_tables : FnScope ["_law_n", "_law_k", "_law_q", "_law_total", "_law_bits", "_law_pivots", "_law_free", "_law_at", "_law_i"] ["_law_n", "_law_k", "_law_q"] d__law_tables.scope := ⟨rfl, rfl, rfl, by decide +kernel, rfl, by decide +kernel, by decide +kernel⟩
theorem ok__law_tables (T : Tx fa fn K mg) : Gd P w K mg base "_law_tables" 2 F__law_tables := by
  have G__law_power := ok__law_power (P := P) (w := w) (base := base) T
  obtain ⟨fd, F⟩ := T.says.def_ 15 (d := d__law_tables) rfl
  refine ⟨_, fd, ["_law_n", "_law_k", "_law_q"], fn_pure F sc__law_tables (fun cdv A outer s H E e0 hr => ?_), (T.glo 23), F.kp, F.bindsN fun _ _ _ _ _ _ us hl => match us, hl with | [_, _, _], _ => rfl⟩
  have hu64 := hr.units
  have hu65 : (A.deeper (PyProof.Rows.envOfC d__law_tables.qual d__law_tables.scope s.heap.objs.size (He.fAd K d__law_tables.at_) cdv)).units + 65 < cLine := by have := hr.un; omega
  have nd := sc__law_tables.nd
  have tk : Takes (cxOf (L2.CX P w) P w K mg base ["_law_n", "_law_k", "_law_q", "_law_total", "_law_bits", "_law_pivots", "_law_free", "_law_at", "_law_i"] d__law_tables.qual d__law_tables.scope (He.fAd K d__law_tables.at_) cdv A outer s H E) (fun cls d _ H => E cls d H) := takes_of rfl rfl rfl rfl
  have po : PassesOwn (model P w) (A.deeper (PyProof.Rows.envOfC d__law_tables.qual d__law_tables.scope s.heap.objs.size (He.fAd K d__law_tables.at_) cdv)) (PyProof.Rows.envOfC d__law_tables.qual d__law_tables.scope s.heap.objs.size (He.fAd K d__law_tables.at_) cdv) (cxOf (L2.CX P w) P w K mg base ["_law_n", "_law_k", "_law_q", "_law_total", "_law_bits", "_law_pivots", "_law_free", "_law_at", "_law_i"] d__law_tables.qual d__law_tables.scope (He.fAd K d__law_tables.at_) cdv A outer s H E).xe := PassesOwn.leaving
  exact (dss_cons (ds_set nd rfl (.inl rfl) dx_int) (dss_cons (ds_for po rfl (di_range1 (by rfl) (T.free 3) (da_cons (dx_call ((G__law_power).good (hr.mono (by decide))) tk (by rfl) (da_cons dx_int (da_cons (dx_var (i := 0) rfl (.inl rfl)) da_nil))) da_nil)) (dg_name nd rfl (.inr rfl)) (dss_cons (ds_set nd rfl (.inr rfl) (dx_df (df_lc (own := [("_law_i", 8)]) rfl nd (di_range1 (by rfl) (T.free 3) (da_cons (dx_var (i := 0) rfl (.inl rfl)) da_nil)) (blkOk_by (by kernel_rfl)) (fun _ _ _ _ _ => (dg_name nd rfl (.inl rfl))) (by decide) (fun _ _ _ _ _ => (dts_one (dt_cmp (od_eq hu64) (dx_op od_mod (dx_op od_fdiv (dx_var (i := 4) rfl (.inr (.inl rfl))) (dx_call ((G__law_power).good (hr.mono (by decide))) tkF (by rfl) (da_cons dx_int (da_cons (dx_var (i := 8) rfl (.inl rfl)) da_nil)))) dx_int) dx_int (nomark _)))) (fun _ _ _ _ _ => (dx_var (i := 8) rfl (.inl rfl)))))) (dss_one (ds_if (dt_cmp (od_eq hu64) (dx_callB cd_len (by rfl) (T.free 5) (by decide +kernel) (da_cons (dx_var (i := 5) rfl (.inr (.inl rfl))) da_nil)) (dx_var (i := 1) rfl (.inl rfl)) (nomark _)) (dss_cons (ds_set nd rfl (.inl rfl) dx_int) (dss_cons (ds_for po rfl (di_seq (dx_var (i := 5) rfl (.inr (.inl rfl)))) (dg_name nd rfl (.inl rfl)) (dss_one (ds_set nd rfl (.inl rfl) (dx_op od_add (dx_var (i := 6) rfl (.inl rfl)) (dx_callB cd_len (by rfl) (T.free 5) (by decide +kernel) (da_cons (dx_df (df_lc (own := [("_law_i", 8)]) rfl nd (di_range2 (by rfl) (T.free 3) (da_cons (dx_var (i := 7) rfl (.inl rfl)) (da_cons (dx_var (i := 0) rfl (.inl rfl)) da_nil))) (blkOk_by (by kernel_rfl)) (fun _ _ _ _ _ => (dg_name nd rfl (.inl rfl))) (by decide) (fun _ _ _ _ _ => (dts_one (dt_cmp (od_notIn hu65) (dx_var (i := 8) rfl (.inl rfl)) (dx_var (i := 5) rfl (.inr (.inl rfl))) (by rfl)))) (fun _ _ _ _ _ => (dx_var (i := 8) rfl (.inl rfl))))) da_nil)))))) (dss_one (ds_set nd rfl (.inl rfl) (dx_op od_add (dx_var (i := 3) rfl (.inl rfl)) (dx_call ((G__law_power).good (hr.mono (by decide))) tk (by rfl) (da_cons (dx_var (i := 2) rfl (.inl rfl)) (da_cons (dx_var (i := 6) rfl (.inl rfl)) da_nil)))))))) dss_nil)))) (dss_one (ds_ret (dx_var (i := 3) rfl (.inl rfl))))))
theorem sc__law_walked : FnScope ["_law_q", "_law_n", "_law_f", "_law_found", "_law_rows_here", "_law_k", "_law_longer", "_law_head", "_law_row", "_law_matrix"] ["_law_q", "_law_n"] d__law_walked.scope := ⟨rfl, rfl, rfl, by decide +kernel, rfl, by decide +kernel, by decide +kernel⟩
theorem ok__law_walked (T : Tx fa fn K mg) : Gd P w K mg base "_law_walked" 4 F__law_walked := by
  have G__law_field := ok__law_field (P := P) (w := w) (base := base) T
  have G__law_is_free := ok__law_is_free (P := P) (w := w) (base := base) T
  have G__law_rows := ok__law_rows (P := P) (w := w) (base := base) T
  obtain ⟨fd, F⟩ := T.says.def_ 16 (d := d__law_walked) rfl
  refine ⟨_, fd, ["_law_q", "_law_n"], fn_pure F sc__law_walked (fun cdv A outer s H E e0 hr => ?_), (T.glo 24), F.kp, F.bindsN fun _ _ _ _ _ _ us hl => match us, hl with | [_, _], _ => rfl⟩
  have hu64 := hr.units
  have hu65 : (A.deeper (PyProof.Rows.envOfC d__law_walked.qual d__law_walked.scope s.heap.objs.size (He.fAd K d__law_walked.at_) cdv)).units + 65 < cLine := by have := hr.un; omega
  have nd := sc__law_walked.nd
  have tk : Takes (cxOf (L2.CX P w) P w K mg base ["_law_q", "_law_n", "_law_f", "_law_found", "_law_rows_here", "_law_k", "_law_longer", "_law_head", "_law_row", "_law_matrix"] d__law_walked.qual d__law_walked.scope (He.fAd K d__law_walked.at_) cdv A outer s H E) (fun cls d _ H => E cls d H) := takes_of rfl rfl rfl rfl
  have po : PassesOwn (model P w) (A.deeper (PyProof.Rows.envOfC d__law_walked.qual d__law_walked.scope s.heap.objs.size (He.fAd K d__law_walked.at_) cdv)) (PyProof.Rows.envOfC d__law_walked.qual d__law_walked.scope s.heap.objs.size (He.fAd K d__law_walked.at_) cdv) (cxOf (L2.CX P w) P w K mg base ["_law_q", "_law_n", "_law_f", "_law_found", "_law_rows_here", "_law_k", "_law_longer", "_law_head", "_law_row", "_law_matrix"] d__law_walked.qual d__law_walked.scope (He.fAd K d__law_walked.at_) cdv A outer s H E).xe := PassesOwn.leaving
  exact (dss_cons (ds_set nd rfl (.inr rfl) (dx_call ((G__law_field).good (hr.mono (by decide))) tk (by rfl) (da_cons (dx_var (i := 0) rfl (.inl rfl)) da_nil))) (dss_cons (ds_set nd rfl (.inl rfl) (dx_lst (da_cons (dx_tup da_nil) da_nil))) (dss_cons (ds_set nd rfl (.inl rfl) (dx_call ((G__law_rows).good (hr.mono (by decide))) tk (by rfl) (da_cons (dx_var (i := 2) rfl (.inr (.inl rfl))) (da_cons (dx_var (i := 1) rfl (.inr (.inl rfl))) da_nil)))) (dss_cons (ds_for po rfl (di_range1 (by rfl) (T.free 3) (da_cons (dx_var (i := 1) rfl (.inr (.inl rfl))) da_nil)) (dg_name nd rfl (.inl rfl)) (dss_cons (ds_set nd rfl (.inl rfl) (dx_lst da_nil)) (dss_cons (ds_for po rfl (di_seq (dx_var (i := 3) rfl (.inl rfl))) (dg_name nd rfl (.inr rfl)) (dss_one (ds_set nd rfl (.inl rfl) (dx_op od_add (dx_var (i := 6) rfl (.inl rfl)) (dx_df (df_lc (own := [("_law_row", 8)]) rfl nd (di_seq (dx_var (i := 4) rfl (.inl rfl))) (blkOk_by (by kernel_rfl)) (fun _ _ _ _ _ => (dg_name nd rfl (.inl rfl))) (by decide) (fun _ _ _ _ _ => dts_nil) (fun _ _ _ _ _ => (dx_op od_add (dx_var (i := 7) rfl (.inr (.inl rfl))) (dx_tup (da_cons (dx_var (i := 8) rfl (.inl rfl)) da_nil)))))))))) (dss_one (ds_set nd rfl (.inl rfl) (dx_df (df_callTy cf_list (by rfl) (T.free 7) (by decide +kernel) (da_cons (dx_var (i := 6) rfl (.inl rfl)) da_nil)))))))) (dss_one (ds_ret (dx_callB cd_len (by rfl) (T.free 5) (by decide +kernel) (da_cons (dx_df (df_lc (own := [("_law_matrix", 9)]) rfl nd (di_seq (dx_var (i := 3) rfl (.inl rfl))) (blkOk_by (by kernel_rfl)) (fun _ _ _ _ _ => (dg_name nd rfl (.inl rfl))) (by decide) (fun _ _ _ _ _ => (dts_one (dt_val (dx_call ((G__law_is_free).good (hr.mono (by decide))) tkF (by rfl) (da_cons (dx_var (i := 2) rfl (.inr (.inl rfl))) (da_cons (dx_var (i := 9) rfl (.inl rfl)) (da_cons (dx_var (i := 1) rfl (.inr (.inl rfl))) da_nil))))))) (fun _ _ _ _ _ => (dx_var (i := 9) rfl (.inl rfl))))) da_nil))))))))
theorem sc_law : FnScope ["_law_script", "_law_state_here", "_law_q", "_law_n", "_law_k", "_law_due", "_law_i", "_law_a", "_law_e", "_law_value"] ["_law_script"] d_law.scope := ⟨rfl, rfl, rfl, by decide +kernel, rfl, by decide +kernel, by decide +kernel⟩
theorem law_ok {fd : FuncData} (F : FunD K d_law.name d_law.qual d_law.params d_law.body d_law.scope (d_law.dvs K) (d_law.kws K) (He.fAd K d_law.at_) fd) (T : Tx fa fn K mg) : FnOk P w K mg base (L2.CX P w) 5 (He.fAd K d_law.at_) fd ["_law_script"] (spP K F_law) := by
  have G__law_power := ok__law_power (P := P) (w := w) (base := base) T
  have G__law_state := ok__law_state (P := P) (w := w) (base := base) T
  have G__law_tables := ok__law_tables (P := P) (w := w) (base := base) T
  have G__law_take := ok__law_take (P := P) (w := w) (base := base) T
  have G__law_walked := ok__law_walked (P := P) (w := w) (base := base) T
  have G_gauss := ok_gauss (P := P) (w := w) (base := base) T
  have G_invertible_count := ok_invertible_count (P := P) (w := w) (base := base) T
  have G_is_integer := ok_is_integer (P := P) (w := w) (base := base) T
  have G_power := ok_power (P := P) (w := w) (base := base) T
  refine fn_pure F sc_law (fun cdv A outer s H E e0 hr => ?_)
  have hu64 := hr.units
  have hu65 : (A.deeper (PyProof.Rows.envOfC d_law.qual d_law.scope s.heap.objs.size (He.fAd K d_law.at_) cdv)).units + 65 < cLine := by have := hr.un; omega
  have nd := sc_law.nd
  have tk : Takes (cxOf (L2.CX P w) P w K mg base ["_law_script", "_law_state_here", "_law_q", "_law_n", "_law_k", "_law_due", "_law_i", "_law_a", "_law_e", "_law_value"] d_law.qual d_law.scope (He.fAd K d_law.at_) cdv A outer s H E) (fun cls d _ H => E cls d H) := takes_of rfl rfl rfl rfl
  have po : PassesOwn (model P w) (A.deeper (PyProof.Rows.envOfC d_law.qual d_law.scope s.heap.objs.size (He.fAd K d_law.at_) cdv)) (PyProof.Rows.envOfC d_law.qual d_law.scope s.heap.objs.size (He.fAd K d_law.at_) cdv) (cxOf (L2.CX P w) P w K mg base ["_law_script", "_law_state_here", "_law_q", "_law_n", "_law_k", "_law_due", "_law_i", "_law_a", "_law_e", "_law_value"] d_law.qual d_law.scope (He.fAd K d_law.at_) cdv A outer s H E).xe := PassesOwn.leaving
  exact (dss_cons (ds_own nd rfl (.inl rfl) (df_call ((G__law_state).good (hr.mono (by decide))) tk (by rfl) (da_cons (dx_var (i := 0) rfl (.inl rfl)) da_nil))) (dss_cons (ds_set nd rfl (.inl rfl) (dx_ix ixd (dx_lst (da_cons dx_int (da_cons dx_int (da_cons dx_int (da_cons dx_int (da_cons dx_int (da_cons dx_int da_nil))))))) (dx_call2 ((G__law_take).good (hr.mono (by decide))) tk (by rfl) (i := 1) rfl (.inl rfl) (da_cons dx_int da_nil)))) (dss_cons (ds_par rfl nd rfl rfl (by decide) rfl rfl (dx_call2 ((G__law_take).good (hr.mono (by decide))) tk (by rfl) (i := 1) rfl (.inl rfl) (da_cons dx_int da_nil)) (dx_op od_sub (dx_call2 ((G__law_take).good (hr.mono (by decide))) tk (by rfl) (i := 1) rfl (.inl rfl) (da_cons dx_int da_nil)) dx_int)) (dss_cons (ds_if (dt_cmp (od_ne hu64) (dx_call ((G_gauss).good (hr.mono (by decide))) tk (by rfl) (da_cons (dx_var (i := 3) rfl (.inl rfl)) (da_cons (dx_var (i := 4) rfl (.inl rfl)) (da_cons (dx_var (i := 2) rfl (.inl rfl)) da_nil)))) (dx_call ((G__law_tables).good (hr.mono (by decide))) tk (by rfl) (da_cons (dx_var (i := 3) rfl (.inl rfl)) (da_cons (dx_var (i := 4) rfl (.inl rfl)) (da_cons (dx_var (i := 2) rfl (.inl rfl)) da_nil)))) (nomark _)) (dss_one (ds_ret dx_bl)) dss_nil) (dss_cons (ds_set nd rfl (.inl rfl) dx_int) (dss_cons (ds_for po rfl (di_range1 (by rfl) (T.free 3) (da_cons (dx_var (i := 3) rfl (.inl rfl)) da_nil)) (dg_name nd rfl (.inl rfl)) (dss_one (ds_set nd rfl (.inl rfl) (dx_op od_mul (dx_var (i := 5) rfl (.inl rfl)) (dx_op od_sub (dx_call ((G__law_power).good (hr.mono (by decide))) tk (by rfl) (da_cons (dx_var (i := 2) rfl (.inl rfl)) (da_cons (dx_var (i := 3) rfl (.inl rfl)) da_nil))) (dx_call ((G__law_power).good (hr.mono (by decide))) tk (by rfl) (da_cons (dx_var (i := 2) rfl (.inl rfl)) (da_cons (dx_var (i := 6) rfl (.inl rfl)) da_nil)))))))) (dss_cons (ds_if (dt_cmp (od_ne hu64) (dx_call ((G_invertible_count).good (hr.mono (by decide))) tk (by rfl) (da_cons (dx_var (i := 3) rfl (.inl rfl)) (da_cons (dx_var (i := 2) rfl (.inl rfl)) da_nil))) (dx_var (i := 5) rfl (.inl rfl)) (nomark _)) (dss_one (ds_ret dx_bl)) dss_nil) (dss_cons (ds_if (dt_w (dw_and (dt_cmp od_le (dx_call ((G__law_power).good (hr.mono (by decide))) tk (by rfl) (da_cons (dx_var (i := 2) rfl (.inl rfl)) (da_cons (dx_op od_mul (dx_var (i := 3) rfl (.inl rfl)) (dx_var (i := 3) rfl (.inl rfl))) da_nil))) dx_int (nomark _)) (dw_one (dt_cmp (od_ne hu64) (dx_call ((G_invertible_count).good (hr.mono (by decide))) tk (by rfl) (da_cons (dx_var (i := 3) rfl (.inl rfl)) (da_cons (dx_var (i := 2) rfl (.inl rfl)) da_nil))) (dx_call ((G__law_walked).good (hr.mono (by decide))) tk (by rfl) (da_cons (dx_var (i := 2) rfl (.inl rfl)) (da_cons (dx_var (i := 3) rfl (.inl rfl)) da_nil))) (nomark _))))) (dss_one (ds_ret dx_bl)) dss_nil) (dss_cons (ds_par rfl nd rfl rfl (by decide) rfl rfl (dx_op od_sub (dx_call2 ((G__law_take).good (hr.mono (by decide))) tk (by rfl) (i := 1) rfl (.inl rfl) (da_cons dx_int da_nil)) dx_int) (dx_call2 ((G__law_take).good (hr.mono (by decide))) tk (by rfl) (i := 1) rfl (.inl rfl) (da_cons dx_int da_nil))) (dss_cons (ds_if (dt_cmp (od_ne hu64) (dx_call ((G_power).good (hr.mono (by decide))) tk (by rfl) (da_cons (dx_var (i := 7) rfl (.inl rfl)) (da_cons (dx_var (i := 8) rfl (.inl rfl)) da_nil))) (dx_call ((G__law_power).good (hr.mono (by decide))) tk (by rfl) (da_cons (dx_var (i := 7) rfl (.inl rfl)) (da_cons (dx_var (i := 8) rfl (.inl rfl)) da_nil))) (nomark _)) (dss_one (ds_ret dx_bl)) dss_nil) (dss_cons (ds_for po rfl (di_seq (dx_tup (da_cons dx_bl (da_cons dx_bl (da_cons dx_non (da_cons dx_str (da_cons (dx_tup (da_cons dx_int da_nil)) (da_cons (dx_lst (da_cons dx_int da_nil)) da_nil)))))))) (dg_name nd rfl (.inl rfl)) (dss_one (ds_if (dt_cmp od_isNot (dx_call ((G_is_integer).good (hr.mono (by decide))) tk (by rfl) (da_cons (dx_var (i := 9) rfl (.inl rfl)) da_nil)) dx_bl (nomark _)) (dss_one (ds_ret dx_bl)) dss_nil))) (dss_one (ds_ret (dx_cmp od_is (dx_call ((G_is_integer).good (hr.mono (by decide))) tk (by rfl) (da_cons (dx_var (i := 7) rfl (.inl rfl)) da_nil)) dx_bl (nomark _)))))))))))))))
end
end My
set_option Elab.async false
set_option linter.all false
set_option maxRecDepth 100000
set_option maxHeartbeats 0
namespace My
open PySem PySem.Spec PyProof.Rows L2 Dn
theorem mul_l {i c : Int} (h : (decide (-(2 ^ 64) < c) && decide (c < 2 ^ 64)) = true) : oMul (.int i) (.int c) = some (.int (i * c)) := by
  simp only [oMul, mulOk, h, Bool.or_true, if_true]
theorem cut_ints (ns : List Int) (lo hi : Option Int) : Dn.cutD (ns.map D.int) lo hi = (Dn.cutD ns lo hi).map D.int := by
  simp only [Dn.cutD, List.map_take, List.map_drop, List.length_map]
theorem state_loop (z : D) (ns : List Int) : ∀ (a b : Int) (x : Sl), ∃ a' b' x', sLoop (gN 3) (sSeq (sSet 1 (sBin oAdd (sBin oMul (sVar 1) (sC (.int 1000003))) (sCall oAbs (sCons (sVar 3) sNil)))) (sSet 2 (sBin oMod (sCall oInt (sCons (sBin oAdd (sBin oMul (sVar 2) (sC (.int 48271))) (sVar 3)) sNil)) (sC (.int 2147483647))))) (ns.map D.int) [.vl z, .vl (.int a), .vl (.int b), x] = .nx [.vl z, .vl (.int a'), .vl (.int b'), x'] := by
  induction ns with
  | nil => exact fun a b x => ⟨a, b, x, rfl⟩
  | cons n ns ih =>
    intro a b x
    obtain ⟨a', b', x', e⟩ := ih (a * 1000003 + (if n < 0 then -n else n)) ((b * 48271 + n) % 2147483647) (.vl (.int n))
    refine ⟨a', b', x', ?_⟩
    rw [← e]
    have m1 : oMul (.int a) (.int 1000003) = some (.int (a * 1000003)) := mul_l (by decide)
    have m2 : oMul (.int b) (.int 48271) = some (.int (b * 48271)) := mul_l (by decide)
    simp only [List.map_cons, sLoop, gN, sSeq, sSet, sBin, sVar, sC, sCall, sCons, sNil, Out.bind, Out.then, List.set, List.getElem?_cons_succ, List.getElem?_cons_zero, m1, m2, Out.opt, oAbs, oAdd, oInt, oMod, if_true, Int.reduceLT]
theorem state_eq (ns : List Int) : ∃ a b, F__law_state.app [.scr ns] = .ok (.fr [.int a, .int b]) := by
  obtain ⟨a, b, x, e⟩ := state_loop (.scr ns) (Dn.cutD ns none (some 63)) 0 1 .un
  refine ⟨a, b, ?_⟩
  have e2 : S__law_state (sto 4 [.scr ns]) = .rt (.fr [.int a, .int b]) [.vl (.scr ns), .vl (.int a), .vl (.int b), x] := by
    show (match (sLoop _ _ (Dn.cutD (ns.map D.int) none (some 63)) [.vl (.scr ns), .vl (.int 0), .vl (.int 1), .un] : So) with | .nx E1 => _ | r => r) = _
    rw [cut_ints, e]
    rfl
  simp only [Fn.app, F__law_state, mkFn, List.length_cons, List.length_nil, Nat.zero_add, if_true, e2]
theorem ix0 (x y : D) : oIx (.lst [x, y]) (.int 0) = some x := rfl
theorem ix1 (x y : D) : oIx (.lst [x, y]) (.int 1) = some y := rfl
theorem fdiv7 (i : Int) : oFdiv (.int i) (.int 7) = some (.int (i / 7)) := by
  have h : (0 : Int) < 7 ∧ (7 : Int).natAbs.log2 < 9000 := by decide +kernel
  simp only [oFdiv, h, and_self, if_true]
theorem set0 (n : Nat) (h : n = 2) : ixN n 0 = some 0 := by subst h; rfl
theorem set1 (n : Nat) (h : n = 2) : ixN n 1 = some 1 := by subst h; rfl
theorem take_eq (a b m : Int) (hm : 0 < m) (hl : m.natAbs.log2 < 9000) : ∃ v a' b' : Int, 0 ≤ v ∧ v < m ∧ F__law_take.app [.int a, .int b] [.int m] = .ok (.fz (.int v)) [.int a', .int b'] := by
  by_cases ha : 0 < a
  · refine ⟨a % m, a / m, b, Int.emod_nonneg _ (by omega), Int.emod_lt_of_pos _ hm, ?_⟩
    have e2 : S__law_take (sto2 3 [.int a, .int b] [.int m]) = .rt (.fz (.int (a % m))) [.st [.int (a / m), .int b], .vl (.int m), .vl (.int (a % m))] := by
      simp only [S__law_take, sto2, sto, List.map_cons, List.map_nil, List.length_cons, List.length_nil, Nat.zero_add, Nat.reduceSub, List.replicate, List.cons_append, List.nil_append, sSeq, sCond, bVal, sBin, sIxO, cellAt, Sl.cell, List.getElem?_cons_zero, List.getElem?_cons_succ, sC, sVar, sCall, sCons, sNil, Out.bind, Out.then, Out.opt, ix0, ix1, oGt, oInt, oMod, oFdiv, hm, hl, ha, decide_true, decide_false, if_true, if_false, Bool.false_eq_true, and_self, sSet, sIxSet, List.set, Sl.put, set0, set1, sRet, sNext]
    simp only [Fn2.app, F__law_take, mkFn2, List.length_cons, List.length_nil, Nat.zero_add, if_true, e2, List.getElem?_cons_zero]
  · refine ⟨(((b * 48271 + 11) % 2147483647) / 7) % m, a, (b * 48271 + 11) % 2147483647, Int.emod_nonneg _ (by omega), Int.emod_lt_of_pos _ hm, ?_⟩
    have e2 : S__law_take (sto2 3 [.int a, .int b] [.int m]) = .rt (.fz (.int ((((b * 48271 + 11) % 2147483647) / 7) % m))) [.st [.int a, .int ((b * 48271 + 11) % 2147483647)], .vl (.int m), .un] := by
      have m2 : oMul (.int b) (.int 48271) = some (.int (b * 48271)) := mul_l (by decide)
      simp only [S__law_take, sto2, sto, List.map_cons, List.map_nil, List.length_cons, List.length_nil, Nat.zero_add, Nat.reduceSub, List.replicate, List.cons_append, List.nil_append, sSeq, sCond, bVal, sBin, sIxO, cellAt, Sl.cell, List.getElem?_cons_zero, List.getElem?_cons_succ, sC, sVar, sCall, sCons, sNil, Out.bind, Out.then, Out.opt, ix0, ix1, oGt, oInt, oMod, fdiv7, hm, hl, ha, decide_true, decide_false, if_true, if_false, Bool.false_eq_true, and_self, sSet, sIxSet, List.set, Sl.put, set0, set1, sRet, sNext, m2, oAdd, Int.reduceLT]
    simp only [Fn2.app, F__law_take, mkFn2, List.length_cons, List.length_nil, Nat.zero_add, if_true, e2, List.getElem?_cons_zero]
theorem seq_nx {a b : Ss} {E E1 : Sto} (h : a E = .nx E1) : sSeq a b E = b E1 := by
  show (match a E with | .nx E1 => b E1 | r => r) = _
  rw [h]
theorem cond_no {c : SeB} {a : Ss} {E E1 : Sto} (h : c E = .ok false E1) : sCond c a sNext E = .nx E1 := by
  show (c E).then _ = _
  rw [h]
  rfl
def iV (r : Rs) : Option Int := match r with
  | .ok (.fz (.int x)) => some x
  | _ => none
theorem iV_of {r : Rs} {x : Int} (h : iV r = some x) : r = .ok (.fz (.int x)) := by
  unfold iV at h
  split at h
  · cases h; rfl
  · cases h
def qs : List Int := [2, 3, 4, 5, 7, 9]
def same (x y : Option Int) : Bool := match x, y with
  | some a, some b => decide (a = b)
  | _, _ => false
theorem same_of {r t : Rs} (h : same (iV r) (iV t) = true) : ∃ a, r = .ok (.fz (.int a)) ∧ t = .ok (.fz (.int a)) := by
  cases e : iV r with
  | none => rw [e] at h; cases h
  | some a =>
    cases e2 : iV t with
    | none => rw [e, e2] at h; cases h
    | some b =>
      rw [e, e2] at h
      have := of_decide_eq_true (show decide (a = b) = true from h)
      subst this
      exact ⟨a, iV_of e, iV_of e2⟩
def c1 (q : Int) (n : Nat) : Bool := (List.range 9).all fun k => same (iV (F_gauss.app [.int n, .int ((k : Int) - 1), .int q])) (iV (F__law_tables.app [.int n, .int ((k : Int) - 1), .int q]))
def b2 : Ss := sFor (iCall rng1O (sCons (sVar 3) sNil)) (gN 6) (sSet 5 (sBin oMul (sVar 5) (sBin oSub (sFn F__law_power (sCons (sVar 2) (sCons (sVar 3) sNil))) (sFn F__law_power (sCons (sVar 2) (sCons (sVar 6) sNil))))))
def c2 (q : Int) (n : Nat) : Prop := ∀ z cs k, ∃ x E6, b2 [.vl z, .ow cs, .vl (.int q), .vl (.int n), .vl k, .vl (.int 1), .un, .un, .un, .un] = .nx [.vl z, .ow cs, .vl (.int q), .vl (.int n), .vl k, .vl (.int x), E6, .un, .un, .un] ∧ F_invertible_count.app [.int n, .int q] = .ok (.fz (.int x))
def c3 (q : Int) (n : Nat) : Prop := ∃ x, F__law_power.app [.int q, .int ((n : Int) * n)] = .ok (.fz (.int x)) ∧ (x ≤ 81 → ∃ y, F_invertible_count.app [.int n, .int q] = .ok (.fz (.int y)) ∧ F__law_walked.app [.int q, .int n] = .ok (.fz (.int y)))
theorem c1_2_0 : c1 2 0 = true := by decide +kernel
theorem c2_2_0 : c2 2 0 := fun z cs k => ⟨1, .un, by kernel_rfl, by kernel_rfl⟩
theorem c3_2_0 : c3 2 0 := ⟨1, by kernel_rfl, fun _ => ⟨1, by kernel_rfl, by kernel_rfl⟩⟩
theorem c1_2_1 : c1 2 1 = true := by decide +kernel
theorem c2_2_1 : c2 2 1 := fun z cs k => ⟨1, (.vl (.int 0)), by kernel_rfl, by kernel_rfl⟩
theorem c3_2_1 : c3 2 1 := ⟨2, by kernel_rfl, fun _ => ⟨1, by kernel_rfl, by kernel_rfl⟩⟩
theorem c1_2_2 : c1 2 2 = true := by decide +kernel
theorem c2_2_2 : c2 2 2 := fun z cs k => ⟨6, (.vl (.int 1)), by kernel_rfl, by kernel_rfl⟩
theorem c3_2_2 : c3 2 2 := ⟨16, by kernel_rfl, fun _ => ⟨6, by kernel_rfl, by kernel_rfl⟩⟩
theorem c1_2_3 : c1 2 3 = true := by decide +kernel
theorem c2_2_3 : c2 2 3 := fun z cs k => ⟨168, (.vl (.int 2)), by kernel_rfl, by kernel_rfl⟩
theorem c3_2_3 : c3 2 3 := ⟨512, by kernel_rfl, fun h => absurd h (by decide +kernel)⟩
theorem c1_2_4 : c1 2 4 = true := by decide +kernel
theorem c2_2_4 : c2 2 4 := fun z cs k => ⟨20160, (.vl (.int 3)), by kernel_rfl, by kernel_rfl⟩
theorem c3_2_4 : c3 2 4 := ⟨65536, by kernel_rfl, fun h => absurd h (by decide +kernel)⟩
theorem c1_2_5 : c1 2 5 = true := by decide +kernel
theorem c2_2_5 : c2 2 5 := fun z cs k => ⟨9999360, (.vl (.int 4)), by kernel_rfl, by kernel_rfl⟩
theorem c3_2_5 : c3 2 5 := ⟨33554432, by kernel_rfl, fun h => absurd h (by decide +kernel)⟩
theorem c1_2_6 : c1 2 6 = true := by decide +kernel
theorem c2_2_6 : c2 2 6 := fun z cs k => ⟨20158709760, (.vl (.int 5)), by kernel_rfl, by kernel_rfl⟩
theorem c3_2_6 : c3 2 6 := ⟨68719476736, by kernel_rfl, fun h => absurd h (by decide +kernel)⟩
theorem c1_3_0 : c1 3 0 = true := by decide +kernel
theorem c2_3_0 : c2 3 0 := fun z cs k => ⟨1, .un, by kernel_rfl, by kernel_rfl⟩
theorem c3_3_0 : c3 3 0 := ⟨1, by kernel_rfl, fun _ => ⟨1, by kernel_rfl, by kernel_rfl⟩⟩
theorem c1_3_1 : c1 3 1 = true := by decide +kernel
theorem c2_3_1 : c2 3 1 := fun z cs k => ⟨2, (.vl (.int 0)), by kernel_rfl, by kernel_rfl⟩
theorem c3_3_1 : c3 3 1 := ⟨3, by kernel_rfl, fun _ => ⟨2, by kernel_rfl, by kernel_rfl⟩⟩
theorem c1_3_2 : c1 3 2 = true := by decide +kernel
theorem c2_3_2 : c2 3 2 := fun z cs k => ⟨48, (.vl (.int 1)), by kernel_rfl, by kernel_rfl⟩
theorem c3_3_2 : c3 3 2 := ⟨81, by kernel_rfl, fun _ => ⟨48, by kernel_rfl, by kernel_rfl⟩⟩
theorem c1_3_3 : c1 3 3 = true := by decide +kernel
theorem c2_3_3 : c2 3 3 := fun z cs k => ⟨11232, (.vl (.int 2)), by kernel_rfl, by kernel_rfl⟩
theorem c3_3_3 : c3 3 3 := ⟨19683, by kernel_rfl, fun h => absurd h (by decide +kernel)⟩
theorem c1_3_4 : c1 3 4 = true := by decide +kernel
theorem c2_3_4 : c2 3 4 := fun z cs k => ⟨24261120, (.vl (.int 3)), by kernel_rfl, by kernel_rfl⟩
theorem c3_3_4 : c3 3 4 := ⟨43046721, by kernel_rfl, fun h => absurd h (by decide +kernel)⟩
theorem c1_3_5 : c1 3 5 = true := by decide +kernel
theorem c2_3_5 : c2 3 5 := fun z cs k => ⟨475566474240, (.vl (.int 4)), by kernel_rfl, by kernel_rfl⟩
theorem c3_3_5 : c3 3 5 := ⟨847288609443, by kernel_rfl, fun h => absurd h (by decide +kernel)⟩
theorem c1_3_6 : c1 3 6 = true := by decide +kernel
theorem c2_3_6 : c2 3 6 := fun z cs k => ⟨84129611558952960, (.vl (.int 5)), by kernel_rfl, by kernel_rfl⟩
theorem c3_3_6 : c3 3 6 := ⟨150094635296999121, by kernel_rfl, fun h => absurd h (by decide +kernel)⟩
theorem c1_4_0 : c1 4 0 = true := by decide +kernel
theorem c2_4_0 : c2 4 0 := fun z cs k => ⟨1, .un, by kernel_rfl, by kernel_rfl⟩
theorem c3_4_0 : c3 4 0 := ⟨1, by kernel_rfl, fun _ => ⟨1, by kernel_rfl, by kernel_rfl⟩⟩
theorem c1_4_1 : c1 4 1 = true := by decide +kernel
theorem c2_4_1 : c2 4 1 := fun z cs k => ⟨3, (.vl (.int 0)), by kernel_rfl, by kernel_rfl⟩
theorem c3_4_1 : c3 4 1 := ⟨4, by kernel_rfl, fun _ => ⟨3, by kernel_rfl, by kernel_rfl⟩⟩
theorem c1_4_2 : c1 4 2 = true := by decide +kernel
theorem c2_4_2 : c2 4 2 := fun z cs k => ⟨180, (.vl (.int 1)), by kernel_rfl, by kernel_rfl⟩
theorem c3_4_2 : c3 4 2 := ⟨256, by kernel_rfl, fun h => absurd h (by decide +kernel)⟩
theorem c1_4_3 : c1 4 3 = true := by decide +kernel
theorem c2_4_3 : c2 4 3 := fun z cs k => ⟨181440, (.vl (.int 2)), by kernel_rfl, by kernel_rfl⟩
theorem c3_4_3 : c3 4 3 := ⟨262144, by kernel_rfl, fun h => absurd h (by decide +kernel)⟩
theorem c1_4_4 : c1 4 4 = true := by decide +kernel
theorem c2_4_4 : c2 4 4 := fun z cs k => ⟨2961100800, (.vl (.int 3)), by kernel_rfl, by kernel_rfl⟩
theorem c3_4_4 : c3 4 4 := ⟨4294967296, by kernel_rfl, fun h => absurd h (by decide +kernel)⟩
theorem c1_4_5 : c1 4 5 = true := by decide +kernel
theorem c2_4_5 : c2 4 5 := fun z cs k => ⟨775476766310400, (.vl (.int 4)), by kernel_rfl, by kernel_rfl⟩
theorem c3_4_5 : c3 4 5 := ⟨1125899906842624, by kernel_rfl, fun h => absurd h (by decide +kernel)⟩
theorem c1_4_6 : c1 4 6 = true := by decide +kernel
theorem c2_4_6 : c2 4 6 := fun z cs k => ⟨3251791214634074112000, (.vl (.int 5)), by kernel_rfl, by kernel_rfl⟩
theorem c3_4_6 : c3 4 6 := ⟨4722366482869645213696, by kernel_rfl, fun h => absurd h (by decide +kernel)⟩
theorem c1_5_0 : c1 5 0 = true := by decide +kernel
theorem c2_5_0 : c2 5 0 := fun z cs k => ⟨1, .un, by kernel_rfl, by kernel_rfl⟩
theorem c3_5_0 : c3 5 0 := ⟨1, by kernel_rfl, fun _ => ⟨1, by kernel_rfl, by kernel_rfl⟩⟩
theorem c1_5_1 : c1 5 1 = true := by decide +kernel
theorem c2_5_1 : c2 5 1 := fun z cs k => ⟨4, (.vl (.int 0)), by kernel_rfl, by kernel_rfl⟩
theorem c3_5_1 : c3 5 1 := ⟨5, by kernel_rfl, fun _ => ⟨4, by kernel_rfl, by kernel_rfl⟩⟩
theorem c1_5_2 : c1 5 2 = true := by decide +kernel
theorem c2_5_2 : c2 5 2 := fun z cs k => ⟨480, (.vl (.int 1)), by kernel_rfl, by kernel_rfl⟩
theorem c3_5_2 : c3 5 2 := ⟨625, by kernel_rfl, fun h => absurd h (by decide +kernel)⟩
theorem c1_5_3 : c1 5 3 = true := by decide +kernel
theorem c2_5_3 : c2 5 3 := fun z cs k => ⟨1488000, (.vl (.int 2)), by kernel_rfl, by kernel_rfl⟩
theorem c3_5_3 : c3 5 3 := ⟨1953125, by kernel_rfl, fun h => absurd h (by decide +kernel)⟩
theorem c1_5_4 : c1 5 4 = true := by decide +kernel
theorem c2_5_4 : c2 5 4 := fun z cs k => ⟨116064000000, (.vl (.int 3)), by kernel_rfl, by kernel_rfl⟩
theorem c3_5_4 : c3 5 4 := ⟨152587890625, by kernel_rfl, fun h => absurd h (by decide +kernel)⟩
theorem c1_5_5 : c1 5 5 = true := by decide +kernel
theorem c2_5_5 : c2 5 5 := fun z cs k => ⟨226614960000000000, (.vl (.int 4)), by kernel_rfl, by kernel_rfl⟩
theorem c3_5_5 : c3 5 5 := ⟨298023223876953125, by kernel_rfl, fun h => absurd h (by decide +kernel)⟩
theorem c1_5_6 : c1 5 6 = true := by decide +kernel
theorem c2_5_6 : c2 5 6 := fun z cs k => ⟨11064475422000000000000000, (.vl (.int 5)), by kernel_rfl, by kernel_rfl⟩
theorem c3_5_6 : c3 5 6 := ⟨14551915228366851806640625, by kernel_rfl, fun h => absurd h (by decide +kernel)⟩
theorem c1_7_0 : c1 7 0 = true := by decide +kernel
theorem c2_7_0 : c2 7 0 := fun z cs k => ⟨1, .un, by kernel_rfl, by kernel_rfl⟩
theorem c3_7_0 : c3 7 0 := ⟨1, by kernel_rfl, fun _ => ⟨1, by kernel_rfl, by kernel_rfl⟩⟩
theorem c1_7_1 : c1 7 1 = true := by decide +kernel
theorem c2_7_1 : c2 7 1 := fun z cs k => ⟨6, (.vl (.int 0)), by kernel_rfl, by kernel_rfl⟩
theorem c3_7_1 : c3 7 1 := ⟨7, by kernel_rfl, fun _ => ⟨6, by kernel_rfl, by kernel_rfl⟩⟩
theorem c1_7_2 : c1 7 2 = true := by decide +kernel
theorem c2_7_2 : c2 7 2 := fun z cs k => ⟨2016, (.vl (.int 1)), by kernel_rfl, by kernel_rfl⟩
theorem c3_7_2 : c3 7 2 := ⟨2401, by kernel_rfl, fun h => absurd h (by decide +kernel)⟩
theorem c1_7_3 : c1 7 3 = true := by decide +kernel
theorem c2_7_3 : c2 7 3 := fun z cs k => ⟨33784128, (.vl (.int 2)), by kernel_rfl, by kernel_rfl⟩
theorem c3_7_3 : c3 7 3 := ⟨40353607, by kernel_rfl, fun h => absurd h (by decide +kernel)⟩
theorem c1_7_4 : c1 7 4 = true := by decide +kernel
theorem c2_7_4 : c2 7 4 := fun z cs k => ⟨27811094169600, (.vl (.int 3)), by kernel_rfl, by kernel_rfl⟩
theorem c3_7_4 : c3 7 4 := ⟨33232930569601, by kernel_rfl, fun h => absurd h (by decide +kernel)⟩
theorem c1_7_5 : c1 7 5 = true := by decide +kernel
theorem c2_7_5 : c2 7 5 := fun z cs k => ⟨1122211189922928537600, (.vl (.int 4)), by kernel_rfl, by kernel_rfl⟩
theorem c3_7_5 : c3 7 5 := ⟨1341068619663964900807, by kernel_rfl, fun h => absurd h (by decide +kernel)⟩
theorem c1_7_6 : c1 7 6 = true := by decide +kernel
theorem c2_7_6 : c2 7 6 := fun z cs k => ⟨2218959336124989671614429593600, (.vl (.int 5)), by kernel_rfl, by kernel_rfl⟩
theorem c3_7_6 : c3 7 6 := ⟨2651730845859653471779023381601, by kernel_rfl, fun h => absurd h (by decide +kernel)⟩
theorem c1_9_0 : c1 9 0 = true := by decide +kernel
theorem c2_9_0 : c2 9 0 := fun z cs k => ⟨1, .un, by kernel_rfl, by kernel_rfl⟩
theorem c3_9_0 : c3 9 0 := ⟨1, by kernel_rfl, fun _ => ⟨1, by kernel_rfl, by kernel_rfl⟩⟩
theorem c1_9_1 : c1 9 1 = true := by decide +kernel
theorem c2_9_1 : c2 9 1 := fun z cs k => ⟨8, (.vl (.int 0)), by kernel_rfl, by kernel_rfl⟩
theorem c3_9_1 : c3 9 1 := ⟨9, by kernel_rfl, fun _ => ⟨8, by kernel_rfl, by kernel_rfl⟩⟩
theorem c1_9_2 : c1 9 2 = true := by decide +kernel
theorem c2_9_2 : c2 9 2 := fun z cs k => ⟨5760, (.vl (.int 1)), by kernel_rfl, by kernel_rfl⟩
theorem c3_9_2 : c3 9 2 := ⟨6561, by kernel_rfl, fun h => absurd h (by decide +kernel)⟩
theorem c1_9_3 : c1 9 3 = true := by decide +kernel
theorem c2_9_3 : c2 9 3 := fun z cs k => ⟨339655680, (.vl (.int 2)), by kernel_rfl, by kernel_rfl⟩
theorem c3_9_3 : c3 9 3 := ⟨387420489, by kernel_rfl, fun h => absurd h (by decide +kernel)⟩
theorem c1_9_4 : c1 9 4 = true := by decide +kernel
theorem c2_9_4 : c2 9 4 := fun z cs k => ⟨1624314979123200, (.vl (.int 3)), by kernel_rfl, by kernel_rfl⟩
theorem c3_9_4 : c3 9 4 := ⟨1853020188851841, by kernel_rfl, fun h => absurd h (by decide +kernel)⟩
theorem c1_9_5 : c1 9 5 = true := by decide +kernel
theorem c2_9_5 : c2 9 5 := fun z cs k => ⟨629282246371356907929600, (.vl (.int 4)), by kernel_rfl, by kernel_rfl⟩
theorem c3_9_5 : c3 9 5 := ⟨717897987691852588770249, by kernel_rfl, fun h => absurd h (by decide +kernel)⟩
theorem c1_9_6 : c1 9 6 = true := by decide +kernel
theorem c2_9_6 : c2 9 6 := fun z cs k => ⟨19747506525777609095698646040576000, (.vl (.int 5)), by kernel_rfl, by kernel_rfl⟩
theorem c3_9_6 : c3 9 6 := ⟨22528399544939174411840147874772641, by kernel_rfl, fun h => absurd h (by decide +kernel)⟩
theorem c1_all : ∀ q ∈ qs, ∀ n : Nat, n < 7 → c1 q n = true := by
  intro q hq n hn
  simp only [qs, List.mem_cons, List.not_mem_nil, or_false] at hq
  rcases hq with rfl | rfl | rfl | rfl | rfl | rfl
  · exact match n, hn with
    | 0, _ => c1_2_0
    | 1, _ => c1_2_1
    | 2, _ => c1_2_2
    | 3, _ => c1_2_3
    | 4, _ => c1_2_4
    | 5, _ => c1_2_5
    | 6, _ => c1_2_6
  · exact match n, hn with
    | 0, _ => c1_3_0
    | 1, _ => c1_3_1
    | 2, _ => c1_3_2
    | 3, _ => c1_3_3
    | 4, _ => c1_3_4
    | 5, _ => c1_3_5
    | 6, _ => c1_3_6
  · exact match n, hn with
    | 0, _ => c1_4_0
    | 1, _ => c1_4_1
    | 2, _ => c1_4_2
    | 3, _ => c1_4_3
    | 4, _ => c1_4_4
    | 5, _ => c1_4_5
    | 6, _ => c1_4_6
  · exact match n, hn with
    | 0, _ => c1_5_0
    | 1, _ => c1_5_1
    | 2, _ => c1_5_2
    | 3, _ => c1_5_3
    | 4, _ => c1_5_4
    | 5, _ => c1_5_5
    | 6, _ => c1_5_6
  · exact match n, hn with
    | 0, _ => c1_7_0
    | 1, _ => c1_7_1
    | 2, _ => c1_7_2
    | 3, _ => c1_7_3
    | 4, _ => c1_7_4
    | 5, _ => c1_7_5
    | 6, _ => c1_7_6
  · exact match n, hn with
    | 0, _ => c1_9_0
    | 1, _ => c1_9_1
    | 2, _ => c1_9_2
    | 3, _ => c1_9_3
    | 4, _ => c1_9_4
    | 5, _ => c1_9_5
    | 6, _ => c1_9_6
theorem c2_all : ∀ q ∈ qs, ∀ n : Nat, n < 7 → c2 q n := by
  intro q hq n hn
  simp only [qs, List.mem_cons, List.not_mem_nil, or_false] at hq
  rcases hq with rfl | rfl | rfl | rfl | rfl | rfl
  · exact match n, hn with
    | 0, _ => c2_2_0
    | 1, _ => c2_2_1
    | 2, _ => c2_2_2
    | 3, _ => c2_2_3
    | 4, _ => c2_2_4
    | 5, _ => c2_2_5
    | 6, _ => c2_2_6
  · exact match n, hn with
    | 0, _ => c2_3_0
    | 1, _ => c2_3_1
    | 2, _ => c2_3_2
    | 3, _ => c2_3_3
    | 4, _ => c2_3_4
    | 5, _ => c2_3_5
    | 6, _ => c2_3_6
  · exact match n, hn with
    | 0, _ => c2_4_0
    | 1, _ => c2_4_1
    | 2, _ => c2_4_2
    | 3, _ => c2_4_3
    | 4, _ => c2_4_4
    | 5, _ => c2_4_5
    | 6, _ => c2_4_6
  · exact match n, hn with
    | 0, _ => c2_5_0
    | 1, _ => c2_5_1
    | 2, _ => c2_5_2
    | 3, _ => c2_5_3
    | 4, _ => c2_5_4
    | 5, _ => c2_5_5
    | 6, _ => c2_5_6
  · exact match n, hn with
    | 0, _ => c2_7_0
    | 1, _ => c2_7_1
    | 2, _ => c2_7_2
    | 3, _ => c2_7_3
    | 4, _ => c2_7_4
    | 5, _ => c2_7_5
    | 6, _ => c2_7_6
  · exact match n, hn with
    | 0, _ => c2_9_0
    | 1, _ => c2_9_1
    | 2, _ => c2_9_2
    | 3, _ => c2_9_3
    | 4, _ => c2_9_4
    | 5, _ => c2_9_5
    | 6, _ => c2_9_6
theorem c3_all : ∀ q ∈ qs, ∀ n : Nat, n < 7 → c3 q n := by
  intro q hq n hn
  simp only [qs, List.mem_cons, List.not_mem_nil, or_false] at hq
  rcases hq with rfl | rfl | rfl | rfl | rfl | rfl
  · exact match n, hn with
    | 0, _ => c3_2_0
    | 1, _ => c3_2_1
    | 2, _ => c3_2_2
    | 3, _ => c3_2_3
    | 4, _ => c3_2_4
    | 5, _ => c3_2_5
    | 6, _ => c3_2_6
  · exact match n, hn with
    | 0, _ => c3_3_0
    | 1, _ => c3_3_1
    | 2, _ => c3_3_2
    | 3, _ => c3_3_3
    | 4, _ => c3_3_4
    | 5, _ => c3_3_5
    | 6, _ => c3_3_6
  · exact match n, hn with
    | 0, _ => c3_4_0
    | 1, _ => c3_4_1
    | 2, _ => c3_4_2
    | 3, _ => c3_4_3
    | 4, _ => c3_4_4
    | 5, _ => c3_4_5
    | 6, _ => c3_4_6
  · exact match n, hn with
    | 0, _ => c3_5_0
    | 1, _ => c3_5_1
    | 2, _ => c3_5_2
    | 3, _ => c3_5_3
    | 4, _ => c3_5_4
    | 5, _ => c3_5_5
    | 6, _ => c3_5_6
  · exact match n, hn with
    | 0, _ => c3_7_0
    | 1, _ => c3_7_1
    | 2, _ => c3_7_2
    | 3, _ => c3_7_3
    | 4, _ => c3_7_4
    | 5, _ => c3_7_5
    | 6, _ => c3_7_6
  · exact match n, hn with
    | 0, _ => c3_9_0
    | 1, _ => c3_9_1
    | 2, _ => c3_9_2
    | 3, _ => c3_9_3
    | 4, _ => c3_9_4
    | 5, _ => c3_9_5
    | 6, _ => c3_9_6
def c4 (a : Nat) : Bool := (List.range 40).all fun e => same (iV (F_power.app [.int ((a : Int) - 10), .int e])) (iV (F__law_power.app [.int ((a : Int) - 10), .int e]))
theorem c4_all : (List.range 21).all c4 = true := by decide +kernel
def isT (r : Rs) : Bool := match r with
  | .ok (.fz (.bl b)) => b
  | _ => false
theorem isT_of {r : Rs} (h : isT r = true) : r = .ok (.fz (.bl true)) := by
  unfold isT at h
  split at h
  · subst h; rfl
  · cases h
theorem c5_all : ((List.range 21).all fun a => isT (F_is_integer.app [.int ((a : Int) - 10)])) = true := by decide +kernel
theorem q_at (v : Nat) (h : v < 6) : ∃ q ∈ qs, oIx (.lst [.int 2, .int 3, .int 4, .int 5, .int 7, .int 9]) (.int v) = some (.int q) := match v, h with
  | 0, _ => ⟨2, by decide, rfl⟩
  | 1, _ => ⟨3, by decide, rfl⟩
  | 2, _ => ⟨4, by decide, rfl⟩
  | 3, _ => ⟨5, by decide, rfl⟩
  | 4, _ => ⟨7, by decide, rfl⟩
  | 5, _ => ⟨9, by decide, rfl⟩
theorem take_nat (a b : Int) (m : Nat) (hm : 0 < m) (hl : m < 100) : ∃ (v : Nat) (a' b' : Int), v < m ∧ F__law_take.app [.int a, .int b] [.int m] = .ok (.fz (.int v)) [.int a', .int b'] := by
  have hq : (m : Int).natAbs.log2 < 9000 := Nat.lt_of_le_of_lt (Nat.log2_le_self _) (by omega)
  obtain ⟨v, a', b', h1, h2, h3⟩ := take_eq a b m (by omega) hq
  obtain ⟨k, rfl⟩ : ∃ k : Nat, v = k := ⟨v.toNat, by omega⟩
  exact ⟨k, a', b', by omega, h3⟩
theorem mulnn (n : Nat) (h : n < 7) : oMul (.int n) (.int n) = some (.int ((n : Int) * n)) := by
  have : (decide (-(2 ^ 64) < (n : Int)) && decide ((n : Int) < 2 ^ 64)) = true := by
    simp only [Bool.and_eq_true, decide_eq_true_eq]
    omega
  exact mul_l this
theorem ne_same (x : Int) : oNe (.int x) (.int x) = some (.bl false) := by
  simp [oNe, dEq, oEqS]
theorem loop6 (s0 s1 s2 s3 s4 s5 s6 s7 s8 : Sl) : (sFor (iSeq (sTup (sCons (sC (.bl true)) (sCons (sC (.bl false)) (sCons (sC .non) (sCons (sC (.str "1")) (sCons (sTup (sCons (sC (.int 1)) sNil)) (sCons (sLst (sCons (sC (.int 2)) sNil)) sNil)))))))) (gN 9) (sCond (bVal (sBin oIsNot (sFn F_is_integer (sCons (sVar 9) sNil)) (sC (.bl false)))) (sRet (sC (.bl false))) sNext)) [s0, s1, s2, s3, s4, s5, s6, s7, s8, .un] = .nx [s0, s1, s2, s3, s4, s5, s6, s7, s8, .vl (.lst [.int 2])] := by kernel_rfl
def G_law (fS : Fn) (fK : Fn2) (fG fT fI fP fW fQ fZ : Fn) : Ss := (sSeq (sOwn 1 (sFnF fS (sCons (sVar 0) sNil))) (sSeq (sSet 2 (sBin oIx (sLst (sCons (sC (.int 2)) (sCons (sC (.int 3)) (sCons (sC (.int 4)) (sCons (sC (.int 5)) (sCons (sC (.int 7)) (sCons (sC (.int 9)) sNil))))))) (sFn2 1 fK (sCons (sC (.int 6)) sNil)))) (sSeq (sPar 3 4 (sFn2 1 fK (sCons (sC (.int 7)) sNil)) (sBin oSub (sFn2 1 fK (sCons (sC (.int 9)) sNil)) (sC (.int 1)))) (sSeq (sCond (bVal (sBin oNe (sFn fG (sCons (sVar 3) (sCons (sVar 4) (sCons (sVar 2) sNil)))) (sFn fT (sCons (sVar 3) (sCons (sVar 4) (sCons (sVar 2) sNil)))))) (sRet (sC (.bl false))) sNext) (sSeq (sSet 5 (sC (.int 1))) (sSeq (sFor (iCall rng1O (sCons (sVar 3) sNil)) (gN 6) (sSet 5 (sBin oMul (sVar 5) (sBin oSub (sFn fP (sCons (sVar 2) (sCons (sVar 3) sNil))) (sFn fP (sCons (sVar 2) (sCons (sVar 6) sNil))))))) (sSeq (sCond (bVal (sBin oNe (sFn fI (sCons (sVar 3) (sCons (sVar 2) sNil))) (sVar 5))) (sRet (sC (.bl false))) sNext) (sSeq (sCond (bAnd (bVal (sBin oLe (sFn fP (sCons (sVar 2) (sCons (sBin oMul (sVar 3) (sVar 3)) sNil))) (sC (.int 81)))) (bVal (sBin oNe (sFn fI (sCons (sVar 3) (sCons (sVar 2) sNil))) (sFn fW (sCons (sVar 2) (sCons (sVar 3) sNil)))))) (sRet (sC (.bl false))) sNext) (sSeq (sPar 7 8 (sBin oSub (sFn2 1 fK (sCons (sC (.int 21)) sNil)) (sC (.int 10))) (sFn2 1 fK (sCons (sC (.int 40)) sNil))) (sSeq (sCond (bVal (sBin oNe (sFn fQ (sCons (sVar 7) (sCons (sVar 8) sNil))) (sFn fP (sCons (sVar 7) (sCons (sVar 8) sNil))))) (sRet (sC (.bl false))) sNext) (sSeq (sFor (iSeq (sTup (sCons (sC (.bl true)) (sCons (sC (.bl false)) (sCons (sC .non) (sCons (sC (.str "1")) (sCons (sTup (sCons (sC (.int 1)) sNil)) (sCons (sLst (sCons (sC (.int 2)) sNil)) sNil)))))))) (gN 9) (sCond (bVal (sBin oIsNot (sFn fZ (sCons (sVar 9) sNil)) (sC (.bl false)))) (sRet (sC (.bl false))) sNext)) (sRet (sBin oIs (sFn fZ (sCons (sVar 7) sNil)) (sC (.bl true)))))))))))))))
theorem law_gen (fS : Fn) (fK : Fn2) (fG fT fI fP fW fQ fZ : Fn) (ns : List Int) (a0 b0 a1 b1 a2 b2' a3 b3 a4 b4 a5 b5 q g d p y : Int) (E6 : Sl) (v1 n k x e : Nat) (ln : n < 7)
  (e0 : fS.app [.scr ns] = .ok (.fr [.int a0, .int b0]))
  (e1 : fK.app [.int a0, .int b0] [.int (6 : Nat)] = .ok (.fz (.int v1)) [.int a1, .int b1])
  (e2 : fK.app [.int a1, .int b1] [.int (7 : Nat)] = .ok (.fz (.int n)) [.int a2, .int b2'])
  (e3 : fK.app [.int a2, .int b2'] [.int (9 : Nat)] = .ok (.fz (.int k)) [.int a3, .int b3])
  (e4 : fK.app [.int a3, .int b3] [.int (21 : Nat)] = .ok (.fz (.int x)) [.int a4, .int b4])
  (e5 : fK.app [.int a4, .int b4] [.int (40 : Nat)] = .ok (.fz (.int e)) [.int a5, .int b5])
  (L : oIx (.lst [.int 2, .int 3, .int 4, .int 5, .int 7, .int 9]) (.int v1) = some (.int q))
  (g1 : fG.app [.int n, .int ((k : Int) - 1), .int q] = .ok (.fz (.int g))) (g2 : fT.app [.int n, .int ((k : Int) - 1), .int q] = .ok (.fz (.int g)))
  (d1 : sFor (iCall rng1O (sCons (sVar 3) sNil)) (gN 6) (sSet 5 (sBin oMul (sVar 5) (sBin oSub (sFn fP (sCons (sVar 2) (sCons (sVar 3) sNil))) (sFn fP (sCons (sVar 2) (sCons (sVar 6) sNil)))))) [.vl (.scr ns), .ow [.int a3, .int b3], .vl (.int q), .vl (.int n), .vl (.int ((k : Int) - 1)), .vl (.int 1), .un, .un, .un, .un] = .nx [.vl (.scr ns), .ow [.int a3, .int b3], .vl (.int q), .vl (.int n), .vl (.int ((k : Int) - 1)), .vl (.int d), E6, .un, .un, .un])
  (d2 : fI.app [.int n, .int q] = .ok (.fz (.int d)))
  (p1 : fP.app [.int q, .int ((n : Int) * n)] = .ok (.fz (.int p))) (p2 : p ≤ 81 → ∃ y, fI.app [.int n, .int q] = .ok (.fz (.int y)) ∧ fW.app [.int q, .int n] = .ok (.fz (.int y)))
  (y1 : fQ.app [.int ((x : Int) - 10), .int e] = .ok (.fz (.int y))) (y2 : fP.app [.int ((x : Int) - 10), .int e] = .ok (.fz (.int y)))
  (t1 : fZ.app [.int ((x : Int) - 10)] = .ok (.fz (.bl true)))
  (t2 : ∀ s0 s1 s2 s3 s4 s5 s6 s7 s8 : Sl, (sFor (iSeq (sTup (sCons (sC (.bl true)) (sCons (sC (.bl false)) (sCons (sC .non) (sCons (sC (.str "1")) (sCons (sTup (sCons (sC (.int 1)) sNil)) (sCons (sLst (sCons (sC (.int 2)) sNil)) sNil)))))))) (gN 9) (sCond (bVal (sBin oIsNot (sFn fZ (sCons (sVar 9) sNil)) (sC (.bl false)))) (sRet (sC (.bl false))) sNext)) [s0, s1, s2, s3, s4, s5, s6, s7, s8, .un] = .nx [s0, s1, s2, s3, s4, s5, s6, s7, s8, .vl (.lst [.int 2])]) : ∃ E, G_law fS fK fG fT fI fP fW fQ fZ (sto 10 [.scr ns]) = .rt (.fz (.bl true)) E := by
  have nn := mulnn n ln
  have s0 : sto 10 [.scr ns] = [.vl (.scr ns), .un, .un, .un, .un, .un, .un, .un, .un, .un] := rfl
  rw [s0]
  unfold G_law
  rw [seq_nx (E1 := [.vl (.scr ns), .ow [.int a0, .int b0], .un, .un, .un, .un, .un, .un, .un, .un]) (by simp only [sOwn, sFnF, sFn, sFn2, sSet, sCons, sNil, sVar, sC, sBin, sCall, bVal, sCond, sNext, cellAt, Sl.cell, Sl.put, Out.bind, Out.then, Out.opt, List.getElem?_cons_zero, List.getElem?_cons_succ, List.set, if_true, if_false, e0, rsOutF])]
  rw [seq_nx (E1 := [.vl (.scr ns), .ow [.int a1, .int b1], .vl (.int q), .un, .un, .un, .un, .un, .un, .un]) (by simp only [sOwn, sFnF, sFn, sFn2, sSet, sCons, sNil, sVar, sC, sBin, sCall, bVal, sCond, sNext, cellAt, Sl.cell, Sl.put, Out.bind, Out.then, Out.opt, List.getElem?_cons_zero, List.getElem?_cons_succ, List.set, if_true, if_false, show (6 : Int) = ((6 : Nat) : Int) from rfl, e1, sLst, sLstO, L, List.length_cons, List.length_nil, Nat.reduceAdd, Nat.reduceLeDiff])]
  rw [seq_nx (E1 := [.vl (.scr ns), .ow [.int a3, .int b3], .vl (.int q), .vl (.int n), .vl (.int ((k : Int) - 1)), .un, .un, .un, .un, .un]) (by simp only [sOwn, sFnF, sFn, sFn2, sSet, sCons, sNil, sVar, sC, sBin, sCall, bVal, sCond, sNext, cellAt, Sl.cell, Sl.put, Out.bind, Out.then, Out.opt, List.getElem?_cons_zero, List.getElem?_cons_succ, List.set, if_true, if_false, sPar, show (7 : Int) = ((7 : Nat) : Int) from rfl, show (9 : Int) = ((9 : Nat) : Int) from rfl, e2, e3, oSub])]
  rw [seq_nx (E1 := [.vl (.scr ns), .ow [.int a3, .int b3], .vl (.int q), .vl (.int n), .vl (.int ((k : Int) - 1)), .un, .un, .un, .un, .un]) ((es_no (bv_val (ev_bin (ev_fn (ev_cons (ev_var rfl) (ev_cons (ev_var rfl) (ev_cons (ev_var rfl) ev_nil))) g1) (ev_fn (ev_cons (ev_var rfl) (ev_cons (ev_var rfl) (ev_cons (ev_var rfl) ev_nil))) g2) ne_self))).trans es_next)]
  rw [seq_nx (E1 := [.vl (.scr ns), .ow [.int a3, .int b3], .vl (.int q), .vl (.int n), .vl (.int ((k : Int) - 1)), .vl (.int 1), .un, .un, .un, .un]) (by rfl)]
  rw [seq_nx (E1 := [.vl (.scr ns), .ow [.int a3, .int b3], .vl (.int q), .vl (.int n), .vl (.int ((k : Int) - 1)), .vl (.int d), E6, .un, .un, .un]) d1]
  rw [seq_nx (E1 := [.vl (.scr ns), .ow [.int a3, .int b3], .vl (.int q), .vl (.int n), .vl (.int ((k : Int) - 1)), .vl (.int d), E6, .un, .un, .un]) ((es_no (bv_val (ev_bin (ev_fn (ev_cons (ev_var rfl) (ev_cons (ev_var rfl) ev_nil)) d2) (ev_var rfl) ne_self))).trans es_next)]
  rw [seq_nx (E1 := [.vl (.scr ns), .ow [.int a3, .int b3], .vl (.int q), .vl (.int n), .vl (.int ((k : Int) - 1)), .vl (.int d), E6, .un, .un, .un]) (by
    by_cases hp : p ≤ 81
    · obtain ⟨w, w1, w2⟩ := p2 hp
      exact (es_no (bv_andT (bv_val (ev_bin (ev_fn (ev_cons (ev_var rfl) (ev_cons (ev_bin (ev_var rfl) (ev_var rfl) nn) ev_nil)) p1) ev_c (le_yes hp))) (bv_val (ev_bin (ev_fn (ev_cons (ev_var rfl) (ev_cons (ev_var rfl) ev_nil)) w1) (ev_fn (ev_cons (ev_var rfl) (ev_cons (ev_var rfl) ev_nil)) w2) ne_self)))).trans es_next
    · exact (es_no (bv_andF (bv_val (ev_bin (ev_fn (ev_cons (ev_var rfl) (ev_cons (ev_bin (ev_var rfl) (ev_var rfl) nn) ev_nil)) p1) ev_c (le_not hp))))).trans es_next)]
  rw [seq_nx (E1 := [.vl (.scr ns), .ow [.int a5, .int b5], .vl (.int q), .vl (.int n), .vl (.int ((k : Int) - 1)), .vl (.int d), E6, .vl (.int ((x : Int) - 10)), .vl (.int e), .un]) (by simp only [sOwn, sFnF, sFn, sFn2, sSet, sCons, sNil, sVar, sC, sBin, sCall, bVal, sCond, sNext, cellAt, Sl.cell, Sl.put, Out.bind, Out.then, Out.opt, List.getElem?_cons_zero, List.getElem?_cons_succ, List.set, if_true, if_false, sPar, show (21 : Int) = ((21 : Nat) : Int) from rfl, show (40 : Int) = ((40 : Nat) : Int) from rfl, e4, e5, oSub])]
  rw [seq_nx (E1 := [.vl (.scr ns), .ow [.int a5, .int b5], .vl (.int q), .vl (.int n), .vl (.int ((k : Int) - 1)), .vl (.int d), E6, .vl (.int ((x : Int) - 10)), .vl (.int e), .un]) ((es_no (bv_val (ev_bin (ev_fn (ev_cons (ev_var rfl) (ev_cons (ev_var rfl) ev_nil)) y1) (ev_fn (ev_cons (ev_var rfl) (ev_cons (ev_var rfl) ev_nil)) y2) ne_self))).trans es_next)]
  rw [seq_nx (E1 := [.vl (.scr ns), .ow [.int a5, .int b5], .vl (.int q), .vl (.int n), .vl (.int ((k : Int) - 1)), .vl (.int d), E6, .vl (.int ((x : Int) - 10)), .vl (.int e), .vl (.lst [.int 2])]) (t2 ..)]
  exact ⟨[.vl (.scr ns), .ow [.int a5, .int b5], .vl (.int q), .vl (.int n), .vl (.int ((k : Int) - 1)), .vl (.int d), E6, .vl (.int ((x : Int) - 10)), .vl (.int e), .vl (.lst [.int 2])], es_ret (ev_bin (ev_fn (ev_cons (ev_var rfl) ev_nil) t1) ev_c rfl)⟩
theorem law_run (ns : List Int) : ∃ E, S_law (sto 10 [.scr ns]) = .rt (.fz (.bl true)) E := by
  obtain ⟨a0, b0, e0⟩ := state_eq ns
  obtain ⟨v1, a1, b1, l1, e1⟩ := take_nat a0 b0 6 (by decide) (by decide)
  obtain ⟨n, a2, b2', ln, e2⟩ := take_nat a1 b1 7 (by decide) (by decide)
  obtain ⟨k, a3, b3, lk, e3⟩ := take_nat a2 b2' 9 (by decide) (by decide)
  obtain ⟨x, a4, b4, lx, e4⟩ := take_nat a3 b3 21 (by decide) (by decide)
  obtain ⟨e, a5, b5, le, e5⟩ := take_nat a4 b4 40 (by decide) (by decide)
  obtain ⟨q, hq, eq⟩ := q_at v1 l1
  obtain ⟨g, g1, g2⟩ := same_of (List.all_eq_true.mp (c1_all q hq n ln) k (List.mem_range.mpr lk))
  obtain ⟨d, E6, d1, d2⟩ := c2_all q hq n ln (.scr ns) [.int a3, .int b3] (.int ((k : Int) - 1))
  obtain ⟨p, p1, p2⟩ := c3_all q hq n ln
  obtain ⟨y, y1, y2⟩ := same_of (List.all_eq_true.mp (List.all_eq_true.mp c4_all x (List.mem_range.mpr lx)) e (List.mem_range.mpr le))
  have t1 := isT_of (List.all_eq_true.mp c5_all x (List.mem_range.mpr lx))
  exact law_gen _ _ _ _ _ _ _ _ _ ns a0 b0 a1 b1 a2 b2' a3 b3 a4 b4 a5 b5 q g d p y E6 v1 n k x e ln e0 e1 e2 e3 e4 e5 eq g1 g2 d1 d2 p1 p2 y1 y2 t1 loop6
theorem law_true : ∀ ns : List Int, ns.length ≤ 63 → F_law.app [.scr ns] = .ok (.fz (.bl true)) := by
  intro ns _
  obtain ⟨E, e⟩ := law_run ns
  simp only [Fn.app, F_law, mkFn, List.length_cons, List.length_nil, Nat.zero_add, if_true, e]
end My
set_option Elab.async false
set_option linter.all false
set_option maxRecDepth 100000
set_option maxHeartbeats 0
namespace My
open PySem PySem.Spec PyProof.Rows L2 Dn
def nm0 : List Str := ["is_integer", "power", "gauss", "invertible_count", "_law_state", "_law_take", "_law_prime", "_law_joined", "_law_field", "_law_sum", "_law_times", "_law_rows", "_law_spanned", "_law_is_free", "_law_power", "_law_tables", "_law_walked"]
def names : List Str := nm0
abbrev R : PySem.W.OpenRow := PySem.W.OpenLaw.row PySem.Challenge.rw_wittspaces_k05_numbers_of_spaces
abbrev hk : PySem.W.Hook := He.hookD 5 fa fn
def ob (s : PySem.W.SharedT) : He.AlD := He.obsDG 5 fa fn (HandSHeadRun.getT s)
theorem ob_eq (s : PySem.W.SharedT) : ob s = hk.obs s.abs := He.obsDG_eq (HandSHeadRun.getT_eq s)
abbrev qv : Program := PySem.W.view R.prog [19]
theorem join3 {α β γ δ : Type} {o : Option α} {f : α → β} {g : α → γ} {h : α → δ} {a : β} {b : γ} {c : δ} (h1 : o.map f = some a) (h2 : o.map g = some b) (h3 : o.map h = some c) : o.map (fun s => (f s, g s, h s)) = some (a, b, c) := by
  cases o with
  | none => cases h1
  | some s =>
    simp only [Option.map_some, Option.some.injEq] at h1 h2 h3 ⊢
    rw [h1, h2, h3]
theorem run1 (w : World) (os : PySem.OsState) : (HandSHeadRun.endF (HandSHeadRun.stepQ (HandSHeadRun.denQ HandSHeadRun.tabQ) R.prog w) 5000 R.prog w os).map (fun s => HandSHeadRun.looksF R.prog (PySem.W.boot_heap w.params) s.abs) = some true := by
  kernel_rfl
theorem run2 (w : World) (os : PySem.OsState) : (HandSHeadRun.endF (HandSHeadRun.stepQ (HandSHeadRun.denQ HandSHeadRun.tabQ) R.prog w) 5000 R.prog w os).map (fun s => HandSHeadRun.seenQ qv names (importedModules R.prog.main.body) (fun s => PySem.W.xlAt qv [] s && PySem.W.recOk R.toRowW.records s) s.abs) = some (PySem.W.openGood qv names) := by
  kernel_rfl
theorem run3 (w : World) (os : PySem.OsState) : (HandSHeadRun.endF (HandSHeadRun.stepQ (HandSHeadRun.denQ HandSHeadRun.tabQ) R.prog w) 5000 R.prog w os).map ob = some (hk.val w) := by
  kernel_rfl
theorem run (w : World) : HandSHeadRun.RunEq R qv hk ob 5000 names w := fun os => join3 (run1 w os) (run2 w os) (run3 w os)


theorem facts {P : Program} {w : World} {K : PySem.W.Frag} {h : Heap} {mg : Str → Option Value} {f : Addr} (X : K.In h) (G : h.Ns mainGlobals mg) (hfa : mg ("law" : Str) = some (.ref f)) (c : He.SaysD fa fn K) :
    ∃ fd : FuncData, (∀ (s : Shared) (v : Value), BindsTo s fd ⟨[v], []⟩ [("_law_script", v)]) ∧ ∀ base : Heap, K.In base → base.Ns mainGlobals mg → FnOk P w K mg base (L2.CX P w) 5 f fd ["_law_script"] (spP K F_law) := by
  have T : Tx fa fn K mg := ⟨c, h, X, G⟩
  obtain ⟨fd0, F⟩ := c.def_ 17 (d := d_law) rfl
  have e := hfa.symm.trans (T.glo 25)
  cases e
  have b := FunD.bindsA (ps := ["_law_script"]) F fun _ _ _ _ _ _ us hl => match us, hl with | [_], _ => rfl
  refine ⟨fd0, fun s v => b s [v] rfl, fun base _ _ => ?_⟩
  exact law_ok F T
end My
open PySem PySem.W PySem.Calls PyProof.Rows
theorem PySem.Challenge.cw_wittspaces_k05_numbers_of_spaces_holds : PySem.Challenge.rw_wittspaces_k05_numbers_of_spaces.Holds := by
  w_on; o_law
  refine HandSHeadRun.head_any (r := OpenLaw.row PySem.Challenge.rw_wittspaces_k05_numbers_of_spaces) (q := view (OpenLaw.row PySem.Challenge.rw_wittspaces_k05_numbers_of_spaces).prog [19]) (H := My.hk) (ob := My.ob) (M := 5000) (loose := My.names) (d := HandSHeadRun.topDef (OpenLaw.row PySem.Challenge.rw_wittspaces_k05_numbers_of_spaces).prog 19) (kwd := []) My.ob_eq
    (by kernel_rfl) (fun s => by kernel_rfl) My.run (by kernel_rfl) (by kernel_rfl) (by kernel_rfl) (by rfl) (by first | assumption | decide +kernel) (by decide +kernel) ⟨rfl, rfl, rfl, rfl, rfl, by decide +kernel⟩ ?hw ?hc
  case hw => w_witness2
  case hc =>
    refine Dn.leave (l := PySem.Challenge.rw_wittspaces_k05_numbers_of_spaces) (n := 63) (k := 5) (x := "_law_script") rfl (by decide) (by kernel_rfl) ⟨rfl, by decide, by decide⟩ ?F
    intro w mg fa h Y G hmg0
    obtain ⟨K, KX, c⟩ := Y
    have hmg : mg ("law" : PySem.Str) = some (.ref fa) := by
      have e : (HandSHeadRun.topDef (OpenLaw.row PySem.Challenge.rw_wittspaces_k05_numbers_of_spaces).prog 19).name = ("law" : PySem.Str) := by kernel_rfl
      rw [← e]
      exact hmg0
    obtain ⟨fd, hb, hF⟩ := My.facts (P := (PySem.Challenge.rw_wittspaces_k05_numbers_of_spaces).prog) (w := w) KX G hmg c
    exact ⟨K, fd, My.F_law, KX, hb, fun ns hl => My.law_true ns hl, hF⟩
