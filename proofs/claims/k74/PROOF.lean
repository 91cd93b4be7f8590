import PyProof.Rows.All
import Wide.All
import OpenK.AllK
import Wide.FinOn
import HandS.MakeKw
import HandS.ForMost
import HandS.Exc
import HandS.ExcInit
import HandS.TryMany
import HandS.TryOnly
import HandS.CallSlots
import HandS.Wide
import HandS.IsInst
import HandS.Style
import HandS.OwnEq
import HandS.Flow
import HandS.Deep
import HandS.TupLe
import HandS.TupAny
import HandS.Zip
import HandS.Conv
import HandS.Defaults
import HandS.WordsExc
import PySem.Challenge.RW_sheetproofs_k74_divisors_multiples_and_p
set_option Elab.async false
set_option linter.all false
set_option maxRecDepth 100000
set_option maxHeartbeats 1000000
/-! DtA: plain data D, the entries of a frame En, what stands for what in the abstract heap. -/
namespace Dt
open PySem PySem.Spec PyProof.Rows L2

/-- plain data: immutable as far as the proof goes -/
inductive D where
  | non | bl (b : Bool) | int (i : Int) | str (x : Str)
  | tup (xs : List D) | lst (xs : List D)
  | obj (c : Str) (ns : List Str) (xs : List D)

/-- what the layer knows of the program: the written part, the classes' addresses -/
structure Gm where
  K : PySem.W.Frag
  ca : Str → Option Addr

abbrev AP := Addr → Prop
/-- the written part's sequences -/
def WrL (K : PySem.W.Frag) (a : Addr) (xs : List V) : Prop := ∃ o its n, K.lookup a = some o ∧ o.cls = .type "list" ∧ o.dict = none ∧ o.data = .seq its n ∧ its.size ≤ sizeLine ∧ Vals xs its.toList
def WrT (K : PySem.W.Frag) (a : Addr) (xs : List V) : Prop := ∃ o its n, K.lookup a = some o ∧ o.cls = .type "tuple" ∧ o.data = .seq its n ∧ its.size ≤ sizeLine ∧ Vals xs its.toList
def ShL (G : Gm) (O : AP) (H : Hp) (a : Addr) (xs : List V) : Prop := (Rd H a (.lst xs) ∧ ¬ O a) ∨ WrL G.K a xs
def ShT (G : Gm) (O : AP) (H : Hp) (a : Addr) (xs : List V) : Prop := (Rd H a (.tup xs) ∧ ¬ O a) ∨ WrT G.K a xs

mutual
/-- v stands for d; none of its cells is owned -/
def Has (G : Gm) (O : AP) (H : Hp) : D → V → Prop
  | .non, v => v = .non
  | .bl b, v => v = .bl b
  | .int i, v => v = .int i
  | .str x, v => v = .str x
  | .tup xs, v => ∃ a vs, v = .ref a ∧ ShT G O H a vs ∧ HasL G O H xs vs
  | .lst xs, v => ∃ a vs, v = .ref a ∧ ShL G O H a vs ∧ HasL G O H xs vs
  | .obj c ns xs, v => ∃ a C dx vs, v = .ref a ∧ G.ca c = some C ∧ (H a = some (.ins C dx (ns.zip vs)) ∧ ¬ O a) ∧ ns.length = vs.length ∧ HasL G O H xs vs
def HasL (G : Gm) (O : AP) (H : Hp) : List D → List V → Prop
  | [], vs => vs = []
  | d :: ds, vs => ∃ v r, vs = v :: r ∧ Has G O H d v ∧ HasL G O H ds r
end

/-- what was tracked and not owned stays so -/
def Kp (O : AP) (H : Hp) (O' : AP) (H' : Hp) : Prop := ∀ a o, H a = some o → ¬ O a → H' a = some o ∧ ¬ O' a
theorem Kp.refl (O : AP) (H : Hp) : Kp O H O H := fun _ _ h n => ⟨h, n⟩
theorem Kp.trans {O O1 O2 : AP} {H H1 H2 : Hp} (a : Kp O H O1 H1) (b : Kp O1 H1 O2 H2) : Kp O H O2 H2 := fun x o h n => b x o (a x o h n).1 (a x o h n).2
theorem Kp.rd {O O' : AP} {H H' : Hp} {a : Addr} {u : HO} (k : Kp O H O' H') (h : Rd H a u ∧ ¬ O a) : Rd H' a u ∧ ¬ O' a := by
  obtain ⟨h, n⟩ := h
  rcases h with h | ⟨o, h⟩
  · exact ⟨.inl (k _ _ h n).1, (k _ _ h n).2⟩
  · exact ⟨.inr ⟨o, (k _ _ h n).1⟩, (k _ _ h n).2⟩
theorem ShL.kp {G : Gm} {O O' : AP} {H H' : Hp} {a : Addr} {xs : List V} (k : Kp O H O' H') (h : ShL G O H a xs) : ShL G O' H' a xs := by
  rcases h with h | h
  · exact .inl (k.rd h)
  · exact .inr h
theorem ShT.kp {G : Gm} {O O' : AP} {H H' : Hp} {a : Addr} {xs : List V} (k : Kp O H O' H') (h : ShT G O H a xs) : ShT G O' H' a xs := by
  rcases h with h | h
  · exact .inl (k.rd h)
  · exact .inr h
mutual
theorem Has.kp {G : Gm} {O O' : AP} {H H' : Hp} (k : Kp O H O' H') : ∀ {d : D} {v : V}, Has G O H d v → Has G O' H' d v
  | .non, _, h => by simp only [Has] at h ⊢; exact h
  | .bl _, _, h => by simp only [Has] at h ⊢; exact h
  | .int _, _, h => by simp only [Has] at h ⊢; exact h
  | .str _, _, h => by simp only [Has] at h ⊢; exact h
  | .tup xs, _, h => by
    simp only [Has] at h ⊢
    obtain ⟨a, vs, e, s, r⟩ := h
    exact ⟨a, vs, e, s.kp k, HasL.kp k r⟩
  | .lst xs, _, h => by
    simp only [Has] at h ⊢
    obtain ⟨a, vs, e, s, r⟩ := h
    exact ⟨a, vs, e, s.kp k, HasL.kp k r⟩
  | .obj c ns xs, _, h => by
    simp only [Has] at h ⊢
    obtain ⟨a, C, dx, vs, e, hc, ⟨h1, h2⟩, hl, r⟩ := h
    exact ⟨a, C, dx, vs, e, hc, k _ _ h1 h2, hl, HasL.kp k r⟩
theorem HasL.kp {G : Gm} {O O' : AP} {H H' : Hp} (k : Kp O H O' H') : ∀ {ds : List D} {vs : List V}, HasL G O H ds vs → HasL G O' H' ds vs
  | [], _, h => by simp only [HasL] at h ⊢; exact h
  | d :: ds, _, h => by
    simp only [HasL] at h ⊢
    obtain ⟨v, r, e, h1, h2⟩ := h
    exact ⟨v, r, e, Has.kp k h1, HasL.kp k h2⟩
end
section
variable {G : Gm} {O O' : AP} {H H' : Hp} {d : D} {v : V} {ds : List D} {vs : List V}
theorem HasL.length : ∀ {ds : List D} {vs : List V}, HasL G O H ds vs → ds.length = vs.length
  | [], _, h => by simp only [HasL] at h; rw [h]; rfl
  | d :: ds, _, h => by
    simp only [HasL] at h
    obtain ⟨v, r, e, h1, h2⟩ := h
    rw [e, List.length_cons, List.length_cons, HasL.length h2]
theorem HasL.get : ∀ {ds : List D} {vs : List V} {i : Nat} {d : D}, HasL G O H ds vs → ds[i]? = some d → ∃ v, vs[i]? = some v ∧ Has G O H d v
  | [], _, _, _, _, e => by simp at e
  | d :: ds, _, 0, _, h, e => by
    simp only [HasL] at h
    obtain ⟨v, r, rfl, h1, h2⟩ := h
    simp at e; subst e
    exact ⟨v, rfl, h1⟩
  | d :: ds, _, i + 1, _, h, e => by
    simp only [HasL] at h
    obtain ⟨v, r, rfl, h1, h2⟩ := h
    simpa using HasL.get h2 (by simpa using e)
theorem HasL.getV : ∀ {ds : List D} {vs : List V} {i : Nat} {v : V}, HasL G O H ds vs → vs[i]? = some v → ∃ d, ds[i]? = some d ∧ Has G O H d v := fun {ds vs i v} h e => by
  obtain ⟨hi, _⟩ := List.getElem?_eq_some_iff.mp e
  rw [← h.length] at hi
  obtain ⟨v', e', h'⟩ := h.get (List.getElem?_eq_getElem hi)
  rw [e] at e'; cases e'
  exact ⟨_, List.getElem?_eq_getElem hi, h'⟩
theorem HasL.nil : HasL G O H [] [] := by simp only [HasL]
theorem HasL.cons (h : Has G O H d v) (t : HasL G O H ds vs) : HasL G O H (d :: ds) (v :: vs) := by
  simp only [HasL]
  exact ⟨v, vs, rfl, h, t⟩
theorem HasL.cons_inv (h : HasL G O H (d :: ds) vs) : ∃ v r, vs = v :: r ∧ Has G O H d v ∧ HasL G O H ds r := by
  simpa only [HasL] using h
theorem HasL.nil_inv (h : HasL G O H [] vs) : vs = [] := by
  simpa only [HasL] using h
theorem HasL.append : ∀ {ds es : List D} {vs ws : List V}, HasL G O H ds vs → HasL G O H es ws → HasL G O H (ds ++ es) (vs ++ ws)
  | [], _, _, _, h, t => by rw [h.nil_inv]; exact t
  | d :: ds, _, _, _, h, t => by
    obtain ⟨v, r, rfl, h1, h2⟩ := h.cons_inv
    exact .cons h1 (HasL.append h2 t)
theorem HasL.set : ∀ {ds : List D} {vs : List V} (i : Nat), HasL G O H ds vs → Has G O H d v → HasL G O H (ds.set i d) (vs.set i v)
  | [], _, _, h, t => by rw [h.nil_inv]; simpa using HasL.nil
  | _ :: ds, _, 0, h, t => by
    obtain ⟨v, r, rfl, h1, h2⟩ := h.cons_inv
    exact .cons t h2
  | _ :: ds, _, i + 1, h, t => by
    obtain ⟨v, r, rfl, h1, h2⟩ := h.cons_inv
    exact .cons h1 (HasL.set i h2 t)
theorem HasL.take : ∀ {ds : List D} {vs : List V} (i : Nat), HasL G O H ds vs → HasL G O H (ds.take i) (vs.take i)
  | [], _, _, h => by rw [h.nil_inv]; simpa using HasL.nil
  | _ :: ds, _, 0, h => by simpa using HasL.nil
  | _ :: ds, _, i + 1, h => by
    obtain ⟨v, r, rfl, h1, h2⟩ := h.cons_inv
    exact .cons h1 (HasL.take i h2)
theorem HasL.drop : ∀ {ds : List D} {vs : List V} (i : Nat), HasL G O H ds vs → HasL G O H (ds.drop i) (vs.drop i)
  | [], _, _, h => by rw [h.nil_inv]; simpa using HasL.nil
  | _ :: ds, _, 0, h => by simpa using h
  | _ :: ds, _, i + 1, h => by
    obtain ⟨v, r, rfl, h1, h2⟩ := h.cons_inv
    simpa using HasL.drop i h2
theorem HasL.reverse : ∀ {ds : List D} {vs : List V}, HasL G O H ds vs → HasL G O H ds.reverse vs.reverse
  | [], _, h => by rw [h.nil_inv]; simpa using HasL.nil
  | _ :: ds, _, h => by
    obtain ⟨v, r, rfl, h1, h2⟩ := h.cons_inv
    rw [List.reverse_cons, List.reverse_cons]
    exact (HasL.reverse h2).append (.cons h1 .nil)
/-- fewer are owned -/
theorem Has.sub (h : Has G O H d v) (s : ∀ a, O' a → O a) : Has G O' H d v := h.kp fun a o e n => ⟨e, fun q => n (s a q)⟩
theorem HasL.sub (h : HasL G O H ds vs) (s : ∀ a, O' a → O a) : HasL G O' H ds vs := h.kp fun a o e n => ⟨e, fun q => n (s a q)⟩
@[simp] theorem has_non : Has G O H .non v ↔ v = .non := by simp only [Has]
@[simp] theorem has_bl {b : Bool} : Has G O H (.bl b) v ↔ v = .bl b := by simp only [Has]
@[simp] theorem has_int {i : Int} : Has G O H (.int i) v ↔ v = .int i := by simp only [Has]
@[simp] theorem has_str {x : Str} : Has G O H (.str x) v ↔ v = .str x := by simp only [Has]
theorem has_tup {xs : List D} : Has G O H (.tup xs) v ↔ ∃ a vs, v = .ref a ∧ ShT G O H a vs ∧ HasL G O H xs vs := by simp only [Has]
theorem has_lst {xs : List D} : Has G O H (.lst xs) v ↔ ∃ a vs, v = .ref a ∧ ShL G O H a vs ∧ HasL G O H xs vs := by simp only [Has]
theorem has_obj {c : Str} {ns : List Str} {xs : List D} : Has G O H (.obj c ns xs) v ↔ ∃ a C dx vs, v = .ref a ∧ G.ca c = some C ∧ (H a = some (.ins C dx (ns.zip vs)) ∧ ¬ O a) ∧ ns.length = vs.length ∧ HasL G O H xs vs := by simp only [Has]
theorem ShL.sq {a : Addr} {xs : List V} (h : ShL G O H a xs) : SqL G.K H a xs := by
  rcases h with h | h
  · exact .inl h.1
  · exact .inr h
theorem ShT.sq {a : Addr} {xs : List V} (h : ShT G O H a xs) : SqT G.K H a xs := by
  rcases h with h | h
  · exact .inl h.1
  · exact .inr h
end

/-! ### entries -/
/-- un: not known; val: shared data; own: a list that this frame alone holds and may change; ino: an instance that is being made -/
inductive En where
  | un | val (d : D) | own (xs : List D) | ino (c : Str) (ns : List Str) (xs : List D)
def En.isOwn : En → Bool
  | .own _ => true
  | .ino _ _ _ => true
  | _ => false
def En.d? : En → Option D
  | .val d => some d
  | .own xs => some (.lst xs)
  | .ino c ns xs => some (.obj c ns xs)
  | .un => none
/-- what is owned is shared from now on -/
def En.fz : En → En
  | .own xs => .val (.lst xs)
  | .ino c ns xs => .val (.obj c ns xs)
  | e => e
/-- the cell of an owned entry -/
def OwnC (G : Gm) (O : AP) (H : Hp) : En → HO → Prop
  | .own xs, o => ∃ vs, o = .lst vs ∧ HasL G O H xs vs
  | .ino c ns xs, o => ∃ C dx vs, o = .ins C dx (ns.zip vs) ∧ G.ca c = some C ∧ ns.length = vs.length ∧ HasL G O H xs vs
  | _, _ => False
theorem OwnC.kp {G : Gm} {O O' : AP} {H H' : Hp} (k : Kp O H O' H') : ∀ {e : En} {o : HO}, OwnC G O H e o → OwnC G O' H' e o
  | .own _, _, ⟨vs, e, h⟩ => ⟨vs, e, h.kp k⟩
  | .ino _ _ _, _, ⟨C, dx, vs, e, hc, hl, h⟩ => ⟨C, dx, vs, e, hc, hl, h.kp k⟩
theorem OwnC.sub {G : Gm} {O O' : AP} {H : Hp} {e : En} {o : HO} (h : OwnC G O H e o) (s : ∀ a, O' a → O a) : OwnC G O' H e o := h.kp fun a o e n => ⟨e, fun q => n (s a q)⟩
theorem OwnC.isOwn {G : Gm} {O : AP} {H : Hp} : ∀ {e : En} {o : HO}, OwnC G O H e o → e.isOwn = true
  | .own _, _, _ => rfl
  | .ino _ _ _, _, _ => rfl

abbrev Sl := List (Option V)
/-- the addresses that the entries own -/
def Ow (es : List En) (σ : Sl) : AP := fun a => ∃ (i : Nat) (e : En), es[i]? = some e ∧ e.isOwn = true ∧ σ[i]? = some (some (.ref a))
/-- .. and those that others own -/
def OB (B : AP) (es : List En) (σ : Sl) : AP := fun a => B a ∨ Ow es σ a
/-- the entries stand for the slots; B: what frames around own -/
structure At (G : Gm) (B : AP) (es : List En) (σ : Sl) (H : Hp) : Prop where
  len : es.length = σ.length
  val : ∀ (i : Nat) (d : D), es[i]? = some (.val d) → ∃ v, σ[i]? = some (some v) ∧ Has G (OB B es σ) H d v
  own : ∀ (i : Nat) (e : En), es[i]? = some e → e.isOwn = true → ∃ (a : Addr) (o : HO), σ[i]? = some (some (.ref a)) ∧ H a = some o ∧ OwnC G (OB B es σ) H e o
  inj : ∀ (i j : Nat) (e f : En) (a : Addr), es[i]? = some e → e.isOwn = true → es[j]? = some f → f.isOwn = true → σ[i]? = some (some (.ref a)) → σ[j]? = some (some (.ref a)) → i = j
  out : ∀ a, B a → (∃ o, H a = some o) ∧ ¬ Ow es σ a
theorem Kp.ob {B : AP} {es es' : List En} {σ σ' : Sl} {H H' : Hp} (k : Kp (Ow es σ) H (Ow es' σ') H') : Kp (OB B es σ) H (OB B es' σ') H' := fun a o h n => by
  obtain ⟨h1, h2⟩ := k a o h fun z => n (.inr z)
  exact ⟨h1, fun z => z.elim (fun z => n (.inl z)) h2⟩
theorem OB.sub {B : AP} {es es' : List En} {σ σ' : Sl} (s : ∀ a, Ow es' σ' a → Ow es σ a) : ∀ a, OB B es' σ' a → OB B es σ a := fun a z => z.elim .inl fun z => .inr (s a z)
theorem At.tracked {G : Gm} {B : AP} {es : List En} {σ : Sl} {H : Hp} (A : At G B es σ H) {a : Addr} (h : OB B es σ a) : ∃ o, H a = some o := by
  rcases h with h | ⟨i, e, h1, h2, h3⟩
  · exact (A.out a h).1
  · obtain ⟨b, o, h4, h5, _⟩ := A.own i e h1 h2
    rw [h3] at h4; cases h4
    exact ⟨o, h5⟩
theorem At.fresh {G : Gm} {B : AP} {es : List En} {σ : Sl} {H : Hp} (A : At G B es σ H) {a : Addr} (h : H a = none) : ¬ OB B es σ a := fun q => by
  obtain ⟨o, e⟩ := A.tracked q
  rw [h] at e; cases e
/-- a heap in which all stands that was tracked -/
theorem At.heap {G : Gm} {B : AP} {es : List En} {σ : Sl} {H H' : Hp} (A : At G B es σ H) (k : ∀ a o, H a = some o → H' a = some o) : At G B es σ H' where
  len := A.len
  val := fun i d e => by
    obtain ⟨v, h1, h2⟩ := A.val i d e
    exact ⟨v, h1, h2.kp fun a o q n => ⟨k a o q, n⟩⟩
  own := fun i e h q => by
    obtain ⟨a, o, h1, h2, h3⟩ := A.own i e h q
    exact ⟨a, o, h1, k _ _ h2, h3.kp fun a o q n => ⟨k a o q, n⟩⟩
  inj := A.inj
  out := fun a h => ⟨let ⟨o, e⟩ := (A.out a h).1; ⟨o, k _ _ e⟩, (A.out a h).2⟩
/-- less is owned: each entry stays or is shared or forgotten -/
def Weak1 (e e' : En) : Prop := e' = e ∨ e' = e.fz ∨ e' = .un
theorem fz_isOwn (e : En) : e.fz.isOwn = false := by cases e <;> rfl
theorem At.weak {G : Gm} {B : AP} {es es' : List En} {σ : Sl} {H : Hp} (A : At G B es σ H) (hl : es'.length = es.length) (w : ∀ (i : Nat) (e' : En), es'[i]? = some e' → ∃ e, es[i]? = some e ∧ Weak1 e e') : At G B es' σ H ∧ ∀ a, Ow es' σ a → Ow es σ a := by
  have ow : ∀ (i : Nat) (e' : En), es'[i]? = some e' → e'.isOwn = true → es[i]? = some e' := fun i e' h q => by
    obtain ⟨e, h1, h2 | h2 | h2⟩ := w i e' h
    · rw [h2]; exact h1
    · rw [h2, fz_isOwn] at q; cases q
    · rw [h2] at q; cases q
  have sub : ∀ a, Ow es' σ a → Ow es σ a := fun a ⟨i, e, h1, h2, h3⟩ => ⟨i, e, ow i e h1 h2, h2, h3⟩
  refine ⟨⟨hl.trans A.len, fun i d h => ?_, fun i e h q => ?_, fun i j e f a h1 h2 h3 h4 h5 h6 => A.inj i j e f a (ow _ _ h1 h2) h2 (ow _ _ h3 h4) h4 h5 h6, fun a h => ⟨(A.out a h).1, fun z => (A.out a h).2 (sub a z)⟩⟩, sub⟩
  · obtain ⟨e, h1, h2 | h2 | h2⟩ := w i _ h
    · rw [← h2] at h1
      obtain ⟨v, h3, h4⟩ := A.val i d h1
      exact ⟨v, h3, h4.sub (OB.sub sub)⟩
    · have nb : ∀ {a : Addr}, σ[i]? = some (some (.ref a)) → es[i]? = some e → e.isOwn = true → ¬ OB B es' σ a := fun {a} h3 h1 ho z => by
        rcases z with z | ⟨j, f, q1, q2, q3⟩
        · exact (A.out a z).2 ⟨i, e, h1, ho, h3⟩
        · have := A.inj i j e f a h1 ho (ow _ _ q1 q2) q2 h3 q3
          subst this
          rw [h] at q1; cases q1; cases q2
      cases e with
      | un => cases h2
      | val d' =>
        cases h2
        obtain ⟨v, h3, h4⟩ := A.val i d h1
        exact ⟨v, h3, h4.sub (OB.sub sub)⟩
      | own xs =>
        cases h2
        obtain ⟨a, o, h3, h4, vs, e1, h5⟩ := A.own i _ h1 rfl
        subst e1
        exact ⟨.ref a, h3, has_lst.mpr ⟨a, vs, rfl, .inl ⟨.inl h4, nb h3 h1 rfl⟩, h5.sub (OB.sub sub)⟩⟩
      | ino c ns xs =>
        cases h2
        obtain ⟨a, o, h3, h4, C, dx, vs, e1, hc, hl, h5⟩ := A.own i _ h1 rfl
        subst e1
        exact ⟨.ref a, h3, has_obj.mpr ⟨a, C, dx, vs, rfl, hc, ⟨h4, nb h3 h1 rfl⟩, hl, h5.sub (OB.sub sub)⟩⟩
    · cases h2
  · obtain ⟨a, o, h1, h2, h3⟩ := A.own i e (ow i e h q) q
    exact ⟨a, o, h1, h2, h3.sub (OB.sub sub)⟩
end Dt

set_option Elab.async false
set_option linter.all false
set_option maxRecDepth 100000
set_option maxHeartbeats 1000000
/-! DtB: what a reading asks, in plain data: operands, calls by values. -/
namespace Dt
open PySem PySem.Spec PyProof.Rows L2

/-- an exception of a class of the program, in plain data -/
structure Xn where
  c : Str
  ns : List Str
  xs : List D
abbrev QX := Xn → List En → Prop
abbrev ME := List En → (En → List En → Prop) → QX → Prop
abbrev MT := List En → (Bool → List En → Prop) → QX → Prop
def MonoE (m : ME) : Prop := ∀ (s : List En) (Q Q' : En → List En → Prop) (X X' : QX), (∀ r s', Q r s' → Q' r s') → (∀ x s', X x s' → X' x s') → m s Q X → m s Q' X'
def MonoT (m : MT) : Prop := ∀ (s : List En) (Q Q' : Bool → List En → Prop) (X X' : QX), (∀ r s', Q r s' → Q' r s') → (∀ x s', X x s' → X' x s') → m s Q X → m s Q' X'
/-- the exception x: its class, its own dict -/
def HasX (G : Gm) (O : AP) (H : Hp) (x : Xn) (cls : Value) (dd : Option Addr) : Prop :=
  ∃ C, G.ca x.c = some C ∧ cls = .ref C ∧ x.ns.length = x.xs.length ∧ (x.ns = [] ∨ ∃ d vs, dd = some d ∧ H d = some (.xd (x.ns.zip vs)) ∧ x.ns.length = vs.length ∧ HasL G O H x.xs vs)
def XP (G : Gm) (B : AP) (es : List En) (σ : Sl) (H : Hp) (W : WX) : QX := fun x es' => ∀ cls dd H', At G B es' σ H' → Kp (Ow es σ) H (Ow es' σ) H' → HasX G (OB B es' σ) H' x cls dd → W cls dd σ H'
def rdE (G : Gm) (B : AP) (m : ME) (W : WX) : TE := fun σ H Q => ∃ es, At G B es σ H ∧
  m es (fun r es' => ∀ v H', At G B (r :: es') (some v :: σ) H' → Kp (Ow es σ) H (Ow (r :: es') (some v :: σ)) H' → Q v H') (XP G B es σ H W)
def rdT (G : Gm) (B : AP) (m : MT) (W : WX) : TT := fun σ H Q => ∃ es, At G B es σ H ∧
  m es (fun b es' => ∀ H', At G B es' σ H' → Kp (Ow es σ) H (Ow es' σ) H' → Q b H') (XP G B es σ H W)

/-! ### the owned addresses of longer lists of entries -/
theorem ow_val {d : D} {es : List En} {s : Option V} {σ : Sl} {a : Addr} : Ow (.val d :: es) (s :: σ) a ↔ Ow es σ a := by
  constructor
  · rintro ⟨i, e, h1, h2, h3⟩
    cases i with
    | zero => simp at h1; subst h1; cases h2
    | succ i => exact ⟨i, e, by simpa using h1, h2, by simpa using h3⟩
  · rintro ⟨i, e, h1, h2, h3⟩
    exact ⟨i + 1, e, by simpa using h1, h2, by simpa using h3⟩
theorem ow_cons {e : En} {es : List En} {v : V} {σ : Sl} {a : Addr} : Ow (e :: es) (some v :: σ) a ↔ (e.isOwn = true ∧ v = .ref a) ∨ Ow es σ a := by
  constructor
  · rintro ⟨i, e', h1, h2, h3⟩
    cases i with
    | zero =>
      simp at h1 h3; subst h1; subst h3
      exact .inl ⟨h2, rfl⟩
    | succ i => exact .inr ⟨i, e', by simpa using h1, h2, by simpa using h3⟩
  · rintro (⟨h1, rfl⟩ | ⟨i, e', h1, h2, h3⟩)
    · exact ⟨0, e, by simp, h1, by simp⟩
    · exact ⟨i + 1, e', by simpa using h1, h2, by simpa using h3⟩
theorem Kp.congr {O O1 O' O2 : AP} {H H' : Hp} (k : Kp O H O' H') (h : ∀ a, O1 a ↔ O a) (h' : ∀ a, O2 a ↔ O' a) : Kp O1 H O2 H' := fun a o e n => by
  obtain ⟨q1, q2⟩ := k a o e fun z => n ((h a).mpr z)
  exact ⟨q1, fun z => q2 ((h' a).mp z)⟩
section
variable {G : Gm} {B : AP} {es es' : List En} {σ : Sl} {H H' : Hp} {v : V} {d : D} {e : En}
theorem ob_val {d : D} {es : List En} {s : Option V} {σ : Sl} {a : Addr} : OB B (.val d :: es) (s :: σ) a ↔ OB B es σ a := by
  unfold OB; rw [ow_val]
theorem ob_cons {e : En} {es : List En} {v : V} {σ : Sl} {a : Addr} (h : OB B es σ a) : OB B (e :: es) (some v :: σ) a := h.elim .inl fun z => .inr (ow_cons.mpr (.inr z))
/-- the first entry away -/
theorem At.tail (A : At G B (e :: es) (some v :: σ) H) : At G B es σ H where
  len := by simpa using A.len
  val := fun i d h => by
    obtain ⟨u, h1, h2⟩ := A.val (i + 1) d (by simpa using h)
    exact ⟨u, by simpa using h1, h2.sub fun a q => ob_cons q⟩
  own := fun i e h q => by
    obtain ⟨a, o, h1, h2, h3⟩ := A.own (i + 1) e (by simpa using h) q
    exact ⟨a, o, by simpa using h1, h2, h3.sub fun a q => ob_cons q⟩
  inj := fun i j e f a h1 h2 h3 h4 h5 h6 => by
    have := A.inj (i + 1) (j + 1) e f a (by simpa using h1) h2 (by simpa using h3) h4 (by simpa using h5) (by simpa using h6)
    omega
  out := fun a h => ⟨(A.out a h).1, fun z => (A.out a h).2 (ow_cons.mpr (.inr z))⟩
theorem Kp.tail {O : AP} (k : Kp O H (Ow (e :: es) (some v :: σ)) H') : Kp O H (Ow es σ) H' := fun a o q n => ⟨(k a o q n).1, fun z => (k a o q n).2 (ow_cons.mpr (.inr z))⟩
/-- the first entry's data, shared -/
theorem At.headD (A : At G B (e :: es) (some v :: σ) H) (h : e.d? = some d) : Has G (OB B es σ) H d v := by
  have nb : ∀ {a : Addr} {e : En}, e.isOwn = true → At G B (e :: es) (some (.ref a) :: σ) H → ¬ OB B es σ a := fun {a e} ho A z => by
    rcases z with z | ⟨i, f, q1, q2, q3⟩
    · exact (A.out a z).2 ⟨0, e, rfl, ho, rfl⟩
    · have := A.inj 0 (i + 1) e f a rfl ho (by simpa using q1) q2 rfl (by simpa using q3)
      omega
  cases e with
  | un => cases h
  | val d' =>
    cases h
    obtain ⟨u, h1, h2⟩ := A.val 0 d (by simp)
    simp at h1; subst h1
    exact h2.sub fun a q => ob_val.mpr q
  | own xs =>
    cases h
    obtain ⟨a, o, h1, h2, vs, e1, h3⟩ := A.own 0 _ rfl rfl
    simp at h1; subst h1; subst e1
    exact has_lst.mpr ⟨a, vs, rfl, .inl ⟨.inl h2, nb rfl A⟩, h3.sub fun a q => ob_cons q⟩
  | ino c ns xs =>
    cases h
    obtain ⟨a, o, h1, h2, C, dx, vs, e1, hc, hl, h3⟩ := A.own 0 _ rfl rfl
    simp at h1; subst h1; subst e1
    exact has_obj.mpr ⟨a, C, dx, vs, rfl, hc, ⟨h2, nb rfl A⟩, hl, h3.sub fun a q => ob_cons q⟩
theorem At.consVal (A : At G B es σ H) (h : Has G (OB B es σ) H d v) : At G B (.val d :: es) (some v :: σ) H where
  len := by simp [A.len]
  val := fun i d' q => by
    cases i with
    | zero =>
      simp at q; subst q
      exact ⟨v, by simp, h.sub fun a z => ob_val.mp z⟩
    | succ i =>
      obtain ⟨u, h1, h2⟩ := A.val i d' (by simpa using q)
      exact ⟨u, by simpa using h1, h2.sub fun a z => ob_val.mp z⟩
  own := fun i e q z => by
    cases i with
    | zero => simp at q; subst q; cases z
    | succ i =>
      obtain ⟨a, o, h1, h2, h3⟩ := A.own i e (by simpa using q) z
      exact ⟨a, o, by simpa using h1, h2, h3.sub fun a z => ob_val.mp z⟩
  inj := fun i j e f a h1 h2 h3 h4 h5 h6 => by
    cases i with
    | zero => simp at h1; subst h1; cases h2
    | succ i =>
      cases j with
      | zero => simp at h3; subst h3; cases h4
      | succ j => rw [A.inj i j e f a (by simpa using h1) h2 (by simpa using h3) h4 (by simpa using h5) (by simpa using h6)]
  out := fun a h => ⟨(A.out a h).1, fun z => (A.out a h).2 (ow_val.mp z)⟩
end

/-- the data behind an entry -/
def En.dK (e : En) (k : D → Prop) : Prop := match e with
  | .val d => k d
  | .own xs => k (.lst xs)
  | .ino c ns xs => k (.obj c ns xs)
  | .un => False
theorem En.dK_iff {e : En} {k : D → Prop} : e.dK k ↔ ∃ d, e.d? = some d ∧ k d := by
  cases e <;> simp [En.dK, En.d?]
/-- slot i, looked at -/
def slK (s : List En) (i : Nat) (k : D → Prop) : Prop := match s[i]? with
  | some e => e.dK k
  | none => False
theorem slK_iff {s : List En} {i : Nat} {k : D → Prop} : slK s i k ↔ ∃ e d, s[i]? = some e ∧ e.d? = some d ∧ k d := by
  unfold slK
  cases h : s[i]? with
  | none => simp
  | some e => simp [En.dK_iff]

/-- an operand: a name's slot (looked at when all operands are there), or any expression -/
inductive Opd where
  | sl (i : Nat) | ex (m : ME)
def Opd.Mono : Opd → Prop
  | .sl _ => True
  | .ex m => MonoE m
def evO : List Opd → List En → (List (Option D) → List En → Prop) → QX → Prop
  | [], s, K, _ => K [] s
  | .sl i :: r, s, K, X => slK s i (fun _ => True) ∧ evO r s (fun ds s' => K (none :: ds) s') X
  | .ex m :: r, s, K, X => m s (fun e s1 => e.dK fun d => evO r s1 (fun ds s2 => K (some d :: ds) s2) X) X
/-- all operands' data -/
def datK : List Opd → List (Option D) → List En → (List D → Prop) → Prop
  | [], [], _, k => k []
  | .sl i :: ops, none :: ds, s, k => slK s i fun d => datK ops ds s fun r => k (d :: r)
  | .ex _ :: ops, some d :: ds, s, k => datK ops ds s fun r => k (d :: r)
  | _, _, _, _ => False
theorem evO_mono : ∀ {ops : List Opd}, (∀ o ∈ ops, o.Mono) → ∀ {s : List En} {K K' : List (Option D) → List En → Prop} {X X' : QX}, (∀ r s', K r s' → K' r s') → (∀ x s', X x s' → X' x s') → evO ops s K X → evO ops s K' X'
  | [], _, _, _, _, _, _, hK, _, h => hK _ _ h
  | .sl i :: r, hm, _, _, _, _, _, hK, hX, h => ⟨h.1, evO_mono (fun o q => hm o (List.mem_cons_of_mem _ q)) (fun _ _ q => hK _ _ q) hX h.2⟩
  | .ex m :: r, hm, s, _, _, _, _, hK, hX, h => by
    refine (hm (.ex m) List.mem_cons_self : MonoE m) s _ _ _ _ (fun e s' q => ?_) hX h
    rw [En.dK_iff] at q ⊢
    obtain ⟨d, e1, q⟩ := q
    exact ⟨d, e1, evO_mono (fun o z => hm o (List.mem_cons_of_mem _ z)) (fun _ _ q => hK _ _ q) hX q⟩
/-- what is known of the operands' values -/
def OpsAt (G : Gm) (B : AP) (es : List En) (σ : Sl) (H : Hp) : List Opd → List (Option D) → List V → Prop
  | [], [], vs => vs = []
  | .sl i :: ops, none :: ds, vs => ∃ v r, vs = v :: r ∧ σ[i]? = some (some v) ∧ OpsAt G B es σ H ops ds r
  | .ex _ :: ops, some d :: ds, vs => ∃ v r, vs = v :: r ∧ Has G (OB B es σ) H d v ∧ OpsAt G B es σ H ops ds r
  | _, _, _ => False
/-- the operand's reading -/
def rdO (G : Gm) (B : AP) (W : WX) : Opd → TE
  | .sl i => tVar i
  | .ex m => rdE G B m W
def rdA (G : Gm) (B : AP) (W : WX) : List Opd → TA
  | [] => tNil
  | o :: r => tCons (rdO G B W o) (rdA G B W r)
theorem slot_of {G : Gm} {B : AP} {es : List En} {σ : Sl} {H : Hp} (A : At G B es σ H) {i : Nat} {k : D → Prop} (h : slK es i k) : ∃ e d v, es[i]? = some e ∧ e.d? = some d ∧ σ[i]? = some (some v) ∧ k d := by
  obtain ⟨e, d, h1, h2, h3⟩ := slK_iff.mp h
  cases e with
  | un => cases h2
  | val d' =>
    obtain ⟨v, q, _⟩ := A.val i d' h1
    exact ⟨_, _, v, h1, h2, q, h3⟩
  | own xs =>
    obtain ⟨a, _, q, _⟩ := A.own i _ h1 rfl
    exact ⟨_, _, _, h1, h2, q, h3⟩
  | ino c ns xs =>
    obtain ⟨a, _, q, _⟩ := A.own i _ h1 rfl
    exact ⟨_, _, _, h1, h2, q, h3⟩
/-- THE OPERANDS, from the left -/
theorem rdA_of {G : Gm} {B : AP} {W : WX} {σ : Sl} : ∀ {ops : List Opd}, (∀ o ∈ ops, o.Mono) → ∀ {es : List En} {H : Hp} {K : List (Option D) → List En → Prop} {X : QX} {Q : List V → Hp → Prop}, At G B es σ H → evO ops es K X →
    (∀ ds es' vs H', K ds es' → At G B es' σ H' → Kp (Ow es σ) H (Ow es' σ) H' → OpsAt G B es' σ H' ops ds vs → Q vs H') → (∀ x es', X x es' → XP G B es σ H W x es') → rdA G B W ops σ H Q
  | [], _, es, H, K, X, Q, A, h, hK, _ => hK [] es [] H h A (Kp.refl _ _) rfl
  | .sl i :: r, hm, es, H, K, X, Q, A, h, hK, hX => by
    obtain ⟨e, d, v, h1, h2, h3, _⟩ := slot_of A h.1
    refine ⟨v, h3, ?_⟩
    exact rdA_of (ops := r) (fun o q => hm o (List.mem_cons_of_mem _ q)) A h.2 (fun ds es' vs H' q1 q2 q3 q4 => hK _ _ _ _ q1 q2 q3 ⟨v, vs, rfl, h3, q4⟩) hX
  | .ex m :: r, hm, es, H, K, X, Q, A, h, hK, hX => by
    refine ⟨es, A, (hm (.ex m) List.mem_cons_self : MonoE m) es _ _ _ _ (fun e s' q v H' A' k => ?_) hX h⟩
    rw [En.dK_iff] at q
    obtain ⟨d, e1, q⟩ := q
    have hd := A'.headD e1
    refine rdA_of (ops := r) (fun o q => hm o (List.mem_cons_of_mem _ q)) A'.tail q (fun ds es' vs H2 q1 q2 q3 q4 => ?_) (fun x es' q cls dd H2 q1 q2 q3 => hX x es' q cls dd H2 q1 (k.tail.trans q2) q3)
    exact hK _ _ _ _ q1 q2 (k.tail.trans q3) ⟨v, vs, rfl, hd.kp q3.ob, q4⟩

/-! ### operations by values -/
/-- an operand's data at the operation: a list may be owned itself -/
def HasP (G : Gm) (O : AP) (H : Hp) : D → V → Prop
  | .lst xs, v => ∃ a vs, v = .ref a ∧ SqL G.K H a vs ∧ HasL G O H xs vs
  | .obj c ns xs, v => ∃ a C dx vs, v = .ref a ∧ G.ca c = some C ∧ H a = some (.ins C dx (ns.zip vs)) ∧ ns.length = vs.length ∧ HasL G O H xs vs
  | d, v => Has G O H d v
def HasPL (G : Gm) (O : AP) (H : Hp) : List D → List V → Prop
  | [], vs => vs = []
  | d :: ds, vs => ∃ v r, vs = v :: r ∧ HasP G O H d v ∧ HasPL G O H ds r
theorem Has.p {G : Gm} {O : AP} {H : Hp} : ∀ {d : D} {v : V}, Has G O H d v → HasP G O H d v
  | .lst xs, v, h => by
    obtain ⟨a, vs, e, h1, h2⟩ := has_lst.mp h
    exact ⟨a, vs, e, h1.sq, h2⟩
  | .obj c ns xs, v, h => by
    obtain ⟨a, C, dx, vs, e, hc, h1, hl, h2⟩ := has_obj.mp h
    exact ⟨a, C, dx, vs, e, hc, h1.1, hl, h2⟩
  | .non, _, h => h
  | .bl _, _, h => h
  | .int _, _, h => h
  | .str _, _, h => h
  | .tup _, _, h => h
theorem At.slotP {G : Gm} {B : AP} {es : List En} {σ : Sl} {H : Hp} (A : At G B es σ H) {i : Nat} {e : En} {d : D} (h : es[i]? = some e) (hd : e.d? = some d) : ∃ v, σ[i]? = some (some v) ∧ HasP G (OB B es σ) H d v := by
  cases e with
  | un => cases hd
  | val d' =>
    cases hd
    obtain ⟨v, h1, h2⟩ := A.val i d h
    exact ⟨v, h1, h2.p⟩
  | own xs =>
    cases hd
    obtain ⟨a, o, h1, h2, vs, e1, h3⟩ := A.own i _ h rfl
    subst e1
    exact ⟨_, h1, a, vs, rfl, SqL.of h2, h3⟩
  | ino c ns xs =>
    cases hd
    obtain ⟨a, o, h1, h2, C, dx, vs, e1, hc, hl, h3⟩ := A.own i _ h rfl
    subst e1
    exact ⟨_, h1, a, C, dx, vs, rfl, hc, h2, hl, h3⟩
theorem datK_of {G : Gm} {B : AP} {es : List En} {σ : Sl} {H : Hp} (A : At G B es σ H) : ∀ {ops : List Opd} {ds : List (Option D)} {vs : List V} {k : List D → Prop}, OpsAt G B es σ H ops ds vs → datK ops ds es k → ∃ dd, HasPL G (OB B es σ) H dd vs ∧ k dd
  | [], [], vs, k, h, q => ⟨[], h, q⟩
  | [], _ :: _, _, _, h, _ => h.elim
  | .sl i :: ops, none :: ds, vs, k, ⟨v, r, e, h1, h2⟩, q => by
    obtain ⟨e', d, q1, q2, q3⟩ := slK_iff.mp q
    obtain ⟨dd, q4, q5⟩ := datK_of A h2 q3
    obtain ⟨v', q6, q7⟩ := A.slotP q1 q2
    rw [h1] at q6; cases q6
    exact ⟨d :: dd, ⟨v, r, e, q7, q4⟩, q5⟩
  | .ex _ :: ops, some d :: ds, vs, k, ⟨v, r, e, h1, h2⟩, q => by
    obtain ⟨dd, q4, q5⟩ := datK_of A (k := fun r => k (d :: r)) h2 q
    exact ⟨d :: dd, ⟨v, r, e, h1.p, q4⟩, q5⟩
  | .sl _ :: _, [], _, _, h, _ => h.elim
  | .sl _ :: _, some _ :: _, _, _, h, _ => h.elim
  | .ex _ :: _, [], _, _, h, _ => h.elim
  | .ex _ :: _, none :: _, _, _, h, _ => h.elim
/-- an operation in plain data -/
abbrev Bi := List D → (En → Prop) → Prop
def MonoB (b : Bi) : Prop := ∀ (dd : List D) (K K' : En → Prop), (∀ e, K e → K' e) → b dd K → b dd K'
/-- the result: what was tracked stands; new cells may stand beside -/
def NewR (G : Gm) (O : AP) (H : Hp) (e : En) (v : V) (H' : Hp) : Prop := (∀ a o, H a = some o → H' a = some o) ∧ match e with
  | .val d => Has G O H' d v
  | .own xs => ∃ a vs, v = .ref a ∧ H a = none ∧ H' a = some (.lst vs) ∧ HasL G (fun b => O b ∨ b = a) H' xs vs
  | _ => False
/-- by values: r is what the layer's rule asks -/
def BOk (G : Gm) (r : List V → Hp → VK → Prop) (b : Bi) : Prop := ∀ (O : AP) (dd : List D) (vs : List V) (H : Hp) (K : En → Prop) (Q : VK), (∀ a, O a → ∃ o, H a = some o) → HasPL G O H dd vs → b dd K → (∀ e v H', K e → NewR G O H e v H' → Q v H') → r vs H Q
theorem At.new {G : Gm} {B : AP} {es : List En} {σ : Sl} {H H' : Hp} {e : En} {v : V} (A : At G B es σ H) (h : NewR G (OB B es σ) H e v H') : At G B (e :: es) (some v :: σ) H' ∧ Kp (Ow es σ) H (Ow (e :: es) (some v :: σ)) H' := by
  obtain ⟨k, h⟩ := h
  have A' := A.heap k
  cases e with
  | un => exact h.elim
  | ino _ _ _ => exact h.elim
  | val d => exact ⟨A'.consVal h, fun a o q n => ⟨k a o q, fun z => n (ow_val.mp z)⟩⟩
  | own xs =>
    obtain ⟨a, vs, rfl, hn, ha, hv⟩ := h
    have nw : ∀ b, Ow (.own xs :: es) (some (.ref a) :: σ) b ↔ Ow es σ b ∨ b = a := fun b => by
      rw [ow_cons]
      constructor
      · rintro (⟨_, q⟩ | q)
        · cases q; exact .inr rfl
        · exact .inl q
      · rintro (q | rfl)
        · exact .inr q
        · exact .inl ⟨rfl, rfl⟩
    have kk : Kp (Ow es σ) H (Ow (.own xs :: es) (some (.ref a) :: σ)) H' := fun b o q n => ⟨k b o q, fun z => by
      rcases (nw b).mp z with z | rfl
      · exact n z
      · rw [hn] at q; cases q⟩
    have nwB : ∀ b, OB B (.own xs :: es) (some (.ref a) :: σ) b → OB B es σ b ∨ b = a := fun b z => by
      rcases z with z | z
      · exact .inl (.inl z)
      · exact ((nw b).mp z).elim (fun z => .inl (.inr z)) .inr
    refine ⟨⟨by simp [A.len], fun i d q => ?_, fun i e q z => ?_, fun i j e f b h1 h2 h3 h4 h5 h6 => ?_, fun b z => ⟨(A'.out b z).1, fun q => ?_⟩⟩, kk⟩
    · cases i with
      | zero => simp at q
      | succ i =>
        obtain ⟨u, h1, h2⟩ := A.val i d (by simpa using q)
        exact ⟨u, by simpa using h1, h2.kp kk.ob⟩
    · cases i with
      | zero =>
        simp at q; subst q
        exact ⟨a, .lst vs, by simp, ha, vs, rfl, hv.sub fun b z => nwB b z⟩
      | succ i =>
        obtain ⟨b, o, h1, h2, h3⟩ := A.own i e (by simpa using q) z
        exact ⟨b, o, by simpa using h1, k _ _ h2, h3.kp kk.ob⟩
    · have na : ∀ (i : Nat) (e : En), es[i]? = some e → e.isOwn = true → σ[i]? = some (some (.ref a)) → False := fun i e q1 q2 q3 => by
        obtain ⟨b, o, z1, z2, _⟩ := A.own i e q1 q2
        rw [q3] at z1; cases z1
        rw [hn] at z2; cases z2
      cases i with
      | zero =>
        cases j with
        | zero => rfl
        | succ j =>
          simp at h5 h6 h3; subst h5
          exact (na j f h3 h4 h6).elim
      | succ i =>
        cases j with
        | zero =>
          simp at h5 h6 h1; subst h6
          exact (na i e h1 h2 h5).elim
        | succ j => rw [A.inj i j e f b (by simpa using h1) h2 (by simpa using h3) h4 (by simpa using h5) (by simpa using h6)]
    · rcases (nw b).mp q with q | rfl
      · exact (A.out b z).2 q
      · obtain ⟨o, e⟩ := (A.out b z).1
        rw [hn] at e; cases e
/-- the operands, then the operation -/
def eBi (ops : List Opd) (b : Bi) : ME := fun s Q X => evO ops s (fun ds s' => datK ops ds s' fun dd => b dd fun r => Q r s') X
theorem datK_mono : ∀ {ops : List Opd} {ds : List (Option D)} {s : List En} {k k' : List D → Prop}, (∀ r, k r → k' r) → datK ops ds s k → datK ops ds s k'
  | [], [], _, _, _, h, q => h _ q
  | [], _ :: _, _, _, _, _, q => q.elim
  | .sl i :: ops, none :: ds, s, k, k', h, q => by
    show slK s i _
    obtain ⟨e, d, q1, q2, q3⟩ := slK_iff.mp (show slK s i _ from q)
    exact slK_iff.mpr ⟨e, d, q1, q2, datK_mono (fun r z => h _ z) q3⟩
  | .ex _ :: ops, some d :: ds, s, k, k', h, q => datK_mono (ops := ops) (k := fun r => k (d :: r)) (k' := fun r => k' (d :: r)) (fun r z => h _ z) q
  | .sl _ :: _, [], _, _, _, _, q => q.elim
  | .sl _ :: _, some _ :: _, _, _, _, _, q => q.elim
  | .ex _ :: _, [], _, _, _, _, q => q.elim
  | .ex _ :: _, none :: _, _, _, _, _, q => q.elim
theorem eBi_mono {ops : List Opd} {b : Bi} (h : ∀ o ∈ ops, o.Mono) (hb : MonoB b) : MonoE (eBi ops b) := fun s Q Q' X X' hQ hX q =>
  evO_mono h (fun ds s' z => datK_mono (fun dd z => hb dd _ _ (fun e z => hQ _ _ z) z) z) hX q
theorem eBi_of {G : Gm} {B : AP} {W : WX} {ops : List Opd} {b : Bi} {r : List V → Hp → VK → Prop} (hm : ∀ o ∈ ops, o.Mono) (hb : MonoB b) (ok : BOk G r b) {σ : Sl} {H : Hp} {Q : VK} (h : rdE G B (eBi ops b) W σ H Q) : rdA G B W ops σ H fun vs H' => r vs H' Q := by
  obtain ⟨es, A, h⟩ := h
  refine rdA_of hm A h (fun ds es' vs H' q A' k o => ?_) (fun x es' q => q)
  obtain ⟨dd, h1, h2⟩ := datK_of A' o q
  refine ok (OB B es' σ) dd vs H' _ Q (fun a z => A'.tracked z) h1 h2 fun e v H2 q2 n => ?_
  obtain ⟨a1, k1⟩ := A'.new n
  exact q2 v H2 a1 (k.trans k1)
end Dt

set_option Elab.async false
set_option linter.all false
set_option maxRecDepth 100000
set_option maxHeartbeats 1000000
/-! DtC: the judgements over plain data: expressions, tests; operators by values. -/
namespace Dt
open PySem PySem.Spec PyProof.Rows L2

theorem PE.wk {X : Cx} {e : Expr} {t t' : TE} (h : PE X e t) (k : ∀ σ H Q, t' σ H Q → t σ H Q) : PE X e t' := ⟨fun pins s σ H Q I q => h.run pins s σ H Q I (k σ H Q q)⟩
theorem PT.wk {X : Cx} {e : Expr} {t t' : TT} (h : PT X e t) (k : ∀ σ H Q, t' σ H Q → t σ H Q) : PT X e t' := ⟨fun pins s σ H Q I q => h.run pins s σ H Q I (k σ H Q q)⟩
theorem PW.wk {X : Cx} {e : Expr} {t t' : TT} (h : PW X e t) (k : ∀ σ H Q, t' σ H Q → t σ H Q) : PW X e t' := ⟨fun wh pins s σ H Q I q => h.run wh pins s σ H Q I (k σ H Q q)⟩
theorem PA.wk {X : Cx} {es : List Expr} {t t' : TA} (h : PA X es t) (k : ∀ σ H Q, t' σ H Q → t σ H Q) : PA X es t' := ⟨fun pos pins s σ H Q I q => h.run pos pins s σ H Q I (k σ H Q q)⟩
theorem PS.wk {X : Cx} {st : Stmt} {t t' : TS} (h : PS X st t) (k : ∀ D σ H, t' D σ H → t D σ H) : PS X st t' := ⟨fun pins s σ H D I q => h.run pins s σ H D I (k D σ H q)⟩
theorem PSs.wk {X : Cx} {st : List Stmt} {t t' : TS} (h : PSs X st t) (k : ∀ D σ H, t' D σ H → t D σ H) : PSs X st t' := ⟨fun pins s σ H D I q => h.run pins s σ H D I (k D σ H q)⟩
theorem PI.wk {X : Cx} {tg it : Expr} {t t' : TI} (h : PI X tg it t) (k : ∀ σ H Q, t' σ H Q → t σ H Q) : PI X tg it t' := ⟨fun pins s σ H Q I q => h.run pins s σ H Q I (k σ H Q q)⟩

/-- an expression means m -/
structure DE (G : Gm) (X : Cx) (e : Expr) (m : ME) : Prop where
  mono : MonoE m
  run : ∀ (B : AP) (W : WX), Takes X W → PE X e (rdE G B m W)
structure DT (G : Gm) (X : Cx) (e : Expr) (m : MT) : Prop where
  mono : MonoT m
  run : ∀ (B : AP) (W : WX), Takes X W → PT X e (rdT G B m W)
structure DW (G : Gm) (X : Cx) (e : Expr) (m : MT) : Prop where
  mono : MonoT m
  run : ∀ (B : AP) (W : WX), Takes X W → PW X e (rdT G B m W)
/-- an operand -/
structure DO (G : Gm) (X : Cx) (e : Expr) (o : Opd) : Prop where
  mono : o.Mono
  run : ∀ (B : AP) (W : WX), Takes X W → PE X e (rdO G B W o)
theorem DE.opd {G : Gm} {X : Cx} {e : Expr} {m : ME} (h : DE G X e m) : DO G X e (.ex m) := ⟨h.mono, h.run⟩
structure DOs (G : Gm) (X : Cx) (es : List Expr) (ops : List Opd) : Prop where
  mono : ∀ o ∈ ops, o.Mono
  run : ∀ (B : AP) (W : WX), Takes X W → PA X es (rdA G B W ops)
  st : starEach es X.env = es.map fun e => (false, eval e X.env)
def noStar : Expr → Bool
  | .Starred _ _ => false
  | _ => true
theorem starEach_cons {e : Expr} {es : List Expr} {env : Env} (h : noStar e = true) : starEach (e :: es) env = (false, eval e env) :: starEach es env := by
  cases e <;> first | rfl | cases h
section
variable {G : Gm} {B : AP} {X : Cx} {e a b : Expr} {es : List Expr} {o oa ob : Opd} {ops : List Opd} {pos : Pos} {m ma mb : ME}
theorem DOs.nil : DOs G X [] [] := ⟨fun _ h => (nomatch h), fun _ _ _ => pa_nil, rfl⟩
theorem DOs.cons (h : DO G X e o) (t : DOs G X es ops) (n : noStar e = true) : DOs G X (e :: es) (o :: ops) :=
  ⟨fun o' q => by rcases List.mem_cons.mp q with rfl | q; exact h.mono; exact t.mono _ q, fun B W k => pa_cons (h.run B W k) (t.run B W k) (starEach_cons n), by rw [starEach_cons n, t.st]; rfl⟩
theorem DOs.nostar (h : DOs G X es ops) (pos : Pos) : (backTo pos (starEach es X.env)).any (·.1) = false := by
  rw [h.st]
  clear h
  induction es with
  | nil => rfl
  | cons e r ih =>
    cases r with
    | nil => rfl
    | cons e' r' =>
      have := ih
      simp only [List.map_cons] at this ⊢
      first
        | simpa [backTo] using this
        | (unfold backTo; simpa using this)

/-! ### names, constants -/
def eC (d : D) : ME := fun s Q _ => Q (.val d) s
def D.cv : D → Option V
  | .non => some .non
  | .bl b => some (.bl b)
  | .int i => some (.int i)
  | .str x => some (.str x)
  | _ => none
theorem has_cv {O : AP} {H : Hp} : ∀ {d : D} {v : V}, d.cv = some v → Has G O H d v
  | .non, _, h => by cases h; simp
  | .bl _, _, h => by cases h; simp
  | .int _, _, h => by cases h; simp
  | .str _, _, h => by cases h; simp
theorem rdE_const {d : D} {v : V} {W : WX} (hd : d.cv = some v) {σ : Sl} {H : Hp} {Q : VK} (h : rdE G B (eC d) W σ H Q) : tC v σ H Q := by
  obtain ⟨es, A, h⟩ := h
  exact h v H (A.consVal (has_cv hd)) fun a o q n => ⟨q, fun z => n (ow_val.mp z)⟩
theorem mono_eC {d : D} : MonoE (eC d) := fun _ _ _ _ _ h _ q => h _ _ q
theorem de_const {d : D} {v : V} (hd : d.cv = some v) (h : PE X e (tC v)) : DE G X e (eC d) := ⟨mono_eC, fun _ _ _ => PE.wk h fun _ _ _ q => rdE_const hd q⟩
/-- a name's slot as a value of its own: what is owned is shared from now on -/
def eVar (i : Nat) : ME := fun s Q _ => match s[i]? with
  | some (.val d) => Q (.val d) s
  | some (.own xs) => Q (.val (.lst xs)) (s.set i (.val (.lst xs)))
  | some (.ino c ns xs) => Q (.val (.obj c ns xs)) (s.set i (.val (.obj c ns xs)))
  | _ => False
theorem At.freeze {es : List En} {σ : Sl} {H : Hp} (A : At G B es σ H) {i : Nat} {e : En} {d : D} (h : es[i]? = some e) (hd : e.d? = some d) : At G B (es.set i (.val d)) σ H ∧ (∀ a, Ow (es.set i (.val d)) σ a → Ow es σ a) ∧ ∃ v, σ[i]? = some (some v) ∧ Has G (OB B (es.set i (.val d)) σ) H d v := by
  have hi : i < es.length := (List.getElem?_eq_some_iff.mp h).1
  have hf : (.val d : En) = e.fz := by cases e <;> simp [En.d?] at hd <;> subst hd <;> rfl
  obtain ⟨A', s⟩ := A.weak (es' := es.set i (.val d)) (by simp) fun j e' q => by
    by_cases hj : i = j
    · subst hj
      rw [List.getElem?_set_self hi] at q
      cases q
      exact ⟨e, h, .inr (.inl hf)⟩
    · rw [List.getElem?_set_ne hj] at q
      exact ⟨e', q, .inl rfl⟩
  exact ⟨A', s, A'.val i d (List.getElem?_set_self hi)⟩
theorem rdE_var {i : Nat} {W : WX} {σ : Sl} {H : Hp} {Q : VK} (h : rdE G B (eVar i) W σ H Q) : tVar i σ H Q := by
  obtain ⟨es, A, h⟩ := h
  unfold eVar at h
  have fin : ∀ {e : En} {d : D}, es[i]? = some e → e.d? = some d → (∀ v H', At G B (.val d :: es.set i (.val d)) (some v :: σ) H' → Kp (Ow es σ) H (Ow (.val d :: es.set i (.val d)) (some v :: σ)) H' → Q v H') → tVar i σ H Q := fun h1 h2 q => by
    obtain ⟨A', s, v, h3, h4⟩ := A.freeze h1 h2
    exact ⟨v, h3, q v H (A'.consVal h4) fun a o q n => ⟨q, fun z => n (s a (ow_val.mp z))⟩⟩
  split at h
  · rename_i d e
    refine fin e rfl ?_
    have : es.set i (.val d) = es := by
      obtain ⟨hi, e'⟩ := List.getElem?_eq_some_iff.mp e
      rw [← e']; simp
    rw [this]
    exact h
  · rename_i xs e; exact fin e rfl h
  · rename_i c ns xs e; exact fin e rfl h
  · exact h.elim
theorem mono_eVar {i : Nat} : MonoE (eVar i) := fun s Q Q' X X' hQ _ h => by
  unfold eVar at h ⊢
  split at h
  · exact hQ _ _ h
  · exact hQ _ _ h
  · exact hQ _ _ h
  · exact h.elim
theorem de_var {i : Nat} (h : PE X e (tVar i)) : DE G X e (eVar i) := ⟨mono_eVar, fun _ _ _ => PE.wk h fun _ _ _ q => rdE_var q⟩
theorem do_slot {i : Nat} (h : PE X e (tVar i)) : DO G X e (.sl i) := ⟨trivial, fun _ _ _ => h⟩

/-! ### operators and built-in calls by values -/
def r2L (r : R2) : List V → Hp → VK → Prop := fun vs H Q => ∃ x y, vs = [x, y] ∧ r x y H Q
theorem de_op2 {f : Value → Value → Sem Value} {r : R2} {bi : Bi} (ok : BOk G (r2L r) bi) (hb : MonoB bi) (ha : DO G X a oa) (hb' : DO G X b ob) (k : ∀ ta tb, PE X a ta → PE X b tb → PE X e (tOp r ta tb)) : DE G X e (eBi [oa, ob] bi) := by
  have hm : ∀ o ∈ [oa, ob], o.Mono := fun o q => by
    rcases List.mem_cons.mp q with rfl | q
    · exact ha.mono
    · rcases List.mem_cons.mp q with rfl | q
      · exact hb'.mono
      · cases q
  refine ⟨eBi_mono hm hb, fun B W tk => PE.wk (k _ _ (ha.run B W tk) (hb'.run B W tk)) fun σ H Q q => ?_⟩
  have := eBi_of hm hb ok q
  show rdO G B W oa σ H fun x H1 => rdO G B W ob σ H1 fun y H2 => r x y H2 Q
  have key : ∀ (o : Opd), o.Mono → ∀ σ H (Q Q' : VK), (∀ v H, Q v H → Q' v H) → rdO G B W o σ H Q → rdO G B W o σ H Q' := fun o hm σ H Q Q' hq z => by
    cases o with
    | sl i =>
      obtain ⟨v, h1, h2⟩ := z
      exact ⟨v, h1, hq _ _ h2⟩
    | ex m =>
      obtain ⟨es, A, z⟩ := z
      exact ⟨es, A, (hm : MonoE m) _ _ _ _ _ (fun r s' q v H' a k => hq _ _ (q v H' a k)) (fun _ _ q => q) z⟩
  refine key oa ha.mono _ _ _ _ (fun x H1 z => ?_) this
  refine key ob hb'.mono _ _ _ _ (fun y H2 z => ?_) z
  obtain ⟨x', y', e1, z⟩ := z
  cases e1
  exact z
theorem de_opN {r : List V → Hp → VK → Prop} {bi : Bi} (ok : BOk G r bi) (hb : MonoB bi) (ha : DOs G X es ops) (k : ∀ t, PA X es t → PE X e (tCB r t)) : DE G X e (eBi ops bi) :=
  ⟨eBi_mono ha.mono hb, fun B W tk => PE.wk (k _ (ha.run B W tk)) fun σ H Q q => eBi_of ha.mono hb ok q⟩
theorem de_op1 {r : V → Hp → VK → Prop} {bi : Bi} (ok : BOk G (fun vs H Q => ∃ x, vs = [x] ∧ r x H Q) bi) (hb : MonoB bi) (ha : DO G X a oa) (k : ∀ ta, PE X a ta → PE X e (tUn r ta)) : DE G X e (eBi [oa] bi) := by
  have hm : ∀ o ∈ [oa], o.Mono := fun o q => by
    rcases List.mem_cons.mp q with rfl | q
    · exact ha.mono
    · cases q
  refine ⟨eBi_mono hm hb, fun B W tk => PE.wk (k _ (ha.run B W tk)) fun σ H Q q => ?_⟩
  have := eBi_of hm hb ok q
  show rdO G B W oa σ H fun x H1 => r x H1 Q
  have key : ∀ (o : Opd), o.Mono → ∀ σ H (Q Q' : VK), (∀ v H, Q v H → Q' v H) → rdO G B W o σ H Q → rdO G B W o σ H Q' := fun o hm σ H Q Q' hq z => by
    cases o with
    | sl i =>
      obtain ⟨v, h1, h2⟩ := z
      exact ⟨v, h1, hq _ _ h2⟩
    | ex m =>
      obtain ⟨es, A, z⟩ := z
      exact ⟨es, A, (hm : MonoE m) _ _ _ _ _ (fun r s' q v H' a k => hq _ _ (q v H' a k)) (fun _ _ q => q) z⟩
  refine key oa ha.mono _ _ _ _ (fun x H1 z => ?_) this
  obtain ⟨x', e1, z⟩ := z
  cases e1
  exact z
end
section
variable {G : Gm} {O : AP} {H : Hp}
theorem HasPL.one {d : D} {vs : List V} (h : HasPL G O H [d] vs) : ∃ v, vs = [v] ∧ HasP G O H d v := by
  obtain ⟨v, r, e, h1, h2⟩ := h
  exact ⟨v, by rw [e, show r = [] from h2], h1⟩
theorem HasPL.two {d e : D} {vs : List V} (h : HasPL G O H [d, e] vs) : ∃ v u, vs = [v, u] ∧ HasP G O H d v ∧ HasP G O H e u := by
  obtain ⟨v, r, e, h1, h2⟩ := h
  obtain ⟨u, e2, h3⟩ := HasPL.one h2
  exact ⟨v, u, by rw [e, e2], h1, h3⟩
theorem newR_val {d : D} {v : V} (h : Has G O H d v) : NewR G O H (.val d) v H := ⟨fun _ _ q => q, h⟩
/-- ints in, a value out -/
theorem bok_II {r : R2} {bi : Bi} (h : ∀ (dd : List D) (K : En → Prop), bi dd K → ∃ i j, dd = [.int i, .int j] ∧ ∀ H (Q : VK), (∀ e v, K e → (∃ d, e = .val d ∧ d.cv = some v) → Q v H) → r (.int i) (.int j) H Q) : BOk G (r2L r) bi := by
  intro O dd vs H K Q hO hp hb hq
  obtain ⟨i, j, rfl, z⟩ := h dd K hb
  obtain ⟨v, u, rfl, h1, h2⟩ := hp.two
  have e1 : v = .int i := by simpa [HasP] using h1
  have e2 : u = .int j := by simpa [HasP] using h2
  subst e1; subst e2
  refine ⟨_, _, rfl, z H Q fun e v q1 ⟨d, q2, q3⟩ => ?_⟩
  subst q2
  exact hq _ v H q1 (newR_val (has_cv q3))
/-! #### arithmetic -/
def bAdd : Bi := fun dd K => match dd with
  | [.int i, .int j] => K (.val (.int (i + j)))
  | _ => False
def bSub : Bi := fun dd K => match dd with
  | [.int i, .int j] => K (.val (.int (i - j)))
  | _ => False
def bMul : Bi := fun dd K => match dd with
  | [.int i, .int j] => (CMul i j ∨ CMulW i j) ∧ K (.val (.int (i * j)))
  | _ => False
def bDiv : Bi := fun dd K => match dd with
  | [.int i, .int j] => 0 < j ∧ j.natAbs.log2 < 9000 ∧ K (.val (.int (i / j)))
  | _ => False
/-- a divisor of any sign, below 2 ^ 30 -/
def bDivN : Bi := fun dd K => match dd with
  | [.int i, .int j] => (j ≠ 0 ∧ j.natAbs < 1073741824) ∧ K (.val (.int (i.fdiv j)))
  | _ => False
def bMod : Bi := fun dd K => match dd with
  | [.int i, .int j] => 0 < j ∧ K (.val (.int (i % j)))
  | _ => False
def bPow : Bi := fun dd K => match dd with
  | [.int i, .int j] => CPow i j ∧ K (.val (.int (i ^ j.toNat)))
  | _ => False
end
section
variable {G : Gm} {X : Cx} {a b : Expr} {oa ob : Opd} {pos : Pos}
theorem bi_inv {bi : Bi} {P : Int → Int → (En → Prop) → Prop} (hbi : bi = fun dd K => match dd with
  | [.int i, .int j] => P i j K
  | _ => False) {dd : List D} {K : En → Prop} (h : bi dd K) : ∃ i j, dd = [.int i, .int j] ∧ P i j K := by
  subst hbi
  split at h
  · exact ⟨_, _, rfl, h⟩
  · exact h.elim
theorem mono_bi2 {bi : Bi} {P : Int → Int → (En → Prop) → Prop} (hbi : bi = fun dd K => match dd with
  | [.int i, .int j] => P i j K
  | _ => False) (hP : ∀ i j (K K' : En → Prop), (∀ e, K e → K' e) → P i j K → P i j K') : MonoB bi := fun dd K K' hk h => by
  subst hbi
  split at h
  · exact hP _ _ _ _ hk h
  · exact h.elim
theorem mono_bAdd : MonoB bAdd := mono_bi2 (P := fun i j K => K (.val (.int (i + j)))) rfl fun _ _ _ _ k h => k _ h
theorem mono_bSub : MonoB bSub := mono_bi2 (P := fun i j K => K (.val (.int (i - j)))) rfl fun _ _ _ _ k h => k _ h
theorem mono_bMul : MonoB bMul := mono_bi2 (P := fun i j K => (CMul i j ∨ CMulW i j) ∧ K (.val (.int (i * j)))) rfl fun _ _ _ _ k h => ⟨h.1, k _ h.2⟩
theorem mono_bDiv : MonoB bDiv := mono_bi2 (P := fun i j K => 0 < j ∧ j.natAbs.log2 < 9000 ∧ K (.val (.int (i / j)))) rfl fun _ _ _ _ k h => ⟨h.1, h.2.1, k _ h.2.2⟩
theorem mono_bDivN : MonoB bDivN := mono_bi2 (P := fun i j K => (j ≠ 0 ∧ j.natAbs < 1073741824) ∧ K (.val (.int (i.fdiv j)))) rfl fun _ _ _ _ k h => ⟨h.1, k _ h.2⟩
theorem mono_bMod : MonoB bMod := mono_bi2 (P := fun i j K => 0 < j ∧ K (.val (.int (i % j)))) rfl fun _ _ _ _ k h => ⟨h.1, k _ h.2⟩
theorem mono_bPow : MonoB bPow := mono_bi2 (P := fun i j K => CPow i j ∧ K (.val (.int (i ^ j.toNat)))) rfl fun _ _ _ _ k h => ⟨h.1, k _ h.2⟩
theorem bok_add : BOk G (r2L (rI0 fun i j => .int (i + j))) bAdd := bok_II fun dd K h => by
  obtain ⟨i, j, e, q⟩ := bi_inv (bi := bAdd) (P := fun i j K => K (.val (.int (i + j)))) rfl h
  exact ⟨i, j, e, fun H Q z => ⟨i, j, rfl, rfl, z _ _ q ⟨_, rfl, rfl⟩⟩⟩
theorem bok_sub : BOk G (r2L (rI0 fun i j => .int (i - j))) bSub := bok_II fun dd K h => by
  obtain ⟨i, j, e, q⟩ := bi_inv (bi := bSub) (P := fun i j K => K (.val (.int (i - j)))) rfl h
  exact ⟨i, j, e, fun H Q z => ⟨i, j, rfl, rfl, z _ _ q ⟨_, rfl, rfl⟩⟩⟩
def rMulA : R2 := fun x y H Q => rI CMul (fun i j => .int (i * j)) x y H Q ∨ rI CMulW (fun i j => .int (i * j)) x y H Q
theorem op_mulA : OpR X (binaryOp .Mult) rMulA := op_mul.or op_mulW
theorem bok_mul : BOk G (r2L rMulA) bMul := bok_II fun dd K h => by
  obtain ⟨i, j, e, q⟩ := bi_inv (bi := bMul) (P := fun i j K => (CMul i j ∨ CMulW i j) ∧ K (.val (.int (i * j)))) rfl h
  exact ⟨i, j, e, fun H Q z => q.1.elim (fun c => .inl ⟨i, j, rfl, rfl, c, z _ _ q.2 ⟨_, rfl, rfl⟩⟩) fun c => .inr ⟨i, j, rfl, rfl, c, z _ _ q.2 ⟨_, rfl, rfl⟩⟩⟩
theorem bok_div : BOk G (r2L (rI CDivW fun i j => .int (i / j))) bDiv := bok_II fun dd K h => by
  obtain ⟨i, j, e, q⟩ := bi_inv (bi := bDiv) (P := fun i j K => 0 < j ∧ j.natAbs.log2 < 9000 ∧ K (.val (.int (i / j)))) rfl h
  exact ⟨i, j, e, fun H Q z => ⟨i, j, rfl, rfl, ⟨q.1, q.2.1⟩, z _ _ q.2.2 ⟨_, rfl, rfl⟩⟩⟩
theorem bok_divN : BOk G (r2L (rI CDivN fun i j => .int (i.fdiv j))) bDivN := bok_II fun dd K h => by
  obtain ⟨i, j, e, q⟩ := bi_inv (bi := bDivN) (P := fun i j K => (j ≠ 0 ∧ j.natAbs < 1073741824) ∧ K (.val (.int (i.fdiv j)))) rfl h
  exact ⟨i, j, e, fun H Q z => ⟨i, j, rfl, rfl, q.1, z _ _ q.2 ⟨_, rfl, rfl⟩⟩⟩
theorem bok_mod : BOk G (r2L (rI (fun _ j => 0 < j) fun i j => .int (i % j))) bMod := bok_II fun dd K h => by
  obtain ⟨i, j, e, q⟩ := bi_inv (bi := bMod) (P := fun i j K => 0 < j ∧ K (.val (.int (i % j)))) rfl h
  exact ⟨i, j, e, fun H Q z => ⟨i, j, rfl, rfl, q.1, z _ _ q.2 ⟨_, rfl, rfl⟩⟩⟩
theorem bok_pow : BOk G (r2L (rI CPow fun i j => .int (i ^ j.toNat))) bPow := bok_II fun dd K h => by
  obtain ⟨i, j, e, q⟩ := bi_inv (bi := bPow) (P := fun i j K => CPow i j ∧ K (.val (.int (i ^ j.toNat)))) rfl h
  exact ⟨i, j, e, fun H Q z => ⟨i, j, rfl, rfl, q.1, z _ _ q.2 ⟨_, rfl, rfl⟩⟩⟩
end
end Dt

set_option Elab.async false
set_option linter.all false
set_option maxRecDepth 100000
set_option maxHeartbeats 1000000
/-! DtD: comparisons, truth, tests, displays, subscripts. -/
namespace Dt
open PySem PySem.Spec PyProof.Rows L2

/-! ### data as the model's == takes it -/
mutual
def D.py : D → PyData
  | .non => .none
  | .bl b => .bool b
  | .int i => .int i
  | .str x => .str x
  | .tup xs => .tuple (pyL xs)
  | .lst xs => .list (pyL xs)
  | .obj _ _ _ => .dict []
def pyL : List D → List PyData
  | [] => []
  | d :: ds => d.py :: pyL ds
end
def D.shp (d : D) : Bool := SeqAt.shaped d.py
def D.eqv (d e : D) : Bool := PyData.eqv d.py e.py
section
variable {G : Gm} {O : AP} {H : Hp}
mutual
theorem has_dp : ∀ {d : D} {v : V}, PyData.canLay0 d.py = true → Has G O H d v → Dp G.K H v d.py
  | .non, _, _, h => by rw [has_non] at h; subst h; exact .non
  | .bl b, _, _, h => by rw [has_bl] at h; subst h; exact .bl b
  | .int i, _, _, h => by rw [has_int] at h; subst h; exact .int i
  | .str x, _, _, h => by rw [has_str] at h; subst h; exact .str x
  | .tup xs, _, c, h => by
    obtain ⟨a, vs, rfl, h1, h2⟩ := has_tup.mp h
    simp only [D.py] at c ⊢
    exact .tup h1.sq (hasL_dp (by simpa [PyData.canLay0] using c) h2)
  | .lst xs, _, c, h => by
    obtain ⟨a, vs, rfl, h1, h2⟩ := has_lst.mp h
    simp only [D.py] at c ⊢
    exact .lst h1.sq (hasL_dp (by simpa [PyData.canLay0] using c) h2)
  | .obj _ _ _, _, c, _ => by simp [D.py, PyData.canLay0] at c
theorem hasL_dp : ∀ {ds : List D} {vs : List V}, PyData.canLayAll0 (pyL ds) = true → HasL G O H ds vs → DpAll G.K H vs (pyL ds)
  | [], _, _, h => by rw [h.nil_inv]; exact .nil
  | d :: ds, _, c, h => by
    obtain ⟨v, r, rfl, h1, h2⟩ := h.cons_inv
    simp only [pyL, PyData.canLayAll0, Bool.and_eq_true] at c ⊢
    exact .cons (has_dp c.1 h1) (hasL_dp c.2 h2)
end
theorem hasP_dp : ∀ {d : D} {v : V}, PyData.canLay0 d.py = true → HasP G O H d v → Dp G.K H v d.py
  | .lst xs, _, c, h => by
    obtain ⟨a, vs, rfl, h1, h2⟩ := h
    simp only [D.py] at c ⊢
    exact .lst h1 (hasL_dp (by simpa [PyData.canLay0] using c) h2)
  | .obj _ _ _, _, c, _ => by simp [D.py, PyData.canLay0] at c
  | .non, _, c, h => has_dp (O := O) c h
  | .bl _, _, c, h => has_dp (O := O) c h
  | .int _, _, c, h => has_dp (O := O) c h
  | .str _, _, c, h => has_dp (O := O) c h
  | .tup _, _, c, h => has_dp (O := O) c h
end
def bEq : Bi := fun dd K => match dd with
  | [d, e] => d.shp = true ∧ e.shp = true ∧ K (.val (.bl (d.eqv e)))
  | _ => False
def bNe : Bi := fun dd K => match dd with
  | [d, e] => d.shp = true ∧ e.shp = true ∧ K (.val (.bl (!d.eqv e)))
  | _ => False
def bLt : Bi := fun dd K => match dd with
  | [.int i, .int j] => K (.val (.bl (decide (i < j))))
  | _ => False
def bLe : Bi := fun dd K => match dd with
  | [.int i, .int j] => K (.val (.bl (decide (i ≤ j))))
  | _ => False
def bGt : Bi := fun dd K => match dd with
  | [.int i, .int j] => K (.val (.bl (decide (j < i))))
  | _ => False
def bGe : Bi := fun dd K => match dd with
  | [.int i, .int j] => K (.val (.bl (decide (j ≤ i))))
  | _ => False
def D.isNon : D → Bool
  | .non => true
  | _ => false
/-- is None; is True, is False -/
def bIs : Bi := fun dd K => match dd with
  | [d, .non] => K (.val (.bl d.isNon))
  | [.bl a, .bl b] => K (.val (.bl (decide (a = b))))
  | _ => False
def bIsN : Bi := fun dd K => match dd with
  | [d, .non] => K (.val (.bl (!d.isNon)))
  | [.bl a, .bl b] => K (.val (.bl (!decide (a = b))))
  | _ => False
section
variable {G : Gm} {X : Cx}
theorem shp_lay {d : D} (h : d.shp = true) : PyData.canLay0 d.py = true := SeqAt.canLay_of_shaped h
theorem bok_eq : BOk G (r2L (rEqD G.K)) bEq := by
  intro O dd vs H K Q hO hp hb hq
  unfold bEq at hb
  split at hb
  · rename_i d e
    obtain ⟨v, u, rfl, h1, h2⟩ := hp.two
    exact ⟨v, u, rfl, d.py, e.py, hasP_dp (shp_lay hb.1) h1, hasP_dp (shp_lay hb.2.1) h2, hb.1, hb.2.1, hq _ _ H hb.2.2 (newR_val (by simp; rfl))⟩
  · exact hb.elim
theorem bok_ne : BOk G (r2L (rNeD G.K)) bNe := by
  intro O dd vs H K Q hO hp hb hq
  unfold bNe at hb
  split at hb
  · rename_i d e
    obtain ⟨v, u, rfl, h1, h2⟩ := hp.two
    exact ⟨v, u, rfl, d.py, e.py, hasP_dp (shp_lay hb.1) h1, hasP_dp (shp_lay hb.2.1) h2, hb.1, hb.2.1, hq _ _ H hb.2.2 (newR_val (by simp; rfl))⟩
  · exact hb.elim
theorem mono_bEq : MonoB bEq := fun dd K K' k h => by
  unfold bEq at h ⊢
  split at h
  · exact ⟨h.1, h.2.1, k _ h.2.2⟩
  · exact h.elim
theorem mono_bNe : MonoB bNe := fun dd K K' k h => by
  unfold bNe at h ⊢
  split at h
  · exact ⟨h.1, h.2.1, k _ h.2.2⟩
  · exact h.elim
theorem mono_bLt : MonoB bLt := mono_bi2 (P := fun i j K => K (.val (.bl (decide (i < j))))) rfl fun _ _ _ _ k h => k _ h
theorem mono_bLe : MonoB bLe := mono_bi2 (P := fun i j K => K (.val (.bl (decide (i ≤ j))))) rfl fun _ _ _ _ k h => k _ h
theorem mono_bGt : MonoB bGt := mono_bi2 (P := fun i j K => K (.val (.bl (decide (j < i))))) rfl fun _ _ _ _ k h => k _ h
theorem mono_bGe : MonoB bGe := mono_bi2 (P := fun i j K => K (.val (.bl (decide (j ≤ i))))) rfl fun _ _ _ _ k h => k _ h
theorem bok_lt : BOk G (r2L (rI0 fun i j => .bl (decide (i < j)))) bLt := bok_II fun dd K h => by
  obtain ⟨i, j, e, q⟩ := bi_inv (bi := bLt) (P := fun i j K => K (.val (.bl (decide (i < j))))) rfl h
  exact ⟨i, j, e, fun H Q z => ⟨i, j, rfl, rfl, z _ _ q ⟨_, rfl, rfl⟩⟩⟩
theorem bok_le : BOk G (r2L (rI0 fun i j => .bl (decide (i ≤ j)))) bLe := bok_II fun dd K h => by
  obtain ⟨i, j, e, q⟩ := bi_inv (bi := bLe) (P := fun i j K => K (.val (.bl (decide (i ≤ j))))) rfl h
  exact ⟨i, j, e, fun H Q z => ⟨i, j, rfl, rfl, z _ _ q ⟨_, rfl, rfl⟩⟩⟩
theorem bok_gt : BOk G (r2L (rI0 fun i j => .bl (decide (j < i)))) bGt := bok_II fun dd K h => by
  obtain ⟨i, j, e, q⟩ := bi_inv (bi := bGt) (P := fun i j K => K (.val (.bl (decide (j < i))))) rfl h
  exact ⟨i, j, e, fun H Q z => ⟨i, j, rfl, rfl, z _ _ q ⟨_, rfl, rfl⟩⟩⟩
theorem bok_ge : BOk G (r2L (rI0 fun i j => .bl (decide (j ≤ i)))) bGe := bok_II fun dd K h => by
  obtain ⟨i, j, e, q⟩ := bi_inv (bi := bGe) (P := fun i j K => K (.val (.bl (decide (j ≤ i))))) rfl h
  exact ⟨i, j, e, fun H Q z => ⟨i, j, rfl, rfl, z _ _ q ⟨_, rfl, rfl⟩⟩⟩
theorem hasP_non {O : AP} {H : Hp} {d : D} {v : V} (h : HasP G O H d v) : decide (v = .non) = d.isNon := by
  cases d with
  | non => rw [show v = .non by simpa [HasP] using h]; rfl
  | bl b => rw [show v = .bl b by simpa [HasP] using h]; rfl
  | int b => rw [show v = .int b by simpa [HasP] using h]; rfl
  | str b => rw [show v = .str b by simpa [HasP] using h]; rfl
  | tup xs => obtain ⟨a, vs, rfl, _⟩ := has_tup.mp (show Has G O H (.tup xs) v from h); rfl
  | lst xs => obtain ⟨a, vs, rfl, _⟩ := h; rfl
  | obj c ns xs => obtain ⟨a, C, dx, vs, rfl, _⟩ := h; rfl
def rIsAny : R2 := fun x y H Q => (y = .non ∧ Q (.bl (decide (x = .non))) H) ∨ rIsB x y H Q
def rNotAny : R2 := fun x y H Q => (y = .non ∧ Q (.bl (!decide (x = .non))) H) ∨ rNotB x y H Q
theorem op_isAny : OpR X (compareOp .Is) rIsAny := op_isN.or op_isBl
theorem op_notAny : OpR X (compareOp .IsNot) rNotAny := op_notN.or op_notBl
theorem bok_is : BOk G (r2L rIsAny) bIs := by
  intro O dd vs H K Q hO hp hb hq
  unfold bIs at hb
  split at hb
  · rename_i d
    obtain ⟨v, u, rfl, h1, h2⟩ := hp.two
    obtain rfl : u = .non := by simpa [HasP] using h2
    refine ⟨v, .non, rfl, .inl ⟨rfl, ?_⟩⟩
    rw [hasP_non h1]
    exact hq _ _ H hb (newR_val (by simp))
  · rename_i a b
    obtain ⟨v, u, rfl, h1, h2⟩ := hp.two
    obtain rfl : v = .bl a := by simpa [HasP] using h1
    obtain rfl : u = .bl b := by simpa [HasP] using h2
    exact ⟨_, _, rfl, .inr ⟨a, b, rfl, rfl, hq _ _ H hb (newR_val (by simp))⟩⟩
  · exact hb.elim
theorem bok_isN : BOk G (r2L rNotAny) bIsN := by
  intro O dd vs H K Q hO hp hb hq
  unfold bIsN at hb
  split at hb
  · rename_i d
    obtain ⟨v, u, rfl, h1, h2⟩ := hp.two
    obtain rfl : u = .non := by simpa [HasP] using h2
    refine ⟨v, .non, rfl, .inl ⟨rfl, ?_⟩⟩
    rw [hasP_non h1]
    exact hq _ _ H hb (newR_val (by simp))
  · rename_i a b
    obtain ⟨v, u, rfl, h1, h2⟩ := hp.two
    obtain rfl : v = .bl a := by simpa [HasP] using h1
    obtain rfl : u = .bl b := by simpa [HasP] using h2
    exact ⟨_, _, rfl, .inr ⟨a, b, rfl, rfl, hq _ _ H hb (newR_val (by simp))⟩⟩
  · exact hb.elim
theorem mono_bIs : MonoB bIs := fun dd K K' k h => by
  unfold bIs at h ⊢
  split at h
  · exact k _ h
  · exact k _ h
  · exact h.elim
theorem mono_bIsN : MonoB bIsN := fun dd K K' k h => by
  unfold bIsN at h ⊢
  split at h
  · exact k _ h
  · exact k _ h
  · exact h.elim

/-! ### truth -/
def truK (d : D) (k : Bool → Prop) : Prop := match d with
  | .non => k false
  | .bl b => k b
  | .int i => k (i != 0)
  | .str x => x.length ≤ sizeLine ∧ k ((x.length : Int) != 0)
  | .tup xs => k (!xs.isEmpty)
  | .lst xs => k (!xs.isEmpty)
  | .obj _ _ _ => False
theorem truK_mono {d : D} {k k' : Bool → Prop} (h : ∀ b, k b → k' b) (q : truK d k) : truK d k' := by
  cases d <;> simp only [truK] at q ⊢ <;> first | exact h _ q | exact ⟨q.1, h _ q.2⟩ | exact q
theorem hasL_isEmpty {O : AP} {H : Hp} {ds : List D} {vs : List V} (h : HasL G O H ds vs) : ds.isEmpty = vs.isEmpty := by
  cases ds with
  | nil => rw [h.nil_inv]; rfl
  | cons d ds => obtain ⟨v, r, rfl, _⟩ := h.cons_inv; rfl
theorem truK_of {O : AP} {H : Hp} {d : D} {v : V} {k : Bool → Prop} (h : HasP G O H d v) (q : truK d k) : ∃ b, TruV G.K v H b ∧ k b := by
  cases d with
  | non => rw [show v = .non by simpa [HasP] using h]; exact ⟨false, rfl, q⟩
  | bl b => rw [show v = .bl b by simpa [HasP] using h]; exact ⟨b, rfl, q⟩
  | int b => rw [show v = .int b by simpa [HasP] using h]; exact ⟨_, rfl, q⟩
  | str b => rw [show v = .str b by simpa [HasP] using h]; exact ⟨_, ⟨q.1, rfl⟩, q.2⟩
  | tup xs =>
    obtain ⟨a, vs, rfl, h1, h2⟩ := has_tup.mp (show Has G O H (.tup xs) v from h)
    refine ⟨_, .inr (.inl ⟨vs, h1.sq, rfl⟩), ?_⟩
    rw [← hasL_isEmpty h2]; exact q
  | lst xs =>
    obtain ⟨a, vs, rfl, h1, h2⟩ := h
    refine ⟨_, .inl ⟨vs, h1, rfl⟩, ?_⟩
    rw [← hasL_isEmpty h2]; exact q
  | obj c ns xs => exact q.elim

/-! ### tests -/
variable {B : AP} {e a b c : Expr} {o oa ob : Opd} {pos : Pos} {m ma mb : ME} {t ta tb : MT}
/-- an expression's truth -/
def tTru (m : ME) : MT := fun s Q X => m s (fun r s' => r.dK fun d => truK d fun k => Q k s') X
theorem dK_mono {e : En} {k k' : D → Prop} (h : ∀ d, k d → k' d) (q : e.dK k) : e.dK k' := by
  rw [En.dK_iff] at q ⊢
  obtain ⟨d, e1, q⟩ := q
  exact ⟨d, e1, h _ q⟩
theorem mono_tTru (h : MonoE m) : MonoT (tTru m) := fun s Q Q' X X' hQ hX q => h _ _ _ _ _ (fun r s' z => dK_mono (fun d z => truK_mono (fun b z => hQ _ _ z) z) z) hX q
theorem rd_tru {W : WX} (h : MonoE m) {σ : Sl} {H : Hp} {Q : Bool → Hp → Prop} (q : rdT G B (tTru m) W σ H Q) : rdE G B m W σ H fun v H' => ∃ k, TruV G.K v H' k ∧ Q k H' := by
  obtain ⟨es, A, q⟩ := q
  refine ⟨es, A, h _ _ _ _ _ (fun r s' z v H' A' k => ?_) (fun _ _ z => z) q⟩
  rw [En.dK_iff] at z
  obtain ⟨d, e1, z⟩ := z
  obtain ⟨b, h1, h2⟩ := truK_of ((A'.headD e1).p) z
  exact ⟨b, h1, h2 H' A'.tail k.tail⟩
theorem dt_truth (hK : G.K = X.K) (h : DE G X e m) (he : ∀ whole, isTrue e X.env whole = (do let v ← whole; standAt e.pos; holding [v] (truthy v))) : DT G X e (tTru m) :=
  ⟨mono_tTru h.mono, fun B W tk => PT.wk (pt_truth (h.run B W tk) he) fun σ H Q q => by
    have := rd_tru h.mono q
    rw [hK] at this
    exact this⟩
def tNotM (t : MT) : MT := fun s Q X => t s (fun b s' => Q (!b) s') X
theorem mono_tNot (h : MonoT t) : MonoT (tNotM t) := fun s Q Q' X X' hQ hX q => h _ _ _ _ _ (fun _ _ z => hQ _ _ z) hX q
theorem dt_not (h : DT G X a t) : DT G X (.UnaryOp .Not a pos) (tNotM t) :=
  ⟨mono_tNot h.mono, fun B W tk => PT.wk (pt_not (h.run B W tk)) fun σ H Q ⟨es, A, q⟩ => ⟨es, A, q⟩⟩
def tAndM (t u : MT) : MT := fun s Q X => t s (fun b s' => if b = true then u s' Q X else Q false s') X
def tOrM (t u : MT) : MT := fun s Q X => t s (fun b s' => if b = true then Q true s' else u s' Q X) X
theorem mono_tAnd (h : MonoT t) (h' : MonoT ta) : MonoT (tAndM t ta) := fun s Q Q' X X' hQ hX q => h _ _ _ _ _ (fun b s' z => by
  cases b with
  | true => exact h' _ _ _ _ _ hQ hX z
  | false => exact hQ _ _ z) hX q
theorem mono_tOr (h : MonoT t) (h' : MonoT ta) : MonoT (tOrM t ta) := fun s Q Q' X X' hQ hX q => h _ _ _ _ _ (fun b s' z => by
  cases b with
  | true => exact hQ _ _ z
  | false => exact h' _ _ _ _ _ hQ hX z) hX q
theorem XP.after {es es' : List En} {σ : Sl} {H H' : Hp} {W : WX} (k : Kp (Ow es σ) H (Ow es' σ) H') {x : Xn} {es2 : List En} (h : XP G B es σ H W x es2) : XP G B es' σ H' W x es2 := fun cls dd H2 q1 q2 q3 => h cls dd H2 q1 (k.trans q2) q3
/-- one test behind another -/
theorem rdT_after {W : WX} {u : MT} (hu : MonoT u) {es es' : List En} {σ : Sl} {H H' : Hp} (A' : At G B es' σ H') (k : Kp (Ow es σ) H (Ow es' σ) H') {Q : Bool → Hp → Prop}
    (q : u es' (fun b s' => ∀ H', At G B s' σ H' → Kp (Ow es σ) H (Ow s' σ) H' → Q b H') (XP G B es σ H W)) : rdT G B u W σ H' Q :=
  ⟨es', A', hu _ _ _ _ _ (fun b s' z H2 A2 k2 => z H2 A2 (k.trans k2)) (fun x s' z => z.after k) q⟩
theorem rdE_after {W : WX} {u : ME} (hu : MonoE u) {es es' : List En} {σ : Sl} {H H' : Hp} (A' : At G B es' σ H') (k : Kp (Ow es σ) H (Ow es' σ) H') {Q : VK}
    (q : u es' (fun r s' => ∀ v H', At G B (r :: s') (some v :: σ) H' → Kp (Ow es σ) H (Ow (r :: s') (some v :: σ)) H' → Q v H') (XP G B es σ H W)) : rdE G B u W σ H' Q :=
  ⟨es', A', hu _ _ _ _ _ (fun b s' z v H2 A2 k2 => z v H2 A2 (k.trans k2)) (fun x s' z => z.after k) q⟩
theorem dw_and1 (h : DT G X a t) : DW G X (.BoolOp .And [a] pos) t := ⟨h.mono, fun B W tk => pw_and1 (h.run B W tk)⟩
theorem dw_or1 (h : DT G X a t) : DW G X (.BoolOp .Or [a] pos) t := ⟨h.mono, fun B W tk => pw_or1 (h.run B W tk)⟩
theorem DW.dt (h : DW G X e t) : DT G X e t := ⟨h.mono, fun B W tk => (h.run B W tk).pt⟩
theorem dw_and {rest : List Expr} (h : DT G X a t) (h' : DW G X (.BoolOp .And (b :: rest) pos) ta) : DW G X (.BoolOp .And (a :: b :: rest) pos) (tAndM t ta) :=
  ⟨mono_tAnd h.mono h'.mono, fun B W tk => PW.wk (pw_and (h.run B W tk) (h'.run B W tk)) fun σ H Q ⟨es, A, q⟩ => by
    refine ⟨es, A, h.mono _ _ _ _ _ (fun k s' z H' A' kp => ?_) (fun _ _ z => z) q⟩
    cases k with
    | true => exact iteT (rdT_after h'.mono A' kp z)
    | false => exact iteF (z H' A' kp)⟩
theorem dw_or {rest : List Expr} (h : DT G X a t) (h' : DW G X (.BoolOp .Or (b :: rest) pos) ta) : DW G X (.BoolOp .Or (a :: b :: rest) pos) (tOrM t ta) :=
  ⟨mono_tOr h.mono h'.mono, fun B W tk => PW.wk (pw_or (h.run B W tk) (h'.run B W tk)) fun σ H Q ⟨es, A, q⟩ => by
    refine ⟨es, A, h.mono _ _ _ _ _ (fun k s' z H' A' kp => ?_) (fun _ _ z => z) q⟩
    cases k with
    | true => exact iteT (z H' A' kp)
    | false => exact iteF (rdT_after h'.mono A' kp z)⟩
/-- a comparison as a test -/
def tBl (m : ME) : MT := fun s Q X => m s (fun r s' => match r with
  | .val (.bl b) => Q b s'
  | _ => False) X
theorem mono_tBl (h : MonoE m) : MonoT (tBl m) := fun s Q Q' X X' hQ hX q => h _ _ _ _ _ (fun r s' z => by
  split at z
  · exact hQ _ _ z
  · exact z.elim) hX q
theorem dt_bl {r : TE → TE} (h : ∀ (B : AP) (W : WX), Takes X W → ∃ te, PT X e (tTest te) ∧ ∀ σ H Q, rdE G B m W σ H Q → te σ H Q) (hm : MonoE m) : DT G X e (tBl m) :=
  ⟨mono_tBl hm, fun B W tk => by
    obtain ⟨te, h1, h2⟩ := h B W tk
    refine PT.wk h1 fun σ H Q ⟨es, A, q⟩ => h2 σ H _ ⟨es, A, hm _ _ _ _ _ (fun r s' z v H' A' kp => ?_) (fun _ _ z => z) q⟩
    split at z
    · rename_i b
      have := A'.headD (d := .bl b) rfl
      rw [has_bl] at this
      exact ⟨b, this, z H' A'.tail kp.tail⟩
    · exact z.elim⟩
/-! ### and, or, not, if as values -/
def eAndV (m : ME) (u : ME) : ME := fun s Q X => m s (fun r s' => r.dK fun d => truK d fun k => if k = true then u s' Q X else Q (.val d) s') X
def eOrV (m : ME) (u : ME) : ME := fun s Q X => m s (fun r s' => r.dK fun d => truK d fun k => if k = true then Q (.val d) s' else u s' Q X) X
theorem mono_eAndV (h : MonoE m) (h' : MonoE ma) : MonoE (eAndV m ma) := fun s Q Q' X X' hQ hX q => h _ _ _ _ _ (fun r s' z => dK_mono (fun d z => truK_mono (fun b z => by
  cases b with
  | true => exact h' _ _ _ _ _ hQ hX z
  | false => exact hQ _ _ z) z) z) hX q
theorem mono_eOrV (h : MonoE m) (h' : MonoE ma) : MonoE (eOrV m ma) := fun s Q Q' X X' hQ hX q => h _ _ _ _ _ (fun r s' z => dK_mono (fun d z => truK_mono (fun b z => by
  cases b with
  | true => exact hQ _ _ z
  | false => exact h' _ _ _ _ _ hQ hX z) z) z) hX q
theorem de_one {op : BoolOp} (h : DE G X a m) : DE G X (.BoolOp op [a] pos) m := ⟨h.mono, fun B W tk => pe_one (h.run B W tk)⟩
theorem At.fzHead {es : List En} {σ : Sl} {H : Hp} {r : En} {v : V} {d : D} (A : At G B (r :: es) (some v :: σ) H) (h : r.d? = some d) : At G B (.val d :: es) (some v :: σ) H := A.tail.consVal (A.headD h)
theorem Kp.fzHead {O : AP} {es : List En} {σ : Sl} {H H' : Hp} {r : En} {v : V} {d : D} (k : Kp O H (Ow (r :: es) (some v :: σ)) H') : Kp O H (Ow (.val d :: es) (some v :: σ)) H' := fun a o q n => ⟨(k a o q n).1, fun z => (k a o q n).2 (ow_cons.mpr (.inr (ow_val.mp z)))⟩
theorem de_and (hK : G.K = X.K) {rest : List Expr} (h : DE G X a m) (h' : DE G X (.BoolOp .And (b :: rest) pos) ma) : DE G X (.BoolOp .And (a :: b :: rest) pos) (eAndV m ma) :=
  ⟨mono_eAndV h.mono h'.mono, fun B W tk => PE.wk (pe_andT (h.run B W tk) (h'.run B W tk)) fun σ H Q ⟨es, A, q⟩ => by
    refine ⟨es, A, h.mono _ _ _ _ _ (fun r s' z v H' A' kp => ?_) (fun _ _ z => z) q⟩
    rw [En.dK_iff] at z
    obtain ⟨d, e1, z⟩ := z
    obtain ⟨k, h1, h2⟩ := truK_of ((A'.headD e1).p) z
    rw [hK] at h1
    refine ⟨k, h1, ?_⟩
    cases k with
    | true => exact iteT (rdE_after h'.mono A'.tail kp.tail h2)
    | false => exact iteF (h2 v H' (A'.fzHead e1) kp.fzHead)⟩
theorem de_or (hK : G.K = X.K) {rest : List Expr} (h : DE G X a m) (h' : DE G X (.BoolOp .Or (b :: rest) pos) ma) : DE G X (.BoolOp .Or (a :: b :: rest) pos) (eOrV m ma) :=
  ⟨mono_eOrV h.mono h'.mono, fun B W tk => PE.wk (pe_orT (h.run B W tk) (h'.run B W tk)) fun σ H Q ⟨es, A, q⟩ => by
    refine ⟨es, A, h.mono _ _ _ _ _ (fun r s' z v H' A' kp => ?_) (fun _ _ z => z) q⟩
    rw [En.dK_iff] at z
    obtain ⟨d, e1, z⟩ := z
    obtain ⟨k, h1, h2⟩ := truK_of ((A'.headD e1).p) z
    rw [hK] at h1
    refine ⟨k, h1, ?_⟩
    cases k with
    | true => exact iteT (h2 v H' (A'.fzHead e1) kp.fzHead)
    | false => exact iteF (rdE_after h'.mono A'.tail kp.tail h2)⟩
def eNotV (m : ME) : ME := fun s Q X => m s (fun r s' => r.dK fun d => truK d fun k => Q (.val (.bl (!k))) s') X
theorem de_not (hK : G.K = X.K) (h : DE G X a m) : DE G X (.UnaryOp .Not a pos) (eNotV m) :=
  ⟨fun s Q Q' X X' hQ hX q => h.mono _ _ _ _ _ (fun r s' z => dK_mono (fun d z => truK_mono (fun b z => hQ _ _ z) z) z) hX q, fun B W tk => PE.wk (pe_notT (h.run B W tk)) fun σ H Q ⟨es, A, q⟩ => by
    refine ⟨es, A, h.mono _ _ _ _ _ (fun r s' z v H' A' kp => ?_) (fun _ _ z => z) q⟩
    rw [En.dK_iff] at z
    obtain ⟨d, e1, z⟩ := z
    obtain ⟨k, h1, h2⟩ := truK_of ((A'.headD e1).p) z
    rw [hK] at h1
    exact ⟨k, h1, h2 _ H' (A'.tail.consVal (by simp)) fun a o q n => ⟨(kp.tail a o q n).1, fun z => (kp.tail a o q n).2 (ow_val.mp z)⟩⟩⟩
def eIfV (t : MT) (m u : ME) : ME := fun s Q X => t s (fun b s' => if b = true then m s' Q X else u s' Q X) X
theorem de_if (h : DT G X c t) (ha : DE G X a ma) (hb : DE G X b mb) : DE G X (.IfExp c a b pos) (eIfV t ma mb) :=
  ⟨fun s Q Q' X X' hQ hX q => h.mono _ _ _ _ _ (fun k s' z => by
    cases k with
    | true => exact ha.mono _ _ _ _ _ hQ hX z
    | false => exact hb.mono _ _ _ _ _ hQ hX z) hX q, fun B W tk => PE.wk (pe_ifExp (h.run B W tk) (ha.run B W tk) (hb.run B W tk)) fun σ H Q ⟨es, A, q⟩ => by
    refine ⟨es, A, h.mono _ _ _ _ _ (fun k s' z H' A' kp => ?_) (fun _ _ z => z) q⟩
    cases k with
    | true => exact iteT (rdE_after ha.mono A' kp z)
    | false => exact iteF (rdE_after hb.mono A' kp z)⟩
end
end Dt

set_option Elab.async false
set_option linter.all false
set_option maxRecDepth 100000
set_option maxHeartbeats 1000000
/-! DtE: subscripts, displays, built-in calls, chains of comparisons; calls of the program's own defs. -/
namespace Dt
open PySem PySem.Spec PyProof.Rows L2

section
variable {G : Gm} {B : AP} {X : Cx} {e a b c : Expr} {es : List Expr} {o oa ob oc : Opd} {ops : List Opd} {pos : Pos} {m ma mb : ME}
theorem HasP.seqL {O : AP} {H : Hp} {xs : List D} {v : V} (h : HasP G O H (.lst xs) v) : ∃ a vs, v = .ref a ∧ SqL G.K H a vs ∧ HasL G O H xs vs := h
theorem HasP.seqT {O : AP} {H : Hp} {xs : List D} {v : V} (h : HasP G O H (.tup xs) v) : ∃ a vs, v = .ref a ∧ SqT G.K H a vs ∧ HasL G O H xs vs := by
  obtain ⟨a, vs, e, h1, h2⟩ := has_tup.mp (show Has G O H (.tup xs) v from h)
  exact ⟨a, vs, e, h1.sq, h2⟩
theorem HasP.int {O : AP} {H : Hp} {i : Int} {v : V} (h : HasP G O H (.int i) v) : v = .int i := by simpa [HasP] using h
theorem HasP.bl {O : AP} {H : Hp} {i : Bool} {v : V} (h : HasP G O H (.bl i) v) : v = .bl i := by simpa [HasP] using h
theorem HasP.str {O : AP} {H : Hp} {i : Str} {v : V} (h : HasP G O H (.str i) v) : v = .str i := by simpa [HasP] using h
theorem HasP.non {O : AP} {H : Hp} {v : V} (h : HasP G O H .non v) : v = .non := by simpa [HasP] using h
theorem hasL_atI {O : AP} {H : Hp} {ds : List D} {vs : List V} {i : Int} {d : D} (h : HasL G O H ds vs) (q : atI ds i = some d) : ∃ v, atI vs i = some v ∧ Has G O H d v := by
  unfold atI at q ⊢
  rw [h.length] at q
  cases hx : ixN vs.length i with
  | none => rw [hx] at q; cases q
  | some j =>
    rw [hx] at q
    obtain ⟨v, h1, h2⟩ := h.get (show ds[j]? = some d from q)
    exact ⟨v, h1, h2⟩

/-! ### o[i] -/
def bIx : Bi := fun dd K => match dd with
  | [.lst xs, .int i] => match atI xs i with
    | some d => K (.val d)
    | none => False
  | [.tup xs, .int i] => match atI xs i with
    | some d => K (.val d)
    | none => False
  | [.str z, .int i] => z.length ≤ sizeLine ∧ match atI z.cps.toList i with
    | some c => K (.val (.str ⟨#[c]⟩))
    | none => False
  | _ => False
theorem mono_bIx : MonoB bIx := fun dd K K' k h => by
  unfold bIx at h ⊢
  split at h
  · split at h
    · exact k _ h
    · exact h.elim
  · split at h
    · exact k _ h
    · exact h.elim
  · refine ⟨h.1, ?_⟩
    have h := h.2
    split at h
    · exact k _ h
    · exact h.elim
  · exact h.elim
theorem bok_ix : BOk G (r2L (rIx G.K)) bIx := by
  intro O dd vs H K Q hO hp hb hq
  unfold bIx at hb
  split at hb
  · rename_i xs i
    obtain ⟨v, u, rfl, h1, h2⟩ := hp.two
    obtain rfl := h2.int
    obtain ⟨a, ws, rfl, h3, h4⟩ := h1.seqL
    split at hb
    · rename_i d e
      obtain ⟨w, h5, h6⟩ := hasL_atI h4 e
      exact ⟨_, _, rfl, .inl ⟨a, ws, i, w, rfl, rfl, h3, h5, hq _ _ H hb (newR_val h6)⟩⟩
    · exact hb.elim
  · rename_i xs i
    obtain ⟨v, u, rfl, h1, h2⟩ := hp.two
    obtain rfl := h2.int
    obtain ⟨a, ws, rfl, h3, h4⟩ := h1.seqT
    split at hb
    · rename_i d e
      obtain ⟨w, h5, h6⟩ := hasL_atI h4 e
      exact ⟨_, _, rfl, .inr (.inl ⟨a, ws, i, w, rfl, rfl, h3, h5, hq _ _ H hb (newR_val h6)⟩)⟩
    · exact hb.elim
  · rename_i z i
    obtain ⟨v, u, rfl, h1, h2⟩ := hp.two
    obtain rfl := h2.int
    obtain rfl := h1.str
    obtain ⟨hz, hb⟩ := hb
    split at hb
    · rename_i c e
      exact ⟨_, _, rfl, .inr (.inr ⟨z, i, c, rfl, rfl, hz, e, hq _ _ H hb (newR_val (by simp))⟩)⟩
    · exact hb.elim
  · exact hb.elim

/-! ### (a, b), [a, b] -/
def exs (ms : List ME) : List Opd := ms.map .ex
theorem opsEx {es : List En} {σ : Sl} {H : Hp} : ∀ {ms : List ME} {ds : List (Option D)} {vs : List V} {k : List D → Prop}, OpsAt G B es σ H (exs ms) ds vs → datK (exs ms) ds es k → ∃ dd, HasL G (OB B es σ) H dd vs ∧ k dd
  | [], [], vs, k, h, q => ⟨[], by rw [show vs = [] from h]; exact .nil, q⟩
  | [], _ :: _, _, _, h, _ => h.elim
  | m :: ms, some d :: ds, vs, k, ⟨v, r, e, h1, h2⟩, q => by
    obtain ⟨dd, q4, q5⟩ := opsEx (ms := ms) (k := fun r => k (d :: r)) h2 q
    exact ⟨d :: dd, by rw [e]; exact .cons h1 q4, q5⟩
  | _ :: _, [], _, _, h, _ => h.elim
  | _ :: _, none :: _, _, _, h, _ => h.elim
def BOkF (G : Gm) (r : List V → Hp → VK → Prop) (b : Bi) : Prop := ∀ (O : AP) (dd : List D) (vs : List V) (H : Hp) (K : En → Prop) (Q : VK), (∀ a, O a → ∃ o, H a = some o) → HasL G O H dd vs → b dd K → (∀ e v H', K e → NewR G O H e v H' → Q v H') → r vs H Q
theorem eBi_ofF {W : WX} {ms : List ME} {b : Bi} {r : List V → Hp → VK → Prop} (hm : ∀ o ∈ exs ms, o.Mono) (ok : BOkF G r b) {σ : Sl} {H : Hp} {Q : VK} (h : rdE G B (eBi (exs ms) b) W σ H Q) : rdA G B W (exs ms) σ H fun vs H' => r vs H' Q := by
  obtain ⟨es, A, h⟩ := h
  refine rdA_of hm A h (fun ds es' vs H' q A' k o => ?_) (fun x es' q => q)
  obtain ⟨dd, h1, h2⟩ := opsEx o q
  refine ok (OB B es' σ) dd vs H' _ Q (fun a z => A'.tracked z) h1 h2 fun e v H2 q2 n => ?_
  obtain ⟨a1, k1⟩ := A'.new n
  exact q2 v H2 a1 (k.trans k1)
theorem de_opF {r : List V → Hp → VK → Prop} {bi : Bi} {ms : List ME} (ok : BOkF G r bi) (hb : MonoB bi) (ha : DOs G X es (exs ms)) (k : ∀ t, PA X es t → PE X e (tCB r t)) : DE G X e (eBi (exs ms) bi) :=
  ⟨eBi_mono ha.mono hb, fun B W tk => PE.wk (k _ (ha.run B W tk)) fun σ H Q q => eBi_ofF ha.mono ok q⟩
def bTup : Bi := fun dd K => dd.length ≤ sizeLine ∧ K (.val (.tup dd))
def bLst : Bi := fun dd K => dd.length ≤ sizeLine ∧ K (.own dd)
theorem mono_bTup : MonoB bTup := fun _ _ _ k h => ⟨h.1, k _ h.2⟩
theorem mono_bLst : MonoB bLst := fun _ _ _ k h => ⟨h.1, k _ h.2⟩
def rTup : List V → Hp → VK → Prop := fun xs H Q => xs.length ≤ sizeLine ∧ ∀ p, H p = none → Q (.ref p) (upd H p (.tup xs))
def rLst : List V → Hp → VK → Prop := fun xs H Q => xs.length ≤ sizeLine ∧ ∀ p, H p = none → Q (.ref p) (upd H p (.lst xs))
theorem upd_keep {H : Hp} {p : Addr} {o : HO} (hp : H p = none) : ∀ a u, H a = some u → upd H p o a = some u := fun a u h => by rw [upd_ne (ne_of_none h hp)]; exact h
/-- a new tuple -/
theorem newR_tup {O : AP} {H : Hp} {p : Addr} {dd : List D} {vs : List V} (hO : ∀ a, O a → ∃ o, H a = some o) (h : HasL G O H dd vs) (hp : H p = none) : NewR G O H (.val (.tup dd)) (.ref p) (upd H p (.tup vs)) :=
  ⟨upd_keep hp, has_tup.mpr ⟨p, vs, rfl, .inl ⟨.inl upd_same, fun q => by obtain ⟨o, e⟩ := hO p q; rw [hp] at e; cases e⟩, h.kp fun a o q n => ⟨upd_keep hp a o q, n⟩⟩⟩
/-- a new list -/
theorem newR_lst {O : AP} {H : Hp} {p : Addr} {dd : List D} {vs : List V} (h : HasL G O H dd vs) (hp : H p = none) : NewR G O H (.own dd) (.ref p) (upd H p (.lst vs)) :=
  ⟨upd_keep hp, p, vs, rfl, hp, upd_same, h.kp fun a o q n => ⟨upd_keep hp a o q, fun z => z.elim n fun z => by rw [z, hp] at q; cases q⟩⟩
theorem bok_tup : BOkF G rTup bTup := fun O dd vs H K Q hO h hb hq => ⟨by rw [← h.length]; exact hb.1, fun p hp => hq _ _ _ hb.2 (newR_tup hO h hp)⟩
theorem bok_lst : BOkF G rLst bLst := fun O dd vs H K Q hO h hb hq => ⟨by rw [← h.length]; exact hb.1, fun p hp => hq _ _ _ hb.2 (newR_lst h hp)⟩
theorem de_tup {ms : List ME} {k : Nat} (h : DOs G X es (exs ms)) : DE G X (.Tuple es k pos) (eBi (exs ms) bTup) := de_opF bok_tup mono_bTup h fun _ q => pe_tup q
theorem de_lst {ms : List ME} (h : DOs G X es (exs ms)) : DE G X (.List es pos) (eBi (exs ms) bLst) := de_opF bok_lst mono_bLst h fun _ q => pe_lst q

/-! ### built-in functions of one or two values -/
def bAbs : Bi := fun dd K => match dd with
  | [.int i] => K (.val (.int (if i < 0 then -i else i)))
  | _ => False
theorem mono_bAbs : MonoB bAbs := fun dd K K' k h => by
  unfold bAbs at h ⊢
  split at h
  · exact k _ h
  · exact h.elim
theorem bok_abs : BOk G (fun xs H Q => ∃ i, xs = [.int i] ∧ Q (.int (if i < 0 then -i else i)) H) bAbs := by
  intro O dd vs H K Q hO hp hb hq
  unfold bAbs at hb
  split at hb
  · obtain ⟨v, rfl, h1⟩ := hp.one
    obtain rfl := h1.int
    exact ⟨_, rfl, hq _ _ H hb (newR_val (by simp))⟩
  · exact hb.elim
def bInt : Bi := fun dd K => match dd with
  | [.int i] => K (.val (.int i))
  | [.bl b] => K (.val (.int (if b then 1 else 0)))
  | _ => False
theorem mono_bInt : MonoB bInt := fun dd K K' k h => by
  unfold bInt at h ⊢
  split at h
  · exact k _ h
  · exact k _ h
  · exact h.elim
theorem bok_int : BOk G (fun xs H Q => (∃ i, xs = [.int i] ∧ Q (.int i) H) ∨ ∃ k, xs = [.bl k] ∧ Q (.int (if k then 1 else 0)) H) bInt := by
  intro O dd vs H K Q hO hp hb hq
  unfold bInt at hb
  split at hb
  · obtain ⟨v, rfl, h1⟩ := hp.one
    obtain rfl := h1.int
    exact .inl ⟨_, rfl, hq _ _ H hb (newR_val (by simp))⟩
  · obtain ⟨v, rfl, h1⟩ := hp.one
    obtain rfl := h1.bl
    exact .inr ⟨_, rfl, hq _ _ H hb (newR_val (by simp))⟩
  · exact hb.elim
def bLen : Bi := fun dd K => match dd with
  | [.lst xs] => K (.val (.int xs.length))
  | [.tup xs] => K (.val (.int xs.length))
  | [.str x] => x.length ≤ sizeLine ∧ K (.val (.int x.length))
  | _ => False
theorem mono_bLen : MonoB bLen := fun dd K K' k h => by
  unfold bLen at h ⊢
  split at h
  · exact k _ h
  · exact k _ h
  · exact ⟨h.1, k _ h.2⟩
  · exact h.elim
theorem bok_len : BOk G (fun xs H Q => ∃ x n, xs = [x] ∧ LenV G.K x H n ∧ Q (.int n) H) bLen := by
  intro O dd vs H K Q hO hp hb hq
  unfold bLen at hb
  split at hb
  · obtain ⟨v, rfl, h1⟩ := hp.one
    obtain ⟨a, ws, rfl, h3, h4⟩ := h1.seqL
    exact ⟨_, _, rfl, .inl ⟨ws, h3, rfl⟩, hq _ _ H hb (newR_val (by simp [h4.length]))⟩
  · obtain ⟨v, rfl, h1⟩ := hp.one
    obtain ⟨a, ws, rfl, h3, h4⟩ := h1.seqT
    exact ⟨_, _, rfl, .inr ⟨ws, h3, rfl⟩, hq _ _ H hb (newR_val (by simp [h4.length]))⟩
  · obtain ⟨v, rfl, h1⟩ := hp.one
    obtain rfl := h1.str
    exact ⟨_, _, rfl, ⟨hb.1, rfl⟩, hq _ _ H hb.2 (newR_val (by simp))⟩
  · exact hb.elim
/-- min, max of two ints -/
def bMax2 : Bi := fun dd K => match dd with
  | [.int i, .int j] => K (.val (.int (if j > i then j else i)))
  | _ => False
def bMin2 : Bi := fun dd K => match dd with
  | [.int i, .int j] => K (.val (.int (if j < i then j else i)))
  | _ => False
theorem mono_bMax2 : MonoB bMax2 := mono_bi2 (P := fun i j K => K (.val (.int (if j > i then j else i)))) rfl fun _ _ _ _ k h => k _ h
theorem mono_bMin2 : MonoB bMin2 := mono_bi2 (P := fun i j K => K (.val (.int (if j < i then j else i)))) rfl fun _ _ _ _ k h => k _ h
theorem bok_max2 : BOk G (fun xs H Q => ∃ i j, xs = [.int i, .int j] ∧ Q (.int (if j > i then j else i)) H) bMax2 := by
  intro O dd vs H K Q hO hp hb hq
  unfold bMax2 at hb
  split at hb
  · obtain ⟨v, u, rfl, h1, h2⟩ := hp.two
    obtain rfl := h1.int
    obtain rfl := h2.int
    exact ⟨_, _, rfl, hq _ _ H hb (newR_val (by simp))⟩
  · exact hb.elim
theorem bok_min2 : BOk G (fun xs H Q => ∃ i j, xs = [.int i, .int j] ∧ Q (.int (if j < i then j else i)) H) bMin2 := by
  intro O dd vs H K Q hO hp hb hq
  unfold bMin2 at hb
  split at hb
  · obtain ⟨v, u, rfl, h1, h2⟩ := hp.two
    obtain rfl := h1.int
    obtain rfl := h2.int
    exact ⟨_, _, rfl, hq _ _ H hb (newR_val (by simp))⟩
  · exact hb.elim

/-! ### isinstance of built-in classes -/
def D.tyN : D → Option String
  | .non => some "NoneType"
  | .bl _ => some "bool"
  | .int _ => some "int"
  | .str _ => some "str"
  | .tup _ => some "tuple"
  | .lst _ => some "list"
  | .obj _ _ _ => none
theorem hasP_ty {O : AP} {H : Hp} {d : D} {v : V} {t : String} (h : HasP G O H d v) (ht : d.tyN = some t) : TyX G.K H v (.type t) := by
  cases d with
  | non => cases ht; rw [h.non]; exact .base .non
  | bl b => cases ht; rw [h.bl]; exact .base (.bl b)
  | int b => cases ht; rw [h.int]; exact .base (.int b)
  | str b => cases ht; rw [h.str]; exact .base (.str b)
  | tup xs =>
    cases ht
    obtain ⟨a, vs, rfl, h1, h2⟩ := h.seqT
    rcases h1 with (h1 | ⟨o, h1⟩) | ⟨o, its, n, q1, q2, _⟩
    · exact .base (.tup h1)
    · exact .fTuple h1
    · exact .kTuple q1 q2
  | lst xs =>
    cases ht
    obtain ⟨a, vs, rfl, h1, h2⟩ := h.seqL
    rcases h1 with (h1 | ⟨o, h1⟩) | ⟨o, its, n, q1, q2, _⟩
    · exact .base (.lst h1)
    · exact .base (.frz h1)
    · exact .kList q1 q2
  | obj c ns xs => cases ht
/-- isinstance(d, (n1, n2, ..)) -/
def isAny (t : String) : List String → Option Bool
  | [] => some false
  | n :: r => match kitB t n with
    | some true => some true
    | some false => isAny t r
    | none => none
def bIsi (ns : List String) : Bi := fun dd K => match dd with
  | [d] => match d.tyN with
    | some t => match isAny t ns with
      | some b => K (.val (.bl b))
      | none => False
    | none => False
  | _ => False
theorem mono_bIsi {ns : List String} : MonoB (bIsi ns) := fun dd K K' k h => by
  unfold bIsi at h ⊢
  split at h
  · split at h
    · split at h
      · exact k _ h
      · exact h.elim
    · exact h.elim
  · exact h.elim
def rIsi1 (K : PySem.W.Frag) (n : String) : List V → Hp → VK → Prop := fun xs H Q => ∃ x, xs = [x] ∧ rIsi K [x, .ty n] H Q
theorem bok_isi1 {n : String} : BOk G (rIsi1 G.K n) (bIsi [n]) := by
  intro O dd vs H K Q hO hp hb hq
  unfold bIsi at hb
  split at hb
  · rename_i d
    split at hb
    · rename_i t ht
      obtain ⟨v, rfl, h1⟩ := hp.one
      unfold isAny isAny at hb
      cases hk : kitB t n with
      | none => rw [hk] at hb; exact hb.elim
      | some r =>
        rw [hk] at hb
        have hb' : K (.val (.bl r)) := by cases r <;> exact hb
        exact ⟨v, rfl, v, .ty n, .type t, .type n, r, rfl, .ty n, hasP_ty h1 ht, kit_ty hk, hq _ _ H hb' (newR_val (by simp))⟩
    · exact hb.elim
  · exact hb.elim
theorem kitAny_of {K : PySem.W.Frag} {t : String} : ∀ {ns : List String} {b : Bool}, isAny t ns = some b → PySem.W.kitAny K (.type t) (ns.map Value.type) = some b
  | [], b, h => by cases h; rfl
  | n :: r, b, h => by
    unfold isAny at h
    cases hk : kitB t n with
    | none => rw [hk] at h; cases h
    | some k =>
      rw [hk] at h
      refine kitAny_cons (kit_ty hk) (fun e => ?_) fun e => ?_
      · subst e; exact kitAny_of h
      · subst e
        simp at h
        exact h
def rIsiN (K : PySem.W.Frag) (ns : List String) : List V → Hp → VK → Prop := fun xs H Q => ∃ x, xs = [x] ∧ ∀ p, H p = none → rIsiT K [x, .ref p] (upd H p (.tup (ns.map V.ty))) Q
theorem paired_ty : ∀ ns : List String, Paired ClsV (ns.map V.ty) (ns.map Value.type)
  | [] => .nil
  | n :: r => .cons (.ty n) (paired_ty r)
theorem HasP.keep {O : AP} {H H' : Hp} (k : ∀ a o, H a = some o → H' a = some o) : ∀ {d : D} {v : V}, HasP G O H d v → HasP G O H' d v
  | .lst xs, v, ⟨a, vs, e, h1, h2⟩ => ⟨a, vs, e, by
      rcases h1 with (h1 | ⟨o, h1⟩) | h1
      · exact .inl (.inl (k _ _ h1))
      · exact .inl (.inr ⟨o, k _ _ h1⟩)
      · exact .inr h1, h2.kp fun a o q n => ⟨k a o q, n⟩⟩
  | .obj c ns xs, v, ⟨a, C, dx, vs, e, hc, h1, hl, h2⟩ => ⟨a, C, dx, vs, e, hc, k _ _ h1, hl, h2.kp fun a o q n => ⟨k a o q, n⟩⟩
  | .non, v, h => h
  | .bl _, v, h => h
  | .int _, v, h => h
  | .str _, v, h => h
  | .tup xs, v, h => (show Has G O H (.tup xs) v from h).kp fun a o q n => ⟨k a o q, n⟩
theorem bok_isiN {ns : List String} : BOk G (rIsiN G.K ns) (bIsi ns) := by
  intro O dd vs H K Q hO hp hb hq
  unfold bIsi at hb
  split at hb
  · rename_i d
    split at hb
    · rename_i t ht
      obtain ⟨v, rfl, h1⟩ := hp.one
      split at hb
      · rename_i r hr
        refine ⟨v, rfl, fun p hp => ⟨v, p, _, .type t, _, r, rfl, upd_same, paired_ty ns, hasP_ty (h1.keep (upd_keep hp)) ht, kitAny_of hr, hq _ _ _ hb ⟨upd_keep hp, by simp⟩⟩⟩
      · exact hb.elim
    · exact hb.elim
  · exact hb.elim
end
end Dt

set_option Elab.async false
set_option linter.all false
set_option maxRecDepth 100000
set_option maxHeartbeats 1000000
/-! DtF: contracts of defs in plain data, their calls; statements. -/
namespace Dt
open PySem PySem.Spec PyProof.Rows L2

/-- a def's promise, in plain data: on the entries of its arguments; B: what frames around own -/
def spF (G : Gm) (F : ME) : Sp := fun vs H Q E => ∃ es B, At G B es (vs.map some) H ∧
  F es (fun r es' => ∀ v H', At G B (r :: es') (some v :: vs.map some) H' → Kp (Ow es (vs.map some)) H (Ow (r :: es') (some v :: vs.map some)) H' → Q v H')
    (fun x es' => ∀ cls dd H', At G B es' (vs.map some) H' → Kp (Ow es (vs.map some)) H (Ow es' (vs.map some)) H' → HasX G (OB B es' (vs.map some)) H' x cls dd → E cls dd H')

/-! ### arguments -/
def isOwnAt (s : List En) (i : Nat) : Bool := match s[i]? with
  | some e => e.isOwn
  | none => false
/-- the owned slots that are lent -/
def ownSl : List Opd → List En → List Nat
  | [], _ => []
  | .sl i :: r, s => if isOwnAt s i then i :: ownSl r s else ownSl r s
  | .ex _ :: r, s => ownSl r s
/-- the entries of the arguments -/
def argK : List Opd → List (Option D) → List En → (List En → Prop) → Prop
  | [], [], _, k => k []
  | .sl i :: ops, none :: ds, s, k => match s[i]? with
    | some e => argK ops ds s fun r => k (e :: r)
    | none => False
  | .ex _ :: ops, some d :: ds, s, k => argK ops ds s fun r => k (.val d :: r)
  | _, _, _, _ => False
/-- what was lent comes back -/
def backs : List Opd → List En → List En → List En
  | .sl i :: ops, a :: as, s => if isOwnAt s i then (backs ops as s).set i a else backs ops as s
  | .ex _ :: ops, _ :: as, s => backs ops as s
  | _, _, s => s
def eCall (F : ME) (ops : List Opd) (dfl : List D) : ME := fun s Q X => evO ops s (fun ds s' => argK ops ds s' fun args =>
  (ownSl ops s').Nodup ∧ F (args ++ dfl.map .val) (fun r as => Q r (backs ops as s')) (fun x as => X x (backs ops as s'))) X
theorem argK_mono : ∀ {ops : List Opd} {ds : List (Option D)} {s : List En} {k k' : List En → Prop}, (∀ r, k r → k' r) → argK ops ds s k → argK ops ds s k'
  | [], [], _, _, _, h, q => h _ q
  | [], _ :: _, _, _, _, _, q => q.elim
  | .sl i :: ops, none :: ds, s, k, k', h, q => by
    unfold argK at q ⊢
    split at q
    · rename_i e he
      exact argK_mono (fun r z => h _ z) q
    · exact q.elim
  | .ex _ :: ops, some d :: ds, s, k, k', h, q => argK_mono (ops := ops) (k := fun r => k (.val d :: r)) (k' := fun r => k' (.val d :: r)) (fun r z => h _ z) q
  | .sl _ :: _, [], _, _, _, _, q => q.elim
  | .sl _ :: _, some _ :: _, _, _, _, _, q => q.elim
  | .ex _ :: _, [], _, _, _, _, q => q.elim
  | .ex _ :: _, none :: _, _, _, _, _, q => q.elim
theorem mono_eCall {F : ME} {ops : List Opd} {dfl : List D} (hF : MonoE F) (h : ∀ o ∈ ops, o.Mono) : MonoE (eCall F ops dfl) := fun s Q Q' X X' hQ hX q =>
  evO_mono h (fun ds s' z => argK_mono (fun args z => ⟨z.1, hF _ _ _ _ _ (fun r as z => hQ _ _ z) (fun x as z => hX _ _ z) z.2⟩) z) hX q
/-- the arguments' entries: where each comes from -/
inductive Args (G : Gm) (B : AP) (es : List En) (σ : Sl) (H : Hp) : List Opd → List V → List En → Prop
  | nil : Args G B es σ H [] [] []
  | sl {i : Nat} {v : V} {e : En} {ops : List Opd} {vs : List V} {as : List En} (h1 : es[i]? = some e) (h2 : σ[i]? = some (some v)) (t : Args G B es σ H ops vs as) : Args G B es σ H (.sl i :: ops) (v :: vs) (e :: as)
  | ex {m : ME} {v : V} {d : D} {ops : List Opd} {vs : List V} {as : List En} (h : Has G (OB B es σ) H d v) (t : Args G B es σ H ops vs as) : Args G B es σ H (.ex m :: ops) (v :: vs) (.val d :: as)
section
variable {G : Gm} {B : AP} {es : List En} {σ : Sl} {H : Hp}
theorem args_of : ∀ {ops : List Opd} {ds : List (Option D)} {vs : List V} {k : List En → Prop}, OpsAt G B es σ H ops ds vs → argK ops ds es k → ∃ as, Args G B es σ H ops vs as ∧ k as
  | [], [], vs, k, h, q => ⟨[], by rw [show vs = [] from h]; exact .nil, q⟩
  | [], _ :: _, _, _, h, _ => h.elim
  | .sl i :: ops, none :: ds, vs, k, ⟨v, r, e, h1, h2⟩, q => by
    unfold argK at q
    split at q
    · rename_i e' he
      obtain ⟨as, q1, q2⟩ := args_of h2 q
      exact ⟨e' :: as, by rw [e]; exact .sl he h1 q1, q2⟩
    · exact q.elim
  | .ex _ :: ops, some d :: ds, vs, k, ⟨v, r, e, h1, h2⟩, q => by
    obtain ⟨as, q1, q2⟩ := args_of (k := fun r => k (.val d :: r)) h2 q
    exact ⟨.val d :: as, by rw [e]; exact .ex h1 q1, q2⟩
  | .sl _ :: _, [], _, _, h, _ => h.elim
  | .sl _ :: _, some _ :: _, _, _, h, _ => h.elim
  | .ex _ :: _, [], _, _, h, _ => h.elim
  | .ex _ :: _, none :: _, _, _, h, _ => h.elim
theorem Args.len {ops : List Opd} {vs : List V} {as : List En} (h : Args G B es σ H ops vs as) : as.length = vs.length ∧ ops.length = vs.length := by
  induction h with
  | nil => exact ⟨rfl, rfl⟩
  | sl _ _ _ ih => exact ⟨by simp [ih.1], by simp [ih.2]⟩
  | ex _ _ ih => exact ⟨by simp [ih.1], by simp [ih.2]⟩
/-- an argument's entry: a slot's or shared data -/
theorem Args.get {ops : List Opd} {vs : List V} {as : List En} (h : Args G B es σ H ops vs as) {j : Nat} {e : En} (q : as[j]? = some e) :
    (∃ i v, ops[j]? = some (.sl i) ∧ es[i]? = some e ∧ vs[j]? = some v ∧ σ[i]? = some (some v)) ∨ ∃ d v, e = .val d ∧ vs[j]? = some v ∧ Has G (OB B es σ) H d v := by
  induction h generalizing j with
  | nil => simp at q
  | sl h1 h2 t ih =>
    cases j with
    | zero => simp at q; subst q; exact .inl ⟨_, _, rfl, h1, rfl, h2⟩
    | succ j => simpa using ih (by simpa using q)
  | ex h t ih =>
    cases j with
    | zero => simp at q; subst q; exact .inr ⟨_, _, rfl, rfl, h⟩
    | succ j => simpa using ih (by simpa using q)
theorem mem_ownSl {s : List En} {i : Nat} : ∀ {ops : List Opd} {j : Nat}, ops[j]? = some (.sl i) → isOwnAt s i = true → i ∈ ownSl ops s
  | [], _, h, _ => by simp at h
  | o :: ops, 0, h, q => by
    simp at h; subst h
    unfold ownSl
    rw [if_pos q]; exact List.mem_cons_self
  | o :: ops, j + 1, h, q => by
    have := mem_ownSl (s := s) (ops := ops) (j := j) (by simpa using h) q
    cases o with
    | ex m => exact this
    | sl k =>
      unfold ownSl
      split
      · exact List.mem_cons_of_mem _ this
      · exact this
theorem ownSl_inj {s : List En} {i : Nat} : ∀ {ops : List Opd} {j k : Nat}, (ownSl ops s).Nodup → ops[j]? = some (.sl i) → ops[k]? = some (.sl i) → isOwnAt s i = true → j = k
  | [], _, _, _, h, _, _ => by simp at h
  | o :: ops, 0, 0, _, _, _, _ => rfl
  | o :: ops, 0, k + 1, hn, h, h', q => by
    simp at h; subst h
    unfold ownSl at hn
    rw [if_pos q] at hn
    exact absurd (mem_ownSl (by simpa using h') q) (List.nodup_cons.mp hn).1
  | o :: ops, j + 1, 0, hn, h, h', q => by
    simp at h'; subst h'
    unfold ownSl at hn
    rw [if_pos q] at hn
    exact absurd (mem_ownSl (by simpa using h) q) (List.nodup_cons.mp hn).1
  | o :: ops, j + 1, k + 1, hn, h, h', q => by
    have hn' : (ownSl ops s).Nodup := by
      cases o with
      | ex m => exact hn
      | sl i' =>
        unfold ownSl at hn
        split at hn
        · exact (List.nodup_cons.mp hn).2
        · exact hn
    have := ownSl_inj (j := j) (k := k) hn' (by simpa using h) (by simpa using h') q
    omega
theorem isOwnAt_of {s : List En} {i : Nat} {e : En} (h : s[i]? = some e) (q : e.isOwn = true) : isOwnAt s i = true := by unfold isOwnAt; rw [h]; exact q
/-- what frames around a callee own -/
def outB (B : AP) (es : List En) (σ : Sl) (as : List En) (vs : List V) : AP := fun a => OB B es σ a ∧ ¬ Ow as (vs.map some) a
/-- the arguments stand as a callee wants them -/
theorem Args.at {ops : List Opd} {vs : List V} {as : List En} (A : At G B es σ H) (h : Args G B es σ H ops vs as) (hn : (ownSl ops es).Nodup) : At G (outB B es σ as vs) as (vs.map some) H ∧ ∀ a, Ow as (vs.map some) a → Ow es σ a := by
  have sub : ∀ a, Ow as (vs.map some) a → Ow es σ a := fun a ⟨j, e, q1, q2, q3⟩ => by
    rcases h.get q1 with ⟨i, v, z1, z2, z3, z4⟩ | ⟨d, v, rfl, _⟩
    · rw [List.getElem?_map, z3] at q3
      cases q3
      exact ⟨i, e, z2, q2, z4⟩
    · cases q2
  have subB : ∀ a, OB (outB B es σ as vs) as (vs.map some) a → OB B es σ a := fun a z => z.elim (fun z => z.1) fun z => .inr (sub a z)
  refine ⟨⟨by simp [h.len.1], fun j d q => ?_, fun j e q z => ?_, fun j k e f a q1 q2 q3 q4 q5 q6 => ?_, fun a z => ⟨A.tracked z.1, z.2⟩⟩, sub⟩
  · rcases h.get q with ⟨i, v, z1, z2, z3, z4⟩ | ⟨d', v, e, z3, z4⟩
    · obtain ⟨u, y1, y2⟩ := A.val i d z2
      rw [z4] at y1; cases y1
      exact ⟨v, by rw [List.getElem?_map, z3]; rfl, y2.sub subB⟩
    · cases e
      exact ⟨v, by rw [List.getElem?_map, z3]; rfl, z4.sub subB⟩
  · rcases h.get q with ⟨i, v, z1, z2, z3, z4⟩ | ⟨d', v, rfl, _⟩
    · obtain ⟨a, o, y1, y2, y3⟩ := A.own i e z2 z
      rw [z4] at y1; cases y1
      exact ⟨a, o, by rw [List.getElem?_map, z3]; rfl, y2, y3.sub subB⟩
    · cases z
  · rcases h.get q1 with ⟨i, v, z1, z2, z3, z4⟩ | ⟨d', v, rfl, _⟩
    · rcases h.get q3 with ⟨i', v', y1, y2, y3, y4⟩ | ⟨d', v', rfl, _⟩
      · rw [List.getElem?_map, z3] at q5; cases q5
        rw [List.getElem?_map, y3] at q6; cases q6
        have := A.inj i i' e f a z2 q2 y2 q4 z4 y4
        subst this
        exact ownSl_inj hn z1 y1 (isOwnAt_of z2 q2)
      · cases q4
    · cases q2
theorem Args.slot {ops : List Opd} {vs : List V} {as : List En} (h : Args G B es σ H ops vs as) {i j : Nat} (q : ops[j]? = some (.sl i)) : ∃ v e, vs[j]? = some v ∧ σ[i]? = some (some v) ∧ es[i]? = some e ∧ as[j]? = some e := by
  induction h generalizing j with
  | nil => simp at q
  | sl h1 h2 t ih =>
    cases j with
    | zero => simp at q; subst q; exact ⟨_, _, rfl, h2, h1, rfl⟩
    | succ j => simpa using ih (by simpa using q)
  | ex h t ih =>
    cases j with
    | zero => simp at q
    | succ j => simpa using ih (by simpa using q)
theorem backs_len : ∀ {ops : List Opd} {as s : List En}, (backs ops as s).length = s.length
  | [], _, _ => rfl
  | .sl i :: ops, [], s => rfl
  | .ex _ :: ops, [], s => rfl
  | .sl i :: ops, a :: as, s => by
    unfold backs
    split
    · rw [List.length_set]; exact backs_len
    · exact backs_len
  | .ex _ :: ops, _ :: as, s => by unfold backs; exact backs_len
/-- behind the call slot i holds what it held, or what came back -/
theorem backs_get : ∀ {ops : List Opd} {as s : List En} {i : Nat}, (ownSl ops s).Nodup → i < s.length →
    ((∀ j : Nat, ops[j]? = some (.sl i) → j < as.length → isOwnAt s i = false) ∧ (backs ops as s)[i]? = s[i]?) ∨ ∃ j : Nat, ops[j]? = some (.sl i) ∧ isOwnAt s i = true ∧ j < as.length ∧ (backs ops as s)[i]? = as[j]?
  | [], _, _, _, _, _ => .inl ⟨fun j h => by simp at h, rfl⟩
  | .sl k :: ops, [], s, i, _, _ => .inl ⟨fun j _ h => by simp at h, rfl⟩
  | .ex _ :: ops, [], s, i, _, _ => .inl ⟨fun j _ h => by simp at h, rfl⟩
  | .ex m :: ops, a :: as, s, i, hn, hi => by
    rcases backs_get (ops := ops) (as := as) (s := s) (i := i) hn hi with ⟨h1, h2⟩ | ⟨j, h1, h2, h3, h4⟩
    · refine .inl ⟨fun j q z => ?_, by unfold backs; exact h2⟩
      cases j with
      | zero => simp at q
      | succ j => exact h1 j (by simpa using q) (by simpa using z)
    · exact .inr ⟨j + 1, by simpa using h1, h2, by simpa using h3, by unfold backs; simpa using h4⟩
  | .sl k :: ops, a :: as, s, i, hn, hi => by
    by_cases ho : isOwnAt s k = true
    · have hn2 : k ∉ ownSl ops s ∧ (ownSl ops s).Nodup := by
        unfold ownSl at hn; rw [if_pos ho] at hn; exact List.nodup_cons.mp hn
      have eb : backs (.sl k :: ops) (a :: as) s = (backs ops as s).set k a := by
        show (if isOwnAt s k = true then _ else _) = _
        rw [if_pos ho]
      by_cases hk : k = i
      · subst hk
        refine .inr ⟨0, rfl, ho, by simp, ?_⟩
        rw [eb, List.getElem?_set_self (by rw [backs_len]; exact hi)]; rfl
      · rw [eb, List.getElem?_set_ne hk]
        rcases backs_get (ops := ops) (as := as) (s := s) (i := i) hn2.2 hi with ⟨h1, h2⟩ | ⟨j, h1, h2, h3, h4⟩
        · refine .inl ⟨fun j q z => ?_, h2⟩
          cases j with
          | zero => simp at q; exact absurd q hk
          | succ j => exact h1 j (by simpa using q) (by simpa using z)
        · exact .inr ⟨j + 1, by simpa using h1, h2, by simpa using h3, by simpa using h4⟩
    · have hn2 : (ownSl ops s).Nodup := by
        unfold ownSl at hn; rw [if_neg ho] at hn; exact hn
      have eb : backs (.sl k :: ops) (a :: as) s = backs ops as s := by
        show (if isOwnAt s k = true then _ else _) = _
        rw [if_neg ho]
      rw [eb]
      rcases backs_get (ops := ops) (as := as) (s := s) (i := i) hn2 hi with ⟨h1, h2⟩ | ⟨j, h1, h2, h3, h4⟩
      · refine .inl ⟨fun j q z => ?_, h2⟩
        cases j with
        | zero => simp at q; subst q; simpa using ho
        | succ j => exact h1 j (by simpa using q) (by simpa using z)
      · exact .inr ⟨j + 1, by simpa using h1, h2, by simpa using h3, by simpa using h4⟩
/-- the state behind a call -/
theorem Args.back {ops : List Opd} {vs : List V} {as cs : List En} {H' : Hp} {r : En} {v : V} (A : At G B es σ H) (h : Args G B es σ H ops vs as) (hn : (ownSl ops es).Nodup)
    (hc : At G (outB B es σ as vs) (r :: cs) (some v :: vs.map some) H') (k : Kp (Ow as (vs.map some)) H (Ow (r :: cs) (some v :: vs.map some)) H') :
    (At G B (r :: backs ops cs es) (some v :: σ) H' ∧ Kp (Ow es σ) H (Ow (r :: backs ops cs es) (some v :: σ)) H') ∧ ∀ a, OB B (r :: backs ops cs es) (some v :: σ) a → OB (outB B es σ as vs) (r :: cs) (some v :: vs.map some) a := by
  obtain ⟨A1, sub⟩ := h.at A hn
  have lc : cs.length = vs.length := by simpa using hc.len
  have lb : (backs ops cs es).length = es.length := backs_len
  -- each slot: as it was, or what came back
  have sl : ∀ (i : Nat) (e : En), (backs ops cs es)[i]? = some e → (es[i]? = some e ∧ ∀ a, e.isOwn = true → σ[i]? = some (some (.ref a)) → ¬ Ow as (vs.map some) a) ∨ ∃ (j : Nat) (v : V), ops[j]? = some (Opd.sl i) ∧ cs[j]? = some e ∧ (vs.map some)[j]? = some (some v) ∧ σ[i]? = some (some v) := fun i e q => by
    have hi : i < es.length := by rw [← lb]; exact (List.getElem?_eq_some_iff.mp q).1
    rcases backs_get (as := cs) hn hi with ⟨h1, h2⟩ | ⟨j, h1, h2, h3, h4⟩
    · rw [h2] at q
      refine .inl ⟨q, fun a ho hs ⟨j, f, q1, q2, q3⟩ => ?_⟩
      rcases h.get q1 with ⟨i', v', z1, z2, z3, z4⟩ | ⟨d, v', rfl, _⟩
      · rw [List.getElem?_map, z3] at q3; cases q3
        have := A.inj i i' e f a q ho z2 q2 hs z4
        subst this
        have hj : j < cs.length := by rw [lc]; exact (List.getElem?_eq_some_iff.mp z3).1
        have := h1 j z1 hj
        rw [isOwnAt_of q ho] at this; cases this
      · cases q2
    · rw [h4] at q
      obtain ⟨v', e', z1, z2, z3, z4⟩ := h.slot h1
      exact .inr ⟨j, v', h1, q, by rw [List.getElem?_map, z1]; rfl, z2⟩
  have owIn : ∀ a, Ow (r :: backs ops cs es) (some v :: σ) a → Ow (r :: cs) (some v :: vs.map some) a ∨ (Ow es σ a ∧ ¬ Ow as (vs.map some) a) := fun a z => by
    rcases ow_cons.mp z with z | ⟨i, e, q1, q2, q3⟩
    · exact .inl (ow_cons.mpr (.inl z))
    · rcases sl i e q1 with ⟨z1, z2⟩ | ⟨j, u, z1, z2, z3, z4⟩
      · exact .inr ⟨⟨i, e, z1, q2, q3⟩, z2 a q2 q3⟩
      · rw [q3] at z4; cases z4
        exact .inl (ow_cons.mpr (.inr ⟨j, e, z2, q2, z3⟩))
  have kk : Kp (Ow es σ) H (Ow (r :: backs ops cs es) (some v :: σ)) H' := fun x o q n => by
    obtain ⟨z1, z2⟩ := k x o q fun z => n (sub x z)
    exact ⟨z1, fun z => (owIn x z).elim z2 fun z => n z.1⟩
  have obIn : ∀ a, OB B (r :: backs ops cs es) (some v :: σ) a → OB (outB B es σ as vs) (r :: cs) (some v :: vs.map some) a := fun a z => by
    rcases z with z | z
    · exact .inl ⟨.inl z, fun q => (A.out a z).2 (sub a q)⟩
    · rcases owIn a z with z | z
      · exact .inr z
      · exact .inl ⟨.inr z.1, z.2⟩
  -- an owned slot that was not lent
  have kept : ∀ {i : Nat} {e : En}, es[i]? = some e → e.isOwn = true → (∀ a, e.isOwn = true → σ[i]? = some (some (.ref a)) → ¬ Ow as (vs.map some) a) → ∃ a o, σ[i]? = some (some (.ref a)) ∧ H' a = some o ∧ OwnC G (OB B (r :: backs ops cs es) (some v :: σ)) H' e o ∧ ¬ Ow (r :: cs) (some v :: vs.map some) a := fun {i e} q ho hk => by
    obtain ⟨a, o, y1, y2, y3⟩ := A.own i e q ho
    obtain ⟨w1, w2⟩ := k a o y2 (hk a ho y1)
    exact ⟨a, o, y1, w1, y3.kp kk.ob, w2⟩
  refine ⟨⟨⟨by simp [lb, A.len], fun i d q => ?_, fun i e q z => ?_, fun i i' e f a q1 q2 q3 q4 q5 q6 => ?_, fun a z => ?_⟩, kk⟩, obIn⟩
  · cases i with
    | zero =>
      obtain ⟨u, y1, y2⟩ := hc.val 0 d (by simpa using q)
      exact ⟨u, by simpa using y1, y2.sub obIn⟩
    | succ i =>
      rcases sl i _ (by simpa using q) with ⟨z1, z2⟩ | ⟨j, u, z1, z2, z3, z4⟩
      · obtain ⟨u, y1, y2⟩ := A.val i d z1
        exact ⟨u, by simpa using y1, y2.kp kk.ob⟩
      · obtain ⟨u', y1, y2⟩ := hc.val (j + 1) d (by simpa using z2)
        have y1' : (vs.map some)[j]? = some (some u') := by simpa using y1
        rw [z3] at y1'; cases y1'
        exact ⟨u, by simpa using z4, y2.sub obIn⟩
  · cases i with
    | zero =>
      obtain ⟨a, o, y1, y2, y3⟩ := hc.own 0 e (by simpa using q) z
      exact ⟨a, o, by simpa using y1, y2, y3.sub obIn⟩
    | succ i =>
      rcases sl i e (by simpa using q) with ⟨z1, z2⟩ | ⟨j, u, z1, z2, z3, z4⟩
      · obtain ⟨a, o, y1, y2, y3, _⟩ := kept z1 z z2
        exact ⟨a, o, by simpa using y1, y2, y3⟩
      · obtain ⟨a, o, y1, y2, y3⟩ := hc.own (j + 1) e (by simpa using z2) z
        have y1' : (vs.map some)[j]? = some (some (.ref a)) := by simpa using y1
        rw [z3] at y1'; cases y1'
        exact ⟨a, o, by simpa using z4, y2, y3.sub obIn⟩
  · -- no two of them alike
    have front : ∀ {i : Nat} {e : En}, r.isOwn = true → v = .ref a → (backs ops cs es)[i]? = some e → e.isOwn = true → σ[i]? = some (some (.ref a)) → False := fun {i e} w1 w2 w3 w4 w5 => by
      rcases sl i e w3 with ⟨z1, z2⟩ | ⟨j, u, z1, z2, z3, z4⟩
      · obtain ⟨b, o, y1, y2, y3, y4⟩ := kept z1 w4 z2
        rw [w5] at y1; cases y1
        exact y4 (ow_cons.mpr (.inl ⟨w1, w2⟩))
      · rw [w5] at z4; cases z4
        have := hc.inj 0 (j + 1) r e a rfl w1 (by simpa using z2) w4 (by simp [w2]) (by simpa using z3)
        omega
    cases i with
    | zero =>
      cases i' with
      | zero => rfl
      | succ i' =>
        simp at q1 q5; subst q1
        exact (front q2 q5 (by simpa using q3) q4 (by simpa using q6)).elim
    | succ i =>
      cases i' with
      | zero =>
        simp at q3 q6; subst q3
        exact (front q4 q6 (by simpa using q1) q2 (by simpa using q5)).elim
      | succ i' =>
        have q5' : σ[i]? = some (some (.ref a)) := by simpa using q5
        have q6' : σ[i']? = some (some (.ref a)) := by simpa using q6
        rcases sl i e (by simpa using q1) with ⟨z1, z2⟩ | ⟨j, u, z1, z2, z3, z4⟩
        · rcases sl i' f (by simpa using q3) with ⟨x1, x2⟩ | ⟨j', u', x1, x2, x3, x4⟩
          · rw [A.inj i i' e f a z1 q2 x1 q4 q5' q6']
          · obtain ⟨b, o, y1, y2, y3, y4⟩ := kept z1 q2 z2
            rw [q5'] at y1; cases y1
            rw [q6'] at x4; cases x4
            exact (y4 (ow_cons.mpr (.inr ⟨j', f, x2, q4, x3⟩))).elim
        · rcases sl i' f (by simpa using q3) with ⟨x1, x2⟩ | ⟨j', u', x1, x2, x3, x4⟩
          · obtain ⟨b, o, y1, y2, y3, y4⟩ := kept x1 q4 x2
            rw [q6'] at y1; cases y1
            rw [q5'] at z4; cases z4
            exact (y4 (ow_cons.mpr (.inr ⟨j, e, z2, q2, z3⟩))).elim
          · rw [q5'] at z4; cases z4
            rw [q6'] at x4; cases x4
            have := hc.inj (j + 1) (j' + 1) e f a (by simpa using z2) q2 (by simpa using x2) q4 (by simpa using z3) (by simpa using x3)
            have : j = j' := by omega
            subst this
            rw [z1] at x1; cases x1; rfl
  · obtain ⟨⟨o, e⟩, n⟩ := A.out a z
    obtain ⟨w1, w2⟩ := k a o e fun q => n (sub a q)
    exact ⟨⟨o, w1⟩, fun q => (owIn a q).elim w2 fun q => n q.1⟩
end
end Dt

set_option Elab.async false
set_option linter.all false
set_option maxRecDepth 100000
set_option maxHeartbeats 1000000
/-! DtG: calls of defs; statements. -/
namespace Dt
open PySem PySem.Spec PyProof.Rows L2

section
variable {G : Gm} {B : AP} {es : List En} {σ : Sl} {H : Hp}
def cvs : List D → List V → Prop
  | [], [] => True
  | d :: ds, v :: vs => d.cv = some v ∧ cvs ds vs
  | _, _ => False
def dOps (dfl : List D) : List Opd := dfl.map fun d => .ex (eC d)
theorem Args.dfl : ∀ {dfl : List D} {dvs : List V}, cvs dfl dvs → Args G B es σ H (dOps dfl) dvs (dfl.map .val)
  | [], [], _ => .nil
  | d :: ds, v :: vs, ⟨h1, h2⟩ => .ex (has_cv h1) (Args.dfl h2)
theorem Args.append {ops ops' : List Opd} {vs vs' : List V} {as as' : List En} (h : Args G B es σ H ops vs as) (h' : Args G B es σ H ops' vs' as') : Args G B es σ H (ops ++ ops') (vs ++ vs') (as ++ as') := by
  induction h with
  | nil => exact h'
  | sl h1 h2 t ih => exact .sl h1 h2 ih
  | ex h t ih => exact .ex h ih
theorem ownSl_d (s : List En) : ∀ {ops : List Opd} {dfl : List D}, ownSl (ops ++ dOps dfl) s = ownSl ops s
  | [], [] => rfl
  | [], d :: ds => ownSl_d s (ops := []) (dfl := ds)
  | .sl i :: ops, dfl => by
    show (if isOwnAt s i then i :: ownSl (ops ++ dOps dfl) s else ownSl (ops ++ dOps dfl) s) = if isOwnAt s i then i :: ownSl ops s else ownSl ops s
    rw [ownSl_d]
  | .ex _ :: ops, dfl => ownSl_d s (ops := ops)
theorem backs_d0 (s : List En) : ∀ {dfl : List D} {cs : List En}, backs (dOps dfl) cs s = s
  | [], _ => rfl
  | d :: ds, [] => rfl
  | d :: ds, c :: cs => backs_d0 s (dfl := ds)
theorem backs_d (s : List En) : ∀ {ops : List Opd} {dfl : List D} {cs : List En}, backs (ops ++ dOps dfl) cs s = backs ops cs s
  | [], dfl, cs => backs_d0 s
  | .sl i :: ops, dfl, [] => rfl
  | .ex _ :: ops, dfl, [] => rfl
  | .sl i :: ops, dfl, c :: cs => by
    show (if isOwnAt s i then (backs (ops ++ dOps dfl) cs s).set i c else backs (ops ++ dOps dfl) cs s) = if isOwnAt s i then (backs ops cs s).set i c else backs ops cs s
    rw [backs_d]
  | .ex _ :: ops, dfl, c :: cs => backs_d s (ops := ops)
theorem HasX.sub {O O' : AP} {H : Hp} {x : Xn} {cls : Value} {dd : Option Addr} (h : HasX G O H x cls dd) (s : ∀ a, O' a → O a) : HasX G O' H x cls dd := by
  obtain ⟨C, h1, h2, h3, h4⟩ := h
  refine ⟨C, h1, h2, h3, h4.imp id fun ⟨d, vs, q1, q2, q3, q4⟩ => ⟨d, vs, q1, q2, q3, q4.sub s⟩⟩
/-- a callee keeps its promise at these arguments: what a caller has behind it -/
theorem sp_call {F : ME} {ops : List Opd} {vs dvs : List V} {dfl : List D} {as : List En} (hF : MonoE F) (A : At G B es σ H) (h : Args G B es σ H ops vs as) (hd : cvs dfl dvs) (hn : (ownSl ops es).Nodup) {K : En → List En → Prop} {X' : QX} {Q : VK} {E : XK}
    (q : F (as ++ dfl.map .val) (fun r cs => K r (backs ops cs es)) (fun x cs => X' x (backs ops cs es)))
    (hK : ∀ r es' v H', K r es' → At G B (r :: es') (some v :: σ) H' → Kp (Ow es σ) H (Ow (r :: es') (some v :: σ)) H' → Q v H')
    (hX : ∀ x es' cls dd H', X' x es' → At G B es' σ H' → Kp (Ow es σ) H (Ow es' σ) H' → HasX G (OB B es' σ) H' x cls dd → E cls dd H') : spF G F (vs ++ dvs) H Q E := by
  have h' := h.append (Args.dfl (G := G) (B := B) (es := es) (σ := σ) (H := H) hd)
  have hn' : (ownSl (ops ++ dOps dfl) es).Nodup := by rw [ownSl_d]; exact hn
  obtain ⟨A1, sub⟩ := h'.at A hn'
  refine ⟨_, _, A1, hF _ _ _ _ _ (fun r cs z v H' A' k => ?_) (fun x cs z cls dd H' A' k hx => ?_) q⟩
  · obtain ⟨⟨A2, k2⟩, _⟩ := h'.back A hn' A' k
    rw [backs_d] at A2 k2
    exact hK r _ v H' z A2 k2
  · obtain ⟨⟨A2, k2⟩, o2⟩ := h'.back A hn' (r := .val .non) (v := .non) (A'.consVal (by simp)) (fun a o q n => ⟨(k a o q n).1, fun z => (k a o q n).2 (ow_val.mp z)⟩)
    rw [backs_d] at A2 k2 o2
    exact hX x _ cls dd H' z A2.tail k2.tail (hx.sub fun a z => ob_val.mp (o2 a (ob_val.mpr z)))
end
section
variable {G : Gm} {X : Cx} {e : Expr} {es : List Expr} {ops : List Opd} {F : ME} {k : Nat} {f : Addr} {fd : FuncData} {ps : List Str} {x : Str} {p pos : Pos} {ds : List Value} {dvs : List V} {dfl : List D}
theorem eCall_of {B : AP} {W : WX} {σ : Sl} {H : Hp} {Q : VK} (hF : MonoE F) (hm : ∀ o ∈ ops, o.Mono) (hd : cvs dfl dvs) (h : rdE G B (eCall F ops dfl) W σ H Q) : rdA G B W ops σ H fun vs H1 => spF G F (vs ++ dvs) H1 Q (WE W σ) := by
  obtain ⟨es, A, h⟩ := h
  refine rdA_of hm A h (fun ds' es' vs H' q A' k o => ?_) (fun x es' q => q)
  obtain ⟨as, h1, hn, h2⟩ := args_of o q
  refine sp_call (K := fun r es' => ∀ (v : V) (H' : Hp), At G B (r :: es') (some v :: σ) H' → Kp (Ow es σ) H (Ow (r :: es') (some v :: σ)) H' → Q v H') (X' := XP G B es σ H W) hF A' h1 hd hn h2 (fun r es2 v H2 z A2 k2 => z v H2 A2 (k.trans k2)) (fun x es2 cls dd H2 z A2 k2 hx => z cls dd H2 A2 (k.trans k2) hx)
/-- f(e, ..) -/
theorem de_call (F' : FnOk X.prog X.w X.K X.mg X.base (L2.CX X.prog X.w) k f fd ps (spF G F)) (hF : MonoE F) (hr : Room k X.A) (hg : Gl X x) (hm : X.mg x = some (.ref f)) (hk : PySem.W.keepIn X.K (.ref f) = true) (hb : Binds X.K fd ps ds) (hd : Vals dvs ds) (hc : cvs dfl dvs)
    (ha : DOs G X (e :: es) ops) (hn : noStar e = true) (ht : DOs G X es ops.tail) (hdb : (x == ("__debug__" : Str)) = false) : DE G X (.Call (.Name x p) (e :: es) [] pos) (eCall F ops dfl) :=
  ⟨mono_eCall hF ha.mono, fun B W tk => PE.wk (pe_callSD F' hr hg hm hk hb hd (fun σ => passAt tk σ) (ha.run B W tk) hdb (starEach_cons hn) (ht.nostar pos)) fun σ H Q q => eCall_of hF ha.mono hc q⟩
end
end Dt

set_option Elab.async false
set_option linter.all false
set_option maxRecDepth 100000
set_option maxHeartbeats 1000000
/-! DtH: statements in plain data. -/
namespace Dt
open PySem PySem.Spec PyProof.Rows L2

/-- what is wanted behind a statement -/
structure Pn where
  nx : List En → Prop
  rt : En → List En → Prop
  bk : List En → Prop
  ct : List En → Prop
  ex : QX
structure Pn.Le (D D' : Pn) : Prop where
  nx : ∀ s, D.nx s → D'.nx s
  rt : ∀ r s, D.rt r s → D'.rt r s
  bk : ∀ s, D.bk s → D'.bk s
  ct : ∀ s, D.ct s → D'.ct s
  ex : ∀ x s, D.ex x s → D'.ex x s
abbrev MS := List En → Pn → Prop
def MonoS (m : MS) : Prop := ∀ s D D', Pn.Le D D' → m s D → m s D'
theorem Pn.Le.refl (D : Pn) : Pn.Le D D := ⟨fun _ h => h, fun _ _ h => h, fun _ h => h, fun _ h => h, fun _ _ h => h⟩
/-- the slots at l are not stored to -/
def Pin (l : List Nat) (σ σ' : Sl) : Prop := σ'.length = σ.length ∧ ∀ i ∈ l, σ'[i]? = σ[i]?
theorem Pin.refl (l : List Nat) (σ : Sl) : Pin l σ σ := ⟨rfl, fun _ _ => rfl⟩
theorem Pin.trans {l : List Nat} {σ σ1 σ2 : Sl} (a : Pin l σ σ1) (b : Pin l σ1 σ2) : Pin l σ σ2 := ⟨b.1.trans a.1, fun i h => (b.2 i h).trans (a.2 i h)⟩
def pn (G : Gm) (B : AP) (l : List Nat) (es : List En) (σ : Sl) (H : Hp) (D : Ends) (W : WX) : Pn where
  nx := fun es' => ∀ σ' H', At G B es' σ' H' → Kp (Ow es σ) H (Ow es' σ') H' → Pin l σ σ' → D.nx σ' H'
  rt := fun r es' => ∀ v σ' H', At G B (r :: es') (some v :: σ') H' → Kp (Ow es σ) H (Ow (r :: es') (some v :: σ')) H' → Pin l σ σ' → D.rt v H'
  bk := fun es' => ∀ σ' H', At G B es' σ' H' → Kp (Ow es σ) H (Ow es' σ') H' → Pin l σ σ' → D.bk σ' H'
  ct := fun es' => ∀ σ' H', At G B es' σ' H' → Kp (Ow es σ) H (Ow es' σ') H' → Pin l σ σ' → D.ct σ' H'
  ex := fun x es' => ∀ cls dd σ' H', At G B es' σ' H' → Kp (Ow es σ) H (Ow es' σ') H' → Pin l σ σ' → HasX G (OB B es' σ') H' x cls dd → W cls dd σ' H'
def rdS (G : Gm) (B : AP) (l : List Nat) (m : MS) (W : WX) : TS := fun D σ H => ∃ es, At G B es σ H ∧ m es (pn G B l es σ H D W)
structure DS (G : Gm) (l : List Nat) (X : Cx) (st : Stmt) (m : MS) : Prop where
  mono : MonoS m
  run : ∀ (B : AP) (W : WX), Takes X W → PS X st (rdS G B l m W)
structure DSs (G : Gm) (l : List Nat) (X : Cx) (st : List Stmt) (m : MS) : Prop where
  mono : MonoS m
  run : ∀ (B : AP) (W : WX), Takes X W → PSs X st (rdS G B l m W)
section
variable {G : Gm} {B : AP} {l : List Nat} {X : Cx} {st : Stmt} {sts : List Stmt} {m m' mb : MS} {me : ME} {mt : MT} {e c : Expr} {pos : Pos}
  {es es' : List En} {σ σ' : Sl} {H H' : Hp} {D : Ends} {W : WX}
/-- the wants, from a later state on -/
theorem pn_after (k : Kp (Ow es σ) H (Ow es' σ') H') (p : Pin l σ σ') : Pn.Le (pn G B l es σ H D W) (pn G B l es' σ' H' D W) where
  nx := fun s h σ2 H2 A k2 p2 => h σ2 H2 A (k.trans k2) (p.trans p2)
  rt := fun r s h v σ2 H2 A k2 p2 => h v σ2 H2 A (k.trans k2) (p.trans p2)
  bk := fun s h σ2 H2 A k2 p2 => h σ2 H2 A (k.trans k2) (p.trans p2)
  ct := fun s h σ2 H2 A k2 p2 => h σ2 H2 A (k.trans k2) (p.trans p2)
  ex := fun x s h cls dd σ2 H2 A k2 p2 hx => h cls dd σ2 H2 A (k.trans k2) (p.trans p2) hx
theorem rdS_after (hm : MonoS m) (A : At G B es' σ' H') (k : Kp (Ow es σ) H (Ow es' σ') H') (p : Pin l σ σ') (h : m es' (pn G B l es σ H D W)) : rdS G B l m W D σ' H' := ⟨es', A, hm _ _ _ (pn_after k p) h⟩
/-! ### one after another -/
def sNext : MS := fun s D => D.nx s
def sSeq (m m' : MS) : MS := fun s D => m s { D with nx := fun s' => m' s' D }
theorem mono_sSeq (h : MonoS m) (h' : MonoS m') : MonoS (sSeq m m') := fun s D D' le q => h s { D with nx := fun s' => m' s' D } { D' with nx := fun s' => m' s' D' } ⟨fun s z => h' _ _ _ le z, le.rt, le.bk, le.ct, le.ex⟩ q
theorem rdS_next (h : rdS G B l sNext W D σ H) : D.nx σ H := by
  obtain ⟨es, A, h⟩ := h
  exact h σ H A (Kp.refl _ _) (Pin.refl _ _)
theorem dss_nil : DSs G l X [] sNext := ⟨fun s D D' le q => le.nx _ q, fun B W _ => PSs.wk pss_nil fun D σ H q => rdS_next q⟩
theorem dss_cons (h : DS G l X st m) (h' : DSs G l X sts m') : DSs G l X (st :: sts) (sSeq m m') :=
  ⟨mono_sSeq h.mono h'.mono, fun B W tk => PSs.wk (pss_cons (h.run B W tk) (h'.run B W tk)) fun D σ H ⟨es, A, q⟩ =>
    ⟨es, A, h.mono es { pn G B l es σ H D W with nx := fun s' => m' s' (pn G B l es σ H D W) } _ ⟨fun s z σ2 H2 A2 k2 p2 => rdS_after h'.mono A2 k2 p2 z, fun _ _ z => z, fun _ z => z, fun _ z => z, fun _ _ z => z⟩ q⟩⟩
theorem ds_pass : DS G l X (.Pass pos) sNext := ⟨fun s D D' le q => le.nx _ q, fun B W _ => PS.wk ps_pass fun D σ H q => rdS_next q⟩
def sBreak : MS := fun s D => D.bk s
def sCont : MS := fun s D => D.ct s
theorem ds_break : DS G l X (.Break pos) sBreak := ⟨fun s D D' le q => le.bk _ q, fun B W _ => PS.wk ps_break fun D σ H ⟨es, A, h⟩ => h σ H A (Kp.refl _ _) (Pin.refl _ _)⟩
theorem ds_cont : DS G l X (.Continue pos) sCont := ⟨fun s D D' le q => le.ct _ q, fun B W _ => PS.wk ps_continue fun D σ H ⟨es, A, h⟩ => h σ H A (Kp.refl _ _) (Pin.refl _ _)⟩
/-- the exception of an expression, as the statement's -/
theorem ex_of {x : Xn} {s : List En} (h : (pn G B l es σ H D W).ex x s) : XP G B es σ H W x s := fun cls dd H' A k hx => h cls dd σ H' A k (Pin.refl _ _) hx
def sDrop (me : ME) : MS := fun s D => me s (fun _ s' => D.nx s') D.ex
theorem ds_expr (h : DE G X e me) (hs : swapsWith e none pos.line X.env = pure false) : DS G l X (.Expr e pos) (sDrop me) :=
  ⟨fun s D D' le q => h.mono _ _ _ _ _ (fun _ _ z => le.nx _ z) (fun _ _ z => le.ex _ _ z) q, fun B W tk => PS.wk (ps_expr (h.run B W tk) hs) fun D σ H ⟨es, A, q⟩ =>
    ⟨es, A, h.mono _ _ _ _ _ (fun r s z v H' A' k => z σ H' A'.tail k.tail (Pin.refl _ _)) (fun x s z => ex_of z) q⟩⟩
def sRet (me : ME) : MS := fun s D => me s (fun r s' => D.rt r s') D.ex
theorem ds_ret (h : DE G X e me) : DS G l X (.Return (some e) pos) (sRet me) :=
  ⟨fun s D D' le q => h.mono _ _ _ _ _ (fun _ _ z => le.rt _ _ z) (fun _ _ z => le.ex _ _ z) q, fun B W tk => PS.wk (ps_ret (h.run B W tk)) fun D σ H ⟨es, A, q⟩ =>
    ⟨es, A, h.mono _ _ _ _ _ (fun r s z v H' A' k => z v σ H' A' k (Pin.refl _ _)) (fun x s z => ex_of z) q⟩⟩
def sRetN : MS := fun s D => D.rt (.val .non) s
theorem ds_retN : DS G l X (.Return none pos) sRetN := ⟨fun s D D' le q => le.rt _ _ q, fun B W _ => PS.wk ps_retN fun D σ H ⟨es, A, h⟩ =>
  h .non σ H (A.consVal (by simp)) (fun a o q n => ⟨q, fun z => n (ow_val.mp z)⟩) (Pin.refl _ _)⟩
/-- return told: the list is the caller's -/
def sRetSl (i : Nat) : MS := fun s D => match s[i]? with
  | some (.own xs) => D.rt (.own xs) (s.set i .un)
  | some (.val d) => D.rt (.val d) s
  | _ => False
def sIf (mt : MT) (m m' : MS) : MS := fun s D => mt s (fun b s' => if b = true then m s' D else m' s' D) D.ex
theorem ds_if {a b : List Stmt} (hc : DT G X c mt) (ha : DSs G l X a m) (hb : DSs G l X b m') : DS G l X (.If c a b pos) (sIf mt m m') :=
  ⟨fun s D D' le q => hc.mono _ _ _ _ _ (fun k s z => by
    cases k with
    | true => exact ha.mono _ _ _ le z
    | false => exact hb.mono _ _ _ le z) (fun _ _ z => le.ex _ _ z) q, fun B W tk => PS.wk (ps_if (hc.run B W tk) (ha.run B W tk) (hb.run B W tk)) fun D σ H ⟨es, A, q⟩ =>
    ⟨es, A, hc.mono _ _ _ _ _ (fun k s z H' A' kp => by
      cases k with
      | true => exact iteT (rdS_after ha.mono A' kp (Pin.refl _ _) z)
      | false => exact iteF (rdS_after hb.mono A' kp (Pin.refl _ _) z)) (fun x s z => ex_of z) q⟩⟩
/-! ### stores to names -/
theorem pin_set {i : Nat} {v : Option V} (hi : i ∉ l) : Pin l σ (σ.set i v) := ⟨by simp, fun j hj => by
  rw [List.getElem?_set_ne (fun e => hi (by rw [e]; exact hj))]⟩
/-- the value in front goes to slot i -/
theorem At.store {r : En} {v : V} (A : At G B (r :: es) (some v :: σ) H) (i : Nat) (hi : i < es.length) : At G B (es.set i r) (σ.set i (some v)) H ∧ ∀ a, Ow (es.set i r) (σ.set i (some v)) a → Ow (r :: es) (some v :: σ) a := by
  have hl : es.length = σ.length := A.tail.len
  -- where a slot's entry stood
  have wh : ∀ (j : Nat) (e : En), (es.set i r)[j]? = some e → ∃ j', (r :: es)[j']? = some e ∧ (some v :: σ)[j']? = (σ.set i (some v))[j]? ∧ ((j = i ∧ j' = 0) ∨ (j ≠ i ∧ j' = j + 1)) := fun j e q => by
    by_cases hj : i = j
    · subst hj
      rw [List.getElem?_set_self hi] at q
      refine ⟨0, by simpa using q, ?_, .inl ⟨rfl, rfl⟩⟩
      rw [List.getElem?_set_self (by omega)]; rfl
    · rw [List.getElem?_set_ne hj] at q
      refine ⟨j + 1, by simpa using q, ?_, .inr ⟨fun e => hj e.symm, rfl⟩⟩
      rw [List.getElem?_set_ne hj]; rfl
  have sub : ∀ a, Ow (es.set i r) (σ.set i (some v)) a → Ow (r :: es) (some v :: σ) a := fun a ⟨j, e, q1, q2, q3⟩ => by
    obtain ⟨j', z1, z2, _⟩ := wh j e q1
    exact ⟨j', e, z1, q2, z2.trans q3⟩
  refine ⟨⟨by simp [hl], fun j d q => ?_, fun j e q z => ?_, fun j j2 e f a q1 q2 q3 q4 q5 q6 => ?_, fun a z => ⟨(A.out a z).1, fun q => (A.out a z).2 (sub a q)⟩⟩, sub⟩
  · obtain ⟨j', z1, z2, _⟩ := wh j _ q
    obtain ⟨u, y1, y2⟩ := A.val j' d z1
    exact ⟨u, z2.symm.trans y1, y2.sub (OB.sub sub)⟩
  · obtain ⟨j', z1, z2, _⟩ := wh j _ q
    obtain ⟨a, o, y1, y2, y3⟩ := A.own j' e z1 z
    exact ⟨a, o, z2.symm.trans y1, y2, y3.sub (OB.sub sub)⟩
  · obtain ⟨j', z1, z2, z3⟩ := wh j _ q1
    obtain ⟨k', y1, y2, y3⟩ := wh j2 _ q3
    have := A.inj j' k' e f a z1 q2 y1 q4 (z2.trans q5) (y2.trans q6)
    omega
def sSet (i : Nat) (me : ME) : MS := fun s D => me s (fun r s' => i < s'.length ∧ D.nx (s'.set i r)) D.ex
theorem mono_sSet {i : Nat} (h : MonoE me) : MonoS (sSet i me) := fun s D D' le q => h _ _ _ _ _ (fun _ _ z => ⟨z.1, le.nx _ z.2⟩) (fun _ _ z => le.ex _ _ z) q
theorem rdS_set {i : Nat} (hi : i ∉ l) (h : MonoE me) (q : rdS G B l (sSet i me) W D σ H) : tAsg (rdE G B me W) (gName i) D σ H := by
  obtain ⟨es, A, q⟩ := q
  refine ⟨es, A, h _ _ _ _ _ (fun r s z v H' A' k => ?_) (fun x s z => ex_of z) q⟩
  obtain ⟨z1, z2⟩ := z
  obtain ⟨A2, s2⟩ := A'.store i z1
  exact z2 _ H' A2 (fun a o q n => ⟨(k a o q n).1, fun z => (k a o q n).2 (s2 a z)⟩) (pin_set hi)
theorem ds_set {i : Nat} {x : Str} {pos' : Pos} (hl : i ∉ l) (h : DE G X e me) (hN : X.N.Nodup) (hi : X.N[i]? = some x) (hx : Loc X.env.scope x) (hs : swapsWith e (some (.Name x pos')) pos.line X.env = pure false) (hf : X.fn x = true ∨ X.env.scope.names.lookup x = some .local) :
    DS G l X (.Assign [.Name x pos'] e pos) (sSet i me) := ⟨mono_sSet h.mono, fun B W tk => PS.wk (ps_set hN hi hx (h.run B W tk) hs hf) fun D σ H q => rdS_set hl h.mono q⟩
/-! ### while -/
/-- what is wanted may be said stronger -/
def upE (m : ME) : ME := fun s Q X => ∃ (Q' : En → List En → Prop) (X' : QX), (∀ r s, Q' r s → Q r s) ∧ (∀ x s, X' x s → X x s) ∧ m s Q' X'
def upT (m : MT) : MT := fun s Q X => ∃ (Q' : Bool → List En → Prop) (X' : QX), (∀ r s, Q' r s → Q r s) ∧ (∀ x s, X' x s → X x s) ∧ m s Q' X'
def upS (m : MS) : MS := fun s D => ∃ D', Pn.Le D' D ∧ m s D'
theorem Pn.Le.trans {D D1 D2 : Pn} (a : Pn.Le D D1) (b : Pn.Le D1 D2) : Pn.Le D D2 := ⟨fun s h => b.nx s (a.nx s h), fun r s h => b.rt r s (a.rt r s h), fun s h => b.bk s (a.bk s h), fun s h => b.ct s (a.ct s h), fun x s h => b.ex x s (a.ex x s h)⟩
theorem mono_upE (m : ME) : MonoE (upE m) := fun s Q Q' X X' hQ hX ⟨Q1, X1, h1, h2, h3⟩ => ⟨Q1, X1, fun r s z => hQ _ _ (h1 r s z), fun x s z => hX _ _ (h2 x s z), h3⟩
theorem mono_upT (m : MT) : MonoT (upT m) := fun s Q Q' X X' hQ hX ⟨Q1, X1, h1, h2, h3⟩ => ⟨Q1, X1, fun r s z => hQ _ _ (h1 r s z), fun x s z => hX _ _ (h2 x s z), h3⟩
theorem mono_upS (m : MS) : MonoS (upS m) := fun s D D' le ⟨D1, h1, h2⟩ => ⟨D1, h1.trans le, h2⟩
theorem upE_eq {m : ME} (h : MonoE m) {s : List En} {Q : En → List En → Prop} {X : QX} (q : upE m s Q X) : m s Q X := by
  obtain ⟨Q1, X1, h1, h2, h3⟩ := q
  exact h _ _ _ _ _ h1 h2 h3
theorem upT_eq {m : MT} (h : MonoT m) {s : List En} {Q : Bool → List En → Prop} {X : QX} (q : upT m s Q X) : m s Q X := by
  obtain ⟨Q1, X1, h1, h2, h3⟩ := q
  exact h _ _ _ _ _ h1 h2 h3
theorem upS_eq {m : MS} (h : MonoS m) {s : List En} {D : Pn} (q : upS m s D) : m s D := by
  obtain ⟨D1, h1, h2⟩ := q
  exact h _ _ _ h1 h2
theorem upE_of {m : ME} {s : List En} {Q : En → List En → Prop} {X : QX} (q : m s Q X) : upE m s Q X := ⟨Q, X, fun _ _ z => z, fun _ _ z => z, q⟩
theorem upT_of {m : MT} {s : List En} {Q : Bool → List En → Prop} {X : QX} (q : m s Q X) : upT m s Q X := ⟨Q, X, fun _ _ z => z, fun _ _ z => z, q⟩
theorem upS_of {m : MS} {s : List En} {D : Pn} (q : m s D) : upS m s D := ⟨D, Pn.Le.refl D, q⟩
def whN (mt : MT) (mb : MS) : Nat → MS
  | 0, _, _ => False
  | n + 1, s, D => upT mt s (fun k s' => if k = true then upS mb s' { D with nx := fun s2 => whN mt mb n s2 D, ct := fun s2 => whN mt mb n s2 D, bk := D.nx } else D.nx s') D.ex
def sWhile (mt : MT) (mb : MS) : MS := fun s D => ∃ n, whN mt mb n s D
theorem mono_whN : ∀ n, MonoS (whN mt mb n)
  | 0, _, _, _, _, q => q.elim
  | n + 1, s, D, D', le, q => mono_upT mt _ _ _ _ _ (fun k s z => by
    cases k with
    | true => exact mono_upS mb s { D with nx := fun s2 => whN mt mb n s2 D, ct := fun s2 => whN mt mb n s2 D, bk := D.nx } { D' with nx := fun s2 => whN mt mb n s2 D', ct := fun s2 => whN mt mb n s2 D', bk := D'.nx } ⟨fun s z => mono_whN n _ _ _ le z, le.rt, le.nx, fun s z => mono_whN n _ _ _ le z, le.ex⟩ z
    | false => exact le.nx _ z) (fun _ _ z => le.ex _ _ z) q
/-- a while by a word and a number that falls -/
theorem while_pure {s : List En} {D : Pn} (I : List En → Prop) (μ : List En → Nat) (h0 : I s) (ht : ∀ s, I s → mt s (fun k s' => if k = true then mb s' { D with nx := fun s2 => I s2 ∧ μ s2 < μ s, ct := fun s2 => I s2 ∧ μ s2 < μ s, bk := D.nx } else D.nx s') D.ex) : sWhile mt mb s D := by
  have key : ∀ n s, μ s < n → I s → whN mt mb n s D := by
    intro n
    induction n with
    | zero => intro s h; omega
    | succ n ih =>
      intro s hn hi
      refine ⟨_, _, fun k s' z => ?_, fun _ _ z => z, ht s hi⟩
      cases k with
      | false => exact z
      | true => exact ⟨{ D with nx := fun s2 => I s2 ∧ μ s2 < μ s, ct := fun s2 => I s2 ∧ μ s2 < μ s, bk := D.nx }, ⟨fun s2 (q : I s2 ∧ μ s2 < μ s) => ih s2 (by omega) q.1, fun _ _ q => q, fun _ q => q, fun s2 (q : I s2 ∧ μ s2 < μ s) => ih s2 (by omega) q.1, fun _ _ q => q⟩, z⟩
  exact ⟨_, key _ s (Nat.lt_succ_self _) h0⟩
theorem ds_while {body : List Stmt} (hp : PassesOwn (model X.prog X.w) X.A X.env X.xe) (hc : DT G X c mt) (hb : DSs G l X body mb) : DS G l X (.While c body [] pos) (sWhile mt mb) := by
  refine ⟨fun s D D' le ⟨n, q⟩ => ⟨n, mono_whN n _ _ _ le q⟩, fun B W tk => PS.wk (ps_while hp (hc.run B W tk) (hb.run B W tk)) fun D σ H ⟨es, A, n, q⟩ => ?_⟩
  refine ⟨fun n σ' H' => ∃ es', At G B es' σ' H' ∧ Kp (Ow es σ) H (Ow es' σ') H' ∧ Pin l σ σ' ∧ whN mt mb n es' (pn G B l es σ H D W), ⟨n, es, A, Kp.refl _ _, Pin.refl _ _, q⟩, ?_⟩
  rintro n σ1 H1 ⟨es1, A1, k1, p1, q1⟩
  cases n with
  | zero => exact q1.elim
  | succ n =>
    refine ⟨es1, A1, hc.mono _ _ _ _ _ (fun k s z H2 A2 k2 => ?_) (fun x s z cls dd H2 A2 k2 hx => z cls dd σ1 H2 A2 (k1.trans k2) p1 hx) (upT_eq hc.mono q1)⟩
    cases k with
    | false => exact iteF (z σ1 H2 A2 (k1.trans k2) p1)
    | true =>
      refine iteT ⟨fun σ' H' => ∃ es', At G B es' σ' H' ∧ Kp (Ow es σ) H (Ow es' σ') H' ∧ Pin l σ σ' ∧ whN mt mb n es' (pn G B l es σ H D W), fun σ' H' h => ⟨n, Nat.lt_succ_self n, h⟩, ?_⟩
      refine ⟨s, A2, hb.mono s { pn G B l es σ H D W with nx := fun s2 => whN mt mb n s2 (pn G B l es σ H D W), ct := fun s2 => whN mt mb n s2 (pn G B l es σ H D W), bk := (pn G B l es σ H D W).nx } _ ?_ (upS_eq hb.mono z)⟩
      exact ⟨fun s z σ3 H3 A3 k3 p3 => ⟨s, A3, (k1.trans k2).trans k3, p1.trans p3, z⟩, fun r s z v σ3 H3 A3 k3 p3 => z v σ3 H3 A3 ((k1.trans k2).trans k3) (p1.trans p3), fun s z σ3 H3 A3 k3 p3 => z σ3 H3 A3 ((k1.trans k2).trans k3) (p1.trans p3),
        fun s z σ3 H3 A3 k3 p3 => ⟨s, A3, (k1.trans k2).trans k3, p1.trans p3, z⟩, fun x s z cls dd σ3 H3 A3 k3 p3 hx => z cls dd σ3 H3 A3 ((k1.trans k2).trans k3) (p1.trans p3) hx⟩
end
end Dt

set_option Elab.async false
set_option linter.all false
set_option maxRecDepth 100000
set_option maxHeartbeats 1000000
/-! DtI: targets, lists changed, for loops. -/
namespace Dt
open PySem PySem.Spec PyProof.Rows L2

/-- a target: a name's slot, or several -/
inductive Pt where
  | nm (i : Nat) | tp (ps : List Pt)
mutual
def bindP : Pt → D → List En → (List En → Prop) → Prop
  | .nm i, d, s, k => i < s.length ∧ k (s.set i (.val d))
  | .tp ps, .tup ds, s, k => bindL ps ds s k
  | .tp ps, .lst ds, s, k => bindL ps ds s k
  | .tp _, _, _, _ => False
def bindL : List Pt → List D → List En → (List En → Prop) → Prop
  | [], [], s, k => k s
  | p :: ps, d :: ds, s, k => bindP p d s fun s' => bindL ps ds s' k
  | _, _, _, _ => False
end
mutual
theorem bindP_mono : ∀ {p : Pt} {d : D} {s : List En} {k k' : List En → Prop}, (∀ s, k s → k' s) → bindP p d s k → bindP p d s k'
  | .nm i, d, s, k, k', h, q => by
    unfold bindP at q ⊢
    exact ⟨q.1, h _ q.2⟩
  | .tp ps, .tup ds, s, k, k', h, q => by unfold bindP at q ⊢; exact bindL_mono h q
  | .tp ps, .lst ds, s, k, k', h, q => by unfold bindP at q ⊢; exact bindL_mono h q
  | .tp _, .non, _, _, _, _, q => by unfold bindP at q; exact q.elim
  | .tp _, .bl _, _, _, _, _, q => by unfold bindP at q; exact q.elim
  | .tp _, .int _, _, _, _, _, q => by unfold bindP at q; exact q.elim
  | .tp _, .str _, _, _, _, _, q => by unfold bindP at q; exact q.elim
  | .tp _, .obj _ _ _, _, _, _, _, q => by unfold bindP at q; exact q.elim
theorem bindL_mono : ∀ {ps : List Pt} {ds : List D} {s : List En} {k k' : List En → Prop}, (∀ s, k s → k' s) → bindL ps ds s k → bindL ps ds s k'
  | [], [], s, k, k', h, q => by unfold bindL at q ⊢; exact h _ q
  | p :: ps, d :: ds, s, k, k', h, q => by
    unfold bindL at q ⊢
    exact bindP_mono (fun s z => bindL_mono h z) q
  | [], _ :: _, _, _, _, _, q => by unfold bindL at q; exact q.elim
  | _ :: _, [], _, _, _, _, q => by unfold bindL at q; exact q.elim
end
mutual
/-- the slots of a target -/
def Pt.slots : Pt → List Nat
  | .nm i => [i]
  | .tp ps => slotsL ps
def slotsL : List Pt → List Nat
  | [] => []
  | p :: ps => p.slots ++ slotsL ps
end
def rdG (G : Gm) (B : AP) (l : List Nat) (p : Pt) : TG := fun v σ H Q => ∃ es d, At G B es σ H ∧ Has G (OB B es σ) H d v ∧
  bindP p d es fun es' => ∀ σ', At G B es' σ' H → Kp (Ow es σ) H (Ow es' σ') H → Pin l σ σ' → Q σ' H
def rdGs (G : Gm) (B : AP) (l : List Nat) (ps : List Pt) : TGs := fun vs σ H Q => ∃ es ds, At G B es σ H ∧ HasL G (OB B es σ) H ds vs ∧
  bindL ps ds es fun es' => ∀ σ', At G B es' σ' H → Kp (Ow es σ) H (Ow es' σ') H → Pin l σ σ' → Q σ' H
theorem PG.wk {X : Cx} {e : Expr} {t t' : TG} (h : PG X e t) (k : ∀ v σ H Q, t' v σ H Q → t v σ H Q) : PG X e t' := ⟨fun pins s σ H v u Q I r q => h.run pins s σ H v u Q I r (k v σ H Q q)⟩
theorem PGs.wk {X : Cx} {es : List Expr} {t t' : TGs} (h : PGs X es t) (k : ∀ v σ H Q, t' v σ H Q → t v σ H Q) : PGs X es t' := ⟨fun pins s σ H v u Q I r q => h.run pins s σ H v u Q I r (k v σ H Q q)⟩
theorem PG.or {X : Cx} {e : Expr} {t t' : TG} (h : PG X e t) (h' : PG X e t') : PG X e (fun v σ H Q => t v σ H Q ∨ t' v σ H Q) := ⟨fun pins s σ H v u Q I r q => q.elim (h.run pins s σ H v u Q I r) (h'.run pins s σ H v u Q I r)⟩
section
variable {G : Gm} {B : AP} {l : List Nat} {X : Cx} {e c : Expr} {es : List En} {σ : Sl} {H : Hp}
theorem pg_nm {i : Nat} {x : Str} {pos : Pos} (hl : i ∉ l) (hN : X.N.Nodup) (hi : X.N[i]? = some x) (hx : Loc X.env.scope x) (hf : X.fn x = true ∨ X.env.scope.names.lookup x = some .local) : PG X (.Name x pos) (rdG G B l (.nm i)) :=
  PG.wk (pg_name hN hi hx hf) fun v σ H Q ⟨es, d, A, h, q⟩ => by
    unfold bindP at q
    obtain ⟨A2, s2⟩ := (A.consVal h).store i q.1
    exact q.2 _ A2 (fun a o z n => ⟨z, fun w => n (ow_val.mp (s2 a w))⟩) (pin_set hl)
theorem pgs_nil' : PGs X [] (rdGs G B l []) := PGs.wk pgs_nil fun vs σ H Q ⟨es, ds, A, h, q⟩ => by
  cases ds with
  | nil =>
    unfold bindL at q
    exact ⟨h.nil_inv, q σ A (Kp.refl _ _) (Pin.refl _ _)⟩
  | cons d ds => unfold bindL at q; exact q.elim
theorem At.storeVal {i : Nat} {d : D} {v : V} (A : At G B es σ H) (h : Has G (OB B es σ) H d v) (hi : i < es.length) : At G B (es.set i (.val d)) (σ.set i (some v)) H ∧ Kp (Ow es σ) H (Ow (es.set i (.val d)) (σ.set i (some v))) H := by
  obtain ⟨A2, s2⟩ := (A.consVal h).store i hi
  exact ⟨A2, fun a o z n => ⟨z, fun w => n (ow_val.mp (s2 a w))⟩⟩
/-- several targets -/
structure DGs (G : Gm) (l : List Nat) (X : Cx) (es : List Expr) (ps : List Pt) : Prop where
  run : ∀ B : AP, PGs X es (rdGs G B l ps)
  len : (assignEach es X.env).length = ps.length
  st : (assignEach es X.env).findIdx? (·.1) = none
def DG (G : Gm) (l : List Nat) (X : Cx) (e : Expr) (p : Pt) : Prop := ∀ B : AP, PG X e (rdG G B l p)
theorem assignEach_cons {e : Expr} {es : List Expr} {env : Env} (h : noStar e = true) : assignEach (e :: es) env = (false, assign e env) :: assignEach es env := by
  cases e <;> first | rfl | cases h
theorem dgs_nil : DGs G l X [] [] := ⟨fun _ => pgs_nil', rfl, rfl⟩
theorem dgs_cons {ees : List Expr} {p : Pt} {ps : List Pt} (h : DG G l X e p) (t : DGs G l X ees ps) (n : noStar e = true) : DGs G l X (e :: ees) (p :: ps) := by
  refine ⟨fun B => PGs.wk (pgs_cons (h B) (t.run B) (by rw [assignEach_cons n]; rfl)) fun vs σ H Q ⟨es, ds, A, h, q⟩ => ?_, by rw [assignEach_cons n, List.length_cons, t.len]; rfl, ?_⟩
  · cases ds with
    | nil => unfold bindL at q; exact q.elim
    | cons d ds =>
      obtain ⟨v, r, rfl, h1, h2⟩ := h.cons_inv
      unfold bindL at q
      exact ⟨v, r, rfl, es, d, A, h1, bindP_mono (fun es' z σ' A' k p => ⟨es', ds, A', h2.kp k.ob, bindL_mono (fun es2 z σ2 A2 k2 p2 => z σ2 A2 (k.trans k2) (p.trans p2)) z⟩) q⟩
  · rw [assignEach_cons n, List.findIdx?_cons, t.st]; rfl
mutual
theorem bindP_const : ∀ {p : Pt} {d : D} {s : List En} {P : Prop}, bindP p d s (fun _ => P) → P
  | .nm i, d, s, P, q => by unfold bindP at q; exact q.2
  | .tp ps, .tup ds, s, P, q => by unfold bindP at q; exact bindL_const q
  | .tp ps, .lst ds, s, P, q => by unfold bindP at q; exact bindL_const q
  | .tp _, .non, _, _, q => by unfold bindP at q; exact q.elim
  | .tp _, .bl _, _, _, q => by unfold bindP at q; exact q.elim
  | .tp _, .int _, _, _, q => by unfold bindP at q; exact q.elim
  | .tp _, .str _, _, _, q => by unfold bindP at q; exact q.elim
  | .tp _, .obj _ _ _, _, _, q => by unfold bindP at q; exact q.elim
theorem bindL_const : ∀ {ps : List Pt} {ds : List D} {s : List En} {P : Prop}, bindL ps ds s (fun _ => P) → P
  | [], [], s, P, q => by unfold bindL at q; exact q
  | p :: ps, d :: ds, s, P, q => by
    unfold bindL at q
    exact bindP_const (bindP_mono (fun s z => bindL_const z) q)
  | [], _ :: _, _, _, q => by unfold bindL at q; exact q.elim
  | _ :: _, [], _, _, q => by unfold bindL at q; exact q.elim
end
theorem bindL_len : ∀ {ps : List Pt} {ds : List D} {s : List En} {k : List En → Prop}, bindL ps ds s k → ps.length = ds.length
  | [], [], _, _, _ => rfl
  | p :: ps, d :: ds, s, k, q => by
    unfold bindL at q
    -- some state behind the first one
    have : ∀ {p : Pt} {d : D} {s : List En} {P : Prop}, bindP p d s (fun _ => P) → P := by
      intro p d s P q
      exact bindP_const q
    have := this (bindP_mono (fun s z => bindL_len z) q)
    simp [this]
  | [], _ :: _, _, _, q => by unfold bindL at q; exact q.elim
  | _ :: _, [], _, _, q => by unfold bindL at q; exact q.elim
theorem dg_tp {ees : List Expr} {k : Nat} {pos : Pos} {ps : List Pt} (hc : X.calm = true) (hK : G.K = X.K) (h : DGs G l X ees ps) : DG G l X (.Tuple ees k pos) (.tp ps) := fun B =>
  PG.wk (PG.or (pg_tup hc (h.run B) h.len h.st) (pg_lst hc (h.run B) h.len h.st)) fun v σ H Q ⟨es, d, A, hd, q⟩ => by
    cases d with
    | tup ds =>
      obtain ⟨a, vs, rfl, h1, h2⟩ := has_tup.mp hd
      unfold bindP at q
      exact .inl ⟨a, vs, rfl, hK ▸ h1.sq, by rw [← h2.length, bindL_len q], es, ds, A, h2, q⟩
    | lst ds =>
      obtain ⟨a, vs, rfl, h1, h2⟩ := has_lst.mp hd
      unfold bindP at q
      exact .inr ⟨a, vs, rfl, hK ▸ h1.sq, by rw [← h2.length, bindL_len q], es, ds, A, h2, q⟩
    | _ => unfold bindP at q; exact q.elim
end
/-! ### target = value -/
section
variable {G : Gm} {B : AP} {l : List Nat} {X : Cx} {st : Stmt} {sts : List Stmt} {m m' mb : MS} {me : ME} {mt : MT} {e c tg : Expr} {pos : Pos}
  {es es' : List En} {σ σ' : Sl} {H H' : Hp} {Z : Ends} {W : WX}
def sUnp (p : Pt) (me : ME) : MS := fun s D => me s (fun r s' => r.dK fun d => bindP p d s' D.nx) D.ex
theorem ds_unp {p : Pt} (h : DE G X e me) (hg : DG G l X tg p) (hs : swapsWithSole [tg] e pos.line X.env = pure false) (hw : swappedStores [tg] e X.env = pure none) (h1 : (assignEach [tg] X.env).map (·.2) = [assign tg X.env]) : DS G l X (.Assign [tg] e pos) (sUnp p me) :=
  ⟨fun s D D' le q => h.mono _ _ _ _ _ (fun r s z => dK_mono (fun d z => bindP_mono (fun s z => le.nx _ z) z) z) (fun _ _ z => le.ex _ _ z) q, fun B W tk => PS.wk (ps_asg (h.run B W tk) (hg B) hs hw h1) fun D σ H ⟨es, A, q⟩ =>
    ⟨es, A, h.mono _ _ _ _ _ (fun r s z v H' A' k => by
      rw [En.dK_iff] at z
      obtain ⟨d, e1, z⟩ := z
      exact ⟨s, d, A'.tail, A'.headD e1, bindP_mono (fun s2 z σ2 A2 k2 p2 => z σ2 H' A2 (k.tail.trans k2) p2) z⟩) (fun x s z => ex_of z) q⟩⟩
/-- a, b = e1, e2: both reckoned first, then stored -/
def setAll : List Nat → List D → List En → List En
  | i :: is, d :: ds, s => setAll is ds (s.set i (.val d))
  | _, _, s => s
def sPar (is : List Nat) (ms : List ME) : MS := fun s D => evO (exs ms) s (fun ds s' => datK (exs ms) ds s' fun dd => (∀ i ∈ is, i < s'.length) ∧ dd.length = is.length ∧ D.nx (setAll is dd s')) D.ex
theorem mono_sPar {is : List Nat} {ms : List ME} (h : ∀ o ∈ exs ms, o.Mono) : MonoS (sPar is ms) := fun s D D' le q => evO_mono h (fun ds s z => datK_mono (fun dd z => ⟨z.1, z.2.1, le.nx _ z.2.2⟩) z) (fun _ _ z => le.ex _ _ z) q
theorem rd_par {is : List Nat} {ms : List ME} (hl : ∀ i ∈ is, i ∉ l) (h : ∀ o ∈ exs ms, o.Mono) (q : rdS G B l (sPar is ms) W Z σ H) :
    rdA G B W (exs ms) σ H fun vs H1 => vs.length = is.length ∧ Z.nx ((is.zip vs).foldl (fun σ p => σ.set p.1 (some p.2)) σ) H1 := by
  obtain ⟨es, A, q⟩ := q
  refine rdA_of h A q (fun ds es' vs H' z A' k o => ?_) (fun x es' z => ex_of z)
  obtain ⟨dd, h1, h2, h3, h4⟩ := opsEx o z
  refine ⟨by rw [← h1.length, h3], ?_⟩
  -- store by store
  have key : ∀ (is : List Nat) (dd : List D) (vs : List V) (es2 : List En) (σ2 : Sl), (∀ i ∈ is, i ∉ l) → (∀ i ∈ is, i < es2.length) → dd.length = is.length → HasL G (OB B es2 σ2) H' dd vs → At G B es2 σ2 H' → Kp (Ow es σ) H (Ow es2 σ2) H' → Pin l σ σ2 →
      (pn G B l es σ H Z W).nx (setAll is dd es2) → Z.nx ((is.zip vs).foldl (fun σ p => σ.set p.1 (some p.2)) σ2) H' := by
    intro is
    induction is with
    | nil =>
      intro dd vs es2 σ2 _ _ hd hv A2 k2 p2 z
      cases dd with
      | nil => rw [hv.nil_inv]; exact z σ2 H' A2 k2 p2
      | cons _ _ => cases hd
    | cons i is ih =>
      intro dd vs es2 σ2 hl hi hd hv A2 k2 p2 z
      cases dd with
      | nil => cases hd
      | cons d dd =>
        obtain ⟨v, r, rfl, y1, y2⟩ := hv.cons_inv
        obtain ⟨A3, k3⟩ := A2.storeVal y1 (hi i List.mem_cons_self)
        exact ih dd r _ _ (fun j hj => hl j (List.mem_cons_of_mem _ hj)) (fun j hj => by simpa using hi j (List.mem_cons_of_mem _ hj)) (by simpa using hd) (y2.kp k3.ob) A3 (k2.trans k3) (p2.trans (pin_set (hl i List.mem_cons_self))) z
  exact key is dd vs es' σ hl h2 h3 h1 A' k (Pin.refl _ _) h4
/-! ### lists that the frame owns -/
theorem At.changeOwn {k : Nat} {xs ys : List D} {a : Addr} {ws : List V} (A : At G B es σ H) (h : es[k]? = some (.own xs)) (hs : σ[k]? = some (some (.ref a))) (hy : HasL G (OB B es σ) H ys ws) :
    At G B (es.set k (.own ys)) σ (upd H a (.lst ws)) ∧ Kp (Ow es σ) H (Ow (es.set k (.own ys)) σ) (upd H a (.lst ws)) := by
  have hk : k < es.length := (List.getElem?_eq_some_iff.mp h).1
  have oa : Ow es σ a := ⟨k, _, h, rfl, hs⟩
  have wh : ∀ (j : Nat) (e : En), (es.set k (.own ys))[j]? = some e → (j = k ∧ e = .own ys) ∨ (j ≠ k ∧ es[j]? = some e) := fun j e q => by
    by_cases hj : k = j
    · subst hj
      rw [List.getElem?_set_self hk] at q; cases q
      exact .inl ⟨rfl, rfl⟩
    · rw [List.getElem?_set_ne hj] at q
      exact .inr ⟨fun z => hj z.symm, q⟩
  have ow : ∀ b, Ow (es.set k (.own ys)) σ b → Ow es σ b := fun b ⟨j, e, q1, q2, q3⟩ => by
    rcases wh j e q1 with ⟨rfl, rfl⟩ | ⟨_, z⟩
    · exact ⟨j, _, h, rfl, q3⟩
    · exact ⟨j, e, z, q2, q3⟩
  have ne : ∀ (b : Addr) (o : HO), H b = some o → ¬ OB B es σ b → upd H a (.lst ws) b = some o := fun b o q n => by
    rw [upd_ne (fun z => n (.inr (by rw [z]; exact oa)))]; exact q
  have kk : Kp (Ow es σ) H (Ow (es.set k (.own ys)) σ) (upd H a (.lst ws)) := fun b o q n => ⟨by rw [upd_ne (fun z => n (by rw [z]; exact oa))]; exact q, fun z => n (ow b z)⟩
  refine ⟨⟨by simp [A.len], fun j d q => ?_, fun j e q z => ?_, fun j j2 e f b q1 q2 q3 q4 q5 q6 => ?_, fun b z => ?_⟩, kk⟩
  · rcases wh j _ q with ⟨_, z⟩ | ⟨_, z⟩
    · cases z
    · obtain ⟨v, y1, y2⟩ := A.val j d z
      exact ⟨v, y1, y2.kp kk.ob⟩
  · rcases wh j _ q with ⟨rfl, rfl⟩ | ⟨hj, y⟩
    · exact ⟨a, _, hs, upd_same, ws, rfl, hy.kp kk.ob⟩
    · obtain ⟨b, o, y1, y2, y3⟩ := A.own j e y z
      have : b ≠ a := fun q => hj (A.inj j k _ _ a y z h rfl (by rw [← q]; exact y1) hs)
      exact ⟨b, o, y1, by rw [upd_ne this]; exact y2, y3.kp kk.ob⟩
  · have get : ∀ (j : Nat) (e : En), (es.set k (.own ys))[j]? = some e → e.isOwn = true → ∃ e', es[j]? = some e' ∧ e'.isOwn = true := fun j e q z => by
      rcases wh j e q with ⟨rfl, rfl⟩ | ⟨_, y⟩
      · exact ⟨_, h, rfl⟩
      · exact ⟨e, y, z⟩
    obtain ⟨e', z1, z2⟩ := get j e q1 q2
    obtain ⟨f', z3, z4⟩ := get j2 f q3 q4
    exact A.inj j j2 e' f' b z1 z2 z3 z4 q5 q6
  · obtain ⟨⟨o, y⟩, n⟩ := A.out b z
    exact ⟨⟨o, (kk b o y n).1⟩, (kk b o y n).2⟩
theorem At.ownAt {k : Nat} {xs : List D} (A : At G B es σ H) (h : es[k]? = some (.own xs)) : ∃ a vs, σ[k]? = some (some (.ref a)) ∧ H a = some (.lst vs) ∧ HasL G (OB B es σ) H xs vs := by
  obtain ⟨a, o, h1, h2, vs, e1, h3⟩ := A.own k _ h rfl
  subst e1
  exact ⟨a, vs, h1, h2, h3⟩
/-- slot k owns a list -/
def ownK (s : List En) (k : Nat) (K : List D → Prop) : Prop := match s[k]? with
  | some (.own xs) => K xs
  | _ => False
theorem ownK_iff {s : List En} {k : Nat} {K : List D → Prop} : ownK s k K ↔ ∃ xs, s[k]? = some (.own xs) ∧ K xs := by
  unfold ownK
  constructor
  · intro h
    split at h
    · rename_i xs e; exact ⟨xs, e, h⟩
    · exact h.elim
  · rintro ⟨xs, e, h⟩
    rw [e]; exact h
/-- x.append(e) -/
def sApp (k : Nat) (me : ME) : MS := fun s D => ownK s k fun _ => me s (fun r s' => r.dK fun d => ownK s' k fun xs => xs.length < sizeLine ∧ D.nx (s'.set k (.own (xs ++ [d])))) D.ex
theorem ownK_mono {s : List En} {k : Nat} {K K' : List D → Prop} (h : ∀ xs, K xs → K' xs) (q : ownK s k K) : ownK s k K' := by
  rw [ownK_iff] at q ⊢
  obtain ⟨xs, e, q⟩ := q
  exact ⟨xs, e, h _ q⟩
theorem mono_sApp {k : Nat} (h : MonoE me) : MonoS (sApp k me) := fun s D D' le q => ownK_mono (fun _ q => h _ _ _ _ _ (fun r s z => dK_mono (fun d z => ownK_mono (fun xs z => ⟨z.1, le.nx _ z.2⟩) z) z) (fun _ _ z => le.ex _ _ z) q) q
theorem rd_app {k : Nat} (hK : G.K = X.K) (hm : MonoE me) (q : rdS G B l (sApp k me) W Z σ H) : tBM X.K "list" rAppend (tVar k) (tCons (rdE G B me W) tNil) σ H (fun _ H1 => Z.nx σ H1) := by
  obtain ⟨es, A, q⟩ := q
  obtain ⟨xs0, e0, q⟩ := ownK_iff.mp q
  obtain ⟨a, vs0, h1, h2, _⟩ := A.ownAt e0
  refine ⟨_, h1, .inl ⟨rfl, vs0, SqL.of h2⟩, es, A, hm _ _ _ _ _ (fun r s z v H' A' k' => ?_) (fun x s z => ex_of z) q⟩
  rw [En.dK_iff] at z
  obtain ⟨d, e1, z⟩ := z
  obtain ⟨xs, e2, z1, z2⟩ := ownK_iff.mp z
  obtain ⟨a', vs, y1, y2, y3⟩ := A'.tail.ownAt e2
  rw [h1] at y1; cases y1
  obtain ⟨A2, k2⟩ := A'.tail.changeOwn e2 h1 (y3.append (.cons (A'.headD e1) .nil))
  exact ⟨a, vs, v, rfl, rfl, y2, by rw [← y3.length]; exact z1, z2 σ _ A2 (k'.tail.trans k2) (Pin.refl _ _)⟩
theorem ds_app {k : Nat} {x : Str} {px pa pc : Pos} (hK : G.K = X.K) (hx : PE X (.Name x px) (tVar k)) (h : DE G X e me) (hn : noStar e = true) (hline : (pa.endLine == pc.line) = true)
    (hb : attributeBase (.Name x px) "append" X.env (eval (.Name x px) X.env) = eval (.Name x px) X.env) :
    DS G l X (.Expr (.Call (.Attribute (.Name x px) "append" pa) [e] [] pc) pos) (sApp k me) :=
  ⟨mono_sApp h.mono, fun B W tk => PS.wk (ps_expr (pe_bm PySem.F.plainAttrs_list PySem.F.slot_list_append PySem.F.type_list_append mt_append hx (pa_cons (h.run B W tk) pa_nil (starEach_cons hn)) hb
    (by rw [starEach_cons hn]; rfl) hline (starEach_cons hn) rfl) rfl) fun D σ H q => rd_app hK h.mono q⟩
/-- x[i] = e: the value first, then the place -/
def sSetIx (k : Nat) (mi me : ME) : MS := fun s D => me s (fun r s1 => r.dK fun d => slK s1 k fun _ => mi s1 (fun ri s2 => ri.dK fun di => ownK s2 k fun xs => match di with
  | .int i => match ixN xs.length i with
    | some j => D.nx (s2.set k (.own (xs.set j d)))
    | none => False
  | _ => False) D.ex) D.ex
theorem slK_mono {s : List En} {i : Nat} {k k' : D → Prop} (h : ∀ d, k d → k' d) (q : slK s i k) : slK s i k' := by
  rw [slK_iff] at q ⊢
  obtain ⟨e, d, q1, q2, q3⟩ := q
  exact ⟨e, d, q1, q2, h _ q3⟩
theorem mono_sSetIx {k : Nat} {mi : ME} (hi : MonoE mi) (h : MonoE me) : MonoS (sSetIx k mi me) := fun s D D' le q => h _ _ _ _ _ (fun r s z => dK_mono (fun d z => slK_mono (fun _ z => hi _ _ _ _ _ (fun ri s z => dK_mono (fun di z => ownK_mono (fun xs z => by
  split at z
  · split at z
    · exact le.nx _ z
    · exact z.elim
  · exact z.elim) z) z) (fun _ _ z => le.ex _ _ z) z) z) z) (fun _ _ z => le.ex _ _ z) q
def isSlice : Expr → Bool
  | .Slice _ _ _ _ => true
  | _ => false
theorem asg_sub {o i : Expr} {env : Env} {pt : Pos} (h : isSlice i = false) (v : Value) : assign (.Subscript o i pt) env v = (do
      let ov ← holding [v] (eval o env)
      let iv ← holding [v, ov] (eval i env)
      standAt pt
      holding [v, ov, iv] (setItem ov iv v)
      release [v, ov, iv] []) := by
  cases i <;> first | rfl | cases h
theorem ds_setIx {k : Nat} {x : Str} {px pt : Pos} {i : Expr} {mi : ME} (hns : isSlice i = false) (hx : PE X (.Name x px) (tVar k)) (hi : DE G X i mi) (h : DE G X e me) (hs : swapsWithSole [.Subscript (.Name x px) i pt] e pos.line X.env = pure false)
    (hw : swappedStores [.Subscript (.Name x px) i pt] e X.env = pure none) : DS G l X (.Assign [.Subscript (.Name x px) i pt] e pos) (sSetIx k mi me) :=
  ⟨mono_sSetIx hi.mono h.mono, fun B W tk => PS.wk (ps_asg (h.run B W tk) (pg_sub hx (hi.run B W tk) set_list (asg_sub hns)) hs hw rfl) fun Z σ H ⟨es, A, q⟩ => by
    refine ⟨es, A, h.mono _ _ _ _ _ (fun r s z v H' A' kp => ?_) (fun x s z => ex_of z) q⟩
    rw [En.dK_iff] at z
    obtain ⟨d, e1, z⟩ := z
    obtain ⟨e0, d0, v0, y0, y1, y2, z⟩ := slot_of A'.tail z
    have hd := A'.headD e1
    refine ⟨v0, y2, s, A'.tail, hi.mono _ _ _ _ _ (fun ri s2 z vi H2 A2 k2 => ?_) (fun x s z cls dd H2 A2 k2 hx => z cls dd σ H2 A2 (kp.tail.trans k2) (Pin.refl _ _) hx) z⟩
    rw [En.dK_iff] at z
    obtain ⟨di, e2, z⟩ := z
    obtain ⟨xs, e3, z⟩ := ownK_iff.mp z
    obtain ⟨a, vs, w1, w2, w3⟩ := A2.tail.ownAt e3
    rw [y2] at w1; cases w1
    cases di with
    | int ii =>
      dsimp only at z
      split at z
      · rename_i j hj
        have hvi := A2.headD e2
        rw [has_int] at hvi
        obtain ⟨A3, k3⟩ := A2.tail.changeOwn e3 y2 (w3.set j (hd.kp k2.tail.ob))
        exact ⟨a, vs, ii, j, rfl, hvi, w2, by rw [← w3.length]; exact hj, z σ _ A3 ((kp.tail.trans k2.tail).trans k3) (Pin.refl _ _)⟩
      · exact z.elim
    | _ => exact z.elim⟩
end
end Dt

set_option Elab.async false
set_option linter.all false
set_option maxRecDepth 100000
set_option maxHeartbeats 1000000
/-! DtJ: what a loop walks; for; list comprehensions. -/
namespace Dt
open PySem PySem.Spec PyProof.Rows L2

def iSeq (K : PySem.W.Frag) (tl : TE) : TI := fun σ H R => tl σ H fun x H1 => ∃ a, x = .ref a ∧ (((∃ xs, SqL K H1 a xs) ∧ R (Itl K a) H1) ∨ ((∃ xs, SqT K H1 a xs) ∧ R (Itt K a) H1))
theorem pi_seq {X : Cx} {tg l : Expr} {tl : TE} (hl : PE X l tl) : PI X tg l (iSeq X.K tl) := by
  refine ⟨fun pins s σ H R I h => ?_⟩
  refine thn (hl.run pins s σ H _ I h) fun v s1 ⟨x, H1, I1, r1, q1⟩ => ?_
  obtain ⟨a, e, ⟨⟨xs, hq⟩, q⟩ | ⟨⟨xs, hq⟩, q⟩⟩ := q1
  · subst e
    cases r1
    obtain ⟨its, rv, p, hz⟩ := I1.list hq
    refine wpAny_pyIter_list p.isList ?_
    refine ⟨s1.heap.objs.size, [s1.heap.objs.size], _, _, H1, rfl, I1.kept (t' := s1.toks) fun b o e => Heap.get?_push_of_some _ e, turn_list a _, ⟨_, Heap.get?_push_size _ rfl, rfl, rfl⟩, fun b hb => ?_, q⟩
    have e : b = s1.heap.objs.size := by simpa using hb
    subst e
    exact I1.fpOk (Nat.le_refl _) (I1.hok.fresh (Nat.le_refl _))
  · subst e
    cases r1
    obtain ⟨its, rv, p, hz⟩ := I1.tuple hq
    refine wpAny_pyIter_tuple (show s1.heap.IsTuple a its.toArray from p) ?_
    refine ⟨s1.heap.objs.size, [s1.heap.objs.size], _, _, H1, rfl, I1.kept (t' := s1.toks) fun b o e => Heap.get?_push_of_some _ e, turn_tuple a _, ⟨_, Heap.get?_push_size _ rfl, rfl, rfl⟩, fun b hb => ?_, q⟩
    have e : b = s1.heap.objs.size := by simpa using hb
    subst e
    exact I1.fpOk (Nat.le_refl _) (I1.hok.fresh (Nat.le_refl _))

abbrev MI := List En → (List D → List En → Prop) → QX → Prop
def MonoI (m : MI) : Prop := ∀ (s : List En) (Q Q' : List D → List En → Prop) (X X' : QX), (∀ r s', Q r s' → Q' r s') → (∀ x s', X x s' → X' x s') → m s Q X → m s Q' X'
/-- the iterator J yields ds as long as Φ stands -/
structure StI (G : Gm) (J : It) (ds : List D) (Φ : AP → Hp → Prop) : Prop where
  kp : ∀ O H O' H', Φ O H → Kp O H O' H' → Φ O' H'
  go : ∀ O H (i : Nat) (d : D), (∀ a, O a → ∃ o, H a = some o) → Φ O H → ds[i]? = some d → J.go i H ∧ ∀ x H', J.yld i H x H' → (∀ a o, H a = some o → H' a = some o) ∧ Has G O H' d x
  stop : ∀ O H, Φ O H → J.stop ds.length H
def rdI (G : Gm) (B : AP) (mi : MI) (W : WX) : TI := fun σ H R => ∃ es, At G B es σ H ∧
  mi es (fun ds es' => ∀ H' J Φ, At G B es' σ H' → Kp (Ow es σ) H (Ow es' σ) H' → StI G J ds Φ → Φ (OB B es' σ) H' → R J H') (XP G B es σ H W)
structure DI (G : Gm) (X : Cx) (tg iter : Expr) (mi : MI) : Prop where
  mono : MonoI mi
  run : ∀ (B : AP) (W : WX), Takes X W → PI X tg iter (rdI G B mi W)
section
variable {G : Gm} {B : AP} {l : List Nat} {X : Cx} {st : Stmt} {sts : List Stmt} {m m' mb : MS} {me : ME} {mt : MT} {mi : MI} {e c tg iter : Expr} {pos : Pos}
  {es es' : List En} {σ σ' : Sl} {H H' : Hp} {Z : Ends} {W : WX} {p : Pt}
theorem sti_list {a : Addr} {vs : List V} {ds : List D} : StI G (Itl G.K a) ds (fun O H => ShL G O H a vs ∧ HasL G O H ds vs) where
  kp := fun O H O' H' h k => ⟨h.1.kp k, h.2.kp k⟩
  go := fun O H i d _ h e => by
    obtain ⟨v, h1, h2⟩ := h.2.get e
    refine ⟨⟨vs, v, h.1.sq, h1⟩, fun x H' y => ?_⟩
    obtain ⟨rfl, y⟩ := y
    have := y vs h.1.sq
    rw [h1] at this; cases this
    exact ⟨fun _ _ q => q, h2⟩
  stop := fun O H h => ⟨vs, h.1.sq, by rw [h.2.length]; exact Nat.le_refl _⟩
theorem sti_tup {a : Addr} {vs : List V} {ds : List D} : StI G (Itt G.K a) ds (fun O H => ShT G O H a vs ∧ HasL G O H ds vs) where
  kp := fun O H O' H' h k => ⟨h.1.kp k, h.2.kp k⟩
  go := fun O H i d _ h e => by
    obtain ⟨v, h1, h2⟩ := h.2.get e
    refine ⟨⟨vs, v, h.1.sq, h1⟩, fun x H' y => ?_⟩
    obtain ⟨rfl, y⟩ := y
    have := y vs h.1.sq
    rw [h1] at this; cases this
    exact ⟨fun _ _ q => q, h2⟩
  stop := fun O H h => ⟨vs, h.1.sq, by rw [h.2.length]; exact Nat.le_refl _⟩
theorem sti_range {lo : Int} {n : Nat} : StI G (Itr lo n) ((List.range n).map fun i => .int (lo + (i : Nat))) (fun _ _ => True) where
  kp := fun _ _ _ _ _ _ => trivial
  go := fun O H i d _ _ e => by
    rw [List.getElem?_map, Option.map_eq_some_iff] at e
    obtain ⟨j, e1, rfl⟩ := e
    obtain ⟨hi, e2⟩ := List.getElem?_eq_some_iff.mp e1
    simp at hi e2; subst e2
    refine ⟨hi, fun x H' y => ?_⟩
    obtain ⟨rfl, rfl⟩ := y
    exact ⟨fun _ _ q => q, by simp⟩
  stop := fun O H _ => by show n ≤ _; simp
/-- a list or a tuple by an expression: what it holds is walked -/
def seqK (d : D) (k : List D → Prop) : Prop := match d with
  | .lst xs => k xs
  | .tup xs => k xs
  | _ => False
theorem seqK_mono {d : D} {k k' : List D → Prop} (h : ∀ xs, k xs → k' xs) (q : seqK d k) : seqK d k' := by
  cases d <;> first | exact h _ q | exact q
def iEx (me : ME) : MI := fun s Q X => me s (fun r s' => r.dK fun d => seqK d fun xs => Q xs s') X
theorem mono_iEx (h : MonoE me) : MonoI (iEx me) := fun s Q Q' X X' hQ hX q => h _ _ _ _ _ (fun r s z => dK_mono (fun d z => seqK_mono (fun xs z => hQ _ _ z) z) z) hX q
theorem di_ex (hK : G.K = X.K) (h : DE G X iter me) : DI G X tg iter (iEx me) :=
  ⟨mono_iEx h.mono, fun B W tk => PI.wk (pi_seq (h.run B W tk)) fun σ H R ⟨es, A, q⟩ => by
    refine ⟨es, A, h.mono _ _ _ _ _ (fun r s z v H' A' k => ?_) (fun _ _ z => z) q⟩
    rw [En.dK_iff] at z
    obtain ⟨d, e1, z⟩ := z
    have hd := A'.headD e1
    cases d with
    | lst xs =>
      obtain ⟨a, vs, rfl, h1, h2⟩ := has_lst.mp hd
      exact ⟨a, rfl, .inl ⟨⟨vs, hK ▸ h1.sq⟩, by rw [← hK]; exact z H' _ _ A'.tail k.tail sti_list ⟨h1, h2⟩⟩⟩
    | tup xs =>
      obtain ⟨a, vs, rfl, h1, h2⟩ := has_tup.mp hd
      exact ⟨a, rfl, .inr ⟨⟨vs, hK ▸ h1.sq⟩, by rw [← hK]; exact z H' _ _ A'.tail k.tail sti_tup ⟨h1, h2⟩⟩⟩
    | _ => exact z.elim⟩
/-- range(b), range(a, b) -/
def rngs (lo : Int) (n : Nat) : List D := (List.range n).map fun i => .int (lo + (i : Nat))
def iRg (ms : List ME) : MI := fun s Q X => evO (exs ms) s (fun ds s' => datK (exs ms) ds s' fun dd => match dd with
  | [.int j] => (-(2 ^ 62) ≤ j ∧ j < 2 ^ 62) ∧ Q (rngs 0 j.toNat) s'
  | [.int i, .int j] => (-(2 ^ 62) ≤ i ∧ i < 2 ^ 62 ∧ -(2 ^ 62) ≤ j ∧ j < 2 ^ 62) ∧ Q (rngs i (j - i).toNat) s'
  | _ => False) X
theorem mono_iRg {ms : List ME} (h : ∀ o ∈ exs ms, o.Mono) : MonoI (iRg ms) := fun s Q Q' X X' hQ hX q => evO_mono h (fun ds s z => datK_mono (fun dd z => by
  split at z
  · exact ⟨z.1, hQ _ _ z.2⟩
  · exact ⟨z.1, hQ _ _ z.2⟩
  · exact z.elim) z) hX q
theorem di_rg1 {a : Expr} {ma : ME} {q pos : Pos} (hg : Gl X "range") (hm : X.mg "range" = none) (ha : DOs G X [a] (exs [ma])) : DI G X tg (.Call (.Name "range" q) [a] [] pos) (iRg [ma]) :=
  ⟨mono_iRg ha.mono, fun B W tk => PI.wk (pi_range1 hg hm (ha.run B W tk) (by rw [ha.st]; rfl)) fun σ H R ⟨es, A, q⟩ => by
    refine rdA_of ha.mono A q (fun ds es' vs H' z A' k o => ?_) (fun x es' z => z)
    obtain ⟨dd, h1, h2⟩ := opsEx o z
    split at h2
    · rename_i j
      obtain ⟨v, r, rfl, h3, h4⟩ := h1.cons_inv
      rw [h4.nil_inv]
      rw [has_int] at h3
      exact ⟨j, by rw [h3], h2.1.1, h2.1.2, h2.2 H' _ _ A' k sti_range trivial⟩
    · rename_i i j
      obtain ⟨v, r, rfl, h3, h4⟩ := h1.cons_inv
      obtain ⟨v', r', rfl, h5, h6⟩ := h4.cons_inv
      exfalso
      cases ds with
      | nil => exact o.elim
      | cons d ds =>
        cases d with
        | none => exact o.elim
        | some d =>
          obtain ⟨_, _, e, _, o⟩ := o
          cases e
          cases ds with
          | nil => cases (show v' :: r' = [] from o)
          | cons _ _ => exact o.elim
    · exact h2.elim⟩
theorem di_rg2 {a b : Expr} {ma mb : ME} {q pos : Pos} (hg : Gl X "range") (hm : X.mg "range" = none) (ha : DOs G X [a, b] (exs [ma, mb])) (nb : noStar b = true) : DI G X tg (.Call (.Name "range" q) [a, b] [] pos) (iRg [ma, mb]) :=
  ⟨mono_iRg ha.mono, fun B W tk => PI.wk (pi_range2 hg hm (ha.run B W tk) (by rw [ha.st]; rfl) (by rw [starEach_cons nb]; rfl)) fun σ H R ⟨es, A, q⟩ => by
    refine rdA_of ha.mono A q (fun ds es' vs H' z A' k o => ?_) (fun x es' z => z)
    obtain ⟨dd, h1, h2⟩ := opsEx o z
    split at h2
    · rename_i j
      obtain ⟨v, r, rfl, h3, h4⟩ := h1.cons_inv
      have := h4.nil_inv
      subst this
      exfalso
      cases ds with
      | nil => exact o.elim
      | cons d ds =>
        cases d with
        | none => exact o.elim
        | some d =>
          obtain ⟨_, _, e, _, o⟩ := o
          cases e
          cases ds with
          | nil => exact o.elim
          | cons d ds =>
            cases d with
            | none => exact o.elim
            | some d => obtain ⟨_, _, e, _⟩ := o; cases e
    · rename_i i j
      obtain ⟨v, r, rfl, h3, h4⟩ := h1.cons_inv
      obtain ⟨v', r', rfl, h5, h6⟩ := h4.cons_inv
      rw [h6.nil_inv]
      rw [has_int] at h3 h5
      exact ⟨i, j, by rw [h3, h5], h2.1, h2.2 H' _ _ A' k sti_range trivial⟩
    · exact h2.elim⟩

/-! ### for -/
def forL (p : Pt) (mb : MS) : List D → MS
  | [], s, Z => Z.nx s
  | d :: ds, s, Z => bindP p d s fun s' => upS mb s' { Z with nx := fun s2 => forL p mb ds s2 Z, ct := fun s2 => forL p mb ds s2 Z, bk := Z.nx }
def sFor (p : Pt) (mi : MI) (mb : MS) : MS := fun s Z => mi s (fun ds s' => forL p mb ds s' Z) Z.ex
theorem mono_forL : ∀ ds, MonoS (forL p mb ds)
  | [], s, Z, Z', le, q => le.nx _ q
  | d :: ds, s, Z, Z', le, q => bindP_mono (fun s z => mono_upS mb s { Z with nx := fun s2 => forL p mb ds s2 Z, ct := fun s2 => forL p mb ds s2 Z, bk := Z.nx } { Z' with nx := fun s2 => forL p mb ds s2 Z', ct := fun s2 => forL p mb ds s2 Z', bk := Z'.nx }
      ⟨fun s z => mono_forL ds _ _ _ le z, le.rt, le.nx, fun s z => mono_forL ds _ _ _ le z, le.ex⟩ z) q
/-- a for by a word over what is left -/
theorem for_pure {Z : Pn} (I : List D → List En → Prop) : ∀ {ds : List D} {s : List En}, I ds s → (∀ d ds s, I (d :: ds) s → bindP p d s fun s' => mb s' { Z with nx := I ds, ct := I ds, bk := Z.nx }) → (∀ s, I [] s → Z.nx s) → forL p mb ds s Z
  | [], s, h, _, hd => hd s h
  | d :: ds, s, h, ht, hd => bindP_mono (fun s' z => ⟨{ Z with nx := I ds, ct := I ds, bk := Z.nx }, ⟨fun s2 q => for_pure I q ht hd, fun _ _ q => q, fun _ q => q, fun s2 q => for_pure I q ht hd, fun _ _ q => q⟩, z⟩) (ht d ds s h)
theorem kp_same {O : AP} (k : ∀ a o, H a = some o → H' a = some o) : Kp O H O H' := fun a o q n => ⟨k a o q, n⟩
theorem ds_for {body : List Stmt} (hp : PassesOwn (model X.prog X.w) X.A X.env X.xe) (hc : X.calm = true) (hi : DI G X tg iter mi) (hg : DG G l X tg p) (hb : DSs G l X body mb) (hs : ∀ x, foldedSetIterable iter X.env x = pure x) :
    DS G l X (.For tg iter body [] pos) (sFor p mi mb) := by
  refine ⟨fun s Z Z' le q => hi.mono _ _ _ _ _ (fun ds s z => mono_forL ds _ _ _ le z) (fun _ _ z => le.ex _ _ z) q, fun B W tk => PS.wk (ps_for hp hc (hi.run B W tk) (hg B) (hb.run B W tk) hs) fun Z σ H ⟨es, A, q⟩ => ?_⟩
  refine ⟨es, A, hi.mono _ _ _ _ _ (fun ds s z H1 J Φ A1 k1 sJ f1 => ?_) (fun x s z => ex_of z) q⟩
  refine ⟨fun i m σ' H' => m = ds.length - i ∧ i ≤ ds.length ∧ ∃ es', At G B es' σ' H' ∧ Kp (Ow es σ) H (Ow es' σ') H' ∧ Pin l σ σ' ∧ Φ (OB B es' σ') H' ∧ forL p mb (ds.drop i) es' (pn G B l es σ H Z W),
    ⟨_, rfl, Nat.zero_le _, s, A1, k1, Pin.refl _ _, f1, z⟩, ?_⟩
  rintro i m σ2 H2 ⟨rfl, hi, es2, A2, k2, p2, f2, q2⟩
  by_cases hlt : i < ds.length
  · obtain ⟨d, hd⟩ : ∃ d, ds[i]? = some d := ⟨_, List.getElem?_eq_getElem hlt⟩
    have ed : ds.drop i = d :: ds.drop (i + 1) := by
      obtain ⟨_, e⟩ := List.getElem?_eq_some_iff.mp hd
      rw [← e, List.drop_eq_getElem_cons hlt]
    rw [ed] at q2
    obtain ⟨g1, g2⟩ := sJ.go _ H2 i d (fun a z => A2.tracked z) f2 hd
    refine .inr ⟨g1, fun σ' H' => ∃ es', At G B es' σ' H' ∧ Kp (Ow es σ) H (Ow es' σ') H' ∧ Pin l σ σ' ∧ Φ (OB B es' σ') H' ∧ forL p mb (ds.drop (i + 1)) es' (pn G B l es σ H Z W), fun σ' H' h => ⟨_, by omega, rfl, hlt, h⟩, fun x H' y => ?_⟩
    obtain ⟨y1, y2⟩ := g2 x H' y
    have A3 := A2.heap y1
    have f3 := sJ.kp _ _ _ _ f2 (kp_same (O := OB B es2 σ2) y1)
    have k3 : Kp (Ow es σ) H (Ow es2 σ2) H' := k2.trans (kp_same y1)
    refine ⟨es2, d, A3, y2, bindP_mono (fun s4 z σ4 A4 k4 p4 => ?_) q2⟩
    refine ⟨s4, A4, hb.mono s4 { pn G B l es σ H Z W with nx := fun s2 => forL p mb (ds.drop (i + 1)) s2 (pn G B l es σ H Z W), ct := fun s2 => forL p mb (ds.drop (i + 1)) s2 (pn G B l es σ H Z W), bk := (pn G B l es σ H Z W).nx } _ ?_ (upS_eq hb.mono z)⟩
    exact ⟨fun s z σ5 H5 A5 k5 p5 => ⟨s, A5, (k3.trans k4).trans k5, (p2.trans p4).trans p5, sJ.kp _ _ _ _ f3 (k4.trans k5).ob, z⟩, fun r s z v σ5 H5 A5 k5 p5 => z v σ5 H5 A5 ((k3.trans k4).trans k5) ((p2.trans p4).trans p5),
      fun s z σ5 H5 A5 k5 p5 => z σ5 H5 A5 ((k3.trans k4).trans k5) ((p2.trans p4).trans p5), fun s z σ5 H5 A5 k5 p5 => ⟨s, A5, (k3.trans k4).trans k5, (p2.trans p4).trans p5, sJ.kp _ _ _ _ f3 (k4.trans k5).ob, z⟩,
      fun x s z cls dd σ5 H5 A5 k5 p5 hx => z cls dd σ5 H5 A5 ((k3.trans k4).trans k5) ((p2.trans p4).trans p5) hx⟩
  · have e : i = ds.length := by omega
    subst e
    rw [List.drop_length] at q2
    exact .inl ⟨sJ.stop _ _ f2, q2 σ2 H2 A2 k2 p2⟩
end
end Dt

set_option Elab.async false
set_option linter.all false
set_option maxRecDepth 100000
set_option maxHeartbeats 1000000
/-! DtK: a def's contract from its body. -/
namespace Dt
open PySem PySem.Spec PyProof.Rows L2

/-- owned arguments stand at parameters that are not stored to -/
def lentB (l : List Nat) : Nat → List En → Bool
  | _, [] => true
  | i, e :: es => (!e.isOwn || l.contains i) && lentB l (i + 1) es
def merge : List En → List En → List En
  | a :: as, e :: es => (if a.isOwn then e else a) :: merge as es
  | _, _ => []
/-- a def of n parameters and k other names, its body m -/
def fnF (n k : Nat) (l : List Nat) (m : MS) : ME := fun as Q X => as.length = n ∧ lentB l 0 as = true ∧ m (as ++ List.replicate k .un)
  { nx := fun s => Q (.val .non) (merge as s), rt := fun r s => Q r (merge as s), bk := fun _ => False, ct := fun _ => False, ex := fun x s => X x (merge as s) }
theorem mono_fnF {n k : Nat} {l : List Nat} {m : MS} (h : MonoS m) : MonoE (fnF n k l m) := fun s Q Q' X X' hQ hX q => ⟨q.1, q.2.1, h _ { nx := fun t => Q (.val .non) (merge s t), rt := fun r t => Q r (merge s t), bk := fun _ => False, ct := fun _ => False, ex := fun x t => X x (merge s t) } _ ⟨fun _ z => hQ _ _ z, fun _ _ z => hQ _ _ z, fun _ z => z, fun _ z => z, fun _ _ z => hX _ _ z⟩ q.2.2⟩
theorem lentB_get {l : List Nat} : ∀ {es : List En} {j i : Nat} {e : En}, lentB l j es = true → es[i]? = some e → e.isOwn = true → (j + i) ∈ l
  | [], _, _, _, _, h, _ => by simp at h
  | a :: es, j, 0, e, h, q, o => by
    simp at q; subst q
    unfold lentB at h
    simp [o] at h
    exact h.1
  | a :: es, j, i + 1, e, h, q, o => by
    unfold lentB at h
    rw [Bool.and_eq_true] at h
    have := lentB_get h.2 (by simpa using q) o
    have e1 : j + 1 + i = j + (i + 1) := by omega
    rw [← e1]; exact this
theorem merge_len : ∀ {as es : List En}, as.length ≤ es.length → (merge as es).length = as.length
  | [], _, _ => rfl
  | a :: as, [], h => by simp at h
  | a :: as, e :: es, h => by
    unfold merge
    rw [List.length_cons, List.length_cons, merge_len (by simpa using h)]
theorem merge_get : ∀ {as es : List En} {i : Nat} {m : En}, (merge as es)[i]? = some m → ∃ a e, as[i]? = some a ∧ es[i]? = some e ∧ ((a.isOwn = true ∧ m = e) ∨ (a.isOwn = false ∧ m = a))
  | [], _, _, _, h => by simp [merge] at h
  | a :: as, [], _, _, h => by simp [merge] at h
  | a :: as, e :: es, 0, m, h => by
    unfold merge at h
    simp at h
    refine ⟨a, e, rfl, rfl, ?_⟩
    cases o : a.isOwn with
    | true => rw [o] at h; exact .inl ⟨rfl, by simpa using h.symm⟩
    | false => rw [o] at h; exact .inr ⟨rfl, by simpa using h.symm⟩
  | a :: as, e :: es, i + 1, m, h => by
    unfold merge at h
    simpa using merge_get (as := as) (es := es) (i := i) (by simpa using h)
section
variable {G : Gm} {B : AP} {as es : List En} {σ σ' : Sl} {H H' : Hp} {l : List Nat} {k : Nat}
theorem ow_ext {a : Addr} (hl : as.length = σ.length) : Ow (as ++ List.replicate k .un) (σ ++ List.replicate k none) a ↔ Ow as σ a := by
  constructor
  · rintro ⟨i, e, h1, h2, h3⟩
    by_cases hi : i < as.length
    · rw [List.getElem?_append_left hi] at h1
      rw [List.getElem?_append_left (by omega)] at h3
      exact ⟨i, e, h1, h2, h3⟩
    · rw [List.getElem?_append_right (by omega)] at h1
      have := List.eq_of_mem_replicate (List.mem_of_getElem? h1)
      subst this; cases h2
  · rintro ⟨i, e, h1, h2, h3⟩
    have hi : i < as.length := (List.getElem?_eq_some_iff.mp h1).1
    exact ⟨i, e, by rw [List.getElem?_append_left hi]; exact h1, h2, by rw [List.getElem?_append_left (by omega)]; exact h3⟩
theorem At.ext (A : At G B as σ H) : At G B (as ++ List.replicate k .un) (σ ++ List.replicate k none) H := by
  have hl := A.len
  have sub : ∀ a, OB B (as ++ List.replicate k .un) (σ ++ List.replicate k none) a → OB B as σ a := fun a z => z.elim .inl fun z => .inr ((ow_ext hl).mp z)
  have get : ∀ (i : Nat) (e : En), (as ++ List.replicate k .un)[i]? = some e → (as[i]? = some e ∧ (σ ++ List.replicate k none)[i]? = σ[i]?) ∨ e = .un := fun i e q => by
    by_cases hi : i < as.length
    · rw [List.getElem?_append_left hi] at q
      exact .inl ⟨q, List.getElem?_append_left (by omega)⟩
    · rw [List.getElem?_append_right (by omega)] at q
      exact .inr (List.eq_of_mem_replicate (List.mem_of_getElem? q))
  refine ⟨by simp [hl], fun i d q => ?_, fun i e q z => ?_, fun i j e f a q1 q2 q3 q4 q5 q6 => ?_, fun a z => ⟨(A.out a z).1, fun q => (A.out a z).2 ((ow_ext hl).mp q)⟩⟩
  · rcases get i _ q with ⟨h1, h2⟩ | h1
    · obtain ⟨v, y1, y2⟩ := A.val i d h1
      exact ⟨v, h2.trans y1, y2.sub sub⟩
    · cases h1
  · rcases get i _ q with ⟨h1, h2⟩ | h1
    · obtain ⟨a, o, y1, y2, y3⟩ := A.own i e h1 z
      exact ⟨a, o, h2.trans y1, y2, y3.sub sub⟩
    · subst h1; cases z
  · rcases get i _ q1 with ⟨h1, h2⟩ | h1
    · rcases get j _ q3 with ⟨h3, h4⟩ | h3
      · exact A.inj i j e f a h1 q2 h3 q4 (h2.symm.trans q5) (h4.symm.trans q6)
      · subst h3; cases q4
    · subst h1; cases q2
/-- the def's end: the arguments as its caller sees them -/
theorem At.leave {r : En} {v : V} (A : At G B as σ H) (hb : lentB l 0 as = true) {τ τ' : Sl} (ht : ∀ i, i < as.length → τ[i]? = σ[i]?) (A' : At G B (r :: es) (some v :: τ') H') (k' : Kp (Ow as σ) H (Ow (r :: es) (some v :: τ')) H') (p : Pin l τ τ') (hl : as.length ≤ es.length) :
    At G B (r :: merge as es) (some v :: σ) H' ∧ Kp (Ow as σ) H (Ow (r :: merge as es) (some v :: σ)) H' := by
  have lm := merge_len hl
  -- where an entry stands
  have wh : ∀ (i : Nat) (m : En), (merge as es)[i]? = some m → (es[i]? = some m ∧ τ'[i]? = σ[i]?) ∨ (as[i]? = some m ∧ m.isOwn = false) := fun i m q => by
    obtain ⟨a, e, h1, h2, ⟨h3, rfl⟩ | ⟨h3, rfl⟩⟩ := merge_get q
    · have hi := lentB_get hb h1 h3
      rw [Nat.zero_add] at hi
      exact .inl ⟨h2, (p.2 i hi).trans (ht i (List.getElem?_eq_some_iff.mp h1).1)⟩
    · exact .inr ⟨h1, h3⟩
  have wh' : ∀ (i : Nat) (m : En), (r :: merge as es)[i]? = some m → ((r :: es)[i]? = some m ∧ (some v :: τ')[i]? = (some v :: σ)[i]?) ∨ ∃ j, i = j + 1 ∧ as[j]? = some m ∧ m.isOwn = false := fun i m q => by
    cases i with
    | zero => exact .inl ⟨by simpa using q, rfl⟩
    | succ i =>
      rcases wh i m (by simpa using q) with ⟨h1, h2⟩ | ⟨h1, h2⟩
      · exact .inl ⟨by simpa using h1, by simpa using h2⟩
      · exact .inr ⟨i, rfl, h1, h2⟩
  have sub : ∀ a, Ow (r :: merge as es) (some v :: σ) a → Ow (r :: es) (some v :: τ') a := fun a ⟨i, e, q1, q2, q3⟩ => by
    rcases wh' i e q1 with ⟨h1, h2⟩ | ⟨j, _, _, h2⟩
    · exact ⟨i, e, h1, q2, h2.trans q3⟩
    · rw [h2] at q2; cases q2
  have kk : Kp (Ow as σ) H (Ow (r :: merge as es) (some v :: σ)) H' := fun a o q n => ⟨(k' a o q n).1, fun z => (k' a o q n).2 (sub a z)⟩
  refine ⟨⟨by simp [lm, A.len], fun i d q => ?_, fun i e q z => ?_, fun i j e f a q1 q2 q3 q4 q5 q6 => ?_, fun a z => ⟨(A'.out a z).1, fun q => (A'.out a z).2 (sub a q)⟩⟩, kk⟩
  · rcases wh' i _ q with ⟨h1, h2⟩ | ⟨j, rfl, h1, h2⟩
    · obtain ⟨u, y1, y2⟩ := A'.val i d h1
      exact ⟨u, h2.symm.trans y1, y2.sub (OB.sub sub)⟩
    · obtain ⟨u, y1, y2⟩ := A.val j d h1
      exact ⟨u, by simpa using y1, y2.kp kk.ob⟩
  · rcases wh' i _ q with ⟨h1, h2⟩ | ⟨j, rfl, h1, h2⟩
    · obtain ⟨a, o, y1, y2, y3⟩ := A'.own i e h1 z
      exact ⟨a, o, h2.symm.trans y1, y2, y3.sub (OB.sub sub)⟩
    · rw [h2] at z; cases z
  · rcases wh' i _ q1 with ⟨h1, h2⟩ | ⟨_, _, _, h2⟩
    · rcases wh' j _ q3 with ⟨h3, h4⟩ | ⟨_, _, _, h4⟩
      · exact A'.inj i j e f a h1 q2 h3 q4 (h2.trans q5) (h4.trans q6)
      · rw [h4] at q4; cases q4
    · rw [h2] at q2; cases q2
end
section
variable {P : Program} {w : World} {K : PySem.W.Frag} {mg : Str → Option Value} {base : Heap} {G : Gm}
/-- THE RULE for a def -/
theorem fn_ok {x qual : Str} {st : Stmt} {dvs : List V} {f : Addr} {fd : FuncData} {N ps : List Str} {k : Nat} {l : List Nat} {m : MS} (F : FunD K x qual (defArgs st) (defBody st) (defScope st) dvs [] f fd) (S : FnScope N ps (defScope st))
    (hb : ∀ (cdv : Value) (A : Around) (outer : List Env) (s : Shared) (H : Hp) (E : XK), Room k (A.deeper (envOfC qual (defScope st) s.heap.objs.size f cdv)) →
      DSs G l (cxOf (L2.CX P w) P w K mg base N qual (defScope st) f cdv A outer s H E) (defBody st) m) :
    FnOk P w K mg base (L2.CX P w) (k + 1) f fd ps (spF G (upE (fnF ps.length (N.length - ps.length) l m))) := by
  refine F.ok S (fun vs H Q E h => ?_) (fun cdv A outer s H vs Q E hr h => ?_)
  · obtain ⟨as, B, A, _, _, _, _, h, _⟩ := h
    rw [← h, A.len, List.length_map]
  · have hm := (hb cdv A outer s H E hr).mono
    obtain ⟨as, B, A1, h⟩ := h
    obtain ⟨h1, h2, h3⟩ := upE_eq (mono_fnF hm) h
    have hl : vs.length = ps.length := by rw [← h1, A1.len, List.length_map]
    refine ⟨rdS G B l m (fun cls d _ H => E cls d H), (hb cdv A outer s H E hr).run B _ (takes_of rfl rfl rfl rfl), as ++ List.replicate (N.length - ps.length) .un, ?_, ?_⟩
    · have := A1.ext (k := N.length - ps.length)
      rw [← hl] at this ⊢
      exact this
    · have key : ∀ {r : En} {s : List En} {v : V} {τ : Sl} {H' : Hp}, At G B (r :: s) (some v :: τ) H' → Kp (Ow (as ++ List.replicate (N.length - ps.length) .un) (L2.start N vs)) H (Ow (r :: s) (some v :: τ)) H' → Pin l (L2.start N vs) τ →
          At G B (r :: merge as s) (some v :: vs.map some) H' ∧ Kp (Ow as (vs.map some)) H (Ow (r :: merge as s) (some v :: vs.map some)) H' := fun {r s v τ H'} A' k' p => by
        have la : as.length = vs.length := by rw [A1.len, List.length_map]
        refine A1.leave h2 (τ := L2.start N vs) (fun i hi => ?_) A' (k'.congr (fun a => ?_) fun a => Iff.rfl) p ?_
        · unfold L2.start
          rw [List.getElem?_append_left (by simpa [A1.len] using hi)]
        · unfold L2.start
          rw [hl]
          exact (ow_ext A1.len).symm
        · have := A'.tail.len
          rw [this, p.1]
          unfold L2.start
          rw [List.length_append, List.length_map, la]
          omega
      refine hm _ { nx := fun t => (fun r es' => ∀ v H', At G B (r :: es') (some v :: vs.map some) H' → Kp (Ow as (vs.map some)) H (Ow (r :: es') (some v :: vs.map some)) H' → Q v H') (.val .non) (merge as t), rt := fun r t => (fun r es' => ∀ v H', At G B (r :: es') (some v :: vs.map some) H' → Kp (Ow as (vs.map some)) H (Ow (r :: es') (some v :: vs.map some)) H' → Q v H') r (merge as t), bk := fun _ => False, ct := fun _ => False, ex := fun x t => (fun x es' => ∀ cls dd H', At G B es' (vs.map some) H' → Kp (Ow as (vs.map some)) H (Ow es' (vs.map some)) H' → HasX G (OB B es' (vs.map some)) H' x cls dd → E cls dd H') x (merge as t) } _ ⟨fun t z τ H' A' k' p => ?_, fun r t z v τ H' A' k' p => ?_, fun t z => z.elim, fun t z => z.elim, fun x t z cls dd τ H' A' k' p hx => ?_⟩ h3
      · obtain ⟨y1, y2⟩ := key (r := .val .non) (v := .non) (A'.consVal (by simp)) (fun a o q n => ⟨(k' a o q n).1, fun z => (k' a o q n).2 (ow_val.mp z)⟩) p
        exact z .non H' y1 y2
      · obtain ⟨y1, y2⟩ := key A' k' p
        exact z v H' y1 y2
      · obtain ⟨y1, y2⟩ := key (r := .val .non) (v := .non) (A'.consVal (by simp)) (fun a o q n => ⟨(k' a o q n).1, fun z => (k' a o q n).2 (ow_val.mp z)⟩) p
        have sub : ∀ a, OB B (merge as t) (vs.map some) a → OB B t τ a := fun a q => by
          rcases q with q | ⟨i, e, q1, q2, q3⟩
          · exact .inl q
          · obtain ⟨a', e', z1, z2, ⟨z3, rfl⟩ | ⟨z3, rfl⟩⟩ := merge_get q1
            · have hi := lentB_get h2 z1 z3
              rw [Nat.zero_add] at hi
              refine .inr ⟨i, e, z2, q2, ?_⟩
              rw [p.2 i hi]
              unfold L2.start
              rw [List.getElem?_append_left (by simpa [A1.len] using (List.getElem?_eq_some_iff.mp z1).1)]
              exact q3
            · rw [z3] at q2; cases q2
        exact z cls dd H' y1.tail y2.tail (hx.sub sub)
end
end Dt

set_option Elab.async false
set_option linter.all false
set_option maxRecDepth 100000
set_option maxHeartbeats 4000000
/-! DtL: a def's text read as plain data's transformer, once for all. -/
namespace Dt
open PySem PySem.Spec PyProof.Rows L2

/-- what a global name holds -/
inductive Gi where
  | fn (k n : Nat) (F : ME) (dfl : List D) (kwn : Option (Nat × Str))
  | kc (d : D)
/-- where a text stands -/
structure Gam where
  N : List Str
  sc : Scope
  fnc : Bool
  tab : Str → Option Gi
  lv : Nat
  lent : List Nat
def bltNames : List Str := ["abs", "int", "len", "range", "isinstance", "bool", "str", "list", "tuple", "min", "max"]
/-- the facts behind a global name -/
def GiOk (G : Gm) (P : Program) (w : World) (mg : Str → Option Value) (base : Heap) (lv : Nat) (x : Str) : Gi → Prop
  | .fn k n F dfl kwn => k ≤ lv ∧ MonoE F ∧ ∃ f fd ps, mg x = some (.ref f) ∧ PySem.W.keepIn G.K (.ref f) = true ∧ ps.length = n ∧ FnOk P w G.K mg base (L2.CX P w) k f fd ps (spF G F) ∧
      (∀ j, j ≤ dfl.length → ∃ ds dvs, Binds G.K fd ps ds ∧ Vals dvs ds ∧ cvs (dfl.drop j) dvs) ∧
      ∀ np kw, kwn = some (np, kw) → ∃ ds dvs, Vals dvs ds ∧ cvs (dfl.drop (np + dfl.length - n)).dropLast dvs ∧ KBn G.K fd ps np [kw] (fun us ws => us ++ (ds ++ ws)) (fun vs zs => vs ++ (dvs ++ zs))
  | .kc d => ∃ v u, d.cv = some v ∧ mg x = some u ∧ RelV v u
structure GX (G : Gm) (Γ : Gam) (X : Cx) : Prop where
  K : G.K = X.K
  calm : X.calm = true
  nd : X.N.Nodup
  N : X.N = Γ.N
  sc : X.env.scope = Γ.sc
  kd : Γ.sc.kind = .function
  fn : Γ.fnc = true → ∀ x, X.fn x = true
  room : Room Γ.lv X.A
  tab : ∀ x g, Γ.tab x = some g → GiOk G X.prog X.w X.mg X.base Γ.lv x g
  blt : ∀ x ∈ bltNames, X.mg x = none
def ixOf : List Str → Str → Option Nat
  | [], _ => none
  | y :: ys, x => if y = x then some 0 else (ixOf ys x).map (· + 1)
theorem ixOf_get : ∀ {N : List Str} {x : Str} {i : Nat}, ixOf N x = some i → N[i]? = some x
  | [], _, _, h => by cases h
  | y :: ys, x, i, h => by
    unfold ixOf at h
    split at h
    · rename_i e; cases h; subst e; rfl
    · cases hx : ixOf ys x with
      | none => rw [hx] at h; cases h
      | some j => rw [hx] at h; cases h; simpa using ixOf_get hx
/-- a name of the def: its slot -/
def locIx (Γ : Gam) (x : Str) : Option Nat := match Γ.sc.names.lookup x with
  | some .local => ixOf Γ.N x
  | some .cell => ixOf Γ.N x
  | some .free => ixOf Γ.N x
  | _ => none
/-- a name to which the text may store -/
def stoIx (Γ : Gam) (x : Str) : Option Nat := match Γ.sc.names.lookup x with
  | some .local => (ixOf Γ.N x).bind fun i => if Γ.lent.contains i then none else some i
  | some .cell => if Γ.fnc then (ixOf Γ.N x).bind fun i => if Γ.lent.contains i then none else some i else none
  | _ => none
def isGl (Γ : Gam) (x : Str) : Bool := Γ.sc.names.lookup x == some .globalImplicit && !decide (x = "__debug__") && !decide (x = "__name__") && !decide (x = "__classdict__")
def okName (x : Str) : Bool := !decide (x = "__debug__") && !decide (x = "__classdict__")
section
variable {G : Gm} {Γ : Gam} {X : Cx}
theorem okName_1 {x : Str} (h : okName x = true) : (x == ("__debug__" : Str)) = false ∧ (x == ("__classdict__" : Str)) = false := by
  unfold okName at h
  simp at h
  simpa using h
theorem loc_of (g : GX G Γ X) {x : Str} {i : Nat} (h : locIx Γ x = some i) (hx : okName x = true) {pos : Pos} : PE X (.Name x pos) (tVar i) := by
  obtain ⟨h1, h2⟩ := okName_1 hx
  unfold locIx at h
  have v : ∀ {i : Nat}, ixOf Γ.N x = some i → X.N[i]? = some x := fun e => by rw [g.N]; exact ixOf_get e
  split at h
  · rename_i e; exact pe_var (v h) (.inl (by rw [g.sc]; exact e)) h1 h2
  · rename_i e; exact pe_var (v h) (.inr (.inl (by rw [g.sc]; exact e))) h1 h2
  · rename_i e; exact pe_var (v h) (.inr (.inr (by rw [g.sc]; exact e))) h1 h2
  · cases h
theorem sto_of (g : GX G Γ X) {x : Str} {i : Nat} (h : stoIx Γ x = some i) : X.N[i]? = some x ∧ Loc X.env.scope x ∧ (X.fn x = true ∨ X.env.scope.names.lookup x = some .local) ∧ i ∉ Γ.lent := by
  unfold stoIx at h
  have v : ∀ {i : Nat}, ((ixOf Γ.N x).bind fun i => if Γ.lent.contains i then none else some i) = some i → X.N[i]? = some x ∧ i ∉ Γ.lent := fun {i} e => by
    cases hx : ixOf Γ.N x with
    | none => rw [hx] at e; cases e
    | some j =>
      rw [hx] at e
      simp only [Option.bind_some] at e
      split at e
      · cases e
      · rename_i hn; cases e
        exact ⟨by rw [g.N]; exact ixOf_get hx, by simpa using hn⟩
  split at h
  · rename_i e
    have e' : X.env.scope.names.lookup x = some .local := by rw [g.sc]; exact e
    exact ⟨(v h).1, .inl e', .inr e', (v h).2⟩
  · rename_i e
    have e' : X.env.scope.names.lookup x = some .cell := by rw [g.sc]; exact e
    split at h
    · rename_i hf
      exact ⟨(v h).1, .inr e', .inl (g.fn hf x), (v h).2⟩
    · cases h
  · cases h
theorem gl_of (g : GX G Γ X) {x : Str} (h : isGl Γ x = true) : Gl X x ∧ (x == ("__debug__" : Str)) = false ∧ x ≠ "__name__" := by
  unfold isGl at h
  simp at h
  refine ⟨?_, by simpa using h.1.1.2, h.1.2⟩
  show X.env.kindOf x = _
  show X.env.scope.names.lookup x = _
  rw [g.sc]; exact h.1.1.1
end

/-! ### the reader -/
def mapO {α β : Type} (f : α → Option β) : List α → Option (List β)
  | [] => some []
  | a :: as => match f a with
    | some b => match mapO f as with
      | some bs => some (b :: bs)
      | none => none
    | none => none
def binB : Operator → Option Bi
  | .Add => some bAdd
  | .Sub => some bSub
  | .Mult => some bMul
  | .FloorDiv => some bDiv
  | .Mod => some bMod
  | .Pow => some bPow
  | _ => none
def cmpB : CmpOp → Option Bi
  | .Eq => some bEq
  | .NotEq => some bNe
  | .Lt => some bLt
  | .LtE => some bLe
  | .Gt => some bGt
  | .GtE => some bGe
  | .Is => some bIs
  | .IsNot => some bIsN
  | _ => none
def bNeg : Bi := fun dd K => match dd with
  | [.int i] => K (.val (.int (-i)))
  | _ => False
/-- built-in functions by name -/
def bltB (x : Str) (n : Nat) : Option Bi :=
  if x = "abs" ∧ n = 1 then some bAbs
  else if x = "int" ∧ n = 1 then some bInt
  else if x = "len" ∧ n = 1 then some bLen
  else if x = "min" ∧ n = 2 then some bMin2
  else if x = "max" ∧ n = 2 then some bMax2
  else none
/-- the built-in classes of an isinstance -/
def clsN (Γ : Gam) : Expr → Option String
  | .Name x _ => if isGl Γ x = true then (if x = "int" then some "int" else if x = "bool" then some "bool" else if x = "str" then some "str" else if x = "list" then some "list" else if x = "tuple" then some "tuple" else none) else none
  | _ => none
/-- the second argument of an isinstance -/
def isiArgs (Γ : Gam) : Expr → Option (List String)
  | .Tuple cs _ _ => mapO (clsN Γ) cs
  | .Name x p => (clsN Γ (.Name x p)).map fun t => [t]
  | _ => none
def one {α : Type} : List α → Option α
  | [c] => some c
  | _ => none
theorem one_eq {α : Type} {l : List α} {c : α} (h : one l = some c) : l = [c] := by
  match l, h with
  | [_], h => cases h; rfl
  | [], h => cases h
  | _ :: _ :: _, h => cases h
/-- where no exception may leave -/
def eNox (m : ME) : ME := fun s Q _ => m s Q fun _ _ => False
/-- a < b < c -/
def eChain (oa ob oc : Opd) (b1 b2 : Bi) : ME := fun s Q X => evO [oa, ob] s (fun ds s' => datK [oa, ob] ds s' fun dd => match dd with
  | [d1, d2] => d2.cv.isSome = true ∧ b1 [d1, d2] fun r => match r with
    | .val (.bl true) => evO [oc] s' (fun ds3 s3 => datK [oc] ds3 s3 fun dd3 => match dd3 with
      | [d3] => b2 [d2, d3] fun r => Q r s3
      | _ => False) X
    | .val (.bl false) => Q (.val (.bl false)) s'
    | _ => False
  | _ => False) X
mutual
def trE : Nat → Gam → Expr → Option ME
  | 0, _, _ => none
  | n + 1, Γ, e => match e with
    | .Constant c _ _ => match c with
      | .none => some (eC .non)
      | .bool b => some (eC (.bl b))
      | .int i => some (eC (.int i))
      | .str x => some (eC (.str x))
      | _ => none
    | .Name x _ => match locIx Γ x with
      | some i => if okName x = true then some (eVar i) else none
      | none => if isGl Γ x = true then match Γ.tab x with
        | some (.kc d) => some (eC d)
        | _ => none else none
    | .BinOp a op b _ => match binB op, trO n Γ a, trO n Γ b with
      | some bi, some oa, some ob => some (eBi [oa, ob] bi)
      | _, _, _ => none
    | .UnaryOp .Not a _ => (trE n Γ a).map eNotV
    | .UnaryOp .USub a _ => (trO n Γ a).map fun o => eBi [o] bNeg
    | .BoolOp op es _ => trB n Γ op es
    | .IfExp c a b _ => match trT n Γ c, trE n Γ a, trE n Γ b with
      | some t, some ma, some mb => some (eIfV t ma mb)
      | _, _, _ => none
    | .Compare a [op] [b] _ => match cmpB op, trO n Γ a, trO n Γ b with
      | some bi, some oa, some ob => some (eBi [oa, ob] bi)
      | _, _, _ => none
    | .Call (.Name x _) (a :: as) [] _ => if isGl Γ x = true then (match Γ.tab x with
        | some (.fn k m F dfl _) => if (a :: as).length ≤ m ∧ m ≤ (a :: as).length + dfl.length then (trOs n Γ (a :: as)).map fun ops => eCall F ops (dfl.drop ((a :: as).length + dfl.length - m)) else none
        | some (.kc _) => none
        | none => if x = "isinstance" then match one as with
            | some c => match trO n Γ a, isiArgs Γ c with
              | some o, some ns => if ns.length ≤ 1000 then some (eBi [o] (bIsi ns)) else none
              | _, _ => none
            | none => none
          else match bltB x (a :: as).length, trOs n Γ (a :: as) with
            | some bi, some ops => some (eBi ops bi)
            | _, _ => none) else none
    | .Call (.Name x _) (a :: as) [⟨some kw, ke, _⟩] _ => if isGl Γ x = true then (match Γ.tab x with
        | some (.fn k m F dfl (some (np, kw'))) => if np = (a :: as).length ∧ kw' = kw then (match trOs n Γ (a :: as), trO n Γ ke with
          | some ops, some ko => some (eNox (eCall F (ops ++ (dOps (dfl.drop (np + dfl.length - m)).dropLast ++ [ko])) []))
          | _, _ => none) else none
        | _ => none) else none
    | .Subscript a i _ => if isSlice i = true then none else match trO n Γ a, trO n Γ i with
      | some oa, some oi => some (eBi [oa, oi] bIx)
      | _, _ => none
    | .Tuple es _ _ => (trEs n Γ es).map fun ms => eBi (exs ms) bTup
    | .List es _ => (trEs n Γ es).map fun ms => eBi (exs ms) bLst
    | _ => none
def trO : Nat → Gam → Expr → Option Opd
  | 0, _, _ => none
  | n + 1, Γ, e => match e with
    | .Name x p => match locIx Γ x with
      | some i => if okName x = true then some (.sl i) else none
      | none => (trE n Γ (.Name x p)).map .ex
    | .Starred _ _ => none
    | e => (trE n Γ e).map .ex
def trOs : Nat → Gam → List Expr → Option (List Opd)
  | 0, _, _ => none
  | _ + 1, _, [] => some []
  | n + 1, Γ, e :: es => match trO n Γ e, trOs n Γ es with
    | some o, some os => some (o :: os)
    | _, _ => none
def trEs : Nat → Gam → List Expr → Option (List ME)
  | 0, _, _ => none
  | _ + 1, _, [] => some []
  | n + 1, Γ, e :: es => match noStar e, trE n Γ e, trEs n Γ es with
    | true, some m, some ms => some (m :: ms)
    | _, _, _ => none
def trB : Nat → Gam → BoolOp → List Expr → Option ME
  | 0, _, _, _ => none
  | _ + 1, _, _, [] => none
  | n + 1, Γ, _, [a] => trE n Γ a
  | n + 1, Γ, op, a :: b :: r => match trE n Γ a, trB n Γ op (b :: r) with
    | some m, some m' => some (match op with
      | .And => eAndV m m'
      | .Or => eOrV m m')
    | _, _ => none
def trT : Nat → Gam → Expr → Option MT
  | 0, _, _ => none
  | n + 1, Γ, e => match e with
    | .UnaryOp .Not a _ => (trT n Γ a).map tNotM
    | .BoolOp op es _ => trW n Γ op es
    | .Compare a [op] [b] _ => match cmpB op, trO n Γ a, trO n Γ b with
      | some bi, some oa, some ob => some (tBl (eBi [oa, ob] bi))
      | _, _, _ => none
    | .Name x p => (trE n Γ (.Name x p)).map tTru
    | .Call f as ks p => (trE n Γ (.Call f as ks p)).map tTru
    | .Subscript a i p => (trE n Γ (.Subscript a i p)).map tTru
    | .BinOp a o b p => (trE n Γ (.BinOp a o b p)).map tTru
    | _ => none
def trW : Nat → Gam → BoolOp → List Expr → Option MT
  | 0, _, _, _ => none
  | _ + 1, _, _, [] => none
  | n + 1, Γ, _, [a] => trT n Γ a
  | n + 1, Γ, op, a :: b :: r => match trT n Γ a, trW n Γ op (b :: r) with
    | some m, some m' => some (match op with
      | .And => tAndM m m'
      | .Or => tOrM m m')
    | _, _ => none
end
end Dt

set_option Elab.async false
set_option linter.all false
set_option maxRecDepth 100000
set_option maxHeartbeats 4000000
/-! DtM: what trE reads holds. -/
namespace Dt
open PySem PySem.Spec PyProof.Rows L2

section
variable {G : Gm} {Γ : Gam} {X : Cx}
theorem mono_bNeg : MonoB bNeg := fun dd K K' k h => by
  unfold bNeg at h ⊢
  split at h
  · exact k _ h
  · exact h.elim
theorem bok_neg : BOk G (fun vs H Q => ∃ x, vs = [x] ∧ rU (fun i => .int (-i)) x H Q) bNeg := by
  intro O dd vs H K Q hO hp hb hq
  unfold bNeg at hb
  split at hb
  · obtain ⟨v, rfl, h1⟩ := hp.one
    obtain rfl := h1.int
    exact ⟨_, rfl, _, rfl, hq _ _ H hb (newR_val (by simp))⟩
  · exact hb.elim
theorem bin_ok {op : Operator} {bi : Bi} (h : binB op = some bi) : MonoB bi ∧ ∃ r, OpR X (binaryOp op) r ∧ BOk G (r2L r) bi := by
  cases op <;> simp [binB] at h <;> subst h
  · exact ⟨mono_bAdd, _, op_add, bok_add⟩
  · exact ⟨mono_bSub, _, op_sub, bok_sub⟩
  · exact ⟨mono_bMul, _, op_mulA, bok_mul⟩
  · exact ⟨mono_bMod, _, op_mod, bok_mod⟩
  · exact ⟨mono_bPow, _, op_pow, bok_pow⟩
  · exact ⟨mono_bDiv, _, op_fdivW, bok_div⟩
theorem cmp_ok (hK : G.K = X.K) (hr : Room Γ.lv X.A) {op : CmpOp} {bi : Bi} (h : cmpB op = some bi) : MonoB bi ∧ (op ≠ .In ∧ op ≠ .NotIn) ∧ ∃ r, OpR X (compareOp op) r ∧ BOk G (r2L r) bi := by
  cases op <;> simp [cmpB] at h <;> subst h
  · exact ⟨mono_bEq, by decide, _, op_eqD hr.units, by rw [← hK]; exact bok_eq⟩
  · exact ⟨mono_bNe, by decide, _, op_neD hr.units, by rw [← hK]; exact bok_ne⟩
  · exact ⟨mono_bLt, by decide, _, op_lt, bok_lt⟩
  · exact ⟨mono_bLe, by decide, _, op_le, bok_le⟩
  · exact ⟨mono_bGt, by decide, _, op_gt, bok_gt⟩
  · exact ⟨mono_bGe, by decide, _, op_ge, bok_ge⟩
  · exact ⟨mono_bIs, by decide, _, op_isAny, bok_is⟩
  · exact ⟨mono_bIsN, by decide, _, op_notAny, bok_isN⟩
theorem plainIx {i : Expr} (h : isSlice i = false) : PlainIx i := fun o v => by
  cases i <;> first | rfl | cases h
theorem boot_min' : bootBuiltins "min" = some (.builtin "min") := by decide +kernel
theorem boot_max' : bootBuiltins "max" = some (.builtin "max") := by decide +kernel
theorem boot_abs' : bootBuiltins "abs" = some (.builtin "abs") := by decide +kernel
theorem boot_len' : bootBuiltins "len" = some (.builtin "len") := by decide +kernel
theorem boot_isi' : bootBuiltins "isinstance" = some (.builtin "isinstance") := by decide +kernel
theorem boot_int' : bootBuiltins "int" = some (.type "int") := by decide +kernel
theorem boot_bool' : bootBuiltins "bool" = some (.type "bool") := by decide +kernel
theorem boot_str' : bootBuiltins "str" = some (.type "str") := by decide +kernel
theorem boot_list' : bootBuiltins "list" = some (.type "list") := by decide +kernel
theorem boot_tuple' : bootBuiltins "tuple" = some (.type "tuple") := by decide +kernel
theorem mem_blt {x : Str} (h : bltNames.contains x = true) : x ∈ bltNames := by simpa using h
theorem blt_ok (g : GX G Γ X) {x : Str} {a : Expr} {as : List Expr} {ops : List Opd} {bi : Bi} {p pos : Pos} (hg : isGl Γ x = true) (h : bltB x (a :: as).length = some bi) (ha : DOs G X (a :: as) ops) (hn : noStar a = true) (ht : ∃ ops', DOs G X as ops') : DE G X (.Call (.Name x p) (a :: as) [] pos) (eBi ops bi) := by
  obtain ⟨g1, g2, g3⟩ := gl_of g hg
  obtain ⟨ops', ht⟩ := ht
  have st := starEach_cons (es := as) (env := X.env) hn
  have pl := ht.nostar pos
  unfold bltB at h
  split at h
  · rename_i e; obtain ⟨rfl, _⟩ := e; cases h
    exact de_opN bok_abs mono_bAbs ha fun t q => pe_callB call_abs g1 (g.blt _ (mem_blt (by decide +kernel))) boot_abs' q g3 g2 st pl
  · split at h
    · rename_i e; obtain ⟨rfl, _⟩ := e; cases h
      exact de_opN bok_int mono_bInt ha fun t q => pe_callTy call_int1 g1 (g.blt _ (mem_blt (by decide +kernel))) boot_int' q g3 g2 st pl
    · split at h
      · rename_i e; obtain ⟨rfl, _⟩ := e; cases h
        exact de_opN (r := fun xs H Q => ∃ x n, xs = [x] ∧ LenV X.K x H n ∧ Q (.int n) H) (by rw [← g.K]; exact bok_len) mono_bLen ha fun t q => pe_callB call_len g1 (g.blt _ (mem_blt (by decide +kernel))) boot_len' q g3 g2 st pl
      · split at h
        · rename_i e; obtain ⟨rfl, _⟩ := e; cases h
          exact de_opN bok_min2 mono_bMin2 ha fun t q => pe_callB (call_min2 g.calm) g1 (g.blt _ (mem_blt (by decide +kernel))) boot_min' q g3 g2 st pl
        · split at h
          · rename_i e; obtain ⟨rfl, _⟩ := e; cases h
            exact de_opN bok_max2 mono_bMax2 ha fun t q => pe_callB (call_max2 g.calm) g1 (g.blt _ (mem_blt (by decide +kernel))) boot_max' q g3 g2 st pl
          · cases h
/-- a built-in class as an argument -/
theorem cls_ok (g : GX G Γ X) {e : Expr} {t : String} (h : clsN Γ e = some t) : PE X e (tC (.ty t)) ∧ noStar e = true := by
  cases e <;> simp [clsN] at h
  rename_i x pos
  obtain ⟨hg, h⟩ := h
  obtain ⟨g1, g2, g3⟩ := gl_of g hg
  refine ⟨?_, rfl⟩
  split at h
  · rename_i e; subst e; cases h; exact pe_bltn g1 (g.blt _ (mem_blt (by decide +kernel))) boot_int' rfl g3 g2
  · split at h
    · rename_i e; subst e; cases h; exact pe_bltn g1 (g.blt _ (mem_blt (by decide +kernel))) boot_bool' rfl g3 g2
    · split at h
      · rename_i e; subst e; cases h; exact pe_bltn g1 (g.blt _ (mem_blt (by decide +kernel))) boot_str' rfl g3 g2
      · split at h
        · rename_i e; subst e; cases h; exact pe_bltn g1 (g.blt _ (mem_blt (by decide +kernel))) boot_list' rfl g3 g2
        · split at h
          · rename_i e; subst e; cases h; exact pe_bltn g1 (g.blt _ (mem_blt (by decide +kernel))) boot_tuple' rfl g3 g2
          · cases h
def tTys : List String → TA
  | [] => tNil
  | n :: r => tCons (tC (.ty n)) (tTys r)
theorem clss_ok (g : GX G Γ X) : ∀ {es : List Expr} {ts : List String}, mapO (clsN Γ) es = some ts → PA X es (tTys ts)
  | [], ts, h => by cases h; exact pa_nil
  | e :: es, ts, h => by
    unfold mapO at h
    split at h
    · rename_i t h1
      split at h
      · rename_i tt h2
        cases h
        obtain ⟨h3, h4⟩ := cls_ok g h1
        exact pa_cons h3 (clss_ok g h2) (starEach_cons h4)
      · cases h
    · cases h
theorem tTys_of {σ : Sl} {H : Hp} : ∀ {ts : List String} {Q : List V → Hp → Prop}, Q (ts.map V.ty) H → tTys ts σ H Q
  | [], _, h => h
  | t :: ts, Q, h => by
    show tTys ts σ H fun xs H2 => Q (.ty t :: xs) H2
    exact tTys_of h
theorem size_small {n : Nat} (h : n ≤ 1000) : n ≤ sizeLine := Nat.le_of_lt (small1000 h)
theorem isi1_ok (g : GX G Γ X) {x : Str} (hx : x = "isinstance") {a c : Expr} {o : Opd} {t : String} {p pos : Pos} (hg : isGl Γ x = true) (ha : DO G X a o) (hn : noStar a = true) (hc : clsN Γ c = some t) : DE G X (.Call (.Name x p) [a, c] [] pos) (eBi [o] (bIsi [t])) := by
  subst hx
  obtain ⟨g1, g2, g3⟩ := gl_of g hg
  obtain ⟨c1, c2⟩ := cls_ok g hc
  have hm : ∀ o' ∈ [o], o'.Mono := fun o' q => by rcases List.mem_cons.mp q with rfl | q; exact ha.mono; cases q
  refine ⟨eBi_mono hm mono_bIsi, fun B W tk => PE.wk (pe_callB call_isi g1 (g.blt _ (mem_blt (by decide +kernel))) boot_isi' (pa_cons (ha.run B W tk) (pa_cons c1 pa_nil (starEach_cons c2)) (starEach_cons hn)) g3 g2 (starEach_cons hn) (by rw [starEach_cons c2]; rfl)) fun σ H Q q => ?_⟩
  have z := eBi_of hm mono_bIsi (bok_isi1 (G := G) (n := t)) q
  have key : ∀ (o : Opd), o.Mono → ∀ σ H (Q Q' : VK), (∀ v H, Q v H → Q' v H) → rdO G B W o σ H Q → rdO G B W o σ H Q' := fun o hm σ H Q Q' hq z => by
    cases o with
    | sl i =>
      obtain ⟨v, h1, h2⟩ := z
      exact ⟨v, h1, hq _ _ h2⟩
    | ex m =>
      obtain ⟨es, A, z⟩ := z
      exact ⟨es, A, (hm : MonoE m) _ _ _ _ _ (fun r s' q v H' a k => hq _ _ (q v H' a k)) (fun _ _ q => q) z⟩
  refine key o ha.mono _ _ _ _ (fun x H1 z => ?_) z
  obtain ⟨x', e1, z⟩ := z
  cases e1
  rw [g.K] at z
  exact z
theorem isiN_ok (g : GX G Γ X) {x : Str} (hx : x = "isinstance") {a : Expr} {cs : List Expr} {k : Nat} {pt : Pos} {o : Opd} {ts : List String} {p pos : Pos} (hg : isGl Γ x = true) (ha : DO G X a o) (hn : noStar a = true) (hc : mapO (clsN Γ) cs = some ts) (hl : ts.length ≤ 1000) :
    DE G X (.Call (.Name x p) [a, .Tuple cs k pt] [] pos) (eBi [o] (bIsi ts)) := by
  subst hx
  obtain ⟨g1, g2, g3⟩ := gl_of g hg
  have c1 := clss_ok g hc
  have hm : ∀ o' ∈ [o], o'.Mono := fun o' q => by rcases List.mem_cons.mp q with rfl | q; exact ha.mono; cases q
  refine ⟨eBi_mono hm mono_bIsi, fun B W tk => PE.wk (pe_callB call_isiT g1 (g.blt _ (mem_blt (by decide +kernel))) boot_isi' (pa_cons (ha.run B W tk) (pa_cons (pe_tup c1) pa_nil) (starEach_cons hn)) g3 g2 (starEach_cons hn) rfl) fun σ H Q q => ?_⟩
  have z := eBi_of hm mono_bIsi (bok_isiN (G := G) (ns := ts)) q
  have key : ∀ (o : Opd), o.Mono → ∀ σ H (Q Q' : VK), (∀ v H, Q v H → Q' v H) → rdO G B W o σ H Q → rdO G B W o σ H Q' := fun o hm σ H Q Q' hq z => by
    cases o with
    | sl i =>
      obtain ⟨v, h1, h2⟩ := z
      exact ⟨v, h1, hq _ _ h2⟩
    | ex m =>
      obtain ⟨es, A, z⟩ := z
      exact ⟨es, A, (hm : MonoE m) _ _ _ _ _ (fun r s' q v H' a k => hq _ _ (q v H' a k)) (fun _ _ q => q) z⟩
  refine key o ha.mono _ _ _ _ (fun x H1 z => ?_) z
  obtain ⟨x', e1, z⟩ := z
  cases e1
  rw [g.K] at z
  show tTys ts σ H1 _
  refine tTys_of ⟨size_small (by simpa using hl), fun p hp => z p hp⟩
theorem DOs.tail {e : Expr} {es : List Expr} {o : Opd} {ops : List Opd} (h : DOs G X es ops) : DOs G X es ops := h

/-! ### a call with its last parameter by name -/
theorem evO_append {Xq : QX} : ∀ {a b : List Opd} {s : List En} {K : List (Option D) → List En → Prop}, evO (a ++ b) s K Xq = evO a s (fun ds s' => evO b s' (fun ds' s2 => K (ds ++ ds') s2) Xq) Xq
  | [], b, s, K => rfl
  | .sl i :: a, b, s, K => by
    show (_ ∧ evO (a ++ b) s _ Xq) = (_ ∧ evO a s _ Xq)
    rw [evO_append (a := a)]; rfl
  | .ex m :: a, b, s, K => by
    show m s _ Xq = m s _ Xq
    congr 1
    funext e s1
    congr 1
    funext d
    show evO (a ++ b) s1 _ Xq = _
    rw [evO_append (a := a)]; rfl
theorem evO_d {Xq : QX} : ∀ {dd : List D} {s : List En} {K : List (Option D) → List En → Prop}, evO (dOps dd) s K Xq = K (dd.map some) s
  | [], _, _ => rfl
  | d :: dd, s, K => by
    show evO (dOps dd) s _ Xq = _
    rw [evO_d (dd := dd)]; rfl
theorem OpsAt.app {B : AP} {es : List En} {σ : Sl} {H : Hp} : ∀ {a b : List Opd} {ds ds' : List (Option D)} {vs vs' : List V}, OpsAt G B es σ H a ds vs → OpsAt G B es σ H b ds' vs' → OpsAt G B es σ H (a ++ b) (ds ++ ds') (vs ++ vs')
  | [], b, [], ds', vs, vs', h, h' => by rw [show vs = [] from h]; exact h'
  | [], _, _ :: _, _, _, _, h, _ => h.elim
  | .sl i :: a, b, none :: ds, ds', vs, vs', ⟨v, r, e, h1, h2⟩, h' => ⟨v, r ++ vs', by rw [e]; rfl, h1, OpsAt.app h2 h'⟩
  | .ex m :: a, b, some d :: ds, ds', vs, vs', ⟨v, r, e, h1, h2⟩, h' => ⟨v, r ++ vs', by rw [e]; rfl, h1, OpsAt.app h2 h'⟩
  | .sl _ :: _, _, [], _, _, _, h, _ => h.elim
  | .sl _ :: _, _, some _ :: _, _, _, _, h, _ => h.elim
  | .ex _ :: _, _, [], _, _, _, h, _ => h.elim
  | .ex _ :: _, _, none :: _, _, _, _, h, _ => h.elim
theorem OpsAt.dfl {B : AP} {es : List En} {σ : Sl} {H : Hp} : ∀ {dd : List D} {vs : List V}, cvs dd vs → OpsAt G B es σ H (dOps dd) (dd.map some) vs
  | [], [], _ => rfl
  | d :: ds, v :: vs, ⟨h1, h2⟩ => ⟨v, vs, rfl, has_cv h1, OpsAt.dfl h2⟩
theorem OpsAt.kp {B : AP} {es es' : List En} {σ : Sl} {H H' : Hp} (k : Kp (Ow es σ) H (Ow es' σ) H') : ∀ {a : List Opd} {ds : List (Option D)} {vs : List V}, OpsAt G B es σ H a ds vs → OpsAt G B es' σ H' a ds vs
  | [], [], _, h => h
  | [], _ :: _, _, h => h.elim
  | .sl i :: a, none :: ds, vs, ⟨v, r, e, h1, h2⟩ => ⟨v, r, e, h1, OpsAt.kp k h2⟩
  | .ex m :: a, some d :: ds, vs, ⟨v, r, e, h1, h2⟩ => ⟨v, r, e, h1.kp k.ob, OpsAt.kp k h2⟩
  | .sl _ :: _, [], _, h => h.elim
  | .sl _ :: _, some _ :: _, _, h => h.elim
  | .ex _ :: _, [], _, h => h.elim
  | .ex _ :: _, none :: _, _, h => h.elim
theorem opsAt_len {B : AP} {es : List En} {σ : Sl} {H : Hp} : ∀ {a : List Opd} {ds : List (Option D)} {vs : List V}, OpsAt G B es σ H a ds vs → vs.length = a.length
  | [], [], _, h => by rw [show _ = [] from h]; rfl
  | [], _ :: _, _, h => h.elim
  | .sl i :: a, none :: ds, vs, ⟨v, r, e, h1, h2⟩ => by rw [e, List.length_cons, List.length_cons, opsAt_len h2]
  | .ex m :: a, some d :: ds, vs, ⟨v, r, e, h1, h2⟩ => by rw [e, List.length_cons, List.length_cons, opsAt_len h2]
  | .sl _ :: _, [], _, h => h.elim
  | .sl _ :: _, some _ :: _, _, h => h.elim
  | .ex _ :: _, [], _, h => h.elim
  | .ex _ :: _, none :: _, _, h => h.elim
theorem de_callM {F : ME} {k np : Nat} {f : Addr} {fd : FuncData} {ps : List Str} {x kw : Str} {a ke : Expr} {as : List Expr} {ops : List Opd} {ko : Opd} {dd : List D} {dvs : List V} {ds : List Value} {p pos kp : Pos}
    (F' : FnOk X.prog X.w X.K X.mg X.base (L2.CX X.prog X.w) k f fd ps (spF G F)) (hF : MonoE F) (hr : Room k X.A) (hg : Gl X x) (hm : X.mg x = some (.ref f)) (hk : PySem.W.keepIn X.K (.ref f) = true) (hb : KBn X.K fd ps np [kw] (fun us ws => us ++ (ds ++ ws)) (fun vs zs => vs ++ (dvs ++ zs))) (hc : cvs dd dvs)
    (hl : ops.length = np) (ha : DOs G X (a :: as) ops) (hn : noStar a = true) (hko : DO G X ke ko) (hdb : (x == ("__debug__" : Str)) = false) : DE G X (.Call (.Name x p) (a :: as) [⟨some kw, ke, kp⟩] pos) (eNox (eCall F (ops ++ (dOps dd ++ [ko])) [])) := by
  have hmo : ∀ o ∈ ops ++ (dOps dd ++ [ko]), o.Mono := fun o q => by
    rcases List.mem_append.mp q with q | q
    · exact ha.mono o q
    · rcases List.mem_append.mp q with q | q
      · obtain ⟨d, _, rfl⟩ := List.mem_map.mp q
        exact mono_eC
      · rcases List.mem_cons.mp q with rfl | q
        · exact hko.mono
        · cases q
  have mo := mono_eCall (dfl := []) hF hmo
  refine ⟨fun s Q Q' X X' hQ _ q => mo _ _ _ _ _ hQ (fun _ _ z => z) q, fun B W tk => PE.wk (pe_callN F' hr hg hm hk hb passL (ha.run B W tk) (pk_cons (hko.run B W tk) pk_nil) rfl rfl hdb (starEach_cons hn) (by rw [ha.nostar]; rfl)) fun σ H Q ⟨es, A, q⟩ => ?_⟩
  unfold eNox eCall at q
  rw [evO_append] at q
  refine rdA_of ha.mono A q (fun d1 es1 vs H1 z A1 k1 o1 => ?_) (fun x es' z => z.elim)
  rw [evO_append, evO_d] at z
  show rdA G B W [ko] σ H1 _
  refine rdA_of (fun o q => by rcases List.mem_cons.mp q with rfl | q; exact hko.mono; cases q) A1 z (fun d2 es2 zs H2 z A2 k2 o2 => ?_) (fun x es' z => z.elim)
  have oo := (o1.kp k2).app ((OpsAt.dfl (G := G) (B := B) (es := es2) (σ := σ) (H := H2) hc).app o2)
  obtain ⟨ar, h1, hn, h2⟩ := args_of oo z
  refine ⟨(opsAt_len o1).trans hl, opsAt_len o2, ?_⟩
  have := sp_call (dfl := []) (dvs := []) (E := fun _ _ _ => False) (Q := Q) (K := fun r es' => ∀ (v : V) (H' : Hp), At G B (r :: es') (some v :: σ) H' → Kp (Ow es σ) H (Ow (r :: es') (some v :: σ)) H' → Q v H') (X' := fun _ _ => False) hF A2 h1 trivial hn h2
    (fun r es3 v H3 z A3 k3 => z v H3 A3 ((k1.trans k2).trans k3)) (fun x es3 cls dd H3 z _ _ _ => z)
  rw [List.append_nil] at this
  exact this
/-- the reader is right, at depth n -/
structure Snd (G : Gm) (n : Nat) : Prop where
  e : ∀ Γ e m, trE n Γ e = some m → ∀ X, GX G Γ X → DE G X e m
  o : ∀ Γ e o, trO n Γ e = some o → ∀ X, GX G Γ X → DO G X e o ∧ noStar e = true
  os : ∀ Γ es os, trOs n Γ es = some os → ∀ X, GX G Γ X → DOs G X es os ∧ (∀ e ∈ es, noStar e = true) ∧ os.length = es.length ∧ ∀ a as, es = a :: as → ∃ o os', os = o :: os' ∧ DOs G X as os'
  es : ∀ Γ es ms, trEs n Γ es = some ms → ∀ X, GX G Γ X → DOs G X es (exs ms)
  b : ∀ Γ op es m, trB n Γ op es = some m → ∀ X, GX G Γ X → ∀ pos, DE G X (.BoolOp op es pos) m
  t : ∀ Γ e m, trT n Γ e = some m → ∀ X, GX G Γ X → DT G X e m
  w : ∀ Γ op es m, trW n Γ op es = some m → ∀ X, GX G Γ X → ∀ pos, DW G X (.BoolOp op es pos) m
theorem snd0 : Snd G 0 := by
  constructor <;> intros <;> simp_all [trE, trO, trOs, trEs, trB, trT, trW]
theorem de_cmp {op : CmpOp} {a b : Expr} {oa ob : Opd} {bi : Bi} {pos : Pos} (g : GX G Γ X) (h : cmpB op = some bi) (ha : DO G X a oa) (hb : DO G X b ob) : DE G X (.Compare a [op] [b] pos) (eBi [oa, ob] bi) := by
  obtain ⟨m1, ⟨n1, n2⟩, r, h1, h2⟩ := cmp_ok g.K g.room h
  exact de_op2 (f := compareOp op) h2 m1 ha hb fun ta tb q1 q2 => pe_cmpR h1 q1 q2 (nomark _ n1 n2)
theorem snd_e {n : Nat} (s : Snd G n) (Γ : Gam) (e : Expr) (m : ME) (h : trE (n + 1) Γ e = some m) (X : Cx) (g : GX G Γ X) : DE G X e m := by
  cases e with
  | Constant c k pos =>
    cases c <;> simp [trE] at h <;> subst h
    · exact de_const rfl pe_non
    · exact de_const rfl pe_bl
    · exact de_const rfl pe_int
    · exact de_const rfl pe_str
  | Name x pos =>
    simp only [trE] at h
    split at h
    · rename_i i hi
      split at h
      · rename_i hx
        cases h
        exact de_var (loc_of g hi hx)
      · cases h
    · split at h
      · rename_i hg
        split at h
        · rename_i d hd
          cases h
          obtain ⟨g1, g2, g3⟩ := gl_of g hg
          obtain ⟨v, u, h1, h2, h3⟩ := g.tab x _ hd
          exact de_const h1 (pe_glob g1 h2 h3 g2)
        · cases h
      · cases h
  | BinOp a op b pos =>
    simp only [trE] at h
    split at h
    · rename_i bi oa ob h1 h2 h3
      cases h
      obtain ⟨m1, r, h4, h5⟩ := bin_ok (G := G) (X := X) h1
      exact de_op2 (f := binaryOp op) h5 m1 (s.o Γ a oa h2 X g).1 (s.o Γ b ob h3 X g).1 fun ta tb q1 q2 => pe_op h4 q1 q2
    · cases h
  | UnaryOp op a pos =>
    cases op <;> simp [trE] at h
    · obtain ⟨m', h1, rfl⟩ := h
      exact de_not g.K (s.e Γ a m' h1 X g)
    · obtain ⟨o, h1, rfl⟩ := h
      exact de_op1 bok_neg mono_bNeg (s.o Γ a o h1 X g).1 fun ta q => pe_un un_neg q
  | BoolOp op es pos => exact s.b Γ op es m (by simpa [trE] using h) X g pos
  | IfExp c a b pos =>
    simp only [trE] at h
    split at h
    · rename_i t ma mb h1 h2 h3
      cases h
      exact de_if (s.t Γ c t h1 X g) (s.e Γ a ma h2 X g) (s.e Γ b mb h3 X g)
    · cases h
  | Compare a ops bs pos =>
    match ops, bs, h with
    | [op], [b], h =>
      simp only [trE] at h
      split at h
      · rename_i bi oa ob h1 h2 h3
        cases h
        exact de_cmp g h1 (s.o Γ a oa h2 X g).1 (s.o Γ b ob h3 X g).1
      · cases h
    | [], _, h => simp [trE] at h
    | [_], [], h => simp [trE] at h
    | [_], _ :: _ :: _, h => simp [trE] at h
    | _ :: _ :: _, _, h => simp [trE] at h
  | Call f as ks pos =>
    cases f with
    | Name x p =>
      match as, ks, h with
      | a :: as, [], h =>
        simp only [trE] at h
        split at h
        · rename_i hg
          obtain ⟨g1, g2, g3⟩ := gl_of g hg
          split at h
          · rename_i k mm F dfl kwn ht
            split at h
            · rename_i hl
              rw [Option.map_eq_some_iff] at h
              obtain ⟨ops, h1, rfl⟩ := h
              obtain ⟨q1, q2, q3, q4⟩ := s.os Γ (a :: as) ops h1 X g
              obtain ⟨o, ops', rfl, q5⟩ := q4 a as rfl
              obtain ⟨lv, mf, ff, fd, ps, t1, t2, t3, t4, t5, _⟩ := g.tab x _ ht
              obtain ⟨ds, dvs, t6, t7, t8⟩ := t5 ((a :: as).length + dfl.length - mm) (by omega)
              rw [g.K] at t2 t4 t6
              exact de_call t4 mf (g.room.mono lv) g1 t1 t2 t6 t7 t8 q1 (q2 a List.mem_cons_self) q5 g2
            · cases h
          · cases h
          · rename_i hnone
            split at h
            · rename_i hx
              split at h
              · rename_i c hc
                have e1 := one_eq hc
                subst e1
                split at h
                · rename_i o ns h1 h2
                  split at h
                  · rename_i hl
                    cases h
                    obtain ⟨q1, q2⟩ := s.o Γ a o h1 X g
                    cases c with
                    | Tuple cs k pt => exact isiN_ok g hx hg q1 q2 h2 hl
                    | Name y py =>
                      simp only [isiArgs] at h2
                      rw [Option.map_eq_some_iff] at h2
                      obtain ⟨t, h3, rfl⟩ := h2
                      exact isi1_ok g hx hg q1 q2 h3
                    | _ => cases h2
                  · cases h
                · cases h
              · cases h
            · split at h
              · rename_i bi ops h1 h2
                cases h
                obtain ⟨q1, q2, q3, q4⟩ := s.os Γ (a :: as) ops h2 X g
                obtain ⟨o, ops', rfl, q5⟩ := q4 a as rfl
                exact blt_ok g hg h1 q1 (q2 a List.mem_cons_self) ⟨_, q5⟩
              · cases h
        · cases h
      | [], _, h => simp [trE] at h
      | a :: as, [⟨kwo, ke, kp⟩], h =>
        cases kwo with
        | none => simp [trE] at h
        | some kw =>
          simp only [trE] at h
          split at h
          · rename_i hg
            obtain ⟨g1, g2, g3⟩ := gl_of g hg
            split at h
            · rename_i k mm F dfl np kw' ht
              split at h
              · rename_i hl
                split at h
                · rename_i ops ko h1 h2
                  cases h
                  obtain ⟨q1, q2, q3, q4⟩ := s.os Γ (a :: as) ops h1 X g
                  obtain ⟨k1, k2⟩ := s.o Γ ke ko h2 X g
                  obtain ⟨lv, mf, ff, fd, ps, t1, t2, t3, t4, _, t5⟩ := g.tab x _ ht
                  obtain ⟨ds, dvs, t6, t7, t8⟩ := t5 np kw' rfl
                  rw [g.K] at t2 t4 t8
                  obtain ⟨hl, rfl⟩ := hl
                  exact de_callM t4 mf (g.room.mono lv) g1 t1 t2 t8 t7 (by rw [q3, hl]) q1 (q2 a List.mem_cons_self) k1 g2
                · cases h
              · cases h
            · cases h
          · cases h
      | _ :: _, _ :: _ :: _, h => simp [trE] at h
    | _ => simp [trE] at h
  | Subscript a i pos =>
    simp only [trE] at h
    split at h
    · cases h
    · rename_i hs
      split at h
      · rename_i oa oi h1 h2
        cases h
        exact de_op2 (f := fun _ _ => pure .none) (r := rIx G.K) bok_ix mono_bIx (s.o Γ a oa h1 X g).1 (s.o Γ i oi h2 X g).1 fun ta tb q1 q2 => by
          rw [g.K]
          exact pe_ix ix_seq q1 q2 (plainIx (by simpa using hs))
      · cases h
  | Tuple es k pos =>
    simp [trE] at h
    obtain ⟨ms, h1, rfl⟩ := h
    exact de_tup (s.es Γ es ms h1 X g)
  | List es pos =>
    simp [trE] at h
    obtain ⟨ms, h1, rfl⟩ := h
    exact de_lst (s.es Γ es ms h1 X g)
  | _ => simp [trE] at h
end
end Dt

set_option Elab.async false
set_option linter.all false
set_option maxRecDepth 100000
set_option maxHeartbeats 4000000
/-! DtN: the reader of expressions at any depth; the reader of statements. -/
namespace Dt
open PySem PySem.Spec PyProof.Rows L2

section
variable {G : Gm} {Γ : Gam} {X : Cx}
theorem snd_o {n : Nat} (s : Snd G n) (Γ : Gam) (e : Expr) (o : Opd) (h : trO (n + 1) Γ e = some o) (X : Cx) (g : GX G Γ X) : DO G X e o ∧ noStar e = true := by
  have gen : ∀ {e : Expr}, (trE n Γ e).map Opd.ex = some o → DO G X e o := fun {e} h => by
    rw [Option.map_eq_some_iff] at h
    obtain ⟨m, h1, rfl⟩ := h
    exact (s.e Γ e m h1 X g).opd
  cases e with
  | Name x p =>
    simp only [trO] at h
    split at h
    · rename_i i hi
      split at h
      · rename_i hx
        cases h
        exact ⟨do_slot (loc_of g hi hx), rfl⟩
      · cases h
    · exact ⟨gen h, rfl⟩
  | Starred _ _ => simp [trO] at h
  | _ => exact ⟨gen (by simpa only [trO] using h), rfl⟩
theorem snd_os {n : Nat} (s : Snd G n) (Γ : Gam) (es : List Expr) (os : List Opd) (h : trOs (n + 1) Γ es = some os) (X : Cx) (g : GX G Γ X) :
    DOs G X es os ∧ (∀ e ∈ es, noStar e = true) ∧ os.length = es.length ∧ ∀ a as, es = a :: as → ∃ o os', os = o :: os' ∧ DOs G X as os' := by
  cases es with
  | nil =>
    simp [trOs] at h; subst h
    exact ⟨.nil, fun _ h => (nomatch h), rfl, fun _ _ e => (nomatch e)⟩
  | cons e es =>
    simp only [trOs] at h
    split at h
    · rename_i o os' h1 h2
      cases h
      obtain ⟨q1, q2⟩ := s.o Γ e o h1 X g
      obtain ⟨q3, q4, q5, _⟩ := s.os Γ es os' h2 X g
      exact ⟨.cons q1 q3 q2, fun e' z => by rcases List.mem_cons.mp z with rfl | z; exact q2; exact q4 _ z, by simp [q5], fun a as e => by cases e; exact ⟨_, _, rfl, q3⟩⟩
    · cases h
theorem snd_es {n : Nat} (s : Snd G n) (Γ : Gam) (es : List Expr) (ms : List ME) (h : trEs (n + 1) Γ es = some ms) (X : Cx) (g : GX G Γ X) : DOs G X es (exs ms) := by
  cases es with
  | nil => simp [trEs] at h; subst h; exact .nil
  | cons e es =>
    simp only [trEs] at h
    split at h
    · rename_i m ms' h0 h1 h2
      cases h
      exact .cons (s.e Γ e m h1 X g).opd (s.es Γ es ms' h2 X g) h0
    · cases h
theorem snd_b {n : Nat} (s : Snd G n) (Γ : Gam) (op : BoolOp) (es : List Expr) (m : ME) (h : trB (n + 1) Γ op es = some m) (X : Cx) (g : GX G Γ X) (pos : Pos) : DE G X (.BoolOp op es pos) m := by
  match es, h with
  | [], h => simp [trB] at h
  | [a], h => exact de_one (s.e Γ a m (by simpa [trB] using h) X g)
  | a :: b :: r, h =>
    simp only [trB] at h
    split at h
    · rename_i m1 m2 h1 h2
      cases op with
      | And => cases h; exact de_and g.K (s.e Γ a m1 h1 X g) (s.b Γ .And (b :: r) m2 h2 X g pos)
      | Or => cases h; exact de_or g.K (s.e Γ a m1 h1 X g) (s.b Γ .Or (b :: r) m2 h2 X g pos)
    · cases h
theorem dt_cmp {op : CmpOp} {a b : Expr} {oa ob : Opd} {bi : Bi} {pos : Pos} (g : GX G Γ X) (h : cmpB op = some bi) (ha : DO G X a oa) (hb : DO G X b ob) : DT G X (.Compare a [op] [b] pos) (tBl (eBi [oa, ob] bi)) := by
  obtain ⟨m1, ⟨n1, n2⟩, r, h1, h2⟩ := cmp_ok g.K g.room h
  have hm : ∀ o ∈ [oa, ob], o.Mono := fun o q => by
    rcases List.mem_cons.mp q with rfl | q
    · exact ha.mono
    · rcases List.mem_cons.mp q with rfl | q
      · exact hb.mono
      · cases q
  refine dt_bl (r := id) (fun B W tk => ⟨_, pt_cmpR h1 (ha.run B W tk) (hb.run B W tk) (nomark _ n1 n2), fun σ H Q q => ?_⟩) (eBi_mono hm m1)
  have key : ∀ (o : Opd), o.Mono → ∀ σ H (Q Q' : VK), (∀ v H, Q v H → Q' v H) → rdO G B W o σ H Q → rdO G B W o σ H Q' := fun o hm σ H Q Q' hq z => by
    cases o with
    | sl i =>
      obtain ⟨v, h1, h2⟩ := z
      exact ⟨v, h1, hq _ _ h2⟩
    | ex m =>
      obtain ⟨es, A, z⟩ := z
      exact ⟨es, A, (hm : MonoE m) _ _ _ _ _ (fun r s' q v H' a k => hq _ _ (q v H' a k)) (fun _ _ q => q) z⟩
  refine key oa ha.mono _ _ _ _ (fun x H1 z => ?_) (eBi_of hm m1 h2 q)
  refine key ob hb.mono _ _ _ _ (fun y H2 z => ?_) z
  obtain ⟨x', y', e1, z⟩ := z
  cases e1
  exact z
theorem snd_t {n : Nat} (s : Snd G n) (Γ : Gam) (e : Expr) (m : MT) (h : trT (n + 1) Γ e = some m) (X : Cx) (g : GX G Γ X) : DT G X e m := by
  have gen : ∀ {e : Expr}, (trE n Γ e).map tTru = some m → (∀ whole, isTrue e X.env whole = (do let v ← whole; standAt e.pos; holding [v] (truthy v))) → DT G X e m := fun {e} h he => by
    rw [Option.map_eq_some_iff] at h
    obtain ⟨m', h1, rfl⟩ := h
    exact dt_truth g.K (s.e Γ e m' h1 X g) he
  cases e with
  | UnaryOp op a pos =>
    cases op <;> simp [trT] at h
    obtain ⟨m', h1, rfl⟩ := h
    exact dt_not (s.t Γ a m' h1 X g)
  | BoolOp op es pos => exact (s.w Γ op es m (by simpa [trT] using h) X g pos).dt
  | Compare a ops bs pos =>
    match ops, bs, h with
    | [op], [b], h =>
      simp only [trT] at h
      split at h
      · rename_i bi oa ob h1 h2 h3
        cases h
        exact dt_cmp g h1 (s.o Γ a oa h2 X g).1 (s.o Γ b ob h3 X g).1
      · cases h
    | [], _, h => simp [trT] at h
    | [_], [], h => simp [trT] at h
    | [_], _ :: _ :: _, h => simp [trT] at h
    | _ :: _ :: _, _, h => simp [trT] at h
  | Name x p => exact gen (by simpa only [trT] using h) (fun _ => rfl)
  | Call f as ks p => exact gen (by simpa only [trT] using h) (fun _ => rfl)
  | Subscript a i p => exact gen (by simpa only [trT] using h) (fun _ => rfl)
  | BinOp a o b p => exact gen (by simpa only [trT] using h) (fun _ => rfl)
  | _ => simp [trT] at h
theorem snd_w {n : Nat} (s : Snd G n) (Γ : Gam) (op : BoolOp) (es : List Expr) (m : MT) (h : trW (n + 1) Γ op es = some m) (X : Cx) (g : GX G Γ X) (pos : Pos) : DW G X (.BoolOp op es pos) m := by
  match es, h with
  | [], h => simp [trW] at h
  | [a], h =>
    have h1 := s.t Γ a m (by simpa [trW] using h) X g
    cases op with
    | And => exact dw_and1 h1
    | Or => exact dw_or1 h1
  | a :: b :: r, h =>
    simp only [trW] at h
    split at h
    · rename_i m1 m2 h1 h2
      cases op with
      | And => cases h; exact dw_and (s.t Γ a m1 h1 X g) (s.w Γ .And (b :: r) m2 h2 X g pos)
      | Or => cases h; exact dw_or (s.t Γ a m1 h1 X g) (s.w Γ .Or (b :: r) m2 h2 X g pos)
    · cases h
theorem snd : ∀ n, Snd G n
  | 0 => snd0
  | n + 1 => ⟨snd_e (snd n), snd_o (snd n), snd_os (snd n), snd_es (snd n), snd_b (snd n), snd_t (snd n), snd_w (snd n)⟩
end

/-! ### statements -/
def isComp : Expr → Bool
  | .ListComp _ _ _ _ => true
  | .SetComp _ _ _ _ => true
  | .DictComp _ _ _ _ _ => true
  | _ => false
def isTupE : Expr → Bool
  | .Tuple _ _ _ => true
  | _ => false
theorem swaps_no {e : Expr} {t : Option Expr} {n : Nat} {env : Env} (h : isComp e = false) : swapsWith e t n env = pure false := by
  cases e <;> first | rfl | cases h
theorem stores_no {t e : Expr} {env : Env} (h : isTupE e = false) : swappedStores [t] e env = pure none := by
  cases e <;> first | (cases t <;> rfl) | cases h
def isSet : Expr → Bool
  | .Set _ _ _ => true
  | _ => false
theorem fold_no {e : Expr} {env : Env} (h : isSet e = false) (x : Value) : foldedSetIterable e env x = pure x := by
  cases e <;> first | rfl | cases h
mutual
def trG : Nat → Gam → Expr → Option Pt
  | 0, _, _ => none
  | n + 1, Γ, e => match e with
    | .Name x _ => (stoIx Γ x).map .nm
    | .Tuple es _ _ => (trGs n Γ es).map .tp
    | _ => none
def trGs : Nat → Gam → List Expr → Option (List Pt)
  | 0, _, _ => none
  | _ + 1, _, [] => some []
  | n + 1, Γ, e :: es => match trG n Γ e, trGs n Γ es with
    | some p, some ps => some (p :: ps)
    | _, _ => none
end
section
variable {G : Gm} {Γ : Gam} {X : Cx}
theorem snd_g (g : GX G Γ X) : ∀ n, (∀ e p, trG n Γ e = some p → DG G Γ.lent X e p ∧ noStar e = true) ∧ (∀ es ps, trGs n Γ es = some ps → DGs G Γ.lent X es ps)
  | 0 => ⟨fun _ _ h => by simp [trG] at h, fun _ _ h => by simp [trGs] at h⟩
  | n + 1 => by
    obtain ⟨i1, i2⟩ := snd_g g n
    refine ⟨fun e p h => ?_, fun es ps h => ?_⟩
    · cases e with
      | Name x pos =>
        simp only [trG] at h
        rw [Option.map_eq_some_iff] at h
        obtain ⟨i, h1, rfl⟩ := h
        obtain ⟨q1, q2, q3, q4⟩ := sto_of g h1
        exact ⟨fun B => pg_nm q4 g.nd q1 q2 q3, rfl⟩
      | Tuple es k pos =>
        simp only [trG] at h
        rw [Option.map_eq_some_iff] at h
        obtain ⟨ps, h1, rfl⟩ := h
        exact ⟨dg_tp g.calm g.K (i2 es ps h1), rfl⟩
      | _ => simp [trG] at h
    · cases es with
      | nil => simp [trGs] at h; subst h; exact dgs_nil
      | cons e es =>
        simp only [trGs] at h
        split at h
        · rename_i p ps' h1 h2
          cases h
          obtain ⟨q1, q2⟩ := i1 e p h1
          exact dgs_cons q1 (i2 es ps' h2) q2
        · cases h
end
/-! ### return of a list that the def owns -/
section
variable {G : Gm} {Γ : Gam} {X : Cx} {B : AP} {l : List Nat} {es : List En} {σ : Sl} {H : Hp}
theorem At.moved {i : Nat} {xs : List D} {a : Addr} (A : At G B es σ H) (h : es[i]? = some (.own xs)) (hs : σ[i]? = some (some (.ref a))) : At G B (.own xs :: es.set i .un) (some (.ref a) :: σ) H ∧ Kp (Ow es σ) H (Ow (.own xs :: es.set i .un) (some (.ref a) :: σ)) H := by
  have hi : i < es.length := (List.getElem?_eq_some_iff.mp h).1
  -- where each stood
  have wh : ∀ (j : Nat) (e : En), (En.own xs :: es.set i .un)[j]? = some e → e ≠ .un → ∃ j', es[j']? = some e ∧ (some (.ref a) :: σ)[j]? = σ[j']? ∧ ((j = 0 ∧ j' = i) ∨ (j = j' + 1 ∧ j' ≠ i)) := fun j e q ne => by
    cases j with
    | zero =>
      simp at q; subst q
      exact ⟨i, h, by rw [hs]; rfl, .inl ⟨rfl, rfl⟩⟩
    | succ j =>
      have q : (es.set i .un)[j]? = some e := by simpa using q
      by_cases hj : i = j
      · subst hj
        rw [List.getElem?_set_self hi] at q; cases q
        exact (ne rfl).elim
      · rw [List.getElem?_set_ne hj] at q
        exact ⟨j, q, by simp, .inr ⟨rfl, fun z => hj z.symm⟩⟩
  have sub : ∀ b, Ow (.own xs :: es.set i .un) (some (.ref a) :: σ) b → Ow es σ b := fun b ⟨j, e, q1, q2, q3⟩ => by
    obtain ⟨j', z1, z2, _⟩ := wh j e q1 (fun z => by rw [z] at q2; cases q2)
    exact ⟨j', e, z1, q2, z2.symm.trans q3⟩
  refine ⟨⟨by simp [A.len], fun j d q => ?_, fun j e q z => ?_, fun j j2 e f b q1 q2 q3 q4 q5 q6 => ?_, fun b z => ⟨(A.out b z).1, fun q => (A.out b z).2 (sub b q)⟩⟩, fun b o q n => ⟨q, fun z => n (sub b z)⟩⟩
  · obtain ⟨j', z1, z2, _⟩ := wh j _ q (by intro z; cases z)
    obtain ⟨v, y1, y2⟩ := A.val j' d z1
    exact ⟨v, z2.trans y1, y2.sub (OB.sub sub)⟩
  · obtain ⟨j', z1, z2, _⟩ := wh j _ q (fun y => by rw [y] at z; cases z)
    obtain ⟨b, o, y1, y2, y3⟩ := A.own j' e z1 z
    exact ⟨b, o, z2.trans y1, y2, y3.sub (OB.sub sub)⟩
  · obtain ⟨j', z1, z2, z3⟩ := wh j _ q1 (fun y => by rw [y] at q2; cases q2)
    obtain ⟨k', y1, y2, y3⟩ := wh j2 _ q3 (fun y => by rw [y] at q4; cases q4)
    have := A.inj j' k' e f b z1 q2 y1 q4 (z2.symm.trans q5) (y2.symm.trans q6)
    omega
/-- a slot handed out -/
def eMv (i : Nat) : ME := fun s Q _ => match s[i]? with
  | some (.val d) => Q (.val d) s
  | some (.own xs) => Q (.own xs) (s.set i .un)
  | _ => False
theorem de_mv {i : Nat} {e : Expr} (h : PE X e (tVar i)) : DE G X e (eMv i) := by
  refine ⟨fun s Q Q' X X' hQ _ q => ?_, fun B W tk => PE.wk h fun σ H Q ⟨es, A, q⟩ => ?_⟩
  · unfold eMv at q ⊢
    split at q
    · exact hQ _ _ q
    · exact hQ _ _ q
    · exact q.elim
  · unfold eMv at q
    split at q
    · rename_i d e1
      obtain ⟨v, h1, h2⟩ := A.val i d e1
      exact ⟨v, h1, q v H (A.consVal h2) fun a o q n => ⟨q, fun z => n (ow_val.mp z)⟩⟩
    · rename_i xs e1
      obtain ⟨a, vs, h1, h2, h3⟩ := A.ownAt e1
      obtain ⟨A2, k2⟩ := A.moved e1 h1
      exact ⟨_, h1, q _ H A2 k2⟩
    · exact q.elim
end
/-! ### a, b = x, y -/
/-- two plain names on one line -/
def par2 (Γ : Gam) : List Expr → List Expr → Option (List Nat)
  | [.Name x px, .Name y py], [a, b] =>
    if Γ.sc.names.lookup x = some .local ∧ Γ.sc.names.lookup y = some .local ∧ px.line = py.line ∧ x ≠ y ∧ (foldedForSure 8 a && foldedForSure 8 b) = false ∧ (constantsAlone 8 a && constantsAlone 8 b) = false ∧ noStar a = true ∧ noStar b = true then
      match stoIx Γ x, stoIx Γ y with
      | some i, some j => if i ≠ j then some [i, j] else none
      | _, _ => none
    else none
  | _, _ => none
theorem swapped2 {env : Env} {x y : Str} {px py pt pt2 : Pos} {kt k2 : Nat} {a b : Expr} (hk : env.blockKind = .function) (hx : env.scope.names.lookup x = some .local) (hy : env.scope.names.lookup y = some .local) (hl : px.line = py.line) (hn : x ≠ y)
    (hf : (foldedForSure 8 a && foldedForSure 8 b) = false) (hc : (constantsAlone 8 a && constantsAlone 8 b) = false) (na : noStar a = true) (nb : noStar b = true) :
    swappedStores [.Tuple [.Name x px, .Name y py] kt pt] (.Tuple [a, b] k2 pt2) env = pure (some [x, y]) := by
  have kx : env.kindOf x = some .local := hx
  have ky : env.kindOf y = some .local := hy
  have sa : ∀ e : Expr, noStar e = true → (match e with | .Starred .. => true | _ => false) = false := fun e h => by cases e <;> first | rfl | cases h
  have e1 : ([x, y].eraseDups.length != [x, y].length) = false := by
    have : [x, y].eraseDups = [x, y] := by
      simp [List.eraseDups_cons, hn, Ne.symm hn]
    rw [this]; simp
  unfold swappedStores
  simp only [hk, List.any_cons, List.any_nil, sa a na, sa b nb, List.all_cons, List.all_nil, Bool.and_true, hf, hc, List.filterMap_cons, List.filterMap_nil, kx, ky, List.head?_cons, Option.map_some, Option.getD_some, Expr.pos, hl]
  have e2 : [x, y].eraseDups.length = 2 := by simpa using e1
  simp [hn, Ne.symm hn]
  rw [if_neg (by
    rintro (h | h)
    · cases a <;> first | (cases h; done) | (cases na; done)
    · cases b <;> first | (cases h; done) | (cases nb; done)), if_pos e2]
theorem rdO_imp {G : Gm} {B : AP} {W : WX} {o : Opd} (hm : o.Mono) {σ : Sl} {H : Hp} {Q Q' : VK} (hq : ∀ v H, Q v H → Q' v H) (z : rdO G B W o σ H Q) : rdO G B W o σ H Q' := by
  cases o with
  | sl i =>
    obtain ⟨v, h1, h2⟩ := z
    exact ⟨v, h1, hq _ _ h2⟩
  | ex m =>
    obtain ⟨es, A, z⟩ := z
    exact ⟨es, A, (hm : MonoE m) _ _ _ _ _ (fun r s' q v H' a k => hq _ _ (q v H' a k)) (fun _ _ q => q) z⟩
theorem rdA_imp {G : Gm} {B : AP} {W : WX} : ∀ {ops : List Opd}, (∀ o ∈ ops, o.Mono) → ∀ {σ : Sl} {H : Hp} {Q Q' : List V → Hp → Prop}, (∀ v H, Q v H → Q' v H) → rdA G B W ops σ H Q → rdA G B W ops σ H Q'
  | [], _, _, _, _, _, hq, z => hq _ _ z
  | o :: ops, hm, σ, H, Q, Q', hq, z => rdO_imp (hm o List.mem_cons_self) (fun v H z => rdA_imp (fun o q => hm o (List.mem_cons_of_mem _ q)) (fun vs H z => hq _ _ z) z) z
end Dt

set_option Elab.async false
set_option linter.all false
set_option maxRecDepth 100000
set_option maxHeartbeats 4000000
/-! DtO: the reader of statements. -/
namespace Dt
open PySem PySem.Spec PyProof.Rows L2

def isTupT : Expr → Bool
  | .Tuple _ _ _ => true
  | _ => false
/-- x.append(a) -/
def appOf (Γ : Gam) : Expr → Option (Nat × Expr)
  | .Call (.Attribute (.Name x _) f pa) [a] [] pc => if f = "append" ∧ (pa.endLine == pc.line) = true ∧ okName x = true ∧ noStar a = true then (locIx Γ x).map fun k => (k, a) else none
  | _ => none
/-- range(..) -/
def rngOf (Γ : Gam) : Expr → Option (List Expr)
  | .Call (.Name x _) as [] _ => if isGl Γ x = true ∧ x = "range" ∧ (Γ.tab x).isNone = true ∧ (as.length = 1 ∨ as.length = 2) then some as else none
  | _ => none
def trI (n : Nat) (Γ : Gam) (e : Expr) : Option MI := match rngOf Γ e with
  | some as => (trEs n Γ as).map iRg
  | none => if isSet e = true then none else (trE n Γ e).map iEx
mutual
def trS : Nat → Gam → Stmt → Option MS
  | 0, _, _ => none
  | n + 1, Γ, st => match st with
    | .Pass _ => some sNext
    | .Break _ => some sBreak
    | .Continue _ => some sCont
    | .Expr e _ => match appOf Γ e with
      | some (k, a) => (trE n Γ a).map (sApp k)
      | none => if isComp e = true then none else (trE n Γ e).map sDrop
    | .Return none _ => some sRetN
    | .Return (some e) _ => match e with
      | .Name x p => match locIx Γ x with
        | some i => if okName x = true then some (sRet (eMv i)) else none
        | none => (trE n Γ (.Name x p)).map sRet
      | e => (trE n Γ e).map sRet
    | .Assign [t] e _ => match t with
      | .Name x _ => if isComp e = true then none else match stoIx Γ x, trE n Γ e with
        | some i, some m => some (sSet i m)
        | _, _ => none
      | .Subscript (.Name x _) i _ => if isComp e = true ∨ isTupE e = true ∨ isSlice i = true ∨ okName x = false then none else match locIx Γ x, trE n Γ i, trE n Γ e with
        | some k, some mi, some me => some (sSetIx k mi me)
        | _, _, _ => none
      | .Tuple ts k p => match e with
        | .Tuple vs _ _ => match par2 Γ ts vs with
          | some is => (trEs n Γ vs).map (sPar is)
          | none => none
        | e => if isComp e = true then none else match trG n Γ (.Tuple ts k p), trE n Γ e with
          | some g, some m => some (sUnp g m)
          | _, _ => none
      | _ => none
    | .If c a b _ => match trT n Γ c, trSs n Γ a, trSs n Γ b with
      | some t, some ma, some mb => some (sIf t ma mb)
      | _, _, _ => none
    | .While c b [] _ => match trT n Γ c, trSs n Γ b with
      | some t, some mb => some (sWhile t mb)
      | _, _ => none
    | .For t it b [] _ => match trG n Γ t, trI n Γ it, trSs n Γ b with
      | some g, some mi, some mb => some (sFor g mi mb)
      | _, _, _ => none
    | _ => none
def trSs : Nat → Gam → List Stmt → Option MS
  | 0, _, _ => none
  | _ + 1, _, [] => some sNext
  | n + 1, Γ, s :: ss => match trS n Γ s, trSs n Γ ss with
    | some m, some ms => some (sSeq m ms)
    | _, _ => none
end
theorem rngOf_eq {Γ : Gam} {e : Expr} {as : List Expr} (h : rngOf Γ e = some as) : ∃ x p pos, e = .Call (.Name x p) as [] pos ∧ x = "range" ∧ isGl Γ x = true ∧ (as.length = 1 ∨ as.length = 2) := by
  unfold rngOf at h
  split at h
  · split at h
    · rename_i hc
      cases h
      exact ⟨_, _, _, rfl, hc.2.1, hc.1, hc.2.2.2⟩
    · cases h
  · cases h
theorem appOf_eq {Γ : Gam} {e a : Expr} {k : Nat} (h : appOf Γ e = some (k, a)) : ∃ x px f pa pc, e = .Call (.Attribute (.Name x px) f pa) [a] [] pc ∧ f = "append" ∧ (pa.endLine == pc.line) = true ∧ okName x = true ∧ noStar a = true ∧ locIx Γ x = some k := by
  unfold appOf at h
  split at h
  · split at h
    · rename_i hc
      rw [Option.map_eq_some_iff] at h
      obtain ⟨k', h1, h2⟩ := h
      cases h2
      exact ⟨_, _, _, _, _, rfl, hc.1, hc.2.1, hc.2.2.1, hc.2.2.2, h1⟩
    · cases h
  · cases h
theorem sole_no {t e : Expr} {n : Nat} {env : Env} (h : isComp e = false) : swapsWithSole [t] e n env = pure false := by
  show swapsWith e (some t) n env = pure false
  exact swaps_no h
structure GS (G : Gm) (Γ : Gam) (X : Cx) : Prop extends GX G Γ X where
  pass : PassesOwn (model X.prog X.w) X.A X.env X.xe
section
variable {G : Gm} {Γ : Gam} {X : Cx}
theorem snd_i (g : GX G Γ X) {n : Nat} {e : Expr} {mi : MI} {tg : Expr} (h : trI n Γ e = some mi) : DI G X tg e mi ∧ isSet e = false := by
  unfold trI at h
  split at h
  · rename_i as h1
    rw [Option.map_eq_some_iff] at h
    obtain ⟨ms, h2, rfl⟩ := h
    obtain ⟨x, p, pos, rfl, a2, a1, a4⟩ := rngOf_eq h1
    obtain ⟨g1, g2, g3⟩ := gl_of g a1
    have hd := (snd n).es Γ _ _ h2 X g
    have hm : X.mg "range" = none := g.blt _ (mem_blt (by decide +kernel))
    refine ⟨?_, rfl⟩
    subst a2
    match as, ms, a4, hd, h2 with
    | [a], [m], _, hd, _ => exact di_rg1 g1 hm hd
    | [a, b], [m, m'], _, hd, h2 =>
      refine di_rg2 g1 hm hd ?_
      cases n with
      | zero => simp [trEs] at h2
      | succ n =>
        simp only [trEs] at h2
        split at h2
        · rename_i m1 ms1 y0 y1 y2
          cases n with
          | zero => simp [trEs] at y2
          | succ n =>
            simp only [trEs] at y2
            split at y2
            · rename_i z0 z1 z2; exact z0
            · cases y2
        · cases h2
    | [a], [], _, hd, h2 => exact absurd h2 (by cases n <;> simp [trEs] <;> split <;> simp_all)
    | [a], _ :: _ :: _, _, hd, h2 =>
      exfalso
      cases n with
      | zero => simp [trEs] at h2
      | succ n =>
        simp only [trEs] at h2
        split at h2
        · rename_i m1 ms1 y0 y1 y2
          cases n with
          | zero => simp [trEs] at y2
          | succ n => simp [trEs] at y2; subst y2; cases h2
        · cases h2
    | [a, b], [], _, hd, h2 => exact absurd h2 (by cases n <;> simp [trEs] <;> split <;> simp_all)
    | [a, b], [_], _, hd, h2 =>
      exfalso
      cases n with
      | zero => simp [trEs] at h2
      | succ n =>
        simp only [trEs] at h2
        split at h2
        · rename_i m1 ms1 y0 y1 y2
          cases n with
          | zero => simp [trEs] at y2
          | succ n =>
            simp only [trEs] at y2
            split at y2
            · cases y2; cases h2
            · cases y2
        · cases h2
    | [a, b], _ :: _ :: _ :: _, _, hd, h2 =>
      exfalso
      cases n with
      | zero => simp [trEs] at h2
      | succ n =>
        simp only [trEs] at h2
        split at h2
        · rename_i m1 ms1 y0 y1 y2
          cases n with
          | zero => simp [trEs] at y2
          | succ n =>
            simp only [trEs] at y2
            split at y2
            · rename_i m2 ms2 z0 z1 z2
              cases n with
              | zero => simp [trEs] at z2
              | succ n => simp [trEs] at z2; subst z2; cases y2; cases h2
            · cases y2
        · cases h2
    | [], _, h, _, _ => simp at h
    | _ :: _ :: _ :: _, _, h, _, _ => simp at h
  · split at h
    · cases h
    · rename_i hs
      rw [Option.map_eq_some_iff] at h
      obtain ⟨m, h1, rfl⟩ := h
      exact ⟨di_ex g.K ((snd n).e Γ e m h1 X g), by simpa using hs⟩
structure SndS (G : Gm) (n : Nat) : Prop where
  s : ∀ Γ st m, trS n Γ st = some m → ∀ X, GS G Γ X → DS G Γ.lent X st m
  ss : ∀ Γ sts m, trSs n Γ sts = some m → ∀ X, GS G Γ X → DSs G Γ.lent X sts m
theorem blk_fn (g : GX G Γ X) : X.env.blockKind = .function := by
  unfold Env.blockKind
  rw [g.sc, g.kd]
  rfl
theorem sndS_s {n : Nat} (s : SndS G n) (Γ : Gam) (st : Stmt) (m : MS) (h : trS (n + 1) Γ st = some m) (X : Cx) (g : GS G Γ X) : DS G Γ.lent X st m := by
  have gx := g.toGX
  have E := (snd (G := G) n).e Γ
  cases st with
  | Pass _ => simp [trS] at h; subst h; exact ds_pass
  | Break _ => simp [trS] at h; subst h; exact ds_break
  | Continue _ => simp [trS] at h; subst h; exact ds_cont
  | Expr e pos =>
    simp only [trS] at h
    split at h
    · rename_i k a h1
      rw [Option.map_eq_some_iff] at h
      obtain ⟨me, h2, rfl⟩ := h
      obtain ⟨x, px, f, pa, pc, rfl, a1, a2, a3, a4, a5⟩ := appOf_eq h1
      subst a1
      exact ds_app gx.K (loc_of gx a5 a3) (E _ _ h2 X gx) a4 (by simpa using a2) rfl
    · split at h
      · cases h
      · rename_i hc
        rw [Option.map_eq_some_iff] at h
        obtain ⟨me, h2, rfl⟩ := h
        exact ds_expr (E _ _ h2 X gx) (swaps_no (by simpa using hc))
  | Return e pos =>
    cases e with
    | none => simp [trS] at h; subst h; exact ds_retN
    | some e =>
      have gen : ∀ {e : Expr}, (trE n Γ e).map sRet = some m → DS G Γ.lent X (.Return (some e) pos) m := fun {e} h => by
        rw [Option.map_eq_some_iff] at h
        obtain ⟨me, h2, rfl⟩ := h
        exact ds_ret (E _ _ h2 X gx)
      cases e with
      | Name x p =>
        simp only [trS] at h
        split at h
        · rename_i i hi
          split at h
          · rename_i hx
            cases h
            exact ds_ret (de_mv (loc_of gx hi hx))
          · cases h
        · exact gen h
      | _ => exact gen (by simpa only [trS] using h)
  | Assign ts e pos =>
    match ts, h with
    | [], h => simp [trS] at h
    | _ :: _ :: _, h => simp [trS] at h
    | [t], h =>
      cases t with
      | Name x px =>
        simp only [trS] at h
        split at h
        · cases h
        · rename_i hc
          split at h
          · rename_i i me h1 h2
            cases h
            obtain ⟨q1, q2, q3, q4⟩ := sto_of gx h1
            exact ds_set q4 (E _ _ h2 X gx) gx.nd q1 q2 (swaps_no (by simpa using hc)) q3
          · cases h
      | Subscript o i pt =>
        cases o with
        | Name x px =>
          simp only [trS] at h
          split at h
          · cases h
          · rename_i hc
            split at h
            · rename_i k mi me h1 h2 h3
              cases h
              simp only [not_or, Bool.not_eq_true, Bool.not_eq_false] at hc
              exact ds_setIx hc.2.2.1 (loc_of gx h1 hc.2.2.2) (E _ _ h2 X gx) (E _ _ h3 X gx) (sole_no hc.1) (stores_no hc.2.1)
            · cases h
        | _ => simp [trS] at h
      | Tuple ees kt pt =>
        have gen : ∀ {e : Expr}, isTupE e = false → (if isComp e = true then none else match trG n Γ (.Tuple ees kt pt), trE n Γ e with
          | some g, some m => some (sUnp g m)
          | _, _ => none) = some m → DS G Γ.lent X (.Assign [.Tuple ees kt pt] e pos) m := fun {e} ht h => by
          split at h
          · cases h
          · rename_i hc
            split at h
            · rename_i gg me h1 h2
              cases h
              exact ds_unp (E _ _ h2 X gx) ((snd_g gx n).1 _ _ h1).1 (sole_no (by simpa using hc)) (stores_no ht) rfl
            · cases h
        cases e with
        | Tuple vs k2 p2 =>
          simp only [trS] at h
          split at h
          · rename_i is h1
            rw [Option.map_eq_some_iff] at h
            obtain ⟨ms, h2, rfl⟩ := h
            match ees, vs, h1, h2 with
            | [.Name x px, .Name y py], [a, b], h1, h2 =>
              simp only [par2] at h1
              split at h1
              · rename_i hc
                obtain ⟨c1, c2, c3, c4, c5, c6, c7, c8⟩ := hc
                split at h1
                · rename_i i j i1 i2
                  split at h1
                  · rename_i hij
                    cases h1
                    obtain ⟨x1, x2, x3, x4⟩ := sto_of gx i1
                    obtain ⟨y1, y2, y3, y4⟩ := sto_of gx i2
                    have hd := (snd (G := G) n).es Γ _ _ h2 X gx
                    have hl : ∀ z ∈ [i, j], z ∉ Γ.lent := fun z hz => by
                      simp at hz
                      rcases hz with rfl | rfl
                      · exact x4
                      · exact y4
                    refine ⟨mono_sPar hd.mono, fun B W tk => PS.wk (ps_par gx.calm gx.nd x1 y1 hij (by rw [gx.sc]; exact c1) (by rw [gx.sc]; exact c2) (hd.run B W tk) (swapped2 (blk_fn gx) (by rw [gx.sc]; exact c1) (by rw [gx.sc]; exact c2) c3 c4 c5 c6 c7 c8)) fun Z σ H q => ?_⟩
                    refine rdA_imp hd.mono (fun vs H1 z => ?_) (rd_par hl hd.mono q)
                    obtain ⟨z1, z2⟩ := z
                    match vs, z1, z2 with
                    | [v, w], _, z2 => exact ⟨v, w, rfl, z2⟩
                  · cases h1
                · cases h1
              · cases h1
          · cases h
        | _ => exact gen rfl (by simpa only [trS] using h)
      | _ => simp [trS] at h
  | If c a b pos =>
    simp only [trS] at h
    split at h
    · rename_i t ma mb h1 h2 h3
      cases h
      exact ds_if ((snd n).t Γ _ _ h1 X gx) (s.ss Γ _ _ h2 X g) (s.ss Γ _ _ h3 X g)
    · cases h
  | While c b o pos =>
    cases o with
    | nil =>
      simp only [trS] at h
      split at h
      · rename_i t mb h1 h2
        cases h
        exact ds_while g.pass ((snd n).t Γ _ _ h1 X gx) (s.ss Γ _ _ h2 X g)
      · cases h
    | cons _ _ => simp [trS] at h
  | For t it b o pos =>
    cases o with
    | nil =>
      simp only [trS] at h
      split at h
      · rename_i gg mi mb h1 h2 h3
        cases h
        obtain ⟨q1, q2⟩ := snd_i (tg := t) gx h2
        exact ds_for g.pass gx.calm q1 ((snd_g gx n).1 _ _ h1).1 (s.ss Γ _ _ h3 X g) (fold_no q2)
      · cases h
    | cons _ _ => simp [trS] at h
  | _ => simp [trS] at h
theorem sndS_ss {n : Nat} (s : SndS G n) (Γ : Gam) (sts : List Stmt) (m : MS) (h : trSs (n + 1) Γ sts = some m) (X : Cx) (g : GS G Γ X) : DSs G Γ.lent X sts m := by
  cases sts with
  | nil => simp [trSs] at h; subst h; exact dss_nil
  | cons st sts =>
    simp only [trSs] at h
    split at h
    · rename_i m1 m2 h1 h2
      cases h
      exact dss_cons (s.s Γ _ _ h1 X g) (s.ss Γ _ _ h2 X g)
    · cases h
theorem sndS : ∀ n, SndS G n
  | 0 => ⟨fun _ _ _ h => by simp [trS] at h, fun _ _ _ h => by simp [trSs] at h⟩
  | n + 1 => ⟨sndS_s (sndS n), sndS_ss (sndS n)⟩
end
end Dt

set_option Elab.async false
set_option linter.all false
set_option maxRecDepth 100000
set_option maxHeartbeats 4000000
/-! DtP: a def from its text; the law. -/
namespace Dt
open PySem PySem.Spec PyProof.Rows L2

section
variable {P : Program} {w : World} {K : PySem.W.Frag} {mg : Str → Option Value} {base : Heap} {ca : Str → Option Addr}
/-- THE RULE for a def whose text the reader reads -/
theorem fn_rd {x qual : Str} {st : Stmt} {dvs : List V} {f : Addr} {fd : FuncData} {N ps : List Str} {n lv : Nat} {l : List Nat} {m : MS} {tab : Str → Option Gi} (F : FunD K x qual (defArgs st) (defBody st) (defScope st) dvs [] f fd) (S : FnScope N ps (defScope st))
    (h : trSs n ⟨N, defScope st, true, tab, lv, l⟩ (defBody st) = some m) (tb : ∀ x g, tab x = some g → GiOk ⟨K, ca⟩ P w mg base lv x g) (bl : ∀ x ∈ bltNames, mg x = none) :
    FnOk P w K mg base (L2.CX P w) (lv + 1) f fd ps (spF ⟨K, ca⟩ (upE (fnF ps.length (N.length - ps.length) l m))) :=
  fn_ok F S fun cdv A outer s H E hr => (sndS n).ss _ _ _ h _ { K := rfl, calm := rfl, nd := S.nd, N := rfl, sc := rfl, kd := S.kind, fn := fun _ _ => rfl, room := hr, tab := tb, blt := bl, pass := passes_of rfl }
/-- a table of names -/
def tabOf : List (Str × Gi) → Str → Option Gi
  | [], _ => none
  | (y, g) :: r, x => if x = y then some g else tabOf r x
theorem tabOf_all {Pr : Str → Gi → Prop} : ∀ {l : List (Str × Gi)}, (∀ p ∈ l, Pr p.1 p.2) → ∀ x g, tabOf l x = some g → Pr x g
  | [], _, _, _, h => by cases h
  | (y, g') :: r, hp, x, g, h => by
    unfold tabOf at h
    split at h
    · rename_i e; cases h; subst e; exact hp _ List.mem_cons_self
    · exact tabOf_all (fun p q => hp p (List.mem_cons_of_mem _ q)) x g h
/-- a def without defaults, in the table -/
theorem gi_fn {G : Gm} {k n lv : Nat} {F : ME} {f : Addr} {fd : FuncData} {ps : List Str} {x : Str} (hl : k ≤ lv) (hF : MonoE F) (hm : mg x = some (.ref f)) (hk : PySem.W.keepIn G.K (.ref f) = true) (hn : ps.length = n) (h : FnOk P w G.K mg base (L2.CX P w) k f fd ps (spF G F)) (hb : Binds G.K fd ps []) :
    GiOk G P w mg base lv x (.fn k n F [] none) :=
  ⟨hl, hF, f, fd, ps, hm, hk, hn, h, fun j hj => ⟨[], [], hb, .nil, by simp [cvs]⟩, fun _ _ e => by cases e⟩
/-- the law's promise -/
def spLaw (K : PySem.W.Frag) : Sp := fun vs H Q _ => ∃ (a : Addr) (ns : List Int), vs = [.ref a] ∧ SqL K H a (ns.map V.int) ∧ ns.length ≤ 63 ∧ ∀ H', Q (.bl true) H'
theorem has_ints {G : Gm} {O : AP} {H : Hp} : ∀ ns : List Int, HasL G O H (ns.map .int) (ns.map V.int)
  | [] => .nil
  | n :: ns => .cons (by simp) (has_ints ns)
theorem law_ok {G : Gm} {k : Nat} {F : ME} {f : Addr} {fd : FuncData} {ps : List Str} (h : FnOk P w G.K mg base (L2.CX P w) k f fd ps (spF G F))
    (hp : ∀ ns : List Int, ns.length ≤ 63 → F [.val (.lst (ns.map .int))] (fun r _ => r = .val (.bl true)) fun _ _ => False) (hF : MonoE F) : FnOk P w G.K mg base (L2.CX P w) k f fd ps (spLaw G.K) := by
  refine h.imp fun vs H Q E ⟨a, ns, e, hs, hl, q⟩ => ?_
  subst e
  have no : ∀ b, ¬ OB (fun _ => False) [En.val (.lst (ns.map .int))] ([V.ref a].map some) b := fun b z => by
    rcases z with z | ⟨i, e, h1, h2, h3⟩
    · exact z
    · cases i with
      | zero => simp at h1; subst h1; cases h2
      | succ i => simp at h1
  refine ⟨[.val (.lst (ns.map .int))], fun _ => False, ⟨rfl, fun i d z => ?_, fun i e z1 z2 => ?_, fun i j e f b z1 z2 _ _ _ _ => ?_, fun _ z => z.elim⟩, hF _ _ _ _ _ (fun r s z v H' A k => ?_) (fun _ _ z => z.elim) (hp ns hl)⟩
  · cases i with
    | zero =>
      simp at z; subst z
      refine ⟨_, rfl, has_lst.mpr ⟨a, _, rfl, ?_, has_ints ns⟩⟩
      rcases hs with hs | hs
      · exact .inl ⟨hs, no a⟩
      · exact .inr hs
    | succ i => simp at z
  · cases i with
    | zero => simp at z1; subst z1; cases z2
    | succ i => simp at z1
  · cases i with
    | zero => simp at z1; subst z1; cases z2
    | succ i => simp at z1
  · subst z
    have := A.headD (d := .bl true) rfl
    rw [has_bl] at this
    subst this
    exact q H'
end
end Dt

set_option Elab.async false
set_option linter.all false
set_option maxRecDepth 100000
set_option maxHeartbeats 4000000
/-! DtQ: words for proofs over plain data. -/
namespace Dt
open PySem PySem.Spec PyProof.Rows L2

/-! ### == of data -/
theorem shp_non : D.non.shp = true := rfl
theorem shp_bl (b : Bool) : (D.bl b).shp = true := rfl
theorem shp_int (i : Int) : (D.int i).shp = true := rfl
theorem eqv_int (i j : Int) : (D.int i).eqv (.int j) = decide (i = j) := by
  show PyData.eqv (.int i) (.int j) = _
  simp only [PyData.eqv]
  by_cases h : i = j <;> simp [h]
theorem eqv_bl (i j : Bool) : (D.bl i).eqv (.bl j) = decide (i = j) := by
  show PyData.eqv (.bool i) (.bool j) = _
  cases i <;> cases j <;> rfl
theorem eqv_non : D.non.eqv .non = true := rfl
theorem eqv_non_int (i : Int) : D.non.eqv (.int i) = false := rfl
theorem eqv_int_non (i : Int) : (D.int i).eqv .non = false := rfl
theorem eqv_non_bl (i : Bool) : D.non.eqv (.bl i) = false := rfl
theorem eqv_bl_non (i : Bool) : (D.bl i).eqv .non = false := rfl
theorem eqv_bl_int (b : Bool) (i : Int) : (D.bl b).eqv (.int i) = decide ((if b = true then (1 : Int) else 0) = i) := by
  show PyData.eqv (.bool b) (.int i) = _
  cases b <;> simp [PyData.eqv] <;> rfl
theorem eqv_int_bl (b : Bool) (i : Int) : (D.int i).eqv (.bl b) = decide (i = (if b = true then (1 : Int) else 0)) := by
  show PyData.eqv (.int i) (.bool b) = _
  cases b <;> simp [PyData.eqv] <;> rfl
/-! ### items -/
theorem atI_lit {α : Type} (xs : List α) (n : Nat) : atI xs (no_index (OfNat.ofNat n : Int)) = xs[n]? := by
  show atI xs ((n : Nat) : Int) = _
  by_cases h : n < xs.length
  · rw [atI_nat (List.getElem?_eq_getElem h), List.getElem?_eq_getElem h]
  · rw [List.getElem?_eq_none (by omega)]
    unfold atI ixN
    rw [if_pos (by omega), if_neg (by omega)]
    rfl
theorem ixN_nat {n : Nat} {j : Nat} (h : j < n) : ixN n (j : Int) = some j := by
  unfold ixN
  rw [if_pos (by omega), if_pos (by omega)]
  rfl
theorem atI_lt {α : Type} {xs : List α} {i : Int} (h0 : 0 ≤ i) (h : i < xs.length) : ∃ x, atI xs i = some x ∧ x ∈ xs := by
  obtain ⟨j, rfl⟩ : ∃ j : Nat, i = (j : Int) := ⟨i.toNat, by omega⟩
  have hj : j < xs.length := by omega
  exact ⟨xs[j], atI_nat (List.getElem?_eq_getElem hj), List.getElem_mem hj⟩
/-! ### numbers -/
theorem abs_if (a : Int) : (if a < 0 then -a else a) = (a.natAbs : Int) := by
  split <;> omega
theorem mul_ok {i j : Int} (h : (-(2 ^ 64) < i ∧ i < 2 ^ 64) ∨ (-(2 ^ 64) < j ∧ j < 2 ^ 64)) : CMul i j ∨ CMulW i j := .inl h
theorem mul_lit {i j : Int} (h1 : -(2 ^ 64) < j) (h2 : j < 2 ^ 64) : CMul i j ∨ CMulW i j := .inl (.inr ⟨h1, h2⟩)
theorem mul_wide {i j : Int} {a b : Nat} (ha : i.natAbs < 2 ^ a) (hb : j.natAbs < 2 ^ b) (h0 : 0 < a) (h1 : 0 < b) (h : a + b ≤ 1000000) : CMul i j ∨ CMulW i j := .inr (wide_mul ha hb h0 h1 h)
def iAt (s : List En) (i : Nat) : Int := match s[i]? with
  | some (.val (.int n)) => n
  | _ => 0
example (a b : D) : atI [a, b] 1 = some b := by simp only [atI_lit, List.getElem?_cons_succ, List.getElem?_cons_zero]
example (a b : D) : atI [a, b] 0 = some a := by simp only [atI_lit, List.getElem?_cons_succ, List.getElem?_cons_zero]
example (a b c : D) : atI [a, b, c] 2 = some c := by simp only [atI_lit, List.getElem?_cons_succ, List.getElem?_cons_zero]
/-! ### isinstance of built-in kinds -/
theorem isA_NoneType_int : isAny "NoneType" ["int"] = some false := by decide +kernel
theorem isA_NoneType_bool : isAny "NoneType" ["bool"] = some false := by decide +kernel
theorem isA_NoneType_str : isAny "NoneType" ["str"] = some false := by decide +kernel
theorem isA_NoneType_list : isAny "NoneType" ["list"] = some false := by decide +kernel
theorem isA_NoneType_tuple : isAny "NoneType" ["tuple"] = some false := by decide +kernel
theorem isA_NoneType_list_tuple : isAny "NoneType" ["list", "tuple"] = some false := by decide +kernel
theorem isA_bool_int : isAny "bool" ["int"] = some true := by decide +kernel
theorem isA_bool_bool : isAny "bool" ["bool"] = some true := by decide +kernel
theorem isA_bool_str : isAny "bool" ["str"] = some false := by decide +kernel
theorem isA_bool_list : isAny "bool" ["list"] = some false := by decide +kernel
theorem isA_bool_tuple : isAny "bool" ["tuple"] = some false := by decide +kernel
theorem isA_bool_list_tuple : isAny "bool" ["list", "tuple"] = some false := by decide +kernel
theorem isA_int_int : isAny "int" ["int"] = some true := by decide +kernel
theorem isA_int_bool : isAny "int" ["bool"] = some false := by decide +kernel
theorem isA_int_str : isAny "int" ["str"] = some false := by decide +kernel
theorem isA_int_list : isAny "int" ["list"] = some false := by decide +kernel
theorem isA_int_tuple : isAny "int" ["tuple"] = some false := by decide +kernel
theorem isA_int_list_tuple : isAny "int" ["list", "tuple"] = some false := by decide +kernel
theorem isA_str_int : isAny "str" ["int"] = some false := by decide +kernel
theorem isA_str_bool : isAny "str" ["bool"] = some false := by decide +kernel
theorem isA_str_str : isAny "str" ["str"] = some true := by decide +kernel
theorem isA_str_list : isAny "str" ["list"] = some false := by decide +kernel
theorem isA_str_tuple : isAny "str" ["tuple"] = some false := by decide +kernel
theorem isA_str_list_tuple : isAny "str" ["list", "tuple"] = some false := by decide +kernel
theorem isA_list_int : isAny "list" ["int"] = some false := by decide +kernel
theorem isA_list_bool : isAny "list" ["bool"] = some false := by decide +kernel
theorem isA_list_str : isAny "list" ["str"] = some false := by decide +kernel
theorem isA_list_list : isAny "list" ["list"] = some true := by decide +kernel
theorem isA_list_tuple : isAny "list" ["tuple"] = some false := by decide +kernel
theorem isA_list_list_tuple : isAny "list" ["list", "tuple"] = some true := by decide +kernel
theorem isA_tuple_int : isAny "tuple" ["int"] = some false := by decide +kernel
theorem isA_tuple_bool : isAny "tuple" ["bool"] = some false := by decide +kernel
theorem isA_tuple_str : isAny "tuple" ["str"] = some false := by decide +kernel
theorem isA_tuple_list : isAny "tuple" ["list"] = some false := by decide +kernel
theorem isA_tuple_tuple : isAny "tuple" ["tuple"] = some true := by decide +kernel
theorem isA_tuple_list_tuple : isAny "tuple" ["list", "tuple"] = some true := by decide +kernel

/-! ### the combinators by equations; what stands behind is a name applied to less than all (simp leaves it) -/
section
variable {m m' u : ME} {t t' : MT} {a b b' : MS} {mi : MI} {s s' : List En} {Q : En → List En → Prop} {Qb : Bool → List En → Prop} {Qi : List D → List En → Prop} {X : QX} {Z : Pn} {K : List (Option D) → List En → Prop} {k : D → Prop} {kl : List D → Prop} {kk : List En → Prop} {ops : List Opd} {ds : List (Option D)} {dd xs : List D} {e r : En} {bi : Bi} {F : ME} {x : Xn} {as : List En} {dv : D} {i j n : Nat} {bo : Bool} {p : Pt} {ps : List Pt} {ms : List ME} {is l : List Nat}
def Pn.wnx (Z : Pn) (f : List En → Prop) : Pn := { Z with nx := f }
def Pn.lp (Z : Pn) (f : List En → Prop) : Pn := { Z with nx := f, ct := f, bk := Z.nx }
def pnF (as : List En) (Q : En → List En → Prop) (X : QX) : Pn := { nx := fun s => Q (.val .non) (merge as s), rt := fun r s => Q r (merge as s), bk := fun _ => False, ct := fun _ => False, ex := fun x s => X x (merge as s) }
theorem wnx_nx {f : List En → Prop} : (Z.wnx f).nx s = f s := id rfl
theorem wnx_rt {f : List En → Prop} : (Z.wnx f).rt r s = Z.rt r s := id rfl
theorem wnx_bk {f : List En → Prop} : (Z.wnx f).bk s = Z.bk s := id rfl
theorem wnx_ct {f : List En → Prop} : (Z.wnx f).ct s = Z.ct s := id rfl
theorem wnx_ex {f : List En → Prop} : (Z.wnx f).ex x s = Z.ex x s := id rfl
theorem lp_nx {f : List En → Prop} : (Z.lp f).nx s = f s := id rfl
theorem lp_rt {f : List En → Prop} : (Z.lp f).rt r s = Z.rt r s := id rfl
theorem lp_bk {f : List En → Prop} : (Z.lp f).bk s = Z.nx s := id rfl
theorem lp_ct {f : List En → Prop} : (Z.lp f).ct s = f s := id rfl
theorem lp_ex {f : List En → Prop} : (Z.lp f).ex x s = Z.ex x s := id rfl
theorem pnF_nx : (pnF as Q X).nx s = Q (.val .non) (merge as s) := id rfl
theorem pnF_rt : (pnF as Q X).rt r s = Q r (merge as s) := id rfl
theorem pnF_bk : (pnF as Q X).bk s = False := id rfl
theorem pnF_ct : (pnF as Q X).ct s = False := id rfl
theorem pnF_ex : (pnF as Q X).ex x s = X x (merge as s) := id rfl
theorem q_fnF : fnF n j l a as Q X = (as.length = n ∧ lentB l 0 as = true ∧ a (as ++ List.replicate j .un) (pnF as Q X)) := id rfl
def kTrue  (d : D) : Prop := True
theorem ap_kTrue {d : D} : kTrue d = (True) := id rfl
def kSl (K : List (Option D) → List En → Prop) (ds : List (Option D)) (s : List En) : Prop := K (none :: ds) s
theorem ap_kSl {K : List (Option D) → List En → Prop} {ds : List (Option D)} {s : List En} : kSl K ds s = (K (none :: ds) s) := id rfl
def kEx3 (K : List (Option D) → List En → Prop) (d : D) (ds : List (Option D)) (s : List En) : Prop := K (some d :: ds) s
theorem ap_kEx3 {K : List (Option D) → List En → Prop} {d : D} {ds : List (Option D)} {s : List En} : kEx3 K d ds s = (K (some d :: ds) s) := id rfl
def kEx2 (r : List Opd) (K : List (Option D) → List En → Prop) (X : QX) (s : List En) (d : D) : Prop := evO r s (kEx3 K d) X
theorem ap_kEx2 {r : List Opd} {K : List (Option D) → List En → Prop} {X : QX} {s : List En} {d : D} : kEx2 r K X s d = (evO r s (kEx3 K d) X) := id rfl
def kEx (r : List Opd) (K : List (Option D) → List En → Prop) (X : QX) (e : En) (s : List En) : Prop := e.dK (kEx2 r K X s)
theorem ap_kEx {r : List Opd} {K : List (Option D) → List En → Prop} {X : QX} {e : En} {s : List En} : kEx r K X e s = (e.dK (kEx2 r K X s)) := id rfl
theorem q_ev0 : evO [] s K X = K [] s := id rfl
theorem q_ev1 : evO (.sl i :: ops) s K X = (slK s i kTrue ∧ evO ops s (kSl K) X) := id rfl
theorem q_ev2 : evO (.ex m :: ops) s K X = m s (kEx ops K X) X := id rfl
def kD2 (k : List D → Prop) (d : D) (r : List D) : Prop := k (d :: r)
theorem ap_kD2 {k : List D → Prop} {d : D} {r : List D} : kD2 k d r = (k (d :: r)) := id rfl
def kD (ops : List Opd) (ds : List (Option D)) (s : List En) (k : List D → Prop) (d : D) : Prop := datK ops ds s (kD2 k d)
theorem ap_kD {ops : List Opd} {ds : List (Option D)} {s : List En} {k : List D → Prop} {d : D} : kD ops ds s k d = (datK ops ds s (kD2 k d)) := id rfl
theorem q_dat0 : datK [] [] s kl = kl [] := id rfl
theorem q_dat1 : datK (.sl i :: ops) (none :: ds) s kl = slK s i (kD ops ds s kl) := id rfl
theorem q_dat2 : datK (.ex m :: ops) (some dv :: ds) s kl = datK ops ds s (kD2 kl dv) := id rfl
def kRet (Q : En → List En → Prop) (s : List En) (r : En) : Prop := Q r s
theorem ap_kRet {Q : En → List En → Prop} {s : List En} {r : En} : kRet Q s r = (Q r s) := id rfl
def kBi2 (b : Bi) (Q : En → List En → Prop) (s : List En) (dd : List D) : Prop := b dd (kRet Q s)
theorem ap_kBi2 {b : Bi} {Q : En → List En → Prop} {s : List En} {dd : List D} : kBi2 b Q s dd = (b dd (kRet Q s)) := id rfl
def kBi (ops : List Opd) (b : Bi) (Q : En → List En → Prop) (ds : List (Option D)) (s : List En) : Prop := datK ops ds s (kBi2 b Q s)
theorem ap_kBi {ops : List Opd} {b : Bi} {Q : En → List En → Prop} {ds : List (Option D)} {s : List En} : kBi ops b Q ds s = (datK ops ds s (kBi2 b Q s)) := id rfl
theorem q_eBi : eBi ops bi s Q X = evO ops s (kBi ops bi Q) X := id rfl
def kA (k : List En → Prop) (e : En) (r : List En) : Prop := k (e :: r)
theorem ap_kA {k : List En → Prop} {e : En} {r : List En} : kA k e r = (k (e :: r)) := id rfl
theorem q_arg0 : argK [] [] s kk = kk [] := id rfl
theorem q_arg1 : argK (.sl i :: ops) (none :: ds) s kk = (match s[i]? with | some e => argK ops ds s (kA kk e) | none => False) := id rfl
theorem q_arg2 : argK (.ex m :: ops) (some dv :: ds) s kk = argK ops ds s (kA kk (.val dv)) := id rfl
def kCallQ (ops : List Opd) (s : List En) (Q : En → List En → Prop) (r : En) (as : List En) : Prop := Q r (backs ops as s)
theorem ap_kCallQ {ops : List Opd} {s : List En} {Q : En → List En → Prop} {r : En} {as : List En} : kCallQ ops s Q r as = (Q r (backs ops as s)) := id rfl
def kCallX (ops : List Opd) (s : List En) (X : QX) (x : Xn) (as : List En) : Prop := X x (backs ops as s)
theorem ap_kCallX {ops : List Opd} {s : List En} {X : QX} {x : Xn} {as : List En} : kCallX ops s X x as = (X x (backs ops as s)) := id rfl
def kCall2 (F : ME) (ops : List Opd) (dfl : List D) (Q : En → List En → Prop) (X : QX) (s : List En) (args : List En) : Prop := (ownSl ops s).Nodup ∧ F (args ++ dfl.map .val) (kCallQ ops s Q) (kCallX ops s X)
theorem ap_kCall2 {F : ME} {ops : List Opd} {dfl : List D} {Q : En → List En → Prop} {X : QX} {s : List En} {args : List En} : kCall2 F ops dfl Q X s args = ((ownSl ops s).Nodup ∧ F (args ++ dfl.map .val) (kCallQ ops s Q) (kCallX ops s X)) := id rfl
def kCall (F : ME) (ops : List Opd) (dfl : List D) (Q : En → List En → Prop) (X : QX) (ds : List (Option D)) (s : List En) : Prop := argK ops ds s (kCall2 F ops dfl Q X s)
theorem ap_kCall {F : ME} {ops : List Opd} {dfl : List D} {Q : En → List En → Prop} {X : QX} {ds : List (Option D)} {s : List En} : kCall F ops dfl Q X ds s = (argK ops ds s (kCall2 F ops dfl Q X s)) := id rfl
theorem q_eCall : eCall F ops dd s Q X = evO ops s (kCall F ops dd Q X) X := id rfl
def kNoX  (x : Xn) (s : List En) : Prop := False
theorem ap_kNoX {x : Xn} {s : List En} : kNoX x s = (False) := id rfl
theorem q_eNox : eNox m s Q X = m s Q kNoX := id rfl
def kAnd3 (u : ME) (Q : En → List En → Prop) (X : QX) (s : List En) (d : D) (b : Bool) : Prop := if b = true then u s Q X else Q (.val d) s
theorem ap_kAnd3 {u : ME} {Q : En → List En → Prop} {X : QX} {s : List En} {d : D} {b : Bool} : kAnd3 u Q X s d b = (if b = true then u s Q X else Q (.val d) s) := id rfl
def kAnd2 (u : ME) (Q : En → List En → Prop) (X : QX) (s : List En) (d : D) : Prop := truK d (kAnd3 u Q X s d)
theorem ap_kAnd2 {u : ME} {Q : En → List En → Prop} {X : QX} {s : List En} {d : D} : kAnd2 u Q X s d = (truK d (kAnd3 u Q X s d)) := id rfl
def kAnd (u : ME) (Q : En → List En → Prop) (X : QX) (r : En) (s : List En) : Prop := r.dK (kAnd2 u Q X s)
theorem ap_kAnd {u : ME} {Q : En → List En → Prop} {X : QX} {r : En} {s : List En} : kAnd u Q X r s = (r.dK (kAnd2 u Q X s)) := id rfl
theorem q_eAndV : eAndV m u s Q X = m s (kAnd u Q X) X := id rfl
def kOr3 (u : ME) (Q : En → List En → Prop) (X : QX) (s : List En) (d : D) (b : Bool) : Prop := if b = true then Q (.val d) s else u s Q X
theorem ap_kOr3 {u : ME} {Q : En → List En → Prop} {X : QX} {s : List En} {d : D} {b : Bool} : kOr3 u Q X s d b = (if b = true then Q (.val d) s else u s Q X) := id rfl
def kOr2 (u : ME) (Q : En → List En → Prop) (X : QX) (s : List En) (d : D) : Prop := truK d (kOr3 u Q X s d)
theorem ap_kOr2 {u : ME} {Q : En → List En → Prop} {X : QX} {s : List En} {d : D} : kOr2 u Q X s d = (truK d (kOr3 u Q X s d)) := id rfl
def kOr (u : ME) (Q : En → List En → Prop) (X : QX) (r : En) (s : List En) : Prop := r.dK (kOr2 u Q X s)
theorem ap_kOr {u : ME} {Q : En → List En → Prop} {X : QX} {r : En} {s : List En} : kOr u Q X r s = (r.dK (kOr2 u Q X s)) := id rfl
theorem q_eOrV : eOrV m u s Q X = m s (kOr u Q X) X := id rfl
def kNot3 (Q : En → List En → Prop) (s : List En) (b : Bool) : Prop := Q (.val (.bl (!b))) s
theorem ap_kNot3 {Q : En → List En → Prop} {s : List En} {b : Bool} : kNot3 Q s b = (Q (.val (.bl (!b))) s) := id rfl
def kNot2 (Q : En → List En → Prop) (s : List En) (d : D) : Prop := truK d (kNot3 Q s)
theorem ap_kNot2 {Q : En → List En → Prop} {s : List En} {d : D} : kNot2 Q s d = (truK d (kNot3 Q s)) := id rfl
def kNot (Q : En → List En → Prop) (r : En) (s : List En) : Prop := r.dK (kNot2 Q s)
theorem ap_kNot {Q : En → List En → Prop} {r : En} {s : List En} : kNot Q r s = (r.dK (kNot2 Q s)) := id rfl
theorem q_eNotV : eNotV m s Q X = m s (kNot Q) X := id rfl
def kIfV (m : ME) (u : ME) (Q : En → List En → Prop) (X : QX) (b : Bool) (s : List En) : Prop := if b = true then m s Q X else u s Q X
theorem ap_kIfV {m : ME} {u : ME} {Q : En → List En → Prop} {X : QX} {b : Bool} {s : List En} : kIfV m u Q X b s = (if b = true then m s Q X else u s Q X) := id rfl
theorem q_eIfV : eIfV t m u s Q X = t s (kIfV m u Q X) X := id rfl
def kTru3 (Q : Bool → List En → Prop) (s : List En) (b : Bool) : Prop := Q b s
theorem ap_kTru3 {Q : Bool → List En → Prop} {s : List En} {b : Bool} : kTru3 Q s b = (Q b s) := id rfl
def kTru2 (Q : Bool → List En → Prop) (s : List En) (d : D) : Prop := truK d (kTru3 Q s)
theorem ap_kTru2 {Q : Bool → List En → Prop} {s : List En} {d : D} : kTru2 Q s d = (truK d (kTru3 Q s)) := id rfl
def kTru (Q : Bool → List En → Prop) (r : En) (s : List En) : Prop := r.dK (kTru2 Q s)
theorem ap_kTru {Q : Bool → List En → Prop} {r : En} {s : List En} : kTru Q r s = (r.dK (kTru2 Q s)) := id rfl
theorem q_tTru : tTru m s Qb X = m s (kTru Qb) X := id rfl
def kBl (Q : Bool → List En → Prop) (r : En) (s : List En) : Prop := match r with
  | .val (.bl b) => Q b s
  | _ => False
theorem ap_kBl : kBl Qb (.val (.bl bo)) s = Qb bo s := id rfl
theorem q_tBl : tBl m s Qb X = m s (kBl Qb) X := id rfl
def kTN (Q : Bool → List En → Prop) (b : Bool) (s : List En) : Prop := Q (!b) s
theorem ap_kTN {Q : Bool → List En → Prop} {b : Bool} {s : List En} : kTN Q b s = (Q (!b) s) := id rfl
theorem q_tNotM : tNotM t s Qb X = t s (kTN Qb) X := id rfl
def kTA (u : MT) (Q : Bool → List En → Prop) (X : QX) (b : Bool) (s : List En) : Prop := if b = true then u s Q X else Q false s
theorem ap_kTA {u : MT} {Q : Bool → List En → Prop} {X : QX} {b : Bool} {s : List En} : kTA u Q X b s = (if b = true then u s Q X else Q false s) := id rfl
def kTO (u : MT) (Q : Bool → List En → Prop) (X : QX) (b : Bool) (s : List En) : Prop := if b = true then Q true s else u s Q X
theorem ap_kTO {u : MT} {Q : Bool → List En → Prop} {X : QX} {b : Bool} {s : List En} : kTO u Q X b s = (if b = true then Q true s else u s Q X) := id rfl
theorem q_tAndM : tAndM t t' s Qb X = t s (kTA t' Qb X) X := id rfl
theorem q_tOrM : tOrM t t' s Qb X = t s (kTO t' Qb X) X := id rfl
def kSeq (b : MS) (Z : Pn) (s : List En) : Prop := b s Z
theorem ap_kSeq {b : MS} {Z : Pn} {s : List En} : kSeq b Z s = (b s Z) := id rfl
def Pn.sq (Z : Pn) (b : MS) : Pn := { Z with nx := fun s => b s Z }
theorem sq_nx : (Z.sq b).nx s = b s Z := id rfl
theorem sq_rt : (Z.sq b).rt r s = Z.rt r s := id rfl
theorem sq_bk : (Z.sq b).bk s = Z.bk s := id rfl
theorem sq_ct : (Z.sq b).ct s = Z.ct s := id rfl
theorem sq_ex : (Z.sq b).ex x s = Z.ex x s := id rfl
theorem q_sSeq : sSeq a b s Z = a s (Z.sq b) := id rfl
theorem q_sNext : sNext s Z = Z.nx s := id rfl
theorem q_sBreak : sBreak s Z = Z.bk s := id rfl
theorem q_sCont : sCont s Z = Z.ct s := id rfl
def kDrop (Z : Pn) (r : En) (s : List En) : Prop := Z.nx s
theorem ap_kDrop {Z : Pn} {r : En} {s : List En} : kDrop Z r s = (Z.nx s) := id rfl
theorem q_sDrop : sDrop m s Z = m s (kDrop Z) Z.ex := id rfl
theorem q_sRet : sRet m s Z = m s Z.rt Z.ex := id rfl
theorem q_sRetN : sRetN s Z = Z.rt (.val .non) s := id rfl
def kSIf (a : MS) (b : MS) (Z : Pn) (bo : Bool) (s : List En) : Prop := if bo = true then a s Z else b s Z
theorem ap_kSIf {a : MS} {b : MS} {Z : Pn} {bo : Bool} {s : List En} : kSIf a b Z bo s = (if bo = true then a s Z else b s Z) := id rfl
theorem q_sIf : sIf t a b s Z = t s (kSIf a b Z) Z.ex := id rfl
def kSet (i : Nat) (Z : Pn) (r : En) (s : List En) : Prop := i < s.length ∧ Z.nx (s.set i r)
theorem ap_kSet {i : Nat} {Z : Pn} {r : En} {s : List En} : kSet i Z r s = (i < s.length ∧ Z.nx (s.set i r)) := id rfl
theorem q_sSet : sSet i m s Z = m s (kSet i Z) Z.ex := id rfl
def kPar2 (is : List Nat) (Z : Pn) (s : List En) (dd : List D) : Prop := (∀ i ∈ is, i < s.length) ∧ dd.length = is.length ∧ Z.nx (setAll is dd s)
theorem ap_kPar2 {is : List Nat} {Z : Pn} {s : List En} {dd : List D} : kPar2 is Z s dd = ((∀ i ∈ is, i < s.length) ∧ dd.length = is.length ∧ Z.nx (setAll is dd s)) := id rfl
def kPar (is : List Nat) (ms : List ME) (Z : Pn) (ds : List (Option D)) (s : List En) : Prop := datK (exs ms) ds s (kPar2 is Z s)
theorem ap_kPar {is : List Nat} {ms : List ME} {Z : Pn} {ds : List (Option D)} {s : List En} : kPar is ms Z ds s = (datK (exs ms) ds s (kPar2 is Z s)) := id rfl
theorem q_sPar : sPar is ms s Z = evO (exs ms) s (kPar is ms Z) Z.ex := id rfl
def kUnp2 (p : Pt) (Z : Pn) (s : List En) (d : D) : Prop := bindP p d s Z.nx
theorem ap_kUnp2 {p : Pt} {Z : Pn} {s : List En} {d : D} : kUnp2 p Z s d = (bindP p d s Z.nx) := id rfl
def kUnp (p : Pt) (Z : Pn) (r : En) (s : List En) : Prop := r.dK (kUnp2 p Z s)
theorem ap_kUnp {p : Pt} {Z : Pn} {r : En} {s : List En} : kUnp p Z r s = (r.dK (kUnp2 p Z s)) := id rfl
theorem q_sUnp : sUnp p m s Z = m s (kUnp p Z) Z.ex := id rfl
def kApp4 (i : Nat) (Z : Pn) (s : List En) (d : D) (xs : List D) : Prop := xs.length < sizeLine ∧ Z.nx (s.set i (.own (xs ++ [d])))
theorem ap_kApp4 {i : Nat} {Z : Pn} {s : List En} {d : D} {xs : List D} : kApp4 i Z s d xs = (xs.length < sizeLine ∧ Z.nx (s.set i (.own (xs ++ [d])))) := id rfl
def kApp3 (i : Nat) (Z : Pn) (s : List En) (d : D) : Prop := ownK s i (kApp4 i Z s d)
theorem ap_kApp3 {i : Nat} {Z : Pn} {s : List En} {d : D} : kApp3 i Z s d = (ownK s i (kApp4 i Z s d)) := id rfl
def kApp2 (i : Nat) (Z : Pn) (r : En) (s : List En) : Prop := r.dK (kApp3 i Z s)
theorem ap_kApp2 {i : Nat} {Z : Pn} {r : En} {s : List En} : kApp2 i Z r s = (r.dK (kApp3 i Z s)) := id rfl
def kApp (i : Nat) (m : ME) (s : List En) (Z : Pn) (xs : List D) : Prop := m s (kApp2 i Z) Z.ex
theorem ap_kApp {i : Nat} {m : ME} {s : List En} {Z : Pn} {xs : List D} : kApp i m s Z xs = (m s (kApp2 i Z) Z.ex) := id rfl
theorem q_sApp : sApp i m s Z = ownK s i (kApp i m s Z) := id rfl
def kIx6 (i : Nat) (Z : Pn) (d : D) (s : List En) (di : D) (xs : List D) : Prop := match di with | .int n => (match ixN xs.length n with | some j => Z.nx (s.set i (.own (xs.set j d))) | none => False) | _ => False
theorem ap_kIx6 {i : Nat} {Z : Pn} {d : D} {s : List En} {di : D} {xs : List D} : kIx6 i Z d s di xs = (match di with | .int n => (match ixN xs.length n with | some j => Z.nx (s.set i (.own (xs.set j d))) | none => False) | _ => False) := id rfl
def kIx5 (i : Nat) (Z : Pn) (d : D) (s : List En) (di : D) : Prop := ownK s i (kIx6 i Z d s di)
theorem ap_kIx5 {i : Nat} {Z : Pn} {d : D} {s : List En} {di : D} : kIx5 i Z d s di = (ownK s i (kIx6 i Z d s di)) := id rfl
def kIx4 (i : Nat) (Z : Pn) (d : D) (r : En) (s : List En) : Prop := r.dK (kIx5 i Z d s)
theorem ap_kIx4 {i : Nat} {Z : Pn} {d : D} {r : En} {s : List En} : kIx4 i Z d r s = (r.dK (kIx5 i Z d s)) := id rfl
def kIx3 (i : Nat) (m : ME) (Z : Pn) (s : List En) (d : D) (dz : D) : Prop := m s (kIx4 i Z d) Z.ex
theorem ap_kIx3 {i : Nat} {m : ME} {Z : Pn} {s : List En} {d : D} {dz : D} : kIx3 i m Z s d dz = (m s (kIx4 i Z d) Z.ex) := id rfl
def kIx2 (i : Nat) (m : ME) (Z : Pn) (s : List En) (d : D) : Prop := slK s i (kIx3 i m Z s d)
theorem ap_kIx2 {i : Nat} {m : ME} {Z : Pn} {s : List En} {d : D} : kIx2 i m Z s d = (slK s i (kIx3 i m Z s d)) := id rfl
def kIx (i : Nat) (m : ME) (Z : Pn) (r : En) (s : List En) : Prop := r.dK (kIx2 i m Z s)
theorem ap_kIx {i : Nat} {m : ME} {Z : Pn} {r : En} {s : List En} : kIx i m Z r s = (r.dK (kIx2 i m Z s)) := id rfl
theorem q_sSetIx : sSetIx i m m' s Z = m' s (kIx i m Z) Z.ex := id rfl
def kFor (p : Pt) (b : MS) (Z : Pn) (ds : List D) (s : List En) : Prop := forL p b ds s Z
theorem ap_kFor {p : Pt} {b : MS} {Z : Pn} {ds : List D} {s : List En} : kFor p b Z ds s = (forL p b ds s Z) := id rfl
theorem q_sFor : sFor p mi b s Z = mi s (kFor p b Z) Z.ex := id rfl
def kIE3 (Q : List D → List En → Prop) (s : List En) (xs : List D) : Prop := Q xs s
theorem ap_kIE3 {Q : List D → List En → Prop} {s : List En} {xs : List D} : kIE3 Q s xs = (Q xs s) := id rfl
def kIE2 (Q : List D → List En → Prop) (s : List En) (d : D) : Prop := seqK d (kIE3 Q s)
theorem ap_kIE2 {Q : List D → List En → Prop} {s : List En} {d : D} : kIE2 Q s d = (seqK d (kIE3 Q s)) := id rfl
def kIE (Q : List D → List En → Prop) (r : En) (s : List En) : Prop := r.dK (kIE2 Q s)
theorem ap_kIE {Q : List D → List En → Prop} {r : En} {s : List En} : kIE Q r s = (r.dK (kIE2 Q s)) := id rfl
theorem q_iEx : iEx m s Qi X = m s (kIE Qi) X := id rfl
def kRg2 (Q : List D → List En → Prop) (s : List En) (dd : List D) : Prop := match dd with
  | [.int j] => (-(2 ^ 62) ≤ j ∧ j < 2 ^ 62) ∧ Q (rngs 0 j.toNat) s
  | [.int i, .int j] => (-(2 ^ 62) ≤ i ∧ i < 2 ^ 62 ∧ -(2 ^ 62) ≤ j ∧ j < 2 ^ 62) ∧ Q (rngs i (j - i).toNat) s
  | _ => False
theorem ap_kRg2a {z : Int} : kRg2 Qi s [.int z] = ((-(2 ^ 62) ≤ z ∧ z < 2 ^ 62) ∧ Qi (rngs 0 z.toNat) s) := id rfl
theorem ap_kRg2b {z w : Int} : kRg2 Qi s [.int z, .int w] = ((-(2 ^ 62) ≤ z ∧ z < 2 ^ 62 ∧ -(2 ^ 62) ≤ w ∧ w < 2 ^ 62) ∧ Qi (rngs z (w - z).toNat) s) := id rfl
def kRg (ms : List ME) (Q : List D → List En → Prop) (ds : List (Option D)) (s : List En) : Prop := datK (exs ms) ds s (kRg2 Q s)
theorem ap_kRg {ms : List ME} {Q : List D → List En → Prop} {ds : List (Option D)} {s : List En} : kRg ms Q ds s = (datK (exs ms) ds s (kRg2 Q s)) := id rfl
theorem q_iRg : iRg ms s Qi X = evO (exs ms) s (kRg ms Qi) X := id rfl
def kBind (ps : List Pt) (ds : List D) (k : List En → Prop) (s : List En) : Prop := Dt.bindL ps ds s k
theorem ap_kBind {ps : List Pt} {ds : List D} {k : List En → Prop} {s : List En} : kBind ps ds k s = (Dt.bindL ps ds s k) := id rfl
theorem q_bind0 : bindP (.nm i) dv s kk = (i < s.length ∧ kk (s.set i (.val dv))) := by unfold bindP; exact id rfl
theorem q_bind1 : bindP (.tp ps) (.tup dd) s kk = Dt.bindL ps dd s kk := by rw [bindP]
theorem q_bind2 : bindP (.tp ps) (.lst dd) s kk = Dt.bindL ps dd s kk := by rw [bindP]
theorem q_bind3 : Dt.bindL [] [] s kk = kk s := by rw [Dt.bindL]
theorem q_bind4 : Dt.bindL (p :: ps) (dv :: dd) s kk = bindP p dv s (kBind ps dd kk) := by rw [Dt.bindL]; exact id rfl
def kBody (b : MS) (Z : Pn) (s : List En) : Prop := b s Z
theorem ap_kBody {b : MS} {Z : Pn} {s : List En} : kBody b Z s = (b s Z) := id rfl
/-- a while by a word and a number that falls -/
abbrev Fl (I : List En → Prop) (μ : List En → Nat) (s0 s : List En) : Prop := I s ∧ μ s < μ s0
def kWh (b : MS) (Z : Pn) (I : List En → Prop) (μ : List En → Nat) (s0 : List En) (k : Bool) (s : List En) : Prop := if k = true then b s (Z.lp (Fl I μ s0)) else Z.nx s
theorem ap_kWh {I : List En → Prop} {μ : List En → Nat} {s0 : List En} : kWh b Z I μ s0 bo s = (if bo = true then b s (Z.lp (Fl I μ s0)) else Z.nx s) := id rfl
theorem wh_pure (I : List En → Prop) (μ : List En → Nat) (h0 : I s) (ht : ∀ s, I s → t s (kWh b Z I μ s) Z.ex) : sWhile t b s Z := while_pure I μ h0 ht
/-- a for by a word over what is left -/
theorem fr_pure (I : List D → List En → Prop) (h0 : I dd s) (ht : ∀ d ds s, I (d :: ds) s → bindP p d s (kBody b (Z.lp (I ds)))) (hd : ∀ s, I [] s → Z.nx s) : forL p b dd s Z := for_pure I h0 ht hd
end
end Dt

set_option Elab.async false
set_option linter.all false
set_option maxRecDepth 100000
set_option maxHeartbeats 4000000
/-! DtR: the built-ins by equations on constructors. -/
namespace Dt
open PySem PySem.Spec PyProof.Rows L2
section
variable {m u : ME} {u' : MT} {a b : MS} {s : List En} {Q : En → List En → Prop} {Qb : Bool → List En → Prop} {X : QX} {Z : Pn} {K : En → Prop} {kd : D → Prop} {kb : Bool → Prop} {kl : List D → Prop} {d e : D} {xs ys : List D} {i j : Int} {x y : Str} {ns : List String} {I : List En → Prop} {μ : List En → Nat} {s0 : List En} {bo bo' : Bool} {k n : Nat} {c : Name} {fs : List (Name × D)}
/-! #### branches -/
theorem kSIf_t : kSIf a b Z true s = (a s Z) := id rfl
theorem kSIf_f : kSIf a b Z false s = (b s Z) := by simp [kSIf]
theorem kSIf_if {p : Prop} [Decidable p] (h : p → a s Z) (h' : ¬p → b s Z) : kSIf a b Z (decide p) s := by
  by_cases z : p
  · rw [decide_eq_true z]; exact h z
  · rw [decide_eq_false z, kSIf_f]; exact h' z
theorem kSIf_nif {p : Prop} [Decidable p] (h : ¬p → a s Z) (h' : p → b s Z) : kSIf a b Z (!decide p) s := by
  by_cases z : p
  · rw [decide_eq_true z, Bool.not_true, kSIf_f]; exact h' z
  · rw [decide_eq_false z, Bool.not_false]; exact h z
theorem kSIf_bif (h : bo = true → a s Z) (h' : bo = false → b s Z) : kSIf a b Z bo s := by
  cases bo with
  | true => exact h rfl
  | false => rw [kSIf_f]; exact h' rfl
theorem kIfV_t : kIfV m u Q X true s = (m s Q X) := id rfl
theorem kIfV_f : kIfV m u Q X false s = (u s Q X) := by simp [kIfV]
theorem kIfV_if {p : Prop} [Decidable p] (h : p → m s Q X) (h' : ¬p → u s Q X) : kIfV m u Q X (decide p) s := by
  by_cases z : p
  · rw [decide_eq_true z]; exact h z
  · rw [decide_eq_false z, kIfV_f]; exact h' z
theorem kIfV_nif {p : Prop} [Decidable p] (h : ¬p → m s Q X) (h' : p → u s Q X) : kIfV m u Q X (!decide p) s := by
  by_cases z : p
  · rw [decide_eq_true z, Bool.not_true, kIfV_f]; exact h' z
  · rw [decide_eq_false z, Bool.not_false]; exact h z
theorem kIfV_bif (h : bo = true → m s Q X) (h' : bo = false → u s Q X) : kIfV m u Q X bo s := by
  cases bo with
  | true => exact h rfl
  | false => rw [kIfV_f]; exact h' rfl
theorem kTA_t : kTA u' Qb X true s = (u' s Qb X) := id rfl
theorem kTA_f : kTA u' Qb X false s = (Qb false s) := by simp [kTA]
theorem kTA_if {p : Prop} [Decidable p] (h : p → u' s Qb X) (h' : ¬p → Qb false s) : kTA u' Qb X (decide p) s := by
  by_cases z : p
  · rw [decide_eq_true z]; exact h z
  · rw [decide_eq_false z, kTA_f]; exact h' z
theorem kTA_nif {p : Prop} [Decidable p] (h : ¬p → u' s Qb X) (h' : p → Qb false s) : kTA u' Qb X (!decide p) s := by
  by_cases z : p
  · rw [decide_eq_true z, Bool.not_true, kTA_f]; exact h' z
  · rw [decide_eq_false z, Bool.not_false]; exact h z
theorem kTA_bif (h : bo = true → u' s Qb X) (h' : bo = false → Qb false s) : kTA u' Qb X bo s := by
  cases bo with
  | true => exact h rfl
  | false => rw [kTA_f]; exact h' rfl
theorem kTO_t : kTO u' Qb X true s = (Qb true s) := id rfl
theorem kTO_f : kTO u' Qb X false s = (u' s Qb X) := by simp [kTO]
theorem kTO_if {p : Prop} [Decidable p] (h : p → Qb true s) (h' : ¬p → u' s Qb X) : kTO u' Qb X (decide p) s := by
  by_cases z : p
  · rw [decide_eq_true z]; exact h z
  · rw [decide_eq_false z, kTO_f]; exact h' z
theorem kTO_nif {p : Prop} [Decidable p] (h : ¬p → Qb true s) (h' : p → u' s Qb X) : kTO u' Qb X (!decide p) s := by
  by_cases z : p
  · rw [decide_eq_true z, Bool.not_true, kTO_f]; exact h' z
  · rw [decide_eq_false z, Bool.not_false]; exact h z
theorem kTO_bif (h : bo = true → Qb true s) (h' : bo = false → u' s Qb X) : kTO u' Qb X bo s := by
  cases bo with
  | true => exact h rfl
  | false => rw [kTO_f]; exact h' rfl
theorem kAnd3_t : kAnd3 u Q X s d true  = (u s Q X) := id rfl
theorem kAnd3_f : kAnd3 u Q X s d false  = (Q (.val d) s) := by simp [kAnd3]
theorem kAnd3_if {p : Prop} [Decidable p] (h : p → u s Q X) (h' : ¬p → Q (.val d) s) : kAnd3 u Q X s d (decide p)  := by
  by_cases z : p
  · rw [decide_eq_true z]; exact h z
  · rw [decide_eq_false z, kAnd3_f]; exact h' z
theorem kAnd3_nif {p : Prop} [Decidable p] (h : ¬p → u s Q X) (h' : p → Q (.val d) s) : kAnd3 u Q X s d (!decide p)  := by
  by_cases z : p
  · rw [decide_eq_true z, Bool.not_true, kAnd3_f]; exact h' z
  · rw [decide_eq_false z, Bool.not_false]; exact h z
theorem kAnd3_bif (h : bo = true → u s Q X) (h' : bo = false → Q (.val d) s) : kAnd3 u Q X s d bo  := by
  cases bo with
  | true => exact h rfl
  | false => rw [kAnd3_f]; exact h' rfl
theorem kOr3_t : kOr3 u Q X s d true  = (Q (.val d) s) := id rfl
theorem kOr3_f : kOr3 u Q X s d false  = (u s Q X) := by simp [kOr3]
theorem kOr3_if {p : Prop} [Decidable p] (h : p → Q (.val d) s) (h' : ¬p → u s Q X) : kOr3 u Q X s d (decide p)  := by
  by_cases z : p
  · rw [decide_eq_true z]; exact h z
  · rw [decide_eq_false z, kOr3_f]; exact h' z
theorem kOr3_nif {p : Prop} [Decidable p] (h : ¬p → Q (.val d) s) (h' : p → u s Q X) : kOr3 u Q X s d (!decide p)  := by
  by_cases z : p
  · rw [decide_eq_true z, Bool.not_true, kOr3_f]; exact h' z
  · rw [decide_eq_false z, Bool.not_false]; exact h z
theorem kOr3_bif (h : bo = true → Q (.val d) s) (h' : bo = false → u s Q X) : kOr3 u Q X s d bo  := by
  cases bo with
  | true => exact h rfl
  | false => rw [kOr3_f]; exact h' rfl
theorem kWh_t : kWh b Z I μ s0 true s = (b s (Z.lp (Fl I μ s0))) := id rfl
theorem kWh_f : kWh b Z I μ s0 false s = (Z.nx s) := by simp [kWh]
theorem kWh_if {p : Prop} [Decidable p] (h : p → b s (Z.lp (Fl I μ s0))) (h' : ¬p → Z.nx s) : kWh b Z I μ s0 (decide p) s := by
  by_cases z : p
  · rw [decide_eq_true z]; exact h z
  · rw [decide_eq_false z, kWh_f]; exact h' z
theorem kWh_nif {p : Prop} [Decidable p] (h : ¬p → b s (Z.lp (Fl I μ s0))) (h' : p → Z.nx s) : kWh b Z I μ s0 (!decide p) s := by
  by_cases z : p
  · rw [decide_eq_true z, Bool.not_true, kWh_f]; exact h' z
  · rw [decide_eq_false z, Bool.not_false]; exact h z
theorem kWh_bif (h : bo = true → b s (Z.lp (Fl I μ s0))) (h' : bo = false → Z.nx s) : kWh b Z I μ s0 bo s := by
  cases bo with
  | true => exact h rfl
  | false => rw [kWh_f]; exact h' rfl
/-! #### an item -/
def oK (o : Option D) (k : D → Prop) : Prop := match o with
  | some d => k d
  | none => False
theorem oK_some : oK (some d) kd = kd d := id rfl
theorem oK_of {o : Option D} (h : ∃ d, o = some d ∧ kd d) : oK o kd := by
  obtain ⟨d, rfl, h⟩ := h; exact h
def oN (o : Option Nat) (k : Nat → Prop) : Prop := match o with
  | some d => k d
  | none => False
theorem oN_some {k : Nat → Prop} : oN (some n) k = k n := id rfl
theorem oN_of {o : Option Nat} {k : Nat → Prop} (h : ∃ d, o = some d ∧ k d) : oN o k := by
  obtain ⟨d, rfl, h⟩ := h; exact h
def oB (o : Option Bool) (k : Bool → Prop) : Prop := match o with
  | some d => k d
  | none => False
theorem oB_some : oB (some bo) kb = kb bo := id rfl
def kV (K : En → Prop) (d : D) : Prop := K (.val d)
theorem ap_kV : kV K d = K (.val d) := id rfl
def kVb (K : En → Prop) (b : Bool) : Prop := K (.val (.bl b))
theorem ap_kVb : kVb K bo = K (.val (.bl bo)) := id rfl
def kIx7 (i : Nat) (Z : Pn) (d : D) (s : List En) (xs : List D) (j : Nat) : Prop := Z.nx (s.set i (.own (xs.set j d)))
theorem ap_kIx7 : kIx7 k Z d s xs n = Z.nx (s.set k (.own (xs.set n d))) := id rfl
theorem q_ixs : kIx6 k Z d s (.int i) xs = oN (ixN xs.length i) (kIx7 k Z d s xs) := id rfl
theorem q_ixl : bIx [.lst xs, .int i] K = oK (atI xs i) (kV K) := id rfl
theorem q_ixt : bIx [.tup xs, .int i] K = oK (atI xs i) (kV K) := id rfl
theorem ixN_lit (n k : Nat) : ixN n (no_index (OfNat.ofNat k : Int)) = if k < n then some k else none := by
  show ixN n ((k : Nat) : Int) = _
  by_cases h : k < n
  · rw [ixN_nat h, if_pos h]
  · unfold ixN
    rw [if_pos (by omega), if_neg (by omega), if_neg h]
theorem ixN_z {n : Nat} {i : Int} (h0 : 0 ≤ i) (h : i < n) : ixN n i = some i.toNat := by
  obtain ⟨j, rfl⟩ : ∃ j : Nat, i = (j : Int) := ⟨i.toNat, by omega⟩
  rw [ixN_nat (by omega)]; rfl
/-! #### numbers -/
theorem q_add : bAdd [.int i, .int j] K = K (.val (.int (i + j))) := id rfl
theorem q_sub : bSub [.int i, .int j] K = K (.val (.int (i - j))) := id rfl
theorem q_mul : bMul [.int i, .int j] K = ((CMul i j ∨ CMulW i j) ∧ K (.val (.int (i * j)))) := id rfl
theorem q_div : bDiv [.int i, .int j] K = ((0 < j ∧ j.natAbs.log2 < 9000) ∧ K (.val (.int (i / j)))) := propext ⟨fun h => ⟨⟨h.1, h.2.1⟩, h.2.2⟩, fun h => ⟨h.1.1, h.1.2, h.2⟩⟩
theorem q_divl (k : Nat) : bDiv [.int i, .int (no_index (OfNat.ofNat k))] K = ((0 < k ∧ k.log2 < 9000) ∧ K (.val (.int (i / (OfNat.ofNat k : Int))))) := by
  rw [q_div]
  have : (0 : Int) < (OfNat.ofNat k : Int) ↔ 0 < k := by
    show (0 : Int) < ((k : Nat) : Int) ↔ _
    omega
  rw [this]; rfl
theorem q_mod : bMod [.int i, .int j] K = (0 < j ∧ K (.val (.int (i % j)))) := id rfl
theorem q_pow : bPow [.int i, .int j] K = (CPow i j ∧ K (.val (.int (i ^ j.toNat)))) := id rfl
theorem q_neg : bNeg [.int i] K = K (.val (.int (-i))) := id rfl
theorem q_abs : bAbs [.int i] K = K (.val (.int (i.natAbs : Int))) := by
  show K (.val (.int (if i < 0 then -i else i))) = _
  rw [abs_if]
theorem q_int : bInt [.int i] K = K (.val (.int i)) := id rfl
theorem q_intb : bInt [.bl bo] K = K (.val (.int (if bo then 1 else 0))) := id rfl
theorem q_min2 : bMin2 [.int i, .int j] K = K (.val (.int (min i j))) := by
  show K (.val (.int (if j < i then j else i))) = _
  have : (if j < i then j else i) = min i j := by split <;> omega
  rw [this]
theorem q_max2 : bMax2 [.int i, .int j] K = K (.val (.int (max i j))) := by
  show K (.val (.int (if j > i then j else i))) = _
  have : (if j > i then j else i) = max i j := by split <;> omega
  rw [this]
theorem q_lenl : bLen [.lst xs] K = K (.val (.int xs.length)) := id rfl
theorem q_lent : bLen [.tup xs] K = K (.val (.int xs.length)) := id rfl
theorem q_lens : bLen [.str x] K = (x.length ≤ sizeLine ∧ K (.val (.int x.length))) := id rfl
/-! #### comparisons -/
theorem q_lt : bLt [.int i, .int j] K = K (.val (.bl (decide (i < j)))) := id rfl
theorem q_le : bLe [.int i, .int j] K = K (.val (.bl (decide (i ≤ j)))) := id rfl
theorem q_gt : bGt [.int i, .int j] K = K (.val (.bl (decide (i > j)))) := id rfl
theorem q_ge : bGe [.int i, .int j] K = K (.val (.bl (decide (i ≥ j)))) := id rfl
theorem q_eq : bEq [d, e] K = (d.shp = true ∧ e.shp = true ∧ K (.val (.bl (d.eqv e)))) := id rfl
theorem q_ne : bNe [d, e] K = (d.shp = true ∧ e.shp = true ∧ K (.val (.bl (!d.eqv e)))) := id rfl
theorem q_is : bIs [d, .non] K = K (.val (.bl d.isNon)) := by cases d <;> rfl
theorem q_isb : bIs [.bl bo, .bl bo'] K = K (.val (.bl (decide (bo = bo')))) := id rfl
theorem q_isN : bIsN [d, .non] K = K (.val (.bl (!d.isNon))) := by cases d <;> rfl
theorem q_isNb : bIsN [.bl bo, .bl bo'] K = K (.val (.bl (!decide (bo = bo')))) := id rfl
theorem isNon_non : D.non.isNon = true := id rfl
theorem isNon_int : (D.int i).isNon = false := id rfl
theorem isNon_bl : (D.bl bo).isNon = false := id rfl
theorem isNon_str : (D.str x).isNon = false := id rfl
theorem isNon_tup : (D.tup xs).isNon = false := id rfl
theorem isNon_lst : (D.lst xs).isNon = false := id rfl
/-! #### isinstance -/
theorem q_isi0 : bIsi ns [.non] K = oB (isAny "NoneType" ns) (kVb K) := id rfl
theorem q_isi1 : bIsi ns [.bl bo] K = oB (isAny "bool" ns) (kVb K) := id rfl
theorem q_isi2 : bIsi ns [.int i] K = oB (isAny "int" ns) (kVb K) := id rfl
theorem q_isi3 : bIsi ns [.str x] K = oB (isAny "str" ns) (kVb K) := id rfl
theorem q_isi4 : bIsi ns [.tup xs] K = oB (isAny "tuple" ns) (kVb K) := id rfl
theorem q_isi5 : bIsi ns [.lst xs] K = oB (isAny "list" ns) (kVb K) := id rfl
/-! #### displays, truth, sequences -/
theorem q_tup : bTup xs K = (xs.length ≤ sizeLine ∧ K (.val (.tup xs))) := id rfl
theorem q_lst : bLst xs K = (xs.length ≤ sizeLine ∧ K (.own xs)) := id rfl
theorem tru_non : truK .non kb = kb false := id rfl
theorem tru_bl : truK (.bl bo) kb = kb bo := id rfl
theorem tru_int : truK (.int i) kb = kb (!decide (i = 0)) := by
  show kb (i != 0) = _
  have : (i != 0) = !decide (i = 0) := by
    by_cases h : i = 0 <;> simp [h]
  rw [this]
theorem tru_tup : truK (.tup xs) kb = kb (!xs.isEmpty) := id rfl
theorem tru_lst : truK (.lst xs) kb = kb (!xs.isEmpty) := id rfl
theorem seq_lst : seqK (.lst xs) kl = kl xs := id rfl
theorem seq_tup : seqK (.tup xs) kl = kl xs := id rfl
theorem sz_0 : (0 ≤ sizeLine) = True := propext ⟨fun _ => trivial, fun _ => Nat.zero_le _⟩
end
end Dt

set_option Elab.async false
set_option linter.all false
set_option maxRecDepth 100000
set_option maxHeartbeats 4000000
/-! DtS: slots, arguments and ends by equations on constructors. -/
namespace Dt
open PySem PySem.Spec PyProof.Rows L2
section
variable {s t : List En} {Q : En → List En → Prop} {X : QX} {k : D → Prop} {kl : List D → Prop} {kk : List En → Prop} {d : D} {xs ds' : List D} {e : En} {i j : Nat} {c : Name} {ns : List Name} {ops : List Opd} {ds : List (Option D)} {as es : List En} {m : ME} {ms : List ME} {l is : List Nat}
def oE (o : Option En) (k : En → Prop) : Prop := match o with
  | some e => k e
  | none => False
theorem oE_some {k : En → Prop} : oE (some e) k = k e := id rfl
theorem dK_val : (En.val d).dK k = k d := id rfl
theorem dK_own : (En.own xs).dK k = k (.lst xs) := id rfl
theorem dK_ino {c : String} {ns : List Str} : (En.ino c ns xs).dK k = k (.obj c ns xs) := id rfl
def kdk (k : D → Prop) (e : En) : Prop := e.dK k
theorem ap_kdk : kdk k e = e.dK k := id rfl
theorem q_slK : slK s i k = oE s[i]? (kdk k) := by
  unfold slK oE
  cases s[i]? <;> rfl
def kVar (i : Nat) (s : List En) (Q : En → List En → Prop) (e : En) : Prop := match e with
  | .val d => Q (.val d) s
  | .own xs => Q (.val (.lst xs)) (s.set i (.val (.lst xs)))
  | .ino c ns xs => Q (.val (.obj c ns xs)) (s.set i (.val (.obj c ns xs)))
  | _ => False
theorem q_eVar : eVar i s Q X = oE s[i]? (kVar i s Q) := by
  unfold eVar oE
  cases s[i]? with
  | none => rfl
  | some e => cases e <;> rfl
theorem kVar_val : kVar i s Q (.val d) = Q (.val d) s := id rfl
theorem kVar_own : kVar i s Q (.own xs) = Q (.val (.lst xs)) (s.set i (.val (.lst xs))) := id rfl
def kMv (i : Nat) (s : List En) (Q : En → List En → Prop) (e : En) : Prop := match e with
  | .val d => Q (.val d) s
  | .own xs => Q (.own xs) (s.set i .un)
  | _ => False
theorem q_eMv : eMv i s Q X = oE s[i]? (kMv i s Q) := by
  unfold eMv oE
  cases s[i]? with
  | none => rfl
  | some e => cases e <;> rfl
theorem kMv_val : kMv i s Q (.val d) = Q (.val d) s := id rfl
theorem kMv_own : kMv i s Q (.own xs) = Q (.own xs) (s.set i .un) := id rfl
theorem q_eC : eC d s Q X = Q (.val d) s := id rfl
def kOwn (K : List D → Prop) (e : En) : Prop := match e with
  | .own xs => K xs
  | _ => False
theorem q_ownK : ownK s i kl = oE s[i]? (kOwn kl) := by
  unfold ownK oE
  cases s[i]? with
  | none => rfl
  | some e => cases e <;> rfl
theorem kOwn_own : kOwn kl (.own xs) = kl xs := id rfl
def kArg (ops : List Opd) (ds : List (Option D)) (s : List En) (kk : List En → Prop) (e : En) : Prop := argK ops ds s (kA kk e)
theorem ap_kArg : kArg ops ds s kk e = argK ops ds s (kA kk e) := id rfl
theorem q_argS : argK (.sl i :: ops) (none :: ds) s kk = oE s[i]? (kArg ops ds s kk) := by
  rw [q_arg1]
  unfold oE
  cases s[i]? <;> rfl
/-! #### what was lent -/
theorem isOwn_val : (En.val d).isOwn = false := id rfl
theorem isOwn_un : En.un.isOwn = false := id rfl
theorem isOwn_own : (En.own xs).isOwn = true := id rfl
def obO (o : Option En) : Bool := match o with
  | some e => e.isOwn
  | none => false
theorem obO_some : obO (some e) = e.isOwn := id rfl
theorem q_isOwnAt : isOwnAt s i = obO s[i]? := by
  unfold isOwnAt obO
  cases s[i]? <;> rfl
def ifL {α : Type} (b : Bool) (x y : α) : α := if b = true then x else y
theorem ifL_t {α : Type} {x y : α} : ifL true x y = x := id rfl
theorem ifL_f {α : Type} {x y : α} : ifL false x y = y := id rfl
theorem bk_0 : backs [] as s = s := by unfold backs; rfl
theorem bk_1 {a : En} : backs (.sl i :: ops) (a :: as) s = ifL (isOwnAt s i) ((backs ops as s).set i a) (backs ops as s) := by rw [backs]; rfl
theorem bk_2 {a : En} : backs (.ex m :: ops) (a :: as) s = backs ops as s := by rw [backs]
theorem os_0 : ownSl [] s = [] := by unfold ownSl; rfl
theorem os_1 : ownSl (.sl i :: ops) s = ifL (isOwnAt s i) (i :: ownSl ops s) (ownSl ops s) := by unfold ifL; rw [ownSl]
theorem os_2 : ownSl (.ex m :: ops) s = ownSl ops s := by rw [ownSl]
theorem mg_0 : merge [] s = [] := by unfold merge; rfl
theorem mg_val : merge (.val d :: as) (e :: es) = .val d :: merge as es := by rw [merge]; rfl
theorem mg_own : merge (.own xs :: as) (e :: es) = e :: merge as es := by rw [merge]; rfl
theorem mg_ino {c : String} {ns : List Str} : merge (.ino c ns xs :: as) (e :: es) = e :: merge as es := by rw [merge]; rfl
theorem lb_0 : lentB l i [] = true := by unfold lentB; rfl
theorem lb_val : lentB l i (.val d :: es) = lentB l (i + 1) es := by rw [lentB]; simp [En.isOwn]
theorem lb_own : lentB l i (.own xs :: es) = (l.contains i && lentB l (i + 1) es) := by rw [lentB]; simp [En.isOwn]
theorem lb_ino {c : String} {ns : List Str} : lentB l i (.ino c ns xs :: es) = (l.contains i && lentB l (i + 1) es) := by rw [lentB]; simp [En.isOwn]
theorem sa_0 : setAll [] ds' s = s := by unfold setAll; rfl
theorem sa_1 : setAll (i :: is) (d :: ds') s = setAll is ds' (s.set i (.val d)) := by rw [setAll]
theorem exs_0 : exs [] = [] := id rfl
theorem exs_1 : exs (m :: ms) = .ex m :: exs ms := id rfl
theorem dOps_0 : dOps [] = [] := id rfl
theorem dOps_1 : dOps (d :: xs) = .ex (eC d) :: dOps xs := id rfl
end
end Dt

set_option Elab.async false
set_option linter.all false
set_option maxRecDepth 100000
set_option maxHeartbeats 4000000
/-! DtT: sizes of numbers. -/
namespace Dt
open PySem PySem.Spec PyProof.Rows L2
/-- numbers below 2 ^ k in size -/
def Sm (k : Nat) (i : Int) : Prop := i.natAbs < 2 ^ k
theorem Sm.mul {k l : Nat} {i j : Int} (hi : Sm k i) (hj : Sm l j) (h0 : 0 < k) (h1 : 0 < l) (h : k + l ≤ 1000000) : CMul i j ∨ CMulW i j := mul_wide hi hj h0 h1 h
theorem Sm.prod {k l : Nat} {i j : Int} (hi : Sm k i) (hj : Sm l j) : Sm (k + l) (i * j) := wide_lt hi hj
theorem Sm.mono {k l : Nat} {i : Int} (hi : Sm k i) (h : k ≤ l) : Sm l i := Nat.lt_of_lt_of_le hi (Nat.pow_le_pow_right (by decide) h)
theorem Sm.abs {k : Nat} {i : Int} (hi : Sm k i) : Sm k (i.natAbs : Int) := by
  unfold Sm at *; simpa using hi
theorem Sm.le {k : Nat} {i j : Int} (hi : Sm k i) (h : j.natAbs ≤ i.natAbs) : Sm k j := Nat.lt_of_le_of_lt h hi
theorem Sm.pow {k : Nat} {i : Int} (hi : Sm k i) (n : Nat) : Sm (k * n + 1) (i ^ n) := by
  unfold Sm at *
  rw [Int.natAbs_pow]
  have : i.natAbs ^ n ≤ (2 ^ k) ^ n := Nat.pow_le_pow_left (Nat.le_of_lt hi) n
  rw [← Nat.pow_mul] at this
  exact Nat.lt_of_le_of_lt this (Nat.pow_lt_pow_right (by decide) (Nat.lt_succ_self _))
theorem log_of {k : Nat} {i : Int} (hi : Sm k i) (h0 : 0 < k) (h : k ≤ 9000) : i.natAbs.log2 < 9000 := Nat.lt_of_lt_of_le (PySem.Flt.log2_lt_of h0 hi) h
theorem sm_of {z : Int} (h0 : -(2 ^ 100) < z) (h : z < 2 ^ 100) : Sm 100 z := by
  unfold Sm; omega
theorem sm_lit {k : Nat} {z : Int} (h0 : -(2 ^ 100) < z) (h : z < 2 ^ 100) (hk : 100 ≤ k) : Sm k z := (sm_of h0 h).mono hk
theorem Sm.bd {z : Int} (h : Sm 100 z) : -(2 ^ 100) < z ∧ z < 2 ^ 100 := by
  unfold Sm at h; omega
theorem Sm.neg {k : Nat} {z : Int} (h : Sm k z) : Sm k (-z) := by
  unfold Sm at *; omega
theorem Sm.add {k : Nat} {x y : Int} (h : Sm k x) (h' : Sm k y) : Sm (k + 1) (x + y) := by
  unfold Sm at *
  rw [Nat.pow_succ]
  omega
theorem Sm.sub {k : Nat} {x y : Int} (h : Sm k x) (h' : Sm k y) : Sm (k + 1) (x - y) := by
  unfold Sm at *
  rw [Nat.pow_succ]
  omega
theorem cpow_lit {i j : Int} (h : 0 ≤ j ∧ j ≤ 1000000 ∧ i.natAbs < 2 ^ 64) : CPow i j := h
end Dt

set_option Elab.async false
set_option linter.all false
set_option maxRecDepth 100000
set_option maxHeartbeats 4000000
namespace Kd
open PySem PySem.Spec PyProof.Rows L2 Dt
/-! ### the text by places -/
def top (i : Nat) : Stmt := PySem.Challenge.pw_sheetproofs_k74_divisors_multiples_and_p.main.body.getD i (.Pass ⟨0, 0, 0, 0⟩)
abbrev s_law_gcd : Stmt := top 10
abbrev s_law_hand : Stmt := top 6
abbrev s_law_whole : Stmt := top 9
abbrev s_law_is : Stmt := top 13
abbrev s_law_mixed : Stmt := top 7
abbrev s_law_take : Stmt := top 8
abbrev s_law_number : Stmt := top 12
abbrev s_law_power : Stmt := top 11
abbrev s_common_divisor : Stmt := top 2
abbrev s_common_multiple : Stmt := top 3
abbrev s_is_whole : Stmt := top 1
abbrev s_power_of : Stmt := top 4
abbrev s_law : Stmt := top 14
/-! #### law_gcd -/
abbrev N_law_gcd : List Str := ["_law_one", "_law_other", "_law_first", "_law_second"]
abbrev P_law_gcd : List Str := ["_law_one", "_law_other"]
theorem sc_law_gcd : FnScope N_law_gcd P_law_gcd (defScope s_law_gcd) := ⟨rfl, rfl, rfl, by decide +kernel, rfl, by decide +kernel, by decide +kernel⟩
abbrev T_law_gcd : List (Str × Gi) := []
def R_law_gcd_2 : MS := sSeq (sRet (eMv 2)) (sNext)
def B_law_gcd_2 : MS := sSeq (sPar [2, 3] [eVar 3, eBi [.ex (eBi [.sl 2] bInt), .sl 3] bMod]) (sNext)
def M_law_gcd : MS := sSeq (sSet 2 (eBi [.sl 0] bAbs)) (sSeq (sSet 3 (eBi [.sl 1] bAbs)) (sSeq (sWhile (tBl (eBi [.sl 3, .ex (eC (.int 0))] bNe)) B_law_gcd_2) (R_law_gcd_2)))
theorem rd_law_gcd : trSs 100 ⟨N_law_gcd, defScope s_law_gcd, true, tabOf T_law_gcd, 0, [0, 1]⟩ (defBody s_law_gcd) = some M_law_gcd := by kernel_rfl
def F_law_gcd : ME := upE (fnF 2 2 [0, 1] M_law_gcd)
/-! #### law_hand -/
abbrev N_law_hand : List Str := ["_law_script", "_law_total", "_law_cells", "_law_cell"]
abbrev P_law_hand : List Str := ["_law_script"]
theorem sc_law_hand : FnScope N_law_hand P_law_hand (defScope s_law_hand) := ⟨rfl, rfl, rfl, by decide +kernel, rfl, by decide +kernel, by decide +kernel⟩
abbrev T_law_hand : List (Str × Gi) := []
def R_law_hand_2 : MS := sSeq (sRet (eBi (exs [eVar 2, eC (.int 0), eC (.int 0), eVar 1]) bLst)) (sNext)
def B_law_hand_2 : MS := sSeq (sSet 1 (eBi [.ex (eBi [.ex (eBi [.ex (eBi [.sl 1, .ex (eC (.int 2011))] bMul), .ex (eBi [.sl 3] bInt)] bAdd)] bInt), .ex (eC (.int 2147483563))] bMod)) (sSeq (sApp 2 (eBi [.ex (eBi [.sl 3] bInt)] bAbs)) (sNext))
def M_law_hand : MS := sSeq (sSet 1 (eBi [.ex (eBi [.sl 0] bLen), .ex (eC (.int 61))] bAdd)) (sSeq (sSet 2 (eBi (exs []) bLst)) (sSeq (sFor (.nm 3) (iEx (eVar 0)) B_law_hand_2) (R_law_hand_2)))
theorem rd_law_hand : trSs 100 ⟨N_law_hand, defScope s_law_hand, true, tabOf T_law_hand, 0, [0]⟩ (defBody s_law_hand) = some M_law_hand := by kernel_rfl
def F_law_hand : ME := upE (fnF 1 3 [0] M_law_hand)
/-! #### law_whole -/
abbrev N_law_whole : List Str := ["_law_thing"]
abbrev P_law_whole : List Str := ["_law_thing"]
theorem sc_law_whole : FnScope N_law_whole P_law_whole (defScope s_law_whole) := ⟨rfl, rfl, rfl, by decide +kernel, rfl, by decide +kernel, by decide +kernel⟩
abbrev T_law_whole : List (Str × Gi) := []
def M_law_whole : MS := sSeq (sRet (eAndV (eBi [.sl 0] (bIsi ["int"])) (eNotV (eBi [.sl 0] (bIsi ["bool"]))))) (sNext)
theorem rd_law_whole : trSs 100 ⟨N_law_whole, defScope s_law_whole, true, tabOf T_law_whole, 0, [0]⟩ (defBody s_law_whole) = some M_law_whole := by kernel_rfl
def F_law_whole : ME := upE (fnF 1 0 [0] M_law_whole)
/-! #### law_is -/
abbrev N_law_is : List Str := ["_law_thing", "_law_least", "_law_most"]
abbrev P_law_is : List Str := ["_law_thing", "_law_least", "_law_most"]
theorem sc_law_is : FnScope N_law_is P_law_is (defScope s_law_is) := ⟨rfl, rfl, rfl, by decide +kernel, rfl, by decide +kernel, by decide +kernel⟩
abbrev T_law_is : List (Str × Gi) := [("_law_whole", .fn 1 1 F_law_whole [] none)]
def R_law_is_0 : MS := sSeq (sRet (eAndV (eOrV (eBi [.sl 1, .ex (eC .non)] bIs) (eBi [.sl 0, .sl 1] bGe)) (eOrV (eBi [.sl 2, .ex (eC .non)] bIs) (eBi [.sl 0, .sl 2] bLe)))) (sNext)
def M_law_is : MS := sSeq (sIf (tNotM (tTru (eCall F_law_whole [.sl 0] []))) (sSeq (sRet (eC (.bl false))) (sNext)) (sNext)) (R_law_is_0)
theorem rd_law_is : trSs 100 ⟨N_law_is, defScope s_law_is, true, tabOf T_law_is, 1, [0, 1, 2]⟩ (defBody s_law_is) = some M_law_is := by kernel_rfl
def F_law_is : ME := upE (fnF 3 0 [0, 1, 2] M_law_is)
/-! #### law_mixed -/
abbrev N_law_mixed : List Str := ["_law_number_here", "_law_turn", "_law_once", "_law_twice"]
abbrev P_law_mixed : List Str := ["_law_number_here", "_law_turn"]
theorem sc_law_mixed : FnScope N_law_mixed P_law_mixed (defScope s_law_mixed) := ⟨rfl, rfl, rfl, by decide +kernel, rfl, by decide +kernel, by decide +kernel⟩
abbrev T_law_mixed : List (Str × Gi) := []
def M_law_mixed : MS := sSeq (sSet 2 (eBi [.ex (eBi [.ex (eBi [.ex (eBi [.ex (eBi [.sl 0, .ex (eC (.int 40692))] bMul), .ex (eBi [.sl 1, .ex (eC (.int 7177))] bMul)] bAdd), .ex (eC (.int 60013))] bAdd)] bInt), .ex (eC (.int 2147483399))] bMod)) (sSeq (sSet 3 (eBi [.ex (eBi [.ex (eBi [.ex (eBi [.ex (eBi [.sl 2, .sl 2] bMul), .ex (eBi [.sl 1, .ex (eC (.int 90523))] bMul)] bAdd), .ex (eBi [.sl 2, .ex (eC (.int 149))] bDiv)] bAdd)] bInt), .ex (eC (.int 2147483629))] bMod)) (sSeq (sRet (eBi [.ex (eBi [.ex (eBi [.ex (eBi [.ex (eBi [.ex (eBi [.sl 3, .ex (eC (.int 52774))] bMul), .ex (eBi [.sl 2, .ex (eC (.int 13))] bDiv)] bAdd)] bInt), .ex (eC (.int 2147483587))] bMod)] bInt), .ex (eC (.int 64))] bDiv)) (sNext)))
theorem rd_law_mixed : trSs 100 ⟨N_law_mixed, defScope s_law_mixed, true, tabOf T_law_mixed, 0, [0, 1]⟩ (defBody s_law_mixed) = some M_law_mixed := by kernel_rfl
def F_law_mixed : ME := upE (fnF 2 2 [0, 1] M_law_mixed)
/-! #### law_take -/
abbrev N_law_take : List Str := ["_law_hand_here", "_law_many", "_law_cell", "_law_rest"]
abbrev P_law_take : List Str := ["_law_hand_here", "_law_many"]
theorem sc_law_take : FnScope N_law_take P_law_take (defScope s_law_take) := ⟨rfl, rfl, rfl, by decide +kernel, rfl, by decide +kernel, by decide +kernel⟩
abbrev T_law_take : List (Str × Gi) := [("_law_mixed", .fn 1 2 F_law_mixed [] none)]
def R_law_take_1 : MS := sSeq (sSetIx 0 (eC (.int 3)) (eBi [.ex (eBi [.ex (eBi [.ex (eBi [.sl 0, .ex (eC (.int 3))] bIx), .ex (eC (.int 1))] bAdd)] bInt), .ex (eC (.int 2147483549))] bMod)) (sSeq (sRet (eBi [.ex (eBi [.ex (eCall F_law_mixed [.ex (eBi [.sl 0, .ex (eC (.int 3))] bIx), .ex (eBi [.sl 0, .ex (eC (.int 1))] bIx)] [])] bInt), .sl 1] bMod)) (sNext))
def R_law_take_0 : MS := sSeq (sIf (tBl (eBi [.ex (eBi [.sl 0, .ex (eC (.int 2))] bIx), .ex (eC (.int 0))] bGt)) (sSeq (sSet 3 (eBi [.sl 0, .ex (eC (.int 2))] bIx)) (sSeq (sSetIx 0 (eC (.int 2)) (eBi [.ex (eBi [.sl 3] bInt), .sl 1] bDiv)) (sSeq (sRet (eBi [.ex (eBi [.sl 3] bInt), .sl 1] bMod)) (sNext)))) (sNext)) (R_law_take_1)
def R_law_take_0t2 : MS := sSeq (sSetIx 0 (eC (.int 2)) (eVar 2)) (sNext)
def M_law_take : MS := sSeq (sIf (tAndM (tBl (eBi [.ex (eBi [.sl 0, .ex (eC (.int 2))] bIx), .ex (eC (.int 0))] bEq)) (tBl (eBi [.ex (eBi [.sl 0, .ex (eC (.int 1))] bIx), .ex (eBi [.ex (eBi [.sl 0, .ex (eC (.int 0))] bIx)] bLen)] bLt))) (sSeq (sSet 2 (eBi [.ex (eBi [.sl 0, .ex (eC (.int 0))] bIx), .ex (eBi [.sl 0, .ex (eC (.int 1))] bIx)] bIx)) (sSeq (sSetIx 0 (eC (.int 1)) (eBi [.ex (eBi [.sl 0, .ex (eC (.int 1))] bIx), .ex (eC (.int 1))] bAdd)) (sSeq (sIf (tBl (eBi [.sl 2, .ex (eBi [.ex (eC (.int 10)), .ex (eC (.int 18))] bPow)] bLt)) (sSeq (sRet (eBi [.ex (eBi [.ex (eCall F_law_mixed [.ex (eBi [.ex (eBi [.sl 2] bInt), .ex (eC (.int 2147483399))] bMod), .ex (eBi [.sl 0, .ex (eC (.int 1))] bIx)] [])] bInt), .sl 1] bMod)) (sNext)) (sNext)) (R_law_take_0t2)))) (sNext)) (R_law_take_0)
theorem rd_law_take : trSs 100 ⟨N_law_take, defScope s_law_take, true, tabOf T_law_take, 1, [0, 1]⟩ (defBody s_law_take) = some M_law_take := by kernel_rfl
def F_law_take : ME := upE (fnF 2 2 [0, 1] M_law_take)
/-! #### law_number -/
abbrev N_law_number : List Str := ["_law_hand_here", "_law_size", "_law_number_here"]
abbrev P_law_number : List Str := ["_law_hand_here"]
theorem sc_law_number : FnScope N_law_number P_law_number (defScope s_law_number) := ⟨rfl, rfl, rfl, by decide +kernel, rfl, by decide +kernel, by decide +kernel⟩
abbrev T_law_number : List (Str × Gi) := [("_law_take", .fn 2 2 F_law_take [] none)]
def R_law_number_1 : MS := sSeq (sRet (eIfV (tBl (eBi [.ex (eCall F_law_take [.sl 0, .ex (eC (.int 2))] []), .ex (eC (.int 0))] bEq)) (eBi [.ex (eC (.int 0)), .sl 2] bSub) (eVar 2))) (sNext)
def R_law_number_0 : MS := sSeq (sSet 2 (eBi [.ex (eCall F_law_take [.sl 0, .sl 1] []), .ex (eCall F_law_take [.sl 0, .ex (eC (.int 3))] [])] bAdd)) (R_law_number_1)
def M_law_number : MS := sSeq (sSet 1 (eBi [.ex (eBi (exs [eC (.int 1), eC (.int 10), eC (.int 100), eBi [.ex (eC (.int 10)), .ex (eC (.int 9))] bPow, eBi [.ex (eC (.int 10)), .ex (eC (.int 20))] bPow]) bTup), .ex (eCall F_law_take [.sl 0, .ex (eC (.int 5))] [])] bIx)) (R_law_number_0)
theorem rd_law_number : trSs 100 ⟨N_law_number, defScope s_law_number, true, tabOf T_law_number, 2, [0]⟩ (defBody s_law_number) = some M_law_number := by kernel_rfl
def F_law_number : ME := upE (fnF 1 2 [0] M_law_number)
/-! #### law_power -/
abbrev N_law_power : List Str := ["_law_base", "_law_exponent", "_law_total", "_law_k"]
abbrev P_law_power : List Str := ["_law_base", "_law_exponent"]
theorem sc_law_power : FnScope N_law_power P_law_power (defScope s_law_power) := ⟨rfl, rfl, rfl, by decide +kernel, rfl, by decide +kernel, by decide +kernel⟩
abbrev T_law_power : List (Str × Gi) := []
def R_law_power_1 : MS := sSeq (sRet (eMv 2)) (sNext)
def B_law_power_1 : MS := sSeq (sSet 2 (eBi [.sl 2, .sl 0] bMul)) (sNext)
def M_law_power : MS := sSeq (sSet 2 (eC (.int 1))) (sSeq (sFor (.nm 3) (iRg [eVar 1]) B_law_power_1) (R_law_power_1))
theorem rd_law_power : trSs 100 ⟨N_law_power, defScope s_law_power, true, tabOf T_law_power, 0, [0, 1]⟩ (defBody s_law_power) = some M_law_power := by kernel_rfl
def F_law_power : ME := upE (fnF 2 2 [0, 1] M_law_power)
/-! #### common_divisor -/
abbrev N_common_divisor : List Str := ["one", "other", "first", "second"]
abbrev P_common_divisor : List Str := ["one", "other"]
theorem sc_common_divisor : FnScope N_common_divisor P_common_divisor (defScope s_common_divisor) := ⟨rfl, rfl, rfl, by decide +kernel, rfl, by decide +kernel, by decide +kernel⟩
abbrev T_common_divisor : List (Str × Gi) := []
def R_common_divisor_1 : MS := sSeq (sRet (eMv 2)) (sNext)
def B_common_divisor_1 : MS := sSeq (sPar [2, 3] [eVar 3, eBi [.ex (eBi [.sl 2] bInt), .sl 3] bMod]) (sNext)
def M_common_divisor : MS := sSeq (sPar [2, 3] [eBi [.sl 0] bAbs, eBi [.sl 1] bAbs]) (sSeq (sWhile (tTru (eVar 3)) B_common_divisor_1) (R_common_divisor_1))
theorem rd_common_divisor : trSs 100 ⟨N_common_divisor, defScope s_common_divisor, true, tabOf T_common_divisor, 0, [0, 1]⟩ (defBody s_common_divisor) = some M_common_divisor := by kernel_rfl
def F_common_divisor : ME := upE (fnF 2 2 [0, 1] M_common_divisor)
/-! #### common_multiple -/
abbrev N_common_multiple : List Str := ["one", "other", "divisor"]
abbrev P_common_multiple : List Str := ["one", "other"]
theorem sc_common_multiple : FnScope N_common_multiple P_common_multiple (defScope s_common_multiple) := ⟨rfl, rfl, rfl, by decide +kernel, rfl, by decide +kernel, by decide +kernel⟩
abbrev T_common_multiple : List (Str × Gi) := [("common_divisor", .fn 1 2 F_common_divisor [] none)]
def R_common_multiple_1 : MS := sSeq (sRet (eBi [.ex (eBi [.ex (eBi [.sl 0] bAbs), .sl 2] bDiv), .ex (eBi [.sl 1] bAbs)] bMul)) (sNext)
def R_common_multiple_0 : MS := sSeq (sIf (tBl (eBi [.sl 2, .ex (eC (.int 0))] bEq)) (sSeq (sRet (eC (.int 0))) (sNext)) (sNext)) (R_common_multiple_1)
def M_common_multiple : MS := sSeq (sSet 2 (eCall F_common_divisor [.sl 0, .sl 1] [])) (R_common_multiple_0)
theorem rd_common_multiple : trSs 100 ⟨N_common_multiple, defScope s_common_multiple, true, tabOf T_common_multiple, 1, [0, 1]⟩ (defBody s_common_multiple) = some M_common_multiple := by kernel_rfl
def F_common_multiple : ME := upE (fnF 2 1 [0, 1] M_common_multiple)
/-! #### is_whole -/
abbrev N_is_whole : List Str := ["thing", "low", "high"]
abbrev P_is_whole : List Str := ["thing", "low", "high"]
theorem sc_is_whole : FnScope N_is_whole P_is_whole (defScope s_is_whole) := ⟨rfl, rfl, rfl, by decide +kernel, rfl, by decide +kernel, by decide +kernel⟩
abbrev T_is_whole : List (Str × Gi) := []
def R_is_whole_1 : MS := sSeq (sRet (eOrV (eBi [.sl 2, .ex (eC .non)] bIs) (eBi [.sl 0, .sl 2] bLe))) (sNext)
def R_is_whole_0 : MS := sSeq (sIf (tAndM (tBl (eBi [.sl 1, .ex (eC .non)] bIsN)) (tBl (eBi [.sl 0, .sl 1] bLt))) (sSeq (sRet (eC (.bl false))) (sNext)) (sNext)) (R_is_whole_1)
def M_is_whole : MS := sSeq (sIf (tOrM (tNotM (tTru (eBi [.sl 0] (bIsi ["int"])))) (tTru (eBi [.sl 0] (bIsi ["bool"])))) (sSeq (sRet (eC (.bl false))) (sNext)) (sNext)) (R_is_whole_0)
theorem rd_is_whole : trSs 100 ⟨N_is_whole, defScope s_is_whole, true, tabOf T_is_whole, 0, [0, 1, 2]⟩ (defBody s_is_whole) = some M_is_whole := by kernel_rfl
def F_is_whole : ME := upE (fnF 3 0 [0, 1, 2] M_is_whole)
/-! #### power_of -/
abbrev N_power_of : List Str := ["base", "exponent", "total", "factor", "left"]
abbrev P_power_of : List Str := ["base", "exponent"]
theorem sc_power_of : FnScope N_power_of P_power_of (defScope s_power_of) := ⟨rfl, rfl, rfl, by decide +kernel, rfl, by decide +kernel, by decide +kernel⟩
abbrev T_power_of : List (Str × Gi) := []
def R_power_of_3 : MS := sSeq (sRet (eMv 2)) (sNext)
def R_power_of_3b0 : MS := sSeq (sSet 3 (eBi [.sl 3, .sl 3] bMul)) (sSeq (sSet 4 (eBi [.sl 4, .ex (eC (.int 2))] bDiv)) (sNext))
def B_power_of_3 : MS := sSeq (sIf (tBl (eBi [.ex (eBi [.ex (eBi [.sl 4] bInt), .ex (eC (.int 2))] bMod), .ex (eC (.int 1))] bEq)) (sSeq (sSet 2 (eBi [.sl 2, .sl 3] bMul)) (sNext)) (sNext)) (R_power_of_3b0)
def M_power_of : MS := sSeq (sSet 2 (eC (.int 1))) (sSeq (sSet 3 (eVar 0)) (sSeq (sSet 4 (eVar 1)) (sSeq (sWhile (tBl (eBi [.sl 4, .ex (eC (.int 0))] bGt)) B_power_of_3) (R_power_of_3))))
theorem rd_power_of : trSs 100 ⟨N_power_of, defScope s_power_of, true, tabOf T_power_of, 0, [0, 1]⟩ (defBody s_power_of) = some M_power_of := by kernel_rfl
def F_power_of : ME := upE (fnF 2 3 [0, 1] M_power_of)
/-! #### law -/
abbrev N_law : List Str := ["_law_script", "_law_hand_here", "_law_factor", "_law_one", "_law_other", "_law_base", "_law_exponent", "_law_top", "_law_least", "_law_most", "_law_thing", "_law_a", "_law_b", "_law_divisor", "_law_multiple", "_law_due", "_law_told"]
abbrev P_law : List Str := ["_law_script"]
theorem sc_law : FnScope N_law P_law (defScope s_law) := ⟨rfl, rfl, rfl, by decide +kernel, rfl, by decide +kernel, by decide +kernel⟩
abbrev T_law : List (Str × Gi) := [("_law_gcd", .fn 1 2 F_law_gcd [] none), ("_law_hand", .fn 1 1 F_law_hand [] none), ("_law_is", .fn 2 3 F_law_is [] none), ("_law_number", .fn 3 1 F_law_number [] none), ("_law_power", .fn 1 2 F_law_power [] none), ("_law_take", .fn 2 2 F_law_take [] none), ("_law_whole", .fn 1 1 F_law_whole [] none), ("common_divisor", .fn 1 2 F_common_divisor [] none), ("common_multiple", .fn 2 2 F_common_multiple [] none), ("is_whole", .fn 1 3 F_is_whole [.non, .non] (some (1, "high"))), ("power_of", .fn 1 2 F_power_of [] none)]
def R_law_10 : MS := sSeq (sRet (eC (.bl true))) (sNext)
def R_law_10b2 : MS := sSeq (sIf (tBl (eBi [.ex (eNox (eCall F_is_whole ([.sl 10] ++ (dOps [.non] ++ [.sl 9])) [])), .ex (eCall F_law_is [.sl 10, .ex (eC .non), .sl 9] [])] bNe)) (sSeq (sRet (eC (.bl false))) (sNext)) (sNext)) (sNext)
def R_law_10b1 : MS := sSeq (sIf (tAndM (tBl (eBi [.ex (eCall F_is_whole [.sl 10] [.non, .non]), .ex (eC (.bl true))] bIsN)) (tTru (eCall F_law_whole [.sl 10] []))) (sSeq (sRet (eC (.bl false))) (sNext)) (sNext)) (R_law_10b2)
def R_law_10b0 : MS := sSeq (sIf (tAndM (tBl (eBi [.ex (eCall F_is_whole [.sl 10, .sl 8, .sl 9] []), .ex (eC (.bl false))] bIsN)) (tNotM (tTru (eCall F_law_is [.sl 10, .sl 8, .sl 9] [])))) (sSeq (sRet (eC (.bl false))) (sNext)) (sNext)) (R_law_10b1)
def B_law_10 : MS := sSeq (sIf (tAndM (tBl (eBi [.ex (eCall F_is_whole [.sl 10, .sl 8, .sl 9] []), .ex (eC (.bl true))] bIsN)) (tTru (eCall F_law_is [.sl 10, .sl 8, .sl 9] []))) (sSeq (sRet (eC (.bl false))) (sNext)) (sNext)) (R_law_10b0)
def R_law_9 : MS := sSeq (sFor (.nm 10) (iEx (eBi (exs [eVar 3, eVar 4, eC (.bl true), eC (.bl false), eC .non, eC (.str "1"), eBi (exs [eC (.int 1)]) bTup, eC (.int 0)]) bTup)) B_law_10) (R_law_10)
def R_law_8 : MS := sSeq (sSet 9 (eBi [.ex (eBi (exs [eC .non, eVar 3, eBi [.sl 3, .ex (eC (.int 1))] bSub, eBi [.sl 3, .ex (eC (.int 1))] bAdd, eVar 4]) bTup), .ex (eCall F_law_take [.sl 1, .ex (eC (.int 5))] [])] bIx)) (R_law_9)
def R_law_7 : MS := sSeq (sSet 8 (eBi [.ex (eBi (exs [eC .non, eVar 3, eBi [.sl 3, .ex (eC (.int 1))] bSub, eBi [.sl 3, .ex (eC (.int 1))] bAdd]) bTup), .ex (eCall F_law_take [.sl 1, .ex (eC (.int 4))] [])] bIx)) (R_law_8)
def R_law_7b0 : MS := sSeq (sIf (tOrM (tNotM (tTru (eCall F_law_whole [.sl 16] []))) (tBl (eBi [.sl 16, .ex (eCall F_law_power [.sl 5, .sl 7] [])] bNe))) (sSeq (sRet (eC (.bl false))) (sNext)) (sNext)) (sNext)
def B_law_7 : MS := sSeq (sSet 16 (eCall F_power_of [.sl 5, .sl 7] [])) (R_law_7b0)
def R_law_6 : MS := sSeq (sFor (.nm 7) (iEx (eBi (exs [eC (.int 0), eC (.int 1), eC (.int 2), eVar 6]) bTup)) B_law_7) (R_law_7)
def R_law_5 : MS := sSeq (sSet 6 (eCall F_law_take [.sl 1, .ex (eC (.int 41))] [])) (R_law_6)
def R_law_4 : MS := sSeq (sSet 5 (eCall F_law_number [.sl 1] [])) (R_law_5)
def R_law_4b3 : MS := sSeq (sIf (tBl (eBi [.sl 14, .ex (eIfV (tBl (eBi [.sl 15, .ex (eC (.int 0))] bEq)) (eC (.int 0)) (eBi [.ex (eBi [.ex (eBi [.sl 11, .sl 12] bMul)] bAbs), .sl 15] bDiv))] bNe)) (sSeq (sRet (eC (.bl false))) (sNext)) (sNext)) (sNext)
def R_law_4b2 : MS := sSeq (sIf (tOrM (tNotM (tTru (eCall F_law_whole [.sl 13] []))) (tOrM (tBl (eBi [.sl 13, .sl 15] bNe)) (tNotM (tTru (eCall F_law_whole [.sl 14] []))))) (sSeq (sRet (eC (.bl false))) (sNext)) (sNext)) (R_law_4b3)
def R_law_4b1 : MS := sSeq (sSet 15 (eCall F_law_gcd [.sl 11, .sl 12] [])) (R_law_4b2)
def R_law_4b0 : MS := sSeq (sSet 14 (eCall F_common_multiple [.sl 11, .sl 12] [])) (R_law_4b1)
def B_law_4 : MS := sSeq (sSet 13 (eCall F_common_divisor [.sl 11, .sl 12] [])) (R_law_4b0)
def R_law_3 : MS := sSeq (sFor (.tp [.nm 11, .nm 12]) (iEx (eBi (exs [eBi (exs [eVar 3, eVar 4]) bTup, eBi (exs [eVar 4, eVar 3]) bTup, eBi (exs [eVar 3, eC (.int 0)]) bTup, eBi (exs [eC (.int 0), eVar 4]) bTup, eBi (exs [eVar 3, eVar 3]) bTup, eBi (exs [eVar 3, eC (.int 1)]) bTup, eBi (exs [eC (.int 0), eC (.int 0)]) bTup, eBi (exs [eVar 3, eBi [.ex (eC (.int 0)), .sl 4] bSub]) bTup]) bTup)) B_law_4) (R_law_4)
def R_law_2 : MS := sSeq (sSet 4 (eBi [.sl 2, .ex (eCall F_law_number [.sl 1] [])] bMul)) (R_law_3)
def R_law_1 : MS := sSeq (sSet 3 (eBi [.sl 2, .ex (eCall F_law_number [.sl 1] [])] bMul)) (R_law_2)
def R_law_0 : MS := sSeq (sSet 2 (eCall F_law_number [.sl 1] [])) (R_law_1)
def M_law : MS := sSeq (sSet 1 (eCall F_law_hand [.sl 0] [])) (R_law_0)
theorem rd_law : trSs 100 ⟨N_law, defScope s_law, true, tabOf T_law, 3, [0]⟩ (defBody s_law) = some M_law := by kernel_rfl
def F_law : ME := upE (fnF 1 16 [0] M_law)
end Kd


set_option Elab.async false
set_option linter.all false
set_option maxRecDepth 100000
set_option maxHeartbeats 4000000
namespace Kd
open PySem PySem.Spec PyProof.Rows L2 Dt
local macro_rules | `(tactic| walk_at "dt") => `(tactic| simp only [sq_nx, sq_rt, sq_bk, sq_ct, sq_ex, lp_nx, lp_rt, lp_bk, lp_ct, lp_ex, pnF_nx, pnF_rt, pnF_bk, pnF_ct, pnF_ex, q_fnF, ap_kTrue, ap_kSl, ap_kEx3, ap_kEx2, ap_kEx, q_ev0, q_ev1, q_ev2, ap_kD2, ap_kD, q_dat0, q_dat1, q_dat2, ap_kRet, ap_kBi2, ap_kBi, q_eBi, ap_kA, q_arg0, q_arg2, ap_kCallQ, ap_kCallX, ap_kCall2, ap_kCall, q_eCall, ap_kNoX, q_eNox, ap_kAnd2, ap_kAnd, q_eAndV, ap_kOr2, ap_kOr, q_eOrV, ap_kNot3, ap_kNot2, ap_kNot, q_eNotV, q_eIfV, ap_kTru3, ap_kTru2, ap_kTru, q_tTru, ap_kBl, q_tBl, ap_kTN, q_tNotM, q_tAndM, q_tOrM, q_sSeq, q_sNext, q_sBreak, q_sCont, ap_kDrop, q_sDrop, q_sRet, q_sRetN, q_sIf, ap_kSet, q_sSet, ap_kPar2, ap_kPar, q_sPar, ap_kUnp2, ap_kUnp, q_sUnp, ap_kApp4, ap_kApp3, ap_kApp2, ap_kApp, q_sApp, ap_kIx5, ap_kIx4, ap_kIx3, ap_kIx2, ap_kIx, q_sSetIx, ap_kFor, q_sFor, ap_kIE3, ap_kIE2, ap_kIE, q_iEx, ap_kRg2a, ap_kRg2b, ap_kRg, q_iRg, ap_kBind, q_bind0, q_bind1, q_bind2, q_bind3, q_bind4, ap_kBody, 
  oE_some, dK_val, dK_own, dK_ino, ap_kdk, q_slK, q_eVar, kVar_val, kVar_own, q_eMv, kMv_val, kMv_own, q_eC, q_ownK, kOwn_own, ap_kArg, q_argS, isOwn_val, isOwn_un, isOwn_own, obO_some, q_isOwnAt, ifL_t, ifL_f, bk_0, bk_1, bk_2, os_0, os_1, os_2, mg_0, mg_val, mg_own, mg_ino, lb_0, lb_val, lb_own, lb_ino, sa_0, sa_1, exs_0, exs_1, dOps_0, dOps_1, oK_some, oN_some, oB_some, ap_kV, ap_kVb, ap_kIx7, q_ixs, q_ixl, q_ixt, ixN_lit, q_add, q_sub, q_mul, q_divl, q_div, q_mod, q_pow, q_neg, q_abs, q_int, q_intb, q_min2, q_max2, q_lenl, q_lent, q_lens, q_lt, q_le, q_gt, q_ge, q_eq, q_ne, q_is, q_isb, q_isN, q_isNb, isNon_non, isNon_int, isNon_bl, isNon_str, isNon_tup, isNon_lst, q_isi0, q_isi1, q_isi2, q_isi3, q_isi4, q_isi5, q_tup, q_lst, tru_non, tru_bl, tru_int, tru_tup, tru_lst, seq_lst, seq_tup, sz_0, kSIf_t, kSIf_f, kIfV_t, kIfV_f, kTA_t, kTA_f, kTO_t, kTO_f, kAnd3_t, kAnd3_f, kOr3_t, kOr3_f, kWh_t, kWh_f,
  isA_NoneType_int, isA_NoneType_bool, isA_NoneType_str, isA_NoneType_list, isA_NoneType_tuple, isA_NoneType_list_tuple, isA_bool_int, isA_bool_bool, isA_bool_str, isA_bool_list, isA_bool_tuple, isA_bool_list_tuple, isA_int_int, isA_int_bool, isA_int_str, isA_int_list, isA_int_tuple, isA_int_list_tuple, isA_str_int, isA_str_bool, isA_str_str, isA_str_list, isA_str_tuple, isA_str_list_tuple, isA_list_int, isA_list_bool, isA_list_str, isA_list_list, isA_list_tuple, isA_list_list_tuple, isA_tuple_int, isA_tuple_bool, isA_tuple_str, isA_tuple_list, isA_tuple_tuple, isA_tuple_list_tuple, shp_non, shp_bl, shp_int, eqv_int, eqv_bl, eqv_non, eqv_non_int, eqv_int_non, eqv_non_bl, eqv_bl_non, eqv_bl_int, eqv_int_bl, atI_lit, 
  List.map_cons, List.map_nil, List.length_cons, List.length_nil, List.replicate_succ, List.replicate_zero, List.cons_append, List.nil_append, List.append_nil, List.getElem?_cons_zero, List.getElem?_cons_succ, List.set_cons_zero, List.set_cons_succ, List.mem_cons, List.not_mem_nil, List.contains_cons, List.nodup_nil, true_and, and_true, forall_eq_or_imp, forall_eq, or_false, false_or, Nat.zero_add, Nat.reduceAdd, Nat.reduceLT, Nat.reduceLeDiff, Nat.reduceEqDiff, Int.reduceLT, Int.reduceLE, Int.reduceEq, Int.reduceNeg, Int.reduceToNat, Int.reducePow, Int.reduceAdd, Int.reduceMul, Int.reduceSub, decide_true, decide_false, List.length_map, beq_self_eq_true, Bool.false_eq_true, Bool.true_eq_false, eq_self, if_false, if_true, reduceIte, Bool.not_true, Bool.not_false, Bool.or_false, Bool.or_true, Bool.true_and, Bool.and_true, Bool.false_and, Bool.and_false, Bool.true_or, Bool.false_or, implies_true, false_implies, forall_const, not_true_eq_false, not_false_eq_true])
local macro_rules | `(tactic| walk_at "if") => `(tactic| first | refine kSIf_if ?_ ?_ | refine kSIf_nif ?_ ?_ | refine kSIf_bif ?_ ?_ | refine kIfV_if ?_ ?_ | refine kIfV_nif ?_ ?_ | refine kIfV_bif ?_ ?_ | refine kTA_if ?_ ?_ | refine kTA_nif ?_ ?_ | refine kTA_bif ?_ ?_ | refine kTO_if ?_ ?_ | refine kTO_nif ?_ ?_ | refine kTO_bif ?_ ?_ | refine kAnd3_if ?_ ?_ | refine kAnd3_nif ?_ ?_ | refine kAnd3_bif ?_ ?_ | refine kOr3_if ?_ ?_ | refine kOr3_nif ?_ ?_ | refine kOr3_bif ?_ ?_ | refine kWh_if ?_ ?_ | refine kWh_nif ?_ ?_ | refine kWh_bif ?_ ?_)
local macro_rules | `(tactic| walk_at "sd") => `(tactic| first | decide | exact mul_lit (by decide) (by decide) | assumption | omega | exact ⟨by omega, by omega⟩ | exact ⟨by decide, by decide, by decide⟩)
local macro_rules | `(tactic| walk_at "an") => `(tactic| repeat ((with_reducible refine And.intro ?_ ?_); focus (walk_at "sd"; done)))
local macro_rules | `(tactic| walk_at "un") => `(tactic| simp only [R_law_gcd_2,B_law_gcd_2,R_law_hand_2,B_law_hand_2,R_law_is_0,R_law_take_1,R_law_take_0,R_law_take_0t2,R_law_number_1,R_law_number_0,R_law_power_1,B_law_power_1,R_common_divisor_1,B_common_divisor_1,R_common_multiple_1,R_common_multiple_0,R_is_whole_1,R_is_whole_0,R_power_of_3,R_power_of_3b0,B_power_of_3,R_law_10,R_law_10b2,R_law_10b1,R_law_10b0,B_law_10,R_law_9,R_law_8,R_law_7,R_law_7b0,B_law_7,R_law_6,R_law_5,R_law_4,R_law_4b3,R_law_4b2,R_law_4b1,R_law_4b0,B_law_4,R_law_3,R_law_2,R_law_1,R_law_0])
local macro_rules | `(tactic| walk_at "go") => `(tactic| ((try walk_at "un"); walk_at "dt"))
theorem gcd_step (m n : Nat) : Int.gcd (n : Int) ((m : Int) % (n : Int)) = Int.gcd (m : Int) (n : Int) := by
  show Nat.gcd _ _ = Nat.gcd _ _
  have : ((m : Int) % (n : Int)).natAbs = m % n := by omega
  simp only [this, Int.natAbs_natCast]
  rw [Nat.gcd_comm m n, Nat.gcd_rec n m]
  exact Nat.gcd_comm _ _
theorem sp_common_divisor {a b : Int} {Q : En → List En → Prop} {X : QX} (h : Q (.val (.int (Int.gcd a b))) [.val (.int a), .val (.int b)]) : F_common_divisor [.val (.int a), .val (.int b)] Q X := by
  refine upE_of ?_
  unfold M_common_divisor
  walk_at "go"
  refine wh_pure (fun s => ∃ m n : Nat, s = [.val (.int a), .val (.int b), .val (.int m), .val (.int n)] ∧ Int.gcd (m : Int) (n : Int) = Int.gcd a b) (fun s => (iAt s 3).toNat) ⟨_, _, rfl, ?_⟩ ?_
  · simp [Int.gcd]
  · rintro s ⟨m, n, rfl, e⟩
    walk_at "go"
    walk_at "if"
    · intro hn
      walk_at "go"
      refine ⟨by omega, ?_⟩
      refine ⟨⟨n, m % n, by simp, by rw [← e, ← gcd_step m n]; simp⟩, ?_⟩
      show ((m : Int) % (n : Int)).toNat < ((n : Int)).toNat
      have : (m : Int) % (n : Int) < n := Int.emod_lt_of_pos _ (by omega)
      have : 0 ≤ (m : Int) % (n : Int) := Int.emod_nonneg _ hn
      omega
    · intro hn
      walk_at "go"
      rw [hn] at e
      simp at e
      rw [e]
      exact h
theorem sp_law_gcd {a b : Int} {Q : En → List En → Prop} {X : QX} (h : Q (.val (.int (Int.gcd a b))) [.val (.int a), .val (.int b)]) : F_law_gcd [.val (.int a), .val (.int b)] Q X := by
  refine upE_of ?_
  unfold M_law_gcd
  walk_at "go"
  refine wh_pure (fun s => ∃ m n : Nat, s = [.val (.int a), .val (.int b), .val (.int m), .val (.int n)] ∧ Int.gcd (m : Int) (n : Int) = Int.gcd a b) (fun s => (iAt s 3).toNat) ⟨_, _, rfl, ?_⟩ ?_
  · simp [Int.gcd]
  · rintro s ⟨m, n, rfl, e⟩
    walk_at "go"
    walk_at "if"
    · intro hn
      walk_at "go"
      refine ⟨by omega, ?_⟩
      refine ⟨⟨n, m % n, by simp, by rw [← e, ← gcd_step m n]; simp⟩, ?_⟩
      show ((m : Int) % (n : Int)).toNat < ((n : Int)).toNat
      have : (m : Int) % (n : Int) < n := Int.emod_lt_of_pos _ (by omega)
      have : 0 ≤ (m : Int) % (n : Int) := Int.emod_nonneg _ hn
      omega
    · intro hn
      walk_at "go"
      rw [hn] at e
      simp at e
      rw [e]
      exact h
theorem gcd_sm {k : Nat} {a b : Int} (ha : Sm k a) (hb : Sm k b) (h0 : 0 < k) : Sm k (Int.gcd a b : Int) := by
  unfold Sm at *
  simp only [Int.natAbs_natCast]
  by_cases h : a = 0
  · subst h; simpa using hb
  · exact Nat.lt_of_le_of_lt (Nat.le_of_dvd (by omega) (by simpa [Int.gcd] using Nat.gcd_dvd_left a.natAbs b.natAbs)) ha
theorem sp_common_multiple {a b : Int} (ha : Sm 200 a) (hb : Sm 200 b) {Q : En → List En → Prop} {X : QX} (h : Q (.val (.int (if Int.gcd a b = 0 then 0 else (a.natAbs : Int) / (Int.gcd a b : Int) * (b.natAbs : Int)))) [.val (.int a), .val (.int b)]) : F_common_multiple [.val (.int a), .val (.int b)] Q X := by
  refine upE_of ?_
  unfold M_common_multiple
  walk_at "go"
  refine sp_common_divisor ?_
  walk_at "go"
  by_cases hn : (Int.gcd a b : Int) = 0
  · rw [decide_eq_true hn]
    walk_at "go"
    have : Int.gcd a b = 0 := by omega
    rw [if_pos this] at h
    exact h
  · rw [decide_eq_false hn]
    walk_at "go"
    have : ¬ Int.gcd a b = 0 := by omega
    rw [if_neg this] at h
    refine ⟨⟨by omega, log_of (gcd_sm ha hb (by decide)) (by decide) (by decide)⟩, ?_, h⟩
    refine Sm.mul (k := 200) (l := 200) (ha.le ?_) hb.abs (by decide) (by decide) (by decide)
    have := Nat.div_le_self a.natAbs (Int.gcd a b)
    have e : ((a.natAbs : Int) / (Int.gcd a b : Int)).natAbs = a.natAbs / Int.gcd a b := by
      rw [← Int.natCast_ediv]; exact Int.natAbs_natCast _
    omega
theorem pow_split (b : Int) (e j : Nat) : b ^ (e % 2 ^ (j + 1)) = b ^ (e % 2 ^ j) * (if e / 2 ^ j % 2 = 1 then b ^ (2 ^ j) else 1) := by
  have h : e % 2 ^ (j + 1) = e % 2 ^ j + 2 ^ j * (e / 2 ^ j % 2) := by
    rw [Nat.pow_succ, Nat.mod_mul]
  rw [h, Int.pow_add]
  split
  · rename_i h1; rw [h1, Nat.mul_one]
  · rename_i h1
    have : e / 2 ^ j % 2 = 0 := by omega
    rw [this]; simp
theorem sp_power_of {b : Int} {e : Nat} (hb : Sm 70 b) (he : e ≤ 40) {Q : En → List En → Prop} {X : QX} (h : Q (.val (.int (b ^ e))) [.val (.int b), .val (.int e)]) : F_power_of [.val (.int b), .val (.int e)] Q X := by
  refine upE_of ?_
  unfold M_power_of
  walk_at "go"
  refine wh_pure (fun s => ∃ j : Nat, s = [.val (.int b), .val (.int e), .val (.int (b ^ (e % 2 ^ j))), .val (.int (b ^ (2 ^ j))), .val (.int (e / 2 ^ j : Nat))]) (fun s => (iAt s 4).toNat) ⟨0, by simp [Nat.mod_one, Int.pow_succ]⟩ ?_
  rintro s ⟨j, rfl⟩
  walk_at "go"
  by_cases hp : (0 : Int) < ((e / 2 ^ j : Nat) : Int)
  · rw [decide_eq_true hp]
    walk_at "go"
    have hj : 2 ^ j ≤ 40 := by
      have : 0 < e / 2 ^ j := by omega
      have := (Nat.div_pos_iff.mp this).2
      omega
    have hm : e % 2 ^ j ≤ 40 := Nat.le_trans (Nat.mod_le _ _) he
    have s1 : Sm 2801 (b ^ (2 ^ j)) := (hb.pow _).mono (by omega)
    have s2 : Sm 2801 (b ^ (e % 2 ^ j)) := (hb.pow _).mono (by omega)
    have e2 : (((e / 2 ^ j : Nat) : Int) % 2 = 1) ↔ e / 2 ^ j % 2 = 1 := by omega
    have e4 : ((e / 2 ^ j : Nat) : Int) / 2 = ((e / 2 ^ (j + 1) : Nat) : Int) := by
      rw [Nat.pow_succ, ← Nat.div_div_eq_div_mul]; omega
    have e5 : b ^ (2 ^ j) * b ^ (2 ^ j) = b ^ (2 ^ (j + 1)) := by
      rw [← Int.pow_add, Nat.pow_succ]; congr 1; omega
    have e6 := pow_split b e j
    have lt : (((e / 2 ^ (j + 1) : Nat) : Int)).toNat < (((e / 2 ^ j : Nat) : Int)).toNat := by
      rw [← e4]; omega
    by_cases h1 : e / 2 ^ j % 2 = 1
    · rw [decide_eq_true (e2.mpr h1)]
      walk_at "go"
      rw [if_pos h1] at e6
      refine ⟨s2.mul s1 (by decide) (by decide) (by decide), s1.mul s1 (by decide) (by decide) (by decide), by decide, ⟨j + 1, ?_⟩, ?_⟩
      · rw [← e6, e5, e4]
      · show (((e / 2 ^ j : Nat) : Int) / 2).toNat < (((e / 2 ^ j : Nat) : Int)).toNat
        rw [e4]; exact lt
    · rw [decide_eq_false (fun z => h1 (e2.mp z))]
      walk_at "go"
      rw [if_neg h1, Int.mul_one] at e6
      refine ⟨s1.mul s1 (by decide) (by decide) (by decide), by decide, ⟨j + 1, ?_⟩, ?_⟩
      · rw [← e6, e5, e4]
      · show (((e / 2 ^ j : Nat) : Int) / 2).toNat < (((e / 2 ^ j : Nat) : Int)).toNat
        rw [e4]; exact lt
  · rw [decide_eq_false hp]
    walk_at "go"
    have h0 : e / 2 ^ j = 0 := by
      clear h
      generalize e / 2 ^ j = q at hp ⊢
      omega
    have : e % 2 ^ j = e := Nat.mod_eq_of_lt (by
      rcases Nat.div_eq_zero_iff.mp h0 with h | h
      · exact absurd h (Nat.ne_of_gt (Nat.pow_pos (by decide)))
      · exact h)
    rw [this]
    exact h
theorem sp_law_power {b : Int} {e : Nat} (hb : Sm 70 b) (he : e ≤ 40) {Q : En → List En → Prop} {X : QX} (h : Q (.val (.int (b ^ e))) [.val (.int b), .val (.int e)]) : F_law_power [.val (.int b), .val (.int e)] Q X := by
  refine upE_of ?_
  unfold M_law_power
  walk_at "go"
  refine ⟨⟨by omega, by omega⟩, ?_⟩
  refine fr_pure (fun ds s => ∃ i : Nat, i + ds.length = e ∧ ∃ z, s = [.val (.int b), .val (.int e), .val (.int (b ^ i)), z]) ⟨0, by simp [rngs], .un, by simp⟩ ?_ ?_
  · rintro d ds s ⟨i, hi, z, rfl⟩
    simp only [List.length_cons] at hi
    walk_at "go"
    refine ⟨((hb.pow i).mono (l := 2801) (by omega)).mul hb (by decide) (by decide) (by decide), i + 1, by omega, _, by rw [← Int.pow_succ]⟩
  · rintro s ⟨i, hi, z, rfl⟩
    walk_at "go"
    have : i = e := by simpa using hi
    rw [this]; exact h

end Kd

set_option Elab.async false
set_option linter.all false
set_option maxRecDepth 100000
set_option maxHeartbeats 4000000
namespace Kd
open PySem PySem.Spec PyProof.Rows L2 Dt
local macro_rules | `(tactic| walk_at "dt") => `(tactic| simp only [sq_nx, sq_rt, sq_bk, sq_ct, sq_ex, lp_nx, lp_rt, lp_bk, lp_ct, lp_ex, pnF_nx, pnF_rt, pnF_bk, pnF_ct, pnF_ex, q_fnF, ap_kTrue, ap_kSl, ap_kEx3, ap_kEx2, ap_kEx, q_ev0, q_ev1, q_ev2, ap_kD2, ap_kD, q_dat0, q_dat1, q_dat2, ap_kRet, ap_kBi2, ap_kBi, q_eBi, ap_kA, q_arg0, q_arg2, ap_kCallQ, ap_kCallX, ap_kCall2, ap_kCall, q_eCall, ap_kNoX, q_eNox, ap_kAnd2, ap_kAnd, q_eAndV, ap_kOr2, ap_kOr, q_eOrV, ap_kNot3, ap_kNot2, ap_kNot, q_eNotV, q_eIfV, ap_kTru3, ap_kTru2, ap_kTru, q_tTru, ap_kBl, q_tBl, ap_kTN, q_tNotM, q_tAndM, q_tOrM, q_sSeq, q_sNext, q_sBreak, q_sCont, ap_kDrop, q_sDrop, q_sRet, q_sRetN, q_sIf, ap_kSet, q_sSet, ap_kPar2, ap_kPar, q_sPar, ap_kUnp2, ap_kUnp, q_sUnp, ap_kApp4, ap_kApp3, ap_kApp2, ap_kApp, q_sApp, ap_kIx5, ap_kIx4, ap_kIx3, ap_kIx2, ap_kIx, q_sSetIx, ap_kFor, q_sFor, ap_kIE3, ap_kIE2, ap_kIE, q_iEx, ap_kRg2a, ap_kRg2b, ap_kRg, q_iRg, ap_kBind, q_bind0, q_bind1, q_bind2, q_bind3, q_bind4, ap_kBody, 
  oE_some, dK_val, dK_own, dK_ino, ap_kdk, q_slK, q_eVar, kVar_val, kVar_own, q_eMv, kMv_val, kMv_own, q_eC, q_ownK, kOwn_own, ap_kArg, q_argS, isOwn_val, isOwn_un, isOwn_own, obO_some, q_isOwnAt, ifL_t, ifL_f, bk_0, bk_1, bk_2, os_0, os_1, os_2, mg_0, mg_val, mg_own, mg_ino, lb_0, lb_val, lb_own, lb_ino, sa_0, sa_1, exs_0, exs_1, dOps_0, dOps_1, oK_some, oN_some, oB_some, ap_kV, ap_kVb, ap_kIx7, q_ixs, q_ixl, q_ixt, ixN_lit, q_add, q_sub, q_mul, q_divl, q_div, q_mod, q_pow, q_neg, q_abs, q_int, q_intb, q_min2, q_max2, q_lenl, q_lent, q_lens, q_lt, q_le, q_gt, q_ge, q_eq, q_ne, q_is, q_isb, q_isN, q_isNb, isNon_non, isNon_int, isNon_bl, isNon_str, isNon_tup, isNon_lst, q_isi0, q_isi1, q_isi2, q_isi3, q_isi4, q_isi5, q_tup, q_lst, tru_non, tru_bl, tru_int, tru_tup, tru_lst, seq_lst, seq_tup, sz_0, kSIf_t, kSIf_f, kIfV_t, kIfV_f, kTA_t, kTA_f, kTO_t, kTO_f, kAnd3_t, kAnd3_f, kOr3_t, kOr3_f, kWh_t, kWh_f,
  isA_NoneType_int, isA_NoneType_bool, isA_NoneType_str, isA_NoneType_list, isA_NoneType_tuple, isA_NoneType_list_tuple, isA_bool_int, isA_bool_bool, isA_bool_str, isA_bool_list, isA_bool_tuple, isA_bool_list_tuple, isA_int_int, isA_int_bool, isA_int_str, isA_int_list, isA_int_tuple, isA_int_list_tuple, isA_str_int, isA_str_bool, isA_str_str, isA_str_list, isA_str_tuple, isA_str_list_tuple, isA_list_int, isA_list_bool, isA_list_str, isA_list_list, isA_list_tuple, isA_list_list_tuple, isA_tuple_int, isA_tuple_bool, isA_tuple_str, isA_tuple_list, isA_tuple_tuple, isA_tuple_list_tuple, shp_non, shp_bl, shp_int, eqv_int, eqv_bl, eqv_non, eqv_non_int, eqv_int_non, eqv_non_bl, eqv_bl_non, eqv_bl_int, eqv_int_bl, atI_lit, 
  List.map_cons, List.map_nil, List.length_cons, List.length_nil, List.replicate_succ, List.replicate_zero, List.cons_append, List.nil_append, List.append_nil, List.getElem?_cons_zero, List.getElem?_cons_succ, List.set_cons_zero, List.set_cons_succ, List.mem_cons, List.not_mem_nil, List.contains_cons, List.nodup_nil, true_and, and_true, forall_eq_or_imp, forall_eq, or_false, false_or, Nat.zero_add, Nat.reduceAdd, Nat.reduceLT, Nat.reduceLeDiff, Nat.reduceEqDiff, Int.reduceLT, Int.reduceLE, Int.reduceEq, Int.reduceNeg, Int.reduceToNat, Int.reducePow, Int.reduceAdd, Int.reduceMul, Int.reduceSub, decide_true, decide_false, List.length_map, beq_self_eq_true, Bool.false_eq_true, Bool.true_eq_false, eq_self, if_false, if_true, reduceIte, Bool.not_true, Bool.not_false, Bool.or_false, Bool.or_true, Bool.true_and, Bool.and_true, Bool.false_and, Bool.and_false, Bool.true_or, Bool.false_or, implies_true, false_implies, forall_const, not_true_eq_false, not_false_eq_true])
local macro_rules | `(tactic| walk_at "if") => `(tactic| first | refine kSIf_if ?_ ?_ | refine kSIf_nif ?_ ?_ | refine kSIf_bif ?_ ?_ | refine kIfV_if ?_ ?_ | refine kIfV_nif ?_ ?_ | refine kIfV_bif ?_ ?_ | refine kTA_if ?_ ?_ | refine kTA_nif ?_ ?_ | refine kTA_bif ?_ ?_ | refine kTO_if ?_ ?_ | refine kTO_nif ?_ ?_ | refine kTO_bif ?_ ?_ | refine kAnd3_if ?_ ?_ | refine kAnd3_nif ?_ ?_ | refine kAnd3_bif ?_ ?_ | refine kOr3_if ?_ ?_ | refine kOr3_nif ?_ ?_ | refine kOr3_bif ?_ ?_ | refine kWh_if ?_ ?_ | refine kWh_nif ?_ ?_ | refine kWh_bif ?_ ?_)
local macro_rules | `(tactic| walk_at "sd") => `(tactic| first | decide | exact mul_lit (by decide) (by decide) | assumption | omega | exact ⟨by omega, by omega⟩ | exact ⟨by decide, by decide, by decide⟩)
local macro_rules | `(tactic| walk_at "an") => `(tactic| repeat ((with_reducible refine And.intro ?_ ?_); focus (walk_at "sd"; done)))
local macro_rules | `(tactic| walk_at "un") => `(tactic| simp only [R_law_gcd_2,B_law_gcd_2,R_law_hand_2,B_law_hand_2,R_law_is_0,R_law_take_1,R_law_take_0,R_law_take_0t2,R_law_number_1,R_law_number_0,R_law_power_1,B_law_power_1,R_common_divisor_1,B_common_divisor_1,R_common_multiple_1,R_common_multiple_0,R_is_whole_1,R_is_whole_0,R_power_of_3,R_power_of_3b0,B_power_of_3,R_law_10,R_law_10b2,R_law_10b1,R_law_10b0,B_law_10,R_law_9,R_law_8,R_law_7,R_law_7b0,B_law_7,R_law_6,R_law_5,R_law_4,R_law_4b3,R_law_4b2,R_law_4b1,R_law_4b0,B_law_4,R_law_3,R_law_2,R_law_1,R_law_0])
local macro_rules | `(tactic| walk_at "go") => `(tactic| ((try walk_at "un"); walk_at "dt"))
/-! ### the hand -/
def Hd (xs : List D) : Prop := ∃ (ns : List Int) (p g t : Int), xs = [.lst (ns.map .int), .int p, .int g, .int t] ∧ (∀ n ∈ ns, 0 ≤ n) ∧ 0 ≤ p ∧ 0 ≤ g ∧ 0 ≤ t ∧ t < 2147483563
theorem sp_law_mixed {a b : Int} {Q : En → List En → Prop} {X : QX} (h : ∀ r : Int, Q (.val (.int r)) [.val (.int a), .val (.int b)]) : F_law_mixed [.val (.int a), .val (.int b)] Q X := by
  refine upE_of ?_
  unfold M_law_mixed
  walk_at "go"
  generalize hc : (a * 40692 + b * 7177 + 60013) % 2147483399 = c
  have c0 : 0 ≤ c := by rw [← hc]; exact Int.emod_nonneg _ (by decide)
  have c1 : c < 2147483399 := by rw [← hc]; exact Int.emod_lt_of_pos _ (by decide)
  have c2 : CMul c c ∨ CMulW c c := mul_lit (by omega) (by omega)
  generalize hd : (c * c + b * 90523 + c / 149) % 2147483629 = d
  walk_at "an"
  exact h _
theorem sp_law_hand {ns : List Int} {Q : En → List En → Prop} {X : QX} (hl : ns.length ≤ 63) (h : ∀ xs, Hd xs → Q (.own xs) [.val (.lst (ns.map .int))]) : F_law_hand [.val (.lst (ns.map .int))] Q X := by
  refine upE_of ?_
  unfold M_law_hand
  walk_at "go"
  refine fr_pure (fun ds s => ∃ (is js : List Int) (t : Int) (z : En), is.length = js.length ∧ ds = js.map .int ∧ ∃ ms : List Int, ms.length + js.length = ns.length ∧ (∀ n ∈ ms, 0 ≤ n) ∧ 0 ≤ t ∧ (t < 2147483563) ∧ s = [.val (.lst (ns.map .int)), .val (.int t), .own (ms.map .int), z]) ⟨ns, ns, _, _, rfl, rfl, [], by simp, by simp, by omega, by omega, rfl⟩ ?_ ?_
  · rintro d ds s ⟨is, js, t, z, h0, h1, ms, h2, h3, h4, h5, rfl⟩
    obtain ⟨j, js, rfl⟩ : ∃ j js', js = j :: js' := by
      cases js with
      | nil => simp at h1
      | cons j js => exact ⟨j, js, rfl⟩
    simp at h1
    obtain ⟨rfl, rfl⟩ := h1
    walk_at "go"
    walk_at "an"
    have : sizeLine = 16777216 := rfl
    simp only [List.length_cons] at h2
    refine ⟨by omega, js, js, _, _, rfl, rfl, ms ++ [(j.natAbs : Int)], ?_, ?_, ?_, ?_, by rw [List.map_append]; rfl⟩
    · simp; omega
    · intro n hn
      rcases List.mem_append.mp hn with hn | hn
      · exact h3 n hn
      · simp at hn; omega
    · exact Int.emod_nonneg _ (by decide)
    · exact Int.emod_lt_of_pos _ (by decide)
  · rintro s ⟨is, js, t, z, h0, h1, ms, h2, h3, h4, h5, rfl⟩
    walk_at "go"
    walk_at "an"
    exact h _ ⟨ms, 0, 0, t, rfl, h3, by omega, by omega, h4, h5⟩
theorem sp_law_take {xs : List D} {n : Int} (hx : Hd xs) (hn : 1 ≤ n) (hn' : Sm 9000 n) {Q : En → List En → Prop} {X : QX} (h : ∀ ys r, Hd ys → 0 ≤ r → r < n → Q (.val (.int r)) [.own ys, .val (.int n)]) : F_law_take [.own xs, .val (.int n)] Q X := by
  obtain ⟨ns, p, g, t, rfl, h1, h2, h3, h4, h5⟩ := hx
  have m0 : ∀ i, 0 ≤ i % n := fun i => Int.emod_nonneg _ (by omega)
  have m1 : ∀ i, i % n < n := fun i => Int.emod_lt_of_pos _ (by omega)
  have tail : ∀ (g p p0 g0 : Int) (z1 z2 : En) (Q1 : En → List En → Prop), (∀ ys r, Hd ys → 0 ≤ r → r < n → Q1 (.val (.int r)) [.own ys, .val (.int n)]) → 0 ≤ g → 0 ≤ p → R_law_take_0 [.own [.lst (ns.map .int), .int p, .int g, .int t], .val (.int n), z1, z2] (pnF [.own [.lst (ns.map .int), .int p0, .int g0, .int t], .val (.int n)] Q1 X) := by
    intro g p p0 g0 z1 z2 Q1 h h3 h2
    walk_at "go"
    walk_at "if"
    · intro hg
      walk_at "go"
      refine ⟨⟨by omega, log_of hn' (by decide) (by decide)⟩, by omega, h _ _ ⟨ns, p, _, t, rfl, h1, h2, Int.ediv_nonneg h3 (by omega), h4, h5⟩ (m0 _) (m1 _)⟩
    · intro hg
      walk_at "go"
      walk_at "an"
      refine sp_law_mixed ?_
      walk_at "go"
      refine fun r => ⟨by omega, h _ _ ⟨ns, p, g, _, rfl, h1, h2, h3, Int.emod_nonneg _ (by decide), ?_⟩ (m0 _) (m1 _)⟩
      exact Int.lt_trans (Int.emod_lt_of_pos _ (by decide)) (by decide)
  refine upE_of ?_
  unfold M_law_take
  walk_at "dt"
  walk_at "if"
  · intro hg
    walk_at "dt"
    walk_at "if"
    · intro hp
      walk_at "dt"
      obtain ⟨y, e1, e2⟩ := atI_lt (xs := ns.map D.int) h2 (by simpa using hp)
      obtain ⟨y, e3, rfl⟩ := List.mem_map.mp e2
      rw [e1]
      walk_at "dt"
      walk_at "an"
      have y0 := h1 y e3
      walk_at "if"
      · intro hy
        walk_at "go"
        walk_at "an"
        refine sp_law_mixed ?_
        walk_at "go"
        exact fun r => ⟨by omega, h _ _ ⟨ns, _, g, t, rfl, h1, by omega, h3, h4, h5⟩ (m0 _) (m1 _)⟩
      · intro hy
        walk_at "dt"
        unfold R_law_take_0t2
        walk_at "dt"
        exact tail _ _ _ _ _ _ _ h y0 (by omega)
    · intro hp
      walk_at "dt"
      exact tail _ _ _ _ _ _ _ h h3 h2
  · intro hg
    walk_at "dt"
    exact tail _ _ _ _ _ _ _ h h3 h2
end Kd

set_option Elab.async false
set_option linter.all false
set_option maxRecDepth 100000
set_option maxHeartbeats 4000000
namespace Kd
open PySem PySem.Spec PyProof.Rows L2 Dt
local macro_rules | `(tactic| walk_at "dt") => `(tactic| simp only [sq_nx, sq_rt, sq_bk, sq_ct, sq_ex, lp_nx, lp_rt, lp_bk, lp_ct, lp_ex, pnF_nx, pnF_rt, pnF_bk, pnF_ct, pnF_ex, q_fnF, ap_kTrue, ap_kSl, ap_kEx3, ap_kEx2, ap_kEx, q_ev0, q_ev1, q_ev2, ap_kD2, ap_kD, q_dat0, q_dat1, q_dat2, ap_kRet, ap_kBi2, ap_kBi, q_eBi, ap_kA, q_arg0, q_arg2, ap_kCallQ, ap_kCallX, ap_kCall2, ap_kCall, q_eCall, ap_kNoX, q_eNox, ap_kAnd2, ap_kAnd, q_eAndV, ap_kOr2, ap_kOr, q_eOrV, ap_kNot3, ap_kNot2, ap_kNot, q_eNotV, q_eIfV, ap_kTru3, ap_kTru2, ap_kTru, q_tTru, ap_kBl, q_tBl, ap_kTN, q_tNotM, q_tAndM, q_tOrM, q_sSeq, q_sNext, q_sBreak, q_sCont, ap_kDrop, q_sDrop, q_sRet, q_sRetN, q_sIf, ap_kSet, q_sSet, ap_kPar2, ap_kPar, q_sPar, ap_kUnp2, ap_kUnp, q_sUnp, ap_kApp4, ap_kApp3, ap_kApp2, ap_kApp, q_sApp, ap_kIx5, ap_kIx4, ap_kIx3, ap_kIx2, ap_kIx, q_sSetIx, ap_kFor, q_sFor, ap_kIE3, ap_kIE2, ap_kIE, q_iEx, ap_kRg2a, ap_kRg2b, ap_kRg, q_iRg, ap_kBind, q_bind0, q_bind1, q_bind2, q_bind3, q_bind4, ap_kBody, 
  oE_some, dK_val, dK_own, dK_ino, ap_kdk, q_slK, q_eVar, kVar_val, kVar_own, q_eMv, kMv_val, kMv_own, q_eC, q_ownK, kOwn_own, ap_kArg, q_argS, isOwn_val, isOwn_un, isOwn_own, obO_some, q_isOwnAt, ifL_t, ifL_f, bk_0, bk_1, bk_2, os_0, os_1, os_2, mg_0, mg_val, mg_own, mg_ino, lb_0, lb_val, lb_own, lb_ino, sa_0, sa_1, exs_0, exs_1, dOps_0, dOps_1, oK_some, oN_some, oB_some, ap_kV, ap_kVb, ap_kIx7, q_ixs, q_ixl, q_ixt, ixN_lit, q_add, q_sub, q_mul, q_divl, q_div, q_mod, q_pow, q_neg, q_abs, q_int, q_intb, q_min2, q_max2, q_lenl, q_lent, q_lens, q_lt, q_le, q_gt, q_ge, q_eq, q_ne, q_is, q_isb, q_isN, q_isNb, isNon_non, isNon_int, isNon_bl, isNon_str, isNon_tup, isNon_lst, q_isi0, q_isi1, q_isi2, q_isi3, q_isi4, q_isi5, q_tup, q_lst, tru_non, tru_bl, tru_int, tru_tup, tru_lst, seq_lst, seq_tup, sz_0, kSIf_t, kSIf_f, kIfV_t, kIfV_f, kTA_t, kTA_f, kTO_t, kTO_f, kAnd3_t, kAnd3_f, kOr3_t, kOr3_f, kWh_t, kWh_f,
  isA_NoneType_int, isA_NoneType_bool, isA_NoneType_str, isA_NoneType_list, isA_NoneType_tuple, isA_NoneType_list_tuple, isA_bool_int, isA_bool_bool, isA_bool_str, isA_bool_list, isA_bool_tuple, isA_bool_list_tuple, isA_int_int, isA_int_bool, isA_int_str, isA_int_list, isA_int_tuple, isA_int_list_tuple, isA_str_int, isA_str_bool, isA_str_str, isA_str_list, isA_str_tuple, isA_str_list_tuple, isA_list_int, isA_list_bool, isA_list_str, isA_list_list, isA_list_tuple, isA_list_list_tuple, isA_tuple_int, isA_tuple_bool, isA_tuple_str, isA_tuple_list, isA_tuple_tuple, isA_tuple_list_tuple, shp_non, shp_bl, shp_int, eqv_int, eqv_bl, eqv_non, eqv_non_int, eqv_int_non, eqv_non_bl, eqv_bl_non, eqv_bl_int, eqv_int_bl, atI_lit, 
  List.map_cons, List.map_nil, List.length_cons, List.length_nil, List.replicate_succ, List.replicate_zero, List.cons_append, List.nil_append, List.append_nil, List.getElem?_cons_zero, List.getElem?_cons_succ, List.set_cons_zero, List.set_cons_succ, List.mem_cons, List.not_mem_nil, List.contains_cons, List.nodup_nil, true_and, and_true, forall_eq_or_imp, forall_eq, or_false, false_or, Nat.zero_add, Nat.reduceAdd, Nat.reduceLT, Nat.reduceLeDiff, Nat.reduceEqDiff, Int.reduceLT, Int.reduceLE, Int.reduceEq, Int.reduceNeg, Int.reduceToNat, Int.reducePow, Int.reduceAdd, Int.reduceMul, Int.reduceSub, decide_true, decide_false, List.length_map, beq_self_eq_true, Bool.false_eq_true, Bool.true_eq_false, eq_self, if_false, if_true, reduceIte, Bool.not_true, Bool.not_false, Bool.or_false, Bool.or_true, Bool.true_and, Bool.and_true, Bool.false_and, Bool.and_false, Bool.true_or, Bool.false_or, implies_true, false_implies, forall_const, not_true_eq_false, not_false_eq_true])
local macro_rules | `(tactic| walk_at "if") => `(tactic| first | refine kSIf_if ?_ ?_ | refine kSIf_nif ?_ ?_ | refine kSIf_bif ?_ ?_ | refine kIfV_if ?_ ?_ | refine kIfV_nif ?_ ?_ | refine kIfV_bif ?_ ?_ | refine kTA_if ?_ ?_ | refine kTA_nif ?_ ?_ | refine kTA_bif ?_ ?_ | refine kTO_if ?_ ?_ | refine kTO_nif ?_ ?_ | refine kTO_bif ?_ ?_ | refine kAnd3_if ?_ ?_ | refine kAnd3_nif ?_ ?_ | refine kAnd3_bif ?_ ?_ | refine kOr3_if ?_ ?_ | refine kOr3_nif ?_ ?_ | refine kOr3_bif ?_ ?_ | refine kWh_if ?_ ?_ | refine kWh_nif ?_ ?_ | refine kWh_bif ?_ ?_)
local macro_rules | `(tactic| walk_at "sd") => `(tactic| first | decide | exact mul_lit (by decide) (by decide) | assumption | omega | exact ⟨by omega, by omega⟩ | exact ⟨by decide, by decide, by decide⟩)
local macro_rules | `(tactic| walk_at "an") => `(tactic| repeat ((with_reducible refine And.intro ?_ ?_); focus (walk_at "sd"; done)))
local macro_rules | `(tactic| walk_at "un") => `(tactic| simp only [R_law_gcd_2,B_law_gcd_2,R_law_hand_2,B_law_hand_2,R_law_is_0,R_law_take_1,R_law_take_0,R_law_take_0t2,R_law_number_1,R_law_number_0,R_law_power_1,B_law_power_1,R_common_divisor_1,B_common_divisor_1,R_common_multiple_1,R_common_multiple_0,R_is_whole_1,R_is_whole_0,R_power_of_3,R_power_of_3b0,B_power_of_3,R_law_10,R_law_10b2,R_law_10b1,R_law_10b0,B_law_10,R_law_9,R_law_8,R_law_7,R_law_7b0,B_law_7,R_law_6,R_law_5,R_law_4,R_law_4b3,R_law_4b2,R_law_4b1,R_law_4b0,B_law_4,R_law_3,R_law_2,R_law_1,R_law_0])
local macro_rules | `(tactic| walk_at "go") => `(tactic| ((try walk_at "un"); walk_at "dt"))
/-- the law's word for a whole number -/
def whB (d : D) : Bool := match d with
  | .int _ => true
  | _ => false
def isB (d lo hi : D) : Bool := match d with
  | .int i => (match lo with | .int l => decide (l ≤ i) | _ => true) && (match hi with | .int l => decide (i ≤ l) | _ => true)
  | _ => false
def Bd (d : D) : Prop := d = .non ∨ ∃ i, d = .int i
def Th (d : D) : Prop := (∃ i, d = .int i) ∨ (∃ b, d = .bl b) ∨ d = .non ∨ (∃ x, d = .str x) ∨ ∃ xs, d = .tup xs
theorem sp_law_whole {d : D} (h0 : Th d) {Q : En → List En → Prop} {X : QX} (h : Q (.val (.bl (whB d))) [.val d]) : F_law_whole [.val d] Q X := by
  refine upE_of ?_
  unfold M_law_whole
  rcases h0 with ⟨i, rfl⟩ | ⟨b, rfl⟩ | rfl | ⟨x, rfl⟩ | ⟨xs, rfl⟩ <;> walk_at "go" <;> exact h
theorem sp_is_whole {d lo hi : D} (h0 : Th d) (hl : Bd lo) (hh : Bd hi) {Q : En → List En → Prop} {X : QX} (h : Q (.val (.bl (isB d lo hi))) [.val d, .val lo, .val hi]) : F_is_whole [.val d, .val lo, .val hi] Q X := by
  refine upE_of ?_
  unfold M_is_whole
  rcases h0 with ⟨i, rfl⟩ | ⟨b, rfl⟩ | rfl | ⟨x, rfl⟩ | ⟨xs, rfl⟩
  · rcases hl with rfl | ⟨l, rfl⟩
    · walk_at "go"
      rcases hh with rfl | ⟨u, rfl⟩
      · walk_at "go"
        exact h
      · walk_at "go"
        exact h
    · walk_at "go"
      walk_at "if"
      · intro hc
        walk_at "go"
        have : isB (.int i) (.int l) hi = false := by simp [isB]; omega
        rw [← this]; exact h
      · intro hc
        have : ∀ r, isB (.int i) (.int l) r = isB (.int i) .non r := fun r => by simp [isB]; intro _; omega
        rw [this] at h
        rcases hh with rfl | ⟨u, rfl⟩
        · walk_at "go"
          exact h
        · walk_at "go"
          exact h
  all_goals walk_at "go"; exact h
theorem sp_law_is {d lo hi : D} (h0 : Th d) (hl : Bd lo) (hh : Bd hi) {Q : En → List En → Prop} {X : QX} (h : Q (.val (.bl (isB d lo hi))) [.val d, .val lo, .val hi]) : F_law_is [.val d, .val lo, .val hi] Q X := by
  refine upE_of ?_
  unfold M_law_is
  walk_at "go"
  refine sp_law_whole h0 ?_
  rcases h0 with ⟨i, rfl⟩ | ⟨b, rfl⟩ | rfl | ⟨x, rfl⟩ | ⟨xs, rfl⟩
  · unfold whB
    rcases hl with rfl | ⟨l, rfl⟩
    · walk_at "go"
      rcases hh with rfl | ⟨u, rfl⟩
      · walk_at "go"
        exact h
      · walk_at "go"
        exact h
    · walk_at "go"
      walk_at "if"
      · intro hc
        have : ∀ r, isB (.int i) (.int l) r = isB (.int i) .non r := fun r => by simp [isB]; intro _; omega
        rw [this] at h
        rcases hh with rfl | ⟨u, rfl⟩
        · walk_at "go"
          exact h
        · walk_at "go"
          exact h
      · intro hc
        walk_at "go"
        have : isB (.int i) (.int l) hi = false := by simp [isB]; omega
        rw [this] at h
        rw [decide_eq_false hc]
        exact h
  all_goals unfold whB; walk_at "go"; exact h
theorem sp_law_number {xs : List D} (hx : Hd xs) {Q : En → List En → Prop} {X : QX} (h : ∀ ys (r : Int), Hd ys → r.natAbs ≤ 10 ^ 20 + 2 → Q (.val (.int r)) [.own ys]) : F_law_number [.own xs] Q X := by
  refine upE_of ?_
  unfold M_law_number
  walk_at "dt"
  walk_at "an"
  refine sp_law_take hx (by decide) (sm_lit (by decide) (by decide) (by decide)) fun ys r hy h0 h1 => ?_
  have key : ∀ (z : Int), 1 ≤ z → z ≤ 10 ^ 20 → ∀ (Q1 : En → List En → Prop), (∀ ys (r : Int), Hd ys → r.natAbs ≤ 10 ^ 20 + 2 → Q1 (.val (.int r)) [.own ys]) → R_law_number_0 [.own ys, .val (.int z), .un] (pnF [.own xs] Q1 X) := by
    intro z z1 z2 Q1 h
    unfold R_law_number_0
    walk_at "dt"
    walk_at "an"
    refine sp_law_take hy z1 (sm_lit (by omega) (by omega) (by decide)) fun ys1 r1 hy1 h0 h1 => ?_
    walk_at "dt"
    walk_at "an"
    refine sp_law_take hy1 (by decide) (sm_lit (by decide) (by decide) (by decide)) fun ys2 r2 hy2 h2 h3 => ?_
    walk_at "go"
    walk_at "an"
    refine sp_law_take hy2 (by decide) (sm_lit (by decide) (by decide) (by decide)) fun ys3 r3 hy3 h4 h5 => ?_
    walk_at "go"
    walk_at "if"
    · intro hc
      walk_at "go"
      exact h _ _ hy3 (by omega)
    · intro hc
      walk_at "go"
      exact h _ _ hy3 (by omega)
  have hr : r = 0 ∨ r = 1 ∨ r = 2 ∨ r = 3 ∨ r = 4 := by omega
  rcases hr with rfl | rfl | rfl | rfl | rfl <;> walk_at "dt" <;> refine key _ ?_ ?_ _ h <;> decide
end Kd

set_option Elab.async false
set_option linter.all false
set_option maxRecDepth 100000
set_option maxHeartbeats 4000000
namespace Kd
open PySem PySem.Spec PyProof.Rows L2 Dt
local macro_rules | `(tactic| walk_at "dt") => `(tactic| simp only [sq_nx, sq_rt, sq_bk, sq_ct, sq_ex, lp_nx, lp_rt, lp_bk, lp_ct, lp_ex, pnF_nx, pnF_rt, pnF_bk, pnF_ct, pnF_ex, q_fnF, ap_kTrue, ap_kSl, ap_kEx3, ap_kEx2, ap_kEx, q_ev0, q_ev1, q_ev2, ap_kD2, ap_kD, q_dat0, q_dat1, q_dat2, ap_kRet, ap_kBi2, ap_kBi, q_eBi, ap_kA, q_arg0, q_arg2, ap_kCallQ, ap_kCallX, ap_kCall2, ap_kCall, q_eCall, ap_kNoX, q_eNox, ap_kAnd2, ap_kAnd, q_eAndV, ap_kOr2, ap_kOr, q_eOrV, ap_kNot3, ap_kNot2, ap_kNot, q_eNotV, q_eIfV, ap_kTru3, ap_kTru2, ap_kTru, q_tTru, ap_kBl, q_tBl, ap_kTN, q_tNotM, q_tAndM, q_tOrM, q_sSeq, q_sNext, q_sBreak, q_sCont, ap_kDrop, q_sDrop, q_sRet, q_sRetN, q_sIf, ap_kSet, q_sSet, ap_kPar2, ap_kPar, q_sPar, ap_kUnp2, ap_kUnp, q_sUnp, ap_kApp4, ap_kApp3, ap_kApp2, ap_kApp, q_sApp, ap_kIx5, ap_kIx4, ap_kIx3, ap_kIx2, ap_kIx, q_sSetIx, ap_kFor, q_sFor, ap_kIE3, ap_kIE2, ap_kIE, q_iEx, ap_kRg2a, ap_kRg2b, ap_kRg, q_iRg, ap_kBind, q_bind0, q_bind1, q_bind2, q_bind3, q_bind4, ap_kBody, 
  oE_some, dK_val, dK_own, dK_ino, ap_kdk, q_slK, q_eVar, kVar_val, kVar_own, q_eMv, kMv_val, kMv_own, q_eC, q_ownK, kOwn_own, ap_kArg, q_argS, isOwn_val, isOwn_un, isOwn_own, obO_some, q_isOwnAt, ifL_t, ifL_f, bk_0, bk_1, bk_2, os_0, os_1, os_2, mg_0, mg_val, mg_own, mg_ino, lb_0, lb_val, lb_own, lb_ino, sa_0, sa_1, exs_0, exs_1, dOps_0, dOps_1, oK_some, oN_some, oB_some, ap_kV, ap_kVb, ap_kIx7, q_ixs, q_ixl, q_ixt, ixN_lit, q_add, q_sub, q_mul, q_divl, q_div, q_mod, q_pow, q_neg, q_abs, q_int, q_intb, q_min2, q_max2, q_lenl, q_lent, q_lens, q_lt, q_le, q_gt, q_ge, q_eq, q_ne, q_is, q_isb, q_isN, q_isNb, isNon_non, isNon_int, isNon_bl, isNon_str, isNon_tup, isNon_lst, q_isi0, q_isi1, q_isi2, q_isi3, q_isi4, q_isi5, q_tup, q_lst, tru_non, tru_bl, tru_int, tru_tup, tru_lst, seq_lst, seq_tup, sz_0, kSIf_t, kSIf_f, kIfV_t, kIfV_f, kTA_t, kTA_f, kTO_t, kTO_f, kAnd3_t, kAnd3_f, kOr3_t, kOr3_f, kWh_t, kWh_f,
  isA_NoneType_int, isA_NoneType_bool, isA_NoneType_str, isA_NoneType_list, isA_NoneType_tuple, isA_NoneType_list_tuple, isA_bool_int, isA_bool_bool, isA_bool_str, isA_bool_list, isA_bool_tuple, isA_bool_list_tuple, isA_int_int, isA_int_bool, isA_int_str, isA_int_list, isA_int_tuple, isA_int_list_tuple, isA_str_int, isA_str_bool, isA_str_str, isA_str_list, isA_str_tuple, isA_str_list_tuple, isA_list_int, isA_list_bool, isA_list_str, isA_list_list, isA_list_tuple, isA_list_list_tuple, isA_tuple_int, isA_tuple_bool, isA_tuple_str, isA_tuple_list, isA_tuple_tuple, isA_tuple_list_tuple, shp_non, shp_bl, shp_int, eqv_int, eqv_bl, eqv_non, eqv_non_int, eqv_int_non, eqv_non_bl, eqv_bl_non, eqv_bl_int, eqv_int_bl, atI_lit, 
  List.map_cons, List.map_nil, List.length_cons, List.length_nil, List.replicate_succ, List.replicate_zero, List.cons_append, List.nil_append, List.append_nil, List.getElem?_cons_zero, List.getElem?_cons_succ, List.set_cons_zero, List.set_cons_succ, List.mem_cons, List.not_mem_nil, List.contains_cons, List.nodup_nil, true_and, and_true, forall_eq_or_imp, forall_eq, or_false, false_or, Nat.zero_add, Nat.reduceAdd, Nat.reduceLT, Nat.reduceLeDiff, Nat.reduceEqDiff, Int.reduceLT, Int.reduceLE, Int.reduceEq, Int.reduceNeg, Int.reduceToNat, Int.reducePow, Int.reduceAdd, Int.reduceMul, Int.reduceSub, decide_true, decide_false, List.length_map, beq_self_eq_true, Bool.false_eq_true, Bool.true_eq_false, eq_self, if_false, if_true, reduceIte, Bool.not_true, Bool.not_false, Bool.or_false, Bool.or_true, Bool.true_and, Bool.and_true, Bool.false_and, Bool.and_false, Bool.true_or, Bool.false_or, implies_true, false_implies, forall_const, not_true_eq_false, not_false_eq_true])
local macro_rules | `(tactic| walk_at "if") => `(tactic| first | refine kSIf_if ?_ ?_ | refine kSIf_nif ?_ ?_ | refine kSIf_bif ?_ ?_ | refine kIfV_if ?_ ?_ | refine kIfV_nif ?_ ?_ | refine kIfV_bif ?_ ?_ | refine kTA_if ?_ ?_ | refine kTA_nif ?_ ?_ | refine kTA_bif ?_ ?_ | refine kTO_if ?_ ?_ | refine kTO_nif ?_ ?_ | refine kTO_bif ?_ ?_ | refine kAnd3_if ?_ ?_ | refine kAnd3_nif ?_ ?_ | refine kAnd3_bif ?_ ?_ | refine kOr3_if ?_ ?_ | refine kOr3_nif ?_ ?_ | refine kOr3_bif ?_ ?_ | refine kWh_if ?_ ?_ | refine kWh_nif ?_ ?_ | refine kWh_bif ?_ ?_)
local macro_rules | `(tactic| walk_at "sd") => `(tactic| first | decide | exact mul_lit (by decide) (by decide) | assumption | omega | exact ⟨by omega, by omega⟩ | exact ⟨by decide, by decide, by decide⟩)
local macro_rules | `(tactic| walk_at "an") => `(tactic| repeat ((with_reducible refine And.intro ?_ ?_); focus (walk_at "sd"; done)))
local macro_rules | `(tactic| walk_at "un") => `(tactic| simp only [R_law_gcd_2,B_law_gcd_2,R_law_hand_2,B_law_hand_2,R_law_is_0,R_law_take_1,R_law_take_0,R_law_take_0t2,R_law_number_1,R_law_number_0,R_law_power_1,B_law_power_1,R_common_divisor_1,B_common_divisor_1,R_common_multiple_1,R_common_multiple_0,R_is_whole_1,R_is_whole_0,R_power_of_3,R_power_of_3b0,B_power_of_3,R_law_10,R_law_10b2,R_law_10b1,R_law_10b0,B_law_10,R_law_9,R_law_8,R_law_7,R_law_7b0,B_law_7,R_law_6,R_law_5,R_law_4,R_law_4b3,R_law_4b2,R_law_4b1,R_law_4b0,B_law_4,R_law_3,R_law_2,R_law_1,R_law_0])
local macro_rules | `(tactic| walk_at "go") => `(tactic| ((try walk_at "un"); walk_at "dt"))
theorem sm_num {r : Int} (h : r.natAbs ≤ 10 ^ 20 + 2) : Sm 70 r := by
  unfold Sm; omega
theorem lcm_law (a b : Int) (h : ¬ Int.gcd a b = 0) : ((a * b).natAbs : Int) / (Int.gcd a b : Int) = (a.natAbs : Int) / (Int.gcd a b : Int) * (b.natAbs : Int) := by
  have hd : Int.gcd a b ∣ a.natAbs := by simpa [Int.gcd] using Nat.gcd_dvd_left a.natAbs b.natAbs
  rw [Int.natAbs_mul]
  have : a.natAbs * b.natAbs / Int.gcd a b = a.natAbs / Int.gcd a b * b.natAbs := (Nat.div_mul_right_comm hd _).symm
  rw [← Int.natCast_ediv, ← Int.natCast_ediv, this]
  simp
/-- slots of the law -/
def St (ns : List Int) (xs : List D) (f a b : Int) (z5 z6 z7 z8 z9 z10 z11 z12 z13 z14 z15 z16 : En) : List En := [.val (.lst (ns.map .int)), .own xs, .val (.int f), .val (.int a), .val (.int b), z5, z6, z7, z8, z9, z10, z11, z12, z13, z14, z15, z16]
def Pr (d : D) : Prop := ∃ a b : Int, d = .tup [.int a, .int b] ∧ Sm 200 a ∧ Sm 200 b
theorem lw4 {ns : List Int} {xs : List D} {f a b : Int} {ds : List D} (hd : ∀ d ∈ ds, Pr d) {Z : Pn} {s : List En} (hs : ∃ z5 z6 z7 z8 z9 z10 z11 z12 z13 z14 z15 z16, s = St ns xs f a b z5 z6 z7 z8 z9 z10 z11 z12 z13 z14 z15 z16)
    (hn : ∀ z5 z6 z7 z8 z9 z10 z11 z12 z13 z14 z15 z16, Z.nx (St ns xs f a b z5 z6 z7 z8 z9 z10 z11 z12 z13 z14 z15 z16)) : forL (.tp [.nm 11, .nm 12]) B_law_4 ds s Z := by
  refine fr_pure (fun ds s => (∀ d ∈ ds, Pr d) ∧ ∃ z5 z6 z7 z8 z9 z10 z11 z12 z13 z14 z15 z16, s = St ns xs f a b z5 z6 z7 z8 z9 z10 z11 z12 z13 z14 z15 z16) ⟨hd, hs⟩ ?_ ?_
  · rintro d ds s ⟨hd, z5, z6, z7, z8, z9, z10, z11, z12, z13, z14, z15, z16, rfl⟩
    obtain ⟨x, y, rfl, hx, hy⟩ := hd d List.mem_cons_self
    have hds : ∀ d ∈ ds, Pr d := fun d h => hd d (List.mem_cons_of_mem _ h)
    unfold St B_law_4
    walk_at "dt"
    walk_at "an"
    refine sp_common_divisor ?_
    walk_at "dt"
    walk_at "an"
    unfold R_law_4b0
    walk_at "dt"
    walk_at "an"
    refine sp_common_multiple hx hy ?_
    walk_at "dt"
    walk_at "an"
    unfold R_law_4b1
    walk_at "dt"
    walk_at "an"
    refine sp_law_gcd ?_
    walk_at "dt"
    walk_at "an"
    unfold R_law_4b2
    walk_at "dt"
    refine sp_law_whole (.inl ⟨_, rfl⟩) ?_
    unfold whB
    walk_at "dt"
    refine sp_law_whole (.inl ⟨_, rfl⟩) ?_
    unfold whB
    walk_at "dt"
    unfold R_law_4b3
    walk_at "dt"
    walk_at "if"
    · intro hc
      walk_at "dt"
      rw [if_pos (by omega : Int.gcd x y = 0)]
      walk_at "dt"
      exact ⟨hds, _, _, _, _, _, _, _, _, _, _, _, _, rfl⟩
    · intro hc
      have hg : ¬ Int.gcd x y = 0 := by omega
      walk_at "dt"
      refine ⟨hx.mul hy (by decide) (by decide) (by decide), ⟨by omega, log_of (gcd_sm hx hy (by decide)) (by decide) (by decide)⟩, ?_⟩
      rw [if_neg hg, lcm_law x y hg]
      walk_at "dt"
      exact ⟨hds, _, _, _, _, _, _, _, _, _, _, _, _, rfl⟩
  · rintro s ⟨-, z5, z6, z7, z8, z9, z10, z11, z12, z13, z14, z15, z16, rfl⟩
    exact hn _ _ _ _ _ _ _ _ _ _ _ _
def Pw (d : D) : Prop := ∃ e : Nat, d = .int e ∧ e ≤ 40
theorem lw7 {ns : List Int} {xs : List D} {f a b p : Int} (hp : Sm 70 p) {ds : List D} (hd : ∀ d ∈ ds, Pw d) {Z : Pn} {s : List En} (hs : ∃ z6 z7 z8 z9 z10 z11 z12 z13 z14 z15 z16, s = St ns xs f a b (.val (.int p)) z6 z7 z8 z9 z10 z11 z12 z13 z14 z15 z16)
    (hn : ∀ z5 z6 z7 z8 z9 z10 z11 z12 z13 z14 z15 z16, Z.nx (St ns xs f a b z5 z6 z7 z8 z9 z10 z11 z12 z13 z14 z15 z16)) : forL (.nm 7) B_law_7 ds s Z := by
  refine fr_pure (fun ds s => (∀ d ∈ ds, Pw d) ∧ ∃ z6 z7 z8 z9 z10 z11 z12 z13 z14 z15 z16, s = St ns xs f a b (.val (.int p)) z6 z7 z8 z9 z10 z11 z12 z13 z14 z15 z16) ⟨hd, hs⟩ ?_ ?_
  · rintro d ds s ⟨hd, z6, z7, z8, z9, z10, z11, z12, z13, z14, z15, z16, rfl⟩
    obtain ⟨e, rfl, he⟩ := hd d List.mem_cons_self
    have hds : ∀ d ∈ ds, Pw d := fun d h => hd d (List.mem_cons_of_mem _ h)
    unfold St B_law_7
    walk_at "dt"
    walk_at "an"
    refine sp_power_of hp he ?_
    walk_at "dt"
    walk_at "an"
    unfold R_law_7b0
    walk_at "dt"
    refine sp_law_whole (.inl ⟨_, rfl⟩) ?_
    unfold whB
    walk_at "dt"
    refine sp_law_power hp he ?_
    walk_at "dt"
    exact ⟨hds, _, _, _, _, _, _, _, _, _, _, _, rfl⟩
  · rintro s ⟨-, z6, z7, z8, z9, z10, z11, z12, z13, z14, z15, z16, rfl⟩
    exact hn _ _ _ _ _ _ _ _ _ _ _ _
theorem isB_non (d : D) : isB d .non .non = whB d := by
  cases d <;> rfl
theorem lw10 {ns : List Int} {xs : List D} {f a b : Int} {lo hi : D} (hl : Bd lo) (hh : Bd hi) {ds : List D} (hd : ∀ d ∈ ds, Th d) {Z : Pn} {s : List En} (hs : ∃ z5 z6 z7 z10 z11 z12 z13 z14 z15 z16, s = St ns xs f a b z5 z6 z7 (.val lo) (.val hi) z10 z11 z12 z13 z14 z15 z16)
    (hn : ∀ z5 z6 z7 z8 z9 z10 z11 z12 z13 z14 z15 z16, Z.nx (St ns xs f a b z5 z6 z7 z8 z9 z10 z11 z12 z13 z14 z15 z16)) : forL (.nm 10) B_law_10 ds s Z := by
  refine fr_pure (fun ds s => (∀ d ∈ ds, Th d) ∧ ∃ z5 z6 z7 z10 z11 z12 z13 z14 z15 z16, s = St ns xs f a b z5 z6 z7 (.val lo) (.val hi) z10 z11 z12 z13 z14 z15 z16) ⟨hd, hs⟩ ?_ ?_
  · rintro d ds s ⟨hd, z5, z6, z7, z10, z11, z12, z13, z14, z15, z16, rfl⟩
    have ht := hd d List.mem_cons_self
    have hds : ∀ d ∈ ds, Th d := fun d h => hd d (List.mem_cons_of_mem _ h)
    unfold St B_law_10
    walk_at "dt"
    refine sp_is_whole ht hl hh ?_
    have t1 : R_law_10b0 (St ns xs f a b z5 z6 z7 (.val lo) (.val hi) (.val d) z11 z12 z13 z14 z15 z16) (Z.lp fun s => (∀ d ∈ ds, Th d) ∧ ∃ z5 z6 z7 z10 z11 z12 z13 z14 z15 z16, s = St ns xs f a b z5 z6 z7 (.val lo) (.val hi) z10 z11 z12 z13 z14 z15 z16) := by
      have t2 : R_law_10b1 (St ns xs f a b z5 z6 z7 (.val lo) (.val hi) (.val d) z11 z12 z13 z14 z15 z16) (Z.lp fun s => (∀ d ∈ ds, Th d) ∧ ∃ z5 z6 z7 z10 z11 z12 z13 z14 z15 z16, s = St ns xs f a b z5 z6 z7 (.val lo) (.val hi) z10 z11 z12 z13 z14 z15 z16) := by
        have t3 : R_law_10b2 (St ns xs f a b z5 z6 z7 (.val lo) (.val hi) (.val d) z11 z12 z13 z14 z15 z16) (Z.lp fun s => (∀ d ∈ ds, Th d) ∧ ∃ z5 z6 z7 z10 z11 z12 z13 z14 z15 z16, s = St ns xs f a b z5 z6 z7 (.val lo) (.val hi) z10 z11 z12 z13 z14 z15 z16) := by
          unfold St R_law_10b2
          walk_at "dt"
          refine sp_is_whole ht (.inl rfl) hh ?_
          walk_at "dt"
          refine sp_law_is ht (.inl rfl) hh ?_
          walk_at "dt"
          exact ⟨hds, _, _, _, _, _, _, _, _, _, _, rfl⟩
        unfold St R_law_10b1
        walk_at "dt"
        refine sp_is_whole ht (.inl rfl) (.inl rfl) ?_
        rw [isB_non]
        have := @sp_law_whole d ht
        generalize whB d = w at this ⊢
        cases w with
        | true => walk_at "dt"; exact t3
        | false =>
          walk_at "dt"
          refine this ?_
          walk_at "dt"
          exact t3
      unfold St R_law_10b0
      walk_at "dt"
      refine sp_is_whole ht hl hh ?_
      have := @sp_law_is d lo hi ht hl hh
      generalize isB d lo hi = w at this ⊢
      cases w with
      | false => walk_at "dt"; exact t2
      | true =>
        walk_at "dt"
        refine this ?_
        walk_at "dt"
        exact t2
    have := @sp_law_is d lo hi ht hl hh
    generalize isB d lo hi = w at this ⊢
    cases w with
    | true => walk_at "dt"; exact t1
    | false =>
      walk_at "dt"
      refine this ?_
      walk_at "dt"
      exact t1
  · rintro s ⟨-, z5, z6, z7, z10, z11, z12, z13, z14, z15, z16, rfl⟩
    exact hn _ _ _ _ _ _ _ _ _ _ _ _
theorem bd_at {xs : List D} (h : ∀ d ∈ xs, Bd d) {r : Int} (h0 : 0 ≤ r) (h1 : r < xs.length) {k : D → Prop} (q : ∀ d, Bd d → k d) : oK (atI xs r) k := by
  obtain ⟨x, e, hx⟩ := atI_lt h0 h1
  exact oK_of ⟨x, e, q x (h x hx)⟩
theorem sp_law {ns : List Int} (hl : ns.length ≤ 63) : F_law [.val (.lst (ns.map .int))] (fun r _ => r = .val (.bl true)) fun _ _ => False := by
  refine upE_of ?_
  unfold M_law
  walk_at "dt"
  walk_at "an"
  refine sp_law_hand hl fun xs hx => ?_
  walk_at "dt"
  walk_at "an"
  unfold R_law_0
  walk_at "dt"
  walk_at "an"
  refine sp_law_number hx fun xs f hx hf => ?_
  walk_at "dt"
  walk_at "an"
  unfold R_law_1
  walk_at "dt"
  walk_at "an"
  refine sp_law_number hx fun xs a hx ha => ?_
  walk_at "dt"
  have sf := sm_num hf
  have sa : Sm 140 (f * a) := sf.prod (sm_num ha)
  refine ⟨sf.mul (sm_num ha) (by decide) (by decide) (by decide), ?_⟩
  walk_at "an"
  unfold R_law_2
  walk_at "dt"
  walk_at "an"
  refine sp_law_number hx fun xs b hx hb => ?_
  walk_at "dt"
  have sb : Sm 140 (f * b) := sf.prod (sm_num hb)
  refine ⟨sf.mul (sm_num hb) (by decide) (by decide) (by decide), ?_⟩
  walk_at "an"
  generalize f * a = a at sa ⊢
  generalize f * b = b at sb ⊢
  unfold R_law_3
  walk_at "dt"
  walk_at "an"
  refine lw4 (ns := ns) (xs := xs) (f := f) (a := a) (b := b) ?_ ⟨_, _, _, _, _, _, _, _, _, _, _, _, rfl⟩ fun z5 z6 z7 z8 z9 z10 z11 z12 z13 z14 z15 z16 => ?_
  · have sa := sa.mono (l := 200) (by decide)
    have sb := sb.mono (l := 200) (by decide)
    have s0 : Sm 200 0 := by unfold Sm; decide
    have s1 : Sm 200 1 := by unfold Sm; decide
    have s2 : Sm 200 (0 - b) := by rw [Int.zero_sub]; exact sb.neg
    simp only [List.mem_cons, List.not_mem_nil, or_false, forall_eq_or_imp, forall_eq]
    exact ⟨⟨_, _, rfl, sa, sb⟩, ⟨_, _, rfl, sb, sa⟩, ⟨_, _, rfl, sa, s0⟩, ⟨_, _, rfl, s0, sb⟩, ⟨_, _, rfl, sa, sa⟩, ⟨_, _, rfl, sa, s1⟩, ⟨_, _, rfl, s0, s0⟩, ⟨_, _, rfl, sa, s2⟩⟩
  unfold St
  walk_at "dt"
  unfold R_law_4
  walk_at "dt"
  walk_at "an"
  refine sp_law_number hx fun xs p hx hp => ?_
  walk_at "dt"
  walk_at "an"
  unfold R_law_5
  walk_at "dt"
  walk_at "an"
  refine sp_law_take hx (by decide) (sm_lit (by decide) (by decide) (by decide)) fun xs e hx h0 h1 => ?_
  walk_at "dt"
  walk_at "an"
  unfold R_law_6
  walk_at "dt"
  walk_at "an"
  refine lw7 (ns := ns) (xs := xs) (f := f) (a := a) (b := b) (sm_num hp) ?_ ⟨_, _, _, _, _, _, _, _, _, _, _, rfl⟩ fun z5 z6 z7 z8 z9 z10 z11 z12 z13 z14 z15 z16 => ?_
  · simp only [List.mem_cons, List.not_mem_nil, or_false, forall_eq_or_imp, forall_eq]
    exact ⟨⟨0, rfl, by decide⟩, ⟨1, rfl, by decide⟩, ⟨2, rfl, by decide⟩, ⟨e.toNat, by rw [Int.toNat_of_nonneg h0], by omega⟩⟩
  unfold St
  walk_at "dt"
  unfold R_law_7
  walk_at "dt"
  walk_at "an"
  refine sp_law_take hx (by decide) (sm_lit (by decide) (by decide) (by decide)) fun xs r hx h0 h1 => ?_
  walk_at "dt"
  refine bd_at ?_ h0 (by exact h1) fun lo hlo => ?_
  · simp only [List.mem_cons, List.not_mem_nil, or_false, forall_eq_or_imp, forall_eq]
    exact ⟨.inl rfl, .inr ⟨_, rfl⟩, .inr ⟨_, rfl⟩, .inr ⟨_, rfl⟩⟩
  walk_at "dt"
  walk_at "an"
  unfold R_law_8
  walk_at "dt"
  walk_at "an"
  refine sp_law_take hx (by decide) (sm_lit (by decide) (by decide) (by decide)) fun xs r hx h0 h1 => ?_
  walk_at "dt"
  refine bd_at ?_ h0 (by exact h1) fun hi hhi => ?_
  · simp only [List.mem_cons, List.not_mem_nil, or_false, forall_eq_or_imp, forall_eq]
    exact ⟨.inl rfl, .inr ⟨_, rfl⟩, .inr ⟨_, rfl⟩, .inr ⟨_, rfl⟩, .inr ⟨_, rfl⟩⟩
  walk_at "dt"
  walk_at "an"
  unfold R_law_9
  walk_at "dt"
  walk_at "an"
  refine lw10 (ns := ns) (xs := xs) (f := f) (a := a) (b := b) hlo hhi ?_ ⟨_, _, _, _, _, _, _, _, _, _, rfl⟩ fun z5 z6 z7 z8 z9 z10 z11 z12 z13 z14 z15 z16 => ?_
  · simp only [List.mem_cons, List.not_mem_nil, or_false, forall_eq_or_imp, forall_eq]
    exact ⟨.inl ⟨_, rfl⟩, .inl ⟨_, rfl⟩, .inr (.inl ⟨_, rfl⟩), .inr (.inl ⟨_, rfl⟩), .inr (.inr (.inl rfl)), .inr (.inr (.inr (.inl ⟨_, rfl⟩))), .inr (.inr (.inr (.inr ⟨_, rfl⟩))), .inl ⟨_, rfl⟩⟩
  unfold St
  walk_at "go"
end Kd

set_option Elab.async false
set_option linter.all false
set_option maxRecDepth 100000
set_option maxHeartbeats 0
namespace Kd
open PySem PySem.Spec PyProof.Rows L2 Dt
theorem gi_is_whole {P : Program} {w : World} {K : PySem.W.Frag} {mg : Str → Option Value} {base : Heap} {f : Addr} {fd : FuncData} {lv : Nat} (D : FunD K "is_whole" "is_whole" (defArgs s_is_whole) (defBody s_is_whole) (defScope s_is_whole) [.non, .non] [] f fd) (hm : mg "is_whole" = some (.ref f)) (hk : PySem.W.keepIn K (.ref f) = true)
    (h : FnOk P w K mg base (L2.CX P w) 1 f fd P_is_whole (spF ⟨K, fun _ => none⟩ F_is_whole)) (hl : 1 ≤ lv) : GiOk ⟨K, fun _ => none⟩ P w mg base lv "is_whole" (.fn 1 3 F_is_whole [.non, .non] (some (1, "high"))) := by
  refine ⟨hl, mono_upE _, f, fd, P_is_whole, hm, hk, rfl, h, fun j hj => ?_, fun np kw e => ?_⟩
  · match j, hj with
    | 0, _ =>
      obtain ⟨ds, r, b⟩ := D.binds1 (ps := P_is_whole) 1 0 (by simp) rfl fun _ _ _ _ _ _ _ us its h1 h2 => match us, its, h1, h2 with | [_], [_, _], _, _ => ⟨_, rfl, rfl⟩
      exact ⟨ds, _, b, r, rfl, rfl, trivial⟩
    | 1, _ =>
      obtain ⟨ds, r, b⟩ := D.binds1 (ps := P_is_whole) 2 1 (by simp) rfl fun _ _ _ _ _ _ _ us its h1 h2 => match us, its, h1, h2 with | [_, _], [_, _], _, _ => ⟨_, rfl, rfl⟩
      exact ⟨ds, _, b, r, rfl, trivial⟩
    | 2, _ =>
      obtain ⟨ds, r, b⟩ := D.binds1 (ps := P_is_whole) 3 2 (by simp) rfl fun _ _ _ _ _ _ _ us its h1 h2 => match us, its, h1, h2 with | [_, _, _], [_, _], _, _ => ⟨_, rfl, rfl⟩
      exact ⟨ds, _, b, r, trivial⟩
  · cases e
    obtain ⟨its, hb⟩ := D.kbindsD (ps := P_is_whole) 1 ["high"] (fun us its ws => us ++ (its.dropLast ++ ws)) (by simp) (fun r1 r2 r3 => r1.append (r2.dropLast.append r3)) fun _ _ _ _ _ _ _ us its ws h1 h2 h3 => match us, its, ws, h1, h2, h3 with | [_], [_, _], [_], _, _, _ => ⟨_, rfl, rfl⟩
    have r := hb.rel .nil .nil
    refine ⟨its.dropLast, [.non], by simpa using r, ⟨rfl, trivial⟩, hb⟩

theorem all_mk {l : PySem.W.OpenLaw} {w : World} {K : PySem.W.Frag} {h : Heap} {mg : Str → Option Value} {fa : Addr} (X : K.In h) (G : h.Ns mainGlobals mg) (hfa : mg "law" = some (.ref fa))
    {oc0 kV0 dc0 pm0 cd0 ct0 : Value} {od0 an0 : Option Addr} {sl0 : Array (Option Value)} {f0 : Addr}
    {oc1 kV1 dc1 pm1 cd1 ct1 : Value} {od1 an1 : Option Addr} {sl1 : Array (Option Value)} {f1 : Addr}
    {oc2 kV2 dc2 pm2 cd2 ct2 : Value} {od2 an2 : Option Addr} {sl2 : Array (Option Value)} {f2 : Addr}
    {oc3 kV3 dc3 pm3 cd3 ct3 : Value} {od3 an3 : Option Addr} {sl3 : Array (Option Value)} {f3 : Addr}
    {oc4 kV4 dc4 pm4 cd4 ct4 : Value} {od4 an4 : Option Addr} {sl4 : Array (Option Value)} {f4 : Addr}
    {oc5 kV5 dc5 pm5 cd5 ct5 : Value} {od5 an5 : Option Addr} {sl5 : Array (Option Value)} {f5 : Addr}
    {oc6 kV6 dc6 pm6 cd6 ct6 : Value} {od6 an6 : Option Addr} {sl6 : Array (Option Value)} {f6 : Addr}
    {oc7 kV7 dc7 pm7 cd7 ct7 : Value} {od7 an7 : Option Addr} {sl7 : Array (Option Value)} {f7 : Addr}
    {oc8 kV8 dc8 pm8 cd8 ct8 : Value} {od8 an8 : Option Addr} {sl8 : Array (Option Value)} {f8 : Addr}
    {oc9 kV9 dc9 pm9 cd9 ct9 : Value} {od9 an9 : Option Addr} {sl9 : Array (Option Value)} {f9 : Addr}
    {oc10 kV10 dc10 pm10 cd10 ct10 : Value} {od10 an10 : Option Addr} {sl10 : Array (Option Value)} {f10 : Addr}
    {t10 : Addr} {ot10 : Value} {ut10 : Option Addr} {nt10 : Nat} {st10 : Array (Option Value)}
    {oc11 kV11 dc11 pm11 cd11 ct11 : Value} {od11 an11 : Option Addr} {sl11 : Array (Option Value)} {f11 : Addr}
    {oc12 kV12 dc12 pm12 cd12 ct12 : Value} {od12 an12 : Option Addr} {sl12 : Array (Option Value)} {f12 : Addr}
    (a0 : PySem.W.nsIn K mainGlobals "_law_gcd" = some (some (.ref f0)))
    (l0 : K.lookup f0 = some ⟨oc0, od0, .func (PySem.W.fnOf "_law_gcd" "_law_gcd" (defArgs s_law_gcd) (defBody s_law_gcd) (defScope s_law_gcd) .none kV0 dc0 pm0 an0 cd0 ct0), sl0⟩)
    (c0 : PySem.W.codeIn K cd0 "_law_gcd" = true)
    (k0 : PySem.W.keepIn K (.ref f0) = true)
    (a1 : PySem.W.nsIn K mainGlobals "_law_hand" = some (some (.ref f1)))
    (l1 : K.lookup f1 = some ⟨oc1, od1, .func (PySem.W.fnOf "_law_hand" "_law_hand" (defArgs s_law_hand) (defBody s_law_hand) (defScope s_law_hand) .none kV1 dc1 pm1 an1 cd1 ct1), sl1⟩)
    (c1 : PySem.W.codeIn K cd1 "_law_hand" = true)
    (k1 : PySem.W.keepIn K (.ref f1) = true)
    (a2 : PySem.W.nsIn K mainGlobals "_law_whole" = some (some (.ref f2)))
    (l2 : K.lookup f2 = some ⟨oc2, od2, .func (PySem.W.fnOf "_law_whole" "_law_whole" (defArgs s_law_whole) (defBody s_law_whole) (defScope s_law_whole) .none kV2 dc2 pm2 an2 cd2 ct2), sl2⟩)
    (c2 : PySem.W.codeIn K cd2 "_law_whole" = true)
    (k2 : PySem.W.keepIn K (.ref f2) = true)
    (a3 : PySem.W.nsIn K mainGlobals "_law_is" = some (some (.ref f3)))
    (l3 : K.lookup f3 = some ⟨oc3, od3, .func (PySem.W.fnOf "_law_is" "_law_is" (defArgs s_law_is) (defBody s_law_is) (defScope s_law_is) .none kV3 dc3 pm3 an3 cd3 ct3), sl3⟩)
    (c3 : PySem.W.codeIn K cd3 "_law_is" = true)
    (k3 : PySem.W.keepIn K (.ref f3) = true)
    (a4 : PySem.W.nsIn K mainGlobals "_law_mixed" = some (some (.ref f4)))
    (l4 : K.lookup f4 = some ⟨oc4, od4, .func (PySem.W.fnOf "_law_mixed" "_law_mixed" (defArgs s_law_mixed) (defBody s_law_mixed) (defScope s_law_mixed) .none kV4 dc4 pm4 an4 cd4 ct4), sl4⟩)
    (c4 : PySem.W.codeIn K cd4 "_law_mixed" = true)
    (k4 : PySem.W.keepIn K (.ref f4) = true)
    (a5 : PySem.W.nsIn K mainGlobals "_law_take" = some (some (.ref f5)))
    (l5 : K.lookup f5 = some ⟨oc5, od5, .func (PySem.W.fnOf "_law_take" "_law_take" (defArgs s_law_take) (defBody s_law_take) (defScope s_law_take) .none kV5 dc5 pm5 an5 cd5 ct5), sl5⟩)
    (c5 : PySem.W.codeIn K cd5 "_law_take" = true)
    (k5 : PySem.W.keepIn K (.ref f5) = true)
    (a6 : PySem.W.nsIn K mainGlobals "_law_number" = some (some (.ref f6)))
    (l6 : K.lookup f6 = some ⟨oc6, od6, .func (PySem.W.fnOf "_law_number" "_law_number" (defArgs s_law_number) (defBody s_law_number) (defScope s_law_number) .none kV6 dc6 pm6 an6 cd6 ct6), sl6⟩)
    (c6 : PySem.W.codeIn K cd6 "_law_number" = true)
    (k6 : PySem.W.keepIn K (.ref f6) = true)
    (a7 : PySem.W.nsIn K mainGlobals "_law_power" = some (some (.ref f7)))
    (l7 : K.lookup f7 = some ⟨oc7, od7, .func (PySem.W.fnOf "_law_power" "_law_power" (defArgs s_law_power) (defBody s_law_power) (defScope s_law_power) .none kV7 dc7 pm7 an7 cd7 ct7), sl7⟩)
    (c7 : PySem.W.codeIn K cd7 "_law_power" = true)
    (k7 : PySem.W.keepIn K (.ref f7) = true)
    (a8 : PySem.W.nsIn K mainGlobals "common_divisor" = some (some (.ref f8)))
    (l8 : K.lookup f8 = some ⟨oc8, od8, .func (PySem.W.fnOf "common_divisor" "common_divisor" (defArgs s_common_divisor) (defBody s_common_divisor) (defScope s_common_divisor) .none kV8 dc8 pm8 an8 cd8 ct8), sl8⟩)
    (c8 : PySem.W.codeIn K cd8 "common_divisor" = true)
    (k8 : PySem.W.keepIn K (.ref f8) = true)
    (a9 : PySem.W.nsIn K mainGlobals "common_multiple" = some (some (.ref f9)))
    (l9 : K.lookup f9 = some ⟨oc9, od9, .func (PySem.W.fnOf "common_multiple" "common_multiple" (defArgs s_common_multiple) (defBody s_common_multiple) (defScope s_common_multiple) .none kV9 dc9 pm9 an9 cd9 ct9), sl9⟩)
    (c9 : PySem.W.codeIn K cd9 "common_multiple" = true)
    (k9 : PySem.W.keepIn K (.ref f9) = true)
    (a10 : PySem.W.nsIn K mainGlobals "is_whole" = some (some (.ref f10)))
    (l10 : K.lookup f10 = some ⟨oc10, od10, .func (PySem.W.fnOf "is_whole" "is_whole" (defArgs s_is_whole) (defBody s_is_whole) (defScope s_is_whole) (.ref t10) kV10 dc10 pm10 an10 cd10 ct10), sl10⟩)
    (q10 : K.lookup t10 = some ⟨ot10, ut10, .seq #[.none, .none] nt10, st10⟩)
    (c10 : PySem.W.codeIn K cd10 "is_whole" = true)
    (k10 : PySem.W.keepIn K (.ref f10) = true)
    (a11 : PySem.W.nsIn K mainGlobals "power_of" = some (some (.ref f11)))
    (l11 : K.lookup f11 = some ⟨oc11, od11, .func (PySem.W.fnOf "power_of" "power_of" (defArgs s_power_of) (defBody s_power_of) (defScope s_power_of) .none kV11 dc11 pm11 an11 cd11 ct11), sl11⟩)
    (c11 : PySem.W.codeIn K cd11 "power_of" = true)
    (k11 : PySem.W.keepIn K (.ref f11) = true)
    (a12 : PySem.W.nsIn K mainGlobals "law" = some (some (.ref f12)))
    (l12 : K.lookup f12 = some ⟨oc12, od12, .func (PySem.W.fnOf "law" "law" (defArgs s_law) (defBody s_law) (defScope s_law) .none kV12 dc12 pm12 an12 cd12 ct12), sl12⟩)
    (c12 : PySem.W.codeIn K cd12 "law" = true)
    (k12 : PySem.W.keepIn K (.ref f12) = true)
    (b0 : PySem.W.nsIn K mainGlobals "abs" = some none)
    (b1 : PySem.W.nsIn K mainGlobals "int" = some none)
    (b2 : PySem.W.nsIn K mainGlobals "len" = some none)
    (b3 : PySem.W.nsIn K mainGlobals "range" = some none)
    (b4 : PySem.W.nsIn K mainGlobals "isinstance" = some none)
    (b5 : PySem.W.nsIn K mainGlobals "bool" = some none)
    (b6 : PySem.W.nsIn K mainGlobals "str" = some none)
    (b7 : PySem.W.nsIn K mainGlobals "list" = some none)
    (b8 : PySem.W.nsIn K mainGlobals "tuple" = some none)
    (b9 : PySem.W.nsIn K mainGlobals "min" = some none)
    (b10 : PySem.W.nsIn K mainGlobals "max" = some none)
    : ∃ fd : FuncData, (∀ (s : Shared) (v : Value), BindsTo s fd ⟨[v], []⟩ [("_law_script", v)]) ∧ ∀ base : Heap, K.In base → base.Ns mainGlobals mg → FnOk l.prog w K mg base (L2.CX l.prog w) 4 fa fd ["_law_script"] (spLaw K) := by
  have e := hfa.symm.trans (PySem.W.mg_of X G a12)
  cases e
  have D0 : FunD K "_law_gcd" "_law_gcd" (defArgs s_law_gcd) (defBody s_law_gcd) (defScope s_law_gcd) [] [] f0 _ := ⟨⟨oc0, od0, .none, kV0, dc0, pm0, an0, cd0, ct0, sl0, rfl, l0, c0, .inl ⟨rfl, rfl⟩, .inl rfl⟩, k0⟩
  have B0 := D0.bindsN (ps := P_law_gcd) fun _ _ _ _ _ _ us hl => match us, hl with | [_, _], _ => rfl
  have D1 : FunD K "_law_hand" "_law_hand" (defArgs s_law_hand) (defBody s_law_hand) (defScope s_law_hand) [] [] f1 _ := ⟨⟨oc1, od1, .none, kV1, dc1, pm1, an1, cd1, ct1, sl1, rfl, l1, c1, .inl ⟨rfl, rfl⟩, .inl rfl⟩, k1⟩
  have B1 := D1.bindsN (ps := P_law_hand) fun _ _ _ _ _ _ us hl => match us, hl with | [_], _ => rfl
  have D2 : FunD K "_law_whole" "_law_whole" (defArgs s_law_whole) (defBody s_law_whole) (defScope s_law_whole) [] [] f2 _ := ⟨⟨oc2, od2, .none, kV2, dc2, pm2, an2, cd2, ct2, sl2, rfl, l2, c2, .inl ⟨rfl, rfl⟩, .inl rfl⟩, k2⟩
  have B2 := D2.bindsN (ps := P_law_whole) fun _ _ _ _ _ _ us hl => match us, hl with | [_], _ => rfl
  have D3 : FunD K "_law_is" "_law_is" (defArgs s_law_is) (defBody s_law_is) (defScope s_law_is) [] [] f3 _ := ⟨⟨oc3, od3, .none, kV3, dc3, pm3, an3, cd3, ct3, sl3, rfl, l3, c3, .inl ⟨rfl, rfl⟩, .inl rfl⟩, k3⟩
  have B3 := D3.bindsN (ps := P_law_is) fun _ _ _ _ _ _ us hl => match us, hl with | [_, _, _], _ => rfl
  have D4 : FunD K "_law_mixed" "_law_mixed" (defArgs s_law_mixed) (defBody s_law_mixed) (defScope s_law_mixed) [] [] f4 _ := ⟨⟨oc4, od4, .none, kV4, dc4, pm4, an4, cd4, ct4, sl4, rfl, l4, c4, .inl ⟨rfl, rfl⟩, .inl rfl⟩, k4⟩
  have B4 := D4.bindsN (ps := P_law_mixed) fun _ _ _ _ _ _ us hl => match us, hl with | [_, _], _ => rfl
  have D5 : FunD K "_law_take" "_law_take" (defArgs s_law_take) (defBody s_law_take) (defScope s_law_take) [] [] f5 _ := ⟨⟨oc5, od5, .none, kV5, dc5, pm5, an5, cd5, ct5, sl5, rfl, l5, c5, .inl ⟨rfl, rfl⟩, .inl rfl⟩, k5⟩
  have B5 := D5.bindsN (ps := P_law_take) fun _ _ _ _ _ _ us hl => match us, hl with | [_, _], _ => rfl
  have D6 : FunD K "_law_number" "_law_number" (defArgs s_law_number) (defBody s_law_number) (defScope s_law_number) [] [] f6 _ := ⟨⟨oc6, od6, .none, kV6, dc6, pm6, an6, cd6, ct6, sl6, rfl, l6, c6, .inl ⟨rfl, rfl⟩, .inl rfl⟩, k6⟩
  have B6 := D6.bindsN (ps := P_law_number) fun _ _ _ _ _ _ us hl => match us, hl with | [_], _ => rfl
  have D7 : FunD K "_law_power" "_law_power" (defArgs s_law_power) (defBody s_law_power) (defScope s_law_power) [] [] f7 _ := ⟨⟨oc7, od7, .none, kV7, dc7, pm7, an7, cd7, ct7, sl7, rfl, l7, c7, .inl ⟨rfl, rfl⟩, .inl rfl⟩, k7⟩
  have B7 := D7.bindsN (ps := P_law_power) fun _ _ _ _ _ _ us hl => match us, hl with | [_, _], _ => rfl
  have D8 : FunD K "common_divisor" "common_divisor" (defArgs s_common_divisor) (defBody s_common_divisor) (defScope s_common_divisor) [] [] f8 _ := ⟨⟨oc8, od8, .none, kV8, dc8, pm8, an8, cd8, ct8, sl8, rfl, l8, c8, .inl ⟨rfl, rfl⟩, .inl rfl⟩, k8⟩
  have B8 := D8.bindsN (ps := P_common_divisor) fun _ _ _ _ _ _ us hl => match us, hl with | [_, _], _ => rfl
  have D9 : FunD K "common_multiple" "common_multiple" (defArgs s_common_multiple) (defBody s_common_multiple) (defScope s_common_multiple) [] [] f9 _ := ⟨⟨oc9, od9, .none, kV9, dc9, pm9, an9, cd9, ct9, sl9, rfl, l9, c9, .inl ⟨rfl, rfl⟩, .inl rfl⟩, k9⟩
  have B9 := D9.bindsN (ps := P_common_multiple) fun _ _ _ _ _ _ us hl => match us, hl with | [_, _], _ => rfl
  have D10 : FunD K "is_whole" "is_whole" (defArgs s_is_whole) (defBody s_is_whole) (defScope s_is_whole) [.non, .non] [] f10 _ := ⟨⟨oc10, od10, .ref t10, kV10, dc10, pm10, an10, cd10, ct10, sl10, rfl, l10, c10, .inr ⟨by simp, t10, _, [.none, .none], nt10, rfl, q10, rfl, .cons rfl (.cons rfl (.nil))⟩, .inl rfl⟩, k10⟩
  have D11 : FunD K "power_of" "power_of" (defArgs s_power_of) (defBody s_power_of) (defScope s_power_of) [] [] f11 _ := ⟨⟨oc11, od11, .none, kV11, dc11, pm11, an11, cd11, ct11, sl11, rfl, l11, c11, .inl ⟨rfl, rfl⟩, .inl rfl⟩, k11⟩
  have B11 := D11.bindsN (ps := P_power_of) fun _ _ _ _ _ _ us hl => match us, hl with | [_, _], _ => rfl
  have D12 : FunD K "law" "law" (defArgs s_law) (defBody s_law) (defScope s_law) [] [] fa _ := ⟨⟨oc12, od12, .none, kV12, dc12, pm12, an12, cd12, ct12, sl12, rfl, l12, c12, .inl ⟨rfl, rfl⟩, .inl rfl⟩, k12⟩
  have B12 := D12.bindsN (ps := P_law) fun _ _ _ _ _ _ us hl => match us, hl with | [_], _ => rfl
  have blt : ∀ x ∈ bltNames, mg x = none := List.forall_mem_cons.mpr ⟨PySem.W.mg_none_of X G b0, List.forall_mem_cons.mpr ⟨PySem.W.mg_none_of X G b1, List.forall_mem_cons.mpr ⟨PySem.W.mg_none_of X G b2, List.forall_mem_cons.mpr ⟨PySem.W.mg_none_of X G b3, List.forall_mem_cons.mpr ⟨PySem.W.mg_none_of X G b4, List.forall_mem_cons.mpr ⟨PySem.W.mg_none_of X G b5, List.forall_mem_cons.mpr ⟨PySem.W.mg_none_of X G b6, List.forall_mem_cons.mpr ⟨PySem.W.mg_none_of X G b7, List.forall_mem_cons.mpr ⟨PySem.W.mg_none_of X G b8, List.forall_mem_cons.mpr ⟨PySem.W.mg_none_of X G b9, List.forall_mem_cons.mpr ⟨PySem.W.mg_none_of X G b10, List.forall_mem_nil _⟩⟩⟩⟩⟩⟩⟩⟩⟩⟩⟩
  refine ⟨PySem.W.fnOf "law" "law" (defArgs s_law) (defBody s_law) (defScope s_law) .none kV12 dc12 pm12 an12 cd12 ct12, fun s v => .of_eq rfl, fun base _ _ => ?_⟩
  have R0 : FnOk l.prog w K mg base (L2.CX l.prog w) 1 f0 _ P_law_gcd (spF ⟨K, fun _ => none⟩ F_law_gcd) := fn_rd (base := base) (mg := mg) (ca := fun _ => none) D0 sc_law_gcd rd_law_gcd (tabOf_all (List.forall_mem_nil _)) blt
  have m0 := PySem.W.mg_of X G a0
  have R1 : FnOk l.prog w K mg base (L2.CX l.prog w) 1 f1 _ P_law_hand (spF ⟨K, fun _ => none⟩ F_law_hand) := fn_rd (base := base) (mg := mg) (ca := fun _ => none) D1 sc_law_hand rd_law_hand (tabOf_all (List.forall_mem_nil _)) blt
  have m1 := PySem.W.mg_of X G a1
  have R2 : FnOk l.prog w K mg base (L2.CX l.prog w) 1 f2 _ P_law_whole (spF ⟨K, fun _ => none⟩ F_law_whole) := fn_rd (base := base) (mg := mg) (ca := fun _ => none) D2 sc_law_whole rd_law_whole (tabOf_all (List.forall_mem_nil _)) blt
  have m2 := PySem.W.mg_of X G a2
  have R3 : FnOk l.prog w K mg base (L2.CX l.prog w) 2 f3 _ P_law_is (spF ⟨K, fun _ => none⟩ F_law_is) := fn_rd (base := base) (mg := mg) (ca := fun _ => none) D3 sc_law_is rd_law_is (tabOf_all (List.forall_mem_cons.mpr ⟨gi_fn (by decide) (mono_upE _) m2 k2 rfl R2 B2, List.forall_mem_nil _⟩)) blt
  have m3 := PySem.W.mg_of X G a3
  have R4 : FnOk l.prog w K mg base (L2.CX l.prog w) 1 f4 _ P_law_mixed (spF ⟨K, fun _ => none⟩ F_law_mixed) := fn_rd (base := base) (mg := mg) (ca := fun _ => none) D4 sc_law_mixed rd_law_mixed (tabOf_all (List.forall_mem_nil _)) blt
  have m4 := PySem.W.mg_of X G a4
  have R5 : FnOk l.prog w K mg base (L2.CX l.prog w) 2 f5 _ P_law_take (spF ⟨K, fun _ => none⟩ F_law_take) := fn_rd (base := base) (mg := mg) (ca := fun _ => none) D5 sc_law_take rd_law_take (tabOf_all (List.forall_mem_cons.mpr ⟨gi_fn (by decide) (mono_upE _) m4 k4 rfl R4 B4, List.forall_mem_nil _⟩)) blt
  have m5 := PySem.W.mg_of X G a5
  have R6 : FnOk l.prog w K mg base (L2.CX l.prog w) 3 f6 _ P_law_number (spF ⟨K, fun _ => none⟩ F_law_number) := fn_rd (base := base) (mg := mg) (ca := fun _ => none) D6 sc_law_number rd_law_number (tabOf_all (List.forall_mem_cons.mpr ⟨gi_fn (by decide) (mono_upE _) m5 k5 rfl R5 B5, List.forall_mem_nil _⟩)) blt
  have m6 := PySem.W.mg_of X G a6
  have R7 : FnOk l.prog w K mg base (L2.CX l.prog w) 1 f7 _ P_law_power (spF ⟨K, fun _ => none⟩ F_law_power) := fn_rd (base := base) (mg := mg) (ca := fun _ => none) D7 sc_law_power rd_law_power (tabOf_all (List.forall_mem_nil _)) blt
  have m7 := PySem.W.mg_of X G a7
  have R8 : FnOk l.prog w K mg base (L2.CX l.prog w) 1 f8 _ P_common_divisor (spF ⟨K, fun _ => none⟩ F_common_divisor) := fn_rd (base := base) (mg := mg) (ca := fun _ => none) D8 sc_common_divisor rd_common_divisor (tabOf_all (List.forall_mem_nil _)) blt
  have m8 := PySem.W.mg_of X G a8
  have R9 : FnOk l.prog w K mg base (L2.CX l.prog w) 2 f9 _ P_common_multiple (spF ⟨K, fun _ => none⟩ F_common_multiple) := fn_rd (base := base) (mg := mg) (ca := fun _ => none) D9 sc_common_multiple rd_common_multiple (tabOf_all (List.forall_mem_cons.mpr ⟨gi_fn (by decide) (mono_upE _) m8 k8 rfl R8 B8, List.forall_mem_nil _⟩)) blt
  have m9 := PySem.W.mg_of X G a9
  have R10 : FnOk l.prog w K mg base (L2.CX l.prog w) 1 f10 _ P_is_whole (spF ⟨K, fun _ => none⟩ F_is_whole) := fn_rd (base := base) (mg := mg) (ca := fun _ => none) D10 sc_is_whole rd_is_whole (tabOf_all (List.forall_mem_nil _)) blt
  have m10 := PySem.W.mg_of X G a10
  have R11 : FnOk l.prog w K mg base (L2.CX l.prog w) 1 f11 _ P_power_of (spF ⟨K, fun _ => none⟩ F_power_of) := fn_rd (base := base) (mg := mg) (ca := fun _ => none) D11 sc_power_of rd_power_of (tabOf_all (List.forall_mem_nil _)) blt
  have m11 := PySem.W.mg_of X G a11
  have R12 : FnOk l.prog w K mg base (L2.CX l.prog w) 4 fa _ P_law (spF ⟨K, fun _ => none⟩ F_law) := fn_rd (base := base) (mg := mg) (ca := fun _ => none) D12 sc_law rd_law (tabOf_all (List.forall_mem_cons.mpr ⟨gi_fn (by decide) (mono_upE _) m0 k0 rfl R0 B0, List.forall_mem_cons.mpr ⟨gi_fn (by decide) (mono_upE _) m1 k1 rfl R1 B1, List.forall_mem_cons.mpr ⟨gi_fn (by decide) (mono_upE _) m3 k3 rfl R3 B3, List.forall_mem_cons.mpr ⟨gi_fn (by decide) (mono_upE _) m6 k6 rfl R6 B6, List.forall_mem_cons.mpr ⟨gi_fn (by decide) (mono_upE _) m7 k7 rfl R7 B7, List.forall_mem_cons.mpr ⟨gi_fn (by decide) (mono_upE _) m5 k5 rfl R5 B5, List.forall_mem_cons.mpr ⟨gi_fn (by decide) (mono_upE _) m2 k2 rfl R2 B2, List.forall_mem_cons.mpr ⟨gi_fn (by decide) (mono_upE _) m8 k8 rfl R8 B8, List.forall_mem_cons.mpr ⟨gi_fn (by decide) (mono_upE _) m9 k9 rfl R9 B9, List.forall_mem_cons.mpr ⟨gi_is_whole D10 m10 k10 R10 (by decide), List.forall_mem_cons.mpr ⟨gi_fn (by decide) (mono_upE _) m11 k11 rfl R11 B11, List.forall_mem_nil _⟩⟩⟩⟩⟩⟩⟩⟩⟩⟩⟩)) blt
  have m12 := PySem.W.mg_of X G a12
  exact law_ok (G := ⟨K, fun _ => none⟩) R12 (fun ns hl => sp_law hl) (mono_upE _)
theorem walk {l : PySem.W.OpenLaw} {q : Program} {loose : List Str} {XP : (Str → Option Value) → Heap → Prop} {YP : World → Heap → Prop} {d : DefRec} {K : Params → PySem.W.Frag} (hn : l.most = some 63) (hdf : d.params.defaults = [])
    (hY : ∀ (w : World) (h : Heap), YP w h → (K w.params).In h)
    (F : ∀ (w : World) (mg : Str → Option Value) (fa : Addr) (h : Heap), (K w.params).In h → h.Ns mainGlobals mg → mg d.name = some (.ref fa) →
      ∃ fd : FuncData, (∀ (s : Shared) (u : Value), BindsTo s fd ⟨[u], []⟩ [("_law_script", u)]) ∧ ∀ base : Heap, (K w.params).In base → base.Ns mainGlobals mg → FnOk l.prog w (K w.params) mg base (L2.CX l.prog w) 4 fa fd ["_law_script"] (spLaw (K w.params))) :
    PySem.W.WalkO q loose XP YP l.row.toRowW d [] (fun f vs => PySem.call f vs) :=
  L2.walk_of (n := 63) (k := 4) (x := "_law_script") (CX := fun w => L2.CX l.prog w) (sp := fun w => spLaw (K w.params)) hn (by decide) hdf ⟨rfl, by decide, by decide⟩ hY F (fun _ _ a ns hl _ hS => ⟨a, ns, rfl, hS, hl, fun _ => rfl⟩) fun _ _ _ _ _ ⟨_, _, _, _, _, _, _, _, _, _, _, _, z⟩ => z
end Kd
open PySem PySem.W PyProof.Rows
theorem PySem.Challenge.cw_sheetproofs_k74_divisors_multiples_and_p_holds : PySem.Challenge.rw_sheetproofs_k74_divisors_multiples_and_p.Holds := by
  w_on; o_law; k_head; (case hw => w_witness2)
  k_fill
  refine Kd.walk (l := PySem.Challenge.rw_sheetproofs_k74_divisors_multiples_and_p) rfl rfl (fun w h Y => PySem.W.kIn_of Y) ?F
  case F =>
    intro w mg fa h KX G hmg
    refine' Kd.all_mk KX G hmg ?a0 ?l0 ?c0 ?k0 ?a1 ?l1 ?c1 ?k1 ?a2 ?l2 ?c2 ?k2 ?a3 ?l3 ?c3 ?k3 ?a4 ?l4 ?c4 ?k4 ?a5 ?l5 ?c5 ?k5 ?a6 ?l6 ?c6 ?k6 ?a7 ?l7 ?c7 ?k7 ?a8 ?l8 ?c8 ?k8 ?a9 ?l9 ?c9 ?k9 ?a10 ?l10 ?q10 ?c10 ?k10 ?a11 ?l11 ?c11 ?k11 ?a12 ?l12 ?c12 ?k12 ?b0 ?b1 ?b2 ?b3 ?b4 ?b5 ?b6 ?b7 ?b8 ?b9 ?b10
    (case a0 => k_is)
    (case l0 => k_is)
    (case c0 => k_is)
    (case k0 => k_is)
    (case a1 => k_is)
    (case l1 => k_is)
    (case c1 => k_is)
    (case k1 => k_is)
    (case a2 => k_is)
    (case l2 => k_is)
    (case c2 => k_is)
    (case k2 => k_is)
    (case a3 => k_is)
    (case l3 => k_is)
    (case c3 => k_is)
    (case k3 => k_is)
    (case a4 => k_is)
    (case l4 => k_is)
    (case c4 => k_is)
    (case k4 => k_is)
    (case a5 => k_is)
    (case l5 => k_is)
    (case c5 => k_is)
    (case k5 => k_is)
    (case a6 => k_is)
    (case l6 => k_is)
    (case c6 => k_is)
    (case k6 => k_is)
    (case a7 => k_is)
    (case l7 => k_is)
    (case c7 => k_is)
    (case k7 => k_is)
    (case a8 => k_is)
    (case l8 => k_is)
    (case c8 => k_is)
    (case k8 => k_is)
    (case a9 => k_is)
    (case l9 => k_is)
    (case c9 => k_is)
    (case k9 => k_is)
    (case a10 => k_is)
    (case l10 => k_is)
    (case q10 => k_is)
    (case c10 => k_is)
    (case k10 => k_is)
    (case a11 => k_is)
    (case l11 => k_is)
    (case c11 => k_is)
    (case k11 => k_is)
    (case a12 => k_is)
    (case l12 => k_is)
    (case c12 => k_is)
    (case k12 => k_is)
    (case b0 => k_is)
    (case b1 => k_is)
    (case b2 => k_is)
    (case b3 => k_is)
    (case b4 => k_is)
    (case b5 => k_is)
    (case b6 => k_is)
    (case b7 => k_is)
    (case b8 => k_is)
    (case b9 => k_is)
    (case b10 => k_is)


